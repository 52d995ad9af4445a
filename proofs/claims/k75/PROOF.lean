import PyProof.Rows.All
import Wide.All
import OpenK.AllK
import Wide.FinOn
import KE.KStateDown
import HandS.Head0
import HandS.Head1
import HandS.Head2
import HandS.HeadEnd
import HandS.HeadHook1
import HandS.HeadHook2
import PyProof.MaxThree
import HandS.ForMost
import HandS.Style
import HandS.NoneIn
import HandS.Wide
import HandS.WideBits
import HandS.IsInst
import HandS.OwnEq
import HandS.Defaults
import PySem.Challenge.RW_curveheads_k75_whole_slopes_or_none
set_option Elab.async false
section
set_option Elab.async false
set_option linter.all false
set_option maxRecDepth 100000
set_option maxHeartbeats 0
namespace KH
open PySem PySem.Spec PyProof.Rows L2
def top (i : Nat) : Stmt := PySem.Challenge.pw_curveheads_k75_whole_slopes_or_none.main.body.getD i (.Pass ⟨0, 0, 0, 0⟩)
/-- a class statement's body -/
def clsBody : Stmt → List Stmt
  | .ClassDef _ _ _ b _ _ _ _ _ _ _ => b
  | _ => []
def mth (i j : Nat) : Stmt := (clsBody (top i)).getD j (.Pass ⟨0, 0, 0, 0⟩)
def d_A_c_is_whole : He.DefD := ⟨("is_whole", none), "is_whole", "is_whole", defArgs (top 12), defBody (top 12), defScope (top 12), [], []⟩
def d_A_c_is_between : He.DefD := ⟨("is_between", none), "is_between", "is_between", defArgs (top 13), defBody (top 13), defScope (top 13), [], []⟩
def d_A_c_check_number : He.DefD := ⟨("check_number", none), "check_number", "check_number", defArgs (top 14), defBody (top 14), defScope (top 14), [], []⟩
def d_A_c_check_prime : He.DefD := ⟨("check_prime", none), "check_prime", "check_prime", defArgs (top 15), defBody (top 15), defScope (top 15), [], []⟩
def d_A_c_is_poly_list : He.DefD := ⟨("is_poly_list", none), "is_poly_list", "is_poly_list", defArgs (top 16), defBody (top 16), defScope (top 16), [], []⟩
def d_A_c_check_poly : He.DefD := ⟨("check_poly", none), "check_poly", "check_poly", defArgs (top 17), defBody (top 17), defScope (top 17), [], []⟩
def d_A_c_inverse : He.DefD := ⟨("inverse", none), "inverse", "inverse", defArgs (top 18), defBody (top 18), defScope (top 18), [], []⟩
def d_A_c_trimmed : He.DefD := ⟨("trimmed", none), "trimmed", "trimmed", defArgs (top 19), defBody (top 19), defScope (top 19), [], []⟩
def d_A_c_added : He.DefD := ⟨("added", none), "added", "added", defArgs (top 20), defBody (top 20), defScope (top 20), [], []⟩
def d_A_c_negated : He.DefD := ⟨("negated", none), "negated", "negated", defArgs (top 21), defBody (top 21), defScope (top 21), [], []⟩
def d_A_c_lessened : He.DefD := ⟨("lessened", none), "lessened", "lessened", defArgs (top 22), defBody (top 22), defScope (top 22), [], []⟩
def d_A_c_scaled : He.DefD := ⟨("scaled", none), "scaled", "scaled", defArgs (top 23), defBody (top 23), defScope (top 23), [], []⟩
def d_A_c_multiplied : He.DefD := ⟨("multiplied", none), "multiplied", "multiplied", defArgs (top 24), defBody (top 24), defScope (top 24), [], []⟩
def d_A_c_power_of_polys : He.DefD := ⟨("power_of_polys", none), "power_of", "power_of", defArgs (top 25), defBody (top 25), defScope (top 25), [], []⟩
def d_A_c_parted : He.DefD := ⟨("parted", none), "parted", "parted", defArgs (top 27), defBody (top 27), defScope (top 27), [], []⟩
def d_A_c_whole_part : He.DefD := ⟨("whole_part", none), "whole_part", "whole_part", defArgs (top 28), defBody (top 28), defScope (top 28), [], []⟩
def d_A_c_common_with : He.DefD := ⟨("common_with", none), "common_with", "common_with", defArgs (top 29), defBody (top 29), defScope (top 29), [], []⟩
def d_A_c_common_of : He.DefD := ⟨("common_of", none), "common_of", "common_of", defArgs (top 30), defBody (top 30), defScope (top 30), [], []⟩
def d_A_c_slope_of : He.DefD := ⟨("slope_of", none), "slope_of", "slope_of", defArgs (top 31), defBody (top 31), defScope (top 31), [], []⟩
def d_A_c_is_curve_poly : He.DefD := ⟨("is_curve_poly", none), "is_curve_poly", "is_curve_poly", defArgs (top 34), defBody (top 34), defScope (top 34), [], []⟩
def d_A_c_every : He.DefD := ⟨("every", none), "every", "every", defArgs (top 58), defBody (top 58), defScope (top 58), [], []⟩
def d_A_c_stretched : He.DefD := ⟨("stretched", none), "stretched", "stretched", defArgs (top 61), defBody (top 61), defScope (top 61), [], []⟩
def d_A_c_raised_source : He.DefD := ⟨("raised_source", none), "raised_source", "raised_source", defArgs (top 68), defBody (top 68), defScope (top 68), [], []⟩
def d_A_c_least_parts : He.DefD := ⟨("least_parts", none), "least_parts", "least_parts", defArgs (top 38), defBody (top 38), defScope (top 38), [], []⟩
def d_A_c_made : He.DefD := ⟨("made", none), "made", "made", defArgs (top 39), defBody (top 39), defScope (top 39), [], []⟩
def d_A_c_parts_of : He.DefD := ⟨("parts_of", none), "parts_of", "parts_of", defArgs (top 40), defBody (top 40), defScope (top 40), [], []⟩
def d_A_c_is_nought : He.DefD := ⟨("is_nought", none), "is_nought", "is_nought", defArgs (top 41), defBody (top 41), defScope (top 41), [], []⟩
def d_A_c_plus : He.DefD := ⟨("plus", none), "plus", "plus", defArgs (top 42), defBody (top 42), defScope (top 42), [], []⟩
def d_A_c_opposite : He.DefD := ⟨("opposite", none), "opposite", "opposite", defArgs (top 43), defBody (top 43), defScope (top 43), [], []⟩
def d_A_c_minus : He.DefD := ⟨("minus", none), "minus", "minus", defArgs (top 44), defBody (top 44), defScope (top 44), [], []⟩
def d_A_c_times : He.DefD := ⟨("times", none), "times", "times", defArgs (top 45), defBody (top 45), defScope (top 45), [], []⟩
def d_A_c_slope_by : He.DefD := ⟨("slope_by", none), "slope_by", "slope_by", defArgs (top 49), defBody (top 49), defScope (top 49), [], []⟩
def d_A_c_tops_over : He.DefD := ⟨("tops_over", none), "tops_over", "tops_over", defArgs (top 59), defBody (top 59), defScope (top 59), [], []⟩
def d_A_c_parts_by : He.DefD := ⟨("parts_by", none), "parts_by", "parts_by", defArgs (top 60), defBody (top 60), defScope (top 60), [], []⟩
def d_A_c_descent_by : He.DefD := ⟨("descent_by", none), "descent_by", "descent_by", defArgs (top 64), defBody (top 64), defScope (top 64), [], []⟩
def d_A_c_slope_source : He.DefD := ⟨("slope_source", none), "slope_source", "slope_source", defArgs (top 67), defBody (top 67), defScope (top 67), [], []⟩
def d_A_c_check_function : He.DefD := ⟨("check_function", none), "check_function", "check_function", defArgs (top 50), defBody (top 50), defScope (top 50), [], []⟩
def d_A_c_back_of : He.DefD := ⟨("back_of", none), "back_of", "back_of", defArgs (top 47), defBody (top 47), defScope (top 47), [], []⟩
def d_A_c_raised_to : He.DefD := ⟨("raised_to", none), "raised_to", "raised_to", defArgs (top 48), defBody (top 48), defScope (top 48), [], []⟩
def d_A_c_check_both : He.DefD := ⟨("check_both", none), "check_both", "check_both", defArgs (top 51), defBody (top 51), defScope (top 51), [], []⟩
def d_A_c_sum_of : He.DefD := ⟨("sum_of", none), "sum_of", "sum_of", defArgs (top 52), defBody (top 52), defScope (top 52), [], []⟩
def d_A_c_less_of : He.DefD := ⟨("less_of", none), "less_of", "less_of", defArgs (top 53), defBody (top 53), defScope (top 53), [], []⟩
def d_A_c_power_of_functions : He.DefD := ⟨("power_of_functions", none), "power_of", "power_of", defArgs (top 54), defBody (top 54), defScope (top 54), [], []⟩
def d_A_c_slope : He.DefD := ⟨("slope", none), "slope", "slope", defArgs (top 56), defBody (top 56), defScope (top 56), [], []⟩
def d_A_c_parts : He.DefD := ⟨("parts", none), "parts", "parts", defArgs (top 62), defBody (top 62), defScope (top 62), [], []⟩
def d_A_c_descent : He.DefD := ⟨("descent", none), "descent", "descent", defArgs (top 65), defBody (top 65), defScope (top 65), [], []⟩
def d_A_c_whose_slope : He.DefD := ⟨("whose_slope", none), "whose_slope", "whose_slope", defArgs (top 69), defBody (top 69), defScope (top 69), [], []⟩
def d_A_c__law_hash : He.DefD := ⟨("_law_hash", none), "_law_hash", "_law_hash", defArgs (top 71), defBody (top 71), defScope (top 71), [], []⟩
def d_A_c__law_cell : He.DefD := ⟨("_law_cell", none), "_law_cell", "_law_cell", defArgs (top 73), defBody (top 73), defScope (top 73), [], []⟩
def d_A_c__law_trim : He.DefD := ⟨("_law_trim", none), "_law_trim", "_law_trim", defArgs (top 75), defBody (top 75), defScope (top 75), [], []⟩
def d_A_c__law_add : He.DefD := ⟨("_law_add", none), "_law_add", "_law_add", defArgs (top 76), defBody (top 76), defScope (top 76), [], []⟩
def d_A_c__law_fall : He.DefD := ⟨("_law_fall", none), "_law_fall", "_law_fall", defArgs (top 83), defBody (top 83), defScope (top 83), [], []⟩
def d_A_c__law_scale : He.DefD := ⟨("_law_scale", none), "_law_scale", "_law_scale", defArgs (top 77), defBody (top 77), defScope (top 77), [], []⟩
def d_A_c__law_mul : He.DefD := ⟨("_law_mul", none), "_law_mul", "_law_mul", defArgs (top 78), defBody (top 78), defScope (top 78), [], []⟩
def d_A_c__law_power : He.DefD := ⟨("_law_power", none), "_law_power", "_law_power", defArgs (top 79), defBody (top 79), defScope (top 79), [], []⟩
def d_A_c__law_back : He.DefD := ⟨("_law_back", none), "_law_back", "_law_back", defArgs (top 80), defBody (top 80), defScope (top 80), [], []⟩
def d_A_c__law_rest : He.DefD := ⟨("_law_rest", none), "_law_rest", "_law_rest", defArgs (top 81), defBody (top 81), defScope (top 81), [], []⟩
def d_A_c__law_whole : He.DefD := ⟨("_law_whole", none), "_law_whole", "_law_whole", defArgs (top 93), defBody (top 93), defScope (top 93), [], []⟩
def d_A_c__law_common : He.DefD := ⟨("_law_common", none), "_law_common", "_law_common", defArgs (top 82), defBody (top 82), defScope (top 82), [], []⟩
def d_A_c__law_of : He.DefD := ⟨("_law_of", none), "_law_of", "_law_of", defArgs (top 86), defBody (top 86), defScope (top 86), [], []⟩
def d_A_c__law_made : He.DefD := ⟨("_law_made", none), "_law_made", "_law_made", defArgs (top 88), defBody (top 88), defScope (top 88), [], []⟩
def d_A_c__law_seen : He.DefD := ⟨("_law_seen", none), "_law_seen", "_law_seen", defArgs (top 89), defBody (top 89), defScope (top 89), [], []⟩
def d_A_c__law_nought : He.DefD := ⟨("_law_nought", none), "_law_nought", "_law_nought", defArgs (top 90), defBody (top 90), defScope (top 90), [], []⟩
def d_A_c__law_same : He.DefD := ⟨("_law_same", none), "_law_same", "_law_same", defArgs (top 91), defBody (top 91), defScope (top 91), [], []⟩
def d_A_c__law_least : He.DefD := ⟨("_law_least", none), "_law_least", "_law_least", defArgs (top 92), defBody (top 92), defScope (top 92), [], []⟩
def d_A_c__law_slope : He.DefD := ⟨("_law_slope", none), "_law_slope", "_law_slope", defArgs (top 94), defBody (top 94), defScope (top 94), [], []⟩
def d_A_c__law_parts : He.DefD := ⟨("_law_parts", none), "_law_parts", "_law_parts", defArgs (top 95), defBody (top 95), defScope (top 95), [], []⟩
def d_A_c__law_poly : He.DefD := ⟨("_law_poly", none), "_law_poly", "_law_poly", defArgs (top 84), defBody (top 84), defScope (top 84), [], []⟩
def d_A_c__law_curve : He.DefD := ⟨("_law_curve", none), "_law_curve", "_law_curve", defArgs (top 85), defBody (top 85), defScope (top 85), [], []⟩
def d_A_c__law_triple : He.DefD := ⟨("_law_triple", none), "_law_triple", "_law_triple", defArgs (top 87), defBody (top 87), defScope (top 87), [], []⟩
def d_A_c__law_asked : He.DefD := ⟨("_law_asked", none), "_law_asked", "_law_asked", defArgs (top 96), defBody (top 96), defScope (top 96), [], []⟩
def d_A_c__law_right : He.DefD := ⟨("_law_right", none), "_law_right", "_law_right", defArgs (top 97), defBody (top 97), defScope (top 97), [], []⟩
def d_A_c__law_random : He.DefD := ⟨("_law_random", none), "_law_random", "_law_random", defArgs (top 72), defBody (top 72), defScope (top 72), [], []⟩
def d_A_g__law_generator : He.DefD := ⟨("_law_generator", none), "_law_generator", "_law_generator", defArgs (top 74), defBody (top 74), defScope (top 74), [], []⟩
def d_A_m_prime : He.DefD := ⟨("Curve", some "prime"), "prime", "Curve.prime", defArgs (mth 33 1), defBody (mth 33 1), defScope (mth 33 1), [], []⟩
def d_A_m_polynomial : He.DefD := ⟨("Curve", some "polynomial"), "polynomial", "Curve.polynomial", defArgs (mth 33 2), defBody (mth 33 2), defScope (mth 33 2), [], []⟩
def d_A_m_curve : He.DefD := ⟨("Function", some "curve"), "curve", "Function.curve", defArgs (mth 37 1), defBody (mth 37 1), defScope (mth 37 1), [], []⟩
def d_A_m_top : He.DefD := ⟨("Function", some "top"), "top", "Function.top", defArgs (mth 37 2), defBody (mth 37 2), defScope (mth 37 2), [], []⟩
def d_A_m_side : He.DefD := ⟨("Function", some "side"), "side", "Function.side", defArgs (mth 37 3), defBody (mth 37 3), defScope (mth 37 3), [], []⟩
def d_A_m_bottom : He.DefD := ⟨("Function", some "bottom"), "bottom", "Function.bottom", defArgs (mth 37 4), defBody (mth 37 4), defScope (mth 37 4), [], []⟩
def d_A_q_C : He.DefD := ⟨("Curve", some "__eq__"), "__eq__", "Curve.__eq__", defArgs (mth 33 4), defBody (mth 33 4), defScope (mth 33 4), [], []⟩
def d_A_q_F : He.DefD := ⟨("Function", some "__eq__"), "__eq__", "Function.__eq__", defArgs (mth 37 5), defBody (mth 37 5), defScope (mth 37 5), [], []⟩
def d_A_n_Curve : He.DefD := ⟨("Curve", some "__init__"), "__init__", "Curve.__init__", defArgs (mth 33 0), defBody (mth 33 0), defScope (mth 33 0), [], []⟩
def d_A_n_Function : He.DefD := ⟨("Function", some "__init__"), "__init__", "Function.__init__", defArgs (mth 37 0), defBody (mth 37 0), defScope (mth 37 0), [], []⟩
def d_law : He.DefD := ⟨("law", none), "law", "law", defArgs (top 98), defBody (top 98), defScope (top 98), [], []⟩
def fn0 : List He.DefD := [d_A_c_is_whole, d_A_c_is_between, d_A_c_check_number, d_A_c_check_prime, d_A_c_is_poly_list, d_A_c_check_poly, d_A_c_inverse, d_A_c_trimmed, d_A_c_added, d_A_c_negated, d_A_c_lessened, d_A_c_scaled, d_A_c_multiplied, d_A_c_power_of_polys, d_A_c_parted]
def fn1 : List He.DefD := [d_A_c_whole_part, d_A_c_common_with, d_A_c_common_of, d_A_c_slope_of, d_A_c_is_curve_poly, d_A_c_every, d_A_c_stretched, d_A_c_raised_source, d_A_c_least_parts, d_A_c_made, d_A_c_parts_of, d_A_c_is_nought, d_A_c_plus, d_A_c_opposite, d_A_c_minus]
def fn2 : List He.DefD := [d_A_c_times, d_A_c_slope_by, d_A_c_tops_over, d_A_c_parts_by, d_A_c_descent_by, d_A_c_slope_source, d_A_c_check_function, d_A_c_back_of, d_A_c_raised_to, d_A_c_check_both, d_A_c_sum_of, d_A_c_less_of, d_A_c_power_of_functions, d_A_c_slope, d_A_c_parts]
def fn3 : List He.DefD := [d_A_c_descent, d_A_c_whose_slope, d_A_c__law_hash, d_A_c__law_cell, d_A_c__law_trim, d_A_c__law_add, d_A_c__law_fall, d_A_c__law_scale, d_A_c__law_mul, d_A_c__law_power, d_A_c__law_back, d_A_c__law_rest, d_A_c__law_whole, d_A_c__law_common, d_A_c__law_of]
def fn4 : List He.DefD := [d_A_c__law_made, d_A_c__law_seen, d_A_c__law_nought, d_A_c__law_same, d_A_c__law_least, d_A_c__law_slope, d_A_c__law_parts, d_A_c__law_poly, d_A_c__law_curve, d_A_c__law_triple, d_A_c__law_asked, d_A_c__law_right, d_A_c__law_random, d_A_g__law_generator, d_A_m_prime]
def fn5 : List He.DefD := [d_A_m_polynomial, d_A_m_curve, d_A_m_top, d_A_m_side, d_A_m_bottom, d_A_q_C, d_A_q_F, d_A_n_Curve, d_A_n_Function, d_law]
def fn : List He.DefD := fn0 ++ (fn1 ++ (fn2 ++ (fn3 ++ (fn4 ++ (fn5)))))
def fa0 : List He.Fa := [.glo "is_whole", .glo "is_between", .glo "check_number", .glo "check_prime", .glo "is_poly_list", .glo "check_poly", .glo "inverse", .glo "trimmed", .glo "added", .glo "negated", .glo "lessened", .glo "scaled", .glo "multiplied", .glo "power_of_polys", .glo "parted"]
def fa1 : List He.Fa := [.glo "whole_part", .glo "common_with", .glo "common_of", .glo "slope_of", .glo "is_curve_poly", .glo "every", .glo "stretched", .glo "raised_source", .glo "least_parts", .glo "made", .glo "parts_of", .glo "is_nought", .glo "plus", .glo "opposite", .glo "minus"]
def fa2 : List He.Fa := [.glo "times", .glo "slope_by", .glo "tops_over", .glo "parts_by", .glo "descent_by", .glo "slope_source", .glo "check_function", .glo "back_of", .glo "raised_to", .glo "check_both", .glo "sum_of", .glo "less_of", .glo "power_of_functions", .glo "slope", .glo "parts"]
def fa3 : List He.Fa := [.glo "descent", .glo "whose_slope", .glo "_law_hash", .glo "_law_cell", .glo "_law_trim", .glo "_law_add", .glo "_law_fall", .glo "_law_scale", .glo "_law_mul", .glo "_law_power", .glo "_law_back", .glo "_law_rest", .glo "_law_whole", .glo "_law_common", .glo "_law_of"]
def fa4 : List He.Fa := [.glo "_law_made", .glo "_law_seen", .glo "_law_nought", .glo "_law_same", .glo "_law_least", .glo "_law_slope", .glo "_law_parts", .glo "_law_poly", .glo "_law_curve", .glo "_law_triple", .glo "_law_asked", .glo "_law_right", .glo "_law_random", .glo "_law_generator", .meth "Curve" "prime"]
def fa5 : List He.Fa := [.meth "Curve" "polynomial", .meth "Function" "curve", .meth "Function" "top", .meth "Function" "side", .meth "Function" "bottom", .meth "Curve" "__eq__", .meth "Function" "__eq__", .glo "law", .free "int", .free "bool", .free "list", .free "len", .free "range", .free "enumerate", .free "max"]
def fa6 : List He.Fa := [.free "min", .free "abs", .free "repr", .free "sum", .free "isinstance", .int "MOST_POWER" 60, .int "MOST_EXPONENT" 20, .glo "PRIMES", .glo "Curve", .glo "Function", .cls "Curve", .cls "Function", .noat "Curve" "_prime", .noat "Curve" "_polynomial", .noat "Function" "_curve"]
def fa7 : List He.Fa := [.noat "Function" "_parts", .mkr "Curve", .mkr "Function"]
def fa : List He.Fa := fa0 ++ (fa1 ++ (fa2 ++ (fa3 ++ (fa4 ++ (fa5 ++ (fa6 ++ (fa7)))))))
def loose0 : List PySem.Str := ["_wall", "CurveError", "InvalidPrime", "InvalidPolynomial", "InvalidNumber", "InvalidCurve", "InvalidFunction", "Unlike", "PRIMES", "MOST_POWER", "is_whole", "is_between", "check_number", "check_prime", "is_poly_list"]
def loose1 : List PySem.Str := ["check_poly", "inverse", "trimmed", "added", "negated", "lessened", "scaled", "multiplied", "power_of", "power_of_polys", "parted", "whole_part", "common_with", "common_of", "slope_of"]
def loose2 : List PySem.Str := ["Curve", "is_curve_poly", "MOST_EXPONENT", "Function", "least_parts", "made", "parts_of", "is_nought", "plus", "opposite", "minus", "times", "norm_top", "back_of", "raised_to"]
def loose3 : List PySem.Str := ["slope_by", "check_function", "check_both", "sum_of", "less_of", "power_of_functions", "slope", "every", "tops_over", "parts_by", "stretched", "parts", "descent_by", "descent", "slope_source"]
def loose4 : List PySem.Str := ["raised_source", "whose_slope", "_law_hash", "_law_random", "_law_cell", "_law_generator", "_law_trim", "_law_add", "_law_scale", "_law_mul", "_law_power", "_law_back", "_law_rest", "_law_common", "_law_fall"]
def loose5 : List PySem.Str := ["_law_poly", "_law_curve", "_law_of", "_law_triple", "_law_made", "_law_seen", "_law_nought", "_law_same", "_law_least", "_law_whole", "_law_slope", "_law_parts", "_law_asked", "_law_right"]
def loose : List PySem.Str := loose0 ++ (loose1 ++ (loose2 ++ (loose3 ++ (loose4 ++ (loose5)))))
def insB (K : PySem.W.Frag) (C : Addr) : Bool := He.eqO (PySem.W.findIn K (.ref C) "__class__") (some (some (.builtin "object.__class__"))) && (decide (PySem.W.specialIn K (.builtin "object.__class__") "__get__" = some (some (.builtin "getset_descriptor.__get__"))) &&
  (decide (PySem.W.takesIn K (.builtin "object.__class__") = some true) && (decide (PySem.W.mroIn K C (.type "object") = some true) && decide (PySem.W.kitOne K (.ref C) (.ref C) = some true))))
def exB (K : PySem.W.Frag) : Bool := He.tupB K "PRIMES" [.int 3, .int 5, .int 7, .int 11, .int 13] && (insB K (He.ga K "Curve") && insB K (He.ga K "Function"))
/-! the part of the heap that is looked at -/
def rfF (g : Addr → Option Obj) (a : Addr) : List Addr := match g a with
  | some ⟨_, _, .func fd, _⟩ => He.refV fd.code
  | some ⟨_, _, .cls cd, _⟩ => [cd.ns]
  | _ => []
def rfD (g : Addr → Option Obj) (a : Addr) : List Addr := match g a with
  | some ⟨_, _, .dict es _, _⟩ => es.toList.flatMap fun e => He.refV e.val
  | _ => []
def asL (g : Addr → Option Obj) : List Addr :=
  let l1 := rfD g mainGlobals
  let l2 := l1.flatMap (rfF g)
  let l3 := l2.flatMap (rfD g)
  mainGlobals :: (l1 ++ (l2 ++ (l3 ++ l3.flatMap (rfF g))))
abbrev AlK : Type := He.AlD × Bool
def obsK (K : PySem.W.Frag) : AlK := (He.obsD fa fn K, exB K)
def valK : AlK := (He.valD fn, true)
def obsL (g : Addr → Option Obj) : AlK := obsK (He.frG g (asL g))
structure SaysK (K : PySem.W.Frag) : Prop where
  d : He.SaysD fa fn K
  e : exB K = true
def hkK : PySem.W.Hook where
  α := AlK
  obs := fun s => obsL s.heap.get?
  val := fun _ => valK
  says := fun _ h => ∃ K : PySem.W.Frag, K.In h ∧ SaysK K
  of := fun _ _ e => ⟨_, He.frG_in, congrArg (fun z : AlK => z.1) e, congrArg (fun z : AlK => z.2) e⟩
  keeps := fun _ _ _ ⟨K, hK, c⟩ k => ⟨K, PySem.W.Frag.In.keeps hK k, c⟩
def obT (s : PySem.W.SharedT) : AlK := obsL (HandSHeadRun.getT s)
theorem obT_eq (s : PySem.W.SharedT) : obT s = hkK.obs s.abs := by
  have e : HandSHeadRun.getT s = s.abs.heap.get? := funext (HandSHeadRun.getT_eq s)
  show obsL (HandSHeadRun.getT s) = obsL s.abs.heap.get?
  rw [e]
abbrev RR : PySem.W.OpenRow := PySem.W.OpenLaw.row PySem.Challenge.rw_curveheads_k75_whole_slopes_or_none
theorem run (w : World) : HandSHeadRun.RunEq RR (PySem.W.view RR.prog [98]) hkK obT 6000 loose w := by
  intro os
  kernel_rfl
end KH
end
section
set_option Elab.async false
set_option maxRecDepth 100000
set_option linter.all false
/-! Data over the hand layer: what a value stands for (D), worlds (Hs: what stands still, H: all), readings that speak of data alone. -/
namespace DL
open PySem PySem.Spec PyProof.Rows L2
inductive D where
  | non | bl (b : Bool) | int (i : Int) | str (s : Str)
  | lst (xs : List D) | tup (xs : List D)
  | crv (p : Int) (f : List Int)
  | fnc (p : Int) (f a b c : List Int)
  | gen
  | scr (ns : List Int)
/-- a list of ints -/
abbrev L (xs : List Int) : D := .lst (xs.map .int)
theorem L_inj {a b : List Int} (h : L a = L b) : a = b := by
  unfold L at h
  injection h with h
  have : ∀ a b : List Int, a.map D.int = b.map D.int → a = b := by
    intro a
    induction a with
    | nil => intro b h; cases b with
      | nil => rfl
      | cons => simp at h
    | cons x r ih => intro b h; cases b with
      | nil => simp at h
      | cons y s => simp at h; obtain ⟨h1, h2⟩ := h; rw [h1, ih s h2]
  exact this a b h
@[simp] theorem L_eq {a b : List Int} : (L a = L b) = (a = b) := propext ⟨L_inj, fun h => by rw [h]⟩
/-- the frame's constants: the written part, the classes' addresses, the generator's address -/
structure Wr where
  K : PySem.W.Frag
  C : Addr
  F : Addr
  g : Option Addr
def CrvAt (c : Wr) (H : Hp) (a : Addr) (p : Int) (f : List Int) : Prop :=
  ∃ dx l, H a = some (.ins c.C dx [("_prime", .int p), ("_polynomial", .ref l)]) ∧ H l = some (.lst (f.map V.int))
def FncAt (c : Wr) (H : Hp) (a : Addr) (p : Int) (f x y z : List Int) : Prop :=
  ∃ dx cu pl x1 x2 x3, H a = some (.ins c.F dx [("_curve", .ref cu), ("_parts", .ref pl)]) ∧ CrvAt c H cu p f ∧ H pl = some (.lst [.ref x1, .ref x2, .ref x3]) ∧
    H x1 = some (.lst (x.map V.int)) ∧ H x2 = some (.lst (y.map V.int)) ∧ H x3 = some (.lst (z.map V.int))
mutual
def Rep (c : Wr) (H : Hp) : D → V → Prop
  | .non, v => v = .non
  | .bl b, v => v = .bl b
  | .int i, v => v = .int i
  | .str s, v => v = .str s
  | .lst ds, v => ∃ a vs, v = .ref a ∧ H a = some (.lst vs) ∧ RepL c H ds vs
  | .tup ds, v => ∃ a vs, v = .ref a ∧ SqT c.K H a vs ∧ RepL c H ds vs
  | .crv p f, v => ∃ a, v = .ref a ∧ CrvAt c H a p f
  | .fnc p f x y z, v => ∃ a, v = .ref a ∧ FncAt c H a p f x y z
  | .gen, v => ∃ a, v = .ref a ∧ c.g = some a
  | .scr ns, v => ∃ a, v = .ref a ∧ SqL c.K H a (ns.map V.int)
def RepL (c : Wr) (H : Hp) : List D → List V → Prop
  | [], vs => vs = []
  | d :: ds, vs => ∃ v r, vs = v :: r ∧ Rep c H d v ∧ RepL c H ds r
end
def Sub (H H' : Hp) : Prop := ∀ b o, H b = some o → H' b = some o
theorem Sub.rfl {H : Hp} : Sub H H := fun _ _ h => h
theorem Sub.trans {H H1 H2 : Hp} (a : Sub H H1) (b : Sub H1 H2) : Sub H H2 := fun c o h => b c o (a c o h)
theorem Sub.seqL {K : PySem.W.Frag} {H H' : Hp} {a : Addr} {xs : List V} (e : Sub H H') (h : SqL K H a xs) : SqL K H' a xs := Same.seq e h
theorem Sub.seqT {K : PySem.W.Frag} {H H' : Hp} {a : Addr} {xs : List V} (e : Sub H H') (h : SqT K H a xs) : SqT K H' a xs := by
  rcases h with (h | ⟨o, h⟩) | h
  · exact .inl (.inl (e _ _ h))
  · exact .inl (.inr ⟨o, e _ _ h⟩)
  · exact .inr h
theorem CrvAt.mono {c : Wr} {H H' : Hp} {a : Addr} {p : Int} {f : List Int} (e : Sub H H') (h : CrvAt c H a p f) : CrvAt c H' a p f := by
  obtain ⟨dx, l, h1, h2⟩ := h
  exact ⟨dx, l, e _ _ h1, e _ _ h2⟩
theorem FncAt.mono {c : Wr} {H H' : Hp} {a : Addr} {p : Int} {f x y z : List Int} (e : Sub H H') (h : FncAt c H a p f x y z) : FncAt c H' a p f x y z := by
  obtain ⟨dx, cu, pl, x1, x2, x3, h1, h2, h3, h4, h5, h6⟩ := h
  exact ⟨dx, cu, pl, x1, x2, x3, e _ _ h1, h2.mono e, e _ _ h3, e _ _ h4, e _ _ h5, e _ _ h6⟩
mutual
theorem Rep.mono {c : Wr} {H H' : Hp} (e : Sub H H') : ∀ (d : D) (v : V), Rep c H d v → Rep c H' d v
  | .non, _, h => h
  | .bl _, _, h => h
  | .int _, _, h => h
  | .str _, _, h => h
  | .lst ds, _, h => by
    simp only [Rep] at h ⊢
    obtain ⟨a, vs, h1, h2, h3⟩ := h
    exact ⟨a, vs, h1, e _ _ h2, RepL.mono e ds vs h3⟩
  | .tup ds, _, h => by
    simp only [Rep] at h ⊢
    obtain ⟨a, vs, h1, h2, h3⟩ := h
    exact ⟨a, vs, h1, e.seqT h2, RepL.mono e ds vs h3⟩
  | .crv p f, _, h => by
    simp only [Rep] at h ⊢
    obtain ⟨a, h1, h2⟩ := h
    exact ⟨a, h1, h2.mono e⟩
  | .fnc p f x y z, _, h => by
    simp only [Rep] at h ⊢
    obtain ⟨a, h1, h2⟩ := h
    exact ⟨a, h1, h2.mono e⟩
  | .gen, _, h => h
  | .scr ns, _, h => by
    simp only [Rep] at h ⊢
    obtain ⟨a, h1, h2⟩ := h
    exact ⟨a, h1, e.seqL h2⟩
theorem RepL.mono {c : Wr} {H H' : Hp} (e : Sub H H') : ∀ (ds : List D) (vs : List V), RepL c H ds vs → RepL c H' ds vs
  | [], _, h => h
  | d :: ds, _, h => by
    simp only [RepL] at h ⊢
    obtain ⟨v, r, h1, h2, h3⟩ := h
    exact ⟨v, r, h1, Rep.mono e d v h2, RepL.mono e ds r h3⟩
end
theorem RepL.length {c : Wr} {H : Hp} : ∀ {ds : List D} {vs : List V}, RepL c H ds vs → vs.length = ds.length
  | [], _, h => by simp only [RepL] at h; rw [h]; rfl
  | d :: ds, _, h => by
    simp only [RepL] at h
    obtain ⟨v, r, rfl, _, h3⟩ := h
    simp [RepL.length h3]
theorem RepL.get {c : Wr} {H : Hp} : ∀ {ds : List D} {vs : List V} {i : Nat} {d : D}, RepL c H ds vs → ds[i]? = some d → ∃ v, vs[i]? = some v ∧ Rep c H d v
  | [], _, _, _, _, e => by simp at e
  | d :: ds, _, 0, _, h, e => by
    simp only [RepL] at h
    obtain ⟨v, r, rfl, h2, _⟩ := h
    simp at e; subst e
    exact ⟨v, by simp, h2⟩
  | d :: ds, _, i + 1, _, h, e => by
    simp only [RepL] at h
    obtain ⟨v, r, rfl, _, h3⟩ := h
    simp at e
    obtain ⟨w, h4, h5⟩ := RepL.get h3 e
    exact ⟨w, by simpa using h4, h5⟩
theorem RepL.append {c : Wr} {H : Hp} : ∀ {ds es : List D} {vs us : List V}, RepL c H ds vs → RepL c H es us → RepL c H (ds ++ es) (vs ++ us)
  | [], _, _, _, h, h' => by simp only [RepL] at h; subst h; exact h'
  | d :: ds, _, _, _, h, h' => by
    simp only [RepL, List.cons_append] at h ⊢
    obtain ⟨v, r, rfl, h2, h3⟩ := h
    exact ⟨v, r ++ _, rfl, h2, RepL.append h3 h'⟩
theorem RepL.one {c : Wr} {H : Hp} {d : D} {v : V} (h : Rep c H d v) : RepL c H [d] [v] := by
  simp only [RepL]
  exact ⟨v, [], rfl, h, rfl⟩
theorem RepL.take {c : Wr} {H : Hp} : ∀ (n : Nat) {ds : List D} {vs : List V}, RepL c H ds vs → RepL c H (ds.take n) (vs.take n)
  | 0, _, _, _ => by simp only [List.take_zero, RepL]
  | n + 1, [], _, h => by simp only [RepL] at h; subst h; simp only [List.take_nil, RepL]
  | n + 1, d :: ds, _, h => by
    simp only [RepL] at h
    obtain ⟨v, r, rfl, h2, h3⟩ := h
    simp only [List.take_succ_cons, RepL]
    exact ⟨v, _, rfl, h2, RepL.take n h3⟩
theorem RepL.drop {c : Wr} {H : Hp} : ∀ (n : Nat) {ds : List D} {vs : List V}, RepL c H ds vs → RepL c H (ds.drop n) (vs.drop n)
  | 0, _, _, h => h
  | n + 1, [], _, h => by simp only [RepL] at h; subst h; simp only [List.drop_nil, RepL]
  | n + 1, d :: ds, _, h => by
    simp only [RepL] at h
    obtain ⟨v, r, rfl, h2, h3⟩ := h
    simp only [List.drop_succ_cons]
    exact RepL.drop n h3
theorem RepL.set {c : Wr} {H : Hp} {d : D} {v : V} (hd : Rep c H d v) : ∀ (i : Nat) {ds : List D} {vs : List V}, RepL c H ds vs → RepL c H (ds.set i d) (vs.set i v)
  | _, [], _, h => by simp only [RepL] at h; subst h; simp only [List.set_nil, RepL]
  | 0, e :: ds, _, h => by
    simp only [RepL] at h
    obtain ⟨u, r, rfl, h2, h3⟩ := h
    simp only [List.set_cons_zero, RepL]
    exact ⟨v, r, rfl, hd, h3⟩
  | i + 1, e :: ds, _, h => by
    simp only [RepL] at h
    obtain ⟨u, r, rfl, h2, h3⟩ := h
    simp only [List.set_cons_succ, RepL]
    exact ⟨u, _, rfl, h2, RepL.set hd i h3⟩
theorem RepL.none_of {c : Wr} {H : Hp} {ds : List D} {vs : List V} {i : Nat} (h : RepL c H ds vs) (e : ds[i]? = none) : vs[i]? = none := by
  have := h.length
  rw [List.getElem?_eq_none_iff] at e ⊢
  omega
theorem RepL.dropLast {c : Wr} {H : Hp} {ds : List D} {vs : List V} (h : RepL c H ds vs) : RepL c H ds.dropLast vs.dropLast := by
  rw [List.dropLast_eq_take, List.dropLast_eq_take, h.length]
  exact h.take _
theorem RepL.ints {c : Wr} {H : Hp} : ∀ {xs : List Int} {vs : List V}, RepL c H (xs.map D.int) vs → vs = xs.map V.int
  | [], _, h => by simpa only [List.map_nil, RepL] using h
  | x :: xs, _, h => by
    simp only [List.map_cons, RepL] at h
    obtain ⟨v, r, rfl, h2, h3⟩ := h
    simp only [Rep] at h2
    rw [h2, RepL.ints h3, List.map_cons]
theorem RepL.of_ints {c : Wr} {H : Hp} : ∀ (xs : List Int), RepL c H (xs.map D.int) (xs.map V.int)
  | [] => by simp only [List.map_nil, RepL]
  | x :: xs => by
    simp only [List.map_cons, RepL]
    exact ⟨_, _, rfl, by simp only [Rep], RepL.of_ints xs⟩
theorem rep_L {c : Wr} {H : Hp} {xs : List Int} {v : V} : Rep c H (L xs) v ↔ ∃ a, v = .ref a ∧ H a = some (.lst (xs.map V.int)) := by
  unfold L
  simp only [Rep]
  constructor
  · rintro ⟨a, vs, h1, h2, h3⟩
    rw [h3.ints] at h2
    exact ⟨a, h1, h2⟩
  · rintro ⟨a, h1, h2⟩
    exact ⟨a, _, h1, h2, RepL.of_ints xs⟩
/-! ### worlds -/
/-- the generator's three numbers: its index at most n -/
def GInv (H : Hp) (a : Addr) (n : Nat) : Prop := ∃ x y i : Int, H a = some (.lst [.int x, .int y, .int i]) ∧ 0 ≤ x ∧ 0 ≤ y ∧ y < 2 ^ 31 ∧ 0 ≤ i ∧ i ≤ (n : Int)
structure Wld (c : Wr) (Hs H : Hp) (n : Nat) : Prop where
  sub : Sub Hs H
  gen : ∀ a, c.g = some a → Hs a = none ∧ GInv H a n
structure Gro (c : Wr) (Hs H Hs' H' : Hp) : Prop where
  s : Sub Hs Hs'
  h : ∀ b o, c.g ≠ some b → H b = some o → H' b = some o
  f : ∀ b, Hs b = none → H b ≠ none → Hs' b = none
theorem Gro.rfl {c : Wr} {Hs H : Hp} : Gro c Hs H Hs H := ⟨Sub.rfl, fun _ _ _ h => h, fun _ h _ => h⟩
theorem Gro.trans {c : Wr} {Hs H Hs1 H1 Hs2 H2 : Hp} {n : Nat} (a : Gro c Hs H Hs1 H1) (b : Gro c Hs1 H1 Hs2 H2) (w : Wld c Hs2 H2 n) : Gro c Hs H Hs2 H2 :=
  ⟨a.s.trans b.s, fun x o hg hx => b.h x o hg (a.h x o hg hx), fun x h1 h2 => by
    by_cases hg : c.g = some x
    · exact (w.gen x hg).1
    · refine b.f x (a.f x h1 h2) ?_
      cases e : H x with
      | none => exact absurd e h2
      | some o => rw [a.h x o hg e]; exact fun z => by cases z⟩
/-- a new object that stands still from now on -/
theorem Wld.new {c : Wr} {Hs H : Hp} {n : Nat} {p : Addr} {o : HO} (w : Wld c Hs H n) (hp : H p = none) : Wld c (upd Hs p o) (upd H p o) n := by
  refine ⟨fun b u h => ?_, fun a ha => ?_⟩
  · by_cases e : b = p
    · subst e; rw [upd_same] at h ⊢; exact h
    · rw [upd_ne e] at h ⊢; exact w.sub b u h
  · obtain ⟨h1, x, y, i, h2, h3⟩ := w.gen a ha
    have ne : a ≠ p := fun e => by subst e; rw [hp] at h2; cases h2
    exact ⟨by rw [upd_ne ne]; exact h1, x, y, i, by rw [upd_ne ne]; exact h2, h3⟩
/-- a new object that is kept apart -/
theorem Wld.newO {c : Wr} {Hs H : Hp} {n : Nat} {p : Addr} {o : HO} (w : Wld c Hs H n) (hp : H p = none) : Wld c Hs (upd H p o) n := by
  refine ⟨fun b u h => ?_, fun a ha => ?_⟩
  · have : b ≠ p := fun e => by subst e; rw [w.sub _ _ h] at hp; cases hp
    rw [upd_ne this]; exact w.sub b u h
  · obtain ⟨h1, x, y, i, h2, h3⟩ := w.gen a ha
    have ne : a ≠ p := fun e => by subst e; rw [hp] at h2; cases h2
    exact ⟨h1, x, y, i, by rw [upd_ne ne]; exact h2, h3⟩
theorem Wld.nn {c : Wr} {Hs H : Hp} {n : Nat} {p : Addr} (w : Wld c Hs H n) (hp : H p = none) : Hs p = none := by
  cases e : Hs p with
  | none => rfl
  | some o => rw [w.sub _ _ e] at hp; cases hp
theorem Wld.gne {c : Wr} {Hs H : Hp} {n : Nat} {p : Addr} (w : Wld c Hs H n) (hp : H p = none) : c.g ≠ some p := fun e => by
  obtain ⟨_, x, y, i, h2, _⟩ := w.gen p e
  rw [hp] at h2; cases h2
theorem Gro.new {c : Wr} {Hs H : Hp} {n : Nat} {p : Addr} {o : HO} (w : Wld c Hs H n) (hp : H p = none) : Gro c Hs H (upd Hs p o) (upd H p o) :=
  ⟨fun b u h => by rw [upd_ne (fun e => by subst e; rw [w.nn hp] at h; cases h)]; exact h, fun b u _ h => by rw [upd_ne (ne_of_none h hp)]; exact h,
    fun b h1 h2 => by rw [upd_ne (fun e => h2 (by subst e; exact hp))]; exact h1⟩
theorem Gro.newO {c : Wr} {Hs H : Hp} {n : Nat} {p : Addr} {o : HO} (w : Wld c Hs H n) (hp : H p = none) : Gro c Hs H Hs (upd H p o) :=
  ⟨Sub.rfl, fun b u _ h => by rw [upd_ne (ne_of_none h hp)]; exact h, fun b h1 _ => h1⟩
/-- what was kept apart stands still from now on -/
theorem Wld.frz {c : Wr} {Hs H : Hp} {n : Nat} {p : Addr} {o : HO} (w : Wld c Hs H n) (hp : H p = some o) (hg : c.g ≠ some p) : Wld c (upd Hs p o) H n := by
  refine ⟨fun b u h => ?_, fun a ha => ?_⟩
  · by_cases e : b = p
    · subst e; rw [upd_same] at h; cases h; exact hp
    · rw [upd_ne e] at h; exact w.sub b u h
  · obtain ⟨h1, h2⟩ := w.gen a ha
    exact ⟨by rw [upd_ne (fun e => hg (by rw [← e]; exact ha))]; exact h1, h2⟩
/-! ### slots -/
/-- un: nothing known; val: a value that stands still; own, obj: a list, an instance of the frame's own (nobody else holds it) -/
inductive Sl where
  | un | val (d : D) | own (xs : List D) | obj (cl : Addr × Addr) (fs : List (Str × D))
def RepF (c : Wr) (H : Hp) : List (Str × D) → List (Str × V) → Prop
  | [], vs => vs = []
  | (f, d) :: ds, vs => ∃ v r, vs = (f, v) :: r ∧ Rep c H d v ∧ RepF c H ds r
theorem RepF.mono {c : Wr} {H H' : Hp} (e : Sub H H') : ∀ (ds : List (Str × D)) (vs : List (Str × V)), RepF c H ds vs → RepF c H' ds vs
  | [], _, h => h
  | (f, d) :: ds, _, ⟨v, r, h1, h2, h3⟩ => ⟨v, r, h1, Rep.mono e d v h2, RepF.mono e ds r h3⟩
def isOw : Sl → Bool
  | .own _ => true
  | .obj _ _ => true
  | _ => false
structure SlOk (c : Wr) (H0 Hs H : Hp) (σ : L2.St) (ρ : List Sl) : Prop where
  len : σ.length = ρ.length
  val : ∀ (i : Nat) (d : D), ρ[i]? = some (.val d) → ∃ v, σ[i]? = some (some v) ∧ Rep c Hs d v
  own : ∀ (i : Nat) (xs : List D), ρ[i]? = some (.own xs) → ∃ a vs, σ[i]? = some (some (.ref a)) ∧ H a = some (.lst vs) ∧ Hs a = none ∧ c.g ≠ some a ∧ H0 a = none ∧ RepL c Hs xs vs
  obj : ∀ (i : Nat) (cl : Addr × Addr) (fs : List (Str × D)), ρ[i]? = some (.obj cl fs) → ∃ a dx vs, σ[i]? = some (some (.ref a)) ∧ H a = some (.ins cl.2 dx vs) ∧ Hs a = none ∧ c.g ≠ some a ∧ H0 a = none ∧ RepF c Hs fs vs ∧ a = cl.1
  ne : ∀ (i j : Nat) (s t : Sl) (a : Addr), ρ[i]? = some s → ρ[j]? = some t → isOw s = true → isOw t = true → σ[i]? = some (some (.ref a)) → σ[j]? = some (some (.ref a)) → i = j
theorem SlOk.gro {c : Wr} {H0 Hs H Hs' H' : Hp} {σ : L2.St} {ρ : List Sl} (S : SlOk c H0 Hs H σ ρ) (g : Gro c Hs H Hs' H') : SlOk c H0 Hs' H' σ ρ := by
  refine ⟨S.len, fun i d h => ?_, fun i xs h => ?_, fun i cl fs h => ?_, S.ne⟩
  · obtain ⟨v, h1, h2⟩ := S.val i d h
    exact ⟨v, h1, Rep.mono g.s _ _ h2⟩
  · obtain ⟨a, vs, h1, h2, h3, h4, h5, h6⟩ := S.own i xs h
    exact ⟨a, vs, h1, g.h _ _ h4 h2, g.f a h3 (by rw [h2]; exact fun z => by cases z), h4, h5, RepL.mono g.s _ _ h6⟩
  · obtain ⟨a, dx, vs, h1, h2, h3, h4, h5, h6, h7⟩ := S.obj i cl fs h
    exact ⟨a, dx, vs, h1, g.h _ _ h4 h2, g.f a h3 (by rw [h2]; exact fun z => by cases z), h4, h5, RepF.mono g.s _ _ h6, h7⟩
theorem set_get {α : Type} {l : List α} {i j : Nat} {x y : α} (h : (l.set i x)[j]? = some y) : (i = j ∧ y = x ∧ i < l.length) ∨ (i ≠ j ∧ l[j]? = some y) := by
  by_cases hj : i = j
  · subst hj
    by_cases hi : i < l.length
    · rw [List.getElem?_set_self hi] at h
      exact .inl ⟨rfl, (Option.some.inj h).symm, hi⟩
    · rw [List.getElem?_eq_none (by simp; omega)] at h; cases h
  · rw [List.getElem?_set_ne hj] at h
    exact .inr ⟨hj, h⟩
/-- a slot that is nobody's own is stored -/
theorem SlOk.setV {c : Wr} {H0 Hs H : Hp} {σ : L2.St} {ρ : List Sl} {s : Sl} {o : Option V} (S : SlOk c H0 Hs H σ ρ) (i : Nat) (hs : isOw s = false) (hv : ∀ d, s = .val d → ∃ v, o = some v ∧ Rep c Hs d v) : SlOk c H0 Hs H (σ.set i o) (ρ.set i s) := by
  have hl := S.len
  refine ⟨by simp [hl], fun j e h => ?_, fun j xs h => ?_, fun j cl fs h => ?_, fun j k s1 s2 a h1 h2 w1 w2 h3 h4 => ?_⟩
  · rcases set_get h with ⟨rfl, rfl, hi⟩ | ⟨hj, h⟩
    · obtain ⟨v, rfl, r⟩ := hv e rfl
      exact ⟨v, List.getElem?_set_self (by omega), r⟩
    · rw [List.getElem?_set_ne hj]
      exact S.val j e h
  · rcases set_get h with ⟨rfl, rfl, hi⟩ | ⟨hj, h⟩
    · cases hs
    · rw [List.getElem?_set_ne hj]
      exact S.own j xs h
  · rcases set_get h with ⟨rfl, rfl, hi⟩ | ⟨hj, h⟩
    · cases hs
    · rw [List.getElem?_set_ne hj]
      exact S.obj j cl fs h
  · rcases set_get h1 with ⟨rfl, rfl, hi⟩ | ⟨hj, h1⟩
    · rw [hs] at w1; cases w1
    · rcases set_get h2 with ⟨rfl, rfl, hi⟩ | ⟨hk, h2⟩
      · rw [hs] at w2; cases w2
      · rw [List.getElem?_set_ne hj] at h3
        rw [List.getElem?_set_ne hk] at h4
        exact S.ne j k s1 s2 a h1 h2 w1 w2 h3 h4
theorem SlOk.set {c : Wr} {H0 Hs H : Hp} {σ : L2.St} {ρ : List Sl} {d : D} {v : V} (S : SlOk c H0 Hs H σ ρ) (i : Nat) (r : Rep c Hs d v) : SlOk c H0 Hs H (σ.set i (some v)) (ρ.set i (.val d)) :=
  S.setV i rfl fun e h => by cases h; exact ⟨v, rfl, r⟩
theorem SlOk.un {c : Wr} {H0 Hs H : Hp} {σ : L2.St} {ρ : List Sl} (S : SlOk c H0 Hs H σ ρ) (i : Nat) : SlOk c H0 Hs H (σ.set i none) (ρ.set i .un) :=
  S.setV i rfl fun e h => by cases h
/-- a slot gets something of its own -/
theorem SlOk.setW {c : Wr} {H0 Hs H : Hp} {σ : L2.St} {ρ : List Sl} {s : Sl} {a : Addr} (S : SlOk c H0 Hs H σ ρ) (i : Nat) (hw : isOw s = true)
    (ho : ∀ xs, s = .own xs → ∃ vs, H a = some (.lst vs) ∧ Hs a = none ∧ c.g ≠ some a ∧ H0 a = none ∧ RepL c Hs xs vs)
    (hb : ∀ cl fs, s = .obj cl fs → ∃ dx vs, H a = some (.ins cl.2 dx vs) ∧ Hs a = none ∧ c.g ≠ some a ∧ H0 a = none ∧ RepF c Hs fs vs ∧ a = cl.1)
    (new : ∀ (j : Nat) (t : Sl), ρ[j]? = some t → isOw t = true → σ[j]? ≠ some (some (.ref a))) : SlOk c H0 Hs H (σ.set i (some (.ref a))) (ρ.set i s) := by
  have hl := S.len
  refine ⟨by simp [hl], fun j e h => ?_, fun j zs h => ?_, fun j cl fs h => ?_, fun j k s1 s2 b e1 e2 w1 w2 e3 e4 => ?_⟩
  · rcases set_get h with ⟨rfl, rfl, hi⟩ | ⟨hj, h⟩
    · cases hw
    · rw [List.getElem?_set_ne hj]
      exact S.val j e h
  · rcases set_get h with ⟨rfl, rfl, hi⟩ | ⟨hj, h⟩
    · obtain ⟨vs, h1⟩ := ho zs rfl
      exact ⟨a, vs, List.getElem?_set_self (by omega), h1⟩
    · rw [List.getElem?_set_ne hj]
      exact S.own j zs h
  · rcases set_get h with ⟨rfl, rfl, hi⟩ | ⟨hj, h⟩
    · obtain ⟨dx, vs, h1⟩ := hb cl fs rfl
      exact ⟨a, dx, vs, List.getElem?_set_self (by omega), h1⟩
    · rw [List.getElem?_set_ne hj]
      exact S.obj j cl fs h
  · rcases set_get e1 with ⟨hj, _, hi⟩ | ⟨hj, e1⟩
    · rcases set_get e2 with ⟨hk, _, _⟩ | ⟨hk, e2⟩
      · exact hj.symm.trans hk
      · subst hj
        rw [List.getElem?_set_self (by omega)] at e3
        cases e3
        rw [List.getElem?_set_ne hk] at e4
        exact absurd e4 (new k s2 e2 w2)
    · rw [List.getElem?_set_ne hj] at e3
      rcases set_get e2 with ⟨hk, _, hi⟩ | ⟨hk, e2⟩
      · subst hk
        rw [List.getElem?_set_self (by omega)] at e4
        cases e4
        exact absurd e3 (new j s1 e1 w1)
      · rw [List.getElem?_set_ne hk] at e4
        exact S.ne j k s1 s2 b e1 e2 w1 w2 e3 e4
theorem SlOk.setO {c : Wr} {H0 Hs H : Hp} {σ : L2.St} {ρ : List Sl} {xs : List D} {vs : List V} {a : Addr} (S : SlOk c H0 Hs H σ ρ) (i : Nat) (h1 : H a = some (.lst vs)) (h2 : Hs a = none) (h3 : c.g ≠ some a) (h4 : H0 a = none) (r : RepL c Hs xs vs)
    (new : ∀ (j : Nat) (t : Sl), ρ[j]? = some t → isOw t = true → σ[j]? ≠ some (some (.ref a))) : SlOk c H0 Hs H (σ.set i (some (.ref a))) (ρ.set i (.own xs)) :=
  S.setW i rfl (fun ys e => by cases e; exact ⟨vs, h1, h2, h3, h4, r⟩) (fun cl fs e => by cases e) new
/-- what is in slot i is changed -/
theorem SlOk.mutW {c : Wr} {H0 Hs H : Hp} {σ : L2.St} {ρ : List Sl} {s t : Sl} {a : Addr} {o : HO} (S : SlOk c H0 Hs H σ ρ) (i : Nat) (hi : σ[i]? = some (some (.ref a))) (ht : ρ[i]? = some t) (wt : isOw t = true) (ws : isOw s = true)
    (fr : Hs a = none ∧ c.g ≠ some a ∧ H0 a = none) (ho : ∀ xs, s = .own xs → ∃ vs, o = .lst vs ∧ RepL c Hs xs vs) (hb : ∀ cl fs, s = .obj cl fs → ∃ dx vs, o = .ins cl.2 dx vs ∧ RepF c Hs fs vs ∧ a = cl.1) :
    SlOk c H0 Hs (upd H a o) σ (ρ.set i s) := by
  have hl := S.len
  have hlt : i < ρ.length := (List.getElem?_eq_some_iff.mp ht).1
  refine ⟨by simp [hl], fun j e h => ?_, fun j ys h => ?_, fun j cl fs h => ?_, fun j k s1 s2 b e1 e2 w1 w2 e3 e4 => ?_⟩
  · rcases set_get h with ⟨rfl, rfl, _⟩ | ⟨hj, h⟩
    · cases ws
    · exact S.val j e h
  · rcases set_get h with ⟨rfl, rfl, _⟩ | ⟨hj, h⟩
    · obtain ⟨vs, rfl, r⟩ := ho ys rfl
      exact ⟨a, vs, hi, upd_same, fr.1, fr.2.1, fr.2.2, r⟩
    · obtain ⟨b, us, h1, h2, h3, h4, h5, h6⟩ := S.own j ys h
      refine ⟨b, us, h1, ?_, h3, h4, h5, h6⟩
      rw [upd_ne]
      · exact h2
      · intro e; subst e
        exact hj (S.ne i j _ _ b ht h wt rfl hi h1)
  · rcases set_get h with ⟨rfl, rfl, _⟩ | ⟨hj, h⟩
    · obtain ⟨dx, vs, rfl, r⟩ := hb cl fs rfl
      exact ⟨a, dx, vs, hi, upd_same, fr.1, fr.2.1, fr.2.2, r⟩
    · obtain ⟨b, dx, us, h1, h2, h3, h4, h5, h6⟩ := S.obj j cl fs h
      refine ⟨b, dx, us, h1, ?_, h3, h4, h5, h6⟩
      rw [upd_ne]
      · exact h2
      · intro e; subst e
        exact hj (S.ne i j _ _ b ht h wt rfl hi h1)
  · have ow : ∀ {k : Nat} {u : Sl}, (ρ.set i s)[k]? = some u → isOw u = true → ∃ u', ρ[k]? = some u' ∧ isOw u' = true := fun {k u} h w => by
      rcases set_get h with ⟨rfl, rfl, _⟩ | ⟨_, h⟩
      · exact ⟨t, ht, wt⟩
      · exact ⟨u, h, w⟩
    obtain ⟨u1, q1, w1⟩ := ow e1 w1
    obtain ⟨u2, q2, w2⟩ := ow e2 w2
    exact S.ne j k u1 u2 b q1 q2 w1 w2 e3 e4
theorem SlOk.mut {c : Wr} {H0 Hs H : Hp} {σ : L2.St} {ρ : List Sl} {xs : List D} {vs : List V} {a : Addr} (S : SlOk c H0 Hs H σ ρ) (i : Nat) (hi : σ[i]? = some (some (.ref a))) {zs : List D} (ho : ρ[i]? = some (.own zs)) (r : RepL c Hs xs vs) :
    SlOk c H0 Hs (upd H a (.lst vs)) σ (ρ.set i (.own xs)) := by
  obtain ⟨b, us, h1, h2, h3, h4, h5, h6⟩ := S.own i zs ho
  rw [hi] at h1; cases h1
  exact S.mutW i hi ho rfl rfl ⟨h3, h4, h5⟩ (fun ys e => by cases e; exact ⟨vs, rfl, r⟩) (fun cl fs e => by cases e)
/-- what is in slot i stands still from now on -/
theorem SlOk.frzW {c : Wr} {H0 Hs H : Hp} {σ : L2.St} {ρ : List Sl} {t : Sl} {a : Addr} {o : HO} {d : D} {n : Nat} (S : SlOk c H0 Hs H σ ρ) (W : Wld c Hs H n) (i : Nat) (h1 : σ[i]? = some (some (.ref a))) (ht : ρ[i]? = some t) (wt : isOw t = true) (h2 : H a = some o) (h3 : Hs a = none) (h4 : c.g ≠ some a) (h5 : H0 a = none)
    (r : ∀ Hs', Sub Hs Hs' → Hs' a = some o → Rep c Hs' d (.ref a)) :
    ∃ Hs', Wld c Hs' H n ∧ SlOk c H0 Hs' H σ (ρ.set i (.val d)) ∧ (∀ Hs0, Gro c Hs0 H0 Hs H → Gro c Hs0 H0 Hs' H) ∧ Sub Hs Hs' := by
  have hl := S.len
  have hlt : i < ρ.length := (List.getElem?_eq_some_iff.mp ht).1
  have sb : Sub Hs (upd Hs a o) := fun b o e => by rw [upd_ne (fun z => by subst z; rw [h3] at e; cases e)]; exact e
  refine ⟨upd Hs a o, W.frz h2 h4, ⟨by simp [hl], fun j e h => ?_, fun j ys h => ?_, fun j cl fs h => ?_, fun j k s1 s2 b e1 e2 w1 w2 e3 e4 => ?_⟩, fun Hs0 g => ⟨g.s.trans sb, g.h, fun b q1 q2 => ?_⟩, sb⟩
  · rcases set_get h with ⟨rfl, e1, _⟩ | ⟨hj, h⟩
    · cases e1
      exact ⟨_, h1, r _ sb upd_same⟩
    · obtain ⟨v, q1, q2⟩ := S.val j e h
      exact ⟨v, q1, Rep.mono sb _ _ q2⟩
  · rcases set_get h with ⟨rfl, e1, _⟩ | ⟨hj, h⟩
    · cases e1
    · obtain ⟨b, us, q1, q2, q3, q4, q5, q6⟩ := S.own j ys h
      refine ⟨b, us, q1, q2, ?_, q4, q5, RepL.mono sb _ _ q6⟩
      rw [upd_ne]
      · exact q3
      · intro e; subst e
        exact hj (S.ne i j _ _ b ht h wt rfl h1 q1)
  · rcases set_get h with ⟨rfl, e1, _⟩ | ⟨hj, h⟩
    · cases e1
    · obtain ⟨b, dx, us, q1, q2, q3, q4, q5, q6, q7⟩ := S.obj j cl fs h
      refine ⟨b, dx, us, q1, q2, ?_, q4, q5, RepF.mono sb _ _ q6, q7⟩
      rw [upd_ne]
      · exact q3
      · intro e; subst e
        exact hj (S.ne i j _ _ b ht h wt rfl h1 q1)
  · rcases set_get e1 with ⟨rfl, q, _⟩ | ⟨hj, e1⟩
    · subst q; cases w1
    · rcases set_get e2 with ⟨rfl, q, _⟩ | ⟨hk, e2⟩
      · subst q; cases w2
      · exact S.ne j k s1 s2 b e1 e2 w1 w2 e3 e4
  · rw [upd_ne (fun z => q2 (by rw [z]; exact h5))]
    exact g.f b q1 q2
theorem SlOk.frz {c : Wr} {H0 Hs H : Hp} {σ : L2.St} {ρ : List Sl} {xs : List D} {n : Nat} (S : SlOk c H0 Hs H σ ρ) (W : Wld c Hs H n) (i : Nat) (ho : ρ[i]? = some (.own xs)) :
    ∃ Hs', Wld c Hs' H n ∧ SlOk c H0 Hs' H σ (ρ.set i (.val (.lst xs))) ∧ (∀ Hs0, Gro c Hs0 H0 Hs H → Gro c Hs0 H0 Hs' H) ∧ Sub Hs Hs' := by
  obtain ⟨a, vs, h1, h2, h3, h4, h5, h6⟩ := S.own i xs ho
  refine S.frzW W i h1 ho rfl h2 h3 h4 h5 fun Hs' sb e => ?_
  simp only [Rep]
  exact ⟨a, vs, rfl, e, RepL.mono sb _ _ h6⟩
end DL
end
section
set_option Elab.async false
set_option maxRecDepth 100000
set_option linter.all false
/-! Expressions, tests, arguments by data. -/
namespace DL
open PySem PySem.Spec PyProof.Rows L2
abbrev DK := D → Nat → Prop
abbrev DT := List Sl → Nat → DK → Prop
abbrev DTF := List Sl → Nat → (List D → Nat → Prop) → Prop
abbrev DTB := List Sl → Nat → (Bool → Nat → Prop) → Prop
abbrev DO := D → D → Nat → DK → Prop
/-- what is left to do with a value -/
abbrev Kv (c : Wr) (Hs H : Hp) (Φ : DK) (Q : VK) : Prop := ∀ v Hs' H' d n', Gro c Hs H Hs' H' → Wld c Hs' H' n' → Rep c Hs' d v → Φ d n' → Q v H'
abbrev Kf (c : Wr) (Hs H : Hp) (Φ : List D → Nat → Prop) (Q : VK) : Prop := ∀ a Hs' H' xs vs n', Gro c Hs H Hs' H' → Wld c Hs' H' n' → H a = none → Hs' a = none → H' a = some (.lst vs) → RepL c Hs' xs vs → Φ xs n' → Q (.ref a) H'
abbrev Ka (c : Wr) (Hs H : Hp) (Φ : List D → Nat → Prop) (Q : List V → Hp → Prop) : Prop := ∀ vs Hs' H' ds n', Gro c Hs H Hs' H' → Wld c Hs' H' n' → RepL c Hs' ds vs → Φ ds n' → Q vs H'
abbrev Kb (c : Wr) (Hs H : Hp) (Φ : Bool → Nat → Prop) (Q : Bool → Hp → Prop) : Prop := ∀ b Hs' H' n', Gro c Hs H Hs' H' → Wld c Hs' H' n' → Φ b n' → Q b H'
def DE (c : Wr) (X : Cx) (e : Expr) (t : TE) (τ : DT) : Prop := (X.K = c.K → PE X e t) ∧ ∀ (H0 : Hp) (σ : L2.St) (H Hs : Hp) (ρ : List Sl) (n : Nat) (Φ : DK) (Q : VK),
  Wld c Hs H n → SlOk c H0 Hs H σ ρ → τ ρ n Φ → Kv c Hs H Φ Q → t σ H Q
def DEf (c : Wr) (X : Cx) (e : Expr) (t : TE) (τ : DTF) : Prop := (X.K = c.K → PE X e t) ∧ ∀ (H0 : Hp) (σ : L2.St) (H Hs : Hp) (ρ : List Sl) (n : Nat) (Φ : List D → Nat → Prop) (Q : VK),
  Wld c Hs H n → SlOk c H0 Hs H σ ρ → τ ρ n Φ → Kf c Hs H Φ Q → t σ H Q
def DA (c : Wr) (X : Cx) (es : List Expr) (t : TA) (τ : DTF) : Prop := (X.K = c.K → PA X es t) ∧ ∀ (H0 : Hp) (σ : L2.St) (H Hs : Hp) (ρ : List Sl) (n : Nat) (Φ : List D → Nat → Prop) (Q : List V → Hp → Prop),
  Wld c Hs H n → SlOk c H0 Hs H σ ρ → τ ρ n Φ → Ka c Hs H Φ Q → t σ H Q
def DB (c : Wr) (X : Cx) (e : Expr) (t : TT) (τ : DTB) : Prop := (X.K = c.K → PT X e t) ∧ ∀ (H0 : Hp) (σ : L2.St) (H Hs : Hp) (ρ : List Sl) (n : Nat) (Φ : Bool → Nat → Prop) (Q : Bool → Hp → Prop),
  Wld c Hs H n → SlOk c H0 Hs H σ ρ → τ ρ n Φ → Kb c Hs H Φ Q → t σ H Q
def DW (c : Wr) (X : Cx) (e : Expr) (t : TT) (τ : DTB) : Prop := (X.K = c.K → PW X e t) ∧ ∀ (H0 : Hp) (σ : L2.St) (H Hs : Hp) (ρ : List Sl) (n : Nat) (Φ : Bool → Nat → Prop) (Q : Bool → Hp → Prop),
  Wld c Hs H n → SlOk c H0 Hs H σ ρ → τ ρ n Φ → Kb c Hs H Φ Q → t σ H Q
/-- a two-place operation on values, by data -/
def DOp (c : Wr) (X : Cx) (f : Value → Value → Sem Value) (r : R2) (ω : DO) : Prop := (X.K = c.K → OpR X f r) ∧ ∀ (H Hs : Hp) (x y : V) (d e : D) (n : Nat) (Φ : DK) (Q : VK),
  Wld c Hs H n → Rep c Hs d x → Rep c Hs e y → ω d e n Φ → Kv c Hs H Φ Q → r x y H Q
/-- a call of a known value on values, by data -/
def DCl (c : Wr) (X : Cx) (f : Value) (r : List V → Hp → VK → Prop) (κ : List D → Nat → DK → Prop) : Prop := (X.K = c.K → CallR X f r) ∧ ∀ (H Hs : Hp) (vs : List V) (ds : List D) (n : Nat) (Φ : DK) (Q : VK),
  Wld c Hs H n → RepL c Hs ds vs → κ ds n Φ → Kv c Hs H Φ Q → r vs H Q
/-! ### names, constants -/
def dVar (i : Nat) : DT := fun ρ n Φ => match ρ[i]? with
  | some (.val d) => Φ d n
  | _ => False
def dC (d : D) : DT := fun _ n Φ => Φ d n
section
variable {c : Wr} {X : Cx} {a b e : Expr} {ta tb : DT} {pos : Pos}
theorem de_var (i : Nat) {x : Str} (hN : X.N[i]? = some x := by rfl) (hv : Vis X.env.scope x := by first | exact Or.inl rfl | exact Or.inr (Or.inl rfl) | exact Or.inr (Or.inr rfl)) (hd : (x == ("__debug__" : Str)) = false := by decide)
    (hcd : (x == ("__classdict__" : Str)) = false := by decide) : DE c X (.Name x pos) (tVar i) (dVar i) := by
  refine ⟨fun hK => pe_var hN hv hd hcd, fun H0 σ H Hs ρ n Φ Q W S h k => ?_⟩
  unfold dVar at h
  cases e : ρ[i]? with
  | none => rw [e] at h; exact h.elim
  | some s =>
    rw [e] at h
    cases s with
    | un => exact h.elim
    | own xs => exact h.elim
    | obj cl fs => exact h.elim
    | val d =>
      obtain ⟨v, h1, h2⟩ := S.val i d e
      exact ⟨v, h1, k v Hs H d n .rfl W h2 h⟩
theorem de_c {e : Expr} {v : V} {d : D} (h : PE X e (tC v)) (hr : ∀ H, Rep c H d v) : DE c X e (tC v) (dC d) :=
  ⟨fun _ => h, fun H0 σ H Hs ρ n Φ Q W S h k => k v Hs H d n .rfl W (hr Hs) h⟩
theorem de_int {i j} : DE c X (.Constant (.int i) j pos) (tC (.int i)) (dC (.int i)) := de_c pe_int fun _ => by simp only [Rep]
theorem de_bl {b j} : DE c X (.Constant (.bool b) j pos) (tC (.bl b)) (dC (.bl b)) := de_c pe_bl fun _ => by simp only [Rep]
theorem de_non {j} : DE c X (.Constant .none j pos) (tC .non) (dC .non) := de_c pe_non fun _ => by simp only [Rep]
theorem de_gint {x : Str} {i : Int} (hg : Gl X x) (hm : ∃ t, X.mg x = some (.int i t)) (hd : (x == ("__debug__" : Str)) = false := by decide) : DE c X (.Name x pos) (tC (.int i)) (dC (.int i)) := by
  obtain ⟨t, hm⟩ := hm
  exact de_c (pe_glob (v := .int i) hg hm ⟨t, rfl⟩ hd) fun _ => by simp only [Rep]
/-- a tuple of ints of the written part -/
theorem de_gtup {x : Str} {p : Addr} {ns : List Int} (hg : Gl X x) (hm : X.mg x = some (.ref p)) (ht : ∀ H, SqT c.K H p (ns.map V.int)) (hd : (x == ("__debug__" : Str)) = false := by decide) : DE c X (.Name x pos) (tC (.ref p)) (dC (.tup (ns.map .int))) :=
  de_c (pe_glob (v := .ref p) hg hm rfl hd) fun H => by simp only [Rep]; exact ⟨p, _, rfl, ht H, RepL.of_ints ns⟩
/-! ### fresh lists -/
def dF (τ : DTF) : DT := fun ρ n Φ => τ ρ n fun xs n' => Φ (.lst xs) n'
theorem DEf.de {τ : DTF} (h : DEf c X e t_h τ) : DE c X e t_h (dF τ) := by
  obtain ⟨h1, h2⟩ := h
  refine ⟨h1, fun H0 σ H Hs ρ n Φ Q W S h k => h2 H0 σ H Hs ρ n _ Q W S h fun p Hs' H' xs vs n' g W' hp hp' hv r q => ?_⟩
  have hg : c.g ≠ some p := W.gne hp
  have sb : Sub Hs' (upd Hs' p (.lst vs)) := fun b o e => by rw [upd_ne (fun z => by subst z; rw [hp'] at e; cases e)]; exact e
  refine k (.ref p) (upd Hs' p (.lst vs)) H' (.lst xs) n' ⟨g.s.trans sb, g.h, fun b h1 h2 => ?_⟩ (W'.frz hv hg) ?_ q
  · rw [upd_ne (fun z => h2 (by rw [z]; exact hp))]; exact g.f b h1 h2
  · simp only [Rep]; exact ⟨p, vs, rfl, upd_same, RepL.mono sb _ _ r⟩
/-! ### operators -/
def dOp (ω : DO) (ta tb : DT) : DT := fun ρ n Φ => ta ρ n fun x n1 => tb ρ n1 fun y n2 => ω x y n2 Φ
theorem de_op {op : Operator} {ω : DO} (ho : DOp c X (binaryOp op) r ω) (ha : DE c X a t_ha ta) (hb : DE c X b t_hb tb) : DE c X (.BinOp a op b pos) (tOp r t_ha t_hb) (dOp ω ta tb) := by
  obtain ⟨o1, o2⟩ := ho
  obtain ⟨a1, a2⟩ := ha
  obtain ⟨b1, b2⟩ := hb
  refine ⟨fun hK => pe_op (o1 hK) (a1 hK) (b1 hK), fun H0 σ H Hs ρ n Φ Q W S h k => ?_⟩
  refine a2 H0 σ H Hs ρ n _ _ W S h fun v Hs1 H1 d n1 g1 W1 r1 h1 => ?_
  refine b2 H0 σ H1 Hs1 ρ n1 _ _ W1 (S.gro g1) h1 fun u Hs2 H2 e n2 g2 W2 r2 h2 => ?_
  exact o2 H2 Hs2 v u d e n2 Φ Q W2 (Rep.mono g2.s _ _ r1) r2 h2 fun w Hs3 H3 z n3 g3 W3 r3 h3 => k w Hs3 H3 z n3 ((g1.trans g2 W2).trans g3 W3) W3 r3 h3
theorem de_cmp {op : CmpOp} {ω : DO} (ho : DOp c X (compareOp op) r ω) (ha : DE c X a t_ha ta) (hb : DE c X b t_hb tb) (hm : behindInMarks op b = false := by first | exact nomark _ | rfl) : DE c X (.Compare a [op] [b] pos) (tOp r t_ha t_hb) (dOp ω ta tb) := by
  obtain ⟨o1, o2⟩ := ho
  obtain ⟨a1, a2⟩ := ha
  obtain ⟨b1, b2⟩ := hb
  refine ⟨fun hK => pe_cmpR (o1 hK) (a1 hK) (b1 hK) hm, fun H0 σ H Hs ρ n Φ Q W S h k => ?_⟩
  refine a2 H0 σ H Hs ρ n _ _ W S h fun v Hs1 H1 d n1 g1 W1 r1 h1 => ?_
  refine b2 H0 σ H1 Hs1 ρ n1 _ _ W1 (S.gro g1) h1 fun u Hs2 H2 e n2 g2 W2 r2 h2 => ?_
  exact o2 H2 Hs2 v u d e n2 Φ Q W2 (Rep.mono g2.s _ _ r1) r2 h2 fun w Hs3 H3 z n3 g3 W3 r3 h3 => k w Hs3 H3 z n3 ((g1.trans g2 W2).trans g3 W3) W3 r3 h3
/-- a value that is a bool, as a test -/
def dB (τ : DT) : DTB := fun ρ n Φ => τ ρ n fun d n' => match d with
  | .bl b => Φ b n'
  | _ => False
theorem Kv.bool {c : Wr} {Hs H : Hp} {Φ : Bool → Nat → Prop} {Q : Bool → Hp → Prop} (k : Kb c Hs H Φ Q) : Kv c Hs H (fun d n' => match d with
  | .bl b => Φ b n'
  | _ => False) (fun x H' => ∃ b, x = .bl b ∧ Q b H') := fun v Hs' H' d n' g W r h => by
  cases d <;> try exact h.elim
  simp only [Rep] at r
  exact ⟨_, r, k _ Hs' H' n' g W h⟩
theorem db_cmp {op : CmpOp} {ω : DO} (ho : DOp c X (compareOp op) r ω) (ha : DE c X a t_ha ta) (hb : DE c X b t_hb tb) (hm : behindInMarks op b = false := by first | exact nomark _ | rfl) : DB c X (.Compare a [op] [b] pos) (tTest (tOp r t_ha t_hb)) (dB (dOp ω ta tb)) := by
  obtain ⟨o1, o2⟩ := ho
  obtain ⟨a1, a2⟩ := ha
  obtain ⟨b1, b2⟩ := hb
  refine ⟨fun hK => pt_cmpR (o1 hK) (a1 hK) (b1 hK) hm, fun H0 σ H Hs ρ n Φ Q W S h k => ?_⟩
  refine a2 H0 σ H Hs ρ n _ _ W S h fun v Hs1 H1 d n1 g1 W1 r1 h1 => ?_
  refine b2 H0 σ H1 Hs1 ρ n1 _ _ W1 (S.gro g1) h1 fun u Hs2 H2 e n2 g2 W2 r2 h2 => ?_
  refine o2 H2 Hs2 v u d e n2 _ _ W2 (Rep.mono g2.s _ _ r1) r2 h2 fun w Hs3 H3 z n3 g3 W3 r3 h3 => ?_
  exact Kv.bool k w Hs3 H3 z n3 ((g1.trans g2 W2).trans g3 W3) W3 r3 h3
/-- any expression whose value is a bool, as a test -/
theorem db_val (h : DE c X e t_h ta) (he : ∀ whole, isTrue e X.env whole = (do let v ← whole; standAt e.pos; holding [v] (truthy v)) := by intro _; rfl) : DB c X e (tB t_h) (dB ta) := by
  obtain ⟨a1, a2⟩ := h
  exact ⟨fun hK => pt_val (a1 hK) he, fun H0 σ H Hs ρ n Φ Q W S h k => a2 H0 σ H Hs ρ n _ _ W S h (Kv.bool k)⟩
variable {bA bB : DTB} {rest : List Expr}
def dAnd (t u : DTB) : DTB := fun ρ n Φ => t ρ n fun b n1 => if b = true then u ρ n1 Φ else Φ false n1
def dOr (t u : DTB) : DTB := fun ρ n Φ => t ρ n fun b n1 => if b = true then Φ true n1 else u ρ n1 Φ
def dNot (t : DTB) : DTB := fun ρ n Φ => t ρ n fun b n1 => Φ (!b) n1
theorem DW.db (h : DW c X e t_h bA) : DB c X e t_h bA := by
  obtain ⟨h1, h2⟩ := h
  exact ⟨fun hK => (h1 hK).pt, h2⟩
theorem dw_and1 (h : DB c X a t_h bA) : DW c X (.BoolOp .And [a] pos) t_h bA := by
  obtain ⟨h1, h2⟩ := h
  exact ⟨fun hK => pw_and1 (h1 hK), h2⟩
theorem dw_or1 (h : DB c X a t_h bA) : DW c X (.BoolOp .Or [a] pos) t_h bA := by
  obtain ⟨h1, h2⟩ := h
  exact ⟨fun hK => pw_or1 (h1 hK), h2⟩
theorem dw_and (ha : DB c X a t_ha bA) (hb : DW c X (.BoolOp .And (b :: rest) pos) t_hb bB) : DW c X (.BoolOp .And (a :: b :: rest) pos) (tAnd t_ha t_hb) (dAnd bA bB) := by
  obtain ⟨a1, a2⟩ := ha
  obtain ⟨b1, b2⟩ := hb
  refine ⟨fun hK => pw_and (a1 hK) (b1 hK), fun H0 σ H Hs ρ n Φ Q W S h k => ?_⟩
  refine a2 H0 σ H Hs ρ n _ _ W S h fun b Hs1 H1 n1 g1 W1 h1 => ?_
  cases b with
  | true => exact b2 H0 σ H1 Hs1 ρ n1 Φ Q W1 (S.gro g1) h1 fun b Hs2 H2 n2 g2 W2 h2 => k b Hs2 H2 n2 (g1.trans g2 W2) W2 h2
  | false => exact k false Hs1 H1 n1 g1 W1 h1
theorem dw_or (ha : DB c X a t_ha bA) (hb : DW c X (.BoolOp .Or (b :: rest) pos) t_hb bB) : DW c X (.BoolOp .Or (a :: b :: rest) pos) (tOr t_ha t_hb) (dOr bA bB) := by
  obtain ⟨a1, a2⟩ := ha
  obtain ⟨b1, b2⟩ := hb
  refine ⟨fun hK => pw_or (a1 hK) (b1 hK), fun H0 σ H Hs ρ n Φ Q W S h k => ?_⟩
  refine a2 H0 σ H Hs ρ n _ _ W S h fun b Hs1 H1 n1 g1 W1 h1 => ?_
  cases b with
  | false => exact b2 H0 σ H1 Hs1 ρ n1 Φ Q W1 (S.gro g1) h1 fun b Hs2 H2 n2 g2 W2 h2 => k b Hs2 H2 n2 (g1.trans g2 W2) W2 h2
  | true => exact k true Hs1 H1 n1 g1 W1 h1
theorem db_not (ha : DB c X a t_ha bA) : DB c X (.UnaryOp .Not a pos) (tNot t_ha) (dNot bA) := by
  obtain ⟨a1, a2⟩ := ha
  exact ⟨fun hK => pt_not (a1 hK), fun H0 σ H Hs ρ n Φ Q W S h k => a2 H0 σ H Hs ρ n _ _ W S h fun b Hs1 H1 n1 g1 W1 h1 => k (!b) Hs1 H1 n1 g1 W1 h1⟩
/-! .. as values -/
def dAndV (ta tb : DT) : DT := fun ρ n Φ => ta ρ n fun d n1 => match d with
  | .bl b => if b = true then tb ρ n1 Φ else Φ (.bl false) n1
  | _ => False
def dOrV (ta tb : DT) : DT := fun ρ n Φ => ta ρ n fun d n1 => match d with
  | .bl b => if b = true then Φ (.bl true) n1 else tb ρ n1 Φ
  | _ => False
def dNotV (ta : DT) : DT := fun ρ n Φ => ta ρ n fun d n1 => match d with
  | .bl b => Φ (.bl (!b)) n1
  | _ => False
theorem de_one {op} (h : DE c X a t_h ta) : DE c X (.BoolOp op [a] pos) t_h ta := by
  obtain ⟨h1, h2⟩ := h
  exact ⟨fun hK => pe_one (h1 hK), h2⟩
theorem de_and (ha : DE c X a t_ha ta) (hb : DE c X (.BoolOp .And (b :: rest) pos) t_hb tb) : DE c X (.BoolOp .And (a :: b :: rest) pos) (tAndV t_ha t_hb) (dAndV ta tb) := by
  obtain ⟨a1, a2⟩ := ha
  obtain ⟨b1, b2⟩ := hb
  refine ⟨fun hK => pe_and (a1 hK) (b1 hK), fun H0 σ H Hs ρ n Φ Q W S h k => ?_⟩
  refine a2 H0 σ H Hs ρ n _ _ W S h fun v Hs1 H1 d n1 g1 W1 r1 h1 => ?_
  cases d <;> try exact h1.elim
  rename_i b
  simp only [Rep] at r1
  refine ⟨b, r1, ?_⟩
  cases b with
  | true => exact b2 H0 σ H1 Hs1 ρ n1 Φ Q W1 (S.gro g1) h1 fun v Hs2 H2 d n2 g2 W2 r2 h2 => k v Hs2 H2 d n2 (g1.trans g2 W2) W2 r2 h2
  | false => exact k _ Hs1 H1 _ n1 g1 W1 (by simp only [Rep]) h1
theorem de_or (ha : DE c X a t_ha ta) (hb : DE c X (.BoolOp .Or (b :: rest) pos) t_hb tb) : DE c X (.BoolOp .Or (a :: b :: rest) pos) (tOrV t_ha t_hb) (dOrV ta tb) := by
  obtain ⟨a1, a2⟩ := ha
  obtain ⟨b1, b2⟩ := hb
  refine ⟨fun hK => pe_or (a1 hK) (b1 hK), fun H0 σ H Hs ρ n Φ Q W S h k => ?_⟩
  refine a2 H0 σ H Hs ρ n _ _ W S h fun v Hs1 H1 d n1 g1 W1 r1 h1 => ?_
  cases d <;> try exact h1.elim
  rename_i b
  simp only [Rep] at r1
  refine ⟨b, r1, ?_⟩
  cases b with
  | false => exact b2 H0 σ H1 Hs1 ρ n1 Φ Q W1 (S.gro g1) h1 fun v Hs2 H2 d n2 g2 W2 r2 h2 => k v Hs2 H2 d n2 (g1.trans g2 W2) W2 r2 h2
  | true => exact k _ Hs1 H1 _ n1 g1 W1 (by simp only [Rep]) h1
theorem de_not (ha : DE c X a t_ha ta) : DE c X (.UnaryOp .Not a pos) (tNotV t_ha) (dNotV ta) := by
  obtain ⟨a1, a2⟩ := ha
  refine ⟨fun hK => pe_not (a1 hK), fun H0 σ H Hs ρ n Φ Q W S h k => ?_⟩
  refine a2 H0 σ H Hs ρ n _ _ W S h fun v Hs1 H1 d n1 g1 W1 r1 h1 => ?_
  cases d <;> try exact h1.elim
  rename_i b
  simp only [Rep] at r1
  exact ⟨b, r1, k _ Hs1 H1 _ n1 g1 W1 (by simp only [Rep]) h1⟩
def dIf (t : DTB) (ta tb : DT) : DT := fun ρ n Φ => t ρ n fun b n1 => if b = true then ta ρ n1 Φ else tb ρ n1 Φ
def dIfF (t : DTB) (ta tb : DTF) : DTF := fun ρ n Φ => t ρ n fun b n1 => if b = true then ta ρ n1 Φ else tb ρ n1 Φ
theorem de_if {t : Expr} (ht : DB c X t t_ht bA) (ha : DE c X a t_ha ta) (hb : DE c X b t_hb tb) : DE c X (.IfExp t a b pos) (tIf t_ht t_ha t_hb) (dIf bA ta tb) := by
  obtain ⟨c1, c2⟩ := ht
  obtain ⟨a1, a2⟩ := ha
  obtain ⟨b1, b2⟩ := hb
  refine ⟨fun hK => pe_ifExp (c1 hK) (a1 hK) (b1 hK), fun H0 σ H Hs ρ n Φ Q W S h k => ?_⟩
  refine c2 H0 σ H Hs ρ n _ _ W S h fun b Hs1 H1 n1 g1 W1 h1 => ?_
  cases b with
  | true => exact a2 H0 σ H1 Hs1 ρ n1 Φ Q W1 (S.gro g1) h1 fun v Hs2 H2 d n2 g2 W2 r2 h2 => k v Hs2 H2 d n2 (g1.trans g2 W2) W2 r2 h2
  | false => exact b2 H0 σ H1 Hs1 ρ n1 Φ Q W1 (S.gro g1) h1 fun v Hs2 H2 d n2 g2 W2 r2 h2 => k v Hs2 H2 d n2 (g1.trans g2 W2) W2 r2 h2
theorem Kf.gro {c : Wr} {Hs H Hs1 H1 : Hp} {Φ : List D → Nat → Prop} {Q : VK} {n1 : Nat} (k : Kf c Hs H Φ Q) (g1 : Gro c Hs H Hs1 H1) (W1 : Wld c Hs1 H1 n1) : Kf c Hs1 H1 Φ Q := fun a Hs2 H2 xs vs n2 g2 W2 ha ha2 hv r h =>
  k a Hs2 H2 xs vs n2 (g1.trans g2 W2) W2 (by
    cases e : H a with
    | none => rfl
    | some o =>
      by_cases hg : c.g = some a
      · exact absurd hg (W1.gne ha)
      · rw [g1.h a o hg e] at ha; cases ha) ha2 hv r h
theorem Kv.gro {c : Wr} {Hs H Hs1 H1 : Hp} {Φ : DK} {Q : VK} (k : Kv c Hs H Φ Q) (g1 : Gro c Hs H Hs1 H1) : Kv c Hs1 H1 Φ Q := fun v Hs2 H2 d n2 g2 W2 r h => k v Hs2 H2 d n2 (g1.trans g2 W2) W2 r h
theorem df_if {t : Expr} {fa fb : DTF} (ht : DB c X t t_ht bA) (ha : DEf c X a t_ha fa) (hb : DEf c X b t_hb fb) : DEf c X (.IfExp t a b pos) (tIf t_ht t_ha t_hb) (dIfF bA fa fb) := by
  obtain ⟨c1, c2⟩ := ht
  obtain ⟨a1, a2⟩ := ha
  obtain ⟨b1, b2⟩ := hb
  refine ⟨fun hK => pe_ifExp (c1 hK) (a1 hK) (b1 hK), fun H0 σ H Hs ρ n Φ Q W S h k => ?_⟩
  refine c2 H0 σ H Hs ρ n _ _ W S h fun b Hs1 H1 n1 g1 W1 h1 => ?_
  cases b with
  | true => exact a2 H0 σ H1 Hs1 ρ n1 Φ Q W1 (S.gro g1) h1 (k.gro g1 W1)
  | false => exact b2 H0 σ H1 Hs1 ρ n1 Φ Q W1 (S.gro g1) h1 (k.gro g1 W1)
end
/-! ### argument lists, displays -/
section
variable {c : Wr} {X : Cx} {a b e : Expr} {es : List Expr} {ta tb : DT} {τ : DTF} {pos : Pos}
def dNil : DTF := fun _ n Φ => Φ [] n
def dCons (ta : DT) (tr : DTF) : DTF := fun ρ n Φ => ta ρ n fun d n1 => tr ρ n1 fun ds n2 => Φ (d :: ds) n2
theorem da_nil : DA c X [] tNil dNil := ⟨fun hK => pa_nil, fun H0 σ H Hs ρ n Φ Q W S h k => k [] Hs H [] n .rfl W (by simp only [RepL]) h⟩
theorem da_cons (ha : DE c X e t_ha ta) (hr : DA c X es t_hr τ) (hs : starEach (e :: es) X.env = (false, eval e X.env) :: starEach es X.env := by rfl) : DA c X (e :: es) (tCons t_ha t_hr) (dCons ta τ) := by
  obtain ⟨a1, a2⟩ := ha
  obtain ⟨b1, b2⟩ := hr
  refine ⟨fun hK => pa_cons (a1 hK) (b1 hK) hs, fun H0 σ H Hs ρ n Φ Q W S h k => ?_⟩
  refine a2 H0 σ H Hs ρ n _ _ W S h fun v Hs1 H1 d n1 g1 W1 r1 h1 => ?_
  refine b2 H0 σ H1 Hs1 ρ n1 _ _ W1 (S.gro g1) h1 fun vs Hs2 H2 ds n2 g2 W2 r2 h2 => ?_
  exact k (v :: vs) Hs2 H2 (d :: ds) n2 (g1.trans g2 W2) W2 (by simp only [RepL]; exact ⟨v, vs, rfl, Rep.mono g2.s _ _ r1, r2⟩) h2
theorem size_le {n : Nat} (h : n ≤ 10000000) : n ≤ sizeLine := Nat.le_trans h (by decide)
theorem Gro.fresh {c : Wr} {Hs H Hs1 H1 : Hp} {n : Nat} {p : Addr} (g : Gro c Hs H Hs1 H1) (W : Wld c Hs1 H1 n) (hp : H1 p = none) : H p = none := by
  cases e : H p with
  | none => rfl
  | some o =>
    by_cases hg : c.g = some p
    · exact absurd hg (W.gne hp)
    · rw [g.h p o hg e] at hp; cases hp
def dLst (τ : DTF) : DTF := fun ρ n Φ => τ ρ n fun ds n1 => ds.length ≤ 10000000 ∧ Φ ds n1
theorem df_lst (h : DA c X es t_h τ) : DEf c X (.List es pos) (tLst t_h) (dLst τ) := by
  obtain ⟨h1, h2⟩ := h
  refine ⟨fun hK => pe_lst (h1 hK), fun H0 σ H Hs ρ n Φ Q W S h k => ?_⟩
  refine h2 H0 σ H Hs ρ n _ _ W S h fun vs Hs1 H1 ds n1 g1 W1 r1 ⟨hl, h1⟩ => ⟨by rw [r1.length]; exact size_le hl, fun p hp => ?_⟩
  exact k p Hs1 (upd H1 p (.lst vs)) ds vs n1 (g1.trans (Gro.newO W1 hp) (W1.newO hp)) (W1.newO hp) (g1.fresh W1 hp) (W1.nn hp) upd_same r1 h1
def dTup (τ : DTF) : DT := fun ρ n Φ => τ ρ n fun ds n1 => ds.length ≤ 10000000 ∧ Φ (.tup ds) n1
theorem de_tup {x1} (h : DA c X es t_h τ) : DE c X (.Tuple es x1 pos) (tTup t_h) (dTup τ) := by
  obtain ⟨h1, h2⟩ := h
  refine ⟨fun hK => pe_tup (h1 hK), fun H0 σ H Hs ρ n Φ Q W S h k => ?_⟩
  refine h2 H0 σ H Hs ρ n _ _ W S h fun vs Hs1 H1 ds n1 g1 W1 r1 ⟨hl, h1⟩ => ⟨by rw [r1.length]; exact size_le hl, fun p hp => ?_⟩
  have sb := (Gro.new (o := .tup vs) W1 hp).s
  refine k (.ref p) (upd Hs1 p (.tup vs)) (upd H1 p (.tup vs)) (.tup ds) n1 (g1.trans (Gro.new W1 hp) (W1.new hp)) (W1.new hp) ?_ h1
  simp only [Rep]
  exact ⟨p, vs, rfl, SqT.of upd_same, RepL.mono sb _ _ r1⟩
end
end DL
end
section
set_option Elab.async false
set_option maxRecDepth 100000
set_option linter.all false
/-! Statements, targets, loops, comprehensions by data. -/
namespace DL
open PySem PySem.Spec PyProof.Rows L2
/-- what is wanted behind a statement -/
structure DN where
  nx : List Sl → Nat → Prop
  rt : DK
abbrev DS := DN → List Sl → Nat → Prop
abbrev Kn (c : Wr) (H0 Hs0 : Hp) (E : DN) (Q : Ends) : Prop :=
  (∀ σ' Hs' H' ρ' n', Gro c Hs0 H0 Hs' H' → Wld c Hs' H' n' → SlOk c H0 Hs' H' σ' ρ' → E.nx ρ' n' → Q.nx σ' H') ∧ (∀ v Hs' H' d n', Gro c Hs0 H0 Hs' H' → Wld c Hs' H' n' → Rep c Hs' d v → E.rt d n' → Q.rt v H')
def DSt (c : Wr) (X : Cx) (st : Stmt) (t : TS) (τ : DS) : Prop := (X.K = c.K → PS X st t) ∧ ∀ (H0 Hs0 : Hp) (σ : L2.St) (H Hs : Hp) (ρ : List Sl) (n : Nat) (E : DN) (Q : Ends),
  Wld c Hs H n → SlOk c H0 Hs H σ ρ → Gro c Hs0 H0 Hs H → τ E ρ n → Kn c H0 Hs0 E Q → t Q σ H
def DSs (c : Wr) (X : Cx) (st : List Stmt) (t : TS) (τ : DS) : Prop := (X.K = c.K → PSs X st t) ∧ ∀ (H0 Hs0 : Hp) (σ : L2.St) (H Hs : Hp) (ρ : List Sl) (n : Nat) (E : DN) (Q : Ends),
  Wld c Hs H n → SlOk c H0 Hs H σ ρ → Gro c Hs0 H0 Hs H → τ E ρ n → Kn c H0 Hs0 E Q → t Q σ H
section
variable {c : Wr} {X : Cx} {st : Stmt} {rest : List Stmt} {t u : DS} {e : Expr} {te : DT} {pos : Pos}
def sNext : DS := fun E ρ n => E.nx ρ n
def sSeq (t u : DS) : DS := fun E ρ n => t ⟨u E, E.rt⟩ ρ n
theorem ss_nil : DSs c X [] tNext sNext := ⟨fun hK => pss_nil, fun H0 Hs0 σ H Hs ρ n E Q W S g h k => k.1 σ Hs H ρ n g W S h⟩
theorem ss_cons (h1 : DSt c X st t_h1 t) (h2 : DSs c X rest t_h2 u) : DSs c X (st :: rest) (tSeq t_h1 t_h2) (sSeq t u) := by
  obtain ⟨a1, a2⟩ := h1
  obtain ⟨b1, b2⟩ := h2
  exact ⟨fun hK => pss_cons (a1 hK) (b1 hK), fun H0 Hs0 σ H Hs ρ n E Q W S g h k => a2 H0 Hs0 σ H Hs ρ n _ _ W S g h ⟨fun σ' Hs' H' ρ' n' g' W' S' h' => b2 H0 Hs0 σ' H' Hs' ρ' n' E Q W' S' g' h' k, k.2⟩⟩
theorem ss_one (h1 : DSt c X st t_h1 t) : DSs c X [st] t_h1 t := by
  obtain ⟨a1, a2⟩ := h1
  exact ⟨fun hK => pss_one (a1 hK), a2⟩
/-- the list in slot i stands still from here on -/
def sFrz (i : Nat) (t : DS) : DS := fun E ρ n => match ρ[i]? with
  | some (.own xs) => t E (ρ.set i (.val (.lst xs))) n
  | _ => False
theorem ss_frz (i : Nat) {sts : List Stmt} (h1 : DSs c X sts t_h1 t) : DSs c X sts t_h1 (sFrz i t) := by
  obtain ⟨a1, a2⟩ := h1
  refine ⟨a1, fun H0 Hs0 σ H Hs ρ n E Q W S g h k => ?_⟩
  unfold sFrz at h
  cases e : ρ[i]? with
  | none => rw [e] at h; exact h.elim
  | some s =>
    rw [e] at h
    cases s with
    | un => exact h.elim
    | val d => exact h.elim
    | obj cl fs => exact h.elim
    | own xs =>
      obtain ⟨Hs', W', S', g', _⟩ := S.frz W i e
      exact a2 H0 Hs0 σ H Hs' _ n E Q W' S' (g' _ g) h k
def sDrop (te : DT) : DS := fun E ρ n => te ρ n fun _ n' => E.nx ρ n'
theorem st_expr (he : DE c X e t_he te) (hs : swapsWith e none pos.line X.env = pure false := by rfl) : DSt c X (.Expr e pos) (tDrop t_he) (sDrop te) := by
  obtain ⟨a1, a2⟩ := he
  refine ⟨fun hK => ps_expr (a1 hK) hs, fun H0 Hs0 σ H Hs ρ n E Q W S g h k => ?_⟩
  exact a2 H0 σ H Hs ρ n _ _ W S h fun v Hs1 H1 d n1 g1 W1 r1 h1 => k.1 σ Hs1 H1 ρ n1 (g.trans g1 W1) W1 (S.gro g1) h1
def sRet (te : DT) : DS := fun E ρ n => te ρ n E.rt
theorem st_ret (he : DE c X e t_he te) : DSt c X (.Return (some e) pos) (tRet t_he) (sRet te) := by
  obtain ⟨a1, a2⟩ := he
  refine ⟨fun hK => ps_ret (a1 hK), fun H0 Hs0 σ H Hs ρ n E Q W S g h k => ?_⟩
  exact a2 H0 σ H Hs ρ n _ _ W S h fun v Hs1 H1 d n1 g1 W1 r1 h1 => k.2 v Hs1 H1 d n1 (g.trans g1 W1) W1 r1 h1
def sIf (b : DTB) (t u : DS) : DS := fun E ρ n => b ρ n fun b n' => if b = true then t E ρ n' else u E ρ n'
theorem st_if {cnd : Expr} {as bs : List Stmt} {b : DTB} (hc : DB c X cnd t_hc b) (ha : DSs c X as t_ha t) (hb : DSs c X bs t_hb u) : DSt c X (.If cnd as bs pos) (tIfS t_hc t_ha t_hb) (sIf b t u) := by
  obtain ⟨c1, c2⟩ := hc
  obtain ⟨a1, a2⟩ := ha
  obtain ⟨b1, b2⟩ := hb
  refine ⟨fun hK => ps_if (c1 hK) (a1 hK) (b1 hK), fun H0 Hs0 σ H Hs ρ n E Q W S g h k => ?_⟩
  refine c2 H0 σ H Hs ρ n _ _ W S h fun b Hs1 H1 n1 g1 W1 h1 => ?_
  cases b with
  | true => exact a2 H0 Hs0 σ H1 Hs1 ρ n1 E Q W1 (S.gro g1) (g.trans g1 W1) h1 k
  | false => exact b2 H0 Hs0 σ H1 Hs1 ρ n1 E Q W1 (S.gro g1) (g.trans g1 W1) h1 k
def sNever : DS := fun _ _ _ => False
theorem st_never : DSt c X st tNever sNever := ⟨fun hK => ps_never, fun _ _ _ _ _ _ _ _ _ _ _ _ h _ => h.elim⟩
theorem ss_never {sts : List Stmt} : DSs c X sts tNever sNever := ⟨fun hK => pss_never, fun _ _ _ _ _ _ _ _ _ _ _ _ h _ => h.elim⟩
end
/-! ### targets -/
abbrev DG := D → List Sl → Nat → (List Sl → Nat → Prop) → Prop
/-- a target: Σ is what the slots are allowed to be behind (used within comprehensions) -/
def DTg (c : Wr) (X : Cx) (tg : Expr) (g : TG) (γ : DG) : Prop := (X.K = c.K → PG X tg g) ∧ ∀ (H0 : Hp) (σ : L2.St) (H Hs : Hp) (ρ : List Sl) (n : Nat) (v : V) (d : D) (Ψ : List Sl → Nat → Prop) (Q : L2.St → Hp → Prop),
  Wld c Hs H n → SlOk c H0 Hs H σ ρ → Rep c Hs d v → γ d ρ n Ψ → (∀ σ' ρ', SlOk c H0 Hs H σ' ρ' → Ψ ρ' n → Q σ' H) → g v σ H Q
def gNm (i : Nat) : DG := fun d ρ n Ψ => Ψ (ρ.set i (.val d)) n
def setL : List Nat → List D → List Sl → List Sl
  | i :: is, d :: ds, ρ => setL is ds (ρ.set i (.val d))
  | _, _, ρ => ρ
def gTp (is : List Nat) : DG := fun d ρ n Ψ => match d with
  | .tup ds => ds.length = is.length ∧ Ψ (setL is ds ρ) n
  | _ => False
def gLs (is : List Nat) : DG := fun d ρ n Ψ => match d with
  | .lst ds => ds.length = is.length ∧ Ψ (setL is ds ρ) n
  | _ => False
section
variable {c : Wr} {X : Cx} {pos : Pos}
theorem tg_name (i : Nat) {x : Str} (hN : X.N.Nodup) (hi : X.N[i]? = some x := by rfl) (hx : Loc X.env.scope x := by first | exact Or.inl rfl | exact Or.inr rfl) (hf : X.fn x = true ∨ X.env.scope.names.lookup x = some .local := by first | exact .inl rfl | exact .inr rfl) :
    DTg c X (.Name x pos) (gName i) (gNm i) := ⟨fun hK => pg_name hN hi hx hf, fun H0 σ H Hs ρ n v d Ψ Q W S r h k => k _ _ (S.set i r) h⟩
/-- several names -/
def DTgs (c : Wr) (X : Cx) (es : List Expr) (g : TGs) (is : List Nat) : Prop := (X.K = c.K → PGs X es g) ∧ ∀ (H0 : Hp) (σ : L2.St) (H Hs : Hp) (ρ : List Sl) (vs : List V) (ds : List D) (Q : L2.St → Hp → Prop),
  SlOk c H0 Hs H σ ρ → RepL c Hs ds vs → ds.length = is.length → (∀ σ', SlOk c H0 Hs H σ' (setL is ds ρ) → Q σ' H) → g vs σ H Q
theorem tgs_nil : DTgs c X [] gNil [] := ⟨fun hK => pgs_nil, fun H0 σ H Hs ρ vs ds Q S r hl k => by
  cases ds with
  | cons d ds => simp at hl
  | nil =>
    simp only [RepL] at r
    exact ⟨r, k σ S⟩⟩
theorem tgs_cons (i : Nat) {is : List Nat} {es : List Expr} {x : Str} (h : DTgs c X es t_h is) (hN : X.N.Nodup) (hi : X.N[i]? = some x := by rfl) (hx : Loc X.env.scope x := by first | exact Or.inl rfl | exact Or.inr rfl)
    (hf : X.fn x = true ∨ X.env.scope.names.lookup x = some .local := by first | exact .inl rfl | exact .inr rfl)
    (hs : (assignEach (.Name x pos :: es) X.env).map (·.2) = assign (.Name x pos) X.env :: (assignEach es X.env).map (·.2) := by rfl) : DTgs c X (.Name x pos :: es) (gCons (gName i) t_h) (i :: is) := by
  obtain ⟨g1, g2⟩ := h
  refine ⟨fun hK => pgs_cons (pg_name hN hi hx hf) (g1 hK) hs, fun H0 σ H Hs ρ vs ds Q S r hl k => ?_⟩
  cases ds with
  | nil => simp at hl
  | cons d ds =>
    simp only [RepL] at r
    obtain ⟨v, r', rfl, r1, r2⟩ := r
    exact ⟨v, r', rfl, g2 H0 _ H Hs _ r' ds Q (S.set i r1) r2 (by simpa using hl) k⟩
theorem tg_tup {es : List Expr} {is : List Nat} {k : Nat} (hc : X.calm = true) (h : DTgs c X es t_h is) (hn : (assignEach es X.env).length = is.length := by rfl) (hst : (assignEach es X.env).findIdx? (·.1) = none := by rfl) :
    DTg c X (.Tuple es k pos) (gTup c.K is.length t_h) (gTp is) := by
  obtain ⟨g1, g2⟩ := h
  refine ⟨fun hK => hK ▸ pg_tup hc (g1 hK) hn hst, fun H0 σ H Hs ρ n v d Ψ Q W S r h k => ?_⟩
  cases d with
  | tup ds =>
    obtain ⟨hl, h⟩ := h
    simp only [Rep] at r
    obtain ⟨a, vs, rfl, ht, r⟩ := r
    exact ⟨a, vs, rfl, W.sub.seqT ht, by rw [r.length]; exact hl, g2 H0 σ H Hs ρ vs ds Q S r hl fun σ' S' => k σ' _ S' h⟩
  | _ => exact h.elim
theorem tg_lst {es : List Expr} {is : List Nat} {k : Nat} (hc : X.calm = true) (h : DTgs c X es t_h is) (hn : (assignEach es X.env).length = is.length := by rfl) (hst : (assignEach es X.env).findIdx? (·.1) = none := by rfl) :
    DTg c X (.Tuple es k pos) (gUnl c.K is.length t_h) (gLs is) := by
  obtain ⟨g1, g2⟩ := h
  refine ⟨fun hK => hK ▸ pg_unl hc (g1 hK) hn hst, fun H0 σ H Hs ρ n v d Ψ Q W S r h k => ?_⟩
  cases d with
  | lst ds =>
    obtain ⟨hl, h⟩ := h
    simp only [Rep] at r
    obtain ⟨a, vs, rfl, ht, r⟩ := r
    exact ⟨a, vs, rfl, SqL.of (W.sub _ _ ht), by rw [r.length]; exact hl, g2 H0 σ H Hs ρ vs ds Q S r hl fun σ' S' => k σ' _ S' h⟩
  | _ => exact h.elim
def sAsg (te : DT) (γ : DG) : DS := fun E ρ n => te ρ n fun d n1 => γ d ρ n1 E.nx
theorem st_asg {tg e : Expr} {te : DT} {γ : DG} (he : DE c X e t_he te) (hg : DTg c X tg t_hg γ) (hs : swapsWithSole [tg] e pos.line X.env = pure false := by rfl) (hw : swappedStores [tg] e X.env = pure none := by rfl)
    (h1 : (assignEach [tg] X.env).map (·.2) = [assign tg X.env] := by rfl) : DSt c X (.Assign [tg] e pos) (tAsg t_he t_hg) (sAsg te γ) := by
  obtain ⟨a1, a2⟩ := he
  obtain ⟨g1, g2⟩ := hg
  refine ⟨fun hK => ps_asg (a1 hK) (g1 hK) hs hw h1, fun H0 Hs0 σ H Hs ρ n E Q W S gr h k => ?_⟩
  refine a2 H0 σ H Hs ρ n _ _ W S h fun v Hs1 H1 d n1 gr1 W1 r1 h1 => ?_
  exact g2 H0 σ H1 Hs1 ρ n1 v d _ _ W1 (S.gro gr1) r1 h1 fun σ' ρ' S' h' => k.1 σ' Hs1 H1 ρ' n1 (gr.trans gr1 W1) W1 S' h'
def sSet (te : DT) (i : Nat) : DS := fun E ρ n => te ρ n fun d n1 => E.nx (ρ.set i (.val d)) n1
theorem st_set (i : Nat) {x : Str} {e : Expr} {te : DT} {pos' : Pos} (hN : X.N.Nodup) (he : DE c X e t_he te) (hi : X.N[i]? = some x := by rfl) (hx : Loc X.env.scope x := by first | exact Or.inl rfl | exact Or.inr rfl) (hs : swapsWith e (some (.Name x pos')) pos.line X.env = pure false := by rfl)
    (hf : X.fn x = true ∨ X.env.scope.names.lookup x = some .local := by first | exact .inl rfl | exact .inr rfl) : DSt c X (.Assign [.Name x pos'] e pos) (tAsg t_he (gName i)) (sSet te i) := by
  obtain ⟨a1, a2⟩ := he
  refine ⟨fun hK => ps_set hN hi hx (a1 hK) hs hf, fun H0 Hs0 σ H Hs ρ n E Q W S gr h k => ?_⟩
  refine a2 H0 σ H Hs ρ n _ _ W S h fun v Hs1 H1 d n1 gr1 W1 r1 h1 => ?_
  exact k.1 _ Hs1 H1 _ n1 (gr.trans gr1 W1) W1 ((S.gro gr1).set i r1) h1
/-- a list that is the frame's own -/
theorem SlOk.fresh {c : Wr} {H0 Hs H : Hp} {σ : L2.St} {ρ : List Sl} (S : SlOk c H0 Hs H σ ρ) {a : Addr} (ha : H a = none) (j : Nat) (t : Sl) (h : ρ[j]? = some t) (w : isOw t = true) : σ[j]? ≠ some (some (.ref a)) := fun e => by
  cases t with
  | un => cases w
  | val d => cases w
  | own ys =>
    obtain ⟨b, vs, h1, h2, _⟩ := S.own j ys h
    rw [h1] at e
    cases e
    rw [ha] at h2; cases h2
  | obj cl fs =>
    obtain ⟨b, dx, vs, h1, h2, _⟩ := S.obj j cl fs h
    rw [h1] at e
    cases e
    rw [ha] at h2; cases h2
def sOwn (te : DTF) (i : Nat) : DS := fun E ρ n => te ρ n fun xs n1 => E.nx (ρ.set i (.own xs)) n1
theorem st_own (i : Nat) {x : Str} {e : Expr} {te : DTF} {pos' : Pos} (hN : X.N.Nodup) (he : DEf c X e t_he te) (hi : X.N[i]? = some x := by rfl) (hx : Loc X.env.scope x := by first | exact Or.inl rfl | exact Or.inr rfl) (hs : swapsWith e (some (.Name x pos')) pos.line X.env = pure false := by rfl)
    (hf : X.fn x = true ∨ X.env.scope.names.lookup x = some .local := by first | exact .inl rfl | exact .inr rfl) : DSt c X (.Assign [.Name x pos'] e pos) (tAsg t_he (gName i)) (sOwn te i) := by
  obtain ⟨a1, a2⟩ := he
  refine ⟨fun hK => ps_set hN hi hx (a1 hK) hs hf, fun H0 Hs0 σ H Hs ρ n E Q W S gr h k => ?_⟩
  refine a2 H0 σ H Hs ρ n _ _ W S h fun a Hs1 H1 xs vs n1 gr1 W1 ha ha1 hv r1 h1 => ?_
  exact k.1 _ Hs1 H1 _ n1 (gr.trans gr1 W1) W1 ((S.gro gr1).setO i hv ha1 (W.gne ha) (gr.fresh W ha) r1 (S.fresh ha)) h1
/-! a, b = x, y and a, b, c = x, y, z -/
def sPar (ta tb : DT) (i j : Nat) : DS := fun E ρ n => ta ρ n fun d n1 => tb ρ n1 fun e n2 => E.nx ((ρ.set i (.val d)).set j (.val e)) n2
theorem st_par (i j : Nat) {x y : Str} {a b : Expr} {ta tb : DT} {px py pt : Pos} {kt k2 pt2} (hc : X.calm = true) (hN : X.N.Nodup) (ha : DE c X a t_ha ta) (hb : DE c X b t_hb tb) (hi : X.N[i]? = some x := by rfl) (hj : X.N[j]? = some y := by rfl) (hij : i ≠ j := by decide)
    (hx : X.env.scope.names.lookup x = some .local := by rfl) (hy : X.env.scope.names.lookup y = some .local := by rfl)
    (hw : swappedStores [.Tuple [.Name x px, .Name y py] kt pt] (.Tuple [a, b] k2 pt2) X.env = pure (some [x, y]) := by rfl)
    (hs : swapsWithSole [.Tuple [.Name x px, .Name y py] kt pt] (.Tuple [a, b] k2 pt2) pos.line X.env = pure false := by rfl)
    (h1 : starEach [a, b] X.env = (false, eval a X.env) :: starEach [b] X.env := by rfl) (h2 : starEach [b] X.env = (false, eval b X.env) :: starEach [] X.env := by rfl) :
    DSt c X (.Assign [.Tuple [.Name x px, .Name y py] kt pt] (.Tuple [a, b] k2 pt2) pos) (tPar i j (tCons t_ha (tCons t_hb tNil))) (sPar ta tb i j) := by
  obtain ⟨a1, a2⟩ := ha
  obtain ⟨b1, b2⟩ := hb
  refine ⟨fun hK => ps_par hc hN hi hj hij hx hy (pa_cons (a1 hK) (pa_cons (b1 hK) pa_nil h2) h1) hw hs, fun H0 Hs0 σ H Hs ρ n E Q W S gr h k => ?_⟩
  refine a2 H0 σ H Hs ρ n _ _ W S h fun v Hs1 H1 d n1 gr1 W1 r1 h1 => ?_
  refine b2 H0 σ H1 Hs1 ρ n1 _ _ W1 (S.gro gr1) h1 fun w Hs2 H2 e n2 gr2 W2 r2 h2 => ?_
  have g12 := gr1.trans gr2 W2
  exact ⟨v, w, rfl, k.1 _ Hs2 H2 _ n2 (gr.trans g12 W2) W2 (((S.gro g12).set i (Rep.mono gr2.s _ _ r1)).set j r2) h2⟩
def sPar3 (ta tb tc : DT) (i j l : Nat) : DS := fun E ρ n => ta ρ n fun d n1 => tb ρ n1 fun e n2 => tc ρ n2 fun f n3 => E.nx (((ρ.set i (.val d)).set j (.val e)).set l (.val f)) n3
theorem st_par3 (i j l : Nat) {x y z : Str} {a b e3 : Expr} {ta tb tc : DT} {px py pz pt : Pos} {kt k2 pt2} (hc : X.calm = true) (hN : X.N.Nodup) (ha : DE c X a t_ha ta) (hb : DE c X b t_hb tb) (hd : DE c X e3 t_hd tc) (hi : X.N[i]? = some x := by rfl) (hj : X.N[j]? = some y := by rfl) (hl : X.N[l]? = some z := by rfl) (hij : i ≠ j := by decide) (hil : i ≠ l := by decide) (hjl : j ≠ l := by decide)
    (hx : X.env.scope.names.lookup x = some .local := by rfl) (hy : X.env.scope.names.lookup y = some .local := by rfl) (hz : X.env.scope.names.lookup z = some .local := by rfl)
    (hw : swappedStores [.Tuple [.Name x px, .Name y py, .Name z pz] kt pt] (.Tuple [a, b, e3] k2 pt2) X.env = pure (some [x, y, z]) := by rfl)
    (hs : swapsWithSole [.Tuple [.Name x px, .Name y py, .Name z pz] kt pt] (.Tuple [a, b, e3] k2 pt2) pos.line X.env = pure false := by rfl)
    (h1 : starEach [a, b, e3] X.env = (false, eval a X.env) :: starEach [b, e3] X.env := by rfl) (h2 : starEach [b, e3] X.env = (false, eval b X.env) :: starEach [e3] X.env := by rfl) (h3 : starEach [e3] X.env = (false, eval e3 X.env) :: starEach [] X.env := by rfl) :
    DSt c X (.Assign [.Tuple [.Name x px, .Name y py, .Name z pz] kt pt] (.Tuple [a, b, e3] k2 pt2) pos) (tPar3 i j l (tCons t_ha (tCons t_hb (tCons t_hd tNil)))) (sPar3 ta tb tc i j l) := by
  obtain ⟨a1, a2⟩ := ha
  obtain ⟨b1, b2⟩ := hb
  obtain ⟨d1, d2⟩ := hd
  refine ⟨fun hK => ps_par3 hc hN hi hj hl hij hil hjl hx hy hz (pa_cons (a1 hK) (pa_cons (b1 hK) (pa_cons (d1 hK) pa_nil h3) h2) h1) hw hs, fun H0 Hs0 σ H Hs ρ n E Q W S gr h k => ?_⟩
  refine a2 H0 σ H Hs ρ n _ _ W S h fun v Hs1 H1 d n1 gr1 W1 r1 h1 => ?_
  refine b2 H0 σ H1 Hs1 ρ n1 _ _ W1 (S.gro gr1) h1 fun w Hs2 H2 e n2 gr2 W2 r2 h2 => ?_
  have g12 := gr1.trans gr2 W2
  refine d2 H0 σ H2 Hs2 ρ n2 _ _ W2 (S.gro g12) h2 fun w3 Hs3 H3 f n3 gr3 W3 r3 h3 => ?_
  have g13 := g12.trans gr3 W3
  exact ⟨v, w, w3, rfl, k.1 _ Hs3 H3 _ n3 (gr.trans g13 W3) W3 ((((S.gro g13).set i (Rep.mono gr3.s _ _ (Rep.mono gr2.s _ _ r1))).set j (Rep.mono gr3.s _ _ r2)).set l r3) h3⟩
/-- the first two the frame's own lists -/
def sPar3O (ta tb : DTF) (tc : DT) (i j l : Nat) : DS := fun E ρ n => ta ρ n fun d n1 => tb ρ n1 fun e n2 => tc ρ n2 fun f n3 => E.nx (((ρ.set i (.own d)).set j (.own e)).set l (.val f)) n3
theorem st_par3O (i j l : Nat) {x y z : Str} {a b e3 : Expr} {ta tb : DTF} {tc : DT} {px py pz pt : Pos} {kt k2 pt2} (hc : X.calm = true) (hN : X.N.Nodup) (ha : DEf c X a t_ha ta) (hb : DEf c X b t_hb tb) (hd : DE c X e3 t_hd tc) (hi : X.N[i]? = some x := by rfl) (hj : X.N[j]? = some y := by rfl) (hl : X.N[l]? = some z := by rfl) (hij : i ≠ j := by decide) (hil : i ≠ l := by decide) (hjl : j ≠ l := by decide)
    (hx : X.env.scope.names.lookup x = some .local := by rfl) (hy : X.env.scope.names.lookup y = some .local := by rfl) (hz : X.env.scope.names.lookup z = some .local := by rfl)
    (hw : swappedStores [.Tuple [.Name x px, .Name y py, .Name z pz] kt pt] (.Tuple [a, b, e3] k2 pt2) X.env = pure (some [x, y, z]) := by rfl)
    (hs : swapsWithSole [.Tuple [.Name x px, .Name y py, .Name z pz] kt pt] (.Tuple [a, b, e3] k2 pt2) pos.line X.env = pure false := by rfl)
    (h1 : starEach [a, b, e3] X.env = (false, eval a X.env) :: starEach [b, e3] X.env := by rfl) (h2 : starEach [b, e3] X.env = (false, eval b X.env) :: starEach [e3] X.env := by rfl) (h3 : starEach [e3] X.env = (false, eval e3 X.env) :: starEach [] X.env := by rfl) :
    DSt c X (.Assign [.Tuple [.Name x px, .Name y py, .Name z pz] kt pt] (.Tuple [a, b, e3] k2 pt2) pos) (tPar3 i j l (tCons t_ha (tCons t_hb (tCons t_hd tNil)))) (sPar3O ta tb tc i j l) := by
  obtain ⟨a1, a2⟩ := ha
  obtain ⟨b1, b2⟩ := hb
  obtain ⟨d1, d2⟩ := hd
  refine ⟨fun hK => ps_par3 hc hN hi hj hl hij hil hjl hx hy hz (pa_cons (a1 hK) (pa_cons (b1 hK) (pa_cons (d1 hK) pa_nil h3) h2) h1) hw hs, fun H0 Hs0 σ H Hs ρ n E Q W S gr h k => ?_⟩
  refine a2 H0 σ H Hs ρ n _ _ W S h fun p Hs1 H1 xs vs n1 gr1 W1 hp hp1 hv r1 h1 => ?_
  refine b2 H0 σ H1 Hs1 ρ n1 _ _ W1 (S.gro gr1) h1 fun q Hs2 H2 ys us n2 gr2 W2 hq hq1 hu r2 h2 => ?_
  have g12 := gr1.trans gr2 W2
  refine d2 H0 σ H2 Hs2 ρ n2 _ _ W2 (S.gro g12) h2 fun w3 Hs3 H3 f n3 gr3 W3 r3 h3 => ?_
  have g13 := g12.trans gr3 W3
  have gp : c.g ≠ some p := W.gne hp
  have gq : c.g ≠ some q := W1.gne hq
  have hp2 : Hs2 p = none := gr2.f p hp1 (by rw [hv]; exact fun z => by cases z)
  have hv2 : H2 p = some (.lst vs) := gr2.h p _ gp hv
  have hp3 : Hs3 p = none := gr3.f p hp2 (by rw [hv2]; exact fun z => by cases z)
  have hv3 : H3 p = some (.lst vs) := gr3.h p _ gp hv2
  have hq3 : Hs3 q = none := gr3.f q hq1 (by rw [hu]; exact fun z => by cases z)
  have hu3 : H3 q = some (.lst us) := gr3.h q _ gq hu
  have npq : q ≠ p := fun z => by subst z; rw [hv] at hq; cases hq
  have S1 := (S.gro g13).setO i hv3 hp3 gp (gr.fresh W hp) (RepL.mono gr3.s _ _ (RepL.mono gr2.s _ _ r1)) (S.fresh hp)
  have S2 := S1.setO j hu3 hq3 gq (gr.fresh W (gr1.fresh W1 hq)) (RepL.mono gr3.s _ _ r2) (fun m zs hm hw e => by
    by_cases hmi : i = m
    · subst hmi
      have hlen : i < σ.length := by
        have := (List.getElem?_eq_some_iff.mp e).1
        simpa using this
      rw [List.getElem?_set_self hlen] at e
      cases e
      exact npq rfl
    · rw [List.getElem?_set_ne hmi] at e hm
      exact S.fresh (gr1.fresh W1 hq) m zs hm hw e)
  exact ⟨_, _, w3, rfl, k.1 _ Hs3 H3 _ n3 (gr.trans g13 W3) W3 (S2.set l r3) h3⟩
end
end DL
end
section
set_option Elab.async false
set_option maxRecDepth 100000
set_option linter.all false
/-! Operators, comparisons, built-ins, subscripts by data. -/
namespace DL
open PySem PySem.Spec PyProof.Rows L2
section
variable {c : Wr} {X : Cx} {a b e : Expr} {ta tb : DT} {pos : Pos}
theorem rep_int {c : Wr} {H : Hp} {i : Int} {v : V} (h : Rep c H (.int i) v) : v = .int i := by simpa only [Rep] using h
theorem rep_bl {c : Wr} {H : Hp} {i : Bool} {v : V} (h : Rep c H (.bl i) v) : v = .bl i := by simpa only [Rep] using h
theorem rep_lst {c : Wr} {H : Hp} {ds : List D} {v : V} (h : Rep c H (.lst ds) v) : ∃ a vs, v = .ref a ∧ H a = some (.lst vs) ∧ RepL c H ds vs := by simpa only [Rep] using h
theorem rep_tup {c : Wr} {H : Hp} {ds : List D} {v : V} (h : Rep c H (.tup ds) v) : ∃ a vs, v = .ref a ∧ SqT c.K H a vs ∧ RepL c H ds vs := by simpa only [Rep] using h
theorem mk_int {c : Wr} {H : Hp} {i : Int} : Rep c H (.int i) (.int i) := by simp only [Rep]
theorem mk_bl {c : Wr} {H : Hp} {i : Bool} : Rep c H (.bl i) (.bl i) := by simp only [Rep]
/-- two ints to an int, under a condition -/
theorem dop_ii {f : Value → Value → Sem Value} {C : Int → Int → Prop} {g : Int → Int → Int} (h : OpR X f (rI C fun i j => .int (g i j))) :
    DOp c X f (rI C fun i j => .int (g i j)) (fun x y n Φ => match x, y with
      | .int i, .int j => C i j ∧ Φ (.int (g i j)) n
      | _, _ => False) := ⟨fun _ => h, fun H Hs x y d e n Φ Q W r1 r2 h k => by
  cases d <;> cases e <;> try exact h.elim
  rename_i i j
  exact ⟨i, j, rep_int r1, rep_int r2, h.1, k _ Hs H _ n .rfl W mk_int h.2⟩⟩
def wSub : DO := fun x y n Φ => match x, y with
  | .int i, .int j => Φ (.int (i - j)) n
  | _, _ => False
theorem o_sub : DOp c X (binaryOp .Sub) (rI0 fun i j => .int (i - j)) wSub := ⟨fun _ => op_sub, fun H Hs x y d e n Φ Q W r1 r2 h k => by
  cases d <;> cases e <;> try exact h.elim
  rename_i i j
  exact ⟨i, j, rep_int r1, rep_int r2, k _ Hs H _ n .rfl W mk_int h⟩⟩
def wMod : DO := fun x y n Φ => match x, y with
  | .int i, .int j => 0 < j ∧ Φ (.int (i % j)) n
  | _, _ => False
theorem o_mod : DOp c X (binaryOp .Mod) (rI (fun _ j => 0 < j) fun i j => .int (i % j)) wMod := dop_ii op_mod
def wFdiv : DO := fun x y n Φ => match x, y with
  | .int i, .int j => (0 < j ∧ j < 1073741824) ∧ Φ (.int (i / j)) n
  | _, _ => False
theorem o_fdiv : DOp c X (binaryOp .FloorDiv) (rI CDiv fun i j => .int (i / j)) wFdiv := dop_ii op_fdiv
def CPowB (i j : Int) : Prop := 0 ≤ j ∧ (Builtin.Int.intBits i : Int) * j ≤ 2 ^ 27
def wPow : DO := fun x y n Φ => match x, y with
  | .int i, .int j => CPowB i j ∧ Φ (.int (i ^ j.toNat)) n
  | _, _ => False
theorem o_pow : DOp c X (binaryOp .Pow) (rI CPowB fun i j => .int (i ^ j.toNat)) wPow := dop_ii (opI fun _ _ _ _ _ _ _ hc q => pow_int hc.1 hc.2 q)
/-! + : ints, lists -/
def wAdd : DO := fun x y n Φ => match x, y with
  | .int i, .int j => Φ (.int (i + j)) n
  | .lst as, .lst bs => as.length + bs.length ≤ 10000000 ∧ Φ (.lst (as ++ bs)) n
  | _, _ => False
theorem o_add : DOp c X (binaryOp .Add) (fun x y H Q => rI0 (fun i j => .int (i + j)) x y H Q ∨ rCat x y H Q) wAdd := ⟨fun _ => op_add.or op_cat, fun H Hs x y d e n Φ Q W r1 r2 h k => by
  cases d <;> cases e <;> try exact h.elim
  · rename_i i j
    exact .inl ⟨i, j, rep_int r1, rep_int r2, k _ Hs H _ n .rfl W mk_int h⟩
  · rename_i as bs
    obtain ⟨l, us, rfl, hl, ra⟩ := rep_lst r1
    obtain ⟨m, ws, rfl, hm, rb⟩ := rep_lst r2
    refine .inr ⟨l, m, us, ws, rfl, rfl, W.sub _ _ hl, W.sub _ _ hm, by rw [ra.length, rb.length]; exact size_le h.1, fun p hp => ?_⟩
    have gr := Gro.new (o := .lst (us ++ ws)) W hp
    refine k _ _ _ (.lst (as ++ bs)) n gr (W.new hp) ?_ h.2
    simp only [Rep]
    exact ⟨p, _, rfl, upd_same, (RepL.mono gr.s _ _ ra).append (RepL.mono gr.s _ _ rb)⟩⟩
/-! * : ints, a list by an int -/
def wMul : DO := fun x y n Φ => match x, y with
  | .int i, .int j => CMul i j ∧ Φ (.int (i * j)) n
  | .lst as, .int k => (-(2 ^ 62) < k ∧ k < 2 ^ 62) ∧ as.length * k.toNat ≤ 10000000 ∧ Φ (.lst (List.replicate k.toNat as).flatten) n
  | _, _ => False
theorem RepL.rep {c : Wr} {H : Hp} {ds : List D} {vs : List V} (h : RepL c H ds vs) : ∀ k : Nat, RepL c H (List.replicate k ds).flatten (List.replicate k vs).flatten
  | 0 => by simp only [List.replicate_zero, List.flatten_nil, RepL]
  | k + 1 => by
    rw [List.replicate_succ, List.replicate_succ, List.flatten_cons, List.flatten_cons]
    exact h.append (RepL.rep h k)
theorem o_mul : DOp c X (binaryOp .Mult) (fun x y H Q => rI CMul (fun i j => .int (i * j)) x y H Q ∨ rRep x y H Q) wMul := ⟨fun _ => op_mul.or op_rep, fun H Hs x y d e n Φ Q W r1 r2 h k => by
  cases d <;> cases e <;> try exact h.elim
  · rename_i i j
    exact .inl ⟨i, j, rep_int r1, rep_int r2, h.1, k _ Hs H _ n .rfl W mk_int h.2⟩
  · rename_i as i
    obtain ⟨l, us, rfl, hl, ra⟩ := rep_lst r1
    obtain ⟨⟨h1, h2⟩, h3, h4⟩ := h
    refine .inr ⟨l, i, us, rfl, rep_int r2, W.sub _ _ hl, by omega, by omega, by rw [ra.length]; exact size_le h3, fun p hp => ?_⟩
    have gr := Gro.new (o := .lst (List.replicate i.toNat us).flatten) W hp
    refine k _ _ _ (.lst _) n gr (W.new hp) ?_ h4
    simp only [Rep]
    exact ⟨p, _, rfl, upd_same, RepL.mono gr.s _ _ (ra.rep _)⟩⟩
/-- [..] * n as a fresh list -/
def fRep (ta tb : DT) : DTF := fun ρ n Φ => ta ρ n fun x n1 => tb ρ n1 fun y n2 => match x, y with
  | .lst as, .int k => (-(2 ^ 62) < k ∧ k < 2 ^ 62) ∧ as.length * k.toNat ≤ 10000000 ∧ Φ (List.replicate k.toNat as).flatten n2
  | _, _ => False
theorem df_rep (ha : DE c X a t_ha ta) (hb : DE c X b t_hb tb) : DEf c X (.BinOp a .Mult b pos) (tOp rRep t_ha t_hb) (fRep ta tb) := by
  obtain ⟨a1, a2⟩ := ha
  obtain ⟨b1, b2⟩ := hb
  refine ⟨fun hK => pe_op op_rep (a1 hK) (b1 hK), fun H0 σ H Hs ρ n Φ Q W S h k => ?_⟩
  refine a2 H0 σ H Hs ρ n _ _ W S h fun v Hs1 H1 d n1 g1 W1 r1 h1 => ?_
  refine b2 H0 σ H1 Hs1 ρ n1 _ _ W1 (S.gro g1) h1 fun u Hs2 H2 e n2 g2 W2 r2 h2 => ?_
  cases d <;> cases e <;> try exact h2.elim
  rename_i as i
  obtain ⟨l, us, rfl, hl, ra⟩ := rep_lst (Rep.mono g2.s _ _ r1)
  obtain ⟨⟨q1, q2⟩, q3, q4⟩ := h2
  refine ⟨l, i, us, rfl, rep_int r2, W2.sub _ _ hl, by omega, by omega, by rw [ra.length]; exact size_le q3, fun p hp => ?_⟩
  have g12 := g1.trans g2 W2
  exact k p Hs2 _ _ _ n2 (g12.trans (Gro.newO W2 hp) (W2.newO hp)) (W2.newO hp) (g12.fresh W2 hp) (W2.nn hp) upd_same (ra.rep _) q4
/-! ### comparisons -/
def wLt : DO := fun x y n Φ => match x, y with
  | .int i, .int j => Φ (.bl (decide (i < j))) n
  | _, _ => False
def wLe : DO := fun x y n Φ => match x, y with
  | .int i, .int j => Φ (.bl (decide (i ≤ j))) n
  | _, _ => False
def wGt : DO := fun x y n Φ => match x, y with
  | .int i, .int j => Φ (.bl (decide (j < i))) n
  | _, _ => False
def wGe : DO := fun x y n Φ => match x, y with
  | .int i, .int j => Φ (.bl (decide (j ≤ i))) n
  | _, _ => False
theorem dop_ib {f : Value → Value → Sem Value} {g : Int → Int → Bool} (h : OpR X f (rI0 fun i j => .bl (g i j))) :
    DOp c X f (rI0 fun i j => .bl (g i j)) (fun x y n Φ => match x, y with
      | .int i, .int j => Φ (.bl (g i j)) n
      | _, _ => False) := ⟨fun _ => h, fun H Hs x y d e n Φ Q W r1 r2 h k => by
  cases d <;> cases e <;> try exact h.elim
  rename_i i j
  exact ⟨i, j, rep_int r1, rep_int r2, k _ Hs H _ n .rfl W mk_bl h⟩⟩
theorem o_lt : DOp c X (compareOp .Lt) (rI0 fun i j => .bl (decide (i < j))) wLt := dop_ib op_lt
theorem o_le : DOp c X (compareOp .LtE) (rI0 fun i j => .bl (decide (i ≤ j))) wLe := dop_ib op_le
theorem o_gt : DOp c X (compareOp .Gt) (rI0 fun i j => .bl (decide (j < i))) wGt := dop_ib op_gt
theorem o_ge : DOp c X (compareOp .GtE) (rI0 fun i j => .bl (decide (j ≤ i))) wGe := dop_ib op_ge
def isNo : D → Bool
  | .non => true
  | _ => false
def wIsN : DO := fun x y n Φ => match y with
  | .non => Φ (.bl (isNo x)) n
  | _ => False
def wNotN : DO := fun x y n Φ => match y with
  | .non => Φ (.bl (!isNo x)) n
  | _ => False
theorem isnon {c : Wr} {H : Hp} {d : D} {v : V} (r : Rep c H d v) : decide (v = .non) = isNo d := by
  cases d
  · simp only [Rep] at r; subst r; rfl
  · simp only [Rep] at r; subst r; rfl
  · simp only [Rep] at r; subst r; rfl
  · simp only [Rep] at r; subst r; rfl
  · simp only [Rep] at r; obtain ⟨a, vs, rfl, _⟩ := r; rfl
  · simp only [Rep] at r; obtain ⟨a, vs, rfl, _⟩ := r; rfl
  all_goals (simp only [Rep] at r; obtain ⟨a, rfl, _⟩ := r; rfl)
theorem o_isN : DOp c X (compareOp .Is) (fun x y H Q => y = .non ∧ Q (.bl (decide (x = .non))) H) wIsN := ⟨fun _ => op_isN, fun H Hs x y d e n Φ Q W r1 r2 h k => by
  cases e <;> try exact h.elim
  simp only [Rep] at r2
  refine ⟨r2, ?_⟩
  rw [isnon r1]
  exact k _ Hs H _ n .rfl W mk_bl h⟩
theorem o_notN : DOp c X (compareOp .IsNot) (fun x y H Q => y = .non ∧ Q (.bl (!decide (x = .non))) H) wNotN := ⟨fun _ => op_notN, fun H Hs x y d e n Φ Q W r1 r2 h k => by
  cases e <;> try exact h.elim
  simp only [Rep] at r2
  refine ⟨r2, ?_⟩
  rw [isnon r1]
  exact k _ Hs H _ n .rfl W mk_bl h⟩
def wIsB : DO := fun x y n Φ => match x, y with
  | .bl i, .bl j => Φ (.bl (decide (i = j))) n
  | _, _ => False
def wNotB : DO := fun x y n Φ => match x, y with
  | .bl i, .bl j => Φ (.bl (!decide (i = j))) n
  | _, _ => False
theorem o_isB : DOp c X (compareOp .Is) rIsB wIsB := ⟨fun _ => op_isBl, fun H Hs x y d e n Φ Q W r1 r2 h k => by
  cases d <;> cases e <;> try exact h.elim
  exact ⟨_, _, rep_bl r1, rep_bl r2, k _ Hs H _ n .rfl W mk_bl h⟩⟩
theorem o_notB : DOp c X (compareOp .IsNot) rNotB wNotB := ⟨fun _ => op_notBl, fun H Hs x y d e n Φ Q W r1 r2 h k => by
  cases d <;> cases e <;> try exact h.elim
  exact ⟨_, _, rep_bl r1, rep_bl r2, k _ Hs H _ n .rfl W mk_bl h⟩⟩
/-! ### == and != of data -/
mutual
/-- ints, lists and tuples of such -/
def plain : D → Bool
  | .int _ => true
  | .lst xs => plainL xs
  | .tup xs => plainL xs
  | _ => false
def plainL : List D → Bool
  | [] => true
  | d :: ds => plain d && plainL ds
end
mutual
def eqD : D → D → Bool
  | .int i, .int j => i == j
  | .lst xs, .lst ys => eqDL xs ys
  | .tup xs, .tup ys => eqDL xs ys
  | _, _ => false
def eqDL : List D → List D → Bool
  | [], [] => true
  | x :: xs, y :: ys => eqD x y && eqDL xs ys
  | _, _ => false
end
mutual
def dep : D → Nat
  | .lst xs => depL xs + 1
  | .tup xs => depL xs + 1
  | _ => 0
def depL : List D → Nat
  | [] => 0
  | d :: ds => max (dep d) (depL ds)
end
mutual
def toPy : D → PyData
  | .int i => .int i
  | .lst xs => .list (toPyL xs)
  | .tup xs => .tuple (toPyL xs)
  | _ => .none
def toPyL : List D → List PyData
  | [] => []
  | d :: ds => toPy d :: toPyL ds
end
mutual
theorem toPy_dp {c : Wr} {H : Hp} : ∀ (d : D) (v : V), plain d = true → Rep c H d v → Dp c.K H v (toPy d)
  | .int i, v, _, r => by rw [rep_int r]; simp only [toPy]; exact .int i
  | .lst xs, v, p, r => by
    obtain ⟨a, vs, rfl, h1, h2⟩ := rep_lst r
    simp only [plain] at p
    simp only [toPy]
    exact .lst (SqL.of h1) (toPyL_dp xs vs p h2)
  | .tup xs, v, p, r => by
    obtain ⟨a, vs, rfl, h1, h2⟩ := rep_tup r
    simp only [plain] at p
    simp only [toPy]
    exact .tup h1 (toPyL_dp xs vs p h2)
  | .non, _, p, _ => by simp [plain] at p
  | .bl _, _, p, _ => by simp [plain] at p
  | .str _, _, p, _ => by simp [plain] at p
  | .crv _ _, _, p, _ => by simp [plain] at p
  | .fnc _ _ _ _ _, _, p, _ => by simp [plain] at p
  | .gen, _, p, _ => by simp [plain] at p
  | .scr _, _, p, _ => by simp [plain] at p
theorem toPyL_dp {c : Wr} {H : Hp} : ∀ (ds : List D) (vs : List V), plainL ds = true → RepL c H ds vs → DpAll c.K H vs (toPyL ds)
  | [], _, _, r => by simp only [RepL] at r; subst r; simp only [toPyL]; exact .nil
  | d :: ds, _, p, r => by
    simp only [RepL] at r
    obtain ⟨v, us, rfl, r1, r2⟩ := r
    simp only [plainL, Bool.and_eq_true] at p
    simp only [toPyL]
    exact .cons (toPy_dp d v p.1 r1) (toPyL_dp ds us p.2 r2)
end
mutual
theorem toPy_lay : ∀ (d : D), (toPy d).canLay0 = true
  | .int i => by simp only [toPy, PyData.canLay0]
  | .lst xs => by simp only [toPy, PyData.canLay0]; exact toPyL_lay xs
  | .tup xs => by simp only [toPy, PyData.canLay0]; exact toPyL_lay xs
  | .non => by simp only [toPy, PyData.canLay0]
  | .bl _ => by simp only [toPy, PyData.canLay0]
  | .str _ => by simp only [toPy, PyData.canLay0]
  | .crv _ _ => by simp only [toPy, PyData.canLay0]
  | .fnc _ _ _ _ _ => by simp only [toPy, PyData.canLay0]
  | .gen => by simp only [toPy, PyData.canLay0]
  | .scr _ => by simp only [toPy, PyData.canLay0]
theorem toPyL_lay : ∀ (ds : List D), PyData.canLayAll0 (toPyL ds) = true
  | [] => by simp only [toPyL, PyData.canLayAll0]
  | d :: ds => by simp only [toPyL, PyData.canLayAll0, toPy_lay d, toPyL_lay ds, Bool.and_self]
end
mutual
theorem toPy_dep : ∀ (d : D), (toPy d).depth = dep d
  | .int i => by simp only [toPy, PyData.depth, dep]
  | .lst xs => by simp only [toPy, PyData.depth, dep, toPyL_dep xs]
  | .tup xs => by simp only [toPy, PyData.depth, dep, toPyL_dep xs]
  | .non => by simp only [toPy, PyData.depth, dep]
  | .bl _ => by simp only [toPy, PyData.depth, dep]
  | .str _ => by simp only [toPy, PyData.depth, dep]
  | .crv _ _ => by simp only [toPy, PyData.depth, dep]
  | .fnc _ _ _ _ _ => by simp only [toPy, PyData.depth, dep]
  | .gen => by simp only [toPy, PyData.depth, dep]
  | .scr _ => by simp only [toPy, PyData.depth, dep]
theorem toPyL_dep : ∀ (ds : List D), PyData.depthAll (toPyL ds) = depL ds
  | [] => by simp only [toPyL, PyData.depthAll, depL]
  | d :: ds => by simp only [toPyL, PyData.depthAll, depL, toPy_dep d, toPyL_dep ds]
end
mutual
theorem toPy_eqv : ∀ (d e : D), plain d = true → plain e = true → PyData.eqv (toPy d) (toPy e) = eqD d e
  | .int i, .int j, _, _ => by simp only [toPy, PyData.eqv, eqD]
  | .int i, .lst ys, _, _ => by simp only [toPy, PyData.eqv, eqD]
  | .int i, .tup ys, _, _ => by simp only [toPy, PyData.eqv, eqD]
  | .lst xs, .int j, _, _ => by simp only [toPy, PyData.eqv, eqD]
  | .lst xs, .lst ys, p, q => by simp only [plain] at p q; simp only [toPy, PyData.eqv, eqD]; exact toPyL_eqv xs ys p q
  | .lst xs, .tup ys, _, _ => by simp only [toPy, PyData.eqv, eqD]
  | .tup xs, .int j, _, _ => by simp only [toPy, PyData.eqv, eqD]
  | .tup xs, .lst ys, _, _ => by simp only [toPy, PyData.eqv, eqD]
  | .tup xs, .tup ys, p, q => by simp only [plain] at p q; simp only [toPy, PyData.eqv, eqD]; exact toPyL_eqv xs ys p q
  | .non, _, p, _ | .bl _, _, p, _ | .str _, _, p, _ | .crv _ _, _, p, _ | .fnc _ _ _ _ _, _, p, _ | .gen, _, p, _ | .scr _, _, p, _ => by simp [plain] at p
  | _, .non, _, p | _, .bl _, _, p | _, .str _, _, p | _, .crv _ _, _, p | _, .fnc _ _ _ _ _, _, p | _, .gen, _, p | _, .scr _, _, p => by simp [plain] at p
theorem toPyL_eqv : ∀ (ds es : List D), plainL ds = true → plainL es = true → PyData.eqvAll (toPyL ds) (toPyL es) = eqDL ds es
  | [], [], _, _ => by simp only [toPyL, PyData.eqvAll, eqDL]
  | [], e :: es, _, _ => by simp only [toPyL, PyData.eqvAll, eqDL]
  | d :: ds, [], _, _ => by simp only [toPyL, PyData.eqvAll, eqDL]
  | d :: ds, e :: es, p, q => by
    simp only [plainL, Bool.and_eq_true] at p q
    simp only [toPyL, PyData.eqvAll, eqDL, toPy_eqv d e p.1 q.1, toPyL_eqv ds es p.2 q.2]
end
def okEq (x y : D) : Prop := plain x = true ∧ plain y = true ∧ dep x ≤ 64 ∧ dep y ≤ 64
def wEq : DO := fun x y n Φ => match x, y with
  | .int i, .int j => Φ (.bl (decide (i = j))) n
  | .bl i, .bl j => Φ (.bl (decide (i = j))) n
  | .str i, .str j => Φ (.bl (decide (i = j))) n
  | x, y => okEq x y ∧ Φ (.bl (eqD x y)) n
def wNe : DO := fun x y n Φ => match x, y with
  | .int i, .int j => Φ (.bl (!decide (i = j))) n
  | .bl i, .bl j => Φ (.bl (!decide (i = j))) n
  | .str i, .str j => Φ (.bl (!decide (i = j))) n
  | x, y => okEq x y ∧ Φ (.bl (!eqD x y)) n
theorem shaped_of {d : D} (h : dep d ≤ 64) : SeqAt.shaped (toPy d) = true := by
  unfold SeqAt.shaped
  rw [toPy_lay, toPy_dep, Bool.true_and]
  exact decide_eq_true h
theorem dv_bl (i j : Bool) : decide (V.bl i = V.bl j) = decide (i = j) := by simp
theorem dv_int (i j : Int) : decide (V.int i = V.int j) = decide (i = j) := by simp
theorem dv_str (i j : Str) : decide (V.str i = V.str j) = decide (i = j) := by simp
theorem rep_str {c : Wr} {H : Hp} {i : Str} {v : V} (h : Rep c H (.str i) v) : v = .str i := by simpa only [Rep] using h
theorem o_eq (hu : X.A.units + 64 < cLine) : DOp c X (compareOp .Eq) (fun x y H Q => rEq x y H Q ∨ rEqD c.K x y H Q) wEq := ⟨fun hK => hK ▸ (op_eq.or (op_eqD hu)), fun H Hs x y d e n Φ Q W r1 r2 h k => by
  have gen : okEq d e ∧ Φ (.bl (eqD d e)) n → (rEq x y H Q ∨ rEqD c.K x y H Q) := fun ⟨⟨p1, p2, q1, q2⟩, h⟩ => by
    refine .inr ⟨toPy d, toPy e, toPy_dp d x p1 (Rep.mono W.sub _ _ r1), toPy_dp e y p2 (Rep.mono W.sub _ _ r2), shaped_of q1, shaped_of q2, ?_⟩
    rw [toPy_eqv d e p1 p2]
    exact k _ Hs H _ n .rfl W mk_bl h
  cases d <;> cases e <;> try exact gen h
  · rename_i i j
    rw [rep_bl r1, rep_bl r2]
    refine .inl ⟨rfl, ?_⟩
    rw [dv_bl i j]
    exact k _ Hs H _ n .rfl W mk_bl h
  · rename_i i j
    rw [rep_int r1, rep_int r2]
    refine .inl ⟨rfl, ?_⟩
    rw [dv_int i j]
    exact k _ Hs H _ n .rfl W mk_bl h
  · rename_i i j
    rw [rep_str r1, rep_str r2]
    refine .inl ⟨rfl, ?_⟩
    rw [dv_str i j]
    exact k _ Hs H _ n .rfl W mk_bl h⟩
theorem o_ne (hu : X.A.units + 64 < cLine) : DOp c X (compareOp .NotEq) (fun x y H Q => rNe x y H Q ∨ rNeD c.K x y H Q) wNe := ⟨fun hK => hK ▸ (op_ne.or (op_neD hu)), fun H Hs x y d e n Φ Q W r1 r2 h k => by
  have gen : okEq d e ∧ Φ (.bl (!eqD d e)) n → (rNe x y H Q ∨ rNeD c.K x y H Q) := fun ⟨⟨p1, p2, q1, q2⟩, h⟩ => by
    refine .inr ⟨toPy d, toPy e, toPy_dp d x p1 (Rep.mono W.sub _ _ r1), toPy_dp e y p2 (Rep.mono W.sub _ _ r2), shaped_of q1, shaped_of q2, ?_⟩
    rw [toPy_eqv d e p1 p2]
    exact k _ Hs H _ n .rfl W mk_bl h
  cases d <;> cases e <;> try exact gen h
  · rename_i i j
    rw [rep_bl r1, rep_bl r2]
    refine .inl ⟨rfl, ?_⟩
    rw [dv_bl i j]
    exact k _ Hs H _ n .rfl W mk_bl h
  · rename_i i j
    rw [rep_int r1, rep_int r2]
    refine .inl ⟨rfl, ?_⟩
    rw [dv_int i j]
    exact k _ Hs H _ n .rfl W mk_bl h
  · rename_i i j
    rw [rep_str r1, rep_str r2]
    refine .inl ⟨rfl, ?_⟩
    rw [dv_str i j]
    exact k _ Hs H _ n .rfl W mk_bl h⟩
/-! not in, of an int in a tuple or list of ints -/
def intsOf : List D → Option (List Int)
  | [] => some []
  | .int i :: r => (intsOf r).map (i :: ·)
  | _ => none
def wNotIn : DO := fun x y n Φ => match x, y with
  | .int i, .tup ds => ∃ ns : List Int, ds = ns.map D.int ∧ Φ (.bl (!decide (i ∈ ns))) n
  | .int i, .lst ds => ∃ ns : List Int, ds = ns.map D.int ∧ Φ (.bl (!decide (i ∈ ns))) n
  | _, _ => False
theorem inV_ints (i : Int) : ∀ ns : List Int, inV (.int i) (ns.map V.int) = decide (i ∈ ns)
  | [] => rfl
  | j :: ns => by
    have ih := inV_ints i ns
    unfold inV at ih ⊢
    rw [List.map_cons, List.any_cons, ih]
    have : eqV (V.int j) (V.int i) = (j == i) := rfl
    rw [this]
    by_cases h : i = j
    · subst h; simp
    · have h' : ¬ j = i := fun e => h e.symm
      simp [h, h']
theorem flat_ints (ns : List Int) : (ns.map V.int).all flatV = true := by
  rw [List.all_eq_true]
  intro x hx
  obtain ⟨i, _, rfl⟩ := List.mem_map.mp hx
  rfl
theorem o_notIn : DOp c X (compareOp .NotIn) (rIn c.K true) wNotIn := ⟨fun hK => hK ▸ (op_notIn_seq), fun H Hs x y d e n Φ Q W r1 r2 h k => by
  cases d <;> cases e <;> try exact h.elim
  · obtain ⟨ns, rfl, h⟩ := h
    obtain ⟨a, vs, rfl, ha, hr⟩ := rep_lst r2
    rw [hr.ints] at ha
    rw [rep_int r1]
    refine ⟨a, ns.map V.int, rfl, .inl (SqL.of (W.sub _ _ ha)), rfl, flat_ints ns, ?_⟩
    show Q (.bl (!inV (V.int _) (ns.map V.int))) H
    rw [inV_ints]
    exact k _ Hs H _ n .rfl W mk_bl h
  · obtain ⟨ns, rfl, h⟩ := h
    obtain ⟨a, vs, rfl, ha, hr⟩ := rep_tup r2
    rw [hr.ints] at ha
    rw [rep_int r1]
    refine ⟨a, ns.map V.int, rfl, .inr (W.sub.seqT ha), rfl, flat_ints ns, ?_⟩
    show Q (.bl (!inV (V.int _) (ns.map V.int))) H
    rw [inV_ints]
    exact k _ Hs H _ n .rfl W mk_bl h⟩
/-! -n -/
def dNeg (ta : DT) : DT := fun ρ n Φ => ta ρ n fun d n1 => match d with
  | .int i => Φ (.int (-i)) n1
  | _ => False
theorem de_neg (ha : DE c X a t_ha ta) : DE c X (.UnaryOp .USub a pos) (tUn (rU fun i => .int (-i)) t_ha) (dNeg ta) := by
  obtain ⟨a1, a2⟩ := ha
  refine ⟨fun hK => pe_un un_neg (a1 hK), fun H0 σ H Hs ρ n Φ Q W S h k => ?_⟩
  refine a2 H0 σ H Hs ρ n _ _ W S h fun v Hs1 H1 d n1 g1 W1 r1 h1 => ?_
  cases d <;> try exact h1.elim
  exact ⟨_, rep_int r1, k _ Hs1 H1 _ n1 g1 W1 mk_int h1⟩
end
end DL
end
section
set_option Elab.async false
set_option maxRecDepth 100000
set_option linter.all false
/-! What is walked; for, while, comprehensions by data. -/
namespace DL
open PySem PySem.Spec PyProof.Rows L2
/-- J yields what its says, in every later world -/
def WJ (c : Wr) (J : It) (its : List D) (Hs0 : Hp) : Prop := ∀ (i : Nat) (H Hs : Hp) (n : Nat), Sub Hs0 Hs → Wld c Hs H n →
  (∀ d, its[i]? = some d → J.go i H ∧ ∀ x H', J.yld i H x H' → ∃ Hs', Gro c Hs H Hs' H' ∧ Wld c Hs' H' n ∧ Rep c Hs' d x) ∧ (its.length ≤ i → J.stop i H)
def DI (c : Wr) (X : Cx) (tg iter : Expr) (wi : TI) (τ : DTF) : Prop := (X.K = c.K → PI X tg iter wi) ∧ ∀ (H0 : Hp) (σ : L2.St) (H Hs : Hp) (ρ : List Sl) (n : Nat) (Φ : List D → Nat → Prop) (R : It → Hp → Prop),
  Wld c Hs H n → SlOk c H0 Hs H σ ρ → τ ρ n Φ → (∀ J Hs' H' its n', Gro c Hs H Hs' H' → Wld c Hs' H' n' → WJ c J its Hs' → Φ its n' → R J H') → wi σ H R
/-- lo, lo + 1, .. -/
def rng (lo : Int) (k : Nat) : List D := (List.range k).map fun i : Nat => D.int (lo + (i : Int))
def rngD (hi : Int) (k : Nat) : List D := (List.range k).map fun i : Nat => D.int (hi + (i : Int) * (-1))
def enm (xs : List D) : List D := xs.mapIdx fun i x => D.tup [.int (i : Int), x]
theorem rng_get {lo : Int} {k i : Nat} {d : D} (h : (rng lo k)[i]? = some d) : i < k ∧ d = .int (lo + (i : Int)) := by
  unfold rng at h
  rw [List.getElem?_map] at h
  by_cases hi : i < k
  · rw [List.getElem?_range hi] at h
    exact ⟨hi, (Option.some.inj h).symm⟩
  · rw [List.getElem?_eq_none (by simp; omega)] at h; cases h
theorem rngD_get {lo : Int} {k i : Nat} {d : D} (h : (rngD lo k)[i]? = some d) : i < k ∧ d = .int (lo + (i : Int) * (-1)) := by
  unfold rngD at h
  rw [List.getElem?_map] at h
  by_cases hi : i < k
  · rw [List.getElem?_range hi] at h
    exact ⟨hi, (Option.some.inj h).symm⟩
  · rw [List.getElem?_eq_none (by simp; omega)] at h; cases h
theorem rng_len (lo : Int) (k : Nat) : (rng lo k).length = k := by unfold rng; simp
theorem rngD_len (lo : Int) (k : Nat) : (rngD lo k).length = k := by unfold rngD; simp
theorem enm_len (xs : List D) : (enm xs).length = xs.length := by unfold enm; simp
theorem enm_get {xs : List D} {i : Nat} {d : D} (h : (enm xs)[i]? = some d) : ∃ x, xs[i]? = some x ∧ d = .tup [.int (i : Int), x] := by
  unfold enm at h
  rw [List.getElem?_mapIdx] at h
  cases e : xs[i]? with
  | none => rw [e] at h; cases h
  | some x => rw [e] at h; exact ⟨x, rfl, (Option.some.inj h).symm⟩
section
variable {c : Wr} {X : Cx} {tg a b e : Expr} {ta tb : DT} {pos p : Pos}
def iRg1 (ta : DT) : DTF := fun ρ n Φ => ta ρ n fun d n1 => match d with
  | .int j => (-(2 ^ 62) ≤ j ∧ j < 2 ^ 62) ∧ Φ (rng 0 j.toNat) n1
  | _ => False
theorem wj_rng {Hs : Hp} {lo : Int} {k : Nat} : WJ c (Itr lo k) (rng lo k) Hs := fun i H Hs' n _ W => ⟨fun d h => by
  obtain ⟨h1, rfl⟩ := rng_get h
  exact ⟨h1, fun x H' ⟨e1, e2⟩ => ⟨Hs', by rw [e1]; exact .rfl, by rw [e1]; exact W, by rw [e2]; exact mk_int⟩⟩, fun h => by rw [rng_len] at h; exact h⟩
theorem di_rng1 (ha : DE c X a t_ha ta) (hg : Gl X "range") (hm : X.mg "range" = none) (hs : starEach [a] X.env = [(false, eval a X.env)] := by rfl) : DI c X tg (.Call (.Name "range" p) [a] [] pos) (iRng1 (tCons t_ha tNil)) (iRg1 ta) := by
  obtain ⟨a1, a2⟩ := ha
  refine ⟨fun hK => pi_range1 hg hm (pa_cons (a1 hK) pa_nil hs) hs, fun H0 σ H Hs ρ n Φ R W S h k => ?_⟩
  refine a2 H0 σ H Hs ρ n _ _ W S h fun v Hs1 H1 d n1 g1 W1 r1 h1 => ?_
  cases d <;> try exact h1.elim
  rename_i j
  obtain ⟨⟨q1, q2⟩, h1⟩ := h1
  rw [rep_int r1]
  exact ⟨j, rfl, q1, q2, k _ Hs1 H1 _ n1 g1 W1 wj_rng h1⟩
def iRg2 (ta tb : DT) : DTF := fun ρ n Φ => ta ρ n fun d n1 => tb ρ n1 fun e n2 => match d, e with
  | .int i, .int j => (-(2 ^ 62) ≤ i ∧ i < 2 ^ 62 ∧ -(2 ^ 62) ≤ j ∧ j < 2 ^ 62) ∧ Φ (rng i (j - i).toNat) n2
  | _, _ => False
theorem di_rng2 (ha : DE c X a t_ha ta) (hb : DE c X b t_hb tb) (hg : Gl X "range") (hm : X.mg "range" = none) (hs : starEach [a, b] X.env = [(false, eval a X.env), (false, eval b X.env)] := by rfl) (hs2 : starEach [b] X.env = [(false, eval b X.env)] := by rfl) :
    DI c X tg (.Call (.Name "range" p) [a, b] [] pos) (iRng2 (tCons t_ha (tCons t_hb tNil))) (iRg2 ta tb) := by
  obtain ⟨a1, a2⟩ := ha
  obtain ⟨b1, b2⟩ := hb
  refine ⟨fun hK => pi_range2 hg hm (pa_cons (a1 hK) (pa_cons (b1 hK) pa_nil (by rw [hs2]; rfl)) (by rw [hs, hs2])) hs hs2, fun H0 σ H Hs ρ n Φ R W S h k => ?_⟩
  refine a2 H0 σ H Hs ρ n _ _ W S h fun v Hs1 H1 d n1 g1 W1 r1 h1 => ?_
  refine b2 H0 σ H1 Hs1 ρ n1 _ _ W1 (S.gro g1) h1 fun u Hs2 H2 e n2 g2 W2 r2 h2 => ?_
  cases d <;> cases e <;> try exact h2.elim
  rename_i i j
  obtain ⟨q1, h2⟩ := h2
  rw [rep_int r1, rep_int r2]
  exact ⟨i, j, rfl, q1, k _ Hs2 H2 _ n2 (g1.trans g2 W2) W2 wj_rng h2⟩
/-- range(i, j, -1) -/
def iRg3 (ta tb : DT) : DTF := fun ρ n Φ => ta ρ n fun d n1 => tb ρ n1 fun e n2 => match d, e with
  | .int i, .int j => (-(2 ^ 62) ≤ i ∧ i < 2 ^ 62 ∧ -(2 ^ 62) ≤ j ∧ j < 2 ^ 62) ∧ Φ (rngD i (i - j).toNat) n2
  | _, _ => False
theorem wj_rngD {Hs : Hp} {lo : Int} {k : Nat} : WJ c (Itc lo (-1) k) (rngD lo k) Hs := fun i H Hs' n _ W => ⟨fun d h => by
  obtain ⟨h1, rfl⟩ := rngD_get h
  exact ⟨h1, fun x H' ⟨e1, e2⟩ => ⟨Hs', by rw [e1]; exact .rfl, by rw [e1]; exact W, by rw [e2]; exact mk_int⟩⟩, fun h => by rw [rngD_len] at h; exact h⟩
theorem di_rng3 {j1 : Nat} {p1 p2 : Pos} (ha : DE c X a t_ha ta) (hb : DE c X b t_hb tb) (hg : Gl X "range") (hm : X.mg "range" = none)
    (hs1 : starEach [a, b, (.UnaryOp .USub (.Constant (.int 1) j1 p1) p2)] X.env = (false, eval a X.env) :: starEach [b, (.UnaryOp .USub (.Constant (.int 1) j1 p1) p2)] X.env := by rfl)
    (hs2 : starEach [b, (.UnaryOp .USub (.Constant (.int 1) j1 p1) p2)] X.env = (false, eval b X.env) :: starEach [(.UnaryOp .USub (.Constant (.int 1) j1 p1) p2)] X.env := by rfl)
    (hpl : (backTo pos (starEach [b, (.UnaryOp .USub (.Constant (.int 1) j1 p1) p2)] X.env)).any (·.1) = false := by rfl) :
    DI c X tg (.Call (.Name "range" p) [a, b, (.UnaryOp .USub (.Constant (.int 1) j1 p1) p2)] [] pos) (iRng3 (tCons t_ha (tCons t_hb (tCons (tUn (rU fun i => .int (-i)) (tC (.int 1))) tNil)))) (iRg3 ta tb) := by
  obtain ⟨a1, a2⟩ := ha
  obtain ⟨b1, b2⟩ := hb
  refine ⟨fun hK => pi_range3 hg hm (pa_cons (a1 hK) (pa_cons (b1 hK) (pa_cons (pe_un un_neg pe_int) pa_nil) hs2) hs1) hs1 hpl, fun H0 σ H Hs ρ n Φ R W S h k => ?_⟩
  refine a2 H0 σ H Hs ρ n _ _ W S h fun v Hs1 H1 d n1 g1 W1 r1 h1 => ?_
  refine b2 H0 σ H1 Hs1 ρ n1 _ _ W1 (S.gro g1) h1 fun u Hs2 H2 e n2 g2 W2 r2 h2 => ?_
  cases d <;> cases e <;> try exact h2.elim
  rename_i i j
  obtain ⟨⟨q1, q2, q3, q4⟩, h2⟩ := h2
  rw [rep_int r1, rep_int r2]
  exact ⟨1, rfl, i, j, -1, (i - j).toNat, rfl, RgC.neg q1 q2 q3 q4, k _ Hs2 H2 _ n2 (g1.trans g2 W2) W2 wj_rngD h2⟩
/-- over a list, a tuple -/
def iSeq (ta : DT) : DTF := fun ρ n Φ => ta ρ n fun d n1 => match d with
  | .lst xs => Φ xs n1
  | _ => False
def iSeqT (ta : DT) : DTF := fun ρ n Φ => ta ρ n fun d n1 => match d with
  | .tup xs => Φ xs n1
  | _ => False
theorem SqL.det {K : PySem.W.Frag} {H : Hp} {a : Addr} {xs ys : List V} (h : H a = some (.lst xs)) (h' : SqL K H a ys) : (∀ o, K.lookup a = some o → False) → xs = ys := fun hk => by
  rcases h' with (h' | ⟨o, h'⟩) | ⟨o, _, _, h', _⟩
  · rw [h] at h'; cases h'; rfl
  · rw [h] at h'; cases h'
  · exact (hk o h').elim
theorem di_list (ha : DE c X a t_ha ta) : DI c X tg a (iList c.K t_ha) (iSeq ta) := by
  obtain ⟨a1, a2⟩ := ha
  refine ⟨fun hK => hK ▸ pi_list (a1 hK), fun H0 σ H Hs ρ n Φ R W S h k => ?_⟩
  refine a2 H0 σ H Hs ρ n _ _ W S h fun v Hs1 H1 d n1 g1 W1 r1 h1 => ?_
  cases d <;> try exact h1.elim
  rename_i xs
  obtain ⟨l, vs, rfl, hl, r⟩ := rep_lst r1
  refine ⟨l, rfl, ⟨vs, SqL.of (W1.sub _ _ hl)⟩, k _ Hs1 H1 xs n1 g1 W1 (fun i H' Hs' m sb W' => ⟨fun d hd => ?_, fun hi => ⟨vs, SqL.of (W'.sub _ _ (sb _ _ hl)), by rw [r.length]; exact hi⟩⟩) h1⟩
  obtain ⟨x, hx, rx⟩ := r.get hd
  refine ⟨⟨vs, x, SqL.of (W'.sub _ _ (sb _ _ hl)), hx⟩, fun y H'' ⟨e1, e2⟩ => ⟨Hs', by rw [e1]; exact .rfl, by rw [e1]; exact W', ?_⟩⟩
  have := e2 vs (SqL.of (W'.sub _ _ (sb _ _ hl)))
  rw [hx] at this
  cases this
  exact Rep.mono sb _ _ rx
theorem di_tup (ha : DE c X a t_ha ta) : DI c X tg a (iTup c.K t_ha) (iSeqT ta) := by
  obtain ⟨a1, a2⟩ := ha
  refine ⟨fun hK => hK ▸ pi_tup (a1 hK), fun H0 σ H Hs ρ n Φ R W S h k => ?_⟩
  refine a2 H0 σ H Hs ρ n _ _ W S h fun v Hs1 H1 d n1 g1 W1 r1 h1 => ?_
  cases d <;> try exact h1.elim
  rename_i xs
  obtain ⟨l, vs, rfl, hl, r⟩ := rep_tup r1
  refine ⟨l, rfl, ⟨vs, W1.sub.seqT hl⟩, k _ Hs1 H1 xs n1 g1 W1 (fun i H' Hs' m sb W' => ⟨fun d hd => ?_, fun hi => ⟨vs, W'.sub.seqT (sb.seqT hl), by rw [r.length]; exact hi⟩⟩) h1⟩
  obtain ⟨x, hx, rx⟩ := r.get hd
  refine ⟨⟨vs, x, W'.sub.seqT (sb.seqT hl), hx⟩, fun y H'' ⟨e1, e2⟩ => ⟨Hs', by rw [e1]; exact .rfl, by rw [e1]; exact W', ?_⟩⟩
  have := e2 vs (W'.sub.seqT (sb.seqT hl))
  rw [hx] at this
  cases this
  exact Rep.mono sb _ _ rx
def iEnm (ta : DT) : DTF := fun ρ n Φ => ta ρ n fun d n1 => match d with
  | .lst xs => Φ (enm xs) n1
  | _ => False
theorem di_enum {elts : List Expr} {kk : Nat} {tpos : Pos} (ha : DE c X a t_ha ta) (hg : Gl X "enumerate") (hm : X.mg "enumerate" = none) (hs : starEach [a] X.env = [(false, eval a X.env)] := by rfl) :
    DI c X (.Tuple elts kk tpos) (.Call (.Name "enumerate" p) [a] [] pos) (iEnum c.K (tCons t_ha tNil)) (iEnm ta) := by
  obtain ⟨a1, a2⟩ := ha
  refine ⟨fun hK => hK ▸ pi_enum hg hm (pa_cons (a1 hK) pa_nil hs) hs, fun H0 σ H Hs ρ n Φ R W S h k => ?_⟩
  refine a2 H0 σ H Hs ρ n _ _ W S h fun v Hs1 H1 d n1 g1 W1 r1 h1 => ?_
  cases d <;> try exact h1.elim
  rename_i xs
  obtain ⟨l, vs, rfl, hl, r⟩ := rep_lst r1
  refine ⟨l, vs, rfl, SqL.of (W1.sub _ _ hl), k _ Hs1 H1 (enm xs) n1 g1 W1 (fun i H' Hs' m sb W' => ⟨fun d hd => ?_, fun hi => ⟨vs, SqL.of (W'.sub _ _ (sb _ _ hl)), by rw [r.length]; rw [enm_len] at hi; exact hi⟩⟩) h1⟩
  obtain ⟨x, hx, rfl⟩ := enm_get hd
  obtain ⟨w, hw, rw'⟩ := r.get hx
  refine ⟨⟨vs, w, SqL.of (W'.sub _ _ (sb _ _ hl)), hw⟩, fun y H'' ⟨T, z, ey, hT, e1, e2⟩ => ?_⟩
  have := e2 vs (SqL.of (W'.sub _ _ (sb _ _ hl)))
  rw [hw] at this
  cases this
  have gr := Gro.new (o := .tup [.int (i : Nat), w]) W' hT
  refine ⟨upd Hs' T (.tup [.int (i : Nat), w]), by rw [e1]; exact gr, by rw [e1]; exact W'.new hT, ?_⟩
  simp only [Rep]
  refine ⟨T, _, ey, SqT.of upd_same, ?_⟩
  simp only [RepL]
  exact ⟨_, _, rfl, mk_int, _, _, rfl, Rep.mono gr.s _ _ (Rep.mono sb _ _ rw'), rfl⟩
end
/-! ### for, while -/
theorem Gro.at {c : Wr} {Hs0 H0 Hs H : Hp} (g : Gro c Hs0 H0 Hs H) : Gro c Hs H0 Hs H := ⟨Sub.rfl, g.h, fun _ h _ => h⟩
theorem Gro.join {c : Wr} {Hs0 H0 Hs H Hs3 H3 : Hp} (g : Gro c Hs0 H0 Hs H) (g3 : Gro c Hs H0 Hs3 H3) : Gro c Hs0 H0 Hs3 H3 := ⟨g.s.trans g3.s, g3.h, fun b h1 h2 => g3.f b (g.f b h1 h2) h2⟩
def forW (γ : DG) (tb : DS) (E : DN) : List D → List Sl → Nat → Prop
  | [], ρ, n => E.nx ρ n
  | d :: ds, ρ, n => γ d ρ n fun ρ' n' => tb ⟨forW γ tb E ds, E.rt⟩ ρ' n'
def sFor (τ : DTF) (γ : DG) (tb : DS) : DS := fun E ρ n => τ ρ n fun its n1 => forW γ tb E its ρ n1
theorem forW_inv {γ : DG} {tb : DS} {E : DN} (I : Nat → List Sl → Nat → Prop) {its : List D} {ρ : List Sl} {n : Nat} (h0 : I 0 ρ n)
    (hs : ∀ (i : Nat) (d : D) ρ n (N : List Sl → Nat → Prop), its[i]? = some d → I i ρ n → (∀ ρ n, I (i + 1) ρ n → N ρ n) → γ d ρ n fun ρ' n' => tb ⟨N, E.rt⟩ ρ' n') (hd : ∀ ρ n, I its.length ρ n → E.nx ρ n) : forW γ tb E its ρ n := by
  have key : ∀ (k i : Nat) (ρ : List Sl) (n : Nat), its.length = i + k → I i ρ n → forW γ tb E (its.drop i) ρ n := by
    intro k
    induction k with
    | zero =>
      intro i ρ n hl h
      rw [List.drop_eq_nil_of_le (by omega)]
      have e : i = its.length := by omega
      subst e
      exact hd ρ n h
    | succ k ih =>
      intro i ρ n hl h
      have hi : i < its.length := by omega
      rw [List.drop_eq_getElem_cons hi]
      exact hs i its[i] ρ n _ (List.getElem?_eq_getElem hi) h fun ρ n h => ih (i + 1) ρ n (by omega) h
  have := key its.length 0 ρ n (by omega) h0
  simpa using this
section
variable {c : Wr} {X : Cx} {tg iter : Expr} {body : List Stmt} {pos : Pos} {τ : DTF} {γ : DG} {tb : DS} {bt : DTB}
theorem st_for (hp : PassesOwn (model X.prog X.w) X.A X.env X.xe) (hc : X.calm = true) (hi : DI c X tg iter t_hi τ) (hg : DTg c X tg t_hg γ) (hb : DSs c X body t_hb tb) (hs : ∀ x, foldedSetIterable iter X.env x = pure x := by intro _; rfl) :
    DSt c X (.For tg iter body [] pos) (tFor t_hi t_hg t_hb) (sFor τ γ tb) := by
  obtain ⟨i1, i2⟩ := hi
  obtain ⟨g1, g2⟩ := hg
  obtain ⟨b1, b2⟩ := hb
  refine ⟨fun hK => ps_for hp hc (i1 hK) (g1 hK) (b1 hK) hs, fun H0 Hs0 σ H Hs ρ n E Q W S g h k => ?_⟩
  refine i2 H0 σ H Hs ρ n _ _ W S h fun J Hs1 H1 its n1 gr1 W1 wj h1 => ?_
  refine ⟨fun i m σ H => ∃ Hs ρ n, Wld c Hs H n ∧ SlOk c H0 Hs H σ ρ ∧ Gro c Hs0 H0 Hs H ∧ Sub Hs1 Hs ∧ m = its.length - i ∧ i ≤ its.length ∧ forW γ tb E (its.drop i) ρ n,
    ⟨its.length, Hs1, ρ, n1, W1, S.gro gr1, g.trans gr1 W1, Sub.rfl, by simp, Nat.zero_le _, by simpa using h1⟩, ?_⟩
  rintro i m σ H ⟨Hs, ρ, n, W, S, g, sb, rfl, hi, hf⟩
  obtain ⟨go, stop⟩ := wj i H Hs n sb W
  by_cases hlt : i < its.length
  · rw [List.drop_eq_getElem_cons hlt] at hf
    obtain ⟨hgo, yl⟩ := go its[i] (List.getElem?_eq_getElem hlt)
    refine .inr ⟨hgo, fun σ' H' => ∃ Hs' ρ' n', Wld c Hs' H' n' ∧ SlOk c H0 Hs' H' σ' ρ' ∧ Gro c Hs0 H0 Hs' H' ∧ Sub Hs1 Hs' ∧ forW γ tb E (its.drop (i + 1)) ρ' n', fun σ' H' ⟨Hs', ρ', n', W', S', g', sb', hf'⟩ => ⟨its.length - (i + 1), by omega, Hs', ρ', n', W', S', g', sb', rfl, hlt, hf'⟩, fun x H' y => ?_⟩
    obtain ⟨Hs', gr', W', r'⟩ := yl x H' y
    refine g2 H0 σ H' Hs' ρ n x its[i] _ _ W' (S.gro gr') r' hf fun σ2 ρ2 S2 hb => ?_
    have gi := g.trans gr' W'
    refine b2 H0 Hs' σ2 H' Hs' ρ2 n _ _ W' S2 gi.at hb ⟨fun σ3 Hs3 H3 ρ3 n3 g3 W3 S3 h3 => ⟨Hs3, ρ3, n3, W3, S3, gi.join g3, (sb.trans gr'.s).trans g3.s, h3⟩, fun v Hs3 H3 d n3 g3 W3 r3 h3 => k.2 v Hs3 H3 d n3 (gi.join g3) W3 r3 h3⟩
  · have e : i = its.length := by omega
    subst e
    rw [List.drop_eq_nil_of_le (Nat.le_refl _)] at hf
    exact .inl ⟨stop (Nat.le_refl _), k.1 σ Hs H ρ n g W S hf⟩
/-- I: what holds ahead of each test, by a measure -/
def sWhile (b : DTB) (tb : DS) : DS := fun E ρ n => ∃ I : Nat → List Sl → Nat → Prop, (∃ m, I m ρ n) ∧ ∀ m ρ n, I m ρ n → b ρ n fun k n1 => if k = true then tb ⟨fun ρ' n' => ∃ m', m' < m ∧ I m' ρ' n', E.rt⟩ ρ n1 else E.nx ρ n1
theorem st_while {cnd : Expr} (hp : PassesOwn (model X.prog X.w) X.A X.env X.xe) (hc : DB c X cnd t_hc bt) (hb : DSs c X body t_hb tb) : DSt c X (.While cnd body [] pos) (tWhile t_hc t_hb) (sWhile bt tb) := by
  obtain ⟨c1, c2⟩ := hc
  obtain ⟨b1, b2⟩ := hb
  refine ⟨fun hK => ps_while hp (c1 hK) (b1 hK), fun H0 Hs0 σ H Hs ρ n E Q W S g h k => ?_⟩
  obtain ⟨I, ⟨m0, i0⟩, turn⟩ := h
  refine ⟨fun m σ H => ∃ Hs ρ n, Wld c Hs H n ∧ SlOk c H0 Hs H σ ρ ∧ Gro c Hs0 H0 Hs H ∧ I m ρ n, ⟨m0, Hs, ρ, n, W, S, g, i0⟩, ?_⟩
  rintro m σ H ⟨Hs, ρ, n, W, S, g, i1⟩
  refine c2 H0 σ H Hs ρ n _ _ W S (turn m ρ n i1) fun b Hs1 H1 n1 g1 W1 h1 => ?_
  cases b with
  | true =>
    refine ⟨fun σ' H' => ∃ Hs ρ n, Wld c Hs H' n ∧ SlOk c H0 Hs H' σ' ρ ∧ Gro c Hs0 H0 Hs H' ∧ ∃ m', m' < m ∧ I m' ρ n, fun σ' H' ⟨Hs, ρ, n, W, S, g, m', hm, i'⟩ => ⟨m', hm, Hs, ρ, n, W, S, g, i'⟩, ?_⟩
    exact b2 H0 Hs0 σ H1 Hs1 ρ n1 _ _ W1 (S.gro g1) (g.trans g1 W1) h1 ⟨fun σ3 Hs3 H3 ρ3 n3 g3 W3 S3 h3 => ⟨Hs3, ρ3, n3, W3, S3, g3, h3⟩, k.2⟩
  | false => exact k.1 σ Hs1 H1 ρ n1 (g.trans g1 W1) W1 (S.gro g1) h1
end
/-! ### comprehensions -/
/-- the slots of the block's own names forgotten -/
def wipeS (ρ : List Sl) : List Nat → List Sl
  | [] => ρ
  | v :: vs => (wipeS ρ vs).set v .un
def lcW (step : D → Nat → (Option D → Nat → Prop) → Prop) : List D → List D → Nat → (List D → Nat → Prop) → Prop
  | [], acc, n, Φ => Φ acc n
  | d :: ds, acc, n, Φ => step d n fun o n' => match o with
    | some y => lcW step ds (acc ++ [y]) n' Φ
    | none => lcW step ds acc n' Φ
def lcS (γ : DG) (tt : DTB) (te : DT) (ρw : List Sl) : D → Nat → (Option D → Nat → Prop) → Prop := fun d n Ψ => γ d ρw n fun ρ2 n2 => tt ρ2 n2 fun b n3 => if b = true then te ρ2 n3 fun y n4 => Ψ (some y) n4 else Ψ none n3
def dLc (τ : DTF) (γ : DG) (tt : DTB) (te : DT) (vs : List Nat) : DTF := fun ρ n Φ => τ ρ n fun its n1 => its.length ≤ 10000000 ∧ lcW (lcS γ tt te (wipeS ρ vs)) its [] n1 Φ
theorem lcW_fm {step : D → Nat → (Option D → Nat → Prop) → Prop} (g : D → Option D) : ∀ (its acc : List D) (n : Nat) (Φ : List D → Nat → Prop), (∀ d ∈ its, ∀ n (Ψ : Option D → Nat → Prop), Ψ (g d) n → step d n Ψ) → Φ (acc ++ its.filterMap g) n → lcW step its acc n Φ
  | [], acc, n, Φ, _, h => by
    show Φ acc n
    simpa using h
  | d :: ds, acc, n, Φ, hs, h => by
    refine hs d (by simp) n _ ?_
    cases e : g d with
    | none =>
      rw [List.filterMap_cons_none e] at h
      exact lcW_fm g ds acc n Φ (fun d hd => hs d (by simp [hd])) h
    | some y =>
      rw [List.filterMap_cons_some e] at h
      exact lcW_fm g ds (acc ++ [y]) n Φ (fun d hd => hs d (by simp [hd])) (by simpa using h)
/-- any law of what is made so far -/
theorem lcW_inv {step : D → Nat → (Option D → Nat → Prop) → Prop} (I : Nat → List D → Nat → Prop) {its : List D} {n : Nat} {Φ : List D → Nat → Prop} (h0 : I 0 [] n)
    (hs : ∀ (i : Nat) (d : D) acc n (Ψ : Option D → Nat → Prop), its[i]? = some d → I i acc n → (∀ y n', I (i + 1) (acc ++ [y]) n' → Ψ (some y) n') → (∀ n', I (i + 1) acc n' → Ψ none n') → step d n Ψ) (hd : ∀ acc n, I its.length acc n → Φ acc n) : lcW step its [] n Φ := by
  have key : ∀ (k i : Nat) (acc : List D) (n : Nat), its.length = i + k → I i acc n → lcW step (its.drop i) acc n Φ := by
    intro k
    induction k with
    | zero =>
      intro i acc n hl h
      rw [List.drop_eq_nil_of_le (by omega)]
      have e : i = its.length := by omega
      subst e
      exact hd acc n h
    | succ k ih =>
      intro i acc n hl h
      have hi : i < its.length := by omega
      rw [List.drop_eq_getElem_cons hi]
      exact hs i its[i] acc n _ (List.getElem?_eq_getElem hi) h (fun y n' h => ih (i + 1) _ n' (by omega) h) fun n' h => ih (i + 1) acc n' (by omega) h
  have := key its.length 0 [] n (by omega) h0
  simpa using this
theorem wipeS_len (ρ : List Sl) : ∀ vs, (wipeS ρ vs).length = ρ.length
  | [] => rfl
  | v :: vs => by unfold wipeS; rw [List.length_set, wipeS_len ρ vs]
theorem SlOk.wipe {c : Wr} {H0 Hs H : Hp} {σ : L2.St} {ρ : List Sl} (S : SlOk c H0 Hs H σ ρ) : ∀ vs : List Nat, SlOk c H0 Hs H (wipe σ vs) (wipeS ρ vs)
  | [] => S
  | v :: vs => (SlOk.wipe S vs).un v
/-- a target of a comprehension stores in its own slots alone -/
def TgIn (g : TG) (vs : List Nat) : Prop := ∀ v σ H (Q : L2.St → Hp → Prop) w, wipe σ vs = w → g v σ H Q → g v σ H fun σ' H' => wipe σ' vs = w ∧ Q σ' H'
theorem wipe_set (σ : L2.St) (i : Nat) (x : Option V) : ∀ vs : List Nat, i ∈ vs → wipe (σ.set i x) vs = wipe σ vs
  | [], h => by cases h
  | v :: vs, h => by
    unfold wipe
    by_cases hi : i ∈ vs
    · rw [wipe_set σ i x vs hi]
    · have e : v = i := by
        rcases List.mem_cons.mp h with e | e
        · exact e.symm
        · exact absurd e hi
      subst e
      have comm : ∀ (ws : List Nat), v ∉ ws → wipe (σ.set v x) ws = (wipe σ ws).set v x := by
        intro ws
        induction ws with
        | nil => intro _; rfl
        | cons w ws ih =>
          intro hw
          simp only [List.mem_cons, not_or] at hw
          unfold wipe
          rw [ih hw.2, List.set_comm _ _ hw.1]
      rw [comm vs hi, List.set_set]
theorem wipe_wipe (σ : L2.St) (vs : List Nat) : wipe (wipe σ vs) vs = wipe σ vs := by
  have : ∀ (ws : List Nat), (∀ w ∈ ws, w ∈ vs) → wipe (wipe σ ws) vs = wipe σ vs := by
    intro ws
    induction ws with
    | nil => intro _; rfl
    | cons w ws ih =>
      intro h
      show wipe ((wipe σ ws).set w none) vs = _
      rw [wipe_set _ _ _ _ (h w (by simp)), ih fun x hx => h x (by simp [hx])]
  exact this vs fun _ h => h
theorem tgin_name {i : Nat} {vs : List Nat} (h : i ∈ vs := by decide) : TgIn (gName i) vs := fun v σ H Q w e q => ⟨(wipe_set σ i _ vs h).trans e, q⟩
def TgsIn (g : TGs) (vs : List Nat) : Prop := ∀ v σ H (Q : L2.St → Hp → Prop) w, wipe σ vs = w → g v σ H Q → g v σ H fun σ' H' => wipe σ' vs = w ∧ Q σ' H'
theorem tgsin_nil {vs : List Nat} : TgsIn gNil vs := fun v σ H Q w e q => ⟨q.1, e, q.2⟩
theorem tgsin_cons {i : Nat} {vs : List Nat} {g : TGs} (hg : TgsIn g vs) (h : i ∈ vs := by decide) : TgsIn (gCons (gName i) g) vs := fun v σ H Q w e ⟨x, r, e', q⟩ => ⟨x, r, e', hg r _ H Q w ((wipe_set σ i _ vs h).trans e) q⟩
theorem tgin_tup {K : PySem.W.Frag} {n : Nat} {vs : List Nat} {g : TGs} (hg : TgsIn g vs) : TgIn (gTup K n g) vs := fun v σ H Q w e' ⟨a, xs, e, hq, hl, q⟩ => ⟨a, xs, e, hq, hl, hg xs σ H Q w e' q⟩
section
variable {c : Wr} {X : Cx} {elt tg iter : Expr} {ifs : List Expr} {scope : Scope} {own : List (Str × Nat)} {pos : Pos} {τ : DTF} {γ : DG} {tt : DTB} {te : DT}
/-- a clause's tests -/
def DTs (c : Wr) (X : Cx) (es : List Expr) (t : TT) (τ : DTB) : Prop := (X.K = c.K → PTs X es t) ∧ ∀ (H0 : Hp) (σ : L2.St) (H Hs : Hp) (ρ : List Sl) (n : Nat) (Φ : Bool → Nat → Prop) (Q : Bool → Hp → Prop),
  Wld c Hs H n → SlOk c H0 Hs H σ ρ → τ ρ n Φ → Kb c Hs H Φ Q → t σ H Q
def dYes : DTB := fun _ n Φ => Φ true n
theorem dts_nil : DTs c X [] tYes dYes := ⟨fun _ => pts_nil, fun H0 σ H Hs ρ n Φ Q W S h k => k true Hs H n .rfl W h⟩
theorem dts_one {e : Expr} (h : DB c X e t_h tt) : DTs c X [e] t_h tt := ⟨fun hK => pts_one (h.1 hK), h.2⟩
theorem lc_sem {σ : L2.St} {H Hs H0 : Hp} {ρ : List Sl} {n : Nat} {Φ : List D → Nat → Prop} {Q : VK} {vs : List Nat} {wi : TI} {g : TG} {t1 : TT} {t2 : TE}
    (i2 : ∀ (H0 : Hp) (σ : L2.St) (H Hs : Hp) (ρ : List Sl) (n : Nat) (Φ : List D → Nat → Prop) (R : It → Hp → Prop), Wld c Hs H n → SlOk c H0 Hs H σ ρ → τ ρ n Φ → (∀ J Hs' H' its n', Gro c Hs H Hs' H' → Wld c Hs' H' n' → WJ c J its Hs' → Φ its n' → R J H') → wi σ H R)
    (g2 : ∀ (H0 : Hp) (σ : L2.St) (H Hs : Hp) (ρ : List Sl) (n : Nat) (v : V) (d : D) (Ψ : List Sl → Nat → Prop) (Q : L2.St → Hp → Prop), Wld c Hs H n → SlOk c H0 Hs H σ ρ → Rep c Hs d v → γ d ρ n Ψ → (∀ σ' ρ', SlOk c H0 Hs H σ' ρ' → Ψ ρ' n → Q σ' H) → g v σ H Q)
    (gi : TgIn g vs)
    (b2 : ∀ (H0 : Hp) (σ : L2.St) (H Hs : Hp) (ρ : List Sl) (n : Nat) (Φ : Bool → Nat → Prop) (Q : Bool → Hp → Prop), Wld c Hs H n → SlOk c H0 Hs H σ ρ → tt ρ n Φ → Kb c Hs H Φ Q → t1 σ H Q)
    (e2 : ∀ (H0 : Hp) (σ : L2.St) (H Hs : Hp) (ρ : List Sl) (n : Nat) (Φ : DK) (Q : VK), Wld c Hs H n → SlOk c H0 Hs H σ ρ → te ρ n Φ → Kv c Hs H Φ Q → t2 σ H Q)
    (W : Wld c Hs H n) (S : SlOk c H0 Hs H σ ρ) (h : dLc τ γ tt te vs ρ n Φ) (k : Kf c Hs H Φ Q) : tLc wi g t1 t2 vs σ H Q := by
  refine i2 H0 σ H Hs ρ n _ _ W S h fun J Hs1 H1 its n1 gr1 W1 wj ⟨hlen, h1⟩ D hD => ?_
  have hgD : c.g ≠ some D := W1.gne hD
  have hH0 : H D = none := gr1.fresh W1 hD
  have W1' : Wld c Hs1 (upd H1 D (.lst [])) n1 := W1.newO hD
  have gr1' : Gro c Hs H Hs1 (upd H1 D (.lst [])) := gr1.trans (Gro.newO W1 hD) W1'
  refine ⟨fun i m H' => ∃ Hs' n' acc us, Wld c Hs' H' n' ∧ Gro c Hs H Hs' H' ∧ Sub Hs1 Hs' ∧ H' D = some (.lst us) ∧ Hs' D = none ∧ RepL c Hs' acc us ∧ acc.length ≤ i ∧ m = its.length - i ∧ i ≤ its.length ∧ lcW (lcS γ tt te (wipeS ρ vs)) (its.drop i) acc n' Φ,
    ⟨its.length, Hs1, n1, [], [], W1', gr1', Sub.rfl, upd_same, W1.nn hD, by simp only [RepL], Nat.zero_le _, by simp, Nat.zero_le _, by simpa using h1⟩, ?_⟩
  rintro i m H' ⟨Hs', n', acc, us, W', gr', sb, hDu, hDs, ru, hacc, rfl, hi, hl⟩
  obtain ⟨go, stop⟩ := wj i H' Hs' n' sb W'
  by_cases hlt : i < its.length
  · rw [List.drop_eq_getElem_cons hlt] at hl
    obtain ⟨hgo, yl⟩ := go its[i] (List.getElem?_eq_getElem hlt)
    refine .inr ⟨hgo, fun H'' => ∃ Hs'' n'' acc us, Wld c Hs'' H'' n'' ∧ Gro c Hs H Hs'' H'' ∧ Sub Hs1 Hs'' ∧ H'' D = some (.lst us) ∧ Hs'' D = none ∧ RepL c Hs'' acc us ∧ acc.length ≤ i + 1 ∧ lcW (lcS γ tt te (wipeS ρ vs)) (its.drop (i + 1)) acc n'' Φ,
      fun H'' ⟨Hs'', n'', acc, us, q1, q2, q3, q4, q5, q6, q7, q8⟩ => ⟨its.length - (i + 1), by omega, Hs'', n'', acc, us, q1, q2, q3, q4, q5, q6, q7, rfl, hlt, q8⟩, fun x H'' y => ?_⟩
    obtain ⟨Hs2, gr2, W2, r2⟩ := yl x H'' y
    have S2 : SlOk c H0 Hs2 H'' (wipe σ vs) (wipeS ρ vs) := ((S.gro gr').gro gr2).wipe vs
    have hD2 : H'' D = some (.lst us) := gr2.h D _ hgD hDu
    have hD2s : Hs2 D = none := gr2.f D hDs (by rw [hDu]; exact fun z => by cases z)
    have g12 := gr'.trans gr2 W2
    have hl : lcS γ tt te (wipeS ρ vs) its[i] n' _ := hl
    refine gi x (wipe σ vs) H'' _ _ (wipe_wipe σ vs) ?_
    · refine g2 H0 _ H'' Hs2 _ n' x its[i] _ _ W2 S2 r2 hl fun σ3 ρ3 S3 h3 => ?_
      refine b2 H0 σ3 H'' Hs2 ρ3 n' _ _ W2 S3 h3 fun b Hs3 H3 n3 gr3 W3 h4 => ?_
      have hD3 : H3 D = some (.lst us) := gr3.h D _ hgD hD2
      have hD3s : Hs3 D = none := gr3.f D hD2s (by rw [hD2]; exact fun z => by cases z)
      have ru3 : RepL c Hs3 acc us := RepL.mono gr3.s _ _ (RepL.mono gr2.s _ _ ru)
      cases b with
      | false =>
        simp only [Bool.false_eq_true, if_false] at h4 ⊢
        exact ⟨Hs3, n3, acc, us, W3, g12.trans gr3 W3, (sb.trans gr2.s).trans gr3.s, hD3, hD3s, ru3, by omega, h4⟩
      | true =>
        simp only [if_true] at h4 ⊢
        refine e2 H0 σ3 H3 Hs3 ρ3 n3 _ _ W3 (S3.gro gr3) h4 fun v Hs4 H4 d n4 gr4 W4 r4 h5 => ?_
        have hD4 : H4 D = some (.lst us) := gr4.h D _ hgD hD3
        have hD4s : Hs4 D = none := gr4.f D hD3s (by rw [hD3]; exact fun z => by cases z)
        have g14 : Gro c Hs H Hs4 H4 := (g12.trans gr3 W3).trans gr4 W4
        have hsz : us.length < sizeLine := by
          rw [ru.length]
          exact Nat.lt_of_lt_of_le (Nat.lt_of_le_of_lt (Nat.le_trans hacc (Nat.le_of_lt (Nat.lt_of_lt_of_le hlt hlen))) (by decide : 10000000 < 16777216)) (by decide)
        refine ⟨us, hD4, hsz, Hs4, n4, acc ++ [d], us ++ [v], ⟨fun b o e => ?_, fun a ha => ?_⟩, ⟨g14.s, fun b o hb e => ?_, g14.f⟩, ((sb.trans gr2.s).trans gr3.s).trans gr4.s, upd_same, hD4s, (RepL.mono gr4.s _ _ ru3).append (RepL.one r4), by simp; omega, h5⟩
        · rw [upd_ne (fun z => by subst z; rw [hD4s] at e; cases e)]; exact W4.sub b o e
        · obtain ⟨z1, z2, z3, z4, z5, z6⟩ := W4.gen a ha
          exact ⟨z1, z2, z3, z4, by rw [upd_ne (fun z => hgD (by rw [← z]; exact ha))]; exact z5, z6⟩
        · rw [upd_ne (fun z => by subst z; rw [hH0] at e; cases e)]; exact g14.h b o hb e
  · have e : i = its.length := by omega
    subst e
    rw [List.drop_eq_nil_of_le (Nat.le_refl _)] at hl
    exact .inl ⟨stop (Nat.le_refl _), k D Hs' H' acc us n' gr' W' hH0 hDs hDu ru hl⟩
end
end DL
end
section
set_option Elab.async false
set_option maxRecDepth 100000
set_option linter.all false
/-! Comprehensions as text, calls, methods, fields, built-ins, subscripts, slices, own lists by data. -/
namespace DL
open PySem PySem.Spec PyProof.Rows L2
section
variable {c : Wr} {X : Cx} {elt tg iter : Expr} {ifs : List Expr} {scope : Scope} {own : List (Str × Nat)} {pos : Pos} {τ : DTF} {γ : DG} {tt : DTB} {te : DT} {wi : TI} {g : TG} {t1 : TT} {t2 : TE}
theorem df_lc (own : List (Str × Nat)) (hc : X.calm = true) (hN : X.N.Nodup) (hi : DI c X tg iter wi τ) (ok : BlkOk X.N X.env.scope scope own)
    (hg : ∀ (s : Shared) (H : Hp) (C : Addr) (cl : List (Str × Addr)) (fp : List Addr), DTg c (X.blk s H scope (compEnvC scope cl C X.env) fp) tg g γ) (gi : TgIn g (own.map (·.2)))
    (ht : ∀ (s : Shared) (H : Hp) (C : Addr) (cl : List (Str × Addr)) (fp : List Addr), DTs c (X.blk s H scope (compEnvC scope cl C X.env) fp) ifs t1 tt)
    (he : ∀ (s : Shared) (H : Hp) (C : Addr) (cl : List (Str × Addr)) (fp : List Addr), DE c (X.blk s H scope (compEnvC scope cl C X.env) fp) elt t2 te) (hs : ∀ x, foldedSetIterable iter X.env x = pure x := by intro _; rfl) :
    DEf c X (.ListComp elt [⟨tg, iter, ifs, 0⟩] scope pos) (tLc wi g t1 t2 (own.map (·.2))) (dLc τ γ tt te (own.map (·.2))) := by
  have s0 : ∀ (s : Shared) (H : Hp) (C : Addr) (cl : List (Str × Addr)) (fp : List Addr), True := fun _ _ _ _ _ => trivial
  refine ⟨fun hK => pe_lc hc hN (hi.1 hK) ok (fun s H C cl fp => (hg s H C cl fp).1 hK) (fun s H C cl fp => (ht s H C cl fp).1 hK) (fun s H C cl fp => (he s H C cl fp).1 hK) hs, fun H0 σ H Hs ρ n Φ Q W S h k => ?_⟩
  exact lc_sem hi.2 (hg X.s_0 H 0 [] []).2 gi (ht X.s_0 H 0 [] []).2 (he X.s_0 H 0 [] []).2 W S h k
theorem st_setLc (i : Nat) {y : Str} {py spos : Pos} (own : List (Str × Nat)) (hc : X.calm = true) (hN : X.N.Nodup) (hi : DI c X tg iter wi τ) (ok : BlkOk X.N X.env.scope scope own)
    (hg : ∀ (s : Shared) (H : Hp) (C : Addr) (cl : List (Str × Addr)) (fp : List Addr), DTg c (X.blk s H scope (compEnvC scope cl C X.env) fp) tg g γ) (gi : TgIn g (own.map (·.2)))
    (ht : ∀ (s : Shared) (H : Hp) (C : Addr) (cl : List (Str × Addr)) (fp : List Addr), DTs c (X.blk s H scope (compEnvC scope cl C X.env) fp) ifs t1 tt)
    (he : ∀ (s : Shared) (H : Hp) (C : Addr) (cl : List (Str × Addr)) (fp : List Addr), DE c (X.blk s H scope (compEnvC scope cl C X.env) fp) elt t2 te)
    (hy : X.N[i]? = some y := by rfl) (hyl : X.env.scope.names.lookup y = some .local := by rfl)
    (hsw : swapsWith (.ListComp elt [⟨tg, iter, ifs, 0⟩] scope pos) (some (.Name y py)) spos.line X.env = pure true := by exact sw_true rfl rfl rfl (by decide +kernel)) (hs : ∀ x, foldedSetIterable iter X.env x = pure x := by intro _; rfl) :
    DSt c X (.Assign [.Name y py] (.ListComp elt [⟨tg, iter, ifs, 0⟩] scope pos) spos) (tAsg (tLc wi g t1 t2 (own.map (·.2))) (gName i)) (sOwn (dLc τ γ tt te (own.map (·.2))) i) := by
  refine ⟨fun hK => ps_setLc hc hN hy hyl hsw (hi.1 hK) ok (fun s H C cl fp => (hg s H C cl fp).1 hK) (fun s H C cl fp => (ht s H C cl fp).1 hK) (fun s H C cl fp => (he s H C cl fp).1 hK) hs, fun H0 Hs0 σ H Hs ρ n E Q W S gr h k => ?_⟩
  refine lc_sem hi.2 (hg X.s_0 H 0 [] []).2 gi (ht X.s_0 H 0 [] []).2 (he X.s_0 H 0 [] []).2 W S h fun a Hs1 H1 xs vs n1 gr1 W1 ha ha1 hv r1 h1 => ?_
  exact k.1 _ Hs1 H1 _ n1 (gr.trans gr1 W1) W1 ((S.gro gr1).setO i hv ha1 (W.gne ha) (gr.fresh W ha) r1 (S.fresh ha)) h1
end
/-! ### calls of defs -/
abbrev Con := List D → Nat → DK → Prop
/-- what a def promises -/
def spD (K : PySem.W.Frag) (C F : Addr) (κ : Con) : Sp := fun vs H Q _ => ∃ (g : Option Addr) (Hs : Hp) (n : Nat) (ds : List D), Wld ⟨K, C, F, g⟩ Hs H n ∧ RepL ⟨K, C, F, g⟩ Hs ds vs ∧
  κ ds n fun d n' => ∀ v Hs' H', Gro ⟨K, C, F, g⟩ Hs H Hs' H' → Wld ⟨K, C, F, g⟩ Hs' H' n' → Rep ⟨K, C, F, g⟩ Hs' d v → Q v H'
/-- what an __init__ promises: the new instance stands for the datum -/
def spN (K : PySem.W.Frag) (C F : Addr) (cl : Addr) (κ : Con) : Sp := fun vs H Q _ => ∃ (g : Option Addr) (Hs H1 : Hp) (n : Nat) (x dx : Addr) (us : List V) (ds : List D), vs = .ref x :: us ∧ H1 x = none ∧ H1 dx = none ∧ dx ≠ x ∧
  H = upd (upd H1 dx (.own x)) x (.ins cl dx []) ∧ Wld ⟨K, C, F, g⟩ Hs H1 n ∧ RepL ⟨K, C, F, g⟩ Hs ds us ∧
  κ ds n fun d n' => ∀ Hs' H', Gro ⟨K, C, F, g⟩ Hs H1 Hs' H' → Wld ⟨K, C, F, g⟩ Hs' H' n' → Rep ⟨K, C, F, g⟩ Hs' d (.ref x) → Q .non H'
/-- what is asked of a contract -/
def MonC (κ : Con) : Prop := ∀ ds n (Φ Ψ : DK), (∀ d n', Φ d n' → Ψ d n') → κ ds n Φ → κ ds n Ψ
/-- a function of the data alone -/
def fnC (R : List D → D → Prop) : Con := fun ds n Φ => ∃ r, R ds r ∧ Φ r n
theorem mon_fnC {R : List D → D → Prop} : MonC (fnC R) := fun _ _ _ _ h ⟨r, hr, q⟩ => ⟨r, hr, h _ _ q⟩
/-- a def of the module that keeps a promise -/
structure Fn (P : Program) (w : World) (K : PySem.W.Frag) (mg : Str → Option Value) (base : Heap) (C F : Addr) (lvl : Nat) (x : Str) (κ : Con) : Prop where
  ex : ∃ f fd ps, FnOk P w K mg base CX0 lvl f fd ps (spD K C F κ) ∧ mg x = some (.ref f) ∧ PySem.W.keepIn K (.ref f) = true ∧ Binds K fd ps []
  mon : MonC κ
structure Mt (P : Program) (w : World) (K : PySem.W.Frag) (mg : Str → Option Value) (base : Heap) (C F : Addr) (cl : Addr) (lvl : Nat) (m : Str) (κ : Con) : Prop where
  ex : ∃ f fd ps, FnOk P w K mg base CX0 lvl f fd ps (spD K C F κ) ∧ Meth K cl m f ∧ Binds K fd ps []
  cl : Cls K cl
  mon : MonC κ
structure Nw (P : Program) (w : World) (K : PySem.W.Frag) (mg : Str → Option Value) (base : Heap) (C F : Addr) (cl : Addr) (lvl : Nat) (x : Str) (κ : Con) : Prop where
  ex : ∃ f fd ps, FnOk P w K mg base CX0 lvl f fd ps (spN K C F cl κ) ∧ Mk K cl f ∧ mg x = some (.ref cl) ∧ Binds K fd ps []
  mon : MonC κ
def dCall (κ : Con) (τ : DTF) : DT := fun ρ n Φ => τ ρ n fun ds n1 => κ ds n1 Φ
section
variable {X : Cx} {K : PySem.W.Frag} {C F cl : Addr} {g : Option Addr} {lvl j : Nat} {x m : Str} {κ : Con} {e o : Expr} {es : List Expr} {τ : DTF} {pos p apos : Pos} {to : DT}
theorem de_call (f : Fn X.prog X.w K X.mg X.base C F lvl x κ) (hr : Room j X.A) (ha : DA ⟨K, C, F, g⟩ X (e :: es) t_ha τ) (hk : X.K = K := by rfl) (hl : lvl ≤ j := by decide) (hg : Gl X x := by rfl) (hdb : (x == ("__debug__" : Str)) = false := by decide)
    (he : starEach (e :: es) X.env = (false, eval e X.env) :: starEach es X.env := by rfl) (hpl : (backTo pos (starEach es X.env)).any (·.1) = false := by rfl) :
    DE ⟨K, C, F, g⟩ X (.Call (.Name x p) (e :: es) [] pos) (tCall (spD K C F κ) [] E0 t_ha) (dCall κ τ) := by
  subst hk
  obtain ⟨a1, a2⟩ := ha
  obtain ⟨⟨fa, fd, ps, fo, hm, kp, b⟩, mon⟩ := f
  refine ⟨fun hK => pe_call fo (hr.mono hl) hg hm kp b .nil pass0 (a1 hK) hdb he hpl, fun H0 σ H Hs ρ n Φ Q W S h k => ?_⟩
  refine a2 H0 σ H Hs ρ n _ _ W S h fun vs Hs1 H1 ds n1 g1 W1 r1 h1 => ?_
  rw [List.append_nil]
  exact ⟨g, Hs1, n1, ds, W1, r1, mon _ _ _ _ (fun d n' h' v Hs2 H2 g2 W2 r2 => k v Hs2 H2 d n' (g1.trans g2 W2) W2 r2 h') h1⟩
theorem de_new (f : Nw X.prog X.w K X.mg X.base C F cl lvl x κ) (hr : Room j X.A) (ha : DA ⟨K, C, F, g⟩ X (e :: es) t_ha τ) (hk : X.K = K := by rfl) (hl : lvl + 1 ≤ j := by decide) (hg : Gl X x := by rfl) (hdb : (x == ("__debug__" : Str)) = false := by decide)
    (he : starEach (e :: es) X.env = (false, eval e X.env) :: starEach es X.env := by rfl) (hpl : (backTo pos (starEach es X.env)).any (·.1) = false := by rfl) :
    DE ⟨K, C, F, g⟩ X (.Call (.Name x p) (e :: es) [] pos) (tMake cl (spN K C F cl κ) [] E0 t_ha) (dCall κ τ) := by
  subst hk
  obtain ⟨a1, a2⟩ := ha
  obtain ⟨⟨fa, fd, ps, fo, mk, hm, b⟩, mon⟩ := f
  refine ⟨fun hK => pe_make mk fo (hr.mono hl) hg hm b .nil pass0 (a1 hK) hdb he hpl, fun H0 σ H Hs ρ n Φ Q W S h k => ?_⟩
  refine a2 H0 σ H Hs ρ n _ _ W S h fun vs Hs1 H1 ds n1 g1 W1 r1 h1 y dy hy hdy ne => ?_
  rw [List.append_nil]
  exact ⟨g, Hs1, H1, n1, y, dy, vs, ds, rfl, hy, hdy, ne, rfl, W1, r1, mon _ _ _ _ (fun d n' h' Hs2 H2 g2 W2 r2 => ⟨rfl, k _ Hs2 H2 d n' (g1.trans g2 W2) W2 r2 h'⟩) h1⟩
/-- f(k = e): one keyword alone -/
structure Kw1 (P : Program) (w : World) (K : PySem.W.Frag) (mg : Str → Option Value) (base : Heap) (C F : Addr) (lvl : Nat) (x kx : Str) (κ : Con) : Prop where
  ex : ∃ f fd, FnOk P w K mg base CX0 lvl f fd [kx] (spD K C F κ) ∧ mg x = some (.ref f) ∧ PySem.W.keepIn K (.ref f) = true ∧ KBn K fd [kx] 0 [kx] (fun _ ws => ws) (fun _ zs => zs)
  mon : MonC κ
theorem de_kw1 {kx : Str} {kpos : Pos} {te : DT} (f : Kw1 X.prog X.w K X.mg X.base C F lvl x kx κ) (hr : Room j X.A) (ha : DE ⟨K, C, F, g⟩ X e t_ha te) (hk : X.K = K := by rfl) (hl : lvl ≤ j := by decide) (hg : Gl X x := by rfl) (hdb : (x == ("__debug__" : Str)) = false := by decide)
    (hall : (backToKw pos (keywordEach [⟨some kx, e, kpos⟩] X.env)).all (·.1.isSome) = true := by rfl) (hks : (backToKw pos (keywordEach [⟨some kx, e, kpos⟩] X.env)).filterMap (·.1) = [kx] := by rfl)
    (hpl : ((backTo pos (starEach [] X.env)).any (·.1) || (backToKw pos (keywordEach [⟨some kx, e, kpos⟩] X.env)).any (·.1.isNone)) = false := by rfl) :
    DE ⟨K, C, F, g⟩ X (.Call (.Name x p) [] [⟨some kx, e, kpos⟩] pos) (tCallN 0 1 (spD K C F κ) (fun _ zs => zs) E0 tNil (tCons t_ha tNil)) (dCall κ (dCons te dNil)) := by
  subst hk
  obtain ⟨a1, a2⟩ := ha
  obtain ⟨⟨fa, fd, fo, hm, kp, b⟩, mon⟩ := f
  refine ⟨fun hK => ⟨fun pins s σ H Q I h => ?_⟩, fun H0 σ H Hs ρ n Φ Q W S h k => ?_⟩
  · have h' : tCons t_ha tNil σ H (fun zs H2 => ([] : List V).length = 0 ∧ zs.length = 1 ∧ spD X.K C F κ zs H2 Q E0) := h
    refine wpAny_Call_Name_kw (ld_glob I hg hm ?_ hdb)
    refine PySem.W.callWith_KW0 (h₀ := X.base) I.ok.mod.kin kp hall (thn ((pk_cons (nm := some kx) (kpos := kpos) (a1 hK) pk_nil).run pos pins s σ H _ I h') fun ws s1 ⟨zs, H1, I1, rz, l1, l2, q⟩ => ⟨I1.kIn, ?_⟩) hpl
    rw [hks]
    exact run_fnN (us := []) (vs := []) fo (hr.mono hl) b pass0 I1 .nil rz rfl l2 q
  · refine a2 H0 σ H Hs ρ n _ _ W S h fun v Hs1 H1 d n1 g1 W1 r1 h1 => ?_
    exact ⟨rfl, rfl, g, Hs1, n1, [d], W1, by simp only [RepL]; exact ⟨v, [], rfl, r1, rfl⟩, mon _ _ _ _ (fun d n' h' v Hs2 H2 g2 W2 r2 => k v Hs2 H2 d n' (g1.trans g2 W2) W2 r2 h') h1⟩
/-- o.m() of a Function, a Curve -/
def dMeth (κ : Con) (b : Bool) (to : DT) : DT := fun ρ n Φ => to ρ n fun d n1 => match d, b with
  | .fnc p f x y z, true => κ [.fnc p f x y z] n1 Φ
  | .crv p f, false => κ [.crv p f] n1 Φ
  | _, _ => False
theorem de_methF (f : Mt X.prog X.w K X.mg X.base C F F lvl m κ) (hr : Room j X.A) (ho : DE ⟨K, C, F, g⟩ X o t_ho to) {pl : Sem Bool} (hk : X.K = K := by rfl) (hl : lvl ≤ j := by decide) (h1 : (m == ("_curve" : Str)) = false := by decide) (h2 : (m == ("_parts" : Str)) = false := by decide)
    (ht : eval (.Call (.Attribute o m apos) [] [] pos) X.env = (do
      let ov ← eval o X.env
      standAt apos.atName
      let (f, first) ← holding [ov] (getMethod ov m pl)
      callWith pos f first (backTo pos (starEach [] X.env)) (backToKw pos (keywordEach [] X.env))) := by rfl) :
    DE ⟨K, C, F, g⟩ X (.Call (.Attribute o m apos) [] [] pos) (tMeth F m (spD K C F κ) [] E0 t_ho tNil) (dMeth κ true to) := by
  subst hk
  obtain ⟨a1, a2⟩ := ho
  obtain ⟨⟨fa, fd, ps, fo, mt, b⟩, cl, mon⟩ := f
  refine ⟨fun hK => pe_meth0 (a1 hK) cl mt fo (hr.mono hl) b .nil pass0 ht, fun H0 σ H Hs ρ n Φ Q W S h k => ?_⟩
  refine a2 H0 σ H Hs ρ n _ _ W S h fun v Hs1 H1 d n1 g1 W1 r1 hq => ?_
  cases d <;> try exact hq.elim
  rename_i p f x y z
  have r2 := r1
  simp only [Rep] at r2
  obtain ⟨a, rfl, dx, cu, pl, x1, x2, x3, ha, _⟩ := r2
  refine ⟨a, dx, _, rfl, W1.sub _ _ ha, by simp only [List.lookup, h1, h2], ?_⟩
  exact ⟨g, Hs1, n1, [_], W1, by simp only [RepL]; exact ⟨_, [], rfl, r1, rfl⟩, mon _ _ _ _ (fun d n' h' v Hs2 H2 g2 W2 r2 => k v Hs2 H2 d n' (g1.trans g2 W2) W2 r2 h') hq⟩
theorem de_methC (f : Mt X.prog X.w K X.mg X.base C F C lvl m κ) (hr : Room j X.A) (ho : DE ⟨K, C, F, g⟩ X o t_ho to) {pl : Sem Bool} (hk : X.K = K := by rfl) (hl : lvl ≤ j := by decide) (h1 : (m == ("_prime" : Str)) = false := by decide) (h2 : (m == ("_polynomial" : Str)) = false := by decide)
    (ht : eval (.Call (.Attribute o m apos) [] [] pos) X.env = (do
      let ov ← eval o X.env
      standAt apos.atName
      let (f, first) ← holding [ov] (getMethod ov m pl)
      callWith pos f first (backTo pos (starEach [] X.env)) (backToKw pos (keywordEach [] X.env))) := by rfl) :
    DE ⟨K, C, F, g⟩ X (.Call (.Attribute o m apos) [] [] pos) (tMeth C m (spD K C F κ) [] E0 t_ho tNil) (dMeth κ false to) := by
  subst hk
  obtain ⟨a1, a2⟩ := ho
  obtain ⟨⟨fa, fd, ps, fo, mt, b⟩, cl, mon⟩ := f
  refine ⟨fun hK => pe_meth0 (a1 hK) cl mt fo (hr.mono hl) b .nil pass0 ht, fun H0 σ H Hs ρ n Φ Q W S h k => ?_⟩
  refine a2 H0 σ H Hs ρ n _ _ W S h fun v Hs1 H1 d n1 g1 W1 r1 hq => ?_
  cases d <;> try exact hq.elim
  rename_i p f
  have r2 := r1
  simp only [Rep] at r2
  obtain ⟨a, rfl, dx, l, ha, _⟩ := r2
  refine ⟨a, dx, _, rfl, W1.sub _ _ ha, by simp only [List.lookup, h1, h2], ?_⟩
  exact ⟨g, Hs1, n1, [_], W1, by simp only [RepL]; exact ⟨_, [], rfl, r1, rfl⟩, mon _ _ _ _ (fun d n' h' v Hs2 H2 g2 W2 r2 => k v Hs2 H2 d n' (g1.trans g2 W2) W2 r2 h') hq⟩
end
/-! ### fields -/
section
variable {c : Wr} {X : Cx} {e : Expr} {te : DT} {pos : Pos}
def dPrime (te : DT) : DT := fun ρ n Φ => te ρ n fun d n1 => match d with
  | .crv p _ => Φ (.int p) n1
  | _ => False
def dPoly (te : DT) : DT := fun ρ n Φ => te ρ n fun d n1 => match d with
  | .crv _ f => Φ (L f) n1
  | _ => False
def dCurve (te : DT) : DT := fun ρ n Φ => te ρ n fun d n1 => match d with
  | .fnc p f _ _ _ => Φ (.crv p f) n1
  | _ => False
def dParts (te : DT) : DT := fun ρ n Φ => te ρ n fun d n1 => match d with
  | .fnc _ _ x y z => Φ (.lst [L x, L y, L z]) n1
  | _ => False
theorem lk1 (a b : Str) (x y : V) : ([(a, x), (b, y)] : List (Str × V)).lookup a = some x := by simp [List.lookup]
theorem lk2 (a b : Str) (x y : V) (h : (b == a) = false) : ([(a, x), (b, y)] : List (Str × V)).lookup b = some y := by simp [List.lookup, h]
theorem de_prime (he : DE c X e t_he te) (cl : Cls c.K c.C) (na : NoAttr c.K c.C "_prime") (hb : attributeBase e "_prime" X.env (eval e X.env) = eval e X.env := by rfl) : DE c X (.Attribute e "_prime" pos) (tFld c.K t_he "_prime") (dPrime te) := by
  obtain ⟨a1, a2⟩ := he
  refine ⟨fun hK => hK ▸ pe_fld (a1 hK) hb, fun H0 σ H Hs ρ n Φ Q W S h k => ?_⟩
  refine a2 H0 σ H Hs ρ n _ _ W S h fun v Hs1 H1 d n1 g1 W1 r1 hq => ?_
  cases d <;> try exact hq.elim
  simp only [Rep] at r1
  obtain ⟨a, rfl, dx, l, ha, hl⟩ := r1
  exact ⟨a, c.C, dx, _, _, rfl, W1.sub _ _ ha, cl, na, lk1 _ _ _ _, k _ Hs1 H1 _ n1 g1 W1 mk_int hq⟩
theorem de_poly (he : DE c X e t_he te) (cl : Cls c.K c.C) (na : NoAttr c.K c.C "_polynomial") (hb : attributeBase e "_polynomial" X.env (eval e X.env) = eval e X.env := by rfl) : DE c X (.Attribute e "_polynomial" pos) (tFld c.K t_he "_polynomial") (dPoly te) := by
  obtain ⟨a1, a2⟩ := he
  refine ⟨fun hK => hK ▸ pe_fld (a1 hK) hb, fun H0 σ H Hs ρ n Φ Q W S h k => ?_⟩
  refine a2 H0 σ H Hs ρ n _ _ W S h fun v Hs1 H1 d n1 g1 W1 r1 hq => ?_
  cases d <;> try exact hq.elim
  simp only [Rep] at r1
  obtain ⟨a, rfl, dx, l, ha, hl⟩ := r1
  exact ⟨a, c.C, dx, _, _, rfl, W1.sub _ _ ha, cl, na, lk2 _ _ _ _ (by decide +kernel), k _ Hs1 H1 _ n1 g1 W1 (rep_L.mpr ⟨l, rfl, hl⟩) hq⟩
theorem de_curve (he : DE c X e t_he te) (cl : Cls c.K c.F) (na : NoAttr c.K c.F "_curve") (hb : attributeBase e "_curve" X.env (eval e X.env) = eval e X.env := by rfl) : DE c X (.Attribute e "_curve" pos) (tFld c.K t_he "_curve") (dCurve te) := by
  obtain ⟨a1, a2⟩ := he
  refine ⟨fun hK => hK ▸ pe_fld (a1 hK) hb, fun H0 σ H Hs ρ n Φ Q W S h k => ?_⟩
  refine a2 H0 σ H Hs ρ n _ _ W S h fun v Hs1 H1 d n1 g1 W1 r1 hq => ?_
  cases d <;> try exact hq.elim
  simp only [Rep] at r1
  obtain ⟨a, rfl, dx, cu, pl, x1, x2, x3, ha, hc, hp, h1, h2, h3⟩ := r1
  exact ⟨a, c.F, dx, _, _, rfl, W1.sub _ _ ha, cl, na, lk1 _ _ _ _, k _ Hs1 H1 _ n1 g1 W1 (by simp only [Rep]; exact ⟨cu, rfl, hc⟩) hq⟩
theorem de_parts (he : DE c X e t_he te) (cl : Cls c.K c.F) (na : NoAttr c.K c.F "_parts") (hb : attributeBase e "_parts" X.env (eval e X.env) = eval e X.env := by rfl) : DE c X (.Attribute e "_parts" pos) (tFld c.K t_he "_parts") (dParts te) := by
  obtain ⟨a1, a2⟩ := he
  refine ⟨fun hK => hK ▸ pe_fld (a1 hK) hb, fun H0 σ H Hs ρ n Φ Q W S h k => ?_⟩
  refine a2 H0 σ H Hs ρ n _ _ W S h fun v Hs1 H1 d n1 g1 W1 r1 hq => ?_
  cases d <;> try exact hq.elim
  simp only [Rep] at r1
  obtain ⟨a, rfl, dx, cu, pl, x1, x2, x3, ha, hc, hp, h1, h2, h3⟩ := r1
  refine ⟨a, c.F, dx, _, _, rfl, W1.sub _ _ ha, cl, na, lk2 _ _ _ _ (by decide +kernel), k _ Hs1 H1 _ n1 g1 W1 ?_ hq⟩
  simp only [Rep]
  refine ⟨pl, _, rfl, hp, ?_⟩
  simp only [RepL]
  exact ⟨_, _, rfl, rep_L.mpr ⟨x1, rfl, h1⟩, _, _, rfl, rep_L.mpr ⟨x2, rfl, h2⟩, _, _, rfl, rep_L.mpr ⟨x3, rfl, h3⟩, rfl⟩
end
end DL
end
section
set_option Elab.async false
set_option maxRecDepth 100000
set_option linter.all false
/-! Built-ins, subscripts, slices, own lists, own ==, isinstance, a def's body by data. -/
namespace DL
open PySem PySem.Spec PyProof.Rows L2
/-! ### built-ins -/
section
variable {c : Wr} {X : Cx} {a b e o : Expr} {es : List Expr} {ta tb te : DT} {τ : DTF} {x : Str} {id T : String} {r : List V → Hp → VK → Prop} {κ : Con} {pos p apos : Pos}
theorem de_bi (hc : DCl c X (.builtin id) r κ) (ha : DA c X (e :: es) t_ha τ) (hm : X.mg x = none) (hv : bootBuiltins x = some (.builtin id) := by decide +kernel) (hg : Gl X x := by rfl) (hn : x ≠ "__name__" := by decide) (hdb : (x == ("__debug__" : Str)) = false := by decide)
    (he : starEach (e :: es) X.env = (false, eval e X.env) :: starEach es X.env := by rfl) (hpl : (backTo pos (starEach es X.env)).any (·.1) = false := by rfl) : DE c X (.Call (.Name x p) (e :: es) [] pos) (tCB r t_ha) (dCall κ τ) := by
  obtain ⟨a1, a2⟩ := ha
  obtain ⟨o1, o2⟩ := hc
  refine ⟨fun hK => pe_callB (o1 hK) hg hm hv (a1 hK) hn hdb he hpl, fun H0 σ H Hs ρ n Φ Q W S h k => ?_⟩
  refine a2 H0 σ H Hs ρ n _ _ W S h fun vs Hs1 H1 ds n1 g1 W1 r1 h1 => ?_
  exact o2 H1 Hs1 vs ds n1 Φ Q W1 r1 h1 (Kv.gro k g1)
theorem de_ty (hc : DCl c X (.type T) r κ) (ha : DA c X (e :: es) t_ha τ) (hm : X.mg x = none) (hv : bootBuiltins x = some (.type T) := by decide +kernel) (hg : Gl X x := by rfl) (hn : x ≠ "__name__" := by decide) (hdb : (x == ("__debug__" : Str)) = false := by decide)
    (he : starEach (e :: es) X.env = (false, eval e X.env) :: starEach es X.env := by rfl) (hpl : (backTo pos (starEach es X.env)).any (·.1) = false := by rfl) : DE c X (.Call (.Name x p) (e :: es) [] pos) (tCB r t_ha) (dCall κ τ) := by
  obtain ⟨a1, a2⟩ := ha
  obtain ⟨o1, o2⟩ := hc
  refine ⟨fun hK => pe_callTy (o1 hK) hg hm hv (a1 hK) hn hdb he hpl, fun H0 σ H Hs ρ n Φ Q W S h k => ?_⟩
  refine a2 H0 σ H Hs ρ n _ _ W S h fun vs Hs1 H1 ds n1 g1 W1 r1 h1 => ?_
  exact o2 H1 Hs1 vs ds n1 Φ Q W1 r1 h1 (Kv.gro k g1)
theorem repl1 {c : Wr} {H : Hp} {d : D} {vs : List V} (h : RepL c H [d] vs) : ∃ v, vs = [v] ∧ Rep c H d v := by
  simp only [RepL] at h
  obtain ⟨v, r, rfl, h1, rfl⟩ := h
  exact ⟨v, rfl, h1⟩
theorem repl2 {c : Wr} {H : Hp} {d e : D} {vs : List V} (h : RepL c H [d, e] vs) : ∃ v u, vs = [v, u] ∧ Rep c H d v ∧ Rep c H e u := by
  simp only [RepL] at h
  obtain ⟨v, r, rfl, h1, u, r', rfl, h2, rfl⟩ := h
  exact ⟨v, u, rfl, h1, h2⟩
theorem repl3 {c : Wr} {H : Hp} {d e f : D} {vs : List V} (h : RepL c H [d, e, f] vs) : ∃ v u w, vs = [v, u, w] ∧ Rep c H d v ∧ Rep c H e u ∧ Rep c H f w := by
  simp only [RepL] at h
  obtain ⟨v, r, rfl, h1, u, r', rfl, h2, w, r'', rfl, h3, rfl⟩ := h
  exact ⟨v, u, w, rfl, h1, h2, h3⟩
def kLen : Con := fun ds n Φ => match ds with
  | [.lst xs] => Φ (.int (xs.length : Int)) n
  | [.tup xs] => Φ (.int (xs.length : Int)) n
  | [.scr ns] => Φ (.int (ns.length : Int)) n
  | _ => False
theorem c_len : DCl c X (.builtin "len") (fun xs H Q => ∃ x n, xs = [x] ∧ LenV c.K x H n ∧ Q (.int n) H) kLen := ⟨fun hK => hK ▸ call_len, fun H Hs vs ds n Φ Q W r h k => by
  unfold kLen at h
  split at h
  · obtain ⟨v, rfl, r1⟩ := repl1 r
    obtain ⟨p, us, rfl, h1, h2⟩ := rep_lst r1
    exact ⟨_, us.length, rfl, .inl ⟨us, SqL.of (W.sub _ _ h1), rfl⟩, by rw [h2.length]; exact k _ Hs H _ n .rfl W mk_int h⟩
  · obtain ⟨v, rfl, r1⟩ := repl1 r
    obtain ⟨p, us, rfl, h1, h2⟩ := rep_tup r1
    exact ⟨_, us.length, rfl, .inr ⟨us, W.sub.seqT h1, rfl⟩, by rw [h2.length]; exact k _ Hs H _ n .rfl W mk_int h⟩
  · obtain ⟨v, rfl, r1⟩ := repl1 r
    simp only [Rep] at r1
    obtain ⟨p, rfl, h1⟩ := r1
    exact ⟨_, _, rfl, .inl ⟨_, W.sub.seqL h1, rfl⟩, by rw [List.length_map]; exact k _ Hs H _ n .rfl W mk_int h⟩
  · exact h.elim⟩
def kInt : Con := fun ds n Φ => match ds with
  | [.int i] => Φ (.int i) n
  | _ => False
theorem c_int : DCl c X (.type "int") (fun xs H Q => (∃ i, xs = [.int i] ∧ Q (.int i) H) ∨ ∃ k, xs = [.bl k] ∧ Q (.int (if k then 1 else 0)) H) kInt := ⟨fun _ => call_int1, fun H Hs vs ds n Φ Q W r h k => by
  unfold kInt at h
  split at h
  · obtain ⟨v, rfl, r1⟩ := repl1 r
    exact .inl ⟨_, by rw [rep_int r1], k _ Hs H _ n .rfl W mk_int h⟩
  · exact h.elim⟩
def kMax : Con := fun ds n Φ => match ds with
  | [.int i, .int j] => Φ (.int (max i j)) n
  | _ => False
theorem c_max (hc : X.calm = true) : DCl c X (.builtin "max") (fun xs H Q => ∃ i j, xs = [.int i, .int j] ∧ Q (.int (if j > i then j else i)) H) kMax := ⟨fun _ => call_max2 hc, fun H Hs vs ds n Φ Q W r h k => by
  unfold kMax at h
  split at h
  · rename_i i j
    obtain ⟨v, u, rfl, r1, r2⟩ := repl2 r
    refine ⟨i, j, by rw [rep_int r1, rep_int r2], ?_⟩
    have e : (if j > i then j else i) = max i j := by split <;> omega
    rw [e]
    exact k _ Hs H _ n .rfl W mk_int h
  · exact h.elim⟩
def kMin3 : Con := fun ds n Φ => match ds with
  | [.int i, .int j, .int l] => Φ (.int (min (min i j) l)) n
  | _ => False
theorem c_min3 (hc : X.calm = true) : DCl c X (.builtin "min") (fun xs H Q => ∃ i j l, xs = [.int i, .int j, .int l] ∧ Q (.int (min (min i j) l)) H) kMin3 := ⟨fun _ => by
  intro pins s σ H xs us Q I r h
  obtain ⟨i, j, l, rfl, q⟩ := h
  obtain ⟨u1, u2, u3, rfl, ⟨t1, rfl⟩, ⟨t2, rfl⟩, ⟨t3, rfl⟩⟩ : ∃ u1 u2 u3, us = [u1, u2, u3] ∧ RelV (.int i) u1 ∧ RelV (.int j) u2 ∧ RelV (.int l) u3 := by
    cases r with
    | cons r1 rr => cases rr with
      | cons r2 rr => cases rr with
        | cons r3 rr => cases rr; exact ⟨_, _, _, rfl, r1, r2, r3⟩
  refine min_three_ints (I.ok.hd hc) fun h' tk hk => ⟨.int (min (min i j) l), H, I.kept hk, ?_, q⟩
  by_cases h1 : j < i
  · by_cases h2 : l < j
    · rw [if_pos h1, if_pos h2, show min (min i j) l = l by omega]; exact ⟨_, rfl⟩
    · rw [if_pos h1, if_neg h2, show min (min i j) l = j by omega]; exact ⟨_, rfl⟩
  · by_cases h2 : l < i
    · rw [if_neg h1, if_pos h2, show min (min i j) l = l by omega]; exact ⟨_, rfl⟩
    · rw [if_neg h1, if_neg h2, show min (min i j) l = i by omega]; exact ⟨_, rfl⟩, fun H Hs vs ds n Φ Q W r h k => by
  unfold kMin3 at h
  split at h
  · rename_i i j l
    obtain ⟨v, u, w, rfl, r1, r2, r3⟩ := repl3 r
    exact ⟨i, j, l, by rw [rep_int r1, rep_int r2, rep_int r3], k _ Hs H _ n .rfl W mk_int h⟩
  · exact h.elim⟩
def kAbs : Con := fun ds n Φ => match ds with
  | [.int i] => Φ (.int (i.natAbs : Int)) n
  | _ => False
theorem c_abs : DCl c X (.builtin "abs") (fun xs H Q => ∃ i, xs = [.int i] ∧ Q (.int (if i < 0 then -i else i)) H) kAbs := ⟨fun _ => call_abs, fun H Hs vs ds n Φ Q W r h k => by
  unfold kAbs at h
  split at h
  · rename_i i
    obtain ⟨v, rfl, r1⟩ := repl1 r
    refine ⟨i, by rw [rep_int r1], ?_⟩
    have e : (if i < 0 then -i else i) = (i.natAbs : Int) := by split <;> omega
    rw [e]
    exact k _ Hs H _ n .rfl W mk_int h
  · exact h.elim⟩
def kRepr : Con := fun ds n Φ => match ds with
  | [.bl b] => Φ (.str (if b then "True" else "False")) n
  | _ => False
theorem c_repr : DCl c X (.builtin "repr") (fun xs H Q => ∃ b, xs = [.bl b] ∧ Q (.str (if b then "True" else "False")) H) kRepr := ⟨fun _ => by
  intro pins s σ H xs us Q I r h
  obtain ⟨b, rfl, q⟩ := h
  obtain ⟨u, rfl, ru⟩ := vals1 r
  cases ru
  exact PySem.P.repr_of_bool ⟨.str _, H, I.tok _, ⟨_, rfl⟩, q⟩, fun H Hs vs ds n Φ Q W r h k => by
  unfold kRepr at h
  split at h
  · obtain ⟨v, rfl, r1⟩ := repl1 r
    exact ⟨_, by rw [rep_bl r1], k _ Hs H _ n .rfl W (by simp only [Rep]) h⟩
  · exact h.elim⟩
def kSum : Con := fun ds n Φ => match ds with
  | [.lst xs] => ∃ ns : List Int, xs = ns.map D.int ∧ Φ (.int ns.sum) n
  | _ => False
theorem c_sum (hc : X.calm = true) : DCl c X (.builtin "sum") (rSum c.K) kSum := ⟨fun hK => hK ▸ cr_sum hc, fun H Hs vs ds n Φ Q W r h k => by
  unfold kSum at h
  split at h
  · obtain ⟨ns, rfl, h⟩ := h
    obtain ⟨v, rfl, r1⟩ := repl1 r
    obtain ⟨p, us, rfl, h1, h2⟩ := rep_lst r1
    rw [h2.ints] at h1
    exact ⟨p, ns, rfl, SqL.of (W.sub _ _ h1), k _ Hs H _ n .rfl W mk_int h⟩
  · exact h.elim⟩
/-- list(xs) -/
def fList (te : DT) : DTF := fun ρ n Φ => te ρ n fun d n1 => match d with
  | .lst xs => Φ xs n1
  | .tup xs => Φ xs n1
  | _ => False
theorem df_list (ha : DE c X e t_ha te) (hm : X.mg "list" = none) (hg : Gl X "list" := by rfl) (he : starEach [e] X.env = (false, eval e X.env) :: starEach [] X.env := by rfl) (hpl : (backTo pos (starEach [] X.env)).any (·.1) = false := by rfl) :
    DEf c X (.Call (.Name "list" p) [e] [] pos) (tCB (fun xs H Q => ∃ p ys, xs = [.ref p] ∧ (SqL c.K H p ys ∨ SqT c.K H p ys) ∧ ∀ l, H l = none → Q (.ref l) (upd H l (.lst ys))) (tCons t_ha tNil)) (fList te) := by
  obtain ⟨a1, a2⟩ := ha
  refine ⟨fun hK => hK ▸ pe_callTy call_list_of hg hm (by decide +kernel) (pa_cons (a1 hK) pa_nil he) (by decide) (by decide) he hpl, fun H0 σ H Hs ρ n Φ Q W S h k => ?_⟩
  refine a2 H0 σ H Hs ρ n _ _ W S h fun v Hs1 H1 d n1 g1 W1 r1 h1 => ?_
  have fin : ∀ (l : Addr) (us : List V) (xs : List D), RepL c Hs1 xs us → Φ xs n1 → H1 l = none → Q (.ref l) (upd H1 l (.lst us)) := fun l us xs hr hq hl =>
    k l Hs1 _ xs us n1 (g1.trans (Gro.newO W1 hl) (W1.newO hl)) (W1.newO hl) (g1.fresh W1 hl) (W1.nn hl) upd_same hr hq
  cases d <;> try exact h1.elim
  · obtain ⟨q, us, rfl, h2, h3⟩ := rep_lst r1
    exact ⟨q, us, rfl, .inl (SqL.of (W1.sub _ _ h2)), fun l hl => fin l us _ h3 h1 hl⟩
  · obtain ⟨q, us, rfl, h2, h3⟩ := rep_tup r1
    exact ⟨q, us, rfl, .inr (W1.sub.seqT h2), fun l hl => fin l us _ h3 h1 hl⟩
def dBits (te : DT) : DT := fun ρ n Φ => te ρ n fun d n1 => match d with
  | .int i => Φ (.int (Builtin.Int.intBits i : Nat)) n1
  | _ => False
theorem de_bits (ho : DE c X o t_ho te) (hbase : attributeBase o "bit_length" X.env (eval o X.env) = eval o X.env := by rfl) (hline : (apos.endLine == pos.line) = true := by rfl) : DE c X (.Call (.Attribute o "bit_length" apos) [] [] pos) (tBits t_ho) (dBits te) := by
  obtain ⟨a1, a2⟩ := ho
  refine ⟨fun hK => pe_bits (a1 hK) hbase hline, fun H0 σ H Hs ρ n Φ Q W S h k => ?_⟩
  refine a2 H0 σ H Hs ρ n _ _ W S h fun v Hs1 H1 d n1 g1 W1 r1 h1 => ?_
  cases d <;> try exact h1.elim
  exact ⟨_, rep_int r1, k _ Hs1 H1 _ n1 g1 W1 mk_int h1⟩
/-! isinstance -/
def dIsT (te : DT) (f : D → Option Bool) : DT := fun ρ n Φ => te ρ n fun d n1 => ∃ b, f d = some b ∧ Φ (.bl b) n1
def fInt : D → Option Bool
  | .int _ => some true
  | _ => none
def fBool : D → Option Bool
  | .int _ => some false
  | _ => none
def fLst : D → Option Bool
  | .lst _ => some true
  | _ => none
theorem isi_sem {T : String} {f : D → Option Bool} (hf : ∀ (H Hs : Hp) (n : Nat) (d : D) (v : V) (b : Bool), Wld c Hs H n → Rep c Hs d v → f d = some b → ∃ t, TyX c.K H v t ∧ PySem.W.kitOne c.K t (.type T) = some b) (ho : DE c X e t_ho te) (hm : X.mg "isinstance" = none) (hmT : X.mg x = none)
    (hv : bootBuiltins x = some (.type T)) (hgT : Gl X x) (hnT : x ≠ "__name__") (hdT : (x == ("__debug__" : Str)) = false) {p2 : Pos}
    (he : starEach [e, .Name x p2] X.env = (false, eval e X.env) :: starEach [.Name x p2] X.env) (hg : Gl X "isinstance") (hpl : (backTo pos (starEach [.Name x p2] X.env)).any (·.1) = false) :
    DE c X (.Call (.Name "isinstance" p) [e, .Name x p2] [] pos) (tCB (rIsi c.K) (tCons t_ho (tCons (tC (.ty T)) tNil))) (dIsT te f) := by
  obtain ⟨a1, a2⟩ := ho
  refine ⟨fun hK => hK ▸ pe_callB call_isi hg hm (by decide +kernel) (pa_cons (a1 hK) (pa_cons (pe_bltn (v := .ty T) hgT hmT hv rfl hnT hdT) pa_nil) he) (by decide) (by decide) he hpl, fun H0 σ H Hs ρ n Φ Q W S h k => ?_⟩
  refine a2 H0 σ H Hs ρ n _ _ W S h fun v Hs1 H1 d n1 g1 W1 r1 ⟨b, hb, h1⟩ => ?_
  obtain ⟨t, ht, hk⟩ := hf H1 Hs1 n1 d v b W1 r1 hb
  exact ⟨v, .ty T, t, .type T, b, rfl, .ty T, ht, hk, k _ Hs1 H1 _ n1 g1 W1 mk_bl h1⟩
theorem de_isInt (ho : DE c X e t_ho te) (hm : X.mg "isinstance" = none) (hmT : X.mg "int" = none) {p2 : Pos} (he : starEach [e, .Name "int" p2] X.env = (false, eval e X.env) :: starEach [.Name "int" p2] X.env := by rfl) (hg : Gl X "isinstance" := by rfl) (hgT : Gl X "int" := by rfl)
    (hpl : (backTo pos (starEach [.Name "int" p2] X.env)).any (·.1) = false := by rfl) : DE c X (.Call (.Name "isinstance" p) [e, .Name "int" p2] [] pos) (tCB (rIsi c.K) (tCons t_ho (tCons (tC (.ty "int")) tNil))) (dIsT te fInt) :=
  isi_sem (fun H Hs n d v b W r hb => by
    cases d <;> cases hb
    rw [rep_int r]
    exact ⟨_, .base (.int _), kit_ty (by decide +kernel)⟩) ho hm hmT (by decide +kernel) hgT (by decide) (by decide) he hg hpl
theorem de_isBool (ho : DE c X e t_ho te) (hm : X.mg "isinstance" = none) (hmT : X.mg "bool" = none) {p2 : Pos} (he : starEach [e, .Name "bool" p2] X.env = (false, eval e X.env) :: starEach [.Name "bool" p2] X.env := by rfl) (hg : Gl X "isinstance" := by rfl) (hgT : Gl X "bool" := by rfl)
    (hpl : (backTo pos (starEach [.Name "bool" p2] X.env)).any (·.1) = false := by rfl) : DE c X (.Call (.Name "isinstance" p) [e, .Name "bool" p2] [] pos) (tCB (rIsi c.K) (tCons t_ho (tCons (tC (.ty "bool")) tNil))) (dIsT te fBool) :=
  isi_sem (fun H Hs n d v b W r hb => by
    cases d <;> cases hb
    rw [rep_int r]
    exact ⟨_, .base (.int _), kit_ty (by decide +kernel)⟩) ho hm hmT (by decide +kernel) hgT (by decide) (by decide) he hg hpl
theorem de_isList (ho : DE c X e t_ho te) (hm : X.mg "isinstance" = none) (hmT : X.mg "list" = none) {p2 : Pos} (he : starEach [e, .Name "list" p2] X.env = (false, eval e X.env) :: starEach [.Name "list" p2] X.env := by rfl) (hg : Gl X "isinstance" := by rfl) (hgT : Gl X "list" := by rfl)
    (hpl : (backTo pos (starEach [.Name "list" p2] X.env)).any (·.1) = false := by rfl) : DE c X (.Call (.Name "isinstance" p) [e, .Name "list" p2] [] pos) (tCB (rIsi c.K) (tCons t_ho (tCons (tC (.ty "list")) tNil))) (dIsT te fLst) :=
  isi_sem (fun H Hs n d v b W r hb => by
    cases d <;> cases hb
    obtain ⟨q, us, rfl, h2, h3⟩ := rep_lst r
    exact ⟨_, .base (.lst (W.sub _ _ h2)), kit_ty (by decide +kernel)⟩) ho hm hmT (by decide +kernel) hgT (by decide) (by decide) he hg hpl
/-- what isinstance asks of an own class -/
structure InsOk (K : PySem.W.Frag) (C : Addr) : Prop where
  cl : Cls K C
  ha : PySem.W.findIn K (.ref C) "__class__" = some (some (.builtin "object.__class__"))
  hn : PySem.W.specialIn K (.builtin "object.__class__") "__get__" = some (some (.builtin "getset_descriptor.__get__"))
  htk : PySem.W.takesIn K (.builtin "object.__class__") = some true
  hm : PySem.W.mroIn K C (.type "object") = some true
  me : PySem.W.kitOne K (.ref C) (.ref C) = some true
def fCrv : D → Option Bool
  | .crv _ _ => some true
  | _ => none
def fFnc : D → Option Bool
  | .fnc _ _ _ _ _ => some true
  | _ => none
theorem isO_sem {C : Addr} {f : D → Option Bool} (io : InsOk c.K C) (hf : ∀ (Hs : Hp) (d : D) (v : V) (b : Bool), Rep c Hs d v → f d = some b → b = true ∧ ∃ a dx fs, v = .ref a ∧ Hs a = some (.ins C dx fs)) (ho : DE c X e t_ho te) (hm : X.mg "isinstance" = none) (hmT : X.mg x = some (.ref C))
    (hgT : Gl X x) (hdT : (x == ("__debug__" : Str)) = false) {p2 : Pos}
    (he : starEach [e, .Name x p2] X.env = (false, eval e X.env) :: starEach [.Name x p2] X.env) (hg : Gl X "isinstance") (hpl : (backTo pos (starEach [.Name x p2] X.env)).any (·.1) = false) :
    DE c X (.Call (.Name "isinstance" p) [e, .Name x p2] [] pos) (tCB (rIsi c.K) (tCons t_ho (tCons (tC (.ref C)) tNil))) (dIsT te f) := by
  obtain ⟨a1, a2⟩ := ho
  refine ⟨fun hK => hK ▸ pe_callB call_isi hg hm (by decide +kernel) (pa_cons (a1 hK) (pa_cons (pe_glob (v := .ref C) hgT hmT rfl hdT) pa_nil) he) (by decide) (by decide) he hpl, fun H0 σ H Hs ρ n Φ Q W S h k => ?_⟩
  refine a2 H0 σ H Hs ρ n _ _ W S h fun v Hs1 H1 d n1 g1 W1 r1 ⟨b, hb, h1⟩ => ?_
  obtain ⟨rfl, q, dx, fs, rfl, hq⟩ := hf Hs1 d v b r1 hb
  exact ⟨_, .ref C, .ref C, .ref C, true, rfl, .own C, .base (.ins (W1.sub _ _ hq) io.cl io.ha io.hn io.htk io.hm), io.me, k _ Hs1 H1 _ n1 g1 W1 mk_bl h1⟩
theorem de_isC (io : InsOk c.K c.C) (ho : DE c X e t_ho te) (hm : X.mg "isinstance" = none) (hmT : X.mg "Curve" = some (.ref c.C)) {p2 : Pos} (he : starEach [e, .Name "Curve" p2] X.env = (false, eval e X.env) :: starEach [.Name "Curve" p2] X.env := by rfl) (hg : Gl X "isinstance" := by rfl) (hgT : Gl X "Curve" := by rfl)
    (hpl : (backTo pos (starEach [.Name "Curve" p2] X.env)).any (·.1) = false := by rfl) : DE c X (.Call (.Name "isinstance" p) [e, .Name "Curve" p2] [] pos) (tCB (rIsi c.K) (tCons t_ho (tCons (tC (.ref c.C)) tNil))) (dIsT te fCrv) :=
  isO_sem io (fun Hs d v b r hb => by
    cases d <;> cases hb
    simp only [Rep] at r
    obtain ⟨a, rfl, dx, l, ha, _⟩ := r
    exact ⟨rfl, a, dx, _, rfl, ha⟩) ho hm hmT hgT (by decide) he hg hpl
theorem de_isF (io : InsOk c.K c.F) (ho : DE c X e t_ho te) (hm : X.mg "isinstance" = none) (hmT : X.mg "Function" = some (.ref c.F)) {p2 : Pos} (he : starEach [e, .Name "Function" p2] X.env = (false, eval e X.env) :: starEach [.Name "Function" p2] X.env := by rfl) (hg : Gl X "isinstance" := by rfl) (hgT : Gl X "Function" := by rfl)
    (hpl : (backTo pos (starEach [.Name "Function" p2] X.env)).any (·.1) = false := by rfl) : DE c X (.Call (.Name "isinstance" p) [e, .Name "Function" p2] [] pos) (tCB (rIsi c.K) (tCons t_ho (tCons (tC (.ref c.F)) tNil))) (dIsT te fFnc) :=
  isO_sem io (fun Hs d v b r hb => by
    cases d <;> cases hb
    simp only [Rep] at r
    obtain ⟨a, rfl, dx, cu, pl, x1, x2, x3, ha, _⟩ := r
    exact ⟨rfl, a, dx, _, rfl, ha⟩) ho hm hmT hgT (by decide) he hg hpl
/-! ### subscripts, slices -/
def wIx : DO := fun x y n Φ => match x, y with
  | .lst xs, .int i => ∃ d, atI xs i = some d ∧ Φ d n
  | .tup xs, .int i => ∃ d, atI xs i = some d ∧ Φ d n
  | .scr ns, .int i => ∃ d, atI ns i = some d ∧ Φ (.int d) n
  | _, _ => False
theorem RepL.at {c : Wr} {H : Hp} {ds : List D} {vs : List V} {i : Int} {d : D} (h : RepL c H ds vs) (e : atI ds i = some d) : ∃ v, atI vs i = some v ∧ Rep c H d v := by
  unfold atI at e ⊢
  rw [h.length]
  cases q : ixN ds.length i with
  | none => rw [q] at e; cases e
  | some j =>
    rw [q] at e
    exact h.get e
theorem atI_map {α β : Type} {f : α → β} {xs : List α} {i : Int} {d : α} (h : atI xs i = some d) : atI (xs.map f) i = some (f d) := by
  unfold atI at h ⊢
  rw [List.length_map]
  cases q : ixN xs.length i with
  | none => rw [q] at h; cases h
  | some j =>
    rw [q] at h
    show (xs.map f)[j]? = _
    rw [List.getElem?_map]
    have h : xs[j]? = some d := h
    rw [h]; rfl
theorem de_ix (ha : DE c X a t_ha ta) (hb : DE c X b t_hb tb) (hs : PlainIx b := by exact fun _ _ => rfl) : DE c X (.Subscript a b pos) (tOp (fun x y H Q => rIxL c.K x y H Q ∨ rIxT c.K x y H Q) t_ha t_hb) (dOp wIx ta tb) := by
  obtain ⟨a1, a2⟩ := ha
  obtain ⟨b1, b2⟩ := hb
  refine ⟨fun hK => hK ▸ pe_ix (ix_list.or ix_tup) (a1 hK) (b1 hK) hs, fun H0 σ H Hs ρ n Φ Q W S h k => ?_⟩
  refine a2 H0 σ H Hs ρ n _ _ W S h fun v Hs1 H1 d n1 g1 W1 r1 h1 => ?_
  refine b2 H0 σ H1 Hs1 ρ n1 _ _ W1 (S.gro g1) h1 fun u Hs2 H2 e n2 g2 W2 r2 h2 => ?_
  have r1' := Rep.mono g2.s _ _ r1
  have g12 := g1.trans g2 W2
  cases d <;> cases e <;> try exact h2.elim
  · obtain ⟨z, hz, h2⟩ := h2
    obtain ⟨l, us, rfl, hl, hr⟩ := rep_lst r1'
    obtain ⟨w, hw, rw'⟩ := hr.at hz
    exact .inl ⟨l, us, _, w, rfl, rep_int r2, SqL.of (W2.sub _ _ hl), hw, k _ Hs2 H2 z n2 g12 W2 rw' h2⟩
  · obtain ⟨z, hz, h2⟩ := h2
    obtain ⟨l, us, rfl, hl, hr⟩ := rep_tup r1'
    obtain ⟨w, hw, rw'⟩ := hr.at hz
    exact .inr ⟨l, us, _, w, rfl, rep_int r2, W2.sub.seqT hl, hw, k _ Hs2 H2 z n2 g12 W2 rw' h2⟩
  · obtain ⟨z, hz, h2⟩ := h2
    simp only [Rep] at r1'
    obtain ⟨l, rfl, hl⟩ := r1'
    exact .inl ⟨l, _, _, _, rfl, rep_int r2, W2.sub.seqL hl, atI_map hz, k _ Hs2 H2 _ n2 g12 W2 mk_int h2⟩
def cutD {α : Type} (xs : List α) (lo hi : Option Int) : List α := (xs.drop (HT.sIx xs.length 0 lo)).take (HT.sIx xs.length xs.length hi - HT.sIx xs.length 0 lo)
theorem RepL.cut {c : Wr} {H : Hp} {ds : List D} {vs : List V} (h : RepL c H ds vs) (lo hi : Option Int) : RepL c H (cutD ds lo hi) (cutV vs lo hi) := by
  unfold cutD cutV
  rw [h.length]
  exact (h.drop _).take _
theorem cutV_map {xs : List Int} (lo hi : Option Int) : cutV (xs.map V.int) lo hi = (cutD xs lo hi).map V.int := by
  unfold cutD cutV
  rw [List.length_map, List.map_take, List.map_drop]
def fFrom (te tl : DT) : DTF := fun ρ n Φ => te ρ n fun d n1 => tl ρ n1 fun e n2 => match d, e with
  | .lst xs, .int i => Φ (cutD xs (some i) none) n2
  | _, _ => False
def fTo (te tl : DT) : DTF := fun ρ n Φ => te ρ n fun d n1 => tl ρ n1 fun e n2 => match d, e with
  | .lst xs, .int i => Φ (cutD xs none (some i)) n2
  | .scr ns, .int i => Φ ((cutD ns none (some i)).map D.int) n2
  | _, _ => False
theorem df_from {p2 : Pos} (ha : DE c X a t_ha ta) (hb : DE c X b t_hb tb) : DEf c X (.Subscript a (.Slice (some b) none none p2) pos) (tSl (rSlL c.K) t_ha (tPart t_hb) tNoPart) (fFrom ta tb) := by
  obtain ⟨a1, a2⟩ := ha
  obtain ⟨b1, b2⟩ := hb
  refine ⟨fun hK => hK ▸ pe_slice sl_list (a1 hK) (po_some (b1 hK)) po_none, fun H0 σ H Hs ρ n Φ Q W S h k => ?_⟩
  refine a2 H0 σ H Hs ρ n _ _ W S h fun v Hs1 H1 d n1 g1 W1 r1 h1 => ?_
  refine b2 H0 σ H1 Hs1 ρ n1 _ _ W1 (S.gro g1) h1 fun u Hs2 H2 e n2 g2 W2 r2 h2 => ?_
  have g12 := g1.trans g2 W2
  cases d <;> cases e <;> try exact h2.elim
  obtain ⟨l, us, rfl, hl, hr⟩ := rep_lst (Rep.mono g2.s _ _ r1)
  refine ⟨_, rep_int r2, l, us, rfl, SqL.of (W2.sub _ _ hl), fun q hq => ?_⟩
  exact k q Hs2 _ _ _ n2 (g12.trans (Gro.newO W2 hq) (W2.newO hq)) (W2.newO hq) (g12.fresh W2 hq) (W2.nn hq) upd_same (hr.cut _ _) h2
theorem df_to {p2 : Pos} (ha : DE c X a t_ha ta) (hb : DE c X b t_hb tb) : DEf c X (.Subscript a (.Slice none (some b) none p2) pos) (tSl (rSlL c.K) t_ha tNoPart (tPart t_hb)) (fTo ta tb) := by
  obtain ⟨a1, a2⟩ := ha
  obtain ⟨b1, b2⟩ := hb
  refine ⟨fun hK => hK ▸ pe_slice sl_list (a1 hK) po_none (po_some (b1 hK)), fun H0 σ H Hs ρ n Φ Q W S h k => ?_⟩
  refine a2 H0 σ H Hs ρ n _ _ W S h fun v Hs1 H1 d n1 g1 W1 r1 h1 => ?_
  refine b2 H0 σ H1 Hs1 ρ n1 _ _ W1 (S.gro g1) h1 fun u Hs2 H2 e n2 g2 W2 r2 h2 => ?_
  have g12 := g1.trans g2 W2
  have r1' := Rep.mono g2.s _ _ r1
  cases d <;> cases e <;> try exact h2.elim
  · obtain ⟨l, us, rfl, hl, hr⟩ := rep_lst r1'
    refine ⟨_, rep_int r2, l, us, rfl, SqL.of (W2.sub _ _ hl), fun q hq => ?_⟩
    exact k q Hs2 _ _ _ n2 (g12.trans (Gro.newO W2 hq) (W2.newO hq)) (W2.newO hq) (g12.fresh W2 hq) (W2.nn hq) upd_same (hr.cut _ _) h2
  · simp only [Rep] at r1'
    obtain ⟨l, rfl, hl⟩ := r1'
    refine ⟨_, rep_int r2, l, _, rfl, W2.sub.seqL hl, fun q hq => ?_⟩
    rw [cutV_map]
    exact k q Hs2 _ _ _ n2 (g12.trans (Gro.newO W2 hq) (W2.newO hq)) (W2.newO hq) (g12.fresh W2 hq) (W2.nn hq) upd_same (RepL.of_ints _) h2
end
end DL
end
section
set_option Elab.async false
set_option maxRecDepth 100000
set_option linter.all false
/-! A slice with a step, a written table, own lists, own ==, a def's body by data. -/
namespace DL
open PySem PySem.Spec PyProof.Rows L2
section
variable {c : Wr} {X : Cx} {a b d e o : Expr} {es : List Expr} {ta tb td te : DT} {τ : DTF} {x : Str} {pos p apos : Pos}
/-- the items of xs[i::k] -/
def strideI {α : Type} (xs : List α) (i k : Int) : List α := (sliceRange (sliceBounds (some i) none (some k) xs.length).1 (sliceBounds (some i) none (some k) xs.length).2.1 (sliceBounds (some i) none (some k) xs.length).2.2).filterMap (xs[·]?)
theorem RepL.pick {c : Wr} {H : Hp} {ds : List D} {vs : List V} (h : RepL c H ds vs) : ∀ ix : List Nat, RepL c H (ix.filterMap (ds[·]?)) (ix.filterMap (vs[·]?))
  | [] => by simp only [List.filterMap_nil, RepL]
  | i :: ix => by
    cases q : ds[i]? with
    | none =>
      rw [List.filterMap_cons_none q, List.filterMap_cons_none (h.none_of q)]
      exact RepL.pick h ix
    | some d =>
      obtain ⟨v, hv, rv⟩ := h.get q
      rw [List.filterMap_cons_some q, List.filterMap_cons_some hv]
      simp only [RepL]
      exact ⟨v, _, rfl, rv, RepL.pick h ix⟩
theorem Vals.pick {vs : List V} {us : List Value} (h : Vals vs us) : ∀ ix : List Nat, Vals (ix.filterMap (vs[·]?)) (ix.filterMap (us[·]?))
  | [] => .nil
  | i :: ix => by
    cases q : vs[i]? with
    | none =>
      rw [List.filterMap_cons_none q, List.filterMap_cons_none (h.none_of q)]
      exact Vals.pick h ix
    | some d =>
      obtain ⟨v, hv, rv⟩ := h.get q
      rw [List.filterMap_cons_some q, List.filterMap_cons_some hv]
      exact .cons rv (Vals.pick h ix)
def tStride (K : PySem.W.Frag) (te tl tk : TE) : TE := fun σ H Q => te σ H fun x H1 => tPart tl σ H1 fun y H2 => tPart tk σ H2 fun z H3 => ∃ l xs i k, x = .ref l ∧ y = some i ∧ z = some k ∧ SqL K H3 l xs ∧ k ≠ 0 ∧ (strideI xs i k).length ≤ xs.length ∧ ∀ q, H3 q = none → Q (.ref q) (upd H3 q (.lst (strideI xs i k)))
theorem pe_stride {te tl tk : TE} {p2 : Pos} (he : PE X e te) (hl : PE X a tl) (hk : PE X b tk) : PE X (.Subscript e (.Slice (some a) none (some b) p2) pos) (tStride X.K te tl tk) := by
  refine ⟨fun pins s σ H Q I h => ?_⟩
  refine Subscript_ (thn (he.run pins s σ H _ I h) fun v s1 ⟨x, H1, I1, r1, q1⟩ => ?_)
  refine wpAny_Slice (thn ((po_some hl).run pins s1 σ H1 _ I1 q1) fun vl s2 ⟨o, H2, I2, pl, q2⟩ => ?_)
  refine thn (po_none.run pins s2 σ H2 (fun o H3 => o = none ∧ H3 = H2) I2 ⟨rfl, rfl⟩) fun vu s3 ⟨u, H3, I3, pu, eu, e3⟩ => ?_
  subst eu e3
  refine thn ((po_some hk).run pins s3 σ H3 _ I3 q2) fun vs s4 ⟨o2, H4, I4, ps, l, xs, i, k, ex, eo, eo2, hx, hk0, hlen, q4⟩ => ?_
  subst eo eo2 ex
  cases r1
  have I5 : Inv X pins σ H4 { s4 with heap := s4.heap.push { cls := .type "slice", data := .fields #[vl, vu, vs] } } := I4.kept (t' := s4.toks) fun b ob q => Heap.get?_push_of_some _ q
  obtain ⟨its, r, ht, hz⟩ := I5.list hx
  have hl2 := r.length
  show wpAny (model X.prog X.w) X.A (subscriptTail e (.Slice (some a) none (some b) p2) (.ref l) (.ref s4.heap.objs.size)) (EP X pins σ Q) X.xe { s4 with heap := s4.heap.push { cls := .type "slice", data := .fields #[vl, vu, vs] } }
  refine tail_any (ops := [.ref l, .ref s4.heap.objs.size]) ht.isList.typeIs (PySem.slot_list_getitem.lookup) ?_ (by with_unfolding_all rfl)
  refine wpAny_getItem_list_slice ht.isList (Heap.IsSliceOf.new _ vl vu vs) pl pu ps (fun z => hk0 (Option.some.inj z)) ?_ (by rw [List.size_toArray]; omega)
  have e1 : slicePick its.toArray (some i) none (some k) = (strideI its i k).toArray := by
    unfold slicePick strideI
    simp
  have rv : Vals (strideI xs i k) (strideI its i k) := by
    unfold strideI
    rw [hl2]
    exact Vals.pick r _
  rw [e1]
  refine ⟨.ref _, _, I5.laid (t' := s4.toks) (o := .lst (strideI xs i k)) (fun b ob q => Heap.get?_push_of_some _ q) (Nat.le_refl _) ?_, rfl, q4 _ (I5.hok.fresh (Nat.le_refl _))⟩
  exact ⟨Nat.le_trans hlen hz, _, 0, rv, Heap.get?_push_size _ rfl⟩
theorem stride_len {α : Type} (xs : List α) (i k : Int) (h0 : 0 ≤ i) (hk : 0 < k) : (strideI xs i k).length ≤ xs.length := by
  unfold strideI
  refine Nat.le_trans (List.length_filterMap_le _ _) (sliceRange_length_le _ _ _ _ (fun _ => ?_) fun h => ?_)
  · unfold sliceBounds
    simp only [Option.getD_some, hk, if_true]
    split <;> omega
  · exact absurd hk h
def fStride (te tl tk : DT) : DTF := fun ρ n Φ => te ρ n fun x n1 => tl ρ n1 fun y n2 => match y with
  | .int i => tk ρ n2 fun z n3 => match x, z with
    | .lst xs, .int k => (0 ≤ i ∧ 0 < k) ∧ Φ (strideI xs i k) n3
    | _, _ => False
  | _ => False
theorem df_stride {p2 : Pos} (he : DE c X e t_he te) (ha : DE c X a t_ha ta) (hb : DE c X b t_hb tb) : DEf c X (.Subscript e (.Slice (some a) none (some b) p2) pos) (tStride c.K t_he t_ha t_hb) (fStride te ta tb) := by
  obtain ⟨e1, e2⟩ := he
  obtain ⟨a1, a2⟩ := ha
  obtain ⟨b1, b2⟩ := hb
  refine ⟨fun hK => hK ▸ pe_stride (e1 hK) (a1 hK) (b1 hK), fun H0 σ H Hs ρ n Φ Q W S h k => ?_⟩
  refine e2 H0 σ H Hs ρ n _ _ W S h fun v Hs1 H1 x n1 g1 W1 r1 h1 => ?_
  refine a2 H0 σ H1 Hs1 ρ n1 _ _ W1 (S.gro g1) h1 fun u Hs2 H2 y n2 g2 W2 r2 h2 => ?_
  have g12 := g1.trans g2 W2
  cases y with
  | int i =>
    refine ⟨i, rep_int r2, b2 H0 σ H2 Hs2 ρ n2 _ _ W2 (S.gro g12) h2 fun w Hs3 H3 z n3 g3 W3 r3 h3 => ?_⟩
    have g13 := g12.trans g3 W3
    cases x <;> cases z <;> try exact h3.elim
    rename_i xs k'
    obtain ⟨⟨q1, q2⟩, h3⟩ := h3
    obtain ⟨l, us, rfl, hl, hr⟩ := rep_lst (Rep.mono g3.s _ _ (Rep.mono g2.s _ _ r1))
    refine ⟨k', rep_int r3, l, us, i, k', rfl, rfl, rfl, SqL.of (W3.sub _ _ hl), by omega, stride_len us i k' q1 q2, fun q hq => ?_⟩
    refine k q Hs3 _ (strideI xs i k') _ n3 (g13.trans (Gro.newO W3 hq) (W3.newO hq)) (W3.newO hq) (g13.fresh W3 hq) (W3.nn hq) upd_same ?_ h3
    unfold strideI
    rw [hr.length]
    exact hr.pick _
  | _ => exact h2.elim
/-! ### {k: v, ..}[e], three ints -/
def dTab3 (k1 v1 k2 v2 k3 v3 : Int) (te : DT) : DT := fun ρ n Φ => te ρ n fun d n1 => match d with
  | .int i => (i = k1 ∧ Φ (.int v1) n1) ∨ (i = k2 ∧ Φ (.int v2) n1) ∨ (i = k3 ∧ Φ (.int v3) n1)
  | _ => False
theorem de_tab3 (k1 v1 k2 v2 k3 v3 : Int) {j1 j2 j3 j4 j5 j6 : Nat} {p1 p2 p3 p4 p5 p6 pd : Pos} (he : DE c X e t_he te) (hu : X.A.units + 1 < cLine) (h12 : k1 ≠ k2 := by decide) (h13 : k1 ≠ k3 := by decide) (h23 : k2 ≠ k3 := by decide) (hs : NoSl e := by exact fun _ _ => rfl) :
    DE c X (.Subscript (.Dict [some (.Constant (.int k1) j1 p1), some (.Constant (.int k2) j2 p2), some (.Constant (.int k3) j3 p3)] [.Constant (.int v1) j4 p4, .Constant (.int v2) j5 p5, .Constant (.int v3) j6 p6] pd) e pos)
      (tDGet (tDisp [(tC (.int k1), tC (.int v1)), (tC (.int k2), tC (.int v2)), (tC (.int k3), tC (.int v3))]) t_he) (dTab3 k1 v1 k2 v2 k3 v3 te) := by
  obtain ⟨e1, e2⟩ := he
  refine ⟨fun hK => pe_dget hu (pe_disp (pps_cons pe_int pe_int (pps_cons pe_int pe_int (pps_cons pe_int pe_int pps_nil))) (by rfl) (by rfl) (fun z => by cases z) (by simp)) (e1 hK) hs, fun H0 σ H Hs ρ n Φ Q W S h k => ?_⟩
  intro q hq
  refine ⟨upd_same, [(Sum.inl k1, .int v1), (Sum.inl k2, .int v2), (Sum.inl k3, .int v3)], rfl, by simp, ?_⟩
  rw [upd_upd]
  have em : mergeK [] ([(Sum.inl k1, .int v1), (Sum.inl k2, .int v2), (Sum.inl k3, .int v3)] : List (Key × V)) = [(Sum.inl k1, .int v1), (Sum.inl k2, .int v2), (Sum.inl k3, .int v3)] := by
    simp [mergeK, putK, h12, h13, h23, Ne.symm h12, Ne.symm h13, Ne.symm h23]
  rw [em]
  have gr := Gro.newO (o := .dK [(Sum.inl k1, .int v1), (Sum.inl k2, .int v2), (Sum.inl k3, .int v3)]) W hq
  have W1 := Wld.newO (o := .dK [(Sum.inl k1, .int v1), (Sum.inl k2, .int v2), (Sum.inl k3, .int v3)]) W hq
  refine e2 H0 σ _ Hs ρ n _ _ W1 (S.gro gr) h fun v Hs1 H1 d n1 g1 W2 r1 h1 => ?_
  cases d <;> try exact h1.elim
  rename_i i
  rw [rep_int r1]
  have hd : H1 q = some (.dK [(Sum.inl k1, .int v1), (Sum.inl k2, .int v2), (Sum.inl k3, .int v3)]) := g1.h q _ (W.gne hq) upd_same
  have fin : ∀ z : Int, valV ([(Sum.inl k1, .int v1), (Sum.inl k2, .int v2), (Sum.inl k3, .int v3)] : List (Key × V)) (Sum.inl i) = some (.int z) → Φ (.int z) n1 → ∃ a v, V.ref q = .ref a ∧ DGet H1 a (.int i) (some v) ∧ Q v H1 := fun z hz hf =>
    ⟨q, .int z, rfl, by rw [← hz]; exact DGet.k (k := Sum.inl i) hd, k _ Hs1 H1 _ n1 (gr.trans g1 W2) W2 mk_int hf⟩
  rcases h1 with ⟨rfl, h1⟩ | ⟨rfl, h1⟩ | ⟨rfl, h1⟩
  · exact fin v1 (by simp [valV]) h1
  · exact fin v2 (by simp [valV, h12]) h1
  · exact fin v3 (by simp [valV, h13, h23]) h1
/-! ### own lists -/
/-- what may be handed on: no object -/
def flatD : D → Bool
  | .int _ => true
  | .bl _ => true
  | .str _ => true
  | .non => true
  | _ => false
theorem flat_rep {c : Wr} {H H' : Hp} {d : D} {v : V} (h : flatD d = true) (r : Rep c H d v) : Rep c H' d v := by
  cases d <;> first | (simp [flatD] at h; done) | (simp only [Rep] at r ⊢; exact r)
/-- the own list in slot i is lent to an expression whose value is no object -/
def dLend (i : Nat) (te : DT) : DT := fun ρ n Φ => match ρ[i]? with
  | some (.own xs) => te (ρ.set i (.val (.lst xs))) n fun d n' => flatD d = true ∧ Φ d n'
  | _ => False
def dLendB (i : Nat) (te : DTB) : DTB := fun ρ n Φ => match ρ[i]? with
  | some (.own xs) => te (ρ.set i (.val (.lst xs))) n Φ
  | _ => False
theorem SlOk.lend {c : Wr} {H0 Hs H : Hp} {σ : L2.St} {ρ : List Sl} {xs : List D} {n : Nat} (S : SlOk c H0 Hs H σ ρ) (W : Wld c Hs H n) (i : Nat) (ho : ρ[i]? = some (.own xs)) :
    ∃ Hs', Wld c Hs' H n ∧ SlOk c H0 Hs' H σ (ρ.set i (.val (.lst xs))) ∧ ∀ Hs2 H2 n2, Gro c Hs' H Hs2 H2 → Wld c Hs2 H2 n2 → Gro c Hs H Hs H2 ∧ Wld c Hs H2 n2 := by
  obtain ⟨Hs', W', S', _, sb⟩ := S.frz W i ho
  refine ⟨Hs', W', S', fun Hs2 H2 n2 g2 W2 => ⟨⟨Sub.rfl, g2.h, fun _ h _ => h⟩, ⟨fun b o e => W2.sub _ _ (g2.s _ _ (sb _ _ e)), fun a ha => ⟨(W.gen a ha).1, (W2.gen a ha).2⟩⟩⟩⟩
theorem de_lend (i : Nat) (h : DE c X e t_h te) : DE c X e t_h (dLend i te) := by
  obtain ⟨e1, e2⟩ := h
  refine ⟨e1, fun H0 σ H Hs ρ n Φ Q W S h k => ?_⟩
  unfold dLend at h
  cases q : ρ[i]? with
  | none => rw [q] at h; exact h.elim
  | some s =>
    rw [q] at h
    cases s with
    | un => exact h.elim
    | val d => exact h.elim
    | obj cl fs => exact h.elim
    | own xs =>
      obtain ⟨Hs', W', S', back⟩ := S.lend W i q
      refine e2 H0 σ H Hs' _ n _ _ W' S' h fun v Hs2 H2 d n2 g2 W2 r2 ⟨fd, h2⟩ => ?_
      obtain ⟨g3, W3⟩ := back Hs2 H2 n2 g2 W2
      exact k v Hs H2 d n2 g3 W3 (flat_rep fd r2) h2
theorem db_lend (i : Nat) {tb : DTB} (h : DB c X e t_h tb) : DB c X e t_h (dLendB i tb) := by
  obtain ⟨e1, e2⟩ := h
  refine ⟨e1, fun H0 σ H Hs ρ n Φ Q W S h k => ?_⟩
  unfold dLendB at h
  cases q : ρ[i]? with
  | none => rw [q] at h; exact h.elim
  | some s =>
    rw [q] at h
    cases s with
    | un => exact h.elim
    | val d => exact h.elim
    | obj cl fs => exact h.elim
    | own xs =>
      obtain ⟨Hs', W', S', back⟩ := S.lend W i q
      refine e2 H0 σ H Hs' _ n _ _ W' S' h fun b Hs2 H2 n2 g2 W2 h2 => ?_
      obtain ⟨g3, W3⟩ := back Hs2 H2 n2 g2 W2
      exact k b Hs H2 n2 g3 W3 h2
/-- a change of the own list at a -/
theorem own_upd {c : Wr} {Hs0 H0 Hs H : Hp} {n : Nat} {a : Addr} {vs : List V} (W : Wld c Hs H n) (g : Gro c Hs0 H0 Hs H) (h1 : Hs a = none) (h2 : c.g ≠ some a) (h3 : H0 a = none) : Wld c Hs (upd H a (.lst vs)) n ∧ Gro c Hs0 H0 Hs (upd H a (.lst vs)) := by
  refine ⟨⟨fun b o e => ?_, fun b hb => ?_⟩, ⟨g.s, fun b o hb e => ?_, g.f⟩⟩
  · rw [upd_ne (fun z => by subst z; rw [h1] at e; cases e)]; exact W.sub b o e
  · obtain ⟨z1, z2, z3, z4, z5, z6⟩ := W.gen b hb
    exact ⟨z1, z2, z3, z4, by rw [upd_ne (fun z => h2 (by rw [← z]; exact hb))]; exact z5, z6⟩
  · rw [upd_ne (fun z => by subst z; rw [h3] at e; cases e)]; exact g.h b o hb e
/-- x.pop(), x the own list in slot i -/
def sPop (i : Nat) : DS := fun E ρ n => match ρ[i]? with
  | some (.own xs) => xs ≠ [] ∧ E.nx (ρ.set i (.own xs.dropLast)) n
  | _ => False
theorem st_pop (i : Nat) {x : Str} {px : Pos} (hN : X.N[i]? = some x := by rfl) (hv : Vis X.env.scope x := by first | exact Or.inl rfl | exact Or.inr (Or.inl rfl)) (hd : (x == ("__debug__" : Str)) = false := by decide) (hcd : (x == ("__classdict__" : Str)) = false := by decide)
    (hbase : attributeBase (.Name x px) "pop" X.env (eval (.Name x px) X.env) = eval (.Name x px) X.env := by rfl) (hline : (apos.endLine == p.line) = true := by rfl) (hs : swapsWith (.Call (.Attribute (.Name x px) "pop" apos) [] [] p) none pos.line X.env = pure false := by rfl) :
    DSt c X (.Expr (.Call (.Attribute (.Name x px) "pop" apos) [] [] p) pos) (tDrop (tBM0 c.K "list" rPop (tVar i))) (sPop i) := by
  refine ⟨fun hK => hK ▸ ps_expr (pe_bm0 PySem.F.plainAttrs_list PySem.F.slot_list_pop PySem.F.type_list_pop mt_pop (pe_var hN hv hd hcd) hbase hline) hs, fun H0 Hs0 σ H Hs ρ n E Q W S gr h k => ?_⟩
  unfold sPop at h
  cases q : ρ[i]? with
  | none => rw [q] at h; exact h.elim
  | some s =>
    rw [q] at h
    cases s with
    | un => exact h.elim
    | val d => exact h.elim
    | obj cl fs => exact h.elim
    | own xs =>
      obtain ⟨hne, h⟩ := h
      obtain ⟨a, vs, h1, h2, h3, h4, h5, h6⟩ := S.own i xs q
      have hlen := h6.length
      have hpos : 0 < xs.length := List.length_pos_iff.mpr hne
      obtain ⟨W', g'⟩ := own_upd (vs := vs.dropLast) W gr h3 h4 h5
      exact ⟨_, h1, .inl ⟨rfl, _, SqL.of h2⟩, a, vs, vs[vs.length - 1], rfl, rfl, h2, List.getElem?_eq_getElem (by omega), k.1 _ Hs _ _ n g' W' (S.mut i h1 q h6.dropLast) h⟩
/-- x.append(e) -/
def sApp (i : Nat) (te : DT) : DS := fun E ρ n => match ρ[i]? with
  | some (.own xs) => te ρ n fun d n1 => xs.length < 10000000 ∧ E.nx (ρ.set i (.own (xs ++ [d]))) n1
  | _ => False
theorem st_app (i : Nat) {x : Str} {px : Pos} (he : DE c X e t_he te) (hN : X.N[i]? = some x := by rfl) (hv : Vis X.env.scope x := by first | exact Or.inl rfl | exact Or.inr (Or.inl rfl)) (hd : (x == ("__debug__" : Str)) = false := by decide) (hcd : (x == ("__classdict__" : Str)) = false := by decide)
    (hbase : attributeBase (.Name x px) "append" X.env (eval (.Name x px) X.env) = eval (.Name x px) X.env := by rfl)
    (hfew : ((backTo p (starEach [e] X.env)).all (fun x => !x.1) && (backToKw p (keywordEach [] X.env)).all (fun x => x.1.isSome)
      && decide ([e].length + ([] : List Keyword).length + (if ([] : List Keyword).isEmpty then 0 else 1) < 30)) = true := by rfl)
    (hline : (apos.endLine == p.line) = true := by rfl) (hst : starEach [e] X.env = (false, eval e X.env) :: starEach [] X.env := by rfl) (hplain : (backTo p (starEach [] X.env)).any (·.1) = false := by rfl)
    (hs : swapsWith (.Call (.Attribute (.Name x px) "append" apos) [e] [] p) none pos.line X.env = pure false := by rfl) :
    DSt c X (.Expr (.Call (.Attribute (.Name x px) "append" apos) [e] [] p) pos) (tDrop (tBM c.K "list" rAppend (tVar i) (tCons t_he tNil))) (sApp i te) := by
  obtain ⟨e1, e2⟩ := he
  refine ⟨fun hK => hK ▸ ps_expr (pe_bm PySem.F.plainAttrs_list PySem.F.slot_list_append PySem.F.type_list_append mt_append (pe_var hN hv hd hcd) (pa_cons (e1 hK) pa_nil hst) hbase hfew hline hst hplain) hs, fun H0 Hs0 σ H Hs ρ n E Q W S gr h k => ?_⟩
  unfold sApp at h
  cases q : ρ[i]? with
  | none => rw [q] at h; exact h.elim
  | some s =>
    rw [q] at h
    cases s with
    | un => exact h.elim
    | val d => exact h.elim
    | obj cl fs => exact h.elim
    | own xs =>
      obtain ⟨a, vs, h1, h2, h3, h4, h5, h6⟩ := S.own i xs q
      refine ⟨_, h1, .inl ⟨rfl, _, SqL.of h2⟩, e2 H0 σ H Hs ρ n _ _ W S h fun v Hs1 H1 d n1 g1 W1 r1 ⟨hl, hq⟩ => ?_⟩
      have h2' : H1 a = some (.lst vs) := g1.h a _ h4 h2
      have h3' : Hs1 a = none := g1.f a h3 (by rw [h2]; exact fun z => by cases z)
      obtain ⟨W', g'⟩ := own_upd (vs := vs ++ [v]) W1 (gr.trans g1 W1) h3' h4 h5
      exact ⟨a, vs, v, rfl, rfl, h2', by rw [h6.length]; exact Nat.lt_of_lt_of_le hl (by decide), k.1 _ Hs1 _ _ n1 g' W' ((S.gro g1).mut i h1 q ((RepL.mono g1.s _ _ h6).append (RepL.one r1))) hq⟩
/-- x[e] = v -/
def sSetI (i : Nat) (ti tv : DT) : DS := fun E ρ n => match ρ[i]? with
  | some (.own xs) => tv ρ n fun d n1 => ti ρ n1 fun j n2 => match j with
    | .int j => (0 ≤ j ∧ j < (xs.length : Int)) ∧ E.nx (ρ.set i (.own (xs.set j.toNat d))) n2
    | _ => False
  | _ => False
theorem st_seti (i : Nat) {x : Str} {px sp : Pos} {ix ev : Expr} {ti tv : DT} (hv : DE c X ev t_hv tv) (hi : DE c X ix t_hi ti) (hN : X.N[i]? = some x := by rfl) (hvis : Vis X.env.scope x := by first | exact Or.inl rfl | exact Or.inr (Or.inl rfl)) (hd : (x == ("__debug__" : Str)) = false := by decide) (hcd : (x == ("__classdict__" : Str)) = false := by decide)
    (ha : ∀ v, assign (.Subscript (.Name x px) ix sp) X.env v = (do
      let ov ← holding [v] (eval (.Name x px) X.env)
      let iv ← holding [v, ov] (eval ix X.env)
      standAt sp
      holding [v, ov, iv] (setItem ov iv v)
      release [v, ov, iv] []) := by intro _; rfl)
    (hs : swapsWithSole [.Subscript (.Name x px) ix sp] ev pos.line X.env = pure false := by rfl) (hw : swappedStores [.Subscript (.Name x px) ix sp] ev X.env = pure none := by rfl)
    (h1 : (assignEach [.Subscript (.Name x px) ix sp] X.env).map (·.2) = [assign (.Subscript (.Name x px) ix sp) X.env] := by rfl) :
    DSt c X (.Assign [.Subscript (.Name x px) ix sp] ev pos) (tAsg t_hv (gSub (tVar i) t_hi rSetL)) (sSetI i ti tv) := by
  obtain ⟨v1, v2⟩ := hv
  obtain ⟨i1, i2⟩ := hi
  refine ⟨fun hK => ps_asg (v1 hK) (pg_sub (pe_var hN hvis hd hcd) (i1 hK) set_list ha) hs hw h1, fun H0 Hs0 σ H Hs ρ n E Q W S gr h k => ?_⟩
  unfold sSetI at h
  cases q : ρ[i]? with
  | none => rw [q] at h; exact h.elim
  | some s =>
    rw [q] at h
    cases s with
    | un => exact h.elim
    | val d => exact h.elim
    | obj cl fs => exact h.elim
    | own xs =>
      refine v2 H0 σ H Hs ρ n _ _ W S h fun v Hs1 H1 d n1 g1 W1 r1 hq1 => ?_
      obtain ⟨a, vs, h1, h2, h3, h4, h5, h6⟩ := (S.gro g1).own i xs q
      refine ⟨_, h1, i2 H0 σ H1 Hs1 ρ n1 _ _ W1 (S.gro g1) hq1 fun u Hs2 H2 j n2 g2 W2 r2 hq2 => ?_⟩
      cases j <;> try exact hq2.elim
      rename_i j
      obtain ⟨⟨q1, q2⟩, hq2⟩ := hq2
      have g12 := g1.trans g2 W2
      have h2' : H2 a = some (.lst vs) := g2.h a _ h4 h2
      have h3' : Hs2 a = none := g2.f a h3 (by rw [h2]; exact fun z => by cases z)
      obtain ⟨W', g'⟩ := own_upd (vs := vs.set j.toNat v) W2 (gr.trans g12 W2) h3' h4 h5
      have hl := h6.length
      refine ⟨a, vs, j, j.toNat, rfl, rep_int r2, h2', ?_, k.1 _ Hs2 _ _ n2 g' W' ((S.gro g12).mut i h1 q ((RepL.mono g2.s _ _ h6).set (Rep.mono g2.s _ _ r1) j.toNat)) hq2⟩
      unfold ixN
      rw [if_pos q1, if_pos (by rw [hl]; exact q2)]
end
end DL
end
section
set_option Elab.async false
set_option maxRecDepth 100000
set_option linter.all false
/-! Own instances, own ==, a def's promise from its body by data. -/
namespace DL
open PySem PySem.Spec PyProof.Rows L2
/-! ### instances -/
def putD (f : Str) (d : D) : List (Str × D) → List (Str × D)
  | [] => [(f, d)]
  | (g, x) :: r => if g = f then (g, d) :: r else (g, x) :: putD f d r
theorem RepF.put {c : Wr} {H : Hp} {f : Str} {d : D} {v : V} (r : Rep c H d v) : ∀ {fs : List (Str × D)} {vs : List (Str × V)}, RepF c H fs vs → RepF c H (putD f d fs) (putF f v vs)
  | [], _, h => by
    have h : _ = [] := h
    subst h
    exact ⟨v, [], rfl, r, rfl⟩
  | (g, x) :: fs, _, ⟨u, us, rfl, h2, h3⟩ => by
    unfold putD putF
    by_cases e : g = f
    · rw [if_pos e, if_pos e]; exact ⟨v, us, rfl, r, h3⟩
    · rw [if_neg e, if_neg e]; exact ⟨u, _, rfl, h2, RepF.put r h3⟩
theorem RepF.length {c : Wr} {H : Hp} : ∀ {fs : List (Str × D)} {vs : List (Str × V)}, RepF c H fs vs → vs.length = fs.length
  | [], _, h => by have h : _ = [] := h; subst h; rfl
  | (g, x) :: fs, _, ⟨u, us, rfl, h2, h3⟩ => by simp [RepF.length h3]
abbrev fldF (p : Int) (f a b z : List Int) : List (Str × D) := [(("_curve" : Str), .crv p f), (("_parts" : Str), .lst [L a, L b, L z])]
abbrev fldC (p : Int) (f : List Int) : List (Str × D) := [(("_prime" : Str), .int p), (("_polynomial" : Str), L f)]
/-- the datum that an instance's attributes make -/
def ObjD (C F cl : Addr) (fs : List (Str × D)) (d : D) : Prop :=
  (cl = F ∧ ∃ p f a b z, fs = fldF p f a b z ∧ d = .fnc p f a b z) ∨ (cl = C ∧ ∃ p f, fs = fldC p f ∧ d = .crv p f)
theorem ObjD.rep {c : Wr} {Hs Hs' : Hp} {a dx cl : Addr} {fs : List (Str × D)} {vs : List (Str × V)} {d : D} (o : ObjD c.C c.F cl fs d) (r : RepF c Hs fs vs) (sb : Sub Hs Hs') (h : Hs' a = some (.ins cl dx vs)) : Rep c Hs' d (.ref a) := by
  have r := RepF.mono sb _ _ r
  rcases o with ⟨rfl, p, f, x, y, z, rfl, rfl⟩ | ⟨rfl, p, f, rfl, rfl⟩
  · obtain ⟨v1, _, rfl, r1, v2, _, rfl, r2, r3⟩ := r
    have r3 : _ = [] := r3
    subst r3
    simp only [Rep] at r1
    obtain ⟨cu, rfl, hc⟩ := r1
    obtain ⟨pl, us, rfl, hpl, r2⟩ := rep_lst r2
    obtain ⟨u1, u2, u3, rfl, q1, q2, q3⟩ := repl3 r2
    obtain ⟨x1, rfl, k1⟩ := rep_L.mp q1
    obtain ⟨x2, rfl, k2⟩ := rep_L.mp q2
    obtain ⟨x3, rfl, k3⟩ := rep_L.mp q3
    simp only [Rep]
    exact ⟨a, rfl, dx, cu, pl, x1, x2, x3, h, hc, hpl, k1, k2, k3⟩
  · obtain ⟨v1, _, rfl, r1, v2, _, rfl, r2, r3⟩ := r
    have r3 : _ = [] := r3
    subst r3
    obtain ⟨l, rfl, k1⟩ := rep_L.mp r2
    rw [rep_int r1] at h
    simp only [Rep]
    exact ⟨a, rfl, dx, l, h, k1⟩
section
variable {c : Wr} {X : Cx} {e : Expr} {te : DT} {τ : DTF} {x : Str} {pos p : Pos}
/-- x.f = e, x the own instance in slot i -/
def sFldD (i : Nat) (cl : Addr) (f : Str) (te : DT) : DS := fun E ρ n => match ρ[i]? with
  | some (.obj cl' fs) => te ρ n fun d n1 => (cl'.2 = cl ∧ fs.length < 1000) ∧ E.nx (ρ.set i (.obj cl' (putD f d fs))) n1
  | _ => False
theorem st_fld (i : Nat) {f : Str} {cl : Addr} {px p2 : Pos} (he : DE c X e t_he te) (hcl : Cls c.K cl) (na : NoAttr c.K cl f) (hN : X.N[i]? = some x := by rfl) (hv : Vis X.env.scope x := by first | exact Or.inl rfl | exact Or.inr (Or.inl rfl)) (hd : (x == ("__debug__" : Str)) = false := by decide) (hcd : (x == ("__classdict__" : Str)) = false := by decide)
    (hs : swapsWith e (some (.Attribute (.Name x px) f p2)) pos.line X.env = pure false := by rfl) : DSt c X (.Assign [.Attribute (.Name x px) f p2] e pos) (L2.sFld c.K (tVar i) t_he f) (sFldD i cl f te) := by
  obtain ⟨e1, e2⟩ := he
  refine ⟨fun hK => hK ▸ ps_fld (pe_var hN hv hd hcd) (e1 hK) hs, fun H0 Hs0 σ H Hs ρ n E Q W S gr h k => ?_⟩
  unfold sFldD at h
  cases q : ρ[i]? with
  | none => rw [q] at h; exact h.elim
  | some s =>
    rw [q] at h
    cases s with
    | un => exact h.elim
    | val d => exact h.elim
    | own xs => exact h.elim
    | obj cl' fs =>
      refine e2 H0 σ H Hs ρ n _ _ W S h fun v Hs1 H1 d n1 g1 W1 r1 ⟨⟨hc, hl⟩, hq⟩ => ?_
      subst hc
      have S1 := S.gro g1
      obtain ⟨a, dx, vs, h1, h2, h3, h4, h5, h6, h7⟩ := S1.obj i cl' fs q
      have g' := gr.trans g1 W1
      have W' : Wld c Hs1 (upd H1 a (.ins cl'.2 dx (putF f v vs))) n1 := ⟨fun b o e => by rw [upd_ne (fun z => by subst z; rw [h3] at e; cases e)]; exact W1.sub b o e, fun b hb => by
        obtain ⟨z1, z2, z3, z4, z5, z6⟩ := W1.gen b hb
        exact ⟨z1, z2, z3, z4, by rw [upd_ne (fun z => h4 (by rw [← z]; exact hb))]; exact z5, z6⟩⟩
      have gr' : Gro c Hs0 H0 Hs1 (upd H1 a (.ins cl'.2 dx (putF f v vs))) := ⟨g'.s, fun b o hb e => by rw [upd_ne (fun z => by subst z; rw [h5] at e; cases e)]; exact g'.h b o hb e, g'.f⟩
      exact ⟨_, h1, a, cl'.2, dx, vs, rfl, h2, hcl, na, by rw [h6.length]; exact hl, k.1 _ Hs1 _ _ n1 gr' W' (S1.mutW i h1 q rfl rfl ⟨h3, h4, h5⟩ (fun ys e => by cases e) (fun cl2 fs2 e => by cases e; exact ⟨dx, _, rfl, RepF.put r1 h6, h7⟩)) hq⟩
/-- x = C(..), the new Function kept as the frame's own -/
def sNewF (cF : Addr) (κ : Con) (τ : DTF) (i : Nat) : DS := fun E ρ n => τ ρ n fun ds n1 => κ ds n1 fun d n2 => match d with
  | .fnc p f a b z => ∀ adr, E.nx (ρ.set i (.obj (adr, cF) (fldF p f a b z))) n2
  | _ => False
/-- the own Function in slot i stands still from here on -/
def sFrzF (cF : Addr) (i : Nat) (t : DS) : DS := fun E ρ n => ∃ adr p f a b z, ρ[i]? = some (.obj (adr, cF) (fldF p f a b z)) ∧ t E (ρ.set i (.val (.fnc p f a b z))) n
theorem ss_frzF (i : Nat) {sts : List Stmt} {t : DS} (h1 : DSs c X sts t_h1 t) : DSs c X sts t_h1 (sFrzF c.F i t) := by
  obtain ⟨a1, a2⟩ := h1
  refine ⟨a1, fun H0 Hs0 σ H Hs ρ n E Q W S g ⟨adr, p, f, x, y, z, hρ, h⟩ k => ?_⟩
  obtain ⟨a, dx, vs, h1, h2, h3, h4, h5, h6, h7⟩ := S.obj i _ _ hρ
  obtain ⟨Hs', W', S', g', _⟩ := S.frzW (d := .fnc p f x y z) W i h1 hρ rfl h2 h3 h4 h5 fun Hs' sb e => ObjD.rep (.inl ⟨rfl, p, f, x, y, z, rfl, rfl⟩) h6 sb e
  exact a2 H0 Hs0 σ H Hs' _ n E Q W' S' (g' _ g) h k
end
section
variable {X : Cx} {K : PySem.W.Frag} {C F : Addr} {g : Option Addr} {lvl j : Nat} {x y : Str} {κ : Con} {e : Expr} {es : List Expr} {τ : DTF} {pos p pos' : Pos}
theorem st_newF (i : Nat) (hN : X.N.Nodup) (f : Nw X.prog X.w K X.mg X.base C F F lvl x κ) (hr : Room j X.A) (ha : DA ⟨K, C, F, g⟩ X (e :: es) t_ha τ) (hk : X.K = K := by rfl) (hl : lvl + 1 ≤ j := by decide) (hg : Gl X x := by rfl) (hdb : (x == ("__debug__" : Str)) = false := by decide)
    (he : starEach (e :: es) X.env = (false, eval e X.env) :: starEach es X.env := by rfl) (hpl : (backTo p (starEach es X.env)).any (·.1) = false := by rfl) {px : Pos} (hi : X.N[i]? = some y := by rfl) (hx : Loc X.env.scope y := by first | exact Or.inl rfl | exact Or.inr rfl)
    (hs : swapsWith (.Call (.Name x px) (e :: es) [] p) (some (.Name y pos')) pos.line X.env = pure false := by rfl) (hf : X.fn y = true ∨ X.env.scope.names.lookup y = some .local := by first | exact .inl rfl | exact .inr rfl) :
    DSt ⟨K, C, F, g⟩ X (.Assign [.Name y pos'] (.Call (.Name x px) (e :: es) [] p) pos) (tAsg (tMake F (spN K C F F κ) [] E0 t_ha) (gName i)) (sNewF F κ τ i) := by
  subst hk
  obtain ⟨a1, a2⟩ := ha
  obtain ⟨⟨fa, fd, ps, fo, mk, hm, b⟩, mon⟩ := f
  refine ⟨fun hK => ps_set hN hi hx (pe_make mk fo (hr.mono hl) hg hm b .nil pass0 (a1 hK) hdb he hpl) hs hf, fun H0 Hs0 σ H Hs ρ n E Q W S gr h k => ?_⟩
  refine a2 H0 σ H Hs ρ n _ _ W S h fun vs Hs1 H1 ds n1 g1 W1 r1 h1 y dy hy hdy ne => ?_
  rw [List.append_nil]
  refine ⟨g, Hs1, H1, n1, y, dy, vs, ds, rfl, hy, hdy, ne, rfl, W1, r1, mon _ _ _ _ (fun d n2 h' Hs2 H2 g2 W2 r2 => ⟨rfl, ?_⟩) h1⟩
  cases d <;> try exact h'.elim
  rename_i p f x' y' z'
  simp only [Rep] at r2
  obtain ⟨a, ea, dx, cu, pl, x1, x2, x3, k1, ⟨dc, lc, k2, k3⟩, k4, k5, k6, k7⟩ := r2
  cases ea
  let Hs3 : Hp := fun b => if b = y then none else Hs2 b
  have at3 : ∀ {b o}, Hs2 b = some o → b ≠ y → Hs3 b = some o := fun {b o} e n => by show (if b = y then none else Hs2 b) = _; rw [if_neg n]; exact e
  have s3 : Hs3 y = none := by show (if y = y then none else Hs2 y) = _; rw [if_pos rfl]
  have ny : ∀ {b o}, Hs2 b = some o → o ≠ .ins F dx [(("_curve" : Str), .ref cu), (("_parts" : Str), .ref pl)] → b ≠ y := fun {b o} e n z => by subst z; rw [k1] at e; exact n (Option.some.inj e).symm
  have hnl : ∀ {b us}, Hs2 b = some (.lst us) → b ≠ y := fun {b us} e => ny e (fun z => by cases z)
  have ncu : cu ≠ y := ny k2 (fun z => by
    injection z with _ _ z
    injection z with z _
    injection z with z _
    exact absurd z (by decide +kernel))
  have g12 := g1.trans g2 W2
  have gr3 : Gro ⟨X.K, C, F, g⟩ Hs H Hs3 H2 := ⟨fun b o e => at3 (g12.s b o e) (fun z => by subst z; rw [W.nn (g1.fresh W1 hy)] at e; cases e), g12.h, fun b q1 q2 => by
    show (if b = y then none else Hs2 b) = none
    split
    · rfl
    · exact g12.f b q1 q2⟩
  have W3 : Wld ⟨X.K, C, F, g⟩ Hs3 H2 n2 := ⟨fun b o e => by
    have e : (if b = y then none else Hs2 b) = some o := e
    split at e
    · cases e
    · exact W2.sub b o e, fun b hb => by
    obtain ⟨z1, z2⟩ := W2.gen b hb
    refine ⟨?_, z2⟩
    show (if b = y then none else Hs2 b) = none
    split
    · rfl
    · exact z1⟩
  have rf : RepF ⟨X.K, C, F, g⟩ Hs3 (fldF p f x' y' z') [(("_curve" : Str), .ref cu), (("_parts" : Str), .ref pl)] := by
    refine ⟨_, _, rfl, ?_, _, _, rfl, ?_, rfl⟩
    · simp only [Rep]; exact ⟨cu, rfl, dc, lc, at3 k2 ncu, at3 k3 (hnl k3)⟩
    · simp only [Rep, RepL]
      exact ⟨pl, _, rfl, at3 k4 (hnl k4), _, _, rfl, rep_L.mpr ⟨x1, rfl, at3 k5 (hnl k5)⟩, _, _, rfl, rep_L.mpr ⟨x2, rfl, at3 k6 (hnl k6)⟩, _, _, rfl, rep_L.mpr ⟨x3, rfl, at3 k7 (hnl k7)⟩, rfl⟩
  have hy0 : H y = none := g1.fresh W1 hy
  exact k.1 _ Hs3 H2 _ n2 (gr.trans gr3 W3) W3 ((S.gro gr3).setW i rfl (fun xs e => by cases e) (fun cl fs e => by cases e; exact ⟨dx, _, W2.sub _ _ k1, s3, W.gne hy0, gr.fresh W hy0, rf, rfl⟩) (S.fresh hy0)) (h' y)
end
end DL
end
section
set_option Elab.async false
set_option maxRecDepth 100000
set_option linter.all false
/-! Own ==, a def's promise from its body by data. -/
namespace DL
open PySem PySem.Spec PyProof.Rows L2
/-! ### == by an own __eq__: of equal data, True -/
structure Qm (P : Program) (w : World) (K : PySem.W.Frag) (mg : Str → Option Value) (base : Heap) (C F : Addr) (cl : Addr) (lvl : Nat) (κ : Con) : Prop where
  ex : ∃ f fd ps, FnOk P w K mg base CX0 lvl f fd ps (spD K C F κ) ∧ PySem.W.findIn K (.ref cl) "__eq__" = some (some (.ref f)) ∧ PySem.W.isFn K (.ref f) = true ∧ Binds K fd ps []
def kEqF : Con := fun ds n Φ => ∃ p f a b z, ds = [.fnc p f a b z, .fnc p f a b z] ∧ Φ (.bl true) n
def kEqC : Con := fun ds n Φ => ∃ p f, ds = [.crv p f, .crv p f] ∧ Φ (.bl true) n
def wEqF : DO := fun x y n Φ => (∃ p f a b z, x = .fnc p f a b z ∧ y = .fnc p f a b z) ∧ Φ (.bl true) n
def wEqC : DO := fun x y n Φ => (∃ p f, x = .crv p f ∧ y = .crv p f) ∧ Φ (.bl true) n
section
variable {X : Cx} {K : PySem.W.Frag} {C F : Addr} {g : Option Addr} {lvl j : Nat}
theorem ext_back {c : Wr} {Hs H H' : Hp} {n : Nat} (W : Wld c Hs H n) (e : Ext H H') : Gro c Hs H Hs H' ∧ Wld c Hs H' n := by
  refine ⟨⟨Sub.rfl, fun b o _ h => e b o h, fun _ h _ => h⟩, ⟨fun b o h => e _ _ (W.sub _ _ h), fun a ha => ?_⟩⟩
  obtain ⟨z1, x, y, i, z2, z3⟩ := W.gen a ha
  exact ⟨z1, x, y, i, e _ _ z2, z3⟩
def rEF (c : Wr) (a b : Addr) (H : Hp) : Prop := ∃ p f x y z, FncAt c H a p f x y z ∧ FncAt c H b p f x y z
def rEC (c : Wr) (a b : Addr) (H : Hp) : Prop := ∃ p f, CrvAt c H a p f ∧ CrvAt c H b p f
theorem o_eqF (f : Qm X.prog X.w K X.mg X.base C F F lvl kEqF) (hr : Room j X.A) (hk : X.K = K := by rfl) (hl : lvl ≤ j := by decide) : DOp ⟨K, C, F, g⟩ X (compareOp .Eq) (rEqG (DIns F (rEF ⟨K, C, F, none⟩))) wEqF := by
  subst hk
  obtain ⟨fa, fd, ps, fo, fe, fi, b⟩ := f
  refine ⟨fun hK => op_eqG (rcG_ins (fo.imp (sp' := spEq (rEF ⟨X.K, C, F, none⟩)) fun vs H Q E ⟨a, b, e, ⟨p, f, x, y, z, h1, h2⟩, q⟩ => ?_) fe fi b pass0) (hr.mono hl), fun H Hs v u d e n Φ Q W r1 r2 ⟨⟨p, f, x, y, z, e1, e2⟩, h⟩ k => ?_⟩
  · subst e
    refine ⟨none, H, 0, [.fnc p f x y z, .fnc p f x y z], ⟨Sub.rfl, fun a ha => by cases ha⟩, ?_, p, f, x, y, z, rfl, fun v Hs' H' gr W r => ?_⟩
    · simp only [RepL, Rep]
      exact ⟨_, _, rfl, ⟨a, rfl, h1⟩, _, _, rfl, ⟨b, rfl, h2⟩, rfl⟩
    · rw [rep_bl r]
      exact q H' fun c o ho => gr.h c o (fun z => by cases z) ho
  · subst e1 e2
    simp only [Rep] at r1 r2
    obtain ⟨a, rfl, q1⟩ := r1
    obtain ⟨b, rfl, q2⟩ := r2
    have q1' := q1.mono W.sub
    have q2' := q2.mono W.sub
    obtain ⟨dx, cu, pl, x1, x2, x3, ha, _⟩ := id q1'
    obtain ⟨dy, cv, pm, y1, y2, y3, hb, _⟩ := id q2'
    refine ⟨⟨a, b, dx, dy, _, _, rfl, rfl, ha, hb, p, f, x, y, z, q1', q2'⟩, fun H' e => ?_⟩
    obtain ⟨g', W'⟩ := ext_back W e
    exact k _ Hs H' _ n g' W' mk_bl h
theorem o_eqC (f : Qm X.prog X.w K X.mg X.base C F C lvl kEqC) (hr : Room j X.A) (hk : X.K = K := by rfl) (hl : lvl ≤ j := by decide) : DOp ⟨K, C, F, g⟩ X (compareOp .Eq) (rEqG (DIns C (rEC ⟨K, C, F, none⟩))) wEqC := by
  subst hk
  obtain ⟨fa, fd, ps, fo, fe, fi, b⟩ := f
  refine ⟨fun hK => op_eqG (rcG_ins (fo.imp (sp' := spEq (rEC ⟨X.K, C, F, none⟩)) fun vs H Q E ⟨a, b, e, ⟨p, f, h1, h2⟩, q⟩ => ?_) fe fi b pass0) (hr.mono hl), fun H Hs v u d e n Φ Q W r1 r2 ⟨⟨p, f, e1, e2⟩, h⟩ k => ?_⟩
  · subst e
    refine ⟨none, H, 0, [.crv p f, .crv p f], ⟨Sub.rfl, fun a ha => by cases ha⟩, ?_, p, f, rfl, fun v Hs' H' gr W r => ?_⟩
    · simp only [RepL, Rep]
      exact ⟨_, _, rfl, ⟨a, rfl, h1⟩, _, _, rfl, ⟨b, rfl, h2⟩, rfl⟩
    · rw [rep_bl r]
      exact q H' fun c o ho => gr.h c o (fun z => by cases z) ho
  · subst e1 e2
    simp only [Rep] at r1 r2
    obtain ⟨a, rfl, q1⟩ := r1
    obtain ⟨b, rfl, q2⟩ := r2
    have q1' := q1.mono W.sub
    have q2' := q2.mono W.sub
    obtain ⟨dx, l1, ha, _⟩ := id q1'
    obtain ⟨dy, l2, hb, _⟩ := id q2'
    refine ⟨⟨a, b, dx, dy, _, _, rfl, rfl, ha, hb, p, f, q1', q2'⟩, fun H' e => ?_⟩
    obtain ⟨g', W'⟩ := ext_back W e
    exact k _ Hs H' _ n g' W' mk_bl h
end
/-! ### a def -/
/-- the slots at the entry -/
def slots0 (ds : List D) (m : Nat) : List Sl := ds.map Sl.val ++ List.replicate m .un
theorem vals_get {c : Wr} {Hs : Hp} {ds : List D} {vs : List V} (r : RepL c Hs ds vs) {m : Nat} {i : Nat} {s : Sl} (h : (slots0 ds m)[i]? = some s) : (∃ d v, s = .val d ∧ (vs.map some ++ List.replicate m none)[i]? = some (some v) ∧ Rep c Hs d v) ∨ s = .un := by
  unfold slots0 at h
  have hl := r.length
  by_cases hi : i < ds.length
  · rw [List.getElem?_append_left (by simpa using hi), List.getElem?_map] at h
    rw [List.getElem?_eq_getElem hi] at h
    have e : Sl.val ds[i] = s := Option.some.inj h
    obtain ⟨v, hv, rv⟩ := r.get (List.getElem?_eq_getElem hi)
    refine .inl ⟨_, v, e.symm, ?_, rv⟩
    rw [List.getElem?_append_left (by simp; omega), List.getElem?_map, hv]
    rfl
  · rw [List.getElem?_append_right (by simpa using hi), List.getElem?_replicate] at h
    split at h
    · exact .inr (Option.some.inj h).symm
    · cases h
theorem slok0 {c : Wr} {Hs H H0 : Hp} {ds : List D} {vs : List V} {N : List Str} (r : RepL c Hs ds vs) (hN : ds.length ≤ N.length) : SlOk c H0 Hs H (L2.start N vs) (slots0 ds (N.length - ds.length)) := by
  have hl := r.length
  have e : L2.start N vs = vs.map some ++ List.replicate (N.length - ds.length) none := by unfold L2.start; rw [hl]
  rw [e]
  refine ⟨by unfold slots0; simp [hl], fun i d h => ?_, fun i xs h => ?_, fun i cl fs h => ?_, fun i j s t a h1 h2 w1 w2 _ _ => ?_⟩
  · rcases vals_get r h with ⟨d', v, e, h1, h2⟩ | e
    · cases e; exact ⟨v, h1, h2⟩
    · cases e
  · rcases vals_get r h with ⟨d', v, e, _⟩ | e <;> cases e
  · rcases vals_get r h with ⟨d', v, e, _⟩ | e <;> cases e
  · rcases vals_get r h1 with ⟨d', v, e, _⟩ | e <;> (rw [e] at w1; cases w1)
section
variable {P : Program} {w : World} {K : PySem.W.Frag} {mg : Str → Option Value} {base : Heap} {x qual : Str} {params : Arguments} {body : List Stmt} {scope : Scope} {f : Addr} {fd : FuncData} {C F cl : Addr} {κ : Con} {N ps : List Str} {k : Nat}
theorem fn_ok (Fd : FunD K x qual params body scope [] [] f fd) (S : FnScope N ps scope) (len : ∀ ds n Φ, κ ds n Φ → ds.length = ps.length)
    (hb : ∀ (g : Option Addr) (cdv : Value) (A : Around) (outer : List Env) (s : Shared) (H : Hp) (E : XK), Room k (A.deeper (envOfC qual scope s.heap.objs.size f cdv)) →
      ∃ t τ, DSs ⟨K, C, F, g⟩ (cxOf CX0 P w K mg base N qual scope f cdv A outer s H E).nox body t τ ∧ ∀ ds n Φ, κ ds n Φ → τ ⟨fun _ n' => Φ .non n', Φ⟩ (slots0 ds (N.length - ps.length)) n) :
    FnOk P w K mg base CX0 (k + 1) f fd ps (spD K C F κ) := by
  have hpl : ps.length ≤ N.length := by have := congrArg List.length S.pre; rw [List.length_take] at this; omega
  refine FunD.ok Fd S (fun vs H Q E ⟨g, Hs, n, ds, W, r, h⟩ => by rw [r.length]; exact len ds n _ h) fun cdv A outer s H vs Q E hr ⟨g, Hs, n, ds, W, r, h⟩ => ?_
  obtain ⟨t, τ, ⟨d1, d2⟩, hd⟩ := hb g cdv A outer s H E hr
  refine ⟨t, PSs.nox (d1 rfl), ?_⟩
  have e := len ds n _ h
  have hd := hd ds n _ h
  rw [← e] at hd
  exact d2 H Hs (L2.start N vs) H Hs _ n _ _ W (slok0 r (by omega)) .rfl hd ⟨fun σ' Hs' H' ρ' n' g' W' S' h' => h' .non Hs' H' g' W' (by simp only [Rep]), fun v Hs' H' d n' g' W' r' h' => h' v Hs' H' g' W' r'⟩
/-- an __init__ -/
theorem fn_okN (Fd : FunD K x qual params body scope [] [] f fd) (S : FnScope N ps scope) (len : ∀ ds n Φ, κ ds n Φ → ds.length + 1 = ps.length)
    (hb : ∀ (g : Option Addr) (cdv : Value) (A : Around) (outer : List Env) (s : Shared) (H : Hp) (E : XK), Room k (A.deeper (envOfC qual scope s.heap.objs.size f cdv)) →
      ∃ t τ, DSs ⟨K, C, F, g⟩ (cxOf CX0 P w K mg base N qual scope f cdv A outer s H E).nox body t τ ∧ ∀ ds n Φ x, κ ds n Φ → τ ⟨fun ρ' n' => ∃ fs d, ρ'[0]? = some (.obj (x, cl) fs) ∧ ObjD C F cl fs d ∧ Φ d n', fun _ _ => False⟩ (.obj (x, cl) [] :: slots0 ds (N.length - ps.length)) n) :
    FnOk P w K mg base CX0 (k + 1) f fd ps (spN K C F cl κ) := by
  have hpl : ps.length ≤ N.length := by have := congrArg List.length S.pre; rw [List.length_take] at this; omega
  refine FunD.ok Fd S (fun vs H Q E ⟨g, Hs, H1, n, x, dx, us, ds, e, _, _, _, _, W, r, h⟩ => by rw [e, List.length_cons, r.length]; exact len ds n _ h) fun cdv A outer s H vs Q E hr ⟨g, Hs, H1, n, x, dx, us, ds, ev, hx, hdx, ne, eH, W, r, h⟩ => ?_
  obtain ⟨t, τ, ⟨d1, d2⟩, hd⟩ := hb g cdv A outer s H E hr
  refine ⟨t, PSs.nox (d1 rfl), ?_⟩
  have e := len ds n _ h
  have hd := hd ds n _ x h
  have eN : N.length - ps.length = (N.length - 1) - ds.length := by omega
  rw [eN] at hd
  subst ev eH
  have hgx : (Wr.mk K C F g).g ≠ some x := W.gne hx
  have hg2 : ∀ b o, H1 b = some o → (upd (upd H1 dx (.own x)) x (.ins cl dx [])) b = some o := fun b o e => by rw [upd_ne (ne_of_none e hx), upd_ne (ne_of_none e hdx)]; exact e
  have W2 : Wld ⟨K, C, F, g⟩ Hs (upd (upd H1 dx (.own x)) x (.ins cl dx [])) n := ⟨fun b o e => hg2 _ _ (W.sub _ _ e), fun a ha => by
    obtain ⟨z1, p, q, i, z2, z3⟩ := W.gen a ha
    exact ⟨z1, p, q, i, hg2 _ _ z2, z3⟩⟩
  have g2 : Gro ⟨K, C, F, g⟩ Hs H1 Hs (upd (upd H1 dx (.own x)) x (.ins cl dx [])) := ⟨Sub.rfl, fun b o _ e => hg2 b o e, fun _ e _ => e⟩
  have hN0 : 0 < N.length := by omega
  obtain ⟨n0, N', rfl⟩ : ∃ a r, N = a :: r := by
    cases N with
    | nil => simp at hN0
    | cons a r => exact ⟨a, r, rfl⟩
  have S1 : SlOk ⟨K, C, F, g⟩ H1 Hs (upd (upd H1 dx (.own x)) x (.ins cl dx [])) (L2.start N' us) (slots0 ds (N'.length - ds.length)) := slok0 r (by simp at hpl; omega)
  have st : L2.start (n0 :: N') (.ref x :: us) = some (.ref x) :: L2.start N' us := by
    unfold L2.start
    simp
  have S2 : SlOk ⟨K, C, F, g⟩ H1 Hs (upd (upd H1 dx (.own x)) x (.ins cl dx [])) (L2.start (n0 :: N') (.ref x :: us)) (.obj (x, cl) [] :: slots0 ds ((n0 :: N').length - 1 - ds.length)) := by
    rw [st]
    have el : (n0 :: N').length - 1 - ds.length = N'.length - ds.length := by simp
    rw [el]
    have now : ∀ (i : Nat) (s : Sl), (slots0 ds (N'.length - ds.length))[i]? = some s → isOw s = false := fun i s h => by
      rcases vals_get r h with ⟨d', v, e, _⟩ | e <;> rw [e] <;> rfl
    refine ⟨by simp [S1.len], fun i d h => ?_, fun i xs h => ?_, fun i cl' fs h => ?_, fun i j s t a h1 h2 w1 w2 _ _ => ?_⟩
    · cases i with
      | zero => cases h
      | succ i => exact S1.val i d (by simpa using h)
    · cases i with
      | zero => cases h
      | succ i => exact S1.own i xs (by simpa using h)
    · cases i with
      | zero =>
        have h : some (Sl.obj (x, cl) []) = some (Sl.obj cl' fs) := h
        cases h
        exact ⟨x, dx, [], rfl, upd_same, W.nn hx, hgx, hx, rfl, rfl⟩
      | succ i => exact S1.obj i cl' fs (by simpa using h)
    · have z : ∀ {i : Nat} {s : Sl}, (Sl.obj (x, cl) [] :: slots0 ds (N'.length - ds.length))[i]? = some s → isOw s = true → i = 0 := fun {i s} h w => by
        cases i with
        | zero => rfl
        | succ i => rw [now i s (by simpa using h)] at w; cases w
      rw [z h1 w1, z h2 w2]
  refine d2 H1 Hs _ _ Hs _ n _ _ W2 S2 g2 hd ⟨fun σ' Hs' H' ρ' n' g' W' S' ⟨fs, d, h0, o, h'⟩ => ?_, fun _ _ _ _ _ _ _ _ h => h.elim⟩
  obtain ⟨a, dx', vs', q1, q2, q3, q4, q5, q6, q7⟩ := S'.obj 0 _ _ h0
  obtain rfl : a = x := q7
  obtain ⟨Hs3, W3, S3, g3, _⟩ := S'.frzW (d := d) W' 0 q1 h0 rfl q2 q3 q4 q5 fun Hs4 sb e => ObjD.rep o q6 sb e
  obtain ⟨v, q8, q9⟩ := S3.val 0 d (by
    rw [List.getElem?_set_self]
    exact (List.getElem?_eq_some_iff.mp h0).1)
  rw [q1] at q8
  cases q8
  exact h' Hs3 H' (g3 _ g') W3 q9
end
end DL
end
section
set_option Elab.async false
set_option maxRecDepth 100000
set_option linter.all false
/-! The generator: its three numbers are read and stored; the list that it begins as. -/
namespace DL
open PySem PySem.Spec PyProof.Rows L2
section
variable {c : Wr} {X : Cx} {a b e : Expr} {ta tb te : DT} {pos : Pos} {x : Str}
def okG (k : Int) (n : Nat) (z : Int) : Prop := 0 ≤ z ∧ (k = 1 → z < 2 ^ 31) ∧ (k = 2 → z ≤ (n : Int))
/-- gen[k] -/
def dGen (i : Nat) (k : Int) : DT := fun ρ n Φ => ρ[i]? = some (.val .gen) ∧ (k = 0 ∨ k = 1 ∨ k = 2) ∧ ∀ z : Int, okG k n z → Φ (.int z) n
theorem de_gen (i : Nat) (k : Int) {j : Nat} {px pk : Pos} (hN : X.N[i]? = some x := by rfl) (hv : Vis X.env.scope x := by first | exact Or.inl rfl | exact Or.inr (Or.inl rfl)) (hd : (x == ("__debug__" : Str)) = false := by decide)
    (hcd : (x == ("__classdict__" : Str)) = false := by decide) (hs : PlainIx (.Constant (.int k) j pk) := by exact fun _ _ => rfl) : DE c X (.Subscript (.Name x px) (.Constant (.int k) j pk) pos) (tOp (rIxL c.K) (tVar i) (tC (.int k))) (dGen i k) := by
  refine ⟨fun hK => hK ▸ pe_ix ix_list (pe_var hN hv hd hcd) pe_int hs, fun H0 σ H Hs ρ n Φ Q W S ⟨q, hk, h⟩ kk => ?_⟩
  obtain ⟨v, h1, h2⟩ := S.val i _ q
  simp only [Rep] at h2
  obtain ⟨p, rfl, hg⟩ := h2
  obtain ⟨hn, u, w, z, hH, h3, h4, h5, h6, h7⟩ := W.gen p hg
  refine ⟨_, h1, ?_⟩
  rcases hk with rfl | rfl | rfl
  · exact ⟨p, _, 0, .int u, rfl, rfl, SqL.of hH, rfl, kk _ Hs H _ n .rfl W mk_int (h u ⟨h3, fun e => absurd e (by decide), fun e => absurd e (by decide)⟩)⟩
  · exact ⟨p, _, 1, .int w, rfl, rfl, SqL.of hH, rfl, kk _ Hs H _ n .rfl W mk_int (h w ⟨h4, fun _ => h5, fun e => absurd e (by decide)⟩)⟩
  · exact ⟨p, _, 2, .int z, rfl, rfl, SqL.of hH, rfl, kk _ Hs H _ n .rfl W mk_int (h z ⟨h6, fun e => absurd e (by decide), fun _ => h7⟩)⟩
/-- gen[k] = e -/
def sSetG (i : Nat) (k : Int) (tv : DT) : DS := fun E ρ n => ρ[i]? = some (.val .gen) ∧ (k = 0 ∨ k = 1 ∨ k = 2) ∧ tv ρ n fun d n1 => ∃ z n2, d = .int z ∧ n1 ≤ n2 ∧ okG k n2 z ∧ E.nx ρ n2
theorem st_setg (i : Nat) (k : Int) {j : Nat} {px pk sp : Pos} {ev : Expr} {tv : DT} (hv : DE c X ev t_hv tv) (hN : X.N[i]? = some x := by rfl) (hvis : Vis X.env.scope x := by first | exact Or.inl rfl | exact Or.inr (Or.inl rfl)) (hd : (x == ("__debug__" : Str)) = false := by decide) (hcd : (x == ("__classdict__" : Str)) = false := by decide)
    (ha : ∀ v, assign (.Subscript (.Name x px) (.Constant (.int k) j pk) sp) X.env v = (do
      let ov ← holding [v] (eval (.Name x px) X.env)
      let iv ← holding [v, ov] (eval (.Constant (.int k) j pk) X.env)
      standAt sp
      holding [v, ov, iv] (setItem ov iv v)
      release [v, ov, iv] []) := by intro _; rfl)
    (hs : swapsWithSole [.Subscript (.Name x px) (.Constant (.int k) j pk) sp] ev pos.line X.env = pure false := by rfl) (hw : swappedStores [.Subscript (.Name x px) (.Constant (.int k) j pk) sp] ev X.env = pure none := by rfl)
    (h1 : (assignEach [.Subscript (.Name x px) (.Constant (.int k) j pk) sp] X.env).map (·.2) = [assign (.Subscript (.Name x px) (.Constant (.int k) j pk) sp) X.env] := by rfl) :
    DSt c X (.Assign [.Subscript (.Name x px) (.Constant (.int k) j pk) sp] ev pos) (tAsg t_hv (gSub (tVar i) (tC (.int k)) rSetL)) (sSetG i k tv) := by
  obtain ⟨v1, v2⟩ := hv
  refine ⟨fun hK => ps_asg (v1 hK) (pg_sub (pe_var hN hvis hd hcd) pe_int set_list ha) hs hw h1, fun H0 Hs0 σ H Hs ρ n E Q W S gr ⟨q, hk, h⟩ kk => ?_⟩
  refine v2 H0 σ H Hs ρ n _ _ W S h fun v Hs1 H1 d n1 g1 W1 r1 ⟨zz, n2, e, hle, hz, hq⟩ => ?_
  subst e
  obtain rfl := rep_int r1
  obtain ⟨u, h1, h2⟩ := (S.gro g1).val i _ q
  simp only [Rep] at h2
  obtain ⟨p, rfl, hg⟩ := h2
  obtain ⟨hn, y0, y1, y2, hH, h3, h4, h5, h6, h7⟩ := W1.gen p hg
  have fin : ∀ o : HO, GInv (upd H1 p o) p n2 → Wld c Hs1 (upd H1 p o) n2 ∧ Gro c Hs1 H1 Hs1 (upd H1 p o) := fun o ho => by
    refine ⟨⟨fun b u hb => ?_, fun p' hp' => ?_⟩, Sub.rfl, fun b u hb e => ?_, fun b e _ => e⟩
    · rw [upd_ne (fun z => by subst z; rw [hn] at hb; cases hb)]; exact W1.sub b u hb
    · rw [hg] at hp'
      cases hp'
      exact ⟨hn, ho⟩
    · rw [upd_ne (fun z => hb (by rw [z]; exact hg))]; exact e
  refine ⟨_, h1, ?_⟩
  rcases hk with rfl | rfl | rfl
  · obtain ⟨W2, g2⟩ := fin (.lst [.int zz, .int y1, .int y2]) ⟨zz, y1, y2, upd_same, hz.1, h4, h5, h6, by omega⟩
    exact ⟨p, _, 0, 0, rfl, rfl, hH, rfl, kk.1 σ Hs1 _ ρ n2 ((gr.trans g1 W1).trans g2 W2) W2 ((S.gro g1).gro g2) hq⟩
  · obtain ⟨W2, g2⟩ := fin (.lst [.int y0, .int zz, .int y2]) ⟨y0, zz, y2, upd_same, h3, hz.1, hz.2.1 rfl, h6, by omega⟩
    exact ⟨p, _, 1, 1, rfl, rfl, hH, rfl, kk.1 σ Hs1 _ ρ n2 ((gr.trans g1 W1).trans g2 W2) W2 ((S.gro g1).gro g2) hq⟩
  · obtain ⟨W2, g2⟩ := fin (.lst [.int y0, .int y1, .int zz]) ⟨y0, y1, zz, upd_same, h3, h4, h5, hz.1, hz.2.2 rfl⟩
    exact ⟨p, _, 2, 2, rfl, rfl, hH, rfl, kk.1 σ Hs1 _ ρ n2 ((gr.trans g1 W1).trans g2 W2) W2 ((S.gro g1).gro g2) hq⟩
end
/-! ### a def that returns a list that nobody else holds -/
abbrev ConF := List D → Nat → (List D → Nat → Prop) → Prop
def spF (K : PySem.W.Frag) (C F : Addr) (κ : ConF) : Sp := fun vs H Q _ => ∃ (g : Option Addr) (Hs : Hp) (n : Nat) (ds : List D), Wld ⟨K, C, F, g⟩ Hs H n ∧ RepL ⟨K, C, F, g⟩ Hs ds vs ∧
  κ ds n fun xs n' => ∀ a Hs' H' vs, Gro ⟨K, C, F, g⟩ Hs H Hs' H' → Wld ⟨K, C, F, g⟩ Hs' H' n' → H a = none → Hs' a = none → H' a = some (.lst vs) → RepL ⟨K, C, F, g⟩ Hs' xs vs → Q (.ref a) H'
def MonF (κ : ConF) : Prop := ∀ ds n (Φ Ψ : List D → Nat → Prop), (∀ d n', Φ d n' → Ψ d n') → κ ds n Φ → κ ds n Ψ
structure FnF (P : Program) (w : World) (K : PySem.W.Frag) (mg : Str → Option Value) (base : Heap) (C F : Addr) (lvl : Nat) (x : Str) (κ : ConF) : Prop where
  ex : ∃ f fd ps, FnOk P w K mg base CX0 lvl f fd ps (spF K C F κ) ∧ mg x = some (.ref f) ∧ PySem.W.keepIn K (.ref f) = true ∧ Binds K fd ps []
  mon : MonF κ
def fCall (κ : ConF) (τ : DTF) : DTF := fun ρ n Φ => τ ρ n fun ds n1 => κ ds n1 Φ
section
variable {X : Cx} {K : PySem.W.Frag} {C F cl : Addr} {g : Option Addr} {lvl j : Nat} {x m : Str} {κ : ConF} {κ' : Con} {e o : Expr} {es : List Expr} {τ : DTF} {pos p apos : Pos} {to : DT}
theorem df_call (f : FnF X.prog X.w K X.mg X.base C F lvl x κ) (hr : Room j X.A) (ha : DA ⟨K, C, F, g⟩ X (e :: es) t_ha τ) (hk : X.K = K := by rfl) (hl : lvl ≤ j := by decide) (hg : Gl X x := by rfl) (hdb : (x == ("__debug__" : Str)) = false := by decide)
    (he : starEach (e :: es) X.env = (false, eval e X.env) :: starEach es X.env := by rfl) (hpl : (backTo pos (starEach es X.env)).any (·.1) = false := by rfl) :
    DEf ⟨K, C, F, g⟩ X (.Call (.Name x p) (e :: es) [] pos) (tCall (spF K C F κ) [] E0 t_ha) (fCall κ τ) := by
  subst hk
  obtain ⟨a1, a2⟩ := ha
  obtain ⟨⟨fa, fd, ps, fo, hm, kp, b⟩, mon⟩ := f
  refine ⟨fun hK => pe_call fo (hr.mono hl) hg hm kp b .nil pass0 (a1 hK) hdb he hpl, fun H0 σ H Hs ρ n Φ Q W S h k => ?_⟩
  refine a2 H0 σ H Hs ρ n _ _ W S h fun vs Hs1 H1 ds n1 g1 W1 r1 h1 => ?_
  rw [List.append_nil]
  refine ⟨g, Hs1, n1, ds, W1, r1, mon _ _ _ _ (fun d n' h' a Hs2 H2 vs' g2 W2 ha1 ha2 ha3 r2 => k a Hs2 H2 d vs' n' (g1.trans g2 W2) W2 ?_ ha2 ha3 r2 h') h1⟩
  cases e : H a with
  | none => rfl
  | some o =>
    have := g1.h a o (fun z => W1.gne ha1 z) e
    rw [this] at ha1; cases ha1
/-- f(l), l a new list of three numbers: it is the generator in the call -/
def dGenC (κ : Con) (τ : DTF) : DT := fun ρ n Φ => τ ρ n fun xs n1 => ∃ (u v w : Int) (m : Nat), xs = [.int u, .int v, .int w] ∧ 0 ≤ u ∧ 0 ≤ v ∧ v < 2 ^ 31 ∧ 0 ≤ w ∧ w ≤ (m : Int) ∧ κ [.gen] m fun d _ => d = .bl true ∧ Φ (.bl true) n1
theorem de_genc (f : Fn X.prog X.w K X.mg X.base C F lvl x κ') (hr : Room j X.A) (ha : DEf ⟨K, C, F, none⟩ X e t_ha τ) (hk : X.K = K := by rfl) (hl : lvl ≤ j := by decide) (hg : Gl X x := by rfl) (hdb : (x == ("__debug__" : Str)) = false := by decide)
    (he : starEach [e] X.env = (false, eval e X.env) :: starEach [] X.env := by rfl) (hpl : (backTo pos (starEach [] X.env)).any (·.1) = false := by rfl) :
    DE ⟨K, C, F, none⟩ X (.Call (.Name x p) [e] [] pos) (tCall (spD K C F κ') [] E0 (tCons t_ha tNil)) (dGenC κ' τ) := by
  subst hk
  obtain ⟨a1, a2⟩ := ha
  obtain ⟨⟨fa, fd, ps, fo, hm, kp, b⟩, mon⟩ := f
  refine ⟨fun hK => pe_call fo (hr.mono hl) hg hm kp b .nil pass0 (pa_cons (a1 hK) pa_nil he) hdb he hpl, fun H0 σ H Hs ρ n Φ Q W S h k => ?_⟩
  refine a2 H0 σ H Hs ρ n _ _ W S h fun a Hs1 H1 xs vs n1 g1 W1 ha1 ha2 ha3 r1 ⟨u, v, w, m, ex, hu, hv, hv2, hw, hwm, h1⟩ => ?_
  subst ex
  have hvs : vs = [.int u, .int v, .int w] := by
    simp only [RepL, Rep] at r1
    obtain ⟨_, _, rfl, rfl, _, _, rfl, rfl, _, _, rfl, rfl, rfl⟩ := r1
    rfl
  subst hvs
  show spD X.K C F κ' [.ref a] H1 Q E0
  have Wg : Wld ⟨X.K, C, F, some a⟩ Hs1 H1 m := ⟨W1.sub, fun b hb => by
    cases hb
    exact ⟨ha2, u, v, w, ha3, hu, hv, hv2, hw, hwm⟩⟩
  refine ⟨some a, Hs1, m, [.gen], Wg, by simp only [RepL, Rep]; exact ⟨_, _, rfl, ⟨a, rfl, rfl⟩, rfl⟩, mon _ _ _ _ (fun d n' ⟨hd, h'⟩ v' Hs2 H2 g2 W2 r2 => ?_) h1⟩
  subst hd
  obtain rfl := rep_bl r2
  have g3 : Gro ⟨X.K, C, F, none⟩ Hs H Hs2 H2 := by
    refine ⟨g1.s.trans g2.s, fun b o _ hb => ?_, fun b h1 h2 => ?_⟩
    · refine g2.h b o (fun z => ?_) (g1.h b o (fun z => by cases z) hb)
      cases z
      rw [ha1] at hb; cases hb
    · by_cases hb : b = a
      · subst hb; exact absurd ha1 h2
      · refine g2.f b (g1.f b h1 h2) ?_
        cases e : H b with
        | none => exact absurd e h2
        | some o => rw [g1.h b o (fun z => by cases z) e]; exact fun z => by cases z
  exact k _ Hs2 H2 _ n1 g3 ⟨W2.sub, fun b hb => by cases hb⟩ mk_bl h'
end
/-! one store, then return of a new list -/
section
variable {P : Program} {w : World} {K : PySem.W.Frag} {mg : Str → Option Value} {base : Heap} {x qual : Str} {params : Arguments} {scope : Scope} {f : Addr} {fd : FuncData} {C F cl : Addr} {κ : ConF} {N ps : List Str} {k : Nat} {s1 : Stmt} {re : Expr} {rp : Pos}
theorem fn_okF (Fd : FunD K x qual params [s1, .Return (some re) rp] scope [] [] f fd) (S : FnScope N ps scope) (len : ∀ ds n Φ, κ ds n Φ → ds.length = ps.length)
    (hb : ∀ (g : Option Addr) (cdv : Value) (A : Around) (outer : List Env) (s : Shared) (H : Hp) (E : XK), Room k (A.deeper (envOfC qual scope s.heap.objs.size f cdv)) →
      ∃ t1 t2 τ1 τ2, DSt ⟨K, C, F, g⟩ (cxOf CX0 P w K mg base N qual scope f cdv A outer s H E).nox s1 t1 τ1 ∧ DEf ⟨K, C, F, g⟩ (cxOf CX0 P w K mg base N qual scope f cdv A outer s H E).nox re t2 τ2 ∧
        ∀ ds n Φ, κ ds n Φ → τ1 ⟨fun ρ n' => τ2 ρ n' Φ, fun _ _ => False⟩ (slots0 ds (N.length - ps.length)) n) :
    FnOk P w K mg base CX0 (k + 1) f fd ps (spF K C F κ) := by
  have hpl : ps.length ≤ N.length := by have := congrArg List.length S.pre; rw [List.length_take] at this; omega
  refine FunD.ok Fd S (fun vs H Q E ⟨g, Hs, n, ds, W, r, h⟩ => by rw [r.length]; exact len ds n _ h) fun cdv A outer s H vs Q E hr ⟨g, Hs, n, ds, W, r, h⟩ => ?_
  obtain ⟨t1, t2, τ1, τ2, ⟨d1, d2⟩, ⟨e1, e2⟩, hd⟩ := hb g cdv A outer s H E hr
  refine ⟨tSeq t1 (tRet t2), PSs.nox (pss_cons (d1 rfl) (pss_one (ps_ret (e1 rfl)))), ?_⟩
  have e := len ds n _ h
  have hd := hd ds n _ h
  rw [← e] at hd
  refine d2 H Hs (L2.start N vs) H Hs _ n _ _ W (slok0 r (by omega)) .rfl hd ⟨fun σ' Hs' H' ρ' n' g' W' S' h' => ?_, fun v Hs' H' d n' g' W' r' h' => h'.elim⟩
  refine e2 H σ' H' Hs' ρ' n' _ _ W' S' h' fun a Hs2 H2 xs us n2 g2 W2 ha1 ha2 ha3 r2 q => ?_
  refine q a Hs2 H2 us (g'.trans g2 W2) W2 ?_ ha2 ha3 r2
  cases eo : H a with
  | none => rfl
  | some o =>
    have := g'.h a o (fun z => W'.gne ha1 z) eo
    rw [this] at ha1; cases ha1
end
/-- a promise of calls without a generator -/
def spD0 (K : PySem.W.Frag) (C F : Addr) (κ : Con) : Sp := fun vs H Q _ => ∃ (Hs : Hp) (n : Nat) (ds : List D), Wld ⟨K, C, F, none⟩ Hs H n ∧ RepL ⟨K, C, F, none⟩ Hs ds vs ∧
  κ ds n fun d n' => ∀ v Hs' H', Gro ⟨K, C, F, none⟩ Hs H Hs' H' → Wld ⟨K, C, F, none⟩ Hs' H' n' → Rep ⟨K, C, F, none⟩ Hs' d v → Q v H'
section
variable {P : Program} {w : World} {K : PySem.W.Frag} {mg : Str → Option Value} {base : Heap} {x qual : Str} {params : Arguments} {body : List Stmt} {scope : Scope} {f : Addr} {fd : FuncData} {C F cl : Addr} {κ : Con} {N ps : List Str} {k : Nat}
theorem fn_ok0 (Fd : FunD K x qual params body scope [] [] f fd) (S : FnScope N ps scope) (len : ∀ ds n Φ, κ ds n Φ → ds.length = ps.length)
    (hb : ∀ (cdv : Value) (A : Around) (outer : List Env) (s : Shared) (H : Hp) (E : XK), Room k (A.deeper (envOfC qual scope s.heap.objs.size f cdv)) →
      ∃ t τ, DSs ⟨K, C, F, none⟩ (cxOf CX0 P w K mg base N qual scope f cdv A outer s H E).nox body t τ ∧ ∀ ds n Φ, κ ds n Φ → τ ⟨fun _ n' => Φ .non n', Φ⟩ (slots0 ds (N.length - ps.length)) n) :
    FnOk P w K mg base CX0 (k + 1) f fd ps (spD0 K C F κ) := by
  have hpl : ps.length ≤ N.length := by have := congrArg List.length S.pre; rw [List.length_take] at this; omega
  refine FunD.ok Fd S (fun vs H Q E ⟨Hs, n, ds, W, r, h⟩ => by rw [r.length]; exact len ds n _ h) fun cdv A outer s H vs Q E hr ⟨Hs, n, ds, W, r, h⟩ => ?_
  obtain ⟨t, τ, ⟨d1, d2⟩, hd⟩ := hb cdv A outer s H E hr
  refine ⟨t, PSs.nox (d1 rfl), ?_⟩
  have e := len ds n _ h
  have hd := hd ds n _ h
  rw [← e] at hd
  exact d2 H Hs (L2.start N vs) H Hs _ n _ _ W (slok0 r (by omega)) .rfl hd ⟨fun σ' Hs' H' ρ' n' g' W' S' h' => h' .non Hs' H' g' W' (by simp only [Rep]), fun v Hs' H' d n' g' W' r' h' => h' v Hs' H' g' W' r'⟩
end
end DL
end
section
set_option linter.all false
/-! Power series over Z/p, as functions. -/
namespace MK
open Lean.Grind
variable {p : Nat} [NeZero p]
def Ser (p : Nat) := Nat → Fin p
theorem ser_ext {u v : Ser p} (h : ∀ n, u n = v n) : u = v := funext h
def zS : Ser p := fun _ => 0
def tl (u : Ser p) : Ser p := fun n => u (n + 1)
def cv : Nat → Ser p → Ser p → Fin p
  | 0, u, v => u 0 * v 0
  | n + 1, u, v => u 0 * v (n + 1) + cv n (tl u) v
def cS (a : Fin p) : Ser p := fun n => if n = 0 then a else 0
instance : Add (Ser p) := ⟨fun u v n => u n + v n⟩
instance : Mul (Ser p) := ⟨fun u v n => cv n u v⟩
instance : Neg (Ser p) := ⟨fun u n => -u n⟩
instance : Sub (Ser p) := ⟨fun u v n => u n - v n⟩
theorem add_at (u v : Ser p) (n : Nat) : (u + v) n = u n + v n := rfl
theorem neg_at (u : Ser p) (n : Nat) : (-u) n = -u n := rfl
theorem sub_at (u v : Ser p) (n : Nat) : (u - v) n = u n - v n := rfl
theorem mul_0 (u v : Ser p) : (u * v) 0 = u 0 * v 0 := rfl
theorem mul_s (u v : Ser p) (n : Nat) : (u * v) (n + 1) = u 0 * v (n + 1) + (tl u * v) n := rfl
theorem tl_at (u : Ser p) (n : Nat) : tl u n = u (n + 1) := rfl
theorem cS_0 (a : Fin p) : cS a 0 = a := rfl
theorem cS_s (a : Fin p) (n : Nat) : cS a (n + 1) = 0 := rfl
/-- a number times a series -/
def sm (a : Fin p) (u : Ser p) : Ser p := fun n => a * u n
theorem sm_at (a : Fin p) (u : Ser p) (n : Nat) : sm a u n = a * u n := rfl
theorem tl_add (u v : Ser p) : tl (u + v) = tl u + tl v := rfl
theorem tl_sm (a : Fin p) (u : Ser p) : tl (sm a u) = sm a (tl u) := rfl
theorem tl_mul (u v : Ser p) : tl (u * v) = sm (u 0) (tl v) + tl u * v := ser_ext fun n => mul_s u v n
theorem mul_s' : ∀ (n : Nat) (u v : Ser p), (u * v) (n + 1) = u (n + 1) * v 0 + (u * tl v) n
  | 0, u, v => by
    rw [mul_s, mul_0, mul_0, tl_at, tl_at]; grind
  | n + 1, u, v => by
    rw [mul_s, mul_s' n (tl u) v, mul_s, tl_at, tl_at]; grind
theorem cv_comm : ∀ (n : Nat) (u v : Ser p), (u * v) n = (v * u) n
  | 0, u, v => by rw [mul_0, mul_0]; grind
  | n + 1, u, v => by
    rw [mul_s, mul_s', cv_comm n (tl u) v]; grind
theorem cv_add : ∀ (n : Nat) (u v w : Ser p), (u * (v + w)) n = (u * v) n + (u * w) n
  | 0, u, v, w => by simp only [mul_0, add_at]; grind
  | n + 1, u, v, w => by simp only [mul_s, cv_add n, add_at]; grind
theorem mulc (u v : Ser p) : u * v = v * u := ser_ext fun n => cv_comm n u v
theorem mul_add' (u v w : Ser p) : u * (v + w) = u * v + u * w := ser_ext fun n => cv_add n u v w
theorem add_mul' (u v w : Ser p) : (u + v) * w = u * w + v * w := by rw [mulc, mul_add', mulc w, mulc w]
theorem sm_mul' : ∀ (n : Nat) (a : Fin p) (u v : Ser p), (sm a u * v) n = a * (u * v) n
  | 0, a, u, v => by simp only [mul_0, sm_at]; grind
  | n + 1, a, u, v => by
    rw [mul_s, mul_s, tl_sm, sm_mul' n, sm_at]; grind
theorem sm_mul (a : Fin p) (u v : Ser p) : sm a u * v = sm a (u * v) := ser_ext fun n => sm_mul' n a u v
theorem mulassoc' : ∀ (n : Nat) (u v w : Ser p), (u * v * w) n = (u * (v * w)) n
  | 0, u, v, w => by simp only [mul_0]; grind
  | n + 1, u, v, w => by
    rw [mul_s, mul_s u, tl_mul, add_mul', sm_mul, add_at, mulassoc' n, mul_0, sm_at, mul_s]
    grind
theorem mulassoc (u v w : Ser p) : u * v * w = u * (v * w) := ser_ext fun n => mulassoc' n u v w
theorem cS_mul (a : Fin p) (u : Ser p) : cS a * u = sm a u := by
  refine ser_ext fun n => ?_
  have z : ∀ n, ((zS : Ser p) * u) n = 0 := by
    intro n
    induction n with
    | zero => rw [mul_0]; show (0 : Fin p) * _ = 0; grind
    | succ n ih => rw [mul_s]; show (0 : Fin p) * _ + ((zS : Ser p) * u) n = 0; rw [ih]; grind
  cases n with
  | zero => rw [mul_0, cS_0, sm_at]
  | succ n =>
    rw [mul_s, cS_0, sm_at]
    show _ + ((zS : Ser p) * u) n = _
    rw [z]; grind
theorem cS_add (a b : Fin p) : cS (a + b) = cS a + cS b := by
  refine ser_ext fun n => ?_
  cases n with
  | zero => rfl
  | succ n => show (0 : Fin p) = 0 + 0; grind
theorem cS_neg (a : Fin p) : cS (-a) = -cS a := by
  refine ser_ext fun n => ?_
  cases n with
  | zero => rfl
  | succ n => show (0 : Fin p) = -0; grind
instance icN : NatCast (Fin p) := Semiring.natCast
instance icI : IntCast (Fin p) := Ring.intCast
def npw (u : Ser p) : Nat → Ser p
  | 0 => cS 1
  | n + 1 => npw u n * u
instance : NatCast (Ser p) := ⟨fun n => cS (n : Fin p)⟩
instance : IntCast (Ser p) := ⟨fun n => cS (n : Fin p)⟩
instance (n : Nat) : OfNat (Ser p) n := ⟨cS (OfNat.ofNat n)⟩
instance : SMul Nat (Ser p) := ⟨fun n u => cS (n : Fin p) * u⟩
instance : SMul Int (Ser p) := ⟨fun n u => cS (n : Fin p) * u⟩
instance : HPow (Ser p) Nat (Ser p) := ⟨npw⟩
instance : Semiring (Ser p) where
  add_zero u := ser_ext fun n => by
    show u n + (0 : Ser p) n = u n
    have : (0 : Ser p) n = 0 := by cases n <;> rfl
    rw [this]; grind
  add_comm u v := ser_ext fun n => by rw [add_at, add_at]; grind
  add_assoc u v w := ser_ext fun n => by simp only [add_at]; grind
  mul_assoc := mulassoc
  mul_one u := by
    rw [mulc]; show cS 1 * u = u
    rw [cS_mul]; exact ser_ext fun n => by rw [sm_at]; grind
  one_mul u := by
    show cS 1 * u = u
    rw [cS_mul]; exact ser_ext fun n => by rw [sm_at]; grind
  left_distrib := mul_add'
  right_distrib := add_mul'
  zero_mul u := by
    show cS 0 * u = cS 0
    rw [cS_mul]; exact ser_ext fun n => by
      rw [sm_at]; cases n <;> (show (0 : Fin p) * _ = 0; grind)
  mul_zero u := by
    rw [mulc]
    show cS 0 * u = cS 0
    rw [cS_mul]; exact ser_ext fun n => by
      rw [sm_at]; cases n <;> (show (0 : Fin p) * _ = 0; grind)
  pow_zero u := rfl
  pow_succ u n := rfl
  ofNat_succ n := by
    show cS (OfNat.ofNat (n + 1)) = cS (OfNat.ofNat n) + cS 1
    rw [← cS_add, Semiring.ofNat_succ]
  ofNat_eq_natCast n := by
    show cS (OfNat.ofNat n) = cS (n : Fin p)
    rw [Semiring.ofNat_eq_natCast]
  nsmul_eq_natCast_mul n u := rfl
instance : Ring (Ser p) where
  neg_add_cancel u := ser_ext fun n => by
    show -u n + u n = (0 : Ser p) n
    have : (0 : Ser p) n = 0 := by cases n <;> rfl
    rw [this]; grind
  sub_eq_add_neg u v := ser_ext fun n => by
    show u n - v n = u n + -v n
    grind
  neg_zsmul i u := by
    show cS ((-i : Int) : Fin p) * u = -(cS (i : Fin p) * u)
    rw [Ring.intCast_neg, cS_neg]
    rw [← cS_neg, cS_mul, cS_mul]
    exact ser_ext fun n => by rw [neg_at, sm_at, sm_at]; grind
  zsmul_natCast_eq_nsmul n u := by
    show cS (((n : Int)) : Fin p) * u = cS (n : Fin p) * u
    rw [Ring.intCast_natCast]
  intCast_ofNat n := by
    show cS ((OfNat.ofNat n : Int) : Fin p) = cS (OfNat.ofNat n)
    rw [Ring.intCast_ofNat]
  intCast_neg i := by
    show cS ((-i : Int) : Fin p) = -cS (i : Fin p)
    rw [Ring.intCast_neg, cS_neg]
instance instCR : CommRing (Ser p) where
  mul_comm := mulc
instance : IsCharP (Ser p) p where
  ofNat_ext_iff {x y} := by
    show (cS (OfNat.ofNat x) : Ser p) = cS (OfNat.ofNat y) ↔ _
    constructor
    · intro h
      have := congrFun h 0
      exact (IsCharP.ofNat_ext_iff (α := Fin p) (p := p)).mp this
    · intro h
      exact congrArg cS ((IsCharP.ofNat_ext_iff (α := Fin p) (p := p)).mpr h)
example (u v : Ser 3) : (u + v) ^ 3 = u ^ 3 + v ^ 3 := by grind
theorem zero_at (n : Nat) : (0 : Ser p) n = 0 := by cases n <;> rfl
theorem one_at (n : Nat) : (1 : Ser p) n = if n = 0 then 1 else 0 := rfl
end MK
end
section
set_option linter.all false
/-! Derivation, shifts, p-th powers, parts, the field's facts. -/
namespace MK
open Lean.Grind
class Pr (p : Nat) : Prop where
  h : p = 3 ∨ p = 5 ∨ p = 7 ∨ p = 11
variable {p : Nat} [NeZero p]
theorem Pr.pos [Pr p] : 0 < p := by rcases (Pr.h (p := p)) with h | h | h | h <;> omega
theorem Pr.gt [Pr p] : 2 < p := by rcases (Pr.h (p := p)) with h | h | h | h <;> omega
theorem Pr.lt [Pr p] : p < 12 := by rcases (Pr.h (p := p)) with h | h | h | h <;> omega
theorem fin_nzd3 : ∀ a b : Fin 3, a * b = 0 → a = 0 ∨ b = 0 := by decide +kernel
theorem fin_nzd5 : ∀ a b : Fin 5, a * b = 0 → a = 0 ∨ b = 0 := by decide +kernel
theorem fin_nzd7 : ∀ a b : Fin 7, a * b = 0 → a = 0 ∨ b = 0 := by decide +kernel
theorem fin_nzd11 : ∀ a b : Fin 11, a * b = 0 → a = 0 ∨ b = 0 := by decide +kernel
theorem fin_nzd [Pr p] (a b : Fin p) (h : a * b = 0) : a = 0 ∨ b = 0 := by
  rcases (Pr.h (p := p)) with e | e | e | e <;> subst e
  · exact fin_nzd3 a b h
  · exact fin_nzd5 a b h
  · exact fin_nzd7 a b h
  · exact fin_nzd11 a b h
theorem fin_inv3 : ∀ a : Fin 3, a ≠ 0 → ∃ b : Fin 3, b * a = 1 := by decide +kernel
theorem fin_inv5 : ∀ a : Fin 5, a ≠ 0 → ∃ b : Fin 5, b * a = 1 := by decide +kernel
theorem fin_inv7 : ∀ a : Fin 7, a ≠ 0 → ∃ b : Fin 7, b * a = 1 := by decide +kernel
theorem fin_inv11 : ∀ a : Fin 11, a ≠ 0 → ∃ b : Fin 11, b * a = 1 := by decide +kernel
theorem fin_inv [Pr p] (a : Fin p) (h : a ≠ 0) : ∃ b, b * a = 1 := by
  rcases (Pr.h (p := p)) with e | e | e | e <;> subst e
  · exact fin_inv3 a h
  · exact fin_inv5 a h
  · exact fin_inv7 a h
  · exact fin_inv11 a h
def fpw (a : Fin p) : Nat → Fin p
  | 0 => 1
  | n + 1 => fpw a n * a
theorem fin_fer3 : ∀ a : Fin 3, fpw a 3 = a := by decide +kernel
theorem fin_fer5 : ∀ a : Fin 5, fpw a 5 = a := by decide +kernel
theorem fin_fer7 : ∀ a : Fin 7, fpw a 7 = a := by decide +kernel
theorem fin_fer11 : ∀ a : Fin 11, fpw a 11 = a := by decide +kernel
theorem fin_fer [Pr p] (a : Fin p) : fpw a p = a := by
  rcases (Pr.h (p := p)) with e | e | e | e <;> subst e
  · exact fin_fer3 a
  · exact fin_fer5 a
  · exact fin_fer7 a
  · exact fin_fer11 a
/-! ### derivation, shift -/
def D (u : Ser p) : Ser p := fun n => ((n + 1 : Nat) : Fin p) * u (n + 1)
def sh (u : Ser p) : Ser p := fun n => match n with
  | 0 => 0
  | n + 1 => u n
theorem D_at (u : Ser p) (n : Nat) : D u n = ((n + 1 : Nat) : Fin p) * u (n + 1) := rfl
theorem sh_0 (u : Ser p) : sh u 0 = 0 := rfl
theorem sh_s (u : Ser p) (n : Nat) : sh u (n + 1) = u n := rfl
theorem sh_mul (u v : Ser p) : sh u * v = sh (u * v) := ser_ext fun n => by
  cases n with
  | zero => rw [mul_0, sh_0, sh_0]; grind
  | succ n => rw [mul_s, sh_0, sh_s]; show _ + (u * v) n = _; grind
theorem split (u : Ser p) : u = cS (u 0) + sh (tl u) := ser_ext fun n => by
  cases n with
  | zero => rw [add_at, cS_0, sh_0]; grind
  | succ n => rw [add_at, cS_s, sh_s, tl_at]; grind
theorem nc_succ (n : Nat) : ((n + 1 : Nat) : Fin p) = (n : Fin p) + 1 := by
  have := Semiring.natCast_add (α := Fin p) n 1
  rw [Semiring.natCast_one] at this
  exact this
theorem D_tl (u : Ser p) : D u = tl u + sh (D (tl u)) := ser_ext fun n => by
  cases n with
  | zero =>
    rw [add_at, sh_0, D_at, tl_at, nc_succ, Semiring.natCast_zero]; grind
  | succ n =>
    rw [add_at, sh_s, D_at, D_at, tl_at, nc_succ (n + 1)]; show _ = u (n + 1 + 1) + _ * u (n + 1 + 1); grind
theorem D_mul' : ∀ (n : Nat) (u v : Ser p), D (u * v) n = (D u * v + u * D v) n
  | 0, u, v => by
    rw [D_at, add_at, mul_0, mul_0, mul_s, mul_0, D_at, D_at, tl_at, nc_succ, Semiring.natCast_zero]; grind
  | n + 1, u, v => by
    have ih := D_mul' n (tl u) v
    rw [D_at, add_at] at ih
    rw [D_at, mul_s, add_at, D_tl u, add_mul', add_at, sh_mul, sh_s, mul_s u, D_at, nc_succ (n + 1)]
    grind
theorem D_mul (u v : Ser p) : D (u * v) = D u * v + u * D v := ser_ext fun n => D_mul' n u v
theorem D_add (u v : Ser p) : D (u + v) = D u + D v := ser_ext fun n => by simp only [add_at, D_at]; grind
theorem D_sub (u v : Ser p) : D (u - v) = D u - D v := ser_ext fun n => by simp only [sub_at, D_at]; grind
theorem D_cS (a : Fin p) : D (cS a) = 0 := ser_ext fun n => by rw [D_at, cS_s, show (0 : Ser p) n = 0 by cases n <;> rfl]; grind
theorem D_one : D (1 : Ser p) = 0 := D_cS 1
theorem D_pow (u : Ser p) : ∀ n : Nat, D (u ^ (n + 1)) = ((n + 1 : Nat) : Ser p) * u ^ n * D u
  | 0 => by
    have : ((0 + 1 : Nat) : Ser p) = 1 := by rw [Nat.zero_add, Semiring.natCast_one]
    rw [this]
    have e : u ^ (0 + 1) = u := by rw [Semiring.pow_succ, Semiring.pow_zero]; grind
    rw [e, Semiring.pow_zero]; grind
  | n + 1 => by
    rw [Semiring.pow_succ, D_mul, D_pow u n, Semiring.pow_succ u n]
    have : ((n + 1 + 1 : Nat) : Ser p) = ((n + 1 : Nat) : Ser p) + 1 := by
      rw [Semiring.natCast_add, Semiring.natCast_one]
    rw [this]; grind
theorem p_cast : ((p : Nat) : Ser p) = 0 := by
  have := (IsCharP.natCast_eq_zero_iff (α := Ser p) p p).mpr (Nat.mod_self p)
  exact this
theorem p_castF : ((p : Nat) : Fin p) = 0 := (IsCharP.natCast_eq_zero_iff (α := Fin p) p p).mpr (Nat.mod_self p)
theorem D_powp [Pr p] (u : Ser p) : D (u ^ p) = 0 := by
  have hp : 0 < p := Pr.pos
  obtain ⟨m, hm⟩ : ∃ m, p = m + 1 := ⟨p - 1, by omega⟩
  have := D_pow u m
  rw [← hm, p_cast] at this
  rw [this]; grind
def X : Ser p := sh 1
theorem X_mul (u : Ser p) : X * u = sh u := by
  show sh 1 * u = _
  rw [sh_mul, Semiring.one_mul]
/-! ### p-th powers -/
def shk : Nat → Ser p → Ser p
  | 0, u => u
  | k + 1, u => sh (shk k u)
theorem shk_at : ∀ (k : Nat) (u : Ser p) (n : Nat), shk k u n = if n < k then 0 else u (n - k)
  | 0, u, n => by simp [shk]
  | k + 1, u, 0 => by simp [shk, sh_0]
  | k + 1, u, n + 1 => by
    show shk k u n = _
    rw [shk_at k u n]
    by_cases h : n < k
    · rw [if_pos h, if_pos (by omega)]
    · rw [if_neg h, if_neg (by omega)]; congr 1; omega
theorem X_pow : ∀ (k : Nat) (u : Ser p), (X : Ser p) ^ k * u = shk k u
  | 0, u => by rw [Semiring.pow_zero, Semiring.one_mul]; rfl
  | k + 1, u => by
    rw [Semiring.pow_succ]
    have : (X : Ser p) ^ k * X * u = X * ((X : Ser p) ^ k * u) := by grind
    rw [this, X_mul, X_pow k u]; rfl
theorem shk_mul (k : Nat) (u v : Ser p) : shk k u * v = shk k (u * v) := by
  rw [← X_pow, ← X_pow]; grind
theorem cS_mulc (a b : Fin p) : cS a * cS b = cS (a * b) := by
  rw [cS_mul]
  exact ser_ext fun n => by
    rw [sm_at]
    cases n with
    | zero => rfl
    | succ n => rw [cS_s, cS_s]; grind
theorem cS_pow (a : Fin p) : ∀ n : Nat, cS a ^ n = cS (fpw a n)
  | 0 => rfl
  | n + 1 => by rw [Semiring.pow_succ, cS_pow a n, cS_mulc]; rfl
/-- the stretched one: u(x^p) -/
def st (u : Ser p) : Ser p := fun n => if n % p = 0 then u (n / p) else 0
theorem st_at (u : Ser p) (n : Nat) : st u n = if n % p = 0 then u (n / p) else 0 := rfl
theorem frob {R : Type} [CommRing R] [IsCharP R p] [Pr p] (a b : R) : (a + b) ^ p = a ^ p + b ^ p := by
  rcases (Pr.h (p := p)) with e | e | e | e <;> subst e <;> grind
theorem mpow {R : Type} [CommRing R] (a b : R) : ∀ n : Nat, (a * b) ^ n = a ^ n * b ^ n
  | 0 => by simp only [Semiring.pow_zero]; grind
  | n + 1 => by rw [Semiring.pow_succ, mpow a b n, Semiring.pow_succ, Semiring.pow_succ]; grind
theorem st_split [Pr p] (u : Ser p) : st u = cS (u 0) + (X : Ser p) ^ p * st (tl u) := by
  have hp : 0 < p := Pr.pos
  rw [X_pow]
  refine ser_ext fun n => ?_
  rw [add_at, shk_at, st_at]
  by_cases h : n < p
  · rw [if_pos h]
    cases n with
    | zero => rw [Nat.zero_mod, if_pos rfl, Nat.zero_div, cS_0]; grind
    | succ n => rw [Nat.mod_eq_of_lt h, if_neg (by omega), cS_s]; grind
  · rw [if_neg h, st_at, tl_at]
    have e1 : n % p = (n - p) % p := by rw [Nat.mod_eq_sub_mod (by omega)]
    have e2 : n / p = (n - p) / p + 1 := by rw [Nat.div_eq_sub_div hp (by omega)]
    rw [e1, e2]
    obtain ⟨m, rfl⟩ : ∃ m, n = m + 1 := ⟨n - 1, by omega⟩
    rw [cS_s]; grind
theorem frob_st [Pr p] (u : Ser p) : u ^ p = st u := by
  refine ser_ext fun n => ?_
  induction n using Nat.strongRecOn generalizing u with
  | _ n ih =>
    have hp : 0 < p := Pr.pos
    have e : u ^ p = cS (u 0) + (X : Ser p) ^ p * (tl u) ^ p := by
      have := split u
      rw [← X_mul] at this
      calc u ^ p = (cS (u 0) + X * tl u) ^ p := by rw [← this]
        _ = cS (u 0) ^ p + (X * tl u) ^ p := frob _ _
        _ = _ := by rw [cS_pow, fin_fer, mpow]
    rw [e, st_split u, add_at, add_at, X_pow, X_pow, shk_at, shk_at]
    by_cases h : n < p
    · rw [if_pos h, if_pos h]
    · rw [if_neg h, if_neg h, ih (n - p) (by omega)]
theorem D_st [Pr p] (u : Ser p) : D (st u) = 0 := by rw [← frob_st, D_powp]
/-! ### parts -/
def Ei (i : Nat) (u : Ser p) : Ser p := fun k => u (k * p + i)
theorem Ei_at (i : Nat) (u : Ser p) (k : Nat) : Ei i u k = u (k * p + i) := rfl
theorem Ei_add (i : Nat) (u v : Ser p) : Ei i (u + v) = Ei i u + Ei i v := rfl
theorem Ei_sub (i : Nat) (u v : Ser p) : Ei i (u - v) = Ei i u - Ei i v := rfl
theorem Ei_sm (i : Nat) (a : Fin p) (u : Ser p) : Ei i (cS a * u) = cS a * Ei i u := by
  rw [cS_mul, cS_mul]; rfl
theorem Ei_X [Pr p] (i : Nat) (hi : i < p) (u : Ser p) : Ei i ((X : Ser p) ^ p * u) = X * Ei i u := by
  rw [X_pow, X_mul]
  refine ser_ext fun k => ?_
  rw [Ei_at, shk_at]
  cases k with
  | zero => rw [if_pos (by omega)]; rfl
  | succ k =>
    have e : (k + 1) * p + i = k * p + i + p := by rw [Nat.add_mul]; omega
    rw [if_neg (by omega), sh_s, Ei_at, e, Nat.add_sub_cancel]
theorem Ei_st [Pr p] (i : Nat) (hi : i < p) (u v : Ser p) : Ei i (u * st v) = Ei i u * v := by
  refine ser_ext fun k => ?_
  induction k generalizing v with
  | zero =>
    have e : u * st v = cS (v 0) * u + (X : Ser p) ^ p * (u * st (tl v)) := by rw [st_split v]; grind
    rw [e, Ei_add, Ei_sm, Ei_X i hi, add_at, cS_mul, X_mul, sh_0, sm_at, mul_0]
    grind
  | succ k ih =>
    have e : u * st v = cS (v 0) * u + (X : Ser p) ^ p * (u * st (tl v)) := by rw [st_split v]; grind
    rw [e, Ei_add, Ei_sm, Ei_X i hi, add_at, X_mul, sh_s, ih (tl v), mulc (Ei i u) v, cS_mul, sm_at, mul_s, mulc (tl v)]
theorem Ei_p [Pr p] (i : Nat) (hi : i < p) (u v : Ser p) : Ei i (u * v ^ p) = Ei i u * v := by rw [frob_st]; exact Ei_st i hi u v
theorem Ei_D [Pr p] (u : Ser p) : Ei (p - 1) (D u) = 0 := by
  have hp : 0 < p := Pr.pos
  refine ser_ext fun k => ?_
  rw [Ei_at, D_at]
  have e : k * p + (p - 1) + 1 = (k + 1) * p := by rw [Nat.add_mul]; omega
  have z : (((k + 1) * p : Nat) : Fin p) = 0 := (IsCharP.natCast_eq_zero_iff (α := Fin p) p _).mpr (Nat.mul_mod_left _ _)
  rw [e, z, show (0 : Ser p) k = 0 by cases k <;> rfl]; grind
theorem uniq_D [Pr p] (v : Ser p) (h1 : D v = 0) (h2 : Ei 0 v = 0) : v = 0 := by
  have hp : 0 < p := Pr.pos
  refine ser_ext fun n => ?_
  rw [zero_at]
  by_cases h : n % p = 0
  · have := congrFun h2 (n / p)
    rw [Ei_at, zero_at] at this
    have e : n / p * p + 0 = n := by have := Nat.div_add_mod n p; rw [Nat.mul_comm] at this; omega
    rw [e] at this
    exact this
  · obtain ⟨m, rfl⟩ : ∃ m, n = m + 1 := ⟨n - 1, by have : n ≠ 0 := fun e => h (by rw [e]; exact Nat.zero_mod p)
                                                   omega⟩
    have := congrFun h1 m
    rw [D_at, zero_at] at this
    rcases fin_nzd _ _ this with z | z
    · exact absurd ((IsCharP.natCast_eq_zero_iff (α := Fin p) p _).mp z) h
    · exact z
/-! ### no divisors of nought -/
theorem nzd0 [Pr p] (u v : Ser p) (h0 : u 0 ≠ 0) (h : u * v = 0) : v = 0 := by
  refine ser_ext fun n => ?_
  rw [zero_at]
  induction n using Nat.strongRecOn with
  | _ n ih =>
    have e := congrFun h n
    rw [mulc, zero_at] at e
    have key : ∀ (m : Nat) (w : Ser p), (∀ k, k < m → w k = 0) → (w * u) m = w m * u 0 := by
      intro m
      induction m with
      | zero => intro w _; rfl
      | succ m ihm =>
        intro w hw
        rw [mul_s, hw 0 (by omega), ihm (tl w) fun k hk => hw (k + 1) (by omega), tl_at]
        grind
    rw [key n v ih] at e
    rcases fin_nzd _ _ e with z | z
    · exact z
    · exact absurd z h0
theorem tl_of0 {u : Ser p} (h : u 0 = 0) : u = sh (tl u) := ser_ext fun n => by
  cases n with
  | zero => rw [h]; rfl
  | succ n => rfl
theorem nzd [Pr p] (u v : Ser p) (h : u * v = 0) : u = 0 ∨ v = 0 := by
  by_cases hv : v = 0
  · exact .inr hv
  refine .inl (ser_ext fun n => ?_)
  rw [zero_at]
  induction n generalizing u with
  | zero =>
    by_cases h0 : u 0 = 0
    · exact h0
    · exact absurd (nzd0 u v h0 h) hv
  | succ n ih =>
    have h0 : u 0 = 0 := by
      by_cases h0 : u 0 = 0
      · exact h0
      · exact absurd (nzd0 u v h0 h) hv
    have e : tl u * v = 0 := by
      have : sh (tl u * v) = 0 := by rw [← sh_mul, ← tl_of0 h0]; exact h
      refine ser_ext fun k => ?_
      have := congrFun this (k + 1)
      rw [sh_s, zero_at] at this
      rw [this, zero_at]
    exact ih (tl u) e
theorem canc [Pr p] {u v w : Ser p} (hu : u ≠ 0) (h : u * v = u * w) : v = w := by
  have : u * (v - w) = 0 := by grind
  rcases nzd _ _ this with z | z
  · exact absurd z hu
  · grind
theorem mul_ne [Pr p] {u v : Ser p} (hu : u ≠ 0) (hv : v ≠ 0) : u * v ≠ 0 := fun h => (nzd u v h).elim hu hv
theorem pow_ne [Pr p] {u : Ser p} (hu : u ≠ 0) : ∀ n : Nat, u ^ n ≠ 0
  | 0 => fun h => by
    rw [Semiring.pow_zero] at h
    have := congrFun h 0
    have z : (1 : Fin p) = 0 := this
    have := Pr.gt (p := p)
    have z2 : ((1 : Nat) : Fin p) = 0 := by rw [Semiring.natCast_one]; exact z
    have := (IsCharP.natCast_eq_zero_iff (α := Fin p) p 1).mp z2
    rw [Nat.mod_eq_of_lt (by omega)] at this
    omega
  | n + 1 => by rw [Semiring.pow_succ]; exact mul_ne (pow_ne hu n) hu
end MK
end
section
set_option linter.all false
/-! Lists of coefficients. -/
namespace MK
open Lean.Grind
variable {p : Nat} [NeZero p]
def Bd (n : Nat) (u : Ser p) : Prop := ∀ i, n ≤ i → u i = 0
def Pl (u : Ser p) : Prop := ∃ n, Bd n u
theorem Bd.mono {m n : Nat} {u : Ser p} (h : Bd m u) (e : m ≤ n) : Bd n u := fun i hi => h i (by omega)
theorem Bd.add {n : Nat} {u v : Ser p} (h : Bd n u) (h' : Bd n v) : Bd n (u + v) := fun i hi => by rw [add_at, h i hi, h' i hi]; grind
theorem Bd.sub {n : Nat} {u v : Ser p} (h : Bd n u) (h' : Bd n v) : Bd n (u - v) := fun i hi => by rw [sub_at, h i hi, h' i hi]; grind
theorem Bd.neg {n : Nat} {u : Ser p} (h : Bd n u) : Bd n (-u) := fun i hi => by rw [neg_at, h i hi]; grind
theorem Bd.sm {n : Nat} {u : Ser p} (a : Fin p) (h : Bd n u) : Bd n (cS a * u) := fun i hi => by rw [cS_mul, sm_at, h i hi]; grind
theorem Bd.zero {u : Ser p} (h : Bd 0 u) : u = 0 := ser_ext fun n => by rw [h n (by omega), zero_at]
theorem bd_0 (n : Nat) : Bd n (0 : Ser p) := fun i _ => zero_at i
theorem Bd.mul : ∀ {m n : Nat} {u v : Ser p}, Bd m u → Bd n v → Bd (m + n - 1) (u * v)
  | 0, n, u, v, h, h' => by
    rw [h.zero]
    have : (0 : Ser p) * v = 0 := by grind
    rw [this]; exact bd_0 _
  | m + 1, n, u, v, h, h' => fun i hi => by
    by_cases hn : n = 0
    · subst hn
      rw [h'.zero, mulc]
      have : (0 : Ser p) * u = 0 := by grind
      rw [this, zero_at]
    · obtain ⟨j, rfl⟩ : ∃ j, i = j + 1 := ⟨i - 1, by omega⟩
      have h2 : Bd m (tl u) := fun k hk => h (k + 1) (by omega)
      rw [mul_s, h' (j + 1) (by omega), Bd.mul h2 h' j (by omega)]; grind
theorem mul_top : ∀ {m n : Nat} {u v : Ser p}, Bd (m + 1) u → Bd (n + 1) v → (u * v) (m + n) = u m * v n
  | 0, n, u, v, h, h' => by
    have e : tl u = 0 := ser_ext fun k => by rw [tl_at, h (k + 1) (by omega), zero_at]
    cases n with
    | zero => rw [Nat.add_zero, mul_0]
    | succ n =>
      have z : ((0 : Ser p) * v) n = 0 := by
        have : (0 : Ser p) * v = 0 := by grind
        rw [this, zero_at]
      rw [show 0 + (n + 1) = n + 1 by omega, mul_s, e, z]; grind
  | m + 1, n, u, v, h, h' => by
    have h2 : Bd (m + 1) (tl u) := fun k hk => h (k + 1) (by omega)
    rw [show m + 1 + n = m + n + 1 by omega, mul_s, h' (m + n + 1) (by omega), mul_top h2 h', tl_at]; grind
theorem Pl.add {u v : Ser p} : Pl u → Pl v → Pl (u + v) := fun ⟨m, h⟩ ⟨n, h'⟩ => ⟨max m n, (h.mono (by omega)).add (h'.mono (by omega))⟩
theorem Pl.sub {u v : Ser p} : Pl u → Pl v → Pl (u - v) := fun ⟨m, h⟩ ⟨n, h'⟩ => ⟨max m n, (h.mono (by omega)).sub (h'.mono (by omega))⟩
theorem Pl.mul {u v : Ser p} : Pl u → Pl v → Pl (u * v) := fun ⟨m, h⟩ ⟨n, h'⟩ => ⟨_, h.mul h'⟩
theorem pl_c (a : Fin p) : Pl (cS a) := ⟨1, fun i hi => by
  obtain ⟨j, rfl⟩ : ∃ j, i = j + 1 := ⟨i - 1, by omega⟩
  exact cS_s a j⟩
theorem pl_1 : Pl (1 : Ser p) := pl_c 1
theorem pl_0 : Pl (0 : Ser p) := pl_c 0
theorem Pl.neg {u : Ser p} : Pl u → Pl (-u) := fun ⟨n, h⟩ => ⟨n, h.neg⟩
theorem Pl.pow {u : Ser p} (h : Pl u) : ∀ n : Nat, Pl (u ^ n)
  | 0 => by rw [Semiring.pow_zero]; exact pl_1
  | n + 1 => by rw [Semiring.pow_succ]; exact (Pl.pow h n).mul h
/-- the highest place -/
theorem top_of : ∀ {n : Nat} {u : Ser p}, Bd n u → u ≠ 0 → ∃ m, m < n ∧ u m ≠ 0 ∧ Bd (m + 1) u
  | 0, u, h, h0 => absurd h.zero h0
  | n + 1, u, h, h0 => by
    by_cases e : u n = 0
    · have : Bd n u := fun i hi => by
        by_cases hi' : i = n
        · rw [hi']; exact e
        · exact h i (by omega)
      obtain ⟨m, h1, h2⟩ := top_of this h0
      exact ⟨m, by omega, h2⟩
    · exact ⟨n, by omega, e, h⟩
/-! ### lists -/
def fv (a : Fin p) : Int := (a.val : Int)
theorem cast_fv (a : Fin p) : ((fv a : Int) : Fin p) = a := by
  have : ((fv a : Int) : Fin p) = ((a.val : Nat) : Fin p) := Ring.intCast_natCast (α := Fin p) a.val
  rw [this]
  have h : ((a.val : Nat) : Fin p) = Fin.ofNat p a.val := rfl
  rw [h, Fin.ofNat_val_eq_self]
theorem fv_lt (a : Fin p) : 0 ≤ fv a ∧ fv a < p := by
  unfold fv
  have := a.isLt
  omega
theorem cast_eq {x y : Int} : ((x : Int) : Fin p) = (y : Fin p) ↔ x % p = y % p := IsCharP.intCast_ext_iff p
theorem fv_cast (x : Int) : fv ((x : Int) : Fin p) = x % p := by
  have h := cast_fv ((x : Int) : Fin p)
  rw [cast_eq] at h
  have := fv_lt ((x : Int) : Fin p)
  rw [Int.emod_eq_of_lt this.1 this.2] at h
  exact h
theorem fv_0 {a : Fin p} : fv a = 0 ↔ a = 0 := by
  constructor
  · intro h
    have := cast_fv a
    rw [h] at this
    rw [← this]
    exact Ring.intCast_zero (α := Fin p)
  · rintro rfl
    rfl
def sr (p : Nat) [NeZero p] (l : List Int) : Ser p := fun i => ((l.getD i 0 : Int) : Fin p)
theorem cast0 : ((0 : Int) : Fin p) = 0 := Ring.intCast_zero (α := Fin p)
theorem sr_at (l : List Int) (i : Nat) : sr p l i = ((l.getD i 0 : Int) : Fin p) := rfl
theorem sr_nil : sr p [] = 0 := ser_ext fun n => by rw [zero_at]; exact cast0
theorem sr_0 (x : Int) (xs : List Int) : sr p (x :: xs) 0 = (x : Fin p) := rfl
theorem sr_s (x : Int) (xs : List Int) (n : Nat) : sr p (x :: xs) (n + 1) = sr p xs n := rfl
theorem tl_sr (x : Int) (xs : List Int) : tl (sr p (x :: xs)) = sr p xs := rfl
theorem bd_sr (l : List Int) : Bd l.length (sr p l) := fun i hi => by
  rw [sr_at, List.getD_eq_getElem?_getD, List.getElem?_eq_none hi]; exact cast0
theorem pl_sr (l : List Int) : Pl (sr p l) := ⟨_, bd_sr l⟩
/-- trailing noughts away -/
def cut0 : List Int → List Int
  | [] => []
  | x :: xs => if cut0 xs = [] ∧ x = 0 then [] else x :: cut0 xs
theorem cut0_len : ∀ l, (cut0 l).length ≤ l.length
  | [] => by simp [cut0]
  | x :: xs => by
    have := cut0_len xs
    unfold cut0
    split
    · simp
    · simp; omega
theorem sr_cut0 : ∀ l, sr p (cut0 l) = sr p l
  | [] => rfl
  | x :: xs => by
    have ih := sr_cut0 xs
    unfold cut0
    split
    · rename_i h
      rw [h.1, sr_nil] at ih
      rw [sr_nil]
      refine ser_ext fun n => ?_
      cases n with
      | zero => rw [sr_0, h.2, zero_at, cast0]
      | succ n => rw [sr_s, ← ih, zero_at, zero_at]
    · refine ser_ext fun n => ?_
      cases n with
      | zero => rfl
      | succ n => rw [sr_s, sr_s, ih]
theorem cut0_cut0 : ∀ l, cut0 (cut0 l) = cut0 l
  | [] => rfl
  | x :: xs => by
    have ih := cut0_cut0 xs
    by_cases h : cut0 xs = [] ∧ x = 0
    · rw [cut0, if_pos h]; rfl
    · rw [cut0, if_neg h]
      rw [cut0, ih, if_neg h]
theorem cut0_mem : ∀ {l : List Int} {x : Int}, x ∈ cut0 l → x ∈ l
  | [], _, h => by simp [cut0] at h
  | y :: ys, x, h => by
    unfold cut0 at h
    split at h
    · cases h
    · rcases List.mem_cons.mp h with e | e
      · exact List.mem_cons.mpr (.inl e)
      · exact List.mem_cons_of_mem _ (cut0_mem e)
structure Can (p : Nat) (l : List Int) : Prop where
  r : ∀ x ∈ l, 0 ≤ x ∧ x < (p : Int)
  c : cut0 l = l
theorem can_nil : Can p [] := ⟨fun x h => (by cases h), rfl⟩
theorem Can.tail {x : Int} {xs : List Int} (h : Can p (x :: xs)) : Can p xs ∧ ¬ (xs = [] ∧ x = 0) := by
  have c := h.c
  by_cases e : cut0 xs = [] ∧ x = 0
  · rw [cut0, if_pos e] at c; cases c
  · rw [cut0, if_neg e] at c
    have c : cut0 xs = xs := by injection c
    refine ⟨⟨fun y hy => h.r y (List.mem_cons_of_mem _ hy), c⟩, fun z => e ⟨by rw [c]; exact z.1, z.2⟩⟩
theorem can_0 {x : Int} (h : 0 ≤ x ∧ x < (p : Int)) (e : (x : Fin p) = 0) : x = 0 := by
  rw [← cast0, cast_eq] at e
  rw [Int.emod_eq_of_lt h.1 h.2] at e
  simpa using e
theorem can_nil_of : ∀ {l : List Int}, Can p l → sr p l = 0 → l = []
  | [], _, _ => rfl
  | x :: xs, h, e => by
    obtain ⟨h1, h2⟩ := h.tail
    have e1 : sr p xs = 0 := ser_ext fun n => by
      have := congrFun e (n + 1)
      rw [sr_s, zero_at] at this
      rw [this, zero_at]
    have e0 := congrFun e 0
    rw [sr_0, zero_at] at e0
    exact absurd ⟨can_nil_of h1 e1, can_0 (h.r x (by simp)) e0⟩ h2
theorem can_eq : ∀ {a b : List Int}, Can p a → Can p b → sr p a = sr p b → a = b
  | [], b, _, hb, e => (can_nil_of hb (by rw [← e, sr_nil])).symm
  | x :: xs, [], ha, _, e => can_nil_of ha (by rw [e, sr_nil])
  | x :: xs, y :: ys, ha, hb, e => by
    have e1 : sr p xs = sr p ys := ser_ext fun n => congrFun e (n + 1)
    have e0 := congrFun e 0
    rw [sr_0, sr_0, cast_eq] at e0
    have hx := ha.r x (by simp)
    have hy := hb.r y (by simp)
    rw [Int.emod_eq_of_lt hx.1 hx.2, Int.emod_eq_of_lt hy.1 hy.2] at e0
    rw [e0, can_eq ha.tail.1 hb.tail.1 e1]
theorem Can.ne {l : List Int} (h : Can p l) (e : l ≠ []) : sr p l ≠ 0 := fun z => e (can_nil_of h z)
theorem sr_ne {l : List Int} (h : sr p l ≠ 0) : l ≠ [] := fun e => h (by rw [e, sr_nil])
/-- the last one -/
theorem Can.last : ∀ {l : List Int}, Can p l → (e : l ≠ []) → 0 < l.getLast e ∧ l.getLast e < (p : Int)
  | [x], h, e => by
    obtain ⟨_, h2⟩ := h.tail
    have := h.r x (by simp)
    have : x ≠ 0 := fun z => h2 ⟨rfl, z⟩
    rw [List.getLast_singleton]
    omega
  | x :: y :: r, h, e => by
    rw [List.getLast_cons (by simp)]
    exact Can.last h.tail.1 (by simp)
theorem sr_last (l : List Int) (e : l ≠ []) : sr p l (l.length - 1) = ((l.getLast e : Int) : Fin p) := by
  rw [sr_at, List.getLast_eq_getElem, List.getD_eq_getElem?_getD, List.getElem?_eq_getElem]
  rfl
theorem Can.top {l : List Int} (h : Can p l) (e : l ≠ []) : sr p l (l.length - 1) ≠ 0 := fun z => by
  rw [sr_last l e] at z
  have := h.last e
  have := can_0 ⟨by omega, this.2⟩ z
  omega
theorem Can.len_le {l : List Int} (h : Can p l) {n : Nat} (hb : Bd n (sr p l)) : l.length ≤ n := by
  by_cases e : l = []
  · rw [e]; simp
  · have := List.length_pos_iff.mpr e
    by_cases hn : l.length ≤ n
    · exact hn
    · exact absurd (hb (l.length - 1) (by omega)) (h.top e)
/-- the list of n coefficients -/
def nf (p : Nat) [NeZero p] (n : Nat) (u : Ser p) : List Int := cut0 ((List.range n).map fun i => fv (u i))
theorem nf_can (n : Nat) (u : Ser p) : Can p (nf p n u) := ⟨fun x h => by
  obtain ⟨i, _, rfl⟩ := List.mem_map.mp (cut0_mem h)
  exact fv_lt _, cut0_cut0 _⟩
theorem nf_len (n : Nat) (u : Ser p) : (nf p n u).length ≤ n := Nat.le_trans (cut0_len _) (by simp)
theorem sr_nf {n : Nat} {u : Ser p} (h : Bd n u) : sr p (nf p n u) = u := by
  unfold nf
  rw [sr_cut0]
  refine ser_ext fun i => ?_
  rw [sr_at]
  by_cases hi : i < n
  · rw [List.getD_eq_getElem?_getD, List.getElem?_map, List.getElem?_range hi]
    exact cast_fv _
  · rw [List.getD_eq_getElem?_getD, List.getElem?_eq_none (by simp; omega), h i (by omega)]
    exact cast0
theorem nf_of {l : List Int} (h : Can p l) {n : Nat} (hn : Bd n (sr p l)) : nf p n (sr p l) = l := can_eq (nf_can _ _) h (sr_nf hn)
def trm (p : Nat) [NeZero p] (l : List Int) : List Int := nf p l.length (sr p l)
theorem trm_cut (l : List Int) : trm p l = cut0 (l.map (· % (p : Int))) := by
  unfold trm nf
  congr 1
  refine List.ext_getElem (by simp) fun i h1 h2 => ?_
  simp only [List.getElem_map, List.getElem_range]
  rw [sr_at, fv_cast, List.getD_eq_getElem?_getD, List.getElem?_eq_getElem (by simpa using h1)]
  rfl
def addP (p : Nat) [NeZero p] (a b : List Int) : List Int := nf p (max a.length b.length) (sr p a + sr p b)
def negP (p : Nat) [NeZero p] (a : List Int) : List Int := nf p a.length (-sr p a)
def subP (p : Nat) [NeZero p] (a b : List Int) : List Int := addP p a (negP p b)
def sclP (p : Nat) [NeZero p] (a : List Int) (k : Int) : List Int := nf p a.length (cS (k : Fin p) * sr p a)
def mulP (p : Nat) [NeZero p] (a b : List Int) : List Int := nf p (a.length + b.length - 1) (sr p a * sr p b)
def powP (p : Nat) [NeZero p] (a : List Int) : Nat → List Int
  | 0 => [1]
  | n + 1 => mulP p (powP p a n) a
def fallP (p : Nat) [NeZero p] (a : List Int) : List Int := nf p (a.length - 1) (D (sr p a))
def evyP (p : Nat) [NeZero p] (a : List Int) (i : Nat) : List Int := nf p a.length (Ei i (sr p a))
def strP (p : Nat) [NeZero p] (a : List Int) : List Int := nf p (p * (a.length - 1) + 1) (st (sr p a))
theorem can_trm (l : List Int) : Can p (trm p l) := nf_can _ _
theorem can_add (a b : List Int) : Can p (addP p a b) := nf_can _ _
theorem can_neg (a : List Int) : Can p (negP p a) := nf_can _ _
theorem can_sub (a b : List Int) : Can p (subP p a b) := nf_can _ _
theorem can_scl (a : List Int) (k : Int) : Can p (sclP p a k) := nf_can _ _
theorem can_mul (a b : List Int) : Can p (mulP p a b) := nf_can _ _
theorem can_fall (a : List Int) : Can p (fallP p a) := nf_can _ _
theorem can_evy (a : List Int) (i : Nat) : Can p (evyP p a i) := nf_can _ _
theorem can_str (a : List Int) : Can p (strP p a) := nf_can _ _
theorem can_one [Pr p] : Can p [1] := ⟨fun x h => by
  have := Pr.gt (p := p)
  have : x = 1 := by simpa using h
  omega, by decide⟩
theorem can_pow [Pr p] (a : List Int) : ∀ n, Can p (powP p a n)
  | 0 => can_one
  | n + 1 => can_mul _ _
theorem sr_trm (l : List Int) : sr p (trm p l) = sr p l := sr_nf (bd_sr l)
theorem sr_add (a b : List Int) : sr p (addP p a b) = sr p a + sr p b := sr_nf (((bd_sr a).mono (by omega)).add ((bd_sr b).mono (by omega)))
theorem sr_neg (a : List Int) : sr p (negP p a) = -sr p a := sr_nf (bd_sr a).neg
theorem sr_sub (a b : List Int) : sr p (subP p a b) = sr p a - sr p b := by unfold subP; rw [sr_add, sr_neg]; grind
theorem sr_scl (a : List Int) (k : Int) : sr p (sclP p a k) = cS (k : Fin p) * sr p a := sr_nf ((bd_sr a).sm _)
theorem sr_mul (a b : List Int) : sr p (mulP p a b) = sr p a * sr p b := sr_nf ((bd_sr a).mul (bd_sr b))
theorem sr_one : sr p [1] = 1 := ser_ext fun n => by
  cases n with
  | zero =>
    rw [sr_0]
    exact Ring.intCast_one (α := Fin p)
  | succ n => rw [sr_s, sr_nil, zero_at]; rfl
theorem sr_pow (a : List Int) : ∀ n : Nat, sr p (powP p a n) = sr p a ^ n
  | 0 => by rw [powP, sr_one, Semiring.pow_zero]
  | n + 1 => by rw [powP, sr_mul, sr_pow a n, Semiring.pow_succ]
theorem sr_fall (a : List Int) : sr p (fallP p a) = D (sr p a) := sr_nf fun i hi => by
  rw [D_at, bd_sr a (i + 1) (by omega)]; grind
theorem sr_evy (a : List Int) (i : Nat) : sr p (evyP p a i) = Ei i (sr p a) := sr_nf fun k hk => by
  have : 0 < p := Nat.pos_of_ne_zero (NeZero.ne p)
  rw [Ei_at, bd_sr a _ (by have := Nat.le_mul_of_pos_right k this; omega)]
theorem bd_str (a : List Int) : Bd (p * (a.length - 1) + 1) (st (sr p a)) := fun k hk => by
  rw [st_at]
  split
  · have h0 : 0 < p := Nat.pos_of_ne_zero (NeZero.ne p)
    rename_i e
    have : a.length - 1 < k / p := by
      have h1 : p * (k / p) = k := Nat.mul_div_cancel' (Nat.dvd_of_mod_eq_zero e)
      exact Nat.lt_of_mul_lt_mul_left (a := p) (by omega)
    rw [bd_sr a _ (by omega)]
  · rfl
theorem sr_str (a : List Int) : sr p (strP p a) = st (sr p a) := sr_nf (bd_str a)
theorem len_trm (l : List Int) : (trm p l).length ≤ l.length := nf_len _ _
theorem len_add (a b : List Int) : (addP p a b).length ≤ max a.length b.length := nf_len _ _
theorem len_neg (a : List Int) : (negP p a).length ≤ a.length := nf_len _ _
theorem len_sub (a b : List Int) : (subP p a b).length ≤ max a.length b.length := Nat.le_trans (len_add _ _) (by have := len_neg (p := p) b; omega)
theorem len_scl (a : List Int) (k : Int) : (sclP p a k).length ≤ a.length := nf_len _ _
theorem len_mul (a b : List Int) : (mulP p a b).length ≤ a.length + b.length - 1 := nf_len _ _
theorem len_pow (a : List Int) : ∀ n, (powP p a n).length ≤ n * a.length + 1
  | 0 => by simp [powP]
  | n + 1 => by
    have := len_mul (p := p) (powP p a n) a
    have := len_pow a n
    rw [powP, Nat.add_mul]; omega
theorem len_fall (a : List Int) : (fallP p a).length ≤ a.length - 1 := nf_len _ _
theorem len_evy (a : List Int) (i : Nat) : (evyP p a i).length ≤ a.length := nf_len _ _
theorem len_str (a : List Int) : (strP p a).length ≤ p * (a.length - 1) + 1 := nf_len _ _
theorem scl_neg1 (a : List Int) : sclP p a (-1) = negP p a := can_eq (can_scl _ _) (can_neg _) (by
  rw [sr_scl, sr_neg, Ring.intCast_neg, Ring.intCast_one, cS_neg]
  have : (cS 1 : Ser p) = 1 := rfl
  rw [this]; grind)
theorem trm_of {l : List Int} (h : Can p l) : trm p l = l := nf_of h (bd_sr l)
end MK
end
section
set_option linter.all false
/-! Division, common divisors, least forms. -/
namespace MK
open Lean.Grind
variable {p : Nat} [NeZero p]
theorem div_ser [Pr p] {n : Nat} {v : Ser p} (hv : Bd (n + 1) v) (hn : v n ≠ 0) : ∀ (m : Nat) (u : Ser p), Bd m u → ∃ q r, Bd (m - n) q ∧ Bd n r ∧ u = q * v + r
  | 0, u, h => ⟨0, 0, bd_0 _, bd_0 _, by rw [h.zero]; grind⟩
  | m + 1, u, h => by
    by_cases hm : m + 1 ≤ n
    · exact ⟨0, u, bd_0 _, h.mono hm, by grind⟩
    · obtain ⟨i, hi⟩ := fin_inv _ hn
      have wv : shk (m - n) (1 : Ser p) * v = shk (m - n) v := by rw [shk_mul, Semiring.one_mul]
      have hb : Bd m (u - cS (u m * i) * (shk (m - n) 1 * v)) := fun k hk => by
        rw [sub_at, wv, cS_mul, sm_at, shk_at, if_neg (by omega)]
        by_cases e : k = m
        · subst e
          rw [show k - (k - n) = n by omega]
          have : u k * i * v n = u k := by rw [Semiring.mul_assoc, hi, Semiring.mul_one]
          rw [this]; grind
        · rw [h k (by omega), hv _ (by omega)]; grind
      obtain ⟨q, r, hq, hr, e⟩ := div_ser hv hn m _ hb
      refine ⟨q + cS (u m * i) * shk (m - n) 1, r, (hq.mono (by omega)).add fun k hk => ?_, hr, by grind⟩
      rw [cS_mul, sm_at, shk_at, if_neg (by omega)]
      have : (1 : Ser p) (k - (m - n)) = 0 := by rw [one_at, if_neg (by omega)]
      rw [this]; grind
theorem div_uniq [Pr p] {n : Nat} {v q r q' r' : Ser p} (hv : Bd (n + 1) v) (hn : v n ≠ 0) (hq : Pl q) (hq' : Pl q') (hr : Bd n r) (hr' : Bd n r') (e : q * v + r = q' * v + r') : q = q' ∧ r = r' := by
  have e1 : (q - q') * v = r' - r := by grind
  have e2 : q - q' = 0 := by
    by_cases h : q - q' = 0
    · exact h
    · obtain ⟨m, hb⟩ := hq.sub hq'
      obtain ⟨k, _, h1, h2⟩ := top_of hb h
      have t := mul_top h2 hv
      rw [e1, (hr'.sub hr) (k + n) (by omega)] at t
      rcases fin_nzd _ _ t.symm with z | z
      · exact absurd z h1
      · exact absurd z hn
  have e3 : q = q' := by grind
  refine ⟨e3, ?_⟩
  rw [e3] at e
  grind
structure DivOk (p : Nat) [NeZero p] (a b q r : List Int) : Prop where
  cq : Can p q
  cr : Can p r
  e : sr p a = sr p q * sr p b + sr p r
  l : r.length < b.length
theorem Can.tops {b : List Int} (hb : Can p b) (h0 : b ≠ []) : Bd (b.length - 1 + 1) (sr p b) ∧ sr p b (b.length - 1) ≠ 0 := by
  have := List.length_pos_iff.mpr h0
  exact ⟨(bd_sr b).mono (by omega), hb.top h0⟩
theorem DivOk.uniq [Pr p] {a b q r q' r' : List Int} (hb : Can p b) (h : DivOk p a b q r) (h' : DivOk p a b q' r') : q = q' ∧ r = r' := by
  have h0 : b ≠ [] := fun e => by have := h.l; rw [e] at this; simp at this
  obtain ⟨t1, t2⟩ := hb.tops h0
  obtain ⟨e1, e2⟩ := div_uniq t1 t2 (pl_sr q) (pl_sr q') ((bd_sr r).mono (by have := h.l; omega)) ((bd_sr r').mono (by have := h'.l; omega)) (h.e.symm.trans h'.e)
  exact ⟨can_eq h.cq h'.cq e1, can_eq h.cr h'.cr e2⟩
theorem div_ex [Pr p] (a : List Int) {b : List Int} (hb : Can p b) (h0 : b ≠ []) : ∃ q r, DivOk p a b q r ∧ q.length ≤ a.length + 1 - b.length := by
  have := List.length_pos_iff.mpr h0
  obtain ⟨t1, t2⟩ := hb.tops h0
  obtain ⟨q, r, h1, h2, e⟩ := div_ser t1 t2 a.length (sr p a) (bd_sr a)
  refine ⟨nf p _ q, nf p _ r, ⟨nf_can _ _, nf_can _ _, by rw [sr_nf h1, sr_nf h2]; exact e, ?_⟩, ?_⟩
  · have := nf_len (b.length - 1) r; omega
  · have := nf_len (a.length - (b.length - 1)) q; omega
open Classical in
noncomputable def quoP (p : Nat) [NeZero p] (a b : List Int) : List Int := if h : ∃ q, ∃ r, DivOk p a b q r then h.choose else []
open Classical in
noncomputable def remP (p : Nat) [NeZero p] (a b : List Int) : List Int := if h : ∃ r, ∃ q, DivOk p a b q r then h.choose else []
theorem div_eq [Pr p] {a b q r : List Int} (hb : Can p b) (h : DivOk p a b q r) : quoP p a b = q ∧ remP p a b = r := by
  have h1 : ∃ q, ∃ r, DivOk p a b q r := ⟨q, r, h⟩
  have h2 : ∃ r, ∃ q, DivOk p a b q r := ⟨r, q, h⟩
  unfold quoP remP
  rw [dif_pos h1, dif_pos h2]
  obtain ⟨r', k1⟩ := h1.choose_spec
  obtain ⟨q', k2⟩ := h2.choose_spec
  exact ⟨(k1.uniq hb h).1, (k2.uniq hb h).2⟩
theorem div_spec [Pr p] (a : List Int) {b : List Int} (hb : Can p b) (h0 : b ≠ []) : DivOk p a b (quoP p a b) (remP p a b) ∧ (quoP p a b).length ≤ a.length + 1 - b.length := by
  obtain ⟨q, r, h, l⟩ := div_ex a hb h0
  obtain ⟨e1, e2⟩ := div_eq hb h
  rw [e1, e2]; exact ⟨h, l⟩
/-! ### common divisors -/
structure GcdS (u v g : Ser p) : Prop where
  pl : Pl g
  lin : ∃ s t, Pl s ∧ Pl t ∧ g = s * u + t * v
  l : ∃ k, Pl k ∧ u = g * k
  r : ∃ k, Pl k ∧ v = g * k
theorem gcd_ex [Pr p] : ∀ (n : Nat) (u v : Ser p), Bd n v → Pl u → ∃ g, GcdS u v g := by
  intro n
  induction n using Nat.strongRecOn with
  | _ n ih =>
    intro u v hv hu
    by_cases h0 : v = 0
    · exact ⟨u, hu, ⟨1, 0, pl_1, pl_0, by grind⟩, ⟨1, pl_1, by grind⟩, ⟨0, pl_0, by grind⟩⟩
    · obtain ⟨m, hm, h1, h2⟩ := top_of hv h0
      obtain ⟨N, hN⟩ := hu
      obtain ⟨q, r, hq, hr, e⟩ := div_ser h2 h1 N u hN
      obtain ⟨g, k1, ⟨s, t, hs, ht, k2⟩, ⟨k, hk, k3⟩, ⟨l, hl, k4⟩⟩ := ih m hm v r hr ⟨_, hv⟩
      refine ⟨g, k1, ⟨t, s - t * q, ht, hs.sub (ht.mul ⟨_, hq⟩), by grind⟩, ⟨q * k + l, (Pl.mul ⟨_, hq⟩ hk).add hl, by grind⟩, ⟨k, hk, k3⟩⟩
theorem GcdS.step {u v g q r : Ser p} (hq : Pl q) (e : u = q * v + r) (h : GcdS v r g) : GcdS u v g := by
  obtain ⟨k1, ⟨s, t, hs, ht, k2⟩, ⟨k, hk, k3⟩, ⟨l, hl, k4⟩⟩ := h
  exact ⟨k1, ⟨t, s - t * q, ht, hs.sub (ht.mul hq), by grind⟩, ⟨q * k + l, (hq.mul hk).add hl, by grind⟩, ⟨k, hk, k3⟩⟩
theorem GcdS.scale {u v g : Ser p} {c d : Fin p} (e : d * c = 1) (h : GcdS u v g) : GcdS u v (cS c * g) := by
  have ee : cS d * cS c = (1 : Ser p) := by rw [cS_mulc, e]; rfl
  obtain ⟨k1, ⟨s, t, hs, ht, k2⟩, ⟨k, hk, k3⟩, ⟨l, hl, k4⟩⟩ := h
  exact ⟨(pl_c c).mul k1, ⟨cS c * s, cS c * t, (pl_c c).mul hs, (pl_c c).mul ht, by grind⟩, ⟨cS d * k, (pl_c d).mul hk, by grind⟩, ⟨cS d * l, (pl_c d).mul hl, by grind⟩⟩
/-- the top coefficient is 1 -/
def Mo (p : Nat) [NeZero p] (c : List Int) : Prop := c ≠ [] ∧ sr p c (c.length - 1) = 1
theorem top_lt [Pr p] {n N : Nat} {u k : Ser p} (h1 : Bd (n + 1) u) (h2 : u n ≠ 0) (hk : Pl k) (h : Bd N (u * k)) (h0 : k ≠ 0) : ∃ m, n + m < N ∧ k m ≠ 0 ∧ Bd (m + 1) k := by
  obtain ⟨M, hM⟩ := hk
  obtain ⟨m, _, e1, e2⟩ := top_of hM h0
  refine ⟨m, ?_, e1, e2⟩
  by_cases hlt : n + m < N
  · exact hlt
  · have t := mul_top h1 e2
    rw [h _ (by omega)] at t
    rcases fin_nzd _ _ t.symm with z | z
    · exact absurd z h2
    · exact absurd z e1
theorem one_ne [Pr p] : (1 : Ser p) ≠ 0 := by
  have := pow_ne (p := p) (u := 1)
  intro h
  have := congrFun h 0
  have z : (1 : Fin p) = 0 := this
  have := Pr.gt (p := p)
  have z2 : ((1 : Nat) : Fin p) = 0 := by rw [Semiring.natCast_one]; exact z
  have := (IsCharP.natCast_eq_zero_iff (α := Fin p) p 1).mp z2
  rw [Nat.mod_eq_of_lt (by omega)] at this
  omega
theorem unit_c [Pr p] {k l : Ser p} (hk : Pl k) (hl : Pl l) (e : k * l = 1) : ∃ a, k = cS a ∧ a ≠ 0 := by
  have k0 : k ≠ 0 := fun z => one_ne (p := p) (by rw [← e, z]; grind)
  have l0 : l ≠ 0 := fun z => one_ne (p := p) (by rw [← e, z]; grind)
  obtain ⟨M, hM⟩ := hk
  obtain ⟨m, _, e1, e2⟩ := top_of hM k0
  obtain ⟨n, h1, h2, h3⟩ := top_lt e2 e1 hl (N := 1) (by rw [e]; exact fun i hi => by rw [one_at, if_neg (by omega)]) l0
  obtain rfl : m = 0 := by omega
  refine ⟨k 0, ser_ext fun i => ?_, e1⟩
  cases i with
  | zero => rfl
  | succ i => rw [e2 _ (by omega), cS_s]
theorem assoc_eq [Pr p] {c d : List Int} {k l : Ser p} (hc : Can p c) (hd : Can p d) (mc : Mo p c) (md : Mo p d) (hk : Pl k) (hl : Pl l) (e1 : sr p d = sr p c * k) (e2 : sr p c = sr p d * l) : c = d := by
  have c0 := hc.ne mc.1
  have kl : k * l = 1 := canc c0 (by grind)
  obtain ⟨a, rfl, ha⟩ := unit_c hk hl kl
  have lk : l * cS a = 1 := by grind
  obtain ⟨b, rfl, hb⟩ := unit_c hl hk lk
  have le1 : d.length ≤ c.length := hd.len_le (by rw [e1, mulc]; exact (bd_sr c).sm a)
  have le2 : c.length ≤ d.length := hc.len_le (by rw [e2, mulc]; exact (bd_sr d).sm b)
  have t1 := congrFun e1 (c.length - 1)
  rw [mulc, cS_mul, sm_at, mc.2, show c.length = d.length by omega, md.2] at t1
  have a1 : a = 1 := by grind
  refine can_eq hc hd ?_
  rw [e1, a1]
  have : (cS 1 : Ser p) = 1 := rfl
  rw [this]; grind
structure GcdL (p : Nat) [NeZero p] (a b g : List Int) : Prop where
  c : Can p g
  s : GcdS (sr p a) (sr p b) (sr p g)
theorem GcdL.uniq [Pr p] {a b g h : List Int} (hg : GcdL p a b g) (hh : GcdL p a b h) (mg : g = [] ∨ Mo p g) (mh : h = [] ∨ Mo p h) : g = h := by
  obtain ⟨cg, -, ⟨s, t, hs, ht, k2⟩, ⟨k, hk, k3⟩, ⟨l, hl, k4⟩⟩ := hg
  obtain ⟨ch, -, ⟨s', t', hs', ht', k2'⟩, ⟨k', hk', k3'⟩, ⟨l', hl', k4'⟩⟩ := hh
  have e1 : sr p h = sr p g * (s' * k + t' * l) := by grind
  have e2 : sr p g = sr p h * (s * k' + t * l') := by grind
  rcases mg with rfl | mg
  · refine can_eq cg ch ?_
    rw [e1, sr_nil]; grind
  rcases mh with rfl | mh
  · refine can_eq cg ch ?_
    rw [e2, sr_nil]; grind
  exact assoc_eq cg ch mg mh ((hs'.mul hk).add (ht'.mul hl)) ((hs.mul hk').add (ht.mul hl')) e1 e2
theorem inv_ne [Pr p] {a b : Fin p} (h : b * a = 1) : b ≠ 0 ∧ a * b = 1 := by
  have : a * b = 1 := by grind
  refine ⟨fun z => ?_, this⟩
  rw [z] at h
  apply one_ne (p := p)
  have : (cS (1 : Fin p) : Ser p) = cS 0 := by rw [← h]; congr 1; grind
  exact this
/-- a scaled one with top 1 -/
theorem monic_of [Pr p] {g : Ser p} (hg : Pl g) (h0 : g ≠ 0) : ∃ (i c : Fin p) (l : List Int), i * c = 1 ∧ Can p l ∧ Mo p l ∧ sr p l = cS i * g := by
  obtain ⟨N, hN⟩ := hg
  obtain ⟨m, _, e1, e2⟩ := top_of hN h0
  obtain ⟨i, hi⟩ := fin_inv _ e1
  have hs : sr p (nf p (m + 1) (cS i * g)) = cS i * g := sr_nf (e2.sm i)
  have ht : (cS i * g) m = 1 := by rw [cS_mul, sm_at, hi]
  have hne : nf p (m + 1) (cS i * g) ≠ [] := sr_ne (p := p) (by
    rw [hs]; intro z
    rw [z, zero_at] at ht
    apply one_ne (p := p)
    show cS (1 : Fin p) = cS 0
    rw [ht])
  have hl : (nf p (m + 1) (cS i * g)).length = m + 1 := by
    have h1 := nf_len (m + 1) (cS i * g)
    by_cases h : (nf p (m + 1) (cS i * g)).length = m + 1
    · exact h
    · have z := bd_sr (p := p) (nf p (m + 1) (cS i * g)) m (by omega)
      rw [hs, ht] at z
      exact absurd (show (1 : Ser p) = 0 from congrArg cS z) one_ne
  exact ⟨i, g m, _, hi, nf_can _ _, ⟨hne, by rw [hl, hs]; exact ht⟩, hs⟩
theorem gcdL_ex [Pr p] (a b : List Int) : ∃ g, GcdL p a b g ∧ (g = [] ∨ Mo p g) := by
  obtain ⟨g, h⟩ := gcd_ex b.length (sr p a) (sr p b) (bd_sr b) (pl_sr a)
  by_cases h0 : g = 0
  · refine ⟨[], ⟨can_nil, ?_⟩, .inl rfl⟩
    rw [sr_nil, ← h0]; exact h
  · obtain ⟨i, c, l, hi, hc, hm, e⟩ := monic_of h.pl h0
    exact ⟨l, ⟨hc, by rw [e]; exact h.scale (inv_ne hi).2⟩, .inr hm⟩
open Classical in
noncomputable def gcdP (p : Nat) [NeZero p] (a b : List Int) : List Int := if h : ∃ g, GcdL p a b g ∧ (g = [] ∨ Mo p g) then h.choose else []
theorem gcdP_spec [Pr p] (a b : List Int) : GcdL p a b (gcdP p a b) ∧ (gcdP p a b = [] ∨ Mo p (gcdP p a b)) := by
  have h := gcdL_ex (p := p) a b
  unfold gcdP
  rw [dif_pos h]
  exact h.choose_spec
theorem gcdP_eq [Pr p] {a b g : List Int} (h : GcdL p a b g) (m : g = [] ∨ Mo p g) : gcdP p a b = g := (gcdP_spec a b).1.uniq h (gcdP_spec a b).2 m
/-! ### least forms -/
structure Nf (p : Nat) [NeZero p] (A B C : Ser p) (a b c : List Int) : Prop where
  ca : Can p a
  cb : Can p b
  cc : Can p c
  m : Mo p c
  bz : ∃ s t u, Pl s ∧ Pl t ∧ Pl u ∧ s * sr p a + t * sr p b + u * sr p c = 1
  e1 : A * sr p c = sr p a * C
  e2 : B * sr p c = sr p b * C
theorem Nf.cong [Pr p] {A B C A' B' C' : Ser p} {a b c : List Int} (h : Nf p A B C a b c) (hC : C ≠ 0) (e1 : A * C' = A' * C) (e2 : B * C' = B' * C) : Nf p A' B' C' a b c := by
  obtain ⟨h1, h2, h3, h4, h5, h6, h7⟩ := h
  exact ⟨h1, h2, h3, h4, h5, canc hC (by grind), canc hC (by grind)⟩
theorem Nf.uniq [Pr p] {A B C : Ser p} {a b c a' b' c' : List Int} (h : Nf p A B C a b c) (h' : Nf p A B C a' b' c') (hC : C ≠ 0) : a = a' ∧ b = b' ∧ c = c' := by
  obtain ⟨h1, h2, h3, h4, ⟨s, t, u, hs, ht, hu, h5⟩, h6, h7⟩ := h
  obtain ⟨k1, k2, k3, k4, ⟨s', t', u', hs', ht', hu', k5⟩, k6, k7⟩ := h'
  have e1 : sr p a * sr p c' = sr p a' * sr p c := canc hC (by grind)
  have e2 : sr p b * sr p c' = sr p b' * sr p c := canc hC (by grind)
  have ec : c = c' := by
    refine assoc_eq (k := s * sr p a' + t * sr p b' + u * sr p c') (l := s' * sr p a + t' * sr p b + u' * sr p c) h3 k3 h4 k4
      (((hs.mul (pl_sr _)).add (ht.mul (pl_sr _))).add (hu.mul (pl_sr _))) (((hs'.mul (pl_sr _)).add (ht'.mul (pl_sr _))).add (hu'.mul (pl_sr _))) ?_ ?_
    · have : sr p c' = (s * sr p a + t * sr p b + u * sr p c) * sr p c' := by rw [h5]; grind
      rw [this]; grind
    · have : sr p c = (s' * sr p a' + t' * sr p b' + u' * sr p c') * sr p c := by rw [k5]; grind
      rw [this]; grind
  subst ec
  have c0 := h3.ne h4.1
  exact ⟨can_eq h1 k1 (canc c0 (by grind)), can_eq h2 k2 (canc c0 (by grind)), rfl⟩
theorem Nf.lens [Pr p] {A B C a b c : List Int} (h : Nf p (sr p A) (sr p B) (sr p C) a b c) (hC : sr p C ≠ 0) : a.length ≤ A.length ∧ b.length ≤ B.length ∧ c.length ≤ C.length := by
  obtain ⟨h1, h2, h3, h4, ⟨s, t, u, hs, ht, hu, h5⟩, h6, h7⟩ := h
  have c0 := h3.ne h4.1
  have eC : sr p C = sr p c * (s * sr p A + t * sr p B + u * sr p C) := by
    have : sr p C = (s * sr p a + t * sr p b + u * sr p c) * sr p C := by rw [h5]; grind
    grind
  have hk : Pl (s * sr p A + t * sr p B + u * sr p C) := ((hs.mul (pl_sr _)).add (ht.mul (pl_sr _))).add (hu.mul (pl_sr _))
  generalize hkk : s * sr p A + t * sr p B + u * sr p C = k at eC hk
  have k0 : k ≠ 0 := fun z => hC (by rw [eC, z]; grind)
  have eA : sr p A = sr p a * k := canc c0 (by grind)
  have eB : sr p B = sr p b * k := canc c0 (by grind)
  have key : ∀ {x X : List Int}, Can p x → sr p X = sr p x * k → x.length ≤ X.length := by
    intro x Y hx e
    by_cases hx0 : x = []
    · rw [hx0]; simp
    · have := List.length_pos_iff.mpr hx0
      obtain ⟨t1, t2⟩ := hx.tops hx0
      obtain ⟨m, h, _⟩ := top_lt t1 t2 hk (N := Y.length) (by rw [← e]; exact bd_sr Y) k0
      omega
  exact ⟨key h1 eA, key h2 eB, key h3 eC⟩
theorem nf_ex [Pr p] {A B C : Ser p} (hA : Pl A) (hB : Pl B) (hC : Pl C) (h0 : C ≠ 0) : ∃ a b c, Nf p A B C a b c := by
  obtain ⟨nB, hnB⟩ := hB
  obtain ⟨g1, w1, ⟨s, t, hs, ht, k2⟩, ⟨k, hk, k3⟩, ⟨l, hl, k4⟩⟩ := gcd_ex nB A B hnB hA
  obtain ⟨nC, hnC⟩ := hC
  obtain ⟨g, w, ⟨s', t', hs', ht', k2'⟩, ⟨k', hk', k3'⟩, ⟨l', hl', k4'⟩⟩ := gcd_ex nC g1 C hnC w1
  have g0 : g ≠ 0 := fun z => h0 (by rw [k4', z]; grind)
  have l0 : l' ≠ 0 := fun z => h0 (by rw [k4', z]; grind)
  obtain ⟨i, e, c, hi, hc, hm, ec⟩ := monic_of hl' l0
  have ie : cS i * cS e = (1 : Ser p) := by rw [cS_mulc, hi]; rfl
  obtain ⟨na, hna⟩ : Pl (cS i * (k' * k)) := (pl_c i).mul (hk'.mul hk)
  obtain ⟨nb, hnb⟩ : Pl (cS i * (k' * l)) := (pl_c i).mul (hk'.mul hl)
  refine ⟨nf p na (cS i * (k' * k)), nf p nb (cS i * (k' * l)), c, nf_can _ _, nf_can _ _, hc, hm, ⟨cS e * s' * s, cS e * s' * t, cS e * t', ((pl_c e).mul hs').mul hs, ((pl_c e).mul hs').mul ht, (pl_c e).mul ht', ?_⟩, ?_, ?_⟩
  · rw [sr_nf hna, sr_nf hnb, ec]
    have : g * (s' * s * (k' * k) + s' * t * (k' * l) + t' * l') = g * 1 := by grind
    have := canc g0 this
    grind
  · rw [sr_nf hna, ec]; grind
  · rw [sr_nf hnb, ec]; grind
open Classical in
noncomputable def leastP (p : Nat) [NeZero p] (a b c : List Int) : List Int × List Int × List Int := if h : ∃ r : List Int × List Int × List Int, Nf p (sr p a) (sr p b) (sr p c) r.1 r.2.1 r.2.2 then h.choose else ([], [], [])
theorem leastP_spec [Pr p] (a b : List Int) {c : List Int} (hc : sr p c ≠ 0) : Nf p (sr p a) (sr p b) (sr p c) (leastP p a b c).1 (leastP p a b c).2.1 (leastP p a b c).2.2 := by
  have h : ∃ r : List Int × List Int × List Int, Nf p (sr p a) (sr p b) (sr p c) r.1 r.2.1 r.2.2 := by
    obtain ⟨x, y, z, h⟩ := nf_ex (pl_sr (p := p) a) (pl_sr b) (pl_sr c) hc
    exact ⟨(x, y, z), h⟩
  unfold leastP
  rw [dif_pos h]
  exact h.choose_spec
theorem leastP_eq [Pr p] {a b c x y z : List Int} (hc : sr p c ≠ 0) (h : Nf p (sr p a) (sr p b) (sr p c) x y z) : leastP p a b c = (x, y, z) := by
  obtain ⟨e1, e2, e3⟩ := (leastP_spec a b hc).uniq h hc
  exact Prod.ext e1 (Prod.ext e2 e3)
theorem leastP_cong [Pr p] {a b c a' b' c' : List Int} (hc : sr p c ≠ 0) (hc' : sr p c' ≠ 0) (e1 : sr p a * sr p c' = sr p a' * sr p c) (e2 : sr p b * sr p c' = sr p b' * sr p c) : leastP p a b c = leastP p a' b' c' :=
  (leastP_eq hc' ((leastP_spec a b hc).cong hc e1 e2)).symm
theorem leastP_lens [Pr p] (a b : List Int) {c : List Int} (hc : sr p c ≠ 0) : (leastP p a b c).1.length ≤ a.length ∧ (leastP p a b c).2.1.length ≤ b.length ∧ (leastP p a b c).2.2.length ≤ c.length := (leastP_spec a b hc).lens hc
/-- in least form -/
def Norm (p : Nat) [NeZero p] (a b c : List Int) : Prop := Nf p (sr p a) (sr p b) (sr p c) a b c
theorem Nf.norm {A B C : Ser p} {a b c : List Int} (h : Nf p A B C a b c) : Norm p a b c := ⟨h.ca, h.cb, h.cc, h.m, h.bz, rfl, rfl⟩
theorem leastP_norm [Pr p] (a b : List Int) {c : List Int} (hc : sr p c ≠ 0) : Norm p (leastP p a b c).1 (leastP p a b c).2.1 (leastP p a b c).2.2 := (leastP_spec a b hc).norm
theorem Norm.c0 {a b c : List Int} (h : Norm p a b c) : sr p c ≠ 0 := h.cc.ne h.m.1
theorem Norm.least [Pr p] {a b c : List Int} (h : Norm p a b c) : leastP p a b c = (a, b, c) := leastP_eq h.c0 h
end MK
end
section
set_option linter.all false
/-! Slopes, parts, sources: the laws of series. -/
namespace MK
open Lean.Grind
variable {p : Nat} [NeZero p]
def hf (p : Nat) : Nat := (p + 1) / 2
theorem two_ne [Pr p] : (2 : Ser p) ≠ 0 := by
  intro h
  have : ((2 : Nat) : Ser p) = 0 := h
  have := (IsCharP.natCast_eq_zero_iff (α := Ser p) p 2).mp this
  have := Pr.gt (p := p)
  rw [Nat.mod_eq_of_lt (by omega)] at *
  omega
theorem pow_mul' {R : Type} [CommRing R] (a : R) (m : Nat) : ∀ n : Nat, (a ^ m) ^ n = a ^ (m * n)
  | 0 => by rw [Nat.mul_zero, Semiring.pow_zero, Semiring.pow_zero]
  | n + 1 => by rw [Semiring.pow_succ, pow_mul' a m n, Nat.mul_succ, Semiring.pow_add]
theorem pow_split [Pr p] (c : Ser p) : c ^ p = c ^ (p - 1) * c := by
  rw [← Semiring.pow_succ]; congr 1
  have := Pr.pos (p := p); omega
/-- the half power's slope -/
theorem D_half [Pr p] (f : Ser p) : 2 * D (f ^ hf p) * f = f ^ hf p * D f := by
  rcases (Pr.h (p := p)) with e | e | e | e <;> subst e
  · have := D_pow f 1
    have c1 : ((1 + 1 : Nat) : Ser 3) = 2 := rfl
    rw [c1] at this
    show 2 * D (f ^ 2) * f = f ^ 2 * D f
    grind
  · have := D_pow f 2
    have c1 : ((2 + 1 : Nat) : Ser 5) = 3 := rfl
    rw [c1] at this
    show 2 * D (f ^ 3) * f = f ^ 3 * D f
    grind
  · have := D_pow f 3
    have c1 : ((3 + 1 : Nat) : Ser 7) = 4 := rfl
    rw [c1] at this
    show 2 * D (f ^ 4) * f = f ^ 4 * D f
    grind
  · have := D_pow f 5
    have c1 : ((5 + 1 : Nat) : Ser 11) = 6 := rfl
    rw [c1] at this
    show 2 * D (f ^ 6) * f = f ^ 6 * D f
    grind
/-- the slope of the power under the p-th -/
theorem D_low [Pr p] (c : Ser p) : D (c ^ (p - 1)) * c = - (c ^ (p - 1) * D c) := by
  rcases (Pr.h (p := p)) with e | e | e | e <;> subst e
  · have := D_pow c 1
    have c1 : ((1 + 1 : Nat) : Ser 3) = 2 := rfl
    rw [c1] at this
    show D (c ^ 2) * c = -(c ^ 2 * D c)
    grind
  · have := D_pow c 3
    have c1 : ((3 + 1 : Nat) : Ser 5) = 4 := rfl
    rw [c1] at this
    show D (c ^ 4) * c = -(c ^ 4 * D c)
    grind
  · have := D_pow c 5
    have c1 : ((5 + 1 : Nat) : Ser 7) = 6 := rfl
    rw [c1] at this
    show D (c ^ 6) * c = -(c ^ 6 * D c)
    grind
  · have := D_pow c 9
    have c1 : ((9 + 1 : Nat) : Ser 11) = 10 := rfl
    rw [c1] at this
    show D (c ^ 10) * c = -(c ^ 10 * D c)
    grind
/-- f^hf, f^((p-1)/2) -/
theorem half_mul [Pr p] (f : Ser p) : f ^ hf p * f ^ ((p - 1) / 2) = f ^ p := by
  rcases (Pr.h (p := p)) with e | e | e | e <;> subst e
  · show f ^ 2 * f ^ 1 = f ^ 3; grind
  · show f ^ 3 * f ^ 2 = f ^ 5; grind
  · show f ^ 4 * f ^ 3 = f ^ 7; grind
  · show f ^ 6 * f ^ 5 = f ^ 11; grind
def lowS (c a : Ser p) : Ser p := a * c ^ (p - 1)
def highS (f c b : Ser p) : Ser p := b * c ^ (p - 1) * f ^ hf p
theorem low_cong [Pr p] {a c A C : Ser p} (e : a * C = A * c) : lowS c a * C ^ p = lowS C A * c ^ p := by
  unfold lowS
  rw [pow_split c, pow_split C]
  grind
theorem high_low (f c b : Ser p) : highS f c b = lowS c b * f ^ hf p := rfl
theorem high_cong [Pr p] {f b c B C : Ser p} (e : b * C = B * c) : highS f c b * C ^ p = highS f C B * c ^ p := by
  rw [high_low, high_low]
  have := low_cong e
  grind
theorem Ei_low [Pr p] {a c A C : Ser p} (e : a * C = A * c) {i : Nat} (hi : i < p) : Ei i (lowS c a) * C = Ei i (lowS C A) * c := by
  rw [← Ei_p i hi, ← Ei_p i hi, low_cong e]
theorem Ei_high [Pr p] {f b c B C : Ser p} (e : b * C = B * c) {i : Nat} (hi : i < p) : Ei i (highS f c b) * C = Ei i (highS f C B) * c := by
  rw [← Ei_p i hi, ← Ei_p i hi, high_cong e]
/-! the slope's numerators over c * c * (2 f) -/
def sA (f a c : Ser p) : Ser p := (D a * c - a * D c) * (2 * f)
def sB (f b c : Ser p) : Ser p := (D b * c - b * D c) * (2 * f) + b * c * D f
def sC (f c : Ser p) : Ser p := c * c * (2 * f)
theorem sA_cong {f a c A C : Ser p} (e : a * C = A * c) : sA f a c * sC f C = sA f A C * sC f c := by
  have h := congrArg D e
  rw [D_mul, D_mul] at h
  unfold sA sC
  have key : (D a * c - a * D c) * (C * C) = (D A * C - A * D C) * (c * c) := by grind
  grind
theorem sB_cong {f b c B C : Ser p} (e : b * C = B * c) : sB f b c * sC f C = sB f B C * sC f c := by
  have h := congrArg D e
  rw [D_mul, D_mul] at h
  unfold sB sC
  have key : (D b * c - b * D c) * (C * C) = (D B * C - B * D C) * (c * c) := by grind
  have k2 : b * c * D f * (C * C) = B * C * D f * (c * c) := by grind
  grind
theorem D_lowS [Pr p] (a c : Ser p) : D (lowS c a) * c = (D a * c - a * D c) * c ^ (p - 1) := by
  unfold lowS
  rw [D_mul]
  have := D_low c
  grind
theorem sC_p [Pr p] (f c : Ser p) : sC f c ^ (p - 1) * sC f c = c ^ p * (c * (2 * f)) ^ p := by
  rw [← pow_split, ← mpow]
  congr 1
  unfold sC
  grind
/-- the slope's lower part is a slope times a p-th power -/
theorem sA_low [Pr p] {f a c : Ser p} (hf0 : f ≠ 0) (hc : c ≠ 0) : lowS (sC f c) (sA f a c) = D (lowS c a) * (c * (2 * f)) ^ p := by
  have h0 : sC f c ≠ 0 := mul_ne (mul_ne hc hc) (mul_ne two_ne hf0)
  refine canc h0 ?_
  have e1 := D_lowS a c
  have e2 := sC_p f c
  have e3 := pow_split c
  unfold lowS
  have : sC f c * (sA f a c * sC f c ^ (p - 1)) = sA f a c * (c ^ p * (c * (2 * f)) ^ p) := by rw [← e2]; grind
  rw [this]
  unfold lowS at e1
  have e4 : sA f a c * c ^ p = sC f c * D (a * c ^ (p - 1)) := by
    unfold sA sC
    rw [e3]
    grind
  grind
theorem sB_high [Pr p] {f b c : Ser p} (hf0 : f ≠ 0) (hc : c ≠ 0) : highS f (sC f c) (sB f b c) = D (highS f c b) * (c * (2 * f)) ^ p := by
  have h0 : sC f c ≠ 0 := mul_ne (mul_ne hc hc) (mul_ne two_ne hf0)
  refine canc h0 ?_
  have e2 := sC_p f c
  have e3 := pow_split c
  have e1 := D_lowS b c
  have e5 := D_half f
  have this : sC f c * highS f (sC f c) (sB f b c) = sB f b c * f ^ hf p * (c ^ p * (c * (2 * f)) ^ p) := by
    unfold highS; rw [← e2]; grind
  rw [this]
  have e4 : sB f b c * f ^ hf p * c ^ p = sC f c * D (highS f c b) := by
    rw [high_low, D_mul]
    unfold sB sC
    rw [e3]
    have : c * c * (2 * f) * (D (lowS c b) * f ^ hf p + lowS c b * D (f ^ hf p)) = c * ((D (lowS c b) * c) * (2 * f) * f ^ hf p + c * lowS c b * (2 * D (f ^ hf p) * f)) := by grind
    rw [this, e1, e5]
    unfold lowS
    grind
  grind
/-- the descent of a slope is nought -/
theorem fall_nought [Pr p] {f a b c A B C : Ser p} (hf0 : f ≠ 0) (hc : c ≠ 0) (hC : C ≠ 0) (e1 : sA f a c * C = A * sC f c) (e2 : sB f b c * C = B * sC f c) :
    Ei (p - 1) (lowS C A) = 0 ∧ Ei (p - 1) (highS f C B) = 0 := by
  have hp := Pr.pos (p := p)
  have h0 : sC f c ≠ 0 := mul_ne (mul_ne hc hc) (mul_ne two_ne hf0)
  constructor
  · have := Ei_low e1 (i := p - 1) (by omega)
    rw [sA_low hf0 hc, Ei_p _ (by omega), Ei_D] at this
    refine canc h0 ?_
    grind
  · have := Ei_high (f := f) e2 (i := p - 1) (by omega)
    rw [sB_high hf0 hc, Ei_p _ (by omega), Ei_D] at this
    refine canc h0 ?_
    grind
theorem D_mul_st [Pr p] (u v : Ser p) : D (u * v ^ p) = D u * v ^ p := by
  rw [D_mul, D_powp]; grind
theorem E0_st [Pr p] (u : Ser p) : Ei 0 (u ^ p) = u := by
  have := Ei_p (p := p) 0 Pr.pos 1 u
  have e : Ei 0 (1 : Ser p) = 1 := ser_ext fun k => by
    rw [Ei_at, one_at, one_at]
    have := Pr.pos (p := p)
    by_cases h : k = 0
    · rw [if_pos h, if_pos (by rw [h]; simp)]
    · rw [if_neg h, if_neg (by
        have : 0 < k * p := Nat.mul_pos (by omega) this
        omega)]
  rw [e, Semiring.one_mul, Semiring.one_mul] at this
  exact this
theorem uniq2 [Pr p] {u v : Ser p} (h1 : D u = D v) (h2 : Ei 0 u = Ei 0 v) : u = v := by
  have := uniq_D (u - v) (by rw [D_sub, h1]; grind) (by rw [Ei_sub, h2]; grind)
  grind
/-- the source of a slope: R the raised one of the slope's lower part -/
theorem raise_low [Pr p] {f a c A C R : Ser p} (hf0 : f ≠ 0) (hc : c ≠ 0) (e1 : sA f a c * C = A * sC f c) (h1 : D R = lowS C A) (h2 : Ei 0 R = 0) :
    R * c ^ p = (lowS c a - (Ei 0 (lowS c a)) ^ p) * C ^ p := by
  have hw : (c * (2 * f)) ^ p ≠ 0 := pow_ne (mul_ne hc (mul_ne two_ne hf0)) p
  refine canc hw ?_
  have e5 : c ^ p * (c * (2 * f)) ^ p = sC f c ^ p := by rw [← sC_p, ← pow_split]
  have k1 : (c * (2 * f)) ^ p * (R * c ^ p) = R * sC f c ^ p := by rw [← e5]; grind
  have k2 : (c * (2 * f)) ^ p * ((lowS c a - (Ei 0 (lowS c a)) ^ p) * C ^ p) = (lowS c a - (Ei 0 (lowS c a)) ^ p) * (c * (2 * f) * C) ^ p := by rw [mpow (c * (2 * f)) C]; grind
  rw [k1, k2]
  refine uniq2 ?_ ?_
  · rw [D_mul_st, D_mul_st, h1, ← low_cong e1, sA_low hf0 hc, D_sub, D_powp, mpow (c * (2 * f)) C]; grind
  · rw [Ei_p 0 Pr.pos, Ei_p 0 Pr.pos, h2, Ei_sub, E0_st]; grind
theorem raise_high [Pr p] {f b c B C R : Ser p} (hf0 : f ≠ 0) (hc : c ≠ 0) (e1 : sB f b c * C = B * sC f c) (h1 : D R = highS f C B) (h2 : Ei 0 R = 0) :
    R * c ^ p = (highS f c b - (Ei 0 (highS f c b)) ^ p) * C ^ p := by
  have hw : (c * (2 * f)) ^ p ≠ 0 := pow_ne (mul_ne hc (mul_ne two_ne hf0)) p
  refine canc hw ?_
  have e5 : c ^ p * (c * (2 * f)) ^ p = sC f c ^ p := by rw [← sC_p, ← pow_split]
  have k1 : (c * (2 * f)) ^ p * (R * c ^ p) = R * sC f c ^ p := by rw [← e5]; grind
  have k2 : (c * (2 * f)) ^ p * ((highS f c b - (Ei 0 (highS f c b)) ^ p) * C ^ p) = (highS f c b - (Ei 0 (highS f c b)) ^ p) * (c * (2 * f) * C) ^ p := by rw [mpow (c * (2 * f)) C]; grind
  rw [k1, k2]
  refine uniq2 ?_ ?_
  · rw [D_mul_st, D_mul_st, h1, ← high_cong e1, sB_high hf0 hc, D_sub, D_powp, mpow (c * (2 * f)) C]; grind
  · rw [Ei_p 0 Pr.pos, Ei_p 0 Pr.pos, h2, Ei_sub, E0_st]; grind
/-- the slope of a source -/
theorem slope_src [Pr p] {f a b c R S : Ser p} (hc : c ≠ 0) (h1 : D R = lowS c a) (h2 : D S = highS f c b) :
    sA f (R * f ^ hf p) (c ^ p * f ^ hf p) * c = a * sC f (c ^ p * f ^ hf p) ∧ sB f S (c ^ p * f ^ hf p) * c = b * sC f (c ^ p * f ^ hf p) := by
  have z := D_powp c
  have e := D_half f
  have ep := pow_split c
  constructor
  · unfold sA sC
    rw [D_mul, D_mul, z, h1]
    unfold lowS
    grind
  · unfold sB sC
    rw [D_mul, z, h2]
    unfold highS
    have : S * (c ^ p * f ^ hf p) * D f = S * c ^ p * (2 * D (f ^ hf p) * f) := by rw [e]; grind
    rw [this]
    grind
/-- the first part of a source is nought -/
theorem src_low [Pr p] {f c R A C : Ser p} (hf0 : f ≠ 0) (hc : c ≠ 0) (h2 : Ei 0 R = 0) (e1 : (R * f ^ hf p) * C = A * (c ^ p * f ^ hf p)) : Ei 0 (lowS C A) = 0 := by
  have hC0 : c ^ p * f ^ hf p ≠ 0 := mul_ne (pow_ne hc p) (pow_ne hf0 _)
  have := Ei_low e1 (i := 0) Pr.pos
  have e : lowS (c ^ p * f ^ hf p) (R * f ^ hf p) = R * (c ^ (p - 1) * f ^ hf p) ^ p := by
    unfold lowS
    rw [mpow (c ^ p), mpow (c ^ (p - 1)), pow_split (f ^ hf p)]
    have : (c ^ p) ^ (p - 1) = (c ^ (p - 1)) ^ p := by
      rw [pow_mul', pow_mul', Nat.mul_comm]
    rw [this]; grind
  rw [e, Ei_p 0 Pr.pos, h2] at this
  refine canc hC0 ?_
  grind
theorem src_high [Pr p] {f c R A C : Ser p} (hf0 : f ≠ 0) (hc : c ≠ 0) (h2 : Ei 0 R = 0) (e1 : R * C = A * (c ^ p * f ^ hf p)) : Ei 0 (highS f C A) = 0 := by
  have hC0 : c ^ p * f ^ hf p ≠ 0 := mul_ne (pow_ne hc p) (pow_ne hf0 _)
  have := Ei_high (f := f) e1 (i := 0) Pr.pos
  have e : highS f (c ^ p * f ^ hf p) R = R * (c ^ (p - 1) * f ^ hf p) ^ p := by
    unfold highS
    rw [mpow (c ^ p), mpow (c ^ (p - 1)), pow_split (f ^ hf p)]
    have : (c ^ p) ^ (p - 1) = (c ^ (p - 1)) ^ p := by
      rw [pow_mul', pow_mul', Nat.mul_comm]
    rw [this]; grind
  rw [e, Ei_p 0 Pr.pos, h2] at this
  refine canc hC0 ?_
  grind
/-! ### powers of u + v y -/
def qm (f : Ser p) (x y : Ser p × Ser p) : Ser p × Ser p := (x.1 * y.1 + x.2 * y.2 * f, x.1 * y.2 + x.2 * y.1)
def qpow (f : Ser p) (x : Ser p × Ser p) : Nat → Ser p × Ser p
  | 0 => (1, 0)
  | n + 1 => qm f (qpow f x n) x
theorem qm_one (f : Ser p) (x : Ser p × Ser p) : qm f x (1, 0) = x := Prod.ext (by simp only [qm]; grind) (by simp only [qm]; grind)
theorem qm_assoc (f : Ser p) (x y z : Ser p × Ser p) : qm f (qm f x y) z = qm f x (qm f y z) := Prod.ext (by simp only [qm]; grind) (by simp only [qm]; grind)
theorem qpow_add (f : Ser p) (x : Ser p × Ser p) (m : Nat) : ∀ n, qpow f x (m + n) = qm f (qpow f x m) (qpow f x n)
  | 0 => by rw [Nat.add_zero, qpow, qm_one]
  | n + 1 => by rw [← Nat.add_assoc, qpow, qpow_add f x m n, qm_assoc]; rfl
theorem qpow1 (f : Ser p) (x : Ser p × Ser p) : qpow f x 1 = x := Prod.ext (by simp only [qpow, qm]; grind) (by simp only [qpow, qm]; grind)
theorem qfrob [Pr p] (f u v : Ser p) : qpow f (u, v) p = (u ^ p, v ^ p * f ^ ((p - 1) / 2)) := by
  rcases (Pr.h (p := p)) with e | e | e | e <;> subst e
  · have e2 : qpow f (u, v) 2 = (u * u + v * v * f, 2 * u * v) := by rw [show 2 = 1 + 1 by rfl, qpow_add, qpow1]; exact Prod.ext rfl (by simp only [qm]; grind)
    show qpow f (u, v) (2 + 1) = (u ^ 3, v ^ 3 * f ^ 1)
    rw [qpow_add, qpow1, e2]
    exact Prod.ext (by simp only [qm]; grind) (by simp only [qm]; grind)
  · have e2 : qpow f (u, v) 2 = (u * u + v * v * f, 2 * u * v) := by rw [show 2 = 1 + 1 by rfl, qpow_add, qpow1]; exact Prod.ext rfl (by simp only [qm]; grind)
    show qpow f (u, v) (2 + 2 + 1) = (u ^ 5, v ^ 5 * f ^ 2)
    rw [qpow_add, qpow_add, qpow1, e2]
    exact Prod.ext (by simp only [qm]; grind) (by simp only [qm]; grind)
  · have e2 : qpow f (u, v) 2 = (u * u + v * v * f, 2 * u * v) := by rw [show 2 = 1 + 1 by rfl, qpow_add, qpow1]; exact Prod.ext rfl (by simp only [qm]; grind)
    show qpow f (u, v) (2 + 2 + 2 + 1) = (u ^ 7, v ^ 7 * f ^ 3)
    rw [qpow_add, qpow_add, qpow_add, qpow1, e2]
    exact Prod.ext (by simp only [qm]; grind) (by simp only [qm]; grind)
  · have e2 : qpow f (u, v) 2 = (u * u + v * v * f, 2 * u * v) := by rw [show 2 = 1 + 1 by rfl, qpow_add, qpow1]; exact Prod.ext rfl (by simp only [qm]; grind)
    show qpow f (u, v) (2 + 2 + 2 + 2 + 2 + 1) = (u ^ 11, v ^ 11 * f ^ 5)
    rw [qpow_add, qpow_add, qpow_add, qpow_add, qpow_add, qpow1, e2]
    exact Prod.ext (by simp only [qm]; grind) (by simp only [qm]; grind)
end MK
end
section
set_option linter.all false
/-! The laws of lists. -/
namespace MK
open Lean.Grind
variable {p : Nat} [NeZero p]
abbrev T3 := List Int × List Int × List Int
def Nrm (p : Nat) [NeZero p] (t : T3) : Prop := Norm p t.1 t.2.1 t.2.2
def nou (t : T3) : Prop := t.1 = [] ∧ t.2.1 = []
def lowP (p : Nat) [NeZero p] (c a : List Int) : List Int := mulP p a (powP p c (p - 1))
def highP (p : Nat) [NeZero p] (f c b : List Int) : List Int := mulP p (mulP p b (powP p c (p - 1))) (powP p f (hf p))
noncomputable def partP (p : Nat) [NeZero p] (f : List Int) (t : T3) (i : Nat) : T3 :=
  leastP p (mulP p (evyP p (lowP p t.2.2 t.1) i) f) (evyP p (highP p f t.2.2 t.2.1) i) (mulP p t.2.2 f)
def slA (p : Nat) [NeZero p] (f a c : List Int) : List Int := mulP p (subP p (mulP p (fallP p a) c) (mulP p a (fallP p c))) (sclP p f 2)
def slB (p : Nat) [NeZero p] (f b c : List Int) : List Int := addP p (mulP p (subP p (mulP p (fallP p b) c) (mulP p b (fallP p c))) (sclP p f 2)) (mulP p (mulP p b (fallP p f)) c)
def slC (p : Nat) [NeZero p] (f c : List Int) : List Int := mulP p (mulP p c c) (sclP p f 2)
noncomputable def slopeP (p : Nat) [NeZero p] (f : List Int) (t : T3) : T3 := leastP p (slA p f t.1 t.2.2) (slB p f t.2.1 t.2.2) (slC p f t.2.2)
/-- the raised one -/
def Rz (u : Ser p) : Ser p := fun n => match n with
  | 0 => 0
  | n + 1 => fpw ((n + 1 : Nat) : Fin p) (p - 2) * u n
def rsdP (p : Nat) [NeZero p] (a : List Int) : List Int := nf p (a.length + 1) (Rz (sr p a))
noncomputable def sourceP (p : Nat) [NeZero p] (f : List Int) (t : T3) : T3 :=
  leastP p (mulP p (rsdP p (lowP p t.2.2 t.1)) (powP p f (hf p))) (rsdP p (highP p f t.2.2 t.2.1)) (mulP p (strP p t.2.2) (powP p f (hf p)))
noncomputable def plusP (p : Nat) [NeZero p] (t s : T3) : T3 :=
  leastP p (addP p (mulP p t.1 s.2.2) (mulP p s.1 t.2.2)) (addP p (mulP p t.2.1 s.2.2) (mulP p s.2.1 t.2.2)) (mulP p t.2.2 s.2.2)
noncomputable def oppP (p : Nat) [NeZero p] (t : T3) : T3 := leastP p (negP p t.1) (negP p t.2.1) t.2.2
noncomputable def minusP (p : Nat) [NeZero p] (t s : T3) : T3 := plusP p t (oppP p s)
noncomputable def timesP (p : Nat) [NeZero p] (f : List Int) (t s : T3) : T3 :=
  leastP p (addP p (mulP p t.1 s.1) (mulP p (mulP p t.2.1 s.2.1) f)) (addP p (mulP p t.1 s.2.1) (mulP p t.2.1 s.1)) (mulP p t.2.2 s.2.2)
def qpL (p : Nat) [NeZero p] (f a b : List Int) : Nat → List Int × List Int
  | 0 => ([1], [])
  | n + 1 => (addP p (mulP p (qpL p f a b n).1 a) (mulP p (mulP p (qpL p f a b n).2 b) f), addP p (mulP p (qpL p f a b n).1 b) (mulP p (qpL p f a b n).2 a))
noncomputable def powT (p : Nat) [NeZero p] (f : List Int) (t : T3) (n : Nat) : T3 := leastP p (qpL p f t.1 t.2.1 n).1 (qpL p f t.1 t.2.1 n).2 (powP p t.2.2 n)
theorem sr_low (c a : List Int) : sr p (lowP p c a) = lowS (sr p c) (sr p a) := by unfold lowP lowS; rw [sr_mul, sr_pow]
theorem sr_high (f c b : List Int) : sr p (highP p f c b) = highS (sr p f) (sr p c) (sr p b) := by unfold highP highS; rw [sr_mul, sr_mul, sr_pow, sr_pow]
theorem cS2 : (cS ((2 : Int) : Fin p) : Ser p) = 2 := congrArg cS (Ring.intCast_ofNat (α := Fin p) 2)
theorem sr_slA (f a c : List Int) : sr p (slA p f a c) = sA (sr p f) (sr p a) (sr p c) := by
  unfold slA sA; rw [sr_mul, sr_sub, sr_mul, sr_mul, sr_fall, sr_fall, sr_scl, cS2]
theorem sr_slB (f a c : List Int) : sr p (slB p f a c) = sB (sr p f) (sr p a) (sr p c) := by
  unfold slB sB; rw [sr_add, sr_mul, sr_sub, sr_mul, sr_mul, sr_fall, sr_fall, sr_scl, cS2, sr_mul, sr_mul, sr_fall]; grind
theorem sr_slC (f c : List Int) : sr p (slC p f c) = sC (sr p f) (sr p c) := by
  unfold slC sC; rw [sr_mul, sr_mul, sr_scl, cS2]
theorem sC_ne [Pr p] {f c : Ser p} (h : f ≠ 0) (h' : c ≠ 0) : sC f c ≠ 0 := mul_ne (mul_ne h' h') (mul_ne two_ne h)
theorem sr_qpL (f a b : List Int) : ∀ n, (sr p (qpL p f a b n).1, sr p (qpL p f a b n).2) = qpow (sr p f) (sr p a, sr p b) n
  | 0 => by
    show (sr p [1], sr p []) = (1, 0)
    rw [sr_one, sr_nil]
  | n + 1 => by
    have ih := sr_qpL f a b n
    rw [qpow, ← ih]
    unfold qm
    show (sr p (addP p _ _), sr p (addP p _ _)) = _
    rw [sr_add, sr_add, sr_mul, sr_mul, sr_mul, sr_mul, sr_mul]
section
variable [Pr p]
theorem nrm_least (a b : List Int) {c : List Int} (h : sr p c ≠ 0) : Nrm p (leastP p a b c) := leastP_norm a b h
/-- a fraction is nought if its numerators are -/
theorem nou_least {a b c : List Int} (h : sr p c ≠ 0) : nou (leastP p a b c) ↔ sr p a = 0 ∧ sr p b = 0 := by
  have s := leastP_spec a b h
  constructor
  · rintro ⟨e1, e2⟩
    have k1 := s.e1
    have k2 := s.e2
    have n := s.cc.ne s.m.1
    rw [e1, sr_nil] at k1
    rw [e2, sr_nil] at k2
    exact ⟨canc n (by grind), canc n (by grind)⟩
  · rintro ⟨e1, e2⟩
    have k1 := s.e1
    have k2 := s.e2
    rw [e1] at k1
    rw [e2] at k2
    exact ⟨can_nil_of s.ca (canc h (by grind)), can_nil_of s.cb (canc h (by grind))⟩
theorem part_ne {f : List Int} {t : T3} (hf0 : sr p f ≠ 0) (ht : Nrm p t) : sr p (mulP p t.2.2 f) ≠ 0 := by
  rw [sr_mul]; exact mul_ne ht.c0 hf0
theorem nou_part {f : List Int} {t : T3} (hf0 : sr p f ≠ 0) (ht : Nrm p t) (i : Nat) :
    nou (partP p f t i) ↔ Ei i (lowS (sr p t.2.2) (sr p t.1)) = 0 ∧ Ei i (highS (sr p f) (sr p t.2.2) (sr p t.2.1)) = 0 := by
  unfold partP
  rw [nou_least (part_ne hf0 ht), sr_mul, sr_evy, sr_evy, sr_low, sr_high]
  constructor
  · rintro ⟨h1, h2⟩
    exact ⟨(nzd _ _ h1).resolve_right hf0, h2⟩
  · rintro ⟨h1, h2⟩
    rw [h1]
    exact ⟨by grind, h2⟩
/-! the raised one -/
theorem fpw_inv (a : Fin p) (h : a ≠ 0) : a * fpw a (p - 2) = 1 := by
  obtain ⟨b, hb⟩ := fin_inv a h
  have f := fin_fer a
  have e : fpw a p = fpw a (p - 2) * a * a := by
    have : p = (p - 2) + 1 + 1 := by have := Pr.gt (p := p); omega
    have key : ∀ m, fpw a (m + 1 + 1) = fpw a m * a * a := fun m => rfl
    exact (congrArg (fpw a) this).trans (key (p - 2))
  rw [e] at f
  have : fpw a (p - 2) * a * (a * b) = a * b := by rw [← f]; grind
  have hb2 : a * b = 1 := by grind
  rw [hb2] at this
  grind
theorem rz_ok (u : Ser p) (h : Ei (p - 1) u = 0) : D (Rz u) = u ∧ Ei 0 (Rz u) = 0 := by
  have hp := Pr.pos (p := p)
  have z : ∀ n, (n + 1) % p = 0 → u n = 0 := fun n hn => by
    have := congrFun h (n / p)
    rw [Ei_at, zero_at] at this
    have e : n / p * p + (p - 1) = n := by
      have h1 := Nat.div_add_mod n p
      have h2 := Nat.mod_lt n hp
      have h3 := Nat.div_add_mod (n + 1) p
      have h4 : (n + 1) % p = (n % p + 1) % p := by rw [Nat.add_mod, Nat.mod_eq_of_lt (a := 1) (by have := Pr.gt (p := p); omega)]
      rw [hn] at h4
      have h5 : n % p + 1 = p := by
        by_cases hlt : n % p + 1 < p
        · rw [Nat.mod_eq_of_lt hlt] at h4; omega
        · omega
      rw [Nat.mul_comm] at h1; omega
    rw [e] at this; exact this
  constructor
  · refine ser_ext fun n => ?_
    rw [D_at]
    show ((n + 1 : Nat) : Fin p) * (fpw ((n + 1 : Nat) : Fin p) (p - 2) * u n) = u n
    by_cases hn : (n + 1) % p = 0
    · rw [z n hn]; grind
    · have := fpw_inv ((n + 1 : Nat) : Fin p) fun e => hn ((IsCharP.natCast_eq_zero_iff (α := Fin p) p _).mp e)
      rw [← Semiring.mul_assoc, this, Semiring.one_mul]
  · refine ser_ext fun k => ?_
    rw [Ei_at, zero_at, Nat.add_zero]
    cases e : k * p with
    | zero => rfl
    | succ m =>
      show fpw ((m + 1 : Nat) : Fin p) (p - 2) * u m = 0
      rw [z m (by rw [← e]; exact Nat.mul_mod_left k p)]; grind
theorem bd_rz {n : Nat} {u : Ser p} (h : Bd n u) : Bd (n + 1) (Rz u) := fun i hi => by
  obtain ⟨j, rfl⟩ : ∃ j, i = j + 1 := ⟨i - 1, by omega⟩
  show _ * u j = 0
  rw [h j (by omega)]; grind
theorem sr_rsd (a : List Int) : sr p (rsdP p a) = Rz (sr p a) := sr_nf (bd_rz (bd_sr a))
theorem can_rsd (a : List Int) : Can p (rsdP p a) := nf_can _ _
theorem len_rsd (a : List Int) : (rsdP p a).length ≤ a.length + 1 := nf_len _ _
/-! slopes, sources -/
theorem slC_ne {f : List Int} {t : T3} (hf0 : sr p f ≠ 0) (ht : Nrm p t) : sr p (slC p f t.2.2) ≠ 0 := by
  rw [sr_slC]; exact sC_ne hf0 ht.c0
theorem slope_nrm {f : List Int} {t : T3} (hf0 : sr p f ≠ 0) (ht : Nrm p t) : Nrm p (slopeP p f t) := nrm_least _ _ (slC_ne hf0 ht)
theorem slope_spec {f : List Int} {t : T3} (hf0 : sr p f ≠ 0) (ht : Nrm p t) :
    sA (sr p f) (sr p t.1) (sr p t.2.2) * sr p (slopeP p f t).2.2 = sr p (slopeP p f t).1 * sC (sr p f) (sr p t.2.2) ∧
    sB (sr p f) (sr p t.2.1) (sr p t.2.2) * sr p (slopeP p f t).2.2 = sr p (slopeP p f t).2.1 * sC (sr p f) (sr p t.2.2) := by
  have s := leastP_spec (slA p f t.1 t.2.2) (slB p f t.2.1 t.2.2) (slC_ne hf0 ht)
  have h1 := s.e1
  have h2 := s.e2
  rw [sr_slA, sr_slC] at h1
  rw [sr_slB, sr_slC] at h2
  exact ⟨h1, h2⟩
theorem src_ne {f : List Int} {t : T3} (hf0 : sr p f ≠ 0) (ht : Nrm p t) : sr p (mulP p (strP p t.2.2) (powP p f (hf p))) ≠ 0 := by
  rw [sr_mul, sr_str, sr_pow, ← frob_st]
  exact mul_ne (pow_ne ht.c0 _) (pow_ne hf0 _)
theorem src_nrm {f : List Int} {t : T3} (hf0 : sr p f ≠ 0) (ht : Nrm p t) : Nrm p (sourceP p f t) := nrm_least _ _ (src_ne hf0 ht)
theorem src_spec {f : List Int} {t : T3} (hf0 : sr p f ≠ 0) (ht : Nrm p t) :
    (Rz (lowS (sr p t.2.2) (sr p t.1)) * sr p f ^ hf p) * sr p (sourceP p f t).2.2 = sr p (sourceP p f t).1 * (sr p t.2.2 ^ p * sr p f ^ hf p) ∧
    Rz (highS (sr p f) (sr p t.2.2) (sr p t.2.1)) * sr p (sourceP p f t).2.2 = sr p (sourceP p f t).2.1 * (sr p t.2.2 ^ p * sr p f ^ hf p) := by
  have s := leastP_spec (mulP p (rsdP p (lowP p t.2.2 t.1)) (powP p f (hf p))) (rsdP p (highP p f t.2.2 t.2.1)) (src_ne hf0 ht)
  have h1 := s.e1
  have h2 := s.e2
  rw [sr_mul, sr_mul, sr_rsd, sr_low, sr_str, sr_pow, ← frob_st] at h1
  rw [sr_rsd, sr_high, sr_mul, sr_str, sr_pow, ← frob_st] at h2
  exact ⟨h1, h2⟩
/-- the descent is nought -/
def due (p : Nat) [NeZero p] (f : List Int) (t : T3) : Prop := nou (partP p f t (p - 1))
theorem slope_source {f : List Int} {t : T3} (hf0 : sr p f ≠ 0) (ht : Nrm p t) (hd : due p f t) : slopeP p f (sourceP p f t) = t := by
  obtain ⟨d1, d2⟩ := (nou_part hf0 ht _).mp hd
  obtain ⟨r1, _⟩ := rz_ok _ d1
  obtain ⟨r2, _⟩ := rz_ok _ d2
  obtain ⟨s1, s2⟩ := src_spec hf0 ht
  have hs := src_nrm hf0 ht
  obtain ⟨k1, k2⟩ := slope_src ht.c0 r1 r2 (f := sr p f) (a := sr p t.1) (b := sr p t.2.1)
  have c1 := sA_cong (f := sr p f) s1
  have c2 := sB_cong (f := sr p f) s2
  have hC : sr p t.2.2 ^ p * sr p f ^ hf p ≠ 0 := mul_ne (pow_ne ht.c0 _) (pow_ne hf0 _)
  have n1 := sC_ne hf0 hC
  have e : slopeP p f (sourceP p f t) = leastP p t.1 t.2.1 t.2.2 := by
    refine leastP_cong (slC_ne hf0 hs) ht.c0 ?_ ?_
    · rw [sr_slA, sr_slC]
      refine canc n1 ?_
      grind
    · rw [sr_slB, sr_slC]
      refine canc n1 ?_
      grind
  rw [e, ht.least]
theorem part_source {f : List Int} {t : T3} (hf0 : sr p f ≠ 0) (ht : Nrm p t) (hd : due p f t) : nou (partP p f (sourceP p f t) 0) := by
  obtain ⟨d1, d2⟩ := (nou_part hf0 ht _).mp hd
  obtain ⟨_, r1⟩ := rz_ok _ d1
  obtain ⟨_, r2⟩ := rz_ok _ d2
  obtain ⟨s1, s2⟩ := src_spec hf0 ht
  exact (nou_part hf0 (src_nrm hf0 ht) 0).mpr ⟨src_low hf0 ht.c0 r1 s1, src_high hf0 ht.c0 r2 s2⟩
theorem due_slope {f : List Int} {t : T3} (hf0 : sr p f ≠ 0) (ht : Nrm p t) : due p f (slopeP p f t) := by
  obtain ⟨s1, s2⟩ := slope_spec hf0 ht
  have hs := slope_nrm hf0 ht
  exact (nou_part hf0 hs _).mpr (fall_nought hf0 ht.c0 hs.c0 s1 s2)
/-! powers, differences -/
theorem powT_ne {t : T3} (ht : Nrm p t) (n : Nat) : sr p (powP p t.2.2 n) ≠ 0 := by rw [sr_pow]; exact pow_ne ht.c0 _
theorem powT_nrm (f : List Int) {t : T3} (ht : Nrm p t) (n : Nat) : Nrm p (powT p f t n) := nrm_least _ _ (powT_ne ht n)
theorem opp_nrm {t : T3} (ht : Nrm p t) : Nrm p (oppP p t) := nrm_least _ _ ht.c0
theorem plus_ne {t s : T3} (ht : Nrm p t) (hs : Nrm p s) : sr p (mulP p t.2.2 s.2.2) ≠ 0 := by rw [sr_mul]; exact mul_ne ht.c0 hs.c0
theorem plus_nrm {t s : T3} (ht : Nrm p t) (hs : Nrm p s) : Nrm p (plusP p t s) := nrm_least _ _ (plus_ne ht hs)
theorem part_nrm {f : List Int} {t : T3} (hf0 : sr p f ≠ 0) (ht : Nrm p t) (i : Nat) : Nrm p (partP p f t i) := nrm_least _ _ (part_ne hf0 ht)
theorem minus_nrm {t s : T3} (ht : Nrm p t) (hs : Nrm p s) : Nrm p (minusP p t s) := plus_nrm ht (opp_nrm hs)
theorem times_nrm (f : List Int) {t s : T3} (ht : Nrm p t) (hs : Nrm p s) : Nrm p (timesP p f t s) := nrm_least _ _ (plus_ne ht hs)
theorem plus_spec {t s : T3} (ht : Nrm p t) (hs : Nrm p s) :
    (sr p t.1 * sr p s.2.2 + sr p s.1 * sr p t.2.2) * sr p (plusP p t s).2.2 = sr p (plusP p t s).1 * (sr p t.2.2 * sr p s.2.2) ∧
    (sr p t.2.1 * sr p s.2.2 + sr p s.2.1 * sr p t.2.2) * sr p (plusP p t s).2.2 = sr p (plusP p t s).2.1 * (sr p t.2.2 * sr p s.2.2) := by
  have s := leastP_spec (addP p (mulP p t.1 s.2.2) (mulP p s.1 t.2.2)) (addP p (mulP p t.2.1 s.2.2) (mulP p s.2.1 t.2.2)) (plus_ne ht hs)
  have h1 := s.e1
  have h2 := s.e2
  rw [sr_add, sr_mul, sr_mul, sr_mul] at h1 h2
  exact ⟨h1, h2⟩
theorem join_a {f c γ z Qz Oz U u0 a R x Qx Ox : Ser p} (hf0 : f ≠ 0) (hc : c ≠ 0) (hz : z ≠ 0) (hQ : Qz ≠ 0) (hU : U = lowS c a) (k1 : R * c ^ p = (U - u0 ^ p) * γ ^ p)
    (p1 : u0 * f * z = x * (c * f)) (q1 : x ^ p * Qz = Qx * z ^ p) (o1 : -Qx * Oz = Ox * Qz) (m : Nat) : R * f ^ m * (c * Oz) = (a * Oz + Ox * c) * (γ ^ p * f ^ m) := by
  have p1' : u0 * z = x * c := canc hf0 (by grind)
  have p2 : u0 ^ p * z ^ p = x ^ p * c ^ p := by rw [← mpow, ← mpow, p1']
  have A : Ox * c ^ p = -(u0 ^ p * Oz) := by
    refine canc (mul_ne hQ (pow_ne hz p)) ?_
    have e1 : Qz * z ^ p * (Ox * c ^ p) = (Ox * Qz) * z ^ p * c ^ p := by grind
    rw [e1, ← o1]
    have e2 : -Qx * Oz * z ^ p * c ^ p = -(Qx * z ^ p) * Oz * c ^ p := by grind
    rw [e2, ← q1]
    have e3 : -(x ^ p * Qz) * Oz * c ^ p = -(x ^ p * c ^ p) * Qz * Oz := by grind
    rw [e3, ← p2]
    grind
  have eU : U * c = a * c ^ p := by rw [hU, pow_split c]; unfold lowS; grind
  refine canc (pow_ne hc p) ?_
  have e1 : c ^ p * (R * f ^ m * (c * Oz)) = (R * c ^ p) * f ^ m * c * Oz := by grind
  rw [e1, k1]
  have e2 : (U - u0 ^ p) * γ ^ p * f ^ m * c * Oz = (U * c - u0 ^ p * c) * γ ^ p * f ^ m * Oz := by grind
  rw [e2, eU]
  have e3 : c ^ p * ((a * Oz + Ox * c) * (γ ^ p * f ^ m)) = (a * c ^ p * Oz + (Ox * c ^ p) * c) * (γ ^ p * f ^ m) := by grind
  rw [e3, A]
  grind
theorem join_b {f c γ z Qz Oz H h0 b S y Qy Oy : Ser p} (hf0 : f ≠ 0) (hc : c ≠ 0) (hz : z ≠ 0) (hQ : Qz ≠ 0) (hH : H = highS f c b) (k2 : S * c ^ p = (H - h0 ^ p) * γ ^ p)
    (p2 : h0 * z = y * (c * f)) (q2 : y ^ p * f ^ ((p - 1) / 2) * Qz = Qy * z ^ p) (o2 : -Qy * Oz = Oy * Qz) : S * (c * Oz) = (b * Oz + Oy * c) * (γ ^ p * f ^ hf p) := by
  have p3 : h0 ^ p * z ^ p = y ^ p * (c ^ p * f ^ p) := by rw [← mpow, ← mpow, ← mpow, p2]
  have hm := half_mul f
  have A : Oy * f ^ hf p * c ^ p = -(h0 ^ p * Oz) := by
    refine canc (mul_ne hQ (pow_ne hz p)) ?_
    have e1 : Qz * z ^ p * (Oy * f ^ hf p * c ^ p) = (Oy * Qz) * z ^ p * f ^ hf p * c ^ p := by grind
    rw [e1, ← o2]
    have e2 : -Qy * Oz * z ^ p * f ^ hf p * c ^ p = -(Qy * z ^ p) * Oz * f ^ hf p * c ^ p := by grind
    rw [e2, ← q2]
    have e3 : -(y ^ p * f ^ ((p - 1) / 2) * Qz) * Oz * f ^ hf p * c ^ p = -(y ^ p * (c ^ p * (f ^ hf p * f ^ ((p - 1) / 2)))) * Qz * Oz := by grind
    rw [e3, hm, ← p3]
    grind
  have eH : H * c = b * c ^ p * f ^ hf p := by rw [hH, pow_split c]; unfold highS; grind
  refine canc (pow_ne hc p) ?_
  have e1 : c ^ p * (S * (c * Oz)) = (S * c ^ p) * c * Oz := by grind
  rw [e1, k2]
  have e2 : (H - h0 ^ p) * γ ^ p * c * Oz = (H * c - h0 ^ p * c) * γ ^ p * Oz := by grind
  rw [e2, eH]
  have e3 : c ^ p * ((b * Oz + Oy * c) * (γ ^ p * f ^ hf p)) = (b * c ^ p * f ^ hf p * Oz + (Oy * f ^ hf p * c ^ p) * c) * γ ^ p := by grind
  rw [e3, A]
  grind
theorem source_slope {f : List Int} {t : T3} (hf0 : sr p f ≠ 0) (ht : Nrm p t) : sourceP p f (slopeP p f t) = minusP p t (powT p f (partP p f t 0) p) := by
  obtain ⟨s1, s2⟩ := slope_spec hf0 ht
  have hs := slope_nrm hf0 ht
  obtain ⟨d1, d2⟩ := fall_nought hf0 ht.c0 hs.c0 s1 s2
  obtain ⟨r1, z1⟩ := rz_ok _ d1
  obtain ⟨r2, z2⟩ := rz_ok _ d2
  have k1 := raise_low hf0 ht.c0 s1 r1 z1
  have k2 := raise_high hf0 ht.c0 s2 r2 z2
  -- the first part
  have hP := part_nrm hf0 ht 0
  have sp := leastP_spec (mulP p (evyP p (lowP p t.2.2 t.1) 0) f) (evyP p (highP p f t.2.2 t.2.1) 0) (part_ne hf0 ht)
  have p1 := sp.e1
  have p2 := sp.e2
  rw [sr_mul, sr_evy, sr_low, sr_mul] at p1
  rw [sr_evy, sr_high, sr_mul] at p2
  -- its power
  have hQ := powT_nrm f hP p
  have sq := leastP_spec (qpL p f (partP p f t 0).1 (partP p f t 0).2.1 p).1 (qpL p f (partP p f t 0).1 (partP p f t 0).2.1 p).2 (powT_ne hP p)
  have q1 := sq.e1
  have q2 := sq.e2
  have qq := sr_qpL (p := p) f (partP p f t 0).1 (partP p f t 0).2.1 p
  rw [qfrob] at qq
  have qa := congrArg Prod.fst qq
  have qb := congrArg Prod.snd qq
  rw [show sr p (qpL p f (partP p f t 0).1 (partP p f t 0).2.1 p).1 = _ from qa, sr_pow] at q1
  rw [show sr p (qpL p f (partP p f t 0).1 (partP p f t 0).2.1 p).2 = _ from qb, sr_pow] at q2
  -- its opposite
  have hO := opp_nrm hQ
  have so := leastP_spec (negP p (powT p f (partP p f t 0) p).1) (negP p (powT p f (partP p f t 0) p).2.1) hQ.c0
  have o1 := so.e1
  have o2 := so.e2
  rw [sr_neg] at o1 o2
  unfold minusP
  have hS := src_ne hf0 hs
  refine leastP_cong hS (plus_ne ht hO) ?_ ?_
  · rw [sr_mul, sr_rsd, sr_low, sr_pow, sr_mul, sr_add, sr_mul, sr_mul, sr_mul, sr_str, sr_pow, ← frob_st]
    exact join_a hf0 ht.c0 hP.c0 hQ.c0 rfl k1 p1 q1 o1 _
  · rw [sr_rsd, sr_high, sr_mul, sr_add, sr_mul, sr_mul, sr_mul, sr_str, sr_pow, ← frob_st]
    exact join_b hf0 ht.c0 hP.c0 hQ.c0 rfl k2 p2 q2 o2
end
end MK
end
section
set_option linter.all false
set_option maxRecDepth 100000
/-! The law's written examples. -/
namespace MK
open Lean.Grind
instance pr3 : Pr 3 := ⟨.inl rfl⟩
instance pr5 : Pr 5 := ⟨.inr (.inl rfl)⟩
instance pr7 : Pr 7 := ⟨.inr (.inr (.inl rfl))⟩
instance pr11 : Pr 11 := ⟨.inr (.inr (.inr rfl))⟩
variable {p : Nat} [NeZero p]
def canB (p : Nat) (l : List Int) : Bool := l.all (fun x => decide (0 ≤ x) && decide (x < (p : Int))) && decide (cut0 l = l)
theorem canB_ok {l : List Int} (h : canB p l = true) : Can p l := by
  unfold canB at h
  simp only [Bool.and_eq_true, List.all_eq_true, decide_eq_true_eq] at h
  exact ⟨h.1, h.2⟩
/-- a common divisor 1 -/
theorem gcd_one [Pr p] {a b s t : List Int} (h : addP p (mulP p s a) (mulP p t b) = [1]) : gcdP p a b = [1] := by
  have e : sr p s * sr p a + sr p t * sr p b = 1 := by rw [← sr_mul, ← sr_mul, ← sr_add, h, sr_one]
  refine gcdP_eq ⟨can_one, ?_⟩ (.inr ⟨by simp, by rw [sr_one]; rfl⟩)
  rw [sr_one]
  exact ⟨pl_1, ⟨sr p s, sr p t, pl_sr _, pl_sr _, e.symm⟩, ⟨sr p a, pl_sr _, by grind⟩, ⟨sr p b, pl_sr _, by grind⟩⟩
theorem nf_chk [Pr p] {A B C a b c s t u : List Int} (ca : canB p a = true) (cb : canB p b = true) (cc : canB p c = true) (m : c ≠ [] ∧ sr p c (c.length - 1) = 1)
    (bz : addP p (addP p (mulP p s a) (mulP p t b)) (mulP p u c) = [1]) (e1 : mulP p A c = mulP p a C) (e2 : mulP p B c = mulP p b C) (hC : sr p C ≠ 0) : leastP p A B C = (a, b, c) := by
  refine leastP_eq hC ⟨canB_ok ca, canB_ok cb, canB_ok cc, m, ⟨sr p s, sr p t, sr p u, pl_sr _, pl_sr _, pl_sr _, ?_⟩, ?_, ?_⟩
  · rw [← sr_mul, ← sr_mul, ← sr_mul, ← sr_add, ← sr_add, bz, sr_one]
  · rw [← sr_mul, ← sr_mul, e1]
  · rw [← sr_mul, ← sr_mul, e2]
theorem due_chk [Pr p] {f : List Int} {t : T3} (hf0 : sr p f ≠ 0) (ht : Nrm p t) (h1 : evyP p (lowP p t.2.2 t.1) (p - 1) = []) (h2 : evyP p (highP p f t.2.2 t.2.1) (p - 1) = []) : due p f t := by
  unfold due
  rw [nou_part hf0 ht, ← sr_low, ← sr_high, ← sr_evy, ← sr_evy, h1, h2, sr_nil]
  exact ⟨rfl, rfl⟩
theorem gcd_b3 : gcdP 3 [0, 2, 0, 1] (fallP 3 [0, 2, 0, 1]) = [1] := gcd_one (s := []) (t := [2]) (by decide +kernel)
theorem gcd_b11 : gcdP 11 [1, 1, 0, 1] (fallP 11 [1, 1, 0, 1]) = [1] := gcd_one (s := [3, 9]) (t := [9, 10, 8]) (by decide +kernel)
theorem can_b3 : Can 3 [0, 2, 0, 1] := canB_ok (by decide +kernel)
theorem can_b11 : Can 11 [1, 1, 0, 1] := canB_ok (by decide +kernel)
theorem ne_b3 : sr 3 [0, 2, 0, 1] ≠ 0 := can_b3.ne (by simp)
/-! the four functions on the bent curve -/
theorem t_back : leastP 3 [] [1] [0, 2, 0, 1] = ([], [1], [0, 2, 0, 1]) := nf_chk (s := []) (t := [1]) (u := []) (by decide +kernel) (by decide +kernel) (by decide +kernel) (by decide +kernel) (by decide +kernel) rfl rfl ne_b3
theorem t_y : leastP 3 [] [1] [1] = ([], [1], [1]) := nf_chk (s := []) (t := []) (u := [1]) (by decide +kernel) (by decide +kernel) (by decide +kernel) (by decide +kernel) (by decide +kernel) rfl rfl (can_one.ne (by simp))
theorem t_0 : leastP 3 [] [] [1] = ([], [], [1]) := nf_chk (s := []) (t := []) (u := [1]) (by decide +kernel) (by decide +kernel) (by decide +kernel) (by decide +kernel) (by decide +kernel) rfl rfl (can_one.ne (by simp))
theorem t_2 : leastP 3 [2, 2] [] [1] = ([2, 2], [], [1]) := nf_chk (s := []) (t := []) (u := [1]) (by decide +kernel) (by decide +kernel) (by decide +kernel) (by decide +kernel) (by decide +kernel) rfl rfl (can_one.ne (by simp))
theorem n_of {A B C a b c : List Int} (hC : sr 3 C ≠ 0) (h : leastP 3 A B C = (a, b, c)) : Nrm 3 (a, b, c) := by rw [← h]; exact nrm_least _ _ hC
theorem n_back : Nrm 3 ([], [1], [0, 2, 0, 1]) := n_of ne_b3 t_back
theorem n_y : Nrm 3 ([], [1], [1]) := n_of (can_one.ne (by simp)) t_y
theorem n_0 : Nrm 3 ([], [], [1]) := n_of (can_one.ne (by simp)) t_0
theorem n_2 : Nrm 3 ([2, 2], [], [1]) := n_of (can_one.ne (by simp)) t_2
theorem d_back : due 3 [0, 2, 0, 1] ([], [1], [0, 2, 0, 1]) := due_chk ne_b3 n_back (by decide +kernel) (by decide +kernel)
theorem d_0 : due 3 [0, 2, 0, 1] ([], [], [1]) := due_chk ne_b3 n_0 (by decide +kernel) (by decide +kernel)
theorem d_2 : due 3 [0, 2, 0, 1] ([2, 2], [], [1]) := due_chk ne_b3 n_2 (by decide +kernel) (by decide +kernel)
theorem d_y : ¬ due 3 [0, 2, 0, 1] ([], [1], [1]) := fun h => by
  unfold due at h
  rw [nou_part ne_b3 n_y, ← sr_high, ← sr_evy] at h
  exact absurd (can_nil_of (can_evy _ _) h.2) (by decide +kernel)
theorem s_back : sourceP 3 [0, 2, 0, 1] ([], [1], [0, 2, 0, 1]) = ([], [1, 0, 1], [1, 0, 1, 0, 1]) := nf_chk (s := []) (t := [0, 0, 2]) (u := [1]) (by decide +kernel) (by decide +kernel) (by decide +kernel) (by decide +kernel) (by decide +kernel) (by decide +kernel) (by decide +kernel) (src_ne ne_b3 n_back)
theorem s_0 : sourceP 3 [0, 2, 0, 1] ([], [], [1]) = ([], [], [1]) := nf_chk (s := []) (t := []) (u := [1]) (by decide +kernel) (by decide +kernel) (by decide +kernel) (by decide +kernel) (by decide +kernel) (by decide +kernel) (by decide +kernel) (src_ne ne_b3 n_0)
theorem s_2 : sourceP 3 [0, 2, 0, 1] ([2, 2], [], [1]) = ([0, 2, 1], [], [1]) := nf_chk (s := []) (t := []) (u := [1]) (by decide +kernel) (by decide +kernel) (by decide +kernel) (by decide +kernel) (by decide +kernel) (by decide +kernel) (by decide +kernel) (src_ne ne_b3 n_2)
end MK
end
section
set_option Elab.async false
set_option linter.all false
set_option maxRecDepth 100000
namespace KH
open PySem PySem.Spec PyProof.Rows L2 DL
open MK hiding D X
/-- names that are free or known -/
structure Bi (K : PySem.W.Frag) (mg : Str → Option Value) (cc ff : Addr) : Prop where
  int_ : mg "int" = none
  bool_ : mg "bool" = none
  list : mg "list" = none
  len : mg "len" = none
  range : mg "range" = none
  enumerate : mg "enumerate" = none
  max : mg "max" = none
  min : mg "min" = none
  abs : mg "abs" = none
  repr : mg "repr" = none
  sum : mg "sum" = none
  isinstance : mg "isinstance" = none
  Curve : mg "Curve" = some (.ref cc)
  Function : mg "Function" = some (.ref ff)
  MOST_POWER : ∃ t, mg "MOST_POWER" = some (.int 60 t)
  MOST_EXPONENT : ∃ t, mg "MOST_EXPONENT" = some (.int 20 t)
  PR : ∃ pr, mg "PRIMES" = some (.ref pr) ∧ ∀ H, SqT K H pr ([3, 5, 7, 11, 13].map V.int)
  C : InsOk K cc
  F : InsOk K ff
  C_prime : NoAttr K cc "_prime"
  C_polynomial : NoAttr K cc "_polynomial"
  F_curve : NoAttr K ff "_curve"
  F_parts : NoAttr K ff "_parts"
/-- where a def stands -/
def At (K : PySem.W.Frag) (mg : Str → Option Value) (key x : Str) (st : Stmt) : Prop := ∃ f fd, FunD K x x (defArgs st) (defBody st) (defScope st) [] [] f fd ∧ mg key = some (.ref f)
def AtM (K : PySem.W.Frag) (cl : Addr) (m qual : Str) (st : Stmt) : Prop := ∃ f fd, FunD K m qual (defArgs st) (defBody st) (defScope st) [] [] f fd ∧ PySem.W.findIn K (.ref cl) m = some (some (.ref f)) ∧ PySem.W.isFn K (.ref f) = true
def blkB (N : List Str) (sc scope : Scope) (own : List (Str × Nat)) : Bool :=
  decide (scope.kind = ScopeKind.function) && scope.names.all (fun y => decide (scope.names.lookup y.1 = some y.2)) && own.all (fun p => decide (N[p.2]? = some p.1)) &&
  scope.names.all (fun y => !decide (y.2 = NameKind.free) || (decide (sc.names.lookup y.1 = some NameKind.cell) || decide (sc.names.lookup y.1 = some NameKind.free))) &&
  scope.names.all (fun y => !(decide (y.2 = NameKind.local) || decide (y.2 = NameKind.cell)) || (decide (y.1 ∈ own.map (·.1)) || !decide (y.1 ∈ N)))
theorem blkOk {N : List Str} {sc scope : Scope} {own : List (Str × Nat)} (h : blkB N sc scope own = true) : BlkOk N sc scope own := by
  unfold blkB at h
  simp only [Bool.and_eq_true, List.all_eq_true, decide_eq_true_eq, Bool.or_eq_true, Bool.not_eq_true', decide_eq_false_iff_not, Bool.or_eq_false_iff] at h
  obtain ⟨⟨⟨⟨h1, h2⟩, h3⟩, h4⟩, h5⟩ := h
  refine ⟨h1, h2, h3, fun y hy e => (h4 y hy).resolve_left fun z => z e, fun y hy e => ?_⟩
  rcases h5 y hy with z | z
  · rcases e with e | e
    · exact absurd e z.1
    · exact absurd e z.2
  · exact z
/-! ### contracts -/
def cF {α : Type} (ar : α → List D) (pre : α → Prop) (res : α → D → Prop) : Con := fun ds n Φ => ∃ a, ds = ar a ∧ pre a ∧ ∀ d, res a d → Φ d n
theorem mon_cF {α : Type} {ar : α → List D} {pre : α → Prop} {res : α → D → Prop} : MonC (cF ar pre res) := fun _ _ _ _ h ⟨a, e, p, q⟩ => ⟨a, e, p, fun d r => h _ _ (q d r)⟩
theorem len_cF {α : Type} {ar : α → List D} {pre : α → Prop} {res : α → D → Prop} {m : Nat} (h : ∀ a, (ar a).length = m) : ∀ ds n Φ, cF ar pre res ds n Φ → ds.length = m := fun _ _ _ ⟨a, e, _⟩ => e ▸ h a
abbrev Pp := { p : Nat // Pr p }
instance (q : Pp) : Pr q.1 := q.2
instance {p : Nat} [Pr p] : NeZero p := ⟨by rcases (Pr.h (p := p)) with h | h | h | h <;> omega⟩
abbrev lim : Nat := 1000000
/-- small entries -/
def Sm (l : List Int) : Prop := ∀ x ∈ l, -2 ^ 64 < x ∧ x < 2 ^ 64
abbrev I (i : Int) : D := .int i
abbrev T (t : T3) : D := .tup [L t.1, L t.2.1, L t.2.2]
theorem pp_lt (q : Pp) : 2 < q.1 ∧ q.1 < 12 := ⟨Pr.gt, Pr.lt⟩
theorem Can.sm {p : Nat} [Pr p] {l : List Int} (h : Can p l) : Sm l := fun x hx => by
  have := h.r x hx
  have := Pr.lt (p := p)
  omega
def k_is_whole : Con := cF (fun i : Int => [I i]) (fun _ => True) (fun _ d => d = .bl true)
def k_is_between : Con := cF (fun a : Int × Int × Int => [I a.1, I a.2.1, I a.2.2]) (fun _ => True) (fun a d => d = .bl (decide (a.2.1 ≤ a.1) && decide (a.1 ≤ a.2.2)))
def k_check_number : Con := cF (fun a : Int × Int × Int => [I a.1, I a.2.1, I a.2.2]) (fun a => a.2.1 ≤ a.1 ∧ a.1 ≤ a.2.2) (fun _ d => d = .non)
def k_check_prime : Con := cF (fun q : Pp => [I q.1]) (fun _ => True) (fun _ d => d = .non)
def k_is_poly_list : Con := cF (fun a : Pp × List Int => [I a.1.1, L a.2]) (fun a => Can a.1.1 a.2 ∧ a.2.length ≤ 61) (fun _ d => d = .bl true)
def k_check_poly : Con := cF (fun a : Pp × List Int => [I a.1.1, L a.2]) (fun a => Can a.1.1 a.2 ∧ a.2.length ≤ 61) (fun _ d => d = .non)
def k_inverse : Con := cF (fun a : Pp × Int => [I a.1.1, I a.2]) (fun a => a.2 % (a.1.1 : Int) ≠ 0) (fun a d => ∃ r : Int, d = .int r ∧ 0 < r ∧ r < (a.1.1 : Int) ∧ r * a.2 % (a.1.1 : Int) = 1)
def k_trimmed : Con := cF (fun a : Pp × List Int => [I a.1.1, L a.2]) (fun a => a.2.length ≤ 2 * lim) (fun a d => d = L (trm a.1.1 a.2))
def k_added : Con := cF (fun a : Pp × List Int × List Int => [I a.1.1, L a.2.1, L a.2.2]) (fun a => a.2.1.length ≤ lim ∧ a.2.2.length ≤ lim) (fun a d => d = L (addP a.1.1 a.2.1 a.2.2))
def k_negated : Con := cF (fun a : Pp × List Int => [I a.1.1, L a.2]) (fun a => a.2.length ≤ lim) (fun a d => d = L (negP a.1.1 a.2))
def k_lessened : Con := cF (fun a : Pp × List Int × List Int => [I a.1.1, L a.2.1, L a.2.2]) (fun a => a.2.1.length ≤ lim ∧ a.2.2.length ≤ lim) (fun a d => d = L (subP a.1.1 a.2.1 a.2.2))
def k_scaled : Con := cF (fun a : Pp × List Int × Int => [I a.1.1, L a.2.1, I a.2.2]) (fun a => a.2.1.length ≤ lim ∧ -2 ^ 64 < a.2.2 ∧ a.2.2 < 2 ^ 64) (fun a d => d = L (sclP a.1.1 a.2.1 a.2.2))
def k_multiplied : Con := cF (fun a : Pp × List Int × List Int => [I a.1.1, L a.2.1, L a.2.2]) (fun a => a.2.1.length ≤ lim ∧ a.2.2.length ≤ lim ∧ Sm a.2.1) (fun a d => d = L (mulP a.1.1 a.2.1 a.2.2))
def k_power_of_polys : Con := cF (fun a : Pp × List Int × Nat => [I a.1.1, L a.2.1, I a.2.2]) (fun a => (a.2.2 + 1) * a.2.1.length ≤ lim - 1 ∧ a.2.2 ≤ 100) (fun a d => d = L (powP a.1.1 a.2.1 a.2.2))
/-! ### steps of simp -/
theorem wMul_i (i j : Int) (n : Nat) (Φ : DK) : wMul (.int i) (.int j) n Φ = (CMul i j ∧ Φ (.int (i * j)) n) := rfl
theorem rep_map (k : Nat) (x : Int) : (List.replicate k [D.int x]).flatten = (List.replicate k x).map D.int := by
  induction k with
  | zero => rfl
  | succ k ih => rw [List.replicate_succ, List.flatten_cons, ih, List.replicate_succ]; rfl
theorem wMul_l (x k : Int) (n : Nat) (Φ : DK) : wMul (.lst [.int x]) (.int k) n Φ = ((-(2 ^ 62) < k ∧ k ≤ 10000000) ∧ Φ (.lst ((List.replicate k.toNat x).map D.int)) n) := by
  show ((-(2 ^ 62) < k ∧ k < 2 ^ 62) ∧ [D.int x].length * k.toNat ≤ 10000000 ∧ Φ (.lst (List.replicate k.toNat [D.int x]).flatten) n) = _
  rw [rep_map, List.length_singleton, Nat.one_mul]
  refine propext ⟨fun ⟨a, b, c⟩ => ⟨⟨a.1, by omega⟩, c⟩, fun ⟨a, c⟩ => ⟨⟨a.1, by omega⟩, by omega, c⟩⟩
def wRepF (x y : D) (n : Nat) (Φ : List D → Nat → Prop) : Prop := match x, y with
  | .lst as, .int k => (-(2 ^ 62) < k ∧ k < 2 ^ 62) ∧ as.length * k.toNat ≤ 10000000 ∧ Φ (List.replicate k.toNat as).flatten n
  | _, _ => False
theorem fRep_e (ta tb : DT) (ρ : List Sl) (n : Nat) (Φ : List D → Nat → Prop) : fRep ta tb ρ n Φ = ta ρ n fun x n1 => tb ρ n1 fun y n2 => wRepF x y n2 Φ := rfl
theorem wRepF_l (x k : Int) (n : Nat) (Φ : List D → Nat → Prop) : wRepF (.lst [.int x]) (.int k) n Φ = ((-(2 ^ 62) < k ∧ k ≤ 10000000) ∧ Φ ((List.replicate k.toNat x).map D.int) n) := by
  show ((-(2 ^ 62) < k ∧ k < 2 ^ 62) ∧ [D.int x].length * k.toNat ≤ 10000000 ∧ Φ (List.replicate k.toNat [D.int x]).flatten n) = _
  rw [rep_map, List.length_singleton, Nat.one_mul]
  refine propext ⟨fun ⟨a, b, c⟩ => ⟨⟨a.1, by omega⟩, c⟩, fun ⟨a, c⟩ => ⟨⟨a.1, by omega⟩, by omega, c⟩⟩
theorem wAdd_i (i j : Int) (n : Nat) (Φ : DK) : wAdd (.int i) (.int j) n Φ = Φ (.int (i + j)) n := propext Iff.rfl
theorem wAdd_l (a b : List D) (n : Nat) (Φ : DK) : wAdd (.lst a) (.lst b) n Φ = (a.length + b.length ≤ 10000000 ∧ Φ (.lst (a ++ b)) n) := propext Iff.rfl
theorem dLst_e (τ : DTF) (ρ : List Sl) (n : Nat) (Φ : List D → Nat → Prop) : dLst τ ρ n Φ = τ ρ n fun ds n1 => ds.length ≤ 10000000 ∧ Φ ds n1 := propext Iff.rfl
theorem dTup_e (τ : DTF) (ρ : List Sl) (n : Nat) (Φ : DK) : dTup τ ρ n Φ = τ ρ n fun ds n1 => ds.length ≤ 10000000 ∧ Φ (.tup ds) n1 := propext Iff.rfl
theorem dLc_e (τ : DTF) (γ : DG) (tt : DTB) (te : DT) (vs : List Nat) (ρ : List Sl) (n : Nat) (Φ : List D → Nat → Prop) : dLc τ γ tt te vs ρ n Φ = τ ρ n fun its n1 => its.length ≤ 10000000 ∧ lcW (lcS γ tt te (wipeS ρ vs)) its [] n1 Φ := propext Iff.rfl
theorem kLen_l (xs : List D) (n : Nat) (Φ : DK) : kLen [.lst xs] n Φ = Φ (.int (xs.length : Int)) n := propext Iff.rfl
theorem kLen_t (xs : List D) (n : Nat) (Φ : DK) : kLen [.tup xs] n Φ = Φ (.int (xs.length : Int)) n := propext Iff.rfl
theorem kLen_s (xs : List Int) (n : Nat) (Φ : DK) : kLen [.scr xs] n Φ = Φ (.int (xs.length : Int)) n := propext Iff.rfl
theorem kInt_i (i : Int) (n : Nat) (Φ : DK) : kInt [.int i] n Φ = Φ (.int i) n := propext Iff.rfl
theorem kMax_i (i j : Int) (n : Nat) (Φ : DK) : kMax [.int i, .int j] n Φ = Φ (.int (max i j)) n := propext Iff.rfl
theorem kMin3_i (i j l : Int) (n : Nat) (Φ : DK) : kMin3 [.int i, .int j, .int l] n Φ = Φ (.int (min (min i j) l)) n := propext Iff.rfl
theorem kAbs_i (i : Int) (n : Nat) (Φ : DK) : kAbs [.int i] n Φ = Φ (.int (i.natAbs : Int)) n := propext Iff.rfl
theorem kRepr_b (b : Bool) (n : Nat) (Φ : DK) : kRepr [.bl b] n Φ = Φ (.str (if b then "True" else "False")) n := propext Iff.rfl
theorem kSum_l (xs : List Int) (n : Nat) (Φ : DK) (h : Φ (.int xs.sum) n) : kSum [.lst (xs.map D.int)] n Φ := ⟨xs, rfl, h⟩
theorem wSub_i (i j : Int) (n : Nat) (Φ : DK) : wSub (.int i) (.int j) n Φ = Φ (.int (i - j)) n := propext Iff.rfl
theorem wMod_i (i j : Int) (n : Nat) (Φ : DK) : wMod (.int i) (.int j) n Φ = (0 < j ∧ Φ (.int (i % j)) n) := propext Iff.rfl
theorem wFdiv_i (i j : Int) (n : Nat) (Φ : DK) : wFdiv (.int i) (.int j) n Φ = ((0 < j ∧ j < 1073741824) ∧ Φ (.int (i / j)) n) := propext Iff.rfl
theorem wPow_i (i j : Int) (n : Nat) (Φ : DK) : wPow (.int i) (.int j) n Φ = (CPowB i j ∧ Φ (.int (i ^ j.toNat)) n) := propext Iff.rfl
theorem wLt_i (i j : Int) (n : Nat) (Φ : DK) : wLt (.int i) (.int j) n Φ = Φ (.bl (decide (i < j))) n := propext Iff.rfl
theorem wLe_i (i j : Int) (n : Nat) (Φ : DK) : wLe (.int i) (.int j) n Φ = Φ (.bl (decide (i ≤ j))) n := propext Iff.rfl
theorem wGt_i (i j : Int) (n : Nat) (Φ : DK) : wGt (.int i) (.int j) n Φ = Φ (.bl (decide (j < i))) n := propext Iff.rfl
theorem wGe_i (i j : Int) (n : Nat) (Φ : DK) : wGe (.int i) (.int j) n Φ = Φ (.bl (decide (j ≤ i))) n := propext Iff.rfl
theorem wIsN_n (x : D) (n : Nat) (Φ : DK) : wIsN x .non n Φ = Φ (.bl (isNo x)) n := propext Iff.rfl
theorem wNotN_n (x : D) (n : Nat) (Φ : DK) : wNotN x .non n Φ = Φ (.bl (!isNo x)) n := propext Iff.rfl
theorem wIsB_b (i j : Bool) (n : Nat) (Φ : DK) : wIsB (.bl i) (.bl j) n Φ = Φ (.bl (decide (i = j))) n := propext Iff.rfl
theorem wNotB_b (i j : Bool) (n : Nat) (Φ : DK) : wNotB (.bl i) (.bl j) n Φ = Φ (.bl (!decide (i = j))) n := propext Iff.rfl
theorem wEq_i (i j : Int) (n : Nat) (Φ : DK) : wEq (.int i) (.int j) n Φ = Φ (.bl (decide (i = j))) n := propext Iff.rfl
theorem wNe_i (i j : Int) (n : Nat) (Φ : DK) : wNe (.int i) (.int j) n Φ = Φ (.bl (!decide (i = j))) n := propext Iff.rfl
theorem wNe_b (i j : Bool) (n : Nat) (Φ : DK) : wNe (.bl i) (.bl j) n Φ = Φ (.bl (!decide (i = j))) n := propext Iff.rfl
theorem wNe_s (i j : Str) (n : Nat) (Φ : DK) : wNe (.str i) (.str j) n Φ = Φ (.bl (!decide (i = j))) n := propext Iff.rfl
theorem plainL_ints : ∀ a : List Int, plainL (a.map D.int) = true
  | [] => rfl
  | x :: xs => by simp only [List.map_cons, plainL, DL.plain, plainL_ints xs, Bool.and_self]
theorem depL_ints : ∀ a : List Int, depL (a.map D.int) = 0
  | [] => rfl
  | x :: xs => by simp only [List.map_cons, depL, dep, depL_ints xs, Nat.max_self]
theorem eqDL_ints : ∀ a b : List Int, eqDL (a.map D.int) (b.map D.int) = decide (a = b)
  | [], [] => by simp [eqDL]
  | [], y :: ys => by simp [eqDL]
  | x :: xs, [] => by simp [eqDL]
  | x :: xs, y :: ys => by
    simp only [List.map_cons, eqDL, eqD, eqDL_ints xs ys, List.cons.injEq, Bool.decide_and]
    rfl
theorem okEq_L (a b : List Int) : okEq (.lst (a.map D.int)) (.lst (b.map D.int)) := by
  unfold okEq
  simp only [DL.plain, plainL_ints, dep, depL_ints]
  exact ⟨trivial, trivial, by omega, by omega⟩
theorem wEq_L (a b : List Int) (n : Nat) (Φ : DK) : wEq (.lst (a.map D.int)) (.lst (b.map D.int)) n Φ = Φ (.bl (decide (a = b))) n := by
  show (okEq (.lst (a.map D.int)) (.lst (b.map D.int)) ∧ Φ (.bl (eqDL (a.map D.int) (b.map D.int))) n) = _
  rw [eqDL_ints]
  exact propext ⟨fun h => h.2, fun h => ⟨okEq_L a b, h⟩⟩
theorem wNe_L (a b : List Int) (n : Nat) (Φ : DK) : wNe (.lst (a.map D.int)) (.lst (b.map D.int)) n Φ = Φ (.bl (!decide (a = b))) n := by
  show (okEq (.lst (a.map D.int)) (.lst (b.map D.int)) ∧ Φ (.bl (!eqDL (a.map D.int) (b.map D.int))) n) = _
  rw [eqDL_ints]
  exact propext ⟨fun h => h.2, fun h => ⟨okEq_L a b, h⟩⟩
theorem wEq_L0 (a : List Int) (n : Nat) (Φ : DK) : wEq (.lst (a.map D.int)) (.lst []) n Φ = Φ (.bl (decide (a = []))) n := wEq_L a [] n Φ
theorem wNe_L0 (a : List Int) (n : Nat) (Φ : DK) : wNe (.lst (a.map D.int)) (.lst []) n Φ = Φ (.bl (!decide (a = []))) n := wNe_L a [] n Φ
theorem atI_ints {a : List Int} {i : Int} {x : Int} (h : atI a i = some x) : atI (a.map D.int) i = some (.int x) := atI_map h
theorem wIx_l (xs : List D) (i : Int) (n : Nat) (Φ : DK) : wIx (.lst xs) (.int i) n Φ = ∃ d, atI xs i = some d ∧ Φ d n := propext Iff.rfl
theorem wIx_t (xs : List D) (i : Int) (n : Nat) (Φ : DK) : wIx (.tup xs) (.int i) n Φ = ∃ d, atI xs i = some d ∧ Φ d n := propext Iff.rfl
theorem wIx_s (xs : List Int) (i : Int) (n : Nat) (Φ : DK) : wIx (.scr xs) (.int i) n Φ = ∃ d, atI xs i = some d ∧ Φ (.int d) n := propext Iff.rfl
def nNeg (d : D) (n : Nat) (Φ : DK) : Prop := match d with
  | .int i => Φ (.int (-i)) n
  | _ => False
theorem dNeg_e (ta : DT) (ρ : List Sl) (n : Nat) (Φ : DK) : dNeg ta ρ n Φ = ta ρ n fun d n1 => nNeg d n1 Φ := propext Iff.rfl
theorem nNeg_i (i : Int) (n : Nat) (Φ : DK) : nNeg (.int i) n Φ = Φ (.int (-i)) n := propext Iff.rfl
theorem nx_mk (a : List Sl → Nat → Prop) (b : DK) : DN.nx ⟨a, b⟩ = a := rfl
theorem rt_mk (a : List Sl → Nat → Prop) (b : DK) : DN.rt ⟨a, b⟩ = b := rfl
theorem hu_of {k : Nat} {A : Around} (hr : Room k A) : A.units + 64 < cLine := by have := hr.un; omega
theorem hu1_of {k : Nat} {A : Around} (hr : Room k A) : A.units + 1 < cLine := by have := hr.un; omega
end KH
end
section
set_option Elab.async false
set_option linter.all false
set_option maxRecDepth 100000
namespace KH
open PySem PySem.Spec PyProof.Rows L2 DL
open MK hiding D X
/-! ### comprehensions over lists of ints -/
theorem lcW_map {step : D → Nat → (Option D → Nat → Prop) → Prop} {α : Type} (f g : α → D) (as : List α) {n : Nat} {Φ : List D → Nat → Prop} (hs : ∀ a ∈ as, ∀ n (Ψ : Option D → Nat → Prop), Ψ (some (g a)) n → step (f a) n Ψ) (h : Φ (as.map g) n) : lcW step (as.map f) [] n Φ := by
  have key : ∀ (as : List α) (acc : List D), (∀ a ∈ as, ∀ n (Ψ : Option D → Nat → Prop), Ψ (some (g a)) n → step (f a) n Ψ) → Φ (acc ++ as.map g) n → lcW step (as.map f) acc n Φ := by
    intro as
    induction as with
    | nil => intro acc _ h; show Φ acc n; simpa using h
    | cons a as ih =>
      intro acc hs h
      refine hs a (by simp) n _ ?_
      exact ih (acc ++ [g a]) (fun b hb => hs b (by simp [hb])) (by simpa using h)
  exact key as [] hs (by simpa using h)
theorem lcW_ints {step : D → Nat → (Option D → Nat → Prop) → Prop} (h : Int → Int) {xs : List Int} {n : Nat} {Φ : List D → Nat → Prop} (hs : ∀ x ∈ xs, ∀ n (Ψ : Option D → Nat → Prop), Ψ (some (.int (h x))) n → step (.int x) n Ψ) (q : Φ ((xs.map h).map D.int) n) : lcW step (xs.map D.int) [] n Φ :=
  lcW_map D.int (fun x => .int (h x)) xs hs (by rw [List.map_map] at q; exact q)
theorem lcW_rng {step : D → Nat → (Option D → Nat → Prop) → Prop} {lo : Int} {k : Nat} (h : Nat → D) {n : Nat} {Φ : List D → Nat → Prop} (hs : ∀ i, i < k → ∀ n (Ψ : Option D → Nat → Prop), Ψ (some (h i)) n → step (.int (lo + (i : Int))) n Ψ) (q : Φ ((List.range k).map h) n) : lcW step (rng lo k) [] n Φ :=
  lcW_map (fun i : Nat => D.int (lo + (i : Int))) h (List.range k) (fun a ha => hs a (List.mem_range.mp ha)) q
theorem lcW_fil {step : D → Nat → (Option D → Nat → Prop) → Prop} (q : D → Bool) {ds : List D} {n : Nat} {Φ : List D → Nat → Prop} (hs : ∀ d ∈ ds, ∀ n (Ψ : Option D → Nat → Prop), Ψ (if q d then some d else none) n → step d n Ψ) (h : Φ (ds.filter q) n) : lcW step ds [] n Φ := by
  refine lcW_fm (fun d => if q d then some d else none) ds [] n Φ hs ?_
  have : ds.filterMap (fun d => if q d then some d else none) = ds.filter q := by
    rw [← List.filterMap_eq_filter]; rfl
  rw [this]; simpa using h
theorem enm_ints (xs : List Int) : enm (xs.map D.int) = (xs.mapIdx fun i x => (i, x)).map fun q => D.tup [.int (q.1 : Int), .int q.2] := by
  unfold enm
  refine List.ext_getElem (by simp) fun i h1 h2 => by simp
theorem lcW_enm {step : D → Nat → (Option D → Nat → Prop) → Prop} (h : Nat → Int → Int) {xs : List Int} {n : Nat} {Φ : List D → Nat → Prop} (hs : ∀ (i : Nat) (x : Int), xs[i]? = some x → ∀ n (Ψ : Option D → Nat → Prop), Ψ (some (.int (h i x))) n → step (.tup [.int (i : Int), .int x]) n Ψ)
    (q : Φ ((xs.mapIdx h).map D.int) n) : lcW step (enm (xs.map D.int)) [] n Φ := by
  rw [enm_ints]
  refine lcW_map _ (fun q => .int (h q.1 q.2)) _ (fun a ha => ?_) ?_
  · obtain ⟨i, hi, rfl⟩ := List.mem_iff_getElem.mp ha
    simp only [List.length_mapIdx] at hi
    simp only [List.getElem_mapIdx]
    exact hs i _ (List.getElem?_eq_getElem hi)
  · have : (xs.mapIdx fun i x => (i, x)).map (fun q => D.int (h q.1 q.2)) = (xs.mapIdx h).map D.int := List.ext_getElem (by simp) fun i h1 h2 => by simp
    rw [this]; exact q
/-! ### uses of contracts -/
section
variable {p : Nat} [hp : Pr p] {n : Nat} {Φ : DK}
theorem u_is_whole {i : Int} (h : Φ (.bl true) n) : k_is_whole [I i] n Φ := ⟨i, rfl, trivial, fun _ e => e ▸ h⟩
theorem u_is_between {v lo hi : Int} (h : Φ (.bl (decide (lo ≤ v) && decide (v ≤ hi))) n) : k_is_between [I v, I lo, I hi] n Φ := ⟨(v, lo, hi), rfl, trivial, fun _ e => e ▸ h⟩
theorem u_check_number {v lo hi : Int} (h1 : lo ≤ v ∧ v ≤ hi) (h : Φ .non n) : k_check_number [I v, I lo, I hi] n Φ := ⟨(v, lo, hi), rfl, h1, fun _ e => e ▸ h⟩
theorem u_check_prime (h : Φ .non n) : k_check_prime [I p] n Φ := ⟨⟨p, hp⟩, rfl, trivial, fun _ e => e ▸ h⟩
theorem u_is_poly_list {xs : List Int} (h1 : Can p xs ∧ xs.length ≤ 61) (h : Φ (.bl true) n) : k_is_poly_list [I p, L xs] n Φ := ⟨(⟨p, hp⟩, xs), rfl, h1, fun _ e => e ▸ h⟩
theorem u_check_poly {xs : List Int} (h1 : Can p xs ∧ xs.length ≤ 61) (h : Φ .non n) : k_check_poly [I p, L xs] n Φ := ⟨(⟨p, hp⟩, xs), rfl, h1, fun _ e => e ▸ h⟩
theorem u_inverse {x : Int} (h1 : x % (p : Int) ≠ 0) (h : ∀ r : Int, 0 < r → r < p → r * x % p = 1 → Φ (.int r) n) : k_inverse [I p, I x] n Φ := ⟨(⟨p, hp⟩, x), rfl, h1, fun _ ⟨r, e, a, b, c⟩ => e ▸ h r a b c⟩
theorem u_trimmed {xs : List Int} (h1 : xs.length ≤ 2 * lim) (h : Φ (L (trm p xs)) n) : k_trimmed [I p, L xs] n Φ := ⟨(⟨p, hp⟩, xs), rfl, h1, fun _ e => e ▸ h⟩
theorem u_added {xs ys : List Int} (h1 : xs.length ≤ lim ∧ ys.length ≤ lim) (h : Φ (L (addP p xs ys)) n) : k_added [I p, L xs, L ys] n Φ := ⟨(⟨p, hp⟩, xs, ys), rfl, h1, fun _ e => e ▸ h⟩
theorem u_negated {xs : List Int} (h1 : xs.length ≤ lim) (h : Φ (L (negP p xs)) n) : k_negated [I p, L xs] n Φ := ⟨(⟨p, hp⟩, xs), rfl, h1, fun _ e => e ▸ h⟩
theorem u_lessened {xs ys : List Int} (h1 : xs.length ≤ lim ∧ ys.length ≤ lim) (h : Φ (L (subP p xs ys)) n) : k_lessened [I p, L xs, L ys] n Φ := ⟨(⟨p, hp⟩, xs, ys), rfl, h1, fun _ e => e ▸ h⟩
theorem u_scaled {xs : List Int} {k : Int} (h1 : xs.length ≤ lim ∧ -2 ^ 64 < k ∧ k < 2 ^ 64) (h : Φ (L (sclP p xs k)) n) : k_scaled [I p, L xs, I k] n Φ := ⟨(⟨p, hp⟩, xs, k), rfl, h1, fun _ e => e ▸ h⟩
theorem u_multiplied {xs ys : List Int} (h1 : xs.length ≤ lim ∧ ys.length ≤ lim ∧ Sm xs) (h : Φ (L (mulP p xs ys)) n) : k_multiplied [I p, L xs, L ys] n Φ := ⟨(⟨p, hp⟩, xs, ys), rfl, h1, fun _ e => e ▸ h⟩
theorem u_power_of_polys {xs : List Int} {k : Nat} (h1 : (k + 1) * xs.length ≤ lim - 1 ∧ k ≤ 100) (h : Φ (L (powP p xs k)) n) : k_power_of_polys [I p, L xs, I k] n Φ := ⟨(⟨p, hp⟩, xs, k), rfl, h1, fun _ e => e ▸ h⟩
end
/-! ### lists -/
theorem cut0_last {l : List Int} (e : l ≠ []) (h : l.getLast e ≠ 0) : cut0 l = l := by
  induction l with
  | nil => exact absurd rfl e
  | cons x xs ih =>
    by_cases hx : xs = []
    · subst hx
      rw [List.getLast_singleton] at h
      rw [cut0, if_neg (fun z => h z.2)]; rfl
    · rw [List.getLast_cons hx] at h
      rw [cut0, ih hx h, if_neg (fun z => hx z.1)]
theorem cut0_drop {l : List Int} (e : l ≠ []) (h : l.getLast e = 0) : cut0 l.dropLast = cut0 l := by
  induction l with
  | nil => exact absurd rfl e
  | cons x xs ih =>
    by_cases hx : xs = []
    · subst hx
      rw [List.getLast_singleton] at h
      rw [h]; rfl
    · rw [List.getLast_cons hx] at h
      rw [List.dropLast_cons_of_ne_nil hx, cut0, cut0, ih hx h]
theorem atI_last {l : List Int} (e : l ≠ []) : atI l (-1) = some (l.getLast e) := by
  have := List.length_pos_iff.mpr e
  have e1 : ixN l.length (-1) = some (l.length - 1) := by
    unfold ixN
    rw [if_neg (by omega), if_pos (by omega)]
    congr 1
    omega
  unfold atI
  rw [e1, List.getLast_eq_getElem]
  exact List.getElem?_eq_getElem _
theorem atI_nat {α : Type} {l : List α} {i : Nat} {x : α} (h : l[i]? = some x) : atI l (i : Int) = some x := by
  have hi := (List.getElem?_eq_some_iff.mp h).1
  have e1 : ixN l.length (i : Int) = some i := by
    unfold ixN
    rw [if_pos (by omega), if_pos (by omega), Int.toNat_natCast]
  unfold atI
  rw [e1]
  exact h
theorem wNe_00 (n : Nat) (Φ : DK) : wNe (.lst []) (.lst []) n Φ = Φ (.bl false) n := wNe_L [] [] n Φ
theorem inv_ex {p : Nat} [Pr p] (x : Int) (h : x % (p : Int) ≠ 0) : ∃ r : Int, 0 < r ∧ r < p ∧ r * x % p = 1 := by
  have hx : (x : Fin p) ≠ 0 := fun z => by
    rw [← cast0, MK.cast_eq] at z
    exact h (by simpa using z)
  obtain ⟨b, hb⟩ := fin_inv _ hx
  have e : ((fv b * x : Int) : Fin p) = ((1 : Int) : Fin p) := by
    rw [Lean.Grind.Ring.intCast_mul, cast_fv, hb]
    exact (Lean.Grind.Ring.intCast_one (α := Fin p)).symm
  rw [MK.cast_eq] at e
  have pg := Pr.gt (p := p)
  rw [Int.emod_eq_of_lt (a := 1) (by omega) (by omega)] at e
  have := fv_lt b
  refine ⟨fv b, ?_, this.2, e⟩
  by_cases h0 : fv b = 0
  · rw [h0] at e; simp at e
  · omega
end KH
end
section
set_option Elab.async false
set_option linter.all false
set_option maxRecDepth 100000
namespace KH
open PySem PySem.Spec PyProof.Rows L2 DL
open MK hiding D X cast_eq
section
variable {γ : DG} {tb : DS} {E : DN} {ρ : List Sl} {n : Nat}
theorem forW_enm (I : Nat → List Sl → Nat → Prop) {xs : List Int} (h0 : I 0 ρ n)
    (hs : ∀ (i : Nat) (x : Int) ρ n (N : List Sl → Nat → Prop), xs[i]? = some x → I i ρ n → (∀ ρ n, I (i + 1) ρ n → N ρ n) → γ (.tup [.int (i : Int), .int x]) ρ n fun ρ' n' => tb ⟨N, E.rt⟩ ρ' n') (hd : ∀ ρ n, I xs.length ρ n → E.nx ρ n) : forW γ tb E (enm (xs.map D.int)) ρ n := by
  refine forW_inv I h0 (fun i d ρ n N hd hi hN => ?_) (fun ρ n h => hd ρ n (by rw [enm_len, List.length_map] at h; exact h))
  obtain ⟨x, hx, rfl⟩ := enm_get hd
  rw [List.getElem?_map] at hx
  cases hy : xs[i]? with
  | none => rw [hy] at hx; cases hx
  | some y =>
    rw [hy] at hx
    cases hx
    exact hs i y ρ n N hy hi hN
theorem forW_rng (I : Nat → List Sl → Nat → Prop) {lo : Int} {k : Nat} (h0 : I 0 ρ n)
    (hs : ∀ (i : Nat) ρ n (N : List Sl → Nat → Prop), i < k → I i ρ n → (∀ ρ n, I (i + 1) ρ n → N ρ n) → γ (.int (lo + (i : Int))) ρ n fun ρ' n' => tb ⟨N, E.rt⟩ ρ' n') (hd : ∀ ρ n, I k ρ n → E.nx ρ n) : forW γ tb E (rng lo k) ρ n := by
  refine forW_inv I h0 (fun i d ρ n N hd hi hN => ?_) (fun ρ n h => hd ρ n (by rw [rng_len] at h; exact h))
  obtain ⟨hk, rfl⟩ := rng_get hd
  exact hs i ρ n N hk hi hN
theorem forW_rngD (I : Nat → List Sl → Nat → Prop) {lo : Int} {k : Nat} (h0 : I 0 ρ n)
    (hs : ∀ (i : Nat) ρ n (N : List Sl → Nat → Prop), i < k → I i ρ n → (∀ ρ n, I (i + 1) ρ n → N ρ n) → γ (.int (lo + (i : Int) * (-1))) ρ n fun ρ' n' => tb ⟨N, E.rt⟩ ρ' n') (hd : ∀ ρ n, I k ρ n → E.nx ρ n) : forW γ tb E (rngD lo k) ρ n := by
  refine forW_inv I h0 (fun i d ρ n N hd hi hN => ?_) (fun ρ n h => hd ρ n (by rw [rngD_len] at h; exact h))
  obtain ⟨hk, rfl⟩ := rngD_get hd
  exact hs i ρ n N hk hi hN
end
/-! ### lists as series -/
section
variable {p : Nat} [Pr p]
theorem getD_pad (xs : List Int) (k i : Nat) : (xs ++ List.replicate k 0).getD i 0 = xs.getD i 0 := by
  rw [List.getD_eq_getElem?_getD, List.getD_eq_getElem?_getD, List.getElem?_append]
  split
  · rfl
  · rename_i h
    rw [List.getElem?_eq_none (by omega : xs.length ≤ i), List.getElem?_replicate]
    split <;> rfl
theorem sr_rangeMap (N : Nat) (g : Nat → Int) (i : Nat) : sr p ((List.range N).map g) i = if i < N then ((g i : Int) : Fin p) else 0 := by
  rw [sr_at, List.getD_eq_getElem?_getD, List.getElem?_map]
  split
  · rename_i h; rw [List.getElem?_range h]; rfl
  · rename_i h; rw [List.getElem?_eq_none (by simp; omega)]; exact cast0
theorem sr_map (h : Int → Int) (h0 : h 0 = 0) (xs : List Int) (i : Nat) : sr p (xs.map h) i = ((h (xs.getD i 0) : Int) : Fin p) := by
  rw [sr_at, List.getD_eq_getElem?_getD, List.getD_eq_getElem?_getD, List.getElem?_map]
  cases xs[i]? with
  | none => show ((0 : Int) : Fin p) = ((h 0 : Int) : Fin p); rw [h0]
  | some x => rfl
theorem trm_add (xs ys : List Int) : trm p ((List.range (max xs.length ys.length)).map fun i => xs.getD i 0 + ys.getD i 0) = addP p xs ys := by
  unfold trm addP
  rw [List.length_map, List.length_range]
  congr 1
  refine ser_ext fun i => ?_
  rw [sr_rangeMap, add_at]
  split
  · rw [Lean.Grind.Ring.intCast_add]; rfl
  · rw [bd_sr xs i (by omega), bd_sr ys i (by omega)]; grind
theorem trm_neg (xs : List Int) : trm p (xs.map fun x => 0 - x) = negP p xs := by
  unfold trm negP
  rw [List.length_map]
  congr 1
  refine ser_ext fun i => ?_
  rw [sr_map _ (by omega), neg_at, sr_at, Int.zero_sub, Lean.Grind.Ring.intCast_neg]
theorem trm_scl (xs : List Int) (k : Int) : trm p (xs.map fun x => x * k) = sclP p xs k := by
  unfold trm sclP
  rw [List.length_map]
  congr 1
  refine ser_ext fun i => ?_
  rw [sr_map _ (by omega), cS_mul, sm_at, sr_at, Lean.Grind.Ring.intCast_mul]; grind
/-- one place -/
def pl (k : Nat) (c : Fin p) : Ser p := cS c * (MK.X : Ser p) ^ k
theorem pl_at (k : Nat) (c : Fin p) (i : Nat) : pl k c i = if i = k then c else 0 := by
  unfold pl
  have : cS c * (MK.X : Ser p) ^ k = (MK.X : Ser p) ^ k * cS c := by grind
  rw [this, X_pow, shk_at]
  by_cases h : i < k
  · rw [if_pos h, if_neg (by omega)]
  · rw [if_neg h]
    by_cases e : i = k
    · subst e; rw [if_pos rfl, Nat.sub_self]; rfl
    · rw [if_neg e]
      obtain ⟨j, hj⟩ : ∃ j, i - k = j + 1 := ⟨i - k - 1, by omega⟩
      rw [hj, cS_s]
theorem sr_set {zs : List Int} {k : Nat} (hk : k < zs.length) (v : Int) : sr p (zs.set k v) = sr p zs + pl k (((v - zs.getD k 0 : Int) : Fin p)) := by
  refine ser_ext fun i => ?_
  rw [add_at, pl_at, sr_at, sr_at, List.getD_eq_getElem?_getD, List.getD_eq_getElem?_getD, List.getElem?_set]
  by_cases e : k = i
  · subst e
    rw [if_pos rfl, if_pos hk, if_pos rfl, List.getD_eq_getElem?_getD, Lean.Grind.Ring.intCast_sub]
    show ((v : Int) : Fin p) = _
    grind
  · rw [if_neg e, if_neg (fun z => e z.symm)]
    grind
theorem sr_take {xs : List Int} {i : Nat} {x : Int} (h : xs[i]? = some x) : sr p (xs.take (i + 1)) = sr p (xs.take i) + pl i ((x : Int) : Fin p) := by
  have hi := (List.getElem?_eq_some_iff.mp h).1
  refine ser_ext fun j => ?_
  rw [add_at, pl_at, sr_at, sr_at, List.getD_eq_getElem?_getD, List.getD_eq_getElem?_getD, List.getElem?_take, List.getElem?_take]
  by_cases e : j = i
  · subst e
    rw [if_pos (by omega), if_neg (by omega), if_pos rfl, h]
    show ((x : Int) : Fin p) = ((0 : Int) : Fin p) + _
    rw [cast0]; grind
  · rw [if_neg e]
    by_cases hj : j < i
    · rw [if_pos (by omega), if_pos hj]; grind
    · rw [if_neg (by omega), if_neg hj]; grind
theorem pl_mul (i j : Nat) (c d : Fin p) : pl i c * pl j d = pl (i + j) (c * d) := by
  unfold pl
  rw [← cS_mulc, Lean.Grind.Semiring.pow_add]; grind
theorem pl_add (i : Nat) (c d : Fin p) : pl i c + pl i d = pl i (c + d) := by
  unfold pl
  rw [cS_add]; grind
theorem sr_zeros (k : Nat) : sr p (List.replicate k 0) = 0 := by
  refine ser_ext fun i => ?_
  rw [sr_at, zero_at, List.getD_eq_getElem?_getD, List.getElem?_replicate]
  split <;> exact cast0
theorem trm_mul {xs ys zs : List Int} (hl : xs.length + ys.length ≤ zs.length + 1) (e : sr p zs = sr p xs * sr p ys) : trm p zs = mulP p xs ys :=
  can_eq (can_trm _) (can_mul _ _) (by rw [sr_trm, sr_mul, e])
end
end KH
end
section
set_option Elab.async false
set_option linter.all false
set_option maxRecDepth 100000
namespace KH
open PySem PySem.Spec PyProof.Rows L2 DL
open MK hiding D X cast_eq
def CurveOk (p : Nat) [Pr p] (f : List Int) : Prop := Can p f ∧ (f.length = 2 ∨ f.length = 4 ∨ f.length = 6 ∨ f.length = 8) ∧ atI f (-1) = some 1 ∧ gcdP p f (fallP p f) = [1]
abbrev lig : Nat := 200000
def k_parted : Con := cF (fun a : Pp × List Int × List Int => [I a.1.1, L a.2.1, L a.2.2]) (fun a => a.2.1.length ≤ lim ∧ a.2.2.length ≤ lim ∧ Can a.1.1 a.2.2 ∧ a.2.2 ≠ []) (fun a d => d = .tup [L (quoP a.1.1 a.2.1 a.2.2), L (remP a.1.1 a.2.1 a.2.2)])
def k_whole_part : Con := cF (fun a : Pp × List Int × List Int => [I a.1.1, L a.2.1, L a.2.2]) (fun a => a.2.1.length ≤ lim ∧ a.2.2.length ≤ lim ∧ Can a.1.1 a.2.2 ∧ a.2.2 ≠ []) (fun a d => d = L (quoP a.1.1 a.2.1 a.2.2))
def k_common_with : Con := cF (fun a : Pp × List Int × List Int => [I a.1.1, L a.2.1, L a.2.2]) (fun a => a.2.1.length ≤ lig ∧ a.2.2.length ≤ lig ∧ Can a.1.1 a.2.1 ∧ Can a.1.1 a.2.2) (fun a d => ∃ s t : List Int, d = .tup [L (gcdP a.1.1 a.2.1 a.2.2), L s, L t])
def k_common_of : Con := cF (fun a : Pp × List Int × List Int => [I a.1.1, L a.2.1, L a.2.2]) (fun a => a.2.1.length ≤ lig ∧ a.2.2.length ≤ lig ∧ Can a.1.1 a.2.1 ∧ Can a.1.1 a.2.2) (fun a d => d = L (gcdP a.1.1 a.2.1 a.2.2))
def k_slope_of : Con := cF (fun a : Pp × List Int => [I a.1.1, L a.2]) (fun a => a.2.length ≤ lim) (fun a d => d = L (fallP a.1.1 a.2))
def k_is_curve_poly : Con := cF (fun a : Pp × List Int => [I a.1.1, L a.2]) (fun a => CurveOk a.1.1 a.2) (fun a d => d = .bl true)
def k_every : Con := cF (fun a : Pp × List Int × Nat => [I a.1.1, L a.2.1, I a.2.2]) (fun a => a.2.1.length ≤ lim ∧ a.2.2 < a.1.1) (fun a d => d = L (evyP a.1.1 a.2.1 a.2.2))
def k_stretched : Con := cF (fun a : Pp × List Int => [I a.1.1, L a.2]) (fun a => a.1.1 * a.2.length ≤ lim ∧ Can a.1.1 a.2) (fun a d => d = L (strP a.1.1 a.2))
def k_raised_source : Con := cF (fun a : Pp × List Int => [I a.1.1, L a.2]) (fun a => a.2.length ≤ lim ∧ Can a.1.1 a.2 ∧ Ei (a.1.1 - 1) (sr a.1.1 a.2) = 0) (fun a d => d = L (rsdP a.1.1 a.2))
section
variable {p : Nat} [hp : Pr p] {n : Nat} {Φ : DK}
theorem u_parted {a b : List Int} (h1 : a.length ≤ lim ∧ b.length ≤ lim ∧ Can p b ∧ b ≠ []) (h : Φ (.tup [L (quoP p a b), L (remP p a b)]) n) : k_parted [I p, L a, L b] n Φ := ⟨(⟨p, hp⟩, a, b), rfl, h1, fun _ e => e ▸ h⟩
theorem u_whole_part {a b : List Int} (h1 : a.length ≤ lim ∧ b.length ≤ lim ∧ Can p b ∧ b ≠ []) (h : Φ (L (quoP p a b)) n) : k_whole_part [I p, L a, L b] n Φ := ⟨(⟨p, hp⟩, a, b), rfl, h1, fun _ e => e ▸ h⟩
theorem u_common_with {a b : List Int} (h1 : a.length ≤ lig ∧ b.length ≤ lig ∧ Can p a ∧ Can p b) (h : ∀ s t : List Int, Φ (.tup [L (gcdP p a b), L s, L t]) n) : k_common_with [I p, L a, L b] n Φ := ⟨(⟨p, hp⟩, a, b), rfl, h1, fun _ ⟨s, t, e⟩ => e ▸ h s t⟩
theorem u_common_of {a b : List Int} (h1 : a.length ≤ lig ∧ b.length ≤ lig ∧ Can p a ∧ Can p b) (h : Φ (L (gcdP p a b)) n) : k_common_of [I p, L a, L b] n Φ := ⟨(⟨p, hp⟩, a, b), rfl, h1, fun _ e => e ▸ h⟩
theorem u_slope_of {a : List Int} (h1 : a.length ≤ lim) (h : Φ (L (fallP p a)) n) : k_slope_of [I p, L a] n Φ := ⟨(⟨p, hp⟩, a), rfl, h1, fun _ e => e ▸ h⟩
theorem u_is_curve_poly {f : List Int} (h1 : CurveOk p f) (h : Φ (.bl true) n) : k_is_curve_poly [I p, L f] n Φ := ⟨(⟨p, hp⟩, f), rfl, h1, fun _ e => e ▸ h⟩
theorem u_every {a : List Int} {i : Nat} (h1 : a.length ≤ lim ∧ i < p) (h : Φ (L (evyP p a i)) n) : k_every [I p, L a, I i] n Φ := ⟨(⟨p, hp⟩, a, i), rfl, h1, fun _ e => e ▸ h⟩
theorem u_stretched {a : List Int} (h1 : p * a.length ≤ lim ∧ Can p a) (h : Φ (L (strP p a)) n) : k_stretched [I p, L a] n Φ := ⟨(⟨p, hp⟩, a), rfl, h1, fun _ e => e ▸ h⟩
theorem u_raised_source {a : List Int} (h1 : a.length ≤ lim ∧ Can p a ∧ Ei (p - 1) (sr p a) = 0) (h : Φ (L (rsdP p a)) n) : k_raised_source [I p, L a] n Φ := ⟨(⟨p, hp⟩, a), rfl, h1, fun _ e => e ▸ h⟩
end
section
variable {p : Nat} [Pr p]
theorem len_quo (a : List Int) {b : List Int} (hb : Can p b) (h0 : b ≠ []) : (quoP p a b).length ≤ a.length + 1 - b.length := (div_spec a hb h0).2
theorem len_rem (a : List Int) {b : List Int} (hb : Can p b) (h0 : b ≠ []) : (remP p a b).length < b.length ∧ (remP p a b).length ≤ a.length := by
  have s := (div_spec a hb h0).1
  refine ⟨s.l, ?_⟩
  by_cases h : b.length ≤ a.length
  · have := s.l; omega
  · have q0 : quoP p a b = [] := by
      have := len_quo a hb h0
      exact List.length_eq_zero_iff.mp (by omega)
    have e := s.e
    rw [q0, sr_nil] at e
    refine s.cr.len_le ?_
    have : sr p (remP p a b) = sr p a := by rw [e]; grind
    rw [this]; exact bd_sr a
theorem len_mul0 {a : List Int} (b : List Int) (h : a = []) : (mulP p a b).length = 0 := by
  have : mulP p a b = [] := can_nil_of (can_mul _ _) (by rw [sr_mul, h, sr_nil]; grind)
  rw [this]; rfl
theorem cast_inv {r x : Int} (h : r * x % (p : Int) = 1) : ((r : Int) : Fin p) * ((x : Int) : Fin p) = 1 := by
  have pg := Pr.gt (p := p)
  rw [← Lean.Grind.Ring.intCast_mul]
  have : ((r * x : Int) : Fin p) = ((1 : Int) : Fin p) := MK.cast_eq.mpr (by rw [h, Int.emod_eq_of_lt (by omega) (by omega)])
  rw [this]
  exact Lean.Grind.Ring.intCast_one (α := Fin p)
theorem scl_monic {l : List Int} (hl : Can p l) (h0 : l ≠ []) {r : Int} (h : r * l.getLast h0 % (p : Int) = 1) : Mo p (sclP p l r) ∧ (sclP p l r).length = l.length := by
  have e : sr p (sclP p l r) (l.length - 1) = 1 := by
    rw [sr_scl, cS_mul, sm_at, sr_last l h0, cast_inv h]
  have l1 := len_scl (p := p) l r
  have hne : sclP p l r ≠ [] := fun z => by
    rw [z, sr_nil, zero_at] at e
    exact one_ne (p := p) (by show cS (1 : Fin p) = cS 0; rw [← e])
  have hp := List.length_pos_iff.mpr h0
  have l2 : (sclP p l r).length = l.length := by
    by_cases h : (sclP p l r).length = l.length
    · exact h
    · have z := bd_sr (p := p) (sclP p l r) (l.length - 1) (by omega)
      rw [e] at z
      exact absurd (show (1 : Ser p) = 0 by show cS (1 : Fin p) = cS 0; rw [z]) one_ne
  exact ⟨⟨hne, by rw [l2]; exact e⟩, l2⟩
theorem last_ne {l : List Int} (hl : Can p l) (h0 : l ≠ []) : l.getLast h0 % (p : Int) ≠ 0 := by
  have := hl.last h0
  rw [Int.emod_eq_of_lt (by omega) this.2]; omega
theorem gcd_scl {a b l : List Int} (hl : Can p l) (h0 : l ≠ []) (s : GcdS (sr p a) (sr p b) (sr p l)) {r : Int} (h : r * l.getLast h0 % (p : Int) = 1) : gcdP p a b = sclP p l r := by
  refine gcdP_eq ⟨can_scl _ _, ?_⟩ (.inr (scl_monic hl h0 h).1)
  rw [sr_scl]
  exact s.scale (by rw [show ((l.getLast h0 : Int) : Fin p) * ((r : Int) : Fin p) = ((r : Int) : Fin p) * ((l.getLast h0 : Int) : Fin p) by grind]; exact cast_inv h)
theorem gcd_nil {a b : List Int} (s : GcdS (sr p a) (sr p b) (sr p [])) : gcdP p a b = [] := gcdP_eq ⟨can_nil, s⟩ (.inl rfl)
theorem gcdS_end {u : Ser p} (hu : Pl u) : GcdS u 0 u := ⟨hu, ⟨1, 0, pl_1, pl_0, by grind⟩, ⟨1, pl_1, by grind⟩, ⟨0, pl_0, by grind⟩⟩
/-! stretched ones -/
theorem st_add (u v : Ser p) : st (u + v) = st u + st v := by
  refine ser_ext fun i => ?_
  rw [add_at, st_at, st_at, st_at]
  split
  · rfl
  · grind
theorem st_pl (i : Nat) (c : Fin p) : st (pl i c) = pl (p * i) c := by
  have hp := Pr.pos (p := p)
  refine ser_ext fun j => ?_
  rw [st_at, pl_at, pl_at]
  by_cases h : j % p = 0
  · rw [if_pos h]
    have e : j = p * (j / p) := (Nat.mul_div_cancel' (Nat.dvd_of_mod_eq_zero h)).symm
    by_cases h2 : j / p = i
    · rw [if_pos h2, if_pos (by rw [← h2]; exact e)]
    · rw [if_neg h2, if_neg (fun z => h2 (by rw [z]; exact Nat.mul_div_cancel_left i hp))]
  · rw [if_neg h, if_neg (fun z => h (by rw [z]; exact Nat.mul_mod_right p i))]
theorem st_0 : st (0 : Ser p) = 0 := by
  refine ser_ext fun j => ?_
  rw [st_at, zero_at, zero_at]; split <;> rfl
/-! raised ones -/
theorem rz_add (u v : Ser p) : Rz (u + v) = Rz u + Rz v := by
  refine ser_ext fun j => ?_
  rw [add_at]
  cases j with
  | zero => show (0 : Fin p) = 0 + 0; grind
  | succ j =>
    show fpw ((j + 1 : Nat) : Fin p) (p - 2) * (u j + v j) = fpw ((j + 1 : Nat) : Fin p) (p - 2) * u j + fpw ((j + 1 : Nat) : Fin p) (p - 2) * v j
    grind
theorem rz_pl (i : Nat) (c : Fin p) : Rz (pl i c) = pl (i + 1) (fpw ((i + 1 : Nat) : Fin p) (p - 2) * c) := by
  refine ser_ext fun j => ?_
  cases j with
  | zero => rw [pl_at, if_neg (by omega)]; rfl
  | succ j =>
    show fpw ((j + 1 : Nat) : Fin p) (p - 2) * pl i c j = _
    rw [pl_at, pl_at]
    by_cases h : j = i
    · subst h; rw [if_pos rfl, if_pos rfl]
    · rw [if_neg h, if_neg (by omega)]; grind
theorem rz_0 : Rz (0 : Ser p) = 0 := by
  refine ser_ext fun j => ?_
  cases j with
  | zero => rw [zero_at]; rfl
  | succ j =>
    show fpw ((j + 1 : Nat) : Fin p) (p - 2) * (0 : Ser p) j = _
    rw [zero_at, zero_at]; grind
theorem pl_0c (i : Nat) : pl i (0 : Fin p) = 0 := by
  refine ser_ext fun j => ?_
  rw [pl_at, zero_at]; split <;> rfl
theorem inv_fpw {i : Nat} {r : Int} (h : r * ((i % p : Nat) + 1 : Int) % (p : Int) = 1) : ((r : Int) : Fin p) = fpw ((i + 1 : Nat) : Fin p) (p - 2) := by
  have e := cast_inv h
  have e2 : (((i % p : Nat) + 1 : Int) : Fin p) = ((i + 1 : Nat) : Fin p) := by
    have e3 : ((i + 1 : Nat) : Fin p) = (((i + 1 : Nat) : Int) : Fin p) := (Lean.Grind.Ring.intCast_natCast (α := Fin p) (i + 1)).symm
    rw [e3, MK.cast_eq, Int.natCast_emod, Int.emod_add_emod]
    rfl
  rw [e2] at e
  have hne : ((i + 1 : Nat) : Fin p) ≠ 0 := fun z => by
    rw [z] at e
    exact one_ne (p := p) (by show cS (1 : Fin p) = cS 0; rw [← e]; grind)
  have f := fpw_inv _ hne
  have : ((r : Int) : Fin p) * (((i + 1 : Nat) : Fin p) * fpw ((i + 1 : Nat) : Fin p) (p - 2)) = ((r : Int) : Fin p) := by rw [f]; grind
  grind
theorem ei_get {a : List Int} (ha : Can p a) (h : Ei (p - 1) (sr p a) = 0) {i : Nat} {x : Int} (hx : a[i]? = some x) (h0 : x ≠ 0) : i % p + 1 < p := by
  have hp := Pr.pos (p := p)
  have := Nat.mod_lt i hp
  by_cases e : i % p + 1 < p
  · exact e
  · have e2 : i % p = p - 1 := by omega
    have z := congrFun h (i / p)
    rw [Ei_at, zero_at] at z
    have e3 : i / p * p + (p - 1) = i := by have := Nat.div_add_mod i p; rw [Nat.mul_comm] at this; omega
    rw [e3, sr_at, List.getD_eq_getElem?_getD, hx] at z
    exact absurd (can_0 (ha.r x (List.mem_of_getElem? hx)) z) h0
/-! slices -/
theorem trm_fall (xs : List Int) : trm p ((xs.mapIdx fun i x => (i : Int) * x).drop 1) = fallP p xs := by
  unfold trm fallP
  rw [List.length_drop, List.length_mapIdx]
  congr 1
  refine ser_ext fun i => ?_
  rw [sr_at, List.getD_eq_getElem?_getD, List.getElem?_drop, List.getElem?_mapIdx, Nat.add_comm, D_at, sr_at, List.getD_eq_getElem?_getD]
  cases xs[i + 1]? with
  | none =>
    show ((0 : Int) : Fin p) = ((i + 1 : Nat) : Fin p) * ((0 : Int) : Fin p)
    rw [cast0]; grind
  | some x =>
    show ((((i + 1 : Nat) : Int) * x : Int) : Fin p) = ((i + 1 : Nat) : Fin p) * ((x : Int) : Fin p)
    rw [Lean.Grind.Ring.intCast_mul, Lean.Grind.Ring.intCast_natCast]
theorem six_hi (n : Nat) : HT.sIx n n none = n := by
  rfl
theorem cutD_from1 (xs : List Int) : DL.cutD (xs.map D.int) (some 1) none = (xs.drop 1).map D.int := by
  unfold DL.cutD
  rw [List.length_map, six_hi]
  have e : HT.sIx xs.length 0 (some 1) = min 1 xs.length := by
    show (if (1 : Int) < 0 then ((1 : Int) + xs.length).toNat else min (1 : Int).toNat xs.length) = _
    rw [if_neg (by omega)]; rfl
  rw [e, List.map_drop]
  by_cases h : xs.length = 0
  · rw [List.length_eq_zero_iff.mp h]; rfl
  · have e2 : min 1 xs.length = 1 := by omega
    rw [e2]
    exact List.take_of_length_le (by simp)
theorem strideI_map (xs : List Int) (i k : Int) : strideI (xs.map D.int) i k = (strideI xs i k).map D.int := by
  unfold strideI
  rw [List.length_map, List.map_filterMap]
  congr 1
  funext x
  rw [List.getElem?_map]
theorem fm_map {α β : Type} (f : α → Option β) (g : α → β) : ∀ l : List α, (∀ x ∈ l, f x = some (g x)) → l.filterMap f = l.map g
  | [], _ => rfl
  | x :: l, h => by
    rw [List.filterMap_cons_some (h x (by simp)), List.map_cons, fm_map f g l fun y hy => h y (by simp [hy])]
theorem stride_get (xs : List Int) {i q : Nat} (hq : 0 < q) (k : Nat) : (strideI xs (i : Int) (q : Int))[k]? = xs[k * q + i]? := by
  have b1 : (sliceBounds (some (i : Int)) none (some (q : Int)) xs.length).1 = ((min i xs.length : Nat) : Int) := by
    unfold sliceBounds
    simp only [Option.getD_some]
    rw [if_pos (by omega), if_neg (by omega)]
    omega
  have b2 : (sliceBounds (some (i : Int)) none (some (q : Int)) xs.length).2.1 = (xs.length : Int) := by
    unfold sliceBounds
    simp only [Option.getD_some]
    rw [if_pos (by omega)]
  have b3 : (sliceBounds (some (i : Int)) none (some (q : Int)) xs.length).2.2 = (q : Int) := rfl
  unfold strideI
  rw [b1, b2, b3]
  unfold sliceRange
  simp only
  rw [if_pos (by omega)]
  by_cases hi : i < xs.length
  · have em : min i xs.length = i := by omega
    rw [em, if_pos (by omega)]
    obtain ⟨c, hc⟩ : ∃ c : Nat, c = (xs.length - i + q - 1) / q := ⟨_, rfl⟩
    have ec : ((xs.length : Int) - (i : Int) + (q : Int) - 1) / (q : Int) = (c : Int) := by
      rw [hc, Int.natCast_ediv]
      congr 1; omega
    rw [ec, Int.toNat_natCast]
    have hlt : ∀ k, k < c ↔ k * q + i < xs.length := fun k => by
      rw [hc, Nat.lt_iff_add_one_le, Nat.le_div_iff_mul_le hq, Nat.add_mul]
      omega
    have hix : ∀ k : Nat, ((i : Int) + (q : Int) * (k : Int)).toNat = k * q + i := fun k => by
      have : (i : Int) + (q : Int) * (k : Int) = ((k * q + i : Nat) : Int) := by rw [Int.natCast_add, Int.natCast_mul, Int.mul_comm]; omega
      rw [this, Int.toNat_natCast]
    rw [fm_map _ (fun j => xs.getD j 0)]
    · rw [List.getElem?_map, List.getElem?_map]
      by_cases hk : k < c
      · rw [List.getElem?_range hk]
        show some (xs.getD ((i : Int) + (q : Int) * (k : Int)).toNat 0) = _
        rw [hix, List.getD_eq_getElem?_getD, List.getElem?_eq_getElem ((hlt k).mp hk)]
        rfl
      · rw [List.getElem?_eq_none (by simp; omega)]
        have : xs.length ≤ k * q + i := by
          have : ¬ k * q + i < xs.length := fun z => hk ((hlt k).mpr z)
          omega
        rw [List.getElem?_eq_none this]; rfl
    · intro j hj
      obtain ⟨k', hk', rfl⟩ := List.mem_map.mp hj
      have := (hlt k').mp (List.mem_range.mp hk')
      rw [hix, List.getD_eq_getElem?_getD, List.getElem?_eq_getElem this]; rfl
  · have em : min i xs.length = xs.length := by omega
    rw [em, if_neg (by omega)]
    have h2 : xs.length ≤ k * q + i := by have : 0 ≤ k * q := Nat.zero_le _; omega
    rw [List.getElem?_eq_none h2]
    rfl
theorem trm_evy (xs : List Int) {i : Nat} (hi : i < p) : trm p (strideI xs (i : Int) (p : Int)) = evyP p xs i := by
  have hp := Pr.pos (p := p)
  refine can_eq (can_trm _) (can_evy _ _) ?_
  rw [sr_trm, sr_evy]
  refine ser_ext fun k => ?_
  rw [Ei_at, sr_at, sr_at, List.getD_eq_getElem?_getD, List.getD_eq_getElem?_getD, stride_get xs hp]
end
end KH
end
section
set_option Elab.async false
set_option linter.all false
set_option maxRecDepth 100000
namespace KH
open PySem PySem.Spec PyProof.Rows L2 DL
open MK hiding D X cast_eq
/-- lengths at most n -/
def B3 (n : Nat) (t : T3) : Prop := t.1.length ≤ n ∧ t.2.1.length ≤ n ∧ t.2.2.length ≤ n
abbrev Fd (p : Nat) (f : List Int) (t : T3) : D := .fnc p f t.1 t.2.1 t.2.2
abbrev Cd (p : Nat) (f : List Int) : D := .crv p f
/-- a good function -/
structure Fo (p : Nat) [Pr p] (f : List Int) (t : T3) (n : Nat) : Prop where
  cv : CurveOk p f
  nm : Nrm p t
  b : B3 n t
theorem CurveOk.can {p : Nat} [Pr p] {f : List Int} (h : CurveOk p f) : Can p f := h.1
theorem CurveOk.ne {p : Nat} [Pr p] {f : List Int} (h : CurveOk p f) : f ≠ [] := fun e => by
  have := h.2.1
  rw [e] at this
  simp at this
theorem CurveOk.s0 {p : Nat} [Pr p] {f : List Int} (h : CurveOk p f) : sr p f ≠ 0 := h.can.ne h.ne
theorem CurveOk.len {p : Nat} [Pr p] {f : List Int} (h : CurveOk p f) : f.length ≤ 8 := by have := h.2.1; omega
theorem Fo.ca {p : Nat} [Pr p] {f : List Int} {t : T3} {n : Nat} (h : Fo p f t n) : Can p t.1 := Nf.ca h.nm
theorem Fo.cb {p : Nat} [Pr p] {f : List Int} {t : T3} {n : Nat} (h : Fo p f t n) : Can p t.2.1 := Nf.cb h.nm
theorem Fo.cc {p : Nat} [Pr p] {f : List Int} {t : T3} {n : Nat} (h : Fo p f t n) : Can p t.2.2 := Nf.cc h.nm
theorem Fo.c0 {p : Nat} [Pr p] {f : List Int} {t : T3} {n : Nat} (h : Fo p f t n) : sr p t.2.2 ≠ 0 := Norm.c0 h.nm
theorem b3_least {p : Nat} [Pr p] {a b c : List Int} {n : Nat} (h : sr p c ≠ 0) (l1 : a.length ≤ n) (l2 : b.length ≤ n) (l3 : c.length ≤ n) : B3 n (leastP p a b c) := by
  have := leastP_lens a b h
  exact ⟨by omega, by omega, by omega⟩
theorem fo_least {p : Nat} [Pr p] {f a b c : List Int} {n : Nat} (cv : CurveOk p f) (h : sr p c ≠ 0) (l : a.length ≤ n ∧ b.length ≤ n ∧ c.length ≤ n) : Fo p f (leastP p a b c) n := ⟨cv, nrm_least a b h, b3_least h l.1 l.2.1 l.2.2⟩
/-! lengths of what is made -/
section
variable {p : Nat} [Pr p]
theorem fo_plus {f : List Int} {t s : T3} {n m : Nat} (ht : Fo p f t n) (hs : Fo p f s m) : Fo p f (plusP p t s) (n + m) := by
  obtain ⟨⟨t1, t2, t3⟩, ⟨s1, s2, s3⟩⟩ := And.intro ht.b hs.b
  refine fo_least ht.cv (plus_ne ht.nm hs.nm) ⟨?_, ?_, ?_⟩
  · have := len_add (p := p) (mulP p t.1 s.2.2) (mulP p s.1 t.2.2); have := len_mul (p := p) t.1 s.2.2; have := len_mul (p := p) s.1 t.2.2; omega
  · have := len_add (p := p) (mulP p t.2.1 s.2.2) (mulP p s.2.1 t.2.2); have := len_mul (p := p) t.2.1 s.2.2; have := len_mul (p := p) s.2.1 t.2.2; omega
  · have := len_mul (p := p) t.2.2 s.2.2; omega
theorem fo_opp {f : List Int} {t : T3} {n : Nat} (ht : Fo p f t n) : Fo p f (oppP p t) n := by
  obtain ⟨t1, t2, t3⟩ := ht.b
  refine fo_least ht.cv ht.c0 ⟨?_, ?_, t3⟩
  · have := len_neg (p := p) t.1; omega
  · have := len_neg (p := p) t.2.1; omega
theorem fo_times {f : List Int} {t s : T3} {n m : Nat} (ht : Fo p f t n) (hs : Fo p f s m) : Fo p f (timesP p f t s) (n + m + 8) := by
  obtain ⟨⟨t1, t2, t3⟩, ⟨s1, s2, s3⟩⟩ := And.intro ht.b hs.b
  have lf := ht.cv.len
  refine fo_least ht.cv (plus_ne ht.nm hs.nm) ⟨?_, ?_, ?_⟩
  · have := len_add (p := p) (mulP p t.1 s.1) (mulP p (mulP p t.2.1 s.2.1) f); have := len_mul (p := p) t.1 s.1; have := len_mul (p := p) (mulP p t.2.1 s.2.1) f; have := len_mul (p := p) t.2.1 s.2.1; omega
  · have := len_add (p := p) (mulP p t.1 s.2.1) (mulP p t.2.1 s.1); have := len_mul (p := p) t.1 s.2.1; have := len_mul (p := p) t.2.1 s.1; omega
  · have := len_mul (p := p) t.2.2 s.2.2; omega
theorem len_slA (f a c : List Int) : (slA p f a c).length ≤ a.length + c.length + f.length := by
  unfold slA
  have := len_mul (p := p) (subP p (mulP p (fallP p a) c) (mulP p a (fallP p c))) (sclP p f 2)
  have := len_sub (p := p) (mulP p (fallP p a) c) (mulP p a (fallP p c))
  have := len_mul (p := p) (fallP p a) c
  have := len_mul (p := p) a (fallP p c)
  have := len_fall (p := p) a
  have := len_fall (p := p) c
  have := len_scl (p := p) f 2
  omega
theorem len_slB (f b c : List Int) : (slB p f b c).length ≤ b.length + c.length + f.length := by
  unfold slB
  have := len_add (p := p) (mulP p (subP p (mulP p (fallP p b) c) (mulP p b (fallP p c))) (sclP p f 2)) (mulP p (mulP p b (fallP p f)) c)
  have := len_mul (p := p) (subP p (mulP p (fallP p b) c) (mulP p b (fallP p c))) (sclP p f 2)
  have := len_sub (p := p) (mulP p (fallP p b) c) (mulP p b (fallP p c))
  have := len_mul (p := p) (fallP p b) c
  have := len_mul (p := p) b (fallP p c)
  have := len_fall (p := p) b
  have := len_fall (p := p) c
  have := len_scl (p := p) f 2
  have := len_mul (p := p) (mulP p b (fallP p f)) c
  have := len_mul (p := p) b (fallP p f)
  have := len_fall (p := p) f
  omega
theorem len_slC (f c : List Int) : (slC p f c).length ≤ c.length + c.length + f.length := by
  unfold slC
  have := len_mul (p := p) (mulP p c c) (sclP p f 2)
  have := len_mul (p := p) c c
  have := len_scl (p := p) f 2
  omega
theorem fo_slope {f : List Int} {t : T3} {n : Nat} (ht : Fo p f t n) : Fo p f (slopeP p f t) (2 * n + 8) := by
  obtain ⟨t1, t2, t3⟩ := ht.b
  have lf := ht.cv.len
  refine fo_least ht.cv (slC_ne ht.cv.s0 ht.nm) ⟨?_, ?_, ?_⟩
  · have := len_slA (p := p) f t.1 t.2.2; omega
  · have := len_slB (p := p) f t.2.1 t.2.2; omega
  · have := len_slC (p := p) f t.2.2; omega
theorem len_low (c a : List Int) : (lowP p c a).length ≤ a.length + 10 * c.length := by
  unfold lowP
  have := len_mul (p := p) a (powP p c (p - 1))
  have := len_pow (p := p) c (p - 1)
  have := Pr.lt (p := p)
  have : (p - 1) * c.length ≤ 10 * c.length := Nat.mul_le_mul_right _ (by omega)
  omega
theorem hf_le : hf p ≤ 6 := by
  have := Pr.lt (p := p)
  unfold hf; omega
theorem len_hf {f : List Int} (h : CurveOk p f) : (powP p f (hf p)).length ≤ 49 := by
  have := len_pow (p := p) f (hf p)
  have := h.len
  have : hf p * f.length ≤ 6 * 8 := Nat.mul_le_mul hf_le this
  omega
theorem len_high {f : List Int} (h : CurveOk p f) (c b : List Int) : (highP p f c b).length ≤ b.length + 10 * c.length + 49 := by
  unfold highP
  have := len_mul (p := p) (mulP p b (powP p c (p - 1))) (powP p f (hf p))
  have := len_hf h
  have := len_low (p := p) c b
  unfold lowP at this
  omega
theorem fo_part {f : List Int} {t : T3} {n : Nat} (ht : Fo p f t n) (i : Nat) : Fo p f (partP p f t i) (11 * n + 60) := by
  obtain ⟨t1, t2, t3⟩ := ht.b
  have lf := ht.cv.len
  refine fo_least ht.cv (part_ne ht.cv.s0 ht.nm) ⟨?_, ?_, ?_⟩
  · have := len_mul (p := p) (evyP p (lowP p t.2.2 t.1) i) f; have := len_evy (p := p) (lowP p t.2.2 t.1) i; have := len_low (p := p) t.2.2 t.1; omega
  · have := len_evy (p := p) (highP p f t.2.2 t.2.1) i; have := len_high ht.cv t.2.2 t.2.1; omega
  · have := len_mul (p := p) t.2.2 f; omega
theorem len_str' (a : List Int) : (strP p a).length ≤ 11 * a.length + 1 := by
  have := len_str (p := p) a
  have := Pr.lt (p := p)
  have : p * (a.length - 1) ≤ 11 * a.length := Nat.mul_le_mul (by omega) (by omega)
  omega
theorem fo_source {f : List Int} {t : T3} {n : Nat} (ht : Fo p f t n) : Fo p f (sourceP p f t) (11 * n + 110) := by
  obtain ⟨t1, t2, t3⟩ := ht.b
  have := len_hf ht.cv
  refine fo_least ht.cv (src_ne ht.cv.s0 ht.nm) ⟨?_, ?_, ?_⟩
  · have := len_mul (p := p) (rsdP p (lowP p t.2.2 t.1)) (powP p f (hf p)); have := len_rsd (p := p) (lowP p t.2.2 t.1); have := len_low (p := p) t.2.2 t.1; omega
  · have := len_rsd (p := p) (highP p f t.2.2 t.2.1); have := len_high ht.cv t.2.2 t.2.1; omega
  · have := len_mul (p := p) (strP p t.2.2) (powP p f (hf p)); have := len_str' (p := p) t.2.2; omega
end
/-! ### contracts -/
abbrev nfn : Nat := 5000
abbrev Ff := Pp × List Int × T3
def km_prime : Con := cF (fun a : Int × List Int => [.crv a.1 a.2]) (fun _ => True) (fun a d => d = I a.1)
def km_polynomial : Con := cF (fun a : Int × List Int => [.crv a.1 a.2]) (fun _ => True) (fun a d => d = L a.2)
def km_curve : Con := cF (fun a : Int × List Int × T3 => [.fnc a.1 a.2.1 a.2.2.1 a.2.2.2.1 a.2.2.2.2]) (fun _ => True) (fun a d => d = .crv a.1 a.2.1)
def km_top : Con := cF (fun a : Int × List Int × T3 => [.fnc a.1 a.2.1 a.2.2.1 a.2.2.2.1 a.2.2.2.2]) (fun _ => True) (fun a d => d = L a.2.2.1)
def km_side : Con := cF (fun a : Int × List Int × T3 => [.fnc a.1 a.2.1 a.2.2.1 a.2.2.2.1 a.2.2.2.2]) (fun _ => True) (fun a d => d = L a.2.2.2.1)
def km_bottom : Con := cF (fun a : Int × List Int × T3 => [.fnc a.1 a.2.1 a.2.2.1 a.2.2.2.1 a.2.2.2.2]) (fun _ => True) (fun a d => d = L a.2.2.2.2)
def kn_Curve : Con := cF (fun a : Pp × List Int => [I a.1.1, L a.2]) (fun a => CurveOk a.1.1 a.2) (fun a d => d = Cd a.1.1 a.2)
def kn_Function : Con := cF (fun a : Ff => [Cd a.1.1 a.2.1, L a.2.2.1, L a.2.2.2.1, L a.2.2.2.2]) (fun a => (Can a.1.1 a.2.2.1 ∧ Can a.1.1 a.2.2.2.1 ∧ Can a.1.1 a.2.2.2.2) ∧ B3 61 a.2.2 ∧ a.2.2.2.2 ≠ []) (fun a d => d = Fd a.1.1 a.2.1 (leastP a.1.1 a.2.2.1 a.2.2.2.1 a.2.2.2.2))
def k_least_parts : Con := cF (fun a : Pp × T3 => [I a.1.1, L a.2.1, L a.2.2.1, L a.2.2.2]) (fun a => (Can a.1.1 a.2.1 ∧ Can a.1.1 a.2.2.1 ∧ Can a.1.1 a.2.2.2) ∧ B3 lig a.2 ∧ a.2.2.2 ≠ []) (fun a d => d = .lst [L (leastP a.1.1 a.2.1 a.2.2.1 a.2.2.2).1, L (leastP a.1.1 a.2.1 a.2.2.1 a.2.2.2).2.1, L (leastP a.1.1 a.2.1 a.2.2.1 a.2.2.2).2.2])
def k_made : Con := cF (fun a : Ff => [Cd a.1.1 a.2.1, L a.2.2.1, L a.2.2.2.1, L a.2.2.2.2]) (fun a => (Can a.1.1 a.2.2.1 ∧ Can a.1.1 a.2.2.2.1 ∧ Can a.1.1 a.2.2.2.2) ∧ B3 lig a.2.2 ∧ a.2.2.2.2 ≠ []) (fun a d => d = Fd a.1.1 a.2.1 (leastP a.1.1 a.2.2.1 a.2.2.2.1 a.2.2.2.2))
def k_parts_of : Con := cF (fun a : Int × List Int × T3 => [.fnc a.1 a.2.1 a.2.2.1 a.2.2.2.1 a.2.2.2.2]) (fun _ => True) (fun a d => d = .tup [I a.1, L a.2.1, L a.2.2.1, L a.2.2.2.1, L a.2.2.2.2])
def k_is_nought : Con := cF (fun a : Int × List Int × T3 => [.fnc a.1 a.2.1 a.2.2.1 a.2.2.2.1 a.2.2.2.2]) (fun _ => True) (fun a d => d = .bl (decide (a.2.2.1 = []) && decide (a.2.2.2.1 = [])))
abbrev Fs := Pp × List Int × T3 × T3
def k_plus : Con := cF (fun a : Fs => [Fd a.1.1 a.2.1 a.2.2.1, Fd a.1.1 a.2.1 a.2.2.2]) (fun a => Fo a.1.1 a.2.1 a.2.2.1 nfn ∧ Fo a.1.1 a.2.1 a.2.2.2 nfn) (fun a d => d = Fd a.1.1 a.2.1 (plusP a.1.1 a.2.2.1 a.2.2.2))
def k_opposite : Con := cF (fun a : Ff => [Fd a.1.1 a.2.1 a.2.2]) (fun a => Fo a.1.1 a.2.1 a.2.2 nfn) (fun a d => d = Fd a.1.1 a.2.1 (oppP a.1.1 a.2.2))
def k_minus : Con := cF (fun a : Fs => [Fd a.1.1 a.2.1 a.2.2.1, Fd a.1.1 a.2.1 a.2.2.2]) (fun a => Fo a.1.1 a.2.1 a.2.2.1 nfn ∧ Fo a.1.1 a.2.1 a.2.2.2 nfn) (fun a d => d = Fd a.1.1 a.2.1 (minusP a.1.1 a.2.2.1 a.2.2.2))
def k_times : Con := cF (fun a : Fs => [Fd a.1.1 a.2.1 a.2.2.1, Fd a.1.1 a.2.1 a.2.2.2]) (fun a => Fo a.1.1 a.2.1 a.2.2.1 nfn ∧ Fo a.1.1 a.2.1 a.2.2.2 nfn) (fun a d => d = Fd a.1.1 a.2.1 (timesP a.1.1 a.2.1 a.2.2.1 a.2.2.2))
def k_norm_top : Con := fun _ _ _ => False
def k_back_of : Con := fun _ _ _ => False
def k_raised_to : Con := cF (fun a : Ff × Nat => [Fd a.1.1.1 a.1.2.1 a.1.2.2, I a.2]) (fun a => Fo a.1.1.1 a.1.2.1 a.1.2.2 200 ∧ a.2 ≤ 11) (fun a d => d = Fd a.1.1.1 a.1.2.1 (powT a.1.1.1 a.1.2.1 a.1.2.2 a.2))
def k_slope_by : Con := cF (fun a : Ff => [Fd a.1.1 a.2.1 a.2.2]) (fun a => Fo a.1.1 a.2.1 a.2.2 nfn) (fun a d => d = Fd a.1.1 a.2.1 (slopeP a.1.1 a.2.1 a.2.2))
def k_slope : Con := k_slope_by
def k_check_function : Con := cF (fun a : Int × List Int × T3 => [.fnc a.1 a.2.1 a.2.2.1 a.2.2.2.1 a.2.2.2.2]) (fun _ => True) (fun a d => d = .non)
def k_check_both : Con := cF (fun a : Int × List Int × T3 × T3 => [.fnc a.1 a.2.1 a.2.2.1.1 a.2.2.1.2.1 a.2.2.1.2.2, .fnc a.1 a.2.1 a.2.2.2.1 a.2.2.2.2.1 a.2.2.2.2.2]) (fun _ => True) (fun a d => d = .non)
def k_sum_of : Con := k_plus
def k_less_of : Con := k_minus
def k_power_of_functions : Con := k_raised_to
def k_tops_over : Con := cF (fun a : Ff => [Fd a.1.1 a.2.1 a.2.2]) (fun a => Fo a.1.1 a.2.1 a.2.2 nfn) (fun a d => d = .tup [L (lowP a.1.1 a.2.2.2.2 a.2.2.1), L (highP a.1.1 a.2.1 a.2.2.2.2 a.2.2.2.1)])
def k_parts_by : Con := cF (fun a : Ff => [Fd a.1.1 a.2.1 a.2.2]) (fun a => Fo a.1.1 a.2.1 a.2.2 nfn) (fun a d => d = .lst ((List.range a.1.1).map fun i => Fd a.1.1 a.2.1 (partP a.1.1 a.2.1 a.2.2 i)))
def k_parts : Con := k_parts_by
def k_descent_by : Con := cF (fun a : Ff => [Fd a.1.1 a.2.1 a.2.2]) (fun a => Fo a.1.1 a.2.1 a.2.2 nfn) (fun a d => d = Fd a.1.1 a.2.1 (partP a.1.1 a.2.1 a.2.2 (a.1.1 - 1)))
def k_descent : Con := k_descent_by
def k_slope_source : Con := cF (fun a : Ff => [Fd a.1.1 a.2.1 a.2.2]) (fun a => Fo a.1.1 a.2.1 a.2.2 nfn) (fun a d => (due a.1.1 a.2.1 a.2.2 → d = Fd a.1.1 a.2.1 (sourceP a.1.1 a.2.1 a.2.2)) ∧ (¬ due a.1.1 a.2.1 a.2.2 → d = .non))
def k_whose_slope : Con := k_slope_source
section
variable {p : Nat} [hp : Pr p] {n : Nat} {Φ : DK} {f a b c : List Int} {t s : T3} {q : Int}
theorem um_prime (h : Φ (I q) n) : km_prime [.crv q f] n Φ := ⟨(q, f), rfl, trivial, fun _ e => e ▸ h⟩
theorem um_polynomial (h : Φ (L f) n) : km_polynomial [.crv q f] n Φ := ⟨(q, f), rfl, trivial, fun _ e => e ▸ h⟩
theorem um_curve (h : Φ (.crv q f) n) : km_curve [.fnc q f a b c] n Φ := ⟨(q, f, a, b, c), rfl, trivial, fun _ e => e ▸ h⟩
theorem um_top (h : Φ (L a) n) : km_top [.fnc q f a b c] n Φ := ⟨(q, f, a, b, c), rfl, trivial, fun _ e => e ▸ h⟩
theorem um_side (h : Φ (L b) n) : km_side [.fnc q f a b c] n Φ := ⟨(q, f, a, b, c), rfl, trivial, fun _ e => e ▸ h⟩
theorem um_bottom (h : Φ (L c) n) : km_bottom [.fnc q f a b c] n Φ := ⟨(q, f, a, b, c), rfl, trivial, fun _ e => e ▸ h⟩
theorem un_Curve (h1 : CurveOk p f) (h : Φ (Cd p f) n) : kn_Curve [I p, L f] n Φ := ⟨(⟨p, hp⟩, f), rfl, h1, fun _ e => e ▸ h⟩
theorem un_Function (h1 : (Can p a ∧ Can p b ∧ Can p c) ∧ B3 61 (a, b, c) ∧ c ≠ []) (h : Φ (Fd p f (leastP p a b c)) n) : kn_Function [Cd p f, L a, L b, L c] n Φ := ⟨(⟨p, hp⟩, f, a, b, c), rfl, h1, fun _ e => e ▸ h⟩
theorem u_least_parts (h1 : (Can p a ∧ Can p b ∧ Can p c) ∧ B3 lig (a, b, c) ∧ c ≠ []) (h : Φ (.lst [L (leastP p a b c).1, L (leastP p a b c).2.1, L (leastP p a b c).2.2]) n) : k_least_parts [I p, L a, L b, L c] n Φ := ⟨(⟨p, hp⟩, a, b, c), rfl, h1, fun _ e => e ▸ h⟩
theorem u_made (h1 : (Can p a ∧ Can p b ∧ Can p c) ∧ B3 lig (a, b, c) ∧ c ≠ []) (h : Φ (Fd p f (leastP p a b c)) n) : k_made [Cd p f, L a, L b, L c] n Φ := ⟨(⟨p, hp⟩, f, a, b, c), rfl, h1, fun _ e => e ▸ h⟩
theorem u_parts_of (h : Φ (.tup [I q, L f, L a, L b, L c]) n) : k_parts_of [.fnc q f a b c] n Φ := ⟨(q, f, a, b, c), rfl, trivial, fun _ e => e ▸ h⟩
theorem u_is_nought (h : Φ (.bl (decide (a = []) && decide (b = []))) n) : k_is_nought [.fnc q f a b c] n Φ := ⟨(q, f, a, b, c), rfl, trivial, fun _ e => e ▸ h⟩
theorem u_plus (h1 : Fo p f t nfn ∧ Fo p f s nfn) (h : Φ (Fd p f (plusP p t s)) n) : k_plus [Fd p f t, Fd p f s] n Φ := ⟨(⟨p, hp⟩, f, t, s), rfl, h1, fun _ e => e ▸ h⟩
theorem u_opposite (h1 : Fo p f t nfn) (h : Φ (Fd p f (oppP p t)) n) : k_opposite [Fd p f t] n Φ := ⟨(⟨p, hp⟩, f, t), rfl, h1, fun _ e => e ▸ h⟩
theorem u_minus (h1 : Fo p f t nfn ∧ Fo p f s nfn) (h : Φ (Fd p f (minusP p t s)) n) : k_minus [Fd p f t, Fd p f s] n Φ := ⟨(⟨p, hp⟩, f, t, s), rfl, h1, fun _ e => e ▸ h⟩
theorem u_times (h1 : Fo p f t nfn ∧ Fo p f s nfn) (h : Φ (Fd p f (timesP p f t s)) n) : k_times [Fd p f t, Fd p f s] n Φ := ⟨(⟨p, hp⟩, f, t, s), rfl, h1, fun _ e => e ▸ h⟩
theorem u_raised_to {k : Nat} (h1 : Fo p f t 200 ∧ k ≤ 11) (h : Φ (Fd p f (powT p f t k)) n) : k_raised_to [Fd p f t, I k] n Φ := ⟨((⟨p, hp⟩, f, t), k), rfl, h1, fun _ e => e ▸ h⟩
theorem u_slope_by (h1 : Fo p f t nfn) (h : Φ (Fd p f (slopeP p f t)) n) : k_slope_by [Fd p f t] n Φ := ⟨(⟨p, hp⟩, f, t), rfl, h1, fun _ e => e ▸ h⟩
theorem u_check_function (h : Φ .non n) : k_check_function [.fnc q f a b c] n Φ := ⟨(q, f, a, b, c), rfl, trivial, fun _ e => e ▸ h⟩
theorem u_check_both {x y z : List Int} (h : Φ .non n) : k_check_both [.fnc q f a b c, .fnc q f x y z] n Φ := ⟨(q, f, (a, b, c), (x, y, z)), rfl, trivial, fun _ e => e ▸ h⟩
theorem u_tops_over (h1 : Fo p f t nfn) (h : Φ (.tup [L (lowP p t.2.2 t.1), L (highP p f t.2.2 t.2.1)]) n) : k_tops_over [Fd p f t] n Φ := ⟨(⟨p, hp⟩, f, t), rfl, h1, fun _ e => e ▸ h⟩
theorem u_parts_by (h1 : Fo p f t nfn) (h : Φ (.lst ((List.range p).map fun i => Fd p f (partP p f t i))) n) : k_parts_by [Fd p f t] n Φ := ⟨(⟨p, hp⟩, f, t), rfl, h1, fun _ e => e ▸ h⟩
theorem u_descent_by (h1 : Fo p f t nfn) (h : Φ (Fd p f (partP p f t (p - 1))) n) : k_descent_by [Fd p f t] n Φ := ⟨(⟨p, hp⟩, f, t), rfl, h1, fun _ e => e ▸ h⟩
theorem u_slope_source (h1 : Fo p f t nfn) (h2 : due p f t → Φ (Fd p f (sourceP p f t)) n) (h3 : ¬ due p f t → Φ .non n) : k_slope_source [Fd p f t] n Φ := ⟨(⟨p, hp⟩, f, t), rfl, h1, fun d e => by
  by_cases h : due p f t
  · rw [e.1 h]; exact h2 h
  · rw [e.2 h]; exact h3 h⟩
end
end KH
end
section
set_option Elab.async false
set_option linter.all false
set_option maxRecDepth 100000
namespace KH
open PySem PySem.Spec PyProof.Rows L2 DL
open MK hiding D X cast_eq
section
variable {p : Nat} [Pr p]
theorem len_dvd {g a : List Int} (hg : Can p g) {k : Ser p} (hk : Pl k) (e : sr p a = sr p g * k) (h : sr p a ≠ 0) : g.length ≤ a.length := by
  have g0 : g ≠ [] := fun z => h (by rw [e, z, sr_nil]; grind)
  have k0 : k ≠ 0 := fun z => h (by rw [e, z]; grind)
  have := List.length_pos_iff.mpr g0
  obtain ⟨t1, t2⟩ := hg.tops g0
  obtain ⟨m, h, _⟩ := top_lt t1 t2 hk (N := a.length) (by rw [← e]; exact bd_sr a) k0
  omega
theorem len_gcdL {a b g : List Int} (h : GcdL p a b g) : g.length ≤ max a.length b.length := by
  obtain ⟨cg, -, ⟨s, t, hs, ht, k2⟩, ⟨k, hk, k3⟩, ⟨l, hl, k4⟩⟩ := h
  by_cases ha : sr p a = 0
  · by_cases hb : sr p b = 0
    · have : g = [] := can_nil_of cg (by rw [k2, ha, hb]; grind)
      rw [this]; simp
    · have := len_dvd cg hl k4 hb; omega
  · have := len_dvd cg hk k3 ha; omega
theorem len_gcd (a b : List Int) : (gcdP p a b).length ≤ max a.length b.length := len_gcdL (gcdP_spec a b).1
theorem can_gcd (a b : List Int) : Can p (gcdP p a b) := (gcdP_spec a b).1.c
theorem quo_exact {a g : List Int} (hg : Can p g) (g0 : g ≠ []) (h : ∃ k, Pl k ∧ sr p a = sr p g * k) : sr p a = sr p (quoP p a g) * sr p g := by
  obtain ⟨k, ⟨N, hN⟩, e⟩ := h
  have hd : DivOk p a g (nf p N k) [] := ⟨nf_can _ _, can_nil, by rw [sr_nf hN, sr_nil, e]; grind, List.length_pos_iff.mpr g0⟩
  have s := (div_spec a hg g0).1
  rw [(div_eq hg hd).1, sr_nf hN, e]; grind
theorem can_quo {a g : List Int} (hg : Can p g) (g0 : g ≠ []) : Can p (quoP p a g) := (div_spec a hg g0).1.cq
/-- what a common divisor must be -/
structure Com (p : Nat) [Pr p] (a b c g : List Int) : Prop where
  cg : Can p g
  lin : ∃ s t u, Pl s ∧ Pl t ∧ Pl u ∧ sr p g = s * sr p a + t * sr p b + u * sr p c
  da : ∃ k, Pl k ∧ sr p a = sr p g * k
  db : ∃ k, Pl k ∧ sr p b = sr p g * k
  dc : ∃ k, Pl k ∧ sr p c = sr p g * k
theorem Com.g0 {a b c g : List Int} (h : Com p a b c g) (hc : sr p c ≠ 0) : g ≠ [] := fun z => by
  obtain ⟨k, _, e⟩ := h.dc
  exact hc (by rw [e, z, sr_nil]; grind)
theorem com_of {a b c g1 g : List Int} (h1 : GcdL p a b g1) (h : GcdL p g1 c g) : Com p a b c g := by
  obtain ⟨c1, -, ⟨s, t, hs, ht, k2⟩, ⟨k, hk, k3⟩, ⟨l, hl, k4⟩⟩ := h1
  obtain ⟨cg, -, ⟨s', t', hs', ht', k2'⟩, ⟨k', hk', k3'⟩, ⟨l', hl', k4'⟩⟩ := h
  exact ⟨cg, ⟨s' * s, s' * t, t', hs'.mul hs, hs'.mul ht, ht', by grind⟩, ⟨k' * k, hk'.mul hk, by grind⟩, ⟨k' * l, hk'.mul hl, by grind⟩, ⟨l', hl', k4'⟩⟩
theorem Com.rot {a b c g : List Int} (h : Com p c a b g) : Com p a b c g := by
  obtain ⟨cg, ⟨s, t, u, hs, ht, hu, e⟩, d1, d2, d3⟩ := h
  exact ⟨cg, ⟨t, u, s, ht, hu, hs, by grind⟩, d2, d3, d1⟩
theorem Com.quo {a b c g : List Int} (h : Com p a b c g) (hc : sr p c ≠ 0) : quoP p c g ≠ [] := fun z => by
  have := quo_exact h.cg (h.g0 hc) h.dc
  exact hc (by rw [this, z, sr_nil]; grind)
theorem least_of {a b c g : List Int} (h : Com p a b c g) (hc : sr p c ≠ 0) {r : Int} (hr : r * (quoP p c g).getLast (h.quo hc) % (p : Int) = 1) :
    leastP p a b c = (sclP p (quoP p a g) r, sclP p (quoP p b g) r, sclP p (quoP p c g) r) := by
  have g0 := h.g0 hc
  have gs := h.cg.ne g0
  have ea := quo_exact h.cg g0 h.da
  have eb := quo_exact h.cg g0 h.db
  have ec := quo_exact h.cg g0 h.dc
  obtain ⟨s, t, u, hs, ht, hu, e⟩ := h.lin
  have b1 : s * sr p (quoP p a g) + t * sr p (quoP p b g) + u * sr p (quoP p c g) = 1 := canc gs (by grind)
  have cr := cast_inv hr
  have dd : cS (((quoP p c g).getLast (h.quo hc) : Int) : Fin p) * cS ((r : Int) : Fin p) = (1 : Ser p) := by
    rw [cS_mulc]
    have : (((quoP p c g).getLast (h.quo hc) : Int) : Fin p) * ((r : Int) : Fin p) = 1 := by grind
    rw [this]; rfl
  generalize cS (((quoP p c g).getLast (h.quo hc) : Int) : Fin p) = d at dd
  refine leastP_eq hc ⟨can_scl _ _, can_scl _ _, can_scl _ _, (scl_monic (can_quo h.cg g0) (h.quo hc) hr).1, ⟨cS (((quoP p c g).getLast (h.quo hc) : Int) : Fin p) * s, cS (((quoP p c g).getLast (h.quo hc) : Int) : Fin p) * t, cS (((quoP p c g).getLast (h.quo hc) : Int) : Fin p) * u, (pl_c _).mul hs, (pl_c _).mul ht, (pl_c _).mul hu, ?_⟩, ?_, ?_⟩
  · have dd : cS (((quoP p c g).getLast (h.quo hc) : Int) : Fin p) * cS ((r : Int) : Fin p) = (1 : Ser p) := by
      rw [cS_mulc]
      have : (((quoP p c g).getLast (h.quo hc) : Int) : Fin p) * ((r : Int) : Fin p) = 1 := by grind
      rw [this]; rfl
    rw [sr_scl, sr_scl, sr_scl]; grind
  · rw [sr_scl, sr_scl]; grind
  · rw [sr_scl, sr_scl]; grind
theorem len_quo_le {a g : List Int} (hg : Can p g) (g0 : g ≠ []) : (quoP p a g).length ≤ a.length := by
  have := len_quo a hg g0
  have := List.length_pos_iff.mpr g0
  omega
/-! powers of a fraction -/
theorem pow_step {f : List Int} {t x : T3} (hx : Nrm p x) {n : Nat} (e : x = powT p f t n) (ht : Nrm p t) (hy : Nrm p y) {m : Nat} (e2 : y = powT p f t m) : timesP p f x y = powT p f t (n + m) := by
  have sx := leastP_spec (qpL p f t.1 t.2.1 n).1 (qpL p f t.1 t.2.1 n).2 (powT_ne ht n)
  have sy := leastP_spec (qpL p f t.1 t.2.1 m).1 (qpL p f t.1 t.2.1 m).2 (powT_ne ht m)
  have q1 := sr_qpL (p := p) f t.1 t.2.1 n
  have q2 := sr_qpL (p := p) f t.1 t.2.1 m
  have q3 := sr_qpL (p := p) f t.1 t.2.1 (n + m)
  rw [qpow_add, ← q1, ← q2] at q3
  have qa := congrArg Prod.fst q3
  have qb := congrArg Prod.snd q3
  simp only [qm] at qa qb
  have hx1 := sx.e1
  have hx2 := sx.e2
  have hy1 := sy.e1
  have hy2 := sy.e2
  have hex : leastP p (qpL p f t.1 t.2.1 n).1 (qpL p f t.1 t.2.1 n).2 (powP p t.2.2 n) = x := e.symm
  have hey : leastP p (qpL p f t.1 t.2.1 m).1 (qpL p f t.1 t.2.1 m).2 (powP p t.2.2 m) = y := e2.symm
  rw [hex, sr_pow] at hx1 hx2
  rw [hey, sr_pow] at hy1 hy2
  have n1 : sr p t.2.2 ^ n ≠ 0 := pow_ne (Norm.c0 ht) n
  have n2 : sr p t.2.2 ^ m ≠ 0 := pow_ne (Norm.c0 ht) m
  refine leastP_cong (plus_ne hx hy) (powT_ne ht _) ?_ ?_
  · rw [sr_pow, qa, sr_add, sr_mul, sr_mul, sr_mul, sr_mul, Lean.Grind.Semiring.pow_add]
    grind
  · rw [sr_pow, qb, sr_add, sr_mul, sr_mul, sr_mul, Lean.Grind.Semiring.pow_add]
    grind
theorem powT_1 {f : List Int} {t : T3} (ht : Nrm p t) : powT p f t 1 = t := by
  have h : powT p f t 1 = leastP p t.1 t.2.1 t.2.2 := by
    have q := sr_qpL (p := p) f t.1 t.2.1 1
    rw [qpow1] at q
    have qa := congrArg Prod.fst q
    have qb := congrArg Prod.snd q
    simp only at qa qb
    refine leastP_cong (powT_ne ht 1) (Norm.c0 ht) ?_ ?_
    · rw [qa, sr_pow, Lean.Grind.Semiring.pow_succ, Lean.Grind.Semiring.pow_zero]; grind
    · rw [qb, sr_pow, Lean.Grind.Semiring.pow_succ, Lean.Grind.Semiring.pow_zero]; grind
  rw [h, Norm.least ht]
theorem powT_0 (f : List Int) (t : T3) : powT p f t 0 = leastP p [1] [] [1] := rfl
end
mutual
theorem eqD_self : ∀ d : D, DL.plain d = true → eqD d d = true
  | .int i, _ => by simp [eqD]
  | .lst xs, h => by
    rw [eqD]
    rw [DL.plain] at h
    exact eqDL_self xs h
  | .tup xs, h => by
    rw [eqD]
    rw [DL.plain] at h
    exact eqDL_self xs h
  | .non, h => by simp [DL.plain] at h
  | .bl _, h => by simp [DL.plain] at h
  | .str _, h => by simp [DL.plain] at h
  | .crv _ _, h => by simp [DL.plain] at h
  | .fnc _ _ _ _ _, h => by simp [DL.plain] at h
  | .gen, h => by simp [DL.plain] at h
  | .scr _, h => by simp [DL.plain] at h
theorem eqDL_self : ∀ ds : List D, plainL ds = true → eqDL ds ds = true
  | [], _ => rfl
  | d :: ds, h => by
    rw [plainL, Bool.and_eq_true] at h
    rw [eqDL, eqD_self d h.1, eqDL_self ds h.2]; rfl
end
theorem plain_L (a : List Int) : DL.plain (L a) = true := by rw [DL.plain]; exact plainL_ints a
theorem dep_L (a : List Int) : dep (L a) = 1 := by rw [dep, depL_ints]
theorem wEq_LL (a b c : List Int) {n : Nat} {Φ : DK} (h : Φ (.bl true) n) : wEq (.lst [L a, L b, L c]) (.lst [L a, L b, L c]) n Φ := by
  have hp : DL.plain (.lst [L a, L b, L c]) = true := by
    rw [DL.plain, plainL, plainL, plainL, plainL, plain_L, plain_L, plain_L]; rfl
  have hd : dep (.lst [L a, L b, L c]) ≤ 64 := by
    rw [dep, depL, depL, depL, depL, dep_L, dep_L, dep_L]; decide
  show okEq _ _ ∧ Φ (.bl (eqD _ _)) n
  rw [eqD_self _ hp]
  exact ⟨⟨hp, hp, hd, hd⟩, h⟩
/-! ### one step each, for the kernel's sake -/
section
variable {t u : DS} {E : DN} {ρ : List Sl} {n : Nat} {te ta tb : DT} {τ tr : DTF} {Φ : DK} {Ψ : List D → Nat → Prop} {κ : Con} {i : Nat} {d : D}
theorem i_seq (h : t ⟨u E, E.rt⟩ ρ n) : sSeq t u E ρ n := h
theorem i_nx {a : List Sl → Nat → Prop} {b : DK} (h : a ρ n) : DN.nx ⟨a, b⟩ ρ n := h
theorem i_step {Θ : Option D → Nat → Prop} (h : te (ρ.set i (.val d)) n fun y n4 => Θ (some y) n4) : lcS (gNm i) dYes te ρ d n Θ := by
  unfold lcS gNm dYes
  simp only [if_true]
  exact h
theorem i_op {ω : DO} (h : ta ρ n fun x n1 => tb ρ n1 fun y n2 => ω x y n2 Φ) : dOp ω ta tb ρ n Φ := h
theorem i_c (h : Φ d n) : dC d ρ n Φ := h
theorem i_ixl {xs : List D} {j : Int} (e : atI xs j = some d) (h : Φ d n) : wIx (.lst xs) (.int j) n Φ := ⟨d, e, h⟩
theorem i_neg {j : Int} (h : Φ (.int (-j)) n) : dNeg (dC (.int j)) ρ n Φ := h
theorem i_asg {γ : DG} (h : te ρ n fun d n1 => γ d ρ n1 E.nx) : sAsg te γ E ρ n := h
theorem i_set (h : te ρ n fun d n1 => E.nx (ρ.set i (.val d)) n1) : sSet te i E ρ n := h
theorem i_own {te : DTF} (h : te ρ n fun xs n1 => E.nx (ρ.set i (.own xs)) n1) : sOwn te i E ρ n := h
theorem i_ret (h : te ρ n E.rt) : sRet te E ρ n := h
theorem i_frz {xs : List D} (e : ρ[i]? = some (.own xs)) (h : t E (ρ.set i (.val (.lst xs))) n) : sFrz i t E ρ n := by unfold sFrz; rw [e]; exact h
theorem i_call (h : τ ρ n fun ds n1 => κ ds n1 Φ) : dCall κ τ ρ n Φ := h
theorem i_cons (h : ta ρ n fun d n1 => tr ρ n1 fun ds n2 => Ψ (d :: ds) n2) : dCons ta tr ρ n Ψ := h
theorem i_nil (h : Ψ [] n) : dNil ρ n Ψ := h
theorem i_var (e : ρ[i]? = some (.val d)) (h : Φ d n) : dVar i ρ n Φ := by unfold dVar; rw [e]; exact h
theorem i_dF (h : τ ρ n fun xs n' => Φ (.lst xs) n') : dF τ ρ n Φ := h
theorem i_lc {γ : DG} {tt : DTB} {vs : List Nat} (h : τ ρ n fun its n1 => its.length ≤ 10000000 ∧ lcW (lcS γ tt te (wipeS ρ vs)) its [] n1 Ψ) : dLc τ γ tt te vs ρ n Ψ := h
theorem i_seqT {xs : List D} (h : te ρ n fun d n1 => match d with
  | .tup xs => Ψ xs n1
  | _ => False) : iSeqT te ρ n Ψ := h
theorem i_tup (h : τ ρ n fun ds n1 => ds.length ≤ 10000000 ∧ Φ (.tup ds) n1) : dTup τ ρ n Φ := h
end
end KH
end
section
set_option Elab.async false
set_option linter.all false
set_option maxRecDepth 100000
namespace KH
open PySem PySem.Spec PyProof.Rows L2 DL
open MK hiding D X cast_eq
/-! ### contracts of the law's defs -/
abbrev Td (p : Nat) (f : List Int) : D := .tup [I p, L f]
def k__law_trim : Con := k_trimmed
def k__law_add : Con := k_added
def k__law_scale : Con := k_scaled
def k__law_mul : Con := k_multiplied
def k__law_power : Con := k_power_of_polys
def k__law_back : Con := k_inverse
def k__law_fall : Con := k_slope_of
def k__law_rest : Con := cF (fun a : Pp × List Int × List Int => [I a.1.1, L a.2.1, L a.2.2]) (fun a => (a.2.1.length ≤ lig ∧ a.2.2.length ≤ lig) ∧ Can a.1.1 a.2.1 ∧ Can a.1.1 a.2.2 ∧ a.2.2 ≠ []) (fun a d => d = L (remP a.1.1 a.2.1 a.2.2))
def k__law_whole : Con := cF (fun a : Pp × List Int × List Int => [I a.1.1, L a.2.1, L a.2.2]) (fun a => (a.2.1.length ≤ lig ∧ a.2.2.length ≤ lig) ∧ Can a.1.1 a.2.1 ∧ Can a.1.1 a.2.2 ∧ a.2.2 ≠ []) (fun a d => d = L (quoP a.1.1 a.2.1 a.2.2))
def k__law_common : Con := cF (fun a : Pp × List Int × List Int => [I a.1.1, L a.2.1, L a.2.2]) (fun a => (a.2.1.length ≤ lig ∧ a.2.2.length ≤ lig) ∧ Can a.1.1 a.2.1 ∧ Can a.1.1 a.2.2) (fun a d => ∃ g : List Int, d = L g ∧ GcdL a.1.1 a.2.1 a.2.2 g)
def k__law_of : Con := cF (fun a : Pp × List Int => [Td a.1.1 a.2]) (fun a => CurveOk a.1.1 a.2) (fun a d => d = Cd a.1.1 a.2)
def k__law_made : Con := cF (fun a : Ff => [Td a.1.1 a.2.1, T a.2.2]) (fun a => CurveOk a.1.1 a.2.1 ∧ (Can a.1.1 a.2.2.1 ∧ Can a.1.1 a.2.2.2.1 ∧ Can a.1.1 a.2.2.2.2) ∧ B3 61 a.2.2 ∧ a.2.2.2.2 ≠ []) (fun a d => d = Fd a.1.1 a.2.1 (leastP a.1.1 a.2.2.1 a.2.2.2.1 a.2.2.2.2))
def k__law_seen : Con := cF (fun a : Int × List Int × T3 => [.fnc a.1 a.2.1 a.2.2.1 a.2.2.2.1 a.2.2.2.2]) (fun _ => True) (fun a d => d = T a.2.2)
def k__law_nought : Con := cF (fun t : T3 => [T t]) (fun _ => True) (fun t d => d = .bl (decide (t.1 = []) && decide (t.2.1 = [])))
def k__law_same : Con := cF (fun a : Ff => [Td a.1.1 a.2.1, T a.2.2, T a.2.2]) (fun a => (Can a.1.1 a.2.2.1 ∧ Can a.1.1 a.2.2.2.1 ∧ Can a.1.1 a.2.2.2.2) ∧ B3 lig a.2.2) (fun a d => d = .bl true)
def k__law_least : Con := cF (fun a : Ff => [Td a.1.1 a.2.1, T a.2.2]) (fun a => (Can a.1.1 a.2.2.1 ∧ Can a.1.1 a.2.2.2.1 ∧ Can a.1.1 a.2.2.2.2) ∧ B3 lig a.2.2 ∧ a.2.2.2.2 ≠ []) (fun a d => d = T (leastP a.1.1 a.2.2.1 a.2.2.2.1 a.2.2.2.2))
def k__law_slope : Con := cF (fun a : Ff => [Td a.1.1 a.2.1, T a.2.2]) (fun a => Fo a.1.1 a.2.1 a.2.2 nfn) (fun a d => d = T (slopeP a.1.1 a.2.1 a.2.2))
def k__law_parts : Con := cF (fun a : Ff => [Td a.1.1 a.2.1, T a.2.2]) (fun a => Fo a.1.1 a.2.1 a.2.2 nfn) (fun a d => d = .lst ((List.range a.1.1).map fun i => T (partP a.1.1 a.2.1 a.2.2 i)))
def k__law_asked : Con := cF (fun a : Ff => [Td a.1.1 a.2.1, Fd a.1.1 a.2.1 a.2.2]) (fun a => Fo a.1.1 a.2.1 a.2.2 300) (fun a d => d = .bl true)
/-! with the generator -/
abbrev gmx : Nat := 100000
/-- m: how many numbers may be drawn -/
def gF {α : Type} (ar : α → List D) (pre : α → Prop) (m : α → Nat) (res : α → D → Prop) : Con := fun ds n Φ => ∃ a, ds = ar a ∧ pre a ∧ n + m a ≤ gmx ∧ ∀ d n', n' ≤ n + m a → res a d → Φ d n'
theorem mon_gF {α : Type} {ar : α → List D} {pre : α → Prop} {m : α → Nat} {res : α → D → Prop} : MonC (gF ar pre m res) := fun _ _ _ _ h ⟨a, e, p, b, q⟩ => ⟨a, e, p, b, fun d n' l r => h _ _ (q d n' l r)⟩
theorem len_gF {α : Type} {ar : α → List D} {pre : α → Prop} {m : α → Nat} {res : α → D → Prop} {k : Nat} (h : ∀ a, (ar a).length = k) : ∀ ds n Φ, gF ar pre m res ds n Φ → ds.length = k := fun _ _ _ ⟨a, e, _⟩ => e ▸ h a
def k__law_hash : Con := cF (fun a : Int × Int => [I a.1, I a.2]) (fun a => (0 ≤ a.1 ∧ a.1 < 2 ^ 31) ∧ 0 ≤ a.2 ∧ a.2 ≤ 1000000) (fun _ d => ∃ r : Int, d = .int r)
def k__law_random : Con := gF (fun b : Int => [.gen, I b]) (fun b => 0 < b ∧ b ≤ 12) (fun _ => 1) (fun b d => ∃ r : Int, d = .int r ∧ 0 ≤ r ∧ r < b)
def k__law_poly : Con := gF (fun a : Pp × Nat => [.gen, I a.1.1, I a.2]) (fun a => a.2 ≤ 9) (fun _ => 12) (fun a d => ∃ xs : List Int, d = L xs ∧ Can a.1.1 xs ∧ xs.length ≤ a.2 + 1)
def k__law_curve : Con := gF (fun _ : Unit => [.gen, I 5]) (fun _ => True) (fun _ => 200) (fun _ d => ∃ (q : Pp) (f : List Int), d = Td q.1 f ∧ CurveOk q.1 f)
def k__law_triple : Con := gF (fun a : Pp × List Int × Nat => [.gen, Td a.1.1 a.2.1, I a.2.2]) (fun a => a.2.2 ≤ 3) (fun _ => 36) (fun a d => ∃ t : T3, d = T t ∧ (Can a.1.1 t.1 ∧ Can a.1.1 t.2.1 ∧ Can a.1.1 t.2.2) ∧ B3 4 t ∧ t.2.2 ≠ [])
def k__law_right : Con := gF (fun _ : Unit => [.gen]) (fun _ => True) (fun _ => 300) (fun _ d => d = .bl true)
def k__law_cell : Con := cF (fun a : List Int × Nat => [.scr a.1, I a.2]) (fun a => a.1.length ≤ 1000) (fun _ d => ∃ r : Int, d = .int r)
def k_law : Con := cF (fun a : List Int => [.scr a]) (fun a => a.length ≤ 1000) (fun _ d => d = .bl true)
section
variable {p : Nat} [hp : Pr p] {n : Nat} {Φ : DK} {f : List Int} {t : T3}
theorem u__law_trim {xs : List Int} (h1 : xs.length ≤ 2 * lim) (h : Φ (L (trm p xs)) n) : k__law_trim [I p, L xs] n Φ := u_trimmed h1 h
theorem u__law_add {xs ys : List Int} (h1 : xs.length ≤ lim ∧ ys.length ≤ lim) (h : Φ (L (addP p xs ys)) n) : k__law_add [I p, L xs, L ys] n Φ := u_added h1 h
theorem u__law_scale {xs : List Int} {k : Int} (h1 : xs.length ≤ lim ∧ -2 ^ 64 < k ∧ k < 2 ^ 64) (h : Φ (L (sclP p xs k)) n) : k__law_scale [I p, L xs, I k] n Φ := u_scaled h1 h
theorem u__law_mul {xs ys : List Int} (h1 : xs.length ≤ lim ∧ ys.length ≤ lim ∧ Sm xs) (h : Φ (L (mulP p xs ys)) n) : k__law_mul [I p, L xs, L ys] n Φ := u_multiplied h1 h
theorem u__law_power {xs : List Int} {k : Nat} (h1 : (k + 1) * xs.length ≤ lim - 1 ∧ k ≤ 100) (h : Φ (L (powP p xs k)) n) : k__law_power [I p, L xs, I k] n Φ := u_power_of_polys h1 h
theorem u__law_back {x : Int} (h1 : x % (p : Int) ≠ 0) (h : ∀ r : Int, 0 < r → r < p → r * x % p = 1 → Φ (.int r) n) : k__law_back [I p, I x] n Φ := u_inverse h1 h
theorem u__law_fall {a : List Int} (h1 : a.length ≤ lim) (h : Φ (L (fallP p a)) n) : k__law_fall [I p, L a] n Φ := u_slope_of h1 h
theorem u__law_rest {a b : List Int} (h1 : (a.length ≤ lig ∧ b.length ≤ lig) ∧ Can p a ∧ Can p b ∧ b ≠ []) (h : Φ (L (remP p a b)) n) : k__law_rest [I p, L a, L b] n Φ := ⟨(⟨p, hp⟩, a, b), rfl, h1, fun _ e => e ▸ h⟩
theorem u__law_whole {a b : List Int} (h1 : (a.length ≤ lig ∧ b.length ≤ lig) ∧ Can p a ∧ Can p b ∧ b ≠ []) (h : Φ (L (quoP p a b)) n) : k__law_whole [I p, L a, L b] n Φ := ⟨(⟨p, hp⟩, a, b), rfl, h1, fun _ e => e ▸ h⟩
theorem u__law_common {a b : List Int} (h1 : (a.length ≤ lig ∧ b.length ≤ lig) ∧ Can p a ∧ Can p b) (h : ∀ g, GcdL p a b g → Φ (L g) n) : k__law_common [I p, L a, L b] n Φ := ⟨(⟨p, hp⟩, a, b), rfl, h1, fun _ ⟨g, e, hg⟩ => e ▸ h g hg⟩
theorem u__law_of (h1 : CurveOk p f) (h : Φ (Cd p f) n) : k__law_of [Td p f] n Φ := ⟨(⟨p, hp⟩, f), rfl, h1, fun _ e => e ▸ h⟩
theorem u__law_made (h1 : CurveOk p f ∧ (Can p t.1 ∧ Can p t.2.1 ∧ Can p t.2.2) ∧ B3 61 t ∧ t.2.2 ≠ []) (h : Φ (Fd p f (leastP p t.1 t.2.1 t.2.2)) n) : k__law_made [Td p f, T t] n Φ := ⟨(⟨p, hp⟩, f, t), rfl, h1, fun _ e => e ▸ h⟩
theorem u__law_seen {q : Int} {a b c : List Int} (h : Φ (T (a, b, c)) n) : k__law_seen [.fnc q f a b c] n Φ := ⟨(q, f, a, b, c), rfl, trivial, fun _ e => e ▸ h⟩
theorem u__law_nought (h : Φ (.bl (decide (t.1 = []) && decide (t.2.1 = []))) n) : k__law_nought [T t] n Φ := ⟨t, rfl, trivial, fun _ e => e ▸ h⟩
theorem u__law_same (h1 : (Can p t.1 ∧ Can p t.2.1 ∧ Can p t.2.2) ∧ B3 lig t) (h : Φ (.bl true) n) : k__law_same [Td p f, T t, T t] n Φ := ⟨(⟨p, hp⟩, f, t), rfl, h1, fun _ e => e ▸ h⟩
theorem u__law_least (h1 : (Can p t.1 ∧ Can p t.2.1 ∧ Can p t.2.2) ∧ B3 lig t ∧ t.2.2 ≠ []) (h : Φ (T (leastP p t.1 t.2.1 t.2.2)) n) : k__law_least [Td p f, T t] n Φ := ⟨(⟨p, hp⟩, f, t), rfl, h1, fun _ e => e ▸ h⟩
theorem u__law_slope (h1 : Fo p f t nfn) (h : Φ (T (slopeP p f t)) n) : k__law_slope [Td p f, T t] n Φ := ⟨(⟨p, hp⟩, f, t), rfl, h1, fun _ e => e ▸ h⟩
theorem u__law_parts (h1 : Fo p f t nfn) (h : Φ (.lst ((List.range p).map fun i => T (partP p f t i))) n) : k__law_parts [Td p f, T t] n Φ := ⟨(⟨p, hp⟩, f, t), rfl, h1, fun _ e => e ▸ h⟩
theorem u__law_asked (h1 : Fo p f t 300) (h : Φ (.bl true) n) : k__law_asked [Td p f, Fd p f t] n Φ := ⟨(⟨p, hp⟩, f, t), rfl, h1, fun _ e => e ▸ h⟩
theorem u__law_hash {a b : Int} (h1 : (0 ≤ a ∧ a < 2 ^ 31) ∧ 0 ≤ b ∧ b ≤ 1000000) (h : ∀ r : Int, Φ (I r) n) : k__law_hash [I a, I b] n Φ := ⟨(a, b), rfl, h1, fun _ ⟨r, e⟩ => e ▸ h r⟩
theorem u__law_random {b : Int} (h1 : 0 < b ∧ b ≤ 12) (hn : n + 1 ≤ gmx) (h : ∀ (r : Int) n', n' ≤ n + 1 → 0 ≤ r → r < b → Φ (I r) n') : k__law_random [.gen, I b] n Φ := ⟨b, rfl, h1, hn, fun _ n' l ⟨r, e, a, b⟩ => e ▸ h r n' l a b⟩
theorem u__law_poly {m : Nat} (h1 : m ≤ 9) (hn : n + 12 ≤ gmx) (h : ∀ (xs : List Int) n', n' ≤ n + 12 → Can p xs → xs.length ≤ m + 1 → Φ (L xs) n') : k__law_poly [.gen, I p, I m] n Φ := ⟨(⟨p, hp⟩, m), rfl, h1, hn, fun _ n' l ⟨r, e, a, b⟩ => e ▸ h r n' l a b⟩
theorem u__law_curve (hn : n + 200 ≤ gmx) (h : ∀ (q : Pp) (f : List Int) n', n' ≤ n + 200 → CurveOk q.1 f → Φ (Td q.1 f) n') : k__law_curve [.gen, I 5] n Φ := ⟨(), rfl, trivial, hn, fun _ n' l ⟨q, f, e, a⟩ => e ▸ h q f n' l a⟩
theorem u__law_triple {m : Nat} (h1 : m ≤ 3) (hn : n + 36 ≤ gmx) (h : ∀ (t : T3) n', n' ≤ n + 36 → (Can p t.1 ∧ Can p t.2.1 ∧ Can p t.2.2) → B3 4 t → t.2.2 ≠ [] → Φ (T t) n') : k__law_triple [.gen, Td p f, I m] n Φ := ⟨(⟨p, hp⟩, f, m), rfl, h1, hn, fun _ n' l ⟨t, e, a, b, c⟩ => e ▸ h t n' l a b c⟩
theorem u__law_right (hn : n + 300 ≤ gmx) (h : ∀ n', Φ (.bl true) n') : k__law_right [.gen] n Φ := ⟨(), rfl, trivial, hn, fun _ n' _ e => e ▸ h n'⟩
theorem u__law_cell {ns : List Int} {i : Nat} (h1 : ns.length ≤ 1000) (h : ∀ r : Int, Φ (I r) n) : k__law_cell [.scr ns, I i] n Φ := ⟨(ns, i), rfl, h1, fun _ ⟨r, e⟩ => e ▸ h r⟩
end
end KH
end
section
set_option Elab.async false
set_option linter.all false
set_option maxRecDepth 100000
namespace KH
open PySem PySem.Spec PyProof.Rows L2 DL
open MK hiding D X cast_eq
/-! ### one step each (all by unfolding) -/
section
variable {t u : DS} {E : DN} {ρ : List Sl} {n : Nat} {te ta tb tl tk to : DT} {τ tr : DTF} {Φ : DK} {Ψ : List D → Nat → Prop} {κ : Con} {i : Nat} {d e : D} {b c : DTB} {Θ : Bool → Nat → Prop}
theorem j_next (h : E.nx ρ n) : sNext E ρ n := h
theorem j_rt {a : List Sl → Nat → Prop} {Φ : DK} (h : Φ d n) : DN.rt ⟨a, Φ⟩ d n := h
theorem j_drop (h : te ρ n fun _ n' => E.nx ρ n') : sDrop te E ρ n := h
theorem j_if (h : b ρ n fun b n' => if b = true then t E ρ n' else u E ρ n') : sIf b t u E ρ n := h
theorem j_tp {is : List Nat} {ds : List D} {Ψ : List Sl → Nat → Prop} (hl : ds.length = is.length) (h : Ψ (setL is ds ρ) n) : gTp is (.tup ds) ρ n Ψ := ⟨hl, h⟩
theorem j_ls {is : List Nat} {ds : List D} {Ψ : List Sl → Nat → Prop} (hl : ds.length = is.length) (h : Ψ (setL is ds ρ) n) : gLs is (.lst ds) ρ n Ψ := ⟨hl, h⟩
theorem j_nm {Ψ : List Sl → Nat → Prop} (h : Ψ (ρ.set i (.val d)) n) : gNm i d ρ n Ψ := h
theorem j_par {j : Nat} (h : ta ρ n fun d n1 => tb ρ n1 fun e n2 => E.nx ((ρ.set i (.val d)).set j (.val e)) n2) : sPar ta tb i j E ρ n := h
theorem j_par3 {j l : Nat} (h : ta ρ n fun d n1 => tb ρ n1 fun e n2 => tl ρ n2 fun f n3 => E.nx (((ρ.set i (.val d)).set j (.val e)).set l (.val f)) n3) : sPar3 ta tb tl i j l E ρ n := h
theorem j_for {γ : DG} (h : τ ρ n fun its n1 => forW γ t E its ρ n1) : sFor τ γ t E ρ n := h
theorem j_app {xs : List D} (e : ρ[i]? = some (.own xs)) (h : te ρ n fun d n1 => xs.length < 10000000 ∧ E.nx (ρ.set i (.own (xs ++ [d]))) n1) : sApp i te E ρ n := by unfold sApp; rw [e]; exact h
/-! tests -/
def mB (Θ : Bool → Nat → Prop) : DK := fun d n => match d with
  | .bl b => Θ b n
  | _ => False
theorem j_dB (h : te ρ n (mB Θ)) : dB te ρ n Θ := h
theorem j_mB {v : Bool} (h : Θ v n) : mB Θ (.bl v) n := h
theorem j_not (h : b ρ n fun v n1 => Θ (!v) n1) : dNot b ρ n Θ := h
theorem j_and (h : b ρ n fun v n1 => if v = true then c ρ n1 Θ else Θ false n1) : dAnd b c ρ n Θ := h
theorem j_or (h : b ρ n fun v n1 => if v = true then Θ true n1 else c ρ n1 Θ) : dOr b c ρ n Θ := h
theorem j_t {P Q : Prop} (h : P) : if true = true then P else Q := by rw [if_pos rfl]; exact h
theorem j_f {P Q : Prop} (h : Q) : if false = true then P else Q := by rw [if_neg (by decide)]; exact h
theorem j_nt {P Q : Prop} (h : Q) : if (!true) = true then P else Q := by rw [if_neg (by decide)]; exact h
theorem j_nf {P Q : Prop} (h : P) : if (!false) = true then P else Q := j_t h
theorem j_dec {A P Q : Prop} [Decidable A] (h1 : A → P) (h2 : ¬ A → Q) : if decide A = true then P else Q := by
  by_cases h : A
  · rw [if_pos (decide_eq_true h)]; exact h1 h
  · rw [if_neg (by rw [decide_eq_false h]; decide)]; exact h2 h
theorem j_ndec {A P Q : Prop} [Decidable A] (h1 : ¬ A → P) (h2 : A → Q) : if (!decide A) = true then P else Q := by
  by_cases h : A
  · rw [if_neg (by rw [decide_eq_true h]; decide)]; exact h2 h
  · rw [if_pos (by rw [decide_eq_false h]; rfl)]; exact h1 h
theorem j_dIf (h : b ρ n fun v n1 => if v = true then ta ρ n1 Φ else tb ρ n1 Φ) : dIf b ta tb ρ n Φ := h
theorem j_dIfF {t u : DTF} (h : b ρ n fun v n1 => if v = true then t ρ n1 Ψ else u ρ n1 Ψ) : dIfF b t u ρ n Ψ := h
def mAnd (tb : DT) (ρ : List Sl) (Φ : DK) : DK := fun d n => match d with
  | .bl b => if b = true then tb ρ n Φ else Φ (.bl false) n
  | _ => False
def mOr (tb : DT) (ρ : List Sl) (Φ : DK) : DK := fun d n => match d with
  | .bl b => if b = true then Φ (.bl true) n else tb ρ n Φ
  | _ => False
def mNot (Φ : DK) : DK := fun d n => match d with
  | .bl b => Φ (.bl (!b)) n
  | _ => False
theorem j_andV (h : ta ρ n (mAnd tb ρ Φ)) : dAndV ta tb ρ n Φ := h
theorem j_orV (h : ta ρ n (mOr tb ρ Φ)) : dOrV ta tb ρ n Φ := h
theorem j_notV (h : ta ρ n (mNot Φ)) : dNotV ta ρ n Φ := h
theorem j_mAnd {v : Bool} (h : if v = true then tb ρ n Φ else Φ (.bl false) n) : mAnd tb ρ Φ (.bl v) n := h
theorem j_mOr {v : Bool} (h : if v = true then Φ (.bl true) n else tb ρ n Φ) : mOr tb ρ Φ (.bl v) n := h
theorem j_mNot {v : Bool} (h : Φ (.bl (!v)) n) : mNot Φ (.bl v) n := h
/-! methods, fields -/
def mF (κ : Con) (Φ : DK) : DK := fun d n => match d with
  | .fnc p f x y z => κ [.fnc p f x y z] n Φ
  | _ => False
def mC (κ : Con) (Φ : DK) : DK := fun d n => match d with
  | .crv p f => κ [.crv p f] n Φ
  | _ => False
theorem j_mtF (h : to ρ n (mF κ Φ)) : dMeth κ true to ρ n Φ := by
  unfold dMeth
  have : (mF κ Φ) = (fun d n1 => match d, true with
    | .fnc p f x y z, true => κ [.fnc p f x y z] n1 Φ
    | .crv p f, false => κ [.crv p f] n1 Φ
    | _, _ => False) := by funext d n1; cases d <;> rfl
  rw [this] at h
  exact h
theorem j_mtC (h : to ρ n (mC κ Φ)) : dMeth κ false to ρ n Φ := by
  unfold dMeth
  have : (mC κ Φ) = (fun d n1 => match d, false with
    | .fnc p f x y z, true => κ [.fnc p f x y z] n1 Φ
    | .crv p f, false => κ [.crv p f] n1 Φ
    | _, _ => False) := by funext d n1; cases d <;> rfl
  rw [this] at h
  exact h
theorem j_mF {p : Int} {f x y z : List Int} (h : κ [.fnc p f x y z] n Φ) : mF κ Φ (.fnc p f x y z) n := h
theorem j_mC {p : Int} {f : List Int} (h : κ [.crv p f] n Φ) : mC κ Φ (.crv p f) n := h
theorem j_isT {f : D → Option Bool} (h : te ρ n fun d n1 => ∃ b, f d = some b ∧ Φ (.bl b) n1) : dIsT te f ρ n Φ := h
theorem j_isF {p : Int} {f x y z : List Int} (h : Φ (.bl true) n) : ∃ b, fFnc (.fnc p f x y z) = some b ∧ Φ (.bl b) n := ⟨true, rfl, h⟩
/-! values -/
theorem j_lst (h : τ ρ n fun ds n1 => ds.length ≤ 10000000 ∧ Ψ ds n1) : dLst τ ρ n Ψ := h
theorem j_addi {a b : Int} (h : Φ (.int (a + b)) n) : wAdd (.int a) (.int b) n Φ := by rw [wAdd_i]; exact h
theorem j_subi {a b : Int} (h : Φ (.int (a - b)) n) : wSub (.int a) (.int b) n Φ := by rw [wSub_i]; exact h
theorem j_modi {a b : Int} (hb : 0 < b) (h : Φ (.int (a % b)) n) : wMod (.int a) (.int b) n Φ := by rw [wMod_i]; exact ⟨hb, h⟩
theorem j_fdivi {a b : Int} (hb : 0 < b ∧ b < 1073741824) (h : Φ (.int (a / b)) n) : wFdiv (.int a) (.int b) n Φ := by rw [wFdiv_i]; exact ⟨hb, h⟩
theorem j_muli {a b : Int} (hb : CMul a b) (h : Φ (.int (a * b)) n) : wMul (.int a) (.int b) n Φ := by rw [wMul_i]; exact ⟨hb, h⟩
theorem j_powi {a b : Int} (hb : CPowB a b) (h : Φ (.int (a ^ b.toNat)) n) : wPow (.int a) (.int b) n Φ := by rw [wPow_i]; exact ⟨hb, h⟩
theorem j_addl {a b : List D} (hl : a.length + b.length ≤ 10000000) (h : Φ (.lst (a ++ b)) n) : wAdd (.lst a) (.lst b) n Φ := by rw [wAdd_l]; exact ⟨hl, h⟩
theorem j_mull {x k : Int} (hk : -(2 ^ 62) < k ∧ k ≤ 10000000) (h : Φ (L (List.replicate k.toNat x)) n) : wMul (.lst [.int x]) (.int k) n Φ := by rw [wMul_l]; exact ⟨hk, h⟩
theorem j_gti {a b : Int} (h : Φ (.bl (decide (b < a))) n) : wGt (.int a) (.int b) n Φ := by rw [wGt_i]; exact h
theorem j_gei {a b : Int} (h : Φ (.bl (decide (b ≤ a))) n) : wGe (.int a) (.int b) n Φ := by rw [wGe_i]; exact h
theorem j_lti {a b : Int} (h : Φ (.bl (decide (a < b))) n) : wLt (.int a) (.int b) n Φ := by rw [wLt_i]; exact h
theorem j_lei {a b : Int} (h : Φ (.bl (decide (a ≤ b))) n) : wLe (.int a) (.int b) n Φ := by rw [wLe_i]; exact h
theorem j_eqi {a b : Int} (h : Φ (.bl (decide (a = b))) n) : wEq (.int a) (.int b) n Φ := by rw [wEq_i]; exact h
theorem j_nei {a b : Int} (h : Φ (.bl (!decide (a = b))) n) : wNe (.int a) (.int b) n Φ := by rw [wNe_i]; exact h
theorem j_neb {a b : Bool} (h : Φ (.bl (!decide (a = b))) n) : wNe (.bl a) (.bl b) n Φ := by rw [wNe_b]; exact h
theorem j_nes {a b : Str} (h : Φ (.bl (!decide (a = b))) n) : wNe (.str a) (.str b) n Φ := by rw [wNe_s]; exact h
theorem j_eqL {a b : List Int} (h : Φ (.bl (decide (a = b))) n) : wEq (L a) (L b) n Φ := by rw [wEq_L]; exact h
theorem j_neL {a b : List Int} (h : Φ (.bl (!decide (a = b))) n) : wNe (L a) (L b) n Φ := by rw [wNe_L]; exact h
theorem j_eq0 {a : List Int} (h : Φ (.bl (decide (a = []))) n) : wEq (L a) (.lst []) n Φ := by rw [wEq_L0]; exact h
theorem j_ne0 {a : List Int} (h : Φ (.bl (!decide (a = []))) n) : wNe (L a) (.lst []) n Φ := by rw [wNe_L0]; exact h
theorem j_isN (h : Φ (.bl (isNo d)) n) : wIsN d .non n Φ := h
theorem j_notN (h : Φ (.bl (!isNo d)) n) : wNotN d .non n Φ := h
theorem j_isB {a b : Bool} (h : Φ (.bl (decide (a = b))) n) : wIsB (.bl a) (.bl b) n Φ := h
theorem j_notB {a b : Bool} (h : Φ (.bl (!decide (a = b))) n) : wNotB (.bl a) (.bl b) n Φ := h
theorem j_ixl {xs : List D} {j : Int} (e : atI xs j = some d) (h : Φ d n) : wIx (.lst xs) (.int j) n Φ := ⟨d, e, h⟩
theorem j_ixt {xs : List D} {j : Int} (e : atI xs j = some d) (h : Φ d n) : wIx (.tup xs) (.int j) n Φ := ⟨d, e, h⟩
theorem j_neg {j : Int} (h : Φ (.int (-j)) n) : dNeg (dC (.int j)) ρ n Φ := h
def mI (Φ : DK) : DK := fun d n => match d with
  | .int i => Φ (.int (-i)) n
  | _ => False
theorem j_len {xs : List D} (h : Φ (.int (xs.length : Int)) n) : kLen [.lst xs] n Φ := by rw [kLen_l]; exact h
theorem j_lenL {xs : List Int} (h : Φ (.int (xs.length : Int)) n) : kLen [L xs] n Φ := by rw [kLen_l, List.length_map]; exact h
theorem j_lenS {xs : List Int} (h : Φ (.int (xs.length : Int)) n) : kLen [.scr xs] n Φ := by rw [kLen_s]; exact h
theorem j_int {j : Int} (h : Φ (.int j) n) : kInt [.int j] n Φ := by rw [kInt_i]; exact h
theorem j_max {a b : Int} (h : Φ (.int (max a b)) n) : kMax [.int a, .int b] n Φ := by rw [kMax_i]; exact h
theorem j_min3 {a b c : Int} (h : Φ (.int (min (min a b) c)) n) : kMin3 [.int a, .int b, .int c] n Φ := by rw [kMin3_i]; exact h
theorem j_abs {a : Int} (h : Φ (.int (a.natAbs : Int)) n) : kAbs [.int a] n Φ := by rw [kAbs_i]; exact h
theorem j_repr {a : Bool} (h : Φ (.str (if a then "True" else "False")) n) : kRepr [.bl a] n Φ := by rw [kRepr_b]; exact h
def mL (Ψ : List D → Nat → Prop) : DK := fun d n => match d with
  | .lst xs => Ψ xs n
  | _ => False
def mT (Ψ : List D → Nat → Prop) : DK := fun d n => match d with
  | .tup xs => Ψ xs n
  | _ => False
def mE (Ψ : List D → Nat → Prop) : DK := fun d n => match d with
  | .lst xs => Ψ (enm xs) n
  | _ => False
def mR (Ψ : List D → Nat → Prop) : DK := fun d n => match d with
  | .int j => (-(2 ^ 62) ≤ j ∧ j < 2 ^ 62) ∧ Ψ (rng 0 j.toNat) n
  | _ => False
theorem j_seq (h : te ρ n (mL Ψ)) : iSeq te ρ n Ψ := h
theorem j_seqT (h : te ρ n (mT Ψ)) : iSeqT te ρ n Ψ := h
theorem j_enm (h : te ρ n (mE Ψ)) : iEnm te ρ n Ψ := h
theorem j_rg1 (h : te ρ n (mR Ψ)) : iRg1 te ρ n Ψ := h
theorem j_mL {xs : List D} (h : Ψ xs n) : mL Ψ (.lst xs) n := h
theorem j_mT {xs : List D} (h : Ψ xs n) : mT Ψ (.tup xs) n := h
theorem j_mE {xs : List D} (h : Ψ (enm xs) n) : mE Ψ (.lst xs) n := h
theorem j_mR {j : Int} (hj : -(2 ^ 62) ≤ j ∧ j < 2 ^ 62) (h : Ψ (rng 0 j.toNat) n) : mR Ψ (.int j) n := ⟨hj, h⟩
def mLs (Ψ : List D → Nat → Prop) : DK := fun d n => match d with
  | .lst xs => Ψ xs n
  | .tup xs => Ψ xs n
  | _ => False
theorem j_list (h : te ρ n (mLs Ψ)) : fList te ρ n Ψ := h
theorem j_mLs {xs : List D} (h : Ψ xs n) : mLs Ψ (.lst xs) n := h
theorem j_lcS {γ : DG} {tt : DTB} {Ξ : Option D → Nat → Prop} (h : γ d ρ n fun ρ2 n2 => tt ρ2 n2 fun b n3 => if b = true then te ρ2 n3 fun y n4 => Ξ (some y) n4 else Ξ none n3) : lcS γ tt te ρ d n Ξ := h
theorem j_yes (h : Θ true n) : dYes ρ n Θ := h
def mS (te' : DT) (Ψ : List D → Nat → Prop) (ρ : List Sl) (x : D) : DK := fun y n => match y with
  | .int i => te' ρ n fun z n3 => match x, z with
    | .lst xs, .int k => (0 ≤ i ∧ 0 < k) ∧ Ψ (strideI xs i k) n3
    | _, _ => False
  | _ => False
theorem j_stride (h : te ρ n fun x n1 => tl ρ n1 (mS tk Ψ ρ x)) : fStride te tl tk ρ n Ψ := h
def mS2 (i : Int) (Ψ : List D → Nat → Prop) (x : D) : DK := fun z n3 => match x, z with
    | .lst xs, .int k => (0 ≤ i ∧ 0 < k) ∧ Ψ (strideI xs i k) n3
    | _, _ => False
theorem j_mS {x : D} {j : Int} (h : tk ρ n (mS2 j Ψ x)) : mS tk Ψ ρ x (.int j) n := h
theorem j_mS2 {xs : List D} {j k : Int} (hj : 0 ≤ j ∧ 0 < k) (h : Ψ (strideI xs j k) n) : mS2 j Ψ (.lst xs) (.int k) n := ⟨hj, h⟩
end
end KH
end
section
set_option Elab.async false
set_option linter.all false
set_option maxRecDepth 100000
namespace KH
open PySem PySem.Spec PyProof.Rows L2 DL
open MK hiding D X cast_eq
section
variable {p : Nat} [Pr p] {a b : List Int} {m k : Nat}
theorem lm (h : a.length ≤ m) (h' : b.length ≤ k) : (mulP p a b).length ≤ m + k := by have := len_mul (p := p) a b; omega
theorem ls (h : a.length ≤ m) (h' : b.length ≤ k) : (subP p a b).length ≤ m + k := by have := len_sub (p := p) a b; omega
theorem la (h : a.length ≤ m) (h' : b.length ≤ k) : (addP p a b).length ≤ m + k := by have := len_add (p := p) a b; omega
theorem lf (h : a.length ≤ m) : (fallP p a).length ≤ m := by have := len_fall (p := p) a; omega
theorem lc (h : a.length ≤ m) (i : Int) : (sclP p a i).length ≤ m := by have := len_scl (p := p) a i; omega
end
class Stp (P : Prop) (Q : outParam Prop) : Prop where
  h : Q → P
class Gt (ρ : List Sl) (i : Nat) (s : outParam Sl) : Prop where
  h : ρ[i]? = some s
instance {s : Sl} {ρ : List Sl} : Gt (s :: ρ) 0 s := ⟨rfl⟩
instance {r s : Sl} {ρ : List Sl} {i : Nat} [g : Gt ρ i s] : Gt (r :: ρ) (i + 1) s := ⟨by rw [List.getElem?_cons_succ]; exact g.h⟩
class Pt (ρ : List Sl) (i : Nat) (s : Sl) (ρ' : outParam (List Sl)) : Prop where
  h : ρ.set i s = ρ'
instance {r s : Sl} {ρ : List Sl} : Pt (r :: ρ) 0 s (s :: ρ) := ⟨rfl⟩
instance {r s : Sl} {ρ ρ' : List Sl} {i : Nat} [g : Pt ρ i s ρ'] : Pt (r :: ρ) (i + 1) s (r :: ρ') := ⟨by rw [List.set_cons_succ, g.h]⟩
class Pts (is : List Nat) (ds : List D) (ρ : List Sl) (ρ' : outParam (List Sl)) : Prop where
  h : ds.length = is.length ∧ setL is ds ρ = ρ'
instance {ρ : List Sl} : Pts [] [] ρ ρ := ⟨rfl, rfl⟩
instance {i : Nat} {is : List Nat} {d : D} {ds : List D} {ρ ρ1 ρ' : List Sl} [a : Pt ρ i (.val d) ρ1] [b : Pts is ds ρ1 ρ'] : Pts (i :: is) (d :: ds) ρ ρ' := ⟨by rw [List.length_cons, List.length_cons, b.h.1], by rw [setL, a.h, b.h.2]⟩
class Wp (ρ : List Sl) (vs : List Nat) (ρ' : outParam (List Sl)) : Prop where
  h : wipeS ρ vs = ρ'
instance {ρ : List Sl} : Wp ρ [] ρ := ⟨rfl⟩
instance {ρ ρ1 ρ2 : List Sl} {v : Nat} {vs : List Nat} [a : Wp ρ vs ρ1] [b : Pt ρ1 v .un ρ2] : Wp ρ (v :: vs) ρ2 := ⟨by rw [wipeS, a.h, b.h]⟩
class Ai (xs : List D) (j : Int) (d : outParam D) : Prop where
  h : atI xs j = some d
instance {a : D} {xs : List D} : Ai (a :: xs) 0 a := ⟨atI_nat (i := 0) rfl⟩
instance {a b : D} {xs : List D} : Ai (a :: b :: xs) 1 b := ⟨atI_nat (i := 1) rfl⟩
instance {a b c : D} {xs : List D} : Ai (a :: b :: c :: xs) 2 c := ⟨atI_nat (i := 2) rfl⟩
class Sh (k : Nat) (xs : List D) : Prop where
  h : xs.length ≤ k
instance {k : Nat} : Sh k [] := ⟨Nat.zero_le _⟩
instance {k : Nat} {x : D} {xs : List D} [g : Sh k xs] : Sh (k + 1) (x :: xs) := ⟨Nat.succ_le_succ g.h⟩
section
variable {t u : DS} {E : DN} {ρ ρ' ρ1 ρ2 ρ3 : List Sl} {n : Nat} {te ta tb tl tk to : DT} {τ tr : DTF} {Φ : DK} {Ψ : List D → Nat → Prop} {κ : Con} {i j l : Nat} {d d1 d2 e : D} {ds xs : List D} {b c : DTB} {Θ : Bool → Nat → Prop} {N : List Sl → Nat → Prop} {γ : DG}
/-! what is left to do, by name -/
def cSet (i : Nat) (N : List Sl → Nat → Prop) (ρ : List Sl) : DK := fun d n => N (ρ.set i (.val d)) n
def cOwn (i : Nat) (N : List Sl → Nat → Prop) (ρ : List Sl) : List D → Nat → Prop := fun xs n => N (ρ.set i (.own xs)) n
def cAsg (γ : DG) (N : List Sl → Nat → Prop) (ρ : List Sl) : DK := fun d n => γ d ρ n N
def cCall (κ : Con) (Φ : DK) : List D → Nat → Prop := fun ds n => κ ds n Φ
def cTl (tr : DTF) (ρ : List Sl) (Ψ : List D → Nat → Prop) : DK := fun d n => tr ρ n fun ds n2 => Ψ (d :: ds) n2
def cHd (d : D) (Ψ : List D → Nat → Prop) : List D → Nat → Prop := fun ds n => Ψ (d :: ds) n
def cLs (Φ : DK) : List D → Nat → Prop := fun xs n => Φ (.lst xs) n
def cTu (Φ : DK) : List D → Nat → Prop := fun xs n => xs.length ≤ 10000000 ∧ Φ (.tup xs) n
def cLi (Ψ : List D → Nat → Prop) : List D → Nat → Prop := fun xs n => xs.length ≤ 10000000 ∧ Ψ xs n
def cOp (ω : DO) (tb : DT) (ρ : List Sl) (Φ : DK) : DK := fun x n => tb ρ n fun y n2 => ω x y n2 Φ
def cOp2 (ω : DO) (x : D) (Φ : DK) : DK := fun y n2 => ω x y n2 Φ
def cDrop (N : List Sl → Nat → Prop) (ρ : List Sl) : DK := fun _ n => N ρ n
def cIf (t u : DS) (E : DN) (ρ : List Sl) : Bool → Nat → Prop := fun b n => if b = true then t E ρ n else u E ρ n
def cPar (tb : DT) (i j : Nat) (N : List Sl → Nat → Prop) (ρ : List Sl) : DK := fun d n1 => tb ρ n1 fun e n2 => N ((ρ.set i (.val d)).set j (.val e)) n2
def cPar2 (d : D) (i j : Nat) (N : List Sl → Nat → Prop) (ρ : List Sl) : DK := fun e n2 => N ((ρ.set i (.val d)).set j (.val e)) n2
def cP3a (tb tl : DT) (i j l : Nat) (N : List Sl → Nat → Prop) (ρ : List Sl) : DK := fun d n1 => tb ρ n1 fun e n2 => tl ρ n2 fun f n3 => N (((ρ.set i (.val d)).set j (.val e)).set l (.val f)) n3
def cP3b (d : D) (tl : DT) (i j l : Nat) (N : List Sl → Nat → Prop) (ρ : List Sl) : DK := fun e n2 => tl ρ n2 fun f n3 => N (((ρ.set i (.val d)).set j (.val e)).set l (.val f)) n3
def cP3c (d e : D) (i j l : Nat) (N : List Sl → Nat → Prop) (ρ : List Sl) : DK := fun f n3 => N (((ρ.set i (.val d)).set j (.val e)).set l (.val f)) n3
def cFor (γ : DG) (t : DS) (E : DN) (ρ : List Sl) : List D → Nat → Prop := fun its n => forW γ t E its ρ n
def cApp (i : Nat) (xs : List D) (N : List Sl → Nat → Prop) (ρ : List Sl) : DK := fun d n1 => xs.length < 10000000 ∧ N (ρ.set i (.own (xs ++ [d]))) n1
def cNot (Θ : Bool → Nat → Prop) : Bool → Nat → Prop := fun b n => Θ (!b) n
def cAnd (c : DTB) (ρ : List Sl) (Θ : Bool → Nat → Prop) : Bool → Nat → Prop := fun v n => if v = true then c ρ n Θ else Θ false n
def cOr (c : DTB) (ρ : List Sl) (Θ : Bool → Nat → Prop) : Bool → Nat → Prop := fun v n => if v = true then Θ true n else c ρ n Θ
def cIfE (ta tb : DT) (ρ : List Sl) (Φ : DK) : Bool → Nat → Prop := fun v n => if v = true then ta ρ n Φ else tb ρ n Φ
def cIfF (t u : DTF) (ρ : List Sl) (Ψ : List D → Nat → Prop) : Bool → Nat → Prop := fun v n => if v = true then t ρ n Ψ else u ρ n Ψ
def cIs (f : D → Option Bool) (Φ : DK) : DK := fun d n => ∃ b, f d = some b ∧ Φ (.bl b) n
def cLc (γ : DG) (tt : DTB) (te : DT) (vs : List Nat) (ρ : List Sl) (Ψ : List D → Nat → Prop) : List D → Nat → Prop := fun its n => its.length ≤ 10000000 ∧ lcW (lcS γ tt te (wipeS ρ vs)) its [] n Ψ
def cIt (tt : DTB) (te : DT) (Ξ : Option D → Nat → Prop) : List Sl → Nat → Prop := fun ρ n => tt ρ n fun b n3 => if b = true then te ρ n3 fun y n4 => Ξ (some y) n4 else Ξ none n3
def cTt (te : DT) (Ξ : Option D → Nat → Prop) (ρ : List Sl) : Bool → Nat → Prop := fun b n => if b = true then te ρ n fun y n4 => Ξ (some y) n4 else Ξ none n
def cSo (Ξ : Option D → Nat → Prop) : DK := fun y n => Ξ (some y) n
def cStr (tl tk : DT) (Ψ : List D → Nat → Prop) (ρ : List Sl) : DK := fun x n => tl ρ n (mS tk Ψ ρ x)
def cSi (i : Nat) (xs : List D) (ti : DT) (N : List Sl → Nat → Prop) (ρ : List Sl) : DK := fun d n1 => ti ρ n1 fun j n2 => match j with
    | .int j => (0 ≤ j ∧ j < (xs.length : Int)) ∧ N (ρ.set i (.own (xs.set j.toNat d))) n2
    | _ => False
def cSj (i : Nat) (xs : List D) (d : D) (N : List Sl → Nat → Prop) (ρ : List Sl) : DK := fun j n2 => match j with
    | .int j => (0 ≤ j ∧ j < (xs.length : Int)) ∧ N (ρ.set i (.own (xs.set j.toNat d))) n2
    | _ => False
def cFrm (tl : DT) (ρ : List Sl) (Ψ : List D → Nat → Prop) : DK := fun d n => tl ρ n fun e n2 => match d, e with
  | .lst xs, .int i => Ψ (DL.cutD xs (some i) none) n2
  | _, _ => False
def cFrm2 (d : D) (Ψ : List D → Nat → Prop) : DK := fun e n2 => match d, e with
  | .lst xs, .int i => Ψ (DL.cutD xs (some i) none) n2
  | _, _ => False
def cTo (tl : DT) (ρ : List Sl) (Ψ : List D → Nat → Prop) : DK := fun d n => tl ρ n fun e n2 => match d, e with
  | .lst xs, .int i => Ψ (DL.cutD xs none (some i)) n2
  | .scr ns, .int i => Ψ ((DL.cutD ns none (some i)).map D.int) n2
  | _, _ => False
def cTo2 (d : D) (Ψ : List D → Nat → Prop) : DK := fun e n2 => match d, e with
  | .lst xs, .int i => Ψ (DL.cutD xs none (some i)) n2
  | .scr ns, .int i => Ψ ((DL.cutD ns none (some i)).map D.int) n2
  | _, _ => False
def cRp (tb : DT) (ρ : List Sl) (Ψ : List D → Nat → Prop) : DK := fun x n => tb ρ n fun y n2 => wRepF x y n2 Ψ
def cRp2 (x : D) (Ψ : List D → Nat → Prop) : DK := fun y n2 => wRepF x y n2 Ψ
def cR2 (tb : DT) (ρ : List Sl) (Ψ : List D → Nat → Prop) : DK := fun d n => tb ρ n fun e n2 => match d, e with
  | .int i, .int j => (-(2 ^ 62) ≤ i ∧ i < 2 ^ 62 ∧ -(2 ^ 62) ≤ j ∧ j < 2 ^ 62) ∧ Ψ (rng i (j - i).toNat) n2
  | _, _ => False
def cR22 (d : D) (Ψ : List D → Nat → Prop) : DK := fun e n2 => match d, e with
  | .int i, .int j => (-(2 ^ 62) ≤ i ∧ i < 2 ^ 62 ∧ -(2 ^ 62) ≤ j ∧ j < 2 ^ 62) ∧ Ψ (rng i (j - i).toNat) n2
  | _, _ => False
def cBt (Φ : DK) : DK := fun d n => match d with
  | .int i => Φ (.int (Builtin.Int.intBits i : Nat)) n
  | _ => False
def cFl (Φ : DK) : DK := fun d n => flatD d = true ∧ Φ d n
def cTab (k1 v1 k2 v2 k3 v3 : Int) (Φ : DK) : DK := fun d n => match d with
  | .int i => (i = k1 ∧ Φ (.int v1) n) ∨ (i = k2 ∧ Φ (.int v2) n) ∨ (i = k3 ∧ Φ (.int v3) n)
  | _ => False
instance  : Stp (DN.nx ⟨N, Φ⟩ ρ n) (N ρ n) := ⟨fun h => h⟩
instance  : Stp (DN.rt ⟨N, Φ⟩ d n) (Φ d n) := ⟨fun h => h⟩
instance  : Stp (sNext E ρ n) (E.nx ρ n) := ⟨fun h => h⟩
instance  : Stp (sSeq t u E ρ n) (t ⟨u E, E.rt⟩ ρ n) := ⟨fun h => h⟩
instance  : Stp (sSet te i E ρ n) (te ρ n (cSet i E.nx ρ)) := ⟨fun h => h⟩
instance [g : Pt ρ i (.val d) ρ'] : Stp (cSet i N ρ d n) (N ρ' n) := ⟨fun h => by unfold cSet; rw [g.h]; exact h⟩
instance  : Stp (sOwn τ i E ρ n) (τ ρ n (cOwn i E.nx ρ)) := ⟨fun h => h⟩
instance [g : Pt ρ i (.own xs) ρ'] : Stp (cOwn i N ρ xs n) (N ρ' n) := ⟨fun h => by unfold cOwn; rw [g.h]; exact h⟩
instance  : Stp (sAsg te γ E ρ n) (te ρ n (cAsg γ E.nx ρ)) := ⟨fun h => h⟩
instance {is : List Nat} [g : Pts is ds ρ ρ'] : Stp (cAsg (gTp is) N ρ (.tup ds) n) (N ρ' n) := ⟨fun h => by show _ ∧ _; rw [g.h.2]; exact ⟨g.h.1, h⟩⟩
instance {is : List Nat} [g : Pts is ds ρ ρ'] : Stp (cAsg (gLs is) N ρ (.lst ds) n) (N ρ' n) := ⟨fun h => by show _ ∧ _; rw [g.h.2]; exact ⟨g.h.1, h⟩⟩
instance {is : List Nat} [g : Pts is ds ρ ρ'] : Stp (gTp is (.tup ds) ρ n N) (N ρ' n) := ⟨fun h => by show _ ∧ _; rw [g.h.2]; exact ⟨g.h.1, h⟩⟩
instance [g : Pt ρ i (.val d) ρ'] : Stp (gNm i d ρ n N) (N ρ' n) := ⟨fun h => by unfold gNm; rw [g.h]; exact h⟩
instance  : Stp (sRet te E ρ n) (te ρ n E.rt) := ⟨fun h => h⟩
instance  : Stp (sDrop te E ρ n) (te ρ n (cDrop E.nx ρ)) := ⟨fun h => h⟩
instance  : Stp (cDrop N ρ d n) (N ρ n) := ⟨fun h => h⟩
instance [g : Gt ρ i (.own xs)] [k : Pt ρ i (.val (.lst xs)) ρ'] : Stp (sFrz i t E ρ n) (t E ρ' n) := ⟨fun h => i_frz g.h (by rw [k.h]; exact h)⟩
instance  : Stp (dCall κ τ ρ n Φ) (τ ρ n (cCall κ Φ)) := ⟨fun h => h⟩
instance  : Stp (cCall κ Φ ds n) (κ ds n Φ) := ⟨fun h => h⟩
instance  : Stp (dNil ρ n Ψ) (Ψ [] n) := ⟨fun h => h⟩
instance  : Stp (dCons ta tr ρ n Ψ) (ta ρ n (cTl tr ρ Ψ)) := ⟨fun h => h⟩
instance  : Stp (cTl tr ρ Ψ d n) (tr ρ n (cHd d Ψ)) := ⟨fun h => h⟩
instance  : Stp (cHd d Ψ ds n) (Ψ (d :: ds) n) := ⟨fun h => h⟩
instance [g : Gt ρ i (.val d)] : Stp (dVar i ρ n Φ) (Φ d n) := ⟨fun h => i_var g.h h⟩
instance  : Stp (dC d ρ n Φ) (Φ d n) := ⟨fun h => h⟩
instance  : Stp (dF τ ρ n Φ) (τ ρ n (cLs Φ)) := ⟨fun h => h⟩
instance  : Stp (cLs Φ xs n) (Φ (.lst xs) n) := ⟨fun h => h⟩
instance  : Stp (dTup τ ρ n Φ) (τ ρ n (cTu Φ)) := ⟨fun h => h⟩
instance  : Stp (dLst τ ρ n Ψ) (τ ρ n (cLi Ψ)) := ⟨fun h => h⟩
instance [g : Sh 60 xs] : Stp (cTu Φ xs n) (Φ (.tup xs) n) := ⟨fun h => ⟨Nat.le_trans g.h (by omega), h⟩⟩
instance [g : Sh 60 xs] : Stp (cLi Ψ xs n) (Ψ xs n) := ⟨fun h => ⟨Nat.le_trans g.h (by omega), h⟩⟩
instance {ω : DO} : Stp (dOp ω ta tb ρ n Φ) (ta ρ n (cOp ω tb ρ Φ)) := ⟨fun h => h⟩
instance {ω : DO} : Stp (cOp ω tb ρ Φ d n) (tb ρ n (cOp2 ω d Φ)) := ⟨fun h => h⟩
instance {ω : DO} : Stp (cOp2 ω d Φ e n) (ω d e n Φ) := ⟨fun h => h⟩
instance  : Stp (sIf b t u E ρ n) (b ρ n (cIf t u E ρ)) := ⟨fun h => h⟩
instance  : Stp (cIf t u E ρ true n) (t E ρ n) := ⟨fun h => j_t h⟩
instance  : Stp (cIf t u E ρ false n) (u E ρ n) := ⟨fun h => j_f h⟩
instance  : Stp (sPar ta tb i j E ρ n) (ta ρ n (cPar tb i j E.nx ρ)) := ⟨fun h => h⟩
instance  : Stp (cPar tb i j N ρ d n) (tb ρ n (cPar2 d i j N ρ)) := ⟨fun h => h⟩
instance [a : Pt ρ i (.val d) ρ1] [b : Pt ρ1 j (.val e) ρ2] : Stp (cPar2 d i j N ρ e n) (N ρ2 n) := ⟨fun h => by unfold cPar2; rw [a.h, b.h]; exact h⟩
instance  : Stp (sPar3 ta tb tl i j l E ρ n) (ta ρ n (cP3a tb tl i j l E.nx ρ)) := ⟨fun h => h⟩
instance  : Stp (cP3a tb tl i j l N ρ d n) (tb ρ n (cP3b d tl i j l N ρ)) := ⟨fun h => h⟩
instance  : Stp (cP3b d tl i j l N ρ e n) (tl ρ n (cP3c d e i j l N ρ)) := ⟨fun h => h⟩
instance [a : Pt ρ i (.val d) ρ1] [b : Pt ρ1 j (.val e) ρ2] [k : Pt ρ2 l (.val d1) ρ3] : Stp (cP3c d e i j l N ρ d1 n) (N ρ3 n) := ⟨fun h => by unfold cP3c; rw [a.h, b.h, k.h]; exact h⟩
instance  : Stp (sFor τ γ t E ρ n) (τ ρ n (cFor γ t E ρ)) := ⟨fun h => h⟩
instance  : Stp (cFor γ t E ρ xs n) (forW γ t E xs ρ n) := ⟨fun h => h⟩
instance [g : Gt ρ i (.own xs)] : Stp (sApp i te E ρ n) (te ρ n (cApp i xs E.nx ρ)) := ⟨fun h => j_app g.h h⟩
instance  : Stp (dB te ρ n Θ) (te ρ n (mB Θ)) := ⟨fun h => h⟩
instance {v : Bool} : Stp (mB Θ (.bl v) n) (Θ v n) := ⟨fun h => h⟩
instance  : Stp (dNot b ρ n Θ) (b ρ n (cNot Θ)) := ⟨fun h => h⟩
instance  : Stp (cNot Θ true n) (Θ false n) := ⟨fun h => h⟩
instance  : Stp (cNot Θ false n) (Θ true n) := ⟨fun h => h⟩
instance  : Stp (dAnd b c ρ n Θ) (b ρ n (cAnd c ρ Θ)) := ⟨fun h => h⟩
instance  : Stp (cAnd c ρ Θ true n) (c ρ n Θ) := ⟨fun h => j_t h⟩
instance  : Stp (cAnd c ρ Θ false n) (Θ false n) := ⟨fun h => j_f h⟩
instance  : Stp (dOr b c ρ n Θ) (b ρ n (cOr c ρ Θ)) := ⟨fun h => h⟩
instance  : Stp (cOr c ρ Θ true n) (Θ true n) := ⟨fun h => j_t h⟩
instance  : Stp (cOr c ρ Θ false n) (c ρ n Θ) := ⟨fun h => j_f h⟩
instance  : Stp (dIf b ta tb ρ n Φ) (b ρ n (cIfE ta tb ρ Φ)) := ⟨fun h => h⟩
instance  : Stp (cIfE ta tb ρ Φ true n) (ta ρ n Φ) := ⟨fun h => j_t h⟩
instance  : Stp (cIfE ta tb ρ Φ false n) (tb ρ n Φ) := ⟨fun h => j_f h⟩
instance {t u : DTF} : Stp (dIfF b t u ρ n Ψ) (b ρ n (cIfF t u ρ Ψ)) := ⟨fun h => h⟩
instance {t u : DTF} : Stp (cIfF t u ρ Ψ true n) (t ρ n Ψ) := ⟨fun h => j_t h⟩
instance {t u : DTF} : Stp (cIfF t u ρ Ψ false n) (u ρ n Ψ) := ⟨fun h => j_f h⟩
instance  : Stp (dAndV ta tb ρ n Φ) (ta ρ n (mAnd tb ρ Φ)) := ⟨fun h => h⟩
instance  : Stp (mAnd tb ρ Φ (.bl true) n) (tb ρ n Φ) := ⟨fun h => by unfold mAnd; simpa using h⟩
instance  : Stp (mAnd tb ρ Φ (.bl false) n) (Φ (.bl false) n) := ⟨fun h => by unfold mAnd; simpa using h⟩
instance  : Stp (dOrV ta tb ρ n Φ) (ta ρ n (mOr tb ρ Φ)) := ⟨fun h => h⟩
instance  : Stp (mOr tb ρ Φ (.bl true) n) (Φ (.bl true) n) := ⟨fun h => by unfold mOr; simpa using h⟩
instance  : Stp (mOr tb ρ Φ (.bl false) n) (tb ρ n Φ) := ⟨fun h => by unfold mOr; simpa using h⟩
instance  : Stp (dNotV ta ρ n Φ) (ta ρ n (mNot Φ)) := ⟨fun h => h⟩
instance  : Stp (mNot Φ (.bl true) n) (Φ (.bl false) n) := ⟨fun h => h⟩
instance  : Stp (mNot Φ (.bl false) n) (Φ (.bl true) n) := ⟨fun h => h⟩
instance  : Stp (dMeth κ true to ρ n Φ) (to ρ n (mF κ Φ)) := ⟨fun h => j_mtF h⟩
instance  : Stp (dMeth κ false to ρ n Φ) (to ρ n (mC κ Φ)) := ⟨fun h => j_mtC h⟩
instance {p : Int} {f x y z : List Int} : Stp (mF κ Φ (.fnc p f x y z) n) (κ [.fnc p f x y z] n Φ) := ⟨fun h => h⟩
instance {p : Int} {f : List Int} : Stp (mC κ Φ (.crv p f) n) (κ [.crv p f] n Φ) := ⟨fun h => h⟩
instance {p : Int} {f : List Int} : Stp (km_prime [.crv p f] n Φ) (Φ (I p) n) := ⟨fun h => um_prime h⟩
instance {p : Int} {f : List Int} : Stp (km_polynomial [.crv p f] n Φ) (Φ (L f) n) := ⟨fun h => um_polynomial h⟩
instance {p : Int} {f x y z : List Int} : Stp (km_curve [.fnc p f x y z] n Φ) (Φ (.crv p f) n) := ⟨fun h => um_curve h⟩
instance {p : Int} {f x y z : List Int} : Stp (km_top [.fnc p f x y z] n Φ) (Φ (L x) n) := ⟨fun h => um_top h⟩
instance {p : Int} {f x y z : List Int} : Stp (km_side [.fnc p f x y z] n Φ) (Φ (L y) n) := ⟨fun h => um_side h⟩
instance {p : Int} {f x y z : List Int} : Stp (km_bottom [.fnc p f x y z] n Φ) (Φ (L z) n) := ⟨fun h => um_bottom h⟩
instance {p : Int} {f x y z : List Int} : Stp (k_parts_of [.fnc p f x y z] n Φ) (Φ (.tup [I p, L f, L x, L y, L z]) n) := ⟨fun h => u_parts_of h⟩
instance {p : Int} {f x y z : List Int} : Stp (k_check_function [.fnc p f x y z] n Φ) (Φ .non n) := ⟨fun h => u_check_function h⟩
instance {f : D → Option Bool} : Stp (dIsT te f ρ n Φ) (te ρ n (cIs f Φ)) := ⟨fun h => h⟩
instance {p : Int} {f x y z : List Int} : Stp (cIs fFnc Φ (.fnc p f x y z) n) (Φ (.bl true) n) := ⟨fun h => ⟨true, rfl, h⟩⟩
instance {p : Int} {f : List Int} : Stp (cIs fCrv Φ (.crv p f) n) (Φ (.bl true) n) := ⟨fun h => ⟨true, rfl, h⟩⟩
instance {p : Int}  : Stp (cIs fInt Φ (.int p) n) (Φ (.bl true) n) := ⟨fun h => ⟨true, rfl, h⟩⟩
instance {a b : Int} : Stp (wAdd (.int a) (.int b) n Φ) (Φ (.int (a + b)) n) := ⟨fun h => j_addi h⟩
instance {a b : Int} : Stp (wSub (.int a) (.int b) n Φ) (Φ (.int (a - b)) n) := ⟨fun h => j_subi h⟩
instance {a b : Int} : Stp (wGt (.int a) (.int b) n Φ) (Φ (.bl (decide (b < a))) n) := ⟨fun h => j_gti h⟩
instance {a b : Int} : Stp (wGe (.int a) (.int b) n Φ) (Φ (.bl (decide (b ≤ a))) n) := ⟨fun h => j_gei h⟩
instance {a b : Int} : Stp (wLt (.int a) (.int b) n Φ) (Φ (.bl (decide (a < b))) n) := ⟨fun h => j_lti h⟩
instance {a b : Int} : Stp (wLe (.int a) (.int b) n Φ) (Φ (.bl (decide (a ≤ b))) n) := ⟨fun h => j_lei h⟩
instance {a b : Int} : Stp (wEq (.int a) (.int b) n Φ) (Φ (.bl (decide (a = b))) n) := ⟨fun h => j_eqi h⟩
instance {a b : Int} : Stp (wNe (.int a) (.int b) n Φ) (Φ (.bl (!decide (a = b))) n) := ⟨fun h => j_nei h⟩
instance {a b : List Int} : Stp (wEq (L a) (L b) n Φ) (Φ (.bl (decide (a = b))) n) := ⟨fun h => j_eqL h⟩
instance {a b : List Int} : Stp (wNe (L a) (L b) n Φ) (Φ (.bl (!decide (a = b))) n) := ⟨fun h => j_neL h⟩
instance {a : List Int} : Stp (wEq (L a) (.lst []) n Φ) (Φ (.bl (decide (a = []))) n) := ⟨fun h => j_eq0 h⟩
instance {a : List Int} : Stp (wNe (L a) (.lst []) n Φ) (Φ (.bl (!decide (a = []))) n) := ⟨fun h => j_ne0 h⟩
instance  : Stp (wIsN .non .non n Φ) (Φ (.bl true) n) := ⟨fun h => h⟩
instance {p : Int} {f x y z : List Int} : Stp (wIsN (.fnc p f x y z) .non n Φ) (Φ (.bl false) n) := ⟨fun h => h⟩
instance  : Stp (wNotN .non .non n Φ) (Φ (.bl false) n) := ⟨fun h => h⟩
instance {p : Int} {f x y z : List Int} : Stp (wNotN (.fnc p f x y z) .non n Φ) (Φ (.bl true) n) := ⟨fun h => h⟩
instance {p : Int}  : Stp (wIsN (.int p) .non n Φ) (Φ (.bl false) n) := ⟨fun h => h⟩
instance  : Stp (wIsB (.bl true) (.bl true) n Φ) (Φ (.bl true) n) := ⟨fun h => j_isB (by rw [decide_eq_true rfl]; exact h)⟩
instance  : Stp (wNotB (.bl true) (.bl true) n Φ) (Φ (.bl false) n) := ⟨fun h => j_notB (by rw [decide_eq_true rfl]; exact h)⟩
instance {a : Int} : Stp (dNeg (dC (.int a)) ρ n Φ) (Φ (.int (-a)) n) := ⟨fun h => h⟩
instance {a : List Int} : Stp (kLen [L a] n Φ) (Φ (.int (a.length : Int)) n) := ⟨fun h => j_lenL h⟩
instance {a : List Int} : Stp (kLen [.scr a] n Φ) (Φ (.int (a.length : Int)) n) := ⟨fun h => j_lenS h⟩
instance {a : Int} : Stp (kInt [.int a] n Φ) (Φ (.int a) n) := ⟨fun h => j_int h⟩
instance {a b : Int} : Stp (kMax [.int a, .int b] n Φ) (Φ (.int (max a b)) n) := ⟨fun h => j_max h⟩
instance {a b c : Int} : Stp (kMin3 [.int a, .int b, .int c] n Φ) (Φ (.int (min (min a b) c)) n) := ⟨fun h => j_min3 h⟩
instance {a : Int} : Stp (kAbs [.int a] n Φ) (Φ (.int (a.natAbs : Int)) n) := ⟨fun h => j_abs h⟩
instance  : Stp (kRepr [.bl true] n Φ) (Φ (.str "True") n) := ⟨fun h => j_repr h⟩
instance  : Stp (kRepr [.bl false] n Φ) (Φ (.str "False") n) := ⟨fun h => j_repr h⟩
instance {a : List Int} : Stp (kSum [L a] n Φ) (Φ (.int a.sum) n) := ⟨fun h => kSum_l a n Φ h⟩
instance  : Stp (iSeq te ρ n Ψ) (te ρ n (mL Ψ)) := ⟨fun h => h⟩
instance  : Stp (iSeqT te ρ n Ψ) (te ρ n (mT Ψ)) := ⟨fun h => h⟩
instance  : Stp (iEnm te ρ n Ψ) (te ρ n (mE Ψ)) := ⟨fun h => h⟩
instance  : Stp (iRg1 te ρ n Ψ) (te ρ n (mR Ψ)) := ⟨fun h => h⟩
instance  : Stp (mL Ψ (.lst xs) n) (Ψ xs n) := ⟨fun h => h⟩
instance  : Stp (mT Ψ (.tup xs) n) (Ψ xs n) := ⟨fun h => h⟩
instance  : Stp (mE Ψ (.lst xs) n) (Ψ (enm xs) n) := ⟨fun h => h⟩
instance  : Stp (fList te ρ n Ψ) (te ρ n (mLs Ψ)) := ⟨fun h => h⟩
instance  : Stp (mLs Ψ (.lst xs) n) (Ψ xs n) := ⟨fun h => h⟩
instance {tt : DTB} {vs : List Nat} : Stp (dLc τ γ tt te vs ρ n Ψ) (τ ρ n (cLc γ tt te vs ρ Ψ)) := ⟨fun h => h⟩
instance {tt : DTB} {Ξ : Option D → Nat → Prop} : Stp (lcS γ tt te ρ d n Ξ) (γ d ρ n (cIt tt te Ξ)) := ⟨fun h => h⟩
instance {tt : DTB} {Ξ : Option D → Nat → Prop} : Stp (cIt tt te Ξ ρ n) (tt ρ n (cTt te Ξ ρ)) := ⟨fun h => h⟩
instance {Ξ : Option D → Nat → Prop} : Stp (cTt te Ξ ρ true n) (te ρ n (cSo Ξ)) := ⟨fun h => j_t h⟩
instance {Ξ : Option D → Nat → Prop} : Stp (cTt te Ξ ρ false n) (Ξ none n) := ⟨fun h => j_f h⟩
instance {Ξ : Option D → Nat → Prop} : Stp (cSo Ξ d n) (Ξ (some d) n) := ⟨fun h => h⟩
instance  : Stp (dYes ρ n Θ) (Θ true n) := ⟨fun h => h⟩
instance  : Stp (fStride te tl tk ρ n Ψ) (te ρ n (cStr tl tk Ψ ρ)) := ⟨fun h => h⟩
instance  : Stp (cStr tl tk Ψ ρ d n) (tl ρ n (mS tk Ψ ρ d)) := ⟨fun h => h⟩
instance {a : Int} : Stp (mS tk Ψ ρ d (.int a) n) (tk ρ n (mS2 a Ψ d)) := ⟨fun h => h⟩
instance [g : Gt ρ i (.own xs)] : Stp (sSetI i ta tb E ρ n) (tb ρ n (cSi i xs ta E.nx ρ)) := ⟨fun h => by unfold sSetI; rw [g.h]; exact h⟩
instance  : Stp (cSi i xs ta N ρ d n) (ta ρ n (cSj i xs d N ρ)) := ⟨fun h => h⟩
instance  : Stp (fFrom te tl ρ n Ψ) (te ρ n (cFrm tl ρ Ψ)) := ⟨fun h => h⟩
instance  : Stp (cFrm tl ρ Ψ d n) (tl ρ n (cFrm2 d Ψ)) := ⟨fun h => h⟩
instance {a : Int} : Stp (cFrm2 (.lst xs) Ψ (.int a) n) (Ψ (DL.cutD xs (some a) none) n) := ⟨fun h => h⟩
instance  : Stp (fTo te tl ρ n Ψ) (te ρ n (cTo tl ρ Ψ)) := ⟨fun h => h⟩
instance  : Stp (cTo tl ρ Ψ d n) (tl ρ n (cTo2 d Ψ)) := ⟨fun h => h⟩
instance {a : Int} : Stp (cTo2 (.lst xs) Ψ (.int a) n) (Ψ (DL.cutD xs none (some a)) n) := ⟨fun h => h⟩
instance {ns : List Int} {a : Int} : Stp (cTo2 (.scr ns) Ψ (.int a) n) (Ψ ((DL.cutD ns none (some a)).map D.int) n) := ⟨fun h => h⟩
instance [g : Gt ρ i (.own xs)] [k : Pt ρ i (.val (.lst xs)) ρ'] : Stp (dLend i te ρ n Φ) (te ρ' n (cFl Φ)) := ⟨fun h => by unfold dLend; rw [g.h]; show te (ρ.set i _) n (cFl Φ); rw [k.h]; exact h⟩
instance {a : Int} : Stp (cFl Φ (.int a) n) (Φ (.int a) n) := ⟨fun h => ⟨rfl, h⟩⟩
instance {a : Int} [g : Ai xs a d] : Stp (wIx (.tup xs) (.int a) n Φ) (Φ d n) := ⟨fun h => ⟨d, g.h, h⟩⟩
instance {a : Int} [g : Ai xs a d] : Stp (wIx (.lst xs) (.int a) n Φ) (Φ d n) := ⟨fun h => ⟨d, g.h, h⟩⟩
instance  : Stp (wEq (.lst []) (.lst []) n Φ) (Φ (.bl true) n) := ⟨fun h => j_eqL (a := []) (b := []) h⟩
instance  : Stp (wNe (.lst []) (.lst []) n Φ) (Φ (.bl false) n) := ⟨fun h => j_neL (a := []) (b := []) h⟩
instance  : Stp (fRep ta tb ρ n Ψ) (ta ρ n (cRp tb ρ Ψ)) := ⟨fun h => h⟩
instance  : Stp (cRp tb ρ Ψ d n) (tb ρ n (cRp2 d Ψ)) := ⟨fun h => h⟩
instance  : Stp (cRp2 d Ψ e n) (wRepF d e n Ψ) := ⟨fun h => h⟩
instance  : Stp (iRg2 ta tb ρ n Ψ) (ta ρ n (cR2 tb ρ Ψ)) := ⟨fun h => h⟩
instance  : Stp (cR2 tb ρ Ψ d n) (tb ρ n (cR22 d Ψ)) := ⟨fun h => h⟩
instance  : Stp (dBits te ρ n Φ) (te ρ n (cBt Φ)) := ⟨fun h => h⟩
instance {a : Int} : Stp (cBt Φ (.int a) n) (Φ (.int (Builtin.Int.intBits a : Nat)) n) := ⟨fun h => h⟩
instance {k1 v1 k2 v2 k3 v3 : Int} : Stp (dTab3 k1 v1 k2 v2 k3 v3 te ρ n Φ) (te ρ n (cTab k1 v1 k2 v2 k3 v3 Φ)) := ⟨fun h => h⟩
instance [g : Gt ρ i (.own xs)] [k : Pt ρ i (.val (.lst xs)) ρ'] : Stp (dLendB i b ρ n Θ) (b ρ' n Θ) := ⟨fun h => by unfold dLendB; rw [g.h]; show b (ρ.set i _) n Θ; rw [k.h]; exact h⟩
/-! with something to be shown -/
theorem q_tu (hl : ds.length ≤ 10000000) (h : Φ (.tup ds) n) : cTu Φ ds n := ⟨hl, h⟩
theorem q_li (hl : ds.length ≤ 10000000) (h : Ψ ds n) : cLi Ψ ds n := ⟨hl, h⟩
theorem q_app (hl : xs.length < 10000000) (h : ∀ ρ', ρ' = ρ.set i (.own (xs ++ [d])) → N ρ' n) : cApp i xs N ρ d n := ⟨hl, h _ rfl⟩
theorem q_lc {tt : DTB} {vs : List Nat} [g : Wp ρ vs ρ'] (hl : xs.length ≤ 10000000) (h : lcW (lcS γ tt te ρ') xs [] n Ψ) : cLc γ tt te vs ρ Ψ xs n := ⟨hl, by rw [g.h]; exact h⟩
theorem q_not {v w : Bool} (e : v = w) (h : cNot Θ w n) : cNot Θ v n := by rw [e]; exact h
theorem q_ifd {A : Prop} [Decidable A] (h1 : A → t E ρ n) (h2 : ¬ A → u E ρ n) : cIf t u E ρ (decide A) n := j_dec h1 h2
theorem q_ifn {A : Prop} [Decidable A] (h1 : ¬ A → t E ρ n) (h2 : A → u E ρ n) : cIf t u E ρ (!decide A) n := j_ndec h1 h2
theorem q_ift {v : Bool} (e : v = true) (h : t E ρ n) : cIf t u E ρ v n := by rw [e]; exact j_t h
theorem q_iff {v : Bool} (e : v = false) (h : u E ρ n) : cIf t u E ρ v n := by rw [e]; exact j_f h
theorem q_b {v w : Bool} (e : v = w) (h : Θ w n) : Θ v n := by rw [e]; exact h
theorem q_bl {v w : Bool} (e : v = w) (h : Φ (.bl w) n) : Φ (.bl v) n := by rw [e]; exact h
theorem q_si {a : Int} (hj : 0 ≤ a ∧ a < (xs.length : Int)) (h : N (ρ.set i (.own (xs.set a.toNat d))) n) : cSj i xs d N ρ (.int a) n := ⟨hj, h⟩
theorem q_r2 {a b : Int} (hj : -(2 ^ 62) ≤ a ∧ a < 2 ^ 62 ∧ -(2 ^ 62) ≤ b ∧ b < 2 ^ 62) (h : Ψ (rng a (b - a).toNat) n) : cR22 (.int a) Ψ (.int b) n := ⟨hj, h⟩
theorem q_rep {x k : Int} (hk : -(2 ^ 62) < k ∧ k ≤ 10000000) (h : Ψ ((List.replicate k.toNat x).map D.int) n) : wRepF (.lst [.int x]) (.int k) n Ψ := by rw [wRepF_l]; exact ⟨hk, h⟩
end
end KH
end
section
set_option Elab.async false
set_option linter.all false
set_option maxRecDepth 100000
namespace KH
open PySem PySem.Spec PyProof.Rows L2 DL
open MK hiding D X cast_eq
theorem cutD_to1 (xs : List Int) : DL.cutD (xs.map D.int) none (some (-1)) = xs.dropLast.map D.int := by
  unfold DL.cutD
  have e0 : HT.sIx (xs.map D.int).length 0 none = 0 := rfl
  have e1 : HT.sIx (xs.map D.int).length (xs.map D.int).length (some (-1)) = xs.length - 1 := by
    rw [List.length_map]
    show (if (-1 : Int) < 0 then ((-1 : Int) + xs.length).toNat else min (-1 : Int).toNat xs.length) = _
    rw [if_pos (by decide)]; omega
  rw [e0, e1, List.drop_zero, Nat.sub_zero, ← List.map_take, List.dropLast_eq_take]
section
variable {p : Nat} [Pr p]
theorem sr_by (k : Nat) (v : Int) : sr p (List.replicate k 0 ++ [v]) = pl k ((v : Int) : Fin p) := by
  refine ser_ext fun i => ?_
  rw [sr_at, pl_at, List.getD_eq_getElem?_getD, List.getElem?_append]
  by_cases h : i < k
  · rw [if_pos (by simpa using h), List.getElem?_replicate, if_pos h, if_neg (by omega)]; exact cast0
  · rw [if_neg (by simpa using h), List.length_replicate]
    by_cases e : i = k
    · subst e; rw [Nat.sub_self, if_pos rfl]; rfl
    · rw [if_neg e, List.getElem?_eq_none (by simp; omega)]; exact cast0
theorem red_step {ls ys : List Int} (cy : Can p ys) (hy : ys ≠ []) (h0 : ls ≠ []) (hl : ys.length ≤ ls.length) {r v : Int} (hr : r * ys.getLast hy % (p : Int) = 1)
    (hv : ((v : Int) : Fin p) = ((ls.getLast h0 : Int) : Fin p) * ((r : Int) : Fin p)) :
    sr p ls = pl (ls.length - ys.length) ((v : Int) : Fin p) * sr p ys + sr p (addP p ls (sclP p (mulP p (List.replicate (ls.length - ys.length) 0 ++ [v]) ys) (-1))) ∧
    (addP p ls (sclP p (mulP p (List.replicate (ls.length - ys.length) 0 ++ [v]) ys) (-1))).length < ls.length := by
  have e : sr p (addP p ls (sclP p (mulP p (List.replicate (ls.length - ys.length) 0 ++ [v]) ys) (-1))) = sr p ls - pl (ls.length - ys.length) ((v : Int) : Fin p) * sr p ys := by
    rw [scl_neg1, sr_add, sr_neg, sr_mul, sr_by]; grind
  refine ⟨by rw [e]; grind, ?_⟩
  have p1 := List.length_pos_iff.mpr h0
  have p2 := List.length_pos_iff.mpr hy
  have : (addP p ls (sclP p (mulP p (List.replicate (ls.length - ys.length) 0 ++ [v]) ys) (-1))).length ≤ ls.length - 1 := by
    refine (can_add _ _).len_le fun i hi => ?_
    rw [e, sub_at]
    have e1 : (pl (ls.length - ys.length) ((v : Int) : Fin p) * sr p ys) i = ((v : Int) : Fin p) * (if i < ls.length - ys.length then 0 else sr p ys (i - (ls.length - ys.length))) := by
      have : pl (ls.length - ys.length) ((v : Int) : Fin p) * sr p ys = cS ((v : Int) : Fin p) * ((MK.X : Ser p) ^ (ls.length - ys.length) * sr p ys) := by unfold pl; grind
      rw [this, cS_mul, sm_at, X_pow, shk_at]
    rw [e1, if_neg (by omega)]
    by_cases h : i = ls.length - 1
    · subst h
      have e2 : ls.length - 1 - (ls.length - ys.length) = ys.length - 1 := by omega
      rw [e2, sr_last ls h0, sr_last ys hy, hv]
      have ec := cast_inv hr
      grind
    · rw [bd_sr ls i (by omega), bd_sr ys _ (by omega)]; grind
  omega
theorem rem_of {xs ys ls : List Int} (cy : Can p ys) (cl : Can p ls) {q : Ser p} (hq : Pl q) (e : sr p xs = q * sr p ys + sr p ls) (hl : ls.length < ys.length) : remP p xs ys = ls := by
  obtain ⟨N, hN⟩ := hq
  exact (div_eq cy (q := nf p N q) ⟨nf_can _ _, cl, by rw [sr_nf hN]; exact e, hl⟩).2
theorem pl_pl (k : Nat) (c : Fin p) : Pl (pl k c) := ⟨k + 1, fun i hi => by rw [pl_at, if_neg (by omega)]⟩
theorem sub_scl (a b : List Int) : addP p a (sclP p b (-1)) = subP p a b := by rw [scl_neg1]; rfl
theorem mul_sw (a b c : List Int) : mulP p (mulP p a b) c = mulP p (mulP p a c) b := can_eq (can_mul _ _) (can_mul _ _) (by rw [sr_mul, sr_mul, sr_mul, sr_mul]; grind)
end
theorem L_by (k : Nat) (v : Int) : D.lst ((List.replicate k (0 : Int)).map D.int ++ [.int v]) = L (List.replicate k 0 ++ [v]) := by
  show _ = D.lst _
  rw [List.map_append]; rfl
end KH
end
section
set_option Elab.async false
set_option linter.all false
set_option maxRecDepth 100000
namespace KH
open PySem PySem.Spec PyProof.Rows L2 DL
open MK hiding D X cast_eq
theorem lcW_draw {step : D → Nat → (Option D → Nat → Prop) → Prop} {ds : List D} {n : Nat} {Φ : List D → Nat → Prop} (b : Int) (hn : n + ds.length ≤ gmx)
    (hs : ∀ d ∈ ds, ∀ m (Ψ : Option D → Nat → Prop), m + 1 ≤ gmx → (∀ (r : Int) m', m' ≤ m + 1 → 0 ≤ r → r < b → Ψ (some (.int r)) m') → step d m Ψ)
    (h : ∀ (xs : List Int) n', n' ≤ n + ds.length → xs.length = ds.length → (∀ x ∈ xs, 0 ≤ x ∧ x < b) → Φ (xs.map D.int) n') : lcW step ds [] n Φ := by
  refine lcW_inv (fun i acc m => ∃ xs : List Int, acc = xs.map D.int ∧ xs.length = i ∧ m ≤ n + i ∧ ∀ x ∈ xs, 0 ≤ x ∧ x < b) ⟨[], rfl, rfl, Nat.le_refl _, by simp⟩ ?_ ?_
  · rintro i d acc m Ψ hd ⟨xs, rfl, hl, hm, hx⟩ h1 h2
    have hi := (List.getElem?_eq_some_iff.mp hd).1
    refine hs d (List.mem_of_getElem? hd) m Ψ (by omega) fun r m' hm' hr0 hr1 => h1 _ _ ⟨xs ++ [r], by rw [List.map_append]; rfl, by simp [hl], by omega, fun x hx' => ?_⟩
    rcases List.mem_append.mp hx' with hx' | hx'
    · exact hx x hx'
    · rw [List.mem_singleton.mp hx']; exact ⟨hr0, hr1⟩
  · rintro acc m ⟨xs, rfl, hl, hm, hx⟩
    exact h xs m hm hl hx
section
variable {p : Nat} [Pr p]
theorem can_draw {xs : List Int} (h : ∀ x ∈ xs, 0 ≤ x ∧ x < (p : Int)) : Can p (xs ++ [1]) := by
  have pg := Pr.gt (p := p)
  refine ⟨fun x hx => ?_, ?_⟩
  · rcases List.mem_append.mp hx with hx | hx
    · exact h x hx
    · rw [List.mem_singleton.mp hx]; omega
  · refine cut0_last (by simp) ?_
    simp
theorem gcd_1 {a b g : List Int} (h : GcdL p a b g) (hl : g.length = 1) : gcdP p a b = [1] := by
  have g0 : g ≠ [] := fun e => by rw [e] at hl; cases hl
  obtain ⟨r, r1, r2, r3⟩ := inv_ex (p := p) (g.getLast g0) (last_ne h.c g0)
  rw [gcd_scl h.c g0 h.s r3]
  have m := scl_monic h.c g0 r3
  refine can_eq (can_scl _ _) can_one ?_
  rw [sr_one]
  have e := m.1.2
  rw [m.2, hl] at e
  have bd : Bd 1 (sr p (sclP p g r)) := by have := bd_sr (p := p) (sclP p g r); rwa [m.2, hl] at this
  refine ser_ext fun i => ?_
  rw [one_at]
  by_cases hi : i = 0
  · subst hi; rw [if_pos rfl]; exact e
  · rw [if_neg hi]; exact bd i (by omega)
theorem x_ok3 : gcdP 3 [0, 1] (fallP 3 [0, 1]) = [1] ∧ Can 3 [0, 1] := ⟨gcd_one (s := []) (t := [1]) (by decide +kernel), canB_ok (by decide +kernel)⟩
theorem x_ok5 : gcdP 5 [0, 1] (fallP 5 [0, 1]) = [1] ∧ Can 5 [0, 1] := ⟨gcd_one (s := []) (t := [1]) (by decide +kernel), canB_ok (by decide +kernel)⟩
theorem x_ok7 : gcdP 7 [0, 1] (fallP 7 [0, 1]) = [1] ∧ Can 7 [0, 1] := ⟨gcd_one (s := []) (t := [1]) (by decide +kernel), canB_ok (by decide +kernel)⟩
theorem x_ok11 : gcdP 11 [0, 1] (fallP 11 [0, 1]) = [1] ∧ Can 11 [0, 1] := ⟨gcd_one (s := []) (t := [1]) (by decide +kernel), canB_ok (by decide +kernel)⟩
theorem x_ok : gcdP p [0, 1] (fallP p [0, 1]) = [1] ∧ Can p [0, 1] := by
  rcases (Pr.h (p := p)) with rfl | rfl | rfl | rfl
  · exact x_ok3
  · exact x_ok5
  · exact x_ok7
  · exact x_ok11
theorem curve_x : CurveOk p [0, 1] := ⟨x_ok.2, .inl rfl, rfl, x_ok.1⟩
theorem fo_pow {f : List Int} {t : T3} {m : Nat} (ht : Fo p f t m) (h1 : 1 ≤ m) : ∀ k : Nat, Fo p f (powT p f t k) (1 + k * (m + 8))
  | 0 => by rw [powT_0]; exact fo_least ht.cv (can_one.ne (by simp)) ⟨by simp, by simp, by simp⟩
  | k + 1 => by
    have a := fo_pow ht h1 k
    have := fo_times a ht
    rw [pow_step (m := 1) a.nm rfl ht.nm ht.nm (powT_1 ht.nm).symm] at this
    have e : 1 + k * (m + 8) + m + 8 = 1 + (k + 1) * (m + 8) := by rw [Nat.add_mul]; omega
    rwa [e] at this
theorem Fo.up {f : List Int} {t : T3} {m k : Nat} (h : Fo p f t m) (hm : m ≤ k) : Fo p f t k := ⟨h.cv, h.nm, ⟨Nat.le_trans h.b.1 hm, Nat.le_trans h.b.2.1 hm, Nat.le_trans h.b.2.2 hm⟩⟩
end
section
variable {p : Nat} [hp : Pr p] {n : Nat} {Φ : DK} {f : List Int} {t : T3}
theorem us_due (h1 : Fo p f t nfn) (hd : due p f t) (h : Φ (KH.Fd p f (sourceP p f t)) n) : k_whose_slope [KH.Fd p f t] n Φ := u_slope_source h1 (fun _ => h) (fun z => absurd hd z)
theorem us_not (h1 : Fo p f t nfn) (hd : ¬ due p f t) (h : Φ .non n) : k_whose_slope [KH.Fd p f t] n Φ := u_slope_source h1 (fun z => absurd z hd) (fun _ => h)
theorem us_any (h1 : Fo p f t nfn) (h : ∀ d, Φ d n) : k_whose_slope [KH.Fd p f t] n Φ := u_slope_source h1 (fun _ => h _) (fun _ => h _)
end
theorem atI_rmap {α : Type} (g : Nat → α) {p i : Nat} (h : i < p) : atI ((List.range p).map g) (i : Int) = some (g i) := atI_nat (by rw [List.getElem?_map, List.getElem?_range h]; rfl)
theorem atI_rlast {α : Type} (g : Nat → α) {p : Nat} (h : 0 < p) : atI ((List.range p).map g) (-1) = some (g (p - 1)) := by
  have e1 : L2.ixN p (-1) = some (p - 1) := by
    unfold L2.ixN
    rw [if_neg (by omega), if_pos (by omega)]
    congr 1; omega
  unfold L2.atI
  rw [List.length_map, List.length_range, e1, Option.bind_some, List.getElem?_map, List.getElem?_range (by omega)]; rfl
/-! comparisons of like things -/
theorem plain_T (t : T3) : DL.plain (T t) = true := by
  show plainL [L t.1, L t.2.1, L t.2.2] = true
  rw [plainL, plainL, plainL, plainL, plain_L, plain_L, plain_L]; rfl
theorem dep_T (t : T3) : dep (T t) = 2 := by
  show depL [L t.1, L t.2.1, L t.2.2] + 1 = 2
  rw [depL, depL, depL, depL, dep_L, dep_L, dep_L]; rfl
theorem plainL_map {α : Type} (g : α → T3) : ∀ l : List α, plainL (l.map fun i => T (g i)) = true
  | [] => rfl
  | x :: l => by rw [List.map_cons, plainL, plain_T, plainL_map g l]; rfl
theorem depL_map {α : Type} (g : α → T3) : ∀ l : List α, depL (l.map fun i => T (g i)) ≤ 2
  | [] => by rw [List.map_nil, depL]; omega
  | x :: l => by rw [List.map_cons, depL, dep_T]; have := depL_map g l; omega
theorem ne_self {d : D} {n : Nat} {Φ : DK} (hp : DL.plain d = true) (hd : dep d ≤ 64) (hb : ∀ b, d ≠ .bl b) (hi : ∀ b, d ≠ .int b) (hs : ∀ b, d ≠ .str b) (h : Φ (.bl false) n) : wNe d d n Φ := by
  have : wNe d d n Φ = (okEq d d ∧ Φ (.bl (!eqD d d)) n) := by
    cases d with
    | bl b => exact absurd rfl (hb b)
    | int b => exact absurd rfl (hi b)
    | str b => exact absurd rfl (hs b)
    | _ => rfl
  rw [this, eqD_self d hp]
  exact ⟨⟨hp, hp, hd, hd⟩, h⟩
theorem eq_self {d : D} {n : Nat} {Φ : DK} (hp : DL.plain d = true) (hd : dep d ≤ 64) (hb : ∀ b, d ≠ .bl b) (hi : ∀ b, d ≠ .int b) (hs : ∀ b, d ≠ .str b) (h : Φ (.bl true) n) : wEq d d n Φ := by
  have : wEq d d n Φ = (okEq d d ∧ Φ (.bl (eqD d d)) n) := by
    cases d with
    | bl b => exact absurd rfl (hb b)
    | int b => exact absurd rfl (hi b)
    | str b => exact absurd rfl (hs b)
    | _ => rfl
  rw [this, eqD_self d hp]
  exact ⟨⟨hp, hp, hd, hd⟩, h⟩
theorem ne_T (t : T3) {n : Nat} {Φ : DK} (h : Φ (.bl false) n) : wNe (T t) (T t) n Φ := ne_self (plain_T t) (by rw [dep_T]; omega) (by intro b e; cases e) (by intro b e; cases e) (by intro b e; cases e) h
theorem eq_T (t : T3) {n : Nat} {Φ : DK} (h : Φ (.bl true) n) : wEq (T t) (T t) n Φ := eq_self (plain_T t) (by rw [dep_T]; omega) (by intro b e; cases e) (by intro b e; cases e) (by intro b e; cases e) h
theorem ne_Ts {α : Type} (g : α → T3) (l : List α) {n : Nat} {Φ : DK} (h : Φ (.bl false) n) : wNe (.lst (l.map fun i => T (g i))) (.lst (l.map fun i => T (g i))) n Φ :=
  ne_self (by rw [DL.plain]; exact plainL_map g l) (by rw [dep]; have := depL_map g l; omega) (by intro b e; cases e) (by intro b e; cases e) (by intro b e; cases e) h
instance {n : Nat} {Φ : DK} {a b c : List Int} : Stp (wNe (.tup [L a, L b, L c]) (.tup [L a, L b, L c]) n Φ) (Φ (.bl false) n) := ⟨ne_T (a, b, c)⟩
instance {n : Nat} {Φ : DK} {a b c : List Int} : Stp (wEq (.tup [L a, L b, L c]) (.tup [L a, L b, L c]) n Φ) (Φ (.bl true) n) := ⟨eq_T (a, b, c)⟩
instance {n : Nat} {Φ : DK} {b : Bool} : Stp (wNe (.bl b) (.bl b) n Φ) (Φ (.bl false) n) := ⟨fun h => j_neb (by rw [decide_eq_true rfl]; exact h)⟩
instance {n : Nat} {Φ : DK} {b : Str} : Stp (wNe (.str b) (.str b) n Φ) (Φ (.bl false) n) := ⟨fun h => j_nes (by rw [decide_eq_true rfl]; exact h)⟩
instance {n : Nat} {Φ : DK} {p : Int} {f x y z : List Int} : Stp (wEqF (.fnc p f x y z) (.fnc p f x y z) n Φ) (Φ (.bl true) n) := ⟨fun h => ⟨⟨p, f, x, y, z, rfl, rfl⟩, h⟩⟩
instance {n : Nat} {Φ : DK} {p : Int} {f x y z : List Int} : Stp (k__law_seen [.fnc p f x y z] n Φ) (Φ (.tup [L x, L y, L z]) n) := ⟨u__law_seen⟩
theorem q_tab {i : Int} {n : Nat} {Φ : DK} (hi : i = 3 ∨ i = 5 ∨ i = 7) (h : ∀ v : Int, v = 7 ∨ v = 5 ∨ v = 3 → Φ (.int v) n) : cTab 3 7 5 5 7 3 Φ (.int i) n := by
  rcases hi with e | e | e
  · exact .inl ⟨e, h 7 (.inl rfl)⟩
  · exact .inr (.inl ⟨e, h 5 (.inr (.inl rfl))⟩)
  · exact .inr (.inr ⟨e, h 3 (.inr (.inr rfl))⟩)
theorem pick6 {r : Int} (h0 : 0 ≤ r) (h1 : r < 6) : ∃ q : Pp, atI [I 3, I 3, I 5, I 3, I 5, I 7] r = some (I q.1) ∧ ((q.1 : Int) = 3 ∨ (q.1 : Int) = 5 ∨ (q.1 : Int) = 7) := by
  rcases (by omega : r = 0 ∨ r = 1 ∨ r = 2 ∨ r = 3 ∨ r = 4 ∨ r = 5) with rfl | rfl | rfl | rfl | rfl | rfl
  · exact ⟨⟨3, pr3⟩, rfl, .inl rfl⟩
  · exact ⟨⟨3, pr3⟩, rfl, .inl rfl⟩
  · exact ⟨⟨5, pr5⟩, rfl, .inr (.inl rfl)⟩
  · exact ⟨⟨3, pr3⟩, rfl, .inl rfl⟩
  · exact ⟨⟨5, pr5⟩, rfl, .inr (.inl rfl)⟩
  · exact ⟨⟨7, pr7⟩, rfl, .inr (.inr rfl)⟩
theorem pick7 {r : Int} (h0 : 0 ≤ r) (h1 : r < 7) : ∃ s : Int, atI [I 3, I 3, I 5, I 1, I 3, I 5, I 7] r = some (I s) ∧ (s = 1 ∨ s = 3 ∨ s = 5 ∨ s = 7) := by
  rcases (by omega : r = 0 ∨ r = 1 ∨ r = 2 ∨ r = 3 ∨ r = 4 ∨ r = 5 ∨ r = 6) with rfl | rfl | rfl | rfl | rfl | rfl | rfl
  · exact ⟨3, rfl, by omega⟩
  · exact ⟨3, rfl, by omega⟩
  · exact ⟨5, rfl, by omega⟩
  · exact ⟨1, rfl, by omega⟩
  · exact ⟨3, rfl, by omega⟩
  · exact ⟨5, rfl, by omega⟩
  · exact ⟨7, rfl, by omega⟩
end KH
end
section
set_option Elab.async false
set_option linter.all false
set_option maxRecDepth 100000
namespace KH
open PySem PySem.Spec PyProof.Rows L2 DL
open MK hiding D X cast_eq
def kF__law_generator : ConF := fun ds n Φ => ∃ ns : List Int, ds = [.scr ns, .int 0] ∧ ns.length ≤ 1000 ∧ ∀ u v : Int, 0 ≤ u → 0 ≤ v → v < 2 ^ 31 → Φ [.int u, .int v, .int 0] n
theorem mon_gen : MonF kF__law_generator := fun _ _ _ _ h ⟨ns, e, l, q⟩ => ⟨ns, e, l, fun u v a b c => h _ _ (q u v a b c)⟩
theorem len_gen : ∀ ds n Φ, kF__law_generator ds n Φ → ds.length = 2 := fun _ _ _ ⟨_, e, _⟩ => e ▸ rfl
section
variable {te tv : DT} {τ : DTF} {ρ : List Sl} {n : Nat} {Φ : DK} {Ψ : List D → Nat → Prop} {κ : DL.Con} {κ' : ConF} {i : Nat} {k : Int} {E : DN} {d : D} {xs : List D} {N : List Sl → Nat → Prop}
def cSg (k : Int) (N : List Sl → Nat → Prop) (ρ : List Sl) : DK := fun d n1 => ∃ z n2, d = .int z ∧ n1 ≤ n2 ∧ okG k n2 z ∧ N ρ n2
def cGn (k : Int) (Φ : DK) (n : Nat) : Prop := ∀ z : Int, okG k n z → Φ (.int z) n
def cFc (κ : ConF) (Ψ : List D → Nat → Prop) : List D → Nat → Prop := fun ds n => κ ds n Ψ
def cGc (κ : DL.Con) (Φ : DK) : List D → Nat → Prop := fun xs n1 => ∃ (u v w : Int) (m : Nat), xs = [.int u, .int v, .int w] ∧ 0 ≤ u ∧ 0 ≤ v ∧ v < 2 ^ 31 ∧ 0 ≤ w ∧ w ≤ (m : Int) ∧ κ [.gen] m fun d _ => d = .bl true ∧ Φ (.bl true) n1
instance [g : Gt ρ i (.val .gen)] : Stp (dGen i 0 ρ n Φ) (cGn 0 Φ n) := ⟨fun h => ⟨g.h, .inl rfl, h⟩⟩
instance [g : Gt ρ i (.val .gen)] : Stp (dGen i 1 ρ n Φ) (cGn 1 Φ n) := ⟨fun h => ⟨g.h, .inr (.inl rfl), h⟩⟩
instance [g : Gt ρ i (.val .gen)] : Stp (dGen i 2 ρ n Φ) (cGn 2 Φ n) := ⟨fun h => ⟨g.h, .inr (.inr rfl), h⟩⟩
instance [g : Gt ρ i (.val .gen)] : Stp (sSetG i 0 tv E ρ n) (tv ρ n (cSg 0 E.nx ρ)) := ⟨fun h => ⟨g.h, .inl rfl, h⟩⟩
instance [g : Gt ρ i (.val .gen)] : Stp (sSetG i 1 tv E ρ n) (tv ρ n (cSg 1 E.nx ρ)) := ⟨fun h => ⟨g.h, .inr (.inl rfl), h⟩⟩
instance [g : Gt ρ i (.val .gen)] : Stp (sSetG i 2 tv E ρ n) (tv ρ n (cSg 2 E.nx ρ)) := ⟨fun h => ⟨g.h, .inr (.inr rfl), h⟩⟩
instance : Stp (fCall κ' τ ρ n Ψ) (τ ρ n (cFc κ' Ψ)) := ⟨fun h => h⟩
instance : Stp (cFc κ' Ψ xs n) (κ' xs n Ψ) := ⟨fun h => h⟩
instance : Stp (dGenC κ τ ρ n Φ) (τ ρ n (cGc κ Φ)) := ⟨fun h => h⟩
theorem q_sg {z : Int} (n2 : Nat) (hn : n ≤ n2) (hz : okG k n2 z) (h : N ρ n2) : cSg k N ρ (.int z) n := ⟨z, n2, rfl, hn, hz, h⟩
theorem q_gc {u v : Int} (hu : 0 ≤ u) (hv : 0 ≤ v) (hv2 : v < 2 ^ 31) (h : Φ (.bl true) n) : cGc k__law_right Φ [.int u, .int v, .int 0] n :=
  ⟨u, v, 0, 0, rfl, hu, hv, hv2, by decide, by decide, u__law_right (by decide) fun _ => ⟨rfl, h⟩⟩
theorem u__law_generator {ns : List Int} (h1 : ns.length ≤ 1000) (h : ∀ u v : Int, 0 ≤ u → 0 ≤ v → v < 2 ^ 31 → Ψ [.int u, .int v, .int 0] n) : kF__law_generator [.scr ns, .int 0] n Ψ := ⟨ns, rfl, h1, h⟩
end
theorem bits12 {b : Int} (h : 0 < b ∧ b ≤ 12) : (Builtin.Int.intBits b : Nat) / 30 = 0 := by
  rcases (by omega : b = 1 ∨ b = 2 ∨ b = 3 ∨ b = 4 ∨ b = 5 ∨ b = 6 ∨ b = 7 ∨ b = 8 ∨ b = 9 ∨ b = 10 ∨ b = 11 ∨ b = 12) with rfl | rfl | rfl | rfl | rfl | rfl | rfl | rfl | rfl | rfl | rfl | rfl <;> decide +kernel
theorem cv3 : CurveOk 3 [0, 2, 0, 1] := ⟨can_b3, .inr (.inl rfl), rfl, gcd_b3⟩
theorem cv11 : CurveOk 11 [1, 1, 0, 1] := ⟨can_b11, .inr (.inl rfl), rfl, gcd_b11⟩
theorem fo3 {t : T3} (h : Nrm 3 t) (hb : B3 4 t) : Fo 3 [0, 2, 0, 1] t nfn := (⟨cv3, h, hb⟩ : Fo 3 _ t 4).up (by decide)
theorem can3 {l : List Int} (h : canB 3 l = true) : Can 3 l := canB_ok h
theorem can11 {l : List Int} (h : canB 11 l = true) : Can 11 l := canB_ok h
end KH
end
section
set_option Elab.async false
set_option linter.all false
set_option maxRecDepth 100000
set_option maxHeartbeats 2000000
namespace KH
open PySem PySem.Spec PyProof.Rows L2 DL
open MK hiding D X
variable {P : Program} {w : World} {K : PySem.W.Frag} {mg : Str → Option Value} {base : Heap} {C F : Addr}
theorem ok_is_whole (B : Bi K mg C F) (A : At K mg "is_whole" "is_whole" (top 12)) : Fn P w K mg base C F 1 "is_whole" k_is_whole := by
  obtain ⟨f, fd, Fd, hm⟩ := A
  refine ⟨⟨f, fd, ["value"], ?_, hm, Fd.kp, Fd.bindsN fun _ _ _ _ _ _ us hl => match us, hl with | [_], _ => rfl⟩, mon_cF⟩
  have S : FnScope ["value"] ["value"] (defScope (top 12)) := ⟨rfl, rfl, rfl, by decide +kernel, rfl, by decide +kernel, by decide +kernel⟩
  obtain ⟨pr, BPR, BPRt⟩ := B.PR
  refine fn_ok (k := 0) Fd S (len_cF fun _ => rfl) fun g cdv A outer s H E hr => ?_
  have hu := hu_of hr
  have hu1 := hu1_of hr
  refine ⟨_, _, (ss_one (st_ret (de_and (de_isInt (de_var 0) B.isinstance B.int_) (de_one (de_not (de_isBool (de_var 0) B.isinstance B.bool_)))))), ?_⟩
  intro ds n Φ hh
  obtain ⟨i, rfl, -, h⟩ := hh
  try dsimp only at hl
  have hlim : lim = 1000000 := rfl
  simp only [sSeq, sNext, sFrz, sDrop, sRet, sIf, gNm, gTp, gLs, setL, sAsg, sSet, sOwn, sPar, sPar3, sPar3O, dVar, dC, dF, dOp, dB, dAnd, dOr, dNot, dAndV, dOrV, dNotV, dIf, dIfF, dNil, dCons, dLst_e, dTup_e, wSub_i, wMod_i, wFdiv_i, wPow_i, wAdd_i, wAdd_l, wMul_i, wMul_l, fRep_e, wRepF_l, wLt_i, wLe_i, wGt_i, wGe_i, isNo, wIsN_n, wNotN_n, wIsB_b, wNotB_b, wEq_i, wNe_i, wNe_b, wNe_s, wEq_L, wNe_L, wEq_L0, wNe_L0, wNotIn, dNeg_e, nNeg_i, iRg1, iRg2, iRg3, iSeq, iSeqT, iEnm, sFor, dLc_e, lcS, dYes, wipeS, dCall, dMeth, dPrime, dPoly, dCurve, dParts, kLen_l, kLen_t, kLen_s, kInt_i, kMax_i, kMin3_i, kAbs_i, kRepr_b, fList, dBits, dIsT, fInt, fBool, fLst, fCrv, fFnc, wIx_l, wIx_t, wIx_s, fFrom, fTo, fStride, dTab3, dLend, dLendB, flatD, sPop, sApp, sSetI, sFldD, sNewF, sFrzF, slots0, List.map_cons, List.map_nil, List.replicate, List.cons_append, List.nil_append, List.append_nil, List.getElem?_cons_zero, List.getElem?_cons_succ, List.set_cons_zero, List.set_cons_succ, List.length_map, rng_len, rngD_len, enm_len, List.length_replicate, List.length_append, ← List.map_append, List.length_cons, List.length_nil, Nat.reduceAdd, Nat.reduceSub, Nat.reduceLeDiff, Bool.not_true, Bool.not_false, if_true, Bool.false_eq_true, if_false, true_and, and_true, Bool.not_eq_true']
  refine ⟨true, rfl, ?_⟩
  rw [if_pos rfl]
  exact ⟨false, rfl, h _ rfl⟩
theorem ok_is_between (B : Bi K mg C F) (A : At K mg "is_between" "is_between" (top 13)) (c_is_whole : Fn P w K mg base C F 1 "is_whole" k_is_whole) : Fn P w K mg base C F 2 "is_between" k_is_between := by
  obtain ⟨f, fd, Fd, hm⟩ := A
  refine ⟨⟨f, fd, ["value", "low", "high"], ?_, hm, Fd.kp, Fd.bindsN fun _ _ _ _ _ _ us hl => match us, hl with | [_, _, _], _ => rfl⟩, mon_cF⟩
  have S : FnScope ["value", "low", "high"] ["value", "low", "high"] (defScope (top 13)) := ⟨rfl, rfl, rfl, by decide +kernel, rfl, by decide +kernel, by decide +kernel⟩
  obtain ⟨pr, BPR, BPRt⟩ := B.PR
  refine fn_ok (k := 1) Fd S (len_cF fun _ => rfl) fun g cdv A outer s H E hr => ?_
  have hu := hu_of hr
  have hu1 := hu1_of hr
  refine ⟨_, _, (ss_one (st_ret (de_and (de_call c_is_whole hr (da_cons (de_var 0) da_nil)) (de_and (de_cmp o_ge (de_var 0) (de_var 1)) (de_one (de_or (de_cmp o_isN (de_var 2) de_non) (de_one (de_cmp o_le (de_var 0) (de_var 2))))))))), ?_⟩
  intro ds n Φ hh
  obtain ⟨⟨v, lo, hi⟩, rfl, -, h⟩ := hh
  try dsimp only at hl
  have hlim : lim = 1000000 := rfl
  simp only [sSeq, sNext, sFrz, sDrop, sRet, sIf, gNm, gTp, gLs, setL, sAsg, sSet, sOwn, sPar, sPar3, sPar3O, dVar, dC, dF, dOp, dB, dAnd, dOr, dNot, dAndV, dOrV, dNotV, dIf, dIfF, dNil, dCons, dLst_e, dTup_e, wSub_i, wMod_i, wFdiv_i, wPow_i, wAdd_i, wAdd_l, wMul_i, wMul_l, fRep_e, wRepF_l, wLt_i, wLe_i, wGt_i, wGe_i, isNo, wIsN_n, wNotN_n, wIsB_b, wNotB_b, wEq_i, wNe_i, wNe_b, wNe_s, wEq_L, wNe_L, wEq_L0, wNe_L0, wNotIn, dNeg_e, nNeg_i, iRg1, iRg2, iRg3, iSeq, iSeqT, iEnm, sFor, dLc_e, lcS, dYes, wipeS, dCall, dMeth, dPrime, dPoly, dCurve, dParts, kLen_l, kLen_t, kLen_s, kInt_i, kMax_i, kMin3_i, kAbs_i, kRepr_b, fList, dBits, dIsT, fInt, fBool, fLst, fCrv, fFnc, wIx_l, wIx_t, wIx_s, fFrom, fTo, fStride, dTab3, dLend, dLendB, flatD, sPop, sApp, sSetI, sFldD, sNewF, sFrzF, slots0, List.map_cons, List.map_nil, List.replicate, List.cons_append, List.nil_append, List.append_nil, List.getElem?_cons_zero, List.getElem?_cons_succ, List.set_cons_zero, List.set_cons_succ, List.length_map, rng_len, rngD_len, enm_len, List.length_replicate, List.length_append, ← List.map_append, List.length_cons, List.length_nil, Nat.reduceAdd, Nat.reduceSub, Nat.reduceLeDiff, Bool.not_true, Bool.not_false, if_true, Bool.false_eq_true, if_false, true_and, and_true, Bool.not_eq_true']
  refine u_is_whole ?_
  have := h _ rfl
  by_cases h1 : lo ≤ v <;> simpa [h1] using this
theorem ok_check_number (B : Bi K mg C F) (A : At K mg "check_number" "check_number" (top 14)) (c_is_between : Fn P w K mg base C F 2 "is_between" k_is_between) : Fn P w K mg base C F 3 "check_number" k_check_number := by
  obtain ⟨f, fd, Fd, hm⟩ := A
  refine ⟨⟨f, fd, ["number", "low", "high"], ?_, hm, Fd.kp, Fd.bindsN fun _ _ _ _ _ _ us hl => match us, hl with | [_, _, _], _ => rfl⟩, mon_cF⟩
  have S : FnScope ["number", "low", "high"] ["number", "low", "high"] (defScope (top 14)) := ⟨rfl, rfl, rfl, by decide +kernel, rfl, by decide +kernel, by decide +kernel⟩
  obtain ⟨pr, BPR, BPRt⟩ := B.PR
  refine fn_ok (k := 2) Fd S (len_cF fun _ => rfl) fun g cdv A outer s H E hr => ?_
  have hu := hu_of hr
  have hu1 := hu1_of hr
  refine ⟨_, _, (ss_one (st_if (db_not (db_val (de_call c_is_between hr (da_cons (de_var 0) (da_cons (de_var 1) (da_cons (de_var 2) da_nil)))))) ss_never ss_nil)), ?_⟩
  intro ds n Φ hh
  obtain ⟨⟨v, lo, hi⟩, rfl, hl, h⟩ := hh
  try dsimp only at hl
  have hlim : lim = 1000000 := rfl
  simp only [sSeq, sNext, sFrz, sDrop, sRet, sIf, gNm, gTp, gLs, setL, sAsg, sSet, sOwn, sPar, sPar3, sPar3O, dVar, dC, dF, dOp, dB, dAnd, dOr, dNot, dAndV, dOrV, dNotV, dIf, dIfF, dNil, dCons, dLst_e, dTup_e, wSub_i, wMod_i, wFdiv_i, wPow_i, wAdd_i, wAdd_l, wMul_i, wMul_l, fRep_e, wRepF_l, wLt_i, wLe_i, wGt_i, wGe_i, isNo, wIsN_n, wNotN_n, wIsB_b, wNotB_b, wEq_i, wNe_i, wNe_b, wNe_s, wEq_L, wNe_L, wEq_L0, wNe_L0, wNotIn, dNeg_e, nNeg_i, iRg1, iRg2, iRg3, iSeq, iSeqT, iEnm, sFor, dLc_e, lcS, dYes, wipeS, dCall, dMeth, dPrime, dPoly, dCurve, dParts, kLen_l, kLen_t, kLen_s, kInt_i, kMax_i, kMin3_i, kAbs_i, kRepr_b, fList, dBits, dIsT, fInt, fBool, fLst, fCrv, fFnc, wIx_l, wIx_t, wIx_s, fFrom, fTo, fStride, dTab3, dLend, dLendB, flatD, sPop, sApp, sSetI, sFldD, sNewF, sFrzF, slots0, List.map_cons, List.map_nil, List.replicate, List.cons_append, List.nil_append, List.append_nil, List.getElem?_cons_zero, List.getElem?_cons_succ, List.set_cons_zero, List.set_cons_succ, List.length_map, rng_len, rngD_len, enm_len, List.length_replicate, List.length_append, ← List.map_append, List.length_cons, List.length_nil, Nat.reduceAdd, Nat.reduceSub, Nat.reduceLeDiff, Bool.not_true, Bool.not_false, if_true, Bool.false_eq_true, if_false, true_and, and_true, Bool.not_eq_true']
  refine u_is_between ?_
  have := h _ rfl
  simpa [hl.1, hl.2] using this
theorem ok_check_prime (B : Bi K mg C F) (A : At K mg "check_prime" "check_prime" (top 15)) (c_is_whole : Fn P w K mg base C F 1 "is_whole" k_is_whole) : Fn P w K mg base C F 2 "check_prime" k_check_prime := by
  obtain ⟨f, fd, Fd, hm⟩ := A
  refine ⟨⟨f, fd, ["p"], ?_, hm, Fd.kp, Fd.bindsN fun _ _ _ _ _ _ us hl => match us, hl with | [_], _ => rfl⟩, mon_cF⟩
  have S : FnScope ["p"] ["p"] (defScope (top 15)) := ⟨rfl, rfl, rfl, by decide +kernel, rfl, by decide +kernel, by decide +kernel⟩
  obtain ⟨pr, BPR, BPRt⟩ := B.PR
  refine fn_ok (k := 1) Fd S (len_cF fun _ => rfl) fun g cdv A outer s H E hr => ?_
  have hu := hu_of hr
  have hu1 := hu1_of hr
  refine ⟨_, _, (ss_one (st_if (DW.db (dw_or (db_not (db_val (de_call c_is_whole hr (da_cons (de_var 0) da_nil)))) (dw_or1 (db_cmp o_notIn (de_var 0) (de_gtup (ns := [3, 5, 7, 11, 13]) rfl BPR BPRt))))) ss_never ss_nil)), ?_⟩
  intro ds n Φ hh
  obtain ⟨⟨p, hp⟩, rfl, -, h⟩ := hh
  try dsimp only at hl
  have hlim : lim = 1000000 := rfl
  simp only [sSeq, sNext, sFrz, sDrop, sRet, sIf, gNm, gTp, gLs, setL, sAsg, sSet, sOwn, sPar, sPar3, sPar3O, dVar, dC, dF, dOp, dB, dAnd, dOr, dNot, dAndV, dOrV, dNotV, dIf, dIfF, dNil, dCons, dLst_e, dTup_e, wSub_i, wMod_i, wFdiv_i, wPow_i, wAdd_i, wAdd_l, wMul_i, wMul_l, fRep_e, wRepF_l, wLt_i, wLe_i, wGt_i, wGe_i, isNo, wIsN_n, wNotN_n, wIsB_b, wNotB_b, wEq_i, wNe_i, wNe_b, wNe_s, wEq_L, wNe_L, wEq_L0, wNe_L0, wNotIn, dNeg_e, nNeg_i, iRg1, iRg2, iRg3, iSeq, iSeqT, iEnm, sFor, dLc_e, lcS, dYes, wipeS, dCall, dMeth, dPrime, dPoly, dCurve, dParts, kLen_l, kLen_t, kLen_s, kInt_i, kMax_i, kMin3_i, kAbs_i, kRepr_b, fList, dBits, dIsT, fInt, fBool, fLst, fCrv, fFnc, wIx_l, wIx_t, wIx_s, fFrom, fTo, fStride, dTab3, dLend, dLendB, flatD, sPop, sApp, sSetI, sFldD, sNewF, sFrzF, slots0, List.map_cons, List.map_nil, List.replicate, List.cons_append, List.nil_append, List.append_nil, List.getElem?_cons_zero, List.getElem?_cons_succ, List.set_cons_zero, List.set_cons_succ, List.length_map, rng_len, rngD_len, enm_len, List.length_replicate, List.length_append, ← List.map_append, List.length_cons, List.length_nil, Nat.reduceAdd, Nat.reduceSub, Nat.reduceLeDiff, Bool.not_true, Bool.not_false, if_true, Bool.false_eq_true, if_false, true_and, and_true, Bool.not_eq_true']
  refine u_is_whole ?_
  have := h _ rfl
  dsimp only
  rw [if_neg (by decide)]
  refine ⟨[3, 5, 7, 11, 13], rfl, ?_⟩
  have hm : ((p : Nat) : Int) ∈ [3, 5, 7, 11, 13] := by rcases hp.h with e | e | e | e <;> subst e <;> decide
  rw [if_neg (by simp only [hm, decide_true]; decide)]
  exact this
theorem ok_is_poly_list (B : Bi K mg C F) (A : At K mg "is_poly_list" "is_poly_list" (top 16)) (c_is_between : Fn P w K mg base C F 2 "is_between" k_is_between) : Fn P w K mg base C F 3 "is_poly_list" k_is_poly_list := by
  obtain ⟨f, fd, Fd, hm⟩ := A
  refine ⟨⟨f, fd, ["p", "value"], ?_, hm, Fd.kp, Fd.bindsN fun _ _ _ _ _ _ us hl => match us, hl with | [_, _], _ => rfl⟩, mon_cF⟩
  have S : FnScope ["p", "value", "number"] ["p", "value"] (defScope (top 16)) := ⟨rfl, rfl, rfl, by decide +kernel, rfl, by decide +kernel, by decide +kernel⟩
  obtain ⟨pr, BPR, BPRt⟩ := B.PR
  refine fn_ok (k := 2) Fd S (len_cF fun _ => rfl) fun g cdv A outer s H E hr => ?_
  have hu := hu_of hr
  have hu1 := hu1_of hr
  refine ⟨_, _, (ss_cons (st_if (DW.db (dw_or (db_not (db_val (de_isList (de_var 1) B.isinstance B.list))) (dw_or1 (db_cmp o_gt (de_bi c_len (da_cons (de_var 1) da_nil) B.len) (de_op o_add (de_gint rfl B.MOST_POWER) de_int))))) (ss_one (st_ret de_bl)) ss_nil) (ss_cons (st_if (db_cmp (o_ne hu) (DEf.de (df_lc [("number", 2)] rfl S.nd (di_list (de_var 1)) (blkOk (N := ["p", "value", "number"]) (sc := (defScope (top 16))) (by decide +kernel)) (fun _ _ _ _ _ => tg_name 2 S.nd) tgin_name (fun _ _ _ _ _ => (dts_one (db_not (db_val (de_call c_is_between hr (da_cons (de_var 2) (da_cons de_int (da_cons (de_op o_sub (de_var 0) de_int) da_nil)))))))) (fun _ _ _ _ _ => (de_var 2)))) (DEf.de (df_lst da_nil))) (ss_one (st_ret de_bl)) ss_nil) (ss_one (st_ret (de_or (de_cmp (o_eq hu) (de_var 1) (DEf.de (df_lst da_nil))) (de_one (de_cmp (o_ne hu) (de_ix (de_var 1) (de_neg de_int)) de_int))))))), ?_⟩
  intro ds n Φ hh
  obtain ⟨⟨⟨p, hp⟩, xs⟩, rfl, hl, h⟩ := hh
  try dsimp only at hl
  have hlim : lim = 1000000 := rfl
  simp only [sSeq, sNext, sFrz, sDrop, sRet, sIf, gNm, gTp, gLs, setL, sAsg, sSet, sOwn, sPar, sPar3, sPar3O, dVar, dC, dF, dOp, dB, dAnd, dOr, dNot, dAndV, dOrV, dNotV, dIf, dIfF, dNil, dCons, dLst_e, dTup_e, wSub_i, wMod_i, wFdiv_i, wPow_i, wAdd_i, wAdd_l, wMul_i, wMul_l, fRep_e, wRepF_l, wLt_i, wLe_i, wGt_i, wGe_i, isNo, wIsN_n, wNotN_n, wIsB_b, wNotB_b, wEq_i, wNe_i, wNe_b, wNe_s, wEq_L, wNe_L, wEq_L0, wNe_L0, wNotIn, dNeg_e, nNeg_i, iRg1, iRg2, iRg3, iSeq, iSeqT, iEnm, sFor, dLc_e, lcS, dYes, wipeS, dCall, dMeth, dPrime, dPoly, dCurve, dParts, kLen_l, kLen_t, kLen_s, kInt_i, kMax_i, kMin3_i, kAbs_i, kRepr_b, fList, dBits, dIsT, fInt, fBool, fLst, fCrv, fFnc, wIx_l, wIx_t, wIx_s, fFrom, fTo, fStride, dTab3, dLend, dLendB, flatD, sPop, sApp, sSetI, sFldD, sNewF, sFrzF, slots0, List.map_cons, List.map_nil, List.replicate, List.cons_append, List.nil_append, List.append_nil, List.getElem?_cons_zero, List.getElem?_cons_succ, List.set_cons_zero, List.set_cons_succ, List.length_map, rng_len, rngD_len, enm_len, List.length_replicate, List.length_append, ← List.map_append, List.length_cons, List.length_nil, Nat.reduceAdd, Nat.reduceSub, Nat.reduceLeDiff, Bool.not_true, Bool.not_false, if_true, Bool.false_eq_true, if_false, true_and, and_true, Bool.not_eq_true']
  have h0 := h _ rfl
  refine ⟨true, rfl, ?_⟩
  rw [if_neg (by decide), if_neg (by simp only [decide_eq_true_eq]; have := hl.2; omega)]
  refine ⟨by have := hl.2; omega, ?_⟩
  refine lcW_fil (fun _ => false) ?_ ?_
  · intro d hd n Ψ hΨ
    obtain ⟨x, hx, rfl⟩ := List.mem_map.mp hd
    simp only [sSeq, sNext, sFrz, sDrop, sRet, sIf, gNm, gTp, gLs, setL, sAsg, sSet, sOwn, sPar, sPar3, sPar3O, dVar, dC, dF, dOp, dB, dAnd, dOr, dNot, dAndV, dOrV, dNotV, dIf, dIfF, dNil, dCons, dLst_e, dTup_e, wSub_i, wMod_i, wFdiv_i, wPow_i, wAdd_i, wAdd_l, wMul_i, wMul_l, fRep_e, wRepF_l, wLt_i, wLe_i, wGt_i, wGe_i, isNo, wIsN_n, wNotN_n, wIsB_b, wNotB_b, wEq_i, wNe_i, wNe_b, wNe_s, wEq_L, wNe_L, wEq_L0, wNe_L0, wNotIn, dNeg_e, nNeg_i, iRg1, iRg2, iRg3, iSeq, iSeqT, iEnm, sFor, dLc_e, lcS, dYes, wipeS, dCall, dMeth, dPrime, dPoly, dCurve, dParts, kLen_l, kLen_t, kLen_s, kInt_i, kMax_i, kMin3_i, kAbs_i, kRepr_b, fList, dBits, dIsT, fInt, fBool, fLst, fCrv, fFnc, wIx_l, wIx_t, wIx_s, fFrom, fTo, fStride, dTab3, dLend, dLendB, flatD, sPop, sApp, sSetI, sFldD, sNewF, sFrzF, slots0, List.map_cons, List.map_nil, List.replicate, List.cons_append, List.nil_append, List.append_nil, List.getElem?_cons_zero, List.getElem?_cons_succ, List.set_cons_zero, List.set_cons_succ, List.length_map, rng_len, rngD_len, enm_len, List.length_replicate, List.length_append, ← List.map_append, List.length_cons, List.length_nil, Nat.reduceAdd, Nat.reduceSub, Nat.reduceLeDiff, Bool.not_true, Bool.not_false, if_true, Bool.false_eq_true, if_false, true_and, and_true, Bool.not_eq_true']
    refine u_is_between ?_
    have := hl.1.r x hx
    have e1 : decide (0 ≤ x) = true := decide_eq_true this.1
    have e2 : decide (x ≤ (p : Int) - 1) = true := decide_eq_true (by omega)
    simpa [e1, e2] using hΨ
  · rw [List.filter_eq_nil_iff.mpr (by simp), wNe_00]
    show if false = true then _ else _
    rw [if_neg (by decide)]
    by_cases hx : xs = []
    · rw [if_pos (by simpa using hx)]; exact h0
    · rw [if_neg (by simpa using hx)]
      refine ⟨_, atI_ints (atI_last hx), ?_⟩
      rw [wNe_i]
      have := hl.1.last hx
      rw [decide_eq_false (by omega)]
      exact h0
theorem ok_check_poly (B : Bi K mg C F) (A : At K mg "check_poly" "check_poly" (top 17)) (c_is_poly_list : Fn P w K mg base C F 3 "is_poly_list" k_is_poly_list) : Fn P w K mg base C F 4 "check_poly" k_check_poly := by
  obtain ⟨f, fd, Fd, hm⟩ := A
  refine ⟨⟨f, fd, ["p", "value"], ?_, hm, Fd.kp, Fd.bindsN fun _ _ _ _ _ _ us hl => match us, hl with | [_, _], _ => rfl⟩, mon_cF⟩
  have S : FnScope ["p", "value"] ["p", "value"] (defScope (top 17)) := ⟨rfl, rfl, rfl, by decide +kernel, rfl, by decide +kernel, by decide +kernel⟩
  obtain ⟨pr, BPR, BPRt⟩ := B.PR
  refine fn_ok (k := 3) Fd S (len_cF fun _ => rfl) fun g cdv A outer s H E hr => ?_
  have hu := hu_of hr
  have hu1 := hu1_of hr
  refine ⟨_, _, (ss_one (st_if (db_not (db_val (de_call c_is_poly_list hr (da_cons (de_var 0) (da_cons (de_var 1) da_nil))))) ss_never ss_nil)), ?_⟩
  intro ds n Φ hh
  obtain ⟨⟨⟨p, hp⟩, xs⟩, rfl, hl, h⟩ := hh
  try dsimp only at hl
  have hlim : lim = 1000000 := rfl
  simp only [sSeq, sNext, sFrz, sDrop, sRet, sIf, gNm, gTp, gLs, setL, sAsg, sSet, sOwn, sPar, sPar3, sPar3O, dVar, dC, dF, dOp, dB, dAnd, dOr, dNot, dAndV, dOrV, dNotV, dIf, dIfF, dNil, dCons, dLst_e, dTup_e, wSub_i, wMod_i, wFdiv_i, wPow_i, wAdd_i, wAdd_l, wMul_i, wMul_l, fRep_e, wRepF_l, wLt_i, wLe_i, wGt_i, wGe_i, isNo, wIsN_n, wNotN_n, wIsB_b, wNotB_b, wEq_i, wNe_i, wNe_b, wNe_s, wEq_L, wNe_L, wEq_L0, wNe_L0, wNotIn, dNeg_e, nNeg_i, iRg1, iRg2, iRg3, iSeq, iSeqT, iEnm, sFor, dLc_e, lcS, dYes, wipeS, dCall, dMeth, dPrime, dPoly, dCurve, dParts, kLen_l, kLen_t, kLen_s, kInt_i, kMax_i, kMin3_i, kAbs_i, kRepr_b, fList, dBits, dIsT, fInt, fBool, fLst, fCrv, fFnc, wIx_l, wIx_t, wIx_s, fFrom, fTo, fStride, dTab3, dLend, dLendB, flatD, sPop, sApp, sSetI, sFldD, sNewF, sFrzF, slots0, List.map_cons, List.map_nil, List.replicate, List.cons_append, List.nil_append, List.append_nil, List.getElem?_cons_zero, List.getElem?_cons_succ, List.set_cons_zero, List.set_cons_succ, List.length_map, rng_len, rngD_len, enm_len, List.length_replicate, List.length_append, ← List.map_append, List.length_cons, List.length_nil, Nat.reduceAdd, Nat.reduceSub, Nat.reduceLeDiff, Bool.not_true, Bool.not_false, if_true, Bool.false_eq_true, if_false, true_and, and_true, Bool.not_eq_true']
  refine u_is_poly_list hl ?_
  exact h _ rfl
theorem ok_inverse (B : Bi K mg C F) (A : At K mg "inverse" "inverse" (top 18)) : Fn P w K mg base C F 1 "inverse" k_inverse := by
  obtain ⟨f, fd, Fd, hm⟩ := A
  refine ⟨⟨f, fd, ["p", "number"], ?_, hm, Fd.kp, Fd.bindsN fun _ _ _ _ _ _ us hl => match us, hl with | [_, _], _ => rfl⟩, mon_cF⟩
  have S : FnScope ["p", "number", "low"] ["p", "number"] (defScope (top 18)) := ⟨rfl, rfl, rfl, by decide +kernel, rfl, by decide +kernel, by decide +kernel⟩
  obtain ⟨pr, BPR, BPRt⟩ := B.PR
  refine fn_ok (k := 0) Fd S (len_cF fun _ => rfl) fun g cdv A outer s H E hr => ?_
  have hu := hu_of hr
  have hu1 := hu1_of hr
  refine ⟨_, _, (ss_one (st_ret (de_ix (DEf.de (df_lc [("low", 2)] rfl S.nd (di_rng2 de_int (de_var 0) rfl B.range) (blkOk (N := ["p", "number", "low"]) (sc := (defScope (top 18))) (by decide +kernel)) (fun _ _ _ _ _ => tg_name 2 S.nd) tgin_name (fun _ _ _ _ _ => (dts_one (db_cmp (o_eq hu) (de_op o_mod (de_op o_mul (de_var 2) (de_var 1)) (de_var 0)) de_int))) (fun _ _ _ _ _ => (de_var 2)))) de_int))), ?_⟩
  intro ds n Φ hh
  obtain ⟨⟨⟨p, hp⟩, x⟩, rfl, hl, h⟩ := hh
  try dsimp only at hl
  have hlim : lim = 1000000 := rfl
  simp only [sSeq, sNext, sFrz, sDrop, sRet, sIf, gNm, gTp, gLs, setL, sAsg, sSet, sOwn, sPar, sPar3, sPar3O, dVar, dC, dF, dOp, dB, dAnd, dOr, dNot, dAndV, dOrV, dNotV, dIf, dIfF, dNil, dCons, dLst_e, dTup_e, wSub_i, wMod_i, wFdiv_i, wPow_i, wAdd_i, wAdd_l, wMul_i, wMul_l, fRep_e, wRepF_l, wLt_i, wLe_i, wGt_i, wGe_i, isNo, wIsN_n, wNotN_n, wIsB_b, wNotB_b, wEq_i, wNe_i, wNe_b, wNe_s, wEq_L, wNe_L, wEq_L0, wNe_L0, wNotIn, dNeg_e, nNeg_i, iRg1, iRg2, iRg3, iSeq, iSeqT, iEnm, sFor, dLc_e, lcS, dYes, wipeS, dCall, dMeth, dPrime, dPoly, dCurve, dParts, kLen_l, kLen_t, kLen_s, kInt_i, kMax_i, kMin3_i, kAbs_i, kRepr_b, fList, dBits, dIsT, fInt, fBool, fLst, fCrv, fFnc, wIx_l, wIx_t, wIx_s, fFrom, fTo, fStride, dTab3, dLend, dLendB, flatD, sPop, sApp, sSetI, sFldD, sNewF, sFrzF, slots0, List.map_cons, List.map_nil, List.replicate, List.cons_append, List.nil_append, List.append_nil, List.getElem?_cons_zero, List.getElem?_cons_succ, List.set_cons_zero, List.set_cons_succ, List.length_map, rng_len, rngD_len, enm_len, List.length_replicate, List.length_append, ← List.map_append, List.length_cons, List.length_nil, Nat.reduceAdd, Nat.reduceSub, Nat.reduceLeDiff, Bool.not_true, Bool.not_false, if_true, Bool.false_eq_true, if_false, true_and, and_true, Bool.not_eq_true']
  have pl := Pr.lt (p := p)
  have pg := Pr.gt (p := p)
  refine ⟨by omega, by omega, ?_⟩
  refine lcW_fil (fun d => match d with | .int r => decide (r * x % (p : Int) = 1) | _ => false) ?_ ?_
  · intro d hd n Ψ hΨ
    obtain ⟨i, hi, rfl⟩ := List.mem_map.mp hd
    have := List.mem_range.mp hi
    simp only [sSeq, sNext, sFrz, sDrop, sRet, sIf, gNm, gTp, gLs, setL, sAsg, sSet, sOwn, sPar, sPar3, sPar3O, dVar, dC, dF, dOp, dB, dAnd, dOr, dNot, dAndV, dOrV, dNotV, dIf, dIfF, dNil, dCons, dLst_e, dTup_e, wSub_i, wMod_i, wFdiv_i, wPow_i, wAdd_i, wAdd_l, wMul_i, wMul_l, fRep_e, wRepF_l, wLt_i, wLe_i, wGt_i, wGe_i, isNo, wIsN_n, wNotN_n, wIsB_b, wNotB_b, wEq_i, wNe_i, wNe_b, wNe_s, wEq_L, wNe_L, wEq_L0, wNe_L0, wNotIn, dNeg_e, nNeg_i, iRg1, iRg2, iRg3, iSeq, iSeqT, iEnm, sFor, dLc_e, lcS, dYes, wipeS, dCall, dMeth, dPrime, dPoly, dCurve, dParts, kLen_l, kLen_t, kLen_s, kInt_i, kMax_i, kMin3_i, kAbs_i, kRepr_b, fList, dBits, dIsT, fInt, fBool, fLst, fCrv, fFnc, wIx_l, wIx_t, wIx_s, fFrom, fTo, fStride, dTab3, dLend, dLendB, flatD, sPop, sApp, sSetI, sFldD, sNewF, sFrzF, slots0, List.map_cons, List.map_nil, List.replicate, List.cons_append, List.nil_append, List.append_nil, List.getElem?_cons_zero, List.getElem?_cons_succ, List.set_cons_zero, List.set_cons_succ, List.length_map, rng_len, rngD_len, enm_len, List.length_replicate, List.length_append, ← List.map_append, List.length_cons, List.length_nil, Nat.reduceAdd, Nat.reduceSub, Nat.reduceLeDiff, Bool.not_true, Bool.not_false, if_true, Bool.false_eq_true, if_false, true_and, and_true, Bool.not_eq_true']
    refine ⟨.inl ⟨by omega, by omega⟩, by omega, ?_⟩
    by_cases h1 : (1 + (i : Int)) * x % (p : Int) = 1
    · simpa [h1] using hΨ
    · simpa [h1] using hΨ
  · have hne : (rng 1 ((p : Int) - 1).toNat).filter (fun d => match d with | .int r => decide (r * x % (p : Int) = 1) | _ => false) ≠ [] := by
      obtain ⟨r, h0, h1, h2⟩ := inv_ex x hl
      intro z
      have := List.filter_eq_nil_iff.mp z (.int r) (List.mem_map.mpr ⟨(r - 1).toNat, List.mem_range.mpr (by omega), by congr 1; omega⟩)
      simp only [decide_eq_true_eq] at this
      exact this h2
    refine ⟨_, atI_nat (i := 0) (List.getElem?_eq_getElem (List.length_pos_iff.mpr hne)), ?_⟩
    have hm := List.getElem_mem (List.length_pos_iff.mpr hne)
    generalize ((rng 1 ((p : Int) - 1).toNat).filter (fun d => match d with | .int r => decide (r * x % (p : Int) = 1) | _ => false))[0]'(List.length_pos_iff.mpr hne) = d at hm
    obtain ⟨m1, m2⟩ := List.mem_filter.mp hm
    obtain ⟨i, hi, rfl⟩ := List.mem_map.mp m1
    have := List.mem_range.mp hi
    refine h _ ⟨_, rfl, by omega, by show 1 + (i : Int) < (p : Int); omega, ?_⟩
    simpa using m2
theorem ok_trimmed (B : Bi K mg C F) (A : At K mg "trimmed" "trimmed" (top 19)) : Fn P w K mg base C F 1 "trimmed" k_trimmed := by
  obtain ⟨f, fd, Fd, hm⟩ := A
  refine ⟨⟨f, fd, ["p", "numbers"], ?_, hm, Fd.kp, Fd.bindsN fun _ _ _ _ _ _ us hl => match us, hl with | [_, _], _ => rfl⟩, mon_cF⟩
  have S : FnScope ["p", "numbers", "found", "number"] ["p", "numbers"] (defScope (top 19)) := ⟨rfl, rfl, rfl, by decide +kernel, rfl, by decide +kernel, by decide +kernel⟩
  obtain ⟨pr, BPR, BPRt⟩ := B.PR
  refine fn_ok (k := 0) Fd S (len_cF fun _ => rfl) fun g cdv A outer s H E hr => ?_
  have hu := hu_of hr
  have hu1 := hu1_of hr
  refine ⟨_, _, (ss_cons (st_setLc 2 [("number", 3)] rfl S.nd (di_list (de_var 1)) (blkOk (N := ["p", "numbers", "found", "number"]) (sc := (defScope (top 19))) (by decide +kernel)) (fun _ _ _ _ _ => tg_name 3 S.nd) tgin_name (fun _ _ _ _ _ => dts_nil) (fun _ _ _ _ _ => (de_op o_mod (de_ty c_int (da_cons (de_var 3) da_nil) B.int_) (de_var 0)))) (ss_cons (st_while PassesOwn.never (DW.db (dw_and (db_lend 2 (db_cmp (o_ne hu) (de_var 2) (DEf.de (df_lst da_nil)))) (dw_and1 (db_lend 2 (db_cmp (o_eq hu) (de_ix (de_var 2) (de_neg de_int)) de_int))))) (ss_one (st_pop 2))) (ss_frz 2 (ss_one (st_ret (de_var 2)))))), ?_⟩
  intro ds n Φ hh
  obtain ⟨⟨⟨p, hp⟩, xs⟩, rfl, hl, h⟩ := hh
  try dsimp only at hl
  have hlim : lim = 1000000 := rfl
  simp only [sSeq, sNext, sFrz, sDrop, sRet, sIf, gNm, gTp, gLs, setL, sAsg, sSet, sOwn, sPar, sPar3, sPar3O, dVar, dC, dF, dOp, dB, dAnd, dOr, dNot, dAndV, dOrV, dNotV, dIf, dIfF, dNil, dCons, dLst_e, dTup_e, wSub_i, wMod_i, wFdiv_i, wPow_i, wAdd_i, wAdd_l, wMul_i, wMul_l, fRep_e, wRepF_l, wLt_i, wLe_i, wGt_i, wGe_i, isNo, wIsN_n, wNotN_n, wIsB_b, wNotB_b, wEq_i, wNe_i, wNe_b, wNe_s, wEq_L, wNe_L, wEq_L0, wNe_L0, wNotIn, dNeg_e, nNeg_i, iRg1, iRg2, iRg3, iSeq, iSeqT, iEnm, sFor, dLc_e, lcS, dYes, wipeS, dCall, dMeth, dPrime, dPoly, dCurve, dParts, kLen_l, kLen_t, kLen_s, kInt_i, kMax_i, kMin3_i, kAbs_i, kRepr_b, fList, dBits, dIsT, fInt, fBool, fLst, fCrv, fFnc, wIx_l, wIx_t, wIx_s, fFrom, fTo, fStride, dTab3, dLend, dLendB, flatD, sPop, sApp, sSetI, sFldD, sNewF, sFrzF, slots0, List.map_cons, List.map_nil, List.replicate, List.cons_append, List.nil_append, List.append_nil, List.getElem?_cons_zero, List.getElem?_cons_succ, List.set_cons_zero, List.set_cons_succ, List.length_map, rng_len, rngD_len, enm_len, List.length_replicate, List.length_append, ← List.map_append, List.length_cons, List.length_nil, Nat.reduceAdd, Nat.reduceSub, Nat.reduceLeDiff, Bool.not_true, Bool.not_false, if_true, Bool.false_eq_true, if_false, true_and, and_true, Bool.not_eq_true']
  have pg := Pr.gt (p := p)
  have h0 := h _ rfl
  refine ⟨by omega, ?_⟩
  refine lcW_ints (fun x => x % (p : Int)) ?_ ?_
  · intro x hx n Ψ hΨ
    simp only [sSeq, sNext, sFrz, sDrop, sRet, sIf, gNm, gTp, gLs, setL, sAsg, sSet, sOwn, sPar, sPar3, sPar3O, dVar, dC, dF, dOp, dB, dAnd, dOr, dNot, dAndV, dOrV, dNotV, dIf, dIfF, dNil, dCons, dLst_e, dTup_e, wSub_i, wMod_i, wFdiv_i, wPow_i, wAdd_i, wAdd_l, wMul_i, wMul_l, fRep_e, wRepF_l, wLt_i, wLe_i, wGt_i, wGe_i, isNo, wIsN_n, wNotN_n, wIsB_b, wNotB_b, wEq_i, wNe_i, wNe_b, wNe_s, wEq_L, wNe_L, wEq_L0, wNe_L0, wNotIn, dNeg_e, nNeg_i, iRg1, iRg2, iRg3, iSeq, iSeqT, iEnm, sFor, dLc_e, lcS, dYes, wipeS, dCall, dMeth, dPrime, dPoly, dCurve, dParts, kLen_l, kLen_t, kLen_s, kInt_i, kMax_i, kMin3_i, kAbs_i, kRepr_b, fList, dBits, dIsT, fInt, fBool, fLst, fCrv, fFnc, wIx_l, wIx_t, wIx_s, fFrom, fTo, fStride, dTab3, dLend, dLendB, flatD, sPop, sApp, sSetI, sFldD, sNewF, sFrzF, slots0, List.map_cons, List.map_nil, List.replicate, List.cons_append, List.nil_append, List.append_nil, List.getElem?_cons_zero, List.getElem?_cons_succ, List.set_cons_zero, List.set_cons_succ, List.length_map, rng_len, rngD_len, enm_len, List.length_replicate, List.length_append, ← List.map_append, List.length_cons, List.length_nil, Nat.reduceAdd, Nat.reduceSub, Nat.reduceLeDiff, Bool.not_true, Bool.not_false, if_true, Bool.false_eq_true, if_false, true_and, and_true, Bool.not_eq_true']
    exact ⟨by omega, hΨ⟩
  · generalize hz : xs.map (fun x => x % (p : Int)) = zs
    have ez : trm p xs = cut0 zs := by rw [trm_cut, ← hz]
    rw [ez] at h0
    refine ⟨fun m ρ n' => n' = n ∧ ∃ ys : List Int, ρ = [.val (I p), .val (L xs), .own (ys.map D.int), .un] ∧ m = ys.length ∧ cut0 ys = cut0 zs, ⟨zs.length, rfl, zs, rfl, rfl, rfl⟩, ?_⟩
    rintro m ρ n' ⟨rfl, ys, rfl, rfl, hc⟩
    simp only [sSeq, sNext, sFrz, sDrop, sRet, sIf, gNm, gTp, gLs, setL, sAsg, sSet, sOwn, sPar, sPar3, sPar3O, dVar, dC, dF, dOp, dB, dAnd, dOr, dNot, dAndV, dOrV, dNotV, dIf, dIfF, dNil, dCons, dLst_e, dTup_e, wSub_i, wMod_i, wFdiv_i, wPow_i, wAdd_i, wAdd_l, wMul_i, wMul_l, fRep_e, wRepF_l, wLt_i, wLe_i, wGt_i, wGe_i, isNo, wIsN_n, wNotN_n, wIsB_b, wNotB_b, wEq_i, wNe_i, wNe_b, wNe_s, wEq_L, wNe_L, wEq_L0, wNe_L0, wNotIn, dNeg_e, nNeg_i, iRg1, iRg2, iRg3, iSeq, iSeqT, iEnm, sFor, dLc_e, lcS, dYes, wipeS, dCall, dMeth, dPrime, dPoly, dCurve, dParts, kLen_l, kLen_t, kLen_s, kInt_i, kMax_i, kMin3_i, kAbs_i, kRepr_b, fList, dBits, dIsT, fInt, fBool, fLst, fCrv, fFnc, wIx_l, wIx_t, wIx_s, fFrom, fTo, fStride, dTab3, dLend, dLendB, flatD, sPop, sApp, sSetI, sFldD, sNewF, sFrzF, slots0, List.map_cons, List.map_nil, List.replicate, List.cons_append, List.nil_append, List.append_nil, List.getElem?_cons_zero, List.getElem?_cons_succ, List.set_cons_zero, List.set_cons_succ, List.length_map, rng_len, rngD_len, enm_len, List.length_replicate, List.length_append, ← List.map_append, List.length_cons, List.length_nil, Nat.reduceAdd, Nat.reduceSub, Nat.reduceLeDiff, Bool.not_true, Bool.not_false, if_true, Bool.false_eq_true, if_false, true_and, and_true, Bool.not_eq_true']
    by_cases hy : ys = []
    · subst hy
      rw [if_neg (by simp)]
      rw [← hc] at h0
      exact h0
    · rw [if_pos (by simpa using hy)]
      refine ⟨_, atI_ints (atI_last hy), ?_⟩
      rw [wEq_i]
      show if decide (ys.getLast hy = 0) = true then _ else _
      by_cases h1 : ys.getLast hy = 0
      · rw [if_pos (by simpa using h1)]
        refine ⟨by simpa using hy, ys.length - 1, by have := List.length_pos_iff.mpr hy; omega, rfl, ys.dropLast, by rw [List.map_dropLast], by simp, ?_⟩
        rw [cut0_drop hy h1, hc]
      · rw [if_neg (by simpa using h1)]
        rw [← hc, cut0_last hy h1] at h0
        exact h0
end KH
end
section
set_option Elab.async false
set_option linter.all false
set_option maxRecDepth 100000
set_option maxHeartbeats 2000000
namespace KH
open PySem PySem.Spec PyProof.Rows L2 DL
open MK hiding D X
variable {P : Program} {w : World} {K : PySem.W.Frag} {mg : Str → Option Value} {base : Heap} {C F : Addr}
theorem ok_added (B : Bi K mg C F) (A : At K mg "added" "added" (top 20)) (c_trimmed : Fn P w K mg base C F 1 "trimmed" k_trimmed) : Fn P w K mg base C F 2 "added" k_added := by
  obtain ⟨f, fd, Fd, hm⟩ := A
  refine ⟨⟨f, fd, ["p", "one", "other"], ?_, hm, Fd.kp, Fd.bindsN fun _ _ _ _ _ _ us hl => match us, hl with | [_, _, _], _ => rfl⟩, mon_cF⟩
  have S : FnScope ["p", "one", "other", "size", "low", "high", "at"] ["p", "one", "other"] (defScope (top 20)) := ⟨rfl, rfl, rfl, by decide +kernel, rfl, by decide +kernel, by decide +kernel⟩
  obtain ⟨pr, BPR, BPRt⟩ := B.PR
  refine fn_ok (k := 1) Fd S (len_cF fun _ => rfl) fun g cdv A outer s H E hr => ?_
  have hu := hu_of hr
  have hu1 := hu1_of hr
  refine ⟨_, _, (ss_cons (st_set 3 S.nd (de_bi (c_max rfl) (da_cons (de_bi c_len (da_cons (de_var 1) da_nil) B.len) (da_cons (de_bi c_len (da_cons (de_var 2) da_nil) B.len) da_nil)) B.max)) (ss_cons (st_asg (de_tup (da_cons (de_op o_add (de_var 1) (de_op o_mul (DEf.de (df_lst (da_cons de_int da_nil))) (de_op o_sub (de_var 3) (de_bi c_len (da_cons (de_var 1) da_nil) B.len)))) (da_cons (de_op o_add (de_var 2) (de_op o_mul (DEf.de (df_lst (da_cons de_int da_nil))) (de_op o_sub (de_var 3) (de_bi c_len (da_cons (de_var 2) da_nil) B.len)))) da_nil))) (tg_tup rfl (tgs_cons 4 (tgs_cons 5 tgs_nil S.nd) S.nd))) (ss_one (st_ret (de_call c_trimmed hr (da_cons (de_var 0) (da_cons (DEf.de (df_lc [("at", 6)] rfl S.nd (di_rng1 (de_var 3) rfl B.range) (blkOk (N := ["p", "one", "other", "size", "low", "high", "at"]) (sc := (defScope (top 20))) (by decide +kernel)) (fun _ _ _ _ _ => tg_name 6 S.nd) tgin_name (fun _ _ _ _ _ => dts_nil) (fun _ _ _ _ _ => (de_op o_add (de_ix (de_var 4) (de_var 6)) (de_ix (de_var 5) (de_var 6)))))) da_nil))))))), ?_⟩
  intro ds n Φ hh
  obtain ⟨⟨⟨p, hp⟩, xs, ys⟩, rfl, hl, h⟩ := hh
  try dsimp only at hl
  have hlim : lim = 1000000 := rfl
  simp only [slots0, List.map_cons, List.map_nil, List.length_cons, List.length_nil, Nat.reduceAdd, Nat.reduceSub, List.replicate, List.cons_append, List.nil_append]
  simp only [sSeq, sNext, sFrz, sDrop, sRet, sIf, gNm, gTp, gLs, setL, sAsg, sSet, sOwn, sPar, sPar3, sPar3O, dVar, dC, dF, dOp, dB, dAnd, dOr, dNot, dAndV, dOrV, dNotV, dIf, dIfF, dNil, dCons, dLst_e, dTup_e, wSub_i, wMod_i, wFdiv_i, wPow_i, wAdd_i, wAdd_l, wMul_i, wMul_l, fRep_e, wRepF_l, wLt_i, wLe_i, wGt_i, wGe_i, isNo, wIsN_n, wNotN_n, wIsB_b, wNotB_b, wEq_i, wNe_i, wNe_b, wNe_s, wEq_L, wNe_L, wEq_L0, wNe_L0, wNotIn, dNeg_e, nNeg_i, iRg1, iRg2, iRg3, iSeq, iSeqT, iEnm, sFor, dLc_e, lcS, dYes, wipeS, dCall, dMeth, dPrime, dPoly, dCurve, dParts, kLen_l, kLen_t, kLen_s, kInt_i, kMax_i, kMin3_i, kAbs_i, kRepr_b, fList, dBits, dIsT, fInt, fBool, fLst, fCrv, fFnc, wIx_l, wIx_t, wIx_s, fFrom, fTo, fStride, dTab3, dLend, dLendB, flatD, sPop, sApp, sSetI, sFldD, sNewF, sFrzF, slots0, List.map_cons, List.map_nil, List.replicate, List.cons_append, List.nil_append, List.append_nil, List.getElem?_cons_zero, List.getElem?_cons_succ, List.set_cons_zero, List.set_cons_succ, List.length_map, rng_len, rngD_len, enm_len, List.length_replicate, List.length_append, ← List.map_append, List.length_cons, List.length_nil, Nat.reduceAdd, Nat.reduceSub, Nat.reduceLeDiff, Bool.not_true, Bool.not_false, if_true, Bool.false_eq_true, if_false, true_and, and_true, Bool.not_eq_true']
  have h0 := h _ rfl
  refine ⟨⟨by omega, by omega⟩, by omega, ⟨by omega, by omega⟩, by omega, ⟨by omega, by omega⟩, by omega, ?_⟩
  have eN : (max (xs.length : Int) (ys.length : Int)).toNat = max xs.length ys.length := by omega
  refine lcW_rng (fun i => .int (xs.getD i 0 + ys.getD i 0)) ?_ ?_
  · intro i hi n Ψ hΨ
    simp only [sSeq, sNext, sFrz, sDrop, sRet, sIf, gNm, gTp, gLs, setL, sAsg, sSet, sOwn, sPar, sPar3, sPar3O, dVar, dC, dF, dOp, dB, dAnd, dOr, dNot, dAndV, dOrV, dNotV, dIf, dIfF, dNil, dCons, dLst_e, dTup_e, wSub_i, wMod_i, wFdiv_i, wPow_i, wAdd_i, wAdd_l, wMul_i, wMul_l, fRep_e, wRepF_l, wLt_i, wLe_i, wGt_i, wGe_i, isNo, wIsN_n, wNotN_n, wIsB_b, wNotB_b, wEq_i, wNe_i, wNe_b, wNe_s, wEq_L, wNe_L, wEq_L0, wNe_L0, wNotIn, dNeg_e, nNeg_i, iRg1, iRg2, iRg3, iSeq, iSeqT, iEnm, sFor, dLc_e, lcS, dYes, wipeS, dCall, dMeth, dPrime, dPoly, dCurve, dParts, kLen_l, kLen_t, kLen_s, kInt_i, kMax_i, kMin3_i, kAbs_i, kRepr_b, fList, dBits, dIsT, fInt, fBool, fLst, fCrv, fFnc, wIx_l, wIx_t, wIx_s, fFrom, fTo, fStride, dTab3, dLend, dLendB, flatD, sPop, sApp, sSetI, sFldD, sNewF, sFrzF, slots0, List.map_cons, List.map_nil, List.replicate, List.cons_append, List.nil_append, List.append_nil, List.getElem?_cons_zero, List.getElem?_cons_succ, List.set_cons_zero, List.set_cons_succ, List.length_map, rng_len, rngD_len, enm_len, List.length_replicate, List.length_append, ← List.map_append, List.length_cons, List.length_nil, Nat.reduceAdd, Nat.reduceSub, Nat.reduceLeDiff, Bool.not_true, Bool.not_false, if_true, Bool.false_eq_true, if_false, true_and, and_true, Bool.not_eq_true']
    refine ⟨.int (xs.getD i 0), ?_, .int (ys.getD i 0), ?_, ?_⟩
    · rw [Int.zero_add]
      refine atI_ints (atI_nat ?_)
      rw [← getD_pad xs (max (xs.length : Int) (ys.length : Int) - xs.length).toNat i, List.getD_eq_getElem?_getD]
      rw [List.getElem?_eq_getElem (by simp; omega)]; rfl
    · rw [Int.zero_add]
      refine atI_ints (atI_nat ?_)
      rw [← getD_pad ys (max (xs.length : Int) (ys.length : Int) - ys.length).toNat i, List.getD_eq_getElem?_getD]
      rw [List.getElem?_eq_getElem (by simp; omega)]; rfl
    · exact hΨ
  · have e : (List.range (max (xs.length : Int) (ys.length : Int)).toNat).map (fun i => D.int (xs.getD i 0 + ys.getD i 0)) = ((List.range (max xs.length ys.length)).map fun i => xs.getD i 0 + ys.getD i 0).map D.int := by rw [eN, List.map_map]; rfl
    rw [e]
    refine u_trimmed (by simp; omega) ?_
    rw [trm_add]; exact h0
theorem ok_negated (B : Bi K mg C F) (A : At K mg "negated" "negated" (top 21)) (c_trimmed : Fn P w K mg base C F 1 "trimmed" k_trimmed) : Fn P w K mg base C F 2 "negated" k_negated := by
  obtain ⟨f, fd, Fd, hm⟩ := A
  refine ⟨⟨f, fd, ["p", "one"], ?_, hm, Fd.kp, Fd.bindsN fun _ _ _ _ _ _ us hl => match us, hl with | [_, _], _ => rfl⟩, mon_cF⟩
  have S : FnScope ["p", "one", "number"] ["p", "one"] (defScope (top 21)) := ⟨rfl, rfl, rfl, by decide +kernel, rfl, by decide +kernel, by decide +kernel⟩
  obtain ⟨pr, BPR, BPRt⟩ := B.PR
  refine fn_ok (k := 1) Fd S (len_cF fun _ => rfl) fun g cdv A outer s H E hr => ?_
  have hu := hu_of hr
  have hu1 := hu1_of hr
  refine ⟨_, _, (ss_one (st_ret (de_call c_trimmed hr (da_cons (de_var 0) (da_cons (DEf.de (df_lc [("number", 2)] rfl S.nd (di_list (de_var 1)) (blkOk (N := ["p", "one", "number"]) (sc := (defScope (top 21))) (by decide +kernel)) (fun _ _ _ _ _ => tg_name 2 S.nd) tgin_name (fun _ _ _ _ _ => dts_nil) (fun _ _ _ _ _ => (de_op o_sub de_int (de_var 2))))) da_nil))))), ?_⟩
  intro ds n Φ hh
  obtain ⟨⟨⟨p, hp⟩, xs⟩, rfl, hl, h⟩ := hh
  try dsimp only at hl
  have hlim : lim = 1000000 := rfl
  simp only [slots0, List.map_cons, List.map_nil, List.length_cons, List.length_nil, Nat.reduceAdd, Nat.reduceSub, List.replicate, List.cons_append, List.nil_append]
  simp only [sSeq, sNext, sFrz, sDrop, sRet, sIf, gNm, gTp, gLs, setL, sAsg, sSet, sOwn, sPar, sPar3, sPar3O, dVar, dC, dF, dOp, dB, dAnd, dOr, dNot, dAndV, dOrV, dNotV, dIf, dIfF, dNil, dCons, dLst_e, dTup_e, wSub_i, wMod_i, wFdiv_i, wPow_i, wAdd_i, wAdd_l, wMul_i, wMul_l, fRep_e, wRepF_l, wLt_i, wLe_i, wGt_i, wGe_i, isNo, wIsN_n, wNotN_n, wIsB_b, wNotB_b, wEq_i, wNe_i, wNe_b, wNe_s, wEq_L, wNe_L, wEq_L0, wNe_L0, wNotIn, dNeg_e, nNeg_i, iRg1, iRg2, iRg3, iSeq, iSeqT, iEnm, sFor, dLc_e, lcS, dYes, wipeS, dCall, dMeth, dPrime, dPoly, dCurve, dParts, kLen_l, kLen_t, kLen_s, kInt_i, kMax_i, kMin3_i, kAbs_i, kRepr_b, fList, dBits, dIsT, fInt, fBool, fLst, fCrv, fFnc, wIx_l, wIx_t, wIx_s, fFrom, fTo, fStride, dTab3, dLend, dLendB, flatD, sPop, sApp, sSetI, sFldD, sNewF, sFrzF, slots0, List.map_cons, List.map_nil, List.replicate, List.cons_append, List.nil_append, List.append_nil, List.getElem?_cons_zero, List.getElem?_cons_succ, List.set_cons_zero, List.set_cons_succ, List.length_map, rng_len, rngD_len, enm_len, List.length_replicate, List.length_append, ← List.map_append, List.length_cons, List.length_nil, Nat.reduceAdd, Nat.reduceSub, Nat.reduceLeDiff, Bool.not_true, Bool.not_false, if_true, Bool.false_eq_true, if_false, true_and, and_true, Bool.not_eq_true']
  have h0 := h _ rfl
  refine ⟨by omega, ?_⟩
  refine lcW_ints (fun x => 0 - x) ?_ ?_
  · intro x hx n Ψ hΨ
    simp only [sSeq, sNext, sFrz, sDrop, sRet, sIf, gNm, gTp, gLs, setL, sAsg, sSet, sOwn, sPar, sPar3, sPar3O, dVar, dC, dF, dOp, dB, dAnd, dOr, dNot, dAndV, dOrV, dNotV, dIf, dIfF, dNil, dCons, dLst_e, dTup_e, wSub_i, wMod_i, wFdiv_i, wPow_i, wAdd_i, wAdd_l, wMul_i, wMul_l, fRep_e, wRepF_l, wLt_i, wLe_i, wGt_i, wGe_i, isNo, wIsN_n, wNotN_n, wIsB_b, wNotB_b, wEq_i, wNe_i, wNe_b, wNe_s, wEq_L, wNe_L, wEq_L0, wNe_L0, wNotIn, dNeg_e, nNeg_i, iRg1, iRg2, iRg3, iSeq, iSeqT, iEnm, sFor, dLc_e, lcS, dYes, wipeS, dCall, dMeth, dPrime, dPoly, dCurve, dParts, kLen_l, kLen_t, kLen_s, kInt_i, kMax_i, kMin3_i, kAbs_i, kRepr_b, fList, dBits, dIsT, fInt, fBool, fLst, fCrv, fFnc, wIx_l, wIx_t, wIx_s, fFrom, fTo, fStride, dTab3, dLend, dLendB, flatD, sPop, sApp, sSetI, sFldD, sNewF, sFrzF, slots0, List.map_cons, List.map_nil, List.replicate, List.cons_append, List.nil_append, List.append_nil, List.getElem?_cons_zero, List.getElem?_cons_succ, List.set_cons_zero, List.set_cons_succ, List.length_map, rng_len, rngD_len, enm_len, List.length_replicate, List.length_append, ← List.map_append, List.length_cons, List.length_nil, Nat.reduceAdd, Nat.reduceSub, Nat.reduceLeDiff, Bool.not_true, Bool.not_false, if_true, Bool.false_eq_true, if_false, true_and, and_true, Bool.not_eq_true']
    exact hΨ
  · refine u_trimmed (by simp; omega) ?_
    rw [trm_neg]; exact h0
theorem ok_lessened (B : Bi K mg C F) (A : At K mg "lessened" "lessened" (top 22)) (c_added : Fn P w K mg base C F 2 "added" k_added) (c_negated : Fn P w K mg base C F 2 "negated" k_negated) : Fn P w K mg base C F 3 "lessened" k_lessened := by
  obtain ⟨f, fd, Fd, hm⟩ := A
  refine ⟨⟨f, fd, ["p", "one", "other"], ?_, hm, Fd.kp, Fd.bindsN fun _ _ _ _ _ _ us hl => match us, hl with | [_, _, _], _ => rfl⟩, mon_cF⟩
  have S : FnScope ["p", "one", "other"] ["p", "one", "other"] (defScope (top 22)) := ⟨rfl, rfl, rfl, by decide +kernel, rfl, by decide +kernel, by decide +kernel⟩
  obtain ⟨pr, BPR, BPRt⟩ := B.PR
  refine fn_ok (k := 2) Fd S (len_cF fun _ => rfl) fun g cdv A outer s H E hr => ?_
  have hu := hu_of hr
  have hu1 := hu1_of hr
  refine ⟨_, _, (ss_one (st_ret (de_call c_added hr (da_cons (de_var 0) (da_cons (de_var 1) (da_cons (de_call c_negated hr (da_cons (de_var 0) (da_cons (de_var 2) da_nil))) da_nil)))))), ?_⟩
  intro ds n Φ hh
  obtain ⟨⟨⟨p, hp⟩, xs, ys⟩, rfl, hl, h⟩ := hh
  try dsimp only at hl
  have hlim : lim = 1000000 := rfl
  simp only [slots0, List.map_cons, List.map_nil, List.length_cons, List.length_nil, Nat.reduceAdd, Nat.reduceSub, List.replicate, List.cons_append, List.nil_append]
  simp only [sSeq, sNext, sFrz, sDrop, sRet, sIf, gNm, gTp, gLs, setL, sAsg, sSet, sOwn, sPar, sPar3, sPar3O, dVar, dC, dF, dOp, dB, dAnd, dOr, dNot, dAndV, dOrV, dNotV, dIf, dIfF, dNil, dCons, dLst_e, dTup_e, wSub_i, wMod_i, wFdiv_i, wPow_i, wAdd_i, wAdd_l, wMul_i, wMul_l, fRep_e, wRepF_l, wLt_i, wLe_i, wGt_i, wGe_i, isNo, wIsN_n, wNotN_n, wIsB_b, wNotB_b, wEq_i, wNe_i, wNe_b, wNe_s, wEq_L, wNe_L, wEq_L0, wNe_L0, wNotIn, dNeg_e, nNeg_i, iRg1, iRg2, iRg3, iSeq, iSeqT, iEnm, sFor, dLc_e, lcS, dYes, wipeS, dCall, dMeth, dPrime, dPoly, dCurve, dParts, kLen_l, kLen_t, kLen_s, kInt_i, kMax_i, kMin3_i, kAbs_i, kRepr_b, fList, dBits, dIsT, fInt, fBool, fLst, fCrv, fFnc, wIx_l, wIx_t, wIx_s, fFrom, fTo, fStride, dTab3, dLend, dLendB, flatD, sPop, sApp, sSetI, sFldD, sNewF, sFrzF, slots0, List.map_cons, List.map_nil, List.replicate, List.cons_append, List.nil_append, List.append_nil, List.getElem?_cons_zero, List.getElem?_cons_succ, List.set_cons_zero, List.set_cons_succ, List.length_map, rng_len, rngD_len, enm_len, List.length_replicate, List.length_append, ← List.map_append, List.length_cons, List.length_nil, Nat.reduceAdd, Nat.reduceSub, Nat.reduceLeDiff, Bool.not_true, Bool.not_false, if_true, Bool.false_eq_true, if_false, true_and, and_true, Bool.not_eq_true']
  refine u_negated hl.2 ?_
  refine u_added ⟨hl.1, Nat.le_trans (len_neg _) hl.2⟩ ?_
  exact h _ rfl
theorem ok_scaled (B : Bi K mg C F) (A : At K mg "scaled" "scaled" (top 23)) (c_trimmed : Fn P w K mg base C F 1 "trimmed" k_trimmed) : Fn P w K mg base C F 2 "scaled" k_scaled := by
  obtain ⟨f, fd, Fd, hm⟩ := A
  refine ⟨⟨f, fd, ["p", "one", "number"], ?_, hm, Fd.kp, Fd.bindsN fun _ _ _ _ _ _ us hl => match us, hl with | [_, _, _], _ => rfl⟩, mon_cF⟩
  have S : FnScope ["p", "one", "number", "item"] ["p", "one", "number"] (defScope (top 23)) := ⟨rfl, rfl, rfl, by decide +kernel, rfl, by decide +kernel, by decide +kernel⟩
  obtain ⟨pr, BPR, BPRt⟩ := B.PR
  refine fn_ok (k := 1) Fd S (len_cF fun _ => rfl) fun g cdv A outer s H E hr => ?_
  have hu := hu_of hr
  have hu1 := hu1_of hr
  refine ⟨_, _, (ss_one (st_ret (de_call c_trimmed hr (da_cons (de_var 0) (da_cons (DEf.de (df_lc [("item", 3)] rfl S.nd (di_list (de_var 1)) (blkOk (N := ["p", "one", "number", "item"]) (sc := (defScope (top 23))) (by decide +kernel)) (fun _ _ _ _ _ => tg_name 3 S.nd) tgin_name (fun _ _ _ _ _ => dts_nil) (fun _ _ _ _ _ => (de_op o_mul (de_var 3) (de_var 2))))) da_nil))))), ?_⟩
  intro ds n Φ hh
  obtain ⟨⟨⟨p, hp⟩, xs, k⟩, rfl, hl, h⟩ := hh
  try dsimp only at hl
  have hlim : lim = 1000000 := rfl
  simp only [slots0, List.map_cons, List.map_nil, List.length_cons, List.length_nil, Nat.reduceAdd, Nat.reduceSub, List.replicate, List.cons_append, List.nil_append]
  simp only [sSeq, sNext, sFrz, sDrop, sRet, sIf, gNm, gTp, gLs, setL, sAsg, sSet, sOwn, sPar, sPar3, sPar3O, dVar, dC, dF, dOp, dB, dAnd, dOr, dNot, dAndV, dOrV, dNotV, dIf, dIfF, dNil, dCons, dLst_e, dTup_e, wSub_i, wMod_i, wFdiv_i, wPow_i, wAdd_i, wAdd_l, wMul_i, wMul_l, fRep_e, wRepF_l, wLt_i, wLe_i, wGt_i, wGe_i, isNo, wIsN_n, wNotN_n, wIsB_b, wNotB_b, wEq_i, wNe_i, wNe_b, wNe_s, wEq_L, wNe_L, wEq_L0, wNe_L0, wNotIn, dNeg_e, nNeg_i, iRg1, iRg2, iRg3, iSeq, iSeqT, iEnm, sFor, dLc_e, lcS, dYes, wipeS, dCall, dMeth, dPrime, dPoly, dCurve, dParts, kLen_l, kLen_t, kLen_s, kInt_i, kMax_i, kMin3_i, kAbs_i, kRepr_b, fList, dBits, dIsT, fInt, fBool, fLst, fCrv, fFnc, wIx_l, wIx_t, wIx_s, fFrom, fTo, fStride, dTab3, dLend, dLendB, flatD, sPop, sApp, sSetI, sFldD, sNewF, sFrzF, slots0, List.map_cons, List.map_nil, List.replicate, List.cons_append, List.nil_append, List.append_nil, List.getElem?_cons_zero, List.getElem?_cons_succ, List.set_cons_zero, List.set_cons_succ, List.length_map, rng_len, rngD_len, enm_len, List.length_replicate, List.length_append, ← List.map_append, List.length_cons, List.length_nil, Nat.reduceAdd, Nat.reduceSub, Nat.reduceLeDiff, Bool.not_true, Bool.not_false, if_true, Bool.false_eq_true, if_false, true_and, and_true, Bool.not_eq_true']
  have h0 := h _ rfl
  refine ⟨by omega, ?_⟩
  refine lcW_ints (fun x => x * k) ?_ ?_
  · intro x hx n Ψ hΨ
    simp only [sSeq, sNext, sFrz, sDrop, sRet, sIf, gNm, gTp, gLs, setL, sAsg, sSet, sOwn, sPar, sPar3, sPar3O, dVar, dC, dF, dOp, dB, dAnd, dOr, dNot, dAndV, dOrV, dNotV, dIf, dIfF, dNil, dCons, dLst_e, dTup_e, wSub_i, wMod_i, wFdiv_i, wPow_i, wAdd_i, wAdd_l, wMul_i, wMul_l, fRep_e, wRepF_l, wLt_i, wLe_i, wGt_i, wGe_i, isNo, wIsN_n, wNotN_n, wIsB_b, wNotB_b, wEq_i, wNe_i, wNe_b, wNe_s, wEq_L, wNe_L, wEq_L0, wNe_L0, wNotIn, dNeg_e, nNeg_i, iRg1, iRg2, iRg3, iSeq, iSeqT, iEnm, sFor, dLc_e, lcS, dYes, wipeS, dCall, dMeth, dPrime, dPoly, dCurve, dParts, kLen_l, kLen_t, kLen_s, kInt_i, kMax_i, kMin3_i, kAbs_i, kRepr_b, fList, dBits, dIsT, fInt, fBool, fLst, fCrv, fFnc, wIx_l, wIx_t, wIx_s, fFrom, fTo, fStride, dTab3, dLend, dLendB, flatD, sPop, sApp, sSetI, sFldD, sNewF, sFrzF, slots0, List.map_cons, List.map_nil, List.replicate, List.cons_append, List.nil_append, List.append_nil, List.getElem?_cons_zero, List.getElem?_cons_succ, List.set_cons_zero, List.set_cons_succ, List.length_map, rng_len, rngD_len, enm_len, List.length_replicate, List.length_append, ← List.map_append, List.length_cons, List.length_nil, Nat.reduceAdd, Nat.reduceSub, Nat.reduceLeDiff, Bool.not_true, Bool.not_false, if_true, Bool.false_eq_true, if_false, true_and, and_true, Bool.not_eq_true']
    exact ⟨.inr hl.2, hΨ⟩
  · refine u_trimmed (by simp; omega) ?_
    rw [trm_scl]; exact h0
theorem ok_multiplied (B : Bi K mg C F) (A : At K mg "multiplied" "multiplied" (top 24)) (c_trimmed : Fn P w K mg base C F 1 "trimmed" k_trimmed) : Fn P w K mg base C F 2 "multiplied" k_multiplied := by
  obtain ⟨f, fd, Fd, hm⟩ := A
  refine ⟨⟨f, fd, ["p", "one", "other"], ?_, hm, Fd.kp, Fd.bindsN fun _ _ _ _ _ _ us hl => match us, hl with | [_, _, _], _ => rfl⟩, mon_cF⟩
  have S : FnScope ["p", "one", "other", "found", "at", "low", "place", "high"] ["p", "one", "other"] (defScope (top 24)) := ⟨rfl, rfl, rfl, by decide +kernel, rfl, by decide +kernel, by decide +kernel⟩
  obtain ⟨pr, BPR, BPRt⟩ := B.PR
  refine fn_ok (k := 1) Fd S (len_cF fun _ => rfl) fun g cdv A outer s H E hr => ?_
  have hu := hu_of hr
  have hu1 := hu1_of hr
  refine ⟨_, _, (ss_cons (st_own 3 S.nd (df_rep (DEf.de (df_lst (da_cons de_int da_nil))) (de_op o_add (de_bi c_len (da_cons (de_var 1) da_nil) B.len) (de_bi c_len (da_cons (de_var 2) da_nil) B.len)))) (ss_cons (st_for PassesOwn.never rfl (di_enum (de_var 1) rfl B.enumerate) (tg_tup rfl (tgs_cons 4 (tgs_cons 5 tgs_nil S.nd) S.nd)) (ss_one (st_for PassesOwn.never rfl (di_enum (de_var 2) rfl B.enumerate) (tg_tup rfl (tgs_cons 6 (tgs_cons 7 tgs_nil S.nd) S.nd)) (ss_one (st_seti 3 (de_op o_add (de_lend 3 (de_ix (de_var 3) (de_op o_add (de_var 4) (de_var 6)))) (de_op o_mul (de_var 5) (de_var 7))) (de_op o_add (de_var 4) (de_var 6))))))) (ss_frz 3 (ss_one (st_ret (de_call c_trimmed hr (da_cons (de_var 0) (da_cons (de_var 3) da_nil)))))))), ?_⟩
  intro ds n Φ hh
  obtain ⟨⟨⟨p, hp⟩, xs, ys⟩, rfl, hl, h⟩ := hh
  try dsimp only at hl
  have hlim : lim = 1000000 := rfl
  simp only [slots0, List.map_cons, List.map_nil, List.length_cons, List.length_nil, Nat.reduceAdd, Nat.reduceSub, List.replicate, List.cons_append, List.nil_append]
  simp only [sSeq, sNext, sFrz, sDrop, sRet, sIf, gNm, gTp, gLs, setL, sAsg, sSet, sOwn, sPar, sPar3, sPar3O, dVar, dC, dF, dOp, dB, dAnd, dOr, dNot, dAndV, dOrV, dNotV, dIf, dIfF, dNil, dCons, dLst_e, dTup_e, wSub_i, wMod_i, wFdiv_i, wPow_i, wAdd_i, wAdd_l, wMul_i, wMul_l, fRep_e, wRepF_l, wLt_i, wLe_i, wGt_i, wGe_i, isNo, wIsN_n, wNotN_n, wIsB_b, wNotB_b, wEq_i, wNe_i, wNe_b, wNe_s, wEq_L, wNe_L, wEq_L0, wNe_L0, wNotIn, dNeg_e, nNeg_i, iRg1, iRg2, iRg3, iSeq, iSeqT, iEnm, sFor, dLc_e, lcS, dYes, wipeS, dCall, dMeth, dPrime, dPoly, dCurve, dParts, kLen_l, kLen_t, kLen_s, kInt_i, kMax_i, kMin3_i, kAbs_i, kRepr_b, fList, dBits, dIsT, fInt, fBool, fLst, fCrv, fFnc, wIx_l, wIx_t, wIx_s, fFrom, fTo, fStride, dTab3, dLend, dLendB, flatD, sPop, sApp, sSetI, sFldD, sNewF, sFrzF, slots0, List.map_cons, List.map_nil, List.replicate, List.cons_append, List.nil_append, List.append_nil, List.getElem?_cons_zero, List.getElem?_cons_succ, List.set_cons_zero, List.set_cons_succ, List.length_map, rng_len, rngD_len, enm_len, List.length_replicate, List.length_append, ← List.map_append, List.length_cons, List.length_nil, Nat.reduceAdd, Nat.reduceSub, Nat.reduceLeDiff, Bool.not_true, Bool.not_false, if_true, Bool.false_eq_true, if_false, true_and, and_true, Bool.not_eq_true']
  have h0 := h _ rfl
  refine ⟨⟨by omega, by omega⟩, ?_⟩
  have eN : ((xs.length : Int) + (ys.length : Int)).toNat = xs.length + ys.length := by omega
  rw [eN]
  refine forW_enm (fun i ρ n' => n' = n ∧ ∃ (zs : List Int) (s4 s5 s6 s7 : Sl), ρ = [.val (I p), .val (L xs), .val (L ys), .own (zs.map D.int), s4, s5, s6, s7] ∧ zs.length = xs.length + ys.length ∧ sr p zs = sr p (xs.take i) * sr p ys) ?_ ?_ ?_
  · refine ⟨rfl, _, _, _, _, _, rfl, by simp, ?_⟩
    rw [sr_zeros, List.take_zero, sr_nil]; grind
  · rintro i x ρ n' N hx ⟨rfl, zs, s4, s5, s6, s7, rfl, hz, ez⟩ hN
    simp only [sSeq, sNext, sFrz, sDrop, sRet, sIf, gNm, gTp, gLs, setL, sAsg, sSet, sOwn, sPar, sPar3, sPar3O, dVar, dC, dF, dOp, dB, dAnd, dOr, dNot, dAndV, dOrV, dNotV, dIf, dIfF, dNil, dCons, dLst_e, dTup_e, wSub_i, wMod_i, wFdiv_i, wPow_i, wAdd_i, wAdd_l, wMul_i, wMul_l, fRep_e, wRepF_l, wLt_i, wLe_i, wGt_i, wGe_i, isNo, wIsN_n, wNotN_n, wIsB_b, wNotB_b, wEq_i, wNe_i, wNe_b, wNe_s, wEq_L, wNe_L, wEq_L0, wNe_L0, wNotIn, dNeg_e, nNeg_i, iRg1, iRg2, iRg3, iSeq, iSeqT, iEnm, sFor, dLc_e, lcS, dYes, wipeS, dCall, dMeth, dPrime, dPoly, dCurve, dParts, kLen_l, kLen_t, kLen_s, kInt_i, kMax_i, kMin3_i, kAbs_i, kRepr_b, fList, dBits, dIsT, fInt, fBool, fLst, fCrv, fFnc, wIx_l, wIx_t, wIx_s, fFrom, fTo, fStride, dTab3, dLend, dLendB, flatD, sPop, sApp, sSetI, sFldD, sNewF, sFrzF, slots0, List.map_cons, List.map_nil, List.replicate, List.cons_append, List.nil_append, List.append_nil, List.getElem?_cons_zero, List.getElem?_cons_succ, List.set_cons_zero, List.set_cons_succ, List.length_map, rng_len, rngD_len, enm_len, List.length_replicate, List.length_append, ← List.map_append, List.length_cons, List.length_nil, Nat.reduceAdd, Nat.reduceSub, Nat.reduceLeDiff, Bool.not_true, Bool.not_false, if_true, Bool.false_eq_true, if_false, true_and, and_true, Bool.not_eq_true']
    refine forW_enm (fun j ρ n'' => n'' = n' ∧ ∃ (zs : List Int) (s6 s7 : Sl), ρ = [.val (I p), .val (L xs), .val (L ys), .own (zs.map D.int), .val (I (i : Int)), .val (I x), s6, s7] ∧ zs.length = xs.length + ys.length ∧ sr p zs = sr p (xs.take i) * sr p ys + pl i ((x : Int) : Fin p) * sr p (ys.take j)) ?_ ?_ ?_
    · refine ⟨rfl, zs, _, _, rfl, hz, ?_⟩
      rw [ez, List.take_zero, sr_nil]; grind
    · rintro j y ρ n'' N' hy ⟨rfl, zs, s6, s7, rfl, hz, ez⟩ hN'
      simp only [sSeq, sNext, sFrz, sDrop, sRet, sIf, gNm, gTp, gLs, setL, sAsg, sSet, sOwn, sPar, sPar3, sPar3O, dVar, dC, dF, dOp, dB, dAnd, dOr, dNot, dAndV, dOrV, dNotV, dIf, dIfF, dNil, dCons, dLst_e, dTup_e, wSub_i, wMod_i, wFdiv_i, wPow_i, wAdd_i, wAdd_l, wMul_i, wMul_l, fRep_e, wRepF_l, wLt_i, wLe_i, wGt_i, wGe_i, isNo, wIsN_n, wNotN_n, wIsB_b, wNotB_b, wEq_i, wNe_i, wNe_b, wNe_s, wEq_L, wNe_L, wEq_L0, wNe_L0, wNotIn, dNeg_e, nNeg_i, iRg1, iRg2, iRg3, iSeq, iSeqT, iEnm, sFor, dLc_e, lcS, dYes, wipeS, dCall, dMeth, dPrime, dPoly, dCurve, dParts, kLen_l, kLen_t, kLen_s, kInt_i, kMax_i, kMin3_i, kAbs_i, kRepr_b, fList, dBits, dIsT, fInt, fBool, fLst, fCrv, fFnc, wIx_l, wIx_t, wIx_s, fFrom, fTo, fStride, dTab3, dLend, dLendB, flatD, sPop, sApp, sSetI, sFldD, sNewF, sFrzF, slots0, List.map_cons, List.map_nil, List.replicate, List.cons_append, List.nil_append, List.append_nil, List.getElem?_cons_zero, List.getElem?_cons_succ, List.set_cons_zero, List.set_cons_succ, List.length_map, rng_len, rngD_len, enm_len, List.length_replicate, List.length_append, ← List.map_append, List.length_cons, List.length_nil, Nat.reduceAdd, Nat.reduceSub, Nat.reduceLeDiff, Bool.not_true, Bool.not_false, if_true, Bool.false_eq_true, if_false, true_and, and_true, Bool.not_eq_true']
      have hi := (List.getElem?_eq_some_iff.mp hx).1
      have hj := (List.getElem?_eq_some_iff.mp hy).1
      have hij : i + j < zs.length := by omega
      refine ⟨.int (zs.getD (i + j) 0), ?_, ⟨by simp only [flatD], .inl (hl.2.2 x (List.mem_of_getElem? hx)), ⟨⟨by omega, by omega⟩, ?_⟩⟩⟩
      · have : ((i : Int) + (j : Int)) = ((i + j : Nat) : Int) := by omega
        rw [this]
        refine atI_ints (atI_nat ?_)
        rw [List.getD_eq_getElem?_getD, List.getElem?_eq_getElem hij]; rfl
      · refine hN' _ _ ⟨rfl, zs.set (i + j) (zs.getD (i + j) 0 + x * y), .val (I (j : Int)), .val (I y), ?_, by simpa using hz, ?_⟩
        · have : ((i : Int) + (j : Int)).toNat = i + j := by omega
          rw [this, List.map_set]
        · rw [sr_set hij, ez, sr_take hy]
          have e : zs.getD (i + j) 0 + x * y - zs.getD (i + j) 0 = x * y := by omega
          rw [e, Lean.Grind.Ring.intCast_mul, ← pl_mul]; grind
    · rintro ρ n'' ⟨rfl, zs, s6, s7, rfl, hz, ez⟩
      refine hN _ _ ⟨rfl, zs, _, _, _, _, rfl, hz, ?_⟩
      rw [ez, List.take_length, sr_take hx]; grind
  · rintro ρ n' ⟨rfl, zs, s4, s5, s6, s7, rfl, hz, ez⟩
    simp only [sSeq, sNext, sFrz, sDrop, sRet, sIf, gNm, gTp, gLs, setL, sAsg, sSet, sOwn, sPar, sPar3, sPar3O, dVar, dC, dF, dOp, dB, dAnd, dOr, dNot, dAndV, dOrV, dNotV, dIf, dIfF, dNil, dCons, dLst_e, dTup_e, wSub_i, wMod_i, wFdiv_i, wPow_i, wAdd_i, wAdd_l, wMul_i, wMul_l, fRep_e, wRepF_l, wLt_i, wLe_i, wGt_i, wGe_i, isNo, wIsN_n, wNotN_n, wIsB_b, wNotB_b, wEq_i, wNe_i, wNe_b, wNe_s, wEq_L, wNe_L, wEq_L0, wNe_L0, wNotIn, dNeg_e, nNeg_i, iRg1, iRg2, iRg3, iSeq, iSeqT, iEnm, sFor, dLc_e, lcS, dYes, wipeS, dCall, dMeth, dPrime, dPoly, dCurve, dParts, kLen_l, kLen_t, kLen_s, kInt_i, kMax_i, kMin3_i, kAbs_i, kRepr_b, fList, dBits, dIsT, fInt, fBool, fLst, fCrv, fFnc, wIx_l, wIx_t, wIx_s, fFrom, fTo, fStride, dTab3, dLend, dLendB, flatD, sPop, sApp, sSetI, sFldD, sNewF, sFrzF, slots0, List.map_cons, List.map_nil, List.replicate, List.cons_append, List.nil_append, List.append_nil, List.getElem?_cons_zero, List.getElem?_cons_succ, List.set_cons_zero, List.set_cons_succ, List.length_map, rng_len, rngD_len, enm_len, List.length_replicate, List.length_append, ← List.map_append, List.length_cons, List.length_nil, Nat.reduceAdd, Nat.reduceSub, Nat.reduceLeDiff, Bool.not_true, Bool.not_false, if_true, Bool.false_eq_true, if_false, true_and, and_true, Bool.not_eq_true']
    refine u_trimmed (by omega) ?_
    rw [List.take_length] at ez
    rw [trm_mul (by omega) ez]; exact h0
theorem ok_power_of_polys (B : Bi K mg C F) (A : At K mg "power_of_polys" "power_of" (top 25)) (c_multiplied : Fn P w K mg base C F 2 "multiplied" k_multiplied) : Fn P w K mg base C F 3 "power_of_polys" k_power_of_polys := by
  obtain ⟨f, fd, Fd, hm⟩ := A
  refine ⟨⟨f, fd, ["p", "one", "count"], ?_, hm, Fd.kp, Fd.bindsN fun _ _ _ _ _ _ us hl => match us, hl with | [_, _, _], _ => rfl⟩, mon_cF⟩
  have S : FnScope ["p", "one", "count", "found", "turn"] ["p", "one", "count"] (defScope (top 25)) := ⟨rfl, rfl, rfl, by decide +kernel, rfl, by decide +kernel, by decide +kernel⟩
  obtain ⟨pr, BPR, BPRt⟩ := B.PR
  refine fn_ok (k := 2) Fd S (len_cF fun _ => rfl) fun g cdv A outer s H E hr => ?_
  have hu := hu_of hr
  have hu1 := hu1_of hr
  refine ⟨_, _, (ss_cons (st_set 3 S.nd (DEf.de (df_lst (da_cons de_int da_nil)))) (ss_cons (st_for PassesOwn.never rfl (di_rng1 (de_var 2) rfl B.range) (tg_name 4 S.nd) (ss_one (st_set 3 S.nd (de_call c_multiplied hr (da_cons (de_var 0) (da_cons (de_var 3) (da_cons (de_var 1) da_nil))))))) (ss_one (st_ret (de_var 3))))), ?_⟩
  intro ds n Φ hh
  obtain ⟨⟨⟨p, hp⟩, xs, k⟩, rfl, hl, h⟩ := hh
  try dsimp only at hl
  have hlim : lim = 1000000 := rfl
  simp only [slots0, List.map_cons, List.map_nil, List.length_cons, List.length_nil, Nat.reduceAdd, Nat.reduceSub, List.replicate, List.cons_append, List.nil_append]
  simp only [sSeq, sNext, sFrz, sDrop, sRet, sIf, gNm, gTp, gLs, setL, sAsg, sSet, sOwn, sPar, sPar3, sPar3O, dVar, dC, dF, dOp, dB, dAnd, dOr, dNot, dAndV, dOrV, dNotV, dIf, dIfF, dNil, dCons, dLst_e, dTup_e, wSub_i, wMod_i, wFdiv_i, wPow_i, wAdd_i, wAdd_l, wMul_i, wMul_l, fRep_e, wRepF_l, wLt_i, wLe_i, wGt_i, wGe_i, isNo, wIsN_n, wNotN_n, wIsB_b, wNotB_b, wEq_i, wNe_i, wNe_b, wNe_s, wEq_L, wNe_L, wEq_L0, wNe_L0, wNotIn, dNeg_e, nNeg_i, iRg1, iRg2, iRg3, iSeq, iSeqT, iEnm, sFor, dLc_e, lcS, dYes, wipeS, dCall, dMeth, dPrime, dPoly, dCurve, dParts, kLen_l, kLen_t, kLen_s, kInt_i, kMax_i, kMin3_i, kAbs_i, kRepr_b, fList, dBits, dIsT, fInt, fBool, fLst, fCrv, fFnc, wIx_l, wIx_t, wIx_s, fFrom, fTo, fStride, dTab3, dLend, dLendB, flatD, sPop, sApp, sSetI, sFldD, sNewF, sFrzF, slots0, List.map_cons, List.map_nil, List.replicate, List.cons_append, List.nil_append, List.append_nil, List.getElem?_cons_zero, List.getElem?_cons_succ, List.set_cons_zero, List.set_cons_succ, List.length_map, rng_len, rngD_len, enm_len, List.length_replicate, List.length_append, ← List.map_append, List.length_cons, List.length_nil, Nat.reduceAdd, Nat.reduceSub, Nat.reduceLeDiff, Bool.not_true, Bool.not_false, if_true, Bool.false_eq_true, if_false, true_and, and_true, Bool.not_eq_true']
  have h0 := h _ rfl
  refine ⟨⟨by omega, by omega⟩, ?_⟩
  rw [Int.toNat_natCast]
  refine forW_rng (fun i ρ n' => n' = n ∧ ∃ s4 : Sl, ρ = [.val (I p), .val (L xs), .val (I k), .val (L (powP p xs i)), s4]) ⟨rfl, _, rfl⟩ ?_ ?_
  · rintro i ρ n' N hi ⟨rfl, s4, rfl⟩ hN
    simp only [sSeq, sNext, sFrz, sDrop, sRet, sIf, gNm, gTp, gLs, setL, sAsg, sSet, sOwn, sPar, sPar3, sPar3O, dVar, dC, dF, dOp, dB, dAnd, dOr, dNot, dAndV, dOrV, dNotV, dIf, dIfF, dNil, dCons, dLst_e, dTup_e, wSub_i, wMod_i, wFdiv_i, wPow_i, wAdd_i, wAdd_l, wMul_i, wMul_l, fRep_e, wRepF_l, wLt_i, wLe_i, wGt_i, wGe_i, isNo, wIsN_n, wNotN_n, wIsB_b, wNotB_b, wEq_i, wNe_i, wNe_b, wNe_s, wEq_L, wNe_L, wEq_L0, wNe_L0, wNotIn, dNeg_e, nNeg_i, iRg1, iRg2, iRg3, iSeq, iSeqT, iEnm, sFor, dLc_e, lcS, dYes, wipeS, dCall, dMeth, dPrime, dPoly, dCurve, dParts, kLen_l, kLen_t, kLen_s, kInt_i, kMax_i, kMin3_i, kAbs_i, kRepr_b, fList, dBits, dIsT, fInt, fBool, fLst, fCrv, fFnc, wIx_l, wIx_t, wIx_s, fFrom, fTo, fStride, dTab3, dLend, dLendB, flatD, sPop, sApp, sSetI, sFldD, sNewF, sFrzF, slots0, List.map_cons, List.map_nil, List.replicate, List.cons_append, List.nil_append, List.append_nil, List.getElem?_cons_zero, List.getElem?_cons_succ, List.set_cons_zero, List.set_cons_succ, List.length_map, rng_len, rngD_len, enm_len, List.length_replicate, List.length_append, ← List.map_append, List.length_cons, List.length_nil, Nat.reduceAdd, Nat.reduceSub, Nat.reduceLeDiff, Bool.not_true, Bool.not_false, if_true, Bool.false_eq_true, if_false, true_and, and_true, Bool.not_eq_true']
    have l1 := len_pow (p := p) xs i
    have l2 : i * xs.length ≤ (k + 1) * xs.length := Nat.mul_le_mul_right _ (by omega)
    have l3 : xs.length ≤ (k + 1) * xs.length := Nat.le_mul_of_pos_left _ (by omega)
    refine u_multiplied ⟨by omega, by omega, Can.sm (can_pow xs i)⟩ ?_
    exact hN _ _ ⟨rfl, _, rfl⟩
  · rintro ρ n' ⟨rfl, s4, rfl⟩
    simp only [sSeq, sNext, sFrz, sDrop, sRet, sIf, gNm, gTp, gLs, setL, sAsg, sSet, sOwn, sPar, sPar3, sPar3O, dVar, dC, dF, dOp, dB, dAnd, dOr, dNot, dAndV, dOrV, dNotV, dIf, dIfF, dNil, dCons, dLst_e, dTup_e, wSub_i, wMod_i, wFdiv_i, wPow_i, wAdd_i, wAdd_l, wMul_i, wMul_l, fRep_e, wRepF_l, wLt_i, wLe_i, wGt_i, wGe_i, isNo, wIsN_n, wNotN_n, wIsB_b, wNotB_b, wEq_i, wNe_i, wNe_b, wNe_s, wEq_L, wNe_L, wEq_L0, wNe_L0, wNotIn, dNeg_e, nNeg_i, iRg1, iRg2, iRg3, iSeq, iSeqT, iEnm, sFor, dLc_e, lcS, dYes, wipeS, dCall, dMeth, dPrime, dPoly, dCurve, dParts, kLen_l, kLen_t, kLen_s, kInt_i, kMax_i, kMin3_i, kAbs_i, kRepr_b, fList, dBits, dIsT, fInt, fBool, fLst, fCrv, fFnc, wIx_l, wIx_t, wIx_s, fFrom, fTo, fStride, dTab3, dLend, dLendB, flatD, sPop, sApp, sSetI, sFldD, sNewF, sFrzF, slots0, List.map_cons, List.map_nil, List.replicate, List.cons_append, List.nil_append, List.append_nil, List.getElem?_cons_zero, List.getElem?_cons_succ, List.set_cons_zero, List.set_cons_succ, List.length_map, rng_len, rngD_len, enm_len, List.length_replicate, List.length_append, ← List.map_append, List.length_cons, List.length_nil, Nat.reduceAdd, Nat.reduceSub, Nat.reduceLeDiff, Bool.not_true, Bool.not_false, if_true, Bool.false_eq_true, if_false, true_and, and_true, Bool.not_eq_true']
    exact h0
end KH
end
section
set_option Elab.async false
set_option linter.all false
set_option maxRecDepth 100000
set_option maxHeartbeats 2000000
namespace KH
open PySem PySem.Spec PyProof.Rows L2 DL
open MK hiding D X
variable {P : Program} {w : World} {K : PySem.W.Frag} {mg : Str → Option Value} {base : Heap} {C F : Addr}
theorem ok_parted (B : Bi K mg C F) (A : At K mg "parted" "parted" (top 27)) (c_inverse : Fn P w K mg base C F 1 "inverse" k_inverse) (c_trimmed : Fn P w K mg base C F 1 "trimmed" k_trimmed) : Fn P w K mg base C F 2 "parted" k_parted := by
  obtain ⟨f, fd, Fd, hm⟩ := A
  refine ⟨⟨f, fd, ["p", "one", "other"], ?_, hm, Fd.kp, Fd.bindsN fun _ _ _ _ _ _ us hl => match us, hl with | [_, _, _], _ => rfl⟩, mon_cF⟩
  have S : FnScope ["p", "one", "other", "at", "rest", "quotient", "back", "number", "place", "item"] ["p", "one", "other"] (defScope (top 27)) := ⟨rfl, rfl, rfl, by decide +kernel, rfl, by decide +kernel, by decide +kernel⟩
  obtain ⟨pr, BPR, BPRt⟩ := B.PR
  refine fn_ok (k := 1) Fd S (len_cF fun _ => rfl) fun g cdv A outer s H E hr => ?_
  have hu := hu_of hr
  have hu1 := hu1_of hr
  refine ⟨_, _, (ss_cons (st_par3O 4 5 6 rfl S.nd (df_list (de_var 1) B.list) (df_rep (DEf.de (df_lst (da_cons de_int da_nil))) (de_bi (c_max rfl) (da_cons (de_op o_add (de_op o_sub (de_bi c_len (da_cons (de_var 1) da_nil) B.len) (de_bi c_len (da_cons (de_var 2) da_nil) B.len)) de_int) (da_cons de_int da_nil)) B.max)) (de_call c_inverse hr (da_cons (de_var 0) (da_cons (de_ix (de_var 2) (de_neg de_int)) da_nil)))) (ss_cons (st_for PassesOwn.never rfl (di_rng3 (de_op o_sub (de_bi c_len (da_cons (de_var 1) da_nil) B.len) (de_bi c_len (da_cons (de_var 2) da_nil) B.len)) (de_neg de_int) rfl B.range) (tg_name 3 S.nd) (ss_cons (st_set 7 S.nd (de_op o_mod (de_op o_mul (de_lend 4 (de_ix (de_var 4) (de_op o_sub (de_op o_add (de_var 3) (de_bi c_len (da_cons (de_var 2) da_nil) B.len)) de_int))) (de_var 6)) (de_var 0))) (ss_cons (st_seti 5 (de_var 7) (de_var 3)) (ss_one (st_for PassesOwn.never rfl (di_enum (de_var 2) rfl B.enumerate) (tg_tup rfl (tgs_cons 8 (tgs_cons 9 tgs_nil S.nd) S.nd)) (ss_one (st_seti 4 (de_op o_mod (de_op o_sub (de_lend 4 (de_ix (de_var 4) (de_op o_add (de_var 3) (de_var 8)))) (de_op o_mul (de_var 7) (de_var 9))) (de_var 0)) (de_op o_add (de_var 3) (de_var 8))))))))) (ss_frz 4 (ss_frz 5 (ss_one (st_ret (de_tup (da_cons (de_call c_trimmed hr (da_cons (de_var 0) (da_cons (de_var 5) da_nil))) (da_cons (de_call c_trimmed hr (da_cons (de_var 0) (da_cons (de_var 4) da_nil))) da_nil))))))))), ?_⟩
  intro ds n Φ hh
  obtain ⟨⟨⟨p, hp⟩, xs, ys⟩, rfl, ⟨hl1, hl2, hc, hne⟩, h⟩ := hh
  try dsimp only at hl
  have hlim : lim = 1000000 := rfl
  simp only [slots0, List.map_cons, List.map_nil, List.length_cons, List.length_nil, Nat.reduceAdd, Nat.reduceSub, List.replicate, List.cons_append, List.nil_append]
  simp only [sSeq, sNext, sFrz, sDrop, sRet, sIf, gNm, gTp, gLs, setL, sAsg, sSet, sOwn, sPar, sPar3, sPar3O, dVar, dC, dF, dOp, dB, dAnd, dOr, dNot, dAndV, dOrV, dNotV, dIf, dIfF, dNil, dCons, dLst_e, dTup_e, wSub_i, wMod_i, wFdiv_i, wPow_i, wAdd_i, wAdd_l, wMul_i, wMul_l, fRep_e, wRepF_l, wLt_i, wLe_i, wGt_i, wGe_i, isNo, wIsN_n, wNotN_n, wIsB_b, wNotB_b, wEq_i, wNe_i, wNe_b, wNe_s, wEq_L, wNe_L, wEq_L0, wNe_L0, wNotIn, dNeg_e, nNeg_i, iRg1, iRg2, iRg3, iSeq, iSeqT, iEnm, sFor, dLc_e, lcS, dYes, wipeS, dCall, dMeth, dPrime, dPoly, dCurve, dParts, kLen_l, kLen_t, kLen_s, kInt_i, kMax_i, kMin3_i, kAbs_i, kRepr_b, fList, dBits, dIsT, fInt, fBool, fLst, fCrv, fFnc, wIx_l, wIx_t, wIx_s, fFrom, fTo, fStride, dTab3, dLend, dLendB, flatD, sPop, sApp, sSetI, sFldD, sNewF, sFrzF, slots0, List.map_cons, List.map_nil, List.replicate, List.cons_append, List.nil_append, List.append_nil, List.getElem?_cons_zero, List.getElem?_cons_succ, List.set_cons_zero, List.set_cons_succ, List.length_map, rng_len, rngD_len, enm_len, List.length_replicate, List.length_append, ← List.map_append, List.length_cons, List.length_nil, Nat.reduceAdd, Nat.reduceSub, Nat.reduceLeDiff, Bool.not_true, Bool.not_false, if_true, Bool.false_eq_true, if_false, true_and, and_true, Bool.not_eq_true']
  have h0 := h _ rfl
  dsimp only at hl1 hl2 hc hne h0
  have hb := List.length_pos_iff.mpr hne
  refine ⟨⟨by omega, by omega⟩, _, atI_ints (atI_last hne), ?_⟩
  refine u_inverse (last_ne hc hne) ?_
  intro bk hb1 hb2 hb3
  try dsimp only
  refine ⟨⟨by omega, by omega, by omega, by omega⟩, ?_⟩
  have plt := Pr.lt (p := p)
  have ec := cast_inv hb3
  generalize hN : (max ((xs.length : Int) - (ys.length : Int) + 1) 0).toNat = NQ
  have eK : ((xs.length : Int) - (ys.length : Int) - -1).toNat = NQ := by omega
  rw [eK]
  refine forW_rngD (fun i ρ n' => n' = n ∧ ∃ (rs qs : List Int) (s3 s7 s8 s9 : Sl), ρ = [.val (I p), .val (L xs), .val (L ys), s3, .own (rs.map D.int), .own (qs.map D.int), .val (I bk), s7, s8, s9] ∧ rs.length = xs.length ∧ qs.length = NQ ∧ sr p xs = sr p qs * sr p ys + sr p rs ∧ Bd (xs.length - i) (sr p rs) ∧ ∀ j, j < NQ - i → qs.getD j 0 = 0) ?_ ?_ ?_
  · refine ⟨rfl, xs, _, _, _, _, _, rfl, rfl, by simp, ?_, bd_sr xs, fun j hj => ?_⟩
    · rw [sr_zeros]; grind
    · rw [List.getD_eq_getElem?_getD, List.getElem?_replicate]; split <;> rfl
  · rintro i ρ n' N hi ⟨rfl, rs, qs, s3, s7, s8, s9, rfl, hrs, hqs, er, hbd, hz⟩ hN
    simp only [sSeq, sNext, sFrz, sDrop, sRet, sIf, gNm, gTp, gLs, setL, sAsg, sSet, sOwn, sPar, sPar3, sPar3O, dVar, dC, dF, dOp, dB, dAnd, dOr, dNot, dAndV, dOrV, dNotV, dIf, dIfF, dNil, dCons, dLst_e, dTup_e, wSub_i, wMod_i, wFdiv_i, wPow_i, wAdd_i, wAdd_l, wMul_i, wMul_l, fRep_e, wRepF_l, wLt_i, wLe_i, wGt_i, wGe_i, isNo, wIsN_n, wNotN_n, wIsB_b, wNotB_b, wEq_i, wNe_i, wNe_b, wNe_s, wEq_L, wNe_L, wEq_L0, wNe_L0, wNotIn, dNeg_e, nNeg_i, iRg1, iRg2, iRg3, iSeq, iSeqT, iEnm, sFor, dLc_e, lcS, dYes, wipeS, dCall, dMeth, dPrime, dPoly, dCurve, dParts, kLen_l, kLen_t, kLen_s, kInt_i, kMax_i, kMin3_i, kAbs_i, kRepr_b, fList, dBits, dIsT, fInt, fBool, fLst, fCrv, fFnc, wIx_l, wIx_t, wIx_s, fFrom, fTo, fStride, dTab3, dLend, dLendB, flatD, sPop, sApp, sSetI, sFldD, sNewF, sFrzF, slots0, List.map_cons, List.map_nil, List.replicate, List.cons_append, List.nil_append, List.append_nil, List.getElem?_cons_zero, List.getElem?_cons_succ, List.set_cons_zero, List.set_cons_succ, List.length_map, rng_len, rngD_len, enm_len, List.length_replicate, List.length_append, ← List.map_append, List.length_cons, List.length_nil, Nat.reduceAdd, Nat.reduceSub, Nat.reduceLeDiff, Bool.not_true, Bool.not_false, if_true, Bool.false_eq_true, if_false, true_and, and_true, Bool.not_eq_true']
    have hat : ((xs.length : Int) - (ys.length : Int) + (i : Int) * -1) = ((xs.length - ys.length - i : Nat) : Int) := by omega
    have htop : xs.length - ys.length - i + ys.length - 1 < rs.length := by omega
    rw [hat]
    refine ⟨.int (rs.getD (xs.length - ys.length - i + ys.length - 1) 0), ?_, by simp only [flatD], .inr ⟨by omega, by omega⟩, by omega, ⟨by omega, by omega⟩, ?_⟩
    · have : ((xs.length - ys.length - i : Nat) : Int) + (ys.length : Int) - 1 = ((xs.length - ys.length - i + ys.length - 1 : Nat) : Int) := by omega
      rw [this]
      refine atI_ints (atI_nat ?_)
      rw [List.getD_eq_getElem?_getD, List.getElem?_eq_getElem htop]; rfl
    · generalize hnum : rs.getD (xs.length - ys.length - i + ys.length - 1) 0 * bk % (p : Int) = num
      rw [Int.toNat_natCast]
      have n1 : 0 ≤ num := by rw [← hnum]; exact Int.emod_nonneg _ (by omega)
      have n2 : num < (p : Int) := by rw [← hnum]; exact Int.emod_lt_of_pos _ (by omega)
      generalize hA : xs.length - ys.length - i = at0 at *
      have hAq : at0 < qs.length := by omega
      refine forW_enm (fun j ρ n'' => n'' = n' ∧ ∃ (rs' : List Int) (s8 s9 : Sl), ρ = [.val (I p), .val (L xs), .val (L ys), .val (I (at0 : Int)), .own (rs'.map D.int), .own ((qs.set at0 num).map D.int), .val (I bk), .val (I num), s8, s9] ∧ rs'.length = xs.length ∧ sr p rs' = sr p rs + pl at0 (-((num : Int) : Fin p)) * sr p (ys.take j)) ?_ ?_ ?_
      · refine ⟨rfl, rs, s8, s9, ?_, hrs, ?_⟩
        · rw [List.map_set]
        · rw [List.take_zero, sr_nil]; grind
      · rintro j y ρ n'' N' hy ⟨rfl, rs', s8, s9, rfl, hrs', er'⟩ hN'
        simp only [sSeq, sNext, sFrz, sDrop, sRet, sIf, gNm, gTp, gLs, setL, sAsg, sSet, sOwn, sPar, sPar3, sPar3O, dVar, dC, dF, dOp, dB, dAnd, dOr, dNot, dAndV, dOrV, dNotV, dIf, dIfF, dNil, dCons, dLst_e, dTup_e, wSub_i, wMod_i, wFdiv_i, wPow_i, wAdd_i, wAdd_l, wMul_i, wMul_l, fRep_e, wRepF_l, wLt_i, wLe_i, wGt_i, wGe_i, isNo, wIsN_n, wNotN_n, wIsB_b, wNotB_b, wEq_i, wNe_i, wNe_b, wNe_s, wEq_L, wNe_L, wEq_L0, wNe_L0, wNotIn, dNeg_e, nNeg_i, iRg1, iRg2, iRg3, iSeq, iSeqT, iEnm, sFor, dLc_e, lcS, dYes, wipeS, dCall, dMeth, dPrime, dPoly, dCurve, dParts, kLen_l, kLen_t, kLen_s, kInt_i, kMax_i, kMin3_i, kAbs_i, kRepr_b, fList, dBits, dIsT, fInt, fBool, fLst, fCrv, fFnc, wIx_l, wIx_t, wIx_s, fFrom, fTo, fStride, dTab3, dLend, dLendB, flatD, sPop, sApp, sSetI, sFldD, sNewF, sFrzF, slots0, List.map_cons, List.map_nil, List.replicate, List.cons_append, List.nil_append, List.append_nil, List.getElem?_cons_zero, List.getElem?_cons_succ, List.set_cons_zero, List.set_cons_succ, List.length_map, rng_len, rngD_len, enm_len, List.length_replicate, List.length_append, ← List.map_append, List.length_cons, List.length_nil, Nat.reduceAdd, Nat.reduceSub, Nat.reduceLeDiff, Bool.not_true, Bool.not_false, if_true, Bool.false_eq_true, if_false, true_and, and_true, Bool.not_eq_true']
        have hj := (List.getElem?_eq_some_iff.mp hy).1
        have hij : at0 + j < rs'.length := by omega
        have eij : ((at0 : Int) + (j : Int)) = ((at0 + j : Nat) : Int) := by omega
        refine ⟨.int (rs'.getD (at0 + j) 0), ?_, by simp only [flatD], .inl ⟨by omega, by omega⟩, by omega, ⟨by omega, by omega⟩, ?_⟩
        · rw [eij]
          refine atI_ints (atI_nat ?_)
          rw [List.getD_eq_getElem?_getD, List.getElem?_eq_getElem hij]; rfl
        · refine hN' _ _ ⟨rfl, rs'.set (at0 + j) ((rs'.getD (at0 + j) 0 - num * y) % (p : Int)), .val (I (j : Int)), .val (I y), ?_, by simpa using hrs', ?_⟩
          · rw [eij, Int.toNat_natCast, List.map_set, List.map_set]
          · rw [sr_set hij, er', sr_take hy]
            have e : (((rs'.getD (at0 + j) 0 - num * y) % (p : Int) - rs'.getD (at0 + j) 0 : Int) : Fin p) = -((num : Int) : Fin p) * ((y : Int) : Fin p) := by
              rw [Lean.Grind.Ring.intCast_sub]
              have : (((rs'.getD (at0 + j) 0 - num * y) % (p : Int) : Int) : Fin p) = ((rs'.getD (at0 + j) 0 - num * y : Int) : Fin p) := MK.cast_eq.mpr (by rw [Int.emod_emod])
              rw [this, Lean.Grind.Ring.intCast_sub, Lean.Grind.Ring.intCast_mul]; grind
            rw [e, ← pl_mul]; grind
      · rintro ρ n'' ⟨rfl, rs', s8, s9, rfl, hrs', er'⟩
        rw [List.take_length] at er'
        refine hN _ _ ⟨rfl, rs', qs.set at0 num, _, _, _, _, rfl, hrs', by simpa using hqs, ?_, ?_, ?_⟩
        · rw [er', sr_set hAq, er]
          have e : num - qs.getD at0 0 = num := by rw [hz at0 (by omega)]; omega
          rw [e]
          have : pl at0 (-((num : Int) : Fin p)) = -pl at0 ((num : Int) : Fin p) := by unfold pl; rw [cS_neg]; grind
          rw [this]; grind
        · intro k hk
          rw [er', add_at]
          have e1 : (pl at0 (-((num : Int) : Fin p)) * sr p ys) k = -((num : Int) : Fin p) * (if k < at0 then 0 else sr p ys (k - at0)) := by
            have : pl at0 (-((num : Int) : Fin p)) * sr p ys = cS (-((num : Int) : Fin p)) * ((MK.X : Ser p) ^ at0 * sr p ys) := by unfold pl; grind
            rw [this, cS_mul, sm_at, X_pow, shk_at]
          rw [e1]
          by_cases hk2 : k = xs.length - 1 - i
          · have e2 : k - at0 = ys.length - 1 := by omega
            rw [if_neg (by omega), e2, sr_last ys hne]
            have e3 : sr p rs k = ((rs.getD (at0 + ys.length - 1) 0 : Int) : Fin p) := by rw [sr_at]; congr 2; omega
            have e4 : ((num : Int) : Fin p) = ((rs.getD (at0 + ys.length - 1) 0 : Int) : Fin p) * ((bk : Int) : Fin p) := by
              rw [← Lean.Grind.Ring.intCast_mul, ← hnum]; exact MK.cast_eq.mpr (by rw [Int.emod_emod])
            rw [e3, e4]; grind
          · rw [hbd k (by omega)]
            by_cases hk3 : k < at0
            · rw [if_pos hk3]; grind
            · rw [if_neg hk3, bd_sr ys _ (by omega)]; grind
        · intro j hj
          rw [List.getD_eq_getElem?_getD, List.getElem?_set_ne (by omega), ← List.getD_eq_getElem?_getD]
          exact hz j (by omega)
  · rintro ρ n' ⟨rfl, rs, qs, s3, s7, s8, s9, rfl, hrs, hqs, er, hbd, hz⟩
    simp only [sSeq, sNext, sFrz, sDrop, sRet, sIf, gNm, gTp, gLs, setL, sAsg, sSet, sOwn, sPar, sPar3, sPar3O, dVar, dC, dF, dOp, dB, dAnd, dOr, dNot, dAndV, dOrV, dNotV, dIf, dIfF, dNil, dCons, dLst_e, dTup_e, wSub_i, wMod_i, wFdiv_i, wPow_i, wAdd_i, wAdd_l, wMul_i, wMul_l, fRep_e, wRepF_l, wLt_i, wLe_i, wGt_i, wGe_i, isNo, wIsN_n, wNotN_n, wIsB_b, wNotB_b, wEq_i, wNe_i, wNe_b, wNe_s, wEq_L, wNe_L, wEq_L0, wNe_L0, wNotIn, dNeg_e, nNeg_i, iRg1, iRg2, iRg3, iSeq, iSeqT, iEnm, sFor, dLc_e, lcS, dYes, wipeS, dCall, dMeth, dPrime, dPoly, dCurve, dParts, kLen_l, kLen_t, kLen_s, kInt_i, kMax_i, kMin3_i, kAbs_i, kRepr_b, fList, dBits, dIsT, fInt, fBool, fLst, fCrv, fFnc, wIx_l, wIx_t, wIx_s, fFrom, fTo, fStride, dTab3, dLend, dLendB, flatD, sPop, sApp, sSetI, sFldD, sNewF, sFrzF, slots0, List.map_cons, List.map_nil, List.replicate, List.cons_append, List.nil_append, List.append_nil, List.getElem?_cons_zero, List.getElem?_cons_succ, List.set_cons_zero, List.set_cons_succ, List.length_map, rng_len, rngD_len, enm_len, List.length_replicate, List.length_append, ← List.map_append, List.length_cons, List.length_nil, Nat.reduceAdd, Nat.reduceSub, Nat.reduceLeDiff, Bool.not_true, Bool.not_false, if_true, Bool.false_eq_true, if_false, true_and, and_true, Bool.not_eq_true']
    refine u_trimmed (by omega) ?_
    refine u_trimmed (by omega) ?_
    have hd : DivOk p xs ys (trm p qs) (trm p rs) := by
      refine ⟨can_trm _, can_trm _, by rw [sr_trm, sr_trm]; exact er, ?_⟩
      have : (trm p rs).length ≤ ys.length - 1 := (can_trm rs).len_le (by rw [sr_trm]; exact hbd.mono (by omega))
      omega
    obtain ⟨e1, e2⟩ := div_eq hc hd
    rw [e1, e2] at h0
    exact h0
theorem ok_whole_part (B : Bi K mg C F) (A : At K mg "whole_part" "whole_part" (top 28)) (c_parted : Fn P w K mg base C F 2 "parted" k_parted) : Fn P w K mg base C F 3 "whole_part" k_whole_part := by
  obtain ⟨f, fd, Fd, hm⟩ := A
  refine ⟨⟨f, fd, ["p", "one", "other"], ?_, hm, Fd.kp, Fd.bindsN fun _ _ _ _ _ _ us hl => match us, hl with | [_, _, _], _ => rfl⟩, mon_cF⟩
  have S : FnScope ["p", "one", "other"] ["p", "one", "other"] (defScope (top 28)) := ⟨rfl, rfl, rfl, by decide +kernel, rfl, by decide +kernel, by decide +kernel⟩
  obtain ⟨pr, BPR, BPRt⟩ := B.PR
  refine fn_ok (k := 2) Fd S (len_cF fun _ => rfl) fun g cdv A outer s H E hr => ?_
  have hu := hu_of hr
  have hu1 := hu1_of hr
  refine ⟨_, _, (ss_one (st_ret (de_ix (de_call c_parted hr (da_cons (de_var 0) (da_cons (de_var 1) (da_cons (de_var 2) da_nil)))) de_int))), ?_⟩
  intro ds n Φ hh
  obtain ⟨⟨⟨p, hp⟩, xs, ys⟩, rfl, hl, h⟩ := hh
  try dsimp only at hl
  have hlim : lim = 1000000 := rfl
  simp only [slots0, List.map_cons, List.map_nil, List.length_cons, List.length_nil, Nat.reduceAdd, Nat.reduceSub, List.replicate, List.cons_append, List.nil_append]
  simp only [sSeq, sNext, sFrz, sDrop, sRet, sIf, gNm, gTp, gLs, setL, sAsg, sSet, sOwn, sPar, sPar3, sPar3O, dVar, dC, dF, dOp, dB, dAnd, dOr, dNot, dAndV, dOrV, dNotV, dIf, dIfF, dNil, dCons, dLst_e, dTup_e, wSub_i, wMod_i, wFdiv_i, wPow_i, wAdd_i, wAdd_l, wMul_i, wMul_l, fRep_e, wRepF_l, wLt_i, wLe_i, wGt_i, wGe_i, isNo, wIsN_n, wNotN_n, wIsB_b, wNotB_b, wEq_i, wNe_i, wNe_b, wNe_s, wEq_L, wNe_L, wEq_L0, wNe_L0, wNotIn, dNeg_e, nNeg_i, iRg1, iRg2, iRg3, iSeq, iSeqT, iEnm, sFor, dLc_e, lcS, dYes, wipeS, dCall, dMeth, dPrime, dPoly, dCurve, dParts, kLen_l, kLen_t, kLen_s, kInt_i, kMax_i, kMin3_i, kAbs_i, kRepr_b, fList, dBits, dIsT, fInt, fBool, fLst, fCrv, fFnc, wIx_l, wIx_t, wIx_s, fFrom, fTo, fStride, dTab3, dLend, dLendB, flatD, sPop, sApp, sSetI, sFldD, sNewF, sFrzF, slots0, List.map_cons, List.map_nil, List.replicate, List.cons_append, List.nil_append, List.append_nil, List.getElem?_cons_zero, List.getElem?_cons_succ, List.set_cons_zero, List.set_cons_succ, List.length_map, rng_len, rngD_len, enm_len, List.length_replicate, List.length_append, ← List.map_append, List.length_cons, List.length_nil, Nat.reduceAdd, Nat.reduceSub, Nat.reduceLeDiff, Bool.not_true, Bool.not_false, if_true, Bool.false_eq_true, if_false, true_and, and_true, Bool.not_eq_true']
  refine u_parted hl ?_
  refine ⟨_, rfl, ?_⟩
  exact h _ rfl
end KH
end
section
set_option Elab.async false
set_option linter.all false
set_option maxRecDepth 100000
set_option maxHeartbeats 2000000
namespace KH
open PySem PySem.Spec PyProof.Rows L2 DL
open MK hiding D X
variable {P : Program} {w : World} {K : PySem.W.Frag} {mg : Str → Option Value} {base : Heap} {C F : Addr}
theorem ok_common_with (B : Bi K mg C F) (A : At K mg "common_with" "common_with" (top 29)) (c_parted : Fn P w K mg base C F 2 "parted" k_parted) (c_lessened : Fn P w K mg base C F 3 "lessened" k_lessened) (c_multiplied : Fn P w K mg base C F 2 "multiplied" k_multiplied) (c_inverse : Fn P w K mg base C F 1 "inverse" k_inverse) (c_scaled : Fn P w K mg base C F 2 "scaled" k_scaled) : Fn P w K mg base C F 4 "common_with" k_common_with := by
  obtain ⟨f, fd, Fd, hm⟩ := A
  refine ⟨⟨f, fd, ["p", "one", "other"], ?_, hm, Fd.kp, Fd.bindsN fun _ _ _ _ _ _ us hl => match us, hl with | [_, _, _], _ => rfl⟩, mon_cF⟩
  have S : FnScope ["p", "one", "other", "back", "low", "high", "left", "right", "quotient", "rest"] ["p", "one", "other"] (defScope (top 29)) := ⟨rfl, rfl, rfl, by decide +kernel, rfl, by decide +kernel, by decide +kernel⟩
  obtain ⟨pr, BPR, BPRt⟩ := B.PR
  refine fn_ok (k := 3) Fd S (len_cF fun _ => rfl) fun g cdv A outer s H E hr => ?_
  have hu := hu_of hr
  have hu1 := hu1_of hr
  refine ⟨_, _, (ss_cons (st_par 4 5 rfl S.nd (de_tup (da_cons (DEf.de (df_list (de_var 1) B.list)) (da_cons (DEf.de (df_lst (da_cons de_int da_nil))) (da_cons (DEf.de (df_lst da_nil)) da_nil)))) (de_tup (da_cons (DEf.de (df_list (de_var 2) B.list)) (da_cons (DEf.de (df_lst da_nil)) (da_cons (DEf.de (df_lst (da_cons de_int da_nil))) da_nil))))) (ss_cons (st_while PassesOwn.never (db_cmp (o_ne hu) (de_ix (de_var 5) de_int) (DEf.de (df_lst da_nil))) (ss_cons (st_asg (de_call c_parted hr (da_cons (de_var 0) (da_cons (de_ix (de_var 4) de_int) (da_cons (de_ix (de_var 5) de_int) da_nil)))) (tg_tup rfl (tgs_cons 8 (tgs_cons 9 tgs_nil S.nd) S.nd))) (ss_cons (st_set 6 S.nd (de_call c_lessened hr (da_cons (de_var 0) (da_cons (de_ix (de_var 4) de_int) (da_cons (de_call c_multiplied hr (da_cons (de_var 0) (da_cons (de_var 8) (da_cons (de_ix (de_var 5) de_int) da_nil)))) da_nil))))) (ss_cons (st_set 7 S.nd (de_call c_lessened hr (da_cons (de_var 0) (da_cons (de_ix (de_var 4) de_int) (da_cons (de_call c_multiplied hr (da_cons (de_var 0) (da_cons (de_var 8) (da_cons (de_ix (de_var 5) de_int) da_nil)))) da_nil))))) (ss_one (st_par 4 5 rfl S.nd (de_var 5) (de_tup (da_cons (de_var 9) (da_cons (de_var 6) (da_cons (de_var 7) da_nil)))))))))) (ss_cons (st_if (db_cmp (o_eq hu) (de_ix (de_var 4) de_int) (DEf.de (df_lst da_nil))) (ss_one (st_ret (de_tup (da_cons (DEf.de (df_lst da_nil)) (da_cons (DEf.de (df_lst da_nil)) (da_cons (DEf.de (df_lst da_nil)) da_nil)))))) ss_nil) (ss_cons (st_set 3 S.nd (de_call c_inverse hr (da_cons (de_var 0) (da_cons (de_ix (de_ix (de_var 4) de_int) (de_neg de_int)) da_nil)))) (ss_one (st_ret (de_tup (da_cons (de_call c_scaled hr (da_cons (de_var 0) (da_cons (de_ix (de_var 4) de_int) (da_cons (de_var 3) da_nil)))) (da_cons (de_call c_scaled hr (da_cons (de_var 0) (da_cons (de_ix (de_var 4) de_int) (da_cons (de_var 3) da_nil)))) (da_cons (de_call c_scaled hr (da_cons (de_var 0) (da_cons (de_ix (de_var 4) de_int) (da_cons (de_var 3) da_nil)))) da_nil)))))))))), ?_⟩
  intro ds n Φ hh
  obtain ⟨⟨⟨p, hp⟩, xs, ys⟩, rfl, hl, h⟩ := hh
  try dsimp only at hl
  have hlim : lim = 1000000 := rfl
  simp only [slots0, List.map_cons, List.map_nil, List.length_cons, List.length_nil, Nat.reduceAdd, Nat.reduceSub, List.replicate, List.cons_append, List.nil_append]
  simp only [sSeq, sNext, sFrz, sDrop, sRet, sIf, gNm, gTp, gLs, setL, sAsg, sSet, sOwn, sPar, sPar3, sPar3O, dVar, dC, dF, dOp, dB, dAnd, dOr, dNot, dAndV, dOrV, dNotV, dIf, dIfF, dNil, dCons, dLst_e, dTup_e, wSub_i, wMod_i, wFdiv_i, wPow_i, wAdd_i, wAdd_l, wMul_i, wMul_l, fRep_e, wRepF_l, wLt_i, wLe_i, wGt_i, wGe_i, isNo, wIsN_n, wNotN_n, wIsB_b, wNotB_b, wEq_i, wNe_i, wNe_b, wNe_s, wEq_L, wNe_L, wEq_L0, wNe_L0, wNotIn, dNeg_e, nNeg_i, iRg1, iRg2, iRg3, iSeq, iSeqT, iEnm, sFor, dLc_e, lcS, dYes, wipeS, dCall, dMeth, dPrime, dPoly, dCurve, dParts, kLen_l, kLen_t, kLen_s, kInt_i, kMax_i, kMin3_i, kAbs_i, kRepr_b, fList, dBits, dIsT, fInt, fBool, fLst, fCrv, fFnc, wIx_l, wIx_t, wIx_s, fFrom, fTo, fStride, dTab3, dLend, dLendB, flatD, sPop, sApp, sSetI, sFldD, sNewF, sFrzF, slots0, List.map_cons, List.map_nil, List.replicate, List.cons_append, List.nil_append, List.append_nil, List.getElem?_cons_zero, List.getElem?_cons_succ, List.set_cons_zero, List.set_cons_succ, List.length_map, rng_len, rngD_len, enm_len, List.length_replicate, List.length_append, ← List.map_append, List.length_cons, List.length_nil, Nat.reduceAdd, Nat.reduceSub, Nat.reduceLeDiff, Bool.not_true, Bool.not_false, if_true, Bool.false_eq_true, if_false, true_and, and_true, Bool.not_eq_true']
  have h0 := fun s t => h _ ⟨s, t, rfl⟩
  dsimp only at h0
  have hlig : lig = 200000 := rfl
  obtain ⟨hl1, hl2, hl3, hl4⟩ := hl
  generalize hM : xs.length + ys.length + 1 = M
  refine ⟨fun m ρ n' => n' = n ∧ ∃ (l0 l1 l2 k0 k1 k2 : List Int) (s6 s7 s8 s9 : Sl), ρ = [.val (I p), .val (L xs), .val (L ys), .un, .val (.tup [L l0, L l1, L l2]), .val (.tup [L k0, L k1, L k2]), s6, s7, s8, s9] ∧ m = k0.length ∧ Can p l0 ∧ Can p k0 ∧ (∀ g, GcdS (sr p l0) (sr p k0) g → GcdS (sr p xs) (sr p ys) g) ∧ (l1.length + k0.length ≤ M ∧ k1.length + l0.length ≤ M) ∧ (l2.length + k0.length ≤ M ∧ k2.length + l0.length ≤ M), ⟨ys.length, rfl, xs, [1], [], ys, [], [1], .un, .un, .un, .un, rfl, rfl, hl3, hl4, fun g z => z, ⟨by simp only [List.length_cons, List.length_nil]; omega, by simp only [List.length_nil]; omega⟩, ⟨by simp only [List.length_nil]; omega, by simp only [List.length_cons, List.length_nil]; omega⟩⟩, ?_⟩
  rintro m ρ n' ⟨rfl, l0, l1, l2, k0, k1, k2, s6, s7, s8, s9, rfl, rfl, c1, c2, hg, ⟨b1, b2⟩, ⟨b3, b4⟩⟩
  (try simp only [sSeq, sNext, sFrz, sDrop, sRet, sIf, gNm, gTp, gLs, setL, sAsg, sSet, sOwn, sPar, sPar3, sPar3O, dVar, dC, dF, dOp, dB, dAnd, dOr, dNot, dAndV, dOrV, dNotV, dIf, dIfF, dNil, dCons, dLst_e, dTup_e, wSub_i, wMod_i, wFdiv_i, wPow_i, wAdd_i, wAdd_l, wMul_i, wMul_l, fRep_e, wRepF_l, wLt_i, wLe_i, wGt_i, wGe_i, isNo, wIsN_n, wNotN_n, wIsB_b, wNotB_b, wEq_i, wNe_i, wNe_b, wNe_s, wEq_L, wNe_L, wEq_L0, wNe_L0, wNotIn, dNeg_e, nNeg_i, iRg1, iRg2, iRg3, iSeq, iSeqT, iEnm, sFor, dLc_e, lcS, dYes, wipeS, dCall, dMeth, dPrime, dPoly, dCurve, dParts, kLen_l, kLen_t, kLen_s, kInt_i, kMax_i, kMin3_i, kAbs_i, kRepr_b, fList, dBits, dIsT, fInt, fBool, fLst, fCrv, fFnc, wIx_l, wIx_t, wIx_s, fFrom, fTo, fStride, dTab3, dLend, dLendB, flatD, sPop, sApp, sSetI, sFldD, sNewF, sFrzF, slots0, List.map_cons, List.map_nil, List.replicate, List.cons_append, List.nil_append, List.append_nil, List.getElem?_cons_zero, List.getElem?_cons_succ, List.set_cons_zero, List.set_cons_succ, List.length_map, rng_len, rngD_len, enm_len, List.length_replicate, List.length_append, ← List.map_append, List.length_cons, List.length_nil, Nat.reduceAdd, Nat.reduceSub, Nat.reduceLeDiff, Bool.not_true, Bool.not_false, if_true, Bool.false_eq_true, if_false, true_and, and_true, Bool.not_eq_true'])
  refine ⟨_, rfl, ?_⟩
  rw [wNe_L0]
  dsimp only
  by_cases hk : k0 = []
  · subst hk
    rw [if_neg (by simp)]
    have hgl := hg (sr p l0) (by rw [sr_nil]; exact gcdS_end (pl_sr l0))
    refine ⟨_, rfl, ?_⟩
    rw [wEq_L0]
    dsimp only
    by_cases hl0 : l0 = []
    · subst hl0
      rw [if_pos (by simp)]
      have := h0 [] []
      rw [gcd_nil hgl] at this
      exact this
    · rw [if_neg (by simpa using hl0)]
      refine ⟨_, rfl, _, atI_ints (atI_last hl0), ?_⟩
      refine u_inverse (last_ne c1 hl0) ?_
      intro r r1 r2 r3
      have plt := Pr.lt (p := p)
      (try simp only [sSeq, sNext, sFrz, sDrop, sRet, sIf, gNm, gTp, gLs, setL, sAsg, sSet, sOwn, sPar, sPar3, sPar3O, dVar, dC, dF, dOp, dB, dAnd, dOr, dNot, dAndV, dOrV, dNotV, dIf, dIfF, dNil, dCons, dLst_e, dTup_e, wSub_i, wMod_i, wFdiv_i, wPow_i, wAdd_i, wAdd_l, wMul_i, wMul_l, fRep_e, wRepF_l, wLt_i, wLe_i, wGt_i, wGe_i, isNo, wIsN_n, wNotN_n, wIsB_b, wNotB_b, wEq_i, wNe_i, wNe_b, wNe_s, wEq_L, wNe_L, wEq_L0, wNe_L0, wNotIn, dNeg_e, nNeg_i, iRg1, iRg2, iRg3, iSeq, iSeqT, iEnm, sFor, dLc_e, lcS, dYes, wipeS, dCall, dMeth, dPrime, dPoly, dCurve, dParts, kLen_l, kLen_t, kLen_s, kInt_i, kMax_i, kMin3_i, kAbs_i, kRepr_b, fList, dBits, dIsT, fInt, fBool, fLst, fCrv, fFnc, wIx_l, wIx_t, wIx_s, fFrom, fTo, fStride, dTab3, dLend, dLendB, flatD, sPop, sApp, sSetI, sFldD, sNewF, sFrzF, slots0, List.map_cons, List.map_nil, List.replicate, List.cons_append, List.nil_append, List.append_nil, List.getElem?_cons_zero, List.getElem?_cons_succ, List.set_cons_zero, List.set_cons_succ, List.length_map, rng_len, rngD_len, enm_len, List.length_replicate, List.length_append, ← List.map_append, List.length_cons, List.length_nil, Nat.reduceAdd, Nat.reduceSub, Nat.reduceLeDiff, Bool.not_true, Bool.not_false, if_true, Bool.false_eq_true, if_false, true_and, and_true, Bool.not_eq_true'])
      refine ⟨_, rfl, u_scaled ⟨by omega, by omega, by omega⟩ ?_⟩
      refine ⟨_, rfl, u_scaled ⟨by omega, by omega, by omega⟩ ?_⟩
      refine ⟨_, rfl, u_scaled ⟨by omega, by omega, by omega⟩ ?_⟩
      rw [← gcd_scl c1 hl0 hgl r3]
      exact h0 _ _
  · rw [if_pos (by simpa using hk)]
    have kp := List.length_pos_iff.mpr hk
    have q1 := len_quo l0 c2 hk
    have q2 := len_rem l0 c2 hk
    have sd := (div_spec l0 c2 hk).1
    have m1 := len_mul (p := p) (quoP p l0 k0) k1
    have m2 := len_mul (p := p) (quoP p l0 k0) k2
    have mz : l0.length < k0.length → (mulP p (quoP p l0 k0) k1).length = 0 ∧ (mulP p (quoP p l0 k0) k2).length = 0 := fun z => by
      have : quoP p l0 k0 = [] := List.length_eq_zero_iff.mp (by omega)
      exact ⟨len_mul0 _ this, len_mul0 _ this⟩
    have s1 := len_sub (p := p) l1 (mulP p (quoP p l0 k0) k1)
    have s2 := len_sub (p := p) l2 (mulP p (quoP p l0 k0) k2)
    refine ⟨_, rfl, _, rfl, u_parted ⟨by omega, by omega, c2, hk⟩ ?_⟩
    (try simp only [sSeq, sNext, sFrz, sDrop, sRet, sIf, gNm, gTp, gLs, setL, sAsg, sSet, sOwn, sPar, sPar3, sPar3O, dVar, dC, dF, dOp, dB, dAnd, dOr, dNot, dAndV, dOrV, dNotV, dIf, dIfF, dNil, dCons, dLst_e, dTup_e, wSub_i, wMod_i, wFdiv_i, wPow_i, wAdd_i, wAdd_l, wMul_i, wMul_l, fRep_e, wRepF_l, wLt_i, wLe_i, wGt_i, wGe_i, isNo, wIsN_n, wNotN_n, wIsB_b, wNotB_b, wEq_i, wNe_i, wNe_b, wNe_s, wEq_L, wNe_L, wEq_L0, wNe_L0, wNotIn, dNeg_e, nNeg_i, iRg1, iRg2, iRg3, iSeq, iSeqT, iEnm, sFor, dLc_e, lcS, dYes, wipeS, dCall, dMeth, dPrime, dPoly, dCurve, dParts, kLen_l, kLen_t, kLen_s, kInt_i, kMax_i, kMin3_i, kAbs_i, kRepr_b, fList, dBits, dIsT, fInt, fBool, fLst, fCrv, fFnc, wIx_l, wIx_t, wIx_s, fFrom, fTo, fStride, dTab3, dLend, dLendB, flatD, sPop, sApp, sSetI, sFldD, sNewF, sFrzF, slots0, List.map_cons, List.map_nil, List.replicate, List.cons_append, List.nil_append, List.append_nil, List.getElem?_cons_zero, List.getElem?_cons_succ, List.set_cons_zero, List.set_cons_succ, List.length_map, rng_len, rngD_len, enm_len, List.length_replicate, List.length_append, ← List.map_append, List.length_cons, List.length_nil, Nat.reduceAdd, Nat.reduceSub, Nat.reduceLeDiff, Bool.not_true, Bool.not_false, if_true, Bool.false_eq_true, if_false, true_and, and_true, Bool.not_eq_true'])
    refine ⟨_, rfl, _, rfl, u_multiplied ⟨by omega, by omega, Can.sm sd.cq⟩ (u_lessened ⟨by omega, by omega⟩ ?_)⟩
    (try simp only [sSeq, sNext, sFrz, sDrop, sRet, sIf, gNm, gTp, gLs, setL, sAsg, sSet, sOwn, sPar, sPar3, sPar3O, dVar, dC, dF, dOp, dB, dAnd, dOr, dNot, dAndV, dOrV, dNotV, dIf, dIfF, dNil, dCons, dLst_e, dTup_e, wSub_i, wMod_i, wFdiv_i, wPow_i, wAdd_i, wAdd_l, wMul_i, wMul_l, fRep_e, wRepF_l, wLt_i, wLe_i, wGt_i, wGe_i, isNo, wIsN_n, wNotN_n, wIsB_b, wNotB_b, wEq_i, wNe_i, wNe_b, wNe_s, wEq_L, wNe_L, wEq_L0, wNe_L0, wNotIn, dNeg_e, nNeg_i, iRg1, iRg2, iRg3, iSeq, iSeqT, iEnm, sFor, dLc_e, lcS, dYes, wipeS, dCall, dMeth, dPrime, dPoly, dCurve, dParts, kLen_l, kLen_t, kLen_s, kInt_i, kMax_i, kMin3_i, kAbs_i, kRepr_b, fList, dBits, dIsT, fInt, fBool, fLst, fCrv, fFnc, wIx_l, wIx_t, wIx_s, fFrom, fTo, fStride, dTab3, dLend, dLendB, flatD, sPop, sApp, sSetI, sFldD, sNewF, sFrzF, slots0, List.map_cons, List.map_nil, List.replicate, List.cons_append, List.nil_append, List.append_nil, List.getElem?_cons_zero, List.getElem?_cons_succ, List.set_cons_zero, List.set_cons_succ, List.length_map, rng_len, rngD_len, enm_len, List.length_replicate, List.length_append, ← List.map_append, List.length_cons, List.length_nil, Nat.reduceAdd, Nat.reduceSub, Nat.reduceLeDiff, Bool.not_true, Bool.not_false, if_true, Bool.false_eq_true, if_false, true_and, and_true, Bool.not_eq_true'])
    refine ⟨_, rfl, _, rfl, u_multiplied ⟨by omega, by omega, Can.sm sd.cq⟩ (u_lessened ⟨by omega, by omega⟩ ?_)⟩
    (try simp only [sSeq, sNext, sFrz, sDrop, sRet, sIf, gNm, gTp, gLs, setL, sAsg, sSet, sOwn, sPar, sPar3, sPar3O, dVar, dC, dF, dOp, dB, dAnd, dOr, dNot, dAndV, dOrV, dNotV, dIf, dIfF, dNil, dCons, dLst_e, dTup_e, wSub_i, wMod_i, wFdiv_i, wPow_i, wAdd_i, wAdd_l, wMul_i, wMul_l, fRep_e, wRepF_l, wLt_i, wLe_i, wGt_i, wGe_i, isNo, wIsN_n, wNotN_n, wIsB_b, wNotB_b, wEq_i, wNe_i, wNe_b, wNe_s, wEq_L, wNe_L, wEq_L0, wNe_L0, wNotIn, dNeg_e, nNeg_i, iRg1, iRg2, iRg3, iSeq, iSeqT, iEnm, sFor, dLc_e, lcS, dYes, wipeS, dCall, dMeth, dPrime, dPoly, dCurve, dParts, kLen_l, kLen_t, kLen_s, kInt_i, kMax_i, kMin3_i, kAbs_i, kRepr_b, fList, dBits, dIsT, fInt, fBool, fLst, fCrv, fFnc, wIx_l, wIx_t, wIx_s, fFrom, fTo, fStride, dTab3, dLend, dLendB, flatD, sPop, sApp, sSetI, sFldD, sNewF, sFrzF, slots0, List.map_cons, List.map_nil, List.replicate, List.cons_append, List.nil_append, List.append_nil, List.getElem?_cons_zero, List.getElem?_cons_succ, List.set_cons_zero, List.set_cons_succ, List.length_map, rng_len, rngD_len, enm_len, List.length_replicate, List.length_append, ← List.map_append, List.length_cons, List.length_nil, Nat.reduceAdd, Nat.reduceSub, Nat.reduceLeDiff, Bool.not_true, Bool.not_false, if_true, Bool.false_eq_true, if_false, true_and, and_true, Bool.not_eq_true'])
    exact ⟨(remP p l0 k0).length, q2.1, k0, k1, k2, remP p l0 k0, subP p l1 (mulP p (quoP p l0 k0) k1), subP p l2 (mulP p (quoP p l0 k0) k2), _, _, _, _, rfl, rfl, c2, sd.cr, fun g z => hg g (z.step (pl_sr _) sd.e), ⟨by omega, by omega⟩, ⟨by omega, by omega⟩⟩
theorem ok_common_of (B : Bi K mg C F) (A : At K mg "common_of" "common_of" (top 30)) (c_common_with : Fn P w K mg base C F 4 "common_with" k_common_with) : Fn P w K mg base C F 5 "common_of" k_common_of := by
  obtain ⟨f, fd, Fd, hm⟩ := A
  refine ⟨⟨f, fd, ["p", "one", "other"], ?_, hm, Fd.kp, Fd.bindsN fun _ _ _ _ _ _ us hl => match us, hl with | [_, _, _], _ => rfl⟩, mon_cF⟩
  have S : FnScope ["p", "one", "other"] ["p", "one", "other"] (defScope (top 30)) := ⟨rfl, rfl, rfl, by decide +kernel, rfl, by decide +kernel, by decide +kernel⟩
  obtain ⟨pr, BPR, BPRt⟩ := B.PR
  refine fn_ok (k := 4) Fd S (len_cF fun _ => rfl) fun g cdv A outer s H E hr => ?_
  have hu := hu_of hr
  have hu1 := hu1_of hr
  refine ⟨_, _, (ss_one (st_ret (de_ix (de_call c_common_with hr (da_cons (de_var 0) (da_cons (de_var 1) (da_cons (de_var 2) da_nil)))) de_int))), ?_⟩
  intro ds n Φ hh
  obtain ⟨⟨⟨p, hp⟩, xs, ys⟩, rfl, hl, h⟩ := hh
  try dsimp only at hl
  have hlim : lim = 1000000 := rfl
  simp only [slots0, List.map_cons, List.map_nil, List.length_cons, List.length_nil, Nat.reduceAdd, Nat.reduceSub, List.replicate, List.cons_append, List.nil_append]
  simp only [sSeq, sNext, sFrz, sDrop, sRet, sIf, gNm, gTp, gLs, setL, sAsg, sSet, sOwn, sPar, sPar3, sPar3O, dVar, dC, dF, dOp, dB, dAnd, dOr, dNot, dAndV, dOrV, dNotV, dIf, dIfF, dNil, dCons, dLst_e, dTup_e, wSub_i, wMod_i, wFdiv_i, wPow_i, wAdd_i, wAdd_l, wMul_i, wMul_l, fRep_e, wRepF_l, wLt_i, wLe_i, wGt_i, wGe_i, isNo, wIsN_n, wNotN_n, wIsB_b, wNotB_b, wEq_i, wNe_i, wNe_b, wNe_s, wEq_L, wNe_L, wEq_L0, wNe_L0, wNotIn, dNeg_e, nNeg_i, iRg1, iRg2, iRg3, iSeq, iSeqT, iEnm, sFor, dLc_e, lcS, dYes, wipeS, dCall, dMeth, dPrime, dPoly, dCurve, dParts, kLen_l, kLen_t, kLen_s, kInt_i, kMax_i, kMin3_i, kAbs_i, kRepr_b, fList, dBits, dIsT, fInt, fBool, fLst, fCrv, fFnc, wIx_l, wIx_t, wIx_s, fFrom, fTo, fStride, dTab3, dLend, dLendB, flatD, sPop, sApp, sSetI, sFldD, sNewF, sFrzF, slots0, List.map_cons, List.map_nil, List.replicate, List.cons_append, List.nil_append, List.append_nil, List.getElem?_cons_zero, List.getElem?_cons_succ, List.set_cons_zero, List.set_cons_succ, List.length_map, rng_len, rngD_len, enm_len, List.length_replicate, List.length_append, ← List.map_append, List.length_cons, List.length_nil, Nat.reduceAdd, Nat.reduceSub, Nat.reduceLeDiff, Bool.not_true, Bool.not_false, if_true, Bool.false_eq_true, if_false, true_and, and_true, Bool.not_eq_true']
  refine u_common_with hl ?_
  intro s t
  exact ⟨_, rfl, h _ rfl⟩
theorem ok_slope_of (B : Bi K mg C F) (A : At K mg "slope_of" "slope_of" (top 31)) (c_trimmed : Fn P w K mg base C F 1 "trimmed" k_trimmed) : Fn P w K mg base C F 2 "slope_of" k_slope_of := by
  obtain ⟨f, fd, Fd, hm⟩ := A
  refine ⟨⟨f, fd, ["p", "one"], ?_, hm, Fd.kp, Fd.bindsN fun _ _ _ _ _ _ us hl => match us, hl with | [_, _], _ => rfl⟩, mon_cF⟩
  have S : FnScope ["p", "one", "at", "number"] ["p", "one"] (defScope (top 31)) := ⟨rfl, rfl, rfl, by decide +kernel, rfl, by decide +kernel, by decide +kernel⟩
  obtain ⟨pr, BPR, BPRt⟩ := B.PR
  refine fn_ok (k := 1) Fd S (len_cF fun _ => rfl) fun g cdv A outer s H E hr => ?_
  have hu := hu_of hr
  have hu1 := hu1_of hr
  refine ⟨_, _, (ss_one (st_ret (de_call c_trimmed hr (da_cons (de_var 0) (da_cons (DEf.de (df_from (DEf.de (df_lc [("at", 2), ("number", 3)] rfl S.nd (di_enum (de_var 1) rfl B.enumerate) (blkOk (N := ["p", "one", "at", "number"]) (sc := (defScope (top 31))) (by decide +kernel)) (fun _ _ _ _ _ => tg_tup rfl (tgs_cons 2 (tgs_cons 3 tgs_nil S.nd) S.nd)) (tgin_tup (tgsin_cons (tgsin_cons tgsin_nil))) (fun _ _ _ _ _ => dts_nil) (fun _ _ _ _ _ => (de_op o_mul (de_var 2) (de_var 3))))) de_int)) da_nil))))), ?_⟩
  intro ds n Φ hh
  obtain ⟨⟨⟨p, hp⟩, xs⟩, rfl, hl, h⟩ := hh
  try dsimp only at hl
  have hlim : lim = 1000000 := rfl
  simp only [slots0, List.map_cons, List.map_nil, List.length_cons, List.length_nil, Nat.reduceAdd, Nat.reduceSub, List.replicate, List.cons_append, List.nil_append]
  simp only [sSeq, sNext, sFrz, sDrop, sRet, sIf, gNm, gTp, gLs, setL, sAsg, sSet, sOwn, sPar, sPar3, sPar3O, dVar, dC, dF, dOp, dB, dAnd, dOr, dNot, dAndV, dOrV, dNotV, dIf, dIfF, dNil, dCons, dLst_e, dTup_e, wSub_i, wMod_i, wFdiv_i, wPow_i, wAdd_i, wAdd_l, wMul_i, wMul_l, fRep_e, wRepF_l, wLt_i, wLe_i, wGt_i, wGe_i, isNo, wIsN_n, wNotN_n, wIsB_b, wNotB_b, wEq_i, wNe_i, wNe_b, wNe_s, wEq_L, wNe_L, wEq_L0, wNe_L0, wNotIn, dNeg_e, nNeg_i, iRg1, iRg2, iRg3, iSeq, iSeqT, iEnm, sFor, dLc_e, lcS, dYes, wipeS, dCall, dMeth, dPrime, dPoly, dCurve, dParts, kLen_l, kLen_t, kLen_s, kInt_i, kMax_i, kMin3_i, kAbs_i, kRepr_b, fList, dBits, dIsT, fInt, fBool, fLst, fCrv, fFnc, wIx_l, wIx_t, wIx_s, fFrom, fTo, fStride, dTab3, dLend, dLendB, flatD, sPop, sApp, sSetI, sFldD, sNewF, sFrzF, slots0, List.map_cons, List.map_nil, List.replicate, List.cons_append, List.nil_append, List.append_nil, List.getElem?_cons_zero, List.getElem?_cons_succ, List.set_cons_zero, List.set_cons_succ, List.length_map, rng_len, rngD_len, enm_len, List.length_replicate, List.length_append, ← List.map_append, List.length_cons, List.length_nil, Nat.reduceAdd, Nat.reduceSub, Nat.reduceLeDiff, Bool.not_true, Bool.not_false, if_true, Bool.false_eq_true, if_false, true_and, and_true, Bool.not_eq_true']
  have h0 := h _ rfl
  refine ⟨by omega, ?_⟩
  refine lcW_enm (fun i x => (i : Int) * x) ?_ ?_
  · intro i x hx n Ψ hΨ
    have hi := (List.getElem?_eq_some_iff.mp hx).1
    (try simp only [sSeq, sNext, sFrz, sDrop, sRet, sIf, gNm, gTp, gLs, setL, sAsg, sSet, sOwn, sPar, sPar3, sPar3O, dVar, dC, dF, dOp, dB, dAnd, dOr, dNot, dAndV, dOrV, dNotV, dIf, dIfF, dNil, dCons, dLst_e, dTup_e, wSub_i, wMod_i, wFdiv_i, wPow_i, wAdd_i, wAdd_l, wMul_i, wMul_l, fRep_e, wRepF_l, wLt_i, wLe_i, wGt_i, wGe_i, isNo, wIsN_n, wNotN_n, wIsB_b, wNotB_b, wEq_i, wNe_i, wNe_b, wNe_s, wEq_L, wNe_L, wEq_L0, wNe_L0, wNotIn, dNeg_e, nNeg_i, iRg1, iRg2, iRg3, iSeq, iSeqT, iEnm, sFor, dLc_e, lcS, dYes, wipeS, dCall, dMeth, dPrime, dPoly, dCurve, dParts, kLen_l, kLen_t, kLen_s, kInt_i, kMax_i, kMin3_i, kAbs_i, kRepr_b, fList, dBits, dIsT, fInt, fBool, fLst, fCrv, fFnc, wIx_l, wIx_t, wIx_s, fFrom, fTo, fStride, dTab3, dLend, dLendB, flatD, sPop, sApp, sSetI, sFldD, sNewF, sFrzF, slots0, List.map_cons, List.map_nil, List.replicate, List.cons_append, List.nil_append, List.append_nil, List.getElem?_cons_zero, List.getElem?_cons_succ, List.set_cons_zero, List.set_cons_succ, List.length_map, rng_len, rngD_len, enm_len, List.length_replicate, List.length_append, ← List.map_append, List.length_cons, List.length_nil, Nat.reduceAdd, Nat.reduceSub, Nat.reduceLeDiff, Bool.not_true, Bool.not_false, if_true, Bool.false_eq_true, if_false, true_and, and_true, Bool.not_eq_true'])
    exact ⟨.inl ⟨by omega, by omega⟩, hΨ⟩
  · rw [cutD_from1]
    refine u_trimmed (by simp; omega) ?_
    rw [trm_fall]; exact h0
theorem ok_is_curve_poly (B : Bi K mg C F) (A : At K mg "is_curve_poly" "is_curve_poly" (top 34)) (c_is_poly_list : Fn P w K mg base C F 3 "is_poly_list" k_is_poly_list) (c_common_of : Fn P w K mg base C F 5 "common_of" k_common_of) (c_slope_of : Fn P w K mg base C F 2 "slope_of" k_slope_of) : Fn P w K mg base C F 6 "is_curve_poly" k_is_curve_poly := by
  obtain ⟨f, fd, Fd, hm⟩ := A
  refine ⟨⟨f, fd, ["p", "value"], ?_, hm, Fd.kp, Fd.bindsN fun _ _ _ _ _ _ us hl => match us, hl with | [_, _], _ => rfl⟩, mon_cF⟩
  have S : FnScope ["p", "value"] ["p", "value"] (defScope (top 34)) := ⟨rfl, rfl, rfl, by decide +kernel, rfl, by decide +kernel, by decide +kernel⟩
  obtain ⟨pr, BPR, BPRt⟩ := B.PR
  refine fn_ok (k := 5) Fd S (len_cF fun _ => rfl) fun g cdv A outer s H E hr => ?_
  have hu := hu_of hr
  have hu1 := hu1_of hr
  refine ⟨_, _, (ss_cons (st_if (DW.db (dw_or (db_not (db_val (de_call c_is_poly_list hr (da_cons (de_var 0) (da_cons (de_var 1) da_nil))))) (dw_or (db_cmp o_notIn (de_bi c_len (da_cons (de_var 1) da_nil) B.len) (DEf.de (df_lst (da_cons de_int (da_cons de_int (da_cons de_int (da_cons de_int da_nil))))))) (dw_or1 (db_cmp (o_ne hu) (de_ix (de_var 1) (de_neg de_int)) de_int))))) (ss_one (st_ret de_bl)) ss_nil) (ss_one (st_ret (de_cmp (o_eq hu) (de_call c_common_of hr (da_cons (de_var 0) (da_cons (de_var 1) (da_cons (de_call c_slope_of hr (da_cons (de_var 0) (da_cons (de_var 1) da_nil))) da_nil)))) (DEf.de (df_lst (da_cons de_int da_nil))))))), ?_⟩
  intro ds n Φ hh
  obtain ⟨⟨⟨p, hp⟩, f⟩, rfl, hl, h⟩ := hh
  try dsimp only at hl
  have hlim : lim = 1000000 := rfl
  simp only [slots0, List.map_cons, List.map_nil, List.length_cons, List.length_nil, Nat.reduceAdd, Nat.reduceSub, List.replicate, List.cons_append, List.nil_append]
  simp only [sSeq, sNext, sFrz, sDrop, sRet, sIf, gNm, gTp, gLs, setL, sAsg, sSet, sOwn, sPar, sPar3, sPar3O, dVar, dC, dF, dOp, dB, dAnd, dOr, dNot, dAndV, dOrV, dNotV, dIf, dIfF, dNil, dCons, dLst_e, dTup_e, wSub_i, wMod_i, wFdiv_i, wPow_i, wAdd_i, wAdd_l, wMul_i, wMul_l, fRep_e, wRepF_l, wLt_i, wLe_i, wGt_i, wGe_i, isNo, wIsN_n, wNotN_n, wIsB_b, wNotB_b, wEq_i, wNe_i, wNe_b, wNe_s, wEq_L, wNe_L, wEq_L0, wNe_L0, wNotIn, dNeg_e, nNeg_i, iRg1, iRg2, iRg3, iSeq, iSeqT, iEnm, sFor, dLc_e, lcS, dYes, wipeS, dCall, dMeth, dPrime, dPoly, dCurve, dParts, kLen_l, kLen_t, kLen_s, kInt_i, kMax_i, kMin3_i, kAbs_i, kRepr_b, fList, dBits, dIsT, fInt, fBool, fLst, fCrv, fFnc, wIx_l, wIx_t, wIx_s, fFrom, fTo, fStride, dTab3, dLend, dLendB, flatD, sPop, sApp, sSetI, sFldD, sNewF, sFrzF, slots0, List.map_cons, List.map_nil, List.replicate, List.cons_append, List.nil_append, List.append_nil, List.getElem?_cons_zero, List.getElem?_cons_succ, List.set_cons_zero, List.set_cons_succ, List.length_map, rng_len, rngD_len, enm_len, List.length_replicate, List.length_append, ← List.map_append, List.length_cons, List.length_nil, Nat.reduceAdd, Nat.reduceSub, Nat.reduceLeDiff, Bool.not_true, Bool.not_false, if_true, Bool.false_eq_true, if_false, true_and, and_true, Bool.not_eq_true']
  have h0 := h _ rfl
  obtain ⟨h1, h2, h3, h4⟩ := hl
  refine u_is_poly_list ⟨h1, by omega⟩ ?_
  dsimp only
  rw [if_neg (by decide)]
  have hm : (f.length : Int) ∈ [2, 4, 6, 8] := by
    rcases h2 with e | e | e | e <;> rw [e] <;> decide
  refine ⟨[2, 4, 6, 8], rfl, ?_⟩
  rw [if_neg (by simp only [hm, decide_true]; decide)]
  refine ⟨_, atI_ints h3, ?_⟩
  rw [wNe_i]
  dsimp only
  rw [if_neg (by decide)]
  have l1 := len_fall (p := p) f
  have hlig : lig = 200000 := rfl
  refine u_slope_of (by omega) (u_common_of ⟨by omega, by omega, h1, can_fall f⟩ ?_)
  rw [h4]
  show wEq (.lst ([1].map D.int)) (.lst ([1].map D.int)) n Φ
  rw [wEq_L]
  exact h0
theorem ok_every (B : Bi K mg C F) (A : At K mg "every" "every" (top 58)) (c_trimmed : Fn P w K mg base C F 1 "trimmed" k_trimmed) : Fn P w K mg base C F 2 "every" k_every := by
  obtain ⟨f, fd, Fd, hm⟩ := A
  refine ⟨⟨f, fd, ["p", "poly", "first"], ?_, hm, Fd.kp, Fd.bindsN fun _ _ _ _ _ _ us hl => match us, hl with | [_, _, _], _ => rfl⟩, mon_cF⟩
  have S : FnScope ["p", "poly", "first"] ["p", "poly", "first"] (defScope (top 58)) := ⟨rfl, rfl, rfl, by decide +kernel, rfl, by decide +kernel, by decide +kernel⟩
  obtain ⟨pr, BPR, BPRt⟩ := B.PR
  refine fn_ok (k := 1) Fd S (len_cF fun _ => rfl) fun g cdv A outer s H E hr => ?_
  have hu := hu_of hr
  have hu1 := hu1_of hr
  refine ⟨_, _, (ss_one (st_ret (de_call c_trimmed hr (da_cons (de_var 0) (da_cons (DEf.de (df_stride (de_var 1) (de_var 2) (de_var 0))) da_nil))))), ?_⟩
  intro ds n Φ hh
  obtain ⟨⟨⟨p, hp⟩, xs, i⟩, rfl, hl, h⟩ := hh
  try dsimp only at hl
  have hlim : lim = 1000000 := rfl
  simp only [slots0, List.map_cons, List.map_nil, List.length_cons, List.length_nil, Nat.reduceAdd, Nat.reduceSub, List.replicate, List.cons_append, List.nil_append]
  simp only [sSeq, sNext, sFrz, sDrop, sRet, sIf, gNm, gTp, gLs, setL, sAsg, sSet, sOwn, sPar, sPar3, sPar3O, dVar, dC, dF, dOp, dB, dAnd, dOr, dNot, dAndV, dOrV, dNotV, dIf, dIfF, dNil, dCons, dLst_e, dTup_e, wSub_i, wMod_i, wFdiv_i, wPow_i, wAdd_i, wAdd_l, wMul_i, wMul_l, fRep_e, wRepF_l, wLt_i, wLe_i, wGt_i, wGe_i, isNo, wIsN_n, wNotN_n, wIsB_b, wNotB_b, wEq_i, wNe_i, wNe_b, wNe_s, wEq_L, wNe_L, wEq_L0, wNe_L0, wNotIn, dNeg_e, nNeg_i, iRg1, iRg2, iRg3, iSeq, iSeqT, iEnm, sFor, dLc_e, lcS, dYes, wipeS, dCall, dMeth, dPrime, dPoly, dCurve, dParts, kLen_l, kLen_t, kLen_s, kInt_i, kMax_i, kMin3_i, kAbs_i, kRepr_b, fList, dBits, dIsT, fInt, fBool, fLst, fCrv, fFnc, wIx_l, wIx_t, wIx_s, fFrom, fTo, fStride, dTab3, dLend, dLendB, flatD, sPop, sApp, sSetI, sFldD, sNewF, sFrzF, slots0, List.map_cons, List.map_nil, List.replicate, List.cons_append, List.nil_append, List.append_nil, List.getElem?_cons_zero, List.getElem?_cons_succ, List.set_cons_zero, List.set_cons_succ, List.length_map, rng_len, rngD_len, enm_len, List.length_replicate, List.length_append, ← List.map_append, List.length_cons, List.length_nil, Nat.reduceAdd, Nat.reduceSub, Nat.reduceLeDiff, Bool.not_true, Bool.not_false, if_true, Bool.false_eq_true, if_false, true_and, and_true, Bool.not_eq_true']
  have h0 := h _ rfl
  have pg := Pr.gt (p := p)
  refine ⟨⟨by omega, by omega⟩, ?_⟩
  rw [strideI_map]
  have := stride_len xs (i : Int) (p : Int) (by omega) (by omega)
  refine u_trimmed (by omega) ?_
  rw [trm_evy xs hl.2]
  exact h0
theorem ok_stretched (B : Bi K mg C F) (A : At K mg "stretched" "stretched" (top 61)) : Fn P w K mg base C F 1 "stretched" k_stretched := by
  obtain ⟨f, fd, Fd, hm⟩ := A
  refine ⟨⟨f, fd, ["p", "poly"], ?_, hm, Fd.kp, Fd.bindsN fun _ _ _ _ _ _ us hl => match us, hl with | [_, _], _ => rfl⟩, mon_cF⟩
  have S : FnScope ["p", "poly", "found", "at", "number"] ["p", "poly"] (defScope (top 61)) := ⟨rfl, rfl, rfl, by decide +kernel, rfl, by decide +kernel, by decide +kernel⟩
  obtain ⟨pr, BPR, BPRt⟩ := B.PR
  refine fn_ok (k := 0) Fd S (len_cF fun _ => rfl) fun g cdv A outer s H E hr => ?_
  have hu := hu_of hr
  have hu1 := hu1_of hr
  refine ⟨_, _, (ss_cons (st_own 2 S.nd (df_if (db_cmp (o_ne hu) (de_var 1) (DEf.de (df_lst da_nil))) (df_rep (DEf.de (df_lst (da_cons de_int da_nil))) (de_op o_add (de_op o_mul (de_var 0) (de_op o_sub (de_bi c_len (da_cons (de_var 1) da_nil) B.len) de_int)) de_int)) (df_lst da_nil))) (ss_cons (st_for PassesOwn.never rfl (di_enum (de_var 1) rfl B.enumerate) (tg_tup rfl (tgs_cons 3 (tgs_cons 4 tgs_nil S.nd) S.nd)) (ss_one (st_seti 2 (de_var 4) (de_op o_mul (de_var 0) (de_var 3))))) (ss_frz 2 (ss_one (st_ret (de_var 2)))))), ?_⟩
  intro ds n Φ hh
  obtain ⟨⟨⟨p, hp⟩, xs⟩, rfl, hl, h⟩ := hh
  try dsimp only at hl
  have hlim : lim = 1000000 := rfl
  simp only [slots0, List.map_cons, List.map_nil, List.length_cons, List.length_nil, Nat.reduceAdd, Nat.reduceSub, List.replicate, List.cons_append, List.nil_append]
  simp only [sSeq, sNext, sFrz, sDrop, sRet, sIf, gNm, gTp, gLs, setL, sAsg, sSet, sOwn, sPar, sPar3, sPar3O, dVar, dC, dF, dOp, dB, dAnd, dOr, dNot, dAndV, dOrV, dNotV, dIf, dIfF, dNil, dCons, dLst_e, dTup_e, wSub_i, wMod_i, wFdiv_i, wPow_i, wAdd_i, wAdd_l, wMul_i, wMul_l, fRep_e, wRepF_l, wLt_i, wLe_i, wGt_i, wGe_i, isNo, wIsN_n, wNotN_n, wIsB_b, wNotB_b, wEq_i, wNe_i, wNe_b, wNe_s, wEq_L, wNe_L, wEq_L0, wNe_L0, wNotIn, dNeg_e, nNeg_i, iRg1, iRg2, iRg3, iSeq, iSeqT, iEnm, sFor, dLc_e, lcS, dYes, wipeS, dCall, dMeth, dPrime, dPoly, dCurve, dParts, kLen_l, kLen_t, kLen_s, kInt_i, kMax_i, kMin3_i, kAbs_i, kRepr_b, fList, dBits, dIsT, fInt, fBool, fLst, fCrv, fFnc, wIx_l, wIx_t, wIx_s, fFrom, fTo, fStride, dTab3, dLend, dLendB, flatD, sPop, sApp, sSetI, sFldD, sNewF, sFrzF, slots0, List.map_cons, List.map_nil, List.replicate, List.cons_append, List.nil_append, List.append_nil, List.getElem?_cons_zero, List.getElem?_cons_succ, List.set_cons_zero, List.set_cons_succ, List.length_map, rng_len, rngD_len, enm_len, List.length_replicate, List.length_append, ← List.map_append, List.length_cons, List.length_nil, Nat.reduceAdd, Nat.reduceSub, Nat.reduceLeDiff, Bool.not_true, Bool.not_false, if_true, Bool.false_eq_true, if_false, true_and, and_true, Bool.not_eq_true']
  have h0 := h _ rfl
  dsimp only at h0
  obtain ⟨hl1, hl2⟩ := hl
  have pg := Pr.gt (p := p)
  have plt := Pr.lt (p := p)
  by_cases hx : xs = []
  · subst hx
    rw [if_neg (by simp)]
    have e : strP p [] = [] := can_nil_of (can_str _) (by rw [sr_str, sr_nil, st_0])
    rw [e] at h0
    exact h0
  · rw [if_pos (by simpa using hx)]
    have hp0 := List.length_pos_iff.mpr hx
    obtain ⟨N, hN⟩ : ∃ N, N = p * (xs.length - 1) + 1 := ⟨_, rfl⟩
    have eN : (p : Int) * ((xs.length : Int) - 1) + 1 = (N : Int) := by
      rw [hN, Int.natCast_add, Int.natCast_mul, Int.natCast_sub (by omega)]; rfl
    have hle : p * (xs.length - 1) ≤ p * xs.length := Nat.mul_le_mul_left _ (by omega)
    rw [eN, Int.toNat_natCast]
    refine ⟨.inl ⟨by omega, by omega⟩, ⟨by omega, by omega⟩, ?_⟩
    refine forW_enm (fun i ρ n' => n' = n ∧ ∃ (zs : List Int) (s3 s4 : Sl), ρ = [.val (I p), .val (L xs), .own (zs.map D.int), s3, s4] ∧ zs.length = N ∧ sr p zs = st (sr p (xs.take i)) ∧ (∀ x ∈ zs, 0 ≤ x ∧ x < (p : Int)) ∧ ∀ j, p * i ≤ j → zs.getD j 0 = 0) ?_ ?_ ?_
    · refine ⟨rfl, _, _, _, rfl, by simp, ?_, fun x hx => ?_, fun j _ => ?_⟩
      · rw [sr_zeros, List.take_zero, sr_nil, st_0]
      · rw [(List.mem_replicate.mp hx).2]; omega
      · rw [List.getD_eq_getElem?_getD, List.getElem?_replicate]; split <;> rfl
    · rintro i x ρ n' N' hi ⟨rfl, zs, s3, s4, rfl, hz, ez, hr1, hz0⟩ hN'
      have hil := (List.getElem?_eq_some_iff.mp hi).1
      have hmul : p * i ≤ p * (xs.length - 1) := Nat.mul_le_mul_left _ (by omega)
      have hc : (p : Int) * (i : Int) = ((p * i : Nat) : Int) := by rw [Int.natCast_mul]
      (try simp only [sSeq, sNext, sFrz, sDrop, sRet, sIf, gNm, gTp, gLs, setL, sAsg, sSet, sOwn, sPar, sPar3, sPar3O, dVar, dC, dF, dOp, dB, dAnd, dOr, dNot, dAndV, dOrV, dNotV, dIf, dIfF, dNil, dCons, dLst_e, dTup_e, wSub_i, wMod_i, wFdiv_i, wPow_i, wAdd_i, wAdd_l, wMul_i, wMul_l, fRep_e, wRepF_l, wLt_i, wLe_i, wGt_i, wGe_i, isNo, wIsN_n, wNotN_n, wIsB_b, wNotB_b, wEq_i, wNe_i, wNe_b, wNe_s, wEq_L, wNe_L, wEq_L0, wNe_L0, wNotIn, dNeg_e, nNeg_i, iRg1, iRg2, iRg3, iSeq, iSeqT, iEnm, sFor, dLc_e, lcS, dYes, wipeS, dCall, dMeth, dPrime, dPoly, dCurve, dParts, kLen_l, kLen_t, kLen_s, kInt_i, kMax_i, kMin3_i, kAbs_i, kRepr_b, fList, dBits, dIsT, fInt, fBool, fLst, fCrv, fFnc, wIx_l, wIx_t, wIx_s, fFrom, fTo, fStride, dTab3, dLend, dLendB, flatD, sPop, sApp, sSetI, sFldD, sNewF, sFrzF, slots0, List.map_cons, List.map_nil, List.replicate, List.cons_append, List.nil_append, List.append_nil, List.getElem?_cons_zero, List.getElem?_cons_succ, List.set_cons_zero, List.set_cons_succ, List.length_map, rng_len, rngD_len, enm_len, List.length_replicate, List.length_append, ← List.map_append, List.length_cons, List.length_nil, Nat.reduceAdd, Nat.reduceSub, Nat.reduceLeDiff, Bool.not_true, Bool.not_false, if_true, Bool.false_eq_true, if_false, true_and, and_true, Bool.not_eq_true'])
      rw [hc, Int.toNat_natCast]
      refine ⟨.inl ⟨by omega, by omega⟩, ⟨by omega, by omega⟩, ?_⟩
      refine hN' _ _ ⟨rfl, zs.set (p * i) x, _, _, by rw [List.map_set], by simpa using hz, ?_, fun y hy => ?_, fun j hj => ?_⟩
      · rw [sr_set (by omega), ez, sr_take hi, st_add, st_pl, hz0 _ (Nat.le_refl _), Int.sub_zero]
      · rcases List.mem_or_eq_of_mem_set hy with h | h
        · exact hr1 y h
        · rw [h]; exact hl2.r x (List.mem_of_getElem? hi)
      · have : p * (i + 1) = p * i + p := Nat.mul_succ p i
        rw [List.getD_eq_getElem?_getD, List.getElem?_set_ne (by omega), ← List.getD_eq_getElem?_getD]
        exact hz0 j (by omega)
    · rintro ρ n' ⟨rfl, zs, s3, s4, rfl, hz, ez, hr1, hz0⟩
      (try simp only [sSeq, sNext, sFrz, sDrop, sRet, sIf, gNm, gTp, gLs, setL, sAsg, sSet, sOwn, sPar, sPar3, sPar3O, dVar, dC, dF, dOp, dB, dAnd, dOr, dNot, dAndV, dOrV, dNotV, dIf, dIfF, dNil, dCons, dLst_e, dTup_e, wSub_i, wMod_i, wFdiv_i, wPow_i, wAdd_i, wAdd_l, wMul_i, wMul_l, fRep_e, wRepF_l, wLt_i, wLe_i, wGt_i, wGe_i, isNo, wIsN_n, wNotN_n, wIsB_b, wNotB_b, wEq_i, wNe_i, wNe_b, wNe_s, wEq_L, wNe_L, wEq_L0, wNe_L0, wNotIn, dNeg_e, nNeg_i, iRg1, iRg2, iRg3, iSeq, iSeqT, iEnm, sFor, dLc_e, lcS, dYes, wipeS, dCall, dMeth, dPrime, dPoly, dCurve, dParts, kLen_l, kLen_t, kLen_s, kInt_i, kMax_i, kMin3_i, kAbs_i, kRepr_b, fList, dBits, dIsT, fInt, fBool, fLst, fCrv, fFnc, wIx_l, wIx_t, wIx_s, fFrom, fTo, fStride, dTab3, dLend, dLendB, flatD, sPop, sApp, sSetI, sFldD, sNewF, sFrzF, slots0, List.map_cons, List.map_nil, List.replicate, List.cons_append, List.nil_append, List.append_nil, List.getElem?_cons_zero, List.getElem?_cons_succ, List.set_cons_zero, List.set_cons_succ, List.length_map, rng_len, rngD_len, enm_len, List.length_replicate, List.length_append, ← List.map_append, List.length_cons, List.length_nil, Nat.reduceAdd, Nat.reduceSub, Nat.reduceLeDiff, Bool.not_true, Bool.not_false, if_true, Bool.false_eq_true, if_false, true_and, and_true, Bool.not_eq_true'])
      rw [List.take_length] at ez
      have hzn : zs ≠ [] := fun e => by rw [e] at hz; simp at hz; omega
      have hlast : zs.getLast hzn ≠ 0 := fun e => by
        have t := hl2.top hx
        have k1 := sr_last (p := p) zs hzn
        rw [e, ez, st_at, hz, hN, Nat.add_sub_cancel, Nat.mul_mod_right, if_pos rfl, Nat.mul_div_cancel_left _ (by omega), cast0] at k1
        exact t k1
      have e : zs = strP p xs := can_eq ⟨hr1, cut0_last hzn hlast⟩ (can_str _) (by rw [ez, sr_str])
      rw [e]
      exact h0
theorem ok_raised_source (B : Bi K mg C F) (A : At K mg "raised_source" "raised_source" (top 68)) (c_inverse : Fn P w K mg base C F 1 "inverse" k_inverse) (c_trimmed : Fn P w K mg base C F 1 "trimmed" k_trimmed) : Fn P w K mg base C F 2 "raised_source" k_raised_source := by
  obtain ⟨f, fd, Fd, hm⟩ := A
  refine ⟨⟨f, fd, ["p", "poly"], ?_, hm, Fd.kp, Fd.bindsN fun _ _ _ _ _ _ us hl => match us, hl with | [_, _], _ => rfl⟩, mon_cF⟩
  have S : FnScope ["p", "poly", "found", "at", "number"] ["p", "poly"] (defScope (top 68)) := ⟨rfl, rfl, rfl, by decide +kernel, rfl, by decide +kernel, by decide +kernel⟩
  obtain ⟨pr, BPR, BPRt⟩ := B.PR
  refine fn_ok (k := 1) Fd S (len_cF fun _ => rfl) fun g cdv A outer s H E hr => ?_
  have hu := hu_of hr
  have hu1 := hu1_of hr
  refine ⟨_, _, (ss_cons (st_own 2 S.nd (df_rep (DEf.de (df_lst (da_cons de_int da_nil))) (de_op o_add (de_bi c_len (da_cons (de_var 1) da_nil) B.len) de_int))) (ss_cons (st_for PassesOwn.never rfl (di_enum (de_var 1) rfl B.enumerate) (tg_tup rfl (tgs_cons 3 (tgs_cons 4 tgs_nil S.nd) S.nd)) (ss_one (st_if (db_cmp (o_ne hu) (de_var 4) de_int) (ss_one (st_seti 2 (de_op o_mul (de_var 4) (de_call c_inverse hr (da_cons (de_var 0) (da_cons (de_op o_add (de_op o_mod (de_var 3) (de_var 0)) de_int) da_nil)))) (de_op o_add (de_var 3) de_int))) ss_nil))) (ss_frz 2 (ss_one (st_ret (de_call c_trimmed hr (da_cons (de_var 0) (da_cons (de_var 2) da_nil)))))))), ?_⟩
  intro ds n Φ hh
  obtain ⟨⟨⟨p, hp⟩, xs⟩, rfl, hl, h⟩ := hh
  try dsimp only at hl
  have hlim : lim = 1000000 := rfl
  simp only [slots0, List.map_cons, List.map_nil, List.length_cons, List.length_nil, Nat.reduceAdd, Nat.reduceSub, List.replicate, List.cons_append, List.nil_append]
  simp only [sSeq, sNext, sFrz, sDrop, sRet, sIf, gNm, gTp, gLs, setL, sAsg, sSet, sOwn, sPar, sPar3, sPar3O, dVar, dC, dF, dOp, dB, dAnd, dOr, dNot, dAndV, dOrV, dNotV, dIf, dIfF, dNil, dCons, dLst_e, dTup_e, wSub_i, wMod_i, wFdiv_i, wPow_i, wAdd_i, wAdd_l, wMul_i, wMul_l, fRep_e, wRepF_l, wLt_i, wLe_i, wGt_i, wGe_i, isNo, wIsN_n, wNotN_n, wIsB_b, wNotB_b, wEq_i, wNe_i, wNe_b, wNe_s, wEq_L, wNe_L, wEq_L0, wNe_L0, wNotIn, dNeg_e, nNeg_i, iRg1, iRg2, iRg3, iSeq, iSeqT, iEnm, sFor, dLc_e, lcS, dYes, wipeS, dCall, dMeth, dPrime, dPoly, dCurve, dParts, kLen_l, kLen_t, kLen_s, kInt_i, kMax_i, kMin3_i, kAbs_i, kRepr_b, fList, dBits, dIsT, fInt, fBool, fLst, fCrv, fFnc, wIx_l, wIx_t, wIx_s, fFrom, fTo, fStride, dTab3, dLend, dLendB, flatD, sPop, sApp, sSetI, sFldD, sNewF, sFrzF, slots0, List.map_cons, List.map_nil, List.replicate, List.cons_append, List.nil_append, List.append_nil, List.getElem?_cons_zero, List.getElem?_cons_succ, List.set_cons_zero, List.set_cons_succ, List.length_map, rng_len, rngD_len, enm_len, List.length_replicate, List.length_append, ← List.map_append, List.length_cons, List.length_nil, Nat.reduceAdd, Nat.reduceSub, Nat.reduceLeDiff, Bool.not_true, Bool.not_false, if_true, Bool.false_eq_true, if_false, true_and, and_true, Bool.not_eq_true']
  have h0 := h _ rfl
  dsimp only at h0
  obtain ⟨hl1, hl2, hl3⟩ := hl
  have pg := Pr.gt (p := p)
  have plt := Pr.lt (p := p)
  have eN : ((xs.length : Int) + 1).toNat = xs.length + 1 := by omega
  rw [eN]
  refine ⟨⟨by omega, by omega⟩, ?_⟩
  refine forW_enm (fun i ρ n' => n' = n ∧ ∃ (zs : List Int) (s3 s4 : Sl), ρ = [.val (I p), .val (L xs), .own (zs.map D.int), s3, s4] ∧ zs.length = xs.length + 1 ∧ sr p zs = Rz (sr p (xs.take i)) ∧ ∀ j, i + 1 ≤ j → zs.getD j 0 = 0) ?_ ?_ ?_
  · refine ⟨rfl, _, _, _, rfl, by simp, ?_, fun j _ => ?_⟩
    · rw [sr_zeros, List.take_zero, sr_nil, rz_0]
    · rw [List.getD_eq_getElem?_getD, List.getElem?_replicate]; split <;> rfl
  · rintro i x ρ n' N' hi ⟨rfl, zs, s3, s4, rfl, hz, ez, hz0⟩ hN'
    have hil := (List.getElem?_eq_some_iff.mp hi).1
    (try simp only [sSeq, sNext, sFrz, sDrop, sRet, sIf, gNm, gTp, gLs, setL, sAsg, sSet, sOwn, sPar, sPar3, sPar3O, dVar, dC, dF, dOp, dB, dAnd, dOr, dNot, dAndV, dOrV, dNotV, dIf, dIfF, dNil, dCons, dLst_e, dTup_e, wSub_i, wMod_i, wFdiv_i, wPow_i, wAdd_i, wAdd_l, wMul_i, wMul_l, fRep_e, wRepF_l, wLt_i, wLe_i, wGt_i, wGe_i, isNo, wIsN_n, wNotN_n, wIsB_b, wNotB_b, wEq_i, wNe_i, wNe_b, wNe_s, wEq_L, wNe_L, wEq_L0, wNe_L0, wNotIn, dNeg_e, nNeg_i, iRg1, iRg2, iRg3, iSeq, iSeqT, iEnm, sFor, dLc_e, lcS, dYes, wipeS, dCall, dMeth, dPrime, dPoly, dCurve, dParts, kLen_l, kLen_t, kLen_s, kInt_i, kMax_i, kMin3_i, kAbs_i, kRepr_b, fList, dBits, dIsT, fInt, fBool, fLst, fCrv, fFnc, wIx_l, wIx_t, wIx_s, fFrom, fTo, fStride, dTab3, dLend, dLendB, flatD, sPop, sApp, sSetI, sFldD, sNewF, sFrzF, slots0, List.map_cons, List.map_nil, List.replicate, List.cons_append, List.nil_append, List.append_nil, List.getElem?_cons_zero, List.getElem?_cons_succ, List.set_cons_zero, List.set_cons_succ, List.length_map, rng_len, rngD_len, enm_len, List.length_replicate, List.length_append, ← List.map_append, List.length_cons, List.length_nil, Nat.reduceAdd, Nat.reduceSub, Nat.reduceLeDiff, Bool.not_true, Bool.not_false, if_true, Bool.false_eq_true, if_false, true_and, and_true, Bool.not_eq_true'])
    by_cases hx : x = 0
    · rw [if_neg (by simpa using hx)]
      refine hN' _ _ ⟨rfl, zs, _, _, rfl, hz, ?_, fun j hj => hz0 j (by omega)⟩
      rw [ez, sr_take hi, hx, cast0, pl_0c]
      congr 1; grind
    · rw [if_pos (by simpa using hx)]
      have hlt := ei_get hl2 hl3 hi hx
      have ei : (i : Int) % (p : Int) = ((i % p : Nat) : Int) := (Int.natCast_emod i p).symm
      rw [ei]
      refine ⟨by omega, ?_⟩
      refine u_inverse (by rw [Int.emod_eq_of_lt (by omega) (by omega)]; omega) ?_
      intro r r1 r2 r3
      try dsimp only
      have hs := Can.sm hl2 x (List.mem_of_getElem? hi)
      refine ⟨.inl hs, ⟨by omega, by omega⟩, ?_⟩
      have hj : ((i : Int) + 1).toNat = i + 1 := by omega
      rw [hj]
      refine hN' _ _ ⟨rfl, zs.set (i + 1) (x * r), .val (I (i : Int)), .val (I x), by rw [List.map_set], by simpa using hz, ?_, fun j hj => ?_⟩
      · rw [sr_set (by omega), ez, sr_take hi, rz_add, rz_pl, hz0 _ (Nat.le_refl _), Int.sub_zero, Lean.Grind.Ring.intCast_mul, inv_fpw r3]
        congr 2; grind
      · rw [List.getD_eq_getElem?_getD, List.getElem?_set_ne (by omega), ← List.getD_eq_getElem?_getD]
        exact hz0 j (by omega)
  · rintro ρ n' ⟨rfl, zs, s3, s4, rfl, hz, ez, hz0⟩
    (try simp only [sSeq, sNext, sFrz, sDrop, sRet, sIf, gNm, gTp, gLs, setL, sAsg, sSet, sOwn, sPar, sPar3, sPar3O, dVar, dC, dF, dOp, dB, dAnd, dOr, dNot, dAndV, dOrV, dNotV, dIf, dIfF, dNil, dCons, dLst_e, dTup_e, wSub_i, wMod_i, wFdiv_i, wPow_i, wAdd_i, wAdd_l, wMul_i, wMul_l, fRep_e, wRepF_l, wLt_i, wLe_i, wGt_i, wGe_i, isNo, wIsN_n, wNotN_n, wIsB_b, wNotB_b, wEq_i, wNe_i, wNe_b, wNe_s, wEq_L, wNe_L, wEq_L0, wNe_L0, wNotIn, dNeg_e, nNeg_i, iRg1, iRg2, iRg3, iSeq, iSeqT, iEnm, sFor, dLc_e, lcS, dYes, wipeS, dCall, dMeth, dPrime, dPoly, dCurve, dParts, kLen_l, kLen_t, kLen_s, kInt_i, kMax_i, kMin3_i, kAbs_i, kRepr_b, fList, dBits, dIsT, fInt, fBool, fLst, fCrv, fFnc, wIx_l, wIx_t, wIx_s, fFrom, fTo, fStride, dTab3, dLend, dLendB, flatD, sPop, sApp, sSetI, sFldD, sNewF, sFrzF, slots0, List.map_cons, List.map_nil, List.replicate, List.cons_append, List.nil_append, List.append_nil, List.getElem?_cons_zero, List.getElem?_cons_succ, List.set_cons_zero, List.set_cons_succ, List.length_map, rng_len, rngD_len, enm_len, List.length_replicate, List.length_append, ← List.map_append, List.length_cons, List.length_nil, Nat.reduceAdd, Nat.reduceSub, Nat.reduceLeDiff, Bool.not_true, Bool.not_false, if_true, Bool.false_eq_true, if_false, true_and, and_true, Bool.not_eq_true'])
    rw [List.take_length] at ez
    refine u_trimmed (by omega) ?_
    have e : trm p zs = rsdP p xs := can_eq (can_trm _) (can_rsd _) (by rw [sr_trm, sr_rsd, ez])
    rw [e]
    exact h0
end KH
end
section
set_option Elab.async false
set_option linter.all false
set_option maxRecDepth 100000
set_option maxHeartbeats 2000000
namespace KH
open PySem PySem.Spec PyProof.Rows L2 DL
open MK hiding D X
variable {P : Program} {w : World} {K : PySem.W.Frag} {mg : Str → Option Value} {base : Heap} {C F : Addr}
theorem okm_prime (B : Bi K mg C F) (A : AtM K C "prime" "Curve.prime" (mth 33 1)) : Mt P w K mg base C F C 1 "prime" km_prime := by
  obtain ⟨f, fd, Fd, hf, hi⟩ := A
  refine ⟨⟨f, fd, ["self"], ?_, ⟨hf, hi, Fd.kp⟩, Fd.bindsN fun _ _ _ _ _ _ us hl => match us, hl with | [_], _ => rfl⟩, B.C.cl, mon_cF⟩
  have S : FnScope ["self"] ["self"] (defScope (mth 33 1)) := ⟨rfl, rfl, rfl, by decide +kernel, rfl, by decide +kernel, by decide +kernel⟩
  obtain ⟨pr, BPR, BPRt⟩ := B.PR
  refine fn_ok (k := 0) Fd S (len_cF fun _ => rfl) fun g cdv A outer s H E hr => ?_
  have hu := hu_of hr
  have hu1 := hu1_of hr
  refine ⟨_, _, (ss_one (st_ret (de_prime (de_var 0) B.C.cl B.C_prime))), ?_⟩
  intro ds n Φ hh
  obtain ⟨⟨q, f⟩, rfl, -, h⟩ := hh
  try dsimp only at hl
  have hlim : lim = 1000000 := rfl
  simp only [slots0, List.map_cons, List.map_nil, List.length_cons, List.length_nil, Nat.reduceAdd, Nat.reduceSub, List.replicate, List.cons_append, List.nil_append]
  simp only [sSeq, sNext, sFrz, sDrop, sRet, sIf, gNm, gTp, gLs, setL, sAsg, sSet, sOwn, sPar, sPar3, sPar3O, dVar, dC, dF, dOp, dB, dAnd, dOr, dNot, dAndV, dOrV, dNotV, dIf, dIfF, dNil, dCons, dLst_e, dTup_e, wSub_i, wMod_i, wFdiv_i, wPow_i, wAdd_i, wAdd_l, wMul_i, wMul_l, fRep_e, wRepF_l, wLt_i, wLe_i, wGt_i, wGe_i, isNo, wIsN_n, wNotN_n, wIsB_b, wNotB_b, wEq_i, wNe_i, wNe_b, wNe_s, wEq_L, wNe_L, wEq_L0, wNe_L0, wNotIn, dNeg_e, nNeg_i, iRg1, iRg2, iRg3, iSeq, iSeqT, iEnm, sFor, dLc_e, lcS, dYes, wipeS, dCall, dMeth, dPrime, dPoly, dCurve, dParts, kLen_l, kLen_t, kLen_s, kInt_i, kMax_i, kMin3_i, kAbs_i, kRepr_b, fList, dBits, dIsT, fInt, fBool, fLst, fCrv, fFnc, wIx_l, wIx_t, wIx_s, fFrom, fTo, fStride, dTab3, dLend, dLendB, flatD, sPop, sApp, sSetI, sFldD, sNewF, sFrzF, slots0, List.map_cons, List.map_nil, List.replicate, List.cons_append, List.nil_append, List.append_nil, List.getElem?_cons_zero, List.getElem?_cons_succ, List.set_cons_zero, List.set_cons_succ, List.length_map, rng_len, rngD_len, enm_len, List.length_replicate, List.length_append, ← List.map_append, List.length_cons, List.length_nil, Nat.reduceAdd, Nat.reduceSub, Nat.reduceLeDiff, Bool.not_true, Bool.not_false, if_true, Bool.false_eq_true, if_false, true_and, and_true, Bool.not_eq_true']
  exact h _ rfl
theorem okm_polynomial (B : Bi K mg C F) (A : AtM K C "polynomial" "Curve.polynomial" (mth 33 2)) : Mt P w K mg base C F C 1 "polynomial" km_polynomial := by
  obtain ⟨f, fd, Fd, hf, hi⟩ := A
  refine ⟨⟨f, fd, ["self"], ?_, ⟨hf, hi, Fd.kp⟩, Fd.bindsN fun _ _ _ _ _ _ us hl => match us, hl with | [_], _ => rfl⟩, B.C.cl, mon_cF⟩
  have S : FnScope ["self"] ["self"] (defScope (mth 33 2)) := ⟨rfl, rfl, rfl, by decide +kernel, rfl, by decide +kernel, by decide +kernel⟩
  obtain ⟨pr, BPR, BPRt⟩ := B.PR
  refine fn_ok (k := 0) Fd S (len_cF fun _ => rfl) fun g cdv A outer s H E hr => ?_
  have hu := hu_of hr
  have hu1 := hu1_of hr
  refine ⟨_, _, (ss_one (st_ret (DEf.de (df_list (de_poly (de_var 0) B.C.cl B.C_polynomial) B.list)))), ?_⟩
  intro ds n Φ hh
  obtain ⟨⟨q, f⟩, rfl, -, h⟩ := hh
  try dsimp only at hl
  have hlim : lim = 1000000 := rfl
  simp only [slots0, List.map_cons, List.map_nil, List.length_cons, List.length_nil, Nat.reduceAdd, Nat.reduceSub, List.replicate, List.cons_append, List.nil_append]
  simp only [sSeq, sNext, sFrz, sDrop, sRet, sIf, gNm, gTp, gLs, setL, sAsg, sSet, sOwn, sPar, sPar3, sPar3O, dVar, dC, dF, dOp, dB, dAnd, dOr, dNot, dAndV, dOrV, dNotV, dIf, dIfF, dNil, dCons, dLst_e, dTup_e, wSub_i, wMod_i, wFdiv_i, wPow_i, wAdd_i, wAdd_l, wMul_i, wMul_l, fRep_e, wRepF_l, wLt_i, wLe_i, wGt_i, wGe_i, isNo, wIsN_n, wNotN_n, wIsB_b, wNotB_b, wEq_i, wNe_i, wNe_b, wNe_s, wEq_L, wNe_L, wEq_L0, wNe_L0, wNotIn, dNeg_e, nNeg_i, iRg1, iRg2, iRg3, iSeq, iSeqT, iEnm, sFor, dLc_e, lcS, dYes, wipeS, dCall, dMeth, dPrime, dPoly, dCurve, dParts, kLen_l, kLen_t, kLen_s, kInt_i, kMax_i, kMin3_i, kAbs_i, kRepr_b, fList, dBits, dIsT, fInt, fBool, fLst, fCrv, fFnc, wIx_l, wIx_t, wIx_s, fFrom, fTo, fStride, dTab3, dLend, dLendB, flatD, sPop, sApp, sSetI, sFldD, sNewF, sFrzF, slots0, List.map_cons, List.map_nil, List.replicate, List.cons_append, List.nil_append, List.append_nil, List.getElem?_cons_zero, List.getElem?_cons_succ, List.set_cons_zero, List.set_cons_succ, List.length_map, rng_len, rngD_len, enm_len, List.length_replicate, List.length_append, ← List.map_append, List.length_cons, List.length_nil, Nat.reduceAdd, Nat.reduceSub, Nat.reduceLeDiff, Bool.not_true, Bool.not_false, if_true, Bool.false_eq_true, if_false, true_and, and_true, Bool.not_eq_true']
  exact h _ rfl
theorem okm_curve (B : Bi K mg C F) (A : AtM K F "curve" "Function.curve" (mth 37 1)) : Mt P w K mg base C F F 1 "curve" km_curve := by
  obtain ⟨f, fd, Fd, hf, hi⟩ := A
  refine ⟨⟨f, fd, ["self"], ?_, ⟨hf, hi, Fd.kp⟩, Fd.bindsN fun _ _ _ _ _ _ us hl => match us, hl with | [_], _ => rfl⟩, B.F.cl, mon_cF⟩
  have S : FnScope ["self"] ["self"] (defScope (mth 37 1)) := ⟨rfl, rfl, rfl, by decide +kernel, rfl, by decide +kernel, by decide +kernel⟩
  obtain ⟨pr, BPR, BPRt⟩ := B.PR
  refine fn_ok (k := 0) Fd S (len_cF fun _ => rfl) fun g cdv A outer s H E hr => ?_
  have hu := hu_of hr
  have hu1 := hu1_of hr
  refine ⟨_, _, (ss_one (st_ret (de_curve (de_var 0) B.F.cl B.F_curve))), ?_⟩
  intro ds n Φ hh
  obtain ⟨⟨q, f, a, b, c⟩, rfl, -, h⟩ := hh
  try dsimp only at hl
  have hlim : lim = 1000000 := rfl
  simp only [slots0, List.map_cons, List.map_nil, List.length_cons, List.length_nil, Nat.reduceAdd, Nat.reduceSub, List.replicate, List.cons_append, List.nil_append]
  simp only [sSeq, sNext, sFrz, sDrop, sRet, sIf, gNm, gTp, gLs, setL, sAsg, sSet, sOwn, sPar, sPar3, sPar3O, dVar, dC, dF, dOp, dB, dAnd, dOr, dNot, dAndV, dOrV, dNotV, dIf, dIfF, dNil, dCons, dLst_e, dTup_e, wSub_i, wMod_i, wFdiv_i, wPow_i, wAdd_i, wAdd_l, wMul_i, wMul_l, fRep_e, wRepF_l, wLt_i, wLe_i, wGt_i, wGe_i, isNo, wIsN_n, wNotN_n, wIsB_b, wNotB_b, wEq_i, wNe_i, wNe_b, wNe_s, wEq_L, wNe_L, wEq_L0, wNe_L0, wNotIn, dNeg_e, nNeg_i, iRg1, iRg2, iRg3, iSeq, iSeqT, iEnm, sFor, dLc_e, lcS, dYes, wipeS, dCall, dMeth, dPrime, dPoly, dCurve, dParts, kLen_l, kLen_t, kLen_s, kInt_i, kMax_i, kMin3_i, kAbs_i, kRepr_b, fList, dBits, dIsT, fInt, fBool, fLst, fCrv, fFnc, wIx_l, wIx_t, wIx_s, fFrom, fTo, fStride, dTab3, dLend, dLendB, flatD, sPop, sApp, sSetI, sFldD, sNewF, sFrzF, slots0, List.map_cons, List.map_nil, List.replicate, List.cons_append, List.nil_append, List.append_nil, List.getElem?_cons_zero, List.getElem?_cons_succ, List.set_cons_zero, List.set_cons_succ, List.length_map, rng_len, rngD_len, enm_len, List.length_replicate, List.length_append, ← List.map_append, List.length_cons, List.length_nil, Nat.reduceAdd, Nat.reduceSub, Nat.reduceLeDiff, Bool.not_true, Bool.not_false, if_true, Bool.false_eq_true, if_false, true_and, and_true, Bool.not_eq_true']
  exact h _ rfl
theorem okm_top (B : Bi K mg C F) (A : AtM K F "top" "Function.top" (mth 37 2)) : Mt P w K mg base C F F 1 "top" km_top := by
  obtain ⟨f, fd, Fd, hf, hi⟩ := A
  refine ⟨⟨f, fd, ["self"], ?_, ⟨hf, hi, Fd.kp⟩, Fd.bindsN fun _ _ _ _ _ _ us hl => match us, hl with | [_], _ => rfl⟩, B.F.cl, mon_cF⟩
  have S : FnScope ["self"] ["self"] (defScope (mth 37 2)) := ⟨rfl, rfl, rfl, by decide +kernel, rfl, by decide +kernel, by decide +kernel⟩
  obtain ⟨pr, BPR, BPRt⟩ := B.PR
  refine fn_ok (k := 0) Fd S (len_cF fun _ => rfl) fun g cdv A outer s H E hr => ?_
  have hu := hu_of hr
  have hu1 := hu1_of hr
  refine ⟨_, _, (ss_one (st_ret (DEf.de (df_list (de_ix (de_parts (de_var 0) B.F.cl B.F_parts) de_int) B.list)))), ?_⟩
  intro ds n Φ hh
  obtain ⟨⟨q, f, a, b, c⟩, rfl, -, h⟩ := hh
  try dsimp only at hl
  have hlim : lim = 1000000 := rfl
  simp only [slots0, List.map_cons, List.map_nil, List.length_cons, List.length_nil, Nat.reduceAdd, Nat.reduceSub, List.replicate, List.cons_append, List.nil_append]
  simp only [sSeq, sNext, sFrz, sDrop, sRet, sIf, gNm, gTp, gLs, setL, sAsg, sSet, sOwn, sPar, sPar3, sPar3O, dVar, dC, dF, dOp, dB, dAnd, dOr, dNot, dAndV, dOrV, dNotV, dIf, dIfF, dNil, dCons, dLst_e, dTup_e, wSub_i, wMod_i, wFdiv_i, wPow_i, wAdd_i, wAdd_l, wMul_i, wMul_l, fRep_e, wRepF_l, wLt_i, wLe_i, wGt_i, wGe_i, isNo, wIsN_n, wNotN_n, wIsB_b, wNotB_b, wEq_i, wNe_i, wNe_b, wNe_s, wEq_L, wNe_L, wEq_L0, wNe_L0, wNotIn, dNeg_e, nNeg_i, iRg1, iRg2, iRg3, iSeq, iSeqT, iEnm, sFor, dLc_e, lcS, dYes, wipeS, dCall, dMeth, dPrime, dPoly, dCurve, dParts, kLen_l, kLen_t, kLen_s, kInt_i, kMax_i, kMin3_i, kAbs_i, kRepr_b, fList, dBits, dIsT, fInt, fBool, fLst, fCrv, fFnc, wIx_l, wIx_t, wIx_s, fFrom, fTo, fStride, dTab3, dLend, dLendB, flatD, sPop, sApp, sSetI, sFldD, sNewF, sFrzF, slots0, List.map_cons, List.map_nil, List.replicate, List.cons_append, List.nil_append, List.append_nil, List.getElem?_cons_zero, List.getElem?_cons_succ, List.set_cons_zero, List.set_cons_succ, List.length_map, rng_len, rngD_len, enm_len, List.length_replicate, List.length_append, ← List.map_append, List.length_cons, List.length_nil, Nat.reduceAdd, Nat.reduceSub, Nat.reduceLeDiff, Bool.not_true, Bool.not_false, if_true, Bool.false_eq_true, if_false, true_and, and_true, Bool.not_eq_true']
  exact ⟨_, rfl, h _ rfl⟩
theorem okm_side (B : Bi K mg C F) (A : AtM K F "side" "Function.side" (mth 37 3)) : Mt P w K mg base C F F 1 "side" km_side := by
  obtain ⟨f, fd, Fd, hf, hi⟩ := A
  refine ⟨⟨f, fd, ["self"], ?_, ⟨hf, hi, Fd.kp⟩, Fd.bindsN fun _ _ _ _ _ _ us hl => match us, hl with | [_], _ => rfl⟩, B.F.cl, mon_cF⟩
  have S : FnScope ["self"] ["self"] (defScope (mth 37 3)) := ⟨rfl, rfl, rfl, by decide +kernel, rfl, by decide +kernel, by decide +kernel⟩
  obtain ⟨pr, BPR, BPRt⟩ := B.PR
  refine fn_ok (k := 0) Fd S (len_cF fun _ => rfl) fun g cdv A outer s H E hr => ?_
  have hu := hu_of hr
  have hu1 := hu1_of hr
  refine ⟨_, _, (ss_one (st_ret (DEf.de (df_list (de_ix (de_parts (de_var 0) B.F.cl B.F_parts) de_int) B.list)))), ?_⟩
  intro ds n Φ hh
  obtain ⟨⟨q, f, a, b, c⟩, rfl, -, h⟩ := hh
  try dsimp only at hl
  have hlim : lim = 1000000 := rfl
  simp only [slots0, List.map_cons, List.map_nil, List.length_cons, List.length_nil, Nat.reduceAdd, Nat.reduceSub, List.replicate, List.cons_append, List.nil_append]
  simp only [sSeq, sNext, sFrz, sDrop, sRet, sIf, gNm, gTp, gLs, setL, sAsg, sSet, sOwn, sPar, sPar3, sPar3O, dVar, dC, dF, dOp, dB, dAnd, dOr, dNot, dAndV, dOrV, dNotV, dIf, dIfF, dNil, dCons, dLst_e, dTup_e, wSub_i, wMod_i, wFdiv_i, wPow_i, wAdd_i, wAdd_l, wMul_i, wMul_l, fRep_e, wRepF_l, wLt_i, wLe_i, wGt_i, wGe_i, isNo, wIsN_n, wNotN_n, wIsB_b, wNotB_b, wEq_i, wNe_i, wNe_b, wNe_s, wEq_L, wNe_L, wEq_L0, wNe_L0, wNotIn, dNeg_e, nNeg_i, iRg1, iRg2, iRg3, iSeq, iSeqT, iEnm, sFor, dLc_e, lcS, dYes, wipeS, dCall, dMeth, dPrime, dPoly, dCurve, dParts, kLen_l, kLen_t, kLen_s, kInt_i, kMax_i, kMin3_i, kAbs_i, kRepr_b, fList, dBits, dIsT, fInt, fBool, fLst, fCrv, fFnc, wIx_l, wIx_t, wIx_s, fFrom, fTo, fStride, dTab3, dLend, dLendB, flatD, sPop, sApp, sSetI, sFldD, sNewF, sFrzF, slots0, List.map_cons, List.map_nil, List.replicate, List.cons_append, List.nil_append, List.append_nil, List.getElem?_cons_zero, List.getElem?_cons_succ, List.set_cons_zero, List.set_cons_succ, List.length_map, rng_len, rngD_len, enm_len, List.length_replicate, List.length_append, ← List.map_append, List.length_cons, List.length_nil, Nat.reduceAdd, Nat.reduceSub, Nat.reduceLeDiff, Bool.not_true, Bool.not_false, if_true, Bool.false_eq_true, if_false, true_and, and_true, Bool.not_eq_true']
  exact ⟨_, rfl, h _ rfl⟩
theorem okm_bottom (B : Bi K mg C F) (A : AtM K F "bottom" "Function.bottom" (mth 37 4)) : Mt P w K mg base C F F 1 "bottom" km_bottom := by
  obtain ⟨f, fd, Fd, hf, hi⟩ := A
  refine ⟨⟨f, fd, ["self"], ?_, ⟨hf, hi, Fd.kp⟩, Fd.bindsN fun _ _ _ _ _ _ us hl => match us, hl with | [_], _ => rfl⟩, B.F.cl, mon_cF⟩
  have S : FnScope ["self"] ["self"] (defScope (mth 37 4)) := ⟨rfl, rfl, rfl, by decide +kernel, rfl, by decide +kernel, by decide +kernel⟩
  obtain ⟨pr, BPR, BPRt⟩ := B.PR
  refine fn_ok (k := 0) Fd S (len_cF fun _ => rfl) fun g cdv A outer s H E hr => ?_
  have hu := hu_of hr
  have hu1 := hu1_of hr
  refine ⟨_, _, (ss_one (st_ret (DEf.de (df_list (de_ix (de_parts (de_var 0) B.F.cl B.F_parts) de_int) B.list)))), ?_⟩
  intro ds n Φ hh
  obtain ⟨⟨q, f, a, b, c⟩, rfl, -, h⟩ := hh
  try dsimp only at hl
  have hlim : lim = 1000000 := rfl
  simp only [slots0, List.map_cons, List.map_nil, List.length_cons, List.length_nil, Nat.reduceAdd, Nat.reduceSub, List.replicate, List.cons_append, List.nil_append]
  simp only [sSeq, sNext, sFrz, sDrop, sRet, sIf, gNm, gTp, gLs, setL, sAsg, sSet, sOwn, sPar, sPar3, sPar3O, dVar, dC, dF, dOp, dB, dAnd, dOr, dNot, dAndV, dOrV, dNotV, dIf, dIfF, dNil, dCons, dLst_e, dTup_e, wSub_i, wMod_i, wFdiv_i, wPow_i, wAdd_i, wAdd_l, wMul_i, wMul_l, fRep_e, wRepF_l, wLt_i, wLe_i, wGt_i, wGe_i, isNo, wIsN_n, wNotN_n, wIsB_b, wNotB_b, wEq_i, wNe_i, wNe_b, wNe_s, wEq_L, wNe_L, wEq_L0, wNe_L0, wNotIn, dNeg_e, nNeg_i, iRg1, iRg2, iRg3, iSeq, iSeqT, iEnm, sFor, dLc_e, lcS, dYes, wipeS, dCall, dMeth, dPrime, dPoly, dCurve, dParts, kLen_l, kLen_t, kLen_s, kInt_i, kMax_i, kMin3_i, kAbs_i, kRepr_b, fList, dBits, dIsT, fInt, fBool, fLst, fCrv, fFnc, wIx_l, wIx_t, wIx_s, fFrom, fTo, fStride, dTab3, dLend, dLendB, flatD, sPop, sApp, sSetI, sFldD, sNewF, sFrzF, slots0, List.map_cons, List.map_nil, List.replicate, List.cons_append, List.nil_append, List.append_nil, List.getElem?_cons_zero, List.getElem?_cons_succ, List.set_cons_zero, List.set_cons_succ, List.length_map, rng_len, rngD_len, enm_len, List.length_replicate, List.length_append, ← List.map_append, List.length_cons, List.length_nil, Nat.reduceAdd, Nat.reduceSub, Nat.reduceLeDiff, Bool.not_true, Bool.not_false, if_true, Bool.false_eq_true, if_false, true_and, and_true, Bool.not_eq_true']
  exact ⟨_, rfl, h _ rfl⟩
theorem okq_C (B : Bi K mg C F) (A : AtM K C "__eq__" "Curve.__eq__" (mth 33 4)) : Qm P w K mg base C F C 1 kEqC := by
  obtain ⟨f, fd, Fd, hf, hi⟩ := A
  refine ⟨⟨f, fd, ["self", "other"], ?_, hf, hi, Fd.bindsN fun _ _ _ _ _ _ us hl => match us, hl with | [_, _], _ => rfl⟩⟩
  have S : FnScope ["self", "other"] ["self", "other"] (defScope (mth 33 4)) := ⟨rfl, rfl, rfl, by decide +kernel, rfl, by decide +kernel, by decide +kernel⟩
  obtain ⟨pr, BPR, BPRt⟩ := B.PR
  refine fn_ok (k := 0) Fd S (by rintro ds n Φ h; obtain ⟨p, f, rfl, _⟩ := h; rfl) fun g cdv A outer s H E hr => ?_
  have hu := hu_of hr
  have hu1 := hu1_of hr
  refine ⟨_, _, (ss_cons (st_if (db_not (db_val (de_isC B.C (de_var 1) B.isinstance B.Curve))) (ss_one (st_ret de_bl)) ss_nil) (ss_one (st_ret (de_and (de_cmp (o_eq hu) (de_prime (de_var 0) B.C.cl B.C_prime) (de_prime (de_var 1) B.C.cl B.C_prime)) (de_one (de_cmp (o_eq hu) (de_poly (de_var 0) B.C.cl B.C_polynomial) (de_poly (de_var 1) B.C.cl B.C_polynomial))))))), ?_⟩
  intro ds n Φ hh
  obtain ⟨p, f, rfl, h⟩ := hh
  try dsimp only at hl
  have hlim : lim = 1000000 := rfl
  simp only [slots0, List.map_cons, List.map_nil, List.length_cons, List.length_nil, Nat.reduceAdd, Nat.reduceSub, List.replicate, List.cons_append, List.nil_append]
  simp only [sSeq, sNext, sFrz, sDrop, sRet, sIf, gNm, gTp, gLs, setL, sAsg, sSet, sOwn, sPar, sPar3, sPar3O, dVar, dC, dF, dOp, dB, dAnd, dOr, dNot, dAndV, dOrV, dNotV, dIf, dIfF, dNil, dCons, dLst_e, dTup_e, wSub_i, wMod_i, wFdiv_i, wPow_i, wAdd_i, wAdd_l, wMul_i, wMul_l, fRep_e, wRepF_l, wLt_i, wLe_i, wGt_i, wGe_i, isNo, wIsN_n, wNotN_n, wIsB_b, wNotB_b, wEq_i, wNe_i, wNe_b, wNe_s, wEq_L, wNe_L, wEq_L0, wNe_L0, wNotIn, dNeg_e, nNeg_i, iRg1, iRg2, iRg3, iSeq, iSeqT, iEnm, sFor, dLc_e, lcS, dYes, wipeS, dCall, dMeth, dPrime, dPoly, dCurve, dParts, kLen_l, kLen_t, kLen_s, kInt_i, kMax_i, kMin3_i, kAbs_i, kRepr_b, fList, dBits, dIsT, fInt, fBool, fLst, fCrv, fFnc, wIx_l, wIx_t, wIx_s, fFrom, fTo, fStride, dTab3, dLend, dLendB, flatD, sPop, sApp, sSetI, sFldD, sNewF, sFrzF, slots0, List.map_cons, List.map_nil, List.replicate, List.cons_append, List.nil_append, List.append_nil, List.getElem?_cons_zero, List.getElem?_cons_succ, List.set_cons_zero, List.set_cons_succ, List.length_map, rng_len, rngD_len, enm_len, List.length_replicate, List.length_append, ← List.map_append, List.length_cons, List.length_nil, Nat.reduceAdd, Nat.reduceSub, Nat.reduceLeDiff, Bool.not_true, Bool.not_false, if_true, Bool.false_eq_true, if_false, true_and, and_true, Bool.not_eq_true']
  exact ⟨true, rfl, by rw [if_neg (by decide), if_pos (by simp)]; simpa using h⟩
theorem okq_F (B : Bi K mg C F) (A : AtM K F "__eq__" "Function.__eq__" (mth 37 5)) (q_C : Qm P w K mg base C F C 1 kEqC) : Qm P w K mg base C F F 2 kEqF := by
  obtain ⟨f, fd, Fd, hf, hi⟩ := A
  refine ⟨⟨f, fd, ["self", "other"], ?_, hf, hi, Fd.bindsN fun _ _ _ _ _ _ us hl => match us, hl with | [_, _], _ => rfl⟩⟩
  have S : FnScope ["self", "other"] ["self", "other"] (defScope (mth 37 5)) := ⟨rfl, rfl, rfl, by decide +kernel, rfl, by decide +kernel, by decide +kernel⟩
  obtain ⟨pr, BPR, BPRt⟩ := B.PR
  refine fn_ok (k := 1) Fd S (by rintro ds n Φ h; obtain ⟨p, f, a, b, z, rfl, _⟩ := h; rfl) fun g cdv A outer s H E hr => ?_
  have hu := hu_of hr
  have hu1 := hu1_of hr
  refine ⟨_, _, (ss_cons (st_if (db_not (db_val (de_isF B.F (de_var 1) B.isinstance B.Function))) (ss_one (st_ret de_bl)) ss_nil) (ss_one (st_ret (de_and (de_cmp (o_eqC q_C hr) (de_curve (de_var 0) B.F.cl B.F_curve) (de_curve (de_var 1) B.F.cl B.F_curve)) (de_one (de_cmp (o_eq hu) (de_parts (de_var 0) B.F.cl B.F_parts) (de_parts (de_var 1) B.F.cl B.F_parts))))))), ?_⟩
  intro ds n Φ hh
  obtain ⟨p, f, a, b, z, rfl, h⟩ := hh
  try dsimp only at hl
  have hlim : lim = 1000000 := rfl
  simp only [slots0, List.map_cons, List.map_nil, List.length_cons, List.length_nil, Nat.reduceAdd, Nat.reduceSub, List.replicate, List.cons_append, List.nil_append]
  simp only [sSeq, sNext, sFrz, sDrop, sRet, sIf, gNm, gTp, gLs, setL, sAsg, sSet, sOwn, sPar, sPar3, sPar3O, dVar, dC, dF, dOp, dB, dAnd, dOr, dNot, dAndV, dOrV, dNotV, dIf, dIfF, dNil, dCons, dLst_e, dTup_e, wSub_i, wMod_i, wFdiv_i, wPow_i, wAdd_i, wAdd_l, wMul_i, wMul_l, fRep_e, wRepF_l, wLt_i, wLe_i, wGt_i, wGe_i, isNo, wIsN_n, wNotN_n, wIsB_b, wNotB_b, wEq_i, wNe_i, wNe_b, wNe_s, wEq_L, wNe_L, wEq_L0, wNe_L0, wNotIn, dNeg_e, nNeg_i, iRg1, iRg2, iRg3, iSeq, iSeqT, iEnm, sFor, dLc_e, lcS, dYes, wipeS, dCall, dMeth, dPrime, dPoly, dCurve, dParts, kLen_l, kLen_t, kLen_s, kInt_i, kMax_i, kMin3_i, kAbs_i, kRepr_b, fList, dBits, dIsT, fInt, fBool, fLst, fCrv, fFnc, wIx_l, wIx_t, wIx_s, fFrom, fTo, fStride, dTab3, dLend, dLendB, flatD, sPop, sApp, sSetI, sFldD, sNewF, sFrzF, slots0, List.map_cons, List.map_nil, List.replicate, List.cons_append, List.nil_append, List.append_nil, List.getElem?_cons_zero, List.getElem?_cons_succ, List.set_cons_zero, List.set_cons_succ, List.length_map, rng_len, rngD_len, enm_len, List.length_replicate, List.length_append, ← List.map_append, List.length_cons, List.length_nil, Nat.reduceAdd, Nat.reduceSub, Nat.reduceLeDiff, Bool.not_true, Bool.not_false, if_true, Bool.false_eq_true, if_false, true_and, and_true, Bool.not_eq_true']
  refine ⟨true, rfl, ?_⟩
  rw [if_neg (by decide)]
  refine ⟨⟨p, f, rfl, rfl⟩, ?_⟩
  dsimp only
  rw [if_pos rfl]
  exact wEq_LL a b z h
theorem okn_Curve (B : Bi K mg C F) (A : AtM K C "__init__" "Curve.__init__" (mth 33 0)) (hmk : PySem.W.makesIn K C = true) (hkp : PySem.W.keepIn K (.ref C) = true) (c_check_prime : Fn P w K mg base C F 2 "check_prime" k_check_prime) (c_is_curve_poly : Fn P w K mg base C F 6 "is_curve_poly" k_is_curve_poly) : Nw P w K mg base C F C 7 "Curve" kn_Curve := by
  obtain ⟨f, fd, Fd, hf, hi⟩ := A
  refine ⟨⟨f, fd, ["self", "p", "f"], ?_, ⟨hmk, hf, hi, hkp⟩, B.Curve, Fd.bindsN fun _ _ _ _ _ _ us hl => match us, hl with | [_, _, _], _ => rfl⟩, mon_cF⟩
  have S : FnScope ["self", "p", "f"] ["self", "p", "f"] (defScope (mth 33 0)) := ⟨rfl, rfl, rfl, by decide +kernel, rfl, by decide +kernel, by decide +kernel⟩
  obtain ⟨pr, BPR, BPRt⟩ := B.PR
  refine fn_okN (k := 6) Fd S (fun ds n Φ h => by have e := len_cF (m := 2) (fun _ => rfl) ds n Φ h; rw [e]; rfl) fun g cdv A outer s H E hr => ?_
  have hu := hu_of hr
  have hu1 := hu1_of hr
  refine ⟨_, _, (ss_cons (st_expr (de_call c_check_prime hr (da_cons (de_var 1) da_nil))) (ss_cons (st_if (db_not (db_val (de_call c_is_curve_poly hr (da_cons (de_var 1) (da_cons (de_var 2) da_nil))))) ss_never ss_nil) (ss_cons (st_fld 0 (de_var 1) B.C.cl B.C_prime) (ss_one (st_fld 0 (DEf.de (df_list (de_var 2) B.list)) B.C.cl B.C_polynomial))))), ?_⟩
  intro ds n Φ x hh
  obtain ⟨⟨⟨p, hp⟩, f⟩, rfl, hl, h⟩ := hh
  try dsimp only at hl
  have hlim : lim = 1000000 := rfl
  simp only [slots0, List.map_cons, List.map_nil, List.length_cons, List.length_nil, Nat.reduceAdd, Nat.reduceSub, List.replicate, List.cons_append, List.nil_append]
  simp only [sSeq, sNext, sFrz, sDrop, sRet, sIf, gNm, gTp, gLs, setL, sAsg, sSet, sOwn, sPar, sPar3, sPar3O, dVar, dC, dF, dOp, dB, dAnd, dOr, dNot, dAndV, dOrV, dNotV, dIf, dIfF, dNil, dCons, dLst_e, dTup_e, wSub_i, wMod_i, wFdiv_i, wPow_i, wAdd_i, wAdd_l, wMul_i, wMul_l, fRep_e, wRepF_l, wLt_i, wLe_i, wGt_i, wGe_i, isNo, wIsN_n, wNotN_n, wIsB_b, wNotB_b, wEq_i, wNe_i, wNe_b, wNe_s, wEq_L, wNe_L, wEq_L0, wNe_L0, wNotIn, dNeg_e, nNeg_i, iRg1, iRg2, iRg3, iSeq, iSeqT, iEnm, sFor, dLc_e, lcS, dYes, wipeS, dCall, dMeth, dPrime, dPoly, dCurve, dParts, kLen_l, kLen_t, kLen_s, kInt_i, kMax_i, kMin3_i, kAbs_i, kRepr_b, fList, dBits, dIsT, fInt, fBool, fLst, fCrv, fFnc, wIx_l, wIx_t, wIx_s, fFrom, fTo, fStride, dTab3, dLend, dLendB, flatD, sPop, sApp, sSetI, sFldD, sNewF, sFrzF, slots0, List.map_cons, List.map_nil, List.replicate, List.cons_append, List.nil_append, List.append_nil, List.getElem?_cons_zero, List.getElem?_cons_succ, List.set_cons_zero, List.set_cons_succ, List.length_map, rng_len, rngD_len, enm_len, List.length_replicate, List.length_append, ← List.map_append, List.length_cons, List.length_nil, Nat.reduceAdd, Nat.reduceSub, Nat.reduceLeDiff, Bool.not_true, Bool.not_false, if_true, Bool.false_eq_true, if_false, true_and, and_true, Bool.not_eq_true']
  have h0 := h _ rfl
  refine u_check_prime (u_is_curve_poly hl ?_)
  dsimp only
  rw [if_neg (by decide)]
  exact ⟨by decide, by show 1 < 1000; decide, fldC p f, _, rfl, .inr ⟨rfl, p, f, rfl, rfl⟩, h0⟩
theorem ok_least_parts (B : Bi K mg C F) (A : At K mg "least_parts" "least_parts" (top 38)) (c_common_of : Fn P w K mg base C F 5 "common_of" k_common_of) (c_whole_part : Fn P w K mg base C F 3 "whole_part" k_whole_part) (c_inverse : Fn P w K mg base C F 1 "inverse" k_inverse) (c_scaled : Fn P w K mg base C F 2 "scaled" k_scaled) : Fn P w K mg base C F 6 "least_parts" k_least_parts := by
  obtain ⟨f, fd, Fd, hm⟩ := A
  refine ⟨⟨f, fd, ["p", "top", "side", "bottom"], ?_, hm, Fd.kp, Fd.bindsN fun _ _ _ _ _ _ us hl => match us, hl with | [_, _, _, _], _ => rfl⟩, mon_cF⟩
  have S : FnScope ["p", "top", "side", "bottom", "common", "parts", "back", "part"] ["p", "top", "side", "bottom"] (defScope (top 38)) := ⟨rfl, rfl, rfl, by decide +kernel, rfl, by decide +kernel, by decide +kernel⟩
  obtain ⟨pr, BPR, BPRt⟩ := B.PR
  refine fn_ok (k := 5) Fd S (len_cF fun _ => rfl) fun g cdv A outer s H E hr => ?_
  have hu := hu_of hr
  have hu1 := hu1_of hr
  refine ⟨_, _, (ss_cons (st_set 4 S.nd (de_call c_common_of hr (da_cons (de_var 0) (da_cons (de_call c_common_of hr (da_cons (de_var 0) (da_cons (de_var 1) (da_cons (de_var 2) da_nil)))) (da_cons (de_var 3) da_nil))))) (ss_cons (st_setLc 5 [("part", 7)] rfl S.nd (di_tup (de_tup (da_cons (de_var 1) (da_cons (de_var 2) (da_cons (de_var 3) da_nil))))) (blkOk (N := ["p", "top", "side", "bottom", "common", "parts", "back", "part"]) (sc := (defScope (top 38))) (by decide +kernel)) (fun _ _ _ _ _ => tg_name 7 S.nd) tgin_name (fun _ _ _ _ _ => dts_nil) (fun _ _ _ _ _ => (de_call c_whole_part hr (da_cons (de_var 0) (da_cons (de_var 7) (da_cons (de_var 4) da_nil)))))) (ss_frz 5 (ss_cons (st_set 6 S.nd (de_call c_inverse hr (da_cons (de_var 0) (da_cons (de_ix (de_ix (de_var 5) de_int) (de_neg de_int)) da_nil)))) (ss_one (st_ret (DEf.de (df_lc [("part", 7)] rfl S.nd (di_list (de_var 5)) (blkOk (N := ["p", "top", "side", "bottom", "common", "parts", "back", "part"]) (sc := (defScope (top 38))) (by decide +kernel)) (fun _ _ _ _ _ => tg_name 7 S.nd) tgin_name (fun _ _ _ _ _ => dts_nil) (fun _ _ _ _ _ => (de_call c_scaled hr (da_cons (de_var 0) (da_cons (de_var 7) (da_cons (de_var 6) da_nil))))))))))))), ?_⟩
  intro ds n Φ hh
  obtain ⟨⟨⟨p, hp⟩, a, b, c⟩, rfl, ⟨⟨ca, cb, cc⟩, ⟨l1, l2, l3⟩, hne⟩, h⟩ := hh
  have h0 := h _ rfl
  dsimp only at ca cb cc l1 l2 l3 hne h0
  have hlim : lim = 1000000 := rfl
  have hlig : lig = 200000 := rfl
  have hc := Can.ne cc hne
  have g1 := (gcdP_spec (p := p) a b).1
  have g2 := (gcdP_spec (p := p) (gcdP p a b) c).1
  have cm := com_of g1 g2
  have lg1 := len_gcd (p := p) a b
  have lg2 := len_gcd (p := p) (gcdP p a b) c
  simp only [slots0, List.map_cons, List.map_nil, List.length_cons, List.length_nil, Nat.reduceAdd, Nat.reduceSub, List.replicate, List.cons_append, List.nil_append]
  refine i_seq (i_set (i_call (i_cons (i_var rfl (i_cons (i_call (i_cons (i_var rfl (i_cons (i_var rfl (i_cons (i_var rfl (i_nil ?_)))))))))))))
  refine u_common_of ⟨by omega, by omega, ca, cb⟩ (i_cons (i_var rfl (i_nil (u_common_of ⟨by omega, by omega, can_gcd a b, cc⟩ ?_))))
  generalize gcdP p (gcdP p a b) c = g at *
  have gn := cm.g0 hc
  refine i_nx ?_
  refine i_seq ?_
  refine i_own ?_
  refine i_lc ?_
  refine i_seqT (xs := []) ?_
  refine i_tup ?_
  refine i_cons (i_var rfl (i_cons (i_var rfl (i_cons (i_var rfl (i_nil ?_))))))
  refine ⟨by simp, ?_⟩
  show _ ∧ _
  refine ⟨by simp, ?_⟩
  refine lcW_map (fun x : List Int => L x) (fun x => L (quoP p x g)) [a, b, c] ?_ ?_
  · intro x hx m Ψ hΨ
    have lx : x.length ≤ lig := by
      rcases List.mem_cons.mp hx with e | hx
      · rw [e]; exact l1
      rcases List.mem_cons.mp hx with e | hx
      · rw [e]; exact l2
      · rw [List.mem_singleton.mp hx]; exact l3
    refine i_step (i_call (i_cons (i_var rfl (i_cons (i_var rfl (i_cons (i_var rfl (i_nil ?_))))))))
    refine u_whole_part (a := x) (b := g) ⟨by omega, by omega, cm.cg, gn⟩ ?_
    exact hΨ
  have qn := cm.quo hc
  have cq := can_quo (a := c) cm.cg gn
  refine i_nx (i_frz rfl (i_seq (i_set (i_call (i_cons (i_var rfl (i_cons (i_op (i_op (i_var rfl (i_c (i_ixl (d := L (quoP p c g)) rfl (i_neg (i_ixl (atI_ints (atI_last qn)) (i_nil ?_)))))))))))))))
  refine u_inverse (last_ne cq qn) ?_
  intro r r1 r2 r3
  have plt := Pr.lt (p := p)
  rw [least_of cm hc r3] at h0
  refine i_nx (i_ret (i_dF (i_lc ?_)))
  refine i_var (d := .lst [L (quoP p a g), L (quoP p b g), L (quoP p c g)]) rfl ?_
  refine ⟨by simp, ?_⟩
  refine lcW_map (fun x : List Int => L x) (fun x => L (sclP p x r)) [quoP p a g, quoP p b g, quoP p c g] ?_ ?_
  · intro x hx m Ψ hΨ
    have lx : x.length ≤ lig := by
      rcases List.mem_cons.mp hx with e | hx
      · rw [e]; exact Nat.le_trans (len_quo_le cm.cg gn) l1
      rcases List.mem_cons.mp hx with e | hx
      · rw [e]; exact Nat.le_trans (len_quo_le cm.cg gn) l2
      · rw [List.mem_singleton.mp hx]; exact Nat.le_trans (len_quo_le cm.cg gn) l3
    refine i_step (i_call (i_cons (i_var rfl (i_cons (i_var rfl (i_cons (i_var rfl (i_nil ?_))))))))
    refine u_scaled (xs := x) (k := r) ⟨by omega, by omega, by omega⟩ ?_
    exact hΨ
  · exact h0
theorem okn_Function (B : Bi K mg C F) (A : AtM K F "__init__" "Function.__init__" (mth 37 0)) (hmk : PySem.W.makesIn K F = true) (hkp : PySem.W.keepIn K (.ref F) = true) (c_check_poly : Fn P w K mg base C F 4 "check_poly" k_check_poly) (m_prime : Mt P w K mg base C F C 1 "prime" km_prime) (c_least_parts : Fn P w K mg base C F 6 "least_parts" k_least_parts) : Nw P w K mg base C F F 7 "Function" kn_Function := by
  obtain ⟨f, fd, Fd, hf, hi⟩ := A
  refine ⟨⟨f, fd, ["self", "curve", "top", "side", "bottom"], ?_, ⟨hmk, hf, hi, hkp⟩, B.Function, Fd.bindsN fun _ _ _ _ _ _ us hl => match us, hl with | [_, _, _, _, _], _ => rfl⟩, mon_cF⟩
  have S : FnScope ["self", "curve", "top", "side", "bottom", "part"] ["self", "curve", "top", "side", "bottom"] (defScope (mth 37 0)) := ⟨rfl, rfl, rfl, by decide +kernel, rfl, by decide +kernel, by decide +kernel⟩
  obtain ⟨pr, BPR, BPRt⟩ := B.PR
  refine fn_okN (k := 6) Fd S (fun ds n Φ h => by have e := len_cF (m := 4) (fun _ => rfl) ds n Φ h; rw [e]; rfl) fun g cdv A outer s H E hr => ?_
  have hu := hu_of hr
  have hu1 := hu1_of hr
  refine ⟨_, _, (ss_cons (st_if (db_not (db_val (de_isC B.C (de_var 1) B.isinstance B.Curve))) ss_never ss_nil) (ss_cons (st_for PassesOwn.never rfl (di_tup (de_tup (da_cons (de_var 2) (da_cons (de_var 3) (da_cons (de_var 4) da_nil))))) (tg_name 5 S.nd) (ss_one (st_expr (de_call c_check_poly hr (da_cons (de_methC m_prime hr (de_var 1)) (da_cons (de_var 5) da_nil)))))) (ss_cons (st_if (db_cmp (o_eq hu) (de_var 4) (DEf.de (df_lst da_nil))) ss_never ss_nil) (ss_cons (st_fld 0 (de_var 1) B.F.cl B.F_curve) (ss_one (st_fld 0 (de_call c_least_parts hr (da_cons (de_methC m_prime hr (de_var 1)) (da_cons (de_var 2) (da_cons (de_var 3) (da_cons (de_var 4) da_nil))))) B.F.cl B.F_parts)))))), ?_⟩
  intro ds n Φ x hh
  obtain ⟨⟨⟨p, hp⟩, f, a, b, c⟩, rfl, hl, h⟩ := hh
  try dsimp only at hl
  have hlim : lim = 1000000 := rfl
  simp only [slots0, List.map_cons, List.map_nil, List.length_cons, List.length_nil, Nat.reduceAdd, Nat.reduceSub, List.replicate, List.cons_append, List.nil_append]
  simp only [sSeq, sNext, sFrz, sDrop, sRet, sIf, gNm, gTp, gLs, setL, sAsg, sSet, sOwn, sPar, sPar3, sPar3O, dVar, dC, dF, dOp, dB, dAnd, dOr, dNot, dAndV, dOrV, dNotV, dIf, dIfF, dNil, dCons, dLst_e, dTup_e, wSub_i, wMod_i, wFdiv_i, wPow_i, wAdd_i, wAdd_l, wMul_i, wMul_l, fRep_e, wRepF_l, wLt_i, wLe_i, wGt_i, wGe_i, isNo, wIsN_n, wNotN_n, wIsB_b, wNotB_b, wEq_i, wNe_i, wNe_b, wNe_s, wEq_L, wNe_L, wEq_L0, wNe_L0, wNotIn, dNeg_e, nNeg_i, iRg1, iRg2, iRg3, iSeq, iSeqT, iEnm, sFor, dLc_e, lcS, dYes, wipeS, dCall, dMeth, dPrime, dPoly, dCurve, dParts, kLen_l, kLen_t, kLen_s, kInt_i, kMax_i, kMin3_i, kAbs_i, kRepr_b, fList, dBits, dIsT, fInt, fBool, fLst, fCrv, fFnc, wIx_l, wIx_t, wIx_s, fFrom, fTo, fStride, dTab3, dLend, dLendB, flatD, sPop, sApp, sSetI, sFldD, sNewF, sFrzF, slots0, List.map_cons, List.map_nil, List.replicate, List.cons_append, List.nil_append, List.append_nil, List.getElem?_cons_zero, List.getElem?_cons_succ, List.set_cons_zero, List.set_cons_succ, List.length_map, rng_len, rngD_len, enm_len, List.length_replicate, List.length_append, ← List.map_append, List.length_cons, List.length_nil, Nat.reduceAdd, Nat.reduceSub, Nat.reduceLeDiff, Bool.not_true, Bool.not_false, if_true, Bool.false_eq_true, if_false, true_and, and_true, Bool.not_eq_true']
  have h0 := h _ rfl
  obtain ⟨⟨ca, cb, cc⟩, ⟨l1, l2, l3⟩, hne⟩ := hl
  dsimp only at l1 l2 l3
  have hlig : lig = 200000 := rfl
  refine ⟨true, rfl, ?_⟩
  rw [if_neg (by decide)]
  refine forW_inv (fun i ρ n' => n' = n ∧ ∃ s5 : Sl, ρ = [.obj (x, F) [], .val (Cd p f), .val (L a), .val (L b), .val (L c), s5]) ⟨rfl, _, rfl⟩ ?_ ?_
  · rintro i d ρ n' N hd ⟨rfl, s5, rfl⟩ hN
    have : ∃ y : List Int, d = L y ∧ Can p y ∧ y.length ≤ 61 := by
      match i, hd with
      | 0, hd => exact ⟨a, (Option.some.inj hd).symm, ca, l1⟩
      | 1, hd => exact ⟨b, (Option.some.inj hd).symm, cb, l2⟩
      | 2, hd => exact ⟨c, (Option.some.inj hd).symm, cc, l3⟩
    obtain ⟨y, rfl, cy, ly⟩ := this
    simp only [sSeq, sNext, sFrz, sDrop, sRet, sIf, gNm, gTp, gLs, setL, sAsg, sSet, sOwn, sPar, sPar3, sPar3O, dVar, dC, dF, dOp, dB, dAnd, dOr, dNot, dAndV, dOrV, dNotV, dIf, dIfF, dNil, dCons, dLst_e, dTup_e, wSub_i, wMod_i, wFdiv_i, wPow_i, wAdd_i, wAdd_l, wMul_i, wMul_l, fRep_e, wRepF_l, wLt_i, wLe_i, wGt_i, wGe_i, isNo, wIsN_n, wNotN_n, wIsB_b, wNotB_b, wEq_i, wNe_i, wNe_b, wNe_s, wEq_L, wNe_L, wEq_L0, wNe_L0, wNotIn, dNeg_e, nNeg_i, iRg1, iRg2, iRg3, iSeq, iSeqT, iEnm, sFor, dLc_e, lcS, dYes, wipeS, dCall, dMeth, dPrime, dPoly, dCurve, dParts, kLen_l, kLen_t, kLen_s, kInt_i, kMax_i, kMin3_i, kAbs_i, kRepr_b, fList, dBits, dIsT, fInt, fBool, fLst, fCrv, fFnc, wIx_l, wIx_t, wIx_s, fFrom, fTo, fStride, dTab3, dLend, dLendB, flatD, sPop, sApp, sSetI, sFldD, sNewF, sFrzF, slots0, List.map_cons, List.map_nil, List.replicate, List.cons_append, List.nil_append, List.append_nil, List.getElem?_cons_zero, List.getElem?_cons_succ, List.set_cons_zero, List.set_cons_succ, List.length_map, rng_len, rngD_len, enm_len, List.length_replicate, List.length_append, ← List.map_append, List.length_cons, List.length_nil, Nat.reduceAdd, Nat.reduceSub, Nat.reduceLeDiff, Bool.not_true, Bool.not_false, if_true, Bool.false_eq_true, if_false, true_and, and_true, Bool.not_eq_true']
    refine um_prime (u_check_poly ⟨cy, ly⟩ ?_)
    exact hN _ _ ⟨rfl, _, rfl⟩
  · rintro ρ n' ⟨rfl, s5, rfl⟩
    simp only [sSeq, sNext, sFrz, sDrop, sRet, sIf, gNm, gTp, gLs, setL, sAsg, sSet, sOwn, sPar, sPar3, sPar3O, dVar, dC, dF, dOp, dB, dAnd, dOr, dNot, dAndV, dOrV, dNotV, dIf, dIfF, dNil, dCons, dLst_e, dTup_e, wSub_i, wMod_i, wFdiv_i, wPow_i, wAdd_i, wAdd_l, wMul_i, wMul_l, fRep_e, wRepF_l, wLt_i, wLe_i, wGt_i, wGe_i, isNo, wIsN_n, wNotN_n, wIsB_b, wNotB_b, wEq_i, wNe_i, wNe_b, wNe_s, wEq_L, wNe_L, wEq_L0, wNe_L0, wNotIn, dNeg_e, nNeg_i, iRg1, iRg2, iRg3, iSeq, iSeqT, iEnm, sFor, dLc_e, lcS, dYes, wipeS, dCall, dMeth, dPrime, dPoly, dCurve, dParts, kLen_l, kLen_t, kLen_s, kInt_i, kMax_i, kMin3_i, kAbs_i, kRepr_b, fList, dBits, dIsT, fInt, fBool, fLst, fCrv, fFnc, wIx_l, wIx_t, wIx_s, fFrom, fTo, fStride, dTab3, dLend, dLendB, flatD, sPop, sApp, sSetI, sFldD, sNewF, sFrzF, slots0, List.map_cons, List.map_nil, List.replicate, List.cons_append, List.nil_append, List.append_nil, List.getElem?_cons_zero, List.getElem?_cons_succ, List.set_cons_zero, List.set_cons_succ, List.length_map, rng_len, rngD_len, enm_len, List.length_replicate, List.length_append, ← List.map_append, List.length_cons, List.length_nil, Nat.reduceAdd, Nat.reduceSub, Nat.reduceLeDiff, Bool.not_true, Bool.not_false, if_true, Bool.false_eq_true, if_false, true_and, and_true, Bool.not_eq_true']
    rw [if_neg (by simpa using hne)]
    refine ⟨by decide, ?_⟩
    refine um_prime (u_least_parts ⟨⟨ca, cb, cc⟩, ⟨by dsimp only; omega, by dsimp only; omega, by dsimp only; omega⟩, hne⟩ ?_)
    exact ⟨by show 1 < 1000; decide, fldF p f _ _ _, _, rfl, .inl ⟨rfl, p, f, _, _, _, rfl, rfl⟩, h0⟩
theorem ok_made (B : Bi K mg C F) (A : At K mg "made" "made" (top 39)) (n_Function : Nw P w K mg base C F F 7 "Function" kn_Function) (c_least_parts : Fn P w K mg base C F 6 "least_parts" k_least_parts) (m_prime : Mt P w K mg base C F C 1 "prime" km_prime) : Fn P w K mg base C F 9 "made" k_made := by
  obtain ⟨f, fd, Fd, hm⟩ := A
  refine ⟨⟨f, fd, ["curve", "top", "side", "bottom"], ?_, hm, Fd.kp, Fd.bindsN fun _ _ _ _ _ _ us hl => match us, hl with | [_, _, _, _], _ => rfl⟩, mon_cF⟩
  have S : FnScope ["curve", "top", "side", "bottom", "found"] ["curve", "top", "side", "bottom"] (defScope (top 39)) := ⟨rfl, rfl, rfl, by decide +kernel, rfl, by decide +kernel, by decide +kernel⟩
  obtain ⟨pr, BPR, BPRt⟩ := B.PR
  refine fn_ok (k := 8) Fd S (len_cF fun _ => rfl) fun g cdv A outer s H E hr => ?_
  have hu := hu_of hr
  have hu1 := hu1_of hr
  refine ⟨_, _, (ss_cons (st_newF 4 S.nd n_Function hr (da_cons (de_var 0) (da_cons (DEf.de (df_lst da_nil)) (da_cons (DEf.de (df_lst da_nil)) (da_cons (DEf.de (df_lst (da_cons de_int da_nil))) da_nil))))) (ss_cons (st_fld 4 (de_call c_least_parts hr (da_cons (de_methC m_prime hr (de_var 0)) (da_cons (de_var 1) (da_cons (de_var 2) (da_cons (de_var 3) da_nil))))) B.F.cl B.F_parts) (ss_frzF 4 (ss_one (st_ret (de_var 4)))))), ?_⟩
  intro ds n Φ hh
  obtain ⟨⟨⟨p, hp⟩, f, a, b, c⟩, rfl, hl, h⟩ := hh
  try dsimp only at hl
  have hlim : lim = 1000000 := rfl
  simp only [slots0, List.map_cons, List.map_nil, List.length_cons, List.length_nil, Nat.reduceAdd, Nat.reduceSub, List.replicate, List.cons_append, List.nil_append]
  simp only [sSeq, sNext, sFrz, sDrop, sRet, sIf, gNm, gTp, gLs, setL, sAsg, sSet, sOwn, sPar, sPar3, sPar3O, dVar, dC, dF, dOp, dB, dAnd, dOr, dNot, dAndV, dOrV, dNotV, dIf, dIfF, dNil, dCons, dLst_e, dTup_e, wSub_i, wMod_i, wFdiv_i, wPow_i, wAdd_i, wAdd_l, wMul_i, wMul_l, fRep_e, wRepF_l, wLt_i, wLe_i, wGt_i, wGe_i, isNo, wIsN_n, wNotN_n, wIsB_b, wNotB_b, wEq_i, wNe_i, wNe_b, wNe_s, wEq_L, wNe_L, wEq_L0, wNe_L0, wNotIn, dNeg_e, nNeg_i, iRg1, iRg2, iRg3, iSeq, iSeqT, iEnm, sFor, dLc_e, lcS, dYes, wipeS, dCall, dMeth, dPrime, dPoly, dCurve, dParts, kLen_l, kLen_t, kLen_s, kInt_i, kMax_i, kMin3_i, kAbs_i, kRepr_b, fList, dBits, dIsT, fInt, fBool, fLst, fCrv, fFnc, wIx_l, wIx_t, wIx_s, fFrom, fTo, fStride, dTab3, dLend, dLendB, flatD, sPop, sApp, sSetI, sFldD, sNewF, sFrzF, slots0, List.map_cons, List.map_nil, List.replicate, List.cons_append, List.nil_append, List.append_nil, List.getElem?_cons_zero, List.getElem?_cons_succ, List.set_cons_zero, List.set_cons_succ, List.length_map, rng_len, rngD_len, enm_len, List.length_replicate, List.length_append, ← List.map_append, List.length_cons, List.length_nil, Nat.reduceAdd, Nat.reduceSub, Nat.reduceLeDiff, Bool.not_true, Bool.not_false, if_true, Bool.false_eq_true, if_false, true_and, and_true, Bool.not_eq_true']
  have h0 := h _ rfl
  dsimp only at h0
  refine un_Function (p := p) (f := f) (a := []) (b := []) (c := [1]) ⟨⟨can_nil, can_nil, can_one⟩, ⟨by decide, by decide, by decide⟩, by simp⟩ ?_
  intro adr
  refine um_prime (u_least_parts hl ?_)
  exact ⟨by omega, adr, p, f, _, _, _, rfl, h0⟩
theorem ok_parts_of (B : Bi K mg C F) (A : At K mg "parts_of" "parts_of" (top 40)) (m_curve : Mt P w K mg base C F F 1 "curve" km_curve) (m_prime : Mt P w K mg base C F C 1 "prime" km_prime) (m_polynomial : Mt P w K mg base C F C 1 "polynomial" km_polynomial) (m_top : Mt P w K mg base C F F 1 "top" km_top) (m_side : Mt P w K mg base C F F 1 "side" km_side) (m_bottom : Mt P w K mg base C F F 1 "bottom" km_bottom) : Fn P w K mg base C F 2 "parts_of" k_parts_of := by
  obtain ⟨f, fd, Fd, hm⟩ := A
  refine ⟨⟨f, fd, ["function"], ?_, hm, Fd.kp, Fd.bindsN fun _ _ _ _ _ _ us hl => match us, hl with | [_], _ => rfl⟩, mon_cF⟩
  have S : FnScope ["function", "curve"] ["function"] (defScope (top 40)) := ⟨rfl, rfl, rfl, by decide +kernel, rfl, by decide +kernel, by decide +kernel⟩
  obtain ⟨pr, BPR, BPRt⟩ := B.PR
  refine fn_ok (k := 1) Fd S (len_cF fun _ => rfl) fun g cdv A outer s H E hr => ?_
  have hu := hu_of hr
  have hu1 := hu1_of hr
  refine ⟨_, _, (ss_cons (st_set 1 S.nd (de_methF m_curve hr (de_var 0))) (ss_one (st_ret (de_tup (da_cons (de_methC m_prime hr (de_var 1)) (da_cons (de_methC m_polynomial hr (de_var 1)) (da_cons (de_methF m_top hr (de_var 0)) (da_cons (de_methF m_side hr (de_var 0)) (da_cons (de_methF m_bottom hr (de_var 0)) da_nil))))))))), ?_⟩
  intro ds n Φ hh
  obtain ⟨⟨q, f, a, b, c⟩, rfl, -, h⟩ := hh
  try dsimp only at hl
  have hlim : lim = 1000000 := rfl
  simp only [slots0, List.map_cons, List.map_nil, List.length_cons, List.length_nil, Nat.reduceAdd, Nat.reduceSub, List.replicate, List.cons_append, List.nil_append]
  simp only [sSeq, sNext, sFrz, sDrop, sRet, sIf, gNm, gTp, gLs, setL, sAsg, sSet, sOwn, sPar, sPar3, sPar3O, dVar, dC, dF, dOp, dB, dAnd, dOr, dNot, dAndV, dOrV, dNotV, dIf, dIfF, dNil, dCons, dLst_e, dTup_e, wSub_i, wMod_i, wFdiv_i, wPow_i, wAdd_i, wAdd_l, wMul_i, wMul_l, fRep_e, wRepF_l, wLt_i, wLe_i, wGt_i, wGe_i, isNo, wIsN_n, wNotN_n, wIsB_b, wNotB_b, wEq_i, wNe_i, wNe_b, wNe_s, wEq_L, wNe_L, wEq_L0, wNe_L0, wNotIn, dNeg_e, nNeg_i, iRg1, iRg2, iRg3, iSeq, iSeqT, iEnm, sFor, dLc_e, lcS, dYes, wipeS, dCall, dMeth, dPrime, dPoly, dCurve, dParts, kLen_l, kLen_t, kLen_s, kInt_i, kMax_i, kMin3_i, kAbs_i, kRepr_b, fList, dBits, dIsT, fInt, fBool, fLst, fCrv, fFnc, wIx_l, wIx_t, wIx_s, fFrom, fTo, fStride, dTab3, dLend, dLendB, flatD, sPop, sApp, sSetI, sFldD, sNewF, sFrzF, slots0, List.map_cons, List.map_nil, List.replicate, List.cons_append, List.nil_append, List.append_nil, List.getElem?_cons_zero, List.getElem?_cons_succ, List.set_cons_zero, List.set_cons_succ, List.length_map, rng_len, rngD_len, enm_len, List.length_replicate, List.length_append, ← List.map_append, List.length_cons, List.length_nil, Nat.reduceAdd, Nat.reduceSub, Nat.reduceLeDiff, Bool.not_true, Bool.not_false, if_true, Bool.false_eq_true, if_false, true_and, and_true, Bool.not_eq_true']
  refine um_curve ?_
  dsimp only
  refine um_prime (um_polynomial (um_top (um_side (um_bottom ?_))))
  exact h _ rfl
theorem ok_is_nought (B : Bi K mg C F) (A : At K mg "is_nought" "is_nought" (top 41)) (m_top : Mt P w K mg base C F F 1 "top" km_top) (m_side : Mt P w K mg base C F F 1 "side" km_side) : Fn P w K mg base C F 2 "is_nought" k_is_nought := by
  obtain ⟨f, fd, Fd, hm⟩ := A
  refine ⟨⟨f, fd, ["function"], ?_, hm, Fd.kp, Fd.bindsN fun _ _ _ _ _ _ us hl => match us, hl with | [_], _ => rfl⟩, mon_cF⟩
  have S : FnScope ["function"] ["function"] (defScope (top 41)) := ⟨rfl, rfl, rfl, by decide +kernel, rfl, by decide +kernel, by decide +kernel⟩
  obtain ⟨pr, BPR, BPRt⟩ := B.PR
  refine fn_ok (k := 1) Fd S (len_cF fun _ => rfl) fun g cdv A outer s H E hr => ?_
  have hu := hu_of hr
  have hu1 := hu1_of hr
  refine ⟨_, _, (ss_one (st_ret (de_and (de_cmp (o_eq hu) (de_methF m_top hr (de_var 0)) (DEf.de (df_lst da_nil))) (de_one (de_cmp (o_eq hu) (de_methF m_side hr (de_var 0)) (DEf.de (df_lst da_nil))))))), ?_⟩
  intro ds n Φ hh
  obtain ⟨⟨q, f, a, b, c⟩, rfl, -, h⟩ := hh
  try dsimp only at hl
  have hlim : lim = 1000000 := rfl
  simp only [slots0, List.map_cons, List.map_nil, List.length_cons, List.length_nil, Nat.reduceAdd, Nat.reduceSub, List.replicate, List.cons_append, List.nil_append]
  simp only [sSeq, sNext, sFrz, sDrop, sRet, sIf, gNm, gTp, gLs, setL, sAsg, sSet, sOwn, sPar, sPar3, sPar3O, dVar, dC, dF, dOp, dB, dAnd, dOr, dNot, dAndV, dOrV, dNotV, dIf, dIfF, dNil, dCons, dLst_e, dTup_e, wSub_i, wMod_i, wFdiv_i, wPow_i, wAdd_i, wAdd_l, wMul_i, wMul_l, fRep_e, wRepF_l, wLt_i, wLe_i, wGt_i, wGe_i, isNo, wIsN_n, wNotN_n, wIsB_b, wNotB_b, wEq_i, wNe_i, wNe_b, wNe_s, wEq_L, wNe_L, wEq_L0, wNe_L0, wNotIn, dNeg_e, nNeg_i, iRg1, iRg2, iRg3, iSeq, iSeqT, iEnm, sFor, dLc_e, lcS, dYes, wipeS, dCall, dMeth, dPrime, dPoly, dCurve, dParts, kLen_l, kLen_t, kLen_s, kInt_i, kMax_i, kMin3_i, kAbs_i, kRepr_b, fList, dBits, dIsT, fInt, fBool, fLst, fCrv, fFnc, wIx_l, wIx_t, wIx_s, fFrom, fTo, fStride, dTab3, dLend, dLendB, flatD, sPop, sApp, sSetI, sFldD, sNewF, sFrzF, slots0, List.map_cons, List.map_nil, List.replicate, List.cons_append, List.nil_append, List.append_nil, List.getElem?_cons_zero, List.getElem?_cons_succ, List.set_cons_zero, List.set_cons_succ, List.length_map, rng_len, rngD_len, enm_len, List.length_replicate, List.length_append, ← List.map_append, List.length_cons, List.length_nil, Nat.reduceAdd, Nat.reduceSub, Nat.reduceLeDiff, Bool.not_true, Bool.not_false, if_true, Bool.false_eq_true, if_false, true_and, and_true, Bool.not_eq_true']
  have h0 := h _ rfl
  dsimp only at h0
  refine um_top ?_
  rw [wEq_L0]
  dsimp only
  by_cases ha : a = []
  · rw [if_pos (by simpa using ha)]
    refine um_side ?_
    rw [wEq_L0]
    simpa [ha] using h0
  · rw [if_neg (by simpa using ha)]
    simpa [ha] using h0
end KH
end
section
set_option Elab.async false
set_option linter.all false
set_option maxRecDepth 100000
set_option maxHeartbeats 2000000
namespace KH
open PySem PySem.Spec PyProof.Rows L2 DL
open MK hiding D X
variable {P : Program} {w : World} {K : PySem.W.Frag} {mg : Str → Option Value} {base : Heap} {C F : Addr}
theorem ok_plus (B : Bi K mg C F) (A : At K mg "plus" "plus" (top 42)) (c_parts_of : Fn P w K mg base C F 2 "parts_of" k_parts_of) (c_added : Fn P w K mg base C F 2 "added" k_added) (c_multiplied : Fn P w K mg base C F 2 "multiplied" k_multiplied) (m_bottom : Mt P w K mg base C F F 1 "bottom" km_bottom) (m_top : Mt P w K mg base C F F 1 "top" km_top) (m_side : Mt P w K mg base C F F 1 "side" km_side) (c_made : Fn P w K mg base C F 9 "made" k_made) (m_curve : Mt P w K mg base C F F 1 "curve" km_curve) : Fn P w K mg base C F 10 "plus" k_plus := by
  obtain ⟨f, fd, Fd, hm⟩ := A
  refine ⟨⟨f, fd, ["one", "other"], ?_, hm, Fd.kp, Fd.bindsN fun _ _ _ _ _ _ us hl => match us, hl with | [_, _], _ => rfl⟩, mon_cF⟩
  have S : FnScope ["one", "other", "tops", "sides", "p", "_", "top", "side", "bottom"] ["one", "other"] (defScope (top 42)) := ⟨rfl, rfl, rfl, by decide +kernel, rfl, by decide +kernel, by decide +kernel⟩
  obtain ⟨pr, BPR, BPRt⟩ := B.PR
  refine fn_ok (k := 9) Fd S (len_cF fun _ => rfl) fun g cdv A outer s H E hr => ?_
  have hu := hu_of hr
  have hu1 := hu1_of hr
  refine ⟨_, _, (ss_cons (st_asg (de_call c_parts_of hr (da_cons (de_var 0) da_nil)) (tg_tup rfl (tgs_cons 4 (tgs_cons 5 (tgs_cons 6 (tgs_cons 7 (tgs_cons 8 tgs_nil S.nd) S.nd) S.nd) S.nd) S.nd))) (ss_cons (st_set 2 S.nd (de_call c_added hr (da_cons (de_var 4) (da_cons (de_call c_multiplied hr (da_cons (de_var 4) (da_cons (de_var 6) (da_cons (de_methF m_bottom hr (de_var 1)) da_nil)))) (da_cons (de_call c_multiplied hr (da_cons (de_var 4) (da_cons (de_methF m_top hr (de_var 1)) (da_cons (de_var 8) da_nil)))) da_nil))))) (ss_cons (st_set 3 S.nd (de_call c_added hr (da_cons (de_var 4) (da_cons (de_call c_multiplied hr (da_cons (de_var 4) (da_cons (de_var 7) (da_cons (de_methF m_bottom hr (de_var 1)) da_nil)))) (da_cons (de_call c_multiplied hr (da_cons (de_var 4) (da_cons (de_methF m_side hr (de_var 1)) (da_cons (de_var 8) da_nil)))) da_nil))))) (ss_one (st_ret (de_call c_made hr (da_cons (de_methF m_curve hr (de_var 0)) (da_cons (de_var 2) (da_cons (de_var 3) (da_cons (de_call c_multiplied hr (da_cons (de_var 4) (da_cons (de_var 8) (da_cons (de_methF m_bottom hr (de_var 1)) da_nil)))) da_nil)))))))))), ?_⟩
  intro ds n Φ hh
  obtain ⟨⟨⟨p, hp⟩, f, t, s⟩, rfl, ⟨ht, hs⟩, h⟩ := hh
  try dsimp only at hl
  have hlim : lim = 1000000 := rfl
  simp only [slots0, List.map_cons, List.map_nil, List.length_cons, List.length_nil, Nat.reduceAdd, Nat.reduceSub, List.replicate, List.cons_append, List.nil_append]
  have h0 := h _ rfl
  dsimp only at h0 ht hs
  have hlig : lig = 200000 := rfl
  have hnfn : nfn = 5000 := rfl
  obtain ⟨t1, t2, t3⟩ := ht.b
  obtain ⟨s1, s2, s3⟩ := hs.b
  have lf := ht.cv.len
  refine i_seq (i_asg (i_call (i_cons (i_var rfl (i_nil (u_parts_of ?_))))))
  simp only [sSeq, sNext, sFrz, sDrop, sRet, sIf, gNm, gTp, gLs, setL, sAsg, sSet, sOwn, sPar, sPar3, sPar3O, dVar, dC, dF, dOp, dB, dAnd, dOr, dNot, dAndV, dOrV, dNotV, dIf, dIfF, dNil, dCons, dLst_e, dTup_e, wSub_i, wMod_i, wFdiv_i, wPow_i, wAdd_i, wAdd_l, wMul_i, wMul_l, fRep_e, wRepF_l, wLt_i, wLe_i, wGt_i, wGe_i, isNo, wIsN_n, wNotN_n, wIsB_b, wNotB_b, wEq_i, wNe_i, wNe_b, wNe_s, wEq_L, wNe_L, wEq_L0, wNe_L0, wNotIn, dNeg_e, nNeg_i, iRg1, iRg2, iRg3, iSeq, iSeqT, iEnm, sFor, dLc_e, lcS, dYes, wipeS, dCall, dMeth, dPrime, dPoly, dCurve, dParts, kLen_l, kLen_t, kLen_s, kInt_i, kMax_i, kMin3_i, kAbs_i, kRepr_b, fList, dBits, dIsT, fInt, fBool, fLst, fCrv, fFnc, wIx_l, wIx_t, wIx_s, fFrom, fTo, fStride, dTab3, dLend, dLendB, flatD, sPop, sApp, sSetI, sFldD, sNewF, sFrzF, slots0, List.map_cons, List.map_nil, List.replicate, List.cons_append, List.nil_append, List.append_nil, List.getElem?_cons_zero, List.getElem?_cons_succ, List.set_cons_zero, List.set_cons_succ, List.length_map, rng_len, rngD_len, enm_len, List.length_replicate, List.length_append, ← List.map_append, List.length_cons, List.length_nil, Nat.reduceAdd, Nat.reduceSub, Nat.reduceLeDiff, Bool.not_true, Bool.not_false, if_true, Bool.false_eq_true, if_false, true_and, and_true, Bool.not_eq_true']
  refine um_bottom (u_multiplied ⟨by omega, by omega, Can.sm ht.ca⟩ (um_top (u_multiplied ⟨by omega, by omega, Can.sm hs.ca⟩ (u_added ⟨?_, ?_⟩ ?_))))
  · have := len_mul (p := p) t.1 s.2.2; omega
  · have := len_mul (p := p) s.1 t.2.2; omega
  refine um_bottom (u_multiplied ⟨by omega, by omega, Can.sm ht.cb⟩ (um_side (u_multiplied ⟨by omega, by omega, Can.sm hs.cb⟩ (u_added ⟨?_, ?_⟩ ?_))))
  · have := len_mul (p := p) t.2.1 s.2.2; omega
  · have := len_mul (p := p) s.2.1 t.2.2; omega
  refine um_curve (um_bottom (u_multiplied ⟨by omega, by omega, Can.sm ht.cc⟩ (u_made ⟨⟨can_add _ _, can_add _ _, can_mul _ _⟩, ⟨?_, ?_, ?_⟩, sr_ne (plus_ne ht.nm hs.nm)⟩ ?_)))
  · have := len_add (p := p) (mulP p t.1 s.2.2) (mulP p s.1 t.2.2); have := len_mul (p := p) t.1 s.2.2; have := len_mul (p := p) s.1 t.2.2; dsimp only; omega
  · have := len_add (p := p) (mulP p t.2.1 s.2.2) (mulP p s.2.1 t.2.2); have := len_mul (p := p) t.2.1 s.2.2; have := len_mul (p := p) s.2.1 t.2.2; dsimp only; omega
  · have := len_mul (p := p) t.2.2 s.2.2; dsimp only; omega
  exact h0
theorem ok_opposite (B : Bi K mg C F) (A : At K mg "opposite" "opposite" (top 43)) (c_parts_of : Fn P w K mg base C F 2 "parts_of" k_parts_of) (c_made : Fn P w K mg base C F 9 "made" k_made) (m_curve : Mt P w K mg base C F F 1 "curve" km_curve) (c_negated : Fn P w K mg base C F 2 "negated" k_negated) : Fn P w K mg base C F 10 "opposite" k_opposite := by
  obtain ⟨f, fd, Fd, hm⟩ := A
  refine ⟨⟨f, fd, ["function"], ?_, hm, Fd.kp, Fd.bindsN fun _ _ _ _ _ _ us hl => match us, hl with | [_], _ => rfl⟩, mon_cF⟩
  have S : FnScope ["function", "p", "_", "top", "side", "bottom"] ["function"] (defScope (top 43)) := ⟨rfl, rfl, rfl, by decide +kernel, rfl, by decide +kernel, by decide +kernel⟩
  obtain ⟨pr, BPR, BPRt⟩ := B.PR
  refine fn_ok (k := 9) Fd S (len_cF fun _ => rfl) fun g cdv A outer s H E hr => ?_
  have hu := hu_of hr
  have hu1 := hu1_of hr
  refine ⟨_, _, (ss_cons (st_asg (de_call c_parts_of hr (da_cons (de_var 0) da_nil)) (tg_tup rfl (tgs_cons 1 (tgs_cons 2 (tgs_cons 3 (tgs_cons 4 (tgs_cons 5 tgs_nil S.nd) S.nd) S.nd) S.nd) S.nd))) (ss_one (st_ret (de_call c_made hr (da_cons (de_methF m_curve hr (de_var 0)) (da_cons (de_call c_negated hr (da_cons (de_var 1) (da_cons (de_var 3) da_nil))) (da_cons (de_call c_negated hr (da_cons (de_var 1) (da_cons (de_var 4) da_nil))) (da_cons (de_var 5) da_nil)))))))), ?_⟩
  intro ds n Φ hh
  obtain ⟨⟨⟨p, hp⟩, f, t⟩, rfl, ht, h⟩ := hh
  try dsimp only at hl
  have hlim : lim = 1000000 := rfl
  simp only [slots0, List.map_cons, List.map_nil, List.length_cons, List.length_nil, Nat.reduceAdd, Nat.reduceSub, List.replicate, List.cons_append, List.nil_append]
  have h0 := h _ rfl
  dsimp only at h0 ht
  have hlig : lig = 200000 := rfl
  have hnfn : nfn = 5000 := rfl
  obtain ⟨t1, t2, t3⟩ := ht.b
  have lf := ht.cv.len
  refine i_seq (i_asg (i_call (i_cons (i_var rfl (i_nil (u_parts_of ?_))))))
  simp only [sSeq, sNext, sFrz, sDrop, sRet, sIf, gNm, gTp, gLs, setL, sAsg, sSet, sOwn, sPar, sPar3, sPar3O, dVar, dC, dF, dOp, dB, dAnd, dOr, dNot, dAndV, dOrV, dNotV, dIf, dIfF, dNil, dCons, dLst_e, dTup_e, wSub_i, wMod_i, wFdiv_i, wPow_i, wAdd_i, wAdd_l, wMul_i, wMul_l, fRep_e, wRepF_l, wLt_i, wLe_i, wGt_i, wGe_i, isNo, wIsN_n, wNotN_n, wIsB_b, wNotB_b, wEq_i, wNe_i, wNe_b, wNe_s, wEq_L, wNe_L, wEq_L0, wNe_L0, wNotIn, dNeg_e, nNeg_i, iRg1, iRg2, iRg3, iSeq, iSeqT, iEnm, sFor, dLc_e, lcS, dYes, wipeS, dCall, dMeth, dPrime, dPoly, dCurve, dParts, kLen_l, kLen_t, kLen_s, kInt_i, kMax_i, kMin3_i, kAbs_i, kRepr_b, fList, dBits, dIsT, fInt, fBool, fLst, fCrv, fFnc, wIx_l, wIx_t, wIx_s, fFrom, fTo, fStride, dTab3, dLend, dLendB, flatD, sPop, sApp, sSetI, sFldD, sNewF, sFrzF, slots0, List.map_cons, List.map_nil, List.replicate, List.cons_append, List.nil_append, List.append_nil, List.getElem?_cons_zero, List.getElem?_cons_succ, List.set_cons_zero, List.set_cons_succ, List.length_map, rng_len, rngD_len, enm_len, List.length_replicate, List.length_append, ← List.map_append, List.length_cons, List.length_nil, Nat.reduceAdd, Nat.reduceSub, Nat.reduceLeDiff, Bool.not_true, Bool.not_false, if_true, Bool.false_eq_true, if_false, true_and, and_true, Bool.not_eq_true']
  refine um_curve (u_negated (by omega) (u_negated (by omega) (u_made ⟨⟨can_neg _, can_neg _, ht.cc⟩, ⟨?_, ?_, ?_⟩, ht.nm.m.1⟩ ?_)))
  · have := len_neg (p := p) t.1; dsimp only; omega
  · have := len_neg (p := p) t.2.1; dsimp only; omega
  · dsimp only; omega
  exact h0
theorem ok_minus (B : Bi K mg C F) (A : At K mg "minus" "minus" (top 44)) (c_plus : Fn P w K mg base C F 10 "plus" k_plus) (c_opposite : Fn P w K mg base C F 10 "opposite" k_opposite) : Fn P w K mg base C F 11 "minus" k_minus := by
  obtain ⟨f, fd, Fd, hm⟩ := A
  refine ⟨⟨f, fd, ["one", "other"], ?_, hm, Fd.kp, Fd.bindsN fun _ _ _ _ _ _ us hl => match us, hl with | [_, _], _ => rfl⟩, mon_cF⟩
  have S : FnScope ["one", "other"] ["one", "other"] (defScope (top 44)) := ⟨rfl, rfl, rfl, by decide +kernel, rfl, by decide +kernel, by decide +kernel⟩
  obtain ⟨pr, BPR, BPRt⟩ := B.PR
  refine fn_ok (k := 10) Fd S (len_cF fun _ => rfl) fun g cdv A outer s H E hr => ?_
  have hu := hu_of hr
  have hu1 := hu1_of hr
  refine ⟨_, _, (ss_one (st_ret (de_call c_plus hr (da_cons (de_var 0) (da_cons (de_call c_opposite hr (da_cons (de_var 1) da_nil)) da_nil))))), ?_⟩
  intro ds n Φ hh
  obtain ⟨⟨⟨p, hp⟩, f, t, s⟩, rfl, ⟨ht, hs⟩, h⟩ := hh
  try dsimp only at hl
  have hlim : lim = 1000000 := rfl
  simp only [slots0, List.map_cons, List.map_nil, List.length_cons, List.length_nil, Nat.reduceAdd, Nat.reduceSub, List.replicate, List.cons_append, List.nil_append]
  simp only [sSeq, sNext, sFrz, sDrop, sRet, sIf, gNm, gTp, gLs, setL, sAsg, sSet, sOwn, sPar, sPar3, sPar3O, dVar, dC, dF, dOp, dB, dAnd, dOr, dNot, dAndV, dOrV, dNotV, dIf, dIfF, dNil, dCons, dLst_e, dTup_e, wSub_i, wMod_i, wFdiv_i, wPow_i, wAdd_i, wAdd_l, wMul_i, wMul_l, fRep_e, wRepF_l, wLt_i, wLe_i, wGt_i, wGe_i, isNo, wIsN_n, wNotN_n, wIsB_b, wNotB_b, wEq_i, wNe_i, wNe_b, wNe_s, wEq_L, wNe_L, wEq_L0, wNe_L0, wNotIn, dNeg_e, nNeg_i, iRg1, iRg2, iRg3, iSeq, iSeqT, iEnm, sFor, dLc_e, lcS, dYes, wipeS, dCall, dMeth, dPrime, dPoly, dCurve, dParts, kLen_l, kLen_t, kLen_s, kInt_i, kMax_i, kMin3_i, kAbs_i, kRepr_b, fList, dBits, dIsT, fInt, fBool, fLst, fCrv, fFnc, wIx_l, wIx_t, wIx_s, fFrom, fTo, fStride, dTab3, dLend, dLendB, flatD, sPop, sApp, sSetI, sFldD, sNewF, sFrzF, slots0, List.map_cons, List.map_nil, List.replicate, List.cons_append, List.nil_append, List.append_nil, List.getElem?_cons_zero, List.getElem?_cons_succ, List.set_cons_zero, List.set_cons_succ, List.length_map, rng_len, rngD_len, enm_len, List.length_replicate, List.length_append, ← List.map_append, List.length_cons, List.length_nil, Nat.reduceAdd, Nat.reduceSub, Nat.reduceLeDiff, Bool.not_true, Bool.not_false, if_true, Bool.false_eq_true, if_false, true_and, and_true, Bool.not_eq_true']
  dsimp only at ht hs
  refine u_opposite hs (u_plus ⟨ht, ?_⟩ ?_)
  · exact fo_opp hs
  · exact h _ rfl
theorem ok_times (B : Bi K mg C F) (A : At K mg "times" "times" (top 45)) (c_parts_of : Fn P w K mg base C F 2 "parts_of" k_parts_of) (c_multiplied : Fn P w K mg base C F 2 "multiplied" k_multiplied) (m_side : Mt P w K mg base C F F 1 "side" km_side) (c_added : Fn P w K mg base C F 2 "added" k_added) (m_top : Mt P w K mg base C F F 1 "top" km_top) (c_made : Fn P w K mg base C F 9 "made" k_made) (m_curve : Mt P w K mg base C F F 1 "curve" km_curve) (m_bottom : Mt P w K mg base C F F 1 "bottom" km_bottom) : Fn P w K mg base C F 10 "times" k_times := by
  obtain ⟨f, fd, Fd, hm⟩ := A
  refine ⟨⟨f, fd, ["one", "other"], ?_, hm, Fd.kp, Fd.bindsN fun _ _ _ _ _ _ us hl => match us, hl with | [_, _], _ => rfl⟩, mon_cF⟩
  have S : FnScope ["one", "other", "high", "tops", "sides", "p", "f", "top", "side", "bottom"] ["one", "other"] (defScope (top 45)) := ⟨rfl, rfl, rfl, by decide +kernel, rfl, by decide +kernel, by decide +kernel⟩
  obtain ⟨pr, BPR, BPRt⟩ := B.PR
  refine fn_ok (k := 9) Fd S (len_cF fun _ => rfl) fun g cdv A outer s H E hr => ?_
  have hu := hu_of hr
  have hu1 := hu1_of hr
  refine ⟨_, _, (ss_cons (st_asg (de_call c_parts_of hr (da_cons (de_var 0) da_nil)) (tg_tup rfl (tgs_cons 5 (tgs_cons 6 (tgs_cons 7 (tgs_cons 8 (tgs_cons 9 tgs_nil S.nd) S.nd) S.nd) S.nd) S.nd))) (ss_cons (st_set 2 S.nd (de_call c_multiplied hr (da_cons (de_var 5) (da_cons (de_call c_multiplied hr (da_cons (de_var 5) (da_cons (de_var 8) (da_cons (de_methF m_side hr (de_var 1)) da_nil)))) (da_cons (de_var 6) da_nil))))) (ss_cons (st_set 3 S.nd (de_call c_added hr (da_cons (de_var 5) (da_cons (de_call c_multiplied hr (da_cons (de_var 5) (da_cons (de_var 7) (da_cons (de_methF m_top hr (de_var 1)) da_nil)))) (da_cons (de_var 2) da_nil))))) (ss_cons (st_set 4 S.nd (de_call c_added hr (da_cons (de_var 5) (da_cons (de_call c_multiplied hr (da_cons (de_var 5) (da_cons (de_var 7) (da_cons (de_methF m_side hr (de_var 1)) da_nil)))) (da_cons (de_call c_multiplied hr (da_cons (de_var 5) (da_cons (de_var 8) (da_cons (de_methF m_top hr (de_var 1)) da_nil)))) da_nil))))) (ss_one (st_ret (de_call c_made hr (da_cons (de_methF m_curve hr (de_var 0)) (da_cons (de_var 3) (da_cons (de_var 4) (da_cons (de_call c_multiplied hr (da_cons (de_var 5) (da_cons (de_var 9) (da_cons (de_methF m_bottom hr (de_var 1)) da_nil)))) da_nil))))))))))), ?_⟩
  intro ds n Φ hh
  obtain ⟨⟨⟨p, hp⟩, f, t, s⟩, rfl, ⟨ht, hs⟩, h⟩ := hh
  try dsimp only at hl
  have hlim : lim = 1000000 := rfl
  simp only [slots0, List.map_cons, List.map_nil, List.length_cons, List.length_nil, Nat.reduceAdd, Nat.reduceSub, List.replicate, List.cons_append, List.nil_append]
  have h0 := h _ rfl
  dsimp only at h0 ht hs
  have hlig : lig = 200000 := rfl
  have hnfn : nfn = 5000 := rfl
  obtain ⟨t1, t2, t3⟩ := ht.b
  obtain ⟨s1, s2, s3⟩ := hs.b
  have lf := ht.cv.len
  refine i_seq (i_asg (i_call (i_cons (i_var rfl (i_nil (u_parts_of ?_))))))
  simp only [sSeq, sNext, sFrz, sDrop, sRet, sIf, gNm, gTp, gLs, setL, sAsg, sSet, sOwn, sPar, sPar3, sPar3O, dVar, dC, dF, dOp, dB, dAnd, dOr, dNot, dAndV, dOrV, dNotV, dIf, dIfF, dNil, dCons, dLst_e, dTup_e, wSub_i, wMod_i, wFdiv_i, wPow_i, wAdd_i, wAdd_l, wMul_i, wMul_l, fRep_e, wRepF_l, wLt_i, wLe_i, wGt_i, wGe_i, isNo, wIsN_n, wNotN_n, wIsB_b, wNotB_b, wEq_i, wNe_i, wNe_b, wNe_s, wEq_L, wNe_L, wEq_L0, wNe_L0, wNotIn, dNeg_e, nNeg_i, iRg1, iRg2, iRg3, iSeq, iSeqT, iEnm, sFor, dLc_e, lcS, dYes, wipeS, dCall, dMeth, dPrime, dPoly, dCurve, dParts, kLen_l, kLen_t, kLen_s, kInt_i, kMax_i, kMin3_i, kAbs_i, kRepr_b, fList, dBits, dIsT, fInt, fBool, fLst, fCrv, fFnc, wIx_l, wIx_t, wIx_s, fFrom, fTo, fStride, dTab3, dLend, dLendB, flatD, sPop, sApp, sSetI, sFldD, sNewF, sFrzF, slots0, List.map_cons, List.map_nil, List.replicate, List.cons_append, List.nil_append, List.append_nil, List.getElem?_cons_zero, List.getElem?_cons_succ, List.set_cons_zero, List.set_cons_succ, List.length_map, rng_len, rngD_len, enm_len, List.length_replicate, List.length_append, ← List.map_append, List.length_cons, List.length_nil, Nat.reduceAdd, Nat.reduceSub, Nat.reduceLeDiff, Bool.not_true, Bool.not_false, if_true, Bool.false_eq_true, if_false, true_and, and_true, Bool.not_eq_true']
  have fc := ht.cv.can
  refine um_side (u_multiplied ⟨by omega, by omega, Can.sm ht.cb⟩ (u_multiplied ⟨?_, by omega, Can.sm (can_mul _ _)⟩ ?_))
  · have := len_mul (p := p) t.2.1 s.2.1; omega
  have m1 := len_mul (p := p) t.2.1 s.2.1
  have m2 := len_mul (p := p) (mulP p t.2.1 s.2.1) f
  have m3 := len_mul (p := p) t.1 s.1
  have m4 := len_mul (p := p) t.1 s.2.1
  have m5 := len_mul (p := p) t.2.1 s.1
  have m6 := len_mul (p := p) t.2.2 s.2.2
  have m7 := len_add (p := p) (mulP p t.1 s.1) (mulP p (mulP p t.2.1 s.2.1) f)
  have m8 := len_add (p := p) (mulP p t.1 s.2.1) (mulP p t.2.1 s.1)
  refine um_top (u_multiplied ⟨by omega, by omega, Can.sm ht.ca⟩ (u_added ⟨by omega, by omega⟩ ?_))
  refine um_side (u_multiplied ⟨by omega, by omega, Can.sm ht.ca⟩ (um_top (u_multiplied ⟨by omega, by omega, Can.sm ht.cb⟩ (u_added ⟨by omega, by omega⟩ ?_))))
  refine um_curve (um_bottom (u_multiplied ⟨by omega, by omega, Can.sm ht.cc⟩ (u_made ⟨⟨can_add _ _, can_add _ _, can_mul _ _⟩, ⟨by dsimp only; omega, by dsimp only; omega, by dsimp only; omega⟩, sr_ne (plus_ne ht.nm hs.nm)⟩ ?_)))
  exact h0
theorem ok_slope_by (B : Bi K mg C F) (A : At K mg "slope_by" "slope_by" (top 49)) (c_parts_of : Fn P w K mg base C F 2 "parts_of" k_parts_of) (c_scaled : Fn P w K mg base C F 2 "scaled" k_scaled) (c_slope_of : Fn P w K mg base C F 2 "slope_of" k_slope_of) (c_lessened : Fn P w K mg base C F 3 "lessened" k_lessened) (c_multiplied : Fn P w K mg base C F 2 "multiplied" k_multiplied) (c_added : Fn P w K mg base C F 2 "added" k_added) (c_made : Fn P w K mg base C F 9 "made" k_made) (m_curve : Mt P w K mg base C F F 1 "curve" km_curve) : Fn P w K mg base C F 10 "slope_by" k_slope_by := by
  obtain ⟨f, fd, Fd, hm⟩ := A
  refine ⟨⟨f, fd, ["function"], ?_, hm, Fd.kp, Fd.bindsN fun _ _ _ _ _ _ us hl => match us, hl with | [_], _ => rfl⟩, mon_cF⟩
  have S : FnScope ["function", "tops", "sides", "below", "p", "f", "top", "side", "bottom", "twice", "low"] ["function"] (defScope (top 49)) := ⟨rfl, rfl, rfl, by decide +kernel, rfl, by decide +kernel, by decide +kernel⟩
  obtain ⟨pr, BPR, BPRt⟩ := B.PR
  refine fn_ok (k := 9) Fd S (len_cF fun _ => rfl) fun g cdv A outer s H E hr => ?_
  have hu := hu_of hr
  have hu1 := hu1_of hr
  refine ⟨_, _, (ss_cons (st_asg (de_call c_parts_of hr (da_cons (de_var 0) da_nil)) (tg_tup rfl (tgs_cons 4 (tgs_cons 5 (tgs_cons 6 (tgs_cons 7 (tgs_cons 8 tgs_nil S.nd) S.nd) S.nd) S.nd) S.nd))) (ss_cons (st_par 9 10 rfl S.nd (de_call c_scaled hr (da_cons (de_var 4) (da_cons (de_var 5) (da_cons de_int da_nil)))) (de_call c_slope_of hr (da_cons (de_var 4) (da_cons (de_var 8) da_nil)))) (ss_cons (st_set 1 S.nd (de_call c_lessened hr (da_cons (de_var 4) (da_cons (de_call c_multiplied hr (da_cons (de_var 4) (da_cons (de_call c_slope_of hr (da_cons (de_var 4) (da_cons (de_var 6) da_nil))) (da_cons (de_var 8) da_nil)))) (da_cons (de_call c_multiplied hr (da_cons (de_var 4) (da_cons (de_var 6) (da_cons (de_var 10) da_nil)))) da_nil))))) (ss_cons (st_set 2 S.nd (de_call c_lessened hr (da_cons (de_var 4) (da_cons (de_call c_multiplied hr (da_cons (de_var 4) (da_cons (de_call c_slope_of hr (da_cons (de_var 4) (da_cons (de_var 7) da_nil))) (da_cons (de_var 8) da_nil)))) (da_cons (de_call c_multiplied hr (da_cons (de_var 4) (da_cons (de_var 7) (da_cons (de_var 10) da_nil)))) da_nil))))) (ss_cons (st_set 2 S.nd (de_call c_added hr (da_cons (de_var 4) (da_cons (de_call c_multiplied hr (da_cons (de_var 4) (da_cons (de_var 2) (da_cons (de_var 9) da_nil)))) (da_cons (de_call c_multiplied hr (da_cons (de_var 4) (da_cons (de_call c_multiplied hr (da_cons (de_var 4) (da_cons (de_var 7) (da_cons (de_call c_slope_of hr (da_cons (de_var 4) (da_cons (de_var 5) da_nil))) da_nil)))) (da_cons (de_var 8) da_nil)))) da_nil))))) (ss_cons (st_set 3 S.nd (de_call c_multiplied hr (da_cons (de_var 4) (da_cons (de_call c_multiplied hr (da_cons (de_var 4) (da_cons (de_var 8) (da_cons (de_var 8) da_nil)))) (da_cons (de_var 9) da_nil))))) (ss_one (st_ret (de_call c_made hr (da_cons (de_methF m_curve hr (de_var 0)) (da_cons (de_call c_multiplied hr (da_cons (de_var 4) (da_cons (de_var 1) (da_cons (de_var 9) da_nil)))) (da_cons (de_var 2) (da_cons (de_var 3) da_nil))))))))))))), ?_⟩
  intro ds n Φ hh
  obtain ⟨⟨⟨p, hp⟩, f, t⟩, rfl, ht, h⟩ := hh
  try dsimp only at hl
  have hlim : lim = 1000000 := rfl
  simp only [slots0, List.map_cons, List.map_nil, List.length_cons, List.length_nil, Nat.reduceAdd, Nat.reduceSub, List.replicate, List.cons_append, List.nil_append]
  have h0 := h _ rfl
  dsimp only at h0 ht
  have hlig : lig = 200000 := rfl
  have hnfn : nfn = 5000 := rfl
  obtain ⟨t1, t2, t3⟩ := ht.b
  have lf := ht.cv.len
  have fc := ht.cv.can
  have lf2 := ht.cv.len
  clear lf
  have q1 : (sclP p f 2).length ≤ 8 := lc lf2 2
  have q2 : (fallP p t.2.2).length ≤ 5000 := lf t3
  have q3 : (fallP p t.1).length ≤ 5000 := lf t1
  have q4 : (fallP p t.2.1).length ≤ 5000 := lf t2
  have q5 : (fallP p f).length ≤ 8 := lf lf2
  have m1 : (mulP p (fallP p t.1) t.2.2).length ≤ 10000 := lm q3 t3
  have m2 : (mulP p t.1 (fallP p t.2.2)).length ≤ 10000 := lm t1 q2
  have m3 : (mulP p (fallP p t.2.1) t.2.2).length ≤ 10000 := lm q4 t3
  have m4 : (mulP p t.2.1 (fallP p t.2.2)).length ≤ 10000 := lm t2 q2
  have m5 : (subP p (mulP p (fallP p t.1) t.2.2) (mulP p t.1 (fallP p t.2.2))).length ≤ 20000 := ls m1 m2
  have m6 : (subP p (mulP p (fallP p t.2.1) t.2.2) (mulP p t.2.1 (fallP p t.2.2))).length ≤ 20000 := ls m3 m4
  have m7 : (mulP p (subP p (mulP p (fallP p t.2.1) t.2.2) (mulP p t.2.1 (fallP p t.2.2))) (sclP p f 2)).length ≤ 20008 := lm m6 q1
  have m8 : (mulP p t.2.1 (fallP p f)).length ≤ 5008 := lm t2 q5
  have m9 : (mulP p (mulP p t.2.1 (fallP p f)) t.2.2).length ≤ 10008 := lm m8 t3
  have m10 : (mulP p t.2.2 t.2.2).length ≤ 10000 := lm t3 t3
  (repeat refine Stp.h ?_)
  refine u_scaled ⟨by omega, by omega, by omega⟩ ?_
  (repeat refine Stp.h ?_)
  refine u_slope_of (by omega) ?_
  (repeat refine Stp.h ?_)
  refine u_slope_of (by omega) ?_
  (repeat refine Stp.h ?_)
  refine u_multiplied ⟨by omega, by omega, Can.sm (can_fall _)⟩ ?_
  (repeat refine Stp.h ?_)
  refine u_multiplied ⟨by omega, by omega, Can.sm ht.ca⟩ ?_
  (repeat refine Stp.h ?_)
  refine u_lessened ⟨by omega, by omega⟩ ?_
  (repeat refine Stp.h ?_)
  refine u_slope_of (by omega) ?_
  (repeat refine Stp.h ?_)
  refine u_multiplied ⟨by omega, by omega, Can.sm (can_fall _)⟩ ?_
  (repeat refine Stp.h ?_)
  refine u_multiplied ⟨by omega, by omega, Can.sm ht.cb⟩ ?_
  (repeat refine Stp.h ?_)
  refine u_lessened ⟨by omega, by omega⟩ ?_
  (repeat refine Stp.h ?_)
  refine u_multiplied ⟨by omega, by omega, Can.sm (can_sub _ _)⟩ ?_
  (repeat refine Stp.h ?_)
  refine u_slope_of (by omega) ?_
  (repeat refine Stp.h ?_)
  refine u_multiplied ⟨by omega, by omega, Can.sm ht.cb⟩ ?_
  (repeat refine Stp.h ?_)
  refine u_multiplied ⟨by omega, by omega, Can.sm (can_mul _ _)⟩ ?_
  (repeat refine Stp.h ?_)
  refine u_added ⟨by omega, by omega⟩ ?_
  (repeat refine Stp.h ?_)
  refine u_multiplied ⟨by omega, by omega, Can.sm ht.cc⟩ ?_
  (repeat refine Stp.h ?_)
  refine u_multiplied ⟨by omega, by omega, Can.sm (can_mul _ _)⟩ ?_
  have l1 := len_slA (p := p) f t.1 t.2.2
  have l2 := len_slB (p := p) f t.2.1 t.2.2
  have l3 := len_slC (p := p) f t.2.2
  (repeat refine Stp.h ?_)
  refine u_multiplied ⟨by omega, by omega, Can.sm (can_sub _ _)⟩ ?_
  (repeat refine Stp.h ?_)
  refine u_made (a := slA p f t.1 t.2.2) (b := slB p f t.2.1 t.2.2) (c := slC p f t.2.2) ⟨⟨can_mul _ _, can_add _ _, can_mul _ _⟩, ⟨by dsimp only; omega, by dsimp only; omega, by dsimp only; omega⟩, sr_ne (slC_ne ht.cv.s0 ht.nm)⟩ ?_
  exact h0
theorem ok_tops_over (B : Bi K mg C F) (A : At K mg "tops_over" "tops_over" (top 59)) (c_parts_of : Fn P w K mg base C F 2 "parts_of" k_parts_of) (c_power_of_polys : Fn P w K mg base C F 3 "power_of_polys" k_power_of_polys) (c_multiplied : Fn P w K mg base C F 2 "multiplied" k_multiplied) : Fn P w K mg base C F 4 "tops_over" k_tops_over := by
  obtain ⟨f, fd, Fd, hm⟩ := A
  refine ⟨⟨f, fd, ["function"], ?_, hm, Fd.kp, Fd.bindsN fun _ _ _ _ _ _ us hl => match us, hl with | [_], _ => rfl⟩, mon_cF⟩
  have S : FnScope ["function", "rest", "p", "f", "top", "side", "bottom"] ["function"] (defScope (top 59)) := ⟨rfl, rfl, rfl, by decide +kernel, rfl, by decide +kernel, by decide +kernel⟩
  obtain ⟨pr, BPR, BPRt⟩ := B.PR
  refine fn_ok (k := 3) Fd S (len_cF fun _ => rfl) fun g cdv A outer s H E hr => ?_
  have hu := hu_of hr
  have hu1 := hu1_of hr
  refine ⟨_, _, (ss_cons (st_asg (de_call c_parts_of hr (da_cons (de_var 0) da_nil)) (tg_tup rfl (tgs_cons 2 (tgs_cons 3 (tgs_cons 4 (tgs_cons 5 (tgs_cons 6 tgs_nil S.nd) S.nd) S.nd) S.nd) S.nd))) (ss_cons (st_set 1 S.nd (de_call c_power_of_polys hr (da_cons (de_var 2) (da_cons (de_var 6) (da_cons (de_op o_sub (de_var 2) de_int) da_nil))))) (ss_one (st_ret (de_tup (da_cons (de_call c_multiplied hr (da_cons (de_var 2) (da_cons (de_var 4) (da_cons (de_var 1) da_nil)))) (da_cons (de_call c_multiplied hr (da_cons (de_var 2) (da_cons (de_call c_multiplied hr (da_cons (de_var 2) (da_cons (de_var 5) (da_cons (de_var 1) da_nil)))) (da_cons (de_call c_power_of_polys hr (da_cons (de_var 2) (da_cons (de_var 3) (da_cons (de_op o_fdiv (de_op o_add (de_var 2) de_int) de_int) da_nil)))) da_nil)))) da_nil))))))), ?_⟩
  intro ds n Φ hh
  obtain ⟨⟨⟨p, hp⟩, f, t⟩, rfl, ht, h⟩ := hh
  try dsimp only at hl
  have hlim : lim = 1000000 := rfl
  simp only [slots0, List.map_cons, List.map_nil, List.length_cons, List.length_nil, Nat.reduceAdd, Nat.reduceSub, List.replicate, List.cons_append, List.nil_append]
  have h0 := h _ rfl
  dsimp only at h0 ht
  have hlig : lig = 200000 := rfl
  have hnfn : nfn = 5000 := rfl
  obtain ⟨t1, t2, t3⟩ := ht.b
  have lf := ht.cv.len
  refine i_seq (i_asg (i_call (i_cons (i_var rfl (i_nil (u_parts_of ?_))))))
  simp only [sSeq, sNext, sFrz, sDrop, sRet, sIf, gNm, gTp, gLs, setL, sAsg, sSet, sOwn, sPar, sPar3, sPar3O, dVar, dC, dF, dOp, dB, dAnd, dOr, dNot, dAndV, dOrV, dNotV, dIf, dIfF, dNil, dCons, dLst_e, dTup_e, wSub_i, wMod_i, wFdiv_i, wPow_i, wAdd_i, wAdd_l, wMul_i, wMul_l, fRep_e, wRepF_l, wLt_i, wLe_i, wGt_i, wGe_i, isNo, wIsN_n, wNotN_n, wIsB_b, wNotB_b, wEq_i, wNe_i, wNe_b, wNe_s, wEq_L, wNe_L, wEq_L0, wNe_L0, wNotIn, dNeg_e, nNeg_i, iRg1, iRg2, iRg3, iSeq, iSeqT, iEnm, sFor, dLc_e, lcS, dYes, wipeS, dCall, dMeth, dPrime, dPoly, dCurve, dParts, kLen_l, kLen_t, kLen_s, kInt_i, kMax_i, kMin3_i, kAbs_i, kRepr_b, fList, dBits, dIsT, fInt, fBool, fLst, fCrv, fFnc, wIx_l, wIx_t, wIx_s, fFrom, fTo, fStride, dTab3, dLend, dLendB, flatD, sPop, sApp, sSetI, sFldD, sNewF, sFrzF, slots0, List.map_cons, List.map_nil, List.replicate, List.cons_append, List.nil_append, List.append_nil, List.getElem?_cons_zero, List.getElem?_cons_succ, List.set_cons_zero, List.set_cons_succ, List.length_map, rng_len, rngD_len, enm_len, List.length_replicate, List.length_append, ← List.map_append, List.length_cons, List.length_nil, Nat.reduceAdd, Nat.reduceSub, Nat.reduceLeDiff, Bool.not_true, Bool.not_false, if_true, Bool.false_eq_true, if_false, true_and, and_true, Bool.not_eq_true']
  have pg := Pr.gt (p := p)
  have plt := Pr.lt (p := p)
  have fc := ht.cv.can
  have e1 : (p : Int) - 1 = ((p - 1 : Nat) : Int) := by omega
  have e2 : ((p : Int) + 1) / 2 = ((hf p : Nat) : Int) := by unfold hf; omega
  rw [e1, e2]
  have r1 : (p - 1 + 1) * t.2.2.length ≤ 11 * t.2.2.length := Nat.mul_le_mul_right _ (by omega)
  have r2 : (p - 1) * t.2.2.length ≤ 11 * t.2.2.length := Nat.mul_le_mul_right _ (by omega)
  have l1 := len_pow (p := p) t.2.2 (p - 1)
  have l2 := len_mul (p := p) t.2.1 (powP p t.2.2 (p - 1))
  have l3 := len_hf ht.cv
  have l4 := hf_le (p := p)
  have r3 : (hf p + 1) * f.length ≤ 7 * 8 := Nat.mul_le_mul (by omega) lf
  refine u_power_of_polys ⟨by omega, by omega⟩ (u_multiplied ⟨by omega, by omega, Can.sm ht.ca⟩ (u_multiplied ⟨by omega, by omega, Can.sm ht.cb⟩ ?_))
  refine ⟨⟨by omega, by omega⟩, u_power_of_polys ⟨by omega, by omega⟩ (u_multiplied ⟨by omega, by omega, Can.sm (can_mul _ _)⟩ ?_)⟩
  exact h0
theorem ok_parts_by (B : Bi K mg C F) (A : At K mg "parts_by" "parts_by" (top 60)) (c_parts_of : Fn P w K mg base C F 2 "parts_of" k_parts_of) (c_tops_over : Fn P w K mg base C F 4 "tops_over" k_tops_over) (c_multiplied : Fn P w K mg base C F 2 "multiplied" k_multiplied) (c_every : Fn P w K mg base C F 2 "every" k_every) (c_made : Fn P w K mg base C F 9 "made" k_made) (m_curve : Mt P w K mg base C F F 1 "curve" km_curve) : Fn P w K mg base C F 10 "parts_by" k_parts_by := by
  obtain ⟨f, fd, Fd, hm⟩ := A
  refine ⟨⟨f, fd, ["function"], ?_, hm, Fd.kp, Fd.bindsN fun _ _ _ _ _ _ us hl => match us, hl with | [_], _ => rfl⟩, mon_cF⟩
  have S : FnScope ["function", "below", "found", "first", "p", "f", "_", "bottom", "low", "high", "tops"] ["function"] (defScope (top 60)) := ⟨rfl, rfl, rfl, by decide +kernel, rfl, by decide +kernel, by decide +kernel⟩
  obtain ⟨pr, BPR, BPRt⟩ := B.PR
  refine fn_ok (k := 9) Fd S (len_cF fun _ => rfl) fun g cdv A outer s H E hr => ?_
  have hu := hu_of hr
  have hu1 := hu1_of hr
  refine ⟨_, _, (ss_cons (st_asg (de_call c_parts_of hr (da_cons (de_var 0) da_nil)) (tg_tup rfl (tgs_cons 4 (tgs_cons 5 (tgs_cons 6 (tgs_cons 6 (tgs_cons 7 tgs_nil S.nd) S.nd) S.nd) S.nd) S.nd))) (ss_cons (st_asg (de_call c_tops_over hr (da_cons (de_var 0) da_nil)) (tg_tup rfl (tgs_cons 8 (tgs_cons 9 tgs_nil S.nd) S.nd))) (ss_cons (st_set 1 S.nd (de_call c_multiplied hr (da_cons (de_var 4) (da_cons (de_var 7) (da_cons (de_var 5) da_nil))))) (ss_cons (st_own 2 S.nd (df_lst da_nil)) (ss_cons (st_for PassesOwn.never rfl (di_rng1 (de_var 4) rfl B.range) (tg_name 3 S.nd) (ss_cons (st_set 10 S.nd (de_call c_multiplied hr (da_cons (de_var 4) (da_cons (de_call c_every hr (da_cons (de_var 4) (da_cons (de_var 8) (da_cons (de_var 3) da_nil)))) (da_cons (de_var 5) da_nil))))) (ss_one (st_app 2 (de_call c_made hr (da_cons (de_methF m_curve hr (de_var 0)) (da_cons (de_var 10) (da_cons (de_call c_every hr (da_cons (de_var 4) (da_cons (de_var 9) (da_cons (de_var 3) da_nil)))) (da_cons (de_var 1) da_nil))))))))) (ss_frz 2 (ss_one (st_ret (de_var 2))))))))), ?_⟩
  intro ds n Φ hh
  obtain ⟨⟨⟨p, hp⟩, f, t⟩, rfl, ht, h⟩ := hh
  try dsimp only at hl
  have hlim : lim = 1000000 := rfl
  simp only [slots0, List.map_cons, List.map_nil, List.length_cons, List.length_nil, Nat.reduceAdd, Nat.reduceSub, List.replicate, List.cons_append, List.nil_append]
  have h0 := h _ rfl
  dsimp only at h0 ht
  have hlig : lig = 200000 := rfl
  have hnfn : nfn = 5000 := rfl
  obtain ⟨t1, t2, t3⟩ := ht.b
  have lf := ht.cv.len
  have pg := Pr.gt (p := p)
  have plt := Pr.lt (p := p)
  (repeat refine Stp.h ?_)
  refine u_tops_over ht ?_
  have fc := ht.cv.can
  have l1 := len_low (p := p) t.2.2 t.1
  have l2 := len_high ht.cv t.2.2 t.2.1
  have l3 := len_mul (p := p) t.2.2 f
  (repeat refine Stp.h ?_)
  refine u_multiplied ⟨by omega, by omega, Can.sm ht.cc⟩ ?_
  (repeat refine Stp.h ?_)
  refine j_mR ⟨by omega, by omega⟩ ?_
  (repeat refine Stp.h ?_)
  refine forW_rng (fun i ρ n' => n' = n ∧ ∃ s3 s10 : Sl, ρ = [.val (KH.Fd p f t), .val (L (mulP p t.2.2 f)), .own ((List.range i).map fun i => KH.Fd p f (partP p f t i)), s3, .val (I p), .val (L f), .val (L t.2.1), .val (L t.2.2), .val (L (lowP p t.2.2 t.1)), .val (L (highP p f t.2.2 t.2.1)), s10]) ⟨rfl, _, _, rfl⟩ ?_ ?_
  · rintro i ρ n' N hi ⟨rfl, s3, s10, rfl⟩ hN
    rw [Int.toNat_natCast] at hi
    rw [Int.zero_add]
    have e1 := len_evy (p := p) (lowP p t.2.2 t.1) i
    have e2 := len_evy (p := p) (highP p f t.2.2 t.2.1) i
    have e3 := len_mul (p := p) (evyP p (lowP p t.2.2 t.1) i) f
    (repeat refine Stp.h ?_)
    refine u_every ⟨by omega, hi⟩ ?_
    (repeat refine Stp.h ?_)
    refine u_multiplied ⟨by omega, by omega, Can.sm (can_evy _ _)⟩ ?_
    (repeat refine Stp.h ?_)
    refine u_every ⟨by omega, hi⟩ ?_
    (repeat refine Stp.h ?_)
    refine u_made (a := mulP p (evyP p (lowP p t.2.2 t.1) i) f) (b := evyP p (highP p f t.2.2 t.2.1) i) (c := mulP p t.2.2 f) ⟨⟨can_mul _ _, can_evy _ _, can_mul _ _⟩, ⟨by dsimp only; omega, by dsimp only; omega, by dsimp only; omega⟩, sr_ne (part_ne ht.cv.s0 ht.nm)⟩ ?_
    refine q_app (by simp; omega) ?_
    rintro ρ' rfl
    refine hN _ _ ⟨rfl, .val (I i), .val (L (mulP p (evyP p (lowP p t.2.2 t.1) i) f)), ?_⟩
    rw [List.range_succ, List.map_append]
    rfl
  · rintro ρ n' ⟨rfl, s3, s10, rfl⟩
    rw [Int.toNat_natCast]
    (repeat refine Stp.h ?_)
    exact h0
theorem ok_descent_by (B : Bi K mg C F) (A : At K mg "descent_by" "descent_by" (top 64)) (c_parts_by : Fn P w K mg base C F 10 "parts_by" k_parts_by) : Fn P w K mg base C F 11 "descent_by" k_descent_by := by
  obtain ⟨f, fd, Fd, hm⟩ := A
  refine ⟨⟨f, fd, ["function"], ?_, hm, Fd.kp, Fd.bindsN fun _ _ _ _ _ _ us hl => match us, hl with | [_], _ => rfl⟩, mon_cF⟩
  have S : FnScope ["function"] ["function"] (defScope (top 64)) := ⟨rfl, rfl, rfl, by decide +kernel, rfl, by decide +kernel, by decide +kernel⟩
  obtain ⟨pr, BPR, BPRt⟩ := B.PR
  refine fn_ok (k := 10) Fd S (len_cF fun _ => rfl) fun g cdv A outer s H E hr => ?_
  have hu := hu_of hr
  have hu1 := hu1_of hr
  refine ⟨_, _, (ss_one (st_ret (de_ix (de_call c_parts_by hr (da_cons (de_var 0) da_nil)) (de_neg de_int)))), ?_⟩
  intro ds n Φ hh
  obtain ⟨⟨⟨p, hp⟩, f, t⟩, rfl, ht, h⟩ := hh
  try dsimp only at hl
  have hlim : lim = 1000000 := rfl
  simp only [slots0, List.map_cons, List.map_nil, List.length_cons, List.length_nil, Nat.reduceAdd, Nat.reduceSub, List.replicate, List.cons_append, List.nil_append]
  simp only [sSeq, sNext, sFrz, sDrop, sRet, sIf, gNm, gTp, gLs, setL, sAsg, sSet, sOwn, sPar, sPar3, sPar3O, dVar, dC, dF, dOp, dB, dAnd, dOr, dNot, dAndV, dOrV, dNotV, dIf, dIfF, dNil, dCons, dLst_e, dTup_e, wSub_i, wMod_i, wFdiv_i, wPow_i, wAdd_i, wAdd_l, wMul_i, wMul_l, fRep_e, wRepF_l, wLt_i, wLe_i, wGt_i, wGe_i, isNo, wIsN_n, wNotN_n, wIsB_b, wNotB_b, wEq_i, wNe_i, wNe_b, wNe_s, wEq_L, wNe_L, wEq_L0, wNe_L0, wNotIn, dNeg_e, nNeg_i, iRg1, iRg2, iRg3, iSeq, iSeqT, iEnm, sFor, dLc_e, lcS, dYes, wipeS, dCall, dMeth, dPrime, dPoly, dCurve, dParts, kLen_l, kLen_t, kLen_s, kInt_i, kMax_i, kMin3_i, kAbs_i, kRepr_b, fList, dBits, dIsT, fInt, fBool, fLst, fCrv, fFnc, wIx_l, wIx_t, wIx_s, fFrom, fTo, fStride, dTab3, dLend, dLendB, flatD, sPop, sApp, sSetI, sFldD, sNewF, sFrzF, slots0, List.map_cons, List.map_nil, List.replicate, List.cons_append, List.nil_append, List.append_nil, List.getElem?_cons_zero, List.getElem?_cons_succ, List.set_cons_zero, List.set_cons_succ, List.length_map, rng_len, rngD_len, enm_len, List.length_replicate, List.length_append, ← List.map_append, List.length_cons, List.length_nil, Nat.reduceAdd, Nat.reduceSub, Nat.reduceLeDiff, Bool.not_true, Bool.not_false, if_true, Bool.false_eq_true, if_false, true_and, and_true, Bool.not_eq_true']
  have h0 := h _ rfl
  dsimp only at h0 ht
  have pg := Pr.gt (p := p)
  refine u_parts_by ht ⟨_, ?_, h0⟩
  refine atI_map (f := fun i => KH.Fd p f (partP p f t i)) ?_
  have e1 : L2.ixN p (-1) = some (p - 1) := by
    unfold L2.ixN
    rw [if_neg (by omega), if_pos (by omega)]
    congr 1; omega
  unfold L2.atI
  rw [List.length_range, e1]
  exact List.getElem?_range (by omega)
theorem ok_slope_source (B : Bi K mg C F) (A : At K mg "slope_source" "slope_source" (top 67)) (c_is_nought : Fn P w K mg base C F 2 "is_nought" k_is_nought) (c_descent_by : Fn P w K mg base C F 11 "descent_by" k_descent_by) (c_parts_of : Fn P w K mg base C F 2 "parts_of" k_parts_of) (c_tops_over : Fn P w K mg base C F 4 "tops_over" k_tops_over) (c_raised_source : Fn P w K mg base C F 2 "raised_source" k_raised_source) (c_power_of_polys : Fn P w K mg base C F 3 "power_of_polys" k_power_of_polys) (c_made : Fn P w K mg base C F 9 "made" k_made) (m_curve : Mt P w K mg base C F F 1 "curve" km_curve) (c_multiplied : Fn P w K mg base C F 2 "multiplied" k_multiplied) (c_stretched : Fn P w K mg base C F 1 "stretched" k_stretched) : Fn P w K mg base C F 12 "slope_source" k_slope_source := by
  obtain ⟨f, fd, Fd, hm⟩ := A
  refine ⟨⟨f, fd, ["function"], ?_, hm, Fd.kp, Fd.bindsN fun _ _ _ _ _ _ us hl => match us, hl with | [_], _ => rfl⟩, mon_cF⟩
  have S : FnScope ["function", "rest", "p", "f", "_", "bottom", "low", "high", "poly"] ["function"] (defScope (top 67)) := ⟨rfl, rfl, rfl, by decide +kernel, rfl, by decide +kernel, by decide +kernel⟩
  obtain ⟨pr, BPR, BPRt⟩ := B.PR
  refine fn_ok (k := 11) Fd S (len_cF fun _ => rfl) fun g cdv A outer s H E hr => ?_
  have hu := hu_of hr
  have hu1 := hu1_of hr
  refine ⟨_, _, (ss_cons (st_if (db_not (db_val (de_call c_is_nought hr (da_cons (de_call c_descent_by hr (da_cons (de_var 0) da_nil)) da_nil)))) (ss_one (st_ret de_non)) ss_nil) (ss_cons (st_asg (de_call c_parts_of hr (da_cons (de_var 0) da_nil)) (tg_tup rfl (tgs_cons 2 (tgs_cons 3 (tgs_cons 4 (tgs_cons 4 (tgs_cons 5 tgs_nil S.nd) S.nd) S.nd) S.nd) S.nd))) (ss_cons (st_asg (DEf.de (df_lc [("poly", 8)] rfl S.nd (di_tup (de_call c_tops_over hr (da_cons (de_var 0) da_nil))) (blkOk (N := ["function", "rest", "p", "f", "_", "bottom", "low", "high", "poly"]) (sc := (defScope (top 67))) (by decide +kernel)) (fun _ _ _ _ _ => tg_name 8 S.nd) tgin_name (fun _ _ _ _ _ => dts_nil) (fun _ _ _ _ _ => (de_call c_raised_source hr (da_cons (de_var 2) (da_cons (de_var 8) da_nil)))))) (tg_lst rfl (tgs_cons 6 (tgs_cons 7 tgs_nil S.nd) S.nd))) (ss_cons (st_set 1 S.nd (de_call c_power_of_polys hr (da_cons (de_var 2) (da_cons (de_var 3) (da_cons (de_op o_fdiv (de_op o_add (de_var 2) de_int) de_int) da_nil))))) (ss_one (st_ret (de_call c_made hr (da_cons (de_methF m_curve hr (de_var 0)) (da_cons (de_call c_multiplied hr (da_cons (de_var 2) (da_cons (de_var 6) (da_cons (de_var 1) da_nil)))) (da_cons (de_var 7) (da_cons (de_call c_multiplied hr (da_cons (de_var 2) (da_cons (de_call c_stretched hr (da_cons (de_var 2) (da_cons (de_var 5) da_nil))) (da_cons (de_var 1) da_nil)))) da_nil))))))))))), ?_⟩
  intro ds n Φ hh
  obtain ⟨⟨⟨p, hp⟩, f, t⟩, rfl, ht, h⟩ := hh
  try dsimp only at hl
  have hlim : lim = 1000000 := rfl
  simp only [slots0, List.map_cons, List.map_nil, List.length_cons, List.length_nil, Nat.reduceAdd, Nat.reduceSub, List.replicate, List.cons_append, List.nil_append]
  have h0 := fun d => h d
  dsimp only at h0 ht
  have hlig : lig = 200000 := rfl
  have hnfn : nfn = 5000 := rfl
  obtain ⟨t1, t2, t3⟩ := ht.b
  have lf := ht.cv.len
  have fc := ht.cv.can
  have pg := Pr.gt (p := p)
  have plt := Pr.lt (p := p)
  (repeat refine Stp.h ?_)
  refine u_descent_by ht ?_
  (repeat refine Stp.h ?_)
  refine u_is_nought ?_
  (repeat refine Stp.h ?_)
  by_cases hd : due p f t
  · have ed : (decide ((partP p f t (p - 1)).1 = []) && decide ((partP p f t (p - 1)).2.1 = [])) = true := by
      obtain ⟨e1, e2⟩ : nou (partP p f t (p - 1)) := hd
      rw [e1, e2]; rfl
    rw [ed]
    have hd2 := (nou_part ht.cv.s0 ht.nm (p - 1)).mp hd
    have ea : Ei (p - 1) (sr p (lowP p t.2.2 t.1)) = 0 := by rw [sr_low]; exact hd2.1
    have eb : Ei (p - 1) (sr p (highP p f t.2.2 t.2.1)) = 0 := by rw [sr_high]; exact hd2.2
    have l1 := len_low (p := p) t.2.2 t.1
    have l2 := len_high ht.cv t.2.2 t.2.1
    have l3 := len_rsd (p := p) (lowP p t.2.2 t.1)
    have l4 := len_rsd (p := p) (highP p f t.2.2 t.2.1)
    have l5 := len_hf ht.cv
    have l6 := len_str' (p := p) t.2.2
    have l7 := len_mul (p := p) (rsdP p (lowP p t.2.2 t.1)) (powP p f (hf p))
    have l8 := len_mul (p := p) (strP p t.2.2) (powP p f (hf p))
    (repeat refine Stp.h ?_)
    refine u_tops_over ht ?_
    (repeat refine Stp.h ?_)
    refine q_lc (by simp) ?_
    refine lcW_map (fun x : List Int => L x) (fun x => L (rsdP p x)) [lowP p t.2.2 t.1, highP p f t.2.2 t.2.1] ?_ ?_
    · intro x hx m Ψ hΨ
      have : x.length ≤ lim ∧ Can p x ∧ Ei (p - 1) (sr p x) = 0 := by
        rcases List.mem_cons.mp hx with e | hx
        · rw [e]; exact ⟨by omega, can_mul _ _, ea⟩
        · rw [List.mem_singleton.mp hx]; exact ⟨by omega, can_mul _ _, eb⟩
      (repeat refine Stp.h ?_)
      refine u_raised_source this ?_
      exact hΨ
    · have e2 : ((p : Int) + 1) / 2 = ((hf p : Nat) : Int) := by unfold hf; omega
      have l4' := hf_le (p := p)
      have r3 : (hf p + 1) * f.length ≤ 7 * 8 := Nat.mul_le_mul (by omega) lf
      have sl : p * t.2.2.length ≤ 11 * 5000 := Nat.mul_le_mul (by omega) t3
      rw [List.map_cons, List.map_cons, List.map_nil]
      (repeat refine Stp.h ?_)
      refine j_fdivi ⟨by omega, by omega⟩ ?_
      rw [e2]
      (repeat refine Stp.h ?_)
      refine u_power_of_polys ⟨by omega, by omega⟩ ?_
      (repeat refine Stp.h ?_)
      refine u_multiplied ⟨by omega, by omega, Can.sm (can_rsd _)⟩ ?_
      (repeat refine Stp.h ?_)
      refine u_stretched ⟨by omega, ht.cc⟩ ?_
      (repeat refine Stp.h ?_)
      refine u_multiplied ⟨by omega, by omega, Can.sm (can_str _)⟩ ?_
      (repeat refine Stp.h ?_)
      refine u_made (a := mulP p (rsdP p (lowP p t.2.2 t.1)) (powP p f (hf p))) (b := rsdP p (highP p f t.2.2 t.2.1)) (c := mulP p (strP p t.2.2) (powP p f (hf p))) ⟨⟨can_mul _ _, can_rsd _, can_mul _ _⟩, ⟨by dsimp only; omega, by dsimp only; omega, by dsimp only; omega⟩, sr_ne (src_ne ht.cv.s0 ht.nm)⟩ ?_
      exact h0 _ ⟨fun _ => rfl, fun z => absurd hd z⟩
  · have ed : (decide ((partP p f t (p - 1)).1 = []) && decide ((partP p f t (p - 1)).2.1 = [])) = false := by
      cases e : (decide ((partP p f t (p - 1)).1 = []) && decide ((partP p f t (p - 1)).2.1 = [])) with
      | false => rfl
      | true =>
        rw [Bool.and_eq_true, decide_eq_true_eq, decide_eq_true_eq] at e
        exact absurd e hd
    rw [ed]
    (repeat refine Stp.h ?_)
    exact h0 _ ⟨fun z => absurd z hd, fun _ => rfl⟩
theorem ok_check_function (B : Bi K mg C F) (A : At K mg "check_function" "check_function" (top 50)) : Fn P w K mg base C F 1 "check_function" k_check_function := by
  obtain ⟨f, fd, Fd, hm⟩ := A
  refine ⟨⟨f, fd, ["function"], ?_, hm, Fd.kp, Fd.bindsN fun _ _ _ _ _ _ us hl => match us, hl with | [_], _ => rfl⟩, mon_cF⟩
  have S : FnScope ["function"] ["function"] (defScope (top 50)) := ⟨rfl, rfl, rfl, by decide +kernel, rfl, by decide +kernel, by decide +kernel⟩
  obtain ⟨pr, BPR, BPRt⟩ := B.PR
  refine fn_ok (k := 0) Fd S (len_cF fun _ => rfl) fun g cdv A outer s H E hr => ?_
  have hu := hu_of hr
  have hu1 := hu1_of hr
  refine ⟨_, _, (ss_one (st_if (db_not (db_val (de_isF B.F (de_var 0) B.isinstance B.Function))) ss_never ss_nil)), ?_⟩
  intro ds n Φ hh
  obtain ⟨⟨q, f, a, b, c⟩, rfl, -, h⟩ := hh
  try dsimp only at hl
  have hlim : lim = 1000000 := rfl
  simp only [slots0, List.map_cons, List.map_nil, List.length_cons, List.length_nil, Nat.reduceAdd, Nat.reduceSub, List.replicate, List.cons_append, List.nil_append]
  simp only [sSeq, sNext, sFrz, sDrop, sRet, sIf, gNm, gTp, gLs, setL, sAsg, sSet, sOwn, sPar, sPar3, sPar3O, dVar, dC, dF, dOp, dB, dAnd, dOr, dNot, dAndV, dOrV, dNotV, dIf, dIfF, dNil, dCons, dLst_e, dTup_e, wSub_i, wMod_i, wFdiv_i, wPow_i, wAdd_i, wAdd_l, wMul_i, wMul_l, fRep_e, wRepF_l, wLt_i, wLe_i, wGt_i, wGe_i, isNo, wIsN_n, wNotN_n, wIsB_b, wNotB_b, wEq_i, wNe_i, wNe_b, wNe_s, wEq_L, wNe_L, wEq_L0, wNe_L0, wNotIn, dNeg_e, nNeg_i, iRg1, iRg2, iRg3, iSeq, iSeqT, iEnm, sFor, dLc_e, lcS, dYes, wipeS, dCall, dMeth, dPrime, dPoly, dCurve, dParts, kLen_l, kLen_t, kLen_s, kInt_i, kMax_i, kMin3_i, kAbs_i, kRepr_b, fList, dBits, dIsT, fInt, fBool, fLst, fCrv, fFnc, wIx_l, wIx_t, wIx_s, fFrom, fTo, fStride, dTab3, dLend, dLendB, flatD, sPop, sApp, sSetI, sFldD, sNewF, sFrzF, slots0, List.map_cons, List.map_nil, List.replicate, List.cons_append, List.nil_append, List.append_nil, List.getElem?_cons_zero, List.getElem?_cons_succ, List.set_cons_zero, List.set_cons_succ, List.length_map, rng_len, rngD_len, enm_len, List.length_replicate, List.length_append, ← List.map_append, List.length_cons, List.length_nil, Nat.reduceAdd, Nat.reduceSub, Nat.reduceLeDiff, Bool.not_true, Bool.not_false, if_true, Bool.false_eq_true, if_false, true_and, and_true, Bool.not_eq_true']
  exact ⟨true, rfl, by rw [if_neg (by decide)]; exact h _ rfl⟩
end KH
end
section
set_option Elab.async false
set_option linter.all false
set_option maxRecDepth 100000
set_option maxHeartbeats 2000000
namespace KH
open PySem PySem.Spec PyProof.Rows L2 DL
open MK hiding D X
variable {P : Program} {w : World} {K : PySem.W.Frag} {mg : Str → Option Value} {base : Heap} {C F : Addr}
theorem ok_back_of (B : Bi K mg C F) (A : At K mg "back_of" "back_of" (top 47)) : Fn P w K mg base C F 1 "back_of" k_back_of := by
  obtain ⟨f, fd, Fd, hm⟩ := A
  refine ⟨⟨f, fd, ["function"], ?_, hm, Fd.kp, Fd.bindsN fun _ _ _ _ _ _ us hl => match us, hl with | [_], _ => rfl⟩, fun _ _ _ _ _ h => h⟩
  have S : FnScope ["function", "p", "_", "top", "side", "bottom", "tops", "sides"] ["function"] (defScope (top 47)) := ⟨rfl, rfl, rfl, by decide +kernel, rfl, by decide +kernel, by decide +kernel⟩
  obtain ⟨pr, BPR, BPRt⟩ := B.PR
  refine fn_ok (k := 0) Fd S (fun _ _ _ h => h.elim) fun g cdv A outer s H E hr => ?_
  have hu := hu_of hr
  have hu1 := hu1_of hr
  refine ⟨_, _, ss_never, ?_⟩
  exact fun _ _ _ h => h.elim
theorem ok_raised_to (B : Bi K mg C F) (A : At K mg "raised_to" "raised_to" (top 48)) (c_made : Fn P w K mg base C F 9 "made" k_made) (m_curve : Mt P w K mg base C F F 1 "curve" km_curve) (c_times : Fn P w K mg base C F 10 "times" k_times) : Fn P w K mg base C F 11 "raised_to" k_raised_to := by
  obtain ⟨f, fd, Fd, hm⟩ := A
  refine ⟨⟨f, fd, ["function", "count"], ?_, hm, Fd.kp, Fd.bindsN fun _ _ _ _ _ _ us hl => match us, hl with | [_, _], _ => rfl⟩, mon_cF⟩
  have S : FnScope ["function", "count", "found", "base", "left"] ["function", "count"] (defScope (top 48)) := ⟨rfl, rfl, rfl, by decide +kernel, rfl, by decide +kernel, by decide +kernel⟩
  obtain ⟨pr, BPR, BPRt⟩ := B.PR
  refine fn_ok (k := 10) Fd S (len_cF fun _ => rfl) fun g cdv A outer s H E hr => ?_
  have hu := hu_of hr
  have hu1 := hu1_of hr
  refine ⟨_, _, (ss_cons (st_par3 2 3 4 rfl S.nd (de_call c_made hr (da_cons (de_methF m_curve hr (de_var 0)) (da_cons (DEf.de (df_lst (da_cons de_int da_nil))) (da_cons (DEf.de (df_lst da_nil)) (da_cons (DEf.de (df_lst (da_cons de_int da_nil))) da_nil))))) (de_var 0) (de_var 1)) (ss_cons (st_while PassesOwn.never (db_cmp o_gt (de_var 4) de_int) (ss_cons (st_if (db_cmp (o_eq hu) (de_op o_mod (de_var 4) de_int) de_int) (ss_one (st_set 2 S.nd (de_call c_times hr (da_cons (de_var 2) (da_cons (de_var 3) da_nil))))) ss_nil) (ss_one (st_par 3 4 rfl S.nd (de_call c_times hr (da_cons (de_var 3) (da_cons (de_var 3) da_nil))) (de_op o_fdiv (de_var 4) de_int))))) (ss_one (st_ret (de_var 2))))), ?_⟩
  intro ds n Φ hh
  obtain ⟨⟨⟨⟨p, hp⟩, f, t⟩, c⟩, rfl, ⟨ht, hc⟩, h⟩ := hh
  try dsimp only at hl
  have hlim : lim = 1000000 := rfl
  simp only [slots0, List.map_cons, List.map_nil, List.length_cons, List.length_nil, Nat.reduceAdd, Nat.reduceSub, List.replicate, List.cons_append, List.nil_append]
  have h0 := h _ rfl
  dsimp only at h0 ht hc
  have hlig : lig = 200000 := rfl
  have hnfn : nfn = 5000 := rfl
  (repeat refine Stp.h ?_)
  refine u_made (p := p) (f := f) (a := [1]) (b := []) (c := [1]) ⟨⟨can_one, can_nil, can_one⟩, ⟨by show 1 ≤ 200000; omega, by show 0 ≤ 200000; omega, by show 1 ≤ 200000; omega⟩, by simp⟩ ?_
  (repeat refine Stp.h ?_)
  have f1 : Fo p f (powT p f t 0) 1 := by rw [powT_0]; exact fo_least ht.cv (can_one.ne (by simp)) ⟨Nat.le_refl 1, Nat.zero_le 1, Nat.le_refl 1⟩
  refine ⟨fun m ρ n' => n' = n ∧ ∃ e b : Nat, ρ = [.val (KH.Fd p f t), .val (I c), .val (KH.Fd p f (powT p f t e)), .val (KH.Fd p f (powT p f t b)), .val (I m)] ∧ e + b * m = c ∧ 1 ≤ b ∧ Fo p f (powT p f t e) (1 + e * 208) ∧ Fo p f (powT p f t b) (b * 208 - 8), ⟨c, rfl, 0, 1, ?_, by omega, by omega, f1, by rw [powT_1 ht.nm]; exact ht⟩, ?_⟩
  · rw [powT_0, powT_1 ht.nm]
  rintro m ρ n' ⟨rfl, e, b, rfl, hm, hb, fe, fb⟩
  (repeat refine Stp.h ?_)
  by_cases h1 : 0 < m
  · rw [if_pos (decide_eq_true (by omega))]
    have hbm : b ≤ b * m := Nat.le_mul_of_pos_right _ h1
    have gb : Fo p f (powT p f t b) nfn := ⟨fb.cv, fb.nm, ⟨by have := fb.b.1; omega, by have := fb.b.2.1; omega, by have := fb.b.2.2; omega⟩⟩
    have ge : Fo p f (powT p f t e) nfn := ⟨fe.cv, fe.nm, ⟨by have := fe.b.1; omega, by have := fe.b.2.1; omega, by have := fe.b.2.2; omega⟩⟩
    have fb2 : Fo p f (powT p f t (b + b)) ((b + b) * 208 - 8) := by
      have := fo_times fb fb
      rw [pow_step fb.nm rfl ht.nm fb.nm rfl] at this
      have e1 : b * 208 - 8 + (b * 208 - 8) + 8 = (b + b) * 208 - 8 := by omega
      rwa [e1] at this
    have md : (m : Int) % 2 = ((m % 2 : Nat) : Int) := by omega
    have dv : (m : Int) / 2 = ((m / 2 : Nat) : Int) := by omega
    (repeat refine Stp.h ?_)
    refine j_modi (by decide) ?_
    (repeat refine Stp.h ?_)
    refine q_b (w := decide (m % 2 = 1)) (by simp only [decide_eq_decide]; omega) ?_
    by_cases h2 : m % 2 = 1
    · rw [decide_eq_true h2]
      have fe2 : Fo p f (powT p f t (e + b)) (1 + (e + b) * 208) := by
        have := fo_times fe fb
        rw [pow_step fe.nm rfl ht.nm fb.nm rfl] at this
        have e1 : 1 + e * 208 + (b * 208 - 8) + 8 = 1 + (e + b) * 208 := by omega
        rwa [e1] at this
      (repeat refine Stp.h ?_)
      refine u_times ⟨ge, gb⟩ ?_
      rw [pow_step fe.nm rfl ht.nm fb.nm rfl]
      (repeat refine Stp.h ?_)
      refine u_times ⟨gb, gb⟩ ?_
      rw [pow_step fb.nm rfl ht.nm fb.nm rfl]
      (repeat refine Stp.h ?_)
      refine j_fdivi ⟨by decide, by decide⟩ ?_
      (repeat refine Stp.h ?_)
      rw [dv]
      refine ⟨m / 2, by omega, rfl, e + b, b + b, rfl, ?_, by omega, fe2, fb2⟩
      have e3 : m = 2 * (m / 2) + 1 := by omega
      generalize m / 2 = q at e3 ⊢
      subst e3
      rw [← hm, Nat.mul_add, Nat.add_mul]
      have : b * (2 * q) = b * q + b * q := by rw [Nat.mul_left_comm]; omega
      omega
    · rw [decide_eq_false h2]
      (repeat refine Stp.h ?_)
      refine u_times ⟨gb, gb⟩ ?_
      rw [pow_step fb.nm rfl ht.nm fb.nm rfl]
      (repeat refine Stp.h ?_)
      refine j_fdivi ⟨by decide, by decide⟩ ?_
      (repeat refine Stp.h ?_)
      rw [dv]
      refine ⟨m / 2, by omega, rfl, e, b + b, rfl, ?_, by omega, fe, fb2⟩
      have e3 : m = 2 * (m / 2) := by omega
      generalize m / 2 = q at e3 ⊢
      subst e3
      rw [← hm, Nat.add_mul]
      have : b * (2 * q) = b * q + b * q := by rw [Nat.mul_left_comm]; omega
      omega
  · rw [if_neg (by rw [decide_eq_false (by omega)]; decide)]
    obtain rfl : m = 0 := by omega
    have : e = c := by omega
    subst this
    (repeat refine Stp.h ?_)
    exact h0
theorem ok_check_both (B : Bi K mg C F) (A : At K mg "check_both" "check_both" (top 51)) (c_check_function : Fn P w K mg base C F 1 "check_function" k_check_function) (q_C : Qm P w K mg base C F C 1 kEqC) (m_curve : Mt P w K mg base C F F 1 "curve" km_curve) : Fn P w K mg base C F 2 "check_both" k_check_both := by
  obtain ⟨f, fd, Fd, hm⟩ := A
  refine ⟨⟨f, fd, ["one", "other"], ?_, hm, Fd.kp, Fd.bindsN fun _ _ _ _ _ _ us hl => match us, hl with | [_, _], _ => rfl⟩, mon_cF⟩
  have S : FnScope ["one", "other"] ["one", "other"] (defScope (top 51)) := ⟨rfl, rfl, rfl, by decide +kernel, rfl, by decide +kernel, by decide +kernel⟩
  obtain ⟨pr, BPR, BPRt⟩ := B.PR
  refine fn_ok (k := 1) Fd S (len_cF fun _ => rfl) fun g cdv A outer s H E hr => ?_
  have hu := hu_of hr
  have hu1 := hu1_of hr
  refine ⟨_, _, (ss_cons (st_expr (de_call c_check_function hr (da_cons (de_var 0) da_nil))) (ss_cons (st_expr (de_call c_check_function hr (da_cons (de_var 1) da_nil))) (ss_one (st_if (db_not (db_cmp (o_eqC q_C hr) (de_methF m_curve hr (de_var 0)) (de_methF m_curve hr (de_var 1)))) ss_never ss_nil)))), ?_⟩
  intro ds n Φ hh
  obtain ⟨⟨q, f, ⟨a, b, c⟩, ⟨x, y, z⟩⟩, rfl, -, h⟩ := hh
  try dsimp only at hl
  have hlim : lim = 1000000 := rfl
  simp only [slots0, List.map_cons, List.map_nil, List.length_cons, List.length_nil, Nat.reduceAdd, Nat.reduceSub, List.replicate, List.cons_append, List.nil_append]
  have h0 := h _ rfl
  (repeat refine Stp.h ?_)
  refine ⟨⟨q, f, rfl, rfl⟩, ?_⟩
  (repeat refine Stp.h ?_)
  exact h0
theorem ok_sum_of (B : Bi K mg C F) (A : At K mg "sum_of" "sum_of" (top 52)) (c_check_both : Fn P w K mg base C F 2 "check_both" k_check_both) (c_plus : Fn P w K mg base C F 10 "plus" k_plus) : Fn P w K mg base C F 11 "sum_of" k_sum_of := by
  obtain ⟨f, fd, Fd, hm⟩ := A
  refine ⟨⟨f, fd, ["one", "other"], ?_, hm, Fd.kp, Fd.bindsN fun _ _ _ _ _ _ us hl => match us, hl with | [_, _], _ => rfl⟩, mon_cF⟩
  have S : FnScope ["one", "other"] ["one", "other"] (defScope (top 52)) := ⟨rfl, rfl, rfl, by decide +kernel, rfl, by decide +kernel, by decide +kernel⟩
  obtain ⟨pr, BPR, BPRt⟩ := B.PR
  refine fn_ok (k := 10) Fd S (len_cF fun _ => rfl) fun g cdv A outer s H E hr => ?_
  have hu := hu_of hr
  have hu1 := hu1_of hr
  refine ⟨_, _, (ss_cons (st_expr (de_call c_check_both hr (da_cons (de_var 0) (da_cons (de_var 1) da_nil)))) (ss_one (st_ret (de_call c_plus hr (da_cons (de_var 0) (da_cons (de_var 1) da_nil)))))), ?_⟩
  intro ds n Φ hh
  obtain ⟨⟨⟨p, hp⟩, f, t, s⟩, rfl, ⟨ht, hs⟩, h⟩ := hh
  try dsimp only at hl
  have hlim : lim = 1000000 := rfl
  simp only [slots0, List.map_cons, List.map_nil, List.length_cons, List.length_nil, Nat.reduceAdd, Nat.reduceSub, List.replicate, List.cons_append, List.nil_append]
  have h0 := h _ rfl
  dsimp only at h0 ht hs
  (repeat refine Stp.h ?_)
  refine u_check_both ?_
  (repeat refine Stp.h ?_)
  refine u_plus ⟨ht, hs⟩ ?_
  (repeat refine Stp.h ?_)
  exact h0
theorem ok_less_of (B : Bi K mg C F) (A : At K mg "less_of" "less_of" (top 53)) (c_check_both : Fn P w K mg base C F 2 "check_both" k_check_both) (c_minus : Fn P w K mg base C F 11 "minus" k_minus) : Fn P w K mg base C F 12 "less_of" k_less_of := by
  obtain ⟨f, fd, Fd, hm⟩ := A
  refine ⟨⟨f, fd, ["one", "other"], ?_, hm, Fd.kp, Fd.bindsN fun _ _ _ _ _ _ us hl => match us, hl with | [_, _], _ => rfl⟩, mon_cF⟩
  have S : FnScope ["one", "other"] ["one", "other"] (defScope (top 53)) := ⟨rfl, rfl, rfl, by decide +kernel, rfl, by decide +kernel, by decide +kernel⟩
  obtain ⟨pr, BPR, BPRt⟩ := B.PR
  refine fn_ok (k := 11) Fd S (len_cF fun _ => rfl) fun g cdv A outer s H E hr => ?_
  have hu := hu_of hr
  have hu1 := hu1_of hr
  refine ⟨_, _, (ss_cons (st_expr (de_call c_check_both hr (da_cons (de_var 0) (da_cons (de_var 1) da_nil)))) (ss_one (st_ret (de_call c_minus hr (da_cons (de_var 0) (da_cons (de_var 1) da_nil)))))), ?_⟩
  intro ds n Φ hh
  obtain ⟨⟨⟨p, hp⟩, f, t, s⟩, rfl, ⟨ht, hs⟩, h⟩ := hh
  try dsimp only at hl
  have hlim : lim = 1000000 := rfl
  simp only [slots0, List.map_cons, List.map_nil, List.length_cons, List.length_nil, Nat.reduceAdd, Nat.reduceSub, List.replicate, List.cons_append, List.nil_append]
  have h0 := h _ rfl
  dsimp only at h0 ht hs
  (repeat refine Stp.h ?_)
  refine u_check_both ?_
  (repeat refine Stp.h ?_)
  refine u_minus ⟨ht, hs⟩ ?_
  (repeat refine Stp.h ?_)
  exact h0
theorem ok_power_of_functions (B : Bi K mg C F) (A : At K mg "power_of_functions" "power_of" (top 54)) (c_check_function : Fn P w K mg base C F 1 "check_function" k_check_function) (c_check_number : Fn P w K mg base C F 3 "check_number" k_check_number) (c_is_nought : Fn P w K mg base C F 2 "is_nought" k_is_nought) (c_raised_to : Fn P w K mg base C F 11 "raised_to" k_raised_to) (c_back_of : Fn P w K mg base C F 1 "back_of" k_back_of) : Fn P w K mg base C F 12 "power_of_functions" k_power_of_functions := by
  obtain ⟨f, fd, Fd, hm⟩ := A
  refine ⟨⟨f, fd, ["function", "exponent"], ?_, hm, Fd.kp, Fd.bindsN fun _ _ _ _ _ _ us hl => match us, hl with | [_, _], _ => rfl⟩, mon_cF⟩
  have S : FnScope ["function", "exponent"] ["function", "exponent"] (defScope (top 54)) := ⟨rfl, rfl, rfl, by decide +kernel, rfl, by decide +kernel, by decide +kernel⟩
  obtain ⟨pr, BPR, BPRt⟩ := B.PR
  refine fn_ok (k := 11) Fd S (len_cF fun _ => rfl) fun g cdv A outer s H E hr => ?_
  have hu := hu_of hr
  have hu1 := hu1_of hr
  refine ⟨_, _, (ss_cons (st_expr (de_call c_check_function hr (da_cons (de_var 0) da_nil))) (ss_cons (st_expr (de_call c_check_number hr (da_cons (de_var 1) (da_cons (de_neg (de_gint rfl B.MOST_EXPONENT)) (da_cons (de_gint rfl B.MOST_EXPONENT) da_nil))))) (ss_cons (st_if (DW.db (dw_and (db_cmp o_lt (de_var 1) de_int) (dw_and1 (db_val (de_call c_is_nought hr (da_cons (de_var 0) da_nil)))))) ss_never ss_nil) (ss_one (st_ret (de_call c_raised_to hr (da_cons (de_if (db_cmp o_ge (de_var 1) de_int) (de_var 0) (de_call c_back_of hr (da_cons (de_var 0) da_nil))) (da_cons (de_bi c_abs (da_cons (de_var 1) da_nil) B.abs) da_nil)))))))), ?_⟩
  intro ds n Φ hh
  obtain ⟨⟨⟨⟨p, hp⟩, f, t⟩, c⟩, rfl, ⟨ht, hc⟩, h⟩ := hh
  try dsimp only at hl
  have hlim : lim = 1000000 := rfl
  simp only [slots0, List.map_cons, List.map_nil, List.length_cons, List.length_nil, Nat.reduceAdd, Nat.reduceSub, List.replicate, List.cons_append, List.nil_append]
  have h0 := h _ rfl
  dsimp only at h0 ht hc
  (repeat refine Stp.h ?_)
  refine u_check_number ⟨by omega, by omega⟩ ?_
  (repeat refine Stp.h ?_)
  refine q_b (decide_eq_false (by omega)) ?_
  (repeat refine Stp.h ?_)
  refine q_b (decide_eq_true (by omega)) ?_
  (repeat refine Stp.h ?_)
  rw [Int.natAbs_natCast]
  refine u_raised_to ⟨ht, hc⟩ ?_
  (repeat refine Stp.h ?_)
  exact h0
theorem ok_slope (B : Bi K mg C F) (A : At K mg "slope" "slope" (top 56)) (c_check_function : Fn P w K mg base C F 1 "check_function" k_check_function) (c_slope_by : Fn P w K mg base C F 10 "slope_by" k_slope_by) : Fn P w K mg base C F 11 "slope" k_slope := by
  obtain ⟨f, fd, Fd, hm⟩ := A
  refine ⟨⟨f, fd, ["function"], ?_, hm, Fd.kp, Fd.bindsN fun _ _ _ _ _ _ us hl => match us, hl with | [_], _ => rfl⟩, mon_cF⟩
  have S : FnScope ["function"] ["function"] (defScope (top 56)) := ⟨rfl, rfl, rfl, by decide +kernel, rfl, by decide +kernel, by decide +kernel⟩
  obtain ⟨pr, BPR, BPRt⟩ := B.PR
  refine fn_ok (k := 10) Fd S (len_cF fun _ => rfl) fun g cdv A outer s H E hr => ?_
  have hu := hu_of hr
  have hu1 := hu1_of hr
  refine ⟨_, _, (ss_cons (st_expr (de_call c_check_function hr (da_cons (de_var 0) da_nil))) (ss_one (st_ret (de_call c_slope_by hr (da_cons (de_var 0) da_nil))))), ?_⟩
  intro ds n Φ hh
  obtain ⟨⟨⟨p, hp⟩, f, t⟩, rfl, ht, h⟩ := hh
  try dsimp only at hl
  have hlim : lim = 1000000 := rfl
  simp only [slots0, List.map_cons, List.map_nil, List.length_cons, List.length_nil, Nat.reduceAdd, Nat.reduceSub, List.replicate, List.cons_append, List.nil_append]
  have h0 := h _ rfl
  dsimp only at h0 ht
  (repeat refine Stp.h ?_)
  refine u_slope_by ht ?_
  (repeat refine Stp.h ?_)
  exact h0
theorem ok_parts (B : Bi K mg C F) (A : At K mg "parts" "parts" (top 62)) (c_check_function : Fn P w K mg base C F 1 "check_function" k_check_function) (c_parts_by : Fn P w K mg base C F 10 "parts_by" k_parts_by) : Fn P w K mg base C F 11 "parts" k_parts := by
  obtain ⟨f, fd, Fd, hm⟩ := A
  refine ⟨⟨f, fd, ["one"], ?_, hm, Fd.kp, Fd.bindsN fun _ _ _ _ _ _ us hl => match us, hl with | [_], _ => rfl⟩, mon_cF⟩
  have S : FnScope ["one"] ["one"] (defScope (top 62)) := ⟨rfl, rfl, rfl, by decide +kernel, rfl, by decide +kernel, by decide +kernel⟩
  obtain ⟨pr, BPR, BPRt⟩ := B.PR
  refine fn_ok (k := 10) Fd S (len_cF fun _ => rfl) fun g cdv A outer s H E hr => ?_
  have hu := hu_of hr
  have hu1 := hu1_of hr
  refine ⟨_, _, (ss_cons (st_expr (de_call c_check_function hr (da_cons (de_var 0) da_nil))) (ss_one (st_ret (de_call c_parts_by hr (da_cons (de_var 0) da_nil))))), ?_⟩
  intro ds n Φ hh
  obtain ⟨⟨⟨p, hp⟩, f, t⟩, rfl, ht, h⟩ := hh
  try dsimp only at hl
  have hlim : lim = 1000000 := rfl
  simp only [slots0, List.map_cons, List.map_nil, List.length_cons, List.length_nil, Nat.reduceAdd, Nat.reduceSub, List.replicate, List.cons_append, List.nil_append]
  have h0 := h _ rfl
  dsimp only at h0 ht
  (repeat refine Stp.h ?_)
  refine u_parts_by ht ?_
  (repeat refine Stp.h ?_)
  exact h0
theorem ok_descent (B : Bi K mg C F) (A : At K mg "descent" "descent" (top 65)) (c_check_function : Fn P w K mg base C F 1 "check_function" k_check_function) (c_descent_by : Fn P w K mg base C F 11 "descent_by" k_descent_by) : Fn P w K mg base C F 12 "descent" k_descent := by
  obtain ⟨f, fd, Fd, hm⟩ := A
  refine ⟨⟨f, fd, ["one"], ?_, hm, Fd.kp, Fd.bindsN fun _ _ _ _ _ _ us hl => match us, hl with | [_], _ => rfl⟩, mon_cF⟩
  have S : FnScope ["one"] ["one"] (defScope (top 65)) := ⟨rfl, rfl, rfl, by decide +kernel, rfl, by decide +kernel, by decide +kernel⟩
  obtain ⟨pr, BPR, BPRt⟩ := B.PR
  refine fn_ok (k := 11) Fd S (len_cF fun _ => rfl) fun g cdv A outer s H E hr => ?_
  have hu := hu_of hr
  have hu1 := hu1_of hr
  refine ⟨_, _, (ss_cons (st_expr (de_call c_check_function hr (da_cons (de_var 0) da_nil))) (ss_one (st_ret (de_call c_descent_by hr (da_cons (de_var 0) da_nil))))), ?_⟩
  intro ds n Φ hh
  obtain ⟨⟨⟨p, hp⟩, f, t⟩, rfl, ht, h⟩ := hh
  try dsimp only at hl
  have hlim : lim = 1000000 := rfl
  simp only [slots0, List.map_cons, List.map_nil, List.length_cons, List.length_nil, Nat.reduceAdd, Nat.reduceSub, List.replicate, List.cons_append, List.nil_append]
  have h0 := h _ rfl
  dsimp only at h0 ht
  (repeat refine Stp.h ?_)
  refine u_descent_by ht ?_
  (repeat refine Stp.h ?_)
  exact h0
theorem ok_whose_slope (B : Bi K mg C F) (A : At K mg "whose_slope" "whose_slope" (top 69)) (c_check_function : Fn P w K mg base C F 1 "check_function" k_check_function) (c_slope_source : Fn P w K mg base C F 12 "slope_source" k_slope_source) : Fn P w K mg base C F 13 "whose_slope" k_whose_slope := by
  obtain ⟨f, fd, Fd, hm⟩ := A
  refine ⟨⟨f, fd, ["one"], ?_, hm, Fd.kp, Fd.bindsN fun _ _ _ _ _ _ us hl => match us, hl with | [_], _ => rfl⟩, mon_cF⟩
  have S : FnScope ["one"] ["one"] (defScope (top 69)) := ⟨rfl, rfl, rfl, by decide +kernel, rfl, by decide +kernel, by decide +kernel⟩
  obtain ⟨pr, BPR, BPRt⟩ := B.PR
  refine fn_ok (k := 12) Fd S (len_cF fun _ => rfl) fun g cdv A outer s H E hr => ?_
  have hu := hu_of hr
  have hu1 := hu1_of hr
  refine ⟨_, _, (ss_cons (st_expr (de_call c_check_function hr (da_cons (de_var 0) da_nil))) (ss_one (st_ret (de_call c_slope_source hr (da_cons (de_var 0) da_nil))))), ?_⟩
  intro ds n Φ hh
  obtain ⟨⟨⟨p, hp⟩, f, t⟩, rfl, ht, h⟩ := hh
  try dsimp only at hl
  have hlim : lim = 1000000 := rfl
  simp only [slots0, List.map_cons, List.map_nil, List.length_cons, List.length_nil, Nat.reduceAdd, Nat.reduceSub, List.replicate, List.cons_append, List.nil_append]
  dsimp only at ht
  (repeat refine Stp.h ?_)
  exact ⟨(⟨p, hp⟩, f, t), rfl, ht, h⟩
end KH
end
section
set_option Elab.async false
set_option linter.all false
set_option maxRecDepth 100000
set_option maxHeartbeats 2000000
namespace KH
open PySem PySem.Spec PyProof.Rows L2 DL
open MK hiding D X
variable {P : Program} {w : World} {K : PySem.W.Frag} {mg : Str → Option Value} {base : Heap} {C F : Addr}
theorem ok__law_hash (B : Bi K mg C F) (A : At K mg "_law_hash" "_law_hash" (top 71)) : Fn P w K mg base C F 1 "_law_hash" k__law_hash := by
  obtain ⟨f, fd, Fd, hm⟩ := A
  refine ⟨⟨f, fd, ["_law_seed", "_law_index"], ?_, hm, Fd.kp, Fd.bindsN fun _ _ _ _ _ _ us hl => match us, hl with | [_, _], _ => rfl⟩, mon_cF⟩
  have S : FnScope ["_law_seed", "_law_index", "_law_mixed"] ["_law_seed", "_law_index"] (defScope (top 71)) := ⟨rfl, rfl, rfl, by decide +kernel, rfl, by decide +kernel, by decide +kernel⟩
  obtain ⟨pr, BPR, BPRt⟩ := B.PR
  refine fn_ok (k := 0) Fd S (len_cF fun _ => rfl) fun g cdv A outer s H E hr => ?_
  have hu := hu_of hr
  have hu1 := hu1_of hr
  refine ⟨_, _, (ss_cons (st_set 2 S.nd (de_op o_mod (de_ty c_int (da_cons (de_op o_add (de_op o_add (de_op o_add (de_op o_mul (de_var 0) de_int) (de_op o_mul (de_op o_mul de_int (de_var 1)) (de_var 1))) (de_op o_mul de_int (de_var 1))) de_int) da_nil) B.int_) de_int)) (ss_cons (st_set 2 S.nd (de_op o_mod (de_ty c_int (da_cons (de_op o_add (de_op o_add (de_op o_mul (de_var 2) (de_var 2)) (de_op o_mul de_int (de_var 1))) de_int) da_nil) B.int_) de_int)) (ss_one (st_ret (de_op o_mod (de_ty c_int (da_cons (de_op o_mul (de_var 2) de_int) da_nil) B.int_) de_int))))), ?_⟩
  intro ds n Φ hh
  obtain ⟨⟨a, b⟩, rfl, ⟨⟨ha, ha2⟩, hb, hb2⟩, h⟩ := hh
  try dsimp only at hl
  have hlim : lim = 1000000 := rfl
  simp only [slots0, List.map_cons, List.map_nil, List.length_cons, List.length_nil, Nat.reduceAdd, Nat.reduceSub, List.replicate, List.cons_append, List.nil_append]
  dsimp only at ha ha2 hb hb2
  (repeat refine Stp.h ?_)
  refine j_muli (.inl ⟨by omega, by omega⟩) ?_
  (repeat refine Stp.h ?_)
  refine j_muli (.inl ⟨by omega, by omega⟩) ?_
  (repeat refine Stp.h ?_)
  refine j_muli (.inr ⟨by omega, by omega⟩) ?_
  (repeat refine Stp.h ?_)
  refine j_muli (.inl ⟨by omega, by omega⟩) ?_
  (repeat refine Stp.h ?_)
  refine j_modi (by decide) ?_
  generalize a * 1140671 + 27644437 * b * b + 131 * b + 19 = z
  have z1 := Int.emod_nonneg z (b := 2147483629) (by decide)
  have z2 := Int.emod_lt_of_pos z (b := 2147483629) (by decide)
  generalize z % 2147483629 = y at *
  (repeat refine Stp.h ?_)
  refine j_muli (.inl ⟨by omega, by omega⟩) ?_
  (repeat refine Stp.h ?_)
  refine j_muli (.inl ⟨by omega, by omega⟩) ?_
  (repeat refine Stp.h ?_)
  refine j_modi (by decide) ?_
  (repeat refine Stp.h ?_)
  refine j_muli (.inr ⟨by omega, by omega⟩) ?_
  (repeat refine Stp.h ?_)
  refine j_modi (by decide) ?_
  (repeat refine Stp.h ?_)
  exact h _ ⟨_, rfl⟩
theorem ok__law_cell (B : Bi K mg C F) (A : At K mg "_law_cell" "_law_cell" (top 73)) : Fn P w K mg base C F 1 "_law_cell" k__law_cell := by
  obtain ⟨f, fd, Fd, hm⟩ := A
  refine ⟨⟨f, fd, ["_law_script", "_law_index"], ?_, hm, Fd.kp, Fd.bindsN fun _ _ _ _ _ _ us hl => match us, hl with | [_, _], _ => rfl⟩, mon_cF⟩
  have S : FnScope ["_law_script", "_law_index"] ["_law_script", "_law_index"] (defScope (top 73)) := ⟨rfl, rfl, rfl, by decide +kernel, rfl, by decide +kernel, by decide +kernel⟩
  obtain ⟨pr, BPR, BPRt⟩ := B.PR
  refine fn_ok (k := 0) Fd S (len_cF fun _ => rfl) fun g cdv A outer s H E hr => ?_
  have hu := hu_of hr
  have hu1 := hu1_of hr
  refine ⟨_, _, (ss_cons (st_if (db_cmp o_lt (de_var 1) (de_bi c_len (da_cons (de_var 0) da_nil) B.len)) (ss_one (st_ret (de_ix (de_var 0) (de_var 1)))) ss_nil) (ss_one (st_ret (de_op o_mod (de_bi (c_sum rfl) (da_cons (DEf.de (df_to (de_var 0) de_int)) da_nil) B.sum) de_int)))), ?_⟩
  intro ds n Φ hh
  obtain ⟨⟨ns, i⟩, rfl, hl, h⟩ := hh
  try dsimp only at hl
  have hlim : lim = 1000000 := rfl
  simp only [slots0, List.map_cons, List.map_nil, List.length_cons, List.length_nil, Nat.reduceAdd, Nat.reduceSub, List.replicate, List.cons_append, List.nil_append]
  try dsimp only at hl
  (repeat refine Stp.h ?_)
  by_cases h1 : i < ns.length
  · refine q_b (decide_eq_true (by omega)) ?_
    (repeat refine Stp.h ?_)
    refine ⟨_, atI_nat (List.getElem?_eq_getElem h1), ?_⟩
    (repeat refine Stp.h ?_)
    exact h _ ⟨_, rfl⟩
  · refine q_b (decide_eq_false (by omega)) ?_
    (repeat refine Stp.h ?_)
    refine j_modi (by decide) ?_
    (repeat refine Stp.h ?_)
    exact h _ ⟨_, rfl⟩
theorem ok__law_trim (B : Bi K mg C F) (A : At K mg "_law_trim" "_law_trim" (top 75)) : Fn P w K mg base C F 1 "_law_trim" k__law_trim := by
  obtain ⟨f, fd, Fd, hm⟩ := A
  refine ⟨⟨f, fd, ["_law_p", "_law_row"], ?_, hm, Fd.kp, Fd.bindsN fun _ _ _ _ _ _ us hl => match us, hl with | [_, _], _ => rfl⟩, mon_cF⟩
  have S : FnScope ["_law_p", "_law_row", "_law_found", "_law_turn", "_law_number"] ["_law_p", "_law_row"] (defScope (top 75)) := ⟨rfl, rfl, rfl, by decide +kernel, rfl, by decide +kernel, by decide +kernel⟩
  obtain ⟨pr, BPR, BPRt⟩ := B.PR
  refine fn_ok (k := 0) Fd S (len_cF fun _ => rfl) fun g cdv A outer s H E hr => ?_
  have hu := hu_of hr
  have hu1 := hu1_of hr
  refine ⟨_, _, (ss_cons (st_setLc 2 [("_law_number", 4)] rfl S.nd (di_list (de_var 1)) (blkOk (N := ["_law_p", "_law_row", "_law_found", "_law_turn", "_law_number"]) (sc := (defScope (top 75))) (by decide +kernel)) (fun _ _ _ _ _ => tg_name 4 S.nd) tgin_name (fun _ _ _ _ _ => dts_nil) (fun _ _ _ _ _ => (de_op o_mod (de_ty c_int (da_cons (de_var 4) da_nil) B.int_) (de_var 0)))) (ss_frz 2 (ss_cons (st_for PassesOwn.never rfl (di_rng1 (de_bi c_len (da_cons (de_var 1) da_nil) B.len) rfl B.range) (tg_name 3 S.nd) (ss_one (st_if (DW.db (dw_and (db_cmp (o_ne hu) (de_var 2) (DEf.de (df_lst da_nil))) (dw_and1 (db_cmp (o_eq hu) (de_ix (de_var 2) (de_neg de_int)) de_int)))) (ss_one (st_set 2 S.nd (DEf.de (df_to (de_var 2) (de_neg de_int))))) ss_nil))) (ss_one (st_ret (de_var 2)))))), ?_⟩
  intro ds n Φ hh
  obtain ⟨⟨⟨p, hp⟩, xs⟩, rfl, hl, h⟩ := hh
  try dsimp only at hl
  have hlim : lim = 1000000 := rfl
  simp only [slots0, List.map_cons, List.map_nil, List.length_cons, List.length_nil, Nat.reduceAdd, Nat.reduceSub, List.replicate, List.cons_append, List.nil_append]
  have pg := Pr.gt (p := p)
  have h0 := h _ rfl
  (repeat refine Stp.h ?_)
  refine q_lc (by simp; omega) ?_
  refine lcW_ints (fun x => x % (p : Int)) ?_ ?_
  · intro x hx n Ψ hΨ
    (repeat refine Stp.h ?_)
    refine j_modi (by omega) ?_
    (repeat refine Stp.h ?_)
    exact hΨ
  · generalize hz : xs.map (fun x => x % (p : Int)) = zs
    have ez : trm p xs = cut0 zs := by rw [trm_cut, ← hz]
    have el : xs.length = zs.length := by rw [← hz, List.length_map]
    rw [ez] at h0
    (repeat refine Stp.h ?_)
    refine j_mR ⟨by omega, by omega⟩ ?_
    rw [Int.toNat_natCast, el]
    (repeat refine Stp.h ?_)
    refine forW_rng (fun i ρ n' => n' = n ∧ ∃ (ys : List Int) (s3 s4 : Sl), ρ = [.val (I p), .val (L xs), .val (L ys), s3, s4] ∧ cut0 ys = cut0 zs ∧ (cut0 ys = ys ∨ ys.length + i ≤ zs.length)) ⟨rfl, zs, _, _, rfl, rfl, .inr (by omega)⟩ ?_ ?_
    · rintro i ρ n' N hi ⟨rfl, ys, s3, s4, rfl, hc, hd⟩ hN
      (repeat refine Stp.h ?_)
      by_cases hy : ys = []
      · subst hy
        (repeat refine Stp.h ?_)
        refine q_b (v := !decide (([] : List Int) = [])) (w := false) rfl ?_
        (repeat refine Stp.h ?_)
        exact hN _ _ ⟨rfl, [], _, _, rfl, hc, .inl rfl⟩
      · refine q_b (v := !decide (ys = [])) (w := true) (by simpa using hy) ?_
        (repeat refine Stp.h ?_)
        refine j_ixl (atI_ints (atI_last hy)) ?_
        (repeat refine Stp.h ?_)
        by_cases h1 : ys.getLast hy = 0
        · refine q_b (decide_eq_true h1) ?_
          (repeat refine Stp.h ?_)
          rw [cutD_to1]
          (repeat refine Stp.h ?_)
          refine hN _ _ ⟨rfl, ys.dropLast, _, _, rfl, by rw [cut0_drop hy h1, hc], ?_⟩
          have := List.length_pos_iff.mpr hy
          rcases hd with hd | hd
          · have e := congrArg List.length (cut0_drop hy h1)
            have := cut0_len ys.dropLast
            rw [hd] at e
            simp at this e
            omega
          · right; simp; omega
        · refine q_b (decide_eq_false h1) ?_
          (repeat refine Stp.h ?_)
          exact hN _ _ ⟨rfl, ys, _, _, rfl, hc, .inl (cut0_last hy h1)⟩
    · rintro ρ n' ⟨rfl, ys, s3, s4, rfl, hc, hd⟩
      (repeat refine Stp.h ?_)
      have : ys = cut0 zs := by
        rcases hd with hd | hd
        · rw [← hc, hd]
        · have : ys = [] := List.length_eq_zero_iff.mp (by omega)
          rw [← hc, this]; rfl
      rw [this]
      exact h0
theorem ok__law_add (B : Bi K mg C F) (A : At K mg "_law_add" "_law_add" (top 76)) (c__law_trim : Fn P w K mg base C F 1 "_law_trim" k__law_trim) : Fn P w K mg base C F 2 "_law_add" k__law_add := by
  obtain ⟨f, fd, Fd, hm⟩ := A
  refine ⟨⟨f, fd, ["_law_p", "_law_one", "_law_other"], ?_, hm, Fd.kp, Fd.bindsN fun _ _ _ _ _ _ us hl => match us, hl with | [_, _, _], _ => rfl⟩, mon_cF⟩
  have S : FnScope ["_law_p", "_law_one", "_law_other", "_law_many", "_law_low", "_law_high", "_law_at"] ["_law_p", "_law_one", "_law_other"] (defScope (top 76)) := ⟨rfl, rfl, rfl, by decide +kernel, rfl, by decide +kernel, by decide +kernel⟩
  obtain ⟨pr, BPR, BPRt⟩ := B.PR
  refine fn_ok (k := 1) Fd S (len_cF fun _ => rfl) fun g cdv A outer s H E hr => ?_
  have hu := hu_of hr
  have hu1 := hu1_of hr
  refine ⟨_, _, (ss_cons (st_set 3 S.nd (de_bi (c_max rfl) (da_cons (de_bi c_len (da_cons (de_var 1) da_nil) B.len) (da_cons (de_bi c_len (da_cons (de_var 2) da_nil) B.len) da_nil)) B.max)) (ss_cons (st_asg (de_tup (da_cons (de_op o_add (de_var 1) (de_op o_mul (DEf.de (df_lst (da_cons de_int da_nil))) (de_op o_sub (de_var 3) (de_bi c_len (da_cons (de_var 1) da_nil) B.len)))) (da_cons (de_op o_add (de_var 2) (de_op o_mul (DEf.de (df_lst (da_cons de_int da_nil))) (de_op o_sub (de_var 3) (de_bi c_len (da_cons (de_var 2) da_nil) B.len)))) da_nil))) (tg_tup rfl (tgs_cons 4 (tgs_cons 5 tgs_nil S.nd) S.nd))) (ss_one (st_ret (de_call c__law_trim hr (da_cons (de_var 0) (da_cons (DEf.de (df_lc [("_law_at", 6)] rfl S.nd (di_rng1 (de_var 3) rfl B.range) (blkOk (N := ["_law_p", "_law_one", "_law_other", "_law_many", "_law_low", "_law_high", "_law_at"]) (sc := (defScope (top 76))) (by decide +kernel)) (fun _ _ _ _ _ => tg_name 6 S.nd) tgin_name (fun _ _ _ _ _ => dts_nil) (fun _ _ _ _ _ => (de_op o_add (de_ix (de_var 4) (de_var 6)) (de_ix (de_var 5) (de_var 6)))))) da_nil))))))), ?_⟩
  intro ds n Φ hh
  obtain ⟨⟨⟨p, hp⟩, xs, ys⟩, rfl, hl, h⟩ := hh
  try dsimp only at hl
  have hlim : lim = 1000000 := rfl
  simp only [slots0, List.map_cons, List.map_nil, List.length_cons, List.length_nil, Nat.reduceAdd, Nat.reduceSub, List.replicate, List.cons_append, List.nil_append]
  simp only [sSeq, sNext, sFrz, sDrop, sRet, sIf, gNm, gTp, gLs, setL, sAsg, sSet, sOwn, sPar, sPar3, sPar3O, dVar, dC, dF, dOp, dB, dAnd, dOr, dNot, dAndV, dOrV, dNotV, dIf, dIfF, dNil, dCons, dLst_e, dTup_e, wSub_i, wMod_i, wFdiv_i, wPow_i, wAdd_i, wAdd_l, wMul_i, wMul_l, fRep_e, wRepF_l, wLt_i, wLe_i, wGt_i, wGe_i, isNo, wIsN_n, wNotN_n, wIsB_b, wNotB_b, wEq_i, wNe_i, wNe_b, wNe_s, wEq_L, wNe_L, wEq_L0, wNe_L0, wNotIn, dNeg_e, nNeg_i, iRg1, iRg2, iRg3, iSeq, iSeqT, iEnm, sFor, dLc_e, lcS, dYes, wipeS, dCall, dMeth, dPrime, dPoly, dCurve, dParts, kLen_l, kLen_t, kLen_s, kInt_i, kMax_i, kMin3_i, kAbs_i, kRepr_b, fList, dBits, dIsT, fInt, fBool, fLst, fCrv, fFnc, wIx_l, wIx_t, wIx_s, fFrom, fTo, fStride, dTab3, dLend, dLendB, flatD, sPop, sApp, sSetI, sFldD, sNewF, sFrzF, slots0, List.map_cons, List.map_nil, List.replicate, List.cons_append, List.nil_append, List.append_nil, List.getElem?_cons_zero, List.getElem?_cons_succ, List.set_cons_zero, List.set_cons_succ, List.length_map, rng_len, rngD_len, enm_len, List.length_replicate, List.length_append, ← List.map_append, List.length_cons, List.length_nil, Nat.reduceAdd, Nat.reduceSub, Nat.reduceLeDiff, Bool.not_true, Bool.not_false, if_true, Bool.false_eq_true, if_false, true_and, and_true, Bool.not_eq_true']
  have h0 := h _ rfl
  refine ⟨⟨by omega, by omega⟩, by omega, ⟨by omega, by omega⟩, by omega, ⟨by omega, by omega⟩, by omega, ?_⟩
  have eN : (max (xs.length : Int) (ys.length : Int)).toNat = max xs.length ys.length := by omega
  refine lcW_rng (fun i => .int (xs.getD i 0 + ys.getD i 0)) ?_ ?_
  · intro i hi n Ψ hΨ
    simp only [sSeq, sNext, sFrz, sDrop, sRet, sIf, gNm, gTp, gLs, setL, sAsg, sSet, sOwn, sPar, sPar3, sPar3O, dVar, dC, dF, dOp, dB, dAnd, dOr, dNot, dAndV, dOrV, dNotV, dIf, dIfF, dNil, dCons, dLst_e, dTup_e, wSub_i, wMod_i, wFdiv_i, wPow_i, wAdd_i, wAdd_l, wMul_i, wMul_l, fRep_e, wRepF_l, wLt_i, wLe_i, wGt_i, wGe_i, isNo, wIsN_n, wNotN_n, wIsB_b, wNotB_b, wEq_i, wNe_i, wNe_b, wNe_s, wEq_L, wNe_L, wEq_L0, wNe_L0, wNotIn, dNeg_e, nNeg_i, iRg1, iRg2, iRg3, iSeq, iSeqT, iEnm, sFor, dLc_e, lcS, dYes, wipeS, dCall, dMeth, dPrime, dPoly, dCurve, dParts, kLen_l, kLen_t, kLen_s, kInt_i, kMax_i, kMin3_i, kAbs_i, kRepr_b, fList, dBits, dIsT, fInt, fBool, fLst, fCrv, fFnc, wIx_l, wIx_t, wIx_s, fFrom, fTo, fStride, dTab3, dLend, dLendB, flatD, sPop, sApp, sSetI, sFldD, sNewF, sFrzF, slots0, List.map_cons, List.map_nil, List.replicate, List.cons_append, List.nil_append, List.append_nil, List.getElem?_cons_zero, List.getElem?_cons_succ, List.set_cons_zero, List.set_cons_succ, List.length_map, rng_len, rngD_len, enm_len, List.length_replicate, List.length_append, ← List.map_append, List.length_cons, List.length_nil, Nat.reduceAdd, Nat.reduceSub, Nat.reduceLeDiff, Bool.not_true, Bool.not_false, if_true, Bool.false_eq_true, if_false, true_and, and_true, Bool.not_eq_true']
    refine ⟨.int (xs.getD i 0), ?_, .int (ys.getD i 0), ?_, ?_⟩
    · rw [Int.zero_add]
      refine atI_ints (atI_nat ?_)
      rw [← getD_pad xs (max (xs.length : Int) (ys.length : Int) - xs.length).toNat i, List.getD_eq_getElem?_getD]
      rw [List.getElem?_eq_getElem (by simp; omega)]; rfl
    · rw [Int.zero_add]
      refine atI_ints (atI_nat ?_)
      rw [← getD_pad ys (max (xs.length : Int) (ys.length : Int) - ys.length).toNat i, List.getD_eq_getElem?_getD]
      rw [List.getElem?_eq_getElem (by simp; omega)]; rfl
    · exact hΨ
  · have e : (List.range (max (xs.length : Int) (ys.length : Int)).toNat).map (fun i => D.int (xs.getD i 0 + ys.getD i 0)) = ((List.range (max xs.length ys.length)).map fun i => xs.getD i 0 + ys.getD i 0).map D.int := by rw [eN, List.map_map]; rfl
    rw [e]
    refine u_trimmed (by simp; omega) ?_
    rw [trm_add]; exact h0
theorem ok__law_fall (B : Bi K mg C F) (A : At K mg "_law_fall" "_law_fall" (top 83)) (c__law_trim : Fn P w K mg base C F 1 "_law_trim" k__law_trim) : Fn P w K mg base C F 2 "_law_fall" k__law_fall := by
  obtain ⟨f, fd, Fd, hm⟩ := A
  refine ⟨⟨f, fd, ["_law_p", "_law_one"], ?_, hm, Fd.kp, Fd.bindsN fun _ _ _ _ _ _ us hl => match us, hl with | [_, _], _ => rfl⟩, mon_cF⟩
  have S : FnScope ["_law_p", "_law_one", "_law_at", "_law_number"] ["_law_p", "_law_one"] (defScope (top 83)) := ⟨rfl, rfl, rfl, by decide +kernel, rfl, by decide +kernel, by decide +kernel⟩
  obtain ⟨pr, BPR, BPRt⟩ := B.PR
  refine fn_ok (k := 1) Fd S (len_cF fun _ => rfl) fun g cdv A outer s H E hr => ?_
  have hu := hu_of hr
  have hu1 := hu1_of hr
  refine ⟨_, _, (ss_one (st_ret (de_call c__law_trim hr (da_cons (de_var 0) (da_cons (DEf.de (df_from (DEf.de (df_lc [("_law_at", 2), ("_law_number", 3)] rfl S.nd (di_enum (de_var 1) rfl B.enumerate) (blkOk (N := ["_law_p", "_law_one", "_law_at", "_law_number"]) (sc := (defScope (top 83))) (by decide +kernel)) (fun _ _ _ _ _ => tg_tup rfl (tgs_cons 2 (tgs_cons 3 tgs_nil S.nd) S.nd)) (tgin_tup (tgsin_cons (tgsin_cons tgsin_nil))) (fun _ _ _ _ _ => dts_nil) (fun _ _ _ _ _ => (de_op o_mul (de_var 2) (de_var 3))))) de_int)) da_nil))))), ?_⟩
  intro ds n Φ hh
  obtain ⟨⟨⟨p, hp⟩, xs⟩, rfl, hl, h⟩ := hh
  try dsimp only at hl
  have hlim : lim = 1000000 := rfl
  simp only [slots0, List.map_cons, List.map_nil, List.length_cons, List.length_nil, Nat.reduceAdd, Nat.reduceSub, List.replicate, List.cons_append, List.nil_append]
  simp only [sSeq, sNext, sFrz, sDrop, sRet, sIf, gNm, gTp, gLs, setL, sAsg, sSet, sOwn, sPar, sPar3, sPar3O, dVar, dC, dF, dOp, dB, dAnd, dOr, dNot, dAndV, dOrV, dNotV, dIf, dIfF, dNil, dCons, dLst_e, dTup_e, wSub_i, wMod_i, wFdiv_i, wPow_i, wAdd_i, wAdd_l, wMul_i, wMul_l, fRep_e, wRepF_l, wLt_i, wLe_i, wGt_i, wGe_i, isNo, wIsN_n, wNotN_n, wIsB_b, wNotB_b, wEq_i, wNe_i, wNe_b, wNe_s, wEq_L, wNe_L, wEq_L0, wNe_L0, wNotIn, dNeg_e, nNeg_i, iRg1, iRg2, iRg3, iSeq, iSeqT, iEnm, sFor, dLc_e, lcS, dYes, wipeS, dCall, dMeth, dPrime, dPoly, dCurve, dParts, kLen_l, kLen_t, kLen_s, kInt_i, kMax_i, kMin3_i, kAbs_i, kRepr_b, fList, dBits, dIsT, fInt, fBool, fLst, fCrv, fFnc, wIx_l, wIx_t, wIx_s, fFrom, fTo, fStride, dTab3, dLend, dLendB, flatD, sPop, sApp, sSetI, sFldD, sNewF, sFrzF, slots0, List.map_cons, List.map_nil, List.replicate, List.cons_append, List.nil_append, List.append_nil, List.getElem?_cons_zero, List.getElem?_cons_succ, List.set_cons_zero, List.set_cons_succ, List.length_map, rng_len, rngD_len, enm_len, List.length_replicate, List.length_append, ← List.map_append, List.length_cons, List.length_nil, Nat.reduceAdd, Nat.reduceSub, Nat.reduceLeDiff, Bool.not_true, Bool.not_false, if_true, Bool.false_eq_true, if_false, true_and, and_true, Bool.not_eq_true']
  have h0 := h _ rfl
  refine ⟨by omega, ?_⟩
  refine lcW_enm (fun i x => (i : Int) * x) ?_ ?_
  · intro i x hx n Ψ hΨ
    have hi := (List.getElem?_eq_some_iff.mp hx).1
    (try simp only [sSeq, sNext, sFrz, sDrop, sRet, sIf, gNm, gTp, gLs, setL, sAsg, sSet, sOwn, sPar, sPar3, sPar3O, dVar, dC, dF, dOp, dB, dAnd, dOr, dNot, dAndV, dOrV, dNotV, dIf, dIfF, dNil, dCons, dLst_e, dTup_e, wSub_i, wMod_i, wFdiv_i, wPow_i, wAdd_i, wAdd_l, wMul_i, wMul_l, fRep_e, wRepF_l, wLt_i, wLe_i, wGt_i, wGe_i, isNo, wIsN_n, wNotN_n, wIsB_b, wNotB_b, wEq_i, wNe_i, wNe_b, wNe_s, wEq_L, wNe_L, wEq_L0, wNe_L0, wNotIn, dNeg_e, nNeg_i, iRg1, iRg2, iRg3, iSeq, iSeqT, iEnm, sFor, dLc_e, lcS, dYes, wipeS, dCall, dMeth, dPrime, dPoly, dCurve, dParts, kLen_l, kLen_t, kLen_s, kInt_i, kMax_i, kMin3_i, kAbs_i, kRepr_b, fList, dBits, dIsT, fInt, fBool, fLst, fCrv, fFnc, wIx_l, wIx_t, wIx_s, fFrom, fTo, fStride, dTab3, dLend, dLendB, flatD, sPop, sApp, sSetI, sFldD, sNewF, sFrzF, slots0, List.map_cons, List.map_nil, List.replicate, List.cons_append, List.nil_append, List.append_nil, List.getElem?_cons_zero, List.getElem?_cons_succ, List.set_cons_zero, List.set_cons_succ, List.length_map, rng_len, rngD_len, enm_len, List.length_replicate, List.length_append, ← List.map_append, List.length_cons, List.length_nil, Nat.reduceAdd, Nat.reduceSub, Nat.reduceLeDiff, Bool.not_true, Bool.not_false, if_true, Bool.false_eq_true, if_false, true_and, and_true, Bool.not_eq_true'])
    exact ⟨.inl ⟨by omega, by omega⟩, hΨ⟩
  · rw [cutD_from1]
    refine u_trimmed (by simp; omega) ?_
    rw [trm_fall]; exact h0
theorem ok__law_scale (B : Bi K mg C F) (A : At K mg "_law_scale" "_law_scale" (top 77)) (c__law_trim : Fn P w K mg base C F 1 "_law_trim" k__law_trim) : Fn P w K mg base C F 2 "_law_scale" k__law_scale := by
  obtain ⟨f, fd, Fd, hm⟩ := A
  refine ⟨⟨f, fd, ["_law_p", "_law_one", "_law_number"], ?_, hm, Fd.kp, Fd.bindsN fun _ _ _ _ _ _ us hl => match us, hl with | [_, _, _], _ => rfl⟩, mon_cF⟩
  have S : FnScope ["_law_p", "_law_one", "_law_number", "_law_item"] ["_law_p", "_law_one", "_law_number"] (defScope (top 77)) := ⟨rfl, rfl, rfl, by decide +kernel, rfl, by decide +kernel, by decide +kernel⟩
  obtain ⟨pr, BPR, BPRt⟩ := B.PR
  refine fn_ok (k := 1) Fd S (len_cF fun _ => rfl) fun g cdv A outer s H E hr => ?_
  have hu := hu_of hr
  have hu1 := hu1_of hr
  refine ⟨_, _, (ss_one (st_ret (de_call c__law_trim hr (da_cons (de_var 0) (da_cons (DEf.de (df_lc [("_law_item", 3)] rfl S.nd (di_list (de_var 1)) (blkOk (N := ["_law_p", "_law_one", "_law_number", "_law_item"]) (sc := (defScope (top 77))) (by decide +kernel)) (fun _ _ _ _ _ => tg_name 3 S.nd) tgin_name (fun _ _ _ _ _ => dts_nil) (fun _ _ _ _ _ => (de_op o_mul (de_var 2) (de_var 3))))) da_nil))))), ?_⟩
  intro ds n Φ hh
  obtain ⟨⟨⟨p, hp⟩, xs, k⟩, rfl, hl, h⟩ := hh
  try dsimp only at hl
  have hlim : lim = 1000000 := rfl
  simp only [slots0, List.map_cons, List.map_nil, List.length_cons, List.length_nil, Nat.reduceAdd, Nat.reduceSub, List.replicate, List.cons_append, List.nil_append]
  have h0 := h _ rfl
  try dsimp only at hl
  (repeat refine Stp.h ?_)
  refine q_lc (by simp; omega) ?_
  refine lcW_ints (fun x => x * k) ?_ ?_
  · intro x hx n Ψ hΨ
    (repeat refine Stp.h ?_)
    refine j_muli (.inl hl.2) ?_
    rw [Int.mul_comm]
    (repeat refine Stp.h ?_)
    exact hΨ
  · (repeat refine Stp.h ?_)
    refine u_trimmed (by simp; omega) ?_
    (repeat refine Stp.h ?_)
    rw [trm_scl]; exact h0
theorem ok__law_mul (B : Bi K mg C F) (A : At K mg "_law_mul" "_law_mul" (top 78)) (c__law_trim : Fn P w K mg base C F 1 "_law_trim" k__law_trim) : Fn P w K mg base C F 2 "_law_mul" k__law_mul := by
  obtain ⟨f, fd, Fd, hm⟩ := A
  refine ⟨⟨f, fd, ["_law_p", "_law_one", "_law_other"], ?_, hm, Fd.kp, Fd.bindsN fun _ _ _ _ _ _ us hl => match us, hl with | [_, _, _], _ => rfl⟩, mon_cF⟩
  have S : FnScope ["_law_p", "_law_one", "_law_other", "_law_found", "_law_at", "_law_low", "_law_place", "_law_high"] ["_law_p", "_law_one", "_law_other"] (defScope (top 78)) := ⟨rfl, rfl, rfl, by decide +kernel, rfl, by decide +kernel, by decide +kernel⟩
  obtain ⟨pr, BPR, BPRt⟩ := B.PR
  refine fn_ok (k := 1) Fd S (len_cF fun _ => rfl) fun g cdv A outer s H E hr => ?_
  have hu := hu_of hr
  have hu1 := hu1_of hr
  refine ⟨_, _, (ss_cons (st_own 3 S.nd (df_rep (DEf.de (df_lst (da_cons de_int da_nil))) (de_bi (c_max rfl) (da_cons (de_op o_sub (de_op o_add (de_bi c_len (da_cons (de_var 1) da_nil) B.len) (de_bi c_len (da_cons (de_var 2) da_nil) B.len)) de_int) (da_cons de_int da_nil)) B.max))) (ss_cons (st_for PassesOwn.never rfl (di_enum (de_var 1) rfl B.enumerate) (tg_tup rfl (tgs_cons 4 (tgs_cons 5 tgs_nil S.nd) S.nd)) (ss_one (st_if (db_cmp (o_ne hu) (de_var 5) de_int) (ss_one (st_for PassesOwn.never rfl (di_enum (de_var 2) rfl B.enumerate) (tg_tup rfl (tgs_cons 6 (tgs_cons 7 tgs_nil S.nd) S.nd)) (ss_one (st_seti 3 (de_op o_add (de_lend 3 (de_ix (de_var 3) (de_op o_add (de_var 4) (de_var 6)))) (de_op o_mul (de_var 5) (de_var 7))) (de_op o_add (de_var 4) (de_var 6)))))) ss_nil))) (ss_frz 3 (ss_one (st_ret (de_call c__law_trim hr (da_cons (de_var 0) (da_cons (de_var 3) da_nil)))))))), ?_⟩
  intro ds n Φ hh
  obtain ⟨⟨⟨p, hp⟩, xs, ys⟩, rfl, hl, h⟩ := hh
  try dsimp only at hl
  have hlim : lim = 1000000 := rfl
  simp only [slots0, List.map_cons, List.map_nil, List.length_cons, List.length_nil, Nat.reduceAdd, Nat.reduceSub, List.replicate, List.cons_append, List.nil_append]
  have h0 := h _ rfl
  try dsimp only at hl
  (repeat refine Stp.h ?_)
  refine q_rep ⟨by omega, by omega⟩ ?_
  have eN : (max ((xs.length : Int) + (ys.length : Int) - 1) 0).toNat = xs.length + ys.length - 1 := by omega
  rw [eN]
  (repeat refine Stp.h ?_)
  refine forW_enm (fun i ρ n' => n' = n ∧ ∃ (zs : List Int) (s4 s5 s6 s7 : Sl), ρ = [.val (I p), .val (L xs), .val (L ys), .own (zs.map D.int), s4, s5, s6, s7] ∧ zs.length = xs.length + ys.length - 1 ∧ sr p zs = sr p (xs.take i) * sr p ys) ?_ ?_ ?_
  · refine ⟨rfl, _, _, _, _, _, rfl, by simp, ?_⟩
    rw [sr_zeros, List.take_zero, sr_nil]; grind
  · rintro i x ρ n' N hx ⟨rfl, zs, s4, s5, s6, s7, rfl, hz, ez⟩ hN
    have hi := (List.getElem?_eq_some_iff.mp hx).1
    (repeat refine Stp.h ?_)
    by_cases hx0 : x = 0
    · refine q_b (v := !decide (x = 0)) (w := false) (by rw [hx0]; rfl) ?_
      (repeat refine Stp.h ?_)
      refine hN _ _ ⟨rfl, zs, _, _, _, _, rfl, hz, ?_⟩
      rw [sr_take hx, ez, hx0, cast0, pl_0c]; grind
    · refine q_b (v := !decide (x = 0)) (w := true) (by simpa using hx0) ?_
      (repeat refine Stp.h ?_)
      refine forW_enm (fun j ρ n'' => n'' = n' ∧ ∃ (zs : List Int) (s6 s7 : Sl), ρ = [.val (I p), .val (L xs), .val (L ys), .own (zs.map D.int), .val (I (i : Int)), .val (I x), s6, s7] ∧ zs.length = xs.length + ys.length - 1 ∧ sr p zs = sr p (xs.take i) * sr p ys + pl i ((x : Int) : Fin p) * sr p (ys.take j)) ?_ ?_ ?_
      · refine ⟨rfl, zs, _, _, rfl, hz, ?_⟩
        rw [ez, List.take_zero, sr_nil]; grind
      · rintro j y ρ n'' N' hy ⟨rfl, zs, s6, s7, rfl, hz, ez⟩ hN'
        have hj := (List.getElem?_eq_some_iff.mp hy).1
        have hij : i + j < zs.length := by omega
        have eij : ((i : Int) + (j : Int)) = ((i + j : Nat) : Int) := by omega
        (repeat refine Stp.h ?_)
        rw [eij]
        (repeat refine Stp.h ?_)
        refine j_ixl (atI_ints (atI_nat (x := zs.getD (i + j) 0) (by rw [List.getD_eq_getElem?_getD, List.getElem?_eq_getElem hij]; rfl))) ?_
        (repeat refine Stp.h ?_)
        refine j_muli (.inl (hl.2.2 x (List.mem_of_getElem? hx))) ?_
        (repeat refine Stp.h ?_)
        rw [eij]
        (repeat refine Stp.h ?_)
        refine q_si ⟨by omega, by rw [List.length_map]; omega⟩ ?_
        refine hN' _ _ ⟨rfl, zs.set (i + j) (zs.getD (i + j) 0 + x * y), .val (I (j : Int)), .val (I y), ?_, by simpa using hz, ?_⟩
        · rw [Int.toNat_natCast, List.map_set]; rfl
        · rw [sr_set hij, ez, sr_take hy]
          have e : zs.getD (i + j) 0 + x * y - zs.getD (i + j) 0 = x * y := by omega
          rw [e, Lean.Grind.Ring.intCast_mul, ← pl_mul]; grind
      · rintro ρ n'' ⟨rfl, zs, s6, s7, rfl, hz, ez⟩
        refine hN _ _ ⟨rfl, zs, _, _, _, _, rfl, hz, ?_⟩
        rw [ez, List.take_length, sr_take hx]; grind
  · rintro ρ n' ⟨rfl, zs, s4, s5, s6, s7, rfl, hz, ez⟩
    (repeat refine Stp.h ?_)
    refine u_trimmed (by omega) ?_
    rw [List.take_length] at ez
    rw [trm_mul (by omega) ez]
    (repeat refine Stp.h ?_)
    exact h0
theorem ok__law_power (B : Bi K mg C F) (A : At K mg "_law_power" "_law_power" (top 79)) (c__law_mul : Fn P w K mg base C F 2 "_law_mul" k__law_mul) : Fn P w K mg base C F 3 "_law_power" k__law_power := by
  obtain ⟨f, fd, Fd, hm⟩ := A
  refine ⟨⟨f, fd, ["_law_p", "_law_one", "_law_count"], ?_, hm, Fd.kp, Fd.bindsN fun _ _ _ _ _ _ us hl => match us, hl with | [_, _, _], _ => rfl⟩, mon_cF⟩
  have S : FnScope ["_law_p", "_law_one", "_law_count", "_law_found", "_law_turn"] ["_law_p", "_law_one", "_law_count"] (defScope (top 79)) := ⟨rfl, rfl, rfl, by decide +kernel, rfl, by decide +kernel, by decide +kernel⟩
  obtain ⟨pr, BPR, BPRt⟩ := B.PR
  refine fn_ok (k := 2) Fd S (len_cF fun _ => rfl) fun g cdv A outer s H E hr => ?_
  have hu := hu_of hr
  have hu1 := hu1_of hr
  refine ⟨_, _, (ss_cons (st_set 3 S.nd (DEf.de (df_lst (da_cons de_int da_nil)))) (ss_cons (st_for PassesOwn.never rfl (di_rng1 (de_var 2) rfl B.range) (tg_name 4 S.nd) (ss_one (st_set 3 S.nd (de_call c__law_mul hr (da_cons (de_var 0) (da_cons (de_var 3) (da_cons (de_var 1) da_nil))))))) (ss_one (st_ret (de_var 3))))), ?_⟩
  intro ds n Φ hh
  obtain ⟨⟨⟨p, hp⟩, xs, k⟩, rfl, hl, h⟩ := hh
  try dsimp only at hl
  have hlim : lim = 1000000 := rfl
  simp only [slots0, List.map_cons, List.map_nil, List.length_cons, List.length_nil, Nat.reduceAdd, Nat.reduceSub, List.replicate, List.cons_append, List.nil_append]
  simp only [sSeq, sNext, sFrz, sDrop, sRet, sIf, gNm, gTp, gLs, setL, sAsg, sSet, sOwn, sPar, sPar3, sPar3O, dVar, dC, dF, dOp, dB, dAnd, dOr, dNot, dAndV, dOrV, dNotV, dIf, dIfF, dNil, dCons, dLst_e, dTup_e, wSub_i, wMod_i, wFdiv_i, wPow_i, wAdd_i, wAdd_l, wMul_i, wMul_l, fRep_e, wRepF_l, wLt_i, wLe_i, wGt_i, wGe_i, isNo, wIsN_n, wNotN_n, wIsB_b, wNotB_b, wEq_i, wNe_i, wNe_b, wNe_s, wEq_L, wNe_L, wEq_L0, wNe_L0, wNotIn, dNeg_e, nNeg_i, iRg1, iRg2, iRg3, iSeq, iSeqT, iEnm, sFor, dLc_e, lcS, dYes, wipeS, dCall, dMeth, dPrime, dPoly, dCurve, dParts, kLen_l, kLen_t, kLen_s, kInt_i, kMax_i, kMin3_i, kAbs_i, kRepr_b, fList, dBits, dIsT, fInt, fBool, fLst, fCrv, fFnc, wIx_l, wIx_t, wIx_s, fFrom, fTo, fStride, dTab3, dLend, dLendB, flatD, sPop, sApp, sSetI, sFldD, sNewF, sFrzF, slots0, List.map_cons, List.map_nil, List.replicate, List.cons_append, List.nil_append, List.append_nil, List.getElem?_cons_zero, List.getElem?_cons_succ, List.set_cons_zero, List.set_cons_succ, List.length_map, rng_len, rngD_len, enm_len, List.length_replicate, List.length_append, ← List.map_append, List.length_cons, List.length_nil, Nat.reduceAdd, Nat.reduceSub, Nat.reduceLeDiff, Bool.not_true, Bool.not_false, if_true, Bool.false_eq_true, if_false, true_and, and_true, Bool.not_eq_true']
  have h0 := h _ rfl
  refine ⟨⟨by omega, by omega⟩, ?_⟩
  rw [Int.toNat_natCast]
  refine forW_rng (fun i ρ n' => n' = n ∧ ∃ s4 : Sl, ρ = [.val (I p), .val (L xs), .val (I k), .val (L (powP p xs i)), s4]) ⟨rfl, _, rfl⟩ ?_ ?_
  · rintro i ρ n' N hi ⟨rfl, s4, rfl⟩ hN
    simp only [sSeq, sNext, sFrz, sDrop, sRet, sIf, gNm, gTp, gLs, setL, sAsg, sSet, sOwn, sPar, sPar3, sPar3O, dVar, dC, dF, dOp, dB, dAnd, dOr, dNot, dAndV, dOrV, dNotV, dIf, dIfF, dNil, dCons, dLst_e, dTup_e, wSub_i, wMod_i, wFdiv_i, wPow_i, wAdd_i, wAdd_l, wMul_i, wMul_l, fRep_e, wRepF_l, wLt_i, wLe_i, wGt_i, wGe_i, isNo, wIsN_n, wNotN_n, wIsB_b, wNotB_b, wEq_i, wNe_i, wNe_b, wNe_s, wEq_L, wNe_L, wEq_L0, wNe_L0, wNotIn, dNeg_e, nNeg_i, iRg1, iRg2, iRg3, iSeq, iSeqT, iEnm, sFor, dLc_e, lcS, dYes, wipeS, dCall, dMeth, dPrime, dPoly, dCurve, dParts, kLen_l, kLen_t, kLen_s, kInt_i, kMax_i, kMin3_i, kAbs_i, kRepr_b, fList, dBits, dIsT, fInt, fBool, fLst, fCrv, fFnc, wIx_l, wIx_t, wIx_s, fFrom, fTo, fStride, dTab3, dLend, dLendB, flatD, sPop, sApp, sSetI, sFldD, sNewF, sFrzF, slots0, List.map_cons, List.map_nil, List.replicate, List.cons_append, List.nil_append, List.append_nil, List.getElem?_cons_zero, List.getElem?_cons_succ, List.set_cons_zero, List.set_cons_succ, List.length_map, rng_len, rngD_len, enm_len, List.length_replicate, List.length_append, ← List.map_append, List.length_cons, List.length_nil, Nat.reduceAdd, Nat.reduceSub, Nat.reduceLeDiff, Bool.not_true, Bool.not_false, if_true, Bool.false_eq_true, if_false, true_and, and_true, Bool.not_eq_true']
    have l1 := len_pow (p := p) xs i
    have l2 : i * xs.length ≤ (k + 1) * xs.length := Nat.mul_le_mul_right _ (by omega)
    have l3 : xs.length ≤ (k + 1) * xs.length := Nat.le_mul_of_pos_left _ (by omega)
    refine u_multiplied ⟨by omega, by omega, Can.sm (can_pow xs i)⟩ ?_
    exact hN _ _ ⟨rfl, _, rfl⟩
  · rintro ρ n' ⟨rfl, s4, rfl⟩
    simp only [sSeq, sNext, sFrz, sDrop, sRet, sIf, gNm, gTp, gLs, setL, sAsg, sSet, sOwn, sPar, sPar3, sPar3O, dVar, dC, dF, dOp, dB, dAnd, dOr, dNot, dAndV, dOrV, dNotV, dIf, dIfF, dNil, dCons, dLst_e, dTup_e, wSub_i, wMod_i, wFdiv_i, wPow_i, wAdd_i, wAdd_l, wMul_i, wMul_l, fRep_e, wRepF_l, wLt_i, wLe_i, wGt_i, wGe_i, isNo, wIsN_n, wNotN_n, wIsB_b, wNotB_b, wEq_i, wNe_i, wNe_b, wNe_s, wEq_L, wNe_L, wEq_L0, wNe_L0, wNotIn, dNeg_e, nNeg_i, iRg1, iRg2, iRg3, iSeq, iSeqT, iEnm, sFor, dLc_e, lcS, dYes, wipeS, dCall, dMeth, dPrime, dPoly, dCurve, dParts, kLen_l, kLen_t, kLen_s, kInt_i, kMax_i, kMin3_i, kAbs_i, kRepr_b, fList, dBits, dIsT, fInt, fBool, fLst, fCrv, fFnc, wIx_l, wIx_t, wIx_s, fFrom, fTo, fStride, dTab3, dLend, dLendB, flatD, sPop, sApp, sSetI, sFldD, sNewF, sFrzF, slots0, List.map_cons, List.map_nil, List.replicate, List.cons_append, List.nil_append, List.append_nil, List.getElem?_cons_zero, List.getElem?_cons_succ, List.set_cons_zero, List.set_cons_succ, List.length_map, rng_len, rngD_len, enm_len, List.length_replicate, List.length_append, ← List.map_append, List.length_cons, List.length_nil, Nat.reduceAdd, Nat.reduceSub, Nat.reduceLeDiff, Bool.not_true, Bool.not_false, if_true, Bool.false_eq_true, if_false, true_and, and_true, Bool.not_eq_true']
    exact h0
theorem ok__law_back (B : Bi K mg C F) (A : At K mg "_law_back" "_law_back" (top 80)) : Fn P w K mg base C F 1 "_law_back" k__law_back := by
  obtain ⟨f, fd, Fd, hm⟩ := A
  refine ⟨⟨f, fd, ["_law_p", "_law_number"], ?_, hm, Fd.kp, Fd.bindsN fun _ _ _ _ _ _ us hl => match us, hl with | [_, _], _ => rfl⟩, mon_cF⟩
  have S : FnScope ["_law_p", "_law_number", "_law_item"] ["_law_p", "_law_number"] (defScope (top 80)) := ⟨rfl, rfl, rfl, by decide +kernel, rfl, by decide +kernel, by decide +kernel⟩
  obtain ⟨pr, BPR, BPRt⟩ := B.PR
  refine fn_ok (k := 0) Fd S (len_cF fun _ => rfl) fun g cdv A outer s H E hr => ?_
  have hu := hu_of hr
  have hu1 := hu1_of hr
  refine ⟨_, _, (ss_one (st_ret (de_ix (DEf.de (df_lc [("_law_item", 2)] rfl S.nd (di_rng2 de_int (de_var 0) rfl B.range) (blkOk (N := ["_law_p", "_law_number", "_law_item"]) (sc := (defScope (top 80))) (by decide +kernel)) (fun _ _ _ _ _ => tg_name 2 S.nd) tgin_name (fun _ _ _ _ _ => (dts_one (db_cmp (o_eq hu) (de_op o_mod (de_ty c_int (da_cons (de_op o_mul (de_var 2) (de_var 1)) da_nil) B.int_) (de_var 0)) de_int))) (fun _ _ _ _ _ => (de_var 2)))) de_int))), ?_⟩
  intro ds n Φ hh
  obtain ⟨⟨⟨p, hp⟩, x⟩, rfl, hl, h⟩ := hh
  try dsimp only at hl
  have hlim : lim = 1000000 := rfl
  simp only [slots0, List.map_cons, List.map_nil, List.length_cons, List.length_nil, Nat.reduceAdd, Nat.reduceSub, List.replicate, List.cons_append, List.nil_append]
  have pl := Pr.lt (p := p)
  have pg := Pr.gt (p := p)
  try dsimp only at hl
  (repeat refine Stp.h ?_)
  refine q_r2 ⟨by omega, by omega, by omega, by omega⟩ ?_
  (repeat refine Stp.h ?_)
  refine q_lc (by rw [rng_len]; omega) ?_
  refine lcW_fil (fun d => match d with | .int r => decide (r * x % (p : Int) = 1) | _ => false) ?_ ?_
  · intro d hd n Ψ hΨ
    obtain ⟨i, hi, rfl⟩ := List.mem_map.mp hd
    have := List.mem_range.mp hi
    (repeat refine Stp.h ?_)
    refine j_muli (.inl ⟨by omega, by omega⟩) ?_
    (repeat refine Stp.h ?_)
    refine j_modi (by omega) ?_
    (repeat refine Stp.h ?_)
    by_cases h1 : (1 + (i : Int)) * x % (p : Int) = 1
    · refine q_b (decide_eq_true h1) ?_
      (repeat refine Stp.h ?_)
      simpa [h1] using hΨ
    · refine q_b (decide_eq_false h1) ?_
      (repeat refine Stp.h ?_)
      simpa [h1] using hΨ
  · have hne : (rng 1 ((p : Int) - 1).toNat).filter (fun d => match d with | .int r => decide (r * x % (p : Int) = 1) | _ => false) ≠ [] := by
      obtain ⟨r, h0, h1, h2⟩ := inv_ex x hl
      intro z
      have := List.filter_eq_nil_iff.mp z (.int r) (List.mem_map.mpr ⟨(r - 1).toNat, List.mem_range.mpr (by omega), by congr 1; omega⟩)
      simp only [decide_eq_true_eq] at this
      exact this h2
    (repeat refine Stp.h ?_)
    refine j_ixl (atI_nat (i := 0) (List.getElem?_eq_getElem (List.length_pos_iff.mpr hne))) ?_
    (repeat refine Stp.h ?_)
    have hm := List.getElem_mem (List.length_pos_iff.mpr hne)
    generalize ((rng 1 ((p : Int) - 1).toNat).filter (fun d => match d with | .int r => decide (r * x % (p : Int) = 1) | _ => false))[0]'(List.length_pos_iff.mpr hne) = d at hm
    obtain ⟨m1, m2⟩ := List.mem_filter.mp hm
    obtain ⟨i, hi, rfl⟩ := List.mem_map.mp m1
    have := List.mem_range.mp hi
    refine h _ ⟨_, rfl, by omega, by show 1 + (i : Int) < (p : Int); omega, ?_⟩
    simpa using m2
end KH
end
section
set_option Elab.async false
set_option linter.all false
set_option maxRecDepth 100000
set_option maxHeartbeats 2000000
namespace KH
open PySem PySem.Spec PyProof.Rows L2 DL
open MK hiding D X
variable {P : Program} {w : World} {K : PySem.W.Frag} {mg : Str → Option Value} {base : Heap} {C F : Addr}
theorem ok__law_rest (B : Bi K mg C F) (A : At K mg "_law_rest" "_law_rest" (top 81)) (c__law_back : Fn P w K mg base C F 1 "_law_back" k__law_back) (c__law_add : Fn P w K mg base C F 2 "_law_add" k__law_add) (c__law_scale : Fn P w K mg base C F 2 "_law_scale" k__law_scale) (c__law_mul : Fn P w K mg base C F 2 "_law_mul" k__law_mul) : Fn P w K mg base C F 3 "_law_rest" k__law_rest := by
  obtain ⟨f, fd, Fd, hm⟩ := A
  refine ⟨⟨f, fd, ["_law_p", "_law_one", "_law_other"], ?_, hm, Fd.kp, Fd.bindsN fun _ _ _ _ _ _ us hl => match us, hl with | [_, _, _], _ => rfl⟩, mon_cF⟩
  have S : FnScope ["_law_p", "_law_one", "_law_other", "_law_turn", "_law_left", "_law_back_here", "_law_by"] ["_law_p", "_law_one", "_law_other"] (defScope (top 81)) := ⟨rfl, rfl, rfl, by decide +kernel, rfl, by decide +kernel, by decide +kernel⟩
  obtain ⟨pr, BPR, BPRt⟩ := B.PR
  refine fn_ok (k := 2) Fd S (len_cF fun _ => rfl) fun g cdv A outer s H E hr => ?_
  have hu := hu_of hr
  have hu1 := hu1_of hr
  refine ⟨_, _, (ss_cons (st_par 4 5 rfl S.nd (DEf.de (df_list (de_var 1) B.list)) (de_call c__law_back hr (da_cons (de_var 0) (da_cons (de_ix (de_var 2) (de_neg de_int)) da_nil)))) (ss_cons (st_for PassesOwn.never rfl (di_rng1 (de_bi c_len (da_cons (de_var 1) da_nil) B.len) rfl B.range) (tg_name 3 S.nd) (ss_one (st_if (db_cmp o_ge (de_bi c_len (da_cons (de_var 4) da_nil) B.len) (de_bi c_len (da_cons (de_var 2) da_nil) B.len)) (ss_cons (st_set 6 S.nd (de_op o_add (de_op o_mul (DEf.de (df_lst (da_cons de_int da_nil))) (de_op o_sub (de_bi c_len (da_cons (de_var 4) da_nil) B.len) (de_bi c_len (da_cons (de_var 2) da_nil) B.len))) (DEf.de (df_lst (da_cons (de_op o_mul (de_ix (de_var 4) (de_neg de_int)) (de_var 5)) da_nil))))) (ss_one (st_set 4 S.nd (de_call c__law_add hr (da_cons (de_var 0) (da_cons (de_var 4) (da_cons (de_call c__law_scale hr (da_cons (de_var 0) (da_cons (de_call c__law_mul hr (da_cons (de_var 0) (da_cons (de_var 6) (da_cons (de_var 2) da_nil)))) (da_cons (de_neg de_int) da_nil)))) da_nil))))))) ss_nil))) (ss_one (st_ret (de_var 4))))), ?_⟩
  intro ds n Φ hh
  obtain ⟨⟨⟨p, hp⟩, xs, ys⟩, rfl, ⟨⟨l1, l2⟩, cx, cy, hy⟩, h⟩ := hh
  try dsimp only at hl
  have hlim : lim = 1000000 := rfl
  simp only [slots0, List.map_cons, List.map_nil, List.length_cons, List.length_nil, Nat.reduceAdd, Nat.reduceSub, List.replicate, List.cons_append, List.nil_append]
  have h0 := h _ rfl
  dsimp only at h0 l1 l2 cx cy hy
  have hlig : lig = 200000 := rfl
  have plt := Pr.lt (p := p)
  have pg := Pr.gt (p := p)
  have hb := List.length_pos_iff.mpr hy
  (repeat refine Stp.h ?_)
  refine j_ixl (atI_ints (atI_last hy)) ?_
  (repeat refine Stp.h ?_)
  refine u__law_back (last_ne cy hy) ?_
  intro r r1 r2 r3
  (repeat refine Stp.h ?_)
  refine j_mR ⟨by omega, by omega⟩ ?_
  rw [Int.toNat_natCast]
  (repeat refine Stp.h ?_)
  refine forW_rng (fun i ρ n' => n' = n ∧ ∃ (ls qs : List Int) (s3 s6 : Sl), ρ = [.val (I p), .val (L xs), .val (L ys), s3, .val (L ls), .val (I r), s6] ∧ Can p ls ∧ ls.length ≤ xs.length ∧ qs.length ≤ xs.length ∧ Can p qs ∧ sr p xs = sr p qs * sr p ys + sr p ls ∧ (ls.length < ys.length ∨ ls.length + i ≤ xs.length)) ⟨rfl, xs, [], .un, .un, rfl, cx, Nat.le_refl _, Nat.zero_le _, can_nil, by rw [sr_nil]; grind, .inr (by omega)⟩ ?_ ?_
  · rintro i ρ n' N hi ⟨rfl, ls, qs, s3, s6, rfl, cl, hl, hq, cq, es, hd⟩ hN
    (repeat refine Stp.h ?_)
    by_cases h1 : ys.length ≤ ls.length
    · refine q_b (decide_eq_true (by omega)) ?_
      have h0' : ls ≠ [] := List.length_pos_iff.mp (by omega)
      have hk : (ls.length : Int) - (ys.length : Int) = ((ls.length - ys.length : Nat) : Int) := by omega
      have cl0 := cl.last h0'
      (repeat refine Stp.h ?_)
      rw [hk]
      (repeat refine Stp.h ?_)
      refine j_mull ⟨by omega, by omega⟩ ?_
      rw [Int.toNat_natCast]
      (repeat refine Stp.h ?_)
      refine j_ixl (atI_ints (atI_last h0')) ?_
      (repeat refine Stp.h ?_)
      refine j_muli (.inl ⟨by omega, by omega⟩) ?_
      (repeat refine Stp.h ?_)
      refine j_addl (by simp; omega) ?_
      rw [L_by]
      have ev : ((ls.getLast h0' * r : Int) : Fin p) = ((ls.getLast h0' : Int) : Fin p) * ((r : Int) : Fin p) := Lean.Grind.Ring.intCast_mul _ _
      have v1 : 0 ≤ ls.getLast h0' * r := Int.mul_nonneg (by omega) (by omega)
      have v2 : ls.getLast h0' * r ≤ 11 * 11 := Int.mul_le_mul (by omega) (by omega) (by omega) (by omega)
      generalize ls.getLast h0' * r = v at ev v1 v2 ⊢
      obtain ⟨k1, k2⟩ := red_step cy hy h0' h1 r3 ev
      have sm : Sm (List.replicate (ls.length - ys.length) 0 ++ [v]) := by
        intro x hx
        rcases List.mem_append.mp hx with hx | hx
        · rw [(List.mem_replicate.mp hx).2]; exact ⟨by decide, by decide⟩
        · rw [List.mem_singleton.mp hx]; omega
      have lb : (List.replicate (ls.length - ys.length) (0 : Int) ++ [v]).length = ls.length - ys.length + 1 := by simp
      have lmu := len_mul (p := p) (List.replicate (ls.length - ys.length) 0 ++ [v]) ys
      have lsc := len_scl (p := p) (mulP p (List.replicate (ls.length - ys.length) 0 ++ [v]) ys) (-1)
      have sb := sr_by (p := p) (ls.length - ys.length) v
      (repeat refine Stp.h ?_)
      refine u__law_mul ⟨by omega, by omega, sm⟩ ?_
      (repeat refine Stp.h ?_)
      refine u__law_scale ⟨by omega, by omega, by omega⟩ ?_
      (repeat refine Stp.h ?_)
      refine u__law_add ⟨by omega, by omega⟩ ?_
      (repeat refine Stp.h ?_)
      refine hN _ _ ⟨rfl, _, addP p qs (List.replicate (ls.length - ys.length) 0 ++ [v]), _, _, rfl, can_add _ _, by omega, by have := len_add (p := p) qs (List.replicate (ls.length - ys.length) 0 ++ [v]); omega, can_add _ _, ?_, .inr (by omega)⟩
      rw [sr_add, sb, es]
      generalize sr p (addP p ls (sclP p (mulP p (List.replicate (ls.length - ys.length) 0 ++ [v]) ys) (-1))) = z at k1 ⊢
      rw [k1]; grind
    · refine q_b (decide_eq_false (by omega)) ?_
      (repeat refine Stp.h ?_)
      exact hN _ _ ⟨rfl, ls, qs, _, _, rfl, cl, hl, hq, cq, es, .inl (by omega)⟩
  · rintro ρ n' ⟨rfl, ls, qs, s3, s6, rfl, cl, hl, hq, cq, es, hd⟩
    (repeat refine Stp.h ?_)
    have hdv := div_eq cy (⟨cq, cl, es, by omega⟩ : DivOk p xs ys qs ls)
    rw [hdv.2] at h0
    exact h0
theorem ok__law_whole (B : Bi K mg C F) (A : At K mg "_law_whole" "_law_whole" (top 93)) (c__law_back : Fn P w K mg base C F 1 "_law_back" k__law_back) (c__law_add : Fn P w K mg base C F 2 "_law_add" k__law_add) (c__law_scale : Fn P w K mg base C F 2 "_law_scale" k__law_scale) (c__law_mul : Fn P w K mg base C F 2 "_law_mul" k__law_mul) : Fn P w K mg base C F 3 "_law_whole" k__law_whole := by
  obtain ⟨f, fd, Fd, hm⟩ := A
  refine ⟨⟨f, fd, ["_law_p", "_law_one", "_law_other"], ?_, hm, Fd.kp, Fd.bindsN fun _ _ _ _ _ _ us hl => match us, hl with | [_, _, _], _ => rfl⟩, mon_cF⟩
  have S : FnScope ["_law_p", "_law_one", "_law_other", "_law_turn", "_law_left", "_law_back_here", "_law_found", "_law_by"] ["_law_p", "_law_one", "_law_other"] (defScope (top 93)) := ⟨rfl, rfl, rfl, by decide +kernel, rfl, by decide +kernel, by decide +kernel⟩
  obtain ⟨pr, BPR, BPRt⟩ := B.PR
  refine fn_ok (k := 2) Fd S (len_cF fun _ => rfl) fun g cdv A outer s H E hr => ?_
  have hu := hu_of hr
  have hu1 := hu1_of hr
  refine ⟨_, _, (ss_cons (st_par3 4 5 6 rfl S.nd (DEf.de (df_list (de_var 1) B.list)) (de_call c__law_back hr (da_cons (de_var 0) (da_cons (de_ix (de_var 2) (de_neg de_int)) da_nil))) (DEf.de (df_lst da_nil))) (ss_cons (st_for PassesOwn.never rfl (di_rng1 (de_bi c_len (da_cons (de_var 1) da_nil) B.len) rfl B.range) (tg_name 3 S.nd) (ss_one (st_if (db_cmp o_ge (de_bi c_len (da_cons (de_var 4) da_nil) B.len) (de_bi c_len (da_cons (de_var 2) da_nil) B.len)) (ss_cons (st_set 7 S.nd (de_op o_add (de_op o_mul (DEf.de (df_lst (da_cons de_int da_nil))) (de_op o_sub (de_bi c_len (da_cons (de_var 4) da_nil) B.len) (de_bi c_len (da_cons (de_var 2) da_nil) B.len))) (DEf.de (df_lst (da_cons (de_op o_mod (de_ty c_int (da_cons (de_op o_mul (de_ix (de_var 4) (de_neg de_int)) (de_var 5)) da_nil) B.int_) (de_var 0)) da_nil))))) (ss_cons (st_set 4 S.nd (de_call c__law_add hr (da_cons (de_var 0) (da_cons (de_var 4) (da_cons (de_call c__law_scale hr (da_cons (de_var 0) (da_cons (de_call c__law_mul hr (da_cons (de_var 0) (da_cons (de_var 7) (da_cons (de_var 2) da_nil)))) (da_cons (de_neg de_int) da_nil)))) da_nil))))) (ss_one (st_set 6 S.nd (de_call c__law_add hr (da_cons (de_var 0) (da_cons (de_var 6) (da_cons (de_var 7) da_nil)))))))) ss_nil))) (ss_one (st_ret (de_var 6))))), ?_⟩
  intro ds n Φ hh
  obtain ⟨⟨⟨p, hp⟩, xs, ys⟩, rfl, ⟨⟨l1, l2⟩, cx, cy, hy⟩, h⟩ := hh
  try dsimp only at hl
  have hlim : lim = 1000000 := rfl
  simp only [slots0, List.map_cons, List.map_nil, List.length_cons, List.length_nil, Nat.reduceAdd, Nat.reduceSub, List.replicate, List.cons_append, List.nil_append]
  have h0 := h _ rfl
  dsimp only at h0 l1 l2 cx cy hy
  have hlig : lig = 200000 := rfl
  have plt := Pr.lt (p := p)
  have pg := Pr.gt (p := p)
  have hb := List.length_pos_iff.mpr hy
  (repeat refine Stp.h ?_)
  refine j_ixl (atI_ints (atI_last hy)) ?_
  (repeat refine Stp.h ?_)
  refine u__law_back (last_ne cy hy) ?_
  intro r r1 r2 r3
  (repeat refine Stp.h ?_)
  refine j_mR ⟨by omega, by omega⟩ ?_
  rw [Int.toNat_natCast]
  (repeat refine Stp.h ?_)
  refine forW_rng (fun i ρ n' => n' = n ∧ ∃ (ls qs : List Int) (s3 s7 : Sl), ρ = [.val (I p), .val (L xs), .val (L ys), s3, .val (L ls), .val (I r), .val (L qs), s7] ∧ Can p ls ∧ ls.length ≤ xs.length ∧ qs.length ≤ xs.length ∧ Can p qs ∧ sr p xs = sr p qs * sr p ys + sr p ls ∧ (ls.length < ys.length ∨ ls.length + i ≤ xs.length)) ⟨rfl, xs, [], .un, .un, rfl, cx, Nat.le_refl _, Nat.zero_le _, can_nil, by rw [sr_nil]; grind, .inr (by omega)⟩ ?_ ?_
  · rintro i ρ n' N hi ⟨rfl, ls, qs, s3, s7, rfl, cl, hl, hq, cq, es, hd⟩ hN
    (repeat refine Stp.h ?_)
    by_cases h1 : ys.length ≤ ls.length
    · refine q_b (decide_eq_true (by omega)) ?_
      have h0' : ls ≠ [] := List.length_pos_iff.mp (by omega)
      have hk : (ls.length : Int) - (ys.length : Int) = ((ls.length - ys.length : Nat) : Int) := by omega
      have cl0 := cl.last h0'
      (repeat refine Stp.h ?_)
      rw [hk]
      (repeat refine Stp.h ?_)
      refine j_mull ⟨by omega, by omega⟩ ?_
      rw [Int.toNat_natCast]
      (repeat refine Stp.h ?_)
      refine j_ixl (atI_ints (atI_last h0')) ?_
      (repeat refine Stp.h ?_)
      refine j_muli (.inl ⟨by omega, by omega⟩) ?_
      (repeat refine Stp.h ?_)
      refine j_modi (by omega) ?_
      (repeat refine Stp.h ?_)
      refine j_addl (by simp; omega) ?_
      rw [L_by]
      generalize hv : ls.getLast h0' * r % (p : Int) = v
      have v1 := Int.emod_nonneg (ls.getLast h0' * r) (b := (p : Int)) (by omega)
      have v2 := Int.emod_lt_of_pos (ls.getLast h0' * r) (b := (p : Int)) (by omega)
      have ev : ((v : Int) : Fin p) = ((ls.getLast h0' : Int) : Fin p) * ((r : Int) : Fin p) := by
        rw [← Lean.Grind.Ring.intCast_mul, ← hv]; exact MK.cast_eq.mpr (by rw [Int.emod_emod])
      obtain ⟨k1, k2⟩ := red_step cy hy h0' h1 r3 ev
      have sm : Sm (List.replicate (ls.length - ys.length) 0 ++ [v]) := by
        intro x hx
        rcases List.mem_append.mp hx with hx | hx
        · rw [(List.mem_replicate.mp hx).2]; exact ⟨by decide, by decide⟩
        · rw [List.mem_singleton.mp hx]; omega
      have lb : (List.replicate (ls.length - ys.length) (0 : Int) ++ [v]).length = ls.length - ys.length + 1 := by simp
      have lmu := len_mul (p := p) (List.replicate (ls.length - ys.length) 0 ++ [v]) ys
      have lsc := len_scl (p := p) (mulP p (List.replicate (ls.length - ys.length) 0 ++ [v]) ys) (-1)
      have sb := sr_by (p := p) (ls.length - ys.length) v
      (repeat refine Stp.h ?_)
      refine u__law_mul ⟨by omega, by omega, sm⟩ ?_
      (repeat refine Stp.h ?_)
      refine u__law_scale ⟨by omega, by omega, by omega⟩ ?_
      (repeat refine Stp.h ?_)
      refine u__law_add ⟨by omega, by omega⟩ ?_
      have lad := len_add (p := p) qs (List.replicate (ls.length - ys.length) 0 ++ [v])
      (repeat refine Stp.h ?_)
      refine u__law_add ⟨by omega, by omega⟩ ?_
      (repeat refine Stp.h ?_)
      refine hN _ _ ⟨rfl, _, addP p qs (List.replicate (ls.length - ys.length) 0 ++ [v]), _, _, rfl, can_add _ _, by omega, by omega, can_add _ _, ?_, .inr (by omega)⟩
      rw [sr_add, sb, es]
      generalize sr p (addP p ls (sclP p (mulP p (List.replicate (ls.length - ys.length) 0 ++ [v]) ys) (-1))) = z at k1 ⊢
      rw [k1]; grind
    · refine q_b (decide_eq_false (by omega)) ?_
      (repeat refine Stp.h ?_)
      exact hN _ _ ⟨rfl, ls, qs, _, _, rfl, cl, hl, hq, cq, es, .inl (by omega)⟩
  · rintro ρ n' ⟨rfl, ls, qs, s3, s7, rfl, cl, hl, hq, cq, es, hd⟩
    (repeat refine Stp.h ?_)
    have hdv := div_eq cy (⟨cq, cl, es, by omega⟩ : DivOk p xs ys qs ls)
    rw [hdv.1] at h0
    exact h0
theorem ok__law_common (B : Bi K mg C F) (A : At K mg "_law_common" "_law_common" (top 82)) (c__law_rest : Fn P w K mg base C F 3 "_law_rest" k__law_rest) : Fn P w K mg base C F 4 "_law_common" k__law_common := by
  obtain ⟨f, fd, Fd, hm⟩ := A
  refine ⟨⟨f, fd, ["_law_p", "_law_one", "_law_other"], ?_, hm, Fd.kp, Fd.bindsN fun _ _ _ _ _ _ us hl => match us, hl with | [_, _, _], _ => rfl⟩, mon_cF⟩
  have S : FnScope ["_law_p", "_law_one", "_law_other", "_law_turn", "_law_low", "_law_high"] ["_law_p", "_law_one", "_law_other"] (defScope (top 82)) := ⟨rfl, rfl, rfl, by decide +kernel, rfl, by decide +kernel, by decide +kernel⟩
  obtain ⟨pr, BPR, BPRt⟩ := B.PR
  refine fn_ok (k := 3) Fd S (len_cF fun _ => rfl) fun g cdv A outer s H E hr => ?_
  have hu := hu_of hr
  have hu1 := hu1_of hr
  refine ⟨_, _, (ss_cons (st_par 4 5 rfl S.nd (DEf.de (df_list (de_var 1) B.list)) (DEf.de (df_list (de_var 2) B.list))) (ss_cons (st_for PassesOwn.never rfl (di_rng1 (de_op o_add (de_op o_add (de_bi c_len (da_cons (de_var 1) da_nil) B.len) (de_bi c_len (da_cons (de_var 2) da_nil) B.len)) de_int) rfl B.range) (tg_name 3 S.nd) (ss_one (st_if (db_cmp (o_ne hu) (de_var 5) (DEf.de (df_lst da_nil))) (ss_one (st_par 4 5 rfl S.nd (de_var 5) (de_call c__law_rest hr (da_cons (de_var 0) (da_cons (de_var 4) (da_cons (de_var 5) da_nil)))))) ss_nil))) (ss_one (st_ret (de_var 4))))), ?_⟩
  intro ds n Φ hh
  obtain ⟨⟨⟨p, hp⟩, xs, ys⟩, rfl, ⟨⟨l1, l2⟩, cx, cy⟩, h⟩ := hh
  try dsimp only at hl
  have hlim : lim = 1000000 := rfl
  simp only [slots0, List.map_cons, List.map_nil, List.length_cons, List.length_nil, Nat.reduceAdd, Nat.reduceSub, List.replicate, List.cons_append, List.nil_append]
  have h0 := fun g hg => h _ ⟨g, rfl, hg⟩
  dsimp only at h0 l1 l2 cx cy
  have hlig : lig = 200000 := rfl
  (repeat refine Stp.h ?_)
  refine j_mR ⟨by omega, by omega⟩ ?_
  have eN : ((xs.length : Int) + (ys.length : Int) + 1).toNat = xs.length + ys.length + 1 := by omega
  rw [eN]
  (repeat refine Stp.h ?_)
  refine forW_rng (fun i ρ n' => n' = n ∧ ∃ (ls hs : List Int) (s3 : Sl), ρ = [.val (I p), .val (L xs), .val (L ys), s3, .val (L ls), .val (L hs)] ∧ Can p ls ∧ Can p hs ∧ ls.length ≤ lig ∧ hs.length ≤ lig ∧ (∀ g, GcdS (sr p ls) (sr p hs) g → GcdS (sr p xs) (sr p ys) g) ∧ (hs = [] ∨ hs.length + i ≤ ys.length)) ⟨rfl, xs, ys, .un, rfl, cx, cy, l1, l2, fun g z => z, .inr (by omega)⟩ ?_ ?_
  · rintro i ρ n' N hi ⟨rfl, ls, hs, s3, rfl, cl, ch, l3, l4, hg, hd⟩ hN
    (repeat refine Stp.h ?_)
    by_cases h1 : hs = []
    · refine q_b (v := !decide (hs = [])) (w := false) (by rw [h1]; rfl) ?_
      (repeat refine Stp.h ?_)
      exact hN _ _ ⟨rfl, ls, hs, _, rfl, cl, ch, l3, l4, hg, .inl h1⟩
    · refine q_b (v := !decide (hs = [])) (w := true) (by simpa using h1) ?_
      have lr := len_rem ls ch h1
      have sd := (div_spec ls ch h1).1
      (repeat refine Stp.h ?_)
      refine u__law_rest ⟨⟨by omega, by omega⟩, cl, ch, h1⟩ ?_
      (repeat refine Stp.h ?_)
      exact hN _ _ ⟨rfl, hs, remP p ls hs, _, rfl, ch, sd.cr, l4, by omega, fun g z => hg g (z.step (pl_sr _) sd.e), .inr (by rcases hd with hd | hd; exact absurd hd h1; omega)⟩
  · rintro ρ n' ⟨rfl, ls, hs, s3, rfl, cl, ch, l3, l4, hg, hd⟩
    (repeat refine Stp.h ?_)
    have : hs = [] := by
      rcases hd with hd | hd
      · exact hd
      · omega
    subst this
    exact h0 ls ⟨cl, hg _ (by rw [sr_nil]; exact gcdS_end (pl_sr ls))⟩
theorem ok__law_of (B : Bi K mg C F) (A : At K mg "_law_of" "_law_of" (top 86)) (n_Curve : Nw P w K mg base C F C 7 "Curve" kn_Curve) : Fn P w K mg base C F 9 "_law_of" k__law_of := by
  obtain ⟨f, fd, Fd, hm⟩ := A
  refine ⟨⟨f, fd, ["_law_told"], ?_, hm, Fd.kp, Fd.bindsN fun _ _ _ _ _ _ us hl => match us, hl with | [_], _ => rfl⟩, mon_cF⟩
  have S : FnScope ["_law_told"] ["_law_told"] (defScope (top 86)) := ⟨rfl, rfl, rfl, by decide +kernel, rfl, by decide +kernel, by decide +kernel⟩
  obtain ⟨pr, BPR, BPRt⟩ := B.PR
  refine fn_ok (k := 8) Fd S (len_cF fun _ => rfl) fun g cdv A outer s H E hr => ?_
  have hu := hu_of hr
  have hu1 := hu1_of hr
  refine ⟨_, _, (ss_one (st_ret (de_new n_Curve hr (da_cons (de_ix (de_var 0) de_int) (da_cons (DEf.de (df_list (de_ix (de_var 0) de_int) B.list)) da_nil))))), ?_⟩
  intro ds n Φ hh
  obtain ⟨⟨⟨p, hp⟩, f⟩, rfl, hl, h⟩ := hh
  try dsimp only at hl
  have hlim : lim = 1000000 := rfl
  simp only [slots0, List.map_cons, List.map_nil, List.length_cons, List.length_nil, Nat.reduceAdd, Nat.reduceSub, List.replicate, List.cons_append, List.nil_append]
  have h0 := h _ rfl
  (repeat refine Stp.h ?_)
  refine un_Curve hl ?_
  (repeat refine Stp.h ?_)
  exact h0
theorem ok__law_made (B : Bi K mg C F) (A : At K mg "_law_made" "_law_made" (top 88)) (n_Function : Nw P w K mg base C F F 7 "Function" kn_Function) (c__law_of : Fn P w K mg base C F 9 "_law_of" k__law_of) : Fn P w K mg base C F 10 "_law_made" k__law_made := by
  obtain ⟨f, fd, Fd, hm⟩ := A
  refine ⟨⟨f, fd, ["_law_told", "_law_one"], ?_, hm, Fd.kp, Fd.bindsN fun _ _ _ _ _ _ us hl => match us, hl with | [_, _], _ => rfl⟩, mon_cF⟩
  have S : FnScope ["_law_told", "_law_one"] ["_law_told", "_law_one"] (defScope (top 88)) := ⟨rfl, rfl, rfl, by decide +kernel, rfl, by decide +kernel, by decide +kernel⟩
  obtain ⟨pr, BPR, BPRt⟩ := B.PR
  refine fn_ok (k := 9) Fd S (len_cF fun _ => rfl) fun g cdv A outer s H E hr => ?_
  have hu := hu_of hr
  have hu1 := hu1_of hr
  refine ⟨_, _, (ss_one (st_ret (de_new n_Function hr (da_cons (de_call c__law_of hr (da_cons (de_var 0) da_nil)) (da_cons (DEf.de (df_list (de_ix (de_var 1) de_int) B.list)) (da_cons (DEf.de (df_list (de_ix (de_var 1) de_int) B.list)) (da_cons (DEf.de (df_list (de_ix (de_var 1) de_int) B.list)) da_nil))))))), ?_⟩
  intro ds n Φ hh
  obtain ⟨⟨⟨p, hp⟩, f, t⟩, rfl, ⟨cv, cs, hb, hne⟩, h⟩ := hh
  try dsimp only at hl
  have hlim : lim = 1000000 := rfl
  simp only [slots0, List.map_cons, List.map_nil, List.length_cons, List.length_nil, Nat.reduceAdd, Nat.reduceSub, List.replicate, List.cons_append, List.nil_append]
  have h0 := h _ rfl
  (repeat refine Stp.h ?_)
  refine u__law_of cv ?_
  (repeat refine Stp.h ?_)
  refine un_Function ⟨cs, hb, hne⟩ ?_
  (repeat refine Stp.h ?_)
  exact h0
theorem ok__law_seen (B : Bi K mg C F) (A : At K mg "_law_seen" "_law_seen" (top 89)) (m_top : Mt P w K mg base C F F 1 "top" km_top) (m_side : Mt P w K mg base C F F 1 "side" km_side) (m_bottom : Mt P w K mg base C F F 1 "bottom" km_bottom) : Fn P w K mg base C F 2 "_law_seen" k__law_seen := by
  obtain ⟨f, fd, Fd, hm⟩ := A
  refine ⟨⟨f, fd, ["_law_function"], ?_, hm, Fd.kp, Fd.bindsN fun _ _ _ _ _ _ us hl => match us, hl with | [_], _ => rfl⟩, mon_cF⟩
  have S : FnScope ["_law_function"] ["_law_function"] (defScope (top 89)) := ⟨rfl, rfl, rfl, by decide +kernel, rfl, by decide +kernel, by decide +kernel⟩
  obtain ⟨pr, BPR, BPRt⟩ := B.PR
  refine fn_ok (k := 1) Fd S (len_cF fun _ => rfl) fun g cdv A outer s H E hr => ?_
  have hu := hu_of hr
  have hu1 := hu1_of hr
  refine ⟨_, _, (ss_one (st_ret (de_tup (da_cons (de_methF m_top hr (de_var 0)) (da_cons (de_methF m_side hr (de_var 0)) (da_cons (de_methF m_bottom hr (de_var 0)) da_nil)))))), ?_⟩
  intro ds n Φ hh
  obtain ⟨⟨q, f, a, b, c⟩, rfl, -, h⟩ := hh
  try dsimp only at hl
  have hlim : lim = 1000000 := rfl
  simp only [slots0, List.map_cons, List.map_nil, List.length_cons, List.length_nil, Nat.reduceAdd, Nat.reduceSub, List.replicate, List.cons_append, List.nil_append]
  have h0 := h _ rfl
  (repeat refine Stp.h ?_)
  exact h0
theorem ok__law_nought (B : Bi K mg C F) (A : At K mg "_law_nought" "_law_nought" (top 90)) : Fn P w K mg base C F 1 "_law_nought" k__law_nought := by
  obtain ⟨f, fd, Fd, hm⟩ := A
  refine ⟨⟨f, fd, ["_law_one"], ?_, hm, Fd.kp, Fd.bindsN fun _ _ _ _ _ _ us hl => match us, hl with | [_], _ => rfl⟩, mon_cF⟩
  have S : FnScope ["_law_one"] ["_law_one"] (defScope (top 90)) := ⟨rfl, rfl, rfl, by decide +kernel, rfl, by decide +kernel, by decide +kernel⟩
  obtain ⟨pr, BPR, BPRt⟩ := B.PR
  refine fn_ok (k := 0) Fd S (len_cF fun _ => rfl) fun g cdv A outer s H E hr => ?_
  have hu := hu_of hr
  have hu1 := hu1_of hr
  refine ⟨_, _, (ss_one (st_ret (de_and (de_cmp (o_eq hu) (de_ix (de_var 0) de_int) (DEf.de (df_lst da_nil))) (de_one (de_cmp (o_eq hu) (de_ix (de_var 0) de_int) (DEf.de (df_lst da_nil))))))), ?_⟩
  intro ds n Φ hh
  obtain ⟨t, rfl, -, h⟩ := hh
  try dsimp only at hl
  have hlim : lim = 1000000 := rfl
  simp only [slots0, List.map_cons, List.map_nil, List.length_cons, List.length_nil, Nat.reduceAdd, Nat.reduceSub, List.replicate, List.cons_append, List.nil_append]
  have h0 := h _ rfl
  try dsimp only at h0
  (repeat refine Stp.h ?_)
  by_cases ha : t.1 = []
  · rw [decide_eq_true ha, Bool.true_and] at h0
    rw [decide_eq_true ha]
    (repeat refine Stp.h ?_)
    exact h0
  · rw [decide_eq_false ha, Bool.false_and] at h0
    rw [decide_eq_false ha]
    (repeat refine Stp.h ?_)
    exact h0
theorem ok__law_same (B : Bi K mg C F) (A : At K mg "_law_same" "_law_same" (top 91)) (c__law_mul : Fn P w K mg base C F 2 "_law_mul" k__law_mul) : Fn P w K mg base C F 3 "_law_same" k__law_same := by
  obtain ⟨f, fd, Fd, hm⟩ := A
  refine ⟨⟨f, fd, ["_law_told", "_law_one", "_law_other"], ?_, hm, Fd.kp, Fd.bindsN fun _ _ _ _ _ _ us hl => match us, hl with | [_, _, _], _ => rfl⟩, mon_cF⟩
  have S : FnScope ["_law_told", "_law_one", "_law_other", "_law_p", "_law_at"] ["_law_told", "_law_one", "_law_other"] (defScope (top 91)) := ⟨rfl, rfl, rfl, by decide +kernel, rfl, by decide +kernel, by decide +kernel⟩
  obtain ⟨pr, BPR, BPRt⟩ := B.PR
  refine fn_ok (k := 2) Fd S (len_cF fun _ => rfl) fun g cdv A outer s H E hr => ?_
  have hu := hu_of hr
  have hu1 := hu1_of hr
  refine ⟨_, _, (ss_cons (st_set 3 S.nd (de_ix (de_var 0) de_int)) (ss_one (st_ret (de_cmp (o_eq hu) (DEf.de (df_lc [("_law_at", 4)] rfl S.nd (di_rng1 de_int rfl B.range) (blkOk (N := ["_law_told", "_law_one", "_law_other", "_law_p", "_law_at"]) (sc := (defScope (top 91))) (by decide +kernel)) (fun _ _ _ _ _ => tg_name 4 S.nd) tgin_name (fun _ _ _ _ _ => (dts_one (db_cmp (o_ne hu) (de_call c__law_mul hr (da_cons (de_var 3) (da_cons (de_ix (de_var 1) (de_var 4)) (da_cons (de_ix (de_var 2) de_int) da_nil)))) (de_call c__law_mul hr (da_cons (de_var 3) (da_cons (de_ix (de_var 2) (de_var 4)) (da_cons (de_ix (de_var 1) de_int) da_nil))))))) (fun _ _ _ _ _ => (de_var 4)))) (DEf.de (df_lst da_nil)))))), ?_⟩
  intro ds n Φ hh
  obtain ⟨⟨⟨p, hp⟩, f, t⟩, rfl, ⟨⟨ca, cb, cc⟩, ⟨t1, t2, t3⟩⟩, h⟩ := hh
  try dsimp only at hl
  have hlim : lim = 1000000 := rfl
  simp only [slots0, List.map_cons, List.map_nil, List.length_cons, List.length_nil, Nat.reduceAdd, Nat.reduceSub, List.replicate, List.cons_append, List.nil_append]
  have h0 := h _ rfl
  dsimp only at ca cb cc t1 t2 t3
  have hlig : lig = 200000 := rfl
  (repeat refine Stp.h ?_)
  refine j_mR ⟨by decide, by decide⟩ ?_
  (repeat refine Stp.h ?_)
  refine q_lc (by rw [rng_len]; decide) ?_
  refine lcW_fil (fun _ => false) ?_ ?_
  · intro d hd n Ψ hΨ
    have : d = .int 0 ∨ d = .int 1 := by
      obtain ⟨i, hi, rfl⟩ := List.mem_map.mp hd
      have : i < 2 := List.mem_range.mp hi
      rcases (by omega : i = 0 ∨ i = 1) with rfl | rfl
      · exact .inl rfl
      · exact .inr rfl
    rcases this with rfl | rfl
    · (repeat refine Stp.h ?_)
      refine u__law_mul ⟨by omega, by omega, Can.sm ca⟩ ?_
      (repeat refine Stp.h ?_)
      refine u__law_mul ⟨by omega, by omega, Can.sm ca⟩ ?_
      (repeat refine Stp.h ?_)
      refine q_b (w := false) (by rw [decide_eq_true rfl]; rfl) ?_
      (repeat refine Stp.h ?_)
      exact hΨ
    · (repeat refine Stp.h ?_)
      refine u__law_mul ⟨by omega, by omega, Can.sm cb⟩ ?_
      (repeat refine Stp.h ?_)
      refine u__law_mul ⟨by omega, by omega, Can.sm cb⟩ ?_
      (repeat refine Stp.h ?_)
      refine q_b (w := false) (by rw [decide_eq_true rfl]; rfl) ?_
      (repeat refine Stp.h ?_)
      exact hΨ
  · rw [List.filter_eq_nil_iff.mpr (by simp)]
    (repeat refine Stp.h ?_)
    exact h0
theorem ok__law_least (B : Bi K mg C F) (A : At K mg "_law_least" "_law_least" (top 92)) (c__law_common : Fn P w K mg base C F 4 "_law_common" k__law_common) (c__law_whole : Fn P w K mg base C F 3 "_law_whole" k__law_whole) (c__law_back : Fn P w K mg base C F 1 "_law_back" k__law_back) (c__law_scale : Fn P w K mg base C F 2 "_law_scale" k__law_scale) : Fn P w K mg base C F 5 "_law_least" k__law_least := by
  obtain ⟨f, fd, Fd, hm⟩ := A
  refine ⟨⟨f, fd, ["_law_told", "_law_one"], ?_, hm, Fd.kp, Fd.bindsN fun _ _ _ _ _ _ us hl => match us, hl with | [_, _], _ => rfl⟩, mon_cF⟩
  have S : FnScope ["_law_told", "_law_one", "_law_p", "_law_common_here", "_law_found", "_law_back_here", "_law_part"] ["_law_told", "_law_one"] (defScope (top 92)) := ⟨rfl, rfl, rfl, by decide +kernel, rfl, by decide +kernel, by decide +kernel⟩
  obtain ⟨pr, BPR, BPRt⟩ := B.PR
  refine fn_ok (k := 4) Fd S (len_cF fun _ => rfl) fun g cdv A outer s H E hr => ?_
  have hu := hu_of hr
  have hu1 := hu1_of hr
  refine ⟨_, _, (ss_cons (st_set 2 S.nd (de_ix (de_var 0) de_int)) (ss_cons (st_set 3 S.nd (de_call c__law_common hr (da_cons (de_var 2) (da_cons (de_call c__law_common hr (da_cons (de_var 2) (da_cons (de_ix (de_var 1) de_int) (da_cons (de_ix (de_var 1) de_int) da_nil)))) (da_cons (de_ix (de_var 1) de_int) da_nil))))) (ss_cons (st_setLc 4 [("_law_part", 6)] rfl S.nd (di_tup (de_var 1)) (blkOk (N := ["_law_told", "_law_one", "_law_p", "_law_common_here", "_law_found", "_law_back_here", "_law_part"]) (sc := (defScope (top 92))) (by decide +kernel)) (fun _ _ _ _ _ => tg_name 6 S.nd) tgin_name (fun _ _ _ _ _ => dts_nil) (fun _ _ _ _ _ => (de_call c__law_whole hr (da_cons (de_var 2) (da_cons (de_var 6) (da_cons (de_var 3) da_nil)))))) (ss_frz 4 (ss_cons (st_set 5 S.nd (de_call c__law_back hr (da_cons (de_var 2) (da_cons (de_ix (de_ix (de_var 4) de_int) (de_neg de_int)) da_nil)))) (ss_one (st_ret (de_tup (da_cons (de_call c__law_scale hr (da_cons (de_var 2) (da_cons (de_ix (de_var 4) de_int) (da_cons (de_var 5) da_nil)))) (da_cons (de_call c__law_scale hr (da_cons (de_var 2) (da_cons (de_ix (de_var 4) de_int) (da_cons (de_var 5) da_nil)))) (da_cons (de_call c__law_scale hr (da_cons (de_var 2) (da_cons (de_ix (de_var 4) de_int) (da_cons (de_var 5) da_nil)))) da_nil))))))))))), ?_⟩
  intro ds n Φ hh
  obtain ⟨⟨⟨p, hp⟩, f, t⟩, rfl, ⟨⟨ca, cb, cc⟩, ⟨t1, t2, t3⟩, hne⟩, h⟩ := hh
  try dsimp only at hl
  have hlim : lim = 1000000 := rfl
  simp only [slots0, List.map_cons, List.map_nil, List.length_cons, List.length_nil, Nat.reduceAdd, Nat.reduceSub, List.replicate, List.cons_append, List.nil_append]
  have h0 := h _ rfl
  dsimp only at ca cb cc t1 t2 t3 hne h0
  have hlig : lig = 200000 := rfl
  have hlim' : lim = 1000000 := rfl
  have hc := Can.ne cc hne
  have plt := Pr.lt (p := p)
  (repeat refine Stp.h ?_)
  refine u__law_common ⟨⟨by omega, by omega⟩, cc, ca⟩ ?_
  intro g1 hg1
  have lg1 := len_gcdL hg1
  (repeat refine Stp.h ?_)
  refine u__law_common ⟨⟨by omega, by omega⟩, hg1.c, cb⟩ ?_
  intro g hg
  have lg := len_gcdL hg
  have cm := (com_of hg1 hg).rot
  have gn := cm.g0 hc
  (repeat refine Stp.h ?_)
  refine q_lc (by simp) ?_
  refine lcW_map (fun x : List Int => L x) (fun x => L (quoP p x g)) [t.1, t.2.1, t.2.2] ?_ ?_
  · intro x hx m Ψ hΨ
    have lx : x.length ≤ lig ∧ Can p x := by
      rcases List.mem_cons.mp hx with e | hx
      · rw [e]; exact ⟨t1, ca⟩
      rcases List.mem_cons.mp hx with e | hx
      · rw [e]; exact ⟨t2, cb⟩
      · rw [List.mem_singleton.mp hx]; exact ⟨t3, cc⟩
    (repeat refine Stp.h ?_)
    refine u__law_whole ⟨⟨lx.1, by omega⟩, lx.2, cm.cg, gn⟩ ?_
    (repeat refine Stp.h ?_)
    exact hΨ
  have qn := cm.quo hc
  have cq := can_quo (a := t.2.2) cm.cg gn
  rw [List.map_cons, List.map_cons, List.map_cons, List.map_nil]
  (repeat refine Stp.h ?_)
  refine j_ixl (atI_ints (atI_last qn)) ?_
  (repeat refine Stp.h ?_)
  refine u__law_back (last_ne cq qn) ?_
  intro r r1 r2 r3
  rw [least_of cm hc r3] at h0
  have q1 := len_quo_le (a := t.1) cm.cg gn
  have q2 := len_quo_le (a := t.2.1) cm.cg gn
  have q3 := len_quo_le (a := t.2.2) cm.cg gn
  (repeat refine Stp.h ?_)
  refine u__law_scale ⟨by omega, by omega, by omega⟩ ?_
  (repeat refine Stp.h ?_)
  refine u__law_scale ⟨by omega, by omega, by omega⟩ ?_
  (repeat refine Stp.h ?_)
  refine u__law_scale ⟨by omega, by omega, by omega⟩ ?_
  (repeat refine Stp.h ?_)
  exact h0
theorem ok__law_slope (B : Bi K mg C F) (A : At K mg "_law_slope" "_law_slope" (top 94)) (c__law_fall : Fn P w K mg base C F 2 "_law_fall" k__law_fall) (c__law_add : Fn P w K mg base C F 2 "_law_add" k__law_add) (c__law_mul : Fn P w K mg base C F 2 "_law_mul" k__law_mul) (c__law_scale : Fn P w K mg base C F 2 "_law_scale" k__law_scale) (c__law_least : Fn P w K mg base C F 5 "_law_least" k__law_least) : Fn P w K mg base C F 6 "_law_slope" k__law_slope := by
  obtain ⟨f, fd, Fd, hm⟩ := A
  refine ⟨⟨f, fd, ["_law_told", "_law_one"], ?_, hm, Fd.kp, Fd.bindsN fun _ _ _ _ _ _ us hl => match us, hl with | [_, _], _ => rfl⟩, mon_cF⟩
  have S : FnScope ["_law_told", "_law_one", "_law_falls", "_law_low", "_law_high", "_law_twice", "_law_side", "_law_p", "_law_f", "_law_part"] ["_law_told", "_law_one"] (defScope (top 94)) := ⟨rfl, rfl, rfl, by decide +kernel, rfl, by decide +kernel, by decide +kernel⟩
  obtain ⟨pr, BPR, BPRt⟩ := B.PR
  refine fn_ok (k := 5) Fd S (len_cF fun _ => rfl) fun g cdv A outer s H E hr => ?_
  have hu := hu_of hr
  have hu1 := hu1_of hr
  refine ⟨_, _, (ss_cons (st_asg (de_var 0) (tg_tup rfl (tgs_cons 7 (tgs_cons 8 tgs_nil S.nd) S.nd))) (ss_cons (st_setLc 2 [("_law_part", 9)] rfl S.nd (di_tup (de_var 1)) (blkOk (N := ["_law_told", "_law_one", "_law_falls", "_law_low", "_law_high", "_law_twice", "_law_side", "_law_p", "_law_f", "_law_part"]) (sc := (defScope (top 94))) (by decide +kernel)) (fun _ _ _ _ _ => tg_name 9 S.nd) tgin_name (fun _ _ _ _ _ => dts_nil) (fun _ _ _ _ _ => (de_call c__law_fall hr (da_cons (de_var 7) (da_cons (de_var 9) da_nil))))) (ss_frz 2 (ss_cons (st_set 3 S.nd (de_call c__law_add hr (da_cons (de_var 7) (da_cons (de_call c__law_mul hr (da_cons (de_var 7) (da_cons (de_ix (de_var 2) de_int) (da_cons (de_ix (de_var 1) de_int) da_nil)))) (da_cons (de_call c__law_scale hr (da_cons (de_var 7) (da_cons (de_call c__law_mul hr (da_cons (de_var 7) (da_cons (de_ix (de_var 1) de_int) (da_cons (de_ix (de_var 2) de_int) da_nil)))) (da_cons (de_neg de_int) da_nil)))) da_nil))))) (ss_cons (st_set 4 S.nd (de_call c__law_add hr (da_cons (de_var 7) (da_cons (de_call c__law_mul hr (da_cons (de_var 7) (da_cons (de_ix (de_var 2) de_int) (da_cons (de_ix (de_var 1) de_int) da_nil)))) (da_cons (de_call c__law_scale hr (da_cons (de_var 7) (da_cons (de_call c__law_mul hr (da_cons (de_var 7) (da_cons (de_ix (de_var 1) de_int) (da_cons (de_ix (de_var 2) de_int) da_nil)))) (da_cons (de_neg de_int) da_nil)))) da_nil))))) (ss_cons (st_set 5 S.nd (de_call c__law_scale hr (da_cons (de_var 7) (da_cons (de_var 8) (da_cons de_int da_nil))))) (ss_cons (st_set 6 S.nd (de_call c__law_add hr (da_cons (de_var 7) (da_cons (de_call c__law_mul hr (da_cons (de_var 7) (da_cons (de_var 4) (da_cons (de_var 5) da_nil)))) (da_cons (de_call c__law_mul hr (da_cons (de_var 7) (da_cons (de_call c__law_mul hr (da_cons (de_var 7) (da_cons (de_ix (de_var 1) de_int) (da_cons (de_ix (de_var 1) de_int) da_nil)))) (da_cons (de_call c__law_fall hr (da_cons (de_var 7) (da_cons (de_var 8) da_nil))) da_nil)))) da_nil))))) (ss_one (st_ret (de_call c__law_least hr (da_cons (de_var 0) (da_cons (de_tup (da_cons (de_call c__law_mul hr (da_cons (de_var 7) (da_cons (de_var 3) (da_cons (de_var 5) da_nil)))) (da_cons (de_var 6) (da_cons (de_call c__law_mul hr (da_cons (de_var 7) (da_cons (de_call c__law_mul hr (da_cons (de_var 7) (da_cons (de_ix (de_var 1) de_int) (da_cons (de_ix (de_var 1) de_int) da_nil)))) (da_cons (de_var 5) da_nil)))) da_nil)))) da_nil)))))))))))), ?_⟩
  intro ds n Φ hh
  obtain ⟨⟨⟨p, hp⟩, f, t⟩, rfl, ht, h⟩ := hh
  try dsimp only at hl
  have hlim : lim = 1000000 := rfl
  simp only [slots0, List.map_cons, List.map_nil, List.length_cons, List.length_nil, Nat.reduceAdd, Nat.reduceSub, List.replicate, List.cons_append, List.nil_append]
  have h0 := h _ rfl
  dsimp only at h0 ht
  have hlig : lig = 200000 := rfl
  have hnfn : nfn = 5000 := rfl
  obtain ⟨t1, t2, t3⟩ := ht.b
  have lf := ht.cv.len
  have fc := ht.cv.can
  have lf2 := ht.cv.len
  clear lf
  have q1 : (sclP p f 2).length ≤ 8 := lc lf2 2
  have q2 : (fallP p t.2.2).length ≤ 5000 := lf t3
  have q3 : (fallP p t.1).length ≤ 5000 := lf t1
  have q4 : (fallP p t.2.1).length ≤ 5000 := lf t2
  have q5 : (fallP p f).length ≤ 8 := lf lf2
  have m1 : (mulP p (fallP p t.1) t.2.2).length ≤ 10000 := lm q3 t3
  have m2 : (mulP p t.1 (fallP p t.2.2)).length ≤ 10000 := lm t1 q2
  have m3 : (mulP p (fallP p t.2.1) t.2.2).length ≤ 10000 := lm q4 t3
  have m4 : (mulP p t.2.1 (fallP p t.2.2)).length ≤ 10000 := lm t2 q2
  have m5 : (subP p (mulP p (fallP p t.1) t.2.2) (mulP p t.1 (fallP p t.2.2))).length ≤ 20000 := ls m1 m2
  have m6 : (subP p (mulP p (fallP p t.2.1) t.2.2) (mulP p t.2.1 (fallP p t.2.2))).length ≤ 20000 := ls m3 m4
  have m7 : (mulP p (subP p (mulP p (fallP p t.2.1) t.2.2) (mulP p t.2.1 (fallP p t.2.2))) (sclP p f 2)).length ≤ 20008 := lm m6 q1
  have m8 : (mulP p t.2.1 (fallP p f)).length ≤ 5008 := lm t2 q5
  have m9 : (mulP p (mulP p t.2.1 (fallP p f)) t.2.2).length ≤ 10008 := lm m8 t3
  have m10 : (mulP p t.2.2 t.2.2).length ≤ 10000 := lm t3 t3
  (repeat refine Stp.h ?_)
  refine q_lc (by simp) ?_
  refine lcW_map (fun x : List Int => L x) (fun x => L (fallP p x)) [t.1, t.2.1, t.2.2] ?_ ?_
  · intro x hx m Ψ hΨ
    have lx : x.length ≤ 5000 := by
      rcases List.mem_cons.mp hx with e | hx
      · rw [e]; exact t1
      rcases List.mem_cons.mp hx with e | hx
      · rw [e]; exact t2
      · rw [List.mem_singleton.mp hx]; exact t3
    (repeat refine Stp.h ?_)
    refine u__law_fall (by omega) ?_
    (repeat refine Stp.h ?_)
    exact hΨ
  rw [List.map_cons, List.map_cons, List.map_cons, List.map_nil]
  (repeat refine Stp.h ?_)
  refine u__law_mul ⟨by omega, by omega, Can.sm (can_fall _)⟩ ?_
  (repeat refine Stp.h ?_)
  refine u__law_mul ⟨by omega, by omega, Can.sm ht.ca⟩ ?_
  (repeat refine Stp.h ?_)
  refine u__law_scale ⟨by omega, by omega, by omega⟩ ?_
  (repeat refine Stp.h ?_)
  refine u__law_add ⟨by omega, by have := len_scl (p := p) (mulP p t.1 (fallP p t.2.2)) (-1); omega⟩ ?_
  rw [sub_scl]
  (repeat refine Stp.h ?_)
  refine u__law_mul ⟨by omega, by omega, Can.sm (can_fall _)⟩ ?_
  (repeat refine Stp.h ?_)
  refine u__law_mul ⟨by omega, by omega, Can.sm ht.cb⟩ ?_
  (repeat refine Stp.h ?_)
  refine u__law_scale ⟨by omega, by omega, by omega⟩ ?_
  (repeat refine Stp.h ?_)
  refine u__law_add ⟨by omega, by have := len_scl (p := p) (mulP p t.2.1 (fallP p t.2.2)) (-1); omega⟩ ?_
  rw [sub_scl]
  (repeat refine Stp.h ?_)
  refine u__law_scale ⟨by omega, by omega, by omega⟩ ?_
  have m11 : (mulP p t.2.1 t.2.2).length ≤ 10000 := lm t2 t3
  have m12 : (mulP p (mulP p t.2.1 t.2.2) (fallP p f)).length ≤ 10008 := lm m11 q5
  (repeat refine Stp.h ?_)
  refine u__law_mul ⟨by omega, by omega, Can.sm (can_sub _ _)⟩ ?_
  (repeat refine Stp.h ?_)
  refine u__law_mul ⟨by omega, by omega, Can.sm ht.cb⟩ ?_
  (repeat refine Stp.h ?_)
  refine u__law_fall (by omega) ?_
  (repeat refine Stp.h ?_)
  refine u__law_mul ⟨by omega, by omega, Can.sm (can_mul _ _)⟩ ?_
  (repeat refine Stp.h ?_)
  refine u__law_add ⟨by omega, by omega⟩ ?_
  rw [mul_sw]
  have l1 : (slA p f t.1 t.2.2).length ≤ 20008 := lm m5 q1
  have l2 : (slB p f t.2.1 t.2.2).length ≤ 20008 + 10008 := la m7 m9
  have l3 : (slC p f t.2.2).length ≤ 10008 := lm m10 q1
  (repeat refine Stp.h ?_)
  refine u__law_mul ⟨by omega, by omega, Can.sm (can_sub _ _)⟩ ?_
  (repeat refine Stp.h ?_)
  refine u__law_mul ⟨by omega, by omega, Can.sm ht.cc⟩ ?_
  (repeat refine Stp.h ?_)
  refine u__law_mul ⟨by omega, by omega, Can.sm (can_mul _ _)⟩ ?_
  (repeat refine Stp.h ?_)
  refine u__law_least (t := (slA p f t.1 t.2.2, slB p f t.2.1 t.2.2, slC p f t.2.2)) ⟨⟨can_mul _ _, can_add _ _, can_mul _ _⟩, ⟨by dsimp only; omega, by dsimp only; omega, by dsimp only; omega⟩, sr_ne (slC_ne ht.cv.s0 ht.nm)⟩ ?_
  (repeat refine Stp.h ?_)
  exact h0
theorem ok__law_parts (B : Bi K mg C F) (A : At K mg "_law_parts" "_law_parts" (top 95)) (c__law_power : Fn P w K mg base C F 3 "_law_power" k__law_power) (c__law_mul : Fn P w K mg base C F 2 "_law_mul" k__law_mul) (c__law_least : Fn P w K mg base C F 5 "_law_least" k__law_least) (c__law_trim : Fn P w K mg base C F 1 "_law_trim" k__law_trim) : Fn P w K mg base C F 6 "_law_parts" k__law_parts := by
  obtain ⟨f, fd, Fd, hm⟩ := A
  refine ⟨⟨f, fd, ["_law_told", "_law_one"], ?_, hm, Fd.kp, Fd.bindsN fun _ _ _ _ _ _ us hl => match us, hl with | [_, _], _ => rfl⟩, mon_cF⟩
  have S : FnScope ["_law_told", "_law_one", "_law_rest_here", "_law_low", "_law_high", "_law_below", "_law_found", "_law_first", "_law_p", "_law_f"] ["_law_told", "_law_one"] (defScope (top 95)) := ⟨rfl, rfl, rfl, by decide +kernel, rfl, by decide +kernel, by decide +kernel⟩
  obtain ⟨pr, BPR, BPRt⟩ := B.PR
  refine fn_ok (k := 5) Fd S (len_cF fun _ => rfl) fun g cdv A outer s H E hr => ?_
  have hu := hu_of hr
  have hu1 := hu1_of hr
  refine ⟨_, _, (ss_cons (st_asg (de_var 0) (tg_tup rfl (tgs_cons 8 (tgs_cons 9 tgs_nil S.nd) S.nd))) (ss_cons (st_set 2 S.nd (de_call c__law_power hr (da_cons (de_var 8) (da_cons (de_ix (de_var 1) de_int) (da_cons (de_op o_sub (de_var 8) de_int) da_nil))))) (ss_cons (st_set 3 S.nd (de_call c__law_mul hr (da_cons (de_var 8) (da_cons (de_ix (de_var 1) de_int) (da_cons (de_var 2) da_nil))))) (ss_cons (st_set 4 S.nd (de_call c__law_mul hr (da_cons (de_var 8) (da_cons (de_call c__law_mul hr (da_cons (de_var 8) (da_cons (de_ix (de_var 1) de_int) (da_cons (de_var 2) da_nil)))) (da_cons (de_call c__law_power hr (da_cons (de_var 8) (da_cons (de_var 9) (da_cons (de_op o_fdiv (de_op o_add (de_var 8) de_int) de_int) da_nil)))) da_nil))))) (ss_cons (st_set 5 S.nd (de_call c__law_mul hr (da_cons (de_var 8) (da_cons (de_ix (de_var 1) de_int) (da_cons (de_var 9) da_nil))))) (ss_cons (st_own 6 S.nd (df_lst da_nil)) (ss_cons (st_for PassesOwn.never rfl (di_rng1 (de_var 8) rfl B.range) (tg_name 7 S.nd) (ss_one (st_app 6 (de_call c__law_least hr (da_cons (de_var 0) (da_cons (de_tup (da_cons (de_call c__law_mul hr (da_cons (de_var 8) (da_cons (de_call c__law_trim hr (da_cons (de_var 8) (da_cons (DEf.de (df_stride (de_var 3) (de_var 7) (de_var 8))) da_nil))) (da_cons (de_var 9) da_nil)))) (da_cons (de_call c__law_trim hr (da_cons (de_var 8) (da_cons (DEf.de (df_stride (de_var 4) (de_var 7) (de_var 8))) da_nil))) (da_cons (de_var 5) da_nil)))) da_nil)))))) (ss_frz 6 (ss_one (st_ret (de_var 6))))))))))), ?_⟩
  intro ds n Φ hh
  obtain ⟨⟨⟨p, hp⟩, f, t⟩, rfl, ht, h⟩ := hh
  try dsimp only at hl
  have hlim : lim = 1000000 := rfl
  simp only [slots0, List.map_cons, List.map_nil, List.length_cons, List.length_nil, Nat.reduceAdd, Nat.reduceSub, List.replicate, List.cons_append, List.nil_append]
  have h0 := h _ rfl
  dsimp only at h0 ht
  have hlig : lig = 200000 := rfl
  have hnfn : nfn = 5000 := rfl
  obtain ⟨t1, t2, t3⟩ := ht.b
  have lf := ht.cv.len
  have pg := Pr.gt (p := p)
  have plt := Pr.lt (p := p)
  have fc := ht.cv.can
  have e1 : (p : Int) - 1 = ((p - 1 : Nat) : Int) := by omega
  have e2 : ((p : Int) + 1) / 2 = ((hf p : Nat) : Int) := by unfold hf; omega
  have r1 : (p - 1 + 1) * t.2.2.length ≤ 11 * t.2.2.length := Nat.mul_le_mul_right _ (by omega)
  have r2 : (p - 1) * t.2.2.length ≤ 11 * t.2.2.length := Nat.mul_le_mul_right _ (by omega)
  have l1 := len_pow (p := p) t.2.2 (p - 1)
  have l2 := len_mul (p := p) t.2.1 (powP p t.2.2 (p - 1))
  have l3 := len_hf ht.cv
  have l4 := hf_le (p := p)
  have r3 : (hf p + 1) * f.length ≤ 7 * 8 := Nat.mul_le_mul (by omega) lf
  (repeat refine Stp.h ?_)
  rw [e1]
  (repeat refine Stp.h ?_)
  refine u__law_power ⟨by omega, by omega⟩ ?_
  (repeat refine Stp.h ?_)
  refine u__law_mul ⟨by omega, by omega, Can.sm ht.ca⟩ ?_
  (repeat refine Stp.h ?_)
  refine u__law_mul ⟨by omega, by omega, Can.sm ht.cb⟩ ?_
  (repeat refine Stp.h ?_)
  refine j_fdivi ⟨by decide, by decide⟩ ?_
  (repeat refine Stp.h ?_)
  rw [e2]
  (repeat refine Stp.h ?_)
  refine u__law_power ⟨by omega, by omega⟩ ?_
  (repeat refine Stp.h ?_)
  refine u__law_mul ⟨by omega, by omega, Can.sm (can_mul _ _)⟩ ?_
  (repeat refine Stp.h ?_)
  refine u__law_mul ⟨by omega, by omega, Can.sm ht.cc⟩ ?_
  have k1 := len_low (p := p) t.2.2 t.1
  have k2 := len_high ht.cv t.2.2 t.2.1
  have k3 := len_mul (p := p) t.2.2 f
  (repeat refine Stp.h ?_)
  refine j_mR ⟨by omega, by omega⟩ ?_
  rw [Int.toNat_natCast]
  (repeat refine Stp.h ?_)
  refine forW_rng (fun i ρ n' => n' = n ∧ ∃ s9 : Sl, ρ = [.val (Td p f), .val (T t), .val (L (powP p t.2.2 (p - 1))), .val (L (lowP p t.2.2 t.1)), .val (L (highP p f t.2.2 t.2.1)), .val (L (mulP p t.2.2 f)), .own ((List.range i).map fun i => T (partP p f t i)), s9, .val (I p), .val (L f)]) ⟨rfl, _, rfl⟩ ?_ ?_
  · rintro i ρ n' N hi ⟨rfl, s9, rfl⟩ hN
    rw [Int.zero_add]
    have e3 := len_evy (p := p) (lowP p t.2.2 t.1) i
    have e4 := len_evy (p := p) (highP p f t.2.2 t.2.1) i
    have e5 := len_mul (p := p) (evyP p (lowP p t.2.2 t.1) i) f
    have sl : ∀ xs : List Int, (strideI xs (i : Int) (p : Int)).length ≤ xs.length := fun xs => stride_len xs _ _ (by omega) (by omega)
    have sl1 := sl (lowP p t.2.2 t.1)
    have sl2 := sl (highP p f t.2.2 t.2.1)
    (repeat refine Stp.h ?_)
    refine j_mS2 ⟨by omega, by omega⟩ ?_
    rw [strideI_map]
    (repeat refine Stp.h ?_)
    refine u__law_trim (by omega) ?_
    rw [trm_evy _ hi]
    (repeat refine Stp.h ?_)
    refine u__law_mul ⟨by omega, by omega, Can.sm (can_evy _ _)⟩ ?_
    (repeat refine Stp.h ?_)
    refine j_mS2 ⟨by omega, by omega⟩ ?_
    rw [strideI_map]
    (repeat refine Stp.h ?_)
    refine u__law_trim (by omega) ?_
    rw [trm_evy _ hi]
    (repeat refine Stp.h ?_)
    refine u__law_least (t := (mulP p (evyP p (lowP p t.2.2 t.1) i) f, evyP p (highP p f t.2.2 t.2.1) i, mulP p t.2.2 f)) ⟨⟨can_mul _ _, can_evy _ _, can_mul _ _⟩, ⟨by dsimp only; omega, by dsimp only; omega, by dsimp only; omega⟩, sr_ne (part_ne ht.cv.s0 ht.nm)⟩ ?_
    (repeat refine Stp.h ?_)
    refine q_app (by simp; omega) ?_
    rintro ρ' rfl
    refine hN _ _ ⟨rfl, .val (I i), ?_⟩
    rw [List.range_succ, List.map_append]
    rfl
  · rintro ρ n' ⟨rfl, s9, rfl⟩
    (repeat refine Stp.h ?_)
    exact h0
end KH
end
section
set_option Elab.async false
set_option linter.all false
set_option maxRecDepth 100000
set_option maxHeartbeats 2000000
namespace KH
open PySem PySem.Spec PyProof.Rows L2 DL
open MK hiding D X
variable {P : Program} {w : World} {K : PySem.W.Frag} {mg : Str → Option Value} {base : Heap} {C F : Addr}
theorem ok__law_poly (B : Bi K mg C F) (A : At K mg "_law_poly" "_law_poly" (top 84)) (c__law_trim : Fn P w K mg base C F 1 "_law_trim" k__law_trim) (c__law_random : Fn P w K mg base C F 2 "_law_random" k__law_random) : Fn P w K mg base C F 3 "_law_poly" k__law_poly := by
  obtain ⟨f, fd, Fd, hm⟩ := A
  refine ⟨⟨f, fd, ["_law_generator_here", "_law_p", "_law_most"], ?_, hm, Fd.kp, Fd.bindsN fun _ _ _ _ _ _ us hl => match us, hl with | [_, _, _], _ => rfl⟩, mon_gF⟩
  have S : FnScope ["_law_generator_here", "_law_p", "_law_most", "_law_turn"] ["_law_generator_here", "_law_p", "_law_most"] (defScope (top 84)) := ⟨rfl, rfl, rfl, by decide +kernel, rfl, by decide +kernel, by decide +kernel⟩
  obtain ⟨pr, BPR, BPRt⟩ := B.PR
  refine fn_ok (k := 2) Fd S (len_gF fun _ => rfl) fun g cdv A outer s H E hr => ?_
  have hu := hu_of hr
  have hu1 := hu1_of hr
  refine ⟨_, _, (ss_one (st_ret (de_call c__law_trim hr (da_cons (de_var 1) (da_cons (DEf.de (df_lc [("_law_turn", 3)] rfl S.nd (di_rng1 (de_call c__law_random hr (da_cons (de_var 0) (da_cons (de_op o_add (de_var 2) de_int) da_nil))) rfl B.range) (blkOk (N := ["_law_generator_here", "_law_p", "_law_most", "_law_turn"]) (sc := (defScope (top 84))) (by decide +kernel)) (fun _ _ _ _ _ => tg_name 3 S.nd) tgin_name (fun _ _ _ _ _ => dts_nil) (fun _ _ _ _ _ => (de_call c__law_random hr (da_cons (de_var 0) (da_cons (de_var 1) da_nil)))))) da_nil))))), ?_⟩
  intro ds n Φ hh
  obtain ⟨⟨⟨p, hp⟩, m⟩, rfl, hm, hn, h⟩ := hh
  try dsimp only at hl
  have hlim : lim = 1000000 := rfl
  simp only [slots0, List.map_cons, List.map_nil, List.length_cons, List.length_nil, Nat.reduceAdd, Nat.reduceSub, List.replicate, List.cons_append, List.nil_append]
  dsimp only at hm hn h
  have pg := Pr.gt (p := p)
  have plt := Pr.lt (p := p)
  (repeat refine Stp.h ?_)
  refine u__law_random ⟨by omega, by omega⟩ (by omega) ?_
  intro r n1 hn1 r0 r1
  (repeat refine Stp.h ?_)
  refine j_mR ⟨by omega, by omega⟩ ?_
  have lr : (rng 0 r.toNat).length = r.toNat := rng_len 0 r.toNat
  (repeat refine Stp.h ?_)
  refine q_lc (by omega) ?_
  refine lcW_draw (p : Int) (by omega) ?_ ?_
  · intro d hd k Ψ hk hΨ
    (repeat refine Stp.h ?_)
    refine u__law_random ⟨by omega, by omega⟩ hk ?_
    intro r' m' hm' h0 h1
    (repeat refine Stp.h ?_)
    exact hΨ r' m' hm' h0 h1
  · intro xs n2 hn2 hl hx
    (repeat refine Stp.h ?_)
    refine u__law_trim (by omega) ?_
    (repeat refine Stp.h ?_)
    have := len_trm (p := p) xs
    exact h _ n2 (by omega) ⟨_, rfl, can_trm xs, by omega⟩
theorem ok__law_curve (B : Bi K mg C F) (A : At K mg "_law_curve" "_law_curve" (top 85)) (c__law_random : Fn P w K mg base C F 2 "_law_random" k__law_random) (c__law_common : Fn P w K mg base C F 4 "_law_common" k__law_common) (c__law_fall : Fn P w K mg base C F 2 "_law_fall" k__law_fall) : Fn P w K mg base C F 5 "_law_curve" k__law_curve := by
  obtain ⟨f, fd, Fd, hm⟩ := A
  refine ⟨⟨f, fd, ["_law_generator_here", "_law_most"], ?_, hm, Fd.kp, Fd.bindsN fun _ _ _ _ _ _ us hl => match us, hl with | [_, _], _ => rfl⟩, mon_gF⟩
  have S : FnScope ["_law_generator_here", "_law_most", "_law_p", "_law_size", "_law_turn", "_law_found", "_law_drawn", "_law_at"] ["_law_generator_here", "_law_most"] (defScope (top 85)) := ⟨rfl, rfl, rfl, by decide +kernel, rfl, by decide +kernel, by decide +kernel⟩
  obtain ⟨pr, BPR, BPRt⟩ := B.PR
  refine fn_ok (k := 4) Fd S (len_gF fun _ => rfl) fun g cdv A outer s H E hr => ?_
  have hu := hu_of hr
  have hu1 := hu1_of hr
  refine ⟨_, _, (ss_cons (st_set 2 S.nd (de_ix (DEf.de (df_lst (da_cons de_int (da_cons de_int (da_cons de_int (da_cons de_int (da_cons de_int (da_cons de_int da_nil)))))))) (de_call c__law_random hr (da_cons (de_var 0) (da_cons de_int da_nil))))) (ss_cons (st_par 3 5 rfl S.nd (de_ix (DEf.de (df_lst (da_cons de_int (da_cons de_int (da_cons de_int (da_cons de_int (da_cons de_int (da_cons de_int (da_cons de_int da_nil))))))))) (de_call c__law_random hr (da_cons (de_var 0) (da_cons de_int da_nil)))) (DEf.de (df_lst (da_cons de_int (da_cons de_int da_nil))))) (ss_cons (st_set 3 S.nd (de_bi (c_min3 rfl) (da_cons (de_var 3) (da_cons (de_var 1) (da_cons (de_tab3 3 7 5 5 7 3 (de_var 2) hu1) da_nil))) B.min)) (ss_cons (st_for PassesOwn.never rfl (di_rng1 de_int rfl B.range) (tg_name 4 S.nd) (ss_cons (st_set 6 S.nd (de_op o_add (DEf.de (df_lc [("_law_at", 7)] rfl S.nd (di_rng1 (de_var 3) rfl B.range) (blkOk (N := ["_law_generator_here", "_law_most", "_law_p", "_law_size", "_law_turn", "_law_found", "_law_drawn", "_law_at"]) (sc := (defScope (top 85))) (by decide +kernel)) (fun _ _ _ _ _ => tg_name 7 S.nd) tgin_name (fun _ _ _ _ _ => dts_nil) (fun _ _ _ _ _ => (de_call c__law_random hr (da_cons (de_var 0) (da_cons (de_var 2) da_nil)))))) (DEf.de (df_lst (da_cons de_int da_nil))))) (ss_one (st_if (DW.db (dw_and (db_cmp (o_eq hu) (de_bi c_len (da_cons (de_var 5) da_nil) B.len) de_int) (dw_and1 (db_cmp (o_eq hu) (de_bi c_len (da_cons (de_call c__law_common hr (da_cons (de_var 2) (da_cons (de_var 6) (da_cons (de_call c__law_fall hr (da_cons (de_var 2) (da_cons (de_var 6) da_nil))) da_nil)))) da_nil) B.len) de_int)))) (ss_one (st_set 5 S.nd (de_var 6))) ss_nil)))) (ss_one (st_ret (de_tup (da_cons (de_var 2) (da_cons (de_var 5) da_nil))))))))), ?_⟩
  intro ds n Φ hh
  obtain ⟨⟨⟩, rfl, -, hn, h⟩ := hh
  try dsimp only at hl
  have hlim : lim = 1000000 := rfl
  simp only [slots0, List.map_cons, List.map_nil, List.length_cons, List.length_nil, Nat.reduceAdd, Nat.reduceSub, List.replicate, List.cons_append, List.nil_append]
  dsimp only at hn h
  have hlig : lig = 200000 := rfl
  (repeat refine Stp.h ?_)
  refine u__law_random (b := 6) ⟨by decide, by decide⟩ (by omega) ?_
  intro r n1 hn1 r0 r1
  obtain ⟨⟨p, hp⟩, e1, hp3⟩ := pick6 r0 r1
  dsimp only at hp3
  (repeat refine Stp.h ?_)
  refine j_ixl e1 ?_
  (repeat refine Stp.h ?_)
  refine u__law_random (b := 7) ⟨by decide, by decide⟩ (by omega) ?_
  intro r' n2 hn2 r0' r1'
  obtain ⟨s, e2, hs⟩ := pick7 r0' r1'
  (repeat refine Stp.h ?_)
  refine j_ixl e2 ?_
  (repeat refine Stp.h ?_)
  refine q_tab hp3 ?_
  intro v hv
  (repeat refine Stp.h ?_)
  have hsz : min (min s 5) v = 1 ∨ min (min s 5) v = 3 ∨ min (min s 5) v = 5 := by omega
  generalize min (min s 5) v = sz at hsz ⊢
  have lz : (rng 0 sz.toNat).length = sz.toNat := rng_len 0 sz.toNat
  have pg := Pr.gt (p := p)
  have plt := Pr.lt (p := p)
  (repeat refine Stp.h ?_)
  refine j_mR ⟨by decide, by decide⟩ ?_
  (repeat refine Stp.h ?_)
  refine forW_rng (fun i ρ n' => n' ≤ n2 + 5 * i ∧ ∃ (g : List Int) (s4 s6 s7 : Sl), ρ = [.val .gen, .val (I 5), .val (I p), .val (I sz), s4, .val (L g), s6, s7] ∧ CurveOk p g) ⟨by omega, [0, 1], _, _, _, rfl, curve_x⟩ ?_ ?_
  · rintro i ρ n' N hi ⟨hn', g, s4, s6, s7, rfl, cg⟩ hN
    have hi : i < 12 := hi
    (repeat refine Stp.h ?_)
    refine j_mR ⟨by omega, by omega⟩ ?_
    (repeat refine Stp.h ?_)
    refine q_lc (by omega) ?_
    refine lcW_draw (p : Int) (by omega) ?_ ?_
    · intro d hd k Ψ hk hΨ
      (repeat refine Stp.h ?_)
      refine u__law_random ⟨by omega, by omega⟩ hk ?_
      intro r' m' hm' h0 h1
      (repeat refine Stp.h ?_)
      exact hΨ r' m' hm' h0 h1
    · intro xs n3 hn3 hl hx
      (repeat refine Stp.h ?_)
      refine j_addl (by simp; omega) ?_
      have eL : D.lst (xs.map D.int ++ [.int 1]) = L (xs ++ [1]) := by
        show _ = D.lst _
        rw [List.map_append]; rfl
      rw [eL]
      have cx := can_draw (p := p) hx
      have lx : (xs ++ [1]).length = xs.length + 1 := by simp
      have lfa := len_fall (p := p) (xs ++ [1])
      (repeat refine Stp.h ?_)
      have go : ∀ g' : List Int, CurveOk p g' → ∀ s4' s6' s7' : Sl, N [.val .gen, .val (I 5), .val (I p), .val (I sz), s4', .val (L g'), s6', s7'] n3 := fun g' cg' s4' s6' s7' => hN _ _ ⟨by omega, g', s4', s6', s7', rfl, cg'⟩
      by_cases h1 : g.length = 2
      · refine q_b (decide_eq_true (by omega)) ?_
        (repeat refine Stp.h ?_)
        refine u__law_fall (by omega) ?_
        (repeat refine Stp.h ?_)
        refine u__law_common ⟨⟨by omega, by omega⟩, cx, can_fall _⟩ ?_
        intro c hc
        (repeat refine Stp.h ?_)
        by_cases h2 : c.length = 1
        · refine q_b (decide_eq_true (by omega)) ?_
          (repeat refine Stp.h ?_)
          exact go _ ⟨cx, by omega, by rw [atI_last (by simp)]; simp, gcd_1 hc h2⟩ _ _ _
        · refine q_b (decide_eq_false (by omega)) ?_
          (repeat refine Stp.h ?_)
          exact go _ cg _ _ _
      · refine q_b (decide_eq_false (by omega)) ?_
        (repeat refine Stp.h ?_)
        exact go _ cg _ _ _
  · rintro ρ n' ⟨hn', g, s4, s6, s7, rfl, cg⟩
    have hn' : n' ≤ n2 + 5 * 12 := hn'
    (repeat refine Stp.h ?_)
    exact h _ n' (by omega) ⟨⟨p, hp⟩, g, rfl, cg⟩
theorem ok__law_triple (B : Bi K mg C F) (A : At K mg "_law_triple" "_law_triple" (top 87)) (c__law_poly : Fn P w K mg base C F 3 "_law_poly" k__law_poly) : Fn P w K mg base C F 4 "_law_triple" k__law_triple := by
  obtain ⟨f, fd, Fd, hm⟩ := A
  refine ⟨⟨f, fd, ["_law_generator_here", "_law_told", "_law_most"], ?_, hm, Fd.kp, Fd.bindsN fun _ _ _ _ _ _ us hl => match us, hl with | [_, _, _], _ => rfl⟩, mon_gF⟩
  have S : FnScope ["_law_generator_here", "_law_told", "_law_most", "_law_p", "_law_bottom"] ["_law_generator_here", "_law_told", "_law_most"] (defScope (top 87)) := ⟨rfl, rfl, rfl, by decide +kernel, rfl, by decide +kernel, by decide +kernel⟩
  obtain ⟨pr, BPR, BPRt⟩ := B.PR
  refine fn_ok (k := 3) Fd S (len_gF fun _ => rfl) fun g cdv A outer s H E hr => ?_
  have hu := hu_of hr
  have hu1 := hu1_of hr
  refine ⟨_, _, (ss_cons (st_set 3 S.nd (de_ix (de_var 1) de_int)) (ss_cons (st_set 4 S.nd (de_call c__law_poly hr (da_cons (de_var 0) (da_cons (de_var 3) (da_cons (de_var 2) da_nil))))) (ss_one (st_ret (de_tup (da_cons (de_call c__law_poly hr (da_cons (de_var 0) (da_cons (de_var 3) (da_cons (de_var 2) da_nil)))) (da_cons (de_call c__law_poly hr (da_cons (de_var 0) (da_cons (de_var 3) (da_cons (de_var 2) da_nil)))) (da_cons (de_if (db_cmp (o_ne hu) (de_var 4) (DEf.de (df_lst da_nil))) (de_var 4) (DEf.de (df_lst (da_cons de_int da_nil)))) da_nil)))))))), ?_⟩
  intro ds n Φ hh
  obtain ⟨⟨⟨p, hp⟩, f, m⟩, rfl, hm, hn, h⟩ := hh
  try dsimp only at hl
  have hlim : lim = 1000000 := rfl
  simp only [slots0, List.map_cons, List.map_nil, List.length_cons, List.length_nil, Nat.reduceAdd, Nat.reduceSub, List.replicate, List.cons_append, List.nil_append]
  dsimp only at hm hn h
  (repeat refine Stp.h ?_)
  refine u__law_poly (by omega) (by omega) ?_
  intro c n1 hn1 cc lc'
  (repeat refine Stp.h ?_)
  refine u__law_poly (by omega) (by omega) ?_
  intro a n2 hn2 ca la'
  (repeat refine Stp.h ?_)
  refine u__law_poly (by omega) (by omega) ?_
  intro b n3 hn3 cb lb'
  (repeat refine Stp.h ?_)
  by_cases h1 : c = []
  · refine q_b (v := !decide (c = [])) (w := false) (by rw [h1]; rfl) ?_
    (repeat refine Stp.h ?_)
    exact h _ n3 (by omega) ⟨(a, b, [1]), rfl, ⟨ca, cb, can_one⟩, ⟨by dsimp only; omega, by dsimp only; omega, by simp⟩, by simp⟩
  · refine q_b (v := !decide (c = [])) (w := true) (by simpa using h1) ?_
    (repeat refine Stp.h ?_)
    exact h _ n3 (by omega) ⟨(a, b, c), rfl, ⟨ca, cb, cc⟩, ⟨by dsimp only; omega, by dsimp only; omega, by dsimp only; omega⟩, h1⟩
theorem ok__law_asked (B : Bi K mg C F) (A : At K mg "_law_asked" "_law_asked" (top 96)) (c__law_seen : Fn P w K mg base C F 2 "_law_seen" k__law_seen) (c_parts : Fn P w K mg base C F 11 "parts" k_parts) (c_descent : Fn P w K mg base C F 12 "descent" k_descent) (c__law_nought : Fn P w K mg base C F 1 "_law_nought" k__law_nought) (c__law_parts : Fn P w K mg base C F 6 "_law_parts" k__law_parts) (c_whose_slope : Fn P w K mg base C F 13 "whose_slope" k_whose_slope) (kw_whose_slope : Kw1 P w K mg base C F 13 "whose_slope" "one" k_whose_slope) (q_F : Qm P w K mg base C F F 2 kEqF) (c__law_same : Fn P w K mg base C F 3 "_law_same" k__law_same) (c__law_slope : Fn P w K mg base C F 6 "_law_slope" k__law_slope) (c_slope : Fn P w K mg base C F 11 "slope" k_slope) : Fn P w K mg base C F 14 "_law_asked" k__law_asked := by
  obtain ⟨f, fd, Fd, hm⟩ := A
  refine ⟨⟨f, fd, ["_law_told", "_law_function"], ?_, hm, Fd.kp, Fd.bindsN fun _ _ _ _ _ _ us hl => match us, hl with | [_, _], _ => rfl⟩, mon_cF⟩
  have S : FnScope ["_law_told", "_law_function", "_law_one", "_law_kept", "_law_due", "_law_found", "_law_part"] ["_law_told", "_law_function"] (defScope (top 96)) := ⟨rfl, rfl, rfl, by decide +kernel, rfl, by decide +kernel, by decide +kernel⟩
  obtain ⟨pr, BPR, BPRt⟩ := B.PR
  refine fn_ok (k := 13) Fd S (len_cF fun _ => rfl) fun g cdv A outer s H E hr => ?_
  have hu := hu_of hr
  have hu1 := hu1_of hr
  refine ⟨_, _, (ss_cons (st_set 2 S.nd (de_call c__law_seen hr (da_cons (de_var 1) da_nil))) (ss_cons (st_setLc 3 [("_law_part", 6)] rfl S.nd (di_list (de_call c_parts hr (da_cons (de_var 1) da_nil))) (blkOk (N := ["_law_told", "_law_function", "_law_one", "_law_kept", "_law_due", "_law_found", "_law_part"]) (sc := (defScope (top 96))) (by decide +kernel)) (fun _ _ _ _ _ => tg_name 6 S.nd) tgin_name (fun _ _ _ _ _ => dts_nil) (fun _ _ _ _ _ => (de_call c__law_seen hr (da_cons (de_var 6) da_nil)))) (ss_frz 3 (ss_cons (st_if (db_cmp (o_ne hu) (de_call c__law_seen hr (da_cons (de_call c_descent hr (da_cons (de_var 1) da_nil)) da_nil)) (de_ix (de_var 3) (de_neg de_int))) (ss_one (st_ret de_bl)) ss_nil) (ss_cons (st_par 4 5 rfl S.nd (de_call c__law_nought hr (da_cons (de_ix (de_call c__law_parts hr (da_cons (de_var 0) (da_cons (de_var 2) da_nil))) (de_neg de_int)) da_nil)) (de_call c_whose_slope hr (da_cons (de_var 1) da_nil))) (ss_cons (st_if (DW.db (dw_or (db_cmp (o_ne hu) (DEf.de (df_lc [("_law_part", 6)] rfl S.nd (di_list (de_call c_parts hr (da_cons (de_var 1) da_nil))) (blkOk (N := ["_law_told", "_law_function", "_law_one", "_law_kept", "_law_due", "_law_found", "_law_part"]) (sc := (defScope (top 96))) (by decide +kernel)) (fun _ _ _ _ _ => tg_name 6 S.nd) tgin_name (fun _ _ _ _ _ => dts_nil) (fun _ _ _ _ _ => (de_call c__law_seen hr (da_cons (de_var 6) da_nil))))) (de_var 3)) (dw_or (db_cmp (o_ne hu) (de_var 3) (de_call c__law_parts hr (da_cons (de_var 0) (da_cons (de_var 2) da_nil)))) (dw_or1 (db_cmp (o_ne hu) (de_call c__law_seen hr (da_cons (de_call c_descent hr (da_cons (de_var 1) da_nil)) da_nil)) (de_ix (de_var 3) (de_neg de_int))))))) (ss_one (st_ret de_bl)) ss_nil) (ss_cons (st_if (DW.db (dw_or (db_cmp (o_ne hu) (de_cmp o_notN (de_var 5) de_non) (de_var 4)) (dw_or (db_cmp (o_ne hu) (de_bi c_repr (da_cons (de_cmp o_isN (de_kw1 kw_whose_slope hr (de_var 1)) de_non) da_nil) B.repr) (de_bi c_repr (da_cons (de_cmp o_isN (de_var 5) de_non) da_nil) B.repr)) (dw_or1 (db_cmp (o_ne hu) (de_call c__law_seen hr (da_cons (de_var 1) da_nil)) (de_var 2)))))) (ss_one (st_ret de_bl)) ss_nil) (ss_cons (st_if (db_cmp o_isN (de_var 5) de_non) (ss_one (st_ret de_bl)) ss_nil) (ss_cons (st_if (db_cmp o_notB (de_cmp (o_eqF q_F hr) (de_call c_whose_slope hr (da_cons (de_var 1) da_nil)) (de_var 5)) de_bl) (ss_one (st_ret de_bl)) ss_nil) (ss_cons (st_if (DW.db (dw_or (db_not (db_val (de_call c__law_same hr (da_cons (de_var 0) (da_cons (de_call c__law_slope hr (da_cons (de_var 0) (da_cons (de_call c__law_seen hr (da_cons (de_var 5) da_nil)) da_nil))) (da_cons (de_var 2) da_nil)))))) (dw_or1 (db_cmp o_notB (de_cmp (o_eqF q_F hr) (de_call c_slope hr (da_cons (de_var 5) da_nil)) (de_var 1)) de_bl)))) (ss_one (st_ret de_bl)) ss_nil) (ss_one (st_ret (de_call c__law_nought hr (da_cons (de_ix (de_call c__law_parts hr (da_cons (de_var 0) (da_cons (de_call c__law_seen hr (da_cons (de_var 5) da_nil)) da_nil))) de_int) da_nil)))))))))))))), ?_⟩
  intro ds n Φ hh
  obtain ⟨⟨⟨p, hp⟩, f, t⟩, rfl, ht, h⟩ := hh
  try dsimp only at hl
  have hlim : lim = 1000000 := rfl
  simp only [slots0, List.map_cons, List.map_nil, List.length_cons, List.length_nil, Nat.reduceAdd, Nat.reduceSub, List.replicate, List.cons_append, List.nil_append]
  have h0 := h _ rfl
  dsimp only at h0 ht
  have hnfn : nfn = 5000 := rfl
  have pos := Pr.pos (p := p)
  have plt := Pr.lt (p := p)
  have hf := ht.up (k := nfn) (by omega)
  have s0 := ht.cv.s0
  (repeat refine Stp.h ?_)
  refine u_parts_by hf ?_
  (repeat refine Stp.h ?_)
  refine q_lc (by simp; omega) ?_
  refine lcW_map (fun i => KH.Fd p f (partP p f t i)) (fun i => T (partP p f t i)) (List.range p) ?_ ?_
  · intro i hi m Ψ hΨ
    (repeat refine Stp.h ?_)
    exact hΨ
  (repeat refine Stp.h ?_)
  refine u_descent_by hf ?_
  (repeat refine Stp.h ?_)
  refine j_ixl (atI_rlast _ pos) ?_
  (repeat refine Stp.h ?_)
  (repeat refine Stp.h ?_)
  refine u__law_parts hf ?_
  (repeat refine Stp.h ?_)
  refine j_ixl (atI_rlast _ pos) ?_
  (repeat refine Stp.h ?_)
  refine u__law_nought ?_
  by_cases hd : due p f t
  · have ed : (decide ((partP p f t (p - 1)).1 = []) && decide ((partP p f t (p - 1)).2.1 = [])) = true := by
      obtain ⟨e1, e2⟩ : nou (partP p f t (p - 1)) := hd
      rw [e1, e2]; rfl
    rw [ed]
    have hs := slope_source s0 ht.nm hd
    have hz : (decide ((partP p f (sourceP p f t) 0).1 = []) && decide ((partP p f (sourceP p f t) 0).2.1 = [])) = true := by
      obtain ⟨e1, e2⟩ : nou (partP p f (sourceP p f t) 0) := part_source s0 ht.nm hd
      rw [e1, e2]; rfl
    have fs := (fo_source ht).up (k := nfn) (by omega)
    (repeat refine Stp.h ?_)
    refine us_due hf hd ?_
    (repeat refine Stp.h ?_)
    refine u_parts_by hf ?_
    (repeat refine Stp.h ?_)
    refine q_lc (by simp; omega) ?_
    refine lcW_map (fun i => KH.Fd p f (partP p f t i)) (fun i => T (partP p f t i)) (List.range p) ?_ ?_
    · intro i hi m Ψ hΨ
      (repeat refine Stp.h ?_)
      exact hΨ
    (repeat refine Stp.h ?_)
    refine ne_Ts (partP p f t) (List.range p) ?_
    (repeat refine Stp.h ?_)
    refine u__law_parts hf ?_
    (repeat refine Stp.h ?_)
    refine ne_Ts (partP p f t) (List.range p) ?_
    (repeat refine Stp.h ?_)
    refine u_descent_by hf ?_
    (repeat refine Stp.h ?_)
    refine j_ixl (atI_rlast _ pos) ?_
    (repeat refine Stp.h ?_)
    (repeat refine Stp.h ?_)
    refine us_due hf hd ?_
    (repeat refine Stp.h ?_)
    (repeat refine Stp.h ?_)
    refine us_due hf hd ?_
    (repeat refine Stp.h ?_)
    refine u__law_slope fs ?_
    rw [hs]
    (repeat refine Stp.h ?_)
    refine u__law_same ⟨⟨ht.ca, ht.cb, ht.cc⟩, ⟨Nat.le_trans ht.b.1 (by decide), Nat.le_trans ht.b.2.1 (by decide), Nat.le_trans ht.b.2.2 (by decide)⟩⟩ ?_
    (repeat refine Stp.h ?_)
    refine u_slope_by fs ?_
    rw [hs]
    (repeat refine Stp.h ?_)
    refine u__law_parts fs ?_
    (repeat refine Stp.h ?_)
    refine j_ixl (atI_rmap (i := 0) _ pos) ?_
    (repeat refine Stp.h ?_)
    refine u__law_nought ?_
    rw [hz]
    (repeat refine Stp.h ?_)
    exact h0
  · have ed : (decide ((partP p f t (p - 1)).1 = []) && decide ((partP p f t (p - 1)).2.1 = [])) = false := by
      cases e : (decide ((partP p f t (p - 1)).1 = []) && decide ((partP p f t (p - 1)).2.1 = [])) with
      | false => rfl
      | true =>
        rw [Bool.and_eq_true, decide_eq_true_eq, decide_eq_true_eq] at e
        exact absurd e hd
    rw [ed]
    (repeat refine Stp.h ?_)
    refine us_not hf hd ?_
    (repeat refine Stp.h ?_)
    refine u_parts_by hf ?_
    (repeat refine Stp.h ?_)
    refine q_lc (by simp; omega) ?_
    refine lcW_map (fun i => KH.Fd p f (partP p f t i)) (fun i => T (partP p f t i)) (List.range p) ?_ ?_
    · intro i hi m Ψ hΨ
      (repeat refine Stp.h ?_)
      exact hΨ
    (repeat refine Stp.h ?_)
    refine ne_Ts (partP p f t) (List.range p) ?_
    (repeat refine Stp.h ?_)
    refine u__law_parts hf ?_
    (repeat refine Stp.h ?_)
    refine ne_Ts (partP p f t) (List.range p) ?_
    (repeat refine Stp.h ?_)
    refine u_descent_by hf ?_
    (repeat refine Stp.h ?_)
    refine j_ixl (atI_rlast _ pos) ?_
    (repeat refine Stp.h ?_)
    (repeat refine Stp.h ?_)
    refine us_not hf hd ?_
    (repeat refine Stp.h ?_)
    exact h0
theorem ok__law_right (B : Bi K mg C F) (A : At K mg "_law_right" "_law_right" (top 97)) (c__law_curve : Fn P w K mg base C F 5 "_law_curve" k__law_curve) (c__law_made : Fn P w K mg base C F 10 "_law_made" k__law_made) (c__law_triple : Fn P w K mg base C F 4 "_law_triple" k__law_triple) (c_slope : Fn P w K mg base C F 11 "slope" k_slope) (c_sum_of : Fn P w K mg base C F 11 "sum_of" k_sum_of) (c__law_asked : Fn P w K mg base C F 14 "_law_asked" k__law_asked) (c_whose_slope : Fn P w K mg base C F 13 "whose_slope" k_whose_slope) (c__law_seen : Fn P w K mg base C F 2 "_law_seen" k__law_seen) (c_parts : Fn P w K mg base C F 11 "parts" k_parts) (q_F : Qm P w K mg base C F F 2 kEqF) (c_less_of : Fn P w K mg base C F 12 "less_of" k_less_of) (c_power_of_functions : Fn P w K mg base C F 12 "power_of_functions" k_power_of_functions) : Fn P w K mg base C F 15 "_law_right" k__law_right := by
  obtain ⟨f, fd, Fd, hm⟩ := A
  refine ⟨⟨f, fd, ["_law_generator_here"], ?_, hm, Fd.kp, Fd.bindsN fun _ _ _ _ _ _ us hl => match us, hl with | [_], _ => rfl⟩, mon_gF⟩
  have S : FnScope ["_law_generator_here", "_law_told", "_law_rise", "_law_function", "_law_source", "_law_kept", "_law_first", "_law_one", "_law_other"] ["_law_generator_here"] (defScope (top 97)) := ⟨rfl, rfl, rfl, by decide +kernel, rfl, by decide +kernel, by decide +kernel⟩
  obtain ⟨pr, BPR, BPRt⟩ := B.PR
  refine fn_ok (k := 14) Fd S (len_gF fun _ => rfl) fun g cdv A outer s H E hr => ?_
  have hu := hu_of hr
  have hu1 := hu1_of hr
  refine ⟨_, _, (ss_cons (st_set 1 S.nd (de_call c__law_curve hr (da_cons (de_var 0) (da_cons de_int da_nil)))) (ss_cons (st_par 7 8 rfl S.nd (de_call c__law_made hr (da_cons (de_var 1) (da_cons (de_call c__law_triple hr (da_cons (de_var 0) (da_cons (de_var 1) (da_cons de_int da_nil)))) da_nil))) (de_call c__law_made hr (da_cons (de_var 1) (da_cons (de_call c__law_triple hr (da_cons (de_var 0) (da_cons (de_var 1) (da_cons de_int da_nil)))) da_nil)))) (ss_cons (st_set 2 S.nd (de_call c_slope hr (da_cons (de_var 7) da_nil))) (ss_cons (st_for PassesOwn.never rfl (di_list (DEf.de (df_lst (da_cons (de_var 7) (da_cons (de_var 8) (da_cons (de_var 2) (da_cons (de_call c_slope hr (da_cons (de_var 8) da_nil)) (da_cons (de_call c_sum_of hr (da_cons (de_var 2) (da_cons (de_var 8) da_nil))) (da_cons (de_call c_sum_of hr (da_cons (de_var 2) (da_cons (de_call c_slope hr (da_cons (de_var 8) da_nil)) da_nil))) da_nil))))))))) (tg_name 3 S.nd) (ss_one (st_if (db_not (db_val (de_call c__law_asked hr (da_cons (de_var 1) (da_cons (de_var 3) da_nil))))) (ss_one (st_ret de_bl)) ss_nil))) (ss_cons (st_set 4 S.nd (de_call c_whose_slope hr (da_cons (de_var 2) da_nil))) (ss_cons (st_set 5 S.nd (de_call c__law_seen hr (da_cons (de_var 4) da_nil))) (ss_cons (st_expr (de_call c_whose_slope hr (da_cons (de_call c_sum_of hr (da_cons (de_var 2) (da_cons (de_call c_slope hr (da_cons (de_var 8) da_nil)) da_nil))) da_nil))) (ss_cons (st_if (db_cmp (o_ne hu) (de_call c__law_seen hr (da_cons (de_var 4) da_nil)) (de_var 5)) (ss_one (st_ret de_bl)) ss_nil) (ss_cons (st_set 6 S.nd (de_ix (de_call c_parts hr (da_cons (de_var 7) da_nil)) de_int)) (ss_one (st_ret (de_cmp o_isB (de_cmp (o_eqF q_F hr) (de_call c_whose_slope hr (da_cons (de_var 2) da_nil)) (de_call c_less_of hr (da_cons (de_var 7) (da_cons (de_call c_power_of_functions hr (da_cons (de_var 6) (da_cons (de_ix (de_var 1) de_int) da_nil))) da_nil)))) de_bl)))))))))))), ?_⟩
  intro ds n Φ hh
  obtain ⟨⟨⟩, rfl, -, hn, h⟩ := hh
  try dsimp only at hl
  have hlim : lim = 1000000 := rfl
  simp only [slots0, List.map_cons, List.map_nil, List.length_cons, List.length_nil, Nat.reduceAdd, Nat.reduceSub, List.replicate, List.cons_append, List.nil_append]
  dsimp only at hn h
  have hnfn : nfn = 5000 := rfl
  (repeat refine Stp.h ?_)
  refine u__law_curve (by omega) ?_
  rintro ⟨p, hp⟩ f n1 hn1 cv
  dsimp only at cv ⊢
  have plt := Pr.lt (p := p)
  have pos := Pr.pos (p := p)
  (repeat refine Stp.h ?_)
  refine u__law_triple (m := 3) (by decide) (by omega) ?_
  intro t n2 hn2 ct bt nt
  (repeat refine Stp.h ?_)
  refine u__law_made ⟨cv, ct, ⟨Nat.le_trans bt.1 (by decide), Nat.le_trans bt.2.1 (by decide), Nat.le_trans bt.2.2 (by decide)⟩, nt⟩ ?_
  (repeat refine Stp.h ?_)
  refine u__law_triple (m := 2) (by decide) (by omega) ?_
  intro u n3 hn3 cu bu nu
  (repeat refine Stp.h ?_)
  refine u__law_made ⟨cv, cu, ⟨Nat.le_trans bu.1 (by decide), Nat.le_trans bu.2.1 (by decide), Nat.le_trans bu.2.2 (by decide)⟩, nu⟩ ?_
  have fa : Fo p f (leastP p t.1 t.2.1 t.2.2) 4 := fo_least cv (ct.2.2.ne nt) bt
  have fb : Fo p f (leastP p u.1 u.2.1 u.2.2) 4 := fo_least cv (cu.2.2.ne nu) bu
  generalize leastP p t.1 t.2.1 t.2.2 = a at fa ⊢
  generalize leastP p u.1 u.2.1 u.2.2 = b at fb ⊢
  have fr := fo_slope fa
  have fr2 := fo_slope fb
  have s0 := cv.s0
  have fp := fo_plus fr fb
  have fp2 := fo_plus fr fr2
  (repeat refine Stp.h ?_)
  refine u_slope_by (fa.up (by omega)) ?_
  (repeat refine Stp.h ?_)
  refine u_slope_by (fb.up (by omega)) ?_
  (repeat refine Stp.h ?_)
  refine u_plus ⟨fr.up (by omega), fb.up (by omega)⟩ ?_
  (repeat refine Stp.h ?_)
  refine u_slope_by (fb.up (by omega)) ?_
  (repeat refine Stp.h ?_)
  refine u_plus ⟨fr.up (by omega), fr2.up (by omega)⟩ ?_
  (repeat refine Stp.h ?_)
  refine forW_inv (fun i ρ n' => n' = n3 ∧ ∃ s3 : Sl, ρ = [.val .gen, .val (Td p f), .val (KH.Fd p f (slopeP p f a)), s3, .un, .un, .un, .val (KH.Fd p f a), .val (KH.Fd p f b)]) ⟨rfl, _, rfl⟩ ?_ ?_
  · rintro i d ρ n' N hd ⟨rfl, s3, rfl⟩ hN
    have : ∃ x, d = KH.Fd p f x ∧ Fo p f x 300 := by
      match i, hd with
      | 0, hd => exact ⟨_, (Option.some.inj hd).symm, fa.up (by omega)⟩
      | 1, hd => exact ⟨_, (Option.some.inj hd).symm, fb.up (by omega)⟩
      | 2, hd => exact ⟨_, (Option.some.inj hd).symm, fr.up (by omega)⟩
      | 3, hd => exact ⟨_, (Option.some.inj hd).symm, fr2.up (by omega)⟩
      | 4, hd => exact ⟨_, (Option.some.inj hd).symm, fp.up (by omega)⟩
      | 5, hd => exact ⟨_, (Option.some.inj hd).symm, fp2.up (by omega)⟩
    obtain ⟨x, rfl, fx⟩ := this
    (repeat refine Stp.h ?_)
    refine u__law_asked fx ?_
    (repeat refine Stp.h ?_)
    exact hN _ _ ⟨rfl, _, rfl⟩
  · rintro ρ n' ⟨rfl, s3, rfl⟩
    have dr := due_slope s0 fa.nm
    (repeat refine Stp.h ?_)
    refine us_due (fr.up (by omega)) dr ?_
    (repeat refine Stp.h ?_)
    refine u_slope_by (fb.up (by omega)) ?_
    (repeat refine Stp.h ?_)
    refine u_plus ⟨fr.up (by omega), fr2.up (by omega)⟩ ?_
    (repeat refine Stp.h ?_)
    refine us_any (fp2.up (by omega)) ?_
    intro d
    (repeat refine Stp.h ?_)
    refine u_parts_by (fa.up (by omega)) ?_
    (repeat refine Stp.h ?_)
    refine j_ixl (atI_rmap (i := 0) _ pos) ?_
    (repeat refine Stp.h ?_)
    refine us_due (fr.up (by omega)) dr ?_
    have fz := fo_part fa 0
    have f1 := fz.up (k := 200) (by omega)
    have fw := fo_pow fz (by omega) p
    have : p * (11 * 4 + 60 + 8) ≤ 11 * (11 * 4 + 60 + 8) := Nat.mul_le_mul_right _ (by omega)
    (repeat refine Stp.h ?_)
    refine u_raised_to ⟨f1, by omega⟩ ?_
    (repeat refine Stp.h ?_)
    refine u_minus ⟨fa.up (by omega), fw.up (by omega)⟩ ?_
    rw [source_slope s0 fa.nm]
    (repeat refine Stp.h ?_)
    exact h _ _ (by omega) rfl
end KH
end
section
set_option Elab.async false
set_option linter.all false
set_option maxRecDepth 100000
set_option maxHeartbeats 2000000
namespace KH
open PySem PySem.Spec PyProof.Rows L2 DL
open MK hiding D X
variable {P : Program} {w : World} {K : PySem.W.Frag} {mg : Str → Option Value} {base : Heap} {C F : Addr}
theorem ok__law_random (B : Bi K mg C F) (A : At K mg "_law_random" "_law_random" (top 72)) (c__law_hash : Fn P w K mg base C F 1 "_law_hash" k__law_hash) : Fn P w K mg base C F 2 "_law_random" k__law_random := by
  obtain ⟨f, fd, Fd, hm⟩ := A
  refine ⟨⟨f, fd, ["_law_generator_here", "_law_bound"], ?_, hm, Fd.kp, Fd.bindsN fun _ _ _ _ _ _ us hl => match us, hl with | [_, _], _ => rfl⟩, mon_gF⟩
  have S : FnScope ["_law_generator_here", "_law_bound", "_law_drawn", "_law_turn"] ["_law_generator_here", "_law_bound"] (defScope (top 72)) := ⟨rfl, rfl, rfl, by decide +kernel, rfl, by decide +kernel, by decide +kernel⟩
  obtain ⟨pr, BPR, BPRt⟩ := B.PR
  refine fn_ok (k := 1) Fd S (len_gF fun _ => rfl) fun g cdv A outer s H E hr => ?_
  have hu := hu_of hr
  have hu1 := hu1_of hr
  refine ⟨_, _, (ss_cons (st_if (db_cmp o_gt (de_gen 0 0) de_int) (ss_cons (st_set 2 S.nd (de_op o_mod (de_ty c_int (da_cons (de_gen 0 0) da_nil) B.int_) (de_var 1))) (ss_cons (st_setg 0 0 (de_op o_fdiv (de_gen 0 0) (de_var 1))) (ss_one (st_ret (de_var 2))))) ss_nil) (ss_cons (st_set 2 S.nd de_int) (ss_cons (st_for PassesOwn.never rfl (di_rng1 (de_op o_add de_int (de_op o_fdiv (de_bits (de_var 1)) de_int)) rfl B.range) (tg_name 3 S.nd) (ss_cons (st_setg 0 2 (de_op o_add (de_gen 0 2) de_int)) (ss_one (st_set 2 S.nd (de_op o_add (de_op o_mul (de_var 2) de_int) (de_call c__law_hash hr (da_cons (de_gen 0 1) (da_cons (de_gen 0 2) da_nil)))))))) (ss_one (st_ret (de_op o_mod (de_ty c_int (da_cons (de_var 2) da_nil) B.int_) (de_var 1))))))), ?_⟩
  intro ds n Φ hh
  obtain ⟨b, rfl, hb, hn, h⟩ := hh
  try dsimp only at hl
  have hlim : lim = 1000000 := rfl
  simp only [slots0, List.map_cons, List.map_nil, List.length_cons, List.length_nil, Nat.reduceAdd, Nat.reduceSub, List.replicate, List.cons_append, List.nil_append]
  dsimp only at hb hn h
  have hg : gmx = 100000 := rfl
  (repeat refine Stp.h ?_)
  intro z0 hz0
  (repeat refine Stp.h ?_)
  by_cases h1 : 0 < z0
  · refine q_b (decide_eq_true h1) ?_
    (repeat refine Stp.h ?_)
    intro z1 hz1
    (repeat refine Stp.h ?_)
    refine j_modi hb.1 ?_
    (repeat refine Stp.h ?_)
    intro z2 hz2
    (repeat refine Stp.h ?_)
    refine j_fdivi ⟨hb.1, by omega⟩ ?_
    (repeat refine Stp.h ?_)
    refine q_sg n (Nat.le_refl _) ⟨Int.ediv_nonneg hz2.1 (by omega), fun e => absurd e (by decide), fun e => absurd e (by decide)⟩ ?_
    (repeat refine Stp.h ?_)
    exact h _ n (by omega) ⟨_, rfl, Int.emod_nonneg _ (by omega), Int.emod_lt_of_pos _ hb.1⟩
  · refine q_b (decide_eq_false h1) ?_
    (repeat refine Stp.h ?_)
    refine j_fdivi ⟨by decide, by decide⟩ ?_
    (repeat refine Stp.h ?_)
    have e1 : (1 : Int) + (Builtin.Int.intBits b : Int) / 30 = 1 := by have := bits12 hb; omega
    rw [e1]
    (repeat refine Stp.h ?_)
    refine j_mR ⟨by decide, by decide⟩ ?_
    (repeat refine Stp.h ?_)
    refine forW_rng (fun i ρ n' => n' ≤ n + i ∧ ∃ (z : Int) (s3 : Sl), ρ = [.val .gen, .val (I b), .val (I z), s3]) ⟨Nat.le_refl _, 0, _, rfl⟩ ?_ ?_
    · rintro i ρ n' N hi ⟨hn', z, s3, rfl⟩ hN
      have hi : i < 1 := hi
      (repeat refine Stp.h ?_)
      intro z2 hz2
      have k2 := hz2.2.2 rfl
      have k3 := hz2.1
      (repeat refine Stp.h ?_)
      refine q_sg (n' + 1) (by omega) ⟨by omega, fun e => absurd e (by decide), fun _ => by omega⟩ ?_
      (repeat refine Stp.h ?_)
      refine j_muli (.inr ⟨by decide, by decide⟩) ?_
      (repeat refine Stp.h ?_)
      intro z3 hz3
      (repeat refine Stp.h ?_)
      intro z4 hz4
      have k4 := hz4.2.2 rfl
      have k5 := hz3.2.1 rfl
      (repeat refine Stp.h ?_)
      refine u__law_hash ⟨⟨hz3.1, k5⟩, hz4.1, by omega⟩ ?_
      intro r
      (repeat refine Stp.h ?_)
      exact hN _ _ ⟨by omega, _, _, rfl⟩
    · rintro ρ n' ⟨hn', z, s3, rfl⟩
      have hn' : n' ≤ n + 1 := hn'
      (repeat refine Stp.h ?_)
      refine j_modi hb.1 ?_
      (repeat refine Stp.h ?_)
      exact h _ n' (by omega) ⟨_, rfl, Int.emod_nonneg _ (by omega), Int.emod_lt_of_pos _ hb.1⟩
theorem okf__law_generator (B : Bi K mg C F) (A : At K mg "_law_generator" "_law_generator" (top 74)) (c__law_cell : Fn P w K mg base C F 1 "_law_cell" k__law_cell) : FnF P w K mg base C F 2 "_law_generator" kF__law_generator := by
  obtain ⟨f, fd, Fd, hm⟩ := A
  refine ⟨⟨f, fd, ["_law_script", "_law_index"], ?_, hm, Fd.kp, Fd.bindsN fun _ _ _ _ _ _ us hl => match us, hl with | [_, _], _ => rfl⟩, mon_gen⟩
  have S : FnScope ["_law_script", "_law_index", "_law_seed"] ["_law_script", "_law_index"] (defScope (top 74)) := ⟨rfl, rfl, rfl, by decide +kernel, rfl, by decide +kernel, by decide +kernel⟩
  refine fn_okF (k := 1) Fd S len_gen fun g cdv A outer s H E hr => ?_
  refine ⟨_, _, _, _, (st_set 2 S.nd (de_call c__law_cell hr (da_cons (de_var 0) (da_cons (de_var 1) da_nil)))), (df_lst (da_cons (de_op o_mod (de_ty c_int (da_cons (de_bi (c_max rfl) (da_cons (de_op o_sub (de_var 2) (de_op o_pow de_int de_int)) (da_cons de_int da_nil)) B.max) da_nil) B.int_) (de_op o_pow (de_op o_pow de_int de_int) de_int)) (da_cons (de_op o_mod (de_ty c_int (da_cons (de_var 2) da_nil) B.int_) de_int) (da_cons (de_op o_mul de_int (de_var 1)) da_nil)))), ?_⟩
  rintro ds n Φ ⟨ns, rfl, hl, h⟩
  simp only [slots0, List.map_cons, List.map_nil, List.length_cons, List.length_nil, Nat.reduceAdd, Nat.reduceSub, List.replicate, List.cons_append, List.nil_append]
  (repeat refine Stp.h ?_)
  refine u__law_cell (i := 0) hl ?_
  intro r
  (repeat refine Stp.h ?_)
  refine j_powi ⟨by decide, by decide +kernel⟩ ?_
  (repeat refine Stp.h ?_)
  (repeat refine Stp.h ?_)
  refine j_powi ⟨by decide, by decide +kernel⟩ ?_
  (repeat refine Stp.h ?_)
  refine j_powi ⟨by decide, by decide +kernel⟩ ?_
  have p1 : (0 : Int) < (10 ^ (60 : Int).toNat) ^ (10 : Int).toNat := by decide +kernel
  (repeat refine Stp.h ?_)
  refine j_modi p1 ?_
  (repeat refine Stp.h ?_)
  refine j_modi (by decide) ?_
  (repeat refine Stp.h ?_)
  refine j_muli (.inl ⟨by decide, by decide⟩) ?_
  (repeat refine Stp.h ?_)
  exact h _ _ (Int.emod_nonneg _ (Int.ne_of_gt p1)) (Int.emod_nonneg _ (by decide)) (Int.lt_trans (Int.emod_lt_of_pos _ (by decide)) (by decide))
theorem ok_law (B : Bi K mg C F) {f : Addr} {fd : FuncData} (Fd : FunD K "law" "law" (defArgs (top 98)) (defBody (top 98)) (defScope (top 98)) [] [] f fd) (c__law_right : Fn P w K mg base C F 15 "_law_right" k__law_right) (g__law_generator : FnF P w K mg base C F 2 "_law_generator" kF__law_generator) (n_Function : Nw P w K mg base C F F 7 "Function" kn_Function) (n_Curve : Nw P w K mg base C F C 7 "Curve" kn_Curve) (q_F : Qm P w K mg base C F F 2 kEqF) (c_whose_slope : Fn P w K mg base C F 13 "whose_slope" k_whose_slope) (c_slope : Fn P w K mg base C F 11 "slope" k_slope) (c_less_of : Fn P w K mg base C F 12 "less_of" k_less_of) (c_power_of_functions : Fn P w K mg base C F 12 "power_of_functions" k_power_of_functions) (c_parts : Fn P w K mg base C F 11 "parts" k_parts) (c__law_seen : Fn P w K mg base C F 2 "_law_seen" k__law_seen) : FnOk P w K mg base CX0 16 f fd ["_law_script"] (spD0 K C F k_law) := by
  have S : FnScope ["_law_script", "_law_index", "_law_wide", "_law_bent", "_law_back_here", "_law_y"] ["_law_script"] (defScope (top 98)) := ⟨rfl, rfl, rfl, by decide +kernel, rfl, by decide +kernel, by decide +kernel⟩
  obtain ⟨pr, BPR, BPRt⟩ := B.PR
  refine fn_ok0 (k := 15) Fd S (len_cF fun _ => rfl) fun cdv A outer s H E hr => ?_
  have hu := hu_of hr
  have hu1 := hu1_of hr
  refine ⟨_, _, (ss_cons (st_for PassesOwn.never rfl (di_rng1 de_int rfl B.range) (tg_name 1 S.nd) (ss_one (st_if (db_not (db_val (de_genc c__law_right hr (df_call g__law_generator hr (da_cons (de_var 0) (da_cons (de_var 1) da_nil)))))) (ss_one (st_ret de_bl)) ss_nil))) (ss_cons (st_set 2 S.nd (de_new n_Function hr (da_cons (de_new n_Curve hr (da_cons de_int (da_cons (DEf.de (df_lst (da_cons de_int (da_cons de_int (da_cons de_int (da_cons de_int da_nil)))))) da_nil))) (da_cons (DEf.de (df_lst (da_cons de_int (da_cons de_int (da_cons de_int (da_cons de_int da_nil)))))) (da_cons (DEf.de (df_lst (da_cons de_int (da_cons de_int da_nil)))) (da_cons (DEf.de (df_lst (da_cons de_int da_nil))) da_nil)))))) (ss_cons (st_if (db_cmp o_notB (de_cmp (o_eqF q_F hr) (de_call c_whose_slope hr (da_cons (de_call c_slope hr (da_cons (de_var 2) da_nil)) da_nil)) (de_call c_less_of hr (da_cons (de_var 2) (da_cons (de_call c_power_of_functions hr (da_cons (de_ix (de_call c_parts hr (da_cons (de_var 2) da_nil)) de_int) (da_cons de_int da_nil))) da_nil)))) de_bl) (ss_one (st_ret de_bl)) ss_nil) (ss_cons (st_set 3 S.nd (de_new n_Curve hr (da_cons de_int (da_cons (DEf.de (df_lst (da_cons de_int (da_cons de_int (da_cons de_int (da_cons de_int da_nil)))))) da_nil)))) (ss_cons (st_par 4 5 rfl S.nd (de_new n_Function hr (da_cons (de_var 3) (da_cons (DEf.de (df_lst da_nil)) (da_cons (DEf.de (df_lst (da_cons de_int da_nil))) (da_cons (DEf.de (df_lst (da_cons de_int (da_cons de_int (da_cons de_int (da_cons de_int da_nil)))))) da_nil))))) (de_new n_Function hr (da_cons (de_var 3) (da_cons (DEf.de (df_lst da_nil)) (da_cons (DEf.de (df_lst (da_cons de_int da_nil))) (da_cons (DEf.de (df_lst (da_cons de_int da_nil))) da_nil)))))) (ss_cons (st_if (DW.db (dw_or (db_cmp (o_ne hu) (de_call c__law_seen hr (da_cons (de_call c_whose_slope hr (da_cons (de_var 4) da_nil)) da_nil)) (de_tup (da_cons (DEf.de (df_lst da_nil)) (da_cons (DEf.de (df_lst (da_cons de_int (da_cons de_int (da_cons de_int da_nil))))) (da_cons (DEf.de (df_lst (da_cons de_int (da_cons de_int (da_cons de_int (da_cons de_int (da_cons de_int da_nil))))))) da_nil))))) (dw_or1 (db_cmp o_notN (de_call c_whose_slope hr (da_cons (de_var 5) da_nil)) de_non)))) (ss_one (st_ret de_bl)) ss_nil) (ss_one (st_ret (de_and (de_cmp (o_eq hu) (de_call c__law_seen hr (da_cons (de_call c_whose_slope hr (da_cons (de_new n_Function hr (da_cons (de_var 3) (da_cons (DEf.de (df_lst da_nil)) (da_cons (DEf.de (df_lst da_nil)) (da_cons (DEf.de (df_lst (da_cons de_int da_nil))) da_nil))))) da_nil)) da_nil)) (de_tup (da_cons (DEf.de (df_lst da_nil)) (da_cons (DEf.de (df_lst da_nil)) (da_cons (DEf.de (df_lst (da_cons de_int da_nil))) da_nil))))) (de_one (de_cmp (o_eq hu) (de_call c__law_seen hr (da_cons (de_call c_whose_slope hr (da_cons (de_new n_Function hr (da_cons (de_var 3) (da_cons (DEf.de (df_lst (da_cons de_int (da_cons de_int da_nil)))) (da_cons (DEf.de (df_lst da_nil)) (da_cons (DEf.de (df_lst (da_cons de_int da_nil))) da_nil))))) da_nil)) da_nil)) (de_tup (da_cons (DEf.de (df_lst (da_cons de_int (da_cons de_int (da_cons de_int da_nil))))) (da_cons (DEf.de (df_lst da_nil)) (da_cons (DEf.de (df_lst (da_cons de_int da_nil))) da_nil))))))))))))))), ?_⟩
  intro ds n Φ hh
  obtain ⟨ns, rfl, hl, h⟩ := hh
  try dsimp only at hl
  have hlim : lim = 1000000 := rfl
  simp only [slots0, List.map_cons, List.map_nil, List.length_cons, List.length_nil, Nat.reduceAdd, Nat.reduceSub, List.replicate, List.cons_append, List.nil_append]
  have h0 := h _ rfl
  try dsimp only at hl
  (repeat refine Stp.h ?_)
  refine j_mR ⟨by decide, by decide⟩ ?_
  (repeat refine Stp.h ?_)
  refine forW_rng (fun i ρ n' => n' = n ∧ ∃ s1 : Sl, ρ = [.val (.scr ns), s1, .un, .un, .un, .un]) ⟨rfl, _, rfl⟩ ?_ ?_
  · rintro i ρ n' N hi ⟨rfl, s1, rfl⟩ hN
    have hi : i < 1 := hi
    obtain rfl : i = 0 := by omega
    (repeat refine Stp.h ?_)
    refine u__law_generator hl ?_
    intro u v hu hv hv2
    (repeat refine Stp.h ?_)
    refine q_gc hu hv hv2 ?_
    (repeat refine Stp.h ?_)
    exact hN _ _ ⟨rfl, _, rfl⟩
  · rintro ρ n' ⟨rfl, s1, rfl⟩
    (repeat refine Stp.h ?_)
    refine un_Curve (p := 11) (f := [1, 1, 0, 1]) cv11 ?_
    (repeat refine Stp.h ?_)
    refine un_Function (p := 11) (f := [1, 1, 0, 1]) (a := [3, 0, 1, 4]) (b := [2, 1]) (c := [1]) ⟨⟨can11 (by decide +kernel), can11 (by decide +kernel), can11 (by decide +kernel)⟩, ⟨by decide, by decide, by decide⟩, by decide⟩ ?_
    have fa : Fo 11 [1, 1, 0, 1] (leastP 11 [3, 0, 1, 4] [2, 1] [1]) 4 := fo_least cv11 (can_one.ne (by decide)) ⟨by decide, by decide, by decide⟩
    generalize leastP 11 [3, 0, 1, 4] [2, 1] [1] = a at fa ⊢
    have fr := fo_slope fa
    have dr := due_slope cv11.s0 fa.nm
    have fz := fo_part fa 0
    have fw := fo_pow fz (by decide) 11
    (repeat refine Stp.h ?_)
    refine u_slope_by (fa.up (by decide)) ?_
    (repeat refine Stp.h ?_)
    refine us_due (fr.up (by decide)) dr ?_
    (repeat refine Stp.h ?_)
    refine u_parts_by (fa.up (by decide)) ?_
    (repeat refine Stp.h ?_)
    refine j_ixl (atI_rmap (i := 0) _ (by decide)) ?_
    (repeat refine Stp.h ?_)
    refine u_raised_to (p := 11) (k := 11) ⟨fz.up (by decide), by decide⟩ ?_
    (repeat refine Stp.h ?_)
    refine u_minus ⟨fa.up (by decide), fw.up (by decide)⟩ ?_
    rw [source_slope cv11.s0 fa.nm]
    (repeat refine Stp.h ?_)
    refine un_Curve (p := 3) (f := [0, 2, 0, 1]) cv3 ?_
    (repeat refine Stp.h ?_)
    refine un_Function (p := 3) (f := [0, 2, 0, 1]) (a := []) (b := [1]) (c := [0, 2, 0, 1]) ⟨⟨can_nil, can_one, can_b3⟩, ⟨by decide, by decide, by decide⟩, by decide⟩ ?_
    rw [t_back]
    (repeat refine Stp.h ?_)
    refine un_Function (p := 3) (f := [0, 2, 0, 1]) (a := []) (b := [1]) (c := [1]) ⟨⟨can_nil, can_one, can_one⟩, ⟨by decide, by decide, by decide⟩, by decide⟩ ?_
    rw [t_y]
    (repeat refine Stp.h ?_)
    refine us_due (fo3 n_back ⟨by decide, by decide, by decide⟩) d_back ?_
    rw [s_back]
    (repeat refine Stp.h ?_)
    refine ne_T ([], [1, 0, 1], [1, 0, 1, 0, 1]) ?_
    (repeat refine Stp.h ?_)
    refine us_not (fo3 n_y ⟨by decide, by decide, by decide⟩) d_y ?_
    (repeat refine Stp.h ?_)
    refine un_Function (p := 3) (f := [0, 2, 0, 1]) (a := []) (b := []) (c := [1]) ⟨⟨can_nil, can_nil, can_one⟩, ⟨by decide, by decide, by decide⟩, by decide⟩ ?_
    rw [t_0]
    (repeat refine Stp.h ?_)
    refine us_due (fo3 n_0 ⟨by decide, by decide, by decide⟩) d_0 ?_
    rw [s_0]
    (repeat refine Stp.h ?_)
    refine eq_T ([], [], [1]) ?_
    (repeat refine Stp.h ?_)
    refine un_Function (p := 3) (f := [0, 2, 0, 1]) (a := [2, 2]) (b := []) (c := [1]) ⟨⟨can3 (by decide +kernel), can_nil, can_one⟩, ⟨by decide, by decide, by decide⟩, by decide⟩ ?_
    rw [t_2]
    (repeat refine Stp.h ?_)
    refine us_due (fo3 n_2 ⟨by decide, by decide, by decide⟩) d_2 ?_
    rw [s_2]
    (repeat refine Stp.h ?_)
    refine eq_T ([0, 2, 1], [], [1]) ?_
    (repeat refine Stp.h ?_)
    exact h0
end KH
end
section
set_option Elab.async false
set_option linter.all false
set_option maxRecDepth 100000
set_option maxHeartbeats 2000000
namespace KH
open PySem PySem.Spec PyProof.Rows L2 DL
open MK hiding D X
variable {P : Program} {w : World} {K : PySem.W.Frag} {mg : Str → Option Value} {base : Heap} {C F : Addr}
theorem kbn1 {K : PySem.W.Frag} {x qual kx : Str} {params : Arguments} {body : List Stmt} {scope : Scope} {f : Addr} {fd : FuncData} (Fd : FunD K x qual params body scope [] [] f fd)
    (h : ∀ (kV doc pm : Value) (an : Option Addr) (cdv ct : Value) (u : Value), bindArgs (PySem.W.fnOf x qual params body scope .none kV doc pm an cdv ct) ⟨[], [(kx, u)]⟩ = pure [(kx, u)]) : KBn K fd [kx] 0 [kx] (fun _ ws => ws) (fun _ zs => zs) := by
  obtain ⟨oc, od, dV, kV, doc, pm, an, cdv, ct, osl, rfl, lk, hcd, hD, hK⟩ := Fd.ex
  rcases hD with ⟨_, rfl⟩ | ⟨e, _⟩
  · refine ⟨fun s us ws X l1 l2 => ?_, fun _ r => r⟩
    have hu : us = [] := List.length_eq_zero_iff.mp l1
    subst hu
    obtain ⟨u, rfl⟩ : ∃ u, ws = [u] := match ws, l2 with | [u], _ => ⟨u, rfl⟩
    exact .of_eq (h kV doc pm an cdv ct u)
  · exact absurd rfl e
theorem okk_whose_slope (B : Bi K mg C F) (A : At K mg "whose_slope" "whose_slope" (top 69)) (c_check_function : Fn P w K mg base C F 1 "check_function" k_check_function) (c_slope_source : Fn P w K mg base C F 12 "slope_source" k_slope_source) : Kw1 P w K mg base C F 13 "whose_slope" "one" k_whose_slope := by
  obtain ⟨f, fd, Fd, hm⟩ := A
  refine ⟨⟨f, fd, ?_, hm, Fd.kp, kbn1 Fd fun _ _ _ _ _ _ _ => rfl⟩, mon_cF⟩
  have S : FnScope ["one"] ["one"] (defScope (top 69)) := ⟨rfl, rfl, rfl, by decide +kernel, rfl, by decide +kernel, by decide +kernel⟩
  obtain ⟨pr, BPR, BPRt⟩ := B.PR
  refine fn_ok (k := 12) Fd S (len_cF fun _ => rfl) fun g cdv A outer s H E hr => ?_
  have hu := hu_of hr
  have hu1 := hu1_of hr
  refine ⟨_, _, (ss_cons (st_expr (de_call c_check_function hr (da_cons (de_var 0) da_nil))) (ss_one (st_ret (de_call c_slope_source hr (da_cons (de_var 0) da_nil))))), ?_⟩
  intro ds n Φ hh
  obtain ⟨⟨⟨p, hp⟩, f, t⟩, rfl, ht, h⟩ := hh
  try dsimp only at hl
  have hlim : lim = 1000000 := rfl
  simp only [slots0, List.map_cons, List.map_nil, List.length_cons, List.length_nil, Nat.reduceAdd, Nat.reduceSub, List.replicate, List.cons_append, List.nil_append]
  dsimp only at ht
  (repeat refine Stp.h ?_)
  exact ⟨(⟨p, hp⟩, f, t), rfl, ht, h⟩
end KH
end
section
set_option Elab.async false
set_option linter.all false
set_option maxRecDepth 100000
namespace KH
open PySem PySem.Spec PyProof.Rows L2 DL
open MK hiding D X
variable {P : Program} {w : World} {K : PySem.W.Frag} {mg : Str → Option Value} {base : Heap} {C F : Addr}
structure Ats (K : PySem.W.Frag) (mg : Str → Option Value) (C F : Addr) : Prop where
  B : Bi K mg C F
  hmkC : PySem.W.makesIn K C = true
  hkpC : PySem.W.keepIn K (.ref C) = true
  hmkF : PySem.W.makesIn K F = true
  hkpF : PySem.W.keepIn K (.ref F) = true
  A_c_is_whole : At K mg "is_whole" "is_whole" (top 12)
  A_c_is_between : At K mg "is_between" "is_between" (top 13)
  A_c_check_number : At K mg "check_number" "check_number" (top 14)
  A_c_check_prime : At K mg "check_prime" "check_prime" (top 15)
  A_c_is_poly_list : At K mg "is_poly_list" "is_poly_list" (top 16)
  A_c_check_poly : At K mg "check_poly" "check_poly" (top 17)
  A_c_inverse : At K mg "inverse" "inverse" (top 18)
  A_c_trimmed : At K mg "trimmed" "trimmed" (top 19)
  A_c_added : At K mg "added" "added" (top 20)
  A_c_negated : At K mg "negated" "negated" (top 21)
  A_c_lessened : At K mg "lessened" "lessened" (top 22)
  A_c_scaled : At K mg "scaled" "scaled" (top 23)
  A_c_multiplied : At K mg "multiplied" "multiplied" (top 24)
  A_c_power_of_polys : At K mg "power_of_polys" "power_of" (top 25)
  A_c_parted : At K mg "parted" "parted" (top 27)
  A_c_whole_part : At K mg "whole_part" "whole_part" (top 28)
  A_c_common_with : At K mg "common_with" "common_with" (top 29)
  A_c_common_of : At K mg "common_of" "common_of" (top 30)
  A_c_slope_of : At K mg "slope_of" "slope_of" (top 31)
  A_c_is_curve_poly : At K mg "is_curve_poly" "is_curve_poly" (top 34)
  A_c_every : At K mg "every" "every" (top 58)
  A_c_stretched : At K mg "stretched" "stretched" (top 61)
  A_c_raised_source : At K mg "raised_source" "raised_source" (top 68)
  A_m_prime : AtM K C "prime" "Curve.prime" (mth 33 1)
  A_m_polynomial : AtM K C "polynomial" "Curve.polynomial" (mth 33 2)
  A_m_curve : AtM K F "curve" "Function.curve" (mth 37 1)
  A_m_top : AtM K F "top" "Function.top" (mth 37 2)
  A_m_side : AtM K F "side" "Function.side" (mth 37 3)
  A_m_bottom : AtM K F "bottom" "Function.bottom" (mth 37 4)
  A_q_C : AtM K C "__eq__" "Curve.__eq__" (mth 33 4)
  A_q_F : AtM K F "__eq__" "Function.__eq__" (mth 37 5)
  A_n_Curve : AtM K C "__init__" "Curve.__init__" (mth 33 0)
  A_c_least_parts : At K mg "least_parts" "least_parts" (top 38)
  A_n_Function : AtM K F "__init__" "Function.__init__" (mth 37 0)
  A_c_made : At K mg "made" "made" (top 39)
  A_c_parts_of : At K mg "parts_of" "parts_of" (top 40)
  A_c_is_nought : At K mg "is_nought" "is_nought" (top 41)
  A_c_plus : At K mg "plus" "plus" (top 42)
  A_c_opposite : At K mg "opposite" "opposite" (top 43)
  A_c_minus : At K mg "minus" "minus" (top 44)
  A_c_times : At K mg "times" "times" (top 45)
  A_c_slope_by : At K mg "slope_by" "slope_by" (top 49)
  A_c_tops_over : At K mg "tops_over" "tops_over" (top 59)
  A_c_parts_by : At K mg "parts_by" "parts_by" (top 60)
  A_c_descent_by : At K mg "descent_by" "descent_by" (top 64)
  A_c_slope_source : At K mg "slope_source" "slope_source" (top 67)
  A_c_check_function : At K mg "check_function" "check_function" (top 50)
  A_c_back_of : At K mg "back_of" "back_of" (top 47)
  A_c_raised_to : At K mg "raised_to" "raised_to" (top 48)
  A_c_check_both : At K mg "check_both" "check_both" (top 51)
  A_c_sum_of : At K mg "sum_of" "sum_of" (top 52)
  A_c_less_of : At K mg "less_of" "less_of" (top 53)
  A_c_power_of_functions : At K mg "power_of_functions" "power_of" (top 54)
  A_c_slope : At K mg "slope" "slope" (top 56)
  A_c_parts : At K mg "parts" "parts" (top 62)
  A_c_descent : At K mg "descent" "descent" (top 65)
  A_c_whose_slope : At K mg "whose_slope" "whose_slope" (top 69)
  A_c__law_hash : At K mg "_law_hash" "_law_hash" (top 71)
  A_c__law_cell : At K mg "_law_cell" "_law_cell" (top 73)
  A_c__law_trim : At K mg "_law_trim" "_law_trim" (top 75)
  A_c__law_add : At K mg "_law_add" "_law_add" (top 76)
  A_c__law_fall : At K mg "_law_fall" "_law_fall" (top 83)
  A_c__law_scale : At K mg "_law_scale" "_law_scale" (top 77)
  A_c__law_mul : At K mg "_law_mul" "_law_mul" (top 78)
  A_c__law_power : At K mg "_law_power" "_law_power" (top 79)
  A_c__law_back : At K mg "_law_back" "_law_back" (top 80)
  A_c__law_rest : At K mg "_law_rest" "_law_rest" (top 81)
  A_c__law_whole : At K mg "_law_whole" "_law_whole" (top 93)
  A_c__law_common : At K mg "_law_common" "_law_common" (top 82)
  A_c__law_of : At K mg "_law_of" "_law_of" (top 86)
  A_c__law_made : At K mg "_law_made" "_law_made" (top 88)
  A_c__law_seen : At K mg "_law_seen" "_law_seen" (top 89)
  A_c__law_nought : At K mg "_law_nought" "_law_nought" (top 90)
  A_c__law_same : At K mg "_law_same" "_law_same" (top 91)
  A_c__law_least : At K mg "_law_least" "_law_least" (top 92)
  A_c__law_slope : At K mg "_law_slope" "_law_slope" (top 94)
  A_c__law_parts : At K mg "_law_parts" "_law_parts" (top 95)
  A_c__law_poly : At K mg "_law_poly" "_law_poly" (top 84)
  A_c__law_curve : At K mg "_law_curve" "_law_curve" (top 85)
  A_c__law_triple : At K mg "_law_triple" "_law_triple" (top 87)
  A_c__law_asked : At K mg "_law_asked" "_law_asked" (top 96)
  A_c__law_right : At K mg "_law_right" "_law_right" (top 97)
  A_c__law_random : At K mg "_law_random" "_law_random" (top 72)
  A_g__law_generator : At K mg "_law_generator" "_law_generator" (top 74)
theorem all_ok (Z : Ats K mg C F) {f : Addr} {fd : FuncData} (Fd : FunD K "law" "law" (defArgs (top 98)) (defBody (top 98)) (defScope (top 98)) [] [] f fd) : FnOk P w K mg base CX0 16 f fd ["_law_script"] (spD0 K C F k_law) := by
  obtain ⟨B, hmkC, hkpC, hmkF, hkpF, A_c_is_whole, A_c_is_between, A_c_check_number, A_c_check_prime, A_c_is_poly_list, A_c_check_poly, A_c_inverse, A_c_trimmed, A_c_added, A_c_negated, A_c_lessened, A_c_scaled, A_c_multiplied, A_c_power_of_polys, A_c_parted, A_c_whole_part, A_c_common_with, A_c_common_of, A_c_slope_of, A_c_is_curve_poly, A_c_every, A_c_stretched, A_c_raised_source, A_m_prime, A_m_polynomial, A_m_curve, A_m_top, A_m_side, A_m_bottom, A_q_C, A_q_F, A_n_Curve, A_c_least_parts, A_n_Function, A_c_made, A_c_parts_of, A_c_is_nought, A_c_plus, A_c_opposite, A_c_minus, A_c_times, A_c_slope_by, A_c_tops_over, A_c_parts_by, A_c_descent_by, A_c_slope_source, A_c_check_function, A_c_back_of, A_c_raised_to, A_c_check_both, A_c_sum_of, A_c_less_of, A_c_power_of_functions, A_c_slope, A_c_parts, A_c_descent, A_c_whose_slope, A_c__law_hash, A_c__law_cell, A_c__law_trim, A_c__law_add, A_c__law_fall, A_c__law_scale, A_c__law_mul, A_c__law_power, A_c__law_back, A_c__law_rest, A_c__law_whole, A_c__law_common, A_c__law_of, A_c__law_made, A_c__law_seen, A_c__law_nought, A_c__law_same, A_c__law_least, A_c__law_slope, A_c__law_parts, A_c__law_poly, A_c__law_curve, A_c__law_triple, A_c__law_asked, A_c__law_right, A_c__law_random, A_g__law_generator⟩ := Z
  have c_is_whole : Fn P w K mg base C F 1 "is_whole" k_is_whole := ok_is_whole (B := B) (A := A_c_is_whole)
  have c_is_between : Fn P w K mg base C F 2 "is_between" k_is_between := ok_is_between (B := B) (A := A_c_is_between) (c_is_whole := c_is_whole)
  have c_check_number : Fn P w K mg base C F 3 "check_number" k_check_number := ok_check_number (B := B) (A := A_c_check_number) (c_is_between := c_is_between)
  have c_check_prime : Fn P w K mg base C F 2 "check_prime" k_check_prime := ok_check_prime (B := B) (A := A_c_check_prime) (c_is_whole := c_is_whole)
  have c_is_poly_list : Fn P w K mg base C F 3 "is_poly_list" k_is_poly_list := ok_is_poly_list (B := B) (A := A_c_is_poly_list) (c_is_between := c_is_between)
  have c_check_poly : Fn P w K mg base C F 4 "check_poly" k_check_poly := ok_check_poly (B := B) (A := A_c_check_poly) (c_is_poly_list := c_is_poly_list)
  have c_inverse : Fn P w K mg base C F 1 "inverse" k_inverse := ok_inverse (B := B) (A := A_c_inverse)
  have c_trimmed : Fn P w K mg base C F 1 "trimmed" k_trimmed := ok_trimmed (B := B) (A := A_c_trimmed)
  have c_added : Fn P w K mg base C F 2 "added" k_added := ok_added (B := B) (A := A_c_added) (c_trimmed := c_trimmed)
  have c_negated : Fn P w K mg base C F 2 "negated" k_negated := ok_negated (B := B) (A := A_c_negated) (c_trimmed := c_trimmed)
  have c_lessened : Fn P w K mg base C F 3 "lessened" k_lessened := ok_lessened (B := B) (A := A_c_lessened) (c_added := c_added) (c_negated := c_negated)
  have c_scaled : Fn P w K mg base C F 2 "scaled" k_scaled := ok_scaled (B := B) (A := A_c_scaled) (c_trimmed := c_trimmed)
  have c_multiplied : Fn P w K mg base C F 2 "multiplied" k_multiplied := ok_multiplied (B := B) (A := A_c_multiplied) (c_trimmed := c_trimmed)
  have c_power_of_polys : Fn P w K mg base C F 3 "power_of_polys" k_power_of_polys := ok_power_of_polys (B := B) (A := A_c_power_of_polys) (c_multiplied := c_multiplied)
  have c_parted : Fn P w K mg base C F 2 "parted" k_parted := ok_parted (B := B) (A := A_c_parted) (c_inverse := c_inverse) (c_trimmed := c_trimmed)
  have c_whole_part : Fn P w K mg base C F 3 "whole_part" k_whole_part := ok_whole_part (B := B) (A := A_c_whole_part) (c_parted := c_parted)
  have c_common_with : Fn P w K mg base C F 4 "common_with" k_common_with := ok_common_with (B := B) (A := A_c_common_with) (c_parted := c_parted) (c_lessened := c_lessened) (c_multiplied := c_multiplied) (c_inverse := c_inverse) (c_scaled := c_scaled)
  have c_common_of : Fn P w K mg base C F 5 "common_of" k_common_of := ok_common_of (B := B) (A := A_c_common_of) (c_common_with := c_common_with)
  have c_slope_of : Fn P w K mg base C F 2 "slope_of" k_slope_of := ok_slope_of (B := B) (A := A_c_slope_of) (c_trimmed := c_trimmed)
  have c_is_curve_poly : Fn P w K mg base C F 6 "is_curve_poly" k_is_curve_poly := ok_is_curve_poly (B := B) (A := A_c_is_curve_poly) (c_is_poly_list := c_is_poly_list) (c_common_of := c_common_of) (c_slope_of := c_slope_of)
  have c_every : Fn P w K mg base C F 2 "every" k_every := ok_every (B := B) (A := A_c_every) (c_trimmed := c_trimmed)
  have c_stretched : Fn P w K mg base C F 1 "stretched" k_stretched := ok_stretched (B := B) (A := A_c_stretched)
  have c_raised_source : Fn P w K mg base C F 2 "raised_source" k_raised_source := ok_raised_source (B := B) (A := A_c_raised_source) (c_inverse := c_inverse) (c_trimmed := c_trimmed)
  have m_prime : Mt P w K mg base C F C 1 "prime" km_prime := okm_prime (B := B) (A := A_m_prime)
  have m_polynomial : Mt P w K mg base C F C 1 "polynomial" km_polynomial := okm_polynomial (B := B) (A := A_m_polynomial)
  have m_curve : Mt P w K mg base C F F 1 "curve" km_curve := okm_curve (B := B) (A := A_m_curve)
  have m_top : Mt P w K mg base C F F 1 "top" km_top := okm_top (B := B) (A := A_m_top)
  have m_side : Mt P w K mg base C F F 1 "side" km_side := okm_side (B := B) (A := A_m_side)
  have m_bottom : Mt P w K mg base C F F 1 "bottom" km_bottom := okm_bottom (B := B) (A := A_m_bottom)
  have q_C : Qm P w K mg base C F C 1 kEqC := okq_C (B := B) (A := A_q_C)
  have q_F : Qm P w K mg base C F F 2 kEqF := okq_F (B := B) (A := A_q_F) (q_C := q_C)
  have n_Curve : Nw P w K mg base C F C 7 "Curve" kn_Curve := okn_Curve (B := B) (A := A_n_Curve) (hmk := hmkC) (hkp := hkpC) (c_check_prime := c_check_prime) (c_is_curve_poly := c_is_curve_poly)
  have c_least_parts : Fn P w K mg base C F 6 "least_parts" k_least_parts := ok_least_parts (B := B) (A := A_c_least_parts) (c_common_of := c_common_of) (c_whole_part := c_whole_part) (c_inverse := c_inverse) (c_scaled := c_scaled)
  have n_Function : Nw P w K mg base C F F 7 "Function" kn_Function := okn_Function (B := B) (A := A_n_Function) (hmk := hmkF) (hkp := hkpF) (c_check_poly := c_check_poly) (m_prime := m_prime) (c_least_parts := c_least_parts)
  have c_made : Fn P w K mg base C F 9 "made" k_made := ok_made (B := B) (A := A_c_made) (n_Function := n_Function) (c_least_parts := c_least_parts) (m_prime := m_prime)
  have c_parts_of : Fn P w K mg base C F 2 "parts_of" k_parts_of := ok_parts_of (B := B) (A := A_c_parts_of) (m_curve := m_curve) (m_prime := m_prime) (m_polynomial := m_polynomial) (m_top := m_top) (m_side := m_side) (m_bottom := m_bottom)
  have c_is_nought : Fn P w K mg base C F 2 "is_nought" k_is_nought := ok_is_nought (B := B) (A := A_c_is_nought) (m_top := m_top) (m_side := m_side)
  have c_plus : Fn P w K mg base C F 10 "plus" k_plus := ok_plus (B := B) (A := A_c_plus) (c_parts_of := c_parts_of) (c_added := c_added) (c_multiplied := c_multiplied) (m_bottom := m_bottom) (m_top := m_top) (m_side := m_side) (c_made := c_made) (m_curve := m_curve)
  have c_opposite : Fn P w K mg base C F 10 "opposite" k_opposite := ok_opposite (B := B) (A := A_c_opposite) (c_parts_of := c_parts_of) (c_made := c_made) (m_curve := m_curve) (c_negated := c_negated)
  have c_minus : Fn P w K mg base C F 11 "minus" k_minus := ok_minus (B := B) (A := A_c_minus) (c_plus := c_plus) (c_opposite := c_opposite)
  have c_times : Fn P w K mg base C F 10 "times" k_times := ok_times (B := B) (A := A_c_times) (c_parts_of := c_parts_of) (c_multiplied := c_multiplied) (m_side := m_side) (c_added := c_added) (m_top := m_top) (c_made := c_made) (m_curve := m_curve) (m_bottom := m_bottom)
  have c_slope_by : Fn P w K mg base C F 10 "slope_by" k_slope_by := ok_slope_by (B := B) (A := A_c_slope_by) (c_parts_of := c_parts_of) (c_scaled := c_scaled) (c_slope_of := c_slope_of) (c_lessened := c_lessened) (c_multiplied := c_multiplied) (c_added := c_added) (c_made := c_made) (m_curve := m_curve)
  have c_tops_over : Fn P w K mg base C F 4 "tops_over" k_tops_over := ok_tops_over (B := B) (A := A_c_tops_over) (c_parts_of := c_parts_of) (c_power_of_polys := c_power_of_polys) (c_multiplied := c_multiplied)
  have c_parts_by : Fn P w K mg base C F 10 "parts_by" k_parts_by := ok_parts_by (B := B) (A := A_c_parts_by) (c_parts_of := c_parts_of) (c_tops_over := c_tops_over) (c_multiplied := c_multiplied) (c_every := c_every) (c_made := c_made) (m_curve := m_curve)
  have c_descent_by : Fn P w K mg base C F 11 "descent_by" k_descent_by := ok_descent_by (B := B) (A := A_c_descent_by) (c_parts_by := c_parts_by)
  have c_slope_source : Fn P w K mg base C F 12 "slope_source" k_slope_source := ok_slope_source (B := B) (A := A_c_slope_source) (c_is_nought := c_is_nought) (c_descent_by := c_descent_by) (c_parts_of := c_parts_of) (c_tops_over := c_tops_over) (c_raised_source := c_raised_source) (c_power_of_polys := c_power_of_polys) (c_made := c_made) (m_curve := m_curve) (c_multiplied := c_multiplied) (c_stretched := c_stretched)
  have c_check_function : Fn P w K mg base C F 1 "check_function" k_check_function := ok_check_function (B := B) (A := A_c_check_function)
  have c_back_of : Fn P w K mg base C F 1 "back_of" k_back_of := ok_back_of (B := B) (A := A_c_back_of)
  have c_raised_to : Fn P w K mg base C F 11 "raised_to" k_raised_to := ok_raised_to (B := B) (A := A_c_raised_to) (c_made := c_made) (m_curve := m_curve) (c_times := c_times)
  have c_check_both : Fn P w K mg base C F 2 "check_both" k_check_both := ok_check_both (B := B) (A := A_c_check_both) (c_check_function := c_check_function) (q_C := q_C) (m_curve := m_curve)
  have c_sum_of : Fn P w K mg base C F 11 "sum_of" k_sum_of := ok_sum_of (B := B) (A := A_c_sum_of) (c_check_both := c_check_both) (c_plus := c_plus)
  have c_less_of : Fn P w K mg base C F 12 "less_of" k_less_of := ok_less_of (B := B) (A := A_c_less_of) (c_check_both := c_check_both) (c_minus := c_minus)
  have c_power_of_functions : Fn P w K mg base C F 12 "power_of_functions" k_power_of_functions := ok_power_of_functions (B := B) (A := A_c_power_of_functions) (c_check_function := c_check_function) (c_check_number := c_check_number) (c_is_nought := c_is_nought) (c_raised_to := c_raised_to) (c_back_of := c_back_of)
  have c_slope : Fn P w K mg base C F 11 "slope" k_slope := ok_slope (B := B) (A := A_c_slope) (c_check_function := c_check_function) (c_slope_by := c_slope_by)
  have c_parts : Fn P w K mg base C F 11 "parts" k_parts := ok_parts (B := B) (A := A_c_parts) (c_check_function := c_check_function) (c_parts_by := c_parts_by)
  have c_descent : Fn P w K mg base C F 12 "descent" k_descent := ok_descent (B := B) (A := A_c_descent) (c_check_function := c_check_function) (c_descent_by := c_descent_by)
  have c_whose_slope : Fn P w K mg base C F 13 "whose_slope" k_whose_slope := ok_whose_slope (B := B) (A := A_c_whose_slope) (c_check_function := c_check_function) (c_slope_source := c_slope_source)
  have c__law_hash : Fn P w K mg base C F 1 "_law_hash" k__law_hash := ok__law_hash (B := B) (A := A_c__law_hash)
  have c__law_cell : Fn P w K mg base C F 1 "_law_cell" k__law_cell := ok__law_cell (B := B) (A := A_c__law_cell)
  have c__law_trim : Fn P w K mg base C F 1 "_law_trim" k__law_trim := ok__law_trim (B := B) (A := A_c__law_trim)
  have c__law_add : Fn P w K mg base C F 2 "_law_add" k__law_add := ok__law_add (B := B) (A := A_c__law_add) (c__law_trim := c__law_trim)
  have c__law_fall : Fn P w K mg base C F 2 "_law_fall" k__law_fall := ok__law_fall (B := B) (A := A_c__law_fall) (c__law_trim := c__law_trim)
  have c__law_scale : Fn P w K mg base C F 2 "_law_scale" k__law_scale := ok__law_scale (B := B) (A := A_c__law_scale) (c__law_trim := c__law_trim)
  have c__law_mul : Fn P w K mg base C F 2 "_law_mul" k__law_mul := ok__law_mul (B := B) (A := A_c__law_mul) (c__law_trim := c__law_trim)
  have c__law_power : Fn P w K mg base C F 3 "_law_power" k__law_power := ok__law_power (B := B) (A := A_c__law_power) (c__law_mul := c__law_mul)
  have c__law_back : Fn P w K mg base C F 1 "_law_back" k__law_back := ok__law_back (B := B) (A := A_c__law_back)
  have c__law_rest : Fn P w K mg base C F 3 "_law_rest" k__law_rest := ok__law_rest (B := B) (A := A_c__law_rest) (c__law_back := c__law_back) (c__law_add := c__law_add) (c__law_scale := c__law_scale) (c__law_mul := c__law_mul)
  have c__law_whole : Fn P w K mg base C F 3 "_law_whole" k__law_whole := ok__law_whole (B := B) (A := A_c__law_whole) (c__law_back := c__law_back) (c__law_add := c__law_add) (c__law_scale := c__law_scale) (c__law_mul := c__law_mul)
  have c__law_common : Fn P w K mg base C F 4 "_law_common" k__law_common := ok__law_common (B := B) (A := A_c__law_common) (c__law_rest := c__law_rest)
  have c__law_of : Fn P w K mg base C F 9 "_law_of" k__law_of := ok__law_of (B := B) (A := A_c__law_of) (n_Curve := n_Curve)
  have c__law_made : Fn P w K mg base C F 10 "_law_made" k__law_made := ok__law_made (B := B) (A := A_c__law_made) (n_Function := n_Function) (c__law_of := c__law_of)
  have c__law_seen : Fn P w K mg base C F 2 "_law_seen" k__law_seen := ok__law_seen (B := B) (A := A_c__law_seen) (m_top := m_top) (m_side := m_side) (m_bottom := m_bottom)
  have c__law_nought : Fn P w K mg base C F 1 "_law_nought" k__law_nought := ok__law_nought (B := B) (A := A_c__law_nought)
  have c__law_same : Fn P w K mg base C F 3 "_law_same" k__law_same := ok__law_same (B := B) (A := A_c__law_same) (c__law_mul := c__law_mul)
  have c__law_least : Fn P w K mg base C F 5 "_law_least" k__law_least := ok__law_least (B := B) (A := A_c__law_least) (c__law_common := c__law_common) (c__law_whole := c__law_whole) (c__law_back := c__law_back) (c__law_scale := c__law_scale)
  have c__law_slope : Fn P w K mg base C F 6 "_law_slope" k__law_slope := ok__law_slope (B := B) (A := A_c__law_slope) (c__law_fall := c__law_fall) (c__law_add := c__law_add) (c__law_mul := c__law_mul) (c__law_scale := c__law_scale) (c__law_least := c__law_least)
  have c__law_parts : Fn P w K mg base C F 6 "_law_parts" k__law_parts := ok__law_parts (B := B) (A := A_c__law_parts) (c__law_power := c__law_power) (c__law_mul := c__law_mul) (c__law_least := c__law_least) (c__law_trim := c__law_trim)
  have c__law_random : Fn P w K mg base C F 2 "_law_random" k__law_random := ok__law_random (B := B) (A := A_c__law_random) (c__law_hash := c__law_hash)
  have c__law_poly : Fn P w K mg base C F 3 "_law_poly" k__law_poly := ok__law_poly (B := B) (A := A_c__law_poly) (c__law_trim := c__law_trim) (c__law_random := c__law_random)
  have c__law_curve : Fn P w K mg base C F 5 "_law_curve" k__law_curve := ok__law_curve (B := B) (A := A_c__law_curve) (c__law_random := c__law_random) (c__law_common := c__law_common) (c__law_fall := c__law_fall)
  have c__law_triple : Fn P w K mg base C F 4 "_law_triple" k__law_triple := ok__law_triple (B := B) (A := A_c__law_triple) (c__law_poly := c__law_poly)
  have kw_whose_slope : Kw1 P w K mg base C F 13 "whose_slope" "one" k_whose_slope := okk_whose_slope (B := B) (A := A_c_whose_slope) (c_check_function := c_check_function) (c_slope_source := c_slope_source)
  have c__law_asked : Fn P w K mg base C F 14 "_law_asked" k__law_asked := ok__law_asked (B := B) (A := A_c__law_asked) (c__law_seen := c__law_seen) (c_parts := c_parts) (c_descent := c_descent) (c__law_nought := c__law_nought) (c__law_parts := c__law_parts) (c_whose_slope := c_whose_slope) (kw_whose_slope := kw_whose_slope) (q_F := q_F) (c__law_same := c__law_same) (c__law_slope := c__law_slope) (c_slope := c_slope)
  have c__law_right : Fn P w K mg base C F 15 "_law_right" k__law_right := ok__law_right (B := B) (A := A_c__law_right) (c__law_curve := c__law_curve) (c__law_made := c__law_made) (c__law_triple := c__law_triple) (c_slope := c_slope) (c_sum_of := c_sum_of) (c__law_asked := c__law_asked) (c_whose_slope := c_whose_slope) (c__law_seen := c__law_seen) (c_parts := c_parts) (q_F := q_F) (c_less_of := c_less_of) (c_power_of_functions := c_power_of_functions)
  have g__law_generator : FnF P w K mg base C F 2 "_law_generator" kF__law_generator := okf__law_generator (B := B) (A := A_g__law_generator) (c__law_cell := c__law_cell)
  exact ok_law (B := B) (Fd := Fd) (c__law_right := c__law_right) (g__law_generator := g__law_generator) (n_Function := n_Function) (n_Curve := n_Curve) (q_F := q_F) (c_whose_slope := c_whose_slope) (c_slope := c_slope) (c_less_of := c_less_of) (c_power_of_functions := c_power_of_functions) (c_parts := c_parts) (c__law_seen := c__law_seen)
end KH
end
set_option Elab.async false
set_option linter.all false
set_option maxRecDepth 100000
set_option maxHeartbeats 0
namespace KH
open PySem PySem.Spec PyProof.Rows L2
theorem insB_ok {K : PySem.W.Frag} {C : Addr} (cl : Cls K C) (h : insB K C = true) : DL.InsOk K C := by
  obtain ⟨h1, h⟩ := He.ba h
  obtain ⟨h2, h⟩ := He.ba h
  obtain ⟨h3, h⟩ := He.ba h
  obtain ⟨h4, h5⟩ := He.ba h
  exact ⟨cl, He.eqO_ok h1, of_decide_eq_true h2, of_decide_eq_true h3, of_decide_eq_true h4, of_decide_eq_true h5⟩
theorem ats_of {K : PySem.W.Frag} {h : Heap} {mg : Str → Option Value} (X : K.In h) (G : h.Ns mainGlobals mg) (c : SaysK K) : Ats K mg (He.ga K "Curve") (He.ga K "Function") := by
  obtain ⟨d, e⟩ := c
  obtain ⟨e1, e⟩ := He.ba e
  obtain ⟨e2, e3⟩ := He.ba e
  have cC : Cls K (He.ga K "Curve") := (He.cls_ok (d.fact 100 (f := .cls "Curve") rfl))
  have cF : Cls K (He.ga K "Function") := (He.cls_ok (d.fact 101 (f := .cls "Function") rfl))
  have mC := He.mkr_ok (d.fact 106 (f := .mkr "Curve") rfl)
  have mF := He.mkr_ok (d.fact 107 (f := .mkr "Function") rfl)
  have B : Bi K mg (He.ga K "Curve") (He.ga K "Function") := ⟨He.free_ok X G (d.fact 83 (f := .free "int") rfl), He.free_ok X G (d.fact 84 (f := .free "bool") rfl), He.free_ok X G (d.fact 85 (f := .free "list") rfl), He.free_ok X G (d.fact 86 (f := .free "len") rfl), He.free_ok X G (d.fact 87 (f := .free "range") rfl), He.free_ok X G (d.fact 88 (f := .free "enumerate") rfl), He.free_ok X G (d.fact 89 (f := .free "max") rfl), He.free_ok X G (d.fact 90 (f := .free "min") rfl), He.free_ok X G (d.fact 91 (f := .free "abs") rfl), He.free_ok X G (d.fact 92 (f := .free "repr") rfl), He.free_ok X G (d.fact 93 (f := .free "sum") rfl), He.free_ok X G (d.fact 94 (f := .free "isinstance") rfl), (He.glo_ok X G (d.fact 98 (f := .glo "Curve") rfl)), (He.glo_ok X G (d.fact 99 (f := .glo "Function") rfl)), He.int_ok X G (d.fact 95 (f := .int "MOST_POWER" 60) rfl), He.int_ok X G (d.fact 96 (f := .int "MOST_EXPONENT" 20) rfl), ⟨_, (He.glo_ok X G (d.fact 97 (f := .glo "PRIMES") rfl)), fun H => He.tupB_ok e1 H⟩, insB_ok cC e2, insB_ok cF e3, He.noat_ok (d.fact 102 (f := .noat "Curve" "_prime") rfl), He.noat_ok (d.fact 103 (f := .noat "Curve" "_polynomial") rfl), He.noat_ok (d.fact 104 (f := .noat "Function" "_curve") rfl), He.noat_ok (d.fact 105 (f := .noat "Function" "_parts") rfl)⟩
  have A_c_is_whole : At K mg "is_whole" "is_whole" (top 12) := (let ⟨fd, Fd⟩ := d.def_ 0 (d := d_A_c_is_whole) rfl; ⟨_, fd, Fd, (He.glo_ok X G (d.fact 0 (f := .glo "is_whole") rfl))⟩)
  have A_c_is_between : At K mg "is_between" "is_between" (top 13) := (let ⟨fd, Fd⟩ := d.def_ 1 (d := d_A_c_is_between) rfl; ⟨_, fd, Fd, (He.glo_ok X G (d.fact 1 (f := .glo "is_between") rfl))⟩)
  have A_c_check_number : At K mg "check_number" "check_number" (top 14) := (let ⟨fd, Fd⟩ := d.def_ 2 (d := d_A_c_check_number) rfl; ⟨_, fd, Fd, (He.glo_ok X G (d.fact 2 (f := .glo "check_number") rfl))⟩)
  have A_c_check_prime : At K mg "check_prime" "check_prime" (top 15) := (let ⟨fd, Fd⟩ := d.def_ 3 (d := d_A_c_check_prime) rfl; ⟨_, fd, Fd, (He.glo_ok X G (d.fact 3 (f := .glo "check_prime") rfl))⟩)
  have A_c_is_poly_list : At K mg "is_poly_list" "is_poly_list" (top 16) := (let ⟨fd, Fd⟩ := d.def_ 4 (d := d_A_c_is_poly_list) rfl; ⟨_, fd, Fd, (He.glo_ok X G (d.fact 4 (f := .glo "is_poly_list") rfl))⟩)
  have A_c_check_poly : At K mg "check_poly" "check_poly" (top 17) := (let ⟨fd, Fd⟩ := d.def_ 5 (d := d_A_c_check_poly) rfl; ⟨_, fd, Fd, (He.glo_ok X G (d.fact 5 (f := .glo "check_poly") rfl))⟩)
  have A_c_inverse : At K mg "inverse" "inverse" (top 18) := (let ⟨fd, Fd⟩ := d.def_ 6 (d := d_A_c_inverse) rfl; ⟨_, fd, Fd, (He.glo_ok X G (d.fact 6 (f := .glo "inverse") rfl))⟩)
  have A_c_trimmed : At K mg "trimmed" "trimmed" (top 19) := (let ⟨fd, Fd⟩ := d.def_ 7 (d := d_A_c_trimmed) rfl; ⟨_, fd, Fd, (He.glo_ok X G (d.fact 7 (f := .glo "trimmed") rfl))⟩)
  have A_c_added : At K mg "added" "added" (top 20) := (let ⟨fd, Fd⟩ := d.def_ 8 (d := d_A_c_added) rfl; ⟨_, fd, Fd, (He.glo_ok X G (d.fact 8 (f := .glo "added") rfl))⟩)
  have A_c_negated : At K mg "negated" "negated" (top 21) := (let ⟨fd, Fd⟩ := d.def_ 9 (d := d_A_c_negated) rfl; ⟨_, fd, Fd, (He.glo_ok X G (d.fact 9 (f := .glo "negated") rfl))⟩)
  have A_c_lessened : At K mg "lessened" "lessened" (top 22) := (let ⟨fd, Fd⟩ := d.def_ 10 (d := d_A_c_lessened) rfl; ⟨_, fd, Fd, (He.glo_ok X G (d.fact 10 (f := .glo "lessened") rfl))⟩)
  have A_c_scaled : At K mg "scaled" "scaled" (top 23) := (let ⟨fd, Fd⟩ := d.def_ 11 (d := d_A_c_scaled) rfl; ⟨_, fd, Fd, (He.glo_ok X G (d.fact 11 (f := .glo "scaled") rfl))⟩)
  have A_c_multiplied : At K mg "multiplied" "multiplied" (top 24) := (let ⟨fd, Fd⟩ := d.def_ 12 (d := d_A_c_multiplied) rfl; ⟨_, fd, Fd, (He.glo_ok X G (d.fact 12 (f := .glo "multiplied") rfl))⟩)
  have A_c_power_of_polys : At K mg "power_of_polys" "power_of" (top 25) := (let ⟨fd, Fd⟩ := d.def_ 13 (d := d_A_c_power_of_polys) rfl; ⟨_, fd, Fd, (He.glo_ok X G (d.fact 13 (f := .glo "power_of_polys") rfl))⟩)
  have A_c_parted : At K mg "parted" "parted" (top 27) := (let ⟨fd, Fd⟩ := d.def_ 14 (d := d_A_c_parted) rfl; ⟨_, fd, Fd, (He.glo_ok X G (d.fact 14 (f := .glo "parted") rfl))⟩)
  have A_c_whole_part : At K mg "whole_part" "whole_part" (top 28) := (let ⟨fd, Fd⟩ := d.def_ 15 (d := d_A_c_whole_part) rfl; ⟨_, fd, Fd, (He.glo_ok X G (d.fact 15 (f := .glo "whole_part") rfl))⟩)
  have A_c_common_with : At K mg "common_with" "common_with" (top 29) := (let ⟨fd, Fd⟩ := d.def_ 16 (d := d_A_c_common_with) rfl; ⟨_, fd, Fd, (He.glo_ok X G (d.fact 16 (f := .glo "common_with") rfl))⟩)
  have A_c_common_of : At K mg "common_of" "common_of" (top 30) := (let ⟨fd, Fd⟩ := d.def_ 17 (d := d_A_c_common_of) rfl; ⟨_, fd, Fd, (He.glo_ok X G (d.fact 17 (f := .glo "common_of") rfl))⟩)
  have A_c_slope_of : At K mg "slope_of" "slope_of" (top 31) := (let ⟨fd, Fd⟩ := d.def_ 18 (d := d_A_c_slope_of) rfl; ⟨_, fd, Fd, (He.glo_ok X G (d.fact 18 (f := .glo "slope_of") rfl))⟩)
  have A_c_is_curve_poly : At K mg "is_curve_poly" "is_curve_poly" (top 34) := (let ⟨fd, Fd⟩ := d.def_ 19 (d := d_A_c_is_curve_poly) rfl; ⟨_, fd, Fd, (He.glo_ok X G (d.fact 19 (f := .glo "is_curve_poly") rfl))⟩)
  have A_c_every : At K mg "every" "every" (top 58) := (let ⟨fd, Fd⟩ := d.def_ 20 (d := d_A_c_every) rfl; ⟨_, fd, Fd, (He.glo_ok X G (d.fact 20 (f := .glo "every") rfl))⟩)
  have A_c_stretched : At K mg "stretched" "stretched" (top 61) := (let ⟨fd, Fd⟩ := d.def_ 21 (d := d_A_c_stretched) rfl; ⟨_, fd, Fd, (He.glo_ok X G (d.fact 21 (f := .glo "stretched") rfl))⟩)
  have A_c_raised_source : At K mg "raised_source" "raised_source" (top 68) := (let ⟨fd, Fd⟩ := d.def_ 22 (d := d_A_c_raised_source) rfl; ⟨_, fd, Fd, (He.glo_ok X G (d.fact 22 (f := .glo "raised_source") rfl))⟩)
  have A_m_prime : AtM K (He.ga K "Curve") "prime" "Curve.prime" (mth 33 1) := (let ⟨fd, Fd⟩ := d.def_ 74 (d := d_A_m_prime) rfl; let z := He.meth_ok (d.fact 74 (f := .meth "Curve" "prime") rfl); ⟨_, fd, Fd, z.at_, z.fn⟩)
  have A_m_polynomial : AtM K (He.ga K "Curve") "polynomial" "Curve.polynomial" (mth 33 2) := (let ⟨fd, Fd⟩ := d.def_ 75 (d := d_A_m_polynomial) rfl; let z := He.meth_ok (d.fact 75 (f := .meth "Curve" "polynomial") rfl); ⟨_, fd, Fd, z.at_, z.fn⟩)
  have A_m_curve : AtM K (He.ga K "Function") "curve" "Function.curve" (mth 37 1) := (let ⟨fd, Fd⟩ := d.def_ 76 (d := d_A_m_curve) rfl; let z := He.meth_ok (d.fact 76 (f := .meth "Function" "curve") rfl); ⟨_, fd, Fd, z.at_, z.fn⟩)
  have A_m_top : AtM K (He.ga K "Function") "top" "Function.top" (mth 37 2) := (let ⟨fd, Fd⟩ := d.def_ 77 (d := d_A_m_top) rfl; let z := He.meth_ok (d.fact 77 (f := .meth "Function" "top") rfl); ⟨_, fd, Fd, z.at_, z.fn⟩)
  have A_m_side : AtM K (He.ga K "Function") "side" "Function.side" (mth 37 3) := (let ⟨fd, Fd⟩ := d.def_ 78 (d := d_A_m_side) rfl; let z := He.meth_ok (d.fact 78 (f := .meth "Function" "side") rfl); ⟨_, fd, Fd, z.at_, z.fn⟩)
  have A_m_bottom : AtM K (He.ga K "Function") "bottom" "Function.bottom" (mth 37 4) := (let ⟨fd, Fd⟩ := d.def_ 79 (d := d_A_m_bottom) rfl; let z := He.meth_ok (d.fact 79 (f := .meth "Function" "bottom") rfl); ⟨_, fd, Fd, z.at_, z.fn⟩)
  have A_q_C : AtM K (He.ga K "Curve") "__eq__" "Curve.__eq__" (mth 33 4) := (let ⟨fd, Fd⟩ := d.def_ 80 (d := d_A_q_C) rfl; let z := He.meth_ok (d.fact 80 (f := .meth "Curve" "__eq__") rfl); ⟨_, fd, Fd, z.at_, z.fn⟩)
  have A_q_F : AtM K (He.ga K "Function") "__eq__" "Function.__eq__" (mth 37 5) := (let ⟨fd, Fd⟩ := d.def_ 81 (d := d_A_q_F) rfl; let z := He.meth_ok (d.fact 81 (f := .meth "Function" "__eq__") rfl); ⟨_, fd, Fd, z.at_, z.fn⟩)
  have A_n_Curve : AtM K (He.ga K "Curve") "__init__" "Curve.__init__" (mth 33 0) := (let ⟨fd, Fd⟩ := d.def_ 82 (d := d_A_n_Curve) rfl; ⟨_, fd, Fd, mC.init, mC.fn⟩)
  have A_c_least_parts : At K mg "least_parts" "least_parts" (top 38) := (let ⟨fd, Fd⟩ := d.def_ 23 (d := d_A_c_least_parts) rfl; ⟨_, fd, Fd, (He.glo_ok X G (d.fact 23 (f := .glo "least_parts") rfl))⟩)
  have A_n_Function : AtM K (He.ga K "Function") "__init__" "Function.__init__" (mth 37 0) := (let ⟨fd, Fd⟩ := d.def_ 83 (d := d_A_n_Function) rfl; ⟨_, fd, Fd, mF.init, mF.fn⟩)
  have A_c_made : At K mg "made" "made" (top 39) := (let ⟨fd, Fd⟩ := d.def_ 24 (d := d_A_c_made) rfl; ⟨_, fd, Fd, (He.glo_ok X G (d.fact 24 (f := .glo "made") rfl))⟩)
  have A_c_parts_of : At K mg "parts_of" "parts_of" (top 40) := (let ⟨fd, Fd⟩ := d.def_ 25 (d := d_A_c_parts_of) rfl; ⟨_, fd, Fd, (He.glo_ok X G (d.fact 25 (f := .glo "parts_of") rfl))⟩)
  have A_c_is_nought : At K mg "is_nought" "is_nought" (top 41) := (let ⟨fd, Fd⟩ := d.def_ 26 (d := d_A_c_is_nought) rfl; ⟨_, fd, Fd, (He.glo_ok X G (d.fact 26 (f := .glo "is_nought") rfl))⟩)
  have A_c_plus : At K mg "plus" "plus" (top 42) := (let ⟨fd, Fd⟩ := d.def_ 27 (d := d_A_c_plus) rfl; ⟨_, fd, Fd, (He.glo_ok X G (d.fact 27 (f := .glo "plus") rfl))⟩)
  have A_c_opposite : At K mg "opposite" "opposite" (top 43) := (let ⟨fd, Fd⟩ := d.def_ 28 (d := d_A_c_opposite) rfl; ⟨_, fd, Fd, (He.glo_ok X G (d.fact 28 (f := .glo "opposite") rfl))⟩)
  have A_c_minus : At K mg "minus" "minus" (top 44) := (let ⟨fd, Fd⟩ := d.def_ 29 (d := d_A_c_minus) rfl; ⟨_, fd, Fd, (He.glo_ok X G (d.fact 29 (f := .glo "minus") rfl))⟩)
  have A_c_times : At K mg "times" "times" (top 45) := (let ⟨fd, Fd⟩ := d.def_ 30 (d := d_A_c_times) rfl; ⟨_, fd, Fd, (He.glo_ok X G (d.fact 30 (f := .glo "times") rfl))⟩)
  have A_c_slope_by : At K mg "slope_by" "slope_by" (top 49) := (let ⟨fd, Fd⟩ := d.def_ 31 (d := d_A_c_slope_by) rfl; ⟨_, fd, Fd, (He.glo_ok X G (d.fact 31 (f := .glo "slope_by") rfl))⟩)
  have A_c_tops_over : At K mg "tops_over" "tops_over" (top 59) := (let ⟨fd, Fd⟩ := d.def_ 32 (d := d_A_c_tops_over) rfl; ⟨_, fd, Fd, (He.glo_ok X G (d.fact 32 (f := .glo "tops_over") rfl))⟩)
  have A_c_parts_by : At K mg "parts_by" "parts_by" (top 60) := (let ⟨fd, Fd⟩ := d.def_ 33 (d := d_A_c_parts_by) rfl; ⟨_, fd, Fd, (He.glo_ok X G (d.fact 33 (f := .glo "parts_by") rfl))⟩)
  have A_c_descent_by : At K mg "descent_by" "descent_by" (top 64) := (let ⟨fd, Fd⟩ := d.def_ 34 (d := d_A_c_descent_by) rfl; ⟨_, fd, Fd, (He.glo_ok X G (d.fact 34 (f := .glo "descent_by") rfl))⟩)
  have A_c_slope_source : At K mg "slope_source" "slope_source" (top 67) := (let ⟨fd, Fd⟩ := d.def_ 35 (d := d_A_c_slope_source) rfl; ⟨_, fd, Fd, (He.glo_ok X G (d.fact 35 (f := .glo "slope_source") rfl))⟩)
  have A_c_check_function : At K mg "check_function" "check_function" (top 50) := (let ⟨fd, Fd⟩ := d.def_ 36 (d := d_A_c_check_function) rfl; ⟨_, fd, Fd, (He.glo_ok X G (d.fact 36 (f := .glo "check_function") rfl))⟩)
  have A_c_back_of : At K mg "back_of" "back_of" (top 47) := (let ⟨fd, Fd⟩ := d.def_ 37 (d := d_A_c_back_of) rfl; ⟨_, fd, Fd, (He.glo_ok X G (d.fact 37 (f := .glo "back_of") rfl))⟩)
  have A_c_raised_to : At K mg "raised_to" "raised_to" (top 48) := (let ⟨fd, Fd⟩ := d.def_ 38 (d := d_A_c_raised_to) rfl; ⟨_, fd, Fd, (He.glo_ok X G (d.fact 38 (f := .glo "raised_to") rfl))⟩)
  have A_c_check_both : At K mg "check_both" "check_both" (top 51) := (let ⟨fd, Fd⟩ := d.def_ 39 (d := d_A_c_check_both) rfl; ⟨_, fd, Fd, (He.glo_ok X G (d.fact 39 (f := .glo "check_both") rfl))⟩)
  have A_c_sum_of : At K mg "sum_of" "sum_of" (top 52) := (let ⟨fd, Fd⟩ := d.def_ 40 (d := d_A_c_sum_of) rfl; ⟨_, fd, Fd, (He.glo_ok X G (d.fact 40 (f := .glo "sum_of") rfl))⟩)
  have A_c_less_of : At K mg "less_of" "less_of" (top 53) := (let ⟨fd, Fd⟩ := d.def_ 41 (d := d_A_c_less_of) rfl; ⟨_, fd, Fd, (He.glo_ok X G (d.fact 41 (f := .glo "less_of") rfl))⟩)
  have A_c_power_of_functions : At K mg "power_of_functions" "power_of" (top 54) := (let ⟨fd, Fd⟩ := d.def_ 42 (d := d_A_c_power_of_functions) rfl; ⟨_, fd, Fd, (He.glo_ok X G (d.fact 42 (f := .glo "power_of_functions") rfl))⟩)
  have A_c_slope : At K mg "slope" "slope" (top 56) := (let ⟨fd, Fd⟩ := d.def_ 43 (d := d_A_c_slope) rfl; ⟨_, fd, Fd, (He.glo_ok X G (d.fact 43 (f := .glo "slope") rfl))⟩)
  have A_c_parts : At K mg "parts" "parts" (top 62) := (let ⟨fd, Fd⟩ := d.def_ 44 (d := d_A_c_parts) rfl; ⟨_, fd, Fd, (He.glo_ok X G (d.fact 44 (f := .glo "parts") rfl))⟩)
  have A_c_descent : At K mg "descent" "descent" (top 65) := (let ⟨fd, Fd⟩ := d.def_ 45 (d := d_A_c_descent) rfl; ⟨_, fd, Fd, (He.glo_ok X G (d.fact 45 (f := .glo "descent") rfl))⟩)
  have A_c_whose_slope : At K mg "whose_slope" "whose_slope" (top 69) := (let ⟨fd, Fd⟩ := d.def_ 46 (d := d_A_c_whose_slope) rfl; ⟨_, fd, Fd, (He.glo_ok X G (d.fact 46 (f := .glo "whose_slope") rfl))⟩)
  have A_c__law_hash : At K mg "_law_hash" "_law_hash" (top 71) := (let ⟨fd, Fd⟩ := d.def_ 47 (d := d_A_c__law_hash) rfl; ⟨_, fd, Fd, (He.glo_ok X G (d.fact 47 (f := .glo "_law_hash") rfl))⟩)
  have A_c__law_cell : At K mg "_law_cell" "_law_cell" (top 73) := (let ⟨fd, Fd⟩ := d.def_ 48 (d := d_A_c__law_cell) rfl; ⟨_, fd, Fd, (He.glo_ok X G (d.fact 48 (f := .glo "_law_cell") rfl))⟩)
  have A_c__law_trim : At K mg "_law_trim" "_law_trim" (top 75) := (let ⟨fd, Fd⟩ := d.def_ 49 (d := d_A_c__law_trim) rfl; ⟨_, fd, Fd, (He.glo_ok X G (d.fact 49 (f := .glo "_law_trim") rfl))⟩)
  have A_c__law_add : At K mg "_law_add" "_law_add" (top 76) := (let ⟨fd, Fd⟩ := d.def_ 50 (d := d_A_c__law_add) rfl; ⟨_, fd, Fd, (He.glo_ok X G (d.fact 50 (f := .glo "_law_add") rfl))⟩)
  have A_c__law_fall : At K mg "_law_fall" "_law_fall" (top 83) := (let ⟨fd, Fd⟩ := d.def_ 51 (d := d_A_c__law_fall) rfl; ⟨_, fd, Fd, (He.glo_ok X G (d.fact 51 (f := .glo "_law_fall") rfl))⟩)
  have A_c__law_scale : At K mg "_law_scale" "_law_scale" (top 77) := (let ⟨fd, Fd⟩ := d.def_ 52 (d := d_A_c__law_scale) rfl; ⟨_, fd, Fd, (He.glo_ok X G (d.fact 52 (f := .glo "_law_scale") rfl))⟩)
  have A_c__law_mul : At K mg "_law_mul" "_law_mul" (top 78) := (let ⟨fd, Fd⟩ := d.def_ 53 (d := d_A_c__law_mul) rfl; ⟨_, fd, Fd, (He.glo_ok X G (d.fact 53 (f := .glo "_law_mul") rfl))⟩)
  have A_c__law_power : At K mg "_law_power" "_law_power" (top 79) := (let ⟨fd, Fd⟩ := d.def_ 54 (d := d_A_c__law_power) rfl; ⟨_, fd, Fd, (He.glo_ok X G (d.fact 54 (f := .glo "_law_power") rfl))⟩)
  have A_c__law_back : At K mg "_law_back" "_law_back" (top 80) := (let ⟨fd, Fd⟩ := d.def_ 55 (d := d_A_c__law_back) rfl; ⟨_, fd, Fd, (He.glo_ok X G (d.fact 55 (f := .glo "_law_back") rfl))⟩)
  have A_c__law_rest : At K mg "_law_rest" "_law_rest" (top 81) := (let ⟨fd, Fd⟩ := d.def_ 56 (d := d_A_c__law_rest) rfl; ⟨_, fd, Fd, (He.glo_ok X G (d.fact 56 (f := .glo "_law_rest") rfl))⟩)
  have A_c__law_whole : At K mg "_law_whole" "_law_whole" (top 93) := (let ⟨fd, Fd⟩ := d.def_ 57 (d := d_A_c__law_whole) rfl; ⟨_, fd, Fd, (He.glo_ok X G (d.fact 57 (f := .glo "_law_whole") rfl))⟩)
  have A_c__law_common : At K mg "_law_common" "_law_common" (top 82) := (let ⟨fd, Fd⟩ := d.def_ 58 (d := d_A_c__law_common) rfl; ⟨_, fd, Fd, (He.glo_ok X G (d.fact 58 (f := .glo "_law_common") rfl))⟩)
  have A_c__law_of : At K mg "_law_of" "_law_of" (top 86) := (let ⟨fd, Fd⟩ := d.def_ 59 (d := d_A_c__law_of) rfl; ⟨_, fd, Fd, (He.glo_ok X G (d.fact 59 (f := .glo "_law_of") rfl))⟩)
  have A_c__law_made : At K mg "_law_made" "_law_made" (top 88) := (let ⟨fd, Fd⟩ := d.def_ 60 (d := d_A_c__law_made) rfl; ⟨_, fd, Fd, (He.glo_ok X G (d.fact 60 (f := .glo "_law_made") rfl))⟩)
  have A_c__law_seen : At K mg "_law_seen" "_law_seen" (top 89) := (let ⟨fd, Fd⟩ := d.def_ 61 (d := d_A_c__law_seen) rfl; ⟨_, fd, Fd, (He.glo_ok X G (d.fact 61 (f := .glo "_law_seen") rfl))⟩)
  have A_c__law_nought : At K mg "_law_nought" "_law_nought" (top 90) := (let ⟨fd, Fd⟩ := d.def_ 62 (d := d_A_c__law_nought) rfl; ⟨_, fd, Fd, (He.glo_ok X G (d.fact 62 (f := .glo "_law_nought") rfl))⟩)
  have A_c__law_same : At K mg "_law_same" "_law_same" (top 91) := (let ⟨fd, Fd⟩ := d.def_ 63 (d := d_A_c__law_same) rfl; ⟨_, fd, Fd, (He.glo_ok X G (d.fact 63 (f := .glo "_law_same") rfl))⟩)
  have A_c__law_least : At K mg "_law_least" "_law_least" (top 92) := (let ⟨fd, Fd⟩ := d.def_ 64 (d := d_A_c__law_least) rfl; ⟨_, fd, Fd, (He.glo_ok X G (d.fact 64 (f := .glo "_law_least") rfl))⟩)
  have A_c__law_slope : At K mg "_law_slope" "_law_slope" (top 94) := (let ⟨fd, Fd⟩ := d.def_ 65 (d := d_A_c__law_slope) rfl; ⟨_, fd, Fd, (He.glo_ok X G (d.fact 65 (f := .glo "_law_slope") rfl))⟩)
  have A_c__law_parts : At K mg "_law_parts" "_law_parts" (top 95) := (let ⟨fd, Fd⟩ := d.def_ 66 (d := d_A_c__law_parts) rfl; ⟨_, fd, Fd, (He.glo_ok X G (d.fact 66 (f := .glo "_law_parts") rfl))⟩)
  have A_c__law_poly : At K mg "_law_poly" "_law_poly" (top 84) := (let ⟨fd, Fd⟩ := d.def_ 67 (d := d_A_c__law_poly) rfl; ⟨_, fd, Fd, (He.glo_ok X G (d.fact 67 (f := .glo "_law_poly") rfl))⟩)
  have A_c__law_curve : At K mg "_law_curve" "_law_curve" (top 85) := (let ⟨fd, Fd⟩ := d.def_ 68 (d := d_A_c__law_curve) rfl; ⟨_, fd, Fd, (He.glo_ok X G (d.fact 68 (f := .glo "_law_curve") rfl))⟩)
  have A_c__law_triple : At K mg "_law_triple" "_law_triple" (top 87) := (let ⟨fd, Fd⟩ := d.def_ 69 (d := d_A_c__law_triple) rfl; ⟨_, fd, Fd, (He.glo_ok X G (d.fact 69 (f := .glo "_law_triple") rfl))⟩)
  have A_c__law_asked : At K mg "_law_asked" "_law_asked" (top 96) := (let ⟨fd, Fd⟩ := d.def_ 70 (d := d_A_c__law_asked) rfl; ⟨_, fd, Fd, (He.glo_ok X G (d.fact 70 (f := .glo "_law_asked") rfl))⟩)
  have A_c__law_right : At K mg "_law_right" "_law_right" (top 97) := (let ⟨fd, Fd⟩ := d.def_ 71 (d := d_A_c__law_right) rfl; ⟨_, fd, Fd, (He.glo_ok X G (d.fact 71 (f := .glo "_law_right") rfl))⟩)
  have A_c__law_random : At K mg "_law_random" "_law_random" (top 72) := (let ⟨fd, Fd⟩ := d.def_ 72 (d := d_A_c__law_random) rfl; ⟨_, fd, Fd, (He.glo_ok X G (d.fact 72 (f := .glo "_law_random") rfl))⟩)
  have A_g__law_generator : At K mg "_law_generator" "_law_generator" (top 74) := (let ⟨fd, Fd⟩ := d.def_ 73 (d := d_A_g__law_generator) rfl; ⟨_, fd, Fd, (He.glo_ok X G (d.fact 73 (f := .glo "_law_generator") rfl))⟩)
  exact ⟨B, mC.makes, mC.kp, mF.makes, mF.kp, A_c_is_whole, A_c_is_between, A_c_check_number, A_c_check_prime, A_c_is_poly_list, A_c_check_poly, A_c_inverse, A_c_trimmed, A_c_added, A_c_negated, A_c_lessened, A_c_scaled, A_c_multiplied, A_c_power_of_polys, A_c_parted, A_c_whole_part, A_c_common_with, A_c_common_of, A_c_slope_of, A_c_is_curve_poly, A_c_every, A_c_stretched, A_c_raised_source, A_m_prime, A_m_polynomial, A_m_curve, A_m_top, A_m_side, A_m_bottom, A_q_C, A_q_F, A_n_Curve, A_c_least_parts, A_n_Function, A_c_made, A_c_parts_of, A_c_is_nought, A_c_plus, A_c_opposite, A_c_minus, A_c_times, A_c_slope_by, A_c_tops_over, A_c_parts_by, A_c_descent_by, A_c_slope_source, A_c_check_function, A_c_back_of, A_c_raised_to, A_c_check_both, A_c_sum_of, A_c_less_of, A_c_power_of_functions, A_c_slope, A_c_parts, A_c_descent, A_c_whose_slope, A_c__law_hash, A_c__law_cell, A_c__law_trim, A_c__law_add, A_c__law_fall, A_c__law_scale, A_c__law_mul, A_c__law_power, A_c__law_back, A_c__law_rest, A_c__law_whole, A_c__law_common, A_c__law_of, A_c__law_made, A_c__law_seen, A_c__law_nought, A_c__law_same, A_c__law_least, A_c__law_slope, A_c__law_parts, A_c__law_poly, A_c__law_curve, A_c__law_triple, A_c__law_asked, A_c__law_right, A_c__law_random, A_g__law_generator⟩
theorem law_facts {P : Program} {w : World} {K : PySem.W.Frag} {h : Heap} {mg : Str → Option Value} {f : Addr} (X : K.In h) (G : h.Ns mainGlobals mg) (hfa : mg ("law" : Str) = some (.ref f)) (c : SaysK K) :
    ∃ fd : FuncData, (∀ (s : Shared) (v : Value), BindsTo s fd ⟨[v], []⟩ [("_law_script", v)]) ∧ ∀ base : Heap, K.In base → base.Ns mainGlobals mg → FnOk P w K mg base CX0 16 f fd ["_law_script"] (DL.spD0 K (He.ga K "Curve") (He.ga K "Function") k_law) := by
  have Z := ats_of X G c
  obtain ⟨fd, Fd⟩ := c.d.def_ 84 (d := d_law) rfl
  have e := hfa.symm.trans (He.glo_ok X G (c.d.fact 82 (f := .glo "law") rfl))
  cases e
  have b := FunD.bindsA (ps := ["_law_script"]) Fd fun _ _ _ _ _ _ us hl => match us, hl with | [_], _ => rfl
  exact ⟨fd, fun s v => b s [v] rfl, fun base _ _ => all_ok Z Fd⟩
theorem law_pre {K : PySem.W.Frag} {C F : Addr} {H : Hp} {a : Addr} {ns : List Int} (hl : ns.length ≤ 63) (hS : SqL K H a (ns.map V.int)) : DL.spD0 K C F k_law [.ref a] H (fun v _ => v = .bl true) fun _ _ _ => False := by
  refine ⟨H, 0, [.scr ns], ⟨DL.Sub.rfl, fun b hb => by cases hb⟩, ?_, ⟨ns, rfl, Nat.le_trans hl (by decide), ?_⟩⟩
  · simp only [DL.RepL, DL.Rep]
    exact ⟨_, _, rfl, ⟨a, rfl, hS⟩, rfl⟩
  · rintro d rfl v Hs' H' _ _ r
    exact DL.rep_bl r
end KH
open PySem PySem.W PySem.Calls PyProof.Rows
theorem PySem.Challenge.cw_curveheads_k75_whole_slopes_or_none_holds : PySem.Challenge.rw_curveheads_k75_whole_slopes_or_none.Holds := by
  w_on; o_law
  refine HandSHeadRun.head_any (r := OpenLaw.row PySem.Challenge.rw_curveheads_k75_whole_slopes_or_none) (q := view (OpenLaw.row PySem.Challenge.rw_curveheads_k75_whole_slopes_or_none).prog [98]) (H := KH.hkK) (ob := KH.obT) (M := 6000) (loose := KH.loose) (d := HandSHeadRun.topDef (OpenLaw.row PySem.Challenge.rw_curveheads_k75_whole_slopes_or_none).prog 98) (kwd := []) KH.obT_eq
    (by kernel_rfl) (fun s => by kernel_rfl) KH.run (by kernel_rfl) (by kernel_rfl) (by kernel_rfl) (by rfl) (by first | assumption | decide +kernel) (by decide +kernel) ⟨rfl, rfl, rfl, rfl, rfl, by decide +kernel⟩ ?hw ?hc
  case hw => w_witness2
  case hc =>
    refine L2.walk_ofE (l := PySem.Challenge.rw_curveheads_k75_whole_slopes_or_none) (n := 63) (k := 16) (x := "_law_script") (CX := L2.CX0) rfl (by decide) (by kernel_rfl) ⟨rfl, by decide, by decide⟩ ?F (fun _ _ _ _ z => z)
    intro w mg fa h Y G hmg0
    obtain ⟨K, KX, c⟩ := Y
    have hmg : mg ("law" : PySem.Str) = some (.ref fa) := by
      have e : (HandSHeadRun.topDef (OpenLaw.row PySem.Challenge.rw_curveheads_k75_whole_slopes_or_none).prog 98).name = ("law" : PySem.Str) := by kernel_rfl
      rw [← e]
      exact hmg0
    obtain ⟨fd, hb, hF⟩ := KH.law_facts (P := (PySem.Challenge.rw_curveheads_k75_whole_slopes_or_none).prog) (w := w) KX G hmg c
    exact ⟨K, fd, _, KX, hb, fun H a ns hl _ hS => KH.law_pre hl hS, hF⟩
