import PyProof.Rows.All
import Wide.All
import OpenK.AllK
import Wide.FinOn
import HandS.ForMost
import HandS.ForExc
import HandS.Evl
import HandS.TupAny
import HandS.Property
import HandS.MakeKw
import HandS.IsInst
import HandS.Zip
import HandS.Style
import KE.DataFind
import KE.DataMinMax
import HandS.SetFor
import HandS.TupSets
import HandS.Conv
import HandS.Dict
import KE.GoesEnum
import KE.GoesMore
import HandS.SortKw
import HandS.MakeKwOnly
import KE.KTupSum
import OpenK.KMeth
import HandS.ExcIs
import HandS.Exc
import HandS.ExcOwn
import HandS.WordsExc
import KE.KStateDown
import HandS.Ends
import HandS.Words
import HandS.Defaults
import HandS.Head0
import HandS.Head1
import HandS.Head2
import HandS.HeadEnd
import HandS.HeadHook1
import HandS.HeadHook2
import HandS.HeadNt
import PySem.Challenge.RW_sumtalk_k32_whole_honest_let_by
set_option Elab.async false
set_option linter.all false
set_option maxRecDepth 100000
set_option maxHeartbeats 0
namespace SK
open PySem PySem.Spec PyProof.Rows L2
def top (i : Nat) : Stmt := PySem.Challenge.pw_sumtalk_k32_whole_honest_let_by.main.body.getD i (.Pass ⟨0, 0, 0, 0⟩)
/-! ### the head: where things stand, what is asked of them -/
/-- the getter of a property of a global class -/
def prA (K : PySem.W.Frag) (x f : Str) : Addr := match PySem.W.recIn K (He.ma K (He.ga K x) f) "property" with
  | some (.ref g :: _) => g
  | _ => 0
def tblA : List (Nat × (Str × Option Str)) := [(2, (("TalkError" : PySem.Str), (none : Option PySem.Str))), (3, (("OtherField" : PySem.Str), (none : Option PySem.Str))), (4, (("WrongPlaces" : PySem.Str), (none : Option PySem.Str))), (5, (("DegreeTooHigh" : PySem.Str), (none : Option PySem.Str))), (6, (("OutOfRange" : PySem.Str), (none : Option PySem.Str))), (7, (("TooLarge" : PySem.Str), (none : Option PySem.Str))), (8, (("NotPrime" : PySem.Str), (none : Option PySem.Str))), (9, (("NotInField" : PySem.Str), (none : Option PySem.Str))), (11, (("is_whole" : PySem.Str), (none : Option PySem.Str))), (15, (("has_divisor" : PySem.Str), (none : Option PySem.Str))), (16, (("check_prime" : PySem.Str), (none : Option PySem.Str))), (17, (("is_number" : PySem.Str), (none : Option PySem.Str))), (21, (("Field" : PySem.Str), (none : Option PySem.Str))), (24, (("check_number_polys" : PySem.Str), (none : Option PySem.Str))), (26, (("check_row" : PySem.Str), (none : Option PySem.Str))), (29, (("trimmed" : PySem.Str), (none : Option PySem.Str))), (31, (("Poly" : PySem.Str), (none : Option PySem.Str))), (37, (("check_whole" : PySem.Str), (none : Option PySem.Str))), (38, (("check_number_forms" : PySem.Str), (none : Option PySem.Str))), (40, (("check_numbers_forms" : PySem.Str), (none : Option PySem.Str))), (42, (("checked_term" : PySem.Str), (none : Option PySem.Str))), (43, (("added_up" : PySem.Str), (none : Option PySem.Str))), (44, (("greatest_exponents" : PySem.Str), (none : Option PySem.Str))), (45, (("power_row" : PySem.Str), (none : Option PySem.Str))), (50, (("Form" : PySem.Str), (none : Option PySem.Str))), (52, (("corner_sum" : PySem.Str), (none : Option PySem.Str))), (53, (("round_poly" : PySem.Str), (none : Option PySem.Str))), (55, (("own_whole" : PySem.Str), (none : Option PySem.Str))), (56, (("own_number" : PySem.Str), (none : Option PySem.Str))), (57, (("own_degrees" : PySem.Str), (none : Option PySem.Str))), (58, (("Claim" : PySem.Str), (none : Option PySem.Str))), (61, (("own_poly" : PySem.Str), (none : Option PySem.Str))), (62, (("own_rounds" : PySem.Str), (none : Option PySem.Str))), (63, (("Journal" : PySem.Str), (none : Option PySem.Str))), (65, (("check_numbers_tellers" : PySem.Str), (none : Option PySem.Str))), (67, (("check_same_field" : PySem.Str), (none : Option PySem.Str))), (68, (("ask" : PySem.Str), (none : Option PySem.Str))), (69, (("is_fitting" : PySem.Str), (none : Option PySem.Str))), (70, (("Teller" : PySem.Str), (none : Option PySem.Str))), (71, (("Honest" : PySem.Str), (none : Option PySem.Str))), (72, (("talk" : PySem.Str), (none : Option PySem.Str))), (74, (("round_verdict" : PySem.Str), (none : Option PySem.Str))), (75, (("end_verdict" : PySem.Str), (none : Option PySem.Str))), (76, (("judge" : PySem.Str), (none : Option PySem.Str))), (77, (("is_let_by" : PySem.Str), (none : Option PySem.Str))), (79, (("_law_mix" : PySem.Str), (none : Option PySem.Str))), (80, (("_law_store" : PySem.Str), (none : Option PySem.Str))), (81, (("_law_take" : PySem.Str), (none : Option PySem.Str))), (82, (("_law_edge" : PySem.Str), (none : Option PySem.Str))), (83, (("_law_chance" : PySem.Str), (none : Option PySem.Str))), (84, (("_law_pick" : PySem.Str), (none : Option PySem.Str))), (85, (("_law_primes" : PySem.Str), (none : Option PySem.Str))), (86, (("_law_prime" : PySem.Str), (none : Option PySem.Str))), (87, (("_law_power" : PySem.Str), (none : Option PySem.Str))), (88, (("_law_number" : PySem.Str), (none : Option PySem.Str))), (89, (("_law_other_number" : PySem.Str), (none : Option PySem.Str))), (90, (("_law_numbers" : PySem.Str), (none : Option PySem.Str))), (91, (("_law_row" : PySem.Str), (none : Option PySem.Str))), (92, (("_law_same" : PySem.Str), (none : Option PySem.Str))), (93, (("_law_poly_is" : PySem.Str), (none : Option PySem.Str))), (94, (("_law_form_is" : PySem.Str), (none : Option PySem.Str))), (95, (("_law_journal_is" : PySem.Str), (none : Option PySem.Str))), (96, (("_law_trim" : PySem.Str), (none : Option PySem.Str))), (97, (("_law_field_power" : PySem.Str), (none : Option PySem.Str))), (98, (("_law_poly_value" : PySem.Str), (none : Option PySem.Str))), (99, (("_law_poly_ends" : PySem.Str), (none : Option PySem.Str))), (100, (("_law_all_rows" : PySem.Str), (none : Option PySem.Str))), (101, (("_law_form_rows" : PySem.Str), (none : Option PySem.Str))), (102, (("_law_form_tops" : PySem.Str), (none : Option PySem.Str))), (103, (("_law_form_value" : PySem.Str), (none : Option PySem.Str))), (104, (("_law_round_row" : PySem.Str), (none : Option PySem.Str))), (105, (("_law_honest_rounds" : PySem.Str), (none : Option PySem.Str))), (106, (("_law_drawn_claim" : PySem.Str), (none : Option PySem.Str))), (107, (("_law_rows_of_coins" : PySem.Str), (none : Option PySem.Str))), (108, (("_law_walked" : PySem.Str), (none : Option PySem.Str))), (109, (("_law_hands" : PySem.Str), (none : Option PySem.Str))), (110, (("_law_refused" : PySem.Str), (none : Option PySem.Str))), (111, (("_law_let_by" : PySem.Str), (none : Option PySem.Str))), (112, (("_law_false_talk" : PySem.Str), (none : Option PySem.Str))), (113, (("law" : PySem.Str), (none : Option PySem.Str))), (3100, (("Field" : PySem.Str), some ("__init__" : PySem.Str))), (3101, (("Field" : PySem.Str), some ("__contains__" : PySem.Str))), (4100, (("Poly" : PySem.Str), some ("__init__" : PySem.Str))), (4108, (("Poly" : PySem.Str), some ("at" : PySem.Str))), (4109, (("Poly" : PySem.Str), some ("ends" : PySem.Str))), (4111, (("Poly" : PySem.Str), some ("fits" : PySem.Str))), (6000, (("Form" : PySem.Str), some ("__init__" : PySem.Str))), (6006, (("Form" : PySem.Str), some ("at" : PySem.Str))), (6007, (("Form" : PySem.Str), some ("fix" : PySem.Str))), (6800, (("Claim" : PySem.Str), some ("__init__" : PySem.Str))), (6802, (("Claim" : PySem.Str), some ("is_true" : PySem.Str))), (6804, (("Claim" : PySem.Str), some ("with_total" : PySem.Str))), (7300, (("Journal" : PySem.Str), some ("__init__" : PySem.Str))), (8000, (("Teller" : PySem.Str), some ("__init__" : PySem.Str))), (8100, (("Honest" : PySem.Str), some ("__init__" : PySem.Str))), (8101, (("Honest" : PySem.Str), some ("hand" : PySem.Str)))]
def aAt (K : PySem.W.Frag) (i : Nat) : Addr := if i = 4101 then prA K "Poly" "degree" else if i = 7301 then prA K "Journal" "length" else He.fAd K ((tblA.lookup i).getD ("", none))
def hFa0 : List He.Fa := [.glo "Claim", .glo "DegreeTooHigh", .glo "Field", .glo "Form", .glo "Honest", .glo "Journal", .glo "NotInField", .glo "NotPrime", .glo "OtherField", .glo "OutOfRange", .glo "Poly", .glo "TalkError", .glo "Teller", .glo "TooLarge", .glo "WrongPlaces", .glo "_law_all_rows", .glo "_law_chance", .glo "_law_drawn_claim", .glo "_law_edge", .glo "_law_false_talk", .glo "_law_field_power", .glo "_law_form_is", .glo "_law_form_rows", .glo "_law_form_tops", .glo "_law_form_value", .glo "_law_hands", .glo "_law_honest_rounds", .glo "_law_journal_is", .glo "_law_let_by", .glo "_law_mix", .glo "_law_number", .glo "_law_numbers", .glo "_law_other_number", .glo "_law_pick", .glo "_law_poly_ends", .glo "_law_poly_is", .glo "_law_poly_value", .glo "_law_power", .glo "_law_prime", .glo "_law_primes", .glo "_law_refused", .glo "_law_round_row", .glo "_law_row", .glo "_law_rows_of_coins", .glo "_law_same", .glo "_law_store", .glo "_law_take", .glo "_law_trim", .glo "_law_walked", .glo "added_up", .glo "ask", .glo "check_number_forms", .glo "check_number_polys", .glo "check_numbers_forms", .glo "check_numbers_tellers", .glo "check_prime", .glo "check_row", .glo "check_same_field", .glo "check_whole", .glo "checked_term", .glo "corner_sum", .glo "end_verdict", .glo "greatest_exponents", .glo "has_divisor", .glo "is_fitting", .glo "is_let_by", .glo "is_number", .glo "is_whole", .glo "judge", .glo "own_degrees", .glo "own_number", .glo "own_poly", .glo "own_rounds", .glo "own_whole", .glo "power_row", .glo "round_poly", .glo "round_verdict", .glo "talk", .glo "trimmed", .glo "law", .int "MAX_COEFFICIENTS" 128, .int "MAX_DEGREE" 12, .int "MAX_PLACES" 5, .int "MAX_PRIME" 101, .int "MAX_ROUNDS" 32, .int "MAX_TERMS" 1024, .free "ValueError", .free "abs", .free "bool", .free "enumerate", .free "int", .free "isinstance", .free "len", .free "list", .free "max", .free "min", .free "property", .free "range", .free "sorted", .free "str", .free "sum", .free "tuple", .free "zip", .cls "Field", .mkr "Field", .noat "Field" "prime", .cls "Poly", .mkr "Poly", .noat "Poly" "prime", .noat "Poly" "coefficients", .cls "Form", .mkr "Form", .noat "Form" "prime", .noat "Form" "places", .noat "Form" "terms", .noat "Form" "degrees", .cls "Claim", .mkr "Claim", .noat "Claim" "form", .noat "Claim" "degrees", .noat "Claim" "total", .noat "Claim" "prime", .noat "Claim" "places", .cls "Journal", .mkr "Journal", .noat "Journal" "prime", .noat "Journal" "total", .noat "Journal" "rounds", .noat "Journal" "polys", .noat "Journal" "coins", .cls "Honest", .mkr "Honest", .noat "Honest" "prime", .noat "Honest" "target", .meth "Honest" "hand", .meth "Poly" "fits", .meth "Poly" "ends", .meth "Claim" "is_true", .meth "Claim" "with_total", .meth "Poly" "at", .meth "Form" "at", .meth "Form" "fix", .exc "WrongPlaces", .exm "WrongPlaces" "WrongPlaces" true]
def dd_is_whole : He.DefD := ⟨(("is_whole" : PySem.Str), (none : Option PySem.Str)), "is_whole", "is_whole", defArgs (top 11), defBody (top 11), defScope (top 11), [], []⟩
def dd_has_divisor : He.DefD := ⟨(("has_divisor" : PySem.Str), (none : Option PySem.Str)), "has_divisor", "has_divisor", defArgs (top 15), defBody (top 15), defScope (top 15), [], []⟩
def dd_check_number_polys : He.DefD := ⟨(("check_number_polys" : PySem.Str), (none : Option PySem.Str)), "check_number", "check_number", defArgs (top 24), defBody (top 24), defScope (top 24), [], []⟩
def dd_trimmed : He.DefD := ⟨(("trimmed" : PySem.Str), (none : Option PySem.Str)), "trimmed", "trimmed", defArgs (top 29), defBody (top 29), defScope (top 29), [], []⟩
def dd_check_whole : He.DefD := ⟨(("check_whole" : PySem.Str), (none : Option PySem.Str)), "check_whole", "check_whole", defArgs (top 37), defBody (top 37), defScope (top 37), [], []⟩
def dd_check_number_forms : He.DefD := ⟨(("check_number_forms" : PySem.Str), (none : Option PySem.Str)), "check_number", "check_number", defArgs (top 38), defBody (top 38), defScope (top 38), [], []⟩
def dd_added_up : He.DefD := ⟨(("added_up" : PySem.Str), (none : Option PySem.Str)), "added_up", "added_up", defArgs (top 43), defBody (top 43), defScope (top 43), [], []⟩
def dd_greatest_exponents : He.DefD := ⟨(("greatest_exponents" : PySem.Str), (none : Option PySem.Str)), "greatest_exponents", "greatest_exponents", defArgs (top 44), defBody (top 44), defScope (top 44), [], []⟩
def dd_power_row : He.DefD := ⟨(("power_row" : PySem.Str), (none : Option PySem.Str)), "power_row", "power_row", defArgs (top 45), defBody (top 45), defScope (top 45), [], []⟩
def dd_corner_sum : He.DefD := ⟨(("corner_sum" : PySem.Str), (none : Option PySem.Str)), "corner_sum", "corner_sum", defArgs (top 52), defBody (top 52), defScope (top 52), [], []⟩
def dd_own_whole : He.DefD := ⟨(("own_whole" : PySem.Str), (none : Option PySem.Str)), "own_whole", "own_whole", defArgs (top 55), defBody (top 55), defScope (top 55), [], []⟩
def dd_own_number : He.DefD := ⟨(("own_number" : PySem.Str), (none : Option PySem.Str)), "own_number", "own_number", defArgs (top 56), defBody (top 56), defScope (top 56), [], []⟩
def dd_own_poly : He.DefD := ⟨(("own_poly" : PySem.Str), (none : Option PySem.Str)), "own_poly", "own_poly", defArgs (top 61), defBody (top 61), defScope (top 61), [], []⟩
def dd_check_same_field : He.DefD := ⟨(("check_same_field" : PySem.Str), (none : Option PySem.Str)), "check_same_field", "check_same_field", defArgs (top 67), defBody (top 67), defScope (top 67), [], []⟩
def dd_lw_mix : He.DefD := ⟨(("_law_mix" : PySem.Str), (none : Option PySem.Str)), "_law_mix", "_law_mix", defArgs (top 79), defBody (top 79), defScope (top 79), [], []⟩
def dd_lw_store : He.DefD := ⟨(("_law_store" : PySem.Str), (none : Option PySem.Str)), "_law_store", "_law_store", defArgs (top 80), defBody (top 80), defScope (top 80), [], []⟩
def dd_lw_primes : He.DefD := ⟨(("_law_primes" : PySem.Str), (none : Option PySem.Str)), "_law_primes", "_law_primes", defArgs (top 85), defBody (top 85), defScope (top 85), [], []⟩
def dd_lw_power : He.DefD := ⟨(("_law_power" : PySem.Str), (none : Option PySem.Str)), "_law_power", "_law_power", defArgs (top 87), defBody (top 87), defScope (top 87), [], []⟩
def dd_lw_trim : He.DefD := ⟨(("_law_trim" : PySem.Str), (none : Option PySem.Str)), "_law_trim", "_law_trim", defArgs (top 96), defBody (top 96), defScope (top 96), [], []⟩
def dd_lw_field_power : He.DefD := ⟨(("_law_field_power" : PySem.Str), (none : Option PySem.Str)), "_law_field_power", "_law_field_power", defArgs (top 97), defBody (top 97), defScope (top 97), [], []⟩
def dd_lw_poly_value : He.DefD := ⟨(("_law_poly_value" : PySem.Str), (none : Option PySem.Str)), "_law_poly_value", "_law_poly_value", defArgs (top 98), defBody (top 98), defScope (top 98), [], []⟩
def dd_lw_poly_ends : He.DefD := ⟨(("_law_poly_ends" : PySem.Str), (none : Option PySem.Str)), "_law_poly_ends", "_law_poly_ends", defArgs (top 99), defBody (top 99), defScope (top 99), [], []⟩
def dd_lw_all_rows : He.DefD := ⟨(("_law_all_rows" : PySem.Str), (none : Option PySem.Str)), "_law_all_rows", "_law_all_rows", defArgs (top 100), defBody (top 100), defScope (top 100), [], []⟩
def dd_lw_form_rows : He.DefD := ⟨(("_law_form_rows" : PySem.Str), (none : Option PySem.Str)), "_law_form_rows", "_law_form_rows", defArgs (top 101), defBody (top 101), defScope (top 101), [], []⟩
def dd_lw_form_tops : He.DefD := ⟨(("_law_form_tops" : PySem.Str), (none : Option PySem.Str)), "_law_form_tops", "_law_form_tops", defArgs (top 102), defBody (top 102), defScope (top 102), [], []⟩
def dd_check_prime : He.DefD := ⟨(("check_prime" : PySem.Str), (none : Option PySem.Str)), "check_prime", "check_prime", defArgs (top 16), defBody (top 16), defScope (top 16), [], []⟩
def dd_is_number : He.DefD := ⟨(("is_number" : PySem.Str), (none : Option PySem.Str)), "is_number", "is_number", defArgs (top 17), defBody (top 17), defScope (top 17), [], []⟩
def dd_check_row : He.DefD := ⟨(("check_row" : PySem.Str), (none : Option PySem.Str)), "check_row", "check_row", defArgs (top 26), defBody (top 26), defScope (top 26), [], []⟩
def dd_Poly_at : He.DefD := ⟨(("Poly" : PySem.Str), some ("at" : PySem.Str)), "at", "Poly.at", defArgs (inClass (top 31) 8), defBody (inClass (top 31) 8), defScope (inClass (top 31) 8), [], []⟩
def dd_check_numbers_forms : He.DefD := ⟨(("check_numbers_forms" : PySem.Str), (none : Option PySem.Str)), "check_numbers", "check_numbers", defArgs (top 40), defBody (top 40), defScope (top 40), [], []⟩
def dd_checked_term : He.DefD := ⟨(("checked_term" : PySem.Str), (none : Option PySem.Str)), "checked_term", "checked_term", defArgs (top 42), defBody (top 42), defScope (top 42), [], []⟩
def dd_own_degrees : He.DefD := ⟨(("own_degrees" : PySem.Str), (none : Option PySem.Str)), "own_degrees", "own_degrees", defArgs (top 57), defBody (top 57), defScope (top 57), [], []⟩
def dd_Claim_is_true : He.DefD := ⟨(("Claim" : PySem.Str), some ("is_true" : PySem.Str)), "is_true", "Claim.is_true", defArgs (inClass (top 58) 2), defBody (inClass (top 58) 2), defScope (inClass (top 58) 2), [], []⟩
def dd_own_rounds : He.DefD := ⟨(("own_rounds" : PySem.Str), (none : Option PySem.Str)), "own_rounds", "own_rounds", defArgs (top 62), defBody (top 62), defScope (top 62), [], []⟩
def dd_lw_take : He.DefD := ⟨(("_law_take" : PySem.Str), (none : Option PySem.Str)), "_law_take", "_law_take", defArgs (top 81), defBody (top 81), defScope (top 81), [], []⟩
def dd_lw_form_value : He.DefD := ⟨(("_law_form_value" : PySem.Str), (none : Option PySem.Str)), "_law_form_value", "_law_form_value", defArgs (top 103), defBody (top 103), defScope (top 103), [], []⟩
def dd_lw_round_row : He.DefD := ⟨(("_law_round_row" : PySem.Str), (none : Option PySem.Str)), "_law_round_row", "_law_round_row", defArgs (top 104), defBody (top 104), defScope (top 104), [], []⟩
def dd_Field_contains : He.DefD := ⟨(("Field" : PySem.Str), some ("__contains__" : PySem.Str)), "__contains__", "Field.__contains__", defArgs (inClass (top 21) 1), defBody (inClass (top 21) 1), defScope (inClass (top 21) 1), [], []⟩
def dd_Field_init : He.DefD := ⟨(("Field" : PySem.Str), some ("__init__" : PySem.Str)), "__init__", "Field.__init__", defArgs (inClass (top 21) 0), defBody (inClass (top 21) 0), defScope (inClass (top 21) 0), [], []⟩
def dd_Poly_ends : He.DefD := ⟨(("Poly" : PySem.Str), some ("ends" : PySem.Str)), "ends", "Poly.ends", defArgs (inClass (top 31) 9), defBody (inClass (top 31) 9), defScope (inClass (top 31) 9), [], []⟩
def dd_Poly_fits : He.DefD := ⟨(("Poly" : PySem.Str), some ("fits" : PySem.Str)), "fits", "Poly.fits", defArgs (inClass (top 31) 11), defBody (inClass (top 31) 11), defScope (inClass (top 31) 11), [], []⟩
def dd_Poly_init : He.DefD := ⟨(("Poly" : PySem.Str), some ("__init__" : PySem.Str)), "__init__", "Poly.__init__", defArgs (inClass (top 31) 0), defBody (inClass (top 31) 0), defScope (inClass (top 31) 0), [], []⟩
def dd_Form_at : He.DefD := ⟨(("Form" : PySem.Str), some ("at" : PySem.Str)), "at", "Form.at", defArgs (inClass (top 50) 6), defBody (inClass (top 50) 6), defScope (inClass (top 50) 6), [], []⟩
def dd_Form_init : He.DefD := ⟨(("Form" : PySem.Str), some ("__init__" : PySem.Str)), "__init__", "Form.__init__", defArgs (inClass (top 50) 0), defBody (inClass (top 50) 0), defScope (inClass (top 50) 0), [], []⟩
def dd_Claim_init : He.DefD := ⟨(("Claim" : PySem.Str), some ("__init__" : PySem.Str)), "__init__", "Claim.__init__", defArgs (inClass (top 58) 0), defBody (inClass (top 58) 0), defScope (inClass (top 58) 0), [], [("degrees", .non), ("total", .non)]⟩
def dd_Journal_init : He.DefD := ⟨(("Journal" : PySem.Str), some ("__init__" : PySem.Str)), "__init__", "Journal.__init__", defArgs (inClass (top 63) 0), defBody (inClass (top 63) 0), defScope (inClass (top 63) 0), [], []⟩
def dd_Teller_init : He.DefD := ⟨(("Teller" : PySem.Str), some ("__init__" : PySem.Str)), "__init__", "Teller.__init__", defArgs (inClass (top 70) 0), defBody (inClass (top 70) 0), defScope (inClass (top 70) 0), [], []⟩
def dd_lw_edge : He.DefD := ⟨(("_law_edge" : PySem.Str), (none : Option PySem.Str)), "_law_edge", "_law_edge", defArgs (top 82), defBody (top 82), defScope (top 82), [], []⟩
def dd_lw_chance : He.DefD := ⟨(("_law_chance" : PySem.Str), (none : Option PySem.Str)), "_law_chance", "_law_chance", defArgs (top 83), defBody (top 83), defScope (top 83), [], []⟩
def dd_lw_pick : He.DefD := ⟨(("_law_pick" : PySem.Str), (none : Option PySem.Str)), "_law_pick", "_law_pick", defArgs (top 84), defBody (top 84), defScope (top 84), [], []⟩
def dd_lw_other_number : He.DefD := ⟨(("_law_other_number" : PySem.Str), (none : Option PySem.Str)), "_law_other_number", "_law_other_number", defArgs (top 89), defBody (top 89), defScope (top 89), [], []⟩
def dd_lw_row : He.DefD := ⟨(("_law_row" : PySem.Str), (none : Option PySem.Str)), "_law_row", "_law_row", defArgs (top 91), defBody (top 91), defScope (top 91), [], []⟩
def dd_lw_honest_rounds : He.DefD := ⟨(("_law_honest_rounds" : PySem.Str), (none : Option PySem.Str)), "_law_honest_rounds", "_law_honest_rounds", defArgs (top 105), defBody (top 105), defScope (top 105), [], []⟩
def dd_is_fitting : He.DefD := ⟨(("is_fitting" : PySem.Str), (none : Option PySem.Str)), "is_fitting", "is_fitting", defArgs (top 69), defBody (top 69), defScope (top 69), [], []⟩
def dd_Honest_init : He.DefD := ⟨(("Honest" : PySem.Str), some ("__init__" : PySem.Str)), "__init__", "Honest.__init__", defArgs (inClass (top 71) 0), defBody (inClass (top 71) 0), defScope (inClass (top 71) 0), [], []⟩
def dd_round_verdict : He.DefD := ⟨(("round_verdict" : PySem.Str), (none : Option PySem.Str)), "round_verdict", "round_verdict", defArgs (top 74), defBody (top 74), defScope (top 74), [], []⟩
def dd_end_verdict : He.DefD := ⟨(("end_verdict" : PySem.Str), (none : Option PySem.Str)), "end_verdict", "end_verdict", defArgs (top 75), defBody (top 75), defScope (top 75), [], []⟩
def dd_lw_prime : He.DefD := ⟨(("_law_prime" : PySem.Str), (none : Option PySem.Str)), "_law_prime", "_law_prime", defArgs (top 86), defBody (top 86), defScope (top 86), [], []⟩
def dd_lw_number : He.DefD := ⟨(("_law_number" : PySem.Str), (none : Option PySem.Str)), "_law_number", "_law_number", defArgs (top 88), defBody (top 88), defScope (top 88), [], []⟩
def dd_lw_drawn_claim : He.DefD := ⟨(("_law_drawn_claim" : PySem.Str), (none : Option PySem.Str)), "_law_drawn_claim", "_law_drawn_claim", defArgs (top 106), defBody (top 106), defScope (top 106), [], []⟩
def dd_Form_fix : He.DefD := ⟨(("Form" : PySem.Str), some ("fix" : PySem.Str)), "fix", "Form.fix", defArgs (inClass (top 50) 7), defBody (inClass (top 50) 7), defScope (inClass (top 50) 7), [], []⟩
def dd_Claim_with_total : He.DefD := ⟨(("Claim" : PySem.Str), some ("with_total" : PySem.Str)), "with_total", "Claim.with_total", defArgs (inClass (top 58) 4), defBody (inClass (top 58) 4), defScope (inClass (top 58) 4), [], []⟩
def dd_check_numbers_tellers : He.DefD := ⟨(("check_numbers_tellers" : PySem.Str), (none : Option PySem.Str)), "check_numbers", "check_numbers", defArgs (top 65), defBody (top 65), defScope (top 65), [], []⟩
def dd_judge : He.DefD := ⟨(("judge" : PySem.Str), (none : Option PySem.Str)), "judge", "judge", defArgs (top 76), defBody (top 76), defScope (top 76), [], []⟩
def dd_lw_numbers : He.DefD := ⟨(("_law_numbers" : PySem.Str), (none : Option PySem.Str)), "_law_numbers", "_law_numbers", defArgs (top 90), defBody (top 90), defScope (top 90), [], []⟩
def dd_round_poly : He.DefD := ⟨(("round_poly" : PySem.Str), (none : Option PySem.Str)), "round_poly", "round_poly", defArgs (top 53), defBody (top 53), defScope (top 53), [], []⟩
def dd_is_let_by : He.DefD := ⟨(("is_let_by" : PySem.Str), (none : Option PySem.Str)), "is_let_by", "is_let_by", defArgs (top 77), defBody (top 77), defScope (top 77), [], []⟩
def dd_lw_rows_of_coins : He.DefD := ⟨(("_law_rows_of_coins" : PySem.Str), (none : Option PySem.Str)), "_law_rows_of_coins", "_law_rows_of_coins", defArgs (top 107), defBody (top 107), defScope (top 107), [], []⟩
def dd_Honest_hand : He.DefD := ⟨(("Honest" : PySem.Str), some ("hand" : PySem.Str)), "hand", "Honest.hand", defArgs (inClass (top 71) 1), defBody (inClass (top 71) 1), defScope (inClass (top 71) 1), [], []⟩
def dd_ask : He.DefD := ⟨(("ask" : PySem.Str), (none : Option PySem.Str)), "ask", "ask", defArgs (top 68), defBody (top 68), defScope (top 68), [], []⟩
def dd_lw_refused : He.DefD := ⟨(("_law_refused" : PySem.Str), (none : Option PySem.Str)), "_law_refused", "_law_refused", defArgs (top 110), defBody (top 110), defScope (top 110), [], []⟩
def dd_talk : He.DefD := ⟨(("talk" : PySem.Str), (none : Option PySem.Str)), "talk", "talk", defArgs (top 72), defBody (top 72), defScope (top 72), [], []⟩
def dd_lw_same : He.DefD := ⟨(("_law_same" : PySem.Str), (none : Option PySem.Str)), "_law_same", "_law_same", defArgs (top 92), defBody (top 92), defScope (top 92), [], []⟩
def dd_lw_poly_is : He.DefD := ⟨(("_law_poly_is" : PySem.Str), (none : Option PySem.Str)), "_law_poly_is", "_law_poly_is", defArgs (top 93), defBody (top 93), defScope (top 93), [], []⟩
def dd_lw_form_is : He.DefD := ⟨(("_law_form_is" : PySem.Str), (none : Option PySem.Str)), "_law_form_is", "_law_form_is", defArgs (top 94), defBody (top 94), defScope (top 94), [], []⟩
def dd_lw_journal_is : He.DefD := ⟨(("_law_journal_is" : PySem.Str), (none : Option PySem.Str)), "_law_journal_is", "_law_journal_is", defArgs (top 95), defBody (top 95), defScope (top 95), [], []⟩
def dd_lw_walked : He.DefD := ⟨(("_law_walked" : PySem.Str), (none : Option PySem.Str)), "_law_walked", "_law_walked", defArgs (top 108), defBody (top 108), defScope (top 108), [], []⟩
def dd_lw_hands : He.DefD := ⟨(("_law_hands" : PySem.Str), (none : Option PySem.Str)), "_law_hands", "_law_hands", defArgs (top 109), defBody (top 109), defScope (top 109), [], []⟩
def dd_lw_let_by : He.DefD := ⟨(("_law_let_by" : PySem.Str), (none : Option PySem.Str)), "_law_let_by", "_law_let_by", defArgs (top 111), defBody (top 111), defScope (top 111), [], []⟩
def dd_lw_false_talk : He.DefD := ⟨(("_law_false_talk" : PySem.Str), (none : Option PySem.Str)), "_law_false_talk", "_law_false_talk", defArgs (top 112), defBody (top 112), defScope (top 112), [], []⟩
def dd_law : He.DefD := ⟨(("law" : PySem.Str), (none : Option PySem.Str)), "law", "law", defArgs (top 113), defBody (top 113), defScope (top 113), [], []⟩
def hFn : List He.DefD := [dd_is_whole, dd_has_divisor, dd_check_number_polys, dd_trimmed, dd_check_whole, dd_check_number_forms, dd_added_up, dd_greatest_exponents, dd_power_row, dd_corner_sum, dd_own_whole, dd_own_number, dd_own_poly, dd_check_same_field, dd_lw_mix, dd_lw_store, dd_lw_primes, dd_lw_power, dd_lw_trim, dd_lw_field_power, dd_lw_poly_value, dd_lw_poly_ends, dd_lw_all_rows, dd_lw_form_rows, dd_lw_form_tops, dd_check_prime, dd_is_number, dd_check_row, dd_Poly_at, dd_check_numbers_forms, dd_checked_term, dd_own_degrees, dd_Claim_is_true, dd_own_rounds, dd_lw_take, dd_lw_form_value, dd_lw_round_row, dd_Field_contains, dd_Field_init, dd_Poly_ends, dd_Poly_fits, dd_Poly_init, dd_Form_at, dd_Form_init, dd_Claim_init, dd_Journal_init, dd_Teller_init, dd_lw_edge, dd_lw_chance, dd_lw_pick, dd_lw_other_number, dd_lw_row, dd_lw_honest_rounds, dd_is_fitting, dd_Honest_init, dd_round_verdict, dd_end_verdict, dd_lw_prime, dd_lw_number, dd_lw_drawn_claim, dd_Form_fix, dd_Claim_with_total, dd_check_numbers_tellers, dd_judge, dd_lw_numbers, dd_round_poly, dd_is_let_by, dd_lw_rows_of_coins, dd_Honest_hand, dd_ask, dd_lw_refused, dd_talk, dd_lw_same, dd_lw_poly_is, dd_lw_form_is, dd_lw_journal_is, dd_lw_walked, dd_lw_hands, dd_lw_let_by, dd_lw_false_talk, dd_law]
/-- a getter's function object: kept, its code known, no defaults -/
def getB (K : PySem.W.Frag) (a : Addr) (qual : Str) : Bool := PySem.W.keepIn K (.ref a) && (match K.lookup a with
  | some ⟨_, _, .func fd, _⟩ => PySem.W.codeIn K fd.code qual && (match fd.defaults with
    | .none => true
    | _ => false)
  | _ => false)
def fnAt (K : PySem.W.Frag) (a : Addr) : He.FnW := match K.lookup a with
  | some ⟨_, _, .func fd, _⟩ => some (fd.name, fd.qualname, fd.params, fd.body, fd.scope, fd.globals, fd.closure, fd.builtins)
  | _ => none
def exL (K : PySem.W.Frag) : List Bool := [PySem.W.plainGet K (He.ga K "Field") Str.empty && (PySem.W.hasDictIn K (He.ga K "Field") && PySem.W.plainOver K (He.ga K "Field")),
  decide (PySem.W.findIn K (.ref (He.ga K "Field")) "__class__" = some (some (.builtin "object.__class__"))),
  decide (PySem.W.mroIn K (He.ga K "Field") (.type "object") = some true),
  PySem.W.plainGet K (He.ga K "Poly") Str.empty && (PySem.W.hasDictIn K (He.ga K "Poly") && PySem.W.plainOver K (He.ga K "Poly")),
  decide (PySem.W.findIn K (.ref (He.ga K "Poly")) "__class__" = some (some (.builtin "object.__class__"))),
  decide (PySem.W.mroIn K (He.ga K "Poly") (.type "object") = some true),
  PySem.W.plainGet K (He.ga K "Form") Str.empty && (PySem.W.hasDictIn K (He.ga K "Form") && PySem.W.plainOver K (He.ga K "Form")),
  decide (PySem.W.findIn K (.ref (He.ga K "Form")) "__class__" = some (some (.builtin "object.__class__"))),
  decide (PySem.W.mroIn K (He.ga K "Form") (.type "object") = some true),
  PySem.W.plainGet K (He.ga K "Claim") Str.empty && (PySem.W.hasDictIn K (He.ga K "Claim") && PySem.W.plainOver K (He.ga K "Claim")),
  decide (PySem.W.findIn K (.ref (He.ga K "Claim")) "__class__" = some (some (.builtin "object.__class__"))),
  decide (PySem.W.mroIn K (He.ga K "Claim") (.type "object") = some true),
  PySem.W.plainGet K (He.ga K "Journal") Str.empty && (PySem.W.hasDictIn K (He.ga K "Journal") && PySem.W.plainOver K (He.ga K "Journal")),
  decide (PySem.W.findIn K (.ref (He.ga K "Journal")) "__class__" = some (some (.builtin "object.__class__"))),
  decide (PySem.W.mroIn K (He.ga K "Journal") (.type "object") = some true),
  PySem.W.plainGet K (He.ga K "Honest") Str.empty && (PySem.W.hasDictIn K (He.ga K "Honest") && PySem.W.plainOver K (He.ga K "Honest")),
  decide (PySem.W.findIn K (.ref (He.ga K "Honest")) "__class__" = some (some (.builtin "object.__class__"))),
  decide (PySem.W.mroIn K (He.ga K "Honest") (.type "object") = some true),
  decide (PySem.W.specialIn K (.builtin "object.__class__") "__get__" = some (some (.builtin "getset_descriptor.__get__"))),
  decide (PySem.W.takesIn K (.builtin "object.__class__") = some true),
  decide (PySem.W.findIn K (.ref (He.ga K "Poly")) "degree" = some (some (.ref (He.ma K (He.ga K "Poly") "degree")))),
  decide (PySem.W.specialIn K (.ref (He.ma K (He.ga K "Poly") "degree")) "__get__" = some (some (.builtin "property.__get__"))),
  decide (PySem.W.takesIn K (.ref (He.ma K (He.ga K "Poly") "degree")) = some true),
  (match PySem.W.recIn K (He.ma K (He.ga K "Poly") "degree") "property" with | some (.ref _ :: _) => true | _ => false),
  decide (PySem.W.findIn K (.ref (He.ga K "Journal")) "length" = some (some (.ref (He.ma K (He.ga K "Journal") "length")))),
  decide (PySem.W.specialIn K (.ref (He.ma K (He.ga K "Journal") "length")) "__get__" = some (some (.builtin "property.__get__"))),
  decide (PySem.W.takesIn K (.ref (He.ma K (He.ga K "Journal") "length")) = some true),
  (match PySem.W.recIn K (He.ma K (He.ga K "Journal") "length") "property" with | some (.ref _ :: _) => true | _ => false),
  decide (PySem.W.findIn K (.ref (He.ga K "Field")) "__contains__" = some (some (.ref (He.ma K (He.ga K "Field") "__contains__")))),
  PySem.W.isFn K (.ref (He.ma K (He.ga K "Field") "__contains__")),
  decide (PySem.W.specialIn K (.ref (He.ga K "Teller")) "__getattribute__" = some (some (.builtin "type.__getattribute__"))),
  PySem.W.readsIn K (He.ga K "Teller") (.type "type"),
  (match PySem.W.findCls K (.ref (He.ga K "Teller")) (.type "type") "__init__" with | some (.val v) => decide (v = .ref (He.ma K (He.ga K "Teller") "__init__")) | _ => false),
  PySem.W.keepIn K (.ref (He.ma K (He.ga K "Teller") "__init__")),
  decide (PySem.W.kitOne K (.ref (He.ga K "Poly")) (.ref (He.ga K "Poly")) = some true),
  decide (PySem.W.kitOne K (.ref (He.ga K "Form")) (.ref (He.ga K "Form")) = some true),
  decide (PySem.W.kitOne K (.ref (He.ga K "Journal")) (.ref (He.ga K "Journal")) = some true),
  decide (PySem.W.kitOne K (.ref (He.ga K "Honest")) (.ref (He.ga K "Teller")) = some true),
  decide (PySem.W.findIn K (.ref (He.ga K "WrongPlaces")) "__getattribute__" = some (some (.builtin "BaseException.__getattribute__"))),
  decide (PySem.W.findIn K (.ref (He.ga K "WrongPlaces")) "__getattr__" = some none),
  decide (PySem.W.subIn K (.ref (He.ga K "WrongPlaces")) (.type "BaseException") = some true),
  PySem.W.hasDictIn K (He.ga K "WrongPlaces"),
  decide (PySem.W.findIn K (.ref (He.ga K "WrongPlaces")) "__class__" = some (some (.builtin "object.__class__"))),
  decide (PySem.W.mroIn K (He.ga K "WrongPlaces") (.type "object") = some true),
  decide (PySem.W.kitAny K (.ref (He.ga K "WrongPlaces")) [.ref (He.ga K "NotInField"), .ref (He.ga K "OtherField"), .ref (He.ga K "OutOfRange"), .ref (He.ga K "TooLarge")] = some false),
  decide (PySem.W.kitOne K (.ref (He.ga K "WrongPlaces")) (.ref (He.ga K "TalkError")) = some true),
  decide (PySem.W.kitOne K (.ref (He.ga K "WrongPlaces")) (.type "ValueError") = some true),
  getB K (prA K "Poly" "degree") "Poly.degree",
  getB K (prA K "Journal" "length") "Journal.length"]
def gets (K : PySem.W.Frag) : List He.FnW := [fnAt K (prA K "Poly" "degree"), fnAt K (prA K "Journal" "length")]
def getV (name qual : Str) (st : Stmt) : He.FnW := some (name, qual, defArgs st, .stmts (defBody st), defScope st, mainGlobals, [], builtinsNs)
def getsV : List He.FnW := [getV "degree" "Poly.degree" (inClass (top 31) 1), getV "length" "Journal.length" (inClass (top 63) 1)]
abbrev HAl : Type := He.AlD × Bool × List He.FnW
def hObs (K : PySem.W.Frag) : HAl := (He.obsD hFa0 hFn K, (exL K).all id, gets K)
def hVal : HAl := (He.valD hFn, true, getsV)
/-- what is looked at: the module's dict, what it names, the functions' code, the classes' own dicts, their methods' -/
def ownsO : Obj → List Addr
  | ⟨_, _, .func fd, _⟩ => He.refV fd.code ++ He.refV fd.kwdefaults
  | ⟨_, _, .cls cd, _⟩ => [cd.ns]
  | ⟨_, _, .dict es _, _⟩ => es.toList.flatMap fun e => He.refV e.val
  | ⟨.type "property", _, .fields vs, _⟩ => vs.toList.flatMap He.refV
  | _ => []
def nextA (g : Addr → Option Obj) (as : List Addr) : List Addr := as.flatMap fun a => match g a with
  | some o => ownsO o
  | none => []
def hAs (g : Addr → Option Obj) : List Addr :=
  let a0 := [mainGlobals]
  let a1 := nextA g a0
  let a2 := nextA g a1
  let a3 := nextA g a2
  let a4 := nextA g a3
  let a5 := nextA g a4
  a0 ++ (a1 ++ (a2 ++ (a3 ++ (a4 ++ (a5 ++ [cStatics])))))
def hObsG (g : Addr → Option Obj) : HAl := hObs (He.frG g (hAs g))
def hHook : PySem.W.Hook where
  α := HAl
  obs := fun s => hObsG s.heap.get?
  val := fun _ => hVal
  says := fun _ h => ∃ K : PySem.W.Frag, K.In h ∧ hObs K = hVal
  of := fun _ _ e => ⟨_, He.frG_in, e⟩
  keeps := fun _ _ _ ⟨K, hK, c⟩ k => ⟨K, PySem.W.Frag.In.keeps hK k, c⟩
def hOb (s : PySem.W.SharedT) : HAl := hObsG (HandSHeadRun.getT s)
theorem hOb_eq (s : PySem.W.SharedT) : hOb s = hHook.obs s.abs := by
  have e : HandSHeadRun.getT s = s.abs.heap.get? := funext (HandSHeadRun.getT_eq s)
  show hObsG (HandSHeadRun.getT s) = hObsG s.abs.heap.get?
  rw [e]
abbrev HR : PySem.W.OpenRow := PySem.W.OpenLaw.row PySem.Challenge.rw_sumtalk_k32_whole_honest_let_by
def hN0 : List PySem.Str := [("_wall" : PySem.Str), ("TalkError" : PySem.Str), ("OtherField" : PySem.Str), ("WrongPlaces" : PySem.Str), ("DegreeTooHigh" : PySem.Str), ("OutOfRange" : PySem.Str), ("TooLarge" : PySem.Str), ("NotPrime" : PySem.Str), ("NotInField" : PySem.Str), ("is_whole" : PySem.Str), ("MAX_PRIME" : PySem.Str), ("MOST_EXPONENT" : PySem.Str), ("has_divisor" : PySem.Str), ("check_prime" : PySem.Str), ("is_number" : PySem.Str), ("check_number" : PySem.Str), ("check_number_fields" : PySem.Str), ("raised" : PySem.Str), ("Field" : PySem.Str), ("MAX_COEFFICIENTS" : PySem.Str), ("check_number_polys" : PySem.Str), ("check_row" : PySem.Str), ("check_range" : PySem.Str), ("check_field" : PySem.Str), ("trimmed" : PySem.Str), ("multiplied" : PySem.Str), ("Poly" : PySem.Str), ("MAX_PLACES" : PySem.Str), ("MAX_DEGREE" : PySem.Str), ("MAX_TERMS" : PySem.Str)]
def hN1 : List PySem.Str := [("MAX_TERM_PAIRS" : PySem.Str), ("check_whole" : PySem.Str), ("check_number_forms" : PySem.Str), ("check_numbers" : PySem.Str), ("check_numbers_forms" : PySem.Str), ("checked_term" : PySem.Str), ("added_up" : PySem.Str), ("greatest_exponents" : PySem.Str), ("power_row" : PySem.Str), ("check_same_shape" : PySem.Str), ("joined" : PySem.Str), ("check_product_size" : PySem.Str), ("added_exponents" : PySem.Str), ("Form" : PySem.Str), ("corner_sum" : PySem.Str), ("round_poly" : PySem.Str), ("own_whole" : PySem.Str), ("own_number" : PySem.Str), ("own_degrees" : PySem.Str), ("Claim" : PySem.Str), ("MAX_ROUNDS" : PySem.Str), ("own_poly" : PySem.Str), ("own_rounds" : PySem.Str), ("Journal" : PySem.Str), ("check_numbers_tellers" : PySem.Str), ("check_same_field" : PySem.Str), ("ask" : PySem.Str), ("is_fitting" : PySem.Str), ("Teller" : PySem.Str), ("Honest" : PySem.Str)]
def hN2 : List PySem.Str := [("talk" : PySem.Str), ("round_verdict" : PySem.Str), ("end_verdict" : PySem.Str), ("judge" : PySem.Str), ("is_let_by" : PySem.Str), ("_law_mix" : PySem.Str), ("_law_store" : PySem.Str), ("_law_take" : PySem.Str), ("_law_edge" : PySem.Str), ("_law_chance" : PySem.Str), ("_law_pick" : PySem.Str), ("_law_primes" : PySem.Str), ("_law_prime" : PySem.Str), ("_law_power" : PySem.Str), ("_law_number" : PySem.Str), ("_law_other_number" : PySem.Str), ("_law_numbers" : PySem.Str), ("_law_row" : PySem.Str), ("_law_same" : PySem.Str), ("_law_poly_is" : PySem.Str), ("_law_form_is" : PySem.Str), ("_law_journal_is" : PySem.Str), ("_law_trim" : PySem.Str), ("_law_field_power" : PySem.Str), ("_law_poly_value" : PySem.Str), ("_law_poly_ends" : PySem.Str), ("_law_all_rows" : PySem.Str), ("_law_form_rows" : PySem.Str), ("_law_form_tops" : PySem.Str), ("_law_form_value" : PySem.Str)]
def hN3 : List PySem.Str := [("_law_round_row" : PySem.Str), ("_law_honest_rounds" : PySem.Str), ("_law_drawn_claim" : PySem.Str), ("_law_rows_of_coins" : PySem.Str), ("_law_walked" : PySem.Str), ("_law_hands" : PySem.Str), ("_law_refused" : PySem.Str), ("_law_let_by" : PySem.Str), ("_law_false_talk" : PySem.Str)]
def hNames : List PySem.Str := hN0 ++ hN1 ++ hN2 ++ hN3
theorem hRun (w : World) : HandSHeadRun.RunEq HR (PySem.W.view HR.prog [113]) hHook hOb 9000 hNames w := by
  intro os
  kernel_rfl
end SK

set_option Elab.async false
set_option linter.all false
set_option maxRecDepth 100000
set_option maxHeartbeats 4000000
namespace SK
open PySem L2

/-! ### pure data and its places -/
inductive D where
  | non | bl (b : Bool) | int (i : Int) | str (s : Str)
  | tup (ds : List D) | lst (ds : List D)
  /-- a tuple whose object is known to have no dict of its own -/
  | ktp (ds : List D)
  | obj (C : Addr) (ks : List Str) (ds : List D)
  /-- the script: a list of ints that is known to the heap, or one of the module's own -/
  | scr (K : PySem.W.Frag) (ns : List Int)

def Ex (H H' : Hp) : Prop := ∀ a o, H a = some o → H' a = some o
theorem Ex.refl (H : Hp) : Ex H H := fun _ _ h => h
theorem Ex.trans {H H1 H2 : Hp} (a : Ex H H1) (b : Ex H1 H2) : Ex H H2 := fun x o h => b x o (a x o h)
theorem Ex.new {H : Hp} {p : Addr} {o : HO} (h : H p = none) : Ex H (upd H p o) := fun a u e => by
  rw [upd_ne (ne_of_none e h)]
  exact e
theorem Ex.back {H H' : Hp} {p : Addr} (e : Ex H H') (h : H' p = none) : H p = none := by
  cases h1 : H p with
  | none => rfl
  | some o =>
    rw [e p o h1] at h
    cases h
theorem Ex.updR {M H : Hp} {p : Addr} {o : HO} (e : Ex M H) (h : M p = none) : Ex M (upd H p o) := fun a u ha => by
  rw [upd_ne (ne_of_none ha h)]
  exact e a u ha
theorem Ex.upd2 {M H : Hp} {p : Addr} {o : HO} (e : Ex M H) : Ex (upd M p o) (upd H p o) := fun a u ha => by
  by_cases q : a = p
  · subst q
    rw [upd_same] at ha ⊢
    exact ha
  · rw [upd_ne q] at ha ⊢
    exact e a u ha
theorem Ex.updL {M H : Hp} {p : Addr} {o : HO} (e : Ex M H) (h : H p = some o) : Ex (upd M p o) H := fun a u ha => by
  by_cases q : a = p
  · subst q
    rw [upd_same] at ha
    rw [← ha]
    exact h
  · rw [upd_ne q] at ha
    exact e a u ha

theorem SqL.ex {K : PySem.W.Frag} {M H : Hp} {a : Addr} {xs : List V} (e : Ex M H) (h : SqL K M a xs) : SqL K H a xs := h.imp (fun r => r.imp (fun x => e _ _ x) fun ⟨o, x⟩ => ⟨o, e _ _ x⟩) fun x => x
mutual
def Rep (M : Hp) : D → V → Prop
  | .non, v => v = .non
  | .bl b, v => v = .bl b
  | .int i, v => v = .int i
  | .str s, v => v = .str s
  | .tup ds, v => ∃ a vs, v = .ref a ∧ M a = some (.tup vs) ∧ Reps M ds vs
  | .lst ds, v => ∃ a vs, v = .ref a ∧ M a = some (.lst vs) ∧ Reps M ds vs
  | .ktp ds, v => ∃ a o vs, v = .ref a ∧ M a = some (.frz o (.tup vs)) ∧ o.dict = none ∧ Reps M ds vs
  | .obj C ks ds, v => ∃ a dx vs, v = .ref a ∧ M a = some (.ins C dx (ks.zip vs)) ∧ Reps M ds vs ∧ ks.length = ds.length
  | .scr K ns, v => ∃ a, v = .ref a ∧ SqL K M a (ns.map V.int)
def Reps (M : Hp) : List D → List V → Prop
  | [], vs => vs = []
  | d :: ds, vs => ∃ v vr, vs = v :: vr ∧ Rep M d v ∧ Reps M ds vr
end
theorem Reps.nil {M : Hp} : Reps M [] [] := by
  unfold Reps
  rfl
theorem Reps.cons {M : Hp} {d : D} {ds : List D} {v : V} {vs : List V} (h : Rep M d v) (t : Reps M ds vs) : Reps M (d :: ds) (v :: vs) := by
  unfold Reps
  exact ⟨v, vs, rfl, h, t⟩
theorem Reps.inv {M : Hp} {d : D} {ds : List D} {vs : List V} (h : Reps M (d :: ds) vs) : ∃ v vr, vs = v :: vr ∧ Rep M d v ∧ Reps M ds vr := by
  unfold Reps at h
  exact h
theorem Reps.inv0 {M : Hp} {vs : List V} (h : Reps M [] vs) : vs = [] := by
  unfold Reps at h
  exact h
mutual
theorem Rep.mono {M M' : Hp} (e : Ex M M') : ∀ (d : D) (v : V), Rep M d v → Rep M' d v
  | .non, v, h => by unfold Rep at h ⊢; exact h
  | .bl b, v, h => by unfold Rep at h ⊢; exact h
  | .int b, v, h => by unfold Rep at h ⊢; exact h
  | .str b, v, h => by unfold Rep at h ⊢; exact h
  | .tup ds, v, h => by
    unfold Rep at h ⊢
    obtain ⟨a, vs, e1, e2, r⟩ := h
    exact ⟨a, vs, e1, e _ _ e2, Reps.mono e ds vs r⟩
  | .lst ds, v, h => by
    unfold Rep at h ⊢
    obtain ⟨a, vs, e1, e2, r⟩ := h
    exact ⟨a, vs, e1, e _ _ e2, Reps.mono e ds vs r⟩
  | .ktp ds, v, h => by
    unfold Rep at h ⊢
    obtain ⟨a, o, vs, e1, e2, e3, r⟩ := h
    exact ⟨a, o, vs, e1, e _ _ e2, e3, Reps.mono e ds vs r⟩
  | .obj C ks ds, v, h => by
    unfold Rep at h ⊢
    obtain ⟨a, dx, vs, e1, e2, r, l⟩ := h
    exact ⟨a, dx, vs, e1, e _ _ e2, Reps.mono e ds vs r, l⟩
  | .scr K ns, v, h => by
    unfold Rep at h ⊢
    obtain ⟨a, e1, r⟩ := h
    exact ⟨a, e1, SqL.ex e r⟩
theorem Reps.mono {M M' : Hp} (e : Ex M M') : ∀ (ds : List D) (vs : List V), Reps M ds vs → Reps M' ds vs
  | [], vs, h => by unfold Reps at h ⊢; exact h
  | d :: ds, vs, h => by
    unfold Reps at h ⊢
    obtain ⟨v, vr, e1, r, t⟩ := h
    exact ⟨v, vr, e1, Rep.mono e d v r, Reps.mono e ds vr t⟩
end
section
variable {M : Hp}
theorem rep_non : Rep M .non .non := by unfold Rep; rfl
theorem rep_bl {b : Bool} : Rep M (.bl b) (.bl b) := by unfold Rep; rfl
theorem rep_int {i : Int} : Rep M (.int i) (.int i) := by unfold Rep; rfl
theorem rep_str {i : Str} : Rep M (.str i) (.str i) := by unfold Rep; rfl
theorem rep_tup {a : Addr} {vs : List V} {ds : List D} (h : M a = some (.tup vs)) (r : Reps M ds vs) : Rep M (.tup ds) (.ref a) := by
  unfold Rep
  exact ⟨a, vs, rfl, h, r⟩
theorem rep_lst {a : Addr} {vs : List V} {ds : List D} (h : M a = some (.lst vs)) (r : Reps M ds vs) : Rep M (.lst ds) (.ref a) := by
  unfold Rep
  exact ⟨a, vs, rfl, h, r⟩
theorem rep_ktp {a : Addr} {o : Obj} {vs : List V} {ds : List D} (h : M a = some (.frz o (.tup vs))) (d : o.dict = none) (r : Reps M ds vs) : Rep M (.ktp ds) (.ref a) := by
  unfold Rep
  exact ⟨a, o, vs, rfl, h, d, r⟩
theorem rep_obj {a C dx : Addr} {vs : List V} {ks : List Str} {ds : List D} (h : M a = some (.ins C dx (ks.zip vs))) (r : Reps M ds vs) (l : ks.length = ds.length) : Rep M (.obj C ks ds) (.ref a) := by
  unfold Rep
  exact ⟨a, dx, vs, rfl, h, r, l⟩
theorem rep_scr {K : PySem.W.Frag} {a : Addr} {ns : List Int} (h : SqL K M a (ns.map V.int)) : Rep M (.scr K ns) (.ref a) := by
  unfold Rep
  exact ⟨a, rfl, h⟩
theorem Rep.scr_ {K : PySem.W.Frag} {ns : List Int} {v : V} (h : Rep M (.scr K ns) v) : ∃ a, v = .ref a ∧ SqL K M a (ns.map V.int) := by unfold Rep at h; exact h
theorem Rep.non_ {v : V} (h : Rep M .non v) : v = .non := by unfold Rep at h; exact h
theorem Rep.bl_ {b : Bool} {v : V} (h : Rep M (.bl b) v) : v = .bl b := by unfold Rep at h; exact h
theorem Rep.int_ {b : Int} {v : V} (h : Rep M (.int b) v) : v = .int b := by unfold Rep at h; exact h
theorem Rep.str_ {b : Str} {v : V} (h : Rep M (.str b) v) : v = .str b := by unfold Rep at h; exact h
theorem Rep.tup_ {ds : List D} {v : V} (h : Rep M (.tup ds) v) : ∃ a vs, v = .ref a ∧ M a = some (.tup vs) ∧ Reps M ds vs := by unfold Rep at h; exact h
theorem Rep.lst_ {ds : List D} {v : V} (h : Rep M (.lst ds) v) : ∃ a vs, v = .ref a ∧ M a = some (.lst vs) ∧ Reps M ds vs := by unfold Rep at h; exact h
theorem Rep.ktp_ {ds : List D} {v : V} (h : Rep M (.ktp ds) v) : ∃ a o vs, v = .ref a ∧ M a = some (.frz o (.tup vs)) ∧ o.dict = none ∧ Reps M ds vs := by unfold Rep at h; exact h
theorem Rep.obj_ {C : Addr} {ks : List Str} {ds : List D} {v : V} (h : Rep M (.obj C ks ds) v) : ∃ a dx vs, v = .ref a ∧ M a = some (.ins C dx (ks.zip vs)) ∧ Reps M ds vs ∧ ks.length = ds.length := by unfold Rep at h; exact h
theorem Reps.len : ∀ {ds : List D} {vs : List V}, Reps M ds vs → vs.length = ds.length
  | [], vs, h => by
    rw [h.inv0]
    rfl
  | d :: ds, vs, h => by
    obtain ⟨v, vr, e, _, t⟩ := h.inv
    rw [e, List.length_cons, List.length_cons, Reps.len t]
theorem Reps.get : ∀ {ds : List D} {vs : List V} {i : Nat} {d : D}, Reps M ds vs → ds[i]? = some d → ∃ v, vs[i]? = some v ∧ Rep M d v
  | [], vs, i, d, h, e => by simp at e
  | d :: ds, vs, 0, x, h, e => by
    obtain ⟨v, vr, e1, r, _⟩ := h.inv
    have e2 : d = x := by simpa using e
    subst e2
    exact ⟨v, by rw [e1]; rfl, r⟩
  | d :: ds, vs, i + 1, x, h, e => by
    obtain ⟨v, vr, e1, _, t⟩ := h.inv
    obtain ⟨u, h1, h2⟩ := Reps.get (i := i) (d := x) t (by simpa using e)
    exact ⟨u, by rw [e1]; simpa using h1, h2⟩
theorem Reps.getV : ∀ {ds : List D} {vs : List V} {i : Nat} {v : V}, Reps M ds vs → vs[i]? = some v → ∃ d, ds[i]? = some d ∧ Rep M d v
  | [], vs, i, d, h, e => by
    rw [h.inv0] at e
    simp at e
  | d :: ds, vs, 0, x, h, e => by
    obtain ⟨v, vr, e1, r, _⟩ := h.inv
    rw [e1] at e
    have e2 : v = x := by simpa using e
    subst e2
    exact ⟨d, rfl, r⟩
  | d :: ds, vs, i + 1, x, h, e => by
    obtain ⟨v, vr, e1, _, t⟩ := h.inv
    rw [e1] at e
    obtain ⟨u, h1, h2⟩ := Reps.getV (i := i) (v := x) t (by simpa using e)
    exact ⟨u, by simpa using h1, h2⟩
theorem Reps.append : ∀ {ds es : List D} {vs us : List V}, Reps M ds vs → Reps M es us → Reps M (ds ++ es) (vs ++ us)
  | [], es, vs, us, h, k => by
    rw [h.inv0]
    exact k
  | d :: ds, es, vs, us, h, k => by
    obtain ⟨v, vr, e1, r, t⟩ := h.inv
    rw [e1]
    exact .cons r (Reps.append t k)
theorem Reps.set : ∀ {ds : List D} {vs : List V} (i : Nat) {d : D} {v : V}, Reps M ds vs → Rep M d v → Reps M (ds.set i d) (vs.set i v)
  | [], vs, i, d, v, h, k => by
    rw [h.inv0]
    exact .nil
  | d :: ds, vs, 0, x, u, h, k => by
    obtain ⟨v, vr, e1, r, t⟩ := h.inv
    rw [e1]
    exact .cons k t
  | d :: ds, vs, i + 1, x, u, h, k => by
    obtain ⟨v, vr, e1, r, t⟩ := h.inv
    rw [e1]
    exact .cons r (Reps.set i t k)
theorem Reps.take : ∀ {ds : List D} {vs : List V} (n : Nat), Reps M ds vs → Reps M (ds.take n) (vs.take n)
  | [], vs, n, h => by
    rw [h.inv0]
    simp only [List.take_nil]
    exact .nil
  | d :: ds, vs, 0, h => by
    simp only [List.take_zero]
    exact .nil
  | d :: ds, vs, n + 1, h => by
    obtain ⟨v, vr, e1, r, t⟩ := h.inv
    rw [e1]
    exact .cons r (Reps.take n t)
theorem Reps.drop : ∀ {ds : List D} {vs : List V} (n : Nat), Reps M ds vs → Reps M (ds.drop n) (vs.drop n)
  | [], vs, n, h => by
    rw [h.inv0]
    simp only [List.drop_nil]
    exact .nil
  | d :: ds, vs, 0, h => h
  | d :: ds, vs, n + 1, h => by
    obtain ⟨v, vr, e1, r, t⟩ := h.inv
    rw [e1]
    exact Reps.drop n t
theorem Reps.ints : ∀ {ns : List Int} {vs : List V}, Reps M (ns.map D.int) vs → vs = ns.map V.int
  | [], vs, h => h.inv0
  | n :: ns, vs, h => by
    obtain ⟨v, vr, e1, r, t⟩ := Reps.inv h
    rw [e1, r.int_, Reps.ints t]
    rfl
theorem reps_ints : ∀ (ns : List Int), Reps M (ns.map D.int) (ns.map V.int)
  | [] => .nil
  | n :: ns => .cons rep_int (reps_ints ns)
theorem Reps.rep : ∀ {ds : List D} {vs : List V} (n : Nat), Reps M ds vs → Reps M (List.replicate n ds).flatten (List.replicate n vs).flatten
  | ds, vs, 0, h => by
    simp only [List.replicate_zero, List.flatten_nil]
    exact .nil
  | ds, vs, n + 1, h => by
    simp only [List.replicate_succ, List.flatten_cons]
    exact h.append (Reps.rep n h)
end

/-! ### the store of the law: known in part -/
def StoreD (ds : List D) : Prop := ∃ (ns : List Int) (i r t seed : Int), ds = [.lst (ns.map D.int), .int i, .int r, .int t, .int seed] ∧ 0 ≤ i ∧ 0 ≤ r ∧ r.natAbs < 2 ^ 4000

structure W (st : Option Addr) (M H : Hp) : Prop where
  ex : Ex M H
  sto : ∀ a, st = some a → M a = none ∧ ∃ ds vs, H a = some (.lst vs) ∧ Reps M ds vs ∧ StoreD ds
structure Tr (st : Option Addr) (M H M' H' : Hp) : Prop where
  m : Ex M M'
  h : ∀ a o, H a = some o → st ≠ some a → H' a = some o
  n : ∀ a, M a = none → H a ≠ none → M' a = none
  w : W st M' H'
section
variable {st : Option Addr} {M H M1 H1 M2 H2 : Hp}
theorem Tr.refl (w : W st M H) : Tr st M H M H := ⟨.refl _, fun _ _ h _ => h, fun _ h _ => h, w⟩
theorem Tr.there {a : Addr} (t : Tr st M H M1 H1) (h : H a ≠ none) : H1 a ≠ none := by
  cases e : H a with
  | none => exact absurd e h
  | some o =>
    by_cases q : st = some a
    · obtain ⟨_, ds, vs, e1, _⟩ := t.w.sto a q
      rw [e1]
      intro z
      cases z
    · rw [t.h a o e q]
      intro z
      cases z
theorem Tr.trans (a : Tr st M H M1 H1) (b : Tr st M1 H1 M2 H2) : Tr st M H M2 H2 :=
  ⟨a.m.trans b.m, fun x o h q => b.h x o (a.h x o h q) q, fun x h q => b.n x (a.n x h q) (a.there q), b.w⟩
/-- a new object that is known -/
theorem Tr.new {p : Addr} {o : HO} (w : W st M H) (hp : H p = none) : Tr st M H (upd M p o) (upd H p o) := by
  have hm : M p = none := w.ex.back hp
  refine ⟨.new hm, fun a u e _ => by rw [upd_ne (ne_of_none e hp)]; exact e, fun a e q => ?_, w.ex.upd2, fun a e => ?_⟩
  · have ne : a ≠ p := fun z => q (z ▸ hp)
    rw [upd_ne ne]
    exact e
  · obtain ⟨m, ds, vs, e1, r, s⟩ := w.sto a e
    have ne : a ≠ p := fun z => by
      rw [z, hp] at e1
      cases e1
    exact ⟨by rw [upd_ne ne]; exact m, ds, vs, by rw [upd_ne ne]; exact e1, r.mono (.new hm), s⟩
/-- a new object that is not known as unchanging -/
theorem Tr.newO {p : Addr} {o : HO} (w : W st M H) (hp : H p = none) : Tr st M H M (upd H p o) := by
  have hm : M p = none := w.ex.back hp
  refine ⟨.refl _, fun a u e _ => by rw [upd_ne (ne_of_none e hp)]; exact e, fun a e _ => e, w.ex.updR hm, fun a e => ?_⟩
  obtain ⟨m, ds, vs, e1, r, s⟩ := w.sto a e
  have ne : a ≠ p := fun z => by
    rw [z, hp] at e1
    cases e1
  exact ⟨m, ds, vs, by rw [upd_ne ne]; exact e1, r, s⟩
/-- what a call that knows no store leaves -/
theorem Tr.of_none (w : W st M H) (t : Tr none M H M1 H1) : Tr st M H M1 H1 := by
  refine ⟨t.m, fun a o e _ => t.h a o e (fun z => nomatch z), t.n, t.w.ex, fun a e => ?_⟩
  obtain ⟨m, ds, vs, e1, r, s⟩ := w.sto a e
  exact ⟨t.n a m (by rw [e1]; intro z; cases z), ds, vs, t.h a _ e1 (fun z => nomatch z), r.mono t.m, s⟩
theorem W.none (w : W st M H) : W none M H := ⟨w.ex, fun _ z => nomatch z⟩
end

/-! ### slots -/
inductive SV where
  | imm (d : D)
  | own (ds : List D)
  | dic (P : Program) (w : World) (kvs : List (List Int × Int))
  | slf (C : Addr) (ks : List Str) (ds : List D)
  | sto
  /-- the store itself, its content known -/
  | sow (ds : List D)
  | addr (l : Addr)
abbrev Env := List (Option SV)
def SV.mut : SV → Prop
  | .imm _ => False
  | .own _ => True
  | .dic _ _ _ => True
  | .slf _ _ _ => True
  | .sto => False
  | .sow _ => True
  | .addr _ => False
def SV.isSlf : SV → Bool
  | .slf _ _ _ => true
  | .sow _ => true
  | _ => false
/-- a dict whose keys are tuples of ints: the keys, where they stand, the values -/
abbrev DRow := List Int × Addr × V
def DicT (P : Program) (w : World) (a : Addr) (L : List DRow) (h : Heap) : Prop :=
  (a == sysModules) = false ∧ L.length ≤ sizeLine ∧ ∃ xs : List (List Int × Addr × Value), PySem.Paired (fun (p : DRow) (q : List Int × Addr × Value) => p.1 = q.1 ∧ p.2.1 = q.2.1 ∧ RelV p.2.2 q.2.2) L xs ∧
    ∃ o es ep, h.get? a = some o ∧ o.ExactDict ∧ o.data = .dict es ep ∧ es.toList = xs.map (PySem.entryOfKey (PySem.tupleKind (PySem.intKind P w))) ∧ (xs.map (·.1)).Nodup
def DicO (P : Program) (w : World) (a : Addr) (L : List DRow) : HO := .ext (DicT P w a L)
/-- the rows stand for these keys and values -/
def DRows (M : Hp) (L : List DRow) (kvs : List (List Int × Int)) : Prop := L.map (fun p => (p.1, p.2.2)) = kvs.map (fun p => (p.1, V.int p.2)) ∧ ∀ p ∈ L, Rep M (.ktp (p.1.map D.int)) (.ref p.2.1)
theorem DRows.mono {M M' : Hp} {L : List DRow} {kvs : List (List Int × Int)} (e : Ex M M') (r : DRows M L kvs) : DRows M' L kvs := ⟨r.1, fun p hp => Rep.mono e _ _ (r.2 p hp)⟩
def SlotOk (st : Option Addr) (M H : Hp) (v : V) : SV → Prop
  | .imm d => Rep M d v
  | .own ds => ∃ l vs, v = .ref l ∧ st ≠ some l ∧ H l = some (.lst vs) ∧ M l = none ∧ Reps M ds vs
  | .dic P w kvs => ∃ l L, v = .ref l ∧ st ≠ some l ∧ H l = some (DicO P w l L) ∧ M l = none ∧ DRows M L kvs
  | .slf C ks ds => ∃ l dx vs, v = .ref l ∧ st ≠ some l ∧ H l = some (.ins C dx (ks.zip vs)) ∧ M l = none ∧ Reps M ds vs ∧ ks.length = ds.length
  | .sto => ∃ a, v = .ref a ∧ st = some a
  | .sow ds => ∃ l vs, v = .ref l ∧ st ≠ some l ∧ H l = some (.lst vs) ∧ M l = none ∧ Reps M ds vs
  | .addr l => v = .ref l
structure SR (st : Option Addr) (M H : Hp) (σ : L2.St) (ρ : Env) : Prop where
  w : W st M H
  len : ρ.length = σ.length
  sl : ∀ (i : Nat) x, ρ[i]? = some (some x) → ∃ v, σ[i]? = some (some v) ∧ SlotOk st M H v x
  ap : ∀ (i j : Nat) x y v, i ≠ j → ρ[i]? = some (some x) → ρ[j]? = some (some y) → x.mut → y.mut → σ[i]? = some (some v) → σ[j]? ≠ some (some v)
section
variable {st : Option Addr} {M H M1 H1 M2 H2 : Hp} {σ : L2.St} {ρ : Env}
theorem SlotOk.tr {v : V} {x : SV} (t : Tr st M H M1 H1) (h : SlotOk st M H v x) : SlotOk st M1 H1 v x := by
  cases x with
  | imm d => exact Rep.mono t.m d v h
  | own ds =>
    obtain ⟨l, vs, e1, e2, e3, e4, r⟩ := h
    exact ⟨l, vs, e1, e2, t.h _ _ e3 e2, t.n _ e4 (by rw [e3]; intro z; cases z), r.mono t.m⟩
  | dic P w kvs =>
    obtain ⟨l, L, e1, e2, e3, e4, r⟩ := h
    exact ⟨l, L, e1, e2, t.h _ _ e3 e2, t.n _ e4 (by rw [e3]; intro z; cases z), r.mono t.m⟩
  | slf C ks ds =>
    obtain ⟨l, dx, vs, e1, e2, e3, e4, r, q⟩ := h
    exact ⟨l, dx, vs, e1, e2, t.h _ _ e3 e2, t.n _ e4 (by rw [e3]; intro z; cases z), r.mono t.m, q⟩
  | sto => exact h
  | sow ds =>
    obtain ⟨l, vs, e1, e2, e3, e4, r⟩ := h
    exact ⟨l, vs, e1, e2, t.h _ _ e3 e2, t.n _ e4 (by rw [e3]; intro z; cases z), r.mono t.m⟩
  | addr l => exact h
theorem SR.tr (t : Tr st M H M1 H1) (h : SR st M H σ ρ) : SR st M1 H1 σ ρ :=
  ⟨t.w, h.len, fun i x e => let ⟨v, e1, s⟩ := h.sl i x e; ⟨v, e1, s.tr t⟩, h.ap⟩
end

/-! ### what evaluates to what -/
def EvW (t : TE) (ρ : Env) (Φ : D → Prop) : Prop := ∀ st σ M H, SR st M H σ ρ → ∀ Q : VK, (∀ v d M' H', Tr st M H M' H' → Rep M' d v → Φ d → Q v H') → t σ H Q
def EvV (t : TE) (ρ : Env) (d : D) : Prop := EvW t ρ fun x => x = d
/-- a new list, not shared yet -/
def EvF (t : TE) (ρ : Env) (Φ : List D → Prop) : Prop := ∀ st σ M H, SR st M H σ ρ → ∀ Q : VK, (∀ l vs ds M' H', Tr st M H M' H' → H l = none → H' l = some (.lst vs) → M' l = none → Reps M' ds vs → Φ ds → Q (.ref l) H') → t σ H Q
def EvT (t : TT) (ρ : Env) (Φ : Bool → Prop) : Prop := ∀ st σ M H, SR st M H σ ρ → ∀ Q : Bool → Hp → Prop, (∀ b M' H', Tr st M H M' H' → Φ b → Q b H') → t σ H Q
def EvB (t : TT) (ρ : Env) (b : Bool) : Prop := EvT t ρ fun x => x = b
def EvA (t : TA) (ρ : Env) (Φ : List D → Prop) : Prop := ∀ st σ M H, SR st M H σ ρ → ∀ Q : List V → Hp → Prop, (∀ vs ds M' H', Tr st M H M' H' → Reps M' ds vs → Φ ds → Q vs H') → t σ H Q
def EvAV (t : TA) (ρ : Env) (ds : List D) : Prop := EvA t ρ fun x => x = ds
/-- operations on values -/
def RW (r : R2) (x y : D) (Φ : D → Prop) : Prop := ∀ st M H vx vy, W st M H → Rep M x vx → Rep M y vy → ∀ Q : VK, (∀ v d M' H', Tr st M H M' H' → Rep M' d v → Φ d → Q v H') → r vx vy H Q
def RV (r : R2) (x y z : D) : Prop := RW r x y fun d => d = z
def RF (r : R2) (x y : D) (Φ : List D → Prop) : Prop := ∀ st M H vx vy, W st M H → Rep M x vx → Rep M y vy → ∀ Q : VK, (∀ l vs ds M' H', Tr st M H M' H' → H l = none → H' l = some (.lst vs) → M' l = none → Reps M' ds vs → Φ ds → Q (.ref l) H') → r vx vy H Q
def RCW (r : List V → Hp → VK → Prop) (xs : List D) (Φ : D → Prop) : Prop := ∀ st M H vs, W st M H → Reps M xs vs → ∀ Q : VK, (∀ v d M' H', Tr st M H M' H' → Rep M' d v → Φ d → Q v H') → r vs H Q
def RCF (r : List V → Hp → VK → Prop) (xs : List D) (Φ : List D → Prop) : Prop := ∀ st M H vs, W st M H → Reps M xs vs → ∀ Q : VK, (∀ l vs ds M' H', Tr st M H M' H' → H l = none → H' l = some (.lst vs) → M' l = none → Reps M' ds vs → Φ ds → Q (.ref l) H') → r vs H Q

section
variable {ρ : Env} {t ta tb tc : TE} {d x y z : D} {Φ Ψ : D → Prop}
theorem EvW.imp (h : EvW t ρ Φ) (k : ∀ d, Φ d → Ψ d) : EvW t ρ Ψ := fun st σ M H s Q q => h st σ M H s Q fun v d M' H' a b c => q v d M' H' a b (k d c)
theorem EvV.w (h : EvV t ρ d) (k : Φ d) : EvW t ρ Φ := EvW.imp h fun x e => e ▸ k
theorem EvV.is (h : EvV t ρ d) (e : d = x) : EvV t ρ x := e ▸ h
theorem EvF.w {Φ : List D → Prop} (h : EvF t ρ Φ) (k : ∀ ds, Φ ds → Ψ (.lst ds)) : EvW t ρ Ψ := fun st σ M H s Q q => h st σ M H s Q fun l vs ds M' H' T hl hl' hm r f => by
  refine q (.ref l) (.lst ds) (upd M' l (.lst vs)) H' ⟨T.m.trans (.new hm), T.h, fun a e n => ?_, T.w.ex.updL hl', fun a e => ?_⟩ (rep_lst upd_same (r.mono (.new hm))) (k ds f)
  · have ne : a ≠ l := fun z => n (z ▸ hl)
    rw [upd_ne ne]
    exact T.n a e n
  · obtain ⟨m, ds', vs', e1, r', s'⟩ := T.w.sto a e
    have ne : a ≠ l := fun z => by
      obtain ⟨_, ds'', vs'', e2, _⟩ := s.w.sto a e
      rw [z, hl] at e2
      cases e2
    exact ⟨by rw [upd_ne ne]; exact m, ds', vs', e1, r'.mono (.new hm), s'⟩
def EvFV (t : TE) (ρ : Env) (ds : List D) : Prop := EvF t ρ fun x => x = ds
theorem EvFV.v {ds : List D} (h : EvFV t ρ ds) : EvV t ρ (.lst ds) := EvF.w h fun x e => by rw [e]
theorem EvF.imp {Φ Ψ : List D → Prop} (h : EvF t ρ Φ) (k : ∀ d, Φ d → Ψ d) : EvF t ρ Ψ := fun st σ M H s Q q => h st σ M H s Q fun l vs ds M' H' a b c d e f => q l vs ds M' H' a b c d e (k ds f)
theorem EvT.imp {t : TT} {Φ Ψ : Bool → Prop} (h : EvT t ρ Φ) (k : ∀ d, Φ d → Ψ d) : EvT t ρ Ψ := fun st σ M H s Q q => h st σ M H s Q fun b M' H' a c => q b M' H' a (k b c)
theorem EvB.is {t : TT} {a b : Bool} (h : EvB t ρ a) (e : a = b) : EvB t ρ b := e ▸ h

/-! names, constants -/
theorem ev_var {i : Nat} (h : ρ[i]? = some (some (.imm d))) : EvV (tVar i) ρ d := fun st σ M H s Q q => by
  obtain ⟨v, e, r⟩ := s.sl i _ h
  exact ⟨v, e, q v d M H (.refl s.w) r rfl⟩
theorem ev_int {i : Int} : EvV (tC (.int i)) ρ (.int i) := fun st σ M H s Q q => q _ _ M H (.refl s.w) rep_int rfl
theorem ev_bl {i : Bool} : EvV (tC (.bl i)) ρ (.bl i) := fun st σ M H s Q q => q _ _ M H (.refl s.w) rep_bl rfl
theorem ev_non : EvV (tC .non) ρ .non := fun st σ M H s Q q => q _ _ M H (.refl s.w) rep_non rfl
theorem ev_str {i : Str} : EvV (tC (.str i)) ρ (.str i) := fun st σ M H s Q q => q _ _ M H (.refl s.w) rep_str rfl

/-! operators -/
theorem ew_op {r : R2} {Φa : D → Prop} {Φb : D → D → Prop} (ha : EvW ta ρ Φa) (hb : ∀ x, Φa x → EvW tb ρ (Φb x)) (hr : ∀ x y, Φa x → Φb x y → RW r x y Ψ) : EvW (tOp r ta tb) ρ Ψ := fun st σ M H s Q q =>
  ha st σ M H s _ fun v x M1 H1 T1 r1 f1 => hb x f1 st σ M1 H1 (s.tr T1) _ fun u y M2 H2 T2 r2 f2 =>
    hr x y f1 f2 st M2 H2 v u T2.w (Rep.mono T2.m _ _ r1) r2 Q fun w z M3 H3 T3 r3 f3 => q w z M3 H3 ((T1.trans T2).trans T3) r3 f3
theorem ev_opW {r : R2} (ha : EvV ta ρ x) (hb : EvV tb ρ y) (hr : RW r x y Ψ) : EvW (tOp r ta tb) ρ Ψ := ew_op ha (fun _ _ => hb) fun _ _ e1 e2 => by rw [e1, e2]; exact hr
theorem ev_op {r : R2} (ha : EvV ta ρ x) (hb : EvV tb ρ y) (hr : RV r x y z) : EvV (tOp r ta tb) ρ z := ev_opW ha hb hr
theorem ef_op {r : R2} {Φ : List D → Prop} (ha : EvV ta ρ x) (hb : EvV tb ρ y) (hr : RF r x y Φ) : EvF (tOp r ta tb) ρ Φ := fun st σ M H s Q q =>
  ha st σ M H s _ fun v x' M1 H1 T1 r1 f1 => hb st σ M1 H1 (s.tr T1) _ fun u y' M2 H2 T2 r2 f2 => by
    rw [f1] at r1
    rw [f2] at r2
    refine hr st M2 H2 v u T2.w (Rep.mono T2.m _ _ r1) r2 Q fun l vs ds M3 H3 T3 hl a b c d => q l vs ds M3 H3 ((T1.trans T2).trans T3) ?_ a b c d
    cases e : H l with
    | none => rfl
    | some o => exact absurd hl ((T1.trans T2).there (by rw [e]; intro z; cases z))
theorem rv_I0 {g : Int → Int → V} {f : Int → Int → D} {i j : Int} (hg : ∀ M, Rep M (f i j) (g i j)) : RV (rI0 g) (.int i) (.int j) (f i j) := fun st M H vx vy w r1 r2 Q q =>
  ⟨i, j, r1.int_, r2.int_, q _ _ M H (.refl w) (hg M) rfl⟩
theorem rv_I {C : Int → Int → Prop} {g : Int → Int → V} {f : Int → Int → D} {i j : Int} (hg : ∀ M, Rep M (f i j) (g i j)) (hc : C i j) : RV (rI C g) (.int i) (.int j) (f i j) := fun st M H vx vy w r1 r2 Q q =>
  ⟨i, j, r1.int_, r2.int_, hc, q _ _ M H (.refl w) (hg M) rfl⟩
section
variable {i j : Int}
theorem ev_add (ha : EvV ta ρ (.int i)) (hb : EvV tb ρ (.int j)) : EvV (tOp (rI0 fun i j => .int (i + j)) ta tb) ρ (.int (i + j)) := ev_op ha hb (rv_I0 (f := fun i j => .int (i + j)) fun _ => rep_int)
theorem ev_sub (ha : EvV ta ρ (.int i)) (hb : EvV tb ρ (.int j)) : EvV (tOp (rI0 fun i j => .int (i - j)) ta tb) ρ (.int (i - j)) := ev_op ha hb (rv_I0 (f := fun i j => .int (i - j)) fun _ => rep_int)
theorem ev_mul (ha : EvV ta ρ (.int i)) (hb : EvV tb ρ (.int j)) (hc : CMul i j) : EvV (tOp (rI CMul fun i j => .int (i * j)) ta tb) ρ (.int (i * j)) := ev_op ha hb (rv_I (f := fun i j => .int (i * j)) (fun _ => rep_int) hc)
theorem ev_mod (ha : EvV ta ρ (.int i)) (hb : EvV tb ρ (.int j)) (hc : 0 < j) : EvV (tOp (rI (fun _ j => 0 < j) fun i j => .int (i % j)) ta tb) ρ (.int (i % j)) := ev_op ha hb (rv_I (f := fun i j => .int (i % j)) (fun _ => rep_int) hc)
theorem ev_fdiv (ha : EvV ta ρ (.int i)) (hb : EvV tb ρ (.int j)) (hc : CDiv i j) : EvV (tOp (rI CDiv fun i j => .int (i / j)) ta tb) ρ (.int (i / j)) := ev_op ha hb (rv_I (f := fun i j => .int (i / j)) (fun _ => rep_int) hc)
theorem ev_pow (ha : EvV ta ρ (.int i)) (hb : EvV tb ρ (.int j)) (hc : CPow i j) : EvV (tOp (rI CPow fun i j => .int (i ^ j.toNat)) ta tb) ρ (.int (i ^ j.toNat)) := ev_op ha hb (rv_I (f := fun i j => .int (i ^ j.toNat)) (fun _ => rep_int) hc)
theorem ev_shl (ha : EvV ta ρ (.int i)) (hb : EvV tb ρ (.int j)) (hc : CPow i j) : EvV (tOp (rI CPow fun i j => .int (i * 2 ^ j.toNat)) ta tb) ρ (.int (i * 2 ^ j.toNat)) := ev_op ha hb (rv_I (f := fun i j => .int (i * 2 ^ j.toNat)) (fun _ => rep_int) hc)
theorem ev_lt (ha : EvV ta ρ (.int i)) (hb : EvV tb ρ (.int j)) : EvV (tOp (rI0 fun i j => .bl (decide (i < j))) ta tb) ρ (.bl (decide (i < j))) := ev_op ha hb (rv_I0 (f := fun i j => .bl (decide (i < j))) fun _ => rep_bl)
theorem ev_le (ha : EvV ta ρ (.int i)) (hb : EvV tb ρ (.int j)) : EvV (tOp (rI0 fun i j => .bl (decide (i ≤ j))) ta tb) ρ (.bl (decide (i ≤ j))) := ev_op ha hb (rv_I0 (f := fun i j => .bl (decide (i ≤ j))) fun _ => rep_bl)
theorem ev_gt (ha : EvV ta ρ (.int i)) (hb : EvV tb ρ (.int j)) : EvV (tOp (rI0 fun i j => .bl (decide (j < i))) ta tb) ρ (.bl (decide (j < i))) := ev_op ha hb (rv_I0 (f := fun i j => .bl (decide (j < i))) fun _ => rep_bl)
theorem ev_ge (ha : EvV ta ρ (.int i)) (hb : EvV tb ρ (.int j)) : EvV (tOp (rI0 fun i j => .bl (decide (j ≤ i))) ta tb) ρ (.bl (decide (j ≤ i))) := ev_op ha hb (rv_I0 (f := fun i j => .bl (decide (j ≤ i))) fun _ => rep_bl)
theorem ev_eqI (ha : EvV ta ρ (.int i)) (hb : EvV tb ρ (.int j)) : EvV (tOp rEq ta tb) ρ (.bl (decide (i = j))) := ev_op ha hb fun st M H vx vy w r1 r2 Q q => by
  rw [r1.int_, r2.int_]
  refine ⟨rfl, ?_⟩
  have e : decide (V.int i = V.int j) = decide (i = j) := by rw [decide_eq_decide]; exact ⟨fun h => V.int.inj h, fun h => by rw [h]⟩
  rw [e]
  exact q _ _ M H (.refl w) rep_bl rfl
theorem ev_neI (ha : EvV ta ρ (.int i)) (hb : EvV tb ρ (.int j)) : EvV (tOp rNe ta tb) ρ (.bl (!decide (i = j))) := ev_op ha hb fun st M H vx vy w r1 r2 Q q => by
  rw [r1.int_, r2.int_]
  refine ⟨rfl, ?_⟩
  have e : decide (V.int i = V.int j) = decide (i = j) := by rw [decide_eq_decide]; exact ⟨fun h => V.int.inj h, fun h => by rw [h]⟩
  rw [e]
  exact q _ _ M H (.refl w) rep_bl rfl
end
end
end SK

set_option Elab.async false
set_option linter.all false
set_option maxRecDepth 100000
set_option maxHeartbeats 4000000
namespace SK
open PySem L2
section
variable {ρ : Env} {ta tb tc te : TE} {d x y z : D} {Φ Ψ : D → Prop} {t u : TT}
/-! ### tests -/
theorem eb_test {b : Bool} (h : EvV te ρ (.bl b)) : EvB (tTest te) ρ b := fun st σ M H s Q q => h st σ M H s _ fun v d M' H' T r e => by
  rw [e] at r
  exact ⟨b, r.bl_, q b M' H' T rfl⟩
theorem eb_B {b : Bool} (h : EvV te ρ (.bl b)) : EvB (tB te) ρ b := fun st σ M H s Q q => h st σ M H s _ fun v d M' H' T r e => by
  rw [e] at r
  exact ⟨b, r.bl_, q b M' H' T rfl⟩
theorem et_test {φ : Bool → Prop} (h : EvW te ρ fun d => ∃ b, d = .bl b ∧ φ b) : EvT (tTest te) ρ φ := fun st σ M H s Q q => h st σ M H s _ fun v d M' H' T r ⟨b, e, f⟩ => by
  rw [e] at r
  exact ⟨b, r.bl_, q b M' H' T f⟩
theorem et_B {φ : Bool → Prop} (h : EvW te ρ fun d => ∃ b, d = .bl b ∧ φ b) : EvT (tB te) ρ φ := fun st σ M H s Q q => h st σ M H s _ fun v d M' H' T r ⟨b, e, f⟩ => by
  rw [e] at r
  exact ⟨b, r.bl_, q b M' H' T f⟩
theorem eb_not {b : Bool} (h : EvB t ρ b) : EvB (tNot t) ρ (!b) := fun st σ M H s Q q => h st σ M H s _ fun c M' H' T e => q _ M' H' T (by rw [e])
theorem et_not {φ : Bool → Prop} (h : EvT t ρ fun b => φ (!b)) : EvT (tNot t) ρ φ := fun st σ M H s Q q => h st σ M H s _ fun c M' H' T e => q _ M' H' T e
theorem eb_and {a b : Bool} (h1 : EvB t ρ a) (h2 : a = true → EvB u ρ b) : EvB (tAnd t u) ρ (a && b) := fun st σ M H s Q q => h1 st σ M H s _ fun c M1 H1 T1 e => by
  subst e
  cases c with
  | true =>
    show u σ H1 Q
    exact h2 rfl st σ M1 H1 (s.tr T1) Q fun c M2 H2 T2 e2 => q c M2 H2 (T1.trans T2) (by rw [e2]; rfl)
  | false =>
    show Q false H1
    exact q false M1 H1 T1 rfl
theorem eb_or {a b : Bool} (h1 : EvB t ρ a) (h2 : a = false → EvB u ρ b) : EvB (tOr t u) ρ (a || b) := fun st σ M H s Q q => h1 st σ M H s _ fun c M1 H1 T1 e => by
  subst e
  cases c with
  | true =>
    show Q true H1
    exact q true M1 H1 T1 rfl
  | false =>
    show u σ H1 Q
    exact h2 rfl st σ M1 H1 (s.tr T1) Q fun c M2 H2 T2 e2 => q c M2 H2 (T1.trans T2) (by rw [e2]; rfl)
theorem ev_and {a b : Bool} (h1 : EvV ta ρ (.bl a)) (h2 : a = true → EvV tb ρ (.bl b)) : EvV (tAndV ta tb) ρ (.bl (a && b)) := fun st σ M H s Q q => h1 st σ M H s _ fun v d M1 H1 T1 r e => by
  rw [e] at r
  refine ⟨a, r.bl_, ?_⟩
  cases a with
  | true =>
    show tb σ H1 Q
    exact h2 rfl st σ M1 H1 (s.tr T1) Q fun v2 d2 M2 H2 T2 r2 e2 => q v2 d2 M2 H2 (T1.trans T2) r2 (by rw [e2]; rfl)
  | false =>
    show Q (.bl false) H1
    exact q _ _ M1 H1 T1 rep_bl rfl
theorem ev_or {a b : Bool} (h1 : EvV ta ρ (.bl a)) (h2 : a = false → EvV tb ρ (.bl b)) : EvV (tOrV ta tb) ρ (.bl (a || b)) := fun st σ M H s Q q => h1 st σ M H s _ fun v d M1 H1 T1 r e => by
  rw [e] at r
  refine ⟨a, r.bl_, ?_⟩
  cases a with
  | true =>
    show Q (.bl true) H1
    exact q _ _ M1 H1 T1 rep_bl rfl
  | false =>
    show tb σ H1 Q
    exact h2 rfl st σ M1 H1 (s.tr T1) Q fun v2 d2 M2 H2 T2 r2 e2 => q v2 d2 M2 H2 (T1.trans T2) r2 (by rw [e2]; rfl)
theorem ev_not {a : Bool} (h1 : EvV ta ρ (.bl a)) : EvV (tNotV ta) ρ (.bl (!a)) := fun st σ M H s Q q => h1 st σ M H s _ fun v d M1 H1 T1 r e => by
  rw [e] at r
  exact ⟨a, r.bl_, q _ _ M1 H1 T1 rep_bl rfl⟩
theorem ew_if {φ : Bool → Prop} (h : EvT t ρ φ) (h1 : φ true → EvW ta ρ Φ) (h2 : φ false → EvW tb ρ Φ) : EvW (tIf t ta tb) ρ Φ := fun st σ M H s Q q => h st σ M H s _ fun c M1 H1 T1 e => by
  cases c with
  | true =>
    show ta σ H1 Q
    exact h1 e st σ M1 H1 (s.tr T1) Q fun v2 d2 M2 H2 T2 r2 e2 => q v2 d2 M2 H2 (T1.trans T2) r2 e2
  | false =>
    show tb σ H1 Q
    exact h2 e st σ M1 H1 (s.tr T1) Q fun v2 d2 M2 H2 T2 r2 e2 => q v2 d2 M2 H2 (T1.trans T2) r2 e2
/-- a <= b < c, a value -/
theorem ev_chain {r r' : R2} {a b : Bool} (ha : EvV ta ρ x) (hb : EvV tb ρ y) (hr : RV r x y (.bl a)) (hc : EvV tc ρ z) (hr' : RV r' y z (.bl b)) : EvV (tChain r r' ta tb tc) ρ (.bl (a && b)) := fun st σ M H s Q q =>
  ha st σ M H s _ fun v x' M1 H1 T1 r1 e1 => hb st σ M1 H1 (s.tr T1) _ fun w y' M2 H2 T2 r2 e2 => by
    rw [e1] at r1
    rw [e2] at r2
    refine hr st M2 H2 v w T2.w (Rep.mono T2.m _ _ r1) r2 _ fun v3 d3 M3 H3 T3 r3 e3 => ?_
    rw [e3] at r3
    refine ⟨a, r3.bl_, ?_⟩
    cases a with
    | true =>
      rw [if_pos rfl]
      refine hc st σ M3 H3 (s.tr ((T1.trans T2).trans T3)) _ fun v4 d4 M4 H4 T4 r4 e4 => ?_
      rw [e4] at r4
      exact hr' st M4 H4 w v4 T4.w (Rep.mono (T3.m.trans T4.m) _ _ r2) r4 Q fun v5 d5 M5 H5 T5 r5 e5 => q v5 d5 M5 H5 ((((T1.trans T2).trans T3).trans T4).trans T5) r5 (by rw [e5]; rfl)
    | false =>
      rw [if_neg Bool.false_ne_true]
      exact q _ _ M3 H3 ((T1.trans T2).trans T3) rep_bl rfl
theorem rv_le {i j : Int} : RV (rI0 fun i j => .bl (decide (i ≤ j))) (.int i) (.int j) (.bl (decide (i ≤ j))) := rv_I0 (f := fun i j => .bl (decide (i ≤ j))) fun _ => rep_bl
theorem rv_lt {i j : Int} : RV (rI0 fun i j => .bl (decide (i < j))) (.int i) (.int j) (.bl (decide (i < j))) := rv_I0 (f := fun i j => .bl (decide (i < j))) fun _ => rep_bl
/-- x is None -/
theorem ev_isN (ha : EvV ta ρ x) : EvV (tOp (fun x y H Q => y = .non ∧ Q (.bl (decide (x = .non))) H) ta (tC .non)) ρ (.bl (match x with | .non => true | _ => false)) := fun st σ M H s Q q =>
  ha st σ M H s _ fun v x' M1 H1 T1 r1 e1 => by
    rw [e1] at r1
    refine ⟨rfl, ?_⟩
    cases x with
    | non => rw [r1.non_]; exact q _ _ M1 H1 T1 rep_bl rfl
    | bl b => rw [r1.bl_]; exact q _ _ M1 H1 T1 rep_bl rfl
    | int b => rw [r1.int_]; exact q _ _ M1 H1 T1 rep_bl rfl
    | str b => rw [r1.str_]; exact q _ _ M1 H1 T1 rep_bl rfl
    | tup b => obtain ⟨a, vs, e, _⟩ := r1.tup_; rw [e]; exact q _ _ M1 H1 T1 rep_bl rfl
    | ktp b => obtain ⟨a, o, vs, e, _⟩ := r1.ktp_; rw [e]; exact q _ _ M1 H1 T1 rep_bl rfl
    | lst b => obtain ⟨a, vs, e, _⟩ := r1.lst_; rw [e]; exact q _ _ M1 H1 T1 rep_bl rfl
    | obj C ks b => obtain ⟨a, dx, vs, e, _⟩ := r1.obj_; rw [e]; exact q _ _ M1 H1 T1 rep_bl rfl
    | scr K ns => obtain ⟨a, e, _⟩ := r1.scr_; rw [e]; exact q _ _ M1 H1 T1 rep_bl rfl
theorem ev_notN (ha : EvV ta ρ x) : EvV (tOp (fun x y H Q => y = .non ∧ Q (.bl (!decide (x = .non))) H) ta (tC .non)) ρ (.bl (match x with | .non => false | _ => true)) := fun st σ M H s Q q =>
  ha st σ M H s _ fun v x' M1 H1 T1 r1 e1 => by
    rw [e1] at r1
    refine ⟨rfl, ?_⟩
    cases x with
    | non => rw [r1.non_]; exact q _ _ M1 H1 T1 rep_bl rfl
    | bl b => rw [r1.bl_]; exact q _ _ M1 H1 T1 rep_bl rfl
    | int b => rw [r1.int_]; exact q _ _ M1 H1 T1 rep_bl rfl
    | str b => rw [r1.str_]; exact q _ _ M1 H1 T1 rep_bl rfl
    | tup b => obtain ⟨a, vs, e, _⟩ := r1.tup_; rw [e]; exact q _ _ M1 H1 T1 rep_bl rfl
    | ktp b => obtain ⟨a, o, vs, e, _⟩ := r1.ktp_; rw [e]; exact q _ _ M1 H1 T1 rep_bl rfl
    | lst b => obtain ⟨a, vs, e, _⟩ := r1.lst_; rw [e]; exact q _ _ M1 H1 T1 rep_bl rfl
    | obj C ks b => obtain ⟨a, dx, vs, e, _⟩ := r1.obj_; rw [e]; exact q _ _ M1 H1 T1 rep_bl rfl
    | scr K ns => obtain ⟨a, e, _⟩ := r1.scr_; rw [e]; exact q _ _ M1 H1 T1 rep_bl rfl

/-! ### arguments, displays -/
theorem ea_nil : EvAV tNil ρ [] := fun st σ M H s Q q => q [] [] M H (.refl s.w) .nil rfl
theorem ea_consW {tr : TA} {Φ : D → Prop} {Ψ : D → List D → Prop} (h : EvW ta ρ Φ) (hr : ∀ x, Φ x → EvA tr ρ (Ψ x)) : EvA (tCons ta tr) ρ (fun ds => ∃ x r, ds = x :: r ∧ Φ x ∧ Ψ x r) := fun st σ M H s Q q =>
  h st σ M H s _ fun v x M1 H1 T1 r1 e1 => hr x e1 st σ M1 H1 (s.tr T1) _ fun vs ds M2 H2 T2 r2 e2 => q (v :: vs) (x :: ds) M2 H2 (T1.trans T2) (.cons (Rep.mono T2.m _ _ r1) r2) ⟨x, ds, rfl, e1, e2⟩
theorem ea_cons {tr : TA} {ds : List D} (h : EvV ta ρ x) (hr : EvAV tr ρ ds) : EvAV (tCons ta tr) ρ (x :: ds) := fun st σ M H s Q q =>
  ea_consW h (fun _ _ => hr) st σ M H s Q fun vs es M' H' T r ⟨a, b, e, e1, e2⟩ => q vs es M' H' T r (by rw [e, e1, e2])
theorem EvA.imp {t : TA} {Φ Ψ : List D → Prop} (h : EvA t ρ Φ) (k : ∀ d, Φ d → Ψ d) : EvA t ρ Ψ := fun st σ M H s Q q => h st σ M H s Q fun v d M' H' a b c => q v d M' H' a b (k d c)
theorem ew_tup {ta : TA} {Φ : List D → Prop} {Ψ : D → Prop} (h : EvA ta ρ Φ) (hl : ∀ ds, Φ ds → ds.length ≤ 1000 ∧ Ψ (.tup ds)) : EvW (tTup ta) ρ Ψ := fun st σ M H s Q q =>
  h st σ M H s _ fun vs ds M1 H1 T1 r e => ⟨by rw [r.len]; exact Nat.le_trans (hl ds e).1 (by decide), fun p hp => q (.ref p) (.tup ds) (upd M1 p (.tup vs)) _ (T1.trans (.new T1.w hp)) (rep_tup upd_same (r.mono (.new (T1.w.ex.back hp)))) (hl ds e).2⟩
theorem ev_tup {ta : TA} {ds : List D} (h : EvAV ta ρ ds) (hl : ds.length ≤ 1000 := by first | decide | (simp; done)) : EvV (tTup ta) ρ (.tup ds) := ew_tup h fun _ e => by rw [e]; exact ⟨hl, rfl⟩
theorem ef_lst {ta : TA} {Φ : List D → Prop} (h : EvA ta ρ Φ) (hl : ∀ ds, Φ ds → ds.length ≤ 1000) : EvF (tLst ta) ρ Φ := fun st σ M H s Q q =>
  h st σ M H s _ fun vs ds M1 H1 T1 r e => ⟨by rw [r.len]; exact Nat.le_trans (hl ds e) (by decide), fun p hp => q p vs ds M1 _ (T1.trans (.newO T1.w hp)) (by
    cases q : H p with
    | none => rfl
    | some o => exact absurd hp (T1.there (by rw [q]; intro z; cases z))) upd_same (T1.w.ex.back hp) r e⟩
theorem ef_lstV {ta : TA} {ds : List D} (h : EvAV ta ρ ds) (hl : ds.length ≤ 1000 := by first | decide | (simp; done)) : EvFV (tLst ta) ρ ds := ef_lst h fun _ e => by rw [e]; exact hl
theorem ev_lst {ta : TA} {ds : List D} (h : EvAV ta ρ ds) (hl : ds.length ≤ 1000 := by first | decide | (simp; done)) : EvV (tLst ta) ρ (.lst ds) := EvFV.v (ef_lstV h hl)

/-! ### sequences -/
def seqOf : D → Option (List D)
  | .tup ds => some ds
  | .lst ds => some ds
  | .ktp ds => some ds
  | _ => none
theorem Rep.seq {K : PySem.W.Frag} {M H : Hp} {ds : List D} {v : V} (e : Ex M H) (h : Rep M x v) (k : seqOf x = some ds) : ∃ a vs, v = .ref a ∧ (SqL K H a vs ∨ SqT K H a vs) ∧ Reps M ds vs := by
  cases x with
  | tup es =>
    obtain ⟨a, vs, e1, e2, r⟩ := h.tup_
    cases (Option.some.inj (show some es = some ds from k))
    exact ⟨a, vs, e1, Or.inr (SqT.of (e _ _ e2)), r⟩
  | lst es =>
    obtain ⟨a, vs, e1, e2, r⟩ := h.lst_
    cases (Option.some.inj (show some es = some ds from k))
    exact ⟨a, vs, e1, Or.inl (SqL.of (e _ _ e2)), r⟩
  | ktp es =>
    obtain ⟨a, o, vs, e1, e2, _, r⟩ := h.ktp_
    cases (Option.some.inj (show some es = some ds from k))
    exact ⟨a, vs, e1, Or.inr (.inl (.inr ⟨o, e _ _ e2⟩)), r⟩
  | _ => exact absurd k (by intro z; cases z)
theorem ixN_len {M : Hp} {ds : List D} {vs : List V} {k : Int} {d : D} (r : Reps M ds vs) (h : atI ds k = some d) : ∃ v, atI vs k = some v ∧ Rep M d v := by
  unfold atI at h ⊢
  rw [r.len]
  cases e : ixN ds.length k with
  | none => rw [e] at h; cases h
  | some j =>
    rw [e] at h
    obtain ⟨v, h1, h2⟩ := r.get (show ds[j]? = some d from h)
    exact ⟨v, h1, h2⟩
variable {K : PySem.W.Frag}
theorem rv_ix {ds : List D} {k : Int} (hs : seqOf x = some ds) (ha : atI ds k = some d) : RV (rIx K) x (.int k) d := fun st M H vx vy w r1 r2 Q q => by
  obtain ⟨a, vs, e, sq, r⟩ := r1.seq (K := K) w.ex hs
  obtain ⟨v, h1, h2⟩ := ixN_len r ha
  have e2 := r2.int_
  rcases sq with sq | sq
  · exact Or.inl ⟨a, vs, k, v, e, e2, sq, h1, q v d M H (.refl w) h2 rfl⟩
  · exact Or.inr (Or.inl ⟨a, vs, k, v, e, e2, sq, h1, q v d M H (.refl w) h2 rfl⟩)
theorem ev_ix {ds : List D} {k : Int} (hx : EvV ta ρ x) (hk : EvV tb ρ (.int k)) (hs : seqOf x = some ds) (ha : atI ds k = some d) : EvV (tOp (rIx K) ta tb) ρ d := ev_op hx hk (rv_ix hs ha)
theorem at_nat {ds : List D} {k : Int} {j : Nat} (e : k = (j : Int)) (h : ds[j]? = some d) : atI ds k = some d := by
  rw [e]
  exact atI_nat h
/-- an item of a list of one's own -/
theorem ev_ixO {i : Nat} {ds : List D} {k : Int} (hi : ρ[i]? = some (some (.own ds))) (hk : EvV tb ρ (.int k)) (ha : atI ds k = some d) : EvV (tOp (rIx K) (tVar i) tb) ρ d := fun st σ M H s Q q => by
  obtain ⟨v, e, l, vs, e1, e2, e3, e4, r⟩ := s.sl i _ hi
  refine ⟨v, e, ?_⟩
  refine hk st σ M H s _ fun w y M1 H1 T1 r1 f1 => ?_
  rw [f1] at r1
  obtain ⟨u, h1, h2⟩ := ixN_len (r.mono T1.m) ha
  exact Or.inl ⟨l, vs, k, u, e1, r1.int_, SqL.of (T1.h _ _ e3 e2), h1, q u d M1 H1 T1 h2 rfl⟩

/-! ### built-ins by values -/
theorem ew_cb {r : List V → Hp → VK → Prop} {ta : TA} {xs : List D} (h : EvAV ta ρ xs) (hr : RCW r xs Φ) : EvW (tCB r ta) ρ Φ := fun st σ M H s Q q =>
  h st σ M H s _ fun vs ds M1 H1 T1 r1 e => by
    rw [e] at r1
    exact hr st M1 H1 vs T1.w r1 Q fun v d M2 H2 T2 r2 f => q v d M2 H2 (T1.trans T2) r2 f
theorem ef_cb {r : List V → Hp → VK → Prop} {ta : TA} {xs : List D} {Φ : List D → Prop} (h : EvAV ta ρ xs) (hr : RCF r xs Φ) : EvF (tCB r ta) ρ Φ := fun st σ M H s Q q =>
  h st σ M H s _ fun vs ds M1 H1 T1 r1 e => by
    rw [e] at r1
    refine hr st M1 H1 vs T1.w r1 Q fun l us ds M2 H2 T2 hl a b c f => q l us ds M2 H2 (T1.trans T2) ?_ a b c f
    cases e : H l with
    | none => rfl
    | some o => exact absurd hl (T1.there (by rw [e]; intro z; cases z))
theorem one_of {M : Hp} {vs : List V} (r : Reps M [x] vs) : ∃ v, vs = [v] ∧ Rep M x v := by
  obtain ⟨v, vr, e, h, t⟩ := r.inv
  rw [t.inv0] at e
  exact ⟨v, e, h⟩
theorem two_of {M : Hp} {vs : List V} (r : Reps M [x, y] vs) : ∃ v w, vs = [v, w] ∧ Rep M x v ∧ Rep M y w := by
  obtain ⟨v, vr, e, h, t⟩ := r.inv
  obtain ⟨w, e2, h2⟩ := one_of t
  exact ⟨v, w, by rw [e, e2], h, h2⟩
theorem ev_len {ds : List D} (h : EvV ta ρ x) (hs : seqOf x = some ds) :
    EvV (tCB (fun xs H Q => ∃ p ys, xs = [.ref p] ∧ (SqL K H p ys ∨ SqT K H p ys) ∧ Q (.int ys.length) H) (tCons ta tNil)) ρ (.int ds.length) := ew_cb (ea_cons h ea_nil) fun st M H vs w r Q q => by
  obtain ⟨v, e, r1⟩ := one_of r
  obtain ⟨a, us, e1, sq, r2⟩ := r1.seq (K := K) w.ex hs
  refine ⟨a, us, by rw [e, e1], sq, ?_⟩
  rw [r2.len]
  exact q _ _ M H (.refl w) rep_int rfl
/-- list(x) -/
theorem ef_list {ds : List D} (h : EvV ta ρ x) (hs : seqOf x = some ds) :
    EvFV (tCB (fun xs H Q => ∃ p ys, xs = [.ref p] ∧ (SqL K H p ys ∨ SqT K H p ys) ∧ ∀ l, H l = none → Q (.ref l) (upd H l (.lst ys))) (tCons ta tNil)) ρ ds := ef_cb (ea_cons h ea_nil) fun st M H vs w r Q q => by
  obtain ⟨v, e, r1⟩ := one_of r
  obtain ⟨a, us, e1, sq, r2⟩ := r1.seq (K := K) w.ex hs
  exact ⟨a, us, by rw [e, e1], sq, fun l hl => q l us ds M _ (.newO w hl) hl upd_same (w.ex.back hl) r2 rfl⟩
/-- list(the script) -/
theorem ef_listScr {ns : List Int} (h : EvV ta ρ (.scr K ns)) :
    EvFV (tCB (fun xs H Q => ∃ p ys, xs = [.ref p] ∧ (SqL K H p ys ∨ SqT K H p ys) ∧ ∀ l, H l = none → Q (.ref l) (upd H l (.lst ys))) (tCons ta tNil)) ρ (ns.map D.int) := ef_cb (ea_cons h ea_nil) fun st M H vs w r Q q => by
  obtain ⟨v, e, r1⟩ := one_of r
  obtain ⟨a, e1, sq⟩ := r1.scr_
  exact ⟨a, ns.map V.int, by rw [e, e1], .inl (SqL.ex w.ex sq), fun l hl => q l _ _ M _ (.newO w hl) hl upd_same (w.ex.back hl) (reps_ints ns) rfl⟩
/-- tuple(x): of a list a new tuple that is known, of a tuple itself -/
def rTupK (K : PySem.W.Frag) : List V → Hp → VK → Prop := fun xs H Q => ∃ p ys, xs = [.ref p] ∧ ((SqL K H p ys ∧ ∀ l o, H l = none → o.dict = none → Q (.ref l) (upd H l (.frz o (.tup ys)))) ∨ (SqT K H p ys ∧ Q (.ref p) H))
def tupD : D → D
  | .lst ds => .ktp ds
  | d => d
theorem ev_tuple {ds : List D} (h : EvV ta ρ x) (hs : seqOf x = some ds) : EvV (tCB (rTupK K) (tCons ta tNil)) ρ (tupD x) := ew_cb (ea_cons h ea_nil) fun st M H vs w r Q q => by
  obtain ⟨v, e, r1⟩ := one_of r
  cases x with
  | tup es =>
    cases (Option.some.inj (show some es = some ds from hs))
    obtain ⟨a, us, e1, e2, r2⟩ := r1.tup_
    exact ⟨a, us, by rw [e, e1], Or.inr ⟨SqT.of (w.ex _ _ e2), q _ _ M H (.refl w) (rep_tup e2 r2) rfl⟩⟩
  | ktp es =>
    cases (Option.some.inj (show some es = some ds from hs))
    obtain ⟨a, o, us, e1, e2, e3, r2⟩ := r1.ktp_
    exact ⟨a, us, by rw [e, e1], Or.inr ⟨.inl (.inr ⟨o, w.ex _ _ e2⟩), q _ _ M H (.refl w) (rep_ktp e2 e3 r2) rfl⟩⟩
  | lst es =>
    cases (Option.some.inj (show some es = some ds from hs))
    obtain ⟨a, us, e1, e2, r2⟩ := r1.lst_
    exact ⟨a, us, by rw [e, e1], Or.inl ⟨SqL.of (w.ex _ _ e2), fun l o hl hd => q _ _ (upd M l (.frz o (.tup us))) _ (.new w hl) (rep_ktp upd_same hd (r2.mono (.new (w.ex.back hl)))) rfl⟩⟩
  | _ => exact absurd hs (by intro z; cases z)
/-- tuple(x) of a list, known by a word -/
theorem ew_tupleF {ta : TE} {Φ : List D → Prop} (h : EvF ta ρ Φ) : EvW (tCB (rTupK K) (tCons ta tNil)) ρ (fun d => ∃ ds, d = .ktp ds ∧ Φ ds) := fun st σ M H s Q q =>
  ea_consW (Ψ := fun _ ds => ds = []) (EvF.w (Ψ := fun d => ∃ ds, d = .lst ds ∧ Φ ds) h fun ds f => ⟨ds, rfl, f⟩) (fun _ _ => ea_nil) st σ M H s _ fun vs es M1 H1 T r ⟨x, r0, e, ⟨ds, e1, f⟩, e2⟩ => by
    subst e e1 e2
    obtain ⟨v, ev, r1⟩ := one_of r
    obtain ⟨a, us, e1, e2, r2⟩ := r1.lst_
    exact ⟨a, us, by rw [ev, e1], Or.inl ⟨SqL.of (T.w.ex _ _ e2), fun l o hl hd => q _ _ (upd M1 l (.frz o (.tup us))) _ (T.trans (.new T.w hl)) (rep_ktp upd_same hd (r2.mono (.new (T.w.ex.back hl)))) ⟨ds, rfl, f⟩⟩⟩
theorem ev_tupleF {ta : TE} {ds : List D} (h : EvFV ta ρ ds) : EvV (tCB (rTupK K) (tCons ta tNil)) ρ (.ktp ds) := EvW.imp (ew_tupleF h) fun d ⟨es, e, f⟩ => by rw [e, f]
theorem ev_int1 {i : Int} (h : EvV ta ρ (.int i)) : EvV (tCB (fun xs H Q => (∃ i, xs = [V.int i] ∧ Q (.int i) H) ∨ ∃ k, xs = [V.bl k] ∧ Q (.int (if k then 1 else 0)) H) (tCons ta tNil)) ρ (.int i) := ew_cb (ea_cons h ea_nil) fun st M H vs w r Q q => by
  obtain ⟨v, e, r1⟩ := one_of r
  exact Or.inl ⟨i, by rw [e, r1.int_], q _ _ M H (.refl w) rep_int rfl⟩
theorem ev_intB {b : Bool} (h : EvV ta ρ (.bl b)) : EvV (tCB (fun xs H Q => (∃ i, xs = [V.int i] ∧ Q (.int i) H) ∨ ∃ k, xs = [V.bl k] ∧ Q (.int (if k then 1 else 0)) H) (tCons ta tNil)) ρ (.int (if b then 1 else 0)) := ew_cb (ea_cons h ea_nil) fun st M H vs w r Q q => by
  obtain ⟨v, e, r1⟩ := one_of r
  exact Or.inr ⟨b, by rw [e, r1.bl_], q _ _ M H (.refl w) rep_int rfl⟩
theorem ev_abs {i : Int} (h : EvV ta ρ (.int i)) : EvV (tCB (fun xs H Q => ∃ i, xs = [V.int i] ∧ Q (.int (if i < 0 then -i else i)) H) (tCons ta tNil)) ρ (.int (if i < 0 then -i else i)) := ew_cb (ea_cons h ea_nil) fun st M H vs w r Q q => by
  obtain ⟨v, e, r1⟩ := one_of r
  exact ⟨i, by rw [e, r1.int_], q _ _ M H (.refl w) rep_int rfl⟩
theorem ev_max2 {i j : Int} (h : EvV ta ρ (.int i)) (h2 : EvV tb ρ (.int j)) : EvV (tCB (fun xs H Q => ∃ i j, xs = [V.int i, V.int j] ∧ Q (.int (if j > i then j else i)) H) (tCons ta (tCons tb tNil))) ρ (.int (max i j)) := ew_cb (ea_cons h (ea_cons h2 ea_nil)) fun st M H vs w r Q q => by
  obtain ⟨v, v2, e, r1, r2⟩ := two_of r
  refine ⟨i, j, by rw [e, r1.int_, r2.int_], ?_⟩
  have e : (if j > i then j else i) = max i j := by split <;> omega
  rw [e]
  exact q _ _ M H (.refl w) rep_int rfl
theorem ev_min2 {i j : Int} (h : EvV ta ρ (.int i)) (h2 : EvV tb ρ (.int j)) : EvV (tCB (fun xs H Q => ∃ i j, xs = [V.int i, V.int j] ∧ Q (.int (if j < i then j else i)) H) (tCons ta (tCons tb tNil))) ρ (.int (min i j)) := ew_cb (ea_cons h (ea_cons h2 ea_nil)) fun st M H vs w r Q q => by
  obtain ⟨v, v2, e, r1, r2⟩ := two_of r
  refine ⟨i, j, by rw [e, r1.int_, r2.int_], ?_⟩
  have e : (if j < i then j else i) = min i j := by split <;> omega
  rw [e]
  exact q _ _ M H (.refl w) rep_int rfl
/-- max of a list of ints -/
theorem ev_maxL {ns : List Int} {m : Int} (h : EvV ta ρ (.lst (ns.map D.int))) (hm : m ∈ ns) (hle : ∀ y, y ∈ ns → y ≤ m) : EvV (tCB (rMax K) (tCons ta tNil)) ρ (.int m) := ew_cb (ea_cons h ea_nil) fun st M H vs w r Q q => by
  obtain ⟨v, e, r1⟩ := one_of r
  obtain ⟨a, us, e1, e2, r2⟩ := r1.lst_
  rw [r2.ints] at e2
  refine ⟨a, ns, by rw [e, e1], SqL.of (w.ex _ _ e2), List.length_pos_of_mem hm, fun k hk hb => ?_⟩
  have ek : k = m := Int.le_antisymm (hle k hk) (hb m hm)
  rw [ek]
  exact q _ _ M H (.refl w) rep_int rfl
theorem ev_sumL {ns : List Int} (h : EvV ta ρ (.lst (ns.map D.int))) : EvV (tCB (rSum K) (tCons ta tNil)) ρ (.int ns.sum) := ew_cb (ea_cons h ea_nil) fun st M H vs w r Q q => by
  obtain ⟨v, e, r1⟩ := one_of r
  obtain ⟨a, us, e1, e2, r2⟩ := r1.lst_
  rw [r2.ints] at e2
  exact ⟨a, ns, by rw [e, e1], SqL.of (w.ex _ _ e2), q _ _ M H (.refl w) rep_int rfl⟩
/-- t + u of tuples -/
theorem ev_catT {xs ys : List D} (hx : EvV ta ρ (.tup xs)) (hy : EvV tb ρ (.tup ys)) (hl : xs.length + ys.length ≤ 1000) : EvV (tOp (rCatA K) ta tb) ρ (.tup (xs ++ ys)) := ev_op hx hy fun st M H vx vy w r1 r2 Q q => by
  obtain ⟨a, us, e1, e2, r⟩ := r1.tup_
  obtain ⟨b, ws, f1, f2, r'⟩ := r2.tup_
  have lx := r.len
  have ly := r'.len
  refine ⟨a, b, us, ws, e1, f1, SqT.of (w.ex _ _ e2), SqT.of (w.ex _ _ f2), by rw [lx, ly]; exact Nat.le_trans hl (by decide), fun e => ?_, fun ne e => ?_, fun n1 n2 p hp => ?_⟩
  · have ex : xs = [] := by
      rw [e] at lx
      exact List.eq_nil_of_length_eq_zero lx.symm
    exact q _ _ M H (.refl w) (rep_tup f2 r') (by rw [ex]; rfl)
  · have ex : ys = [] := by
      rw [e] at ly
      exact List.eq_nil_of_length_eq_zero ly.symm
    exact q _ _ M H (.refl w) (rep_tup e2 r) (by rw [ex, List.append_nil])
  · exact q _ _ (upd M p (.tup (us ++ ws))) _ (.new w hp) (rep_tup upd_same ((r.append r').mono (.new (w.ex.back hp)))) rfl
/-- xs + ys of lists -/
theorem ef_cat {xs ys : List D} (hx : EvV ta ρ (.lst xs)) (hy : EvV tb ρ (.lst ys)) (hl : xs.length + ys.length ≤ 1000) : EvFV (tOp rCat ta tb) ρ (xs ++ ys) := ef_op hx hy fun st M H vx vy w r1 r2 Q q => by
  obtain ⟨a, us, e1, e2, r⟩ := r1.lst_
  obtain ⟨b, ws, f1, f2, r'⟩ := r2.lst_
  exact ⟨a, b, us, ws, e1, f1, w.ex _ _ e2, w.ex _ _ f2, by rw [r.len, r'.len]; exact Nat.le_trans hl (by decide), fun p hp => q p _ _ M _ (.newO w hp) hp upd_same (w.ex.back hp) (r.append r') rfl⟩
/-- xs * k -/
theorem rep_flat {α : Type} (a : α) : ∀ n : Nat, (List.replicate n [a]).flatten = List.replicate n a
  | 0 => rfl
  | n + 1 => by
    rw [List.replicate_succ, List.flatten_cons, rep_flat a n]
    rfl
end
end SK

set_option Elab.async false
set_option linter.all false
set_option maxRecDepth 100000
set_option maxHeartbeats 4000000
namespace SK
open PySem L2
section
variable {ρ : Env} {ta tb tc te : TE} {d x y z : D} {Φ Ψ : D → Prop} {t u : TT} {K : PySem.W.Frag}

/-! ### more on slots -/
theorem SR.set {st : Option Addr} {M H : Hp} {σ : L2.St} {j : Nat} {v : V} (s : SR st M H σ ρ) (r : Rep M d v) (hj : j < ρ.length) : SR st M H (σ.set j (some v)) (ρ.set j (some (.imm d))) := by
  have hjs : j < σ.length := by rw [← s.len]; exact hj
  refine ⟨s.w, by rw [List.length_set, List.length_set]; exact s.len, fun i x e => ?_, fun i k x y w ne e1 e2 m1 m2 e3 => ?_⟩
  · by_cases q : i = j
    · subst q
      rw [List.getElem?_set_self hj] at e
      cases e
      exact ⟨v, List.getElem?_set_self hjs, r⟩
    · rw [List.getElem?_set_ne (Ne.symm q)] at e
      obtain ⟨w, e1, e2⟩ := s.sl i x e
      exact ⟨w, by rw [List.getElem?_set_ne (Ne.symm q)]; exact e1, e2⟩
  · have q1 : i ≠ j := fun q => by
      subst q
      rw [List.getElem?_set_self hj] at e1
      cases e1
      exact m1
    have q2 : k ≠ j := fun q => by
      subst q
      rw [List.getElem?_set_self hj] at e2
      cases e2
      exact m2
    rw [List.getElem?_set_ne (Ne.symm q1)] at e1 e3
    rw [List.getElem?_set_ne (Ne.symm q2)] at e2 ⊢
    exact s.ap i k x y w ne e1 e2 m1 m2 e3
/-- slots forgotten -/
theorem SR.weak {st : Option Addr} {M H : Hp} {σ σ' : L2.St} {ρ' : Env} (s : SR st M H σ ρ) (l1 : ρ'.length = σ'.length) (h : ∀ (i : Nat) x, ρ'[i]? = some (some x) → ρ[i]? = some (some x) ∧ σ'[i]? = σ[i]?) : SR st M H σ' ρ' :=
  ⟨s.w, l1, fun i x e => by
    obtain ⟨e1, e2⟩ := h i x e
    obtain ⟨v, e3, e4⟩ := s.sl i x e1
    exact ⟨v, e2.trans e3, e4⟩, fun i j x y v ne e1 e2 m1 m2 e3 => by
    obtain ⟨a1, a2⟩ := h i x e1
    obtain ⟨b1, b2⟩ := h j y e2
    rw [b2]
    rw [a2] at e3
    exact s.ap i j x y v ne a1 b1 m1 m2 e3⟩

/-! ### what is walked -/
/-- from M on: J goes through the items xs -/
structure WalkD (st : Option Addr) (J : It) (M : Hp) (xs : List D) : Prop where
  go : ∀ i M1 H1, Ex M M1 → W st M1 H1 → i < xs.length → J.go i H1
  stop : ∀ M1 H1, Ex M M1 → W st M1 H1 → J.stop xs.length H1
  yld : ∀ i d M1 H1 x H2, Ex M M1 → W st M1 H1 → xs[i]? = some d → J.yld i H1 x H2 → ∃ M2, Tr st M1 H1 M2 H2 ∧ Rep M2 d x
def EvI (wi : TI) (ρ : Env) (Φ : List D → Prop) : Prop := ∀ st σ M H, SR st M H σ ρ → ∀ R : It → Hp → Prop, (∀ J M' H' xs, Tr st M H M' H' → WalkD st J M' xs → Φ xs → R J H') → wi σ H R
def EvIV (wi : TI) (ρ : Env) (ds : List D) : Prop := EvI wi ρ fun x => x = ds
theorem walk_l {st : Option Addr} {M : Hp} {a : Addr} {vs : List V} {ds : List D} (h : M a = some (.lst vs)) (r : Reps M ds vs) : WalkD st (Itl K a) M ds := by
  refine ⟨fun i M1 H1 e w hi => ?_, fun M1 H1 e w => ?_, fun i d M1 H1 x H2 e w hd y => ?_⟩
  · have hv : i < vs.length := by rw [r.len]; exact hi
    exact ⟨vs, vs[i], SqL.of (w.ex _ _ (e _ _ h)), by simp [hv]⟩
  · exact ⟨vs, SqL.of (w.ex _ _ (e _ _ h)), by rw [r.len]; exact Nat.le_refl _⟩
  · obtain ⟨e1, e2⟩ := y
    subst e1
    have hx := e2 vs (SqL.of (w.ex _ _ (e _ _ h)))
    obtain ⟨d', h1, h2⟩ := r.getV hx
    rw [hd] at h1
    cases h1
    exact ⟨M1, .refl w, h2.mono e⟩
theorem Rd.ex {M M' : Hp} {a : Addr} {u : HO} (e : Ex M M') (h : Rd M a u) : Rd M' a u := by
  rcases h with h | ⟨o, h⟩
  · exact .inl (e _ _ h)
  · exact .inr ⟨o, e _ _ h⟩
theorem walk_t {st : Option Addr} {M : Hp} {a : Addr} {vs : List V} {ds : List D} (h0 : Rd M a (.tup vs)) (r : Reps M ds vs) : WalkD st (Itt K a) M ds := by
  have sq : ∀ {M1 H1 : Hp}, Ex M M1 → Ex M1 H1 → SqT K H1 a vs := fun e e' => .inl (Rd.ex e' (Rd.ex e h0))
  refine ⟨fun i M1 H1 e w hi => ?_, fun M1 H1 e w => ?_, fun i d M1 H1 x H2 e w hd y => ?_⟩
  · have hv : i < vs.length := by rw [r.len]; exact hi
    exact ⟨vs, vs[i], sq e w.ex, by simp [hv]⟩
  · exact ⟨vs, sq e w.ex, by rw [r.len]; exact Nat.le_refl _⟩
  · obtain ⟨e1, e2⟩ := y
    subst e1
    have hx := e2 vs (sq e w.ex)
    obtain ⟨d', h1, h2⟩ := r.getV hx
    rw [hd] at h1
    cases h1
    exact ⟨M1, .refl w, h2.mono e⟩
/-- a list or a tuple, walked -/
def iSeq (K : PySem.W.Frag) (tl : TE) : TI := fun σ H R => tl σ H fun x H1 => ∃ a, x = .ref a ∧ ((∃ xs, SqL K H1 a xs) ∧ R (Itl K a) H1 ∨ (∃ xs, SqT K H1 a xs) ∧ R (Itt K a) H1)
theorem pi_seq {X : Cx} {tg l : Expr} {tl : TE} (hl : PE X l tl) : PI X tg l (iSeq X.K tl) := by
  refine ⟨fun pins s σ H R I h => ?_⟩
  refine thn (hl.run pins s σ H _ I h) fun v s1 ⟨x, H1, I1, r1, q1⟩ => ?_
  obtain ⟨a, e, q1⟩ := q1
  subst e
  cases r1
  rcases q1 with ⟨⟨xs, hq⟩, q⟩ | ⟨⟨xs, hq⟩, q⟩
  · obtain ⟨its, rv, p, hz⟩ := I1.list hq
    refine wpAny_pyIter_list p.isList ?_
    refine ⟨s1.heap.objs.size, [s1.heap.objs.size], _, _, H1, rfl, I1.kept (t' := s1.toks) fun b o e => Heap.get?_push_of_some _ e, turn_list a _, ⟨_, Heap.get?_push_size _ rfl, rfl, rfl⟩, fun b hb => ?_, q⟩
    have e : b = s1.heap.objs.size := by simpa using hb
    subst e
    exact I1.fpOk (Nat.le_refl _) (I1.hok.fresh (Nat.le_refl _))
  · obtain ⟨its, rv, p, hz⟩ := I1.tuple hq
    refine wpAny_pyIter_tuple (show s1.heap.IsTuple a its.toArray from p) ?_
    refine ⟨s1.heap.objs.size, [s1.heap.objs.size], _, _, H1, rfl, I1.kept (t' := s1.toks) fun b o e => Heap.get?_push_of_some _ e, turn_tuple a _, ⟨_, Heap.get?_push_size _ rfl, rfl, rfl⟩, fun b hb => ?_, q⟩
    have e : b = s1.heap.objs.size := by simpa using hb
    subst e
    exact I1.fpOk (Nat.le_refl _) (I1.hok.fresh (Nat.le_refl _))
theorem ei_seqW {P : List D → Prop} (h : EvW te ρ fun d => ∃ ds, seqOf d = some ds ∧ P ds) : EvI (iSeq K te) ρ P := fun st σ M H s R k => h st σ M H s _ fun v d M1 H1 T1 r1 ⟨ds, e, p⟩ => by
  cases d with
  | tup es =>
    cases (Option.some.inj (show some es = some ds from e))
    obtain ⟨a, us, e1, e2, r2⟩ := r1.tup_
    exact ⟨a, e1, Or.inr ⟨⟨us, SqT.of (T1.w.ex _ _ e2)⟩, k _ M1 H1 ds T1 (walk_t (.inl e2) r2) p⟩⟩
  | ktp es =>
    cases (Option.some.inj (show some es = some ds from e))
    obtain ⟨a, o, us, e1, e2, _, r2⟩ := r1.ktp_
    exact ⟨a, e1, Or.inr ⟨⟨us, .inl (.inr ⟨o, T1.w.ex _ _ e2⟩)⟩, k _ M1 H1 ds T1 (walk_t (.inr ⟨o, e2⟩) r2) p⟩⟩
  | lst es =>
    cases (Option.some.inj (show some es = some ds from e))
    obtain ⟨a, us, e1, e2, r2⟩ := r1.lst_
    exact ⟨a, e1, Or.inl ⟨⟨us, SqL.of (T1.w.ex _ _ e2)⟩, k _ M1 H1 ds T1 (walk_l e2 r2) p⟩⟩
  | _ => exact absurd e (by intro z; cases z)
theorem ei_seq {ds : List D} (h : EvV te ρ x) (hs : seqOf x = some ds) : EvIV (iSeq K te) ρ ds := ei_seqW (EvV.w h ⟨ds, hs, rfl⟩)
/-- the script, walked -/
theorem ei_scr {ns : List Int} (h : EvV te ρ (.scr K ns)) : EvIV (iSeq K te) ρ (ns.map D.int) := fun st σ M H s R k => h st σ M H s _ fun v d M1 H1 T1 r1 e => by
  subst e
  obtain ⟨a, e1, sq⟩ := r1.scr_
  refine ⟨a, e1, Or.inl ⟨⟨_, SqL.ex T1.w.ex sq⟩, k _ M1 H1 _ T1 ?_ rfl⟩⟩
  have sq2 : ∀ {M2 H2 : Hp}, Ex M1 M2 → Ex M2 H2 → SqL K H2 a (ns.map V.int) := fun e e' => SqL.ex e' (SqL.ex e sq)
  refine ⟨fun i M1 H1 e w hi => ?_, fun M1 H1 e w => ?_, fun i d M1 H1 x H2 e w hd y => ?_⟩
  · have hv : i < (ns.map V.int).length := by rw [List.length_map] at hi ⊢; exact hi
    exact ⟨ns.map V.int, (ns.map V.int)[i], sq2 e w.ex, by simp [hv]⟩
  · exact ⟨ns.map V.int, sq2 e w.ex, by rw [List.length_map, List.length_map]; exact Nat.le_refl _⟩
  · obtain ⟨e1, e2⟩ := y
    subst e1
    have hx := e2 _ (sq2 e w.ex)
    rw [List.getElem?_map] at hd hx
    cases q : ns[i]? with
    | none => rw [q] at hd; cases hd
    | some n =>
      rw [q] at hd hx
      cases hd
      cases hx
      exact ⟨M1, .refl w, rep_int⟩
/-- range(n), range(a, b) -/
theorem walk_r {st : Option Addr} {M : Hp} {lo : Int} {n : Nat} : WalkD st (Itr lo n) M ((List.range n).map fun i : Nat => D.int (lo + (i : Int))) := by
  refine ⟨fun i M1 H1 e w hi => ?_, fun M1 H1 e w => ?_, fun i d M1 H1 x H2 e w hd y => ?_⟩
  · rw [List.length_map, List.length_range] at hi
    exact hi
  · rw [List.length_map, List.length_range]
    exact Nat.le_refl _
  · obtain ⟨e1, e2⟩ := y
    subst e1 e2
    rw [List.getElem?_map] at hd
    cases q : (List.range n)[i]? with
    | none => rw [q] at hd; cases hd
    | some j =>
      rw [q] at hd
      cases hd
      obtain ⟨h1, h2⟩ := List.getElem?_eq_some_iff.mp q
      rw [List.getElem_range] at h2
      subst h2
      exact ⟨M1, .refl w, rep_int⟩
theorem ei_range1 {n : Nat} (h : EvV ta ρ (.int n)) (hn : n < 2 ^ 62) : EvIV (iRng1 (tCons ta tNil)) ρ ((List.range n).map fun i : Nat => D.int (i : Int)) := fun st σ M H s R k =>
  (ea_cons h ea_nil) st σ M H s _ fun vs ds M1 H1 T1 r e => by
    rw [e] at r
    obtain ⟨v, e1, r1⟩ := one_of r
    refine ⟨n, by rw [e1, r1.int_], by omega, by omega, ?_⟩
    have q := k (Itr 0 n) M1 H1 ((List.range n).map fun i : Nat => D.int (0 + (i : Int))) T1 walk_r (by simp)
    simpa using q
theorem ei_range1W {P : List D → Prop} (h : EvW ta ρ fun d => ∃ n : Nat, d = .int n ∧ n < 2 ^ 62 ∧ P ((List.range n).map fun i : Nat => D.int (i : Int))) : EvI (iRng1 (tCons ta tNil)) ρ P := fun st σ M H s R k =>
  h st σ M H s _ fun v d M1 H1 T1 r ⟨n, e, hn, p⟩ => by
    rw [e] at r
    refine ⟨n, by rw [r.int_], by omega, by omega, ?_⟩
    have q := k (Itr 0 n) M1 H1 ((List.range n).map fun i : Nat => D.int (0 + (i : Int))) T1 walk_r (by simpa using p)
    simpa using q
theorem ei_range2 {lo hi : Int} (h : EvV ta ρ (.int lo)) (h2 : EvV tb ρ (.int hi)) (b : -(2 ^ 62) ≤ lo ∧ lo < 2 ^ 62 ∧ -(2 ^ 62) ≤ hi ∧ hi < 2 ^ 62) : EvIV (iRng2 (tCons ta (tCons tb tNil))) ρ ((List.range (hi - lo).toNat).map fun i : Nat => D.int (lo + (i : Int))) := fun st σ M H s R k =>
  (ea_cons h (ea_cons h2 ea_nil)) st σ M H s _ fun vs ds M1 H1 T1 r e => by
    rw [e] at r
    obtain ⟨v, v2, e1, r1, r2⟩ := two_of r
    exact ⟨lo, hi, by rw [e1, r1.int_, r2.int_], b, k (Itr lo (hi - lo).toNat) M1 H1 _ T1 walk_r rfl⟩
end

/-! ### statements -/
structure SB (st : Option Addr) (B : Addr → Prop) (M0 H0 M H : Hp) (σ : L2.St) (ρ : Env) : Prop where
  sr : SR st M H σ ρ
  m : Ex M0 M
  h : ∀ a o, H0 a = some o → ¬ B a → H a = some o
  n : ∀ a, M0 a = none → H0 a ≠ none → ¬ B a → M a = none
  f : ∀ (i : Nat) x l, ρ[i]? = some (some x) → x.mut → σ[i]? = some (some (.ref l)) → (x.isSlf = false ∧ H0 l = none ∧ ¬ B l) ∨ (x.isSlf = true ∧ B l)
  b : ∀ a, st = some a → B a
  be : ∀ a, B a → H a ≠ none
structure EB (st : Option Addr) (B : Addr → Prop) (M0 H0 M H : Hp) : Prop where
  w : W st M H
  m : Ex M0 M
  h : ∀ a o, H0 a = some o → ¬ B a → H a = some o
  n : ∀ a, M0 a = none → H0 a ≠ none → ¬ B a → M a = none
structure Post where
  nx : Env → Prop
  rt : D → Prop
  bk : Env → Prop := fun _ => False
  ct : Env → Prop := fun _ => False
  /-- what stands in the slots at a return -/
  rs : D → Env → Prop := fun _ _ => True
  /-- a return of a list that none else holds -/
  rf : List D → Prop := fun _ => False
structure PD (st : Option Addr) (B : Addr → Prop) (M0 H0 : Hp) (P : Post) (E : Ends) : Prop where
  nx : ∀ σ M H ρ, SB st B M0 H0 M H σ ρ → P.nx ρ → E.nx σ H
  rt : ∀ v d σ M H ρ, SB st B M0 H0 M H σ ρ → Rep M d v → P.rt d → P.rs d ρ → E.rt v H
  bk : ∀ σ M H ρ, SB st B M0 H0 M H σ ρ → P.bk ρ → E.bk σ H
  ct : ∀ σ M H ρ, SB st B M0 H0 M H σ ρ → P.ct ρ → E.ct σ H
  rf : ∀ l vs ds M H, EB st B M0 H0 M H → H0 l = none → ¬ B l → st ≠ some l → H l = some (.lst vs) → M l = none → Reps M ds vs → P.rf ds → E.rt (.ref l) H
def SW (t : TS) (ρ : Env) (P : Post) : Prop := ∀ st B M0 H0 M H σ E, SB st B M0 H0 M H σ ρ → PD st B M0 H0 P E → t E σ H
section
variable {st : Option Addr} {B : Addr → Prop} {M0 H0 M H M1 H1 : Hp} {σ : L2.St} {ρ : Env}
theorem SB.tr (s : SB st B M0 H0 M H σ ρ) (t : Tr st M H M1 H1) : SB st B M0 H0 M1 H1 σ ρ := by
  refine ⟨s.sr.tr t, s.m.trans t.m, fun a o e nb => t.h a o (s.h a o e nb) fun z => nb (s.b a z), fun a e n nb => t.n a (s.n a e n nb) ?_, s.f, s.b, fun a q => t.there (s.be a q)⟩
  cases q : H0 a with
  | none => exact absurd q n
  | some o =>
    rw [s.h a o q nb]
    intro z
    cases z
theorem SB.eb (s : SB st B M0 H0 M H σ ρ) : EB st B M0 H0 M H := ⟨s.sr.w, s.m, s.h, s.n⟩
theorem SB.set {d : D} {j : Nat} {v : V} (s : SB st B M0 H0 M H σ ρ) (r : Rep M d v) (hj : j < ρ.length) : SB st B M0 H0 M H (σ.set j (some v)) (ρ.set j (some (.imm d))) := by
  refine ⟨s.sr.set r hj, s.m, s.h, s.n, fun i x l e m e2 => ?_, s.b, s.be⟩
  have q : i ≠ j := fun q => by
    subst q
    rw [List.getElem?_set_self hj] at e
    cases e
    exact m
  rw [List.getElem?_set_ne (Ne.symm q)] at e e2
  exact s.f i x l e m e2
/-- a slot gets a new thing of one's own, whose place is fresh -/
theorem SB.setO {x : SV} {j : Nat} {l : Addr} (s : SB st B M0 H0 M H σ ρ) (ok : SlotOk st M H (.ref l) x) (hj : j < ρ.length) (hn : x.isSlf = false) (hl : H0 l = none ∧ ¬ B l)
    (ap : ∀ (i : Nat) y, i ≠ j → ρ[i]? = some (some y) → y.mut → σ[i]? ≠ some (some (.ref l))) : SB st B M0 H0 M H (σ.set j (some (.ref l))) (ρ.set j (some x)) := by
  have hjs : j < σ.length := by rw [← s.sr.len]; exact hj
  refine ⟨⟨s.sr.w, by rw [List.length_set, List.length_set]; exact s.sr.len, fun i y e => ?_, fun i k y z w ne e1 e2 m1 m2 e3 => ?_⟩, s.m, s.h, s.n, fun i y l' e m e2 => ?_, s.b, s.be⟩
  · by_cases q : i = j
    · subst q
      rw [List.getElem?_set_self hj] at e
      cases e
      exact ⟨_, List.getElem?_set_self hjs, ok⟩
    · rw [List.getElem?_set_ne (Ne.symm q)] at e
      obtain ⟨w, e1, e2⟩ := s.sr.sl i y e
      exact ⟨w, by rw [List.getElem?_set_ne (Ne.symm q)]; exact e1, e2⟩
  · by_cases q1 : i = j
    · subst q1
      rw [List.getElem?_set_self hjs] at e3
      cases e3
      rw [List.getElem?_set_ne ne] at e2 ⊢
      exact ap k z (Ne.symm ne) e2 m2
    · by_cases q2 : k = j
      · subst q2
        rw [List.getElem?_set_self hjs]
        rw [List.getElem?_set_ne (Ne.symm q1)] at e1 e3
        intro z
        cases z
        exact ap i y q1 e1 m1 e3
      · rw [List.getElem?_set_ne (Ne.symm q1)] at e1 e3
        rw [List.getElem?_set_ne (Ne.symm q2)] at e2 ⊢
        exact s.sr.ap i k y z w ne e1 e2 m1 m2 e3
  · by_cases q : i = j
    · subst q
      rw [List.getElem?_set_self hjs] at e2
      cases e2
      rw [List.getElem?_set_self hj] at e
      cases e
      exact Or.inl ⟨hn, hl⟩
    · rw [List.getElem?_set_ne (Ne.symm q)] at e e2
      exact s.f i y l' e m e2
/-- a thing of one's own changes where it stands -/
theorem SB.chg {x x' : SV} {j : Nat} {l : Addr} {o o' : HO} (s : SB st B M0 H0 M H σ ρ) (hx : ρ[j]? = some (some x)) (hm : x.mut) (hv : σ[j]? = some (some (.ref l))) (ho : H l = some o) (hs : st ≠ some l) (hM : M l = none)
    (hk : x'.isSlf = x.isSlf) (ok : SlotOk st M (upd H l o') (.ref l) x') (hm' : x'.mut) : SB st B M0 H0 M (upd H l o') σ (ρ.set j (some x')) := by
  have hj : j < ρ.length := (List.getElem?_eq_some_iff.mp hx).1
  have w' : W st M (L2.upd H l o') := ⟨s.sr.w.ex.updR hM, fun a e => by
    obtain ⟨m, ds, vs, e1, r, q⟩ := s.sr.w.sto a e
    have ne : a ≠ l := fun z => hs (z ▸ e)
    exact ⟨m, ds, vs, by rw [upd_ne ne]; exact e1, r, q⟩⟩
  have other : ∀ (i : Nat) y v, i ≠ j → ρ[i]? = some (some y) → σ[i]? = some (some v) → SlotOk st M H v y → SlotOk st M (L2.upd H l o') v y := fun i y v ne e1 e2 q => by
    cases y with
    | imm d => exact q
    | sto => exact q
    | addr l => exact q
    | sow ds =>
      obtain ⟨l', vs, e, a, b, c, r⟩ := q
      have n2 : l' ≠ l := fun z => by
        subst z
        exact s.sr.ap j i _ _ _ (Ne.symm ne) hx e1 hm trivial hv (by rw [e2, e])
      exact ⟨l', vs, e, a, by rw [upd_ne n2]; exact b, c, r⟩
    | own ds =>
      obtain ⟨l', vs, e, a, b, c, r⟩ := q
      have n2 : l' ≠ l := fun z => by
        subst z
        exact s.sr.ap j i _ _ _ (Ne.symm ne) hx e1 hm trivial hv (by rw [e2, e])
      exact ⟨l', vs, e, a, by rw [upd_ne n2]; exact b, c, r⟩
    | dic P w kvs =>
      obtain ⟨l', L, e, a, b, c, r⟩ := q
      have n2 : l' ≠ l := fun z => by
        subst z
        exact s.sr.ap j i _ _ _ (Ne.symm ne) hx e1 hm trivial hv (by rw [e2, e])
      exact ⟨l', L, e, a, by rw [upd_ne n2]; exact b, c, r⟩
    | slf C ks ds =>
      obtain ⟨l', dx, vs, e, a, b, c, r⟩ := q
      have n2 : l' ≠ l := fun z => by
        subst z
        exact s.sr.ap j i _ _ _ (Ne.symm ne) hx e1 hm trivial hv (by rw [e2, e])
      exact ⟨l', dx, vs, e, a, by rw [upd_ne n2]; exact b, c, r⟩
  have fl := s.f j x l hx hm hv
  refine ⟨⟨w', by rw [List.length_set]; exact s.sr.len, fun i y e => ?_, fun i k y z w ne e1 e2 m1 m2 e3 => ?_⟩, s.m, fun a u e nb => ?_, s.n, fun i y l' e m e2 => ?_, s.b, fun a q => ?_⟩
  · by_cases q : i = j
    · subst q
      rw [List.getElem?_set_self hj] at e
      cases e
      exact ⟨_, hv, ok⟩
    · rw [List.getElem?_set_ne (Ne.symm q)] at e
      obtain ⟨w, e1, e2⟩ := s.sr.sl i y e
      exact ⟨w, e1, other i y w q e e1 e2⟩
  · have back : ∀ (i : Nat) y, (ρ.set j (some x'))[i]? = some (some y) → y.mut → ∃ y', ρ[i]? = some (some y') ∧ y'.mut := fun i y e m => by
      by_cases q : i = j
      · subst q
        exact ⟨x, hx, hm⟩
      · rw [List.getElem?_set_ne (Ne.symm q)] at e
        exact ⟨y, e, m⟩
    obtain ⟨y', a1, a2⟩ := back i y e1 m1
    obtain ⟨z', b1, b2⟩ := back k z e2 m2
    exact s.sr.ap i k y' z' w ne a1 b1 a2 b2 e3
  · have ne : a ≠ l := fun z => by
      subst z
      rcases fl with ⟨_, q, _⟩ | ⟨_, q⟩
      · rw [q] at e
        cases e
      · exact nb q
    rw [upd_ne ne]
    exact s.h a u e nb
  · by_cases q : i = j
    · subst q
      rw [List.getElem?_set_self hj] at e
      cases e
      rw [hv] at e2
      cases e2
      rw [hk]
      exact fl
    · rw [List.getElem?_set_ne (Ne.symm q)] at e
      exact s.f i y l' e m e2
  · by_cases z : a = l
    · rw [z, upd_same]
      intro z
      cases z
    · rw [upd_ne z]
      exact s.be a q
end
end SK

set_option Elab.async false
set_option linter.all false
set_option maxRecDepth 100000
set_option maxHeartbeats 4000000
namespace SK
open PySem L2
section
variable {ρ : Env} {ta tb tc te : TE} {d x y z : D} {Φ Ψ : D → Prop} {t u w : TS} {K : PySem.W.Frag} {P : Post} {c : TT}
/-- what follows, as the next -/
abbrev Post.to (P : Post) (u : TS) : Post := { P with nx := fun ρ' => SW u ρ' P }
theorem PD.to {st : Option Addr} {B : Addr → Prop} {M0 H0 : Hp} {E : Ends} (p : PD st B M0 H0 P E) : PD st B M0 H0 (P.to u) { E with nx := u E } :=
  ⟨fun σ M H ρ s q => q _ _ _ _ _ _ _ _ s p, p.rt, p.bk, p.ct, p.rf⟩
theorem PD.with {st : Option Addr} {B : Addr → Prop} {M0 H0 : Hp} {E : Ends} {I J : Env → Prop} {N N' : L2.St → Hp → Prop} (p : PD st B M0 H0 P E) (h : ∀ σ M H ρ, SB st B M0 H0 M H σ ρ → I ρ → N σ H) (h' : ∀ σ M H ρ, SB st B M0 H0 M H σ ρ → J ρ → N' σ H) :
    PD st B M0 H0 { P with nx := I, ct := I, bk := J } { E with nx := N, ct := N, bk := N' } := ⟨h, p.rt, h', h, p.rf⟩
theorem SW.imp {P' : Post} (h : SW t ρ P) (h1 : ∀ ρ, P.nx ρ → P'.nx ρ) (h2 : ∀ d, P.rt d → P'.rt d) (h3 : ∀ ρ, P.bk ρ → P'.bk ρ) (h4 : ∀ ρ, P.ct ρ → P'.ct ρ) (h5 : ∀ d ρ, P.rs d ρ → P'.rs d ρ) (h6 : ∀ ds, P.rf ds → P'.rf ds := by intros; assumption) : SW t ρ P' := fun st B M0 H0 M H σ E s p =>
  h st B M0 H0 M H σ E s ⟨fun σ M H ρ s q => p.nx _ _ _ _ s (h1 _ q), fun v d σ M H ρ e r q q2 => p.rt v d σ M H ρ e r (h2 _ q) (h5 _ _ q2), fun σ M H ρ s q => p.bk _ _ _ _ s (h3 _ q), fun σ M H ρ s q => p.ct _ _ _ _ s (h4 _ q), fun l vs ds M H a b c d e f g q => p.rf l vs ds M H a b c d e f g (h6 _ q)⟩
theorem sw_next (h : P.nx ρ) : SW tNext ρ P := fun st B M0 H0 M H σ E s p => p.nx _ _ _ _ s h
theorem sq_brk (h : P.bk ρ) : SW (tSeq tBreak u) ρ P := fun st B M0 H0 M H σ E s p => p.bk _ _ _ _ s h
theorem sq_asgW {j : Nat} (h : EvW te ρ Φ) (hj : j < ρ.length) (k : ∀ d, Φ d → SW u (ρ.set j (some (.imm d))) P) : SW (tSeq (tAsg te (gName j)) u) ρ P := fun st B M0 H0 M H σ E s p =>
  h st σ M H s.sr _ fun v d M1 H1 T r f => k d f st B M0 H0 M1 H1 _ E ((s.tr T).set r hj) p
theorem sq_asg {j : Nat} (h : EvV te ρ d) (hj : j < ρ.length) (k : SW u (ρ.set j (some (.imm d))) P) : SW (tSeq (tAsg te (gName j)) u) ρ P := sq_asgW h hj fun x e => by rw [e]; exact k
/-- name = a new list, kept as one's own -/
theorem fresh_ap {st : Option Addr} {M H : Hp} {σ : L2.St} {l : Addr} (s : SR st M H σ ρ) (hl : H l = none) : ∀ (i : Nat) y, ρ[i]? = some (some y) → y.mut → σ[i]? ≠ some (some (.ref l)) := fun i y e m e2 => by
  obtain ⟨v, e1, q⟩ := s.sl i y e
  rw [e2] at e1
  cases e1
  cases y with
  | imm d => exact m
  | sto => exact m
  | addr l => exact m
  | own ds =>
    obtain ⟨l', vs, a, _, b, _⟩ := q
    cases a
    rw [hl] at b
    cases b
  | sow ds =>
    obtain ⟨l', vs, a, _, b, _⟩ := q
    cases a
    rw [hl] at b
    cases b
  | dic P w kvs =>
    obtain ⟨l', L, a, _, b, _⟩ := q
    cases a
    rw [hl] at b
    cases b
  | slf C ks ds =>
    obtain ⟨l', dx, vs, a, _, b, _⟩ := q
    cases a
    rw [hl] at b
    cases b
theorem sq_asgF {j : Nat} {φ : List D → Prop} (h : EvF te ρ φ) (hj : j < ρ.length) (k : ∀ ds, φ ds → SW u (ρ.set j (some (.own ds))) P) : SW (tSeq (tAsg te (gName j)) u) ρ P := fun st B M0 H0 M H σ E s p =>
  h st σ M H s.sr _ fun l vs ds M1 H1 T hl hl' hm r f => by
    have s1 := s.tr T
    have hst : st ≠ some l := fun z => by
      obtain ⟨_, _, _, e, _⟩ := s.sr.w.sto l z
      rw [hl] at e
      cases e
    have hB0 : H0 l = none ∧ ¬ B l := by
      by_cases nb : B l
      · exact absurd hl (s.be l nb)
      · refine ⟨?_, nb⟩
        cases q : H0 l with
        | none => rfl
        | some o =>
          rw [s.h l o q nb] at hl
          cases hl
    refine k ds f st B M0 H0 M1 H1 _ E (s1.setO ⟨l, vs, rfl, hst, hl', hm, r⟩ hj rfl hB0 fun i y _ e m => fresh_ap s.sr hl i y e m) p

theorem sq_asgFV {j : Nat} {ds : List D} (h : EvFV te ρ ds) (hj : j < ρ.length) (k : SW u (ρ.set j (some (.own ds))) P) : SW (tSeq (tAsg te (gName j)) u) ρ P := sq_asgF h hj fun x e => by rw [e]; exact k
theorem sq_ret (h : EvW te ρ P.rt) (hs : ∀ d, P.rt d → P.rs d ρ := by intros; trivial) : SW (tSeq (tRet te) u) ρ P := fun st B M0 H0 M H σ E s p => h st σ M H s.sr _ fun v d M1 H1 T r f => p.rt v d σ M1 H1 ρ (s.tr T) r f (hs d f)
theorem sq_retV (h : EvV te ρ d) (k : P.rt d) (hs : P.rs d ρ := by trivial) : SW (tSeq (tRet te) u) ρ P := fun st B M0 H0 M H σ E s p => h st σ M H s.sr _ fun v d' M1 H1 T r f => by
  subst f
  exact p.rt v d' σ M1 H1 ρ (s.tr T) r k hs
/-- return a new list, that none else holds -/
theorem sq_retF (h : EvF te ρ P.rf) : SW (tSeq (tRet te) u) ρ P := fun st B M0 H0 M H σ E s p =>
  h st σ M H s.sr _ fun l vs ds M1 H1 T hl hl' hm r f => by
    have s1 := s.tr T
    have hst : st ≠ some l := fun z => by
      obtain ⟨_, _, _, e, _⟩ := s.sr.w.sto l z
      rw [hl] at e
      cases e
    have nb : ¬ B l := fun nb => absurd hl (s.be l nb)
    have h0 : H0 l = none := by
      cases q : H0 l with
      | none => rfl
      | some o =>
        rw [s.h l o q nb] at hl
        cases hl
    exact p.rf l vs ds M1 H1 s1.eb h0 nb hst hl' hm r f
theorem sq_drop (h : EvW te ρ Φ) (k : ∀ d, Φ d → SW u ρ P) : SW (tSeq (tDrop te) u) ρ P := fun st B M0 H0 M H σ E s p =>
  h st σ M H s.sr _ fun v d M1 H1 T r f => k d f st B M0 H0 M1 H1 σ E (s.tr T) p
theorem sq_dropV (h : EvV te ρ d) (k : SW u ρ P) : SW (tSeq (tDrop te) u) ρ P := sq_drop h fun _ _ => k
theorem sq_if {φ : Bool → Prop} (h : EvT c ρ φ) (h1 : φ true → SW t ρ (P.to u)) (h2 : φ false → SW w ρ (P.to u)) : SW (tSeq (tIfS c t w) u) ρ P := fun st B M0 H0 M H σ E s p =>
  h st σ M H s.sr _ fun b M1 H1 T f => by
    cases b with
    | true =>
      rw [if_pos rfl]
      exact h1 f st B M0 H0 M1 H1 σ _ (s.tr T) p.to
    | false =>
      rw [if_neg Bool.false_ne_true]
      exact h2 f st B M0 H0 M1 H1 σ _ (s.tr T) p.to
theorem sq_ifB {b : Bool} (h : EvB c ρ b) (h1 : b = true → SW t ρ (P.to u)) (h2 : b = false → SW w ρ (P.to u)) : SW (tSeq (tIfS c t w) u) ρ P := sq_if h (fun e => h1 e.symm) (fun e => h2 e.symm)
/-- a test that is never true, no else -/
theorem sq_no {b : Bool} (h : EvB c ρ b) (hb : b = false) (k : SW u ρ P) : SW (tSeq (tIfS c t tNext) u) ρ P := sq_ifB h (fun e => by rw [hb] at e; cases e) fun _ => sw_next k
theorem sq_noT (h : EvT c ρ fun b => b = false) (k : SW u ρ P) : SW (tSeq (tIfS c t tNext) u) ρ P := sq_if h (fun e => by cases e) fun _ => sw_next k
/-- an if without else -/
theorem sq_when {b : Bool} (h : EvB c ρ b) (h1 : b = true → SW t ρ (P.to u)) (h2 : b = false → SW u ρ P) : SW (tSeq (tIfS c t tNext) u) ρ P := sq_ifB h h1 fun e => sw_next (h2 e)
theorem sq_whenT {φ : Bool → Prop} (h : EvT c ρ φ) (h1 : φ true → SW t ρ (P.to u)) (h2 : φ false → SW u ρ P) : SW (tSeq (tIfS c t tNext) u) ρ P := sq_if h h1 fun e => sw_next (h2 e)

/-! ### targets -/
def sets (σ : L2.St) : List Nat → List V → L2.St
  | j :: js, v :: vs => sets (σ.set j (some v)) js vs
  | _, _ => σ
def setsE (ρ : Env) : List Nat → List D → Env
  | j :: js, d :: ds => setsE (ρ.set j (some (.imm d))) js ds
  | _, _ => ρ
theorem setsE_len : ∀ (js : List Nat) (ds : List D) (ρ : Env), (setsE ρ js ds).length = ρ.length
  | [], _, ρ => by unfold setsE; rfl
  | _ :: _, [], ρ => by unfold setsE; rfl
  | j :: js, d :: ds, ρ => by
    show (setsE (ρ.set j (some (.imm d))) js ds).length = _
    rw [setsE_len js ds, List.length_set]
theorem SB.sets {st : Option Addr} {B : Addr → Prop} {M0 H0 M H : Hp} : ∀ {js : List Nat} {ds : List D} {vs : List V} {σ : L2.St} {ρ : Env}, SB st B M0 H0 M H σ ρ → Reps M ds vs → (∀ j ∈ js, j < ρ.length) → SB st B M0 H0 M H (sets σ js vs) (setsE ρ js ds)
  | [], ds, vs, σ, ρ, s, r, h => by unfold SK.sets setsE; exact s
  | j :: js, [], vs, σ, ρ, s, r, h => by
    rw [r.inv0]
    unfold SK.sets setsE
    exact s
  | j :: js, d :: ds, vs, σ, ρ, s, r, h => by
    obtain ⟨v, vr, e, r1, r2⟩ := r.inv
    rw [e]
    show SB st B M0 H0 M H (SK.sets (σ.set j (some v)) js vr) (setsE (ρ.set j (some (.imm d))) js ds)
    exact SB.sets (s.set r1 (h j (List.mem_cons_self ..))) r2 fun k hk => by rw [List.length_set]; exact h k (List.mem_cons_of_mem _ hk)
/-- what a target does with an item d: the slots js get the data ds -/
def GW (g : TG) (d : D) (js : List Nat) (ds : List D) : Prop := ∀ M H σ v, Ex M H → Rep M d v → ∀ Q : L2.St → Hp → Prop, (∀ vs, Reps M ds vs → Q (sets σ js vs) H) → g v σ H Q
theorem gw_name {j : Nat} : GW (gName j) d [j] [d] := fun M H σ v e r Q q => q [v] (.cons r .nil)
theorem gw_two {i j : Nat} {a b : D} : GW (gTup K 2 (gCons (gName i) (gCons (gName j) gNil))) (.tup [a, b]) [i, j] [a, b] := fun M H σ v e r Q q => by
  obtain ⟨p, vs, e1, e2, r2⟩ := r.tup_
  obtain ⟨v1, v2, e3, q1, q2⟩ := two_of r2
  subst e3
  exact ⟨p, [v1, v2], e1, SqT.of (e _ _ e2), rfl, v1, [v2], rfl, v2, [], rfl, rfl, q [v1, v2] (.cons q1 (.cons q2 .nil))⟩

/-! ### loops -/
theorem SB.lift {st : Option Addr} {B : Addr → Prop} {M0 H0 M1 H1 M H : Hp} {σ : L2.St} (e1 : EB st B M0 H0 M1 H1) (s : SB st B M0 H0 M H σ ρ) (e : Ex M1 M) : SB st B M1 H0 M H σ ρ :=
  ⟨s.sr, e, s.h, fun a q n nb => s.n a (e1.m.back q) n nb, s.f, s.b, s.be⟩
theorem SB.low {st : Option Addr} {B : Addr → Prop} {M0 H0 M1 H1 M H : Hp} {σ : L2.St} (e1 : EB st B M0 H0 M1 H1) (s : SB st B M1 H0 M H σ ρ) : SB st B M0 H0 M H σ ρ :=
  ⟨s.sr, e1.m.trans s.m, s.h, fun a q n nb => s.n a (e1.n a q n nb) n nb, s.f, s.b, s.be⟩
theorem EB.low {st : Option Addr} {B : Addr → Prop} {M0 H0 M1 H1 M H : Hp} (e1 : EB st B M0 H0 M1 H1) (s : EB st B M1 H0 M H) : EB st B M0 H0 M H :=
  ⟨s.w, e1.m.trans s.m, s.h, fun a q n nb => s.n a (e1.n a q n nb) n nb⟩
theorem sq_for {wi : TI} {g : TG} {tb : TS} {φ : List D → Prop} {js : List Nat} (I : List D → Nat → Env → Prop) (h : EvI wi ρ φ) (hj : ∀ xs i ρ', I xs i ρ' → ∀ j ∈ js, j < ρ'.length) (h0 : ∀ xs, φ xs → I xs 0 ρ)
    (hs : ∀ xs i d ρ', φ xs → xs[i]? = some d → I xs i ρ' → ∃ ds, GW g d js ds ∧ SW tb (setsE ρ' js ds) { P with nx := I xs (i + 1), ct := I xs (i + 1), bk := fun ρ2 => SW u ρ2 P })
    (hd : ∀ xs ρ', φ xs → I xs xs.length ρ' → SW u ρ' P) : SW (tSeq (tFor wi g tb) u) ρ P := fun st B M0 H0 M H σ E s p =>
  h st σ M H s.sr _ fun J M1 H1 xs T wk f => by
    refine ⟨fun i m σ' H' => m = xs.length - i ∧ i ≤ xs.length ∧ ∃ M' ρ', SB st B M0 H0 M' H' σ' ρ' ∧ Ex M1 M' ∧ I xs i ρ', ⟨xs.length, rfl, Nat.zero_le _, M1, ρ, s.tr T, .refl _, h0 xs f⟩, ?_⟩
    rintro i m σ' H' ⟨rfl, hi, M', ρ', s', e', iv⟩
    by_cases hlt : i < xs.length
    · refine Or.inr ⟨wk.go i M' H' e' s'.sr.w hlt, fun σ2 H2 => ∃ M2 ρ2, SB st B M0 H0 M2 H2 σ2 ρ2 ∧ Ex M1 M2 ∧ I xs (i + 1) ρ2, fun σ2 H2 q => ⟨xs.length - (i + 1), by omega, rfl, hlt, q⟩, fun x H2 y => ?_⟩
      have hx : xs[i]? = some xs[i] := List.getElem?_eq_getElem hlt
      obtain ⟨M2, T2, r2⟩ := wk.yld i _ M' H' x H2 e' s'.sr.w hx y
      obtain ⟨ds, hg, hb⟩ := hs xs i _ ρ' f hx iv
      refine hg M2 H2 σ' x T2.w.ex r2 _ fun vs rv => ?_
      have s2 := (s'.tr T2).sets rv (hj xs i ρ' iv)
      have e1 := (s.tr T).eb
      refine hb st B M1 H0 M2 H2 _ _ (s2.lift e1 (e'.trans T2.m)) ⟨fun σ3 M3 H3 ρ3 s3 q => ⟨M3, ρ3, s3.low e1, s3.m, q⟩, fun v d σ3 M3 H3 ρ3 q r f g => p.rt v d σ3 M3 H3 ρ3 (q.low e1) r f g, fun σ3 M3 H3 ρ3 s3 q => q st B M0 H0 M3 H3 σ3 E (s3.low e1) p, fun σ3 M3 H3 ρ3 s3 q => ⟨M3, ρ3, s3.low e1, s3.m, q⟩, fun l vs ds M3 H3 a b c d e f g q => p.rf l vs ds M3 H3 (e1.low a) b c d e f g q⟩
    · have e : i = xs.length := by omega
      subst e
      exact Or.inl ⟨wk.stop M' H' e' s'.sr.w, hd xs ρ' f iv st B M0 H0 M' H' σ' E s' p⟩

/-- while, by an invariant and a measure of the data -/
theorem sq_while {tb : TS} (I : Env → Prop) (μ : Env → Nat) (h0 : I ρ) (hs : ∀ ρ', I ρ' → ∃ b, EvB c ρ' b ∧ (b = true → SW tb ρ' { P with nx := fun ρ2 => I ρ2 ∧ μ ρ2 < μ ρ', ct := fun ρ2 => I ρ2 ∧ μ ρ2 < μ ρ', bk := fun ρ2 => SW u ρ2 P }) ∧ (b = false → SW u ρ' P)) :
    SW (tSeq (tWhile c tb) u) ρ P := fun st B M0 H0 M H σ E s p => by
  refine ⟨fun m σ' H' => ∃ M' ρ', SB st B M0 H0 M' H' σ' ρ' ∧ I ρ' ∧ m = μ ρ', ⟨_, M, ρ, s, h0, rfl⟩, ?_⟩
  rintro m σ' H' ⟨M', ρ', s', iv, rfl⟩
  obtain ⟨b, hb, h1, h2⟩ := hs ρ' iv
  refine hb st σ' M' H' s'.sr _ fun b' M1 H1 T e => ?_
  subst e
  cases b' with
  | true =>
    rw [if_pos rfl]
    refine ⟨fun σ2 H2 => ∃ M2 ρ2, SB st B M0 H0 M2 H2 σ2 ρ2 ∧ I ρ2 ∧ μ ρ2 < μ ρ', fun σ2 H2 ⟨M2, ρ2, a, b, c⟩ => ⟨_, c, M2, ρ2, a, b, rfl⟩, ?_⟩
    exact h1 rfl st B M0 H0 M1 H1 σ' _ (s'.tr T) ⟨fun σ3 M3 H3 ρ3 s3 q => ⟨M3, ρ3, s3, q⟩, p.rt, fun σ3 M3 H3 ρ3 s3 q => q st B M0 H0 M3 H3 σ3 E s3 p, fun σ3 M3 H3 ρ3 s3 q => ⟨M3, ρ3, s3, q⟩, p.rf⟩
  | false =>
    rw [if_neg Bool.false_ne_true]
    exact h2 rfl st B M0 H0 M1 H1 σ' E (s'.tr T) p

/-! ### things of one's own -/
theorem own_of {st : Option Addr} {B : Addr → Prop} {M0 H0 M H : Hp} {σ : L2.St} {j : Nat} {ds : List D} (s : SB st B M0 H0 M H σ ρ) (hj : ρ[j]? = some (some (.own ds))) :
    ∃ l vs, σ[j]? = some (some (.ref l)) ∧ st ≠ some l ∧ H l = some (.lst vs) ∧ M l = none ∧ Reps M ds vs ∧ H0 l = none ∧ ¬ B l := by
  obtain ⟨v, e, l, vs, e1, e2, e3, e4, r⟩ := s.sr.sl j _ hj
  subst e1
  rcases s.f j _ l hj trivial e with ⟨_, q1, q2⟩ | ⟨q, _⟩
  · exact ⟨l, vs, e, e2, e3, e4, r, q1, q2⟩
  · cases q
/-- xs.append(e) -/
theorem sq_appW {j : Nat} {ds : List D} (hj : ρ[j]? = some (some (.own ds))) (h : EvW te ρ Φ) (hl : ds.length < 100000) (k : ∀ d, Φ d → SW u (ρ.set j (some (.own (ds ++ [d])))) P) :
    SW (tSeq (tDrop (tBM K "list" rAppend (tVar j) (tCons te tNil))) u) ρ P := fun st B M0 H0 M H σ E s p => by
  obtain ⟨l, vs, e, e2, e3, e4, r, q1, q2⟩ := own_of s hj
  refine ⟨_, e, Or.inl ⟨rfl, vs, SqL.of e3⟩, ?_⟩
  refine h st σ M H s.sr _ fun v d M1 H1 T r1 f => ?_
  have s1 := s.tr T
  obtain ⟨l', vs', e', e2', e3', e4', r', _, _⟩ := own_of s1 hj
  rw [e] at e'
  cases e'
  refine ⟨l, vs', v, rfl, rfl, e3', by rw [r'.len]; exact Nat.lt_of_lt_of_le hl (by decide), ?_⟩
  exact k d f st B M0 H0 M1 _ σ E (s1.chg (x' := .own (ds ++ [d])) hj trivial e e3' e2' e4' rfl ⟨l, _, rfl, e2', upd_same, e4', r'.append (.cons r1 .nil)⟩ trivial) p
theorem sq_app {j : Nat} {ds : List D} (hj : ρ[j]? = some (some (.own ds))) (h : EvV te ρ d) (hl : ds.length < 100000) (k : SW u (ρ.set j (some (.own (ds ++ [d])))) P) :
    SW (tSeq (tDrop (tBM K "list" rAppend (tVar j) (tCons te tNil))) u) ρ P := sq_appW hj h hl fun x e => by rw [e]; exact k
/-- xs[i] = e -/
theorem sq_setI {j i : Nat} {ds : List D} (hj : ρ[j]? = some (some (.own ds))) (h : EvV te ρ d) (hi : EvV tb ρ (.int (i : Int))) (hl : i < ds.length) (k : SW u (ρ.set j (some (.own (ds.set i d)))) P) :
    SW (tSeq (tAsg te (gSub (tVar j) tb rSetL)) u) ρ P := fun st B M0 H0 M H σ E s p => by
  refine h st σ M H s.sr _ fun v d' M1 H1 T r1 f => ?_
  subst f
  have s1 := s.tr T
  obtain ⟨l, vs, e, _⟩ := own_of s1 hj
  refine ⟨_, e, ?_⟩
  refine hi st σ M1 H1 s1.sr _ fun w' y M2 H2 T2 r2 f2 => ?_
  subst f2
  have s2 := s1.tr T2
  obtain ⟨l', vs', e', e2', e3', e4', r', _, _⟩ := own_of s2 hj
  rw [e] at e'
  cases e'
  have e5 : ixN vs'.length (i : Int) = some i := by
    unfold ixN
    rw [if_pos (by omega), if_pos (by rw [r'.len]; omega), Int.toNat_natCast]
  refine ⟨l, vs', _, i, rfl, r2.int_, e3', e5, ?_⟩
  exact k st B M0 H0 M2 _ σ E (s2.chg (x' := .own (ds.set i d')) hj trivial e e3' e2' e4' rfl ⟨l, _, rfl, e2', upd_same, e4', r'.set i (Rep.mono T2.m _ _ r1)⟩ trivial) p
/-- a list of one's own is from now on unchanging -/
theorem sw_freeze (j : Nat) {ds : List D} (hj : ρ[j]? = some (some (.own ds))) (k : SW t (ρ.set j (some (.imm (.lst ds)))) P) : SW t ρ P := fun st B M0 H0 M H σ E s p => by
  obtain ⟨l, vs, e, e2, e3, e4, r, q1, q2⟩ := own_of s hj
  have hjl : j < ρ.length := (List.getElem?_eq_some_iff.mp hj).1
  have mo : Ex M (upd M l (.lst vs)) := .new e4
  have w' : W st (upd M l (.lst vs)) H := ⟨s.sr.w.ex.updL e3, fun a e => by
    obtain ⟨m, ds', vs', e1, r', q⟩ := s.sr.w.sto a e
    have ne : a ≠ l := fun z => e2 (z ▸ e)
    exact ⟨by rw [upd_ne ne]; exact m, ds', vs', e1, r'.mono mo, q⟩⟩
  have other : ∀ (i : Nat) y v, i ≠ j → ρ[i]? = some (some y) → σ[i]? = some (some v) → SlotOk st M H v y → SlotOk st (upd M l (.lst vs)) H v y := fun i y v ne a1 a2 q => by
    have nl : ∀ l', y.mut → v = .ref l' → l' ≠ l := fun l' m z z2 => by
      subst z2
      exact s.sr.ap j i _ _ _ (Ne.symm ne) hj a1 trivial m e (by rw [a2, z])
    cases y with
    | imm d => exact Rep.mono mo d v q
    | sto => exact q
    | addr l => exact q
    | own es =>
      obtain ⟨l', us, z, a, b, c, r⟩ := q
      exact ⟨l', us, z, a, b, by rw [upd_ne (nl l' trivial z)]; exact c, r.mono mo⟩
    | sow es =>
      obtain ⟨l', us, z, a, b, c, r⟩ := q
      exact ⟨l', us, z, a, b, by rw [upd_ne (nl l' trivial z)]; exact c, r.mono mo⟩
    | dic P w kvs =>
      obtain ⟨l', L, z, a, b, c, r⟩ := q
      exact ⟨l', L, z, a, b, by rw [upd_ne (nl l' trivial z)]; exact c, r.mono mo⟩
    | slf C ks es =>
      obtain ⟨l', dx, us, z, a, b, c, r, q⟩ := q
      exact ⟨l', dx, us, z, a, b, by rw [upd_ne (nl l' trivial z)]; exact c, r.mono mo, q⟩
  have nj : ∀ (i : Nat) y, (ρ.set j (some (.imm (.lst ds))))[i]? = some (some y) → y.mut → i ≠ j := fun i y a m z => by
    subst z
    rw [List.getElem?_set_self hjl] at a
    cases a
    exact m
  refine k st B M0 H0 (upd M l (.lst vs)) H σ E ⟨⟨w', by rw [List.length_set]; exact s.sr.len, fun i y a => ?_, fun i k y z v ne a1 a2 m1 m2 a3 => ?_⟩, s.m.trans mo, s.h, fun a q n nb => ?_, fun i y l' a m b => ?_, s.b, s.be⟩ p
  · by_cases q : i = j
    · subst q
      rw [List.getElem?_set_self hjl] at a
      cases a
      exact ⟨_, e, rep_lst upd_same (r.mono mo)⟩
    · rw [List.getElem?_set_ne (Ne.symm q)] at a
      obtain ⟨v, b1, b2⟩ := s.sr.sl i y a
      exact ⟨v, b1, other i y v q a b1 b2⟩
  · have n1 := nj i y a1 m1
    have n2 := nj k z a2 m2
    rw [List.getElem?_set_ne (Ne.symm n1)] at a1
    rw [List.getElem?_set_ne (Ne.symm n2)] at a2
    exact s.sr.ap i k y z v ne a1 a2 m1 m2 a3
  · have ne : a ≠ l := fun z => by
      subst z
      exact n q1
    rw [upd_ne ne]
    exact s.n a q n nb
  · have n1 := nj i y a m
    rw [List.getElem?_set_ne (Ne.symm n1)] at a
    exact s.f i y l' a m b
/-- return xs, a list of one's own -/
theorem sq_retO {j : Nat} {ds : List D} (hj : ρ[j]? = some (some (.own ds))) (h : P.rt (.lst ds)) (hs : ∀ ρ, P.rs (.lst ds) ρ := by intros; trivial) : SW (tSeq (tRet (tVar j)) u) ρ P :=
  sw_freeze j hj (sq_retV (ev_var (by
    have hjl : j < ρ.length := (List.getElem?_eq_some_iff.mp hj).1
    exact List.getElem?_set_self hjl)) h (hs _))
/-- for x in xs, a list of one's own that the body leaves as it is; the body owns nothing -/
theorem sq_forO {g : TG} {tb : TS} {j : Nat} {xs : List D} {js : List Nat} (I : Addr → Nat → Env → Prop) (hj : ρ[j]? = some (some (.own xs)))
    (hk : ∀ l i ρ', I l i ρ' → ρ'[j]? = some (some (.addr l)) ∧ (∀ (i : Nat) x, ρ'[i]? = some (some x) → ¬ x.mut) ∧ ∀ j ∈ js, j < ρ'.length) (h0 : ∀ l, I l 0 (ρ.set j (some (.addr l))))
    (hs : ∀ l i d ρ', xs[i]? = some d → I l i ρ' → ∃ ds, GW g d js ds ∧ SW tb (setsE ρ' js ds) { P with nx := I l (i + 1), ct := I l (i + 1), bk := fun ρ2 => I l xs.length ρ2, rt := fun _ => False, rf := fun _ => False })
    (hd : ∀ l ρ', I l xs.length ρ' → SW u (ρ'.set j (some (.own xs))) P) : SW (tSeq (tFor (iSeq K (tVar j)) g tb) u) ρ P := fun st B M0 H0 M H σ E s p => by
  obtain ⟨l, vs, e, e2, e3, e4, r, q1, q2⟩ := own_of s hj
  have hjl : j < ρ.length := (List.getElem?_eq_some_iff.mp hj).1
  have e1 := s.eb
  -- the state with the list hidden, over itself
  have s0 : ∀ {ρ' : Env}, ρ' = ρ.set j (some (.addr l)) → (∀ (i : Nat) x, ρ'[i]? = some (some x) → ¬ x.mut) → SB st B M H M H σ ρ' := fun {ρ'} eρ nm => by
    subst eρ
    refine ⟨⟨s.sr.w, by rw [List.length_set]; exact s.sr.len, fun i x a => ?_, fun i k x y v ne a1 a2 m1 m2 => absurd m1 (nm i x a1)⟩, .refl _, fun _ _ h _ => h, fun _ h _ _ => h, fun i x l' a m => absurd m (nm i x a), s.b, s.be⟩
    by_cases q : i = j
    · subst q
      rw [List.getElem?_set_self hjl] at a
      cases a
      exact ⟨_, e, rfl⟩
    · rw [List.getElem?_set_ne (Ne.symm q)] at a
      exact s.sr.sl i x a
  -- from a state over (M, H) back, the list shown again
  have back : ∀ {M' H' : Hp} {σ' : L2.St} {ρ' : Env}, SB st B M H M' H' σ' ρ' → ρ'[j]? = some (some (.addr l)) → (∀ (i : Nat) x, ρ'[i]? = some (some x) → ¬ x.mut) → SB st B M0 H0 M' H' σ' (ρ'.set j (some (.own xs))) := fun {M' H' σ' ρ'} s' a nm => by
    have hjl' : j < ρ'.length := (List.getElem?_eq_some_iff.mp a).1
    obtain ⟨v, b1, b2⟩ := s'.sr.sl j _ a
    have b2 : v = .ref l := b2
    subst b2
    have hl' := s'.h l _ e3 q2
    have nml : ∀ (i : Nat) x, (ρ'.set j (some (.own xs)))[i]? = some (some x) → x.mut → i = j := fun i x c m => by
      by_cases q : i = j
      · exact q
      · rw [List.getElem?_set_ne (Ne.symm q)] at c
        exact absurd m (nm i x c)
    refine ⟨⟨s'.sr.w, by rw [List.length_set]; exact s'.sr.len, fun i x c => ?_, fun i k x y v ne a1 a2 m1 m2 => absurd ((nml i x a1 m1).trans (nml k y a2 m2).symm) ne⟩, e1.m.trans s'.m, fun b o c nb => s'.h b o (e1.h b o c nb) nb, fun b c n nb => s'.n b (e1.n b c n nb) ?_ nb, fun i x l' c m d => ?_, s'.b, s'.be⟩
    · by_cases q : i = j
      · subst q
        rw [List.getElem?_set_self hjl'] at c
        cases c
        exact ⟨_, b1, l, vs, rfl, e2, hl', s'.n l e4 (by rw [e3]; intro z; cases z) q2, r.mono s'.m⟩
      · rw [List.getElem?_set_ne (Ne.symm q)] at c
        exact s'.sr.sl i x c
    · cases q : H0 b with
      | none => exact absurd q n
      | some o =>
        rw [e1.h b o q nb]
        intro z
        cases z
    · have z := nml i x c m
      subst z
      rw [b1] at d
      cases d
      rw [List.getElem?_set_self hjl'] at c
      cases c
      exact Or.inl ⟨rfl, q1, q2⟩
  refine ⟨.ref l, e, l, rfl, Or.inl ⟨⟨vs, SqL.of e3⟩, ?_⟩⟩
  refine ⟨fun i m σ' H' => m = xs.length - i ∧ i ≤ xs.length ∧ ∃ M' ρ', SB st B M H M' H' σ' ρ' ∧ I l i ρ', ⟨xs.length, rfl, Nat.zero_le _, M, _, s0 rfl (hk l 0 _ (h0 l)).2.1, h0 l⟩, ?_⟩
  rintro i m σ' H' ⟨rfl, hi, M', ρ', s', iv⟩
  obtain ⟨k1, k2, k3⟩ := hk l i ρ' iv
  have hl' := s'.h l _ e3 q2
  have lv := r.len
  by_cases hlt : i < xs.length
  · have hv : i < vs.length := by omega
    refine Or.inr ⟨⟨vs, vs[i], SqL.of hl', by simp [hv]⟩, fun σ2 H2 => ∃ M2 ρ2, SB st B M H M2 H2 σ2 ρ2 ∧ I l (i + 1) ρ2, fun σ2 H2 ⟨M2, ρ2, a, b⟩ => ⟨xs.length - (i + 1), by omega, rfl, hlt, M2, ρ2, a, b⟩, fun x H2 y => ?_⟩
    obtain ⟨y1, y2⟩ := y
    subst y1
    have hx := y2 vs (SqL.of hl')
    obtain ⟨d, d1, d2⟩ := r.getV hx
    obtain ⟨ds, hg, hb⟩ := hs l i d ρ' d1 iv
    refine hg M' _ σ' x s'.sr.w.ex (Rep.mono s'.m _ _ d2) _ fun us rv => ?_
    have s2 := s'.sets rv k3
    refine hb st B M H M' _ _ _ s2 ⟨fun σ3 M3 H3 ρ3 s3 q => ⟨M3, ρ3, s3, q⟩, fun v d σ3 M3 H3 ρ3 q r' f => f.elim, fun σ3 M3 H3 ρ3 s3 q => ?_, fun σ3 M3 H3 ρ3 s3 q => ⟨M3, ρ3, s3, q⟩, fun _ _ _ _ _ _ _ _ _ _ _ _ z => z.elim⟩
    · obtain ⟨k1', k2', _⟩ := hk l _ ρ3 q
      exact hd l ρ3 q st B M0 H0 M3 H3 σ3 E (back s3 k1' k2') p
  · have ei : i = xs.length := by omega
    subst ei
    exact Or.inl ⟨⟨vs, SqL.of hl', by omega⟩, hd l ρ' iv st B M0 H0 M' H' σ' E (back s' k1 k2) p⟩
end
end SK

set_option Elab.async false
set_option linter.all false
set_option maxRecDepth 100000
set_option maxHeartbeats 4000000
namespace SK
open PySem L2
section
variable {ρ : Env} {ta tb tc te : TE} {d x y z : D} {Φ Ψ : D → Prop} {t u w : TS} {K : PySem.W.Frag} {P : Post} {c : TT}
/-! ### comprehensions -/
theorem wipe_at {σ : L2.St} : ∀ (vs : List Nat) (i : Nat), (wipe σ vs)[i]? = if i ∈ vs then (σ[i]?).map (fun _ => none) else σ[i]?
  | [], i => by simp [wipe]
  | v :: vs, i => by
    unfold wipe
    by_cases q : i = v
    · subst q
      rw [if_pos (List.mem_cons_self ..)]
      by_cases hl : i < σ.length
      · rw [List.getElem?_set_self (by rw [wipe_length]; exact hl), List.getElem?_eq_getElem hl]
        rfl
      · have h1 : σ[i]? = none := List.getElem?_eq_none_iff.mpr (by omega)
        rw [h1]
        exact List.getElem?_eq_none_iff.mpr (by rw [List.length_set, wipe_length]; omega)
    · rw [List.getElem?_set_ne (Ne.symm q), wipe_at vs i]
      by_cases m : i ∈ vs
      · rw [if_pos m, if_pos (List.mem_cons_of_mem _ m)]
      · rw [if_neg m, if_neg fun z => (List.mem_cons.mp z).elim q m]
theorem wipe_wipe {σ : L2.St} (vs : List Nat) : wipe (wipe σ vs) vs = wipe σ vs := by
  apply List.ext_getElem?
  intro i
  rw [wipe_at, wipe_at]
  by_cases m : i ∈ vs
  · simp [m]
    rfl
  · simp [m]
theorem wipe_set {σ : L2.St} {j : Nat} {o : Option V} {vs : List Nat} (h : j ∈ vs) : wipe (σ.set j o) vs = wipe σ vs := by
  apply List.ext_getElem?
  intro i
  rw [wipe_at, wipe_at]
  by_cases m : i ∈ vs
  · rw [if_pos m, if_pos m]
    by_cases q : i = j
    · subst q
      by_cases hl : i < σ.length
      · rw [List.getElem?_set_self hl, List.getElem?_eq_getElem hl]
        rfl
      · have h1 : σ[i]? = none := List.getElem?_eq_none_iff.mpr (by omega)
        have h2 : (σ.set i o)[i]? = none := List.getElem?_eq_none_iff.mpr (by rw [List.length_set]; omega)
        rw [h1, h2]
    · rw [List.getElem?_set_ne (Ne.symm q)]
  · have q : i ≠ j := fun q => m (q ▸ h)
    rw [if_neg m, if_neg m, List.getElem?_set_ne (Ne.symm q)]
theorem wipe_sets : ∀ {js : List Nat} {us : List V} {σ : L2.St} {vs : List Nat}, (∀ j ∈ js, j ∈ vs) → wipe (sets σ js us) vs = wipe σ vs
  | [], us, σ, vs, h => by unfold sets; rfl
  | j :: js, [], σ, vs, h => by unfold sets; rfl
  | j :: js, u :: us, σ, vs, h => by
    show wipe (sets (σ.set j (some u)) js us) vs = _
    rw [wipe_sets fun k hk => h k (List.mem_cons_of_mem _ hk), wipe_set (h j (List.mem_cons_self ..))]
def wipeE (ρ : Env) : List Nat → Env
  | [] => ρ
  | v :: vs => (wipeE ρ vs).set v none
theorem wipeE_length (ρ : Env) : ∀ vs : List Nat, (wipeE ρ vs).length = ρ.length
  | [] => rfl
  | v :: vs => by unfold wipeE; rw [List.length_set, wipeE_length ρ vs]
theorem wipeE_some {i : Nat} {x : SV} : ∀ {vs : List Nat}, (wipeE ρ vs)[i]? = some (some x) → ρ[i]? = some (some x) ∧ i ∉ vs
  | [], h => ⟨h, fun z => by cases z⟩
  | v :: vs, h => by
    unfold wipeE at h
    by_cases q : i = v
    · subst q
      by_cases hl : i < (wipeE ρ vs).length
      · rw [List.getElem?_set_self hl] at h
        cases h
      · have h1 : ((wipeE ρ vs).set i none)[i]? = none := List.getElem?_eq_none_iff.mpr (by rw [List.length_set]; omega)
        rw [h1] at h
        cases h
    · rw [List.getElem?_set_ne (Ne.symm q)] at h
      obtain ⟨a, b⟩ := wipeE_some h
      exact ⟨a, fun z => (List.mem_cons.mp z).elim q b⟩
theorem SR.wipe {st : Option Addr} {M H : Hp} {σ : L2.St} (s : SR st M H σ ρ) (vs : List Nat) : SR st M H (wipe σ vs) (wipeE ρ vs) :=
  s.weak (by rw [wipeE_length, wipe_length]; exact s.len) fun i x e => by
    obtain ⟨a, b⟩ := wipeE_some e
    exact ⟨a, by rw [wipe_at, if_neg b]⟩
theorem SR.sets {st : Option Addr} {M H : Hp} : ∀ {js : List Nat} {ds : List D} {vs : List V} {σ : L2.St} {ρ : Env}, SR st M H σ ρ → Reps M ds vs → (∀ j ∈ js, j < ρ.length) → SR st M H (SK.sets σ js vs) (setsE ρ js ds)
  | [], ds, vs, σ, ρ, s, r, h => by unfold SK.sets setsE; exact s
  | j :: js, [], vs, σ, ρ, s, r, h => by
    rw [r.inv0]
    unfold SK.sets setsE
    exact s
  | j :: js, d :: ds, vs, σ, ρ, s, r, h => by
    obtain ⟨v, vr, e, r1, r2⟩ := r.inv
    rw [e]
    show SR st M H (SK.sets (σ.set j (some v)) js vr) (setsE (ρ.set j (some (.imm d))) js ds)
    exact SR.sets (s.set r1 (h j (List.mem_cons_self ..))) r2 fun k hk => by rw [List.length_set]; exact h k (List.mem_cons_of_mem _ hk)
theorem Tr.updD {st : Option Addr} {M H M1 H1 : Hp} {l : Addr} {o : HO} (T : Tr st M H M1 H1) (hl : H l = none) (hs : st ≠ some l) (hM : M1 l = none) : Tr st M H M1 (upd H1 l o) :=
  ⟨T.m, fun a u e q => by rw [upd_ne (ne_of_none e hl)]; exact T.h a u e q, T.n, T.w.ex.updR hM, fun a e => by
    obtain ⟨m, ds, vs, e1, r, q⟩ := T.w.sto a e
    have ne : a ≠ l := fun z => hs (z ▸ e)
    exact ⟨m, ds, vs, by rw [upd_ne ne]; exact e1, r, q⟩⟩
theorem ef_lc {wi : TI} {g : TG} {tt : TT} {vs js : List Nat} {φ ψ : List D → Prop} (I : List D → Nat → List D → Prop) (h : EvI wi ρ φ) (hj : ∀ j ∈ js, j ∈ vs ∧ j < ρ.length) (h0 : ∀ xs, φ xs → I xs 0 [])
    (hs : ∀ xs i d acc, φ xs → xs[i]? = some d → I xs i acc → ∃ ds, GW g d js ds ∧ EvT tt (setsE (wipeE ρ vs) js ds) fun b => if b = true then acc.length < 100000 ∧ EvW te (setsE (wipeE ρ vs) js ds) fun y => I xs (i + 1) (acc ++ [y]) else I xs (i + 1) acc)
    (hd : ∀ xs acc, φ xs → I xs xs.length acc → ψ acc) : EvF (tLc wi g tt te vs) ρ ψ := fun st σ M H s Q q =>
  h st σ M H s _ fun J M1 H1 xs T wk f => fun l hl => by
    have hl0 : H l = none := by
      cases e : H l with
      | none => rfl
      | some o => exact absurd hl (T.there (by rw [e]; intro z; cases z))
    have hst : st ≠ some l := fun z => by
      obtain ⟨_, _, _, e, _⟩ := T.w.sto l z
      rw [hl] at e
      cases e
    have hM1 : M1 l = none := T.w.ex.back hl
    refine ⟨fun i m H' => m = xs.length - i ∧ i ≤ xs.length ∧ ∃ M' acc us, Tr st M H M' H' ∧ Ex M1 M' ∧ H' l = some (.lst us) ∧ M' l = none ∧ Reps M' acc us ∧ I xs i acc, ⟨xs.length, rfl, Nat.zero_le _, M1, [], [], T.updD hl0 hst hM1, .refl _, upd_same, hM1, .nil, h0 xs f⟩, ?_⟩
    rintro i m H' ⟨rfl, hi, M', acc, us, T', e', hl', hm', r', iv⟩
    by_cases hlt : i < xs.length
    · refine Or.inr ⟨wk.go i M' H' e' T'.w hlt, fun H2 => ∃ M2 acc2 us2, Tr st M H M2 H2 ∧ Ex M1 M2 ∧ H2 l = some (.lst us2) ∧ M2 l = none ∧ Reps M2 acc2 us2 ∧ I xs (i + 1) acc2, fun H2 q => ⟨xs.length - (i + 1), by omega, rfl, hlt, q⟩, fun x H2 y => ?_⟩
      have hx : xs[i]? = some xs[i] := List.getElem?_eq_getElem hlt
      obtain ⟨M2, T2, r2⟩ := wk.yld i _ M' H' x H2 e' T'.w hx y
      obtain ⟨ds, hg, ht⟩ := hs xs i _ acc f hx iv
      have TT := T'.trans T2
      refine hg M2 H2 _ x TT.w.ex r2 _ fun ws rv => ⟨by rw [wipe_sets fun j m => (hj j m).1, wipe_wipe], ?_⟩
      have s2 := ((s.tr TT).wipe vs).sets rv fun j m => by rw [wipeE_length]; exact (hj j m).2
      have keepL : ∀ {M3 H3 M4 H4 : Hp}, Tr st M3 H3 M4 H4 → H3 l = some (.lst us) → M3 l = none → H4 l = some (.lst us) ∧ M4 l = none := fun {M3 H3 M4 H4} T3 a b => ⟨T3.h _ _ a hst, T3.n _ b (by rw [a]; intro z; cases z)⟩
      obtain ⟨a2, b2⟩ := keepL T2 hl' hm'
      refine ht st _ M2 H2 s2 _ fun b M3 H3 T3 fb => ?_
      obtain ⟨a3, b3⟩ := keepL T3 a2 b2
      cases b with
      | true =>
        rw [if_pos rfl] at fb ⊢
        obtain ⟨fl, fe⟩ := fb
        refine fe st _ M3 H3 (s2.tr T3) _ fun v y' M4 H4 T4 r4 f4 => ?_
        obtain ⟨a4, b4⟩ := keepL T4 a3 b3
        have ro : Reps M4 acc us := ((r'.mono T2.m).mono T3.m).mono T4.m
        exact ⟨us, a4, by rw [ro.len]; exact Nat.lt_of_lt_of_le fl (by decide), M4, acc ++ [y'], us ++ [v], (((TT.trans T3).trans T4).updD hl0 hst b4), ((e'.trans T2.m).trans T3.m).trans T4.m, upd_same, b4, ro.append (.cons r4 .nil), f4⟩
      | false =>
        rw [if_neg Bool.false_ne_true] at fb ⊢
        exact ⟨M3, acc, us, TT.trans T3, (e'.trans T2.m).trans T3.m, a3, b3, (r'.mono T2.m).mono T3.m, fb⟩
    · have e : i = xs.length := by omega
      subst e
      exact Or.inl ⟨wk.stop M' H' e' T'.w, q l us acc M' H' T' hl0 hl' hm' r' (hd xs acc f iv)⟩
theorem et_yes : EvB tYes ρ true := fun st σ M H s Q q => q true M H (.refl s.w) rfl
/-- [f x for x in xs] -/
theorem ef_map {wi : TI} {g : TG} {vs js : List Nat} {xs : List D} (f : D → D) (dsf : D → List D) (h : EvIV wi ρ xs) (hj : ∀ j ∈ js, j ∈ vs ∧ j < ρ.length) (hl : xs.length ≤ 100000)
    (hs : ∀ d, d ∈ xs → GW g d js (dsf d) ∧ EvV te (setsE (wipeE ρ vs) js (dsf d)) (f d)) : EvFV (tLc wi g tYes te vs) ρ (xs.map f) :=
  ef_lc (fun xs' i acc => i ≤ xs'.length ∧ acc = (xs'.take i).map f) h hj (fun xs' _ => ⟨Nat.zero_le _, by simp⟩) (fun xs' i d acc e hx iv => by
    subst e
    obtain ⟨iv0, iv⟩ := iv
    have hi : i < xs'.length := (List.getElem?_eq_some_iff.mp hx).1
    have hd : d ∈ xs' := List.mem_of_getElem? hx
    obtain ⟨a, b⟩ := hs d hd
    refine ⟨dsf d, a, EvT.imp et_yes fun b' eb => ?_⟩
    rw [if_pos eb]
    refine ⟨by rw [iv, List.length_map, List.length_take]; omega, EvV.w b ⟨hi, ?_⟩⟩
    rw [iv, List.take_add_one, hx, List.map_append]
    rfl) fun xs' acc e iv => by
    subst e
    rw [iv.2, List.take_length]
/-- [f x for x in xs if p x] -/
theorem ef_filter {wi : TI} {g : TG} {tt : TT} {vs js : List Nat} {xs : List D} (p : D → Bool) (f : D → D) (dsf : D → List D) (h : EvIV wi ρ xs) (hj : ∀ j ∈ js, j ∈ vs ∧ j < ρ.length) (hl : xs.length ≤ 100000)
    (hs : ∀ d, d ∈ xs → GW g d js (dsf d) ∧ EvB tt (setsE (wipeE ρ vs) js (dsf d)) (p d) ∧ (p d = true → EvV te (setsE (wipeE ρ vs) js (dsf d)) (f d))) : EvFV (tLc wi g tt te vs) ρ ((xs.filter p).map f) :=
  ef_lc (fun xs' i acc => i ≤ xs'.length ∧ acc = ((xs'.take i).filter p).map f) h hj (fun xs' _ => ⟨Nat.zero_le _, by simp⟩) (fun xs' i d acc e hx iv => by
    subst e
    obtain ⟨iv0, iv⟩ := iv
    have hi : i < xs'.length := (List.getElem?_eq_some_iff.mp hx).1
    have hd : d ∈ xs' := List.mem_of_getElem? hx
    obtain ⟨a, b, c⟩ := hs d hd
    have lacc : acc.length ≤ xs'.length := by
      rw [iv, List.length_map]
      exact Nat.le_trans (List.length_filter_le _ _) (by rw [List.length_take]; omega)
    have lacc2 : acc.length < 100000 := by
      have l1 : acc.length ≤ i := by
        rw [iv, List.length_map]
        exact Nat.le_trans (List.length_filter_le _ _) (by rw [List.length_take]; omega)
      omega
    refine ⟨dsf d, a, EvT.imp b fun b' eb => ?_⟩
    cases hp : p d with
    | true =>
      rw [eb, hp, if_pos rfl]
      refine ⟨lacc2, EvV.w (c hp) ⟨hi, ?_⟩⟩
      rw [iv, List.take_add_one, hx, List.filter_append, List.map_append]
      simp [hp]
    | false =>
      rw [eb, hp, if_neg Bool.false_ne_true]
      refine ⟨hi, ?_⟩
      rw [iv, List.take_add_one, hx, List.filter_append, List.map_append]
      simp [hp]) fun xs' acc e iv => by
    subst e
    rw [iv.2, List.take_length]
/-- [e for x in xs], e of one kind: what is known of each -/
theorem ef_all {wi : TI} {g : TG} {vs js : List Nat} {φ : List D → Prop} (R : D → Prop) (dsf : D → List D) (h : EvI wi ρ φ) (hj : ∀ j ∈ js, j ∈ vs ∧ j < ρ.length) (hl : ∀ xs, φ xs → xs.length ≤ 100000)
    (hs : ∀ xs d, φ xs → d ∈ xs → GW g d js (dsf d) ∧ EvW te (setsE (wipeE ρ vs) js (dsf d)) R) : EvF (tLc wi g tYes te vs) ρ fun ys => ∃ xs, φ xs ∧ ys.length = xs.length ∧ ∀ y ∈ ys, R y :=
  ef_lc (fun xs' i acc => i ≤ xs'.length ∧ acc.length = i ∧ ∀ y ∈ acc, R y) h hj (fun xs' _ => ⟨Nat.zero_le _, rfl, fun y m => by cases m⟩) (fun xs' i d acc e hx iv => by
    obtain ⟨iv0, iv1, iv2⟩ := iv
    have hi : i < xs'.length := (List.getElem?_eq_some_iff.mp hx).1
    obtain ⟨a, b⟩ := hs xs' d e (List.mem_of_getElem? hx)
    have := hl xs' e
    refine ⟨dsf d, a, EvT.imp et_yes fun b' eb => ?_⟩
    rw [if_pos eb]
    refine ⟨by omega, EvW.imp b fun y ry => ⟨hi, by rw [List.length_append, iv1]; rfl, fun z hz => ?_⟩⟩
    rcases List.mem_append.mp hz with m | m
    · exact iv2 z m
    · rw [List.mem_singleton.mp m]
      exact ry) fun xs' acc e iv => ⟨xs', e, iv.2.1, iv.2.2⟩
end
end SK

set_option Elab.async false
set_option linter.all false
set_option maxRecDepth 100000
set_option maxHeartbeats 4000000
namespace SK
open PySem PySem.Spec PyProof.Rows L2
abbrev DSp := List D → (D → Prop) → Prop
/-- a def of data alone; one that is handed the store; an __init__ -/
def pureSp (S : DSp) : Sp := fun vs H Q _ => ∃ M ds Φ, Ex M H ∧ Reps M ds vs ∧ S ds Φ ∧ ∀ v d M' H', Tr none M H M' H' → Rep M' d v → Φ d → Q v H'
def stoSp (S : DSp) : Sp := fun vs H Q _ => ∃ a vr M ds Φ, vs = .ref a :: vr ∧ W (some a) M H ∧ Reps M ds vr ∧ S ds Φ ∧ ∀ v d M' H', Tr (some a) M H M' H' → Rep M' d v → Φ d → Q v H'
def initSp (C : Addr) (k0 : List Str) (S : DSp) : Sp := fun vs H Q _ => ∃ x dx vr ws es M ds Φ, vs = .ref x :: vr ∧ Ex M H ∧ M x = none ∧ H x = some (.ins C dx (k0.zip ws)) ∧ Reps M es ws ∧ k0.length = es.length ∧ Reps M ds vr ∧ S (es ++ ds) Φ ∧
  ∀ ks fs us dy M' H', Ex M M' → Ex M' H' → (∀ a o, H a = some o → a ≠ x → H' a = some o) → (∀ a, M a = none → H a ≠ none → a ≠ x → M' a = none) → M' x = none → H' x = some (.ins C dy (ks.zip us)) → Reps M' fs us → ks.length = fs.length → Φ (.obj C ks fs) → Q .non H'
structure FnP (P : Program) (w : World) (K : PySem.W.Frag) (mg : Str → Option Value) (base : Heap) (k : Nat) (f : Addr) (ps : List Str) (sp : Sp) : Prop where
  ex : ∃ fd, FnOk P w K mg base CX0 k f fd ps sp ∧ Binds K fd ps []
  kp : PySem.W.keepIn K (.ref f) = true
def startE (N : List Str) (ds : List D) : Env := ds.map (fun d => some (.imm d)) ++ List.replicate (N.length - ds.length) none
def startS (N : List Str) (ds : List D) : Env := some .sto :: (ds.map (fun d => some (.imm d)) ++ List.replicate (N.length - (ds.length + 1)) none)
def startI (N : List Str) (C : Addr) (k0 : List Str) (es ds : List D) : Env := some (.slf C k0 es) :: (ds.map (fun d => some (.imm d)) ++ List.replicate (N.length - (ds.length + 1)) none)
theorem env_tail {st : Option Addr} {M H : Hp} {ds : List D} {vs : List V} {n : Nat} (r : Reps M ds vs) : (ds.map (fun d => some (SV.imm d)) ++ List.replicate n none).length = (vs.map some ++ List.replicate n none).length ∧
    ∀ (i : Nat) x, (ds.map (fun d => some (SV.imm d)) ++ List.replicate n none)[i]? = some (some x) → ∃ d v, x = .imm d ∧ (vs.map some ++ List.replicate n none)[i]? = some (some v) ∧ Rep M d v := by
  refine ⟨by rw [List.length_append, List.length_append, List.length_map, List.length_map, r.len, List.length_replicate, List.length_replicate], fun i x e => ?_⟩
  by_cases hi : i < ds.length
  · rw [List.getElem?_append_left (by rw [List.length_map]; exact hi), List.getElem?_map, List.getElem?_eq_getElem hi] at e
    have e2 : (some (SV.imm ds[i]) : Option SV) = some x := Option.some.inj e
    cases e2
    obtain ⟨v, h1, h2⟩ := r.get (List.getElem?_eq_getElem hi)
    refine ⟨_, v, rfl, ?_, h2⟩
    rw [List.getElem?_append_left (by rw [List.length_map, r.len]; exact hi), List.getElem?_map, h1]
    rfl
  · rw [List.getElem?_append_right (by rw [List.length_map]; omega), List.getElem?_replicate] at e
    split at e <;> cases e
theorem mut_imm {d : D} : ¬ (SV.imm d).mut := fun h => h
section
variable {P : Program} {w : World} {K : PySem.W.Frag} {mg : Str → Option Value} {base : Heap}
theorem fn_pure {x qual : Str} {st : Stmt} {f : Addr} {N ps : List Str} {k : Nat} {S : DSp} (F : ∃ fd, Fun K x qual st f fd ∧ Binds K fd ps []) (Sc : FnScope N ps (defScope st)) (len : ∀ ds Φ, S ds Φ → ds.length = ps.length)
    (body : ∀ (cdv : Value) (A : Around) (outer : List PySem.Env) (s : Shared) (H : Hp) (E : XK), Room k (A.deeper (envOfC qual (defScope st) s.heap.objs.size f cdv)) → ∀ ds Φ, S ds Φ →
      ∃ t, PSs (cxOf CX0 P w K mg base N qual (defScope st) f cdv A outer s H E).nox (defBody st) t ∧ SW t (startE N ds) ⟨fun _ => Φ .non, Φ, fun _ => False, fun _ => False, fun _ _ => True, fun _ => False⟩) : FnP P w K mg base (k + 1) f ps (pureSp S) := by
  obtain ⟨fd, F, b⟩ := F
  refine ⟨⟨fd, F.ok Sc (fun vs H Q E h => ?_) (fun cdv A outer s H vs Q E hr h => ?_), b⟩, F.kp⟩
  · obtain ⟨M, ds, Φ, _, r, sp, _⟩ := h
    rw [r.len]
    exact len ds Φ sp
  · obtain ⟨M, ds, Φ, ex, r, sp, k⟩ := h
    obtain ⟨t, ht, hw⟩ := body cdv A outer s H E hr ds Φ sp
    refine ⟨t, ht, ?_⟩
    have W0 : W none M H := ⟨ex, (fun _ z => nomatch z)⟩
    obtain ⟨e1, e2⟩ := env_tail (st := none) (H := H) (n := N.length - ds.length) r
    have eσ : L2.start N vs = vs.map some ++ List.replicate (N.length - ds.length) none := by
      unfold L2.start
      rw [r.len]
    have nm : ∀ (i : Nat) x, (startE N ds)[i]? = some (some x) → ¬ x.mut := fun i x e m => by
      obtain ⟨d, v, q, _⟩ := e2 i x e
      rw [q] at m
      exact m
    have s0 : SB none (fun _ => False) M H M H (L2.start N vs) (startE N ds) := by
      refine ⟨⟨W0, by rw [eσ]; exact e1, fun i x e => ?_, fun i j x y v ne a b m => absurd m (nm i x a)⟩, .refl _, fun _ _ h _ => h, fun _ h _ _ => h, fun i x l a m => absurd m (nm i x a), (fun _ z => nomatch z), fun _ z => z.elim⟩
      obtain ⟨d, v, q1, q2, q3⟩ := e2 i x e
      rw [q1, eσ]
      exact ⟨v, q2, q3⟩
    have fin : ∀ {M' H' : Hp}, EB none (fun _ => False) M H M' H' → Tr none M H M' H' := fun {M' H'} e => ⟨e.m, fun a o q _ => e.h a o q fun z => z, fun a q n => e.n a q n fun z => z, e.w⟩
    exact hw none _ M H M H _ _ s0 ⟨fun σ M' H' ρ s q => k .non .non M' H' (fin s.eb) rep_non q, fun v d σ M' H' ρ e r q _ => k v d M' H' (fin e.eb) r q, fun _ _ _ _ _ z => z.elim, fun _ _ _ _ _ z => z.elim, fun _ _ _ _ _ _ _ _ _ _ _ _ z => z.elim⟩
theorem fn_sto {x qual : Str} {st : Stmt} {f : Addr} {N ps : List Str} {k : Nat} {S : DSp} (F : ∃ fd, Fun K x qual st f fd ∧ Binds K fd ps []) (Sc : FnScope N ps (defScope st)) (len : ∀ ds Φ, S ds Φ → ds.length + 1 = ps.length)
    (body : ∀ (cdv : Value) (A : Around) (outer : List PySem.Env) (s : Shared) (H : Hp) (E : XK), Room k (A.deeper (envOfC qual (defScope st) s.heap.objs.size f cdv)) → ∀ ds Φ, S ds Φ →
      ∃ t, PSs (cxOf CX0 P w K mg base N qual (defScope st) f cdv A outer s H E).nox (defBody st) t ∧ SW t (startS N ds) ⟨fun _ => Φ .non, Φ, fun _ => False, fun _ => False, fun _ _ => True, fun _ => False⟩) : FnP P w K mg base (k + 1) f ps (stoSp S) := by
  obtain ⟨fd, F, b⟩ := F
  refine ⟨⟨fd, F.ok Sc (fun vs H Q E h => ?_) (fun cdv A outer s H vs Q E hr h => ?_), b⟩, F.kp⟩
  · obtain ⟨a, vr, M, ds, Φ, e, _, r, sp, _⟩ := h
    rw [e, List.length_cons, r.len]
    exact len ds Φ sp
  · obtain ⟨a, vr, M, ds, Φ, e, W0, r, sp, k⟩ := h
    subst e
    obtain ⟨t, ht, hw⟩ := body cdv A outer s H E hr ds Φ sp
    refine ⟨t, ht, ?_⟩
    obtain ⟨e1, e2⟩ := env_tail (st := none) (H := H) (n := N.length - (ds.length + 1)) r
    have eσ : L2.start N (.ref a :: vr) = some (.ref a) :: (vr.map some ++ List.replicate (N.length - (ds.length + 1)) none) := by
      unfold L2.start
      rw [List.length_cons, r.len]
      rfl
    have nm : ∀ (i : Nat) x, (startS N ds)[i]? = some (some x) → ¬ x.mut := fun i x e m => by
      cases i with
      | zero =>
        cases (Option.some.inj (Option.some.inj e))
        exact m
      | succ i =>
        obtain ⟨d, v, q, _⟩ := e2 i x e
        rw [q] at m
        exact m
    have s0 : SB (some a) (fun b => b = a) M H M H (L2.start N (.ref a :: vr)) (startS N ds) := by
      refine ⟨⟨W0, by rw [eσ]; exact congrArg (· + 1) e1, fun i x e => ?_, fun i j x y v ne a b m => absurd m (nm i x a)⟩, .refl _, fun _ _ h _ => h, fun _ h _ _ => h, fun i x l a m => absurd m (nm i x a), fun b z => (Option.some.inj z).symm, fun b z => ?_⟩
      · rw [eσ]
        cases i with
        | zero =>
          cases (Option.some.inj (Option.some.inj e))
          exact ⟨.ref a, rfl, a, rfl, rfl⟩
        | succ i =>
          obtain ⟨d, v, q1, q2, q3⟩ := e2 i x e
          rw [q1]
          exact ⟨v, q2, q3⟩
      · obtain ⟨_, _, _, q, _⟩ := W0.sto a rfl
        have z : b = a := z
        rw [z, q]
        intro y
        cases y
    have fin : ∀ {M' H' : Hp}, EB (some a) (fun b => b = a) M H M' H' → Tr (some a) M H M' H' := fun {M' H'} e => by
      refine ⟨e.m, fun b o q n => e.h b o q fun z => n (congrArg some z.symm), fun b q n => ?_, e.w⟩
      by_cases z : b = a
      · exact (e.w.sto b (congrArg some z.symm)).1
      · exact e.n b q n z
    exact hw (some a) _ M H M H _ _ s0 ⟨fun σ M' H' ρ s q => k .non .non M' H' (fin s.eb) rep_non q, fun v d σ M' H' ρ e r q _ => k v d M' H' (fin e.eb) r q, fun _ _ _ _ _ z => z.elim, fun _ _ _ _ _ z => z.elim, fun _ _ _ _ _ _ _ _ _ _ _ _ z => z.elim⟩
def startK (N : List Str) (sd ds : List D) : Env := some (.sow sd) :: (ds.map (fun d => some (.imm d)) ++ List.replicate (N.length - (ds.length + 1)) none)
/-- a def that is handed the store, its content known -/
theorem fn_stoK {x qual : Str} {st : Stmt} {f : Addr} {N ps : List Str} {k : Nat} {S : DSp} (F : ∃ fd, Fun K x qual st f fd ∧ Binds K fd ps []) (Sc : FnScope N ps (defScope st)) (len : ∀ ds Φ, S ds Φ → ds.length + 1 = ps.length)
    (body : ∀ (cdv : Value) (A : Around) (outer : List PySem.Env) (s : Shared) (H : Hp) (E : XK), Room k (A.deeper (envOfC qual (defScope st) s.heap.objs.size f cdv)) → ∀ sd ds Φ, StoreD sd → S ds Φ →
      ∃ t, PSs (cxOf CX0 P w K mg base N qual (defScope st) f cdv A outer s H E).nox (defBody st) t ∧ SW t (startK N sd ds) ⟨fun _ => False, Φ, fun _ => False, fun _ => False, fun _ ρ => ∃ sd', ρ[0]? = some (some (.sow sd')) ∧ StoreD sd', fun _ => False⟩) : FnP P w K mg base (k + 1) f ps (stoSp S) := by
  obtain ⟨fd, F, b⟩ := F
  refine ⟨⟨fd, F.ok Sc (fun vs H Q E h => ?_) (fun cdv A outer s H vs Q E hr h => ?_), b⟩, F.kp⟩
  · obtain ⟨a, vr, M, ds, Φ, e, _, r, sp, _⟩ := h
    rw [e, List.length_cons, r.len]
    exact len ds Φ sp
  · obtain ⟨a, vr, M, ds, Φ, e, W0, r, sp, k⟩ := h
    subst e
    obtain ⟨ma, sd, vs0, ha, rs0, so⟩ := W0.sto a rfl
    obtain ⟨t, ht, hw⟩ := body cdv A outer s H E hr sd ds Φ so sp
    refine ⟨t, ht, ?_⟩
    obtain ⟨e1, e2⟩ := env_tail (st := none) (H := H) (n := N.length - (ds.length + 1)) r
    have eσ : L2.start N (.ref a :: vr) = some (.ref a) :: (vr.map some ++ List.replicate (N.length - (ds.length + 1)) none) := by
      unfold L2.start
      rw [List.length_cons, r.len]
      rfl
    have nm : ∀ (i : Nat) y, (startK N sd ds)[i]? = some (some y) → y.mut → i = 0 := fun i y e m => by
      cases i with
      | zero => rfl
      | succ i =>
        obtain ⟨d, v, q, _⟩ := e2 i y e
        rw [q] at m
        exact m.elim
    have s0 : SB none (fun b => b = a) M H M H (L2.start N (.ref a :: vr)) (startK N sd ds) := by
      refine ⟨⟨⟨W0.ex, (fun _ z => nomatch z)⟩, by rw [eσ]; exact congrArg (· + 1) e1, fun i y e => ?_, fun i j y z v ne a b m1 m2 => absurd ((nm i y a m1).trans (nm j z b m2).symm) ne⟩, .refl _, fun _ _ h _ => h, fun _ h _ _ => h, fun i y l q m e => ?_, (fun b z => nomatch z), fun b z => ?_⟩
      · rw [eσ]
        cases i with
        | zero =>
          cases (Option.some.inj (Option.some.inj e))
          exact ⟨.ref a, rfl, a, vs0, rfl, (fun z => nomatch z), ha, ma, rs0⟩
        | succ i =>
          obtain ⟨d, v, q1, q2, q3⟩ := e2 i y e
          rw [q1]
          exact ⟨v, q2, q3⟩
      · have z := nm i y q m
        subst z
        rw [eσ] at e
        cases (Option.some.inj (Option.some.inj e))
        cases (Option.some.inj (Option.some.inj q))
        exact Or.inr ⟨rfl, rfl⟩
      · have z : b = a := z
        rw [z, ha]
        intro y
        cases y
    refine hw none _ M H M H _ _ s0 ⟨fun _ _ _ _ _ z => z.elim, fun v d σ M' H' ρ s r' q ⟨sd', q1, q2⟩ => ?_, fun _ _ _ _ _ z => z.elim, fun _ _ _ _ _ z => z.elim, fun _ _ _ _ _ _ _ _ _ _ _ _ z => z.elim⟩
    obtain ⟨u, a1, l, us, a2, _, a3, a4, a5⟩ := s.sr.sl 0 _ q1
    have el : l = a := by
      rcases s.f 0 _ l q1 trivial (by rw [a1, a2]) with ⟨b, _⟩ | ⟨_, b⟩
      · cases b
      · exact b
    subst el
    refine k v d M' H' ⟨s.m, fun b o e n => s.h b o e fun z => n (congrArg some z.symm), fun b e n => ?_, s.sr.w.ex, fun b e => ?_⟩ r' q
    · by_cases z : b = l
      · rw [z]; exact a4
      · exact s.n b e n z
    · cases e
      exact ⟨a4, sd', us, a3, a5, q2⟩
/-- an __init__: es what self bears already -/
theorem fn_init0 {x qual : Str} {st : Stmt} {f C : Addr} {fd : FuncData} {k0 : List Str} {N ps : List Str} {k : Nat} {S : DSp} (F : Fun K x qual st f fd) (Sc : FnScope N ps (defScope st)) (len : ∀ es ds Φ, k0.length = es.length → S (es ++ ds) Φ → ds.length + 1 = ps.length)
    (body : ∀ (cdv : Value) (A : Around) (outer : List PySem.Env) (s : Shared) (H : Hp) (E : XK), Room k (A.deeper (envOfC qual (defScope st) s.heap.objs.size f cdv)) → ∀ es ds Φ, k0.length = es.length → S (es ++ ds) Φ →
      ∃ t, PSs (cxOf CX0 P w K mg base N qual (defScope st) f cdv A outer s H E).nox (defBody st) t ∧ SW t (startI N C k0 es ds) ⟨fun ρ => ∃ ks fs, ρ[0]? = some (some (.slf C ks fs)) ∧ Φ (.obj C ks fs), fun _ => False, fun _ => False, fun _ => False, fun _ _ => True, fun _ => False⟩) : FnOk P w K mg base CX0 (k + 1) f fd ps (initSp C k0 S) := by
  refine F.ok Sc (fun vs H Q E h => ?_) (fun cdv A outer s H vs Q E hr h => ?_)
  · obtain ⟨x, dx, vr, ws, es, M, ds, Φ, e, _, _, _, _, l0, r, sp, _⟩ := h
    rw [e, List.length_cons, r.len]
    exact len es ds Φ l0 sp
  · obtain ⟨x, dx, vr, ws, es, M, ds, Φ, e, ex, mx, hx, r0, l0, r, sp, k⟩ := h
    subst e
    obtain ⟨t, ht, hw⟩ := body cdv A outer s H E hr es ds Φ l0 sp
    refine ⟨t, ht, ?_⟩
    have W0 : W none M H := ⟨ex, (fun _ z => nomatch z)⟩
    obtain ⟨e1, e2⟩ := env_tail (st := none) (H := H) (n := N.length - (ds.length + 1)) r
    have eσ : L2.start N (.ref x :: vr) = some (.ref x) :: (vr.map some ++ List.replicate (N.length - (ds.length + 1)) none) := by
      unfold L2.start
      rw [List.length_cons, r.len]
      rfl
    have nm : ∀ (i : Nat) y, (startI N C k0 es ds)[i]? = some (some y) → y.mut → i = 0 := fun i y e m => by
      cases i with
      | zero => rfl
      | succ i =>
        obtain ⟨d, v, q, _⟩ := e2 i y e
        rw [q] at m
        exact m.elim
    have s0 : SB none (fun b => b = x) M H M H (L2.start N (.ref x :: vr)) (startI N C k0 es ds) := by
      refine ⟨⟨W0, by rw [eσ]; exact congrArg (· + 1) e1, fun i y e => ?_, fun i j y z v ne a b m1 m2 => absurd ((nm i y a m1).trans (nm j z b m2).symm) ne⟩, .refl _, fun _ _ h _ => h, fun _ h _ _ => h, fun i y l a m q => ?_, (fun b z => nomatch z), fun b z => ?_⟩
      · rw [eσ]
        cases i with
        | zero =>
          cases (Option.some.inj (Option.some.inj e))
          exact ⟨.ref x, rfl, x, dx, ws, rfl, (fun z => nomatch z), hx, mx, r0, l0⟩
        | succ i =>
          obtain ⟨d, v, q1, q2, q3⟩ := e2 i y e
          rw [q1]
          exact ⟨v, q2, q3⟩
      · have z := nm i y a m
        subst z
        rw [eσ] at q
        cases (Option.some.inj (Option.some.inj q))
        cases (Option.some.inj (Option.some.inj a))
        exact Or.inr ⟨rfl, rfl⟩
      · have z : b = x := z
        rw [z, hx]
        intro y
        cases y
    refine hw none _ M H M H _ _ s0 ⟨fun σ M' H' ρ s ⟨ks, fs, q1, q2⟩ => ?_, fun _ _ _ _ _ _ _ _ z _ => z.elim, fun _ _ _ _ _ z => z.elim, fun _ _ _ _ _ z => z.elim, fun _ _ _ _ _ _ _ _ _ _ _ _ z => z.elim⟩
    obtain ⟨v, a1, l, dy, us, a2, _, a3, a4, a5, a6⟩ := s.sr.sl 0 _ q1
    have el : l = x := by
      rcases s.f 0 _ l q1 trivial (by rw [a1, a2]) with ⟨b, _⟩ | ⟨_, b⟩
      · cases b
      · exact b
    subst el
    exact k ks fs us dy M' H' s.m s.sr.w.ex (fun a o q n => s.h a o q n) (fun a q n ne => s.n a q n ne) a4 a3 a5 a6 q2
theorem fn_init {x qual : Str} {st : Stmt} {f C : Addr} {k0 : List Str} {N ps : List Str} {k : Nat} {S : DSp} (F : ∃ fd, Fun K x qual st f fd ∧ Binds K fd ps []) (Sc : FnScope N ps (defScope st)) (len : ∀ es ds Φ, k0.length = es.length → S (es ++ ds) Φ → ds.length + 1 = ps.length)
    (body : ∀ (cdv : Value) (A : Around) (outer : List PySem.Env) (s : Shared) (H : Hp) (E : XK), Room k (A.deeper (envOfC qual (defScope st) s.heap.objs.size f cdv)) → ∀ es ds Φ, k0.length = es.length → S (es ++ ds) Φ →
      ∃ t, PSs (cxOf CX0 P w K mg base N qual (defScope st) f cdv A outer s H E).nox (defBody st) t ∧ SW t (startI N C k0 es ds) ⟨fun ρ => ∃ ks fs, ρ[0]? = some (some (.slf C ks fs)) ∧ Φ (.obj C ks fs), fun _ => False, fun _ => False, fun _ => False, fun _ _ => True, fun _ => False⟩) : FnP P w K mg base (k + 1) f ps (initSp C k0 S) := by
  obtain ⟨fd, F, b⟩ := F
  exact ⟨⟨fd, fn_init0 F Sc len body, b⟩, F.kp⟩
end

/-! ### calls -/
section
variable {X : Cx} {k : Nat} {f C : Addr} {ps : List Str} {sp : Sp} {x m : Str} {p pos apos : Pos} {e o : Expr} {es : List Expr} {ta : TE} {t : TA}
abbrev XFn (X : Cx) (k : Nat) (f : Addr) (ps : List Str) (sp : Sp) : Prop := FnP X.prog X.w X.K X.mg X.base k f ps sp
theorem pe_cl (F : XFn X k f ps sp) (hr : Room k X.A) (hm : X.mg x = some (.ref f)) (ha : PA X (e :: es) t) (hg : Gl X x := by rfl) (hdb : (x == ("__debug__" : Str)) = false := by decide) (he : starEach (e :: es) X.env = (false, eval e X.env) :: starEach es X.env := by rfl)
    (hpl : (backTo pos (starEach es X.env)).any (·.1) = false := by rfl) : PE X (.Call (.Name x p) (e :: es) [] pos) (tCall sp [] E0 t) := by
  obtain ⟨fd, F1, b⟩ := F.ex
  exact pe_call F1 hr hg hm F.kp b .nil pass0 ha hdb he hpl
theorem pe_me {pl : Sem Bool} (he : PE X o ta) (c : Cls X.K C) (hm : Meth X.K C m f) (F : XFn X k f ps sp) (hr : Room k X.A) (ha : PA X (e :: es) t)
    (hst : starEach (e :: es) X.env = (false, eval e X.env) :: starEach es X.env := by rfl) (hpl : (backTo pos (starEach es X.env)).any (·.1) = false := by rfl)
    (ht : eval (.Call (.Attribute o m apos) (e :: es) [] pos) X.env = (do
      let ov ← eval o X.env
      standAt apos.atName
      let (f, first) ← holding [ov] (getMethod ov m pl)
      callWith pos f first (backTo pos (starEach (e :: es) X.env)) (backToKw pos (keywordEach [] X.env))) := by rfl) : PE X (.Call (.Attribute o m apos) (e :: es) [] pos) (tMeth C m sp [] E0 ta t) := by
  obtain ⟨fd, F1, b⟩ := F.ex
  exact pe_meth he c hm F1 hr b .nil pass0 ha hst hpl ht
theorem pe_me0 {pl : Sem Bool} (he : PE X o ta) (c : Cls X.K C) (hm : Meth X.K C m f) (F : XFn X k f ps sp) (hr : Room k X.A)
    (ht : eval (.Call (.Attribute o m apos) [] [] pos) X.env = (do
      let ov ← eval o X.env
      standAt apos.atName
      let (f, first) ← holding [ov] (getMethod ov m pl)
      callWith pos f first (backTo pos (starEach [] X.env)) (backToKw pos (keywordEach [] X.env))) := by rfl) : PE X (.Call (.Attribute o m apos) [] [] pos) (tMeth C m sp [] E0 ta tNil) := by
  obtain ⟨fd, F1, b⟩ := F.ex
  exact pe_meth0 he c hm F1 hr b .nil pass0 ht
theorem pe_mk (M : Mk X.K C f) (F : XFn X k f ps sp) (hr : Room (k + 1) X.A) (hm : X.mg x = some (.ref C)) (ha : PA X (e :: es) t) (hg : Gl X x := by rfl) (hdb : (x == ("__debug__" : Str)) = false := by decide) (he : starEach (e :: es) X.env = (false, eval e X.env) :: starEach es X.env := by rfl)
    (hpl : (backTo pos (starEach es X.env)).any (·.1) = false := by rfl) : PE X (.Call (.Name x p) (e :: es) [] pos) (tMake C sp [] E0 t) := by
  obtain ⟨fd, F1, b⟩ := F.ex
  exact pe_make M F1 hr hg hm b .nil pass0 ha hdb he hpl
theorem pe_pr {g : Addr} {q : Addr} (he : PE X e ta) (c : Cls X.K C) (hp : PropOf X.K C m q g) (F : XFn X k g ps sp) (hr : Room (k + 1) X.A) (hab : attributeBase e m X.env (eval e X.env) = eval e X.env := by rfl) : PE X (.Attribute e m pos) (tProp C sp [] E0 ta) := by
  obtain ⟨fd, F1, b⟩ := F.ex
  exact pe_prop he c hp F1 hr b .nil pass0 hab
end
section
variable {ρ : Env} {ta tb tc te : TE} {d x y z : D} {Φ Ψ : D → Prop} {t u : TS} {K : PySem.W.Frag} {P : Post} {S : DSp} {ar : TA} {C : Addr} {ks : List Str} {ds fs : List D} {m : Str}
theorem ew_call (h : EvAV ar ρ ds) (s : S ds Φ) : EvW (tCall (pureSp S) [] E0 ar) ρ Φ := fun st σ M H sr Q q =>
  h st σ M H sr _ fun vs es M1 H1 T r e => by
    subst e
    rw [List.append_nil]
    exact ⟨M1, es, Φ, T.w.ex, r, s, fun v d M' H' T' r' f => q v d M' H' (T.trans (T'.of_none T.w)) r' f⟩
/-- the arguments known by a word -/
theorem ew_callW {φ : List D → Prop} (h : EvA ar ρ φ) (s : ∀ ds, φ ds → S ds Φ) : EvW (tCall (pureSp S) [] E0 ar) ρ Φ := fun st σ M H sr Q q =>
  h st σ M H sr _ fun vs es M1 H1 T r e => by
    rw [List.append_nil]
    exact ⟨M1, es, Φ, T.w.ex, r, s es e, fun v d M' H' T' r' f => q v d M' H' (T.trans (T'.of_none T.w)) r' f⟩
theorem ev_call (h : EvAV ar ρ ds) (s : S ds fun z => z = d) : EvV (tCall (pureSp S) [] E0 ar) ρ d := ew_call h s
theorem ew_callS {i : Nat} {φ : List D → Prop} (hi : ρ[i]? = some (some .sto)) (h : EvA ar ρ φ) (s : ∀ ds, φ ds → S ds Φ) : EvW (tCall (stoSp S) [] E0 (tCons (tVar i) ar)) ρ Φ := fun st σ M H sr Q q => by
  obtain ⟨v, e, a, e1, e2⟩ := sr.sl i _ hi
  subst e1 e2
  refine ⟨.ref a, e, ?_⟩
  refine h (some a) σ M H sr _ fun vs es M1 H1 T r f => ?_
  show stoSp S ((V.ref a :: vs) ++ []) H1 Q E0
  rw [List.append_nil]
  exact ⟨a, vs, M1, es, Φ, rfl, T.w, r, s es f, fun v d M' H' T' r' f => q v d M' H' (T.trans T') r' f⟩
theorem ew_callSV {i : Nat} (hi : ρ[i]? = some (some .sto)) (h : EvAV ar ρ ds) (s : S ds Φ) : EvW (tCall (stoSp S) [] E0 (tCons (tVar i) ar)) ρ Φ := ew_callS hi h fun _ e => by rw [e]; exact s

/-! ### attributes -/
structure ClsD (K : PySem.W.Frag) (C : Addr) (ks : List Str) : Prop where
  c : Cls K C
  at_ : ∀ f ∈ ks, NoAttr K C f
  nd : ks.Nodup
theorem zip_look {M : Hp} : ∀ {ks : List Str} {ds : List D} {vs : List V} {i : Nat} {f : Str} {d : D}, ks.Nodup → Reps M ds vs → ks[i]? = some f → ds[i]? = some d → ∃ v, (ks.zip vs).lookup f = some v ∧ Rep M d v
  | [], _, _, i, f, d, _, _, e, _ => by simp at e
  | k :: ks, [], _, i, f, d, _, _, _, e => by simp at e
  | k :: ks, x :: ds, vs, 0, f, d, nd, r, e1, e2 => by
    obtain ⟨v, vr, e, r1, r2⟩ := r.inv
    have a : k = f := by simpa using e1
    have b : x = d := by simpa using e2
    subst a b
    rw [e]
    refine ⟨v, ?_, r1⟩
    show List.lookup k ((k, v) :: ks.zip vr) = some v
    rw [List.lookup_cons_self]
  | k :: ks, x :: ds, vs, i + 1, f, d, nd, r, e1, e2 => by
    obtain ⟨v, vr, e, r1, r2⟩ := r.inv
    obtain ⟨n1, n2⟩ := List.nodup_cons.mp nd
    have e1' : ks[i]? = some f := by simpa using e1
    obtain ⟨u, h1, h2⟩ := zip_look (i := i) n2 r2 e1' (by simpa using e2)
    have ne : (f == k) = false := by
      refine beq_eq_false_iff_ne.mpr fun q => n1 ?_
      rw [← q]
      exact List.mem_of_getElem? e1'
    rw [e]
    refine ⟨u, ?_, h2⟩
    show List.lookup f ((k, v) :: ks.zip vr) = some u
    rw [List.lookup_cons, ne]
    exact h1
theorem ev_fld (i : Nat) (c : ClsD K C ks) (h : EvV te ρ (.obj C ks ds)) (hk : ks[i]? = some m) (hd : ds[i]? = some d) : EvV (tFld K te m) ρ d := fun st σ M H s Q q =>
  h st σ M H s _ fun v x M1 H1 T r e => by
    subst e
    obtain ⟨a, dx, vs, e1, e2, r2, l⟩ := r.obj_
    obtain ⟨u, h1, h2⟩ := zip_look c.nd r2 hk hd
    exact ⟨a, C, dx, _, u, e1, T.w.ex _ _ e2, c.c, c.at_ m (List.mem_of_getElem? hk), h1, q u d M1 H1 T h2 rfl⟩
/-- self.f within __init__ -/
theorem ev_fldS {j : Nat} (i : Nat) (c : ClsD K C ks) {k0 : List Str} (hk0 : k0.Nodup) (hj : ρ[j]? = some (some (.slf C k0 ds))) (hk : k0[i]? = some m) (hm : m ∈ ks) (hd : ds[i]? = some d) : EvV (tFld K (tVar j) m) ρ d := fun st σ M H s Q q => by
  obtain ⟨v, e, l, dx, vs, e1, e2, e3, e4, r, lz⟩ := s.sl j _ hj
  obtain ⟨u, h1, h2⟩ := zip_look hk0 r hk hd
  exact ⟨v, e, l, C, dx, _, u, e1, e3, c.c, c.at_ m hm, h1, q u d M H (.refl s.w) h2 rfl⟩
theorem zip_put {m : Str} {v : V} : ∀ {ks : List Str} {vs : List V}, m ∉ ks → ks.length = vs.length → putF m v (ks.zip vs) = (ks ++ [m]).zip (vs ++ [v])
  | [], [], _, _ => rfl
  | [], _ :: _, _, h => by cases h
  | _ :: _, [], _, h => by cases h
  | k :: ks, u :: vs, h, l => by
    have ne : ¬ k = m := fun z => h (z ▸ List.mem_cons_self ..)
    have ih := zip_put (m := m) (v := v) (ks := ks) (vs := vs) (fun z => h (List.mem_cons_of_mem _ z)) (Nat.succ.inj l)
    show putF m v ((k, u) :: ks.zip vs) = (k, u) :: (ks ++ [m]).zip (vs ++ [v])
    rw [← ih]
    show (if k = m then (k, v) :: ks.zip vs else (k, u) :: putF m v (ks.zip vs)) = _
    rw [if_neg ne]
/-- self.f = e within __init__ -/
theorem sq_fldW {j : Nat} {k0 : List Str} {es : List D} (c : ClsD K C ks) (hm : m ∈ ks) (hn : m ∉ k0) (hl : k0.length ≤ 100) (h : EvW te ρ Φ) (hj : ρ[j]? = some (some (.slf C k0 es))) (k : ∀ d, Φ d → SW u (ρ.set j (some (.slf C (k0 ++ [m]) (es ++ [d])))) P) :
    SW (tSeq (sFld K (tVar j) te m) u) ρ P := fun st B M0 H0 M H σ E s p => by
  refine h st σ M H s.sr _ fun v d M1 H1 T r f => ?_
  have s1 := s.tr T
  obtain ⟨w, e, l, dx, vs, e1, e2, e3, e4, rs, lz⟩ := s1.sr.sl j _ hj
  subst e1
  have lk : k0.length = vs.length := by rw [lz, rs.len]
  refine ⟨_, e, l, C, dx, _, rfl, e3, c.c, c.at_ m hm, ?_, ?_⟩
  · have := List.length_zip (l₁ := k0) (l₂ := vs)
    omega
  · rw [zip_put hn lk]
    exact k d f st B M0 H0 M1 _ σ E (s1.chg (x' := .slf C (k0 ++ [m]) (es ++ [d])) hj trivial e e3 e2 e4 rfl ⟨l, dx, vs ++ [v], rfl, e2, upd_same, e4, rs.append (.cons r .nil), by rw [List.length_append, List.length_append, lz]; rfl⟩ trivial) p
theorem sq_fld {j : Nat} {k0 : List Str} {es : List D} (c : ClsD K C ks) (hm : m ∈ ks) (hn : m ∉ k0) (hl : k0.length ≤ 100) (h : EvV te ρ d) (hj : ρ[j]? = some (some (.slf C k0 es))) (k : SW u (ρ.set j (some (.slf C (k0 ++ [m]) (es ++ [d])))) P) :
    SW (tSeq (sFld K (tVar j) te m) u) ρ P := sq_fldW c hm hn hl h hj fun x e => by rw [e]; exact k
theorem lookup_zip_none {m : Str} : ∀ {ks : List Str} {vs : List V}, m ∉ ks → (ks.zip vs).lookup m = none
  | [], _, _ => rfl
  | _ :: _, [], _ => rfl
  | k :: ks, v :: vs, h => by
    have ne : (m == k) = false := beq_eq_false_iff_ne.mpr fun q => h (q ▸ List.mem_cons_self ..)
    show List.lookup m ((k, v) :: ks.zip vs) = none
    rw [List.lookup_cons, ne]
    exact lookup_zip_none fun z => h (List.mem_cons_of_mem _ z)
/-- o.m(..) -/
theorem ew_meth (ho : EvV ta ρ (.obj C ks fs)) (hm : m ∉ ks) (h : EvAV ar ρ ds) (s : S (.obj C ks fs :: ds) Φ) : EvW (tMeth C m (pureSp S) [] E0 ta ar) ρ Φ := fun st σ M H sr Q q =>
  ho st σ M H sr _ fun v x M1 H1 T1 r1 e => by
    subst e
    obtain ⟨a, dx, vs, e1, e2, r2, l⟩ := r1.obj_
    refine ⟨a, dx, _, e1, T1.w.ex _ _ e2, lookup_zip_none hm, ?_⟩
    refine h st σ M1 H1 (sr.tr T1) _ fun us es M2 H2 T2 r3 e => ?_
    subst e
    rw [List.append_nil]
    exact ⟨M2, _, Φ, T2.w.ex, .cons (Rep.mono T2.m _ _ r1) r3, s, fun v d M' H' T' r' f => q v d M' H' ((T1.trans T2).trans (T'.of_none T2.w)) r' f⟩
theorem ev_meth (ho : EvV ta ρ (.obj C ks fs)) (hm : m ∉ ks) (h : EvAV ar ρ ds) (s : S (.obj C ks fs :: ds) fun z => z = d) : EvV (tMeth C m (pureSp S) [] E0 ta ar) ρ d := ew_meth ho hm h s
/-- o.p, a property -/
theorem ew_prop (ho : EvV ta ρ (.obj C ks fs)) (s : S [.obj C ks fs] Φ) : EvW (tProp C (pureSp S) [] E0 ta) ρ Φ := fun st σ M H sr Q q =>
  ho st σ M H sr _ fun v x M1 H1 T1 r1 e => by
    subst e
    obtain ⟨a, dx, vs, e1, e2, r2, l⟩ := id r1.obj_
    subst e1
    exact ⟨a, dx, _, rfl, T1.w.ex _ _ e2, M1, _, Φ, T1.w.ex, .cons r1 .nil, s, fun v d M' H' T' r' f => q v d M' H' (T1.trans (T'.of_none T1.w)) r' f⟩
theorem ev_prop (ho : EvV ta ρ (.obj C ks fs)) (s : S [.obj C ks fs] fun z => z = d) : EvV (tProp C (pureSp S) [] E0 ta) ρ d := ew_prop ho s
/-- an instance made: the step behind the arguments -/
theorem made_of {st : Option Addr} {M H M1 H1 : Hp} {a dx dy : Addr} {us : List V} {es : List D} {k0 : List Str} (w : W st M H) (n1 : H a = none) (n2 : H dx = none) (ne : dx ≠ a) (e1 : Ex M M1) (e2 : Ex M1 H1)
    (e3 : ∀ b o, (upd (upd H dx (.own a)) a (.ins C dx [])) b = some o → b ≠ a → H1 b = some o) (e4 : ∀ b, M b = none → (upd (upd H dx (.own a)) a (.ins C dx [])) b ≠ none → b ≠ a → M1 b = none) (e5 : M1 a = none) (e6 : H1 a = some (.ins C dy (k0.zip us))) (r : Reps M1 es us) :
    Tr st M H (upd M1 a (.ins C dy (k0.zip us))) H1 := by
  have nb : ∀ b o, H b = some o → b ≠ a ∧ b ≠ dx := fun b o e => ⟨(fun z => by rw [z, n1] at e; cases e), (fun z => by rw [z, n2] at e; cases e)⟩
  have keep : ∀ b o, H b = some o → H1 b = some o := fun b o e => e3 b o (by rw [upd_ne (nb b o e).1, upd_ne (nb b o e).2]; exact e) (nb b o e).1
  refine ⟨e1.trans (.new e5), fun b o e _ => keep b o e, fun b e n => ?_, e2.updL e6, fun b e => ?_⟩
  · cases q : H b with
    | none => exact absurd q n
    | some o =>
      obtain ⟨x1, x2⟩ := nb b o q
      rw [upd_ne x1]
      exact e4 b e (by rw [upd_ne x1, upd_ne x2, q]; intro z; cases z) x1
  · obtain ⟨m, ds, vs, q, r', s⟩ := w.sto b e
    obtain ⟨x1, x2⟩ := nb b _ q
    refine ⟨?_, ds, vs, keep b _ q, (r'.mono e1).mono (.new e5), s⟩
    rw [upd_ne x1]
    exact e4 b m (by rw [upd_ne x1, upd_ne x2, q]; intro z; cases z) x1
/-- C(..) -/
theorem ew_make (h : EvAV ar ρ ds) (s : S ds Φ) : EvW (tMake C (initSp C [] S) [] E0 ar) ρ Φ := fun st σ M H sr Q q =>
  h st σ M H sr _ fun vs es M1 H1 T r e => fun a dx n1 n2 ne => by
    subst e
    rw [List.append_nil]
    have m1 : M1 a = none := T.w.ex.back n1
    have m2 : M1 dx = none := T.w.ex.back n2
    refine ⟨a, dx, vs, [], [], M1, es, Φ, rfl, (T.w.ex.updR m2).updR m1, m1, upd_same, .nil, rfl, r, s, fun k2 fs2 us dy M' H' a1 a2 a3 a4 a5 a6 a7 a8 f => ⟨rfl, ?_⟩⟩
    exact q (.ref a) _ _ H' (T.trans (made_of T.w n1 n2 ne a1 a2 a3 a4 a5 a6 a7)) (rep_obj upd_same (a7.mono (.new a5)) a8) f
end
end SK

set_option Elab.async false
set_option linter.all false
set_option maxRecDepth 100000
set_option maxHeartbeats 4000000
namespace SK
open PySem PySem.Spec PyProof.Rows L2
section
variable {X : Cx} {x : Str} {pos : Pos}
theorem pe_gint {i : Int} (h : ∃ t, X.mg x = some (.int i t)) (hg : Gl X x) (hd : (x == ("__debug__" : Str)) = false := by decide) : PE X (.Name x pos) (tC (.int i)) := by
  obtain ⟨t, h⟩ := h
  exact pe_glob hg h ⟨t, rfl⟩ hd
/-- t[lo:hi] of a tuple: itself, or a new tuple that is known -/
def rSlK (K : PySem.W.Frag) : V → Option Int → Option Int → Hp → VK → Prop := fun x lo hi H Q => ∃ a xs, x = .ref a ∧ SqT K H a xs ∧
  (HT.sIx xs.length 0 lo = 0 ∧ HT.sIx xs.length xs.length hi = xs.length → Q (.ref a) H) ∧ (¬ (HT.sIx xs.length 0 lo = 0 ∧ HT.sIx xs.length xs.length hi = xs.length) → ∀ p o, H p = none → o.dict = none → Q (.ref p) (upd H p (.frz o (.tup (cutV xs lo hi)))))
theorem sl_tupK : SlR X (rSlK X.K) := by
  intro pins s σ H x v vl vu lo hi sl Q I rx hs pl pu h
  obtain ⟨a, xs, rfl, hx, q1, q2⟩ := h
  cases rx
  obtain ⟨its, r, ht, hz⟩ := I.tuple hx
  have hlen : its.toArray.size = xs.length := by rw [List.size_toArray]; exact r.length.symm
  refine ⟨"tuple", _, PyProof.Rows.slot_tuple_getitem.lookup, ht.typeIs, ?_⟩
  by_cases hw : HT.sIx xs.length 0 lo = 0 ∧ HT.sIx xs.length xs.length hi = xs.length
  · exact getItem_tuple_whole ht hs pl pu (by rw [hlen]; exact hw) ⟨.ref a, H, I, rfl, q1 hw⟩
  · refine HT.getItem_tuple_cut ht hs pl pu (by rw [hlen]; exact hw) ?_ (by rw [hlen]; exact hz)
    rw [hlen]
    refine ⟨.ref s.heap.objs.size, _, I.laid (t' := s.toks) (o := .frz { cls := .type "tuple", data := .seq (List.take (HT.sIx xs.length xs.length hi - HT.sIx xs.length 0 lo) (List.drop (HT.sIx xs.length 0 lo) its)).toArray } (.tup (cutV xs lo hi))) (fun b ob q => Heap.get?_push_of_some _ q) (Nat.le_refl _) ?_, rfl, q2 hw _ _ (I.hok.fresh (Nat.le_refl _)) rfl⟩
    exact ⟨Heap.get?_push_size _ rfl, Nat.le_trans (cutV_length xs lo hi) hz, _, (r.drop (HT.sIx xs.length 0 lo)).take (HT.sIx xs.length xs.length hi - HT.sIx xs.length 0 lo), IsTup.new _ _⟩
theorem SlR.or3 {r r' : V → Option Int → Option Int → Hp → VK → Prop} (h : SlR X r) (h' : SlR X r') : SlR X (fun x lo hi H Q => r x lo hi H Q ∨ r' x lo hi H Q) := by
  intro pins s σ H x v vl vu lo hi sl Q I rx hs pl pu q
  rcases q with q | q
  · exact h pins s σ H x v vl vu lo hi sl Q I rx hs pl pu q
  · exact h' pins s σ H x v vl vu lo hi sl Q I rx hs pl pu q
def rSl (K : PySem.W.Frag) : V → Option Int → Option Int → Hp → VK → Prop := fun x lo hi H Q => rSlL K x lo hi H Q ∨ rSlK K x lo hi H Q
theorem sl_seq : SlR X (rSl X.K) := SlR.or3 sl_list sl_tupK
/-- tuple(x) -/
theorem call_tupK : CallR X (.type "tuple") (rTupK X.K) := by
  intro pins s σ H xs us Q I r h
  obtain ⟨p, ys, rfl, h⟩ := h
  obtain ⟨u, rfl, rx⟩ := vals1 r
  cases rx
  rcases h with ⟨hq, q⟩ | ⟨hq, q⟩
  · obtain ⟨its, r', pl, hz⟩ := I.list hq
    have hlen := r'.length
    refine call_tuple_list pl.isList (fun h' kp => ?_) (by simp only [List.size_toArray] <;> omega)
    have I1 : Inv X pins σ H { s with heap := h' } := I.kept (t' := s.toks) kp
    have I2 : Inv X pins σ (upd H h'.objs.size (.frz { cls := .type "tuple", data := .seq its.toArray } (.tup ys))) { s with heap := h'.push { cls := .type "tuple", data := .seq its.toArray } } :=
      I1.laid (t' := s.toks) (fun b o e => Heap.get?_push_of_some _ e) (Nat.le_refl _) (show ObjOk X.prog X.w _ _ _ (.frz _ (.tup ys)) from ⟨Heap.get?_push_size _ rfl, hz, its, r', IsTup.new _ _⟩)
    exact ⟨.ref h'.objs.size, _, I2, rfl, q _ _ (I1.hok.fresh (Nat.le_refl _)) rfl⟩
  · obtain ⟨its, r', pl, hz⟩ := I.tuple hq
    exact call_tuple_same pl ⟨.ref p, H, I, rfl, q⟩
end
section
variable {ρ : Env} {ta tb tc te : TE} {d x y z : D} {Φ Ψ : D → Prop} {t u : TS} {K : PySem.W.Frag} {P : Post}
/-! ### slices -/
def cutD (ds : List D) (lo hi : Option Int) : List D := (ds.drop (HT.sIx ds.length 0 lo)).take (HT.sIx ds.length ds.length hi - HT.sIx ds.length 0 lo)
def EvO (to : TO) (ρ : Env) (o : Option Int) : Prop := ∀ st σ M H, SR st M H σ ρ → ∀ Q : Option Int → Hp → Prop, (∀ M' H', Tr st M H M' H' → Q o H') → to σ H Q
theorem eo_none : EvO tNoPart ρ none := fun st σ M H s Q q => q M H (.refl s.w)
theorem eo_some {i : Int} (h : EvV te ρ (.int i)) : EvO (tPart te) ρ (some i) := fun st σ M H s Q q => h st σ M H s _ fun v d M1 H1 T r e => by
  subst e
  exact ⟨i, r.int_, q M1 H1 T⟩
/-- a piece of a list is a new list, of a tuple a tuple: known, but for the whole of one that is not -/
theorem ew_sl {lo hi : Option Int} {tl th : TO} (hx : EvV ta ρ x) (hl : EvO tl ρ lo) (hh : EvO th ρ hi) (k : (∀ ds, x = .lst ds → Φ (.lst (cutD ds lo hi))) ∧ (∀ ds, x = .tup ds ∨ x = .ktp ds → Φ (.ktp (cutD ds lo hi))) ∧ (∀ ds, x = .tup ds → cutD ds lo hi = ds → Φ x) ∧ seqOf x ≠ none) : EvW (tSl (rSl K) ta tl th) ρ Φ := fun st σ M H s Q q =>
  hx st σ M H s _ fun v x' M1 H1 T1 r1 e1 => by
    subst e1
    refine hl st σ M1 H1 (s.tr T1) _ fun M2 H2 T2 => ?_
    refine hh st σ M2 H2 ((s.tr T1).tr T2) _ fun M3 H3 T3 => ?_
    have TT := (T1.trans T2).trans T3
    have r3 := Rep.mono (T2.m.trans T3.m) _ _ r1
    have new : ∀ {ds : List D} {us : List V} {p : Addr} {o : Obj}, Reps M3 ds us → H3 p = none → o.dict = none → Rep (upd M3 p (.frz o (.tup (cutV us lo hi)))) (.ktp (cutD ds lo hi)) (.ref p) := fun {ds us p o} r hp hd => by
      refine rep_ktp upd_same hd ?_
      unfold cutV cutD
      rw [r.len]
      exact ((r.drop _).take _).mono (.new (TT.w.ex.back hp))
    have same : ∀ {ds : List D} {us : List V}, Reps M3 ds us → (HT.sIx us.length 0 lo = 0 ∧ HT.sIx us.length us.length hi = us.length) → cutD ds lo hi = ds := fun {ds us} r e => by
      unfold cutD
      rw [r.len] at e
      rw [e.1, e.2, List.drop_zero, Nat.sub_zero, List.take_length]
    cases x' with
    | lst ds =>
      obtain ⟨a, us, a1, a2, r⟩ := r3.lst_
      refine Or.inl ⟨a, us, a1, SqL.of (TT.w.ex _ _ a2), fun p hp => q (.ref p) (.lst (cutD ds lo hi)) _ _ (TT.trans (.new TT.w hp)) (rep_lst upd_same ?_) (k.1 ds rfl)⟩
      unfold cutV cutD
      rw [r.len]
      exact ((r.drop _).take _).mono (.new (TT.w.ex.back hp))
    | tup ds =>
      obtain ⟨a, us, a1, a2, r⟩ := r3.tup_
      exact Or.inr ⟨a, us, a1, SqT.of (TT.w.ex _ _ a2), fun e => by rw [← a1]; exact q v (.tup ds) M3 H3 TT r3 (k.2.2.1 ds rfl (same r e)), fun _ p o hp hd => q (.ref p) (.ktp (cutD ds lo hi)) _ _ (TT.trans (.new TT.w hp)) (new r hp hd) (k.2.1 ds (.inl rfl))⟩
    | ktp ds =>
      obtain ⟨a, o, us, a1, a2, a3, r⟩ := r3.ktp_
      refine Or.inr ⟨a, us, a1, .inl (.inr ⟨o, TT.w.ex _ _ a2⟩), fun e => ?_, fun _ p o hp hd => q (.ref p) (.ktp (cutD ds lo hi)) _ _ (TT.trans (.new TT.w hp)) (new r hp hd) (k.2.1 ds (.inr rfl))⟩
      rw [← a1]
      refine q v (.ktp (cutD ds lo hi)) M3 H3 TT ?_ (k.2.1 ds (.inr rfl))
      rw [same r e]
      exact r3
    | _ => exact absurd rfl k.2.2.2
theorem ev_slT {lo hi : Option Int} {tl th : TO} {ds : List D} (hx : EvV ta ρ (.ktp ds)) (hl : EvO tl ρ lo) (hh : EvO th ρ hi) : EvV (tSl (rSl K) ta tl th) ρ (.ktp (cutD ds lo hi)) :=
  ew_sl hx hl hh ⟨(fun _ e => by cases e), (fun _ e => by rcases e with e | e <;> cases e; rfl), (fun _ e _ => by cases e), (by intro z; cases z)⟩
theorem ev_slL {lo hi : Option Int} {tl th : TO} {ds : List D} (hx : EvV ta ρ (.lst ds)) (hl : EvO tl ρ lo) (hh : EvO th ρ hi) : EvV (tSl (rSl K) ta tl th) ρ (.lst (cutD ds lo hi)) :=
  ew_sl hx hl hh ⟨(fun _ e => by cases e; rfl), (fun _ e => by rcases e with e | e <;> cases e), (fun _ e _ => by cases e), (by intro z; cases z)⟩
/-- x[lo:hi], a sequence of whichever kind -/
theorem ew_slS {lo hi : Option Int} {tl th : TO} {ds : List D} (hx : EvV ta ρ x) (hs : seqOf x = some ds) (hl : EvO tl ρ lo) (hh : EvO th ρ hi) : EvW (tSl (rSl K) ta tl th) ρ (fun y => seqOf y = some (cutD ds lo hi)) :=
  ew_sl hx hl hh ⟨fun _ e => by subst e; cases (Option.some.inj hs); rfl, fun _ e => by rcases e with e | e <;> subst e <;> cases (Option.some.inj hs) <;> rfl, fun _ e c => by subst e; cases (Option.some.inj hs); rw [c]; rfl, by rw [hs]; intro z; cases z⟩
theorem cut_take (ds : List D) (k : Nat) : cutD ds none (some (k : Int)) = ds.take k := by
  unfold cutD
  rw [HT.sIx_none, HT.sIx_nat, List.drop_zero, Nat.sub_zero]
  by_cases h : k ≤ ds.length
  · rw [Nat.min_eq_left h]
  · rw [Nat.min_eq_right (by omega), List.take_length, List.take_of_length_le (by omega)]
theorem cut_drop (ds : List D) (k : Nat) : cutD ds (some (k : Int)) none = ds.drop k := by
  unfold cutD
  rw [HT.sIx_none, HT.sIx_nat]
  by_cases h : k ≤ ds.length
  · rw [Nat.min_eq_left h, List.take_of_length_le (by rw [List.length_drop]; omega)]
  · rw [Nat.min_eq_right (by omega), Nat.sub_self, List.take_zero, List.drop_of_length_le (by omega)]
/-- xs * k -/
theorem ef_rep {xs : List D} {k : Int} (hx : EvV ta ρ (.lst xs)) (hk : EvV tb ρ (.int k)) (h1 : -(2 ^ 63) ≤ k ∧ k < 2 ^ 63) (h2 : xs.length * k.toNat ≤ 100000) : EvFV (tOp rRep ta tb) ρ (List.replicate k.toNat xs).flatten := ef_op hx hk fun st M H vx vy w r1 r2 Q q => by
  obtain ⟨a, us, e1, e2, r⟩ := r1.lst_
  exact ⟨a, k, us, e1, r2.int_, w.ex _ _ e2, h1.1, h1.2, by rw [r.len]; exact Nat.le_trans h2 (by decide), fun p hp => q p _ _ M _ (.newO w hp) hp upd_same (w.ex.back hp) (r.rep k.toNat) rfl⟩
theorem ef_rep1 {n : Nat} (hx : EvV ta ρ (.lst [x])) (hk : EvV tb ρ (.int (n : Int))) (h1 : n ≤ 100000) : EvFV (tOp rRep ta tb) ρ (List.replicate n x) := by
  have h := ef_rep hx hk (by omega) (by simpa using h1)
  rw [Int.toNat_natCast, rep_flat] at h
  exact h

/-! ### isinstance -/
/-- what isinstance asks of a class's instances -/
structure ClsI (K : PySem.W.Frag) (C : Addr) : Prop where
  cl : Cls K C
  ha : PySem.W.findIn K (.ref C) "__class__" = some (some (.builtin "object.__class__"))
  hn : PySem.W.specialIn K (.builtin "object.__class__") "__get__" = some (some (.builtin "getset_descriptor.__get__"))
  tk : PySem.W.takesIn K (.builtin "object.__class__") = some true
  hm : PySem.W.mroIn K C (.type "object") = some true
def tyD : D → Value
  | .non => .type "NoneType"
  | .bl _ => .type "bool"
  | .int _ => .type "int"
  | .str _ => .type "str"
  | .tup _ => .type "tuple"
  | .ktp _ => .type "tuple"
  | .lst _ => .type "list"
  | .obj C _ _ => .ref C
  | .scr _ _ => .none
theorem tyX_of {M H : Hp} {v : V} (e : Ex M H) (r : Rep M x v) (hx : tyD x ≠ .none) (I : ∀ C ks ds, x = .obj C ks ds → ClsI K C) : TyX K H v (tyD x) := by
  cases x with
  | non => rw [r.non_]; exact .base .non
  | bl b => rw [r.bl_]; exact .base (.bl b)
  | int b => rw [r.int_]; exact .base (.int b)
  | str b => rw [r.str_]; exact .base (.str b)
  | ktp ds =>
    obtain ⟨a, o, us, e1, e2, _⟩ := r.ktp_
    rw [e1]
    exact .fTuple (e _ _ e2)
  | tup ds =>
    obtain ⟨a, us, e1, e2, _⟩ := r.tup_
    rw [e1]
    exact .base (.tup (e _ _ e2))
  | lst ds =>
    obtain ⟨a, us, e1, e2, _⟩ := r.lst_
    rw [e1]
    exact .base (.lst (e _ _ e2))
  | obj C ks ds =>
    obtain ⟨a, dx, us, e1, e2, _⟩ := r.obj_
    obtain ⟨i1, i2, i3, i4, i5⟩ := I C ks ds rfl
    rw [e1]
    exact .base (.ins (e _ _ e2) i1 i2 i3 i4 i5)
  | scr K ns => exact absurd rfl hx
theorem ev_isi {c : V} {w : Value} {b : Bool} (h : EvV ta ρ x) (k : PySem.W.kitOne K (tyD x) w = some b) (hc : ClsV c w) (I : ∀ C ks ds, x = .obj C ks ds → ClsI K C) : EvV (tCB (rIsi K) (tCons ta (tCons (tC c) tNil))) ρ (.bl b) := fun st σ M H s Q q =>
  h st σ M H s _ fun v x' M1 H1 T r e => by
    subst e
    have hx : tyD x' ≠ .none := fun z => by
      rw [z] at k
      unfold PySem.W.kitOne PySem.W.kitCls PySem.W.subIn at k
      cases hc <;> (simp only [] at k; split at k <;> first | (rename_i z; cases beq_iff_eq.mp z; done) | (split at k <;> cases k))
    exact ⟨v, c, _, w, b, rfl, hc, tyX_of T.w.ex r hx I, k, q _ _ M1 H1 T rep_bl rfl⟩
theorem noObj {a : D} (h : ∀ C ks ds, a ≠ .obj C ks ds) : ∀ C ks ds, a = .obj C ks ds → ClsI K C := fun C ks ds e => absurd e (h C ks ds)
/-- .. of a thing that is no instance, and a built-in class: the answer by computation -/
theorem ev_isiB {n : String} {b : Bool} {t : String} (h : EvV ta ρ x) (ht : tyD x = .type t) (k : kitB t n = some b) : EvV (tCB (rIsi K) (tCons ta (tCons (tC (.ty n)) tNil))) ρ (.bl b) :=
  ev_isi h (by rw [ht]; exact kit_ty k) (.ty n) fun C ks ds e => by
    rw [e] at ht
    cases ht

/-! ### == of data -/
mutual
def toP : D → PyData
  | .non => .none
  | .bl b => .bool b
  | .int i => .int i
  | .str s => .str s
  | .tup ds => .tuple (toPs ds)
  | .ktp ds => .tuple (toPs ds)
  | .lst ds => .list (toPs ds)
  | .obj _ _ _ => .none
  | .scr _ _ => .none
def toPs : List D → List PyData
  | [] => []
  | d :: ds => toP d :: toPs ds
end
mutual
def flatD : D → Bool
  | .obj _ _ _ => false
  | .scr _ _ => false
  | .tup ds => flatDs ds
  | .ktp ds => flatDs ds
  | .lst ds => flatDs ds
  | _ => true
def flatDs : List D → Bool
  | [] => true
  | d :: ds => flatD d && flatDs ds
end
mutual
theorem dp_of {M H : Hp} (e : Ex M H) : ∀ (d : D) (v : V), flatD d = true → Rep M d v → Dp K H v (toP d)
  | .non, v, _, r => by rw [r.non_]; unfold toP; exact .non
  | .bl b, v, _, r => by rw [r.bl_]; unfold toP; exact .bl b
  | .int b, v, _, r => by rw [r.int_]; unfold toP; exact .int b
  | .str b, v, _, r => by rw [r.str_]; unfold toP; exact .str b
  | .tup ds, v, f, r => by
    obtain ⟨a, us, e1, e2, r2⟩ := r.tup_
    rw [e1]
    unfold toP
    exact .tup (SqT.of (e _ _ e2)) (dps_of e ds us (by unfold flatD at f; exact f) r2)
  | .ktp ds, v, f, r => by
    obtain ⟨a, o, us, e1, e2, _, r2⟩ := r.ktp_
    rw [e1]
    unfold toP
    exact .tup (.inl (.inr ⟨o, e _ _ e2⟩)) (dps_of e ds us (by unfold flatD at f; exact f) r2)
  | .lst ds, v, f, r => by
    obtain ⟨a, us, e1, e2, r2⟩ := r.lst_
    rw [e1]
    unfold toP
    exact .lst (SqL.of (e _ _ e2)) (dps_of e ds us (by unfold flatD at f; exact f) r2)
  | .obj _ _ _, v, f, r => by unfold flatD at f; cases f
  | .scr _ _, v, f, r => by unfold flatD at f; cases f
theorem dps_of {M H : Hp} (e : Ex M H) : ∀ (ds : List D) (vs : List V), flatDs ds = true → Reps M ds vs → DpAll K H vs (toPs ds)
  | [], vs, _, r => by rw [r.inv0]; unfold toPs; exact .nil
  | d :: ds, vs, f, r => by
    obtain ⟨v, vr, e1, r1, r2⟩ := r.inv
    unfold flatDs at f
    obtain ⟨f1, f2⟩ := Bool.and_eq_true_iff.mp f
    rw [e1]
    unfold toPs
    exact .cons (dp_of e d v f1 r1) (dps_of e ds vr f2 r2)
end
theorem ev_eqD {b : Bool} (hx : EvV ta ρ x) (hy : EvV tb ρ y) (fx : flatD x = true) (fy : flatD y = true) (sx : SeqAt.shaped (toP x) = true) (sy : SeqAt.shaped (toP y) = true) (e : PyData.eqv (toP x) (toP y) = b) : EvV (tOp (rEqD K) ta tb) ρ (.bl b) := ev_op hx hy fun st M H vx vy w r1 r2 Q q =>
  ⟨toP x, toP y, dp_of w.ex x vx fx r1, dp_of w.ex y vy fy r2, sx, sy, by rw [e]; exact q _ _ M H (.refl w) rep_bl rfl⟩
theorem ev_eqS {a b : Str} (ha : EvV ta ρ (.str a)) (hb : EvV tb ρ (.str b)) : EvV (tOp rEq ta tb) ρ (.bl (decide (a = b))) := ev_op ha hb fun st M H vx vy w r1 r2 Q q => by
  rw [r1.str_, r2.str_]
  refine ⟨rfl, ?_⟩
  have e : decide (V.str a = V.str b) = decide (a = b) := by rw [decide_eq_decide]; exact ⟨fun h => V.str.inj h, fun h => by rw [h]⟩
  rw [e]
  exact q _ _ M H (.refl w) rep_bl rfl
theorem ev_eqB {a b : Bool} (ha : EvV ta ρ (.bl a)) (hb : EvV tb ρ (.bl b)) : EvV (tOp rEq ta tb) ρ (.bl (decide (a = b))) := ev_op ha hb fun st M H vx vy w r1 r2 Q q => by
  rw [r1.bl_, r2.bl_]
  refine ⟨rfl, ?_⟩
  have e : decide (V.bl a = V.bl b) = decide (a = b) := by rw [decide_eq_decide]; exact ⟨fun h => V.bl.inj h, fun h => by rw [h]⟩
  rw [e]
  exact q _ _ M H (.refl w) rep_bl rfl
end
end SK

set_option Elab.async false
set_option linter.all false
set_option maxRecDepth 100000
set_option maxHeartbeats 4000000
namespace SK
open PySem PySem.Spec PyProof.Rows L2 HT
/-! ### t[::-1] of a tuple -/
section
variable {prog : Program} {w : World} {A : Around} {E : Value → Shared → Prop} {s : Shared}
theorem sliceApplied_rev {sl : Addr} {vl vu vs : Value} {n : Nat} {Q : Int × Int × Nat → Shared → Prop} (hs : s.heap.IsSliceOf sl vl vu vs) (pl : IsPart vl none) (pu : IsPart vu none) (ps : IsPart vs (some (-1)))
    (h : Q ((n : Int) - 1, -1, n) s) : wpAny (model prog w) A (Builtin.Slice.sliceApplied (.ref sl) (pure (n : Int))) Q E s := by
  obtain ⟨os, hos, hcs, hds⟩ := id hs
  unfold Builtin.Slice.sliceApplied Builtin.Slice.sliceFields
  refine wpAny_bind (wpAny_bind (wpAny_field hos hds (x := vl) rfl (wpAny_bind (wpAny_field hos hds (x := vu) rfl (wpAny_bind (wpAny_field hos hds (x := vs) rfl (wpAny_pure ?_)))))))
  refine wpAny_bind (slicePart_ ps ?_)
  show wpAny _ _ (if ((-1 : Int) == 0) = true then _ else _) _ _ s
  rw [if_neg (by decide)]
  refine wpAny_bind (slicePart_ pl (wpAny_bind (slicePart_ pu (wpAny_bind (wpAny_pure ?_)))))
  show wpAny _ _ (pure ((n : Int) - 1, (-1 : Int), Builtin.Slice.slicePlaces ((n : Int) - 1) (-1) (-1))) _ _ s
  have e : Builtin.Slice.slicePlaces ((n : Int) - 1) (-1) (-1) = n := by
    unfold Builtin.Slice.slicePlaces
    have h1 : ¬ ((-1 : Int) > 0) := by decide
    have h2 : (- -1 : Int) = 1 := by decide
    simp only [h1, if_false, h2, Int.ediv_one]
    split <;> omega
  rw [e]
  exact wpAny_pure h
theorem pick_rev (xs : Array Value) : ((List.range xs.size).filterMap fun (m : Nat) => xs[(((xs.size : Int) - 1) + (m : Int) * (-1)).toNat]?).toArray = xs.toList.reverse.toArray := by
  have e : ∀ m ∈ List.range xs.size, xs[(((xs.size : Int) - 1) + (m : Int) * (-1)).toNat]? = (fun k => xs[k]?) (xs.size - 1 - m) := fun m hm => by
    have := List.mem_range.mp hm
    have q : (((xs.size : Int) - 1) + (m : Int) * (-1)).toNat = xs.size - 1 - m := by omega
    rw [q]
  have e1 : (List.range xs.size).filterMap (fun (m : Nat) => xs[(((xs.size : Int) - 1) + (m : Int) * (-1)).toNat]?) = ((List.range xs.size).map fun k => xs.size - 1 - k).filterMap (fun k => xs[k]?) := by
    rw [List.filterMap_map]
    have cong : ∀ (l : List Nat) (f g : Nat → Option Value), (∀ m ∈ l, f m = g m) → l.filterMap f = l.filterMap g := by
      intro l f g
      induction l with
      | nil => intro _; rfl
      | cons x l ih =>
        intro h
        rw [List.filterMap_cons, List.filterMap_cons, h x (List.mem_cons_self ..), ih fun m hm => h m (List.mem_cons_of_mem _ hm)]
    exact cong _ _ _ e
  rw [e1, PySem.W.krv_range, List.filterMap_reverse, PySem.W.krv_all]
theorem getItem_tuple_rev {t sl : Addr} {items : Array Value} {vl vu vs : Value} {Q : Value → Shared → Prop} (ht : IsTup s.heap t items) (hs : s.heap.IsSliceOf sl vl vu vs) (pl : IsPart vl none) (pu : IsPart vu none) (ps : IsPart vs (some (-1)))
    (h : Q (.ref s.heap.objs.size) { s with heap := s.heap.push { cls := .type "tuple", data := .seq items.toList.reverse.toArray } })
    (hsz : items.size ≤ sizeLine) : wpAny (model prog w) A (getItem (.ref t) (.ref sl)) Q E s := by
  have htake : sizeOk (.seq items.toList.reverse.toArray) := by
    show items.toList.reverse.toArray.size ≤ sizeLine
    rw [List.size_toArray, List.length_reverse, Array.length_toList]
    omega
  obtain ⟨os, hos, hcs, hds⟩ := id hs
  have hTs : s.TypeIs (.ref sl) "slice" := ⟨os, hos, hcs⟩
  unfold getItem
  try with_reducible refine wpAny_holding ?_
  first | refine wpAny_bind (wpAny_pure ?_) | skip
  refine wpAny_bind (wpAny_sequenceKey ht.typeIs (by decide) ?_)
  refine wpAny_bind (wpAny_callSpecial?_slot (name := Str.ofString "__getitem__") ht.typeIs PyProof.Rows.slot_tuple_getitem
    (wpAny_call_entry PyProof.Rows.slot_tuple_getitem ht.typeIs entry_tuple_getitem ?_ (args_tuple_getitem _ _)))
  show wpAny _ _ (Builtin.Tuple.tupleItemsOf (.ref t) >>= _) _ _ s
  refine wpAny_bind (tupleItemsOf_ ht ?_)
  refine wpAny_bind (wpAny_typeOf hTs ?_)
  rw [if_pos (by decide)]
  refine wpAny_bind (sliceApplied_rev hs pl pu ps ?_)
  have hno : ¬ ((((items.size : Int) - 1) == 0 && (-1 : Int) == 1 && items.size == items.size) = true) := by
    intro q
    rw [Bool.and_eq_true, Bool.and_eq_true] at q
    exact absurd (eq_of_beq q.1.2) (by decide)
  show wpAny _ _ (if (((items.size : Int) - 1) == 0 && (-1 : Int) == 1 && items.size == items.size) = true then _ else _) _ _ s
  rw [if_neg hno, pick_rev]
  first
    | exact wpAny_bind (m := Builtin.Tuple.tupleExact _) (wpAny_newObj_type (wpAny_pure ⟨_, rfl, wpAny_pure h⟩) htake)
    | exact wpAny_bind (m := Builtin.Tuple.tupleExact _) (wpAny_newObj_type (wpAny_bind (wpAny_pure (wpAny_pure ⟨_, rfl, wpAny_pure h⟩))) htake)
    | exact wpAny_bind (wpAny_bind (m := Builtin.Tuple.tupleExact _) (wpAny_newObj_type (wpAny_pure (wpAny_pure ⟨_, rfl, wpAny_pure h⟩)) htake))
    | exact wpAny_bind (wpAny_bind (m := Builtin.Tuple.tupleExact _) (wpAny_newObj_type (wpAny_pure ⟨_, rfl, wpAny_pure h⟩) htake))
end
section
variable {X : Cx}
def tRevT (K : PySem.W.Frag) (te : TE) : TE := fun σ H Q => te σ H fun x H1 => ∃ a xs, x = .ref a ∧ SqT K H1 a xs ∧ ∀ p, H1 p = none → Q (.ref p) (upd H1 p (.tup xs.reverse))
theorem pe_revT {e : Expr} {te : TE} {k : Nat} {p1 p2 p3 pos : Pos} (he : PE X e te) : PE X (.Subscript e (.Slice none none (some (.UnaryOp .USub (.Constant (.int 1) k p1) p2)) p3) pos) (tRevT X.K te) := by
  refine ⟨fun pins s σ H Q I h => ?_⟩
  refine Subscript_ (thn (he.run pins s σ H _ I h) fun v s1 ⟨x, H1, I1, r1, q1⟩ => ?_)
  obtain ⟨a, xs, ex, hx, q⟩ := q1
  subst ex
  cases r1
  have hst : PO X (some (.UnaryOp .USub (.Constant (.int 1) k p1) p2)) (tPart (tUn (rU fun i => .int (-i)) (tC (.int 1)))) := po_some (pe_un un_neg pe_int)
  refine wpAny_Slice (thn (po_none.run pins s1 σ H1 (fun o H2 => o = none ∧ H2 = H1) I1 ⟨rfl, rfl⟩) fun vl s2 ⟨l, H2, I2, pl, el, e2⟩ => ?_)
  subst el e2
  refine thn (po_none.run pins s2 σ H2 (fun o H3 => o = none ∧ H3 = H2) I2 ⟨rfl, rfl⟩) fun vu s3 ⟨u, H3, I3, pu, eu, e3⟩ => ?_
  subst eu e3
  refine thn (hst.run pins s3 σ H3 (fun o H4 => o = some (-1) ∧ H4 = H3) I3 ⟨1, rfl, -1, rfl, rfl, rfl⟩) fun vs s4 ⟨o, H4, I4, ps, eo, e4⟩ => ?_
  subst eo e4
  have I5 : Inv X pins σ H4 { s4 with heap := s4.heap.push { cls := .type "slice", data := .fields #[vl, vu, vs] } } := I4.kept (t' := s4.toks) fun b ob q => Heap.get?_push_of_some _ q
  obtain ⟨its, r, ht, hz⟩ := I5.tuple hx
  have hlen := r.length
  show wpAny (model X.prog X.w) X.A (subscriptTail e (.Slice none none (some (.UnaryOp .USub (.Constant (.int 1) k p1) p2)) p3) (.ref a) (.ref s4.heap.objs.size)) (EP X pins σ Q) X.xe { s4 with heap := s4.heap.push { cls := .type "slice", data := .fields #[vl, vu, vs] } }
  refine tail_any (ops := [.ref a, .ref s4.heap.objs.size]) ht.typeIs (PyProof.Rows.slot_tuple_getitem.lookup) ?_ (by with_unfolding_all rfl)
  refine getItem_tuple_rev ht (Heap.IsSliceOf.new _ vl vu vs) pl pu ps ?_ (by rw [List.size_toArray]; omega)
  refine ⟨.ref _, _, I5.laid (t' := s4.toks) (o := .tup xs.reverse) (fun b ob q => Heap.get?_push_of_some _ q) (Nat.le_refl _) ?_, rfl, q _ (I5.hok.fresh (Nat.le_refl _))⟩
  exact ⟨by rw [List.length_reverse]; exact hz, _, r.reverse, _, Heap.get?_push_size _ rfl, rfl, _, rfl⟩
end
theorem Reps.reverse {M : Hp} : ∀ {ds : List D} {vs : List V}, Reps M ds vs → Reps M ds.reverse vs.reverse
  | [], vs, h => by
    rw [h.inv0]
    exact .nil
  | d :: ds, vs, h => by
    obtain ⟨v, vr, e1, r, t⟩ := h.inv
    rw [e1, List.reverse_cons, List.reverse_cons]
    exact (Reps.reverse t).append (.cons r .nil)
theorem ev_revT {ρ : Env} {te : TE} {ds : List D} {K : PySem.W.Frag} (h : EvV te ρ (.ktp ds)) : EvV (tRevT K te) ρ (.tup ds.reverse) := fun st σ M H s Q q => h st σ M H s _ fun v d M1 H1 T r e => by
  subst e
  obtain ⟨a, o, us, e1, e2, _, r2⟩ := r.ktp_
  exact ⟨a, us, e1, .inl (.inr ⟨o, T.w.ex _ _ e2⟩), fun p hp => q _ _ _ _ (T.trans (.new T.w hp)) (rep_tup upd_same (r2.reverse.mono (.new (T.w.ex.back hp)))) rfl⟩

/-! ### t.count(n) of a known tuple of ints -/
section
variable {X : Cx}
theorem mt_tcount {pins : List (Addr × Obj)} {s : Shared} {σ : L2.St} {H : Hp} {p : Addr} {ns : List Int} {k : Int} {t : Tok} {Q : VK} (I : Inv X pins σ H s) (hs : SqT X.K H p (ns.map V.int)) (q : Q (.int (ns.count k : Nat)) H) :
    wpAny (model X.prog X.w) X.A (call (.builtin "tuple.count") [.ref p, .int k t]) (EP X pins σ Q) X.xe s := by
  obtain ⟨its, rv, ⟨⟨cls, dd, data, sl⟩, ho, hc, n, hd⟩, hlen⟩ := I.tuple hs
  simp only at hc hd
  subst hc hd
  have hi := ints_of_vals rv
  refine call_meets PySem.F.slot_tuple_count ⟨_, ho, rfl⟩ PySem.F.entry_tuple_count (PySem.F.args_tuple_count_2 _ _)
    (SeqAt.tuple_countAt p its.toArray n dd sl (.int k t) (eqk k)) ⟨ho, fun y hy => (eqk_gives hi y (by simpa using hy)).at _ _, ?_⟩
  have ec : its.toArray.toList.countP (eqk k) = ns.count k := eqk_count hi
  refine ⟨.int (ns.count k : Nat), H, I.tok _, ⟨s.toks, ?_⟩, q⟩
  show Value.int ((its.toArray.toList.countP (eqk k) : Nat) : Int) s.toks = Value.int ((ns.count k : Nat) : Int) s.toks
  rw [ec]
/-- o.count(e), o a known tuple of ints -/
def tCntT (K : PySem.W.Frag) (to te : TE) : TE := fun σ H Q => to σ H fun x H1 => ∃ a o xs, x = .ref a ∧ H1 a = some (.frz o (.tup xs)) ∧ o.dict = none ∧
  te σ H1 fun y H2 => ∃ (k : Int) (ns : List Int), y = .int k ∧ SqT K H2 a (ns.map V.int) ∧ Q (.int (ns.count k : Nat)) H2
theorem pe_countT {o e : Expr} {to te : TE} {apos cpos : Pos} (ho : PE X o to) (he : PE X e te)
    (hbase : attributeBase o "count" X.env (eval o X.env) = eval o X.env := by rfl)
    (hfew : ((backTo cpos (starEach [e] X.env)).all (fun x => !x.1) && (backToKw cpos (keywordEach [] X.env)).all (fun x => x.1.isSome)
      && decide ([e].length + ([] : List Keyword).length + (if ([] : List Keyword).isEmpty then 0 else 1) < 30)) = true := by rfl)
    (hline : (apos.endLine == cpos.line) = true := by rfl) (hs : starEach [e] X.env = (false, eval e X.env) :: starEach [] X.env := by rfl) :
    PE X (.Call (.Attribute o "count" apos) [e] [] cpos) (tCntT X.K to te) := by
  refine ⟨fun pins s σ H Q I h => ?_⟩
  refine wpAny_Call_method_late hbase hfew hline rfl (thn (ho.run pins s σ H _ I h) fun v s1 ⟨x, H1, I1, r1, a, ob, xs, ex, e1, e2, q1⟩ => ?_)
  subst ex
  cases r1
  obtain ⟨h1, _, its, _, o', h2, h3, _⟩ := (show ObjOk X.prog X.w H1 s1.heap a (.frz ob (.tup xs)) from I1.hok a _ e1)
  rw [h1] at h2
  cases h2
  refine ⟨"tuple", _, PySem.F.plainAttrs_tuple, PySem.F.slot_tuple_count, PySem.F.type_tuple_count, ⟨ob, h1, h3⟩, fun b e => ?_, ?_⟩
  · cases e
    exact ⟨ob, h1, e2⟩
  · rw [hs]
    refine Calls.callWith_builtin rfl (Calls.evalArgs_plain (Calls.spliced_cons (thn (he.run pins s1 σ H1 _ I1 q1) fun iv s2 ⟨y, H2, I2, ry, k, ns, ey, hs2, q2⟩ => Calls.spliced_nil ?_)))
    subst ey
    obtain ⟨t, ri⟩ := ry
    subst ri
    exact mt_tcount I2 hs2 q2
end
theorem ev_countT {ρ : Env} {ta tb : TE} {K : PySem.W.Frag} {ns : List Int} {k : Int} (h : EvV ta ρ (.ktp (ns.map D.int))) (h2 : EvV tb ρ (.int k)) : EvV (tCntT K ta tb) ρ (.int (ns.count k : Nat)) := fun st σ M H s Q q => h st σ M H s _ fun v d M1 H1 T r e => by
  subst e
  obtain ⟨a, o, us, e1, e2, e3, r2⟩ := r.ktp_
  refine ⟨a, o, us, e1, T.w.ex _ _ e2, e3, h2 st σ M1 H1 (s.tr T) _ fun v2 d2 M2 H2 T2 r4 e4 => ?_⟩
  subst e4
  refine ⟨k, ns, r4.int_, ?_, q _ _ M2 H2 (T.trans T2) rep_int rfl⟩
  rw [← r2.ints]
  exact .inl (.inr ⟨o, T2.w.ex _ _ (T2.m _ _ e2)⟩)
end SK

set_option Elab.async false
set_option linter.all false
set_option maxRecDepth 100000
set_option maxHeartbeats 4000000
namespace SK
open PySem PySem.Spec PyProof.Rows L2
/-! ### dicts whose keys are known tuples of ints -/
def valD (L : List DRow) (k : List Int) : Option V := (L.find? fun r => decide (r.1 = k)).map (·.2.2)
def putD (L : List DRow) (k : List Int) (b : Addr) (v : V) : List DRow := if (valD L k).isSome then L.map (fun r => if r.1 = k then (r.1, r.2.1, v) else r) else L ++ [(k, b, v)]
abbrev RX : List DRow → List (List Int × Addr × Value) → Prop := Paired (fun (p : DRow) (q : List Int × Addr × Value) => p.1 = q.1 ∧ p.2.1 = q.2.1 ∧ RelV p.2.2 q.2.2)
theorem valD_pos {p : DRow} {r : List DRow} {k : List Int} (e : p.1 = k) : valD (p :: r) k = some p.2.2 := by simp [valD, List.find?_cons, e]
theorem valD_neg {p : DRow} {r : List DRow} {k : List Int} (e : ¬ p.1 = k) : valD (p :: r) k = valD r k := by simp [valD, List.find?_cons, e]
theorem RX.val {L : List DRow} {xs : List (List Int × Addr × Value)} (r : RX L xs) (k : List Int) : RelO (valD L k) ((atKey xs k).map (·.2)) := by
  induction r with
  | nil => exact True.intro
  | @cons p q ps qs h t ih =>
    obtain ⟨h1, _, h2⟩ := h
    by_cases e : p.1 = k
    · have e' : q.1 = k := h1.symm.trans e
      have b : atKey (q :: qs) k = some q.2 := by simp [atKey, List.find?_cons, e']
      rw [valD_pos e, b]; exact h2
    · have e' : ¬ q.1 = k := fun z => e (h1.trans z)
      have b : atKey (q :: qs) k = atKey qs k := by simp [atKey, List.find?_cons, e']
      rw [valD_neg e, b]; exact ih
theorem RX.repl {L : List DRow} {xs : List (List Int × Addr × Value)} (r : RX L xs) (k : List Int) {y : V} {u : Value} (ry : RelV y u) :
    RX (L.map fun r => if r.1 = k then (r.1, r.2.1, y) else r) (xs.map (putAt k u)) := by
  induction r with
  | nil => exact .nil
  | @cons p q ps qs h t ih =>
    rw [List.map_cons, List.map_cons]
    refine .cons ?_ ih
    obtain ⟨h1, h2, h3⟩ := h
    unfold putAt
    by_cases e : p.1 = k
    · rw [if_pos e, if_pos (h1.symm.trans e)]; exact ⟨h1, h2, ry⟩
    · rw [if_neg e, if_neg (fun z => e (h1.trans z))]; exact ⟨h1, h2, h3⟩
theorem RX.put {L : List DRow} {xs : List (List Int × Addr × Value)} (r : RX L xs) (k : List Int) {b : Addr} {y : V} {u : Value} (ry : RelV y u) : RX (putD L k b y) (storedH xs k b u) := by
  have e : (valD L k).isSome = (atKey xs k).isSome := by
    rw [(r.val k).isSome_eq, Option.isSome_map]
  unfold putD storedH
  rw [e]
  by_cases q : (atKey xs k).isSome = true
  · rw [if_pos q, if_pos q]; exact r.repl k ry
  · rw [if_neg q, if_neg q]; exact Paired.snoc r ⟨rfl, rfl, ry⟩
theorem length_putD (L : List DRow) (k : List Int) (b : Addr) (v : V) : (putD L k b v).length ≤ L.length + 1 := by
  unfold putD
  split
  · rw [List.length_map]; omega
  · rw [List.length_append]; exact Nat.le_refl _
theorem dicO_ok {P : Program} {w : World} {H : Hp} {h : Heap} {a : Addr} {L : List DRow} (d : DicT P w a L h) : ObjOk P w H h a (DicO P w a L) := by
  have ⟨z1, z2, xs, r, o, es, ep, h1, h2⟩ := d
  refine ⟨d, ⟨o, h1⟩, fun h1 h2 p k => ?_⟩
  have ⟨z1, z2, xs, r, o, es, ep, g1, g2⟩ := (show DicT P w a L h1 from p)
  exact ⟨z1, z2, xs, r, o, es, ep, k o g1, g2⟩
section
variable {X : Cx} {pins : List (Addr × Obj)} {σ : L2.St} {H : Hp} {s : Shared} {a b : Addr} {k : List Int} {v : V} {u r : Value} {L : List DRow} {A : Around} {E : Value → Shared → Prop}
def KeysOk (K : PySem.W.Frag) (H : Hp) (L : List DRow) : Prop := ∀ p ∈ L, SqT K H p.2.1 (p.1.map V.int)
theorem dic_at (I : L2.Inv X pins σ H s) (e : H a = some (DicO X.prog X.w a L)) (ks : KeysOk X.K H L) : (a == sysModules) = false ∧ L.length ≤ sizeLine ∧ ∃ xs, RX L xs ∧ s.heap.DictOfH (tupleKind (intKind X.prog X.w)) a xs := by
  obtain ⟨z1, z2, xs, r, o, es, ep, h1, h2, h3, h4, h5⟩ := (show DicT X.prog X.w a L s.heap from (I.hok a _ e).1)
  refine ⟨z1, z2, xs, r, o, es, ep, h1, h2, h3, h4, ?_, h5⟩
  have all : ∀ {l : List DRow} {m : List (List Int × Addr × Value)}, RX l m → KeysOk X.K H l → ∀ x ∈ m, (tupleKind (intKind X.prog X.w)).is s.heap x.1 x.2.1 := by
    intro l m q
    induction q with
    | nil => intro _ x hx; exact nomatch hx
    | @cons p q ps qs hq t ih =>
      intro hk x hx
      rcases List.mem_cons.mp hx with e | hx
      · subst e
        rw [← hq.1, ← hq.2.1]
        exact I.isT (hk p (List.mem_cons_self ..))
      · exact ih (fun y hy => hk y (List.mem_cons_of_mem _ hy)) x hx
  exact all r ks
theorem dic_get {Q : Value → Shared → Prop} (hu : A.units + 1 < cLine) (I : L2.Inv X pins σ H s) (e : H a = some (DicO X.prog X.w a L)) (ks : KeysOk X.K H L) (hb : SqT X.K H b (k.map V.int)) (l : valD L k = some v)
    (h : ∀ w' s', L2.Inv X pins σ H s' → RelV v w' → Q w' s') : wpAny (model X.prog X.w) A (getItem (.ref a) (.ref b)) Q E s := by
  obtain ⟨hd, z, xs, rel, dd⟩ := dic_at I e ks
  obtain ⟨w', hw, rw'⟩ := RelO.some_of (v := v) (o := (atKey xs k).map (·.2)) (by rw [← l]; exact rel.val k)
  obtain ⟨p, hp, hp2⟩ := Option.map_eq_some_iff.mp hw
  refine wpAny_getItem_heap (tupleKind_room_in1 hu) (I.isT hb) dd hp ?_
  rw [hp2]
  exact h w' _ (I.tok _) rw'
theorem dic_get2 {d : V} {Q : Value → Shared → Prop} (hu : A.units + 1 < cLine) (I : L2.Inv X pins σ H s) (e : H a = some (DicO X.prog X.w a L)) (ks : KeysOk X.K H L) (hb : SqT X.K H b (k.map V.int)) (rd : RelV d r)
    (h : ∀ w' s', L2.Inv X pins σ H s' → RelV ((valD L k).getD d) w' → Q w' s') : wpAny (model X.prog X.w) A (call (.builtin "dict.get") [.ref a, .ref b, r]) Q E s := by
  obtain ⟨hd, z, xs, rel, dd⟩ := dic_at I e ks
  exact call_meetsIn PySem.F.slot_dict_get dd.typeIs PySem.F.entry_dict_get (PySem.F.args_dict_get_3 _ _ _) (meetsH_dict_get_default (tupleKind (intKind X.prog X.w)) a b hd r) ⟨tupleKind_room_in1 hu, k, xs, I.isT hb, dd, h _ _ (I.tok _) ((rel.val k).getD rd)⟩
theorem dic_put {Q : Unit → Shared → Prop} (hu : A.units + 1 < cLine) (I : L2.Inv X pins σ H s) (e : H a = some (DicO X.prog X.w a L)) (ks : KeysOk X.K H L) (hb : SqT X.K H b (k.map V.int)) (rv : RelV v r) (hl : L.length < sizeLine)
    (h : ∀ s', L2.Inv X pins σ (upd H a (DicO X.prog X.w a (putD L k b v))) s' → Q () s') : wpAny (model X.prog X.w) A (setItem (.ref a) (.ref b) r) Q E s := by
  obtain ⟨hd, z, xs, rel, dd⟩ := dic_at I e ks
  have hz : xs.length ≤ sizeLine := by rw [← Paired.length rel]; exact z
  have hl : (putD L k b v).length ≤ sizeLine := by have := length_putD L k b v; omega
  refine wpAny_setItem_heap (hsz := hz) (tupleKind_room_in1 hu) (I.isT hb) dd fun h' dd' hs => h _ ?_
  obtain ⟨q, es, ep, hq, h2, h3, h4, _, h5⟩ := dd'
  exact d_write I (by rw [e]; exact True.intro) hs ⟨q, hq⟩ (dicO_ok ⟨hd, hl, _, rel.put k rv, q, es, ep, hq, h2, h3, h4, h5⟩)
end
section
variable {X : Cx} {o i e value : Expr} {pos pos' tpos : Pos} {td ty tv tx : TE}
/-- {} -/
def tKNew (P : Program) (w : World) : TE := fun _ H Q => ∀ p, H p = none → Q (.ref p) (upd H p (DicO P w p []))
theorem pe_knew : PE X (.Dict [] [] pos) (tKNew X.prog X.w) := ⟨fun pins s σ H Q I h =>
  wpAny_Dict_empty ⟨.ref s.heap.objs.size, _, I.laid (a := s.heap.objs.size) (o := DicO X.prog X.w s.heap.objs.size []) (t' := s.toks) (fun _ _ q => Heap.get?_push_of_some _ q) (Nat.le_refl _)
    (dicO_ok ⟨beq_eq_false_iff_ne.mpr (Ne.symm (Nat.ne_of_lt I.big)), Nat.zero_le _, [], .nil, _, #[], 0, Heap.get?_push_size _ rfl, ⟨rfl, rfl, rfl⟩, rfl, rfl, List.nodup_nil⟩), rfl, h _ (I.hok.fresh (Nat.le_refl _))⟩⟩
/-- d[y]; d.get(y, z); d[y] = v -/
def tKGet (K : PySem.W.Frag) (P : Program) (w : World) (td ty : TE) : TE := fun σ H Q => td σ H fun x H1 => ty σ H1 fun y H2 => ∃ a b L k v, x = .ref a ∧ y = .ref b ∧ H2 a = some (DicO P w a L) ∧ KeysOk K H2 L ∧ SqT K H2 b (k.map V.int) ∧ valD L k = some v ∧ Q v H2
def tKGet2 (K : PySem.W.Frag) (P : Program) (w : World) (td ty tx : TE) : TE := fun σ H Q => td σ H fun x H1 => ∃ a, x = .ref a ∧ (∃ L, H1 a = some (DicO P w a L)) ∧ ty σ H1 fun y H2 => tx σ H2 fun z H3 => ∃ b L k, y = .ref b ∧ H3 a = some (DicO P w a L) ∧ KeysOk K H3 L ∧ SqT K H3 b (k.map V.int) ∧ Q ((valD L k).getD z) H3
def sKPut (K : PySem.W.Frag) (P : Program) (w : World) (td ty tv : TE) : TS := fun D σ H => tv σ H fun v H1 => td σ H1 fun x H2 => ty σ H2 fun y H3 => ∃ a b L k, x = .ref a ∧ y = .ref b ∧ H3 a = some (DicO P w a L) ∧ KeysOk K H3 L ∧ SqT K H3 b (k.map V.int) ∧ L.length < sizeLine ∧
  D.nx σ (upd H3 a (DicO P w a (putD L k b v)))
theorem dic_obj {pins : List (Addr × Obj)} {σ : L2.St} {H : Hp} {s : Shared} {a : Addr} {L : List DRow} (I : L2.Inv X pins σ H s) (e : H a = some (DicO X.prog X.w a L)) : ∃ o, s.heap.get? a = some o ∧ o.ExactDict := by
  obtain ⟨z1, z2, xs, r, o, es, ep, h1, h2, h3⟩ := (show DicT X.prog X.w a L s.heap from (I.hok a _ e).1)
  exact ⟨o, h1, h2⟩
theorem pe_kget (hu : X.A.units + 1 < cLine) (ho : PE X o td) (hi : PE X i ty) (hs : NoSl i) : PE X (.Subscript o i pos) (tKGet X.K X.prog X.w td ty) := by
  refine ⟨fun pins s σ H Q I h => ?_⟩
  refine subD_of PySem.F.slot_dict_getitem.lookup hs (thn (ho.run pins s σ H _ I h) fun u s1 ⟨x, H1, I1, rx, q1⟩ => thn (hi.run pins s1 σ H1 _ I1 q1) fun iv s2 ⟨y, H2, I2, ry, a, b, L, k, v, ex, ey, g1, g2, g3, g4, q2⟩ => ?_)
  subst ex ey
  cases rx
  cases ry
  obtain ⟨ob, h1, h2⟩ := dic_obj I2 g1
  exact ⟨⟨ob, h1, h2.1⟩, dic_get hu I2 g1 g2 g3 g4 fun w' s3 I3 rw' => ⟨v, H2, I3, rw', q2⟩⟩
theorem pe_kget2 {apos cpos : Pos} {f : Expr} (hu : X.A.units + 1 < cLine) (ho : PE X o td) (he : PE X e ty) (hf : PE X f tx) (m : M2 X o "get" apos e f cpos) : PE X (.Call (.Attribute o "get" apos) [e, f] [] cpos) (tKGet2 X.K X.prog X.w td ty tx) := by
  refine ⟨fun pins s σ H Q I h => ?_⟩
  refine wpAny_Call_method m.base m.few m.line PySem.F.plainAttrs_dict PySem.F.slot_dict_get PySem.F.type_dict_get (thn (ho.run pins s σ H _ I h) fun u s1 ⟨x, H1, I1, rx, a, ex, ⟨L0, d⟩, q1⟩ => ?_)
  subst ex
  cases rx
  obtain ⟨ob, h1, h2⟩ := dic_obj I1 d
  refine ⟨⟨ob, h1, h2.1⟩, fun b q => by cases q; exact ⟨ob, h1, h2.2.1⟩, ?_⟩
  rw [m.trees]
  refine Calls.callWith_builtin rfl (Calls.evalArgs_plain (Calls.spliced_cons (thn (he.run pins s1 σ H1 _ I1 q1) fun iv s2 ⟨y, H2, I2, ry, q2⟩ =>
    Calls.spliced_cons (thn (hf.run pins s2 σ H2 _ I2 q2) fun fv s3 ⟨z, H3, I3, rz, b, L, k, ey, g1, g2, g3, q3⟩ => Calls.spliced_nil ?_))))
  subst ey
  cases ry
  exact dic_get2 hu I3 g1 g2 g3 rz fun w' s4 I4 rw' => ⟨_, H3, I4, rw', q3⟩
theorem ps_kput (hu : X.A.units + 1 < cLine) (ho : PE X o td) (hi : PE X i ty) (hv : PE X value tv) (hs : swapsWith value (some (.Subscript o i pos')) pos.line X.env = pure false) :
    PS X (.Assign [.Subscript o i pos'] value pos) (sKPut X.K X.prog X.w td ty tv) := by
  refine ⟨fun pins s σ H D I h => ?_⟩
  refine wpAny_Assign_Subscript (thn (hv.run pins s σ H _ I h) fun r s1 ⟨v, H1, I1, rv, q1⟩ => thn (ho.run pins s1 σ H1 _ I1 q1) fun u s2 ⟨x, H2, I2, rx, q2⟩ => thn (hi.run pins s2 σ H2 _ I2 q2) fun iv s3 ⟨y, H3, I3, ry, a, b, L, k, ex, ey, g1, g2, g3, g4, q3⟩ => ?_) hs
  subst ex ey
  cases rx
  cases ry
  exact dic_put hu I3 g1 g2 g3 rv g4 fun s4 I4 => ⟨σ, _, I4, q3⟩
/-- sorted(d) -/
def rSortK (K : PySem.W.Frag) (P : Program) (w : World) : List V → Hp → VK → Prop := fun vs H Q => ∃ (a : Addr) (L : List DRow) (d : Nat) (B : Int), vs = [V.ref a] ∧ H a = some (DicO P w a L) ∧ KeysOk K H L ∧ L.length < 64 ∧ (2 ≤ L.length → 1 ≤ d) ∧ (∀ p ∈ L, p.1.length = d ∧ TS.Bd B p.1) ∧
  ∀ (L' : List DRow) (p : Addr), L'.Perm L → (L.map (·.1)).Nodup → L'.Pairwise (fun q r => TS.code B q.1 ≤ TS.code B r.1) → H p = none → Q (.ref p) (upd H p (.lst (L'.map fun q => V.ref q.2.1)))
end
section
variable {prog : Program} {w : World} {A : Around} {E : Value → Shared → Prop} {s : Shared}
theorem sort_tups2 {a : Addr} {vs : List Value} {n d : Nat} {B : Int} {P : PySem.Fin → Shared → Prop} (ho : s.heap.get? a = some (seqObj "list" vs.toArray n)) (h64 : vs.length < 64) (hd : 2 ≤ vs.length → 1 ≤ d) (x : TS.TupsOk s.heap d B vs)
    (r : Value → Int) (hr : ∀ v, v ∈ vs → ∀ ns, TS.TupInts s.heap v ns → r v = TS.code B ns)
    (h : ∀ out : Array Value, out.toList.Perm vs → out.toList.Pairwise (fun u v => r u ≤ r v) → P (.done (.ret .none)) { s with heap := sortedHeap s.heap a vs out }) :
    wpAny (model prog w) A (Builtin.«list.sort» ⟨[.ref a], []⟩) P E s := by
  have keep : ∀ b o, s.heap.get? b = some o → o.cls = .type "tuple" → (TS.midHeap s.heap a vs).get? b = some o := fun b o e hc => by
    refine TS.midHeap_old ?_ e
    rintro rfl
    rw [ho] at e
    have e' : seqObj "list" vs.toArray n = o := Option.some.inj e
    rw [← e'] at hc
    have c' : Value.type "list" = Value.type "tuple" := hc
    injection c' with c''
    exact absurd c'' (by decide)
  refine SK.plain_sort (r := r) ho h64 (fun h2 Q hQ => ?_) fun ps out h1 h2 h3 => ?_
  · refine TS.kind_tups (s := { s with heap := TS.midHeap s.heap a vs }) (hd h2) h2 (x.keeps keep) r (fun v hv ns t => ?_) Q hQ
    obtain ⟨ns0, t0, _⟩ := x v hv
    have e : ns = ns0 := t.ints.symm.trans (t0.keeps keep).ints
    rw [e]
    exact hr v hv ns0 t0
  · obtain ⟨p, o⟩ := TS.out_rank h1 h2 h3
    exact h out p o
end
theorem order_of {β : Type} (f : β → Value) : ∀ (vs : List Value) (L : List β), vs.Perm (L.map f) → ∃ L' : List β, L'.Perm L ∧ vs = L'.map f := by
  intro vs L p
  generalize hm : L.map f = us at p
  induction p generalizing L with
  | nil =>
    refine ⟨[], ?_, rfl⟩
    rw [List.map_eq_nil_iff.mp hm]
  | cons x p ih =>
    cases L with
    | nil => cases hm
    | cons y L =>
      cases hm
      obtain ⟨L', p', e⟩ := ih L rfl
      exact ⟨y :: L', p'.cons y, by rw [e]; rfl⟩
  | swap x y l =>
    cases L with
    | nil => cases hm
    | cons a L =>
      cases L with
      | nil => cases hm
      | cons b L =>
        cases hm
        exact ⟨b :: a :: L, .swap .., rfl⟩
  | trans p1 p2 ih1 ih2 =>
    obtain ⟨L2, q2, e2⟩ := ih2 L hm
    obtain ⟨L1, q1, e1⟩ := ih1 L2 e2.symm
    exact ⟨L1, q1.trans q2, e1⟩
section
variable {X : Cx}
theorem RX.keys {L : List DRow} {xs : List (List Int × Addr × Value)} (r : RX L xs) : L.map (·.1) = xs.map (·.1) := by
  induction r with
  | nil => rfl
  | cons h t ih => rw [List.map_cons, List.map_cons, ih, h.1]
theorem RX.refs {L : List DRow} {xs : List (List Int × Addr × Value)} (r : RX L xs) : (L.map fun q => Value.ref q.2.1) = xs.map fun q => Value.ref q.2.1 := by
  induction r with
  | nil => rfl
  | cons h t ih => rw [List.map_cons, List.map_cons, ih, h.2.1]
theorem cr_sortK (hc : X.calm = true) : CallR X (.builtin "sorted") (rSortK X.K X.prog X.w) := by
  intro pins s σ H vs us Q I r h
  obtain ⟨a, L, d, B, rfl, ha, hk, h64, hd, hB, q⟩ := h
  rw [Vals.ref1 r]
  obtain ⟨lo, hz, xs, rel, o, es, ep, ho, hx, hdt, he, hn⟩ := (show DicT X.prog X.w a L s.heap from (I.hok a _ ha).1)
  have l1 : es.size = xs.length := size_of_entries he
  have l2 : L.length = xs.length := Paired.length rel
  refine Calls.call_function_entry PyProof.Rows.kind_sorted PyProof.Rows.plain_sorted PyProof.Rows.entry_sorted (PyProof.Rows.args_sorted1 _) ?_
  unfold Builtin.«sorted»
  refine wpAny_bind (m := checkCount "sorted" 1 1 _) (wpAny_pure ?_)
  refine wpAny_bind (PySem.W.kdu_collect (A := X.A.in1) (kdl_raw lo hx hdt) (I.ok.hd hc) ho (by omega) fun h' tk acc hkp it => ?_)
  have ea : acc.toList = L.map fun q => Value.ref q.2.1 := by
    rw [RX.refs rel]
    have hl : acc.toList.length = xs.length := by rw [Array.length_toList, it.1]; exact l1
    apply List.ext_getElem?
    intro j
    rw [List.getElem?_map]
    cases hj : acc.toList[j]? with
    | none =>
      have h1 := List.getElem?_eq_none_iff.mp hj
      rw [List.getElem?_eq_none (by omega)]
      all_goals rfl
    | some v =>
      obtain ⟨en, hen, hv⟩ := it.2 j v (by rw [← Array.getElem?_toList]; exact hj)
      have qe := entry_at he j
      rw [hen] at qe
      cases hb : xs[j]? with
      | none =>
        rw [hb] at qe
        exact nomatch (show some en = none from qe)
      | some b =>
        rw [hb] at qe
        have e2 : en = entryOfKey (tupleKind (intKind X.prog X.w)) b := Option.some.inj qe
        rw [hv, e2]
        all_goals rfl
  have hal : acc.toList.length = L.length := by rw [ea, List.length_map]
  have I1 : L2.Inv X pins σ H { s with heap := h', toks := tk } := I.kept hkp
  refine wpAny_bind (wpAny_newList ?_ (by rw [hal, sizeLine_eq]; omega))
  have hoL : (h'.push (seqObj "list" acc.toList.toArray 0)).get? h'.objs.size = some (seqObj "list" acc.toList.toArray 0) := Heap.get?_push_size _ rfl
  show wpAny _ _ _ _ _ { s with heap := h'.push (seqObj "list" acc.toList.toArray 0), toks := tk }
  have tk1 : ∀ q ∈ L, TS.TupInts (h'.push (seqObj "list" acc.toList.toArray 0)) (.ref q.2.1) q.1 := fun q hq => tupInts_of (P := X.prog) (w := X.w) (isT_keep (I1.isT (hk q hq)) fun b u e => Heap.get?_push_of_some _ e)
  have x : TS.TupsOk (h'.push (seqObj "list" acc.toList.toArray 0)) d B acc.toList := fun v hv => by
    rw [ea] at hv
    obtain ⟨q, hq, e⟩ := List.mem_map.mp hv
    rw [← e]
    exact ⟨q.1, tk1 q hq, (hB q hq).1, (hB q hq).2⟩
  refine wpAny_bind (wpAny_holding (wpAny_call_entry PyProof.Rows.slot_list_sort ⟨_, hoL, rfl⟩ PyProof.Rows.entry_list_sort
    (sort_tups2 (s := { s with heap := h'.push (seqObj "list" acc.toList.toArray 0), toks := tk }) hoL (by rw [hal]; exact h64) (fun z => hd (by rw [← hal]; exact z)) x (fun v => TS.code B (TS.intsOf (h'.push (seqObj "list" acc.toList.toArray 0)) v)) (fun v _ ns t => by
      show TS.code B (TS.intsOf _ v) = TS.code B ns
      rw [t.ints]) fun out a1 a2 => ⟨_, rfl, ?_⟩) (PyProof.Rows.args_list_sort _)))
  rw [ea] at a1
  obtain ⟨L', pL, eL⟩ := order_of (fun q : DRow => Value.ref q.2.1) out.toList L a1
  have pw : L'.Pairwise (fun q r => TS.code B q.1 ≤ TS.code B r.1) := by
    rw [eL] at a2
    refine List.Pairwise.imp_of_mem (fun {q r} hq hr hle => ?_) (List.pairwise_map.mp a2)
    have f1 := (tk1 q (pL.mem_iff.mp hq)).ints
    have f2 := (tk1 r (pL.mem_iff.mp hr)).ints
    have hle' : TS.code B (TS.intsOf (h'.push (seqObj "list" acc.toList.toArray 0)) (.ref q.2.1)) ≤ TS.code B (TS.intsOf (h'.push (seqObj "list" acc.toList.toArray 0)) (.ref r.2.1)) := hle
    rw [f1, f2] at hle'
    exact hle'
  obtain ⟨e', he'⟩ := PyProof.Rows.sortedHeap_at (vs := acc.toList) (out := out) hoL
  have hlen : (L'.map fun q => V.ref q.2.1).length ≤ sizeLine := by
    rw [List.length_map, pL.length_eq]
    exact Nat.le_trans (Nat.le_of_lt h64) (by decide)
  have rv : Vals (L'.map fun q => V.ref q.2.1) out.toList := by
    rw [eL]
    have z := vals_refs (L'.map (·.2.1))
    rw [List.map_map, List.map_map] at z
    exact z
  refine wpAny_pure ⟨_, rfl, .ref h'.objs.size, upd H h'.objs.size (.lst (L'.map fun q => V.ref q.2.1)), I1.laid (t' := tk) (fun b u e => ?_) (Nat.le_refl _)
    (show ObjOk X.prog X.w _ _ _ (.lst (L'.map fun q => V.ref q.2.1)) from ⟨hlen, out.toList, e', rv, by rw [Array.toArray_toList]; exact he'⟩), rfl, q L' _ pL (by rw [RX.keys rel]; exact hn) pw (I1.hok.fresh (Nat.le_refl _))⟩
  have hb : b < h'.objs.size := Heap.lt_size e
  rw [PyProof.Rows.sortedHeap_old (Nat.ne_of_lt hb) (by rw [size_push']; exact Nat.lt_succ_of_lt hb)]
  exact Heap.get?_push_of_some _ e
end
end SK

set_option Elab.async false
set_option linter.all false
set_option maxRecDepth 100000
set_option maxHeartbeats 4000000
namespace SK
open PySem L2
abbrev Kvs := List (List Int × Int)
def getI (kvs : Kvs) (k : List Int) : Option Int := (kvs.find? fun r => decide (r.1 = k)).map (·.2)
def putI (kvs : Kvs) (k : List Int) (v : Int) : Kvs := if (getI kvs k).isSome then kvs.map (fun r => if r.1 = k then (r.1, v) else r) else kvs ++ [(k, v)]
theorem getI_pos {p : List Int × Int} {r : Kvs} {k : List Int} (e : p.1 = k) : getI (p :: r) k = some p.2 := by simp [getI, List.find?_cons, e]
theorem getI_neg {p : List Int × Int} {r : Kvs} {k : List Int} (e : ¬ p.1 = k) : getI (p :: r) k = getI r k := by simp [getI, List.find?_cons, e]
theorem rows_nil_l {L : List DRow} (h : L.map (fun p => (p.1, p.2.2)) = []) : L = [] := List.map_eq_nil_iff.mp h
theorem rows_val (k : List Int) : ∀ {L : List DRow} {kvs : Kvs}, L.map (fun p => (p.1, p.2.2)) = kvs.map (fun p => (p.1, V.int p.2)) → valD L k = (getI kvs k).map V.int
  | [], [], _ => rfl
  | [], _ :: _, h => by cases h
  | _ :: _, [], h => by cases h
  | p :: L, q :: kvs, h => by
    rw [List.map_cons, List.map_cons] at h
    injection h with h1 h2
    have e1 : p.1 = q.1 := congrArg Prod.fst h1
    have e2 : p.2.2 = V.int q.2 := congrArg Prod.snd h1
    by_cases e : p.1 = k
    · rw [valD_pos e, getI_pos (e1.symm.trans e), e2]; rfl
    · rw [valD_neg e, getI_neg fun z => e (e1.trans z)]
      exact rows_val k h2
theorem rows_put (k : List Int) (b : Addr) (v : Int) {L : List DRow} {kvs : Kvs} (h : L.map (fun p => (p.1, p.2.2)) = kvs.map (fun p => (p.1, V.int p.2))) : (putD L k b (.int v)).map (fun p => (p.1, p.2.2)) = (putI kvs k v).map (fun p => (p.1, V.int p.2)) := by
  unfold putD putI
  rw [rows_val k h, Option.isSome_map]
  by_cases e : (getI kvs k).isSome = true
  · rw [if_pos e, if_pos e]
    clear e
    induction L generalizing kvs with
    | nil =>
      cases kvs with
      | nil => rfl
      | cons _ _ => cases h
    | cons p L ih =>
      cases kvs with
      | nil => cases h
      | cons q kvs =>
        rw [List.map_cons, List.map_cons] at h
        injection h with h1 h2
        have e1 : p.1 = q.1 := congrArg Prod.fst h1
        have e2 : p.2.2 = V.int q.2 := congrArg Prod.snd h1
        rw [List.map_cons, List.map_cons, List.map_cons, List.map_cons, ih h2]
        by_cases e : p.1 = k
        · rw [if_pos e, if_pos (e1.symm.trans e), e1]
        · rw [if_neg e, if_neg fun z => e (e1.trans z), e1, e2]
  · rw [if_neg e, if_neg e, List.map_append, List.map_append, h]
    rfl
theorem DRows.put {M : Hp} {L : List DRow} {kvs : Kvs} {k : List Int} {b : Addr} {v : Int} (r : DRows M L kvs) (hb : Rep M (.ktp (k.map D.int)) (.ref b)) : DRows M (putD L k b (.int v)) (putI kvs k v) := by
  refine ⟨rows_put k b v r.1, fun p hp => ?_⟩
  unfold putD at hp
  split at hp
  · obtain ⟨q, hq, e⟩ := List.mem_map.mp hp
    have := r.2 q hq
    split at e <;> subst e <;> exact this
  · rcases List.mem_append.mp hp with m | m
    · exact r.2 p m
    · rw [List.mem_singleton.mp m]
      exact hb
theorem ktp_sq {K : PySem.W.Frag} {M H : Hp} {k : List Int} {v : V} (e : Ex M H) (r : Rep M (.ktp (k.map D.int)) v) : ∃ b, v = .ref b ∧ SqT K H b (k.map V.int) := by
  obtain ⟨a, o, us, e1, e2, _, r2⟩ := r.ktp_
  rw [r2.ints] at e2
  exact ⟨a, e1, .inl (.inr ⟨o, e _ _ e2⟩)⟩
theorem DRows.keys {K : PySem.W.Frag} {M H : Hp} {L : List DRow} {kvs : Kvs} (e : Ex M H) (r : DRows M L kvs) : KeysOk K H L := fun p hp => by
  obtain ⟨b, e1, h⟩ := ktp_sq (K := K) e (r.2 p hp)
  cases e1
  exact h
theorem DRows.len {M : Hp} {L : List DRow} {kvs : Kvs} (r : DRows M L kvs) : L.length = kvs.length := by
  have h := congrArg List.length r.1
  rw [List.length_map, List.length_map] at h
  exact h
section
variable {ρ : Env} {ta tb tc te ty tx : TE} {d x y z : D} {Φ Ψ : D → Prop} {t u w : TS} {K : PySem.W.Frag} {P : Post} {Pr : Program} {wd : World} {kvs : Kvs} {k : List Int}
/-- name = {} -/
theorem sq_asgK {j : Nat} (hj : j < ρ.length) (k : SW u (ρ.set j (some (.dic Pr wd []))) P) : SW (tSeq (tAsg (tKNew Pr wd) (gName j)) u) ρ P := fun st B M0 H0 M H σ E s p => fun l hl => by
  have hm : M l = none := s.sr.w.ex.back hl
  have hst : st ≠ some l := fun z => by
    obtain ⟨_, _, _, e, _⟩ := s.sr.w.sto l z
    rw [hl] at e
    cases e
  have hB0 : H0 l = none ∧ ¬ B l := by
    by_cases nb : B l
    · exact absurd hl (s.be l nb)
    · refine ⟨?_, nb⟩
      cases q : H0 l with
      | none => rfl
      | some o =>
        rw [s.h l o q nb] at hl
        cases hl
  exact k st B M0 H0 M _ _ E ((s.tr (.newO (o := DicO Pr wd l []) s.sr.w hl)).setO ⟨l, [], rfl, hst, upd_same, hm, rfl, fun p hp => by cases hp⟩ hj rfl hB0 fun i y _ e m => fresh_ap s.sr hl i y e m) p
theorem dic_at' {st : Option Addr} {M H : Hp} {σ : L2.St} {j : Nat} (s : SR st M H σ ρ) (hj : ρ[j]? = some (some (.dic Pr wd kvs))) : ∃ l L, σ[j]? = some (some (.ref l)) ∧ st ≠ some l ∧ H l = some (DicO Pr wd l L) ∧ M l = none ∧ DRows M L kvs := by
  obtain ⟨v, e, l, L, e1, e2, e3, e4, r⟩ := s.sl j _ hj
  subst e1
  exact ⟨l, L, e, e2, e3, e4, r⟩
/-- d.get(k, i) -/
theorem ev_kget2 {j : Nat} {i : Int} (hj : ρ[j]? = some (some (.dic Pr wd kvs))) (hy : EvV ty ρ (.ktp (k.map D.int))) (hx : EvV tx ρ (.int i)) : EvV (tKGet2 K Pr wd (tVar j) ty tx) ρ (.int ((getI kvs k).getD i)) := fun st σ M H s Q q => by
  obtain ⟨l, L, e, e2, e3, e4, r⟩ := dic_at' s hj
  refine ⟨_, e, l, rfl, ⟨L, e3⟩, ?_⟩
  refine hy st σ M H s _ fun v d M1 H1 T1 r1 f1 => ?_
  subst f1
  refine hx st σ M1 H1 (s.tr T1) _ fun v2 d2 M2 H2 T2 r2 f2 => ?_
  subst f2
  have s2 := (s.tr T1).tr T2
  obtain ⟨l', L', e', e2', e3', e4', r'⟩ := dic_at' s2 hj
  rw [e] at e'
  cases e'
  obtain ⟨b, eb, hb⟩ := ktp_sq (K := K) T2.w.ex (Rep.mono T2.m _ _ r1)
  refine ⟨b, L', k, eb, e3', r'.keys T2.w.ex, hb, ?_⟩
  rw [r2.int_, rows_val k r'.1]
  refine q _ (.int ((getI kvs k).getD i)) M2 H2 (T1.trans T2) ?_ rfl
  cases getI kvs k with
  | none => exact rep_int
  | some n => exact rep_int
/-- d[k] -/
theorem ev_kget {j : Nat} {i : Int} (hj : ρ[j]? = some (some (.dic Pr wd kvs))) (hy : EvV ty ρ (.ktp (k.map D.int))) (hi : getI kvs k = some i) : EvV (tKGet K Pr wd (tVar j) ty) ρ (.int i) := fun st σ M H s Q q => by
  obtain ⟨l, L, e, _⟩ := dic_at' s hj
  refine ⟨_, e, ?_⟩
  refine hy st σ M H s _ fun v d M1 H1 T1 r1 f1 => ?_
  subst f1
  obtain ⟨l', L', e', e2', e3', e4', r'⟩ := dic_at' (s.tr T1) hj
  rw [e] at e'
  cases e'
  obtain ⟨b, eb, hb⟩ := ktp_sq (K := K) T1.w.ex r1
  exact ⟨l, b, L', k, .int i, rfl, eb, e3', r'.keys T1.w.ex, hb, by rw [rows_val k r'.1, hi]; rfl, q _ _ M1 H1 T1 rep_int rfl⟩
/-- d[k] = i -/
theorem sq_kput {j : Nat} {i : Int} (hj : ρ[j]? = some (some (.dic Pr wd kvs))) (hx : EvV tx ρ (.int i)) (hy : EvV ty ρ (.ktp (k.map D.int))) (hl : kvs.length ≤ 1000) (h : SW u (ρ.set j (some (.dic Pr wd (putI kvs k i)))) P) : SW (tSeq (sKPut K Pr wd (tVar j) ty tx) u) ρ P := fun st B M0 H0 M H σ E s p => by
  refine hx st σ M H s.sr _ fun v d M1 H1 T1 r1 f1 => ?_
  subst f1
  have s1 := s.tr T1
  obtain ⟨l, L, e, _⟩ := dic_at' s1.sr hj
  refine ⟨_, e, ?_⟩
  refine hy st σ M1 H1 s1.sr _ fun v2 d2 M2 H2 T2 r2 f2 => ?_
  subst f2
  have s2 := s1.tr T2
  obtain ⟨l', L', e', e2', e3', e4', r'⟩ := dic_at' s2.sr hj
  rw [e] at e'
  cases e'
  obtain ⟨b, eb, hb⟩ := ktp_sq (K := K) T2.w.ex r2
  subst eb
  refine ⟨l, b, L', k, rfl, rfl, e3', r'.keys T2.w.ex, hb, by rw [r'.len]; exact Nat.lt_of_le_of_lt hl (by decide), ?_⟩
  rw [r1.int_]
  exact h st B M0 H0 M2 _ σ E (s2.chg (x' := .dic Pr wd (putI kvs k i)) hj trivial e e3' e2' e4' rfl ⟨l, _, rfl, e2', upd_same, e4', r'.put r2⟩ trivial) p
/-- sorted(d) -/
theorem ef_sortK {j d : Nat} {B : Int} (hj : ρ[j]? = some (some (.dic Pr wd kvs))) (h64 : kvs.length < 64) (hd : 2 ≤ kvs.length → 1 ≤ d) (hB : ∀ p ∈ kvs, p.1.length = d ∧ TS.Bd B p.1) :
    EvF (tCB (rSortK K Pr wd) (tCons (tVar j) tNil)) ρ (fun ds => ∃ ks : List (List Int), ds = ks.map (fun k => .ktp (k.map D.int)) ∧ ks.Perm (kvs.map (·.1)) ∧ ks.Pairwise (fun a b => TS.code B a ≤ TS.code B b) ∧ (kvs.map (·.1)).Nodup) := fun st σ M H s Q q => by
  obtain ⟨l, L, e, e2, e3, e4, r⟩ := dic_at' s hj
  have ek : L.map (·.1) = kvs.map (·.1) := by
    have h := congrArg (List.map Prod.fst) r.1
    rw [List.map_map, List.map_map] at h
    exact h
  refine ⟨_, e, ?_⟩
  refine ⟨l, L, d, B, rfl, e3, r.keys s.w.ex, by rw [r.len]; exact h64, fun z => hd (by rw [← r.len]; exact z), fun p hp => ?_, fun L' p pL nd pw hp => ?_⟩
  · have hm : p.1 ∈ kvs.map (·.1) := by
      rw [← ek]
      exact List.mem_map.mpr ⟨p, hp, rfl⟩
    obtain ⟨q, hq, eq⟩ := List.mem_map.mp hm
    rw [← eq]
    exact hB q hq
  · have hm : M p = none := s.w.ex.back hp
    refine q p (L'.map fun q => V.ref q.2.1) (L'.map fun q => .ktp (q.1.map D.int)) M _ (.newO s.w hp) hp upd_same hm ?_ ⟨L'.map (·.1), by rw [List.map_map]; rfl, ?_, ?_, ?_⟩
    · have all : ∀ m : List DRow, (∀ q ∈ m, q ∈ L) → Reps M (m.map fun q => .ktp (q.1.map D.int)) (m.map fun q => V.ref q.2.1) := by
        intro m
        induction m with
        | nil => intro _; exact .nil
        | cons q m ih => intro h; exact .cons (r.2 q (h q (List.mem_cons_self ..))) (ih fun z hz => h z (List.mem_cons_of_mem _ hz))
      exact all L' fun q hq => pL.mem_iff.mp hq
    · rw [← ek]
      exact pL.map _
    · exact List.pairwise_map.mpr pw
    · rw [← ek]
      exact nd
end
end SK

set_option Elab.async false
set_option linter.all false
set_option maxRecDepth 100000
set_option maxHeartbeats 4000000
namespace SK
open PySem PySem.Spec PyProof.Rows L2
/-! ### zip and enumerate of lists and tuples in any mix -/
def SqB (k : Bool) (K : PySem.W.Frag) (H : Hp) (a : Addr) (xs : List V) : Prop := match k with
  | true => SqL K H a xs
  | false => SqT K H a xs
def IterB (k : Bool) (h : Heap) (it l : Addr) (i : Nat) : Prop := match k with
  | true => h.IsListIter it l i
  | false => h.IsTupleIter it l i
def SeqB (k : Bool) (h : Heap) (l : Addr) (items : Array Value) : Prop := match k with
  | true => h.IsList l items
  | false => h.IsTuple l items
def itObj (k : Bool) (l : Addr) : Obj := match k with
  | true => { cls := .type "list_iterator", data := .fields #[.ref l, .int 0 0] }
  | false => { cls := .type "tuple_iterator", data := .fields #[.ref l, .int 0 0] }
theorem begB (k : Bool) (l : Addr) (items : Array Value) : Begins (.ref l) (itObj k l) fun h => SeqB k h l items := by
  cases k with
  | true => exact begins_list l items
  | false => exact begins_tuple l items
theorem drawsB {prog : Program} {w : World} {A : Around} (k : Bool) (hh : A.handled = none) (it l : Addr) (hne : l ≠ it) (items : Array Value) : Draws prog w A it [it, l] items.size (fun i v => items[i]? = some v) (fun i h => IterB k h it l i ∧ SeqB k h l items) := by
  cases k with
  | true => exact Draws.list hh it l hne items
  | false => exact Draws.tuple hh it l hne items
theorem IterB.at {k : Bool} {h h' : Heap} {it l : Addr} {i : Nat} (x : IterB k h it l i) (e : ∀ o, h.get? it = some o → h'.get? it = some o) : IterB k h' it l i := by
  cases k with
  | true => exact Heap.IsListIter.at x e
  | false => exact Heap.IsTupleIter.at x e
theorem IterB.new {k : Bool} {h : Heap} {it l : Addr} (e : h.get? it = some (itObj k l)) : IterB k h it l 0 := by
  cases k with
  | true => exact ⟨_, e, rfl, rfl⟩
  | false => exact ⟨_, e, rfl, rfl⟩
theorem IterB.obj {k : Bool} {h : Heap} {it l : Addr} {i : Nat} (x : IterB k h it l i) : ∃ o, h.get? it = some o ∧ o.data = .fields #[.ref l, .int i 0] := by
  cases k with
  | true => obtain ⟨o, e, _, d⟩ := x; exact ⟨o, e, d⟩
  | false => obtain ⟨o, e, _, d⟩ := x; exact ⟨o, e, d⟩
section
variable {X : Cx} {pins : List (Addr × Obj)} {σ : L2.St} {H : Hp} {s : Shared} {a : Addr} {xs ys : List V} {k : Bool}
theorem inv_seqB (I : L2.Inv X pins σ H s) (h : SqB k X.K H a xs) : ∃ its : List Value, Vals xs its ∧ SeqB k s.heap a its.toArray ∧ a < s.heap.objs.size ∧ xs.length ≤ sizeLine := by
  cases k with
  | true =>
    obtain ⟨its, r, p, z⟩ := I.list h
    exact ⟨its, r, p.isList, p.lt, z⟩
  | false =>
    obtain ⟨its, r, p, z⟩ := I.tuple h
    exact ⟨its, r, p, p.lt, z⟩
theorem seqB_inj (I : L2.Inv X pins σ H s) (h : SqB k X.K H a xs) (h' : SqB k X.K H a ys) : xs = ys := by
  cases k with
  | true => exact I.list_inj h h'
  | false => exact I.tuple_inj h h'
end
def ItzB (K : PySem.W.Frag) (k1 k2 : Bool) (a b : Addr) : It :=
  ⟨fun i H => ∃ (xs ys : List V) (x y : V), SqB k1 K H a xs ∧ SqB k2 K H b ys ∧ xs[i]? = some x ∧ ys[i]? = some y,
    fun i H v H' => ∃ T x y, v = .ref T ∧ H T = none ∧ H' = upd H T (.tup [x, y]) ∧ (∀ xs, SqB k1 K H a xs → xs[i]? = some x) ∧ ∀ ys, SqB k2 K H b ys → ys[i]? = some y,
    fun i H => ∃ xs ys : List V, SqB k1 K H a xs ∧ SqB k2 K H b ys ∧ i ≤ xs.length ∧ i ≤ ys.length ∧ (xs.length ≤ i ∨ ys.length ≤ i)⟩
theorem turn_zipB {P : Program} {w : World} {K : PySem.W.Frag} {elts : List Expr} {kk : Nat} {tpos : Pos} {k1 k2 : Bool} {a b z TI TO i1 i2 : Addr} (ai1 : a ≠ i1) (bi2 : b ≠ i2) (i1z : i1 ≠ z) (i2z : i2 ≠ z) (D : ZipSep2 z TI TO i1 i2 [i1, a] [i2, b]) :
    Turn P w K (.Tuple elts kk tpos) (ItzB K k1 k2 a b) [z, TI, TO, i1, i2] z (fun i h => IsZip h z TI TO .none ∧ IsTupOf2 h TI (.ref i1) (.ref i2) ∧ (∃ x y, IsTupOf2 h TO x y) ∧ IterB k1 h i1 a i ∧ IterB k2 h i2 b i) where
  mem := by simp
  obj := fun i h st c hc => by
    obtain ⟨hz, hTI, ⟨x, y, hTO⟩, h1, h2⟩ := st
    obtain ⟨o1, e1, d1⟩ := h1.obj
    obtain ⟨o2, e2, d2⟩ := h2.obj
    have e' : c = z ∨ c = TI ∨ c = TO ∨ c = i1 ∨ c = i2 := by simpa using hc
    rcases e' with q | q | q | q | q
    · rw [q]; exact ⟨_, hz, fun v q => nomatch q⟩
    · rw [q]; exact ⟨_, hTI, fun v q => nomatch q⟩
    · rw [q]; exact ⟨_, hTO, fun v q => nomatch q⟩
    · rw [q]; exact ⟨o1, e1, fun v q => by rw [d1] at q; cases q⟩
    · rw [q]; exact ⟨o2, e2, fun v q => by rw [d2] at q; cases q⟩
  keep := fun i h h' st k => by
    obtain ⟨hz, hTI, ⟨x, y, hTO⟩, h1, h2⟩ := st
    exact ⟨k z (by simp) _ hz, k TI (by simp) _ hTI, ⟨x, y, k TO (by simp) _ hTO⟩, h1.at fun o q => k i1 (by simp) o q, h2.at fun o q => k i2 (by simp) o q⟩
  item := by
    intro X hP hw hK hc i pins s σ H E I hf st hg
    subst hP hw hK
    obtain ⟨hz, hTI, ⟨x0, y0, hTO⟩, h1, h2⟩ := st
    obtain ⟨xs, ys, x, y, hqx, hqy, hx, hy⟩ := hg
    obtain ⟨its, rv, p, _⟩ := inv_seqB I hqx
    obtain ⟨its2, rv2, p2, _⟩ := inv_seqB I hqy
    obtain ⟨u, hu, ru⟩ := rv.get hx
    obtain ⟨u2, hu2, ru2⟩ := rv2.get hy
    have hzl : z < s.heap.objs.size := Heap.lt_size hz
    refine wpAny_pyNext_zipD2_item (i := i) D (drawsB (A := X.A.in1) k1 (I.ok.hd hc) i1 a ai1 its.toArray) (drawsB (A := X.A.in1) k2 (I.ok.hd hc) i2 b bi2 its2.toArray) hz hTI hTO ⟨h1, p⟩ ⟨h2, p2⟩ (by have := (List.getElem?_eq_some_iff.mp hu).1; simpa using this) (by have := (List.getElem?_eq_some_iff.mp hu2).1; simpa using this) fun v1 v2 h' tk e1 e2 z' TO' st1 st2 hT hsz hk => ?_
    have e1' : v1 = u := by
      have e1 : its.toArray[i]? = some v1 := e1
      rw [List.getElem?_toArray, hu] at e1
      exact (Option.some.inj e1).symm
    have e2' : v2 = u2 := by
      have e2 : its2.toArray[i]? = some v2 := e2
      rw [List.getElem?_toArray, hu2] at e2
      exact (Option.some.inj e2).symm
    subst e1' e2'
    refine ⟨_, rfl, wpAny_letOwnedTupleGo_zip (s := { s with heap := h', toks := tk }) z' fun h'' z'' sb => ?_⟩
    have hT2 : h''.get? s.heap.objs.size = some { cls := .type "tuple", data := .seq #[v1, v2] } := (sb.2 _ (Nat.ne_of_gt hzl)).trans hT
    have new : ObjOk X.prog X.w (upd H s.heap.objs.size (.tup [x, y])) h'' s.heap.objs.size (.tup [x, y]) :=
      ⟨by show 2 ≤ sizeLine; decide, [v1, v2], .cons ru (.cons ru2 .nil), ⟨_, hT2, rfl, _, rfl⟩⟩
    have I1 : L2.Inv X pins σ (upd H s.heap.objs.size (.tup [x, y])) { s with heap := h'', toks := tk } :=
      I.turnedNew (t' := tk) (ch := [z, TI, TO, i1, i2]) (fun c o hb q => (sb.2 c (fun q' => hb (by simp [q']))).trans (hk c o (fun q' => hb (by simp [q'])) (fun q' => hb (by simp [q'])) (fun q' => hb (by simp [q'])) (fun q' => hb (by simp [q'])) q)) hf (Nat.le_refl _) new
    refine ⟨.ref s.heap.objs.size, _, I1, rfl, ⟨_, x, y, rfl, I.hok.fresh (Nat.le_refl _), rfl, fun l hl => by rw [seqB_inj I hl hqx]; exact hx, fun l hl => by rw [seqB_inj I hl hqy]; exact hy⟩, ⟨z'', ?_, ⟨v1, v2, ?_⟩, ?_, ?_⟩, fun c hcm => ?_⟩
    · exact (sb.2 _ D.TIz).trans (hk _ _ D.TIz D.TITO D.TIi1 D.TIi2 hTI)
    · exact (sb.2 _ D.TOz).trans TO'
    · exact st1.1.at fun o q => (sb.2 _ i1z).trans q
    · exact st2.1.at fun o q => (sb.2 _ i2z).trans q
    · have hlt : c < s.heap.objs.size := by
        have e' : c = z ∨ c = TI ∨ c = TO ∨ c = i1 ∨ c = i2 := by simpa using hcm
        rcases e' with q | q | q | q | q
        · rw [q]; exact hzl
        · rw [q]; exact Heap.lt_size hTI
        · rw [q]; exact Heap.lt_size hTO
        · rw [q]; obtain ⟨_, e1, _⟩ := h1.obj; exact Heap.lt_size e1
        · rw [q]; obtain ⟨_, e2, _⟩ := h2.obj; exact Heap.lt_size e2
      rw [upd_ne (Nat.ne_of_lt hlt)]
      exact (hf c hcm).1
  done := by
    intro X hP hw hK hc i pins s σ H E I hf st hg
    subst hP hw hK
    obtain ⟨hz, hTI, ⟨x0, y0, hTO⟩, h1, h2⟩ := st
    obtain ⟨xs, ys, hqx, hqy, le1, le2, hend⟩ := hg
    obtain ⟨its, rv, p, _⟩ := inv_seqB I hqx
    obtain ⟨its2, rv2, p2, _⟩ := inv_seqB I hqy
    have l1 := rv.length
    have l2 := rv2.length
    refine wpAny_pyNext_zipD2_end (i := i) D (drawsB (A := X.A.in1) k1 (I.ok.hd hc) i1 a ai1 its.toArray) (drawsB (A := X.A.in1) k2 (I.ok.hd hc) i2 b bi2 its2.toArray) hz hTI hTO ⟨h1, p⟩ ⟨h2, p2⟩ (by simp; omega) (by simp; omega) (by simp; omega) fun h' tk hk => ⟨rfl, I.turnedL (t' := tk) (ch := [z, TI, TO, i1, i2]) (fun c o hb q =>
      hk c o (fun q' => hb (by simp [q'])) (fun q' => hb (by simp [q'])) (fun q' => hb (by simp [q'])) (fun q' => hb (by simp [q'])) q) hf⟩
  self := fun A i s Q E st h => wpAny_pyIter_zip st.1 h
theorem ne_ad {n a : Nat} (h : a < n) (k : Nat) : a ≠ n + k := by omega
theorem ne_sc (n i j : Nat) (h : i ≠ j) : n + i ≠ n + j := by omega
theorem nmem2 {x y z : Nat} (h : x ≠ y) (h2 : x ≠ z) : x ∉ [y, z] := by
  intro m
  rcases List.mem_cons.mp m with e | m
  · exact h e
  · exact h2 (List.mem_singleton.mp m)
theorem sep_of {n a b : Nat} (ha : a < n) (hb : b < n) : ZipSep2 (n + 4) (n + 2) (n + 3) n (n + 1) [n, a] [n + 1, b] :=
  ⟨ne_sc n 2 4 (by decide), ne_sc n 3 4 (by decide), ne_sc n 2 3 (by decide), ne_sc n 2 0 (by decide), List.mem_cons_self .., nmem2 (ne_sc n 4 0 (by decide)) (ne_ad ha 4).symm, nmem2 (ne_sc n 3 0 (by decide)) (ne_ad ha 3).symm,
    ne_sc n 2 1 (by decide), List.mem_cons_self .., nmem2 (ne_sc n 4 1 (by decide)) (ne_ad hb 4).symm, nmem2 (ne_sc n 3 1 (by decide)) (ne_ad hb 3).symm, nmem2 (ne_sc n 0 1 (by decide)) (ne_ad hb 0).symm, nmem2 (ne_sc n 1 0 (by decide)) (ne_ad ha 1).symm⟩
def iZipS (K : PySem.W.Frag) (ta : TA) : TI := fun σ H R => ta σ H fun vs H1 => ∃ k1 k2 a b xs ys, vs = [.ref a, .ref b] ∧ SqB k1 K H1 a xs ∧ SqB k2 K H1 b ys ∧ R (ItzB K k1 k2 a b) H1
theorem pi_zipS {X : Cx} {e e2 : Expr} {ta : TA} {p pos tpos : Pos} {elts : List Expr} {kk : Nat} (hg : Gl X "zip") (hm : X.mg "zip" = none) (ha : PA X [e, e2] ta)
    (hs : starEach [e, e2] X.env = (false, eval e X.env) :: starEach [e2] X.env := by rfl) (hpl : (backTo pos (starEach [e2] X.env)).any (·.1) = false := by rfl) :
    PI X (.Tuple elts kk tpos) (.Call (.Name "zip" p) [e, e2] [] pos) (iZipS X.K ta) := by
  refine ⟨fun pins s σ H R I h => ?_⟩
  refine Call_ (ld_blt I hg hm PyProof.Rows.boot_zip (PyProof.Rows.callWith_type1 (thn (ha.run pos pins s σ H _ I h) fun us s1 ⟨vs, H1, I1, r1, q1⟩ => ?_) hs hpl))
  obtain ⟨k1, k2, a, b, xs, ys, ex, hqx, hqy, q⟩ := q1
  subst ex
  cases r1 with
  | cons r rr =>
    cases rr with
    | cons r' rr =>
      cases rr
      cases r
      cases r'
      have fresh5 : ∀ c, c ∈ [s1.heap.objs.size + 4, s1.heap.objs.size + 2, s1.heap.objs.size + 3, s1.heap.objs.size, s1.heap.objs.size + 1] → FpOk X pins H1 c := fun c hcm => by
        have hle : s1.heap.objs.size ≤ c := by
          have e' : c = s1.heap.objs.size + 4 ∨ c = s1.heap.objs.size + 2 ∨ c = s1.heap.objs.size + 3 ∨ c = s1.heap.objs.size ∨ c = s1.heap.objs.size + 1 := by simpa using hcm
          omega
        exact I1.fpOk hle (I1.hok.fresh hle)
      obtain ⟨its, rv, p1, lt1, _⟩ := inv_seqB I1 hqx
      obtain ⟨its2, rv2, p2, lt2, _⟩ := inv_seqB I1 hqy
      refine zip_begins2 (begB k1 a its.toArray) (begB k2 b its2.toArray) p1 p2 fun h' hz hTI hTO h1 h2 hsz hk => wpAny_pyIter_zip hz ?_
      have I2 : L2.Inv X pins σ H1 { s1 with heap := h' } := I1.kept (t' := s1.toks) hk
      refine ⟨s1.heap.objs.size + 4, [s1.heap.objs.size + 4, s1.heap.objs.size + 2, s1.heap.objs.size + 3, s1.heap.objs.size, s1.heap.objs.size + 1], _, _, H1, rfl, I2, turn_zipB (k1 := k1) (k2 := k2) (a := a) (b := b) (ne_ad lt1 0) (ne_ad lt2 1) (ne_sc _ 0 4 (by decide)) (ne_sc _ 1 4 (by decide)) (sep_of lt1 lt2), ⟨hz, hTI, ⟨_, _, hTO⟩, IterB.new h1, IterB.new h2⟩, fresh5, q⟩
/-- enumerate -/
def IteB (K : PySem.W.Frag) (k : Bool) (a : Addr) : It :=
  ⟨fun i H => ∃ (xs : List V) (x : V), SqB k K H a xs ∧ xs[i]? = some x, fun i H v H' => ∃ T x, v = .ref T ∧ H T = none ∧ H' = upd H T (.tup [.int (i : Nat), x]) ∧ ∀ xs, SqB k K H a xs → xs[i]? = some x, fun i H => ∃ xs : List V, SqB k K H a xs ∧ xs.length = i⟩
theorem turn_enumB {P : Program} {w : World} {K : PySem.W.Frag} {elts : List Expr} {kk : Nat} {tpos : Pos} {k : Bool} (a e it : Addr) (ait : a ≠ it) (ae : a ≠ e) :
    Turn P w K (.Tuple elts kk tpos) (IteB K k a) [e, it] e (fun i h => (∃ old, IsEnum h e it ((i : Nat) : Int) old) ∧ IterB k h it a i ∧ e ≠ it) where
  mem := by simp
  obj := fun i h st b hb => by
    obtain ⟨⟨old, he⟩, h1, _⟩ := st
    obtain ⟨o, ho, hd⟩ := h1.obj
    have e' : b = e ∨ b = it := by simpa using hb
    rcases e' with z | z
    · rw [z]; exact ⟨_, he, fun v q => nomatch q⟩
    · rw [z]; exact ⟨o, ho, fun v q => by rw [hd] at q; cases q⟩
  keep := fun i h h' st k => let ⟨⟨old, he⟩, hi, hne⟩ := st; ⟨⟨old, k e (by simp) _ he⟩, hi.at fun o q => k it (by simp) o q, hne⟩
  item := by
    intro X hP hw hK hc i pins s σ H E I hf st hg
    subst hP hw hK
    obtain ⟨⟨old, he⟩, hit, hne⟩ := st
    obtain ⟨xs, x, hq, hx⟩ := hg
    obtain ⟨its, rv, p, hz⟩ := inv_seqB I hq
    obtain ⟨u, hu, ru⟩ := rv.get hx
    have hel : e < s.heap.objs.size := Heap.lt_size he
    have hil : it < s.heap.objs.size := by obtain ⟨_, q, _⟩ := hit.obj; exact Heap.lt_size q
    refine wpAny_pyNext_enum_itemD (drawsB (A := X.A.in1) k (I.ok.hd hc) it a ait its.toArray) he ⟨hit, p⟩ (by have := (List.getElem?_eq_some_iff.mp hu).1; simpa using this) hne (by simp; exact ⟨hne, Ne.symm ae⟩) fun v h' tk ev ho st' hT hsz hk => ?_
    have ev' : v = u := by
      have ev : its.toArray[i]? = some v := ev
      rw [List.getElem?_toArray, hu] at ev
      exact (Option.some.inj ev).symm
    subst ev'
    refine ⟨_, rfl, wpAny_letOwnedTupleGo_enum (s := { s with heap := h', toks := tk + 1 }) ho fun h'' he' sb => ?_⟩
    have hT2 : h''.get? s.heap.objs.size = some { cls := .type "tuple", data := .seq #[.int i tk, v] } := (sb.2 _ (Nat.ne_of_gt hel)).trans hT
    have new : ObjOk X.prog X.w (upd H s.heap.objs.size (.tup [.int (i : Nat), x])) h'' s.heap.objs.size (.tup [.int (i : Nat), x]) :=
      ⟨by show 2 ≤ sizeLine; decide, [.int i tk, v], .cons ⟨_, rfl⟩ (.cons ru .nil), ⟨_, hT2, rfl, _, rfl⟩⟩
    have I1 : L2.Inv X pins σ (upd H s.heap.objs.size (.tup [.int (i : Nat), x])) { s with heap := h'', toks := tk + 1 } :=
      I.turnedNew (ch := [e, it]) (fun b ob hb q => (sb.2 b (fun z => hb (by simp [z]))).trans (hk b ob (fun z => hb (by simp [z])) (fun z => hb (by simp [z])) q)) hf (Nat.le_refl _) new
    refine ⟨.ref s.heap.objs.size, _, I1, rfl, ⟨_, x, rfl, I.hok.fresh (Nat.le_refl _), rfl, fun ys hy => by rw [seqB_inj I hy hq]; exact hx⟩, ⟨⟨v, ?_⟩, st'.1.at fun o q => (sb.2 it (Ne.symm hne)).trans q, hne⟩, fun b hb => ?_⟩
    · have e1 : ((i + 1 : Nat) : Int) = (i : Int) + 1 := by omega
      rw [e1]; exact he'
    · have hb' : b < s.heap.objs.size := by
        have e' : b = e ∨ b = it := by simpa using hb
        rcases e' with z | z
        · rw [z]; exact hel
        · rw [z]; exact hil
      rw [upd_ne (Nat.ne_of_lt hb')]
      exact (hf b hb).1
  done := by
    intro X hP hw hK hc i pins s σ H E I hf st hg
    subst hP hw hK
    obtain ⟨⟨old, he⟩, hit, hne⟩ := st
    obtain ⟨xs, hq, hx⟩ := hg
    obtain ⟨its, rv, p, hz⟩ := inv_seqB I hq
    obtain ⟨f0, f1, f2, f3, f4, f5⟩ := hf it (by simp)
    have hl := rv.length
    have en : its.toArray.size = i := by simp; omega
    refine wpAny_pyNext_enum_endD (n := its.toArray.size) (drawsB (A := X.A.in1) k (I.ok.hd hc) it a ait its.toArray) he ⟨by rw [en]; exact hit, p⟩ fun h' eb => ⟨rfl, I.turned (t' := s.toks) (fun b o hb q => eb b o hb q) f0 f1 f3 f4 f5⟩
  self := fun A i s Q E st h => let ⟨⟨_, he⟩, _⟩ := st; wpAny_pyIter_enum he h
def iEnumS (K : PySem.W.Frag) (ta : TA) : TI := fun σ H R => ta σ H fun vs H1 => ∃ k a xs, vs = [.ref a] ∧ SqB k K H1 a xs ∧ R (IteB K k a) H1
theorem meets_enumerate_newB1 {v : Value} {o : Obj} {H : Heap → Prop} (B : Begins v o H) :
    Meets (Builtin.«enumerate.__new__» ⟨[.type "enumerate", v], []⟩) (fun _ R s => H s.heap ∧
      R (.ok (.ret (.ref (s.heap.push o).objs.size))) { s with heap := (s.heap.push o).push { cls := .type "enumerate", data := .fields #[.none, .bool false, .ref s.heap.objs.size, rawInt 0, .none, .none] } }) :=
  .of_wp fun prog w A R s h => by
    obtain ⟨hp, g, d, tk, os⟩ := s; obtain ⟨h1, h⟩ := h
    have hsub := sub_enumerate
    have q1 : ∀ {A' : Around} {E : Value → Shared → Prop} {Q : Value → Shared → Prop}, Q (.ref hp.objs.size) ⟨hp.push o, g, d, tk, os⟩ → wpAny (model prog w) A' (pyIter v) Q E ⟨hp, g, d, tk, os⟩ :=
      fun q => B.iter prog w _ _ ⟨hp, g, d, tk, os⟩ _ h1 q
    wp_walk using q1
    refine wpAny_stack_any fun st => wpAny_pure ?_
    split
    · rename_i c _ _ _ _ _
      cases (c == Value.type "enumerate")
      · wp_walk using q1
        exact ⟨_, rfl, h⟩
      · wp_walk using q1
        exact ⟨_, rfl, h⟩
    · wp_walk using q1
      exact ⟨_, rfl, h⟩
theorem enum_begins1 {prog : Program} {w : World} {A : Around} {E : Value → Shared → Prop} {s : Shared} {v : Value} {o : Obj} {H : Heap → Prop} {Q : Value → Shared → Prop} (B : Begins v o H) (h1 : H s.heap)
    (h : ∀ h', IsEnum h' (s.heap.objs.size + 1) s.heap.objs.size 0 .none → h'.get? s.heap.objs.size = some o → h'.objs.size = s.heap.objs.size + 2 →
      (∀ b o, s.heap.get? b = some o → h'.get? b = some o) → Q (.ref (s.heap.objs.size + 1)) { s with heap := h' }) :
    wpAny (model prog w) A (call (.type "enumerate") [v]) Q E s := by
  refine callType_new F.called_enumerate (by decide) (F.typeCall_enumerate_1 _) (F.newCall_enumerate_1 _) (fun obj => F.args_object_init_2 obj _) F.entry_enumerate_new
    (meets_enumerate_newB1 B) ⟨h1, ?_⟩
  have hz : (s.heap.push o).objs.size = s.heap.objs.size + 1 := Heap.size_push ..
  show _ ∧ _
  rw [hz]
  have he : IsEnum ((s.heap.push o).push { cls := .type "enumerate", data := .fields #[.none, .bool false, .ref s.heap.objs.size, rawInt 0, .none, .none] }) (s.heap.objs.size + 1) s.heap.objs.size 0 .none := by
    have := Heap.get?_push_size (s.heap.push o) (o := { cls := .type "enumerate", data := .fields #[.none, .bool false, .ref s.heap.objs.size, rawInt 0, .none, .none] }) rfl
    rw [hz] at this; exact this
  exact ⟨⟨_, he, rfl⟩, h _ he (Heap.get?_push_of_some _ (Heap.get?_push_size _ B.free)) (by rw [Heap.size_push, hz]) fun b o x => Heap.get?_push_of_some _ (Heap.get?_push_of_some _ x)⟩
theorem pi_enumS {X : Cx} {e : Expr} {ta : TA} {p pos tpos : Pos} {elts : List Expr} {kk : Nat} (hg : Gl X "enumerate") (hm : X.mg "enumerate" = none) (ha : PA X [e] ta) (hs : starEach [e] X.env = [(false, eval e X.env)] := by rfl) :
    PI X (.Tuple elts kk tpos) (.Call (.Name "enumerate" p) [e] [] pos) (iEnumS X.K ta) := by
  refine ⟨fun pins s σ H R I h => ?_⟩
  refine Call_ (ld_blt I hg hm boot_enumerate (PyProof.Rows.callWith_type1 (thn (ha.run pos pins s σ H _ I h) fun us s1 ⟨vs, H1, I1, r1, q1⟩ => ?_) hs rfl))
  obtain ⟨k, a, xs, ex, hq, q⟩ := q1
  subst ex
  cases r1 with
  | cons r rr =>
    cases rr
    cases r
    obtain ⟨its, rv, p', lt, hz⟩ := inv_seqB I1 hq
    refine enum_begins1 (begB k a its.toArray) p' fun h' he hit hsz hk => wpAny_pyIter_enum he ?_
    have I2 : L2.Inv X pins σ H1 { s1 with heap := h' } := I1.kept (t' := s1.toks) hk
    refine ⟨s1.heap.objs.size + 1, [s1.heap.objs.size + 1, s1.heap.objs.size], _, _, H1, rfl, I2, turn_enumB (k := k) a (s1.heap.objs.size + 1) s1.heap.objs.size (ne_ad lt 0) (ne_ad lt 1), ⟨⟨.none, he⟩, IterB.new hit, Nat.succ_ne_self _⟩, fun b hb => ?_, q⟩
    have e' : b = s1.heap.objs.size + 1 ∨ b = s1.heap.objs.size := by simpa using hb
    have hle : s1.heap.objs.size ≤ b := by
      rcases e' with z | z
      · rw [z]; exact Nat.le_add_right _ _
      · rw [z]; exact Nat.le_refl _
    exact I1.fpOk hle (I1.hok.fresh hle)

/-! the same, as data -/
section
variable {ρ : Env} {ta tb te : TE} {x y : D} {xs ys : List D} {K : PySem.W.Frag} {st : Option Addr} {M H : Hp}
theorem Rep.seqB {v : V} (r : Rep M x v) (k : seqOf x = some xs) : ∃ b a vs, v = .ref a ∧ Reps M xs vs ∧ ∀ M1 H1 : Hp, Ex M M1 → Ex M1 H1 → SqB b K H1 a vs := by
  cases x with
  | tup es =>
    obtain ⟨a, vs, e1, e2, r⟩ := r.tup_
    cases (Option.some.inj (show some es = some xs from k))
    exact ⟨false, a, vs, e1, r, fun M1 H1 e e' => SqT.of (e' _ _ (e _ _ e2))⟩
  | lst es =>
    obtain ⟨a, vs, e1, e2, r⟩ := r.lst_
    cases (Option.some.inj (show some es = some xs from k))
    exact ⟨true, a, vs, e1, r, fun M1 H1 e e' => SqL.of (e' _ _ (e _ _ e2))⟩
  | ktp es =>
    obtain ⟨a, o, vs, e1, e2, _, r⟩ := r.ktp_
    cases (Option.some.inj (show some es = some xs from k))
    exact ⟨false, a, vs, e1, r, fun M1 H1 e e' => .inl (.inr ⟨o, e' _ _ (e _ _ e2)⟩)⟩
  | _ => exact absurd k (by intro z; cases z)
theorem walk_zip {k1 k2 : Bool} {a b : Addr} {us vs : List V} (h1 : ∀ M1 H1 : Hp, Ex M M1 → Ex M1 H1 → SqB k1 K H1 a us) (h2 : ∀ M1 H1 : Hp, Ex M M1 → Ex M1 H1 → SqB k2 K H1 b vs) (r1 : Reps M xs us) (r2 : Reps M ys vs) :
    WalkD st (ItzB K k1 k2 a b) M ((xs.zip ys).map fun p => D.tup [p.1, p.2]) := by
  have l1 := r1.len
  have l2 := r2.len
  refine ⟨fun i M1 H1 e w hi => ?_, fun M1 H1 e w => ?_, fun i d M1 H1 x H2 e w hd y => ?_⟩
  · rw [List.length_map, List.length_zip] at hi
    have i1 : i < us.length := by omega
    have i2 : i < vs.length := by omega
    exact ⟨us, vs, us[i], vs[i], h1 M1 H1 e w.ex, h2 M1 H1 e w.ex, by simp [i1], by simp [i2]⟩
  · rw [List.length_map, List.length_zip]
    exact ⟨us, vs, h1 M1 H1 e w.ex, h2 M1 H1 e w.ex, by omega, by omega, by omega⟩
  · obtain ⟨T, u, v, e1, e2, e3, e4, e5⟩ := y
    subst e1 e3
    have hu := e4 us (h1 M1 H1 e w.ex)
    have hv := e5 vs (h2 M1 H1 e w.ex)
    obtain ⟨d1, f1, g1⟩ := r1.getV hu
    obtain ⟨d2, f2, g2⟩ := r2.getV hv
    have hz : (xs.zip ys)[i]? = some (d1, d2) := List.getElem?_zip_eq_some.mpr ⟨f1, f2⟩
    rw [List.getElem?_map, hz] at hd
    cases hd
    have hm : M1 T = none := w.ex.back e2
    exact ⟨upd M1 T (.tup [u, v]), .new w e2, rep_tup upd_same (.cons (Rep.mono (e.trans (.new hm)) _ _ g1) (.cons (Rep.mono (e.trans (.new hm)) _ _ g2) .nil))⟩
theorem ei_zip (hx : EvV ta ρ x) (hy : EvV tb ρ y) (kx : seqOf x = some xs) (ky : seqOf y = some ys) : EvIV (iZipS K (tCons ta (tCons tb tNil))) ρ ((xs.zip ys).map fun p => D.tup [p.1, p.2]) := fun st σ M H s R k =>
  (ea_cons hx (ea_cons hy ea_nil)) st σ M H s _ fun us ds M1 H1 T r e => by
    subst e
    obtain ⟨v, v2, ev, r1, r2⟩ := two_of r
    obtain ⟨b1, a1, vs1, e1, q1, s1⟩ := r1.seqB (K := K) kx
    obtain ⟨b2, a2, vs2, e2, q2, s2⟩ := r2.seqB (K := K) ky
    exact ⟨b1, b2, a1, a2, vs1, vs2, by rw [ev, e1, e2], s1 M1 H1 (.refl _) T.w.ex, s2 M1 H1 (.refl _) T.w.ex, k _ M1 H1 _ T (walk_zip s1 s2 q1 q2) rfl⟩
theorem walk_enum {k1 : Bool} {a : Addr} {us : List V} (h1 : ∀ M1 H1 : Hp, Ex M M1 → Ex M1 H1 → SqB k1 K H1 a us) (r1 : Reps M xs us) :
    WalkD st (IteB K k1 a) M (xs.mapIdx fun i d => D.tup [.int i, d]) := by
  have l1 := r1.len
  refine ⟨fun i M1 H1 e w hi => ?_, fun M1 H1 e w => ?_, fun i d M1 H1 x H2 e w hd y => ?_⟩
  · rw [List.length_mapIdx] at hi
    have i1 : i < us.length := by omega
    exact ⟨us, us[i], h1 M1 H1 e w.ex, by simp [i1]⟩
  · rw [List.length_mapIdx]
    exact ⟨us, h1 M1 H1 e w.ex, l1⟩
  · obtain ⟨T, u, e1, e2, e3, e4⟩ := y
    subst e1 e3
    have hu := e4 us (h1 M1 H1 e w.ex)
    obtain ⟨d1, f1, g1⟩ := r1.getV hu
    rw [List.getElem?_mapIdx, f1] at hd
    cases hd
    have hm : M1 T = none := w.ex.back e2
    exact ⟨upd M1 T (.tup [.int i, u]), .new w e2, rep_tup upd_same (.cons rep_int (.cons (Rep.mono (e.trans (.new hm)) _ _ g1) .nil))⟩
theorem ei_enum (hx : EvV ta ρ x) (kx : seqOf x = some xs) : EvIV (iEnumS K (tCons ta tNil)) ρ (xs.mapIdx fun i d => D.tup [.int i, d]) := fun st σ M H s R k =>
  (ea_cons hx ea_nil) st σ M H s _ fun us ds M1 H1 T r e => by
    subst e
    obtain ⟨v, ev, r1⟩ := one_of r
    obtain ⟨b1, a1, vs1, e1, q1, s1⟩ := r1.seqB (K := K) kx
    exact ⟨b1, a1, vs1, by rw [ev, e1], s1 M1 H1 (.refl _) T.w.ex, k _ M1 H1 _ T (walk_enum s1 q1) rfl⟩
end
end SK

set_option Elab.async false
set_option linter.all false
set_option maxRecDepth 100000
set_option maxHeartbeats 4000000
namespace SK
open PySem PySem.Spec PyProof.Rows L2
/-! ### max(x, default=d), sum(t) -/
def maxN (d : Int) : List Int → Int
  | [] => d
  | n :: r => r.foldl max n
def rMaxK (K : PySem.W.Frag) : List V → List V → Hp → VK → Prop := fun vs zs H Q => ∃ (a : Addr) (ns : List Int) (d : Int), vs = [V.ref a] ∧ zs = [V.int d] ∧ SqL K H a (ns.map V.int) ∧ Q (.int (maxN d ns)) H
def rSumT (K : PySem.W.Frag) : List V → Hp → VK → Prop := fun vs H Q => ∃ (a : Addr) (ns : List Int), vs = [V.ref a] ∧ SqT K H a (ns.map V.int) ∧ Q (.int ns.sum) H
theorem reads_ints {h : Heap} : ∀ {us : List Value} {ns : List Int}, IntsAre us ns → ReadsAll h us (ns.map .int) []
  | _, _, .nil => .nil
  | _, _, .cons n t r => by
    have z := ReadsAll.cons (h := h) (Reads.int n t) (reads_ints (h := h) r)
    exact z
theorem depth_ints : ∀ ns : List Int, PyData.depthAll (ns.map PyData.int) ≤ 4
  | [] => by decide
  | n :: ns => by
    have ih := depth_ints ns
    rw [List.map_cons]
    exact Nat.max_le.mpr ⟨by show (PyData.int n).depth ≤ 4; simp [PyData.depth], ih⟩
section
variable {X : Cx}
theorem cr_maxK (hc : X.calm = true) (hu : X.A.units + 64 < cLine) : CallRK X (.builtin "max") ["default"] (rMaxK X.K) := by
  intro pins s σ H vs zs us ws Q I r rz h
  obtain ⟨a, ns, d, rfl, rfl, hs, q⟩ := h
  obtain ⟨its, rv, hl, _⟩ := I.list hs
  rw [Vals.ref1 r]
  cases rz with
  | cons r1 r2 =>
    cases r2
    obtain ⟨t, rfl⟩ := r1
    have hi : IntsAre its ns := rv.ints
    have dp := depth_ints ns
    refine PySem.W.max_list_default (I.ok.hd hc) hl.isList (xs := ns.map .int) (as := []) (by simpa using reads_ints hi) ⟨?_, ?_⟩ (by omega) (fun e h' tk k => ?_) (fun y ys i v h' tk bs e hv hr k => ?_)
    · intro x hx y hy
      obtain ⟨i, _, rfl⟩ := List.mem_map.mp hx
      obtain ⟨j, _, rfl⟩ := List.mem_map.mp hy
      rfl
    · intro x hx
      obtain ⟨i, _, rfl⟩ := List.mem_map.mp hx
      intro z
      cases z
    · have en : ns = [] := List.map_eq_nil_iff.mp e
      subst en
      exact ⟨.int d, H, I.kept k, ⟨t, rfl⟩, q⟩
    · cases ns with
      | nil => cases e
      | cons n r =>
        rw [List.map_cons] at e
        injection e with e1 e2
        subst e1 e2
        rw [PySem.W.maxD_ints] at hr
        cases hr with
        | int i t' => exact ⟨.int _, H, I.kept k, ⟨t', rfl⟩, q⟩
theorem cr_sumT (hc : X.calm = true) : CallR X (.builtin "sum") (rSumT X.K) := by
  intro pins s σ H vs us Q I r h
  obtain ⟨a, ns, rfl, hs, q⟩ := h
  obtain ⟨its, rv, hl, _⟩ := I.tuple hs
  rw [Vals.ref1 r]
  obtain ⟨xs, e⟩ := rv.ints.allInts.items
  have hn : numsOf (intItems xs).toList = ns := by rw [← e]; exact rv.ints.numsOf
  rw [nums_intItems] at hn
  have hl2 : s.heap.IsTuple a its.toArray := hl
  rw [e] at hl2
  refine PySem.W.ktm_sumG (I.ok.hd hc) hl2 fun h' tk t' hk => ?_
  rw [preSum_eq, List.take_of_length_le (by simp), hn]
  exact ⟨.int _, H, I.kept hk, ⟨t', rfl⟩, q⟩
/-! ### x not in o, by an own __contains__ -/
structure ContO (K : PySem.W.Frag) (C f : Addr) : Prop where
  at_ : PySem.W.findIn K (.ref C) "__contains__" = some (some (.ref f))
  fn : PySem.W.isFn K (.ref f) = true
def rNotInO (C : Addr) (sp : Sp) : R2 := fun x y H Q => ∃ a dx fs, y = .ref a ∧ H a = some (.ins C dx fs) ∧ sp [.ref a, x] H (fun v H' => ∃ b, v = .bl b ∧ Q (.bl (!b)) H') E0
theorem op_notInO {k : Nat} {C f : Addr} {ps : List Str} {sp : Sp} (c : ContO X.K C f) (F : XFn X k f ps sp) (hr : Room k X.A) : OpR X (compareOp .NotIn) (rNotInO C sp) := by
  intro pins s σ H x y v u Q I rx ry h
  obtain ⟨a, dx, fs, rfl, ha, h⟩ := h
  cases ry
  obtain ⟨fd, F1, b⟩ := F.ex
  obtain ⟨mA, J, _⟩ := ins_get I.hok ha
  obtain ⟨od, J, _⟩ := J.look
  obtain ⟨m, hF⟩ := I.fr
  refine PySem.W.notIn_K hF I.ok.mod.kin J c.at_ c.fn (thn (run_fn (us := [.ref a, v]) (vs := [.ref a, x]) F1 hr b .nil pass0 I (.cons rfl (.cons rx .nil)) h) fun w s1 ⟨z, H1, I1, r1, q1⟩ => ?_)
  obtain ⟨b, e, q⟩ := q1
  subst e
  cases r1
  exact wpAny_truthy_bool ⟨.bl (!b), H1, I1, rfl, q⟩
/-! ### C.m(self, ..) of a class -/
structure CFn (K : PySem.W.Frag) (C : Addr) (m : Str) (f : Addr) : Prop where
  ga : PySem.W.specialIn K (.ref C) "__getattribute__" = some (some (.builtin "type.__getattribute__"))
  rd : PySem.W.readsIn K C (.type "type") = true
  at_ : PySem.W.findCls K (.ref C) (.type "type") m = some (.val (.ref f))
  kp : PySem.W.keepIn K (.ref f) = true
theorem pe_clsF {k : Nat} {C f : Addr} {ps : List Str} {sp : Sp} {x m : Str} {p pos apos : Pos} {e : Expr} {es : List Expr} {t : TA} {pl : Sem Bool} (c : CFn X.K C m f) (F : XFn X k f ps sp) (hr : Room k X.A) (hm : X.mg x = some (.ref C)) (ha : PA X (e :: es) t) (hg : Gl X x := by rfl) (hdb : (x == ("__debug__" : Str)) = false := by decide)
    (hst : starEach (e :: es) X.env = (false, eval e X.env) :: starEach es X.env := by rfl) (hpl : (backTo pos (starEach es X.env)).any (·.1) = false := by rfl)
    (ht : eval (.Call (.Attribute (.Name x p) m apos) (e :: es) [] pos) X.env = (do
      let ov ← eval (.Name x p) X.env
      standAt apos.atName
      let (f, first) ← holding [ov] (getMethod ov m pl)
      callWith pos f first (backTo pos (starEach (e :: es) X.env)) (backToKw pos (keywordEach [] X.env))) := by rfl) : PE X (.Call (.Attribute (.Name x p) m apos) (e :: es) [] pos) (tCall sp [] E0 t) := by
  obtain ⟨fd, F1, b⟩ := F.ex
  refine ⟨fun pins s σ H Q I h => ?_⟩
  refine PySem.W.methodCall_KW (pl := pl) (ld_glob I hg hm ?_ hdb) ht
  refine PySem.W.method_cls I.kIn c.ga (PySem.W.cls_value I.kIn c.rd c.at_ rfl ?_)
  refine PySem.W.callWith_K (h₀ := X.base) I.ok.mod.kin c.kp (thn (ha.run pos pins _ σ H _ (I.tok _) h) fun us s1 ⟨vs, H1, I1, r, q⟩ => ⟨I1.kIn, ?_⟩) hst hpl
  exact run_fn F1 hr b .nil pass0 I1 r q
/-! ### a larger power -/
def CPowB (i j : Int) : Prop := 0 ≤ j ∧ (Builtin.Int.intBits i : Int) * j ≤ 2 ^ 27
theorem op_powB : OpR X (binaryOp .Pow) (rI CPowB fun i j => .int (i ^ j.toNat)) := opI fun _ _ _ _ _ _ _ hc q => PyProof.Rows.pow_int hc.1 hc.2 q
end
end SK

set_option Elab.async false
set_option linter.all false
set_option maxRecDepth 100000
set_option maxHeartbeats 4000000
namespace SK
open PySem L2
section
variable {ρ : Env} {ta tb tc te : TE} {d x y z : D} {Φ Ψ : D → Prop} {t u : TS} {K : PySem.W.Frag} {P : Post} {S : DSp} {ar tk : TA} {C : Addr} {ks : List Str} {ds fs zs : List D} {m : Str}
theorem ev_maxK {ns : List Int} {i : Int} (h : EvV ta ρ (.lst (ns.map D.int))) (h2 : EvV tb ρ (.int i)) : EvV (tCKw (rMaxK K) (tCons ta tNil) (tCons tb tNil)) ρ (.int (maxN i ns)) := fun st σ M H s Q q =>
  (ea_cons h ea_nil) st σ M H s _ fun vs es M1 H1 T1 r1 e1 => (ea_cons h2 ea_nil) st σ M1 H1 (s.tr T1) _ fun ws es2 M2 H2 T2 r2 e2 => by
    subst e1 e2
    obtain ⟨v, ev, r1⟩ := one_of r1
    obtain ⟨w, ew, r2⟩ := one_of r2
    obtain ⟨a, us, f1, f2, r3⟩ := r1.lst_
    rw [r3.ints] at f2
    exact ⟨a, ns, i, by rw [ev, f1], by rw [ew, r2.int_], SqL.of (T2.w.ex _ _ (T2.m _ _ f2)), q _ _ M2 H2 (T1.trans T2) rep_int rfl⟩
theorem ev_sumT {ns : List Int} (h : EvV ta ρ (.ktp (ns.map D.int))) : EvV (tCB (rSumT K) (tCons ta tNil)) ρ (.int ns.sum) := ew_cb (ea_cons h ea_nil) fun st M H vs w r Q q => by
  obtain ⟨v, e, r1⟩ := one_of r
  obtain ⟨a, o, us, e1, e2, _, r2⟩ := r1.ktp_
  rw [r2.ints] at e2
  exact ⟨a, ns, by rw [e, e1], .inl (.inr ⟨o, w.ex _ _ e2⟩), q _ _ M H (.refl w) rep_int rfl⟩
theorem eb_notInO {b : Bool} (ha : EvV ta ρ x) (hb : EvV tb ρ (.obj C ks fs)) (s : S [.obj C ks fs, x] fun z => z = .bl b) : EvB (tTest (tOp (rNotInO C (pureSp S)) ta tb)) ρ (!b) := eb_test fun st σ M H sr Q q =>
  ha st σ M H sr _ fun v x' M1 H1 T1 r1 e1 => hb st σ M1 H1 (sr.tr T1) _ fun w y' M2 H2 T2 r2 e2 => by
    subst e1 e2
    obtain ⟨a, dx, us, f1, f2, r3, l⟩ := id r2.obj_
    subst f1
    exact ⟨a, dx, _, rfl, T2.w.ex _ _ f2, M2, _, _, T2.w.ex, .cons r2 (.cons (Rep.mono T2.m _ _ r1) .nil), s, fun v d M' H' T' r' f => by
      subst f
      exact ⟨b, r'.bl_, q _ _ M' H' ((T1.trans T2).trans (T'.of_none T2.w)) rep_bl rfl⟩⟩
theorem ev_powB {i j : Int} (ha : EvV ta ρ (.int i)) (hb : EvV tb ρ (.int j)) (hc : CPowB i j) : EvV (tOp (rI CPowB fun i j => .int (i ^ j.toNat)) ta tb) ρ (.int (i ^ j.toNat)) := ev_op ha hb (rv_I (f := fun i j => .int (i ^ j.toNat)) (fun _ => rep_int) hc)
/-- C(.., k = v, ..) -/
theorem ew_makeK {n k : Nat} {gV : List V → List V → List V} (hg : ∀ vs zs, gV vs zs = vs ++ zs) (h : EvAV ar ρ ds) (h2 : EvAV tk ρ zs) (hn : ds.length = n) (hk : zs.length = k) (s : S (ds ++ zs) Φ) : EvW (tMakeK C n k (initSp C [] S) gV E0 ar tk) ρ Φ := fun st σ M H sr Q q =>
  h st σ M H sr _ fun vs es M0 H0 T0 r0 e0 => h2 st σ M0 H0 (sr.tr T0) _ fun ws es2 M1 H1 T1 r1 e1 => by
    subst e0 e1
    have r := (r0.mono T1.m).append r1
    refine ⟨by rw [r0.len, hn], by rw [r1.len, hk], fun a dx n1 n2 ne => ?_⟩
    rw [hg]
    have T := T0.trans T1
    have m1 : M1 a = none := T.w.ex.back n1
    have m2 : M1 dx = none := T.w.ex.back n2
    refine ⟨a, dx, vs ++ ws, [], [], M1, es ++ es2, Φ, rfl, (T.w.ex.updR m2).updR m1, m1, upd_same, .nil, rfl, r, s, fun k2 fs2 us dy M' H' a1 a2 a3 a4 a5 a6 a7 a8 f => ⟨rfl, ?_⟩⟩
    exact q (.ref a) _ _ H' (T.trans (made_of T.w n1 n2 ne a1 a2 a3 a4 a5 a6 a7)) (rep_obj upd_same (a7.mono (.new a5)) a8) f
/-- Base.__init__(self, ..) within an __init__ -/
theorem sq_super {j : Nat} {k0 : List Str} {es : List D} (hj : ρ[j]? = some (some (.slf C k0 es))) (h : EvAV ar ρ ds) (s : S (es ++ ds) Φ) (k : ∀ ks fs, Φ (.obj C ks fs) → SW u (ρ.set j (some (.slf C ks fs))) P) :
    SW (tSeq (tDrop (tCall (initSp C k0 S) [] E0 (tCons (tVar j) ar))) u) ρ P := fun st B M0 H0 M H σ E sb p => by
  obtain ⟨v, e, l, dx, vs, e1, e2, e3, e4, rs, lz⟩ := sb.sr.sl j _ hj
  subst e1
  refine ⟨_, e, ?_⟩
  refine h st σ M H sb.sr _ fun us es1 M1 H1 T r f => ?_
  subst f
  have s1 := sb.tr T
  obtain ⟨w, e', l', dx', vs', e1', e2', e3', e4', rs', lz'⟩ := s1.sr.sl j _ hj
  rw [e] at e'
  cases e'
  cases e1'
  show initSp C k0 S ((V.ref l :: us) ++ []) H1 _ E0
  rw [List.append_nil]
  refine ⟨l, dx', us, vs', es, M1, es1, Φ, rfl, T.w.ex, e4', e3', rs', lz', r, s, fun ks fs ws dy M' H' a1 a2 a3 a4 a5 a6 a7 a8 f => ?_⟩
  have hjl : j < ρ.length := (List.getElem?_eq_some_iff.mp hj).1
  -- what the call has left: all but the instance as it was
  have w' : W st M' H' := ⟨a2, fun a q => by
    obtain ⟨m, ds', vs'', q1, q2, q3⟩ := s1.sr.w.sto a q
    have ne : a ≠ l := fun z => e2' (z ▸ q)
    exact ⟨a4 a m (by rw [q1]; intro z; cases z) ne, ds', vs'', a3 a _ q1 ne, q2.mono a1, q3⟩⟩
  have fl := s1.f j _ l hj trivial e
  have hB : B l := by
    rcases fl with ⟨z, _⟩ | ⟨_, z⟩
    · cases z
    · exact z
  have other : ∀ (i : Nat) y v, i ≠ j → ρ[i]? = some (some y) → σ[i]? = some (some v) → SlotOk st M1 H1 v y → SlotOk st M' H' v y := fun i y v ne q1 q2 q => by
    have nl : ∀ l', y.mut → v = .ref l' → l' ≠ l := fun l' m z z2 => by
      subst z2
      exact s1.sr.ap j i _ _ _ (Ne.symm ne) hj q1 trivial m e (by rw [q2, z])
    cases y with
    | imm d => exact Rep.mono a1 d v q
    | sto => exact q
    | addr l => exact q
    | sow es =>
      obtain ⟨l', us, z, a, b, c, r⟩ := q
      have n := nl l' trivial z
      exact ⟨l', us, z, a, a3 _ _ b n, a4 _ c (by rw [b]; intro z; cases z) n, r.mono a1⟩
    | own es =>
      obtain ⟨l', us, z, a, b, c, r⟩ := q
      have n := nl l' trivial z
      exact ⟨l', us, z, a, a3 _ _ b n, a4 _ c (by rw [b]; intro z; cases z) n, r.mono a1⟩
    | dic P w kvs =>
      obtain ⟨l', L, z, a, b, c, r⟩ := q
      have n := nl l' trivial z
      exact ⟨l', L, z, a, a3 _ _ b n, a4 _ c (by rw [b]; intro z; cases z) n, r.mono a1⟩
    | slf C ks es =>
      obtain ⟨l', dx, us, z, a, b, c, r, q⟩ := q
      have n := nl l' trivial z
      exact ⟨l', dx, us, z, a, a3 _ _ b n, a4 _ c (by rw [b]; intro z; cases z) n, r.mono a1, q⟩
  refine k ks fs f st B M0 H0 M' H' σ E ⟨⟨w', by rw [List.length_set]; exact s1.sr.len, fun i y q => ?_, fun i k y z w ne b1 b2 m1 m2 b3 => ?_⟩, s1.m.trans a1, fun a o q nb => ?_, fun a q n nb => ?_, fun i y l' q m b => ?_, s1.b, fun a q => ?_⟩ p
  · by_cases z : i = j
    · subst z
      rw [List.getElem?_set_self hjl] at q
      cases q
      exact ⟨_, e, l, dy, ws, rfl, e2', a6, a5, a7, a8⟩
    · rw [List.getElem?_set_ne (Ne.symm z)] at q
      obtain ⟨v, b1, b2⟩ := s1.sr.sl i y q
      exact ⟨v, b1, other i y v z q b1 b2⟩
  · have back : ∀ (i : Nat) y, (ρ.set j (some (.slf C ks fs)))[i]? = some (some y) → y.mut → ∃ y', ρ[i]? = some (some y') ∧ y'.mut := fun i y e m => by
      by_cases q : i = j
      · subst q
        exact ⟨_, hj, trivial⟩
      · rw [List.getElem?_set_ne (Ne.symm q)] at e
        exact ⟨y, e, m⟩
    obtain ⟨y', a1, a2⟩ := back i y b1 m1
    obtain ⟨z', c1, c2⟩ := back k z b2 m2
    exact s1.sr.ap i k y' z' w ne a1 c1 a2 c2 b3
  · have ne : a ≠ l := fun z => nb (z ▸ hB)
    exact a3 a o (s1.h a o q nb) ne
  · have ne : a ≠ l := fun z => nb (z ▸ hB)
    refine a4 a (s1.n a q n nb) ?_ ne
    cases z : H0 a with
    | none => exact absurd z n
    | some o =>
      rw [s1.h a o z nb]
      intro y
      cases y
  · by_cases z : i = j
    · subst z
      rw [List.getElem?_set_self hjl] at q
      cases q
      rw [e] at b
      cases b
      exact Or.inr ⟨rfl, hB⟩
    · rw [List.getElem?_set_ne (Ne.symm z)] at q
      exact s1.f i y l' q m b
  · by_cases z : a = l
    · rw [z, a6]
      intro y
      cases y
    · have n := s1.be a q
      cases h : H1 a with
      | none => exact absurd h n
      | some o =>
        rw [a3 a o h z]
        intro y
        cases y
end
end SK

set_option Elab.async false
set_option linter.all false
set_option maxRecDepth 100000
set_option maxHeartbeats 4000000
namespace SK
open PySem L2
theorem ix_seqK {X : Cx} (K : PySem.W.Frag) (h : X.K = K) : IxR X (rIx K) := h ▸ ix_seq
theorem pi_seqK {X : Cx} {tg l : Expr} {tl : TE} (K : PySem.W.Frag) (h : X.K = K) (hl : PE X l tl) : PI X tg l (iSeq K tl) := h ▸ pi_seq hl
theorem pe_kgetK {X : Cx} {K : PySem.W.Frag} {P : Program} {w : World} {o i : Expr} {pos : Pos} {td ty : TE} (e1 : X.K = K) (e2 : X.prog = P) (e3 : X.w = w) (hu : X.A.units + 1 < cLine) (ho : PE X o td) (hi : PE X i ty) (hs : NoSl i) : PE X (.Subscript o i pos) (tKGet K P w td ty) := by
  subst e1 e2 e3
  exact pe_kget hu ho hi hs
theorem sl_seqK {X : Cx} (K : PySem.W.Frag) (h : X.K = K) : SlR X (rSl K) := h ▸ sl_seq
theorem pe_fldK {X : Cx} {e : Expr} {ta : TE} {f : Str} {pos : Pos} (K : PySem.W.Frag) (h : X.K = K) (he : PE X e ta) (hab : attributeBase e f X.env (eval e X.env) = eval e X.env) : PE X (.Attribute e f pos) (tFld K ta f) := h ▸ pe_fld he hab
theorem pe_mkK {X : Cx} {k n : Nat} {f C : Addr} {ps ks : List Str} {sp : Sp} {x : Str} {p pos : Pos} {e : Expr} {es : List Expr} {kws : List Keyword} {t tk : TA} {gV : List V → List V → List V} (M : Mk X.K C f)
    (F : ∃ fd, FnOk X.prog X.w X.K X.mg X.base CX0 k f fd ps sp ∧ ∃ g, KBn X.K fd ps (n + 1) ks g gV) (hr : Room (k + 1) X.A) (hm : X.mg x = some (.ref C)) (ha : PA X (e :: es) t) (hkw : PK X kws tk) (hg : Gl X x := by rfl)
    (hall : (backToKw pos (keywordEach kws X.env)).all (·.1.isSome) = true := by rfl) (hks : (backToKw pos (keywordEach kws X.env)).filterMap (·.1) = ks := by rfl) (hdb : (x == ("__debug__" : Str)) = false := by decide)
    (he : starEach (e :: es) X.env = (false, eval e X.env) :: starEach es X.env := by rfl) (hpl : ((backTo pos (starEach (e :: es) X.env)).any (·.1) || (backToKw pos (keywordEach kws X.env)).any (·.1.isNone)) = false := by rfl) :
    PE X (.Call (.Name x p) (e :: es) kws pos) (tMakeK C n ks.length sp gV E0 t tk) := by
  obtain ⟨fd, F1, g, b⟩ := F
  exact pe_makeK M F1 hr hg hm b pass0 ha hkw hall hks hdb he hpl
/-- t[lo:hi] of a tuple of either kind, not the whole of it -/
theorem ev_slN {ρ : Env} {ta : TE} {K : PySem.W.Frag} {x : D} {lo hi : Option Int} {tl th : TO} {ds : List D} (hx : EvV ta ρ x) (hk : x = .tup ds ∨ x = .ktp ds) (hn : cutD ds lo hi ≠ ds) (hl : EvO tl ρ lo) (hh : EvO th ρ hi) : EvV (tSl (rSl K) ta tl th) ρ (.ktp (cutD ds lo hi)) :=
  ew_sl hx hl hh ⟨(fun _ e => by rcases hk with h | h <;> rw [h] at e <;> cases e), (fun _ e => by rcases hk with h | h <;> rw [h] at e <;> rcases e with e | e <;> cases e <;> rfl), (fun _ e c => by rcases hk with h | h <;> rw [h] at e <;> cases e; exact absurd c hn), (by rcases hk with h | h <;> rw [h] <;> intro z <;> cases z)⟩
/-- an item of the store, its content known -/
theorem ev_ixS {ρ : Env} {tb : TE} {K : PySem.W.Frag} {d : D} {i : Nat} {ds : List D} {k : Int} (hi : ρ[i]? = some (some (.sow ds))) (hk : EvV tb ρ (.int k)) (ha : atI ds k = some d) : EvV (tOp (rIx K) (tVar i) tb) ρ d := fun st σ M H s Q q => by
  obtain ⟨v, e, l, vs, e1, e2, e3, e4, r⟩ := s.sl i _ hi
  refine ⟨v, e, ?_⟩
  refine hk st σ M H s _ fun w y M1 H1 T1 r1 f1 => ?_
  rw [f1] at r1
  obtain ⟨u, h1, h2⟩ := ixN_len (r.mono T1.m) ha
  exact Or.inl ⟨l, vs, k, u, e1, r1.int_, SqL.of (T1.h _ _ e3 e2), h1, q u d M1 H1 T1 h2 rfl⟩
theorem sow_of {st : Option Addr} {M H : Hp} {σ : L2.St} {ρ : Env} {j : Nat} {ds : List D} (s : SR st M H σ ρ) (hj : ρ[j]? = some (some (.sow ds))) :
    ∃ l vs, σ[j]? = some (some (.ref l)) ∧ st ≠ some l ∧ H l = some (.lst vs) ∧ M l = none ∧ Reps M ds vs := by
  obtain ⟨v, e, l, vs, e1, e2, e3, e4, r⟩ := s.sl j _ hj
  subst e1
  exact ⟨l, vs, e, e2, e3, e4, r⟩
/-- store[i] = e -/
theorem sq_setS {ρ : Env} {te tb : TE} {u : TS} {P : Post} {d : D} {j i : Nat} {ds : List D} {k : Int} (hj : ρ[j]? = some (some (.sow ds))) (h : EvV te ρ d) (hi : EvV tb ρ (.int k)) (hk : k = (i : Int)) (hl : i < ds.length) (kk : SW u (ρ.set j (some (.sow (ds.set i d)))) P) :
    SW (tSeq (tAsg te (gSub (tVar j) tb rSetL)) u) ρ P := fun st B M0 H0 M H σ E s p => by
  subst hk
  refine h st σ M H s.sr _ fun v d' M1 H1 T r1 f1 => ?_
  subst f1
  have s1 := s.tr T
  obtain ⟨l, vs, e, _⟩ := sow_of s1.sr hj
  refine ⟨_, e, ?_⟩
  refine hi st σ M1 H1 s1.sr _ fun w' y M2 H2 T2 r2 f2 => ?_
  subst f2
  have s2 := s1.tr T2
  obtain ⟨l', vs', e', e2', e3', e4', r'⟩ := sow_of s2.sr hj
  rw [e] at e'
  cases e'
  have e5 : ixN vs'.length (i : Int) = some i := by
    unfold ixN
    rw [if_pos (by omega), if_pos (by rw [r'.len]; omega), Int.toNat_natCast]
  refine ⟨l, vs', _, i, rfl, r2.int_, e3', e5, ?_⟩
  exact kk st B M0 H0 M2 _ σ E (s2.chg (x' := .sow (ds.set i d')) hj trivial e e3' e2' e4' rfl ⟨l, _, rfl, e2', upd_same, e4', r'.set i (Rep.mono T2.m _ _ r1)⟩ trivial) p
theorem jl1 {a n : Nat} (h : a < n) : ∀ j ∈ [a], j < n := fun j m => by rw [List.mem_singleton.mp m]; exact h
theorem jl2 {a b n : Nat} (h : a < n) (h2 : b < n) : ∀ j ∈ [a, b], j < n := fun j m => by
  rcases List.mem_cons.mp m with e | m
  · rw [e]; exact h
  · rw [List.mem_singleton.mp m]; exact h2
theorem jv1 {a n : Nat} {vs : List Nat} (hv : a ∈ vs) (h : a < n) : ∀ j ∈ [a], j ∈ vs ∧ j < n := fun j m => by rw [List.mem_singleton.mp m]; exact ⟨hv, h⟩
theorem jv2 {a b n : Nat} {vs : List Nat} (hv : a ∈ vs) (hv2 : b ∈ vs) (h : a < n) (h2 : b < n) : ∀ j ∈ [a, b], j ∈ vs ∧ j < n := fun j m => by
  rcases List.mem_cons.mp m with e | m
  · rw [e]; exact ⟨hv, h⟩
  · rw [List.mem_singleton.mp m]; exact ⟨hv2, h2⟩
section
variable {α : Type} {ρ : Env} {ta tb tc te : TE} {d x y z : D} {t u : TS} {tb : TS} {K : PySem.W.Frag} {P : Post} {wi : TI} {g : TG} {tt : TT} {vs js : List Nat} {ys : List α} {emb : α → D} (dsf : α → List D)
/-- for over known items -/
theorem sq_forE (I : Nat → Env → Prop) (h : EvIV wi ρ (ys.map emb)) (h0 : I 0 ρ) (hj : ∀ i ρ', I i ρ' → ∀ j ∈ js, j < ρ'.length)
    (hs : ∀ i a ρ', ys[i]? = some a → I i ρ' → GW g (emb a) js (dsf a) ∧ SW tb (setsE ρ' js (dsf a)) { P with nx := I (i + 1), ct := I (i + 1), bk := fun ρ2 => SW u ρ2 P })
    (hd : ∀ ρ', I ys.length ρ' → SW u ρ' P) : SW (tSeq (tFor wi g tb) u) ρ P :=
  sq_for (js := js) (fun _ i ρ' => I i ρ') h (fun _ i ρ' iv => hj i ρ' iv) (fun _ _ => h0) (fun xs i d ρ' e hx iv => by
    subst e
    rw [List.getElem?_map] at hx
    cases q : ys[i]? with
    | none => rw [q] at hx; cases hx
    | some a =>
      rw [q] at hx
      cases hx
      obtain ⟨h1, h2⟩ := hs i a ρ' q iv
      exact ⟨dsf a, h1, h2⟩) fun xs ρ' e iv => by
    subst e
    rw [List.length_map] at iv
    exact hd ρ' iv
/-- [f a for a in ys] -/
theorem ef_mapE (f : α → D) (h : EvIV wi ρ (ys.map emb)) (hj : ∀ j ∈ js, j ∈ vs ∧ j < ρ.length) (hl : ys.length ≤ 100000)
    (hs : ∀ a ∈ ys, GW g (emb a) js (dsf a) ∧ EvV te (setsE (wipeE ρ vs) js (dsf a)) (f a)) : EvFV (tLc wi g tYes te vs) ρ (ys.map f) :=
  ef_lc (fun _ i acc => i ≤ ys.length ∧ acc = (ys.take i).map f) h hj (fun _ _ => ⟨Nat.zero_le _, by simp⟩) (fun xs i d acc e hx iv => by
    subst e
    rw [List.getElem?_map] at hx
    cases q : ys[i]? with
    | none => rw [q] at hx; cases hx
    | some a =>
      rw [q] at hx
      cases hx
      have hi : i < ys.length := (List.getElem?_eq_some_iff.mp q).1
      obtain ⟨h1, h2⟩ := hs a (List.mem_of_getElem? q)
      refine ⟨dsf a, h1, EvT.imp et_yes fun b' eb => ?_⟩
      rw [if_pos eb]
      refine ⟨by rw [iv.2, List.length_map, List.length_take]; omega, EvV.w h2 ⟨hi, ?_⟩⟩
      rw [iv.2, List.take_add_one, q, List.map_append]
      rfl) fun xs acc e iv => by
    subst e
    rw [List.length_map] at iv
    rw [iv.2, List.take_length]
/-- [f a for a in ys if p a] -/
theorem ef_filterE (p : α → Bool) (f : α → D) (h : EvIV wi ρ (ys.map emb)) (hj : ∀ j ∈ js, j ∈ vs ∧ j < ρ.length) (hl : ys.length ≤ 100000)
    (hs : ∀ a ∈ ys, GW g (emb a) js (dsf a) ∧ EvB tt (setsE (wipeE ρ vs) js (dsf a)) (p a) ∧ (p a = true → EvV te (setsE (wipeE ρ vs) js (dsf a)) (f a))) : EvFV (tLc wi g tt te vs) ρ ((ys.filter p).map f) :=
  ef_lc (fun _ i acc => i ≤ ys.length ∧ acc = ((ys.take i).filter p).map f) h hj (fun _ _ => ⟨Nat.zero_le _, by simp⟩) (fun xs i d acc e hx iv => by
    subst e
    rw [List.getElem?_map] at hx
    cases q : ys[i]? with
    | none => rw [q] at hx; cases hx
    | some a =>
      rw [q] at hx
      cases hx
      have hi : i < ys.length := (List.getElem?_eq_some_iff.mp q).1
      obtain ⟨h1, h2, h3⟩ := hs a (List.mem_of_getElem? q)
      have lacc : acc.length < 100000 := by
        have l1 : acc.length ≤ i := by
          rw [iv.2, List.length_map]
          exact Nat.le_trans (List.length_filter_le _ _) (by rw [List.length_take]; omega)
        omega
      refine ⟨dsf a, h1, EvT.imp h2 fun b' eb => ?_⟩
      subst eb
      cases hp : p a with
      | true =>
        rw [if_pos rfl]
        refine ⟨lacc, EvV.w (h3 hp) ⟨hi, ?_⟩⟩
        rw [iv.2, List.take_add_one, q, List.filter_append, List.map_append]
        simp [hp]
      | false =>
        rw [if_neg Bool.false_ne_true]
        refine ⟨hi, ?_⟩
        rw [iv.2, List.take_add_one, q, List.filter_append, List.map_append]
        simp [hp]) fun xs acc e iv => by
    subst e
    rw [List.length_map] at iv
    rw [iv.2, List.take_length]
/-- [f a for a in ys if p a], the ys known by a word -/
theorem ef_filterW {R : List α → Prop} (p : α → Bool) (f : α → D) (h : EvI wi ρ fun xs => ∃ ys : List α, xs = ys.map emb ∧ R ys) (hj : ∀ j ∈ js, j ∈ vs ∧ j < ρ.length) (hl : ∀ ys, R ys → ys.length ≤ 100000)
    (hs : ∀ ys, R ys → ∀ a ∈ ys, GW g (emb a) js (dsf a) ∧ EvB tt (setsE (wipeE ρ vs) js (dsf a)) (p a) ∧ (p a = true → EvV te (setsE (wipeE ρ vs) js (dsf a)) (f a))) : EvF (tLc wi g tt te vs) ρ (fun ds => ∃ ys, R ys ∧ ds = (ys.filter p).map f) :=
  ef_lc (fun xs i acc => ∃ ys : List α, xs = ys.map emb ∧ R ys ∧ i ≤ ys.length ∧ acc = ((ys.take i).filter p).map f) h hj (fun xs ⟨ys, e, r⟩ => ⟨ys, e, r, Nat.zero_le _, by simp⟩) (fun xs i d acc _ hx ⟨ys, e, r, iv⟩ => by
    subst e
    rw [List.getElem?_map] at hx
    cases q : ys[i]? with
    | none => rw [q] at hx; cases hx
    | some a =>
      rw [q] at hx
      cases hx
      have hi : i < ys.length := (List.getElem?_eq_some_iff.mp q).1
      obtain ⟨h1, h2, h3⟩ := hs ys r a (List.mem_of_getElem? q)
      have hl' := hl ys r
      have lacc : acc.length < 100000 := by
        have l1 : acc.length ≤ i := by
          rw [iv.2, List.length_map]
          exact Nat.le_trans (List.length_filter_le _ _) (by rw [List.length_take]; omega)
        omega
      refine ⟨dsf a, h1, EvT.imp h2 fun b' eb => ?_⟩
      subst eb
      cases hp : p a with
      | true =>
        rw [if_pos rfl]
        refine ⟨lacc, EvV.w (h3 hp) ⟨ys, rfl, r, hi, ?_⟩⟩
        rw [iv.2, List.take_add_one, q, List.filter_append, List.map_append]
        simp [hp]
      | false =>
        rw [if_neg Bool.false_ne_true]
        refine ⟨ys, rfl, r, hi, ?_⟩
        rw [iv.2, List.take_add_one, q, List.filter_append, List.map_append]
        simp [hp]) fun xs acc _ ⟨ys, e, r, iv⟩ => by
    subst e
    rw [List.length_map] at iv
    refine ⟨ys, r, ?_⟩
    rw [iv.2, List.take_length]
end
end SK

set_option Elab.async false
set_option linter.all false
set_option maxRecDepth 100000
set_option maxHeartbeats 4000000
namespace SK
open PySem PySem.Spec PyProof.Rows L2
abbrev FSp := List D → (List D → Prop) → Prop
/-- a def of data alone that hands back a list that none else holds -/
def freshSp (S : FSp) : Sp := fun vs H Q _ => ∃ M ds Φ, Ex M H ∧ Reps M ds vs ∧ S ds Φ ∧ ∀ l us es M' H', Tr none M H M' H' → H l = none → H' l = some (.lst us) → M' l = none → Reps M' es us → Φ es → Q (.ref l) H'
section
variable {P : Program} {w : World} {K : PySem.W.Frag} {mg : Str → Option Value} {base : Heap}
theorem start_of {N : List Str} {M H : Hp} {ds : List D} {vs : List V} (ex : Ex M H) (r : Reps M ds vs) : SB none (fun _ => False) M H M H (L2.start N vs) (startE N ds) := by
  obtain ⟨e1, e2⟩ := env_tail (st := none) (H := H) (n := N.length - ds.length) r
  have eσ : L2.start N vs = vs.map some ++ List.replicate (N.length - ds.length) none := by
    unfold L2.start
    rw [r.len]
  have nm : ∀ (i : Nat) x, (startE N ds)[i]? = some (some x) → ¬ x.mut := fun i x e m => by
    obtain ⟨d, v, q, _⟩ := e2 i x e
    rw [q] at m
    exact m
  refine ⟨⟨⟨ex, (fun _ z => nomatch z)⟩, by rw [eσ]; exact e1, fun i x e => ?_, fun i j x y v ne a b m => absurd m (nm i x a)⟩, .refl _, fun _ _ h _ => h, fun _ h _ _ => h, fun i x l a m => absurd m (nm i x a), (fun _ z => nomatch z), fun _ z => z.elim⟩
  obtain ⟨d, v, q1, q2, q3⟩ := e2 i x e
  rw [q1, eσ]
  exact ⟨v, q2, q3⟩
theorem EB.tr0 {M H M' H' : Hp} (e : EB none (fun _ => False) M H M' H') : Tr none M H M' H' := ⟨e.m, fun a o q _ => e.h a o q fun z => z, fun a q n => e.n a q n fun z => z, e.w⟩
theorem fn_fresh {x qual : Str} {st : Stmt} {f : Addr} {N ps : List Str} {k : Nat} {S : FSp} (F : ∃ fd, Fun K x qual st f fd ∧ Binds K fd ps []) (Sc : FnScope N ps (defScope st)) (len : ∀ ds Φ, S ds Φ → ds.length = ps.length)
    (body : ∀ (cdv : Value) (A : Around) (outer : List PySem.Env) (s : Shared) (H : Hp) (E : XK), Room k (A.deeper (envOfC qual (defScope st) s.heap.objs.size f cdv)) → ∀ ds Φ, S ds Φ →
      ∃ t, PSs (cxOf CX0 P w K mg base N qual (defScope st) f cdv A outer s H E).nox (defBody st) t ∧ SW t (startE N ds) ⟨fun _ => False, fun _ => False, fun _ => False, fun _ => False, fun _ _ => True, Φ⟩) : FnP P w K mg base (k + 1) f ps (freshSp S) := by
  obtain ⟨fd, F, b⟩ := F
  refine ⟨⟨fd, F.ok Sc (fun vs H Q E h => ?_) (fun cdv A outer s H vs Q E hr h => ?_), b⟩, F.kp⟩
  · obtain ⟨M, ds, Φ, _, r, sp, _⟩ := h
    rw [r.len]
    exact len ds Φ sp
  · obtain ⟨M, ds, Φ, ex, r, sp, k⟩ := h
    obtain ⟨t, ht, hw⟩ := body cdv A outer s H E hr ds Φ sp
    refine ⟨t, ht, ?_⟩
    exact hw none _ M H M H _ _ (start_of ex r) ⟨fun _ _ _ _ _ z => z.elim, fun _ _ _ _ _ _ _ _ z _ => z.elim, fun _ _ _ _ _ z => z.elim, fun _ _ _ _ _ z => z.elim, fun l us es M' H' e h0 _ _ h1 h2 h3 q => k l us es M' H' e.tr0 h0 h1 h2 h3 q⟩
/-- the law: what its first statement makes is the store -/
theorem fn_law {x qual : Str} {st : Stmt} {f : Addr} {fd : FuncData} {N ps : List Str} {k : Nat} {S : DSp} (F : Fun K x qual st f fd) (Sc : FnScope N ps (defScope st)) (len : ∀ ds Φ, S ds Φ → ds.length = ps.length)
    (body : ∀ (cdv : Value) (A : Around) (outer : List PySem.Env) (s : Shared) (H : Hp) (E : XK), Room k (A.deeper (envOfC qual (defScope st) s.heap.objs.size f cdv)) → ∀ ds Φ, S ds Φ →
      ∃ te t2 j, PSs (cxOf CX0 P w K mg base N qual (defScope st) f cdv A outer s H E).nox (defBody st) (tSeq (tAsg te (gName j)) t2) ∧ EvF te (startE N ds) StoreD ∧ j < (startE N ds).length ∧ SW t2 ((startE N ds).set j (some .sto)) ⟨fun _ => Φ .non, Φ, fun _ => False, fun _ => False, fun _ _ => True, fun _ => False⟩) : FnOk P w K mg base CX0 (k + 1) f fd ps (pureSp S) := by
  refine F.ok Sc (fun vs H Q E h => ?_) (fun cdv A outer s H vs Q E hr h => ?_)
  · obtain ⟨M, ds, Φ, _, r, sp, _⟩ := h
    rw [r.len]
    exact len ds Φ sp
  · obtain ⟨M, ds, Φ, ex, r, sp, k⟩ := h
    obtain ⟨te, t2, j, ht, he, hj, hw⟩ := body cdv A outer s H E hr ds Φ sp
    refine ⟨_, ht, ?_⟩
    have s0 := start_of (N := N) ex r
    refine he none _ M H s0.sr _ fun l us es M1 H1 T hl hl1 hm1 re so => ?_
    have s1 := s0.tr T
    have nm : ∀ (i : Nat) y, (startE N ds)[i]? = some (some y) → ¬ y.mut := fun i y e m => by
      obtain ⟨e1, e2⟩ := env_tail (st := none) (H := H) (n := N.length - ds.length) r
      obtain ⟨d, v, q, _⟩ := e2 i y e
      rw [q] at m
      exact m
    have nm2 : ∀ (i : Nat) y, ((startE N ds).set j (some .sto))[i]? = some (some y) → ¬ y.mut := fun i y e m => by
      by_cases q : i = j
      · subst q
        rw [List.getElem?_set_self hj] at e
        cases e
        exact m
      · rw [List.getElem?_set_ne (Ne.symm q)] at e
        exact nm i y e m
    have hjs : j < (L2.start N vs).length := by rw [← s0.sr.len]; exact hj
    have Wl : W (some l) M1 H1 := ⟨T.w.ex, fun a e => by
      cases e
      exact ⟨hm1, es, us, hl1, re, so⟩⟩
    have sl : SB (some l) (fun b => b = l) M1 H1 M1 H1 ((L2.start N vs).set j (some (.ref l))) ((startE N ds).set j (some .sto)) := by
      refine ⟨⟨Wl, by rw [List.length_set, List.length_set]; exact s0.sr.len, fun i y e => ?_, fun i _ y _ v ne a b m => absurd m (nm2 i y a)⟩, .refl _, fun _ _ h _ => h, fun _ h _ _ => h, fun i y l a m => absurd m (nm2 i y a), fun b z => (Option.some.inj z).symm, fun b z => ?_⟩
      · by_cases q : i = j
        · subst q
          rw [List.getElem?_set_self hj] at e
          cases e
          exact ⟨_, List.getElem?_set_self hjs, l, rfl, rfl⟩
        · rw [List.getElem?_set_ne (Ne.symm q)] at e
          obtain ⟨v, e1, e2⟩ := s1.sr.sl i y e
          refine ⟨v, by rw [List.getElem?_set_ne (Ne.symm q)]; exact e1, ?_⟩
          cases y with
          | imm d => exact e2
          | sto =>
            obtain ⟨a, _, z⟩ := e2
            cases z
          | addr l => exact e2
          | own _ => exact absurd trivial (nm i _ e)
          | dic _ _ _ => exact absurd trivial (nm i _ e)
          | slf _ _ _ => exact absurd trivial (nm i _ e)
          | sow _ => exact absurd trivial (nm i _ e)
      · have z : b = l := z
        rw [z, hl1]
        intro y
        cases y
    have fin : ∀ {M' H' : Hp}, EB (some l) (fun b => b = l) M1 H1 M' H' → Tr none M H M' H' := fun {M' H'} e => by
      refine ⟨T.m.trans e.m, fun a o q _ => e.h a o (T.h a o q (fun z => nomatch z)) fun z => ?_, fun a q n => e.n a (T.n a q n) ?_ fun z => ?_, e.w.none⟩
      · rw [z, hl] at q
        cases q
      · exact T.there n
      · exact n (by rw [z]; exact hl)
    refine hw (some l) _ M1 H1 M1 H1 _ _ sl ⟨fun σ M' H' ρ s q => k .non .non M' H' (fin s.eb) rep_non q, fun v d σ M' H' ρ e r q _ => k v d M' H' (fin e.eb) r q, fun _ _ _ _ _ z => z.elim, fun _ _ _ _ _ z => z.elim, fun _ _ _ _ _ _ _ _ _ _ _ _ z => z.elim⟩
end
section
variable {ρ : Env} {ta tb tc te : TE} {d x y z : D} {Φ Ψ : D → Prop} {t u : TS} {K : PySem.W.Frag} {P : Post} {S : DSp} {ar : TA} {ds : List D}
theorem ef_callF {S : FSp} {Φ : List D → Prop} (h : EvAV ar ρ ds) (s : S ds Φ) : EvF (tCall (freshSp S) [] E0 ar) ρ Φ := fun st σ M H sr Q q =>
  h st σ M H sr _ fun vs es M1 H1 T r e => by
    subst e
    rw [List.append_nil]
    refine ⟨M1, es, Φ, T.w.ex, r, s, fun l us fs M' H' T' h0 h1 h2 r' f => q l us fs M' H' (T.trans (T'.of_none T.w)) ?_ h1 h2 r' f⟩
    cases e : H l with
    | none => rfl
    | some o => exact absurd h0 (T.there (by rw [e]; intro z; cases z))

/-! values known by a word -/
abbrev IntD (φ : Int → Prop) : D → Prop := fun d => ∃ i, d = .int i ∧ φ i
theorem EvV.i {φ : Int → Prop} {i : Int} (h : EvV ta ρ (.int i)) (k : φ i) : EvW ta ρ (IntD φ) := EvV.w h ⟨i, rfl, k⟩
section
variable {φ ψ θ : Int → Prop}
theorem ew_addI (ha : EvW ta ρ (IntD φ)) (hb : EvW tb ρ (IntD ψ)) (h : ∀ i j, φ i → ψ j → θ (i + j)) : EvW (tOp (rI0 fun i j => .int (i + j)) ta tb) ρ (IntD θ) :=
  ew_op ha (fun _ _ => hb) fun x y ⟨i, e1, f⟩ ⟨j, e2, g⟩ => by
    subst e1 e2
    exact fun st M H vx vy w r1 r2 Q q => ⟨i, j, r1.int_, r2.int_, q _ (.int (i + j)) M H (.refl w) rep_int ⟨_, rfl, h i j f g⟩⟩
theorem ew_subI (ha : EvW ta ρ (IntD φ)) (hb : EvW tb ρ (IntD ψ)) (h : ∀ i j, φ i → ψ j → θ (i - j)) : EvW (tOp (rI0 fun i j => .int (i - j)) ta tb) ρ (IntD θ) :=
  ew_op ha (fun _ _ => hb) fun x y ⟨i, e1, f⟩ ⟨j, e2, g⟩ => by
    subst e1 e2
    exact fun st M H vx vy w r1 r2 Q q => ⟨i, j, r1.int_, r2.int_, q _ (.int (i - j)) M H (.refl w) rep_int ⟨_, rfl, h i j f g⟩⟩
theorem ew_modI (ha : EvW ta ρ (IntD φ)) (hb : EvW tb ρ (IntD ψ)) (h : ∀ i j, φ i → ψ j → 0 < j ∧ θ (i % j)) : EvW (tOp (rI (fun _ j => 0 < j) fun i j => .int (i % j)) ta tb) ρ (IntD θ) :=
  ew_op ha (fun _ _ => hb) fun x y ⟨i, e1, f⟩ ⟨j, e2, g⟩ => by
    subst e1 e2
    exact fun st M H vx vy w r1 r2 Q q => ⟨i, j, r1.int_, r2.int_, (h i j f g).1, q _ (.int (i % j)) M H (.refl w) rep_int ⟨_, rfl, (h i j f g).2⟩⟩
theorem ew_eqI {θ : Bool → Prop} (ha : EvW ta ρ (IntD φ)) (hb : EvW tb ρ (IntD ψ)) (h : ∀ i j, φ i → ψ j → θ (decide (i = j))) : EvW (tOp rEq ta tb) ρ (fun d => ∃ b, d = .bl b ∧ θ b) :=
  ew_op ha (fun _ _ => hb) fun x y ⟨i, e1, f⟩ ⟨j, e2, g⟩ => by
    subst e1 e2
    intro st M H vx vy w r1 r2 Q q
    rw [r1.int_, r2.int_]
    refine ⟨rfl, ?_⟩
    have e : decide (V.int i = V.int j) = decide (i = j) := by rw [decide_eq_decide]; exact ⟨fun h => V.int.inj h, fun h => by rw [h]⟩
    rw [e]
    exact q _ _ M H (.refl w) rep_bl ⟨_, rfl, h i j f g⟩
theorem ew_int1 (h : EvW ta ρ (IntD φ)) : EvW (tCB (fun xs H Q => (∃ i, xs = [V.int i] ∧ Q (.int i) H) ∨ ∃ k, xs = [V.bl k] ∧ Q (.int (if k then 1 else 0)) H) (tCons ta tNil)) ρ (IntD φ) := fun st σ M H s Q q =>
  h st σ M H s _ fun v d M1 H1 T r ⟨i, e, f⟩ => by
    subst e
    exact Or.inl ⟨i, by rw [r.int_], q _ (.int i) M1 H1 T rep_int ⟨i, rfl, f⟩⟩
/-- an item picked by a value known by a word -/
theorem ew_ixW {xs : List D} (hx : EvV ta ρ x) (hs : seqOf x = some xs) (hk : EvW tb ρ (IntD φ)) (h : ∀ i, φ i → ∃ d, atI xs i = some d ∧ Φ d) : EvW (tOp (rIx K) ta tb) ρ Φ :=
  ew_op hx (fun _ _ => hk) fun x' y e1 ⟨i, e2, f⟩ => by
    subst e1 e2
    obtain ⟨d, h1, h2⟩ := h i f
    exact fun st M H vx vy w r1 r2 Q q => rv_ix hs h1 st M H vx vy w r1 r2 Q fun v d' M' H' T r e => q v d' M' H' T r (e ▸ h2)
end
theorem ef_opW {r : R2} {Φ : List D → Prop} {Φa : D → Prop} (ha : EvW ta ρ Φa) (hb : EvV tb ρ y) (hr : ∀ x, Φa x → RF r x y Φ) : EvF (tOp r ta tb) ρ Φ := fun st σ M H s Q q =>
  ha st σ M H s _ fun v x' M1 H1 T1 r1 f1 => hb st σ M1 H1 (s.tr T1) _ fun u y' M2 H2 T2 r2 f2 => by
    rw [f2] at r2
    refine hr x' f1 st M2 H2 v u T2.w (Rep.mono T2.m _ _ r1) r2 Q fun l vs ds M3 H3 T3 hl a b c d => q l vs ds M3 H3 ((T1.trans T2).trans T3) ?_ a b c d
    cases e : H l with
    | none => rfl
    | some o => exact absurd hl ((T1.trans T2).there (by rw [e]; intro z; cases z))
/-- [v] * n, v known by a word -/
theorem ef_repW {n : Nat} (hx : EvW ta ρ fun d => ∃ v, d = .lst [v] ∧ Ψ v) (hk : EvV tb ρ (.int (n : Int))) (h1 : n ≤ 100000) : EvF (tOp rRep ta tb) ρ fun ds => ∃ v, Ψ v ∧ ds = List.replicate n v :=
  ef_opW hx hk fun x ⟨v, e, f⟩ st M H vx vy w r1 r2 Q q => by
    subst e
    obtain ⟨a, us, e1, e2, r⟩ := r1.lst_
    refine ⟨a, (n : Int), us, e1, r2.int_, w.ex _ _ e2, by omega, by omega, by rw [r.len, Int.toNat_natCast]; show 1 * n ≤ _; rw [Nat.one_mul]; exact Nat.le_trans h1 (by decide), fun p hp => q p _ _ M _ (.newO w hp) hp upd_same (w.ex.back hp) (r.rep n) ⟨v, f, rep_flat v n⟩⟩
theorem ew_lst1 (h : EvW ta ρ Ψ) : EvW (tLst (tCons ta tNil)) ρ fun d => ∃ v, d = .lst [v] ∧ Ψ v :=
  EvF.w (ef_lst (ea_consW h fun _ _ => EvA.imp ea_nil fun _ e => e) fun ds ⟨x, r, e, _, f⟩ => by rw [e, f]; show 1 ≤ 1000; decide) fun ds ⟨x, r, e, f, g⟩ => ⟨x, by rw [e, g], f⟩
end
/-! slots that hold nothing that changes -/
def nmL : Env → Prop
  | [] => True
  | none :: r => nmL r
  | some x :: r => ¬ x.mut ∧ nmL r
theorem nm_of : ∀ {ρ : Env}, nmL ρ → ∀ (i : Nat) x, ρ[i]? = some (some x) → ¬ x.mut
  | [], _, i, x, e => by cases e
  | none :: r, h, 0, x, e => by cases e
  | none :: r, h, i + 1, x, e => nm_of (ρ := r) h i x (by simpa using e)
  | some y :: r, h, 0, x, e => by
    cases e
    exact h.1
  | some y :: r, h, i + 1, x, e => nm_of (ρ := r) h.2 i x (by simpa using e)
end SK

set_option Elab.async false
set_option linter.all false
set_option maxRecDepth 100000
set_option maxHeartbeats 4000000
namespace SK
open PySem L2
/-! ### the facts of the text -/
structure Txt (K : PySem.W.Frag) (mg : Str → Option Value) where
  a : Nat → Addr
  f_is_whole : ∃ fd, Fun K "is_whole" "is_whole" (top 11) (a 11) fd ∧ Binds K fd ["value"] []
  f_has_divisor : ∃ fd, Fun K "has_divisor" "has_divisor" (top 15) (a 15) fd ∧ Binds K fd ["value"] []
  f_check_number_polys : ∃ fd, Fun K "check_number" "check_number" (top 24) (a 24) fd ∧ Binds K fd ["prime", "number"] []
  f_trimmed : ∃ fd, Fun K "trimmed" "trimmed" (top 29) (a 29) fd ∧ Binds K fd ["numbers"] []
  f_Poly_degree : ∃ fd, Fun K "degree" "Poly.degree" (inClass (top 31) 1) (a 4101) fd ∧ Binds K fd ["self"] []
  f_check_whole : ∃ fd, Fun K "check_whole" "check_whole" (top 37) (a 37) fd ∧ Binds K fd ["value", "least", "most"] []
  f_check_number_forms : ∃ fd, Fun K "check_number" "check_number" (top 38) (a 38) fd ∧ Binds K fd ["prime", "value"] []
  f_added_up : ∃ fd, Fun K "added_up" "added_up" (top 43) (a 43) fd ∧ Binds K fd ["prime", "pairs"] []
  f_greatest_exponents : ∃ fd, Fun K "greatest_exponents" "greatest_exponents" (top 44) (a 44) fd ∧ Binds K fd ["places", "terms"] []
  f_power_row : ∃ fd, Fun K "power_row" "power_row" (top 45) (a 45) fd ∧ Binds K fd ["prime", "number", "most"] []
  f_corner_sum : ∃ fd, Fun K "corner_sum" "corner_sum" (top 52) (a 52) fd ∧ Binds K fd ["form"] []
  f_own_whole : ∃ fd, Fun K "own_whole" "own_whole" (top 55) (a 55) fd ∧ Binds K fd ["value", "least", "most"] []
  f_own_number : ∃ fd, Fun K "own_number" "own_number" (top 56) (a 56) fd ∧ Binds K fd ["prime", "value"] []
  f_own_poly : ∃ fd, Fun K "own_poly" "own_poly" (top 61) (a 61) fd ∧ Binds K fd ["prime", "poly"] []
  f_Journal_length : ∃ fd, Fun K "length" "Journal.length" (inClass (top 63) 1) (a 7301) fd ∧ Binds K fd ["self"] []
  f_check_same_field : ∃ fd, Fun K "check_same_field" "check_same_field" (top 67) (a 67) fd ∧ Binds K fd ["prime", "thing"] []
  f_lw_mix : ∃ fd, Fun K "_law_mix" "_law_mix" (top 79) (a 79) fd ∧ Binds K fd ["_law_number_here", "_law_turn"] []
  f_lw_store : ∃ fd, Fun K "_law_store" "_law_store" (top 80) (a 80) fd ∧ Binds K fd ["_law_script"] []
  f_lw_primes : ∃ fd, Fun K "_law_primes" "_law_primes" (top 85) (a 85) fd ∧ Binds K fd ["_law_limit"] []
  f_lw_power : ∃ fd, Fun K "_law_power" "_law_power" (top 87) (a 87) fd ∧ Binds K fd ["_law_base", "_law_many"] []
  f_lw_trim : ∃ fd, Fun K "_law_trim" "_law_trim" (top 96) (a 96) fd ∧ Binds K fd ["_law_row_here"] []
  f_lw_field_power : ∃ fd, Fun K "_law_field_power" "_law_field_power" (top 97) (a 97) fd ∧ Binds K fd ["_law_prime_here", "_law_base", "_law_exponent"] []
  f_lw_poly_value : ∃ fd, Fun K "_law_poly_value" "_law_poly_value" (top 98) (a 98) fd ∧ Binds K fd ["_law_prime_here", "_law_row_here", "_law_number_here"] []
  f_lw_poly_ends : ∃ fd, Fun K "_law_poly_ends" "_law_poly_ends" (top 99) (a 99) fd ∧ Binds K fd ["_law_prime_here", "_law_row_here"] []
  f_lw_all_rows : ∃ fd, Fun K "_law_all_rows" "_law_all_rows" (top 100) (a 100) fd ∧ Binds K fd ["_law_prime_here", "_law_many"] []
  f_lw_form_rows : ∃ fd, Fun K "_law_form_rows" "_law_form_rows" (top 101) (a 101) fd ∧ Binds K fd ["_law_prime_here", "_law_terms"] []
  f_lw_form_tops : ∃ fd, Fun K "_law_form_tops" "_law_form_tops" (top 102) (a 102) fd ∧ Binds K fd ["_law_places", "_law_rows"] []
  f_check_prime : ∃ fd, Fun K "check_prime" "check_prime" (top 16) (a 16) fd ∧ Binds K fd ["prime"] []
  f_is_number : ∃ fd, Fun K "is_number" "is_number" (top 17) (a 17) fd ∧ Binds K fd ["value", "prime"] []
  f_check_row : ∃ fd, Fun K "check_row" "check_row" (top 26) (a 26) fd ∧ Binds K fd ["prime", "numbers", "most"] []
  f_Poly_at : ∃ fd, Fun K "at" "Poly.at" (inClass (top 31) 8) (a 4108) fd ∧ Binds K fd ["self", "number"] []
  f_check_numbers_forms : ∃ fd, Fun K "check_numbers" "check_numbers" (top 40) (a 40) fd ∧ Binds K fd ["prime", "row"] []
  f_checked_term : ∃ fd, Fun K "checked_term" "checked_term" (top 42) (a 42) fd ∧ Binds K fd ["prime", "places", "exponents", "coefficient"] []
  f_own_degrees : ∃ fd, Fun K "own_degrees" "own_degrees" (top 57) (a 57) fd ∧ Binds K fd ["form", "degrees"] []
  f_Claim_is_true : ∃ fd, Fun K "is_true" "Claim.is_true" (inClass (top 58) 2) (a 6802) fd ∧ Binds K fd ["self"] []
  f_own_rounds : ∃ fd, Fun K "own_rounds" "own_rounds" (top 62) (a 62) fd ∧ Binds K fd ["prime", "rounds"] []
  f_lw_take : ∃ fd, Fun K "_law_take" "_law_take" (top 81) (a 81) fd ∧ Binds K fd ["_law_store_here", "_law_many"] []
  f_lw_form_value : ∃ fd, Fun K "_law_form_value" "_law_form_value" (top 103) (a 103) fd ∧ Binds K fd ["_law_prime_here", "_law_rows", "_law_point"] []
  f_lw_round_row : ∃ fd, Fun K "_law_round_row" "_law_round_row" (top 104) (a 104) fd ∧ Binds K fd ["_law_prime_here", "_law_places", "_law_rows", "_law_numbers_here"] []
  f_Field_contains : ∃ fd, Fun K "__contains__" "Field.__contains__" (inClass (top 21) 1) (a 3101) fd ∧ Binds K fd ["self", "value"] []
  f_Field_init : ∃ fd, Fun K "__init__" "Field.__init__" (inClass (top 21) 0) (a 3100) fd ∧ Binds K fd ["self", "prime"] []
  f_Poly_ends : ∃ fd, Fun K "ends" "Poly.ends" (inClass (top 31) 9) (a 4109) fd ∧ Binds K fd ["self"] []
  f_Poly_fits : ∃ fd, Fun K "fits" "Poly.fits" (inClass (top 31) 11) (a 4111) fd ∧ Binds K fd ["self", "bound"] []
  f_Poly_init : ∃ fd, Fun K "__init__" "Poly.__init__" (inClass (top 31) 0) (a 4100) fd ∧ Binds K fd ["self", "prime", "coefficients"] []
  f_Form_at : ∃ fd, Fun K "at" "Form.at" (inClass (top 50) 6) (a 6006) fd ∧ Binds K fd ["self", "point"] []
  f_Form_init : ∃ fd, Fun K "__init__" "Form.__init__" (inClass (top 50) 0) (a 6000) fd ∧ Binds K fd ["self", "prime", "places", "terms"] []
  f_Claim_init : ∃ fd, Fun K "__init__" "Claim.__init__" (inClass (top 58) 0) (a 6800) fd ∧ ∃ g : List Value → List Value → List Value, KBn K fd ["self", "form", "degrees", "total"] 2 ["degrees", "total"] g (fun vs zs => vs ++ zs)
  f_Journal_init : ∃ fd, Fun K "__init__" "Journal.__init__" (inClass (top 63) 0) (a 7300) fd ∧ Binds K fd ["self", "prime", "total", "rounds"] []
  f_Teller_init : ∃ fd, Fun K "__init__" "Teller.__init__" (inClass (top 70) 0) (a 8000) fd ∧ Binds K fd ["self", "prime"] []
  f_lw_edge : ∃ fd, Fun K "_law_edge" "_law_edge" (top 82) (a 82) fd ∧ Binds K fd ["_law_store_here", "_law_low", "_law_high"] []
  f_lw_chance : ∃ fd, Fun K "_law_chance" "_law_chance" (top 83) (a 83) fd ∧ Binds K fd ["_law_store_here", "_law_part"] []
  f_lw_pick : ∃ fd, Fun K "_law_pick" "_law_pick" (top 84) (a 84) fd ∧ Binds K fd ["_law_store_here", "_law_row_here"] []
  f_lw_other_number : ∃ fd, Fun K "_law_other_number" "_law_other_number" (top 89) (a 89) fd ∧ Binds K fd ["_law_store_here", "_law_prime_here", "_law_number_here"] []
  f_lw_row : ∃ fd, Fun K "_law_row" "_law_row" (top 91) (a 91) fd ∧ Binds K fd ["_law_store_here", "_law_row_here"] []
  f_lw_honest_rounds : ∃ fd, Fun K "_law_honest_rounds" "_law_honest_rounds" (top 105) (a 105) fd ∧ Binds K fd ["_law_prime_here", "_law_places", "_law_rows", "_law_numbers_here"] []
  f_is_fitting : ∃ fd, Fun K "is_fitting" "is_fitting" (top 69) (a 69) fd ∧ Binds K fd ["poly", "degree", "owed"] []
  f_Honest_init : ∃ fd, Fun K "__init__" "Honest.__init__" (inClass (top 71) 0) (a 8100) fd ∧ Binds K fd ["self", "claim"] []
  f_round_verdict : ∃ fd, Fun K "round_verdict" "round_verdict" (top 74) (a 74) fd ∧ Binds K fd ["claim", "at", "owed", "poly"] []
  f_end_verdict : ∃ fd, Fun K "end_verdict" "end_verdict" (top 75) (a 75) fd ∧ Binds K fd ["claim", "coins", "owed"] []
  f_lw_prime : ∃ fd, Fun K "_law_prime" "_law_prime" (top 86) (a 86) fd ∧ Binds K fd ["_law_store_here"] []
  f_lw_number : ∃ fd, Fun K "_law_number" "_law_number" (top 88) (a 88) fd ∧ Binds K fd ["_law_store_here", "_law_prime_here"] []
  f_lw_drawn_claim : ∃ fd, Fun K "_law_drawn_claim" "_law_drawn_claim" (top 106) (a 106) fd ∧ Binds K fd ["_law_store_here", "_law_prime_here", "_law_places", "_law_many"] []
  f_Form_fix : ∃ fd, Fun K "fix" "Form.fix" (inClass (top 50) 7) (a 6007) fd ∧ Binds K fd ["self", "numbers"] []
  f_Claim_with_total : ∃ fd, Fun K "with_total" "Claim.with_total" (inClass (top 58) 4) (a 6804) fd ∧ Binds K fd ["self", "total"] []
  f_check_numbers_tellers : ∃ fd, Fun K "check_numbers" "check_numbers" (top 65) (a 65) fd ∧ Binds K fd ["prime", "numbers"] []
  f_judge : ∃ fd, Fun K "judge" "judge" (top 76) (a 76) fd ∧ Binds K fd ["claim", "journal"] []
  f_lw_numbers : ∃ fd, Fun K "_law_numbers" "_law_numbers" (top 90) (a 90) fd ∧ Binds K fd ["_law_store_here", "_law_prime_here", "_law_size"] []
  f_round_poly : ∃ fd, Fun K "round_poly" "round_poly" (top 53) (a 53) fd ∧ Binds K fd ["form", "coins"] []
  f_is_let_by : ∃ fd, Fun K "is_let_by" "is_let_by" (top 77) (a 77) fd ∧ Binds K fd ["claim", "journal"] []
  f_lw_rows_of_coins : ∃ fd, Fun K "_law_rows_of_coins" "_law_rows_of_coins" (top 107) (a 107) fd ∧ Binds K fd ["_law_store_here", "_law_prime_here", "_law_places"] []
  f_Honest_hand : ∃ fd, Fun K "hand" "Honest.hand" (inClass (top 71) 1) (a 8101) fd ∧ Binds K fd ["self", "coins"] []
  f_ask : ∃ fd, Fun K "ask" "ask" (top 68) (a 68) fd ∧ Binds K fd ["teller", "prime", "coins"] []
  f_lw_refused : ∃ fd, Fun K "_law_refused" "_law_refused" (top 110) (a 110) fd ∧ Binds K fd ["_law_teller", "_law_numbers_here"] []
  f_talk : ∃ fd, Fun K "talk" "talk" (top 72) (a 72) fd ∧ Binds K fd ["claim", "teller", "coins"] []
  f_lw_same : ∃ fd, Fun K "_law_same" "_law_same" (top 92) (a 92) fd ∧ Binds K fd ["_law_actual", "_law_expected"] []
  f_lw_poly_is : ∃ fd, Fun K "_law_poly_is" "_law_poly_is" (top 93) (a 93) fd ∧ Binds K fd ["_law_actual", "_law_prime_here", "_law_row_here"] []
  f_lw_form_is : ∃ fd, Fun K "_law_form_is" "_law_form_is" (top 94) (a 94) fd ∧ Binds K fd ["_law_actual", "_law_prime_here", "_law_places", "_law_rows"] []
  f_lw_journal_is : ∃ fd, Fun K "_law_journal_is" "_law_journal_is" (top 95) (a 95) fd ∧ Binds K fd ["_law_actual", "_law_prime_here", "_law_opened", "_law_rounds"] []
  f_lw_walked : ∃ fd, Fun K "_law_walked" "_law_walked" (top 108) (a 108) fd ∧ Binds K fd ["_law_journal", "_law_prime_here", "_law_rows", "_law_told", "_law_due", "_law_numbers_here"] []
  f_lw_hands : ∃ fd, Fun K "_law_hands" "_law_hands" (top 109) (a 109) fd ∧ Binds K fd ["_law_teller", "_law_prime_here", "_law_rows", "_law_told", "_law_numbers_here"] []
  f_lw_let_by : ∃ fd, Fun K "_law_let_by" "_law_let_by" (top 111) (a 111) fd ∧ Binds K fd ["_law_store_here", "_law_one", "_law_prime_here", "_law_numbers_here"] []
  f_lw_false_talk : ∃ fd, Fun K "_law_false_talk" "_law_false_talk" (top 112) (a 112) fd ∧ Binds K fd ["_law_store_here", "_law_one", "_law_prime_here", "_law_numbers_here"] []
  f_law : ∃ fd, Fun K "law" "law" (top 113) (a 113) fd ∧ Binds K fd ["_law_script"] []
  g_Claim : mg "Claim" = some (.ref (a 58))
  g_DegreeTooHigh : mg "DegreeTooHigh" = some (.ref (a 5))
  g_Field : mg "Field" = some (.ref (a 21))
  g_Form : mg "Form" = some (.ref (a 50))
  g_Honest : mg "Honest" = some (.ref (a 71))
  g_Journal : mg "Journal" = some (.ref (a 63))
  g_NotInField : mg "NotInField" = some (.ref (a 9))
  g_NotPrime : mg "NotPrime" = some (.ref (a 8))
  g_OtherField : mg "OtherField" = some (.ref (a 3))
  g_OutOfRange : mg "OutOfRange" = some (.ref (a 6))
  g_Poly : mg "Poly" = some (.ref (a 31))
  g_TalkError : mg "TalkError" = some (.ref (a 2))
  g_Teller : mg "Teller" = some (.ref (a 70))
  g_TooLarge : mg "TooLarge" = some (.ref (a 7))
  g_WrongPlaces : mg "WrongPlaces" = some (.ref (a 4))
  g_lw_all_rows : mg "_law_all_rows" = some (.ref (a 100))
  g_lw_chance : mg "_law_chance" = some (.ref (a 83))
  g_lw_drawn_claim : mg "_law_drawn_claim" = some (.ref (a 106))
  g_lw_edge : mg "_law_edge" = some (.ref (a 82))
  g_lw_false_talk : mg "_law_false_talk" = some (.ref (a 112))
  g_lw_field_power : mg "_law_field_power" = some (.ref (a 97))
  g_lw_form_is : mg "_law_form_is" = some (.ref (a 94))
  g_lw_form_rows : mg "_law_form_rows" = some (.ref (a 101))
  g_lw_form_tops : mg "_law_form_tops" = some (.ref (a 102))
  g_lw_form_value : mg "_law_form_value" = some (.ref (a 103))
  g_lw_hands : mg "_law_hands" = some (.ref (a 109))
  g_lw_honest_rounds : mg "_law_honest_rounds" = some (.ref (a 105))
  g_lw_journal_is : mg "_law_journal_is" = some (.ref (a 95))
  g_lw_let_by : mg "_law_let_by" = some (.ref (a 111))
  g_lw_mix : mg "_law_mix" = some (.ref (a 79))
  g_lw_number : mg "_law_number" = some (.ref (a 88))
  g_lw_numbers : mg "_law_numbers" = some (.ref (a 90))
  g_lw_other_number : mg "_law_other_number" = some (.ref (a 89))
  g_lw_pick : mg "_law_pick" = some (.ref (a 84))
  g_lw_poly_ends : mg "_law_poly_ends" = some (.ref (a 99))
  g_lw_poly_is : mg "_law_poly_is" = some (.ref (a 93))
  g_lw_poly_value : mg "_law_poly_value" = some (.ref (a 98))
  g_lw_power : mg "_law_power" = some (.ref (a 87))
  g_lw_prime : mg "_law_prime" = some (.ref (a 86))
  g_lw_primes : mg "_law_primes" = some (.ref (a 85))
  g_lw_refused : mg "_law_refused" = some (.ref (a 110))
  g_lw_round_row : mg "_law_round_row" = some (.ref (a 104))
  g_lw_row : mg "_law_row" = some (.ref (a 91))
  g_lw_rows_of_coins : mg "_law_rows_of_coins" = some (.ref (a 107))
  g_lw_same : mg "_law_same" = some (.ref (a 92))
  g_lw_store : mg "_law_store" = some (.ref (a 80))
  g_lw_take : mg "_law_take" = some (.ref (a 81))
  g_lw_trim : mg "_law_trim" = some (.ref (a 96))
  g_lw_walked : mg "_law_walked" = some (.ref (a 108))
  g_added_up : mg "added_up" = some (.ref (a 43))
  g_ask : mg "ask" = some (.ref (a 68))
  g_check_number_forms : mg "check_number_forms" = some (.ref (a 38))
  g_check_number_polys : mg "check_number_polys" = some (.ref (a 24))
  g_check_numbers_forms : mg "check_numbers_forms" = some (.ref (a 40))
  g_check_numbers_tellers : mg "check_numbers_tellers" = some (.ref (a 65))
  g_check_prime : mg "check_prime" = some (.ref (a 16))
  g_check_row : mg "check_row" = some (.ref (a 26))
  g_check_same_field : mg "check_same_field" = some (.ref (a 67))
  g_check_whole : mg "check_whole" = some (.ref (a 37))
  g_checked_term : mg "checked_term" = some (.ref (a 42))
  g_corner_sum : mg "corner_sum" = some (.ref (a 52))
  g_end_verdict : mg "end_verdict" = some (.ref (a 75))
  g_greatest_exponents : mg "greatest_exponents" = some (.ref (a 44))
  g_has_divisor : mg "has_divisor" = some (.ref (a 15))
  g_is_fitting : mg "is_fitting" = some (.ref (a 69))
  g_is_let_by : mg "is_let_by" = some (.ref (a 77))
  g_is_number : mg "is_number" = some (.ref (a 17))
  g_is_whole : mg "is_whole" = some (.ref (a 11))
  g_judge : mg "judge" = some (.ref (a 76))
  g_own_degrees : mg "own_degrees" = some (.ref (a 57))
  g_own_number : mg "own_number" = some (.ref (a 56))
  g_own_poly : mg "own_poly" = some (.ref (a 61))
  g_own_rounds : mg "own_rounds" = some (.ref (a 62))
  g_own_whole : mg "own_whole" = some (.ref (a 55))
  g_power_row : mg "power_row" = some (.ref (a 45))
  g_round_poly : mg "round_poly" = some (.ref (a 53))
  g_round_verdict : mg "round_verdict" = some (.ref (a 74))
  g_talk : mg "talk" = some (.ref (a 72))
  g_trimmed : mg "trimmed" = some (.ref (a 29))
  m_MAX_COEFFICIENTS : ∃ t, mg "MAX_COEFFICIENTS" = some (.int 128 t)
  m_MAX_DEGREE : ∃ t, mg "MAX_DEGREE" = some (.int 12 t)
  m_MAX_PLACES : ∃ t, mg "MAX_PLACES" = some (.int 5 t)
  m_MAX_PRIME : ∃ t, mg "MAX_PRIME" = some (.int 101 t)
  m_MAX_ROUNDS : ∃ t, mg "MAX_ROUNDS" = some (.int 32 t)
  m_MAX_TERMS : ∃ t, mg "MAX_TERMS" = some (.int 1024 t)
  n_ValueError : mg "ValueError" = none
  n_abs : mg "abs" = none
  n_bool : mg "bool" = none
  n_enumerate : mg "enumerate" = none
  n_int : mg "int" = none
  n_isinstance : mg "isinstance" = none
  n_len : mg "len" = none
  n_list : mg "list" = none
  n_max : mg "max" = none
  n_min : mg "min" = none
  n_property : mg "property" = none
  n_range : mg "range" = none
  n_sorted : mg "sorted" = none
  n_str : mg "str" = none
  n_sum : mg "sum" = none
  n_tuple : mg "tuple" = none
  n_zip : mg "zip" = none
  cl_Field : ClsD K (a 21) ["prime"]
  cl_Poly : ClsD K (a 31) ["prime", "coefficients"]
  cl_Form : ClsD K (a 50) ["prime", "places", "terms", "degrees"]
  cl_Claim : ClsD K (a 58) ["form", "degrees", "total", "prime", "places"]
  cl_Journal : ClsD K (a 63) ["prime", "total", "rounds", "polys", "coins"]
  cl_Honest : ClsD K (a 71) ["prime", "target"]
  ci_Field : ClsI K (a 21)
  ci_Poly : ClsI K (a 31)
  ci_Form : ClsI K (a 50)
  ci_Claim : ClsI K (a 58)
  ci_Journal : ClsI K (a 63)
  ci_Honest : ClsI K (a 71)
  mk_Field : Mk K (a 21) (a 3100)
  mk_Poly : Mk K (a 31) (a 4100)
  mk_Form : Mk K (a 50) (a 6000)
  mk_Claim : Mk K (a 58) (a 6800)
  mk_Journal : Mk K (a 63) (a 7300)
  mk_Honest : Mk K (a 71) (a 8100)
  me_Honest_hand : Meth K (a 71) "hand" (a 8101)
  me_Poly_fits : Meth K (a 31) "fits" (a 4111)
  me_Poly_ends : Meth K (a 31) "ends" (a 4109)
  me_Claim_is_true : Meth K (a 58) "is_true" (a 6802)
  me_Claim_with_total : Meth K (a 58) "with_total" (a 6804)
  me_Poly_at : Meth K (a 31) "at" (a 4108)
  me_Form_at : Meth K (a 50) "at" (a 6006)
  me_Form_fix : Meth K (a 50) "fix" (a 6007)
  pr_Poly_degree : ∃ q, PropOf K (a 31) "degree" q (a 4101)
  pr_Journal_length : ∃ q, PropOf K (a 63) "length" q (a 7301)
  co_Field : ContO K (a 21) (a 3101)
  cf_Teller : CFn K (a 70) "__init__" (a 8000)
  ki_Poly : PySem.W.kitOne K (.ref (a 31)) (.ref (a 31)) = some true
  ki_Form : PySem.W.kitOne K (.ref (a 50)) (.ref (a 50)) = some true
  ki_Journal : PySem.W.kitOne K (.ref (a 63)) (.ref (a 63)) = some true
  ki_Honest : PySem.W.kitOne K (.ref (a 71)) (.ref (a 70)) = some true
  xc_WP : PySem.W.excIn K (a 4) [.type "ValueError", .type "Exception", .type "BaseException", .type "object"] "ValueError.__new__" = true
  kp_WP : PySem.W.keepIn K (.ref (a 4)) = true
  sb_WP : PySem.W.subIn K (.ref (a 4)) (.type "BaseException") = some true
  ty_WP : PySem.W.typeIn K (.ref (a 4)) = some (.type "type")
  ex_WP : PySem.W.exmOne K (.ref (a 4)) (.ref (a 4)) = some true
  ec_WP : ExcC K (a 4)
  ka_WP : PySem.W.kitAny K (.ref (a 4)) [.ref (a 9), .ref (a 3), .ref (a 6), .ref (a 7)] = some false
  kt_WP : PySem.W.kitOne K (.ref (a 4)) (.ref (a 2)) = some true
  kv_WP : PySem.W.kitOne K (.ref (a 4)) (.type "ValueError") = some true
/-! ### each def's scope -/
theorem sc_is_whole : FnScope ["value"] ["value"] (defScope (top 11)) := ⟨rfl, rfl, rfl, by decide +kernel, rfl, by decide +kernel, by decide +kernel⟩
theorem sc_has_divisor : FnScope ["value", "divisor"] ["value"] (defScope (top 15)) := ⟨rfl, rfl, rfl, by decide +kernel, rfl, by decide +kernel, by decide +kernel⟩
theorem sc_check_number_polys : FnScope ["prime", "number"] ["prime", "number"] (defScope (top 24)) := ⟨rfl, rfl, rfl, by decide +kernel, rfl, by decide +kernel, by decide +kernel⟩
theorem sc_trimmed : FnScope ["numbers", "end"] ["numbers"] (defScope (top 29)) := ⟨rfl, rfl, rfl, by decide +kernel, rfl, by decide +kernel, by decide +kernel⟩
theorem sc_Poly_degree : FnScope ["self"] ["self"] (defScope (inClass (top 31) 1)) := ⟨rfl, rfl, rfl, by decide +kernel, rfl, by decide +kernel, by decide +kernel⟩
theorem sc_check_whole : FnScope ["value", "least", "most"] ["value", "least", "most"] (defScope (top 37)) := ⟨rfl, rfl, rfl, by decide +kernel, rfl, by decide +kernel, by decide +kernel⟩
theorem sc_check_number_forms : FnScope ["prime", "value"] ["prime", "value"] (defScope (top 38)) := ⟨rfl, rfl, rfl, by decide +kernel, rfl, by decide +kernel, by decide +kernel⟩
theorem sc_added_up : FnScope ["prime", "pairs", "sums", "exponents", "coefficient", "found"] ["prime", "pairs"] (defScope (top 43)) := ⟨rfl, rfl, rfl, by decide +kernel, rfl, by decide +kernel, by decide +kernel⟩
theorem sc_greatest_exponents : FnScope ["places", "terms", "rows", "exponents", "coefficient", "place", "row"] ["places", "terms"] (defScope (top 44)) := ⟨rfl, rfl, rfl, by decide +kernel, rfl, by decide +kernel, by decide +kernel⟩
theorem sc_power_row : FnScope ["prime", "number", "most", "found", "step"] ["prime", "number", "most"] (defScope (top 45)) := ⟨rfl, rfl, rfl, by decide +kernel, rfl, by decide +kernel, by decide +kernel⟩
theorem sc_corner_sum : FnScope ["form", "total", "exponents", "coefficient"] ["form"] (defScope (top 52)) := ⟨rfl, rfl, rfl, by decide +kernel, rfl, by decide +kernel, by decide +kernel⟩
theorem sc_own_whole : FnScope ["value", "least", "most"] ["value", "least", "most"] (defScope (top 55)) := ⟨rfl, rfl, rfl, by decide +kernel, rfl, by decide +kernel, by decide +kernel⟩
theorem sc_own_number : FnScope ["prime", "value"] ["prime", "value"] (defScope (top 56)) := ⟨rfl, rfl, rfl, by decide +kernel, rfl, by decide +kernel, by decide +kernel⟩
theorem sc_own_poly : FnScope ["prime", "poly"] ["prime", "poly"] (defScope (top 61)) := ⟨rfl, rfl, rfl, by decide +kernel, rfl, by decide +kernel, by decide +kernel⟩
theorem sc_Journal_length : FnScope ["self"] ["self"] (defScope (inClass (top 63) 1)) := ⟨rfl, rfl, rfl, by decide +kernel, rfl, by decide +kernel, by decide +kernel⟩
theorem sc_check_same_field : FnScope ["prime", "thing"] ["prime", "thing"] (defScope (top 67)) := ⟨rfl, rfl, rfl, by decide +kernel, rfl, by decide +kernel, by decide +kernel⟩
theorem sc_lw_mix : FnScope ["_law_number_here", "_law_turn", "_law_one", "_law_two", "_law_three"] ["_law_number_here", "_law_turn"] (defScope (top 79)) := ⟨rfl, rfl, rfl, by decide +kernel, rfl, by decide +kernel, by decide +kernel⟩
theorem sc_lw_store : FnScope ["_law_script", "_law_seed", "_law_cell"] ["_law_script"] (defScope (top 80)) := ⟨rfl, rfl, rfl, by decide +kernel, rfl, by decide +kernel, by decide +kernel⟩
theorem sc_lw_primes : FnScope ["_law_limit", "_law_primes_here", "_law_number_here", "_law_divided", "_law_prime_here"] ["_law_limit"] (defScope (top 85)) := ⟨rfl, rfl, rfl, by decide +kernel, rfl, by decide +kernel, by decide +kernel⟩
theorem sc_lw_power : FnScope ["_law_base", "_law_many", "_law_number_here", "_law_k"] ["_law_base", "_law_many"] (defScope (top 87)) := ⟨rfl, rfl, rfl, by decide +kernel, rfl, by decide +kernel, by decide +kernel⟩
theorem sc_lw_trim : FnScope ["_law_row_here", "_law_size"] ["_law_row_here"] (defScope (top 96)) := ⟨rfl, rfl, rfl, by decide +kernel, rfl, by decide +kernel, by decide +kernel⟩
theorem sc_lw_field_power : FnScope ["_law_prime_here", "_law_base", "_law_exponent", "_law_number_here", "_law_k"] ["_law_prime_here", "_law_base", "_law_exponent"] (defScope (top 97)) := ⟨rfl, rfl, rfl, by decide +kernel, rfl, by decide +kernel, by decide +kernel⟩
theorem sc_lw_poly_value : FnScope ["_law_prime_here", "_law_row_here", "_law_number_here", "_law_value", "_law_k"] ["_law_prime_here", "_law_row_here", "_law_number_here"] (defScope (top 98)) := ⟨rfl, rfl, rfl, by decide +kernel, rfl, by decide +kernel, by decide +kernel⟩
theorem sc_lw_poly_ends : FnScope ["_law_prime_here", "_law_row_here"] ["_law_prime_here", "_law_row_here"] (defScope (top 99)) := ⟨rfl, rfl, rfl, by decide +kernel, rfl, by decide +kernel, by decide +kernel⟩
theorem sc_lw_all_rows : FnScope ["_law_prime_here", "_law_many", "_law_rows", "_law_k", "_law_longer", "_law_row_here", "_law_number_here"] ["_law_prime_here", "_law_many"] (defScope (top 100)) := ⟨rfl, rfl, rfl, by decide +kernel, rfl, by decide +kernel, by decide +kernel⟩
theorem sc_lw_form_rows : FnScope ["_law_prime_here", "_law_terms", "_law_found", "_law_one", "_law_key"] ["_law_prime_here", "_law_terms"] (defScope (top 101)) := ⟨rfl, rfl, rfl, by decide +kernel, rfl, by decide +kernel, by decide +kernel⟩
theorem sc_lw_form_tops : FnScope ["_law_places", "_law_rows", "_law_k", "_law_one"] ["_law_places", "_law_rows"] (defScope (top 102)) := ⟨rfl, rfl, rfl, by decide +kernel, rfl, by decide +kernel, by decide +kernel⟩
theorem sc_check_prime : FnScope ["prime"] ["prime"] (defScope (top 16)) := ⟨rfl, rfl, rfl, by decide +kernel, rfl, by decide +kernel, by decide +kernel⟩
theorem sc_is_number : FnScope ["value", "prime"] ["value", "prime"] (defScope (top 17)) := ⟨rfl, rfl, rfl, by decide +kernel, rfl, by decide +kernel, by decide +kernel⟩
theorem sc_check_row : FnScope ["prime", "numbers", "most", "number"] ["prime", "numbers", "most"] (defScope (top 26)) := ⟨rfl, rfl, rfl, by decide +kernel, rfl, by decide +kernel, by decide +kernel⟩
theorem sc_Poly_at : FnScope ["self", "number", "total", "coefficient"] ["self", "number"] (defScope (inClass (top 31) 8)) := ⟨rfl, rfl, rfl, by decide +kernel, rfl, by decide +kernel, by decide +kernel⟩
theorem sc_check_numbers_forms : FnScope ["prime", "row", "value"] ["prime", "row"] (defScope (top 40)) := ⟨rfl, rfl, rfl, by decide +kernel, rfl, by decide +kernel, by decide +kernel⟩
theorem sc_checked_term : FnScope ["prime", "places", "exponents", "coefficient", "own_exponents", "value"] ["prime", "places", "exponents", "coefficient"] (defScope (top 42)) := ⟨rfl, rfl, rfl, by decide +kernel, rfl, by decide +kernel, by decide +kernel⟩
theorem sc_own_degrees : FnScope ["form", "degrees", "value"] ["form", "degrees"] (defScope (top 57)) := ⟨rfl, rfl, rfl, by decide +kernel, rfl, by decide +kernel, by decide +kernel⟩
theorem sc_Claim_is_true : FnScope ["self"] ["self"] (defScope (inClass (top 58) 2)) := ⟨rfl, rfl, rfl, by decide +kernel, rfl, by decide +kernel, by decide +kernel⟩
theorem sc_own_rounds : FnScope ["prime", "rounds", "kept", "hand_in", "coin"] ["prime", "rounds"] (defScope (top 62)) := ⟨rfl, rfl, rfl, by decide +kernel, rfl, by decide +kernel, by decide +kernel⟩
theorem sc_lw_take : FnScope ["_law_store_here", "_law_many", "_law_cell", "_law_rest"] ["_law_store_here", "_law_many"] (defScope (top 81)) := ⟨rfl, rfl, rfl, by decide +kernel, rfl, by decide +kernel, by decide +kernel⟩
theorem sc_lw_form_value : FnScope ["_law_prime_here", "_law_rows", "_law_point", "_law_value", "_law_one", "_law_number_here", "_law_k"] ["_law_prime_here", "_law_rows", "_law_point"] (defScope (top 103)) := ⟨rfl, rfl, rfl, by decide +kernel, rfl, by decide +kernel, by decide +kernel⟩
theorem sc_lw_round_row : FnScope ["_law_prime_here", "_law_places", "_law_rows", "_law_numbers_here", "_law_at", "_law_row_here", "_law_one", "_law_number_here", "_law_k"] ["_law_prime_here", "_law_places", "_law_rows", "_law_numbers_here"] (defScope (top 104)) := ⟨rfl, rfl, rfl, by decide +kernel, rfl, by decide +kernel, by decide +kernel⟩
theorem sc_Field_contains : FnScope ["self", "value"] ["self", "value"] (defScope (inClass (top 21) 1)) := ⟨rfl, rfl, rfl, by decide +kernel, rfl, by decide +kernel, by decide +kernel⟩
theorem sc_Field_init : FnScope ["self", "prime"] ["self", "prime"] (defScope (inClass (top 21) 0)) := ⟨rfl, rfl, rfl, by decide +kernel, rfl, by decide +kernel, by decide +kernel⟩
theorem sc_Poly_ends : FnScope ["self"] ["self"] (defScope (inClass (top 31) 9)) := ⟨rfl, rfl, rfl, by decide +kernel, rfl, by decide +kernel, by decide +kernel⟩
theorem sc_Poly_fits : FnScope ["self", "bound"] ["self", "bound"] (defScope (inClass (top 31) 11)) := ⟨rfl, rfl, rfl, by decide +kernel, rfl, by decide +kernel, by decide +kernel⟩
theorem sc_Poly_init : FnScope ["self", "prime", "coefficients"] ["self", "prime", "coefficients"] (defScope (inClass (top 31) 0)) := ⟨rfl, rfl, rfl, by decide +kernel, rfl, by decide +kernel, by decide +kernel⟩
theorem sc_Form_at : FnScope ["self", "point", "numbers", "tables", "total", "exponents", "coefficient", "value", "table", "exponent", "number", "most"] ["self", "point"] (defScope (inClass (top 50) 6)) := ⟨rfl, rfl, rfl, by decide +kernel, rfl, by decide +kernel, by decide +kernel⟩
theorem sc_Form_init : FnScope ["self", "prime", "places", "terms", "pairs", "own_terms", "exponents", "coefficient"] ["self", "prime", "places", "terms"] (defScope (inClass (top 50) 0)) := ⟨rfl, rfl, rfl, by decide +kernel, rfl, by decide +kernel, by decide +kernel⟩
theorem sc_Claim_init : FnScope ["self", "form", "degrees", "total", "told", "has", "most"] ["self", "form", "degrees", "total"] (defScope (inClass (top 58) 0)) := ⟨rfl, rfl, rfl, by decide +kernel, rfl, by decide +kernel, by decide +kernel⟩
theorem sc_Journal_init : FnScope ["self", "prime", "total", "rounds", "pair"] ["self", "prime", "total", "rounds"] (defScope (inClass (top 63) 0)) := ⟨rfl, rfl, rfl, by decide +kernel, rfl, by decide +kernel, by decide +kernel⟩
theorem sc_Teller_init : FnScope ["self", "prime"] ["self", "prime"] (defScope (inClass (top 70) 0)) := ⟨rfl, rfl, rfl, by decide +kernel, rfl, by decide +kernel, by decide +kernel⟩
theorem sc_lw_edge : FnScope ["_law_store_here", "_law_low", "_law_high", "_law_many", "_law_way"] ["_law_store_here", "_law_low", "_law_high"] (defScope (top 82)) := ⟨rfl, rfl, rfl, by decide +kernel, rfl, by decide +kernel, by decide +kernel⟩
theorem sc_lw_chance : FnScope ["_law_store_here", "_law_part"] ["_law_store_here", "_law_part"] (defScope (top 83)) := ⟨rfl, rfl, rfl, by decide +kernel, rfl, by decide +kernel, by decide +kernel⟩
theorem sc_lw_pick : FnScope ["_law_store_here", "_law_row_here"] ["_law_store_here", "_law_row_here"] (defScope (top 84)) := ⟨rfl, rfl, rfl, by decide +kernel, rfl, by decide +kernel, by decide +kernel⟩
theorem sc_lw_other_number : FnScope ["_law_store_here", "_law_prime_here", "_law_number_here"] ["_law_store_here", "_law_prime_here", "_law_number_here"] (defScope (top 89)) := ⟨rfl, rfl, rfl, by decide +kernel, rfl, by decide +kernel, by decide +kernel⟩
theorem sc_lw_row : FnScope ["_law_store_here", "_law_row_here"] ["_law_store_here", "_law_row_here"] (defScope (top 91)) := ⟨rfl, rfl, rfl, by decide +kernel, rfl, by decide +kernel, by decide +kernel⟩
theorem sc_lw_honest_rounds : FnScope ["_law_prime_here", "_law_places", "_law_rows", "_law_numbers_here", "_law_k"] ["_law_prime_here", "_law_places", "_law_rows", "_law_numbers_here"] (defScope (top 105)) := ⟨rfl, rfl, rfl, by decide +kernel, rfl, by decide +kernel, by decide +kernel⟩
theorem sc_is_fitting : FnScope ["poly", "degree", "owed"] ["poly", "degree", "owed"] (defScope (top 69)) := ⟨rfl, rfl, rfl, by decide +kernel, rfl, by decide +kernel, by decide +kernel⟩
theorem sc_Honest_init : FnScope ["self", "claim"] ["self", "claim"] (defScope (inClass (top 71) 0)) := ⟨rfl, rfl, rfl, by decide +kernel, rfl, by decide +kernel, by decide +kernel⟩
theorem sc_round_verdict : FnScope ["claim", "at", "owed", "poly"] ["claim", "at", "owed", "poly"] (defScope (top 74)) := ⟨rfl, rfl, rfl, by decide +kernel, rfl, by decide +kernel, by decide +kernel⟩
theorem sc_end_verdict : FnScope ["claim", "coins", "owed"] ["claim", "coins", "owed"] (defScope (top 75)) := ⟨rfl, rfl, rfl, by decide +kernel, rfl, by decide +kernel, by decide +kernel⟩
theorem sc_lw_prime : FnScope ["_law_store_here", "_law_primes_here"] ["_law_store_here"] (defScope (top 86)) := ⟨rfl, rfl, rfl, by decide +kernel, rfl, by decide +kernel, by decide +kernel⟩
theorem sc_lw_number : FnScope ["_law_store_here", "_law_prime_here"] ["_law_store_here", "_law_prime_here"] (defScope (top 88)) := ⟨rfl, rfl, rfl, by decide +kernel, rfl, by decide +kernel, by decide +kernel⟩
theorem sc_lw_drawn_claim : FnScope ["_law_store_here", "_law_prime_here", "_law_places", "_law_many", "_law_most", "_law_pairs", "_law_k", "_law_exponents", "_law_rows", "_law_told", "_law_due", "_law_top", "_law_j"] ["_law_store_here", "_law_prime_here", "_law_places", "_law_many"] (defScope (top 106)) := ⟨rfl, rfl, rfl, by decide +kernel, rfl, by decide +kernel, by decide +kernel⟩
theorem sc_Form_fix : FnScope ["self", "numbers", "own_numbers", "many", "tables", "pairs", "exponents", "coefficient", "value", "table", "exponent", "number", "most"] ["self", "numbers"] (defScope (inClass (top 50) 7)) := ⟨rfl, rfl, rfl, by decide +kernel, rfl, by decide +kernel, by decide +kernel⟩
theorem sc_Claim_with_total : FnScope ["self", "total"] ["self", "total"] (defScope (inClass (top 58) 4)) := ⟨rfl, rfl, rfl, by decide +kernel, rfl, by decide +kernel, by decide +kernel⟩
theorem sc_check_numbers_tellers : FnScope ["prime", "numbers", "field", "value"] ["prime", "numbers"] (defScope (top 65)) := ⟨rfl, rfl, rfl, by decide +kernel, rfl, by decide +kernel, by decide +kernel⟩
theorem sc_judge : FnScope ["claim", "journal", "owed", "at", "hand_in", "coin", "broken"] ["claim", "journal"] (defScope (top 76)) := ⟨rfl, rfl, rfl, by decide +kernel, rfl, by decide +kernel, by decide +kernel⟩
theorem sc_lw_numbers : FnScope ["_law_store_here", "_law_prime_here", "_law_size", "_law_way", "_law_k"] ["_law_store_here", "_law_prime_here", "_law_size"] (defScope (top 90)) := ⟨rfl, rfl, rfl, by decide +kernel, rfl, by decide +kernel, by decide +kernel⟩
theorem sc_round_poly : FnScope ["form", "coins", "rest", "row", "exponents", "coefficient", "later", "power", "value"] ["form", "coins"] (defScope (top 53)) := ⟨rfl, rfl, rfl, by decide +kernel, rfl, by decide +kernel, by decide +kernel⟩
theorem sc_is_let_by : FnScope ["claim", "journal"] ["claim", "journal"] (defScope (top 77)) := ⟨rfl, rfl, rfl, by decide +kernel, rfl, by decide +kernel, by decide +kernel⟩
theorem sc_lw_rows_of_coins : FnScope ["_law_store_here", "_law_prime_here", "_law_places", "_law_k"] ["_law_store_here", "_law_prime_here", "_law_places"] (defScope (top 107)) := ⟨rfl, rfl, rfl, by decide +kernel, rfl, by decide +kernel, by decide +kernel⟩
theorem sc_Honest_hand : FnScope ["self", "coins"] ["self", "coins"] (defScope (inClass (top 71) 1)) := ⟨rfl, rfl, rfl, by decide +kernel, rfl, by decide +kernel, by decide +kernel⟩
theorem sc_ask : FnScope ["teller", "prime", "coins", "poly"] ["teller", "prime", "coins"] (defScope (top 68)) := ⟨rfl, rfl, rfl, by decide +kernel, rfl, by decide +kernel, by decide +kernel⟩
theorem sc_lw_refused : FnScope ["_law_teller", "_law_numbers_here", "e", "_law_alone"] ["_law_teller", "_law_numbers_here"] (defScope (top 110)) := ⟨rfl, rfl, rfl, by decide +kernel, rfl, by decide +kernel, by decide +kernel⟩
theorem sc_talk : FnScope ["claim", "teller", "coins", "kept", "rounds", "owed", "at", "coin", "poly"] ["claim", "teller", "coins"] (defScope (top 72)) := ⟨rfl, rfl, rfl, by decide +kernel, rfl, by decide +kernel, by decide +kernel⟩
theorem sc_lw_same : FnScope ["_law_actual", "_law_expected", "_law_fitting", "_law_k"] ["_law_actual", "_law_expected"] (defScope (top 92)) := ⟨rfl, rfl, rfl, by decide +kernel, rfl, by decide +kernel, by decide +kernel⟩
theorem sc_lw_poly_is : FnScope ["_law_actual", "_law_prime_here", "_law_row_here"] ["_law_actual", "_law_prime_here", "_law_row_here"] (defScope (top 93)) := ⟨rfl, rfl, rfl, by decide +kernel, rfl, by decide +kernel, by decide +kernel⟩
theorem sc_lw_form_is : FnScope ["_law_actual", "_law_prime_here", "_law_places", "_law_rows"] ["_law_actual", "_law_prime_here", "_law_places", "_law_rows"] (defScope (top 94)) := ⟨rfl, rfl, rfl, by decide +kernel, rfl, by decide +kernel, by decide +kernel⟩
theorem sc_lw_journal_is : FnScope ["_law_actual", "_law_prime_here", "_law_opened", "_law_rounds", "_law_k", "_law_pair"] ["_law_actual", "_law_prime_here", "_law_opened", "_law_rounds"] (defScope (top 95)) := ⟨rfl, rfl, rfl, by decide +kernel, rfl, by decide +kernel, by decide +kernel⟩
theorem sc_lw_walked : FnScope ["_law_journal", "_law_prime_here", "_law_rows", "_law_told", "_law_due", "_law_numbers_here", "_law_owed", "_law_k", "_law_poly"] ["_law_journal", "_law_prime_here", "_law_rows", "_law_told", "_law_due", "_law_numbers_here"] (defScope (top 108)) := ⟨rfl, rfl, rfl, by decide +kernel, rfl, by decide +kernel, by decide +kernel⟩
theorem sc_lw_hands : FnScope ["_law_teller", "_law_prime_here", "_law_rows", "_law_told", "_law_numbers_here", "_law_k", "_law_handed"] ["_law_teller", "_law_prime_here", "_law_rows", "_law_told", "_law_numbers_here"] (defScope (top 109)) := ⟨rfl, rfl, rfl, by decide +kernel, rfl, by decide +kernel, by decide +kernel⟩
theorem sc_lw_let_by : FnScope ["_law_store_here", "_law_one", "_law_prime_here", "_law_numbers_here", "_law_claim", "_law_teller", "_law_coins", "_law_journal", "_law_rounds"] ["_law_store_here", "_law_one", "_law_prime_here", "_law_numbers_here"] (defScope (top 111)) := ⟨rfl, rfl, rfl, by decide +kernel, rfl, by decide +kernel, by decide +kernel⟩
theorem sc_lw_false_talk : FnScope ["_law_store_here", "_law_one", "_law_prime_here", "_law_numbers_here", "_law_places", "_law_number_here", "_law_claim", "_law_teller", "_law_rounds", "_law_journal", "_law_verdict"] ["_law_store_here", "_law_one", "_law_prime_here", "_law_numbers_here"] (defScope (top 112)) := ⟨rfl, rfl, rfl, by decide +kernel, rfl, by decide +kernel, by decide +kernel⟩
theorem sc_law : FnScope ["_law_script", "_law_store_here", "_law_prime_here", "_law_pair", "_law_k", "_law_places", "_law_parts", "_law_form", "_law_claim", "_law_one", "_law_numbers_here", "_law_more", "_law_first", "_law_second"] ["_law_script"] (defScope (top 113)) := ⟨rfl, rfl, rfl, by decide +kernel, rfl, by decide +kernel, by decide +kernel⟩
end SK

set_option Elab.async false
set_option linter.all false
set_option maxRecDepth 100000
set_option maxHeartbeats 4000000
namespace SK
open PySem PySem.Spec PyProof.Rows L2
section
variable {P : Program} {w : World} {K : PySem.W.Frag} {mg : Str → Option Value} {base : Heap}

abbrev det (R : List D → D → Prop) : DSp := fun ds Φ => ∃ d, R ds d ∧ Φ d
def PrimeOk (p : Int) : Prop := 2 ≤ p ∧ p ≤ 101 ∧ ∀ d : Int, 2 ≤ d → d * d ≤ p → p % d ≠ 0
abbrev intsD (ns : List Int) : List D := ns.map D.int
abbrev Txt.poly (T : Txt K mg) (p : Int) (cs : List Int) : D := .obj (T.a 31) ["prime", "coefficients"] [.int p, .ktp (intsD cs)]
def trimI (ns : List Int) : List Int := (ns.reverse.dropWhile (· == 0)).reverse
theorem take_last {ns : List Int} {e : Nat} (h : e < ns.length) : ns.take (e + 1) = ns.take e ++ [ns[e]] := by
  rw [List.take_add_one, List.getElem?_eq_getElem h]
  rfl
theorem trimI_step {ns : List Int} {e : Nat} (h : e < ns.length) (z : ns[e] = 0) : trimI (ns.take (e + 1)) = trimI (ns.take e) := by
  unfold trimI
  rw [take_last h, List.reverse_append, z]
  rfl
theorem trimI_stop {ns : List Int} {e : Nat} (h : e < ns.length) (z : ns[e] ≠ 0) : trimI (ns.take (e + 1)) = ns.take (e + 1) := by
  unfold trimI
  rw [take_last h, List.reverse_append]
  show ((ns[e] :: (ns.take e).reverse).dropWhile (· == 0)).reverse = _
  rw [List.dropWhile_cons, if_neg (by simpa using z)]
  rw [List.reverse_cons, List.reverse_reverse]
theorem get_ints {ns : List Int} {i : Nat} (h : i < ns.length) : (intsD ns)[i]? = some (.int ns[i]) := by
  rw [List.getElem?_map, List.getElem?_eq_getElem h]
  rfl

abbrev S_is_whole : DSp := det fun ds d => ∃ i : Int, ds = [.int i] ∧ d = .bl true
theorem ok_is_whole (T : Txt K mg) : FnP P w K mg base 1 (T.a 11) ["value"] (pureSp S_is_whole) := by
  refine fn_pure T.f_is_whole sc_is_whole (fun ds Φ h => ?_) (fun cdv A outer s H E hr ds Φ h => ⟨_, (pss_cons (ps_ret (pe_and (pe_callB call_isi (by rfl) T.n_isinstance (by decide +kernel) (pa_cons (pv 0) (pa_cons (pe_bltn (v := .ty "int") (by rfl) T.n_int (by decide +kernel) rfl) pa_nil))) (pe_one (pe_not (pe_callB call_isi (by rfl) T.n_isinstance (by decide +kernel) (pa_cons (pv 0) (pa_cons (pe_bltn (v := .ty "bool") (by rfl) T.n_bool (by decide +kernel) rfl) pa_nil)))))))
    pss_nil), ?_⟩)
  · obtain ⟨d, ⟨i, rfl, rfl⟩, k⟩ := h
    rfl
  obtain ⟨d, ⟨i, rfl, rfl⟩, k⟩ := h
  refine sq_retV (ev_and (ev_isiB (ev_var rfl) rfl rfl) fun _ => (ev_not (ev_isiB (ev_var rfl) rfl rfl))) k

abbrev S_has_divisor : DSp := det fun ds d => ∃ p : Int, PrimeOk p ∧ ds = [.int p] ∧ d = .bl false
theorem ok_has_divisor (T : Txt K mg) : FnP P w K mg base 1 (T.a 15) ["value"] (pureSp S_has_divisor) := by
  refine fn_pure T.f_has_divisor sc_has_divisor (fun ds Φ h => ?_) (fun cdv A outer s H E hr ds Φ h => ⟨_, (pss_cons (ps_set (i := 1) sc_has_divisor.nd rfl (Or.inl rfl) pe_int)
    (pss_cons (ps_while PassesOwn.never (pt_cmpR op_le (pe_op op_mul (pv 1) (pv 1)) (pv 0) (nomark _))
      (pss_cons (ps_if (pt_cmpR op_eq (pe_op op_mod (pv 0) (pv 1)) pe_int (nomark _))
        (pss_cons (ps_ret pe_bl)
        pss_nil)
        pss_nil)
      (pss_cons (ps_aug (i := 1) sc_has_divisor.nd rfl (Or.inl rfl) pe_int ip_add)
      pss_nil)))
    (pss_cons (ps_ret pe_bl)
    pss_nil))), ?_⟩)
  · obtain ⟨d, ⟨p, ⟨p1, p2, p3⟩, rfl, rfl⟩, k⟩ := h
    rfl
  obtain ⟨d, ⟨p, ⟨p1, p2, p3⟩, rfl, rfl⟩, k⟩ := h
  refine sq_asg ev_int (show 1 < 2 by decide) ?_
  refine sq_while (fun ρ => ∃ d : Int, 2 ≤ d ∧ d ≤ 11 ∧ ρ = [some (.imm (.int p)), some (.imm (.int d))]) (fun ρ => match ρ with | [_, some (.imm (.int d))] => (12 - d).toNat | _ => 0) ⟨2, by omega, by omega, rfl⟩ ?_
  rintro ρ ⟨d, h1, h2, rfl⟩
  refine ⟨_, (eb_test (ev_le (ev_mul (ev_var rfl) (ev_var rfl) (Or.inl ⟨by omega, by omega⟩)) (ev_var rfl))), fun hb => ?_, fun hb => ?_⟩
  · have hd : d * d ≤ p := of_decide_eq_true hb
    have h3 : d ≤ 10 := by
      rcases Int.lt_or_le d 11 with z | z
      · omega
      · have := Int.mul_le_mul z z (by omega) (by omega)
        omega
    refine sq_when (eb_test (ev_eqI (ev_mod (ev_var rfl) (ev_var rfl) (by omega)) ev_int)) (fun hb => ?_) (fun hb => ?_)
    · exact absurd (of_decide_eq_true hb) (p3 d h1 hd)
    refine sq_asg (ev_add (ev_var rfl) ev_int) (show 1 < 2 by decide) ?_
    exact sw_next ⟨⟨d + 1, by omega, by omega, rfl⟩, by show (12 - (d + 1)).toNat < (12 - d).toNat; omega⟩
  · refine sq_retV ev_bl k

abbrev S_check_number_polys : DSp := det fun ds d => ∃ p n : Int, 0 ≤ n ∧ n < p ∧ ds = [.int p, .int n] ∧ d = .non
theorem ok_check_number_polys (T : Txt K mg) : FnP P w K mg base 1 (T.a 24) ["prime", "number"] (pureSp S_check_number_polys) := by
  refine fn_pure T.f_check_number_polys sc_check_number_polys (fun ds Φ h => ?_) (fun cdv A outer s H E hr ds Φ h => ⟨_, (pss_cons (ps_if (PW.pt (pw_or (pt_val (pe_callB call_isi (by rfl) T.n_isinstance (by decide +kernel) (pa_cons (pv 1) (pa_cons (pe_bltn (v := .ty "bool") (by rfl) T.n_bool (by decide +kernel) rfl) pa_nil)))) (pw_or1 (pt_not (pt_val (pe_callB call_isi (by rfl) T.n_isinstance (by decide +kernel) (pa_cons (pv 1) (pa_cons (pe_bltn (v := .ty "int") (by rfl) T.n_int (by decide +kernel) rfl) pa_nil))))))))
      pss_never
      pss_nil)
    (pss_cons (ps_if (PW.pt (pw_or (pt_cmpR op_lt (pv 1) pe_int (nomark _)) (pw_or1 (pt_cmpR op_ge (pv 1) (pv 0) (nomark _)))))
      pss_never
      pss_nil)
    pss_nil)), ?_⟩)
  · obtain ⟨d, ⟨p, n, h1, h2, rfl, rfl⟩, k⟩ := h
    rfl
  obtain ⟨d, ⟨p, n, h1, h2, rfl, rfl⟩, k⟩ := h
  refine sq_no (eb_or (eb_B (ev_isiB (ev_var rfl) rfl rfl)) fun _ => (eb_not (eb_B (ev_isiB (ev_var rfl) rfl rfl)))) rfl ?_
  refine sq_no (eb_or (eb_test (ev_lt (ev_var rfl) ev_int)) fun _ => (eb_test (ev_ge (ev_var rfl) (ev_var rfl)))) (by simp; omega) ?_
  exact sw_next k

abbrev S_check_whole : DSp := det fun ds d => ∃ v a b : Int, a ≤ v ∧ v ≤ b ∧ ds = [.int v, .int a, .int b] ∧ d = .int v
theorem ok_check_whole (T : Txt K mg) : FnP P w K mg base 1 (T.a 37) ["value", "least", "most"] (pureSp S_check_whole) := by
  refine fn_pure T.f_check_whole sc_check_whole (fun ds Φ h => ?_) (fun cdv A outer s H E hr ds Φ h => ⟨_, (pss_cons (ps_if (PW.pt (pw_or (pt_not (pt_val (pe_callB call_isi (by rfl) T.n_isinstance (by decide +kernel) (pa_cons (pv 0) (pa_cons (pe_bltn (v := .ty "int") (by rfl) T.n_int (by decide +kernel) rfl) pa_nil))))) (pw_or1 (pt_val (pe_callB call_isi (by rfl) T.n_isinstance (by decide +kernel) (pa_cons (pv 0) (pa_cons (pe_bltn (v := .ty "bool") (by rfl) T.n_bool (by decide +kernel) rfl) pa_nil)))))))
      pss_never
      pss_nil)
    (pss_cons (ps_if (PW.pt (pw_or (pt_cmpR op_lt (pv 0) (pv 1) (nomark _)) (pw_or1 (pt_cmpR op_gt (pv 0) (pv 2) (nomark _)))))
      pss_never
      pss_nil)
    (pss_cons (ps_ret (pv 0))
    pss_nil))), ?_⟩)
  · obtain ⟨d, ⟨v, a, b, h1, h2, rfl, rfl⟩, k⟩ := h
    rfl
  obtain ⟨d, ⟨v, a, b, h1, h2, rfl, rfl⟩, k⟩ := h
  refine sq_no (eb_or (eb_not (eb_B (ev_isiB (ev_var rfl) rfl rfl))) fun _ => (eb_B (ev_isiB (ev_var rfl) rfl rfl))) rfl ?_
  refine sq_no (eb_or (eb_test (ev_lt (ev_var rfl) (ev_var rfl))) fun _ => (eb_test (ev_gt (ev_var rfl) (ev_var rfl)))) (by simp; omega) ?_
  refine sq_retV (ev_var rfl) k

abbrev S_own_whole : DSp := det fun ds d => ∃ v a b : Int, a ≤ v ∧ v ≤ b ∧ ds = [.int v, .int a, .int b] ∧ d = .int v
theorem ok_own_whole (T : Txt K mg) : FnP P w K mg base 1 (T.a 55) ["value", "least", "most"] (pureSp S_own_whole) := by
  refine fn_pure T.f_own_whole sc_own_whole (fun ds Φ h => ?_) (fun cdv A outer s H E hr ds Φ h => ⟨_, (pss_cons (ps_if (PW.pt (pw_or (pt_not (pt_val (pe_callB call_isi (by rfl) T.n_isinstance (by decide +kernel) (pa_cons (pv 0) (pa_cons (pe_bltn (v := .ty "int") (by rfl) T.n_int (by decide +kernel) rfl) pa_nil))))) (pw_or1 (pt_val (pe_callB call_isi (by rfl) T.n_isinstance (by decide +kernel) (pa_cons (pv 0) (pa_cons (pe_bltn (v := .ty "bool") (by rfl) T.n_bool (by decide +kernel) rfl) pa_nil)))))))
      pss_never
      pss_nil)
    (pss_cons (ps_if (PW.pt (pw_or (pt_cmpR op_lt (pv 0) (pv 1) (nomark _)) (pw_or1 (pt_cmpR op_gt (pv 0) (pv 2) (nomark _)))))
      pss_never
      pss_nil)
    (pss_cons (ps_ret (pv 0))
    pss_nil))), ?_⟩)
  · obtain ⟨d, ⟨v, a, b, h1, h2, rfl, rfl⟩, k⟩ := h
    rfl
  obtain ⟨d, ⟨v, a, b, h1, h2, rfl, rfl⟩, k⟩ := h
  refine sq_no (eb_or (eb_not (eb_B (ev_isiB (ev_var rfl) rfl rfl))) fun _ => (eb_B (ev_isiB (ev_var rfl) rfl rfl))) rfl ?_
  refine sq_no (eb_or (eb_test (ev_lt (ev_var rfl) (ev_var rfl))) fun _ => (eb_test (ev_gt (ev_var rfl) (ev_var rfl)))) (by simp; omega) ?_
  refine sq_retV (ev_var rfl) k

abbrev S_check_number_forms : DSp := det fun ds d => ∃ p n : Int, 0 ≤ n ∧ n < p ∧ ds = [.int p, .int n] ∧ d = .int n
theorem ok_check_number_forms (T : Txt K mg) : FnP P w K mg base 1 (T.a 38) ["prime", "value"] (pureSp S_check_number_forms) := by
  refine fn_pure T.f_check_number_forms sc_check_number_forms (fun ds Φ h => ?_) (fun cdv A outer s H E hr ds Φ h => ⟨_, (pss_cons (ps_if (PW.pt (pw_or (pt_not (pt_val (pe_callB call_isi (by rfl) T.n_isinstance (by decide +kernel) (pa_cons (pv 1) (pa_cons (pe_bltn (v := .ty "int") (by rfl) T.n_int (by decide +kernel) rfl) pa_nil))))) (pw_or1 (pt_val (pe_callB call_isi (by rfl) T.n_isinstance (by decide +kernel) (pa_cons (pv 1) (pa_cons (pe_bltn (v := .ty "bool") (by rfl) T.n_bool (by decide +kernel) rfl) pa_nil)))))))
      pss_never
      pss_nil)
    (pss_cons (ps_if (PW.pt (pw_or (pt_cmpR op_lt (pv 1) pe_int (nomark _)) (pw_or1 (pt_cmpR op_ge (pv 1) (pv 0) (nomark _)))))
      pss_never
      pss_nil)
    (pss_cons (ps_ret (pv 1))
    pss_nil))), ?_⟩)
  · obtain ⟨d, ⟨p, n, h1, h2, rfl, rfl⟩, k⟩ := h
    rfl
  obtain ⟨d, ⟨p, n, h1, h2, rfl, rfl⟩, k⟩ := h
  refine sq_no (eb_or (eb_not (eb_B (ev_isiB (ev_var rfl) rfl rfl))) fun _ => (eb_B (ev_isiB (ev_var rfl) rfl rfl))) rfl ?_
  refine sq_no (eb_or (eb_test (ev_lt (ev_var rfl) ev_int)) fun _ => (eb_test (ev_ge (ev_var rfl) (ev_var rfl)))) (by simp; omega) ?_
  refine sq_retV (ev_var rfl) k

abbrev S_own_number : DSp := det fun ds d => ∃ p n : Int, 0 ≤ n ∧ n < p ∧ ds = [.int p, .int n] ∧ d = .int n
theorem ok_own_number (T : Txt K mg) : FnP P w K mg base 1 (T.a 56) ["prime", "value"] (pureSp S_own_number) := by
  refine fn_pure T.f_own_number sc_own_number (fun ds Φ h => ?_) (fun cdv A outer s H E hr ds Φ h => ⟨_, (pss_cons (ps_if (PW.pt (pw_or (pt_not (pt_val (pe_callB call_isi (by rfl) T.n_isinstance (by decide +kernel) (pa_cons (pv 1) (pa_cons (pe_bltn (v := .ty "int") (by rfl) T.n_int (by decide +kernel) rfl) pa_nil))))) (pw_or1 (pt_val (pe_callB call_isi (by rfl) T.n_isinstance (by decide +kernel) (pa_cons (pv 1) (pa_cons (pe_bltn (v := .ty "bool") (by rfl) T.n_bool (by decide +kernel) rfl) pa_nil)))))))
      pss_never
      pss_nil)
    (pss_cons (ps_if (PW.pt (pw_or (pt_cmpR op_lt (pv 1) pe_int (nomark _)) (pw_or1 (pt_cmpR op_ge (pv 1) (pv 0) (nomark _)))))
      pss_never
      pss_nil)
    (pss_cons (ps_ret (pv 1))
    pss_nil))), ?_⟩)
  · obtain ⟨d, ⟨p, n, h1, h2, rfl, rfl⟩, k⟩ := h
    rfl
  obtain ⟨d, ⟨p, n, h1, h2, rfl, rfl⟩, k⟩ := h
  refine sq_no (eb_or (eb_not (eb_B (ev_isiB (ev_var rfl) rfl rfl))) fun _ => (eb_B (ev_isiB (ev_var rfl) rfl rfl))) rfl ?_
  refine sq_no (eb_or (eb_test (ev_lt (ev_var rfl) ev_int)) fun _ => (eb_test (ev_ge (ev_var rfl) (ev_var rfl)))) (by simp; omega) ?_
  refine sq_retV (ev_var rfl) k

abbrev S_trimmed : DSp := det fun ds d => ∃ (ns : List Int) (x : D), (x = .lst (intsD ns) ∨ x = .ktp (intsD ns)) ∧ ds = [x] ∧ d = .ktp (intsD (trimI ns))
theorem ok_trimmed (T : Txt K mg) : FnP P w K mg base 1 (T.a 29) ["numbers"] (pureSp S_trimmed) := by
  refine fn_pure T.f_trimmed sc_trimmed (fun ds Φ h => ?_) (fun cdv A outer s H E hr ds Φ h => ⟨_, (pss_cons (ps_set (i := 1) sc_trimmed.nd rfl (Or.inl rfl) (pe_callB call_len_seq (by rfl) T.n_len (by decide +kernel) (pa_cons (pv 0) pa_nil)))
    (pss_cons (ps_while PassesOwn.never (PW.pt (pw_and (pt_cmpR op_gt (pv 1) pe_int (nomark _)) (pw_and1 (pt_cmpR op_eq (pe_ix ix_seq (pv 0) (pe_op op_sub (pv 1) pe_int) (fun _ _ => rfl)) pe_int (nomark _)))))
      (pss_cons (ps_set (i := 1) sc_trimmed.nd rfl (Or.inl rfl) (pe_op op_sub (pv 1) pe_int))
      pss_nil))
    (pss_cons (ps_ret (pe_callTy call_tupK (by rfl) T.n_tuple (by decide +kernel) (pa_cons (pe_slice sl_seq (pv 0) po_none (po_some (pv 1))) pa_nil)))
    pss_nil))), ?_⟩)
  · obtain ⟨d, ⟨ns, x, hx, rfl, rfl⟩, k⟩ := h
    rfl
  obtain ⟨d, ⟨ns, x, hx, rfl, rfl⟩, k⟩ := h
  have hs : seqOf x = some (intsD ns) := by rcases hx with e | e <;> rw [e] <;> rfl
  have hl : (intsD ns).length = ns.length := List.length_map ..
  refine sq_asg (ev_len (ev_var rfl) hs) (show 1 < 2 by decide) ?_
  refine sq_while (fun ρ => ∃ e : Nat, e ≤ ns.length ∧ trimI ns = trimI (ns.take e) ∧ ρ = [some (.imm x), some (.imm (.int e))]) (fun ρ => match ρ with | [_, some (.imm (.int d))] => d.toNat | _ => 0) ⟨ns.length, Nat.le_refl _, by rw [List.take_length], by rw [← hl]; rfl⟩ ?_
  rintro ρ ⟨e, h1, h2, rfl⟩
  by_cases h0 : e = 0
  · subst h0
    refine ⟨false, EvB.is (eb_and (b := false) (eb_test (ev_gt (ev_var rfl) ev_int)) fun z => absurd (of_decide_eq_true z) (by omega)) (by simp), (fun hb => nomatch hb), fun _ => ?_⟩
    have e0 : trimI ns = [] := h2
    rcases hx with e | e
    · subst e
      refine sq_retV (ev_tuple (ev_slL (ev_var rfl) eo_none (eo_some (ev_var rfl))) rfl) ?_
      rw [cut_take]
      rw [e0] at k
      exact k
    · subst e
      refine sq_retV (ev_tuple (ev_slT (ev_var rfl) eo_none (eo_some (ev_var rfl))) rfl) ?_
      rw [cut_take]
      rw [e0] at k
      exact k
  · obtain ⟨e, rfl⟩ : ∃ e', e = e' + 1 := ⟨e - 1, by omega⟩
    have hlt : e < ns.length := by omega
    refine ⟨_, (eb_and (eb_test (ev_gt (ev_var rfl) ev_int)) fun _ => (eb_test (ev_eqI (ev_ix (ev_var rfl) (ev_sub (ev_var rfl) ev_int) hs (at_nat (j := e) (by omega) (get_ints hlt))) ev_int))), fun hb => ?_, fun hb => ?_⟩
    · obtain ⟨_, hz⟩ := Bool.and_eq_true_iff.mp hb
      refine sq_asg (ev_sub (ev_var rfl) ev_int) (show 1 < 2 by decide) ?_
      have e1 : ((e + 1 : Nat) : Int) - 1 = (e : Int) := by omega
      rw [e1]
      exact sw_next ⟨⟨e, by omega, by rw [h2]; exact trimI_step hlt (of_decide_eq_true hz), rfl⟩, by show ((e : Nat) : Int).toNat < ((e + 1 : Nat) : Int).toNat; omega⟩
    · have hz : ns[e] ≠ 0 := fun z => by
        rw [z] at hb
        have : (decide ((0 : Int) < ((e + 1 : Nat) : Int)) && decide ((0 : Int) = 0)) = true := by simp
        rw [this] at hb
        cases hb
      have e0 : trimI ns = ns.take (e + 1) := h2.trans (trimI_stop hlt hz)
      have e3 : (intsD ns).take (e + 1) = intsD (trimI ns) := by rw [e0]; exact (List.map_take ..).symm
      rcases hx with e | e
      · subst e
        refine sq_retV (ev_tuple (ev_slL (ev_var rfl) eo_none (eo_some (ev_var rfl))) rfl) ?_
        rw [cut_take, e3]
        exact k
      · subst e
        refine sq_retV (ev_tuple (ev_slT (ev_var rfl) eo_none (eo_some (ev_var rfl))) rfl) ?_
        rw [cut_take, e3]
        exact k

abbrev S_Poly_degree (T : Txt K mg) : DSp := det fun ds d => ∃ (p : Int) (cs : List Int), ds = [T.poly p cs] ∧ d = .int (max ((cs.length : Int) - 1) 0)
theorem ok_Poly_degree (T : Txt K mg) : FnP P w K mg base 1 (T.a 4101) ["self"] (pureSp (S_Poly_degree T)) := by
  refine fn_pure T.f_Poly_degree sc_Poly_degree (fun ds Φ h => ?_) (fun cdv A outer s H E hr ds Φ h => ⟨_, (pss_cons (ps_ret (pe_callB (call_max2 rfl) (by rfl) T.n_max (by decide +kernel) (pa_cons (pe_op op_sub (pe_callB call_len_seq (by rfl) T.n_len (by decide +kernel) (pa_cons (pe_fld (pv 0) rfl) pa_nil)) pe_int) (pa_cons pe_int pa_nil))))
    pss_nil), ?_⟩)
  · obtain ⟨d, ⟨p, cs, rfl, rfl⟩, k⟩ := h
    rfl
  obtain ⟨d, ⟨p, cs, rfl, rfl⟩, k⟩ := h
  refine sq_retV (ev_max2 (ev_sub (ev_len (ev_fld 1 T.cl_Poly (ev_var rfl) rfl rfl) rfl) ev_int) ev_int) ?_
  rw [List.length_map]
  exact k

abbrev S_own_poly (T : Txt K mg) : DSp := det fun ds d => ∃ (p : Int) (cs : List Int), ds = [.int p, T.poly p cs] ∧ d = T.poly p cs
theorem ok_own_poly (T : Txt K mg) : FnP P w K mg base 1 (T.a 61) ["prime", "poly"] (pureSp (S_own_poly T)) := by
  refine fn_pure T.f_own_poly sc_own_poly (fun ds Φ h => ?_) (fun cdv A outer s H E hr ds Φ h => ⟨_, (pss_cons (ps_if (pt_cmpR op_ne (pe_fld (pv 1) rfl) (pv 0) (nomark _))
      pss_never
      pss_nil)
    (pss_cons (ps_ret (pv 1))
    pss_nil)), ?_⟩)
  · obtain ⟨d, ⟨p, cs, rfl, rfl⟩, k⟩ := h
    rfl
  obtain ⟨d, ⟨p, cs, rfl, rfl⟩, k⟩ := h
  refine sq_no (eb_test (ev_neI (ev_fld 0 T.cl_Poly (ev_var rfl) rfl rfl) (ev_var rfl))) (by simp) ?_
  refine sq_retV (ev_var rfl) k

abbrev S_check_same_field (T : Txt K mg) : DSp := det fun ds d => ∃ (p : Int) (cs : List Int), ds = [.int p, T.poly p cs] ∧ d = .non
theorem ok_check_same_field (T : Txt K mg) : FnP P w K mg base 1 (T.a 67) ["prime", "thing"] (pureSp (S_check_same_field T)) := by
  refine fn_pure T.f_check_same_field sc_check_same_field (fun ds Φ h => ?_) (fun cdv A outer s H E hr ds Φ h => ⟨_, (pss_cons (ps_if (pt_cmpR op_ne (pe_fld (pv 1) rfl) (pv 0) (nomark _))
      pss_never
      pss_nil)
    pss_nil), ?_⟩)
  · obtain ⟨d, ⟨p, cs, rfl, rfl⟩, k⟩ := h
    rfl
  obtain ⟨d, ⟨p, cs, rfl, rfl⟩, k⟩ := h
  refine sq_no (eb_test (ev_neI (ev_fld 0 T.cl_Poly (ev_var rfl) rfl rfl) (ev_var rfl))) (by simp) ?_
  exact sw_next k

end
end SK

set_option Elab.async false
set_option linter.all false
set_option maxRecDepth 100000
set_option maxHeartbeats 4000000
namespace SK
open PySem L2
/-! ### tables of terms: sums kept modulo p -/
def wsum (f : List Int → Int) (kvs : Kvs) : Int := (kvs.map fun t => t.2 * f t.1).sum
theorem wsum_nil (f : List Int → Int) : wsum f [] = 0 := rfl
theorem wsum_cons (f : List Int → Int) (t : List Int × Int) (r : Kvs) : wsum f (t :: r) = t.2 * f t.1 + wsum f r := by
  unfold wsum
  rw [List.map_cons, List.sum_cons]
theorem wsum_append (f : List Int → Int) (a b : Kvs) : wsum f (a ++ b) = wsum f a + wsum f b := by
  unfold wsum
  rw [List.map_append, List.sum_append]
theorem wsum_perm {f : List Int → Int} {a b : Kvs} (h : a.Perm b) : wsum f a = wsum f b := by
  induction h with
  | nil => rfl
  | cons x _ ih => rw [wsum_cons, wsum_cons, ih]
  | swap x y l => rw [wsum_cons, wsum_cons, wsum_cons, wsum_cons]; omega
  | trans _ _ h1 h2 => exact h1.trans h2
abbrev keysK (kvs : Kvs) : List (List Int) := kvs.map (·.1)
theorem getI_none {k : List Int} : ∀ {kvs : Kvs}, k ∉ keysK kvs → getI kvs k = none
  | [], _ => rfl
  | p :: r, h => by
    rw [getI_neg fun e => h (by rw [← e]; exact List.mem_cons_self ..)]
    exact getI_none fun m => h (List.mem_cons_of_mem _ m)
theorem getI_some {k : List Int} : ∀ {kvs : Kvs}, k ∈ keysK kvs → ∃ v, getI kvs k = some v
  | [], h => by cases h
  | p :: r, h => by
    by_cases e : p.1 = k
    · exact ⟨_, getI_pos e⟩
    · rw [getI_neg e]
      rcases List.mem_cons.mp h with z | z
      · exact absurd z.symm e
      · exact getI_some z
theorem getI_isSome (kvs : Kvs) (k : List Int) : (getI kvs k).isSome = decide (k ∈ keysK kvs) := by
  by_cases h : k ∈ keysK kvs
  · obtain ⟨v, e⟩ := getI_some h
    rw [e, decide_eq_true h]
    rfl
  · rw [getI_none h, decide_eq_false h]
    rfl
theorem getI_mem {k : List Int} {v : Int} : ∀ {kvs : Kvs}, (keysK kvs).Nodup → (k, v) ∈ kvs → getI kvs k = some v
  | [], _, h => by cases h
  | p :: r, nd, h => by
    obtain ⟨n1, n2⟩ := List.nodup_cons.mp nd
    rcases List.mem_cons.mp h with e | h
    · rw [← e]
      exact getI_pos rfl
    · have ne : ¬ p.1 = k := fun e => n1 (List.mem_map.mpr ⟨(k, v), h, e.symm⟩)
      rw [getI_neg ne]
      exact getI_mem n2 h
theorem keys_repl (k : List Int) (v : Int) (kvs : Kvs) : keysK (kvs.map fun r => if r.1 = k then (r.1, v) else r) = keysK kvs := by
  unfold keysK
  rw [List.map_map]
  apply List.map_congr_left
  intro r _
  show (if r.1 = k then (r.1, v) else r).1 = r.1
  split <;> rfl
theorem keys_put (kvs : Kvs) (k : List Int) (v : Int) : keysK (putI kvs k v) = if k ∈ keysK kvs then keysK kvs else keysK kvs ++ [k] := by
  unfold putI
  rw [getI_isSome]
  by_cases h : k ∈ keysK kvs
  · rw [if_pos (decide_eq_true h), if_pos h, keys_repl]
  · rw [if_neg (by simpa using h), if_neg h, keysK, List.map_append]
    rfl
theorem nodup_put {kvs : Kvs} (nd : (keysK kvs).Nodup) (k : List Int) (v : Int) : (keysK (putI kvs k v)).Nodup := by
  rw [keys_put]
  split
  · exact nd
  · rename_i h
    exact List.nodup_append.mpr ⟨nd, by simp, fun a ha b hb e => by rw [List.mem_singleton] at hb; rw [e, hb] at ha; exact h ha⟩
theorem mem_put {kvs : Kvs} {k : List Int} {v : Int} {t : List Int × Int} (h : t ∈ putI kvs k v) : t = (k, v) ∨ t ∈ kvs := by
  unfold putI at h
  split at h
  · obtain ⟨q, hq, e⟩ := List.mem_map.mp h
    split at e
    · rename_i z
      exact Or.inl (by rw [← e, z])
    · exact Or.inr (e ▸ hq)
  · rcases List.mem_append.mp h with m | m
    · exact Or.inr m
    · exact Or.inl (List.mem_singleton.mp m)
theorem len_put (kvs : Kvs) (k : List Int) (v : Int) : (putI kvs k v).length ≤ kvs.length + 1 := by
  unfold putI
  split
  · rw [List.length_map]; omega
  · rw [List.length_append]; exact Nat.le_refl _
theorem wsum_repl_ne (f : List Int → Int) (k : List Int) (v : Int) : ∀ {kvs : Kvs}, k ∉ keysK kvs → (kvs.map fun r => if r.1 = k then (r.1, v) else r) = kvs
  | [], _ => rfl
  | p :: r, h => by
    rw [List.map_cons, if_neg fun e => h (by rw [← e]; exact List.mem_cons_self ..), wsum_repl_ne f k v fun m => h (List.mem_cons_of_mem _ m)]
theorem wsum_repl (f : List Int → Int) (k : List Int) (v : Int) : ∀ {kvs : Kvs}, (keysK kvs).Nodup → k ∈ keysK kvs → wsum f (kvs.map fun r => if r.1 = k then (r.1, v) else r) = wsum f kvs + (v - (getI kvs k).getD 0) * f k
  | [], _, h => by cases h
  | p :: r, nd, h => by
    obtain ⟨n1, n2⟩ := List.nodup_cons.mp nd
    by_cases e : p.1 = k
    · subst e
      rw [List.map_cons, if_pos rfl, wsum_repl_ne f p.1 v n1, wsum_cons, wsum_cons, getI_pos rfl, Option.getD_some, Int.sub_mul]
      show v * f p.1 + wsum f r = p.2 * f p.1 + wsum f r + (v * f p.1 - p.2 * f p.1)
      omega
    · rw [List.map_cons, if_neg e, wsum_cons, wsum_cons, getI_neg e, wsum_repl f k v n2 ((List.mem_cons.mp h).resolve_left fun z => e z.symm)]
      omega
theorem wsum_put (f : List Int → Int) {kvs : Kvs} (nd : (keysK kvs).Nodup) (k : List Int) (v : Int) : wsum f (putI kvs k v) = wsum f kvs + (v - (getI kvs k).getD 0) * f k := by
  unfold putI
  rw [getI_isSome]
  by_cases h : k ∈ keysK kvs
  · rw [if_pos (decide_eq_true h)]
    exact wsum_repl f k v nd h
  · rw [if_neg (by simpa using h), wsum_append, wsum_cons, wsum_nil, getI_none h, Option.getD_none, Int.sub_zero, Int.add_zero]
/-- the table that added_up makes, before it is sorted -/
def foldT (p : Int) (acc pairs : Kvs) : Kvs := pairs.foldl (fun acc t => putI acc t.1 (((getI acc t.1).getD 0 + t.2) % p)) acc
theorem foldT_cons (p : Int) (acc : Kvs) (t : List Int × Int) (r : Kvs) : foldT p acc (t :: r) = foldT p (putI acc t.1 (((getI acc t.1).getD 0 + t.2) % p)) r := rfl
theorem foldT_snoc (p : Int) (acc : Kvs) (t : List Int × Int) (r : Kvs) : foldT p acc (r ++ [t]) = putI (foldT p acc r) t.1 (((getI (foldT p acc r) t.1).getD 0 + t.2) % p) := by
  unfold foldT
  rw [List.foldl_append]
  rfl
theorem foldT_nodup {p : Int} : ∀ {pairs acc : Kvs}, (keysK acc).Nodup → (keysK (foldT p acc pairs)).Nodup
  | [], _, h => h
  | t :: r, acc, h => by
    rw [foldT_cons]
    exact foldT_nodup (nodup_put h _ _)
theorem foldT_len {p : Int} : ∀ {pairs acc : Kvs}, (foldT p acc pairs).length ≤ acc.length + pairs.length
  | [], _ => Nat.le_refl _
  | t :: r, acc => by
    rw [foldT_cons, List.length_cons]
    have h1 := foldT_len (p := p) (pairs := r) (acc := putI acc t.1 (((getI acc t.1).getD 0 + t.2) % p))
    have h2 := len_put acc t.1 (((getI acc t.1).getD 0 + t.2) % p)
    omega
theorem foldT_mem {p : Int} (hp : 0 < p) : ∀ {pairs acc : Kvs} {t : List Int × Int}, t ∈ foldT p acc pairs → t ∈ acc ∨ (0 ≤ t.2 ∧ t.2 < p ∧ ∃ q ∈ pairs, q.1 = t.1)
  | [], _, _, h => Or.inl h
  | q :: r, acc, t, h => by
    rw [foldT_cons] at h
    rcases foldT_mem hp h with m | ⟨h1, h2, z, hz, e⟩
    · rcases mem_put m with e | m
      · subst e
        exact Or.inr ⟨Int.emod_nonneg _ (by omega), Int.emod_lt_of_pos _ hp, q, List.mem_cons_self .., rfl⟩
      · exact Or.inl m
    · exact Or.inr ⟨h1, h2, z, List.mem_cons_of_mem _ hz, e⟩
theorem foldT_sum {p : Int} (f : List Int → Int) : ∀ {pairs acc : Kvs}, (keysK acc).Nodup → ∃ q, wsum f (foldT p acc pairs) = wsum f acc + wsum f pairs + p * q
  | [], acc, _ => ⟨0, by rw [wsum_nil]; show wsum f acc = _; omega⟩
  | t :: r, acc, nd => by
    rw [foldT_cons]
    obtain ⟨q, e⟩ := foldT_sum (p := p) f (pairs := r) (nodup_put nd t.1 (((getI acc t.1).getD 0 + t.2) % p))
    rw [e, wsum_put f nd, wsum_cons]
    generalize (getI acc t.1).getD 0 = o
    refine ⟨q - (o + t.2) / p * f t.1, ?_⟩
    have d := Int.emod_add_mul_ediv (o + t.2) p
    generalize (o + t.2) / p = m at d ⊢
    generalize (o + t.2) % p = v at d ⊢
    generalize f t.1 = F
    have d2 : v = o + t.2 - p * m := by omega
    rw [d2]
    grind
theorem wsum_filter (f : List Int → Int) : ∀ kvs : Kvs, wsum f (kvs.filter fun t => decide (t.2 ≠ 0)) = wsum f kvs
  | [] => rfl
  | t :: r => by
    have ih := wsum_filter f r
    by_cases h : t.2 = 0
    · rw [List.filter_cons, if_neg (by simp [h]), ih, wsum_cons, h, Int.zero_mul, Int.zero_add]
    · rw [List.filter_cons, if_pos (by simp [h]), wsum_cons, wsum_cons, ih]
/-! ### sorted by the keys -/
theorem code_inj {B : Int} : ∀ {a b : List Int}, a.length = b.length → TS.Bd B a → TS.Bd B b → TS.code B a = TS.code B b → a = b
  | [], [], _, _, _, _ => rfl
  | [], _ :: _, h, _, _, _ => by cases h
  | _ :: _, [], h, _, _, _ => by cases h
  | x :: a, y :: b, h, h1, h2, e => by
    have hl : a.length = b.length := Nat.succ.inj h
    have exy : x = y := by
      rcases Int.lt_trichotomy x y with z | z | z
      · exact absurd e (Int.ne_of_lt (TS.code_lt hl h1.tail h2.tail z))
      · exact z
      · exact absurd e.symm (Int.ne_of_lt (TS.code_lt hl.symm h2.tail h1.tail z))
    subst exy
    have e2 : TS.code B a = TS.code B b := by
      rcases Int.lt_trichotomy (TS.code B a) (TS.code B b) with z | z | z
      · exact absurd e (Int.ne_of_lt ((TS.code_same hl).mpr z))
      · exact z
      · exact absurd e.symm (Int.ne_of_lt ((TS.code_same hl.symm).mpr z))
    rw [code_inj hl h1.tail h2.tail e2]
theorem sorted_unique {α : Type} (f : α → Int) : ∀ {l1 l2 : List α}, l1.Perm l2 → l1.Pairwise (fun a b => f a < f b) → l2.Pairwise (fun a b => f a < f b) → l1 = l2
  | [], l2, p, _, _ => (List.Perm.nil_eq p)
  | x :: r, [], p, _, _ => absurd p.symm.nil_eq (by simp)
  | x :: r, y :: q, p, h1, h2 => by
    have a1 := List.pairwise_cons.mp h1
    have a2 := List.pairwise_cons.mp h2
    have e : x = y := by
      have mx : x ∈ y :: q := p.mem_iff.mp (List.mem_cons_self ..)
      have my : y ∈ x :: r := p.mem_iff.mpr (List.mem_cons_self ..)
      rcases List.mem_cons.mp mx with e | mx
      · exact e
      · rcases List.mem_cons.mp my with e | my
        · exact e.symm
        · have b1 := a2.1 x mx
          have b2 := a1.1 y my
          omega
    subst e
    rw [sorted_unique f (List.perm_cons x |>.mp p) a1.2 a2.2]
abbrev codeT (t : List Int × Int) : Int := TS.code 13 t.1
def canonR (p : Int) (pairs : Kvs) : Kvs := ((foldT p [] pairs).filter fun t => decide (t.2 ≠ 0)).mergeSort fun a b => decide (codeT a ≤ codeT b)
/-- a row of terms as a form holds it -/
structure RowsOk (p : Int) (n : Nat) (rows : Kvs) : Prop where
  len : ∀ t ∈ rows, t.1.length = n
  bd : ∀ t ∈ rows, TS.Bd 13 t.1
  lo : ∀ t ∈ rows, 1 ≤ t.2
  hi : ∀ t ∈ rows, t.2 < p
  srt : rows.Pairwise fun a b => codeT a < codeT b
structure PairsOk (n : Nat) (pairs : Kvs) : Prop where
  len : ∀ t ∈ pairs, t.1.length = n
  bd : ∀ t ∈ pairs, TS.Bd 13 t.1
theorem RowsOk.pairs {p : Int} {n : Nat} {rows : Kvs} (h : RowsOk p n rows) : PairsOk n rows := ⟨h.len, h.bd⟩
theorem canon_perm (p : Int) (pairs : Kvs) : (canonR p pairs).Perm ((foldT p [] pairs).filter fun t => decide (t.2 ≠ 0)) := List.mergeSort_perm _ _
theorem strict_of {n : Nat} {rows : Kvs} (h : PairsOk n rows) (nd : (keysK rows).Nodup) (s : rows.Pairwise fun a b => codeT a ≤ codeT b) : rows.Pairwise fun a b => codeT a < codeT b := by
  have nd2 := List.pairwise_map.mp nd
  refine List.Pairwise.imp_of_mem (fun {a b} ha hb hle => ?_) (s.and nd2)
  rcases Int.lt_or_eq_of_le hle.1 with z | z
  · exact z
  · exact absurd (code_inj ((h.len a ha).trans (h.len b hb).symm) (h.bd a ha) (h.bd b hb) z) hle.2
theorem canon_ok {p : Int} (hp : 0 < p) {n : Nat} {pairs : Kvs} (h : PairsOk n pairs) : RowsOk p n (canonR p pairs) := by
  have pm := canon_perm p pairs
  have fm : ∀ t ∈ canonR p pairs, t.2 ≠ 0 ∧ 0 ≤ t.2 ∧ t.2 < p ∧ ∃ q ∈ pairs, q.1 = t.1 := fun t ht => by
    have m := pm.mem_iff.mp ht
    obtain ⟨m1, m2⟩ := List.mem_filter.mp m
    rcases foldT_mem hp m1 with z | z
    · cases z
    · exact ⟨by simpa using m2, z⟩
  have po : PairsOk n (canonR p pairs) := ⟨fun t ht => by
    obtain ⟨_, _, _, q, hq, e⟩ := fm t ht
    rw [← e]
    exact h.len q hq, fun t ht => by
    obtain ⟨_, _, _, q, hq, e⟩ := fm t ht
    rw [← e]
    exact h.bd q hq⟩
  have nd : (keysK (canonR p pairs)).Nodup := by
    have := (pm.map (·.1)).nodup_iff.mpr ((List.Sublist.map (·.1) (List.filter_sublist (l := foldT p [] pairs))).nodup (foldT_nodup (p := p) (pairs := pairs) (acc := []) List.nodup_nil))
    exact this
  refine ⟨po.len, po.bd, fun t ht => ?_, fun t ht => (fm t ht).2.2.1, strict_of po nd ?_⟩
  · have := fm t ht
    omega
  · have s := List.pairwise_mergeSort (le := fun a b : List Int × Int => decide (codeT a ≤ codeT b)) (fun a b c h1 h2 => by simp at *; omega) (fun a b => by simp; omega) ((foldT p [] pairs).filter fun t => decide (t.2 ≠ 0))
    exact s.imp fun h => of_decide_eq_true h
theorem canon_sum {p : Int} (f : List Int → Int) (pairs : Kvs) : wsum f (canonR p pairs) % p = wsum f pairs % p := by
  rw [wsum_perm (canon_perm p pairs), wsum_filter]
  obtain ⟨q, e⟩ := foldT_sum (p := p) f (pairs := pairs) (acc := []) List.nodup_nil
  rw [e, wsum_nil, Int.zero_add, Int.add_mul_emod_self_left]
theorem canon_len (p : Int) (pairs : Kvs) : (canonR p pairs).length ≤ pairs.length := by
  rw [(canon_perm p pairs).length_eq]
  refine Nat.le_trans (List.length_filter_le _ _) ?_
  have := foldT_len (p := p) (pairs := pairs) (acc := [])
  simpa using this
theorem nodup_of_strict {rows : Kvs} (s : rows.Pairwise fun a b => codeT a < codeT b) : (keysK rows).Nodup := by
  refine List.pairwise_map.mpr (s.imp fun {a b} h e => ?_)
  have e : codeT a = codeT b := by
    show TS.code 13 a.1 = TS.code 13 b.1
    rw [e]
  omega
theorem foldT_self {p : Int} : ∀ {rows acc : Kvs}, (keysK (acc ++ rows)).Nodup → (∀ t ∈ rows, 0 ≤ t.2 ∧ t.2 < p) → foldT p acc rows = acc ++ rows
  | [], acc, _, _ => by rw [List.append_nil]; rfl
  | t :: r, acc, nd, h => by
    have hk : t.1 ∉ keysK acc := fun m => by
      rw [keysK, List.map_append] at nd
      exact (List.nodup_append.mp nd).2.2 t.1 m t.1 (List.mem_cons_self ..) rfl
    have hv := h t (List.mem_cons_self ..)
    have ep : putI acc t.1 (((getI acc t.1).getD 0 + t.2) % p) = acc ++ [t] := by
      rw [getI_none hk, Option.getD_none, Int.zero_add, Int.emod_eq_of_lt hv.1 hv.2]
      unfold putI
      rw [getI_none hk]
      rfl
    rw [foldT_cons, ep, foldT_self (by rw [List.append_assoc]; exact nd) fun t ht => h t (List.mem_cons_of_mem _ ht), List.append_assoc]
    rfl
theorem canon_self {p : Int} {n : Nat} {rows : Kvs} (h : RowsOk p n rows) (hp : 0 < p) : canonR p rows = rows := by
  have nd := nodup_of_strict h.srt
  have e1 : foldT p [] rows = rows := foldT_self nd fun t ht => ⟨by have := h.lo t ht; omega, h.hi t ht⟩
  have e2 : (rows.filter fun t => decide (t.2 ≠ 0)) = rows := List.filter_eq_self.mpr fun t ht => by
    have := h.lo t ht
    simp
    omega
  refine sorted_unique codeT ?_ (canon_ok hp h.pairs).srt h.srt
  have pm := canon_perm p rows
  rw [e1, e2] at pm
  exact pm
/-- what the walk of added_up meets: the keys in order, those of a sum that is not 0 -/
theorem canon_of {p : Int} (hp : 0 < p) {n : Nat} {pairs : Kvs} (h : PairsOk n pairs) {ks : List (List Int)} (pm : ks.Perm (keysK (foldT p [] pairs))) (s : ks.Pairwise fun a b => TS.code 13 a ≤ TS.code 13 b) :
    ((ks.filter fun k => decide ((getI (foldT p [] pairs) k).getD 0 ≠ 0)).map fun k => (k, (getI (foldT p [] pairs) k).getD 0)) = canonR p pairs := by
  have nd : (keysK (foldT p [] pairs)).Nodup := foldT_nodup (p := p) (pairs := pairs) (acc := []) List.nodup_nil
  generalize hF : foldT p [] pairs = F at nd pm
  have e : ∀ m : Kvs, (∀ t ∈ m, t ∈ F) → (((keysK m).filter fun k => decide ((getI F k).getD 0 ≠ 0)).map fun k => (k, (getI F k).getD 0)) = m.filter fun t => decide (t.2 ≠ 0) := by
    intro m
    induction m with
    | nil => intro _; rfl
    | cons t r ih =>
      intro hm
      have g : getI F t.1 = some t.2 := getI_mem nd (hm t (List.mem_cons_self ..))
      have ih' := ih fun t ht => hm t (List.mem_cons_of_mem _ ht)
      show (((t.1 :: keysK r).filter fun k => decide ((getI F k).getD 0 ≠ 0)).map fun k => (k, (getI F k).getD 0)) = _
      rw [List.filter_cons, List.filter_cons, g, Option.getD_some]
      by_cases z : t.2 = 0
      · rw [if_neg (by simp [z]), if_neg (by simp [z])]
        exact ih'
      · rw [if_pos (by simp [z]), if_pos (by simp [z]), List.map_cons, ih', g]
        rfl
  have po := canon_ok (p := p) hp h
  have cp := canon_perm p pairs
  rw [hF] at cp
  have pm2 : ((ks.filter fun k => decide ((getI F k).getD 0 ≠ 0)).map fun k => (k, (getI F k).getD 0)).Perm (canonR p pairs) := by
    refine ((pm.filter _).map _).trans ?_
    rw [e F fun t ht => ht]
    exact cp.symm
  refine sorted_unique codeT pm2 ?_ po.srt
  have po2 : PairsOk n ((ks.filter fun k => decide ((getI F k).getD 0 ≠ 0)).map fun k => (k, (getI F k).getD 0)) := ⟨fun t ht => po.len t (pm2.mem_iff.mp ht), fun t ht => po.bd t (pm2.mem_iff.mp ht)⟩
  refine strict_of po2 ?_ ?_
  · have nd2 : ks.Nodup := pm.nodup_iff.mpr nd
    have : keysK ((ks.filter fun k => decide ((getI F k).getD 0 ≠ 0)).map fun k => (k, (getI F k).getD 0)) = ks.filter fun k => decide ((getI F k).getD 0 ≠ 0) := by
      rw [keysK, List.map_map]
      exact List.map_id _
    rw [this]
    exact List.filter_sublist.nodup nd2
  · exact List.pairwise_map.mpr ((s.sublist List.filter_sublist).imp fun h => h)
end SK

set_option Elab.async false
set_option linter.all false
set_option maxRecDepth 100000
set_option maxHeartbeats 4000000
namespace SK
open PySem PySem.Spec PyProof.Rows L2
section
variable {P : Program} {w : World} {K : PySem.W.Frag} {mg : Str → Option Value} {base : Heap}

abbrev termD (t : List Int × Int) : D := .tup [.ktp (intsD t.1), .int t.2]
def tops (n : Nat) (rows : Kvs) : List Int := (List.range n).map fun j => (rows.map fun t => t.1.getD j 0).foldl max 0
abbrev Txt.form (T : Txt K mg) (p : Int) (n : Nat) (rows : Kvs) : D := .obj (T.a 50) ["prime", "places", "terms", "degrees"] [.int p, .int (n : Int), .ktp (rows.map termD), .ktp (intsD (tops n rows))]
def powR (p x : Int) (m : Nat) : List Int := (List.range m).map fun k => x ^ k % p
def pval (p : Int) (cs : List Int) (x : Int) : Int := cs.reverse.foldl (fun t c => (t * x + c) % p) 0
theorem mm1 (a b p : Int) : a % p * b % p = a * b % p := by rw [Int.mul_emod, Int.emod_emod_of_dvd _ (Int.dvd_refl p), ← Int.mul_emod]
theorem foldl_snoc {α β : Type} (f : β → α → β) (b : β) (l : List α) (a : α) : (l ++ [a]).foldl f b = f (l.foldl f b) a := by
  rw [List.foldl_append]; rfl
theorem range_snoc {α : Type} (f : Nat → α) (n : Nat) : (List.range (n + 1)).map f = (List.range n).map f ++ [f n] := by
  rw [List.range_succ, List.map_append]; rfl
theorem maxN_foldl : ∀ {ns : List Int}, (∀ x ∈ ns, 0 ≤ x) → maxN 0 ns = ns.foldl max 0
  | [], _ => rfl
  | n :: r, h => by
    show r.foldl max n = r.foldl max (max 0 n)
    rw [Int.max_eq_right (h n (List.mem_cons_self ..))]
theorem take_snoc {α : Type} {l : List α} {i : Nat} {a : α} (h : l[i]? = some a) : l.take (i + 1) = l.take i ++ [a] := by
  rw [List.take_add_one, h]; rfl
theorem len_ints (ns : List Int) : (intsD ns).length = ns.length := List.length_map ..
theorem rng_map (n : Nat) : ((List.range n).map fun i : Nat => D.int (i : Int)) = (List.range n).map (fun i : Nat => D.int (i : Int)) := rfl

abbrev S_Journal_length (T : Txt K mg) : DSp := det fun ds d => ∃ (p t : Int) (rs : List D) (ps cs : D), ds = [.obj (T.a 63) ["prime", "total", "rounds", "polys", "coins"] [.int p, .int t, .ktp rs, ps, cs]] ∧ d = .int (rs.length : Int)
theorem ok_Journal_length (T : Txt K mg) : FnP P w K mg base 1 (T.a 7301) ["self"] (pureSp (S_Journal_length T)) := by
  refine fn_pure T.f_Journal_length sc_Journal_length (fun ds Φ h => ?_) (fun cdv A outer s H E hr ds Φ h => ⟨_, (pss_cons (ps_ret (pe_callB call_len_seq (by rfl) T.n_len (by decide +kernel) (pa_cons (pe_fld (pv 0) rfl) pa_nil)))
    pss_nil), ?_⟩)
  · obtain ⟨d, ⟨p, t, rs, ps, cs, rfl, rfl⟩, k⟩ := h
    rfl
  obtain ⟨d, ⟨p, t, rs, ps, cs, rfl, rfl⟩, k⟩ := h
  refine sq_retV (ev_len (ev_fld 2 T.cl_Journal (ev_var rfl) rfl rfl) rfl) k

abbrev S_check_prime : DSp := det fun ds d => ∃ p : Int, PrimeOk p ∧ ds = [.int p] ∧ d = .int p
theorem ok_check_prime (T : Txt K mg) : FnP P w K mg base 2 (T.a 16) ["prime"] (pureSp S_check_prime) := by
  refine fn_pure T.f_check_prime sc_check_prime (fun ds Φ h => ?_) (fun cdv A outer s H E hr ds Φ h => ⟨_, (pss_cons (ps_if (pt_not (pt_val (pe_cl (ok_is_whole T) hr T.g_is_whole (pa_cons (pv 0) pa_nil))))
      pss_never
      pss_nil)
    (pss_cons (ps_if (PW.pt (pw_or (pt_cmpR op_lt (pv 0) pe_int (nomark _)) (pw_or1 (pt_cmpR op_gt (pv 0) (pe_gint T.m_MAX_PRIME (by rfl)) (nomark _)))))
      pss_never
      pss_nil)
    (pss_cons (ps_if (pt_val (pe_cl (ok_has_divisor T) hr T.g_has_divisor (pa_cons (pv 0) pa_nil)))
      pss_never
      pss_nil)
    (pss_cons (ps_ret (pv 0))
    pss_nil)))), ?_⟩)
  · obtain ⟨d, ⟨p, hp, rfl, rfl⟩, k⟩ := h
    rfl
  obtain ⟨d, ⟨p, hp, rfl, rfl⟩, k⟩ := h
  refine sq_no (eb_not (eb_B (ev_call (ea_cons (ev_var rfl) ea_nil) ⟨_, ⟨p, rfl, rfl⟩, rfl⟩))) rfl ?_
  refine sq_no (eb_or (eb_test (ev_lt (ev_var rfl) ev_int)) fun _ => (eb_test (ev_gt (ev_var rfl) ev_int))) (by have := hp.1; have := hp.2.1; simp; omega) ?_
  refine sq_no (eb_B (ev_call (ea_cons (ev_var rfl) ea_nil) ⟨_, ⟨p, hp, rfl, rfl⟩, rfl⟩)) rfl ?_
  refine sq_retV (ev_var rfl) k

abbrev S_is_number : DSp := det fun ds d => ∃ v p : Int, 0 ≤ v ∧ v < p ∧ ds = [.int v, .int p] ∧ d = .bl true
theorem ok_is_number (T : Txt K mg) : FnP P w K mg base 2 (T.a 17) ["value", "prime"] (pureSp S_is_number) := by
  refine fn_pure T.f_is_number sc_is_number (fun ds Φ h => ?_) (fun cdv A outer s H E hr ds Φ h => ⟨_, (pss_cons (ps_ret (pe_and (pe_cl (ok_is_whole T) hr T.g_is_whole (pa_cons (pv 0) pa_nil)) (pe_one (pe_chain op_le op_lt pe_int (pv 0) (pv 1)))))
    pss_nil), ?_⟩)
  · obtain ⟨d, ⟨v, p, h1, h2, rfl, rfl⟩, k⟩ := h
    rfl
  obtain ⟨d, ⟨v, p, h1, h2, rfl, rfl⟩, k⟩ := h
  refine sq_retV (ev_and (ev_call (ea_cons (ev_var rfl) ea_nil) ⟨_, ⟨v, rfl, rfl⟩, rfl⟩) fun _ => (ev_chain ev_int (ev_var rfl) rv_le (ev_var rfl) rv_lt)) ?_
  have e : (true && (decide (0 ≤ v) && decide (v < p))) = true := by simp; omega
  rw [e]
  exact k

abbrev S_check_row : DSp := det fun ds d => ∃ (p : Int) (ns : List Int) (m : Int), (ns.length : Int) ≤ m ∧ (∀ x ∈ ns, 0 ≤ x ∧ x < p) ∧ ds = [.int p, .lst (intsD ns), .int m] ∧ d = .non
theorem ok_check_row (T : Txt K mg) : FnP P w K mg base 2 (T.a 26) ["prime", "numbers", "most"] (pureSp S_check_row) := by
  refine fn_pure T.f_check_row sc_check_row (fun ds Φ h => ?_) (fun cdv A outer s H E hr ds Φ h => ⟨_, (pss_cons (ps_if (pt_cmpR op_gt (pe_callB call_len_seq (by rfl) T.n_len (by decide +kernel) (pa_cons (pv 1) pa_nil)) (pv 2) (nomark _))
      pss_never
      pss_nil)
    (pss_cons (ps_for PassesOwn.never rfl (pi_seq (pv 1)) (pg_name (i := 3) sc_check_row.nd rfl (Or.inl rfl))
      (pss_cons (ps_expr (pe_cl (ok_check_number_polys T) hr T.g_check_number_polys (pa_cons (pv 0) (pa_cons (pv 3) pa_nil))))
      pss_nil))
    pss_nil)), ?_⟩)
  · obtain ⟨d, ⟨p, ns, m, h1, h2, rfl, rfl⟩, k⟩ := h
    rfl
  obtain ⟨d, ⟨p, ns, m, h1, h2, rfl, rfl⟩, k⟩ := h
  refine sq_no (eb_test (ev_gt (ev_len (ev_var rfl) rfl) (ev_var rfl))) (by rw [len_ints]; simp; omega) ?_
  refine sq_forE (js := [3]) (ys := ns) (emb := D.int) (fun a => [D.int a]) (fun i ρ => ∃ o, ρ = [some (.imm (.int p)), some (.imm (.lst (intsD ns))), some (.imm (.int m)), o]) (ei_seq (ev_var rfl) rfl) ⟨_, rfl⟩ (fun i ρ ⟨o, e⟩ => by subst e; exact jl1 (Nat.le_refl _)) (fun i a ρ ha ⟨o, e⟩ => ?_) (fun ρ ⟨o, e⟩ => ?_)
  · subst e
    refine ⟨gw_name, ?_⟩
    have hb := h2 a (List.mem_of_getElem? ha)
    refine sq_dropV (ev_call (ea_cons (ev_var rfl) (ea_cons (ev_var rfl) ea_nil)) ⟨_, ⟨p, a, hb.1, hb.2, rfl, rfl⟩, rfl⟩) ?_
    exact sw_next ⟨_, rfl⟩
  · exact sw_next k

abbrev S_Poly_at (T : Txt K mg) : DSp := det fun ds d => ∃ (p : Int) (cs : List Int) (x : Int), 2 ≤ p ∧ p ≤ 101 ∧ 0 ≤ x ∧ x < p ∧ ds = [T.poly p cs, .int x] ∧ d = .int (pval p cs x)
theorem ok_Poly_at (T : Txt K mg) : FnP P w K mg base 2 (T.a 4108) ["self", "number"] (pureSp (S_Poly_at T)) := by
  refine fn_pure T.f_Poly_at sc_Poly_at (fun ds Φ h => ?_) (fun cdv A outer s H E hr ds Φ h => ⟨_, (pss_cons (ps_expr (pe_cl (ok_check_number_polys T) hr T.g_check_number_polys (pa_cons (pe_fld (pv 0) rfl) (pa_cons (pv 1) pa_nil))))
    (pss_cons (ps_set (i := 2) sc_Poly_at.nd rfl (Or.inl rfl) pe_int)
    (pss_cons (ps_for PassesOwn.never rfl (pi_seq (pe_revT (pe_fld (pv 0) rfl))) (pg_name (i := 3) sc_Poly_at.nd rfl (Or.inl rfl))
      (pss_cons (ps_set (i := 2) sc_Poly_at.nd rfl (Or.inl rfl) (pe_op op_mod (pe_op op_add (pe_op op_mul (pv 2) (pv 1)) (pv 3)) (pe_fld (pv 0) rfl)))
      pss_nil))
    (pss_cons (ps_ret (pv 2))
    pss_nil)))), ?_⟩)
  · obtain ⟨d, ⟨p, cs, x, h0, h1, h2, h3, rfl, rfl⟩, k⟩ := h
    rfl
  obtain ⟨d, ⟨p, cs, x, h0, h1, h2, h3, rfl, rfl⟩, k⟩ := h
  refine sq_dropV (ev_call (ea_cons (ev_fld 0 T.cl_Poly (ev_var rfl) rfl rfl) (ea_cons (ev_var rfl) ea_nil)) ⟨_, ⟨p, x, h2, h3, rfl, rfl⟩, rfl⟩) ?_
  refine sq_asg ev_int (show 2 < 4 by decide) ?_
  refine sq_forE (js := [3]) (ys := cs.reverse) (emb := D.int) (fun a => [D.int a]) (fun i ρ => ∃ o t, 0 ≤ t ∧ t < p ∧ t = (cs.reverse.take i).foldl (fun t c => (t * x + c) % p) 0 ∧ ρ = [some (.imm (T.poly p cs)), some (.imm (.int x)), some (.imm (.int t)), o]) ?_ ⟨_, 0, by omega, by omega, rfl, rfl⟩ (fun i ρ ⟨o, t, _, _, _, e⟩ => by subst e; exact jl1 (Nat.le_refl _)) (fun i a ρ ha ⟨o, t, t1, t2, et, e⟩ => ?_) (fun ρ ⟨o, t, t1, t2, et, e⟩ => ?_)
  · have h := ei_seq (K := K) (ev_revT (K := K) (ev_fld (K := K) (ρ := [some (.imm (T.poly p cs)), some (.imm (.int x)), some (.imm (.int 0)), none]) 1 T.cl_Poly (ev_var (i := 0) rfl) rfl rfl)) rfl
    rw [← List.map_reverse] at h
    exact h
  · subst e
    refine ⟨gw_name, ?_⟩
    refine sq_asg (ev_mod (ev_add (ev_mul (ev_var rfl) (ev_var rfl) (Or.inl ⟨by omega, by omega⟩)) (ev_var rfl)) (ev_fld 0 T.cl_Poly (ev_var rfl) rfl rfl) (by omega)) (show 2 < 4 by decide) ?_
    exact sw_next ⟨_, _, Int.emod_nonneg _ (by omega), Int.emod_lt_of_pos _ (by omega), by rw [take_snoc ha, foldl_snoc, ← et], rfl⟩
  · subst e
    refine sq_retV (ev_var rfl) ?_
    rw [List.take_length] at et
    rw [et]
    exact k

abbrev S_check_numbers_forms : DSp := det fun ds d => ∃ (p : Int) (ns : List Int) (x : D), seqOf x = some (intsD ns) ∧ (∀ x ∈ ns, 0 ≤ x ∧ x < p) ∧ ns.length ≤ 100000 ∧ ds = [.int p, x] ∧ d = .ktp (intsD ns)
theorem ok_check_numbers_forms (T : Txt K mg) : FnP P w K mg base 2 (T.a 40) ["prime", "row"] (pureSp S_check_numbers_forms) := by
  refine fn_pure T.f_check_numbers_forms sc_check_numbers_forms (fun ds Φ h => ?_) (fun cdv A outer s H E hr ds Φ h => ⟨_, (pss_cons (ps_ret (pe_callTy call_tupK (by rfl) T.n_tuple (by decide +kernel) (pa_cons (pe_lc (own := [("value", 2)]) (g := (gName 2)) (by rfl) sc_check_numbers_forms.nd (pi_seq (pv 1)) (blkOk_by (N := ["prime", "row", "value"]) (sc := defScope (top 40)) (by decide +kernel)) (fun _ _ _ _ _ => (pg_name (i := 2) sc_check_numbers_forms.nd rfl (Or.inl rfl))) (fun _ _ _ _ _ => pts_nil) (fun _ _ _ _ _ => (pe_cl (ok_check_number_forms T) hr T.g_check_number_forms (pa_cons (pv 0) (pa_cons (pv 2) pa_nil))))) pa_nil)))
    pss_nil), ?_⟩)
  · obtain ⟨d, ⟨p, ns, x, hx, h2, hl, rfl, rfl⟩, k⟩ := h
    rfl
  obtain ⟨d, ⟨p, ns, x, hx, h2, hl, rfl, rfl⟩, k⟩ := h
  refine sq_retV (ev_tupleF (ef_mapE (js := [2]) (ys := ns) (emb := D.int) (fun a => [D.int a]) D.int (ei_seq (ev_var rfl) hx) (jv1 (List.mem_cons_self ..) (Nat.le_refl _)) hl (fun a ha => ⟨gw_name, ev_call (ea_cons (ev_var rfl) (ea_cons (ev_var rfl) ea_nil)) ⟨_, ⟨p, a, (h2 a ha).1, (h2 a ha).2, rfl, rfl⟩, rfl⟩⟩))) k

abbrev S_checked_term : DSp := det fun ds d => ∃ (p : Int) (n : Nat) (e : List Int) (c : Int), e.length = n ∧ TS.Bd 13 e ∧ 0 ≤ c ∧ c < p ∧ e.length ≤ 100000 ∧ ds = [.int p, .int (n : Int), .ktp (intsD e), .int c] ∧ d = termD (e, c)
theorem ok_checked_term (T : Txt K mg) : FnP P w K mg base 2 (T.a 42) ["prime", "places", "exponents", "coefficient"] (pureSp S_checked_term) := by
  refine fn_pure T.f_checked_term sc_checked_term (fun ds Φ h => ?_) (fun cdv A outer s H E hr ds Φ h => ⟨_, (pss_cons (ps_if (pt_cmpR op_ne (pe_callB call_len_seq (by rfl) T.n_len (by decide +kernel) (pa_cons (pv 2) pa_nil)) (pv 1) (nomark _))
      pss_never
      pss_nil)
    (pss_cons (ps_set (i := 4) sc_checked_term.nd rfl (Or.inl rfl) (pe_callTy call_tupK (by rfl) T.n_tuple (by decide +kernel) (pa_cons (pe_lc (own := [("value", 5)]) (g := (gName 5)) (by rfl) sc_checked_term.nd (pi_seq (pv 2)) (blkOk_by (N := ["prime", "places", "exponents", "coefficient", "own_exponents", "value"]) (sc := defScope (top 42)) (by decide +kernel)) (fun _ _ _ _ _ => (pg_name (i := 5) sc_checked_term.nd rfl (Or.inl rfl))) (fun _ _ _ _ _ => pts_nil) (fun _ _ _ _ _ => (pe_cl (ok_check_whole T) hr T.g_check_whole (pa_cons (pv 5) (pa_cons pe_int (pa_cons (pe_gint T.m_MAX_DEGREE (by rfl)) pa_nil)))))) pa_nil)))
    (pss_cons (ps_ret (pe_tup (pa_cons (pv 4) (pa_cons (pe_cl (ok_check_number_forms T) hr T.g_check_number_forms (pa_cons (pv 0) (pa_cons (pv 3) pa_nil))) pa_nil))))
    pss_nil))), ?_⟩)
  · obtain ⟨d, ⟨p, n, e, c, h1, h2, h3, h4, hl, rfl, rfl⟩, k⟩ := h
    rfl
  obtain ⟨d, ⟨p, n, e, c, h1, h2, h3, h4, hl, rfl, rfl⟩, k⟩ := h
  refine sq_no (eb_test (ev_neI (ev_len (ev_var rfl) rfl) (ev_var rfl))) (by rw [len_ints, h1]; simp) ?_
  refine sq_asg (ev_tupleF (ef_mapE (js := [5]) (ys := e) (emb := D.int) (fun a => [D.int a]) D.int (ei_seq (ev_var rfl) rfl) (jv1 (List.mem_cons_self ..) (Nat.le_refl _)) hl (fun a ha => ⟨gw_name, ev_call (ea_cons (ev_var rfl) (ea_cons ev_int (ea_cons ev_int ea_nil))) ⟨_, ⟨a, 0, 12, (h2 a ha).1, by have := (h2 a ha).2; omega, rfl, rfl⟩, rfl⟩⟩))) (show 4 < 6 by decide) ?_
  refine sq_retV (ev_tup (ea_cons (ev_var rfl) (ea_cons (ev_call (ea_cons (ev_var rfl) (ea_cons (ev_var rfl) ea_nil)) ⟨_, ⟨p, c, h3, h4, rfl, rfl⟩, rfl⟩) ea_nil))) k

abbrev S_power_row : DSp := det fun ds d => ∃ (p x : Int) (m : Nat), 2 ≤ p ∧ p ≤ 101 ∧ 0 ≤ x ∧ x < p ∧ m ≤ 12 ∧ ds = [.int p, .int x, .int (m : Int)] ∧ d = .lst (intsD (powR p x (m + 1)))
theorem ok_power_row (T : Txt K mg) : FnP P w K mg base 1 (T.a 45) ["prime", "number", "most"] (pureSp S_power_row) := by
  refine fn_pure T.f_power_row sc_power_row (fun ds Φ h => ?_) (fun cdv A outer s H E hr ds Φ h => ⟨_, (pss_cons (ps_set (i := 3) sc_power_row.nd rfl (Or.inl rfl) (pe_lst (pa_cons pe_int pa_nil)))
    (pss_cons (ps_for PassesOwn.never rfl (pi_range1 (by rfl) T.n_range (pa_cons (pv 2) pa_nil)) (pg_name (i := 4) sc_power_row.nd rfl (Or.inl rfl))
      (pss_cons (ps_expr (pe_bm PySem.F.plainAttrs_list PySem.F.slot_list_append PySem.F.type_list_append mt_append (pv 3) (pa_cons (pe_op op_mod (pe_op op_mul (pe_ix ix_seq (pv 3) (pv 4) (fun _ _ => rfl)) (pv 1)) (pv 0)) pa_nil)))
      pss_nil))
    (pss_cons (ps_ret (pv 3))
    pss_nil))), ?_⟩)
  · obtain ⟨d, ⟨p, x, m, h0, h1, h2, h3, h4, rfl, rfl⟩, k⟩ := h
    rfl
  obtain ⟨d, ⟨p, x, m, h0, h1, h2, h3, h4, rfl, rfl⟩, k⟩ := h
  refine sq_asgFV (ef_lstV (ea_cons ev_int ea_nil)) (show 3 < 5 by decide) ?_
  refine sq_forE (js := [4]) (ys := List.range m) (emb := fun i : Nat => D.int (i : Int)) (fun a => [D.int (a : Int)]) (fun i ρ => ∃ o, ρ = [some (.imm (.int p)), some (.imm (.int x)), some (.imm (.int (m : Int))), some (.own (intsD (powR p x (i + 1)))), o]) (ei_range1 (ev_var rfl) (by omega)) ⟨none, ?_⟩ (fun i ρ ⟨o, e⟩ => by subst e; exact jl1 (Nat.le_refl _)) (fun i a ρ ha ⟨o, e⟩ => ?_) (fun ρ ⟨o, e⟩ => ?_)
  · have e1 : powR p x (0 + 1) = [1] := by
      show [x ^ 0 % p] = [1]
      rw [Int.pow_zero, Int.emod_eq_of_lt (by omega) (by omega)]
    rw [e1]
    rfl
  · subst e
    have ha2 := List.getElem?_eq_some_iff.mp ha
    have hlt : i < m := by have := ha2.1; rwa [List.length_range] at this
    have ea : a = i := by have := ha2.2; rw [List.getElem_range] at this; exact this.symm
    subst ea
    refine ⟨gw_name, ?_⟩
    have hb : 0 ≤ x ^ a % p ∧ x ^ a % p < p := ⟨Int.emod_nonneg _ (by omega), Int.emod_lt_of_pos _ (by omega)⟩
    refine sq_app rfl (ev_mod (ev_mul (ev_ixO rfl (ev_var rfl) (at_nat (j := a) (d := .int (x ^ a % p)) rfl ?_)) (ev_var rfl) (Or.inl ⟨by omega, by omega⟩)) (ev_var rfl) (by omega)) (by rw [len_ints]; show ((List.range (a + 1)).map _).length < _; rw [List.length_map, List.length_range]; omega) ?_
    · show (intsD (powR p x (a + 1)))[a]? = _
      unfold powR
      rw [range_snoc, intsD, List.map_append, List.getElem?_append_right (by simp)]
      simp
    · refine sw_next ⟨some (.imm (.int (a : Int))), ?_⟩
      have e2 : intsD (powR p x (a + 1)) ++ [D.int (x ^ a % p * x % p)] = intsD (powR p x (a + 1 + 1)) := by
        have e3 : powR p x (a + 1 + 1) = powR p x (a + 1) ++ [x ^ (a + 1) % p] := range_snoc _ _
        rw [e3, intsD, intsD, List.map_append]
        have e4 : x ^ a % p * x % p = x ^ (a + 1) % p := by rw [Int.pow_succ, mm1]
        rw [e4]
        rfl
      rw [← e2]
      rfl
  · subst e
    rw [List.length_range]
    exact sq_retO rfl k

end
end SK

set_option Elab.async false
set_option linter.all false
set_option maxRecDepth 100000
set_option maxHeartbeats 4000000
namespace SK
open PySem PySem.Spec PyProof.Rows L2
section
variable {P : Program} {w : World} {K : PySem.W.Frag} {mg : Str → Option Value} {base : Heap}

theorem foldl_max_ge : ∀ (xs : List Int) (m : Int), m ≤ xs.foldl max m ∧ (∀ y ∈ xs, y ≤ xs.foldl max m) ∧ (xs.foldl max m = m ∨ xs.foldl max m ∈ xs)
  | [], m => ⟨Int.le_refl _, fun y hy => (by cases hy), Or.inl rfl⟩
  | x :: r, m => by
    obtain ⟨h1, h2, h3⟩ := foldl_max_ge r (max m x)
    refine ⟨Int.le_trans (Int.le_max_left ..) h1, fun y hy => ?_, ?_⟩
    · rcases List.mem_cons.mp hy with e | hy
      · rw [e]; exact Int.le_trans (Int.le_max_right ..) h1
      · exact h2 y hy
    · rcases h3 with h3 | h3
      · show r.foldl max (max m x) = m ∨ r.foldl max (max m x) ∈ x :: r
        rw [h3]
        by_cases q : m ≤ x
        · rw [Int.max_eq_right q]; exact Or.inr (List.mem_cons_self ..)
        · rw [Int.max_eq_left (by omega)]; exact Or.inl rfl
      · exact Or.inr (List.mem_cons_of_mem _ h3)
def zw (e : List Int) : Int := 2 ^ (e.count 0)
def csum (p : Int) (rows : Kvs) : Int := wsum zw rows % p
theorem count_le {e : List Int} {n : Nat} (h : e.length = n) : e.count 0 ≤ n := by rw [← h]; exact List.count_le_length ..
def pends (p : Int) (cs : List Int) : Int := (cs.headD 0 + cs.sum) % p
abbrev Txt.pairD (T : Txt K mg) (p : Int) (r : List Int × Int) : D := .tup [T.poly p r.1, .int r.2]
theorem getD_ints {e : List Int} {j : Nat} (h : j < e.length) : (intsD e)[j]? = some (.int (e.getD j 0)) := by
  rw [get_ints h, List.getD_eq_getElem?_getD, List.getElem?_eq_getElem h]
  rfl
theorem bd_le {e : List Int} (h : TS.Bd 13 e) (j : Nat) : 0 ≤ e.getD j 0 ∧ e.getD j 0 ≤ 12 := by
  rw [List.getD_eq_getElem?_getD]
  cases q : e[j]? with
  | none => exact ⟨Int.le_refl _, by decide⟩
  | some v =>
    have := h v (List.mem_of_getElem? q)
    exact ⟨this.1, by show v ≤ 12; omega⟩

abbrev S_greatest_exponents : DSp := det fun ds d => ∃ (n : Nat) (rows : Kvs), PairsOk n rows ∧ n ≤ 100 ∧ rows.length ≤ 100 ∧ ds = [.int (n : Int), .ktp (rows.map termD)] ∧ d = .ktp (intsD (tops n rows))
theorem ok_greatest_exponents (T : Txt K mg) : FnP P w K mg base 1 (T.a 44) ["places", "terms"] (pureSp S_greatest_exponents) := by
  refine fn_pure T.f_greatest_exponents sc_greatest_exponents (fun ds Φ h => ?_) (fun cdv A outer s H E hr ds Φ h => ⟨_, (pss_cons (ps_set (i := 2) sc_greatest_exponents.nd rfl (Or.inr rfl) (pe_lc (own := [("exponents", 3), ("coefficient", 4)]) (g := (gTup K 2 (gCons (gName 3) (gCons (gName 4) gNil)))) (by rfl) sc_greatest_exponents.nd (pi_seq (pv 1)) (blkOk_by (N := ["places", "terms", "rows", "exponents", "coefficient", "place", "row"]) (sc := defScope (top 44)) (by decide +kernel)) (fun _ _ _ _ _ => (pg_tup rfl (pgs_cons (pg_name (i := 3) sc_greatest_exponents.nd rfl (Or.inl rfl)) (pgs_cons (pg_name (i := 4) sc_greatest_exponents.nd rfl (Or.inl rfl)) pgs_nil)))) (fun _ _ _ _ _ => pts_nil) (fun _ _ _ _ _ => (pv 3))))
    (pss_cons (ps_ret (pe_callTy call_tupK (by rfl) T.n_tuple (by decide +kernel) (pa_cons (pe_lc (own := [("place", 5)]) (g := (gName 5)) (by rfl) sc_greatest_exponents.nd (pi_range1 (by rfl) T.n_range (pa_cons (pv 0) pa_nil)) (blkOk_by (N := ["places", "terms", "rows", "exponents", "coefficient", "place", "row"]) (sc := defScope (top 44)) (by decide +kernel)) (fun _ _ _ _ _ => (pg_name (i := 5) sc_greatest_exponents.nd rfl (Or.inr rfl))) (fun _ _ _ _ _ => pts_nil) (fun _ _ _ _ _ => (pe_callBK (id := "max") (ks := ["default"]) (r := rMaxK K) (cr_maxK rfl hr.units) (by rfl) T.n_max (by decide +kernel) (pa_cons (pe_lc (own := [("row", 6)]) (g := (gName 6)) (by rfl) sc_greatest_exponents.nd (pi_seqK K rfl (pv 2)) (blkOk_by (N := ["places", "terms", "rows", "exponents", "coefficient", "place", "row"]) (sc := { kind := .function, names := [(".0", .local), ("place", .cell), ("max", .globalImplicit), ("rows", .cell)], isGenerator := false, isCoroutine := false }) (by decide +kernel)) (fun _ _ _ _ _ => (pg_name (i := 6) sc_greatest_exponents.nd rfl (Or.inl rfl))) (fun _ _ _ _ _ => pts_nil) (fun _ _ _ _ _ => (pe_ix (ix_seqK K rfl) (pv 6) (pv 5) (fun _ _ => rfl)))) pa_nil) (pk_cons pe_int pk_nil)))) pa_nil)))
    pss_nil)), ?_⟩)
  · obtain ⟨d, ⟨n, rows, po, hn, hl, rfl, rfl⟩, k⟩ := h
    rfl
  obtain ⟨d, ⟨n, rows, po, hn, hl, rfl, rfl⟩, k⟩ := h
  refine sq_asg (EvFV.v (ef_mapE (js := [3, 4]) (ys := rows) (emb := termD) (fun t => [.ktp (intsD t.1), .int t.2]) (fun t => .ktp (intsD t.1)) (ei_seq (ev_var rfl) rfl) (jv2 (by decide) (by decide) (show 3 < 7 by decide) (show 4 < 7 by decide)) (by omega) (fun t ht => ⟨gw_two, ev_var rfl⟩))) (show 2 < 7 by decide) ?_
  have e : (List.range n).map (fun j : Nat => D.int (maxN 0 (rows.map fun t => t.1.getD j 0))) = intsD (tops n rows) := by
    unfold tops intsD
    rw [List.map_map]
    refine List.map_congr_left fun j hj => ?_
    show D.int _ = D.int _
    rw [maxN_foldl fun x hx => by
      obtain ⟨t, ht, e⟩ := List.mem_map.mp hx
      rw [← e]
      exact (bd_le (po.bd t ht) j).1]
  rw [← e] at k
  refine sq_retV (ev_tupleF (ef_mapE (js := [5]) (ys := List.range n) (emb := fun i : Nat => D.int (i : Int)) (fun j => [D.int (j : Int)]) (fun j : Nat => D.int (maxN 0 (rows.map fun t => t.1.getD j 0))) (ei_range1 (ev_var rfl) (by omega)) (jv1 (by decide) (show 5 < 7 by decide)) (by rw [List.length_range]; omega) (fun j hj => ⟨gw_name, ?_⟩))) k
  have hjn : j < n := List.mem_range.mp hj
  refine ev_maxK (EvV.is (EvFV.v (ef_mapE (js := [6]) (ys := rows) (emb := fun t => .ktp (intsD t.1)) (fun t => [.ktp (intsD t.1)]) (fun t => D.int (t.1.getD j 0)) (ei_seq (ev_var rfl) ?_) (jv1 (by decide) (show 6 < 7 by decide)) (by omega) (fun t ht => ⟨gw_name, ev_ix (ev_var rfl) (ev_var rfl) rfl (at_nat rfl (getD_ints (by rw [po.len t ht]; exact hjn)))⟩))) ?_) ev_int
  · rfl
  · rw [List.map_map]
    rfl

abbrev S_lw_form_tops : DSp := det fun ds d => ∃ (n : Nat) (rows : Kvs), PairsOk n rows ∧ n ≤ 100 ∧ rows.length ≤ 100 ∧ ds = [.int (n : Int), .lst (rows.map termD)] ∧ d = .ktp (intsD (tops n rows))
theorem ok_lw_form_tops (T : Txt K mg) : FnP P w K mg base 1 (T.a 102) ["_law_places", "_law_rows"] (pureSp S_lw_form_tops) := by
  refine fn_pure T.f_lw_form_tops sc_lw_form_tops (fun ds Φ h => ?_) (fun cdv A outer s H E hr ds Φ h => ⟨_, (pss_cons (ps_ret (pe_callTy call_tupK (by rfl) T.n_tuple (by decide +kernel) (pa_cons (pe_lc (own := [("_law_k", 2)]) (g := (gName 2)) (by rfl) sc_lw_form_tops.nd (pi_range1 (by rfl) T.n_range (pa_cons (pv 0) pa_nil)) (blkOk_by (N := ["_law_places", "_law_rows", "_law_k", "_law_one"]) (sc := defScope (top 102)) (by decide +kernel)) (fun _ _ _ _ _ => (pg_name (i := 2) sc_lw_form_tops.nd rfl (Or.inr rfl))) (fun _ _ _ _ _ => pts_nil) (fun _ _ _ _ _ => (pe_callB (id := "max") (r := rMax K) (cr_max rfl) (by rfl) T.n_max (by decide +kernel) (pa_cons (pe_op op_cat (pe_lst (pa_cons pe_int pa_nil)) (pe_lc (own := [("_law_one", 3)]) (g := (gName 3)) (by rfl) sc_lw_form_tops.nd (pi_seqK K rfl (pv 1)) (blkOk_by (N := ["_law_places", "_law_rows", "_law_k", "_law_one"]) (sc := { kind := .function, names := [(".0", .local), ("_law_k", .cell), ("max", .globalImplicit), ("_law_rows", .cell)], isGenerator := false, isCoroutine := false }) (by decide +kernel)) (fun _ _ _ _ _ => (pg_name (i := 3) sc_lw_form_tops.nd rfl (Or.inl rfl))) (fun _ _ _ _ _ => pts_nil) (fun _ _ _ _ _ => (pe_ix (ix_seqK K rfl) (pe_ix (ix_seqK K rfl) (pv 3) pe_int (fun _ _ => rfl)) (pv 2) (fun _ _ => rfl))))) pa_nil)))) pa_nil)))
    pss_nil), ?_⟩)
  · obtain ⟨d, ⟨n, rows, po, hn, hl, rfl, rfl⟩, k⟩ := h
    rfl
  obtain ⟨d, ⟨n, rows, po, hn, hl, rfl, rfl⟩, k⟩ := h
  have e : (List.range n).map (fun j : Nat => D.int ((rows.map fun t => t.1.getD j 0).foldl max 0)) = intsD (tops n rows) := by
    unfold tops intsD
    rw [List.map_map]
    rfl
  rw [← e] at k
  refine sq_retV (ev_tupleF (ef_mapE (js := [2]) (ys := List.range n) (emb := fun i : Nat => D.int (i : Int)) (fun j => [D.int (j : Int)]) (fun j : Nat => D.int ((rows.map fun t => t.1.getD j 0).foldl max 0)) (ei_range1 (ev_var rfl) (by omega)) (jv1 (by decide) (show 2 < 4 by decide)) (by rw [List.length_range]; omega) (fun j hj => ⟨gw_name, ?_⟩))) k
  have hjn : j < n := List.mem_range.mp hj
  obtain ⟨m1, m2, m3⟩ := foldl_max_ge (rows.map fun t => t.1.getD j 0) 0
  refine ev_maxL (ns := 0 :: rows.map fun t => t.1.getD j 0) (EvV.is (EvFV.v (ef_cat (ev_lst (ea_cons ev_int ea_nil)) (EvFV.v (ef_mapE (js := [3]) (ys := rows) (emb := termD) (fun t => [termD t]) (fun t => D.int (t.1.getD j 0)) (ei_seq (ev_var rfl) rfl) (jv1 (by decide) (show 3 < 4 by decide)) (by omega) (fun t ht => ⟨gw_name, ev_ix (ev_ix (ev_var rfl) ev_int rfl (at_nat (j := 0) rfl rfl)) (ev_var rfl) rfl (at_nat rfl (getD_ints (by rw [po.len t ht]; exact hjn)))⟩))) (by simp; omega))) ?_) ?_ ?_
  · rw [List.map_cons, List.map_map]
    rfl
  · rcases m3 with m3 | m3
    · rw [m3]; exact List.mem_cons_self ..
    · exact List.mem_cons_of_mem _ m3
  · intro y hy
    rcases List.mem_cons.mp hy with e | hy
    · rw [e]; exact m1
    · exact m2 y hy

abbrev S_corner_sum (T : Txt K mg) : DSp := det fun ds d => ∃ (p : Int) (n : Nat) (rows : Kvs), 2 ≤ p ∧ p ≤ 101 ∧ RowsOk p n rows ∧ n ≤ 100 ∧ ds = [T.form p n rows] ∧ d = .int (csum p rows)
theorem ok_corner_sum (T : Txt K mg) : FnP P w K mg base 1 (T.a 52) ["form"] (pureSp (S_corner_sum T)) := by
  refine fn_pure T.f_corner_sum sc_corner_sum (fun ds Φ h => ?_) (fun cdv A outer s H E hr ds Φ h => ⟨_, (pss_cons (ps_set (i := 1) sc_corner_sum.nd rfl (Or.inl rfl) pe_int)
    (pss_cons (ps_for PassesOwn.never rfl (pi_seq (pe_fld (pv 0) rfl)) (pg_tup rfl (pgs_cons (pg_name (i := 2) sc_corner_sum.nd rfl (Or.inl rfl)) (pgs_cons (pg_name (i := 3) sc_corner_sum.nd rfl (Or.inl rfl)) pgs_nil)))
      (pss_cons (ps_set (i := 1) sc_corner_sum.nd rfl (Or.inl rfl) (pe_op op_add (pv 1) (pe_op op_mul (pv 3) (pe_op op_shl pe_int (pe_countT (pv 2) pe_int)))))
      pss_nil))
    (pss_cons (ps_ret (pe_op op_mod (pv 1) (pe_fld (pv 0) rfl)))
    pss_nil))), ?_⟩)
  · obtain ⟨d, ⟨p, n, rows, h1, h2, ro, hn, rfl, rfl⟩, k⟩ := h
    rfl
  obtain ⟨d, ⟨p, n, rows, h1, h2, ro, hn, rfl, rfl⟩, k⟩ := h
  refine sq_asg ev_int (show 1 < 4 by decide) ?_
  refine sq_forE (js := [2, 3]) (ys := rows) (emb := termD) (fun t => [.ktp (intsD t.1), .int t.2]) (fun i ρ => ∃ o o', ρ = [some (.imm (T.form p n rows)), some (.imm (.int (wsum zw (rows.take i)))), o, o']) (ei_seq (ev_fld 2 T.cl_Form (ev_var rfl) rfl rfl) rfl) ⟨_, _, rfl⟩ (fun i ρ ⟨o, o', e⟩ => by subst e; exact jl2 (show 2 < 4 by decide) (show 3 < 4 by decide)) (fun i t ρ ht ⟨o, o', e⟩ => ?_) (fun ρ ⟨o, o', e⟩ => ?_)
  · subst e
    refine ⟨gw_two, ?_⟩
    have tm := List.mem_of_getElem? ht
    have c1 := ro.lo t tm
    have c2 := ro.hi t tm
    have hc := count_le (ro.len t tm)
    refine sq_asg (ev_add (ev_var rfl) (ev_mul (ev_var rfl) (ev_shl ev_int (ev_countT (ev_var rfl) ev_int) ⟨by omega, by omega, by decide⟩) (Or.inl ⟨by omega, by omega⟩))) (show 1 < 4 by decide) ?_
    have e1 : wsum zw (rows.take i) + t.2 * (1 * 2 ^ (((t.1.count 0 : Nat) : Int)).toNat) = wsum zw (rows.take (i + 1)) := by
      rw [take_snoc ht, wsum_append, wsum_cons, wsum_nil, Int.one_mul, Int.toNat_natCast, Int.add_zero]
      rfl
    rw [e1]
    exact sw_next ⟨_, _, rfl⟩
  · subst e
    rw [List.take_length]
    exact sq_retV (ev_mod (ev_var rfl) (ev_fld 0 T.cl_Form (ev_var rfl) rfl rfl) (by omega)) k

abbrev S_added_up : DSp := det fun ds d => ∃ (p : Int) (n : Nat) (pairs : Kvs), 0 < p ∧ PairsOk n pairs ∧ pairs.length < 64 ∧ ds = [.int p, .lst (pairs.map termD)] ∧ d = .ktp ((canonR p pairs).map termD)
theorem ok_added_up (T : Txt K mg) : FnP P w K mg base 1 (T.a 43) ["prime", "pairs"] (pureSp S_added_up) := by
  refine fn_pure T.f_added_up sc_added_up (fun ds Φ h => ?_) (fun cdv A outer s H E hr ds Φ h => ⟨_, (pss_cons (ps_set (i := 2) sc_added_up.nd rfl (Or.inr rfl) pe_knew)
    (pss_cons (ps_for PassesOwn.never rfl (pi_seq (pv 1)) (pg_tup rfl (pgs_cons (pg_name (i := 3) sc_added_up.nd rfl (Or.inl rfl)) (pgs_cons (pg_name (i := 4) sc_added_up.nd rfl (Or.inl rfl)) pgs_nil)))
      (pss_cons (ps_kput (hu_of hr) (pv 2) (pv 3) (pe_op op_mod (pe_op op_add (pe_kget2 (hu_of hr) (pv 2) (pv 3) pe_int ⟨rfl, rfl, rfl, rfl⟩) (pv 4)) (pv 0)) rfl)
      pss_nil))
    (pss_cons (ps_setLc (i := 5) (own := [("exponents", 3)]) (g := (gName 3)) (by rfl) sc_added_up.nd rfl rfl (sw_true rfl rfl rfl (by decide +kernel)) (pi_seq (pe_callB (cr_sortK rfl) (by rfl) T.n_sorted (by decide +kernel) (pa_cons (pv 2) pa_nil))) (blkOk_by (N := ["prime", "pairs", "sums", "exponents", "coefficient", "found"]) (sc := defScope (top 43)) (by decide +kernel)) (fun _ _ _ _ _ => (pg_name (i := 3) sc_added_up.nd rfl (Or.inl rfl))) (fun _ _ _ _ _ => (pts_one (pt_cmpR op_ne (pe_kgetK (K := K) (P := P) (w := w) rfl rfl rfl (hu_of hr) (pv 2) (pv 3) (fun _ _ => rfl)) pe_int (nomark _)))) (fun _ _ _ _ _ => (pe_tup (pa_cons (pv 3) (pa_cons (pe_kgetK (K := K) (P := P) (w := w) rfl rfl rfl (hu_of hr) (pv 2) (pv 3) (fun _ _ => rfl)) pa_nil)))))
    (pss_cons (ps_ret (pe_callTy call_tupK (by rfl) T.n_tuple (by decide +kernel) (pa_cons (pv 5) pa_nil)))
    pss_nil)))), ?_⟩)
  · obtain ⟨d, ⟨p, n, pairs, h1, po, hl, rfl, rfl⟩, k⟩ := h
    rfl
  obtain ⟨d, ⟨p, n, pairs, h1, po, hl, rfl, rfl⟩, k⟩ := h
  refine sq_asgK (show 2 < 6 by decide) ?_
  refine sq_forE (js := [3, 4]) (ys := pairs) (emb := termD) (fun t => [.ktp (intsD t.1), .int t.2]) (fun i ρ => ∃ o o', ρ = [some (.imm (.int p)), some (.imm (.lst (pairs.map termD))), some (.dic P w (foldT p [] (pairs.take i))), o, o', none]) (ei_seq (ev_var rfl) rfl) ⟨_, _, rfl⟩ (fun i ρ ⟨o, o', e⟩ => by subst e; exact jl2 (show 3 < 6 by decide) (show 4 < 6 by decide)) (fun i t ρ ht ⟨o, o', e⟩ => ?_) (fun ρ ⟨o, o', e⟩ => ?_)
  · subst e
    refine ⟨gw_two, ?_⟩
    have fl := foldT_len (p := p) (pairs := pairs.take i) (acc := [])
    rw [List.length_take, List.length_nil] at fl
    refine sq_kput rfl (ev_mod (ev_add (ev_kget2 rfl (ev_var rfl) ev_int) (ev_var rfl)) (ev_var rfl) h1) (ev_var rfl) (by omega) ?_
    refine sw_next ⟨some (.imm (.ktp (intsD t.1))), some (.imm (.int t.2)), ?_⟩
    rw [take_snoc ht, foldT_snoc]
    rfl
  · subst e
    rw [List.take_length]
    have fl := foldT_len (p := p) (pairs := pairs) (acc := [])
    rw [List.length_nil] at fl
    have nd : (keysK (foldT p [] pairs)).Nodup := foldT_nodup (p := p) (pairs := pairs) (acc := []) List.nodup_nil
    have fk : ∀ t ∈ foldT p [] pairs, t.1.length = n ∧ TS.Bd 13 t.1 := fun t ht => by
      rcases foldT_mem h1 ht with z | ⟨_, _, q, hq, e⟩
      · cases z
      · rw [← e]; exact ⟨po.len q hq, po.bd q hq⟩
    refine sq_asgFV (ds := (canonR p pairs).map termD) (EvF.imp (ef_filterW (js := [3]) (R := fun ks => ks.Perm (keysK (foldT p [] pairs)) ∧ ks.Pairwise (fun a b => TS.code 13 a ≤ TS.code 13 b)) (emb := fun k : List Int => D.ktp (intsD k)) (fun k => [.ktp (intsD k)]) (fun k => decide ((getI (foldT p [] pairs) k).getD 0 ≠ 0)) (fun k => termD (k, (getI (foldT p [] pairs) k).getD 0)) (ei_seqW (EvF.w (ef_sortK (d := n) (B := 13) rfl (by omega) ?_ fk) ?_)) (jv1 (by decide) (show 3 < 6 by decide)) ?_ ?_) ?_) (show 5 < 6 by decide) ?_
    · intro h2
      rcases Nat.eq_zero_or_pos n with z | z
      · exfalso
        generalize hF : foldT p [] pairs = F at h2 nd fk
        match F, h2, nd, fk with
        | a :: b :: r, _, nd, fk =>
          have ea : a.1 = [] := List.eq_nil_of_length_eq_zero (by rw [(fk a (by simp)).1, z])
          have eb : b.1 = [] := List.eq_nil_of_length_eq_zero (by rw [(fk b (by simp)).1, z])
          have n1 := (List.nodup_cons.mp nd).1
          exact n1 (by show a.1 ∈ _; rw [ea, ← eb]; exact List.mem_cons_self ..)
      · exact z
    · rintro ds ⟨ks, e, p1, p2, _⟩
      exact ⟨ds, rfl, ks, e, p1, p2⟩
    · rintro ks ⟨pm, _⟩
      rw [pm.length_eq, List.length_map]
      omega
    · rintro ks ⟨pm, _⟩ a ha
      obtain ⟨v, hv⟩ := getI_some (pm.mem_iff.mp ha)
      refine ⟨gw_name, EvB.is (eb_test (ev_neI (ev_kget rfl (ev_var rfl) hv) ev_int)) (by rw [hv, Option.getD_some]; simp), fun _ => EvV.is (ev_tup (ea_cons (ev_var rfl) (ea_cons (ev_kget rfl (ev_var rfl) hv) ea_nil))) (by rw [hv, Option.getD_some])⟩
    · rintro ds ⟨ks, ⟨p1, p2⟩, e⟩
      rw [e, ← canon_of h1 po p1 p2, List.map_map]
      rfl
    · refine sw_freeze 5 rfl ?_
      exact sq_retV (ev_tuple (ev_var rfl) rfl) k

end
end SK

set_option Elab.async false
set_option linter.all false
set_option maxRecDepth 100000
set_option maxHeartbeats 4000000
namespace SK
open PySem PySem.Spec PyProof.Rows L2
section
variable {P : Program} {w : World} {K : PySem.W.Frag} {mg : Str → Option Value} {base : Heap}

abbrev Txt.claim (T : Txt K mg) (p : Int) (n : Nat) (rows : Kvs) (told : List Int) (total : Int) : D := .obj (T.a 58) ["form", "degrees", "total", "prime", "places"] [T.form p n rows, .ktp (intsD told), .int total, .int p, .int (n : Int)]
abbrev Txt.journal (T : Txt K mg) (p total : Int) (rs : List (List Int × Int)) : D := .obj (T.a 63) ["prime", "total", "rounds", "polys", "coins"] [.int p, .int total, .ktp (rs.map (T.pairD p)), .ktp (rs.map fun r => T.poly p r.1), .ktp (rs.map fun r => D.int r.2)]
abbrev Txt.honest (T : Txt K mg) (p : Int) (c : D) : D := .obj (T.a 71) ["prime", "target"] [.int p, c]
abbrev Txt.fieldD (T : Txt K mg) (p : Int) : D := .obj (T.a 21) ["prime"] [.int p]
theorem sum_ints_nn {p : Int} : ∀ {cs : List Int}, (∀ c ∈ cs, 0 ≤ c ∧ c < p) → 0 ≤ cs.sum
  | [], _ => Int.le_refl _
  | c :: cs, h => by
    rw [List.sum_cons]
    have h1 := h c (List.mem_cons_self ..)
    have h2 := sum_ints_nn fun x hx => h x (List.mem_cons_of_mem _ hx)
    omega

abbrev S_lw_form_rows : DSp := det fun ds d => ∃ (p : Int) (n : Nat) (pairs : Kvs), 0 < p ∧ PairsOk n pairs ∧ pairs.length < 64 ∧ ds = [.int p, .lst (pairs.map termD)] ∧ d = .lst ((canonR p pairs).map termD)
theorem ok_lw_form_rows (T : Txt K mg) : FnP P w K mg base 1 (T.a 101) ["_law_prime_here", "_law_terms"] (pureSp S_lw_form_rows) := by
  refine fn_pure T.f_lw_form_rows sc_lw_form_rows (fun ds Φ h => ?_) (fun cdv A outer s H E hr ds Φ h => ⟨_, (pss_cons (ps_set (i := 2) sc_lw_form_rows.nd rfl (Or.inr rfl) pe_knew)
    (pss_cons (ps_for PassesOwn.never rfl (pi_seq (pv 1)) (pg_name (i := 3) sc_lw_form_rows.nd rfl (Or.inl rfl))
      (pss_cons (ps_set (i := 4) sc_lw_form_rows.nd rfl (Or.inl rfl) (pe_callTy call_tupK (by rfl) T.n_tuple (by decide +kernel) (pa_cons (pe_ix ix_seq (pv 3) pe_int (fun _ _ => rfl)) pa_nil)))
      (pss_cons (ps_kput (hu_of hr) (pv 2) (pv 4) (pe_op op_mod (pe_callTy call_int1 (by rfl) T.n_int (by decide +kernel) (pa_cons (pe_op op_add (pe_kget2 (hu_of hr) (pv 2) (pv 4) pe_int ⟨rfl, rfl, rfl, rfl⟩) (pe_ix ix_seq (pv 3) pe_int (fun _ _ => rfl))) pa_nil)) (pv 0)) rfl)
      pss_nil)))
    (pss_cons (ps_ret (pe_lc (own := [("_law_key", 4)]) (g := (gName 4)) (by rfl) sc_lw_form_rows.nd (pi_seq (pe_callB (cr_sortK rfl) (by rfl) T.n_sorted (by decide +kernel) (pa_cons (pv 2) pa_nil))) (blkOk_by (N := ["_law_prime_here", "_law_terms", "_law_found", "_law_one", "_law_key"]) (sc := defScope (top 101)) (by decide +kernel)) (fun _ _ _ _ _ => (pg_name (i := 4) sc_lw_form_rows.nd rfl (Or.inl rfl))) (fun _ _ _ _ _ => (pts_one (pt_cmpR op_ne (pe_kgetK (K := K) (P := P) (w := w) rfl rfl rfl (hu_of hr) (pv 2) (pv 4) (fun _ _ => rfl)) pe_int (nomark _)))) (fun _ _ _ _ _ => (pe_tup (pa_cons (pv 4) (pa_cons (pe_kgetK (K := K) (P := P) (w := w) rfl rfl rfl (hu_of hr) (pv 2) (pv 4) (fun _ _ => rfl)) pa_nil))))))
    pss_nil))), ?_⟩)
  · obtain ⟨d, ⟨p, n, pairs, h1, po, hl, rfl, rfl⟩, k⟩ := h
    rfl
  obtain ⟨d, ⟨p, n, pairs, h1, po, hl, rfl, rfl⟩, k⟩ := h
  refine sq_asgK (show 2 < 5 by decide) ?_
  refine sq_forE (js := [3]) (ys := pairs) (emb := termD) (fun t => [termD t]) (fun i ρ => ∃ o o', ρ = [some (.imm (.int p)), some (.imm (.lst (pairs.map termD))), some (.dic P w (foldT p [] (pairs.take i))), o, o']) (ei_seq (ev_var rfl) rfl) ⟨_, _, rfl⟩ (fun i ρ ⟨o, o', e⟩ => by subst e; exact jl1 (show 3 < 5 by decide)) (fun i t ρ ht ⟨o, o', e⟩ => ?_) (fun ρ ⟨o, o', e⟩ => ?_)
  · subst e
    refine ⟨gw_name, ?_⟩
    have fl := foldT_len (p := p) (pairs := pairs.take i) (acc := [])
    rw [List.length_take, List.length_nil] at fl
    refine sq_asg (ev_tuple (ev_ix (ev_var rfl) ev_int rfl (at_nat (j := 0) rfl rfl)) rfl) (show 4 < 5 by decide) ?_
    refine sq_kput rfl (ev_mod (ev_int1 (ev_add (ev_kget2 rfl (ev_var rfl) ev_int) (ev_ix (ev_var rfl) ev_int rfl (at_nat (j := 1) rfl rfl)))) (ev_var rfl) h1) (ev_var rfl) (by omega) ?_
    refine sw_next ⟨some (.imm (termD t)), some (.imm (.ktp (intsD t.1))), ?_⟩
    rw [take_snoc ht, foldT_snoc]
    rfl
  · subst e
    rw [List.take_length]
    have fl := foldT_len (p := p) (pairs := pairs) (acc := [])
    rw [List.length_nil] at fl
    have nd : (keysK (foldT p [] pairs)).Nodup := foldT_nodup (p := p) (pairs := pairs) (acc := []) List.nodup_nil
    have fk : ∀ t ∈ foldT p [] pairs, t.1.length = n ∧ TS.Bd 13 t.1 := fun t ht => by
      rcases foldT_mem h1 ht with z | ⟨_, _, q, hq, e⟩
      · cases z
      · rw [← e]; exact ⟨po.len q hq, po.bd q hq⟩
    refine sq_retV (EvFV.v (ds := (canonR p pairs).map termD) (EvF.imp (ef_filterW (js := [4]) (R := fun ks => ks.Perm (keysK (foldT p [] pairs)) ∧ ks.Pairwise (fun a b => TS.code 13 a ≤ TS.code 13 b)) (emb := fun k : List Int => D.ktp (intsD k)) (fun k => [.ktp (intsD k)]) (fun k => decide ((getI (foldT p [] pairs) k).getD 0 ≠ 0)) (fun k => termD (k, (getI (foldT p [] pairs) k).getD 0)) (ei_seqW (EvF.w (ef_sortK (d := n) (B := 13) rfl (by omega) ?_ fk) ?_)) (jv1 (by decide) (show 4 < 5 by decide)) ?_ ?_) ?_)) k
    · intro h2
      rcases Nat.eq_zero_or_pos n with z | z
      · exfalso
        generalize hF : foldT p [] pairs = F at h2 nd fk
        match F, h2, nd, fk with
        | a :: b :: r, _, nd, fk =>
          have ea : a.1 = [] := List.eq_nil_of_length_eq_zero (by rw [(fk a (by simp)).1, z])
          have eb : b.1 = [] := List.eq_nil_of_length_eq_zero (by rw [(fk b (by simp)).1, z])
          have n1 := (List.nodup_cons.mp nd).1
          exact n1 (by show a.1 ∈ _; rw [ea, ← eb]; exact List.mem_cons_self ..)
      · exact z
    · rintro ds ⟨ks, e, p1, p2, _⟩
      exact ⟨ds, rfl, ks, e, p1, p2⟩
    · rintro ks ⟨pm, _⟩
      rw [pm.length_eq, List.length_map]
      omega
    · rintro ks ⟨pm, _⟩ a ha
      obtain ⟨v, hv⟩ := getI_some (pm.mem_iff.mp ha)
      refine ⟨gw_name, EvB.is (eb_test (ev_neI (ev_kget rfl (ev_var rfl) hv) ev_int)) (by rw [hv, Option.getD_some]; simp), fun _ => EvV.is (ev_tup (ea_cons (ev_var rfl) (ea_cons (ev_kget rfl (ev_var rfl) hv) ea_nil))) (by rw [hv, Option.getD_some])⟩
    · rintro ds ⟨ks, ⟨p1, p2⟩, e⟩
      rw [e, ← canon_of h1 po p1 p2, List.map_map]
      rfl

abbrev S_own_degrees (T : Txt K mg) : DSp := det fun ds d => ∃ (p : Int) (n : Nat) (rows : Kvs) (told : List Int) (x : D), (x = .lst (intsD told) ∨ x = .ktp (intsD told)) ∧ told.length = n ∧ (∀ c ∈ told, 0 ≤ c ∧ c ≤ 12) ∧ n ≤ 100 ∧ ds = [T.form p n rows, x] ∧ d = .ktp (intsD told)
theorem ok_own_degrees (T : Txt K mg) : FnP P w K mg base 2 (T.a 57) ["form", "degrees"] (pureSp (S_own_degrees T)) := by
  refine fn_pure T.f_own_degrees sc_own_degrees (fun ds Φ h => ?_) (fun cdv A outer s H E hr ds Φ h => ⟨_, (pss_cons (ps_if (pt_cmpR op_isN (pv 1) pe_non (nomark _))
      (pss_cons (ps_ret (pe_fld (pv 0) rfl))
      pss_nil)
      pss_nil)
    (pss_cons (ps_if (pt_cmpR op_ne (pe_callB call_len_seq (by rfl) T.n_len (by decide +kernel) (pa_cons (pv 1) pa_nil)) (pe_fld (pv 0) rfl) (nomark _))
      pss_never
      pss_nil)
    (pss_cons (ps_ret (pe_callTy call_tupK (by rfl) T.n_tuple (by decide +kernel) (pa_cons (pe_lc (own := [("value", 2)]) (g := (gName 2)) (by rfl) sc_own_degrees.nd (pi_seq (pv 1)) (blkOk_by (N := ["form", "degrees", "value"]) (sc := defScope (top 57)) (by decide +kernel)) (fun _ _ _ _ _ => (pg_name (i := 2) sc_own_degrees.nd rfl (Or.inl rfl))) (fun _ _ _ _ _ => pts_nil) (fun _ _ _ _ _ => (pe_cl (ok_own_whole T) hr T.g_own_whole (pa_cons (pv 2) (pa_cons pe_int (pa_cons (pe_gint T.m_MAX_DEGREE (by rfl)) pa_nil)))))) pa_nil)))
    pss_nil))), ?_⟩)
  · obtain ⟨d, ⟨p, n, rows, told, x, hx, h1, h2, hl, rfl, rfl⟩, k⟩ := h
    rfl
  obtain ⟨d, ⟨p, n, rows, told, x, hx, h1, h2, hl, rfl, rfl⟩, k⟩ := h
  rcases hx with rfl | rfl
  all_goals
    refine sq_when (eb_test (ev_isN (ev_var rfl))) (fun hb => by cases hb) (fun hb => ?_)
    refine sq_no (eb_test (ev_neI (ev_len (ev_var rfl) rfl) (ev_fld 1 T.cl_Form (ev_var rfl) rfl rfl))) (by rw [len_ints, h1]; simp) ?_
    exact sq_retV (ev_tupleF (ef_mapE (js := [2]) (ys := told) (emb := D.int) (fun a => [D.int a]) D.int (ei_seq (ev_var rfl) rfl) (jv1 (by decide) (show 2 < 3 by decide)) (by omega) (fun a ha => ⟨gw_name, ev_call (ea_cons (ev_var rfl) (ea_cons ev_int (ea_cons ev_int ea_nil))) ⟨_, ⟨a, 0, 12, (h2 a ha).1, (h2 a ha).2, rfl, rfl⟩, rfl⟩⟩))) k

abbrev S_Claim_is_true (T : Txt K mg) : DSp := det fun ds d => ∃ (p : Int) (n : Nat) (rows : Kvs) (told : List Int) (total : Int), 2 ≤ p ∧ p ≤ 101 ∧ RowsOk p n rows ∧ n ≤ 100 ∧ ds = [T.claim p n rows told total] ∧ d = .bl (decide (total = csum p rows))
theorem ok_Claim_is_true (T : Txt K mg) : FnP P w K mg base 2 (T.a 6802) ["self"] (pureSp (S_Claim_is_true T)) := by
  refine fn_pure T.f_Claim_is_true sc_Claim_is_true (fun ds Φ h => ?_) (fun cdv A outer s H E hr ds Φ h => ⟨_, (pss_cons (ps_ret (pe_cmpR op_eq (pe_fld (pv 0) rfl) (pe_cl (ok_corner_sum T) hr T.g_corner_sum (pa_cons (pe_fld (pv 0) rfl) pa_nil)) (nomark _)))
    pss_nil), ?_⟩)
  · obtain ⟨d, ⟨p, n, rows, told, total, h1, h2, ro, hn, rfl, rfl⟩, k⟩ := h
    rfl
  obtain ⟨d, ⟨p, n, rows, told, total, h1, h2, ro, hn, rfl, rfl⟩, k⟩ := h
  refine sq_retV (ev_eqI (ev_fld 2 T.cl_Claim (ev_var rfl) rfl rfl) (ev_call (ea_cons (ev_fld 0 T.cl_Claim (ev_var rfl) rfl rfl) ea_nil) ⟨_, ⟨p, n, rows, h1, h2, ro, hn, rfl, rfl⟩, rfl⟩)) k

abbrev S_own_rounds (T : Txt K mg) : DSp := det fun ds d => ∃ (p : Int) (rs : List (List Int × Int)), rs.length ≤ 32 ∧ (∀ r ∈ rs, 0 ≤ r.2 ∧ r.2 < p) ∧ ds = [.int p, .lst (rs.map (T.pairD p))] ∧ d = .ktp (rs.map (T.pairD p))
theorem ok_own_rounds (T : Txt K mg) : FnP P w K mg base 2 (T.a 62) ["prime", "rounds"] (pureSp (S_own_rounds T)) := by
  refine fn_pure T.f_own_rounds sc_own_rounds (fun ds Φ h => ?_) (fun cdv A outer s H E hr ds Φ h => ⟨_, (pss_cons (ps_if (pt_cmpR op_gt (pe_callB call_len_seq (by rfl) T.n_len (by decide +kernel) (pa_cons (pv 1) pa_nil)) (pe_gint T.m_MAX_ROUNDS (by rfl)) (nomark _))
      pss_never
      pss_nil)
    (pss_cons (ps_set (i := 2) sc_own_rounds.nd rfl (Or.inl rfl) (pe_lst pa_nil))
    (pss_cons (ps_for PassesOwn.never rfl (pi_seq (pv 1)) (pg_tup rfl (pgs_cons (pg_name (i := 3) sc_own_rounds.nd rfl (Or.inl rfl)) (pgs_cons (pg_name (i := 4) sc_own_rounds.nd rfl (Or.inl rfl)) pgs_nil)))
      (pss_cons (ps_expr (pe_cl (ok_own_poly T) hr T.g_own_poly (pa_cons (pv 0) (pa_cons (pv 3) pa_nil))))
      (pss_cons (ps_expr (pe_cl (ok_own_number T) hr T.g_own_number (pa_cons (pv 0) (pa_cons (pv 4) pa_nil))))
      (pss_cons (ps_expr (pe_bm PySem.F.plainAttrs_list PySem.F.slot_list_append PySem.F.type_list_append mt_append (pv 2) (pa_cons (pe_tup (pa_cons (pv 3) (pa_cons (pv 4) pa_nil))) pa_nil)))
      pss_nil))))
    (pss_cons (ps_ret (pe_callTy call_tupK (by rfl) T.n_tuple (by decide +kernel) (pa_cons (pv 2) pa_nil)))
    pss_nil)))), ?_⟩)
  · obtain ⟨d, ⟨p, rs, h1, h2, rfl, rfl⟩, k⟩ := h
    rfl
  obtain ⟨d, ⟨p, rs, h1, h2, rfl, rfl⟩, k⟩ := h
  refine sq_no (eb_test (ev_gt (ev_len (ev_var rfl) rfl) ev_int)) (by rw [List.length_map]; simp; omega) ?_
  refine sq_asgFV (ef_lstV ea_nil) (show 2 < 5 by decide) ?_
  refine sq_forE (js := [3, 4]) (ys := rs) (emb := T.pairD p) (fun r => [T.poly p r.1, .int r.2]) (fun i ρ => ∃ o o', ρ = [some (.imm (.int p)), some (.imm (.lst (rs.map (T.pairD p)))), some (.own ((rs.take i).map (T.pairD p))), o, o']) (ei_seq (ev_var rfl) rfl) ⟨_, _, rfl⟩ (fun i ρ ⟨o, o', e⟩ => by subst e; exact jl2 (show 3 < 5 by decide) (show 4 < 5 by decide)) (fun i r ρ hr ⟨o, o', e⟩ => ?_) (fun ρ ⟨o, o', e⟩ => ?_)
  · subst e
    refine ⟨gw_two, ?_⟩
    have hb := h2 r (List.mem_of_getElem? hr)
    refine sq_dropV (ev_call (ea_cons (ev_var rfl) (ea_cons (ev_var rfl) ea_nil)) ⟨_, ⟨p, r.1, rfl, rfl⟩, rfl⟩) ?_
    refine sq_dropV (ev_call (ea_cons (ev_var rfl) (ea_cons (ev_var rfl) ea_nil)) ⟨_, ⟨p, r.2, hb.1, hb.2, rfl, rfl⟩, rfl⟩) ?_
    refine sq_app rfl (ev_tup (ea_cons (ev_var rfl) (ea_cons (ev_var rfl) ea_nil))) (by rw [List.length_map, List.length_take]; omega) ?_
    refine sw_next ⟨some (.imm (T.poly p r.1)), some (.imm (.int r.2)), ?_⟩
    rw [take_snoc hr, List.map_append]
    rfl
  · subst e
    rw [List.take_length]
    refine sw_freeze 2 rfl ?_
    exact sq_retV (ev_tuple (ev_var rfl) rfl) k

abbrev S_lw_field_power : DSp := det fun ds d => ∃ (p x m : Int), 2 ≤ p ∧ p ≤ 101 ∧ 0 ≤ x ∧ x < p ∧ (0 ≤ m ∧ m ≤ 12) ∧ ds = [.int p, .int x, .int m] ∧ d = .int (x ^ m.toNat % p)
theorem ok_lw_field_power (T : Txt K mg) : FnP P w K mg base 1 (T.a 97) ["_law_prime_here", "_law_base", "_law_exponent"] (pureSp S_lw_field_power) := by
  refine fn_pure T.f_lw_field_power sc_lw_field_power (fun ds Φ h => ?_) (fun cdv A outer s H E hr ds Φ h => ⟨_, (pss_cons (ps_set (i := 3) sc_lw_field_power.nd rfl (Or.inl rfl) pe_int)
    (pss_cons (ps_for PassesOwn.never rfl (pi_range1 (by rfl) T.n_range (pa_cons (pv 2) pa_nil)) (pg_name (i := 4) sc_lw_field_power.nd rfl (Or.inl rfl))
      (pss_cons (ps_set (i := 3) sc_lw_field_power.nd rfl (Or.inl rfl) (pe_op op_mod (pe_callTy call_int1 (by rfl) T.n_int (by decide +kernel) (pa_cons (pe_op op_mul (pv 3) (pv 1)) pa_nil)) (pv 0)))
      pss_nil))
    (pss_cons (ps_ret (pv 3))
    pss_nil))), ?_⟩)
  · obtain ⟨d, ⟨p, x, m, h0, h1, h2, h3, h4, rfl, rfl⟩, k⟩ := h
    rfl
  obtain ⟨d, ⟨p, x, m, h0, h1, h2, h3, h4, rfl, rfl⟩, k⟩ := h
  obtain ⟨h4, h5⟩ := h4
  obtain ⟨n, rfl⟩ : ∃ n : Nat, m = n := ⟨m.toNat, by omega⟩
  refine sq_asg ev_int (show 3 < 5 by decide) ?_
  refine sq_forE (js := [4]) (ys := List.range n) (emb := fun i : Nat => D.int (i : Int)) (fun a => [D.int (a : Int)]) (fun i ρ => ∃ o, ρ = [some (.imm (.int p)), some (.imm (.int x)), some (.imm (.int (n : Int))), some (.imm (.int (x ^ i % p))), o]) (ei_range1 (ev_var rfl) (by omega)) ⟨none, ?_⟩ (fun i ρ ⟨o, e⟩ => by subst e; exact jl1 (show 4 < 5 by decide)) (fun i a ρ ha ⟨o, e⟩ => ?_) (fun ρ ⟨o, e⟩ => ?_)
  · rw [Int.pow_zero, Int.emod_eq_of_lt (by omega) (by omega)]
    rfl
  · subst e
    refine ⟨gw_name, ?_⟩
    refine sq_asg (ev_mod (ev_int1 (ev_mul (ev_var rfl) (ev_var rfl) (Or.inr ⟨by omega, by omega⟩))) (ev_var rfl) (by omega)) (show 3 < 5 by decide) ?_
    refine sw_next ⟨some (.imm (.int (a : Int))), ?_⟩
    rw [mm1, ← Int.pow_succ]
    rfl
  · subst e
    rw [List.length_range]
    rw [Int.toNat_natCast] at k
    exact sq_retV (ev_var rfl) k

abbrev S_lw_poly_value : DSp := det fun ds d => ∃ (p : Int) (cs : List Int) (x : Int), 2 ≤ p ∧ p ≤ 101 ∧ 0 ≤ x ∧ x < p ∧ cs.length ≤ 1000 ∧ ds = [.int p, .ktp (intsD cs), .int x] ∧ d = .int (pval p cs x)
theorem ok_lw_poly_value (T : Txt K mg) : FnP P w K mg base 1 (T.a 98) ["_law_prime_here", "_law_row_here", "_law_number_here"] (pureSp S_lw_poly_value) := by
  refine fn_pure T.f_lw_poly_value sc_lw_poly_value (fun ds Φ h => ?_) (fun cdv A outer s H E hr ds Φ h => ⟨_, (pss_cons (ps_set (i := 3) sc_lw_poly_value.nd rfl (Or.inl rfl) pe_int)
    (pss_cons (ps_for PassesOwn.never rfl (pi_range1 (by rfl) T.n_range (pa_cons (pe_callB call_len_seq (by rfl) T.n_len (by decide +kernel) (pa_cons (pv 1) pa_nil)) pa_nil)) (pg_name (i := 4) sc_lw_poly_value.nd rfl (Or.inl rfl))
      (pss_cons (ps_set (i := 3) sc_lw_poly_value.nd rfl (Or.inl rfl) (pe_op op_mod (pe_callTy call_int1 (by rfl) T.n_int (by decide +kernel) (pa_cons (pe_op op_add (pe_op op_mul (pv 3) (pv 2)) (pe_ix ix_seq (pv 1) (pe_op op_sub (pe_op op_sub (pe_callB call_len_seq (by rfl) T.n_len (by decide +kernel) (pa_cons (pv 1) pa_nil)) pe_int) (pv 4)) (fun _ _ => rfl))) pa_nil)) (pv 0)))
      pss_nil))
    (pss_cons (ps_ret (pv 3))
    pss_nil))), ?_⟩)
  · obtain ⟨d, ⟨p, cs, x, h0, h1, h2, h3, hl, rfl, rfl⟩, k⟩ := h
    rfl
  obtain ⟨d, ⟨p, cs, x, h0, h1, h2, h3, hl, rfl, rfl⟩, k⟩ := h
  refine sq_asg ev_int (show 3 < 5 by decide) ?_
  refine sq_forE (js := [4]) (ys := List.range cs.length) (emb := fun i : Nat => D.int (i : Int)) (fun a => [D.int (a : Int)]) (fun i ρ => ∃ o t, 0 ≤ t ∧ t < p ∧ t = (cs.reverse.take i).foldl (fun t c => (t * x + c) % p) 0 ∧ ρ = [some (.imm (.int p)), some (.imm (.ktp (intsD cs))), some (.imm (.int x)), some (.imm (.int t)), o]) ?_ ⟨_, 0, by omega, by omega, rfl, rfl⟩ (fun i ρ ⟨o, t, _, _, _, e⟩ => by subst e; exact jl1 (show 4 < 5 by decide)) (fun i a ρ ha ⟨o, t, t1, t2, et, e⟩ => ?_) (fun ρ ⟨o, t, t1, t2, et, e⟩ => ?_)
  · have h := ei_range1 (ρ := [some (.imm (.int p)), some (.imm (.ktp (intsD cs))), some (.imm (.int x)), some (.imm (.int 0)), none]) (EvV.is (ev_len (K := K) (ev_var (i := 1) rfl) rfl) (by rw [len_ints])) (by omega)
    exact h
  · subst e
    have ha2 := List.getElem?_eq_some_iff.mp ha
    have hlt : i < cs.length := by have := ha2.1; rwa [List.length_range] at this
    have ea : a = i := by have := ha2.2; rw [List.getElem_range] at this; exact this.symm
    subst ea
    refine ⟨gw_name, ?_⟩
    have hr : cs.reverse[a]? = some cs[cs.length - 1 - a] := by
      rw [List.getElem?_reverse hlt, List.getElem?_eq_getElem (by omega)]
    refine sq_asg (ev_mod (ev_int1 (ev_add (ev_mul (ev_var rfl) (ev_var rfl) (Or.inl ⟨by omega, by omega⟩)) (ev_ix (ev_var rfl) (ev_sub (ev_sub (ev_len (ev_var rfl) rfl) ev_int) (ev_var rfl)) rfl (at_nat (j := cs.length - 1 - a) (by rw [len_ints]; omega) (get_ints (by omega)))))) (ev_var rfl) (by omega)) (show 3 < 5 by decide) ?_
    exact sw_next ⟨_, _, Int.emod_nonneg _ (by omega), Int.emod_lt_of_pos _ (by omega), by rw [take_snoc hr, foldl_snoc, ← et], rfl⟩
  · subst e
    refine sq_retV (ev_var rfl) ?_
    rw [List.length_range, ← List.length_reverse, List.take_length] at et
    rw [et]
    exact k

abbrev S_lw_poly_ends : DSp := det fun ds d => ∃ (p : Int) (cs : List Int), 2 ≤ p ∧ ds = [.int p, .ktp (intsD cs)] ∧ d = .int (pends p cs)
theorem ok_lw_poly_ends (T : Txt K mg) : FnP P w K mg base 1 (T.a 99) ["_law_prime_here", "_law_row_here"] (pureSp S_lw_poly_ends) := by
  refine fn_pure T.f_lw_poly_ends sc_lw_poly_ends (fun ds Φ h => ?_) (fun cdv A outer s H E hr ds Φ h => ⟨_, (pss_cons (ps_if (pt_cmpR op_eq (pe_callB call_len_seq (by rfl) T.n_len (by decide +kernel) (pa_cons (pv 1) pa_nil)) pe_int (nomark _))
      (pss_cons (ps_ret pe_int)
      pss_nil)
      pss_nil)
    (pss_cons (ps_ret (pe_op op_mod (pe_callTy call_int1 (by rfl) T.n_int (by decide +kernel) (pa_cons (pe_op op_add (pe_ix ix_seq (pv 1) pe_int (fun _ _ => rfl)) (pe_callB (cr_sumT rfl) (by rfl) T.n_sum (by decide +kernel) (pa_cons (pv 1) pa_nil))) pa_nil)) (pv 0)))
    pss_nil)), ?_⟩)
  · obtain ⟨d, ⟨p, cs, h0, rfl, rfl⟩, k⟩ := h
    rfl
  obtain ⟨d, ⟨p, cs, h0, rfl, rfl⟩, k⟩ := h
  refine sq_when (eb_test (ev_eqI (ev_len (ev_var rfl) rfl) ev_int)) (fun hb => ?_) (fun hb => ?_)
  · have hz := of_decide_eq_true hb
    rw [len_ints] at hz
    have e : cs = [] := List.eq_nil_of_length_eq_zero (by omega)
    subst e
    refine sq_retV ev_int ?_
    have e0 : pends p [] = 0 := by
      show (0 + 0) % p = 0
      simp
    rw [e0] at k
    exact k
  · have hz := of_decide_eq_false hb
    rw [len_ints] at hz
    match cs, hz, k with
    | [], hz, _ => exact absurd rfl hz
    | c :: r, _, k =>
      exact sq_retV (ev_mod (ev_int1 (ev_add (ev_ix (ev_var rfl) ev_int rfl (at_nat (j := 0) rfl rfl)) (ev_sumT (ev_var rfl)))) (ev_var rfl) (by omega)) k

abbrev S_lw_trim : DSp := det fun ds d => ∃ (ns : List Int) (x : D), (x = .lst (intsD ns) ∨ x = .ktp (intsD ns)) ∧ ds = [x] ∧ d = .ktp (intsD (trimI ns))
theorem ok_lw_trim (T : Txt K mg) : FnP P w K mg base 1 (T.a 96) ["_law_row_here"] (pureSp S_lw_trim) := by
  refine fn_pure T.f_lw_trim sc_lw_trim (fun ds Φ h => ?_) (fun cdv A outer s H E hr ds Φ h => ⟨_, (pss_cons (ps_set (i := 1) sc_lw_trim.nd rfl (Or.inl rfl) (pe_callB call_len_seq (by rfl) T.n_len (by decide +kernel) (pa_cons (pv 0) pa_nil)))
    (pss_cons (ps_while PassesOwn.never (PW.pt (pw_and (pt_cmpR op_gt (pv 1) pe_int (nomark _)) (pw_and1 (pt_cmpR op_eq (pe_ix ix_seq (pv 0) (pe_op op_sub (pv 1) pe_int) (fun _ _ => rfl)) pe_int (nomark _)))))
      (pss_cons (ps_set (i := 1) sc_lw_trim.nd rfl (Or.inl rfl) (pe_op op_sub (pv 1) pe_int))
      pss_nil))
    (pss_cons (ps_ret (pe_callTy call_tupK (by rfl) T.n_tuple (by decide +kernel) (pa_cons (pe_slice sl_seq (pv 0) po_none (po_some (pv 1))) pa_nil)))
    pss_nil))), ?_⟩)
  · obtain ⟨d, ⟨ns, x, hx, rfl, rfl⟩, k⟩ := h
    rfl
  obtain ⟨d, ⟨ns, x, hx, rfl, rfl⟩, k⟩ := h
  have hs : seqOf x = some (intsD ns) := by rcases hx with e | e <;> rw [e] <;> rfl
  have hl : (intsD ns).length = ns.length := List.length_map ..
  refine sq_asg (ev_len (ev_var rfl) hs) (show 1 < 2 by decide) ?_
  refine sq_while (fun ρ => ∃ e : Nat, e ≤ ns.length ∧ trimI ns = trimI (ns.take e) ∧ ρ = [some (.imm x), some (.imm (.int e))]) (fun ρ => match ρ with | [_, some (.imm (.int d))] => d.toNat | _ => 0) ⟨ns.length, Nat.le_refl _, by rw [List.take_length], by rw [← hl]; rfl⟩ ?_
  rintro ρ ⟨e, h1, h2, rfl⟩
  by_cases h0 : e = 0
  · subst h0
    refine ⟨false, EvB.is (eb_and (b := false) (eb_test (ev_gt (ev_var rfl) ev_int)) fun z => absurd (of_decide_eq_true z) (by omega)) (by simp), (fun hb => nomatch hb), fun _ => ?_⟩
    have e0 : trimI ns = [] := h2
    rcases hx with e | e
    · subst e
      refine sq_retV (ev_tuple (ev_slL (ev_var rfl) eo_none (eo_some (ev_var rfl))) rfl) ?_
      rw [cut_take]
      rw [e0] at k
      exact k
    · subst e
      refine sq_retV (ev_tuple (ev_slT (ev_var rfl) eo_none (eo_some (ev_var rfl))) rfl) ?_
      rw [cut_take]
      rw [e0] at k
      exact k
  · obtain ⟨e, rfl⟩ : ∃ e', e = e' + 1 := ⟨e - 1, by omega⟩
    have hlt : e < ns.length := by omega
    refine ⟨_, (eb_and (eb_test (ev_gt (ev_var rfl) ev_int)) fun _ => (eb_test (ev_eqI (ev_ix (ev_var rfl) (ev_sub (ev_var rfl) ev_int) hs (at_nat (j := e) (by omega) (get_ints hlt))) ev_int))), fun hb => ?_, fun hb => ?_⟩
    · obtain ⟨_, hz⟩ := Bool.and_eq_true_iff.mp hb
      refine sq_asg (ev_sub (ev_var rfl) ev_int) (show 1 < 2 by decide) ?_
      have e1 : ((e + 1 : Nat) : Int) - 1 = (e : Int) := by omega
      rw [e1]
      exact sw_next ⟨⟨e, by omega, by rw [h2]; exact trimI_step hlt (of_decide_eq_true hz), rfl⟩, by show ((e : Nat) : Int).toNat < ((e + 1 : Nat) : Int).toNat; omega⟩
    · have hz : ns[e] ≠ 0 := fun z => by
        rw [z] at hb
        have : (decide ((0 : Int) < ((e + 1 : Nat) : Int)) && decide ((0 : Int) = 0)) = true := by simp
        rw [this] at hb
        cases hb
      have e0 : trimI ns = ns.take (e + 1) := h2.trans (trimI_stop hlt hz)
      have e3 : (intsD ns).take (e + 1) = intsD (trimI ns) := by rw [e0]; exact (List.map_take ..).symm
      rcases hx with e | e
      · subst e
        refine sq_retV (ev_tuple (ev_slL (ev_var rfl) eo_none (eo_some (ev_var rfl))) rfl) ?_
        rw [cut_take, e3]
        exact k
      · subst e
        refine sq_retV (ev_tuple (ev_slT (ev_var rfl) eo_none (eo_some (ev_var rfl))) rfl) ?_
        rw [cut_take, e3]
        exact k

abbrev S_Field_contains (T : Txt K mg) : DSp := det fun ds d => ∃ (p v : Int), 0 ≤ v ∧ v < p ∧ ds = [T.fieldD p, .int v] ∧ d = .bl true
theorem ok_Field_contains (T : Txt K mg) : FnP P w K mg base 3 (T.a 3101) ["self", "value"] (pureSp (S_Field_contains T)) := by
  refine fn_pure T.f_Field_contains sc_Field_contains (fun ds Φ h => ?_) (fun cdv A outer s H E hr ds Φ h => ⟨_, (pss_cons (ps_ret (pe_cl (ok_is_number T) hr T.g_is_number (pa_cons (pv 1) (pa_cons (pe_fld (pv 0) rfl) pa_nil))))
    pss_nil), ?_⟩)
  · obtain ⟨d, ⟨p, v, h1, h2, rfl, rfl⟩, k⟩ := h
    rfl
  obtain ⟨d, ⟨p, v, h1, h2, rfl, rfl⟩, k⟩ := h
  refine sq_retV (ev_call (ea_cons (ev_var rfl) (ea_cons (ev_fld 0 T.cl_Field (ev_var rfl) rfl rfl) ea_nil)) ⟨_, ⟨v, p, h1, h2, rfl, rfl⟩, rfl⟩) k

abbrev S_Field_init (T : Txt K mg) : DSp := det fun ds d => ∃ p : Int, PrimeOk p ∧ ds = [.int p] ∧ d = T.fieldD p
theorem ok_Field_init (T : Txt K mg) : FnP P w K mg base 3 (T.a 3100) ["self", "prime"] (initSp (T.a 21) [] (S_Field_init T)) := by
  have c := T.cl_Field
  refine fn_init T.f_Field_init sc_Field_init (fun es ds Φ l h => ?_) (fun cdv A outer s H E hr es ds Φ l h => ⟨_, (pss_cons (ps_fld (pv 0) (pe_cl (ok_check_prime T) hr T.g_check_prime (pa_cons (pv 1) pa_nil)) rfl)
    pss_nil), ?_⟩)
  · obtain rfl := List.eq_nil_of_length_eq_zero l.symm
    obtain ⟨d, ⟨p, hp, rfl, rfl⟩, k⟩ := h
    rfl
  obtain rfl := List.eq_nil_of_length_eq_zero l.symm
  obtain ⟨d, ⟨p, hp, rfl, rfl⟩, k⟩ := h
  refine sq_fld c (by decide) (by decide) (by decide) (ev_call (ea_cons (ev_var rfl) ea_nil) ⟨_, ⟨p, hp, rfl, rfl⟩, rfl⟩) rfl ?_
  exact sw_next ⟨_, _, rfl, k⟩

abbrev S_Teller_init (C : Addr) : DSp := fun ds Φ => ∃ p : Int, PrimeOk p ∧ ds = [.int p] ∧ Φ (.obj C ["prime"] [.int p])
theorem ok_Teller_init (T : Txt K mg) {C : Addr} {ks : List Str} (c : ClsD K C ks) (hc : ("prime" : PySem.Str) ∈ ks) : FnP P w K mg base 3 (T.a 8000) ["self", "prime"] (initSp C [] (S_Teller_init C)) := by
  have Ccl := c
  refine fn_init T.f_Teller_init sc_Teller_init (fun es ds Φ l h => ?_) (fun cdv A outer s H E hr es ds Φ l h => ⟨_, (pss_cons (ps_fld (pv 0) (pe_cl (ok_check_prime T) hr T.g_check_prime (pa_cons (pv 1) pa_nil)) rfl)
    pss_nil), ?_⟩)
  · obtain rfl := List.eq_nil_of_length_eq_zero l.symm
    obtain ⟨p, hp, rfl, k⟩ := h
    rfl
  obtain rfl := List.eq_nil_of_length_eq_zero l.symm
  obtain ⟨p, hp, rfl, k⟩ := h
  refine sq_fld Ccl hc (by decide) (by decide) (ev_call (ea_cons (ev_var rfl) ea_nil) ⟨_, ⟨p, hp, rfl, rfl⟩, rfl⟩) rfl ?_
  exact sw_next ⟨_, _, rfl, k⟩

abbrev S_Poly_ends (T : Txt K mg) : DSp := det fun ds d => ∃ (p : Int) (cs : List Int), 2 ≤ p ∧ p ≤ 101 ∧ ds = [T.poly p cs] ∧ d = .int ((pval p cs 0 + pval p cs 1) % p)
theorem ok_Poly_ends (T : Txt K mg) : FnP P w K mg base 3 (T.a 4109) ["self"] (pureSp (S_Poly_ends T)) := by
  refine fn_pure T.f_Poly_ends sc_Poly_ends (fun ds Φ h => ?_) (fun cdv A outer s H E hr ds Φ h => ⟨_, (pss_cons (ps_ret (pe_op op_mod (pe_op op_add (pe_me (pv 0) T.cl_Poly.c T.me_Poly_at (ok_Poly_at T) hr (pa_cons pe_int pa_nil)) (pe_me (pv 0) T.cl_Poly.c T.me_Poly_at (ok_Poly_at T) hr (pa_cons pe_int pa_nil))) (pe_fld (pv 0) rfl)))
    pss_nil), ?_⟩)
  · obtain ⟨d, ⟨p, cs, h0, h1, rfl, rfl⟩, k⟩ := h
    rfl
  obtain ⟨d, ⟨p, cs, h0, h1, rfl, rfl⟩, k⟩ := h
  refine sq_retV (ev_mod (ev_add (ev_meth (ev_var rfl) (by decide) (ea_cons ev_int ea_nil) ⟨_, ⟨p, cs, 0, h0, h1, by omega, by omega, rfl, rfl⟩, rfl⟩) (ev_meth (ev_var rfl) (by decide) (ea_cons ev_int ea_nil) ⟨_, ⟨p, cs, 1, h0, h1, by omega, by omega, rfl, rfl⟩, rfl⟩)) (ev_fld 0 T.cl_Poly (ev_var rfl) rfl rfl) (by omega)) k

abbrev S_Poly_fits (T : Txt K mg) : DSp := det fun ds d => ∃ (p : Int) (cs : List Int) (b : Int), ds = [T.poly p cs, .int b] ∧ d = .bl (decide (max ((cs.length : Int) - 1) 0 ≤ b))
theorem ok_Poly_fits (T : Txt K mg) : FnP P w K mg base 3 (T.a 4111) ["self", "bound"] (pureSp (S_Poly_fits T)) := by
  refine fn_pure T.f_Poly_fits sc_Poly_fits (fun ds Φ h => ?_) (fun cdv A outer s H E hr ds Φ h => ⟨_, (pss_cons (ps_ret (pe_cmpR op_le (pe_pr (pv 0) T.cl_Poly.c T.pr_Poly_degree.choose_spec (ok_Poly_degree T) hr) (pv 1) (nomark _)))
    pss_nil), ?_⟩)
  · obtain ⟨d, ⟨p, cs, b, rfl, rfl⟩, k⟩ := h
    rfl
  obtain ⟨d, ⟨p, cs, b, rfl, rfl⟩, k⟩ := h
  refine sq_retV (ev_le (ev_prop (ev_var rfl) ⟨_, ⟨p, cs, rfl, rfl⟩, rfl⟩) (ev_var rfl)) k

abbrev S_Poly_init (T : Txt K mg) : DSp := det fun ds d => ∃ (p : Int) (cs : List Int), PrimeOk p ∧ cs.length ≤ 128 ∧ (∀ x ∈ cs, 0 ≤ x ∧ x < p) ∧ ds = [.int p, .lst (intsD cs)] ∧ d = T.poly p (trimI cs)
theorem ok_Poly_init (T : Txt K mg) : FnP P w K mg base 3 (T.a 4100) ["self", "prime", "coefficients"] (initSp (T.a 31) [] (S_Poly_init T)) := by
  have c := T.cl_Poly
  refine fn_init T.f_Poly_init sc_Poly_init (fun es ds Φ l h => ?_) (fun cdv A outer s H E hr es ds Φ l h => ⟨_, (pss_cons (ps_fld (pv 0) (pe_cl (ok_check_prime T) hr T.g_check_prime (pa_cons (pv 1) pa_nil)) rfl)
    (pss_cons (ps_expr (pe_cl (ok_check_row T) hr T.g_check_row (pa_cons (pv 1) (pa_cons (pv 2) (pa_cons (pe_gint T.m_MAX_COEFFICIENTS (by rfl)) pa_nil)))))
    (pss_cons (ps_fld (pv 0) (pe_cl (ok_trimmed T) (hr.mono (by decide)) T.g_trimmed (pa_cons (pv 2) pa_nil)) rfl)
    pss_nil))), ?_⟩)
  · obtain rfl := List.eq_nil_of_length_eq_zero l.symm
    obtain ⟨d, ⟨p, cs, hp, h1, h2, rfl, rfl⟩, k⟩ := h
    rfl
  obtain rfl := List.eq_nil_of_length_eq_zero l.symm
  obtain ⟨d, ⟨p, cs, hp, h1, h2, rfl, rfl⟩, k⟩ := h
  refine sq_fld c (by decide) (by decide) (by decide) (ev_call (ea_cons (ev_var rfl) ea_nil) ⟨_, ⟨p, hp, rfl, rfl⟩, rfl⟩) rfl ?_
  refine sq_dropV (ev_call (ea_cons (ev_var rfl) (ea_cons (ev_var rfl) (ea_cons ev_int ea_nil))) ⟨_, ⟨p, cs, 128, by omega, h2, rfl, rfl⟩, rfl⟩) ?_
  refine sq_fld c (by decide) (by decide) (by decide) (ev_call (ea_cons (ev_var rfl) ea_nil) ⟨_, ⟨cs, _, Or.inl rfl, rfl, rfl⟩, rfl⟩) rfl ?_
  exact sw_next ⟨_, _, rfl, k⟩

abbrev S_Form_init (T : Txt K mg) : DSp := det fun ds d => ∃ (p : Int) (n : Nat) (pairs : Kvs) (x : D), seqOf x = some (pairs.map termD) ∧ PrimeOk p ∧ n ≤ 5 ∧ PairsOk n pairs ∧ (∀ t ∈ pairs, 0 ≤ t.2 ∧ t.2 < p) ∧ pairs.length < 64 ∧ ds = [.int p, .int (n : Int), x] ∧ d = T.form p n (canonR p pairs)
theorem ok_Form_init (T : Txt K mg) : FnP P w K mg base 3 (T.a 6000) ["self", "prime", "places", "terms"] (initSp (T.a 50) [] (S_Form_init T)) := by
  have c := T.cl_Form
  refine fn_init T.f_Form_init sc_Form_init (fun es ds Φ l h => ?_) (fun cdv A outer s H E hr es ds Φ l h => ⟨_, (pss_cons (ps_fld (pv 0) (pe_cl (ok_check_prime T) hr T.g_check_prime (pa_cons (pv 1) pa_nil)) rfl)
    (pss_cons (ps_fld (pv 0) (pe_cl (ok_check_whole T) (hr.mono (by decide)) T.g_check_whole (pa_cons (pv 2) (pa_cons pe_int (pa_cons (pe_gint T.m_MAX_PLACES (by rfl)) pa_nil)))) rfl)
    (pss_cons (ps_if (pt_cmpR op_gt (pe_callB call_len_seq (by rfl) T.n_len (by decide +kernel) (pa_cons (pv 3) pa_nil)) (pe_gint T.m_MAX_TERMS (by rfl)) (nomark _))
      pss_never
      pss_nil)
    (pss_cons (ps_setLc (i := 4) (own := [("exponents", 6), ("coefficient", 7)]) (g := (gTup K 2 (gCons (gName 6) (gCons (gName 7) gNil)))) (by rfl) sc_Form_init.nd rfl rfl (sw_true rfl rfl rfl (by decide +kernel)) (pi_seq (pv 3)) (blkOk_by (N := ["self", "prime", "places", "terms", "pairs", "own_terms", "exponents", "coefficient"]) (sc := defScope (inClass (top 50) 0)) (by decide +kernel)) (fun _ _ _ _ _ => (pg_tup rfl (pgs_cons (pg_name (i := 6) sc_Form_init.nd rfl (Or.inl rfl)) (pgs_cons (pg_name (i := 7) sc_Form_init.nd rfl (Or.inl rfl)) pgs_nil)))) (fun _ _ _ _ _ => pts_nil) (fun _ _ _ _ _ => (pe_cl (ok_checked_term T) hr T.g_checked_term (pa_cons (pv 1) (pa_cons (pv 2) (pa_cons (pv 6) (pa_cons (pv 7) pa_nil)))))))
    (pss_cons (ps_set (i := 5) sc_Form_init.nd rfl (Or.inl rfl) (pe_cl (ok_added_up T) (hr.mono (by decide)) T.g_added_up (pa_cons (pv 1) (pa_cons (pv 4) pa_nil))))
    (pss_cons (ps_fld (pv 0) (pv 5) rfl)
    (pss_cons (ps_fld (pv 0) (pe_cl (ok_greatest_exponents T) (hr.mono (by decide)) T.g_greatest_exponents (pa_cons (pv 2) (pa_cons (pv 5) pa_nil))) rfl)
    pss_nil))))))), ?_⟩)
  · obtain rfl := List.eq_nil_of_length_eq_zero l.symm
    obtain ⟨d, ⟨p, n, pairs, x, hx, hp, hn, po, hc, hl, rfl, rfl⟩, k⟩ := h
    rfl
  obtain rfl := List.eq_nil_of_length_eq_zero l.symm
  obtain ⟨d, ⟨p, n, pairs, x, hx, hp, hn, po, hc, hl, rfl, rfl⟩, k⟩ := h
  have p0 : 0 < p := by have := hp.1; omega
  refine sq_fld c (by decide) (by decide) (by decide) (ev_call (ea_cons (ev_var rfl) ea_nil) ⟨_, ⟨p, hp, rfl, rfl⟩, rfl⟩) rfl ?_
  refine sq_fld c (by decide) (by decide) (by decide) (ev_call (ea_cons (ev_var rfl) (ea_cons ev_int (ea_cons ev_int ea_nil))) ⟨_, ⟨(n : Int), 0, 5, by omega, by omega, rfl, rfl⟩, rfl⟩) rfl ?_
  refine sq_no (eb_test (ev_gt (ev_len (ev_var rfl) hx) ev_int)) (by rw [List.length_map]; simp; omega) ?_
  refine sq_asg (EvFV.v (ef_mapE (js := [6, 7]) (ys := pairs) (emb := termD) (fun t => [.ktp (intsD t.1), .int t.2]) termD (ei_seq (ev_var rfl) hx) (jv2 (by decide) (by decide) (show 6 < 8 by decide) (show 7 < 8 by decide)) (by omega) (fun t ht => ⟨gw_two, ev_call (ea_cons (ev_var rfl) (ea_cons (ev_var rfl) (ea_cons (ev_var rfl) (ea_cons (ev_var rfl) ea_nil)))) ⟨_, ⟨p, n, t.1, t.2, po.len t ht, po.bd t ht, (hc t ht).1, (hc t ht).2, by rw [po.len t ht]; omega, rfl, rfl⟩, rfl⟩⟩))) (show 4 < 8 by decide) ?_
  refine sq_asg (ev_call (ea_cons (ev_var rfl) (ea_cons (ev_var rfl) ea_nil)) ⟨_, ⟨p, n, pairs, p0, po, hl, rfl, rfl⟩, rfl⟩) (show 5 < 8 by decide) ?_
  have ro := canon_ok p0 po
  have cl := canon_len p pairs
  refine sq_fld c (by decide) (by decide) (by decide) (ev_var rfl) rfl ?_
  refine sq_fld c (by decide) (by decide) (by decide) (ev_call (ea_cons (ev_var rfl) (ea_cons (ev_var rfl) ea_nil)) ⟨_, ⟨n, canonR p pairs, ro.pairs, by omega, by omega, rfl, rfl⟩, rfl⟩) rfl ?_
  exact sw_next ⟨_, _, rfl, k⟩

end
end SK

set_option Elab.async false
set_option linter.all false
set_option maxRecDepth 100000
set_option maxHeartbeats 4000000
namespace SK
open PySem L2
/-! ### weights, round polynomials -/
def wp : List Int → List Int → Int
  | x :: xs, e :: es => x ^ e.toNat * wp xs es
  | _, _ => 1
def vfold (p c : Int) (ps : List (Int × Int)) : Int := ps.foldl (fun v q => v * (q.1 ^ q.2.toNat % p)) c
theorem mm2 (a b w p : Int) : a * (b % p) * w % p = a * b * w % p := by
  rw [Int.mul_emod (a * (b % p)) w, Int.mul_emod a (b % p), Int.emod_emod_of_dvd _ (Int.dvd_refl p), ← Int.mul_emod a b, ← Int.mul_emod]
theorem vfold_mod (p : Int) : ∀ (xs es : List Int) (c : Int), vfold p c (xs.zip es) % p = c * wp xs es % p
  | [], es, c => by
    show c % p = c * 1 % p
    rw [Int.mul_one]
  | x :: xs, [], c => by
    show c % p = c * 1 % p
    rw [Int.mul_one]
  | x :: xs, e :: es, c => by
    show vfold p (c * (x ^ e.toNat % p)) (xs.zip es) % p = c * (x ^ e.toNat * wp xs es) % p
    rw [vfold_mod p xs es, mm2, Int.mul_assoc]
theorem sum_mod {α : Type} {p : Int} (f g : α → Int) : ∀ {l : List α}, (∀ a ∈ l, f a % p = g a % p) → (l.map f).sum % p = (l.map g).sum % p
  | [], _ => rfl
  | a :: l, h => by
    rw [List.map_cons, List.map_cons, List.sum_cons, List.sum_cons, Int.add_emod, h a (List.mem_cons_self ..), sum_mod f g fun b hb => h b (List.mem_cons_of_mem _ hb), ← Int.add_emod]
def fval (p : Int) (rows : Kvs) (xs : List Int) : Int := wsum (wp xs) rows % p
def hd (d : Nat) (e : List Int) : Int := if e.headD 0 = (d : Int) then zw e.tail else 0
def fixR (p : Int) (rows : Kvs) (xs : List Int) : Kvs := canonR p (rows.map fun t => (t.1.drop xs.length, t.2 * wp xs t.1 % p))
def rco (p : Int) (rows : Kvs) (xs : List Int) (d : Nat) : Int := wsum (fun e => wp xs e * hd d (e.drop xs.length)) rows % p
def rpoly (p : Int) (rows : Kvs) (xs : List Int) : List Int := trimI ((List.range 13).map (rco p rows xs))
def psum (p : Int) (rows : Kvs) (xs : List Int) : Int := wsum (fun e => wp xs e * zw (e.drop xs.length)) rows % p
theorem wsum_congr {f g : List Int → Int} {rows : Kvs} (h : ∀ t ∈ rows, f t.1 = g t.1) : wsum f rows = wsum g rows := by
  unfold wsum
  rw [List.map_congr_left fun t ht => by rw [h t ht]]
theorem wsum_map (f : List Int → Int) (h : List Int × Int → List Int × Int) (rows : Kvs) : wsum f (rows.map h) = (rows.map fun t => (h t).2 * f (h t).1).sum := by
  unfold wsum
  rw [List.map_map]
  rfl
theorem fix_rco (p : Int) (rows : Kvs) (xs : List Int) (d : Nat) : wsum (hd d) (fixR p rows xs) % p = rco p rows xs d := by
  unfold fixR rco
  rw [canon_sum, wsum_map]
  refine sum_mod _ (fun t : List Int × Int => t.2 * (wp xs t.1 * hd d (t.1.drop xs.length))) fun t _ => ?_
  show t.2 * wp xs t.1 % p * hd d (t.1.drop xs.length) % p = _
  rw [mm1, Int.mul_assoc]
theorem csum_psum (p : Int) (rows : Kvs) : csum p rows = psum p rows [] := by
  unfold csum psum
  rw [wsum_congr (g := fun e => wp [] e * zw (e.drop 0)) fun t _ => by
    have w1 : wp [] t.1 = 1 := by cases t.1 <;> rfl
    show zw t.1 = wp [] t.1 * zw (t.1.drop 0)
    rw [w1]
    rw [Int.one_mul]
    rfl]
  rfl
theorem fval_psum {p : Int} {n : Nat} {rows : Kvs} (ro : PairsOk n rows) {xs : List Int} (h : xs.length = n) : fval p rows xs = psum p rows xs := by
  unfold fval psum
  rw [wsum_congr (g := fun e => wp xs e * zw (e.drop xs.length)) fun t ht => by
    have e : t.1.drop xs.length = [] := List.drop_eq_nil_of_le (by rw [ro.len t ht, h]; exact Nat.le_refl _)
    show wp xs t.1 = wp xs t.1 * zw (t.1.drop xs.length)
    rw [e]
    show _ = _ * 1
    rw [Int.mul_one]]
/-! sums of a list's items, weighted by their places -/
def lin (g : Nat → Int) : Nat → List Int → Int
  | _, [] => 0
  | i, c :: cs => c * g i + lin g (i + 1) cs
theorem lin_append (g : Nat → Int) : ∀ (i : Nat) (a b : List Int), lin g i (a ++ b) = lin g i a + lin g (i + a.length) b
  | i, [], b => by
    show lin g i b = 0 + lin g (i + 0) b
    rw [Int.zero_add, Nat.add_zero]
  | i, c :: a, b => by
    show c * g i + lin g (i + 1) (a ++ b) = c * g i + lin g (i + 1) a + lin g (i + (a.length + 1)) b
    rw [lin_append g (i + 1) a b, Int.add_assoc]
    have e : i + 1 + a.length = i + (a.length + 1) := by omega
    rw [e]
theorem lin_zeros (g : Nat → Int) : ∀ (i k : Nat), lin g i (List.replicate k 0) = 0
  | i, 0 => rfl
  | i, k + 1 => by
    rw [List.replicate_succ]
    show 0 * g i + lin g (i + 1) (List.replicate k 0) = 0
    rw [lin_zeros g, Int.zero_mul]
    rfl
theorem trimI_spec (cs : List Int) : ∃ k, cs = trimI cs ++ List.replicate k 0 := by
  have aux : ∀ l : List Int, ∃ k, l = List.replicate k 0 ++ l.dropWhile (· == 0) := by
    intro l
    induction l with
    | nil => exact ⟨0, rfl⟩
    | cons c l ih =>
      by_cases h : c = 0
      · obtain ⟨k, e⟩ := ih
        refine ⟨k + 1, ?_⟩
        rw [List.dropWhile_cons, if_pos (by simp [h]), List.replicate_succ, List.cons_append, ← e, h]
      · refine ⟨0, ?_⟩
        rw [List.dropWhile_cons, if_neg (by simp [h])]
        rfl
  obtain ⟨k, e⟩ := aux cs.reverse
  refine ⟨k, ?_⟩
  have e2 := congrArg List.reverse e
  rw [List.reverse_reverse, List.reverse_append, List.reverse_replicate] at e2
  exact e2
theorem lin_trim (g : Nat → Int) (cs : List Int) : lin g 0 (trimI cs) = lin g 0 cs := by
  obtain ⟨k, e⟩ := trimI_spec cs
  have h := lin_append g 0 (trimI cs) (List.replicate k 0)
  rw [← e, lin_zeros, Int.add_zero] at h
  exact h.symm
theorem trimI_append_zeros (cs : List Int) (k : Nat) : trimI (cs ++ List.replicate k 0) = trimI cs := by
  unfold trimI
  rw [List.reverse_append, List.reverse_replicate]
  congr 1
  induction k with
  | zero => rfl
  | succ k ih =>
    rw [List.replicate_succ, List.cons_append, List.dropWhile_cons, if_pos (by simp)]
    exact ih
theorem trimI_len (cs : List Int) : (trimI cs).length ≤ cs.length := by
  obtain ⟨k, e⟩ := trimI_spec cs
  have h := congrArg List.length e
  rw [List.length_append, List.length_replicate] at h
  omega
theorem trimI_mem {cs : List Int} {c : Int} (h : c ∈ trimI cs) : c ∈ cs := by
  obtain ⟨k, e⟩ := trimI_spec cs
  rw [e]
  exact List.mem_append_left _ h
/-- rows of f that are 0 from m on -/
theorem trimI_ext {f : Nat → Int} {m k : Nat} (h : ∀ d, m ≤ d → f d = 0) : trimI ((List.range (m + k)).map f) = trimI ((List.range m).map f) := by
  induction k with
  | zero => rfl
  | succ k ih =>
    have e : m + (k + 1) = (m + k) + 1 := by omega
    rw [e, range_snoc, h (m + k) (by omega)]
    have := trimI_append_zeros ((List.range (m + k)).map f) 1
    exact this.trans ih
theorem trimI_self (cs : List Int) : trimI (trimI cs) = trimI cs := by
  obtain ⟨k, e⟩ := trimI_spec cs
  have h := trimI_append_zeros (trimI cs) k
  rw [← e] at h
  exact h.symm
theorem lin_range (g f : Nat → Int) : ∀ m : Nat, lin g 0 ((List.range m).map f) = ((List.range m).map fun d => f d * g d).sum
  | 0 => rfl
  | m + 1 => by
    rw [range_snoc, range_snoc, lin_append, List.sum_append, lin_range g f m, List.length_map, List.length_range]
    show _ + (f m * g (0 + m) + 0) = _ + (f m * g m + 0)
    rw [Nat.zero_add]
/-- what a form's rows give at the place k, weighted by g -/
theorem pick_sum (g : Nat → Int) (z : Int) {v : Int} : ∀ m : Nat, 0 ≤ v → v < (m : Int) → ((List.range m).map fun (d : Nat) => (if v = (d : Int) then z else 0) * g d).sum = z * g v.toNat
  | 0, h0, h1 => by omega
  | m + 1, h0, h1 => by
    rw [range_snoc, List.sum_append]
    show _ + ((if v = (m : Int) then z else 0) * g m + 0) = _
    by_cases e : v = (m : Int)
    · have hz : ∀ k : Nat, k ≤ m → ((List.range k).map fun (d : Nat) => (if v = (d : Int) then z else 0) * g d).sum = 0 := by
        intro k
        induction k with
        | zero => intro _; rfl
        | succ k ih =>
          intro hk
          rw [range_snoc, List.sum_append, ih (by omega)]
          show 0 + ((if v = (k : Int) then z else 0) * g k + 0) = 0
          rw [if_neg (by omega)]
          omega
      rw [hz m (Nat.le_refl _), if_pos e, e, Int.toNat_natCast]
      omega
    · rw [if_neg e, pick_sum g z m h0 (by omega)]
      omega
theorem wsum_add (f g : List Int → Int) : ∀ rows : Kvs, wsum (fun e => f e + g e) rows = wsum f rows + wsum g rows
  | [] => rfl
  | t :: r => by
    rw [wsum_cons, wsum_cons, wsum_cons, wsum_add f g r, Int.mul_add]
    omega
theorem wsum_mul (f : List Int → Int) (c : Int) : ∀ rows : Kvs, wsum (fun e => f e * c) rows = wsum f rows * c
  | [] => by
    show 0 = 0 * c
    rw [Int.zero_mul]
  | t :: r => by
    rw [wsum_cons, wsum_cons, wsum_mul f c r, Int.add_mul, Int.mul_assoc]
theorem wsum_zero : ∀ rows : Kvs, wsum (fun _ => 0) rows = 0
  | [] => rfl
  | t :: r => by rw [wsum_cons, wsum_zero r, Int.mul_zero]; rfl
/-- the two sums change places -/
theorem swap_sum (F : Nat → List Int → Int) (g : Nat → Int) (rows : Kvs) : ∀ m : Nat, ((List.range m).map fun d => wsum (F d) rows * g d).sum = wsum (fun e => ((List.range m).map fun d => F d e * g d).sum) rows
  | 0 => by
    show 0 = wsum (fun _ => 0) rows
    rw [wsum_zero]
  | m + 1 => by
    rw [range_snoc, List.sum_append, swap_sum F g rows m]
    show _ + (wsum (F m) rows * g m + 0) = _
    rw [Int.add_zero, ← wsum_mul, ← wsum_add]
    refine wsum_congr fun t _ => ?_
    rw [range_snoc, List.sum_append]
    show _ = _ + (F m t.1 * g m + 0)
    rw [Int.add_zero]
theorem lin_rpoly {p : Int} {n : Nat} {rows : Kvs} (po : PairsOk n rows) (xs : List Int) (g : Nat → Int) :
    lin g 0 (rpoly p rows xs) % p = wsum (fun e => wp xs e * (zw (e.drop xs.length).tail * g ((e.drop xs.length).headD 0).toNat)) rows % p := by
  unfold rpoly
  rw [lin_trim, lin_range, sum_mod (fun d => rco p rows xs d * g d) (fun d => wsum (fun e => wp xs e * hd d (e.drop xs.length)) rows * g d) fun d _ => by
    unfold rco
    rw [mm1], swap_sum]
  congr 1
  refine wsum_congr fun t ht => ?_
  have hb : 0 ≤ (t.1.drop xs.length).headD 0 ∧ (t.1.drop xs.length).headD 0 < ((13 : Nat) : Int) := by
    cases q : t.1.drop xs.length with
    | nil => exact ⟨Int.le_refl _, by decide⟩
    | cons a r =>
      have m : a ∈ t.1 := List.mem_of_mem_drop (by rw [q]; exact List.mem_cons_self ..)
      exact po.bd t ht a m
  have h := pick_sum g (zw (t.1.drop xs.length).tail) 13 hb.1 hb.2
  have e : ∀ d : Nat, wp xs t.1 * hd d (t.1.drop xs.length) * g d = wp xs t.1 * ((if (t.1.drop xs.length).headD 0 = (d : Int) then zw (t.1.drop xs.length).tail else 0) * g d) := fun d => by
    rw [Int.mul_assoc]
    rfl
  have sm : ∀ (c : Int) (F : Nat → Int) (m : Nat), ((List.range m).map fun d => c * F d).sum = c * ((List.range m).map F).sum := by
    intro c F m
    induction m with
    | zero => show 0 = c * 0; rw [Int.mul_zero]
    | succ m ih =>
      rw [range_snoc, range_snoc, List.sum_append, List.sum_append, ih, Int.mul_add]
      show _ + (c * F m + 0) = _ + c * (F m + 0)
      rw [Int.add_zero, Int.add_zero]
  rw [List.map_congr_left fun d _ => e d, sm, h]
theorem lin_pow (x : Int) : ∀ (i : Nat) (cs : List Int), lin (fun d => x ^ d) (i + 1) cs = x * lin (fun d => x ^ d) i cs
  | i, [] => by
    show 0 = x * 0
    rw [Int.mul_zero]
  | i, c :: cs => by
    show c * x ^ (i + 1) + lin _ (i + 1 + 1) cs = x * (c * x ^ i + lin _ (i + 1) cs)
    rw [lin_pow x (i + 1) cs, Int.mul_add, Int.pow_succ, ← Int.mul_assoc, Int.mul_comm (c * x ^ i) x]
theorem pval_lin (p x : Int) : ∀ cs : List Int, pval p cs x = lin (fun d => x ^ d) 0 cs % p
  | [] => by
    show (0 : Int) = 0 % p
    rw [Int.zero_emod]
  | c :: cs => by
    have ih := pval_lin p x cs
    unfold pval at ih ⊢
    rw [List.reverse_cons, foldl_snoc, ih]
    show (lin _ 0 cs % p * x + c) % p = (c * x ^ 0 + lin _ 1 cs) % p
    rw [lin_pow, Int.pow_zero, Int.mul_one, Int.add_emod, mm1, ← Int.add_emod, Int.mul_comm, Int.add_comm]
def g2 (d : Nat) : Int := if d = 0 then 2 else 1
theorem lin_ones : ∀ (i : Nat) (cs : List Int), lin g2 (i + 1) cs = cs.sum
  | i, [] => rfl
  | i, c :: cs => by
    show c * g2 (i + 1) + lin g2 (i + 1 + 1) cs = (c :: cs).sum
    rw [lin_ones (i + 1) cs, List.sum_cons]
    unfold g2
    rw [if_neg (by omega), Int.mul_one]
theorem pends_lin (p : Int) (cs : List Int) : pends p cs = lin g2 0 cs % p := by
  cases cs with
  | nil => rfl
  | cons c r =>
    show (c + (c :: r).sum) % p = (c * g2 0 + lin g2 1 r) % p
    rw [lin_ones, List.sum_cons]
    show _ = (c * 2 + r.sum) % p
    congr 1
    omega
/-- at(0) + at(1) -/
theorem ends_pends (p : Int) (cs : List Int) : (pval p cs 0 + pval p cs 1) % p = pends p cs := by
  rw [pval_lin, pval_lin, ← Int.add_emod, pends_lin]
  congr 1
  cases cs with
  | nil => rfl
  | cons c r =>
    show c * 0 ^ 0 + lin (fun d => (0 : Int) ^ d) 1 r + (c * 1 ^ 0 + lin (fun d => (1 : Int) ^ d) 1 r) = c * g2 0 + lin g2 1 r
    have a0 : lin (fun d => (0 : Int) ^ d) 1 r = 0 := by rw [lin_pow 0 0, Int.zero_mul]
    have a1 : ∀ (i : Nat) (cs : List Int), lin (fun d => (1 : Int) ^ d) i cs = cs.sum := by
      intro i cs
      induction cs generalizing i with
      | nil => rfl
      | cons c cs ih =>
        show c * 1 ^ i + lin _ (i + 1) cs = _
        rw [ih, Int.one_pow, Int.mul_one, List.sum_cons]
    rw [a0, a1, lin_ones]
    show c * 1 + 0 + (c * 1 + r.sum) = c * 2 + r.sum
    omega
theorem drop_split {e : List Int} {k : Nat} (h : k < e.length) : e.drop k = e[k] :: e.drop (k + 1) := List.drop_eq_getElem_cons h
theorem zw_cons (a : Int) (r : List Int) (h : 0 ≤ a) : zw (a :: r) = zw r * g2 a.toNat := by
  unfold zw g2
  by_cases z : a = 0
  · subst z
    rw [List.count_cons_self, Int.pow_succ]
    rfl
  · rw [List.count_cons_of_ne (by exact fun e => z e), if_neg (by omega), Int.mul_one]
theorem wp_snoc : ∀ (xs e : List Int) (x : Int) (h : xs.length < e.length), wp (xs ++ [x]) e = wp xs e * x ^ e[xs.length].toNat
  | [], [], _, h => by cases h
  | [], a :: e, x, _ => by
    show x ^ a.toNat * wp [] e = 1 * x ^ a.toNat
    have : wp [] e = 1 := by cases e <;> rfl
    rw [this, Int.mul_one, Int.one_mul]
  | y :: xs, [], _, h => by cases h
  | y :: xs, a :: e, x, h => by
    show y ^ a.toNat * wp (xs ++ [x]) e = y ^ a.toNat * wp xs e * x ^ _
    rw [wp_snoc xs e x (by simpa using h), Int.mul_assoc]
    rfl
theorem rpoly_ends {p : Int} {n : Nat} {rows : Kvs} (po : PairsOk n rows) {xs : List Int} (h : xs.length < n) : pends p (rpoly p rows xs) = psum p rows xs := by
  rw [pends_lin, lin_rpoly po]
  unfold psum
  rw [wsum_congr (g := fun e => wp xs e * zw (e.drop xs.length)) fun t ht => by
    have hl : xs.length < t.1.length := by rw [po.len t ht]; exact h
    show wp xs t.1 * (zw (t.1.drop xs.length).tail * g2 ((t.1.drop xs.length).headD 0).toNat) = wp xs t.1 * zw (t.1.drop xs.length)
    rw [drop_split hl, zw_cons _ _ (po.bd t ht _ (List.getElem_mem hl)).1]
    rfl]
theorem rpoly_val {p : Int} {n : Nat} {rows : Kvs} (po : PairsOk n rows) {xs : List Int} (h : xs.length < n) (x : Int) : pval p (rpoly p rows xs) x = psum p rows (xs ++ [x]) := by
  rw [pval_lin, lin_rpoly po]
  unfold psum
  rw [wsum_congr (g := fun e => wp (xs ++ [x]) e * zw (e.drop (xs ++ [x]).length)) fun t ht => by
    have hl : xs.length < t.1.length := by rw [po.len t ht]; exact h
    show wp xs t.1 * (zw (t.1.drop xs.length).tail * x ^ ((t.1.drop xs.length).headD 0).toNat) = wp (xs ++ [x]) t.1 * zw (t.1.drop (xs ++ [x]).length)
    rw [drop_split hl, wp_snoc xs t.1 x hl, List.length_append, List.length_singleton]
    show wp xs t.1 * (zw (t.1.drop (xs.length + 1)) * x ^ t.1[xs.length].toNat) = _
    rw [Int.mul_comm (zw _), Int.mul_assoc]]
theorem tops_len (n : Nat) (rows : Kvs) : (tops n rows).length = n := by
  unfold tops
  rw [List.length_map, List.length_range]
theorem tops_at {n : Nat} {rows : Kvs} {j : Nat} (h : j < n) : (tops n rows)[j]? = some ((rows.map fun t => t.1.getD j 0).foldl max 0) := by
  unfold tops
  rw [List.getElem?_map, List.getElem?_range h]
  rfl
theorem tops_ge {n : Nat} {rows : Kvs} {j : Nat} {m : Int} (h : (tops n rows)[j]? = some m) {t : List Int × Int} (ht : t ∈ rows) : t.1.getD j 0 ≤ m := by
  have hj : j < n := by
    have := (List.getElem?_eq_some_iff.mp h).1
    rwa [tops_len] at this
  rw [tops_at hj] at h
  cases h
  exact (foldl_max_ge _ 0).2.1 _ (List.mem_map.mpr ⟨t, ht, rfl⟩)
theorem tops_bd {n : Nat} {rows : Kvs} (po : PairsOk n rows) {m : Int} (h : m ∈ tops n rows) : 0 ≤ m ∧ m ≤ 12 := by
  obtain ⟨j, hj, e⟩ := List.mem_map.mp h
  have f := foldl_max_ge (rows.map fun t => t.1.getD j 0) 0
  rw [← e]
  refine ⟨f.1, ?_⟩
  rcases f.2.2 with z | z
  · show List.foldl max 0 _ ≤ 12
    rw [z]; decide
  · obtain ⟨t, ht, e2⟩ := List.mem_map.mp z
    show List.foldl max 0 _ ≤ 12
    rw [← e2]
    exact (bd_le (po.bd t ht) j).2
theorem rco_zero {p : Int} {n : Nat} {rows : Kvs} (po : PairsOk n rows) {xs : List Int} (h : xs.length < n) {m : Int} (hm : (tops n rows)[xs.length]? = some m) {d : Nat} (hd1 : m < (d : Int)) : rco p rows xs d = 0 := by
  unfold rco
  rw [wsum_congr (g := fun _ => 0) fun t ht => by
    have hl : xs.length < t.1.length := by rw [po.len t ht]; exact h
    have hg := tops_ge hm ht
    rw [List.getD_eq_getElem?_getD, List.getElem?_eq_getElem hl, Option.getD_some] at hg
    show wp xs t.1 * hd d (t.1.drop xs.length) = 0
    unfold hd
    rw [drop_split hl, if_neg (by show ¬ t.1[xs.length] = (d : Int); omega), Int.mul_zero], wsum_zero, Int.zero_emod]
theorem rpoly_len {p : Int} {n : Nat} {rows : Kvs} (po : PairsOk n rows) {xs : List Int} (h : xs.length < n) {m : Int} (hm : (tops n rows)[xs.length]? = some m) : ((rpoly p rows xs).length : Int) ≤ m + 1 := by
  have hb := tops_bd po (List.mem_of_getElem? hm)
  obtain ⟨k, rfl⟩ : ∃ k : Nat, m = (k : Int) := ⟨m.toNat, by omega⟩
  have e : 13 = (k + 1) + (12 - k) := by omega
  have e2 : rpoly p rows xs = trimI ((List.range (k + 1)).map (rco p rows xs)) := by
    unfold rpoly
    rw [e, trimI_ext fun d hd => rco_zero po h hm (by omega)]
  have := trimI_len ((List.range (k + 1)).map (rco p rows xs))
  rw [List.length_map, List.length_range, ← e2] at this
  omega
theorem rpoly_mem {p : Int} (hp : 0 < p) {rows : Kvs} {xs : List Int} {c : Int} (h : c ∈ rpoly p rows xs) : 0 ≤ c ∧ c < p := by
  obtain ⟨d, _, e⟩ := List.mem_map.mp (trimI_mem h)
  rw [← e]
  exact ⟨Int.emod_nonneg _ (by omega), Int.emod_lt_of_pos _ hp⟩
theorem fix_ok {p : Int} (hp : 0 < p) {n : Nat} {rows : Kvs} (po : PairsOk n rows) (xs : List Int) : RowsOk p (n - xs.length) (fixR p rows xs) := by
  refine canon_ok hp ⟨fun t ht => ?_, fun t ht => ?_⟩
  · obtain ⟨q, hq, e⟩ := List.mem_map.mp ht
    rw [← e]
    show (q.1.drop xs.length).length = _
    rw [List.length_drop, po.len q hq]
  · obtain ⟨q, hq, e⟩ := List.mem_map.mp ht
    rw [← e]
    exact fun a ha => po.bd q hq a (List.mem_of_mem_drop ha)
end SK

set_option Elab.async false
set_option linter.all false
set_option maxRecDepth 100000
set_option maxHeartbeats 4000000
namespace SK
open PySem PySem.Spec PyProof.Rows L2
section
variable {P : Program} {w : World} {K : PySem.W.Frag} {mg : Str → Option Value} {base : Heap}

theorem ei_zipE {α β : Type} {ρ : Env} {ta tb : TE} {x y : D} {as : List α} {bs : List β} (f : α → D) (g : β → D) (hx : EvV ta ρ x) (hy : EvV tb ρ y) (kx : seqOf x = some (as.map f)) (ky : seqOf y = some (bs.map g)) :
    EvIV (iZipS K (tCons ta (tCons tb tNil))) ρ ((as.zip bs).map fun q => D.tup [f q.1, g q.2]) := by
  have h := ei_zip (K := K) hx hy kx ky
  rw [List.zip_map, List.map_map] at h
  exact h
abbrev tabD (p : Int) (q : Int × Int) : D := .lst (intsD (powR p q.1 (q.2.toNat + 1)))
abbrev stepF (p : Int) (v : Int) (r : (Int × Int) × Int) : Int := v * (r.1.1 ^ r.2.toNat % p)
theorem zip3 (p : Int) : ∀ (xs ts es : List Int) (c : Int), xs.length ≤ ts.length → ((xs.zip ts).zip es).foldl (stepF p) c = vfold p c (xs.zip es)
  | [], _, _, _, _ => rfl
  | x :: xs, [], _, _, h => by cases h
  | x :: xs, t :: ts, [], c, h => rfl
  | x :: xs, t :: ts, e :: es, c, h => zip3 p xs ts es _ (Nat.le_of_succ_le_succ h)
theorem pow_get {p x : Int} {m j : Nat} (h : j < m) : (intsD (powR p x m))[j]? = some (.int (x ^ j % p)) := by
  rw [List.getElem?_map]
  unfold powR
  rw [List.getElem?_map, List.getElem?_range h]
  rfl
theorem tab_get {p : Int} {n : Nat} {rows : Kvs} (po : PairsOk n rows) {xs : List Int} {t : List Int × Int} (ht : t ∈ rows) {j : Nat} {r : (Int × Int) × Int} (h : ((xs.zip (tops n rows)).zip t.1)[j]? = some r) :
    0 ≤ r.2 ∧ (intsD (powR p r.1.1 (r.1.2.toNat + 1)))[r.2.toNat]? = some (.int (r.1.1 ^ r.2.toNat % p)) := by
  obtain ⟨h1, h2⟩ := List.getElem?_zip_eq_some.mp h
  obtain ⟨h3, h4⟩ := List.getElem?_zip_eq_some.mp h1
  have hb := po.bd t ht _ (List.mem_of_getElem? h2)
  have hg := tops_ge h4 ht
  rw [List.getD_eq_getElem?_getD, h2, Option.getD_some] at hg
  exact ⟨hb.1, pow_get (by omega)⟩
theorem fval_of (p : Int) (rows : Kvs) (xs : List Int) : (rows.map fun t => vfold p t.2 (xs.zip t.1)).sum % p = fval p rows xs := by
  unfold fval wsum
  exact sum_mod _ (fun t : List Int × Int => t.2 * wp xs t.1) fun t _ => vfold_mod p xs t.1 t.2
theorem zip_bd {p : Int} {n : Nat} {rows : Kvs} (po : PairsOk n rows) {xs : List Int} (hb : ∀ x ∈ xs, 0 ≤ x ∧ x < p) {q : Int × Int} (h : q ∈ xs.zip (tops n rows)) : (0 ≤ q.1 ∧ q.1 < p) ∧ 0 ≤ q.2 ∧ q.2 ≤ 12 := by
  obtain ⟨h1, h2⟩ := List.of_mem_zip (a := q.1) (b := q.2) h
  exact ⟨hb _ h1, tops_bd po h2⟩
theorem pow_bd (p x : Int) (k : Nat) (h : 0 < p) : 0 ≤ x ^ k % p ∧ x ^ k % p < p := ⟨Int.emod_nonneg _ (by omega), Int.emod_lt_of_pos _ h⟩

abbrev S_Form_at (T : Txt K mg) : DSp := det fun ds d => ∃ (p : Int) (n : Nat) (rows : Kvs) (xs : List Int) (x : D), seqOf x = some (intsD xs) ∧ 2 ≤ p ∧ p ≤ 101 ∧ PairsOk n rows ∧ n ≤ 5 ∧ rows.length < 64 ∧ xs.length = n ∧ (∀ a ∈ xs, 0 ≤ a ∧ a < p) ∧ ds = [T.form p n rows, x] ∧ d = .int (fval p rows xs)
theorem ok_Form_at (T : Txt K mg) : FnP P w K mg base 3 (T.a 6006) ["self", "point"] (pureSp (S_Form_at T)) := by
  refine fn_pure T.f_Form_at sc_Form_at (fun ds Φ h => ?_) (fun cdv A outer s H E hr ds Φ h => ⟨_, (pss_cons (ps_if (pt_cmpR op_ne (pe_callB call_len_seq (by rfl) T.n_len (by decide +kernel) (pa_cons (pv 1) pa_nil)) (pe_fld (pv 0) rfl) (nomark _))
      pss_never
      pss_nil)
    (pss_cons (ps_set (i := 2) sc_Form_at.nd rfl (Or.inl rfl) (pe_cl (ok_check_numbers_forms T) hr T.g_check_numbers_forms (pa_cons (pe_fld (pv 0) rfl) (pa_cons (pv 1) pa_nil))))
    (pss_cons (ps_setLc (i := 3) (own := [("number", 10), ("most", 11)]) (g := (gTup K 2 (gCons (gName 10) (gCons (gName 11) gNil)))) (by rfl) sc_Form_at.nd rfl rfl (sw_true rfl rfl rfl (by decide +kernel)) (pi_zipS (by rfl) T.n_zip (pa_cons (pv 2) (pa_cons (pe_fld (pv 0) rfl) pa_nil))) (blkOk_by (N := ["self", "point", "numbers", "tables", "total", "exponents", "coefficient", "value", "table", "exponent", "number", "most"]) (sc := defScope (inClass (top 50) 6)) (by decide +kernel)) (fun _ _ _ _ _ => (pg_tup rfl (pgs_cons (pg_name (i := 10) sc_Form_at.nd rfl (Or.inl rfl)) (pgs_cons (pg_name (i := 11) sc_Form_at.nd rfl (Or.inl rfl)) pgs_nil)))) (fun _ _ _ _ _ => pts_nil) (fun _ _ _ _ _ => (pe_cl (ok_power_row T) (hr.mono (by decide)) T.g_power_row (pa_cons (pe_fldK K rfl (pv 0) rfl) (pa_cons (pv 10) (pa_cons (pv 11) pa_nil))))))
    (pss_cons (ps_set (i := 4) sc_Form_at.nd rfl (Or.inl rfl) pe_int)
    (pss_cons (ps_for PassesOwn.never rfl (pi_seq (pe_fld (pv 0) rfl)) (pg_tup rfl (pgs_cons (pg_name (i := 5) sc_Form_at.nd rfl (Or.inl rfl)) (pgs_cons (pg_name (i := 6) sc_Form_at.nd rfl (Or.inl rfl)) pgs_nil)))
      (pss_cons (ps_set (i := 7) sc_Form_at.nd rfl (Or.inl rfl) (pv 6))
      (pss_cons (ps_for PassesOwn.never rfl (pi_zipS (by rfl) T.n_zip (pa_cons (pv 3) (pa_cons (pv 5) pa_nil))) (pg_tup rfl (pgs_cons (pg_name (i := 8) sc_Form_at.nd rfl (Or.inl rfl)) (pgs_cons (pg_name (i := 9) sc_Form_at.nd rfl (Or.inl rfl)) pgs_nil)))
        (pss_cons (ps_set (i := 7) sc_Form_at.nd rfl (Or.inl rfl) (pe_op op_mul (pv 7) (pe_ix ix_seq (pv 8) (pv 9) (fun _ _ => rfl))))
        pss_nil))
      (pss_cons (ps_set (i := 4) sc_Form_at.nd rfl (Or.inl rfl) (pe_op op_add (pv 4) (pv 7)))
      pss_nil))))
    (pss_cons (ps_ret (pe_op op_mod (pv 4) (pe_fld (pv 0) rfl)))
    pss_nil)))))), ?_⟩)
  · obtain ⟨d, ⟨p, n, rows, xs, x, hx, hp1, hp2, po, hn, hr, hl, hb, rfl, rfl⟩, k⟩ := h
    rfl
  obtain ⟨d, ⟨p, n, rows, xs, x, hx, hp1, hp2, po, hn, hr, hl, hb, rfl, rfl⟩, k⟩ := h
  refine sq_no (eb_test (ev_neI (ev_len (ev_var rfl) hx) (ev_fld 1 T.cl_Form (ev_var rfl) rfl rfl))) (by rw [len_ints, hl]; simp) ?_
  refine sq_asg (ev_call (ea_cons (ev_fld 0 T.cl_Form (ev_var rfl) rfl rfl) (ea_cons (ev_var rfl) ea_nil)) ⟨_, ⟨p, xs, x, hx, hb, by omega, rfl, rfl⟩, rfl⟩) (show 2 < 12 by decide) ?_
  have lz : (xs.zip (tops n rows)).length ≤ 100 := by rw [List.length_zip]; omega
  refine sq_asg (EvFV.v (ef_mapE (js := [10, 11]) (ys := xs.zip (tops n rows)) (emb := fun q => D.tup [.int q.1, .int q.2]) (fun q => [.int q.1, .int q.2]) (tabD p) (ei_zipE D.int D.int (ev_var rfl) (ev_fld 3 T.cl_Form (ev_var rfl) rfl rfl) rfl rfl) (jv2 (by decide) (by decide) (show 10 < 12 by decide) (show 11 < 12 by decide)) (by omega) (fun q hq => ⟨gw_two, ev_call (ea_cons (ev_fld 0 T.cl_Form (ev_var rfl) rfl rfl) (ea_cons (ev_var rfl) (ea_cons (ev_var rfl) ea_nil))) ⟨_, ⟨p, q.1, q.2.toNat, hp1, hp2, (zip_bd po hb hq).1.1, (zip_bd po hb hq).1.2, by have := (zip_bd po hb hq).2; omega, by rw [Int.toNat_of_nonneg (zip_bd po hb hq).2.1], rfl⟩, rfl⟩⟩))) (show 3 < 12 by decide) ?_
  refine sq_asg ev_int (show 4 < 12 by decide) ?_
  refine sq_forE (js := [5, 6]) (ys := rows) (emb := termD) (fun t => [.ktp (intsD t.1), .int t.2]) (fun i ρ => ∃ a b c d e, ρ = [some (.imm (T.form p n rows)), some (.imm x), some (.imm (.ktp (intsD xs))), some (.imm (.lst ((xs.zip (tops n rows)).map (tabD p)))), some (.imm (.int ((rows.take i).map fun t => vfold p t.2 (xs.zip t.1)).sum)), a, b, c, d, e, none, none]) (ei_seq (ev_fld 2 T.cl_Form (ev_var rfl) rfl rfl) rfl) ⟨_, _, _, _, _, rfl⟩ (fun i ρ ⟨a, b, c, d, e, q⟩ => by subst q; exact jl2 (show 5 < 12 by decide) (show 6 < 12 by decide)) (fun i t ρ ht ⟨a, b, c, d, e, q⟩ => ?_) (fun ρ ⟨a, b, c, d, e, q⟩ => ?_)
  · subst q
    refine ⟨gw_two, ?_⟩
    have tm := List.mem_of_getElem? ht
    refine sq_asg (ev_var rfl) (show 7 < 12 by decide) ?_
    refine sq_forE (js := [8, 9]) (ys := (xs.zip (tops n rows)).zip t.1) (emb := fun r => D.tup [tabD p r.1, .int r.2]) (fun r => [tabD p r.1, .int r.2]) (fun j ρ => ∃ d e, ρ = [some (.imm (T.form p n rows)), some (.imm x), some (.imm (.ktp (intsD xs))), some (.imm (.lst ((xs.zip (tops n rows)).map (tabD p)))), some (.imm (.int ((rows.take i).map fun t => vfold p t.2 (xs.zip t.1)).sum)), some (.imm (.ktp (intsD t.1))), some (.imm (.int t.2)), some (.imm (.int ((((xs.zip (tops n rows)).zip t.1).take j).foldl (stepF p) t.2))), d, e, none, none]) (ei_zipE (tabD p) D.int (ev_var rfl) (ev_var rfl) rfl rfl) ⟨_, _, rfl⟩ (fun i ρ ⟨d, e, q⟩ => by subst q; exact jl2 (show 8 < 12 by decide) (show 9 < 12 by decide)) (fun j r ρ hr ⟨d, e, q⟩ => ?_) (fun ρ ⟨d, e, q⟩ => ?_)
    · subst q
      refine ⟨gw_two, ?_⟩
      have tg := tab_get (p := p) po tm hr
      have pb := pow_bd p r.1.1 r.2.toNat (by omega)
      refine sq_asg (ev_mul (ev_var rfl) (ev_ix (ev_var rfl) (ev_var rfl) rfl (at_nat (j := r.2.toNat) (by omega) tg.2)) (Or.inr ⟨by omega, by omega⟩)) (show 7 < 12 by decide) ?_
      refine sw_next ⟨some (.imm (tabD p r.1)), some (.imm (.int r.2)), ?_⟩
      rw [take_snoc hr, foldl_snoc]
      rfl
    · subst q
      rw [List.take_length, zip3 p xs (tops n rows) t.1 t.2 (by rw [tops_len]; omega)]
      refine sq_asg (ev_add (ev_var rfl) (ev_var rfl)) (show 4 < 12 by decide) ?_
      have es : ((rows.take i).map fun t => vfold p t.2 (xs.zip t.1)).sum + vfold p t.2 (xs.zip t.1) = ((rows.take (i + 1)).map fun t => vfold p t.2 (xs.zip t.1)).sum := by
        rw [take_snoc ht, List.map_append, List.sum_append]
        show _ = _ + (vfold p t.2 (xs.zip t.1) + 0)
        rw [Int.add_zero]
      rw [es]
      exact sw_next ⟨_, _, _, d, e, rfl⟩
  · subst q
    rw [List.take_length]
    refine sq_retV (ev_mod (ev_var rfl) (ev_fld 0 T.cl_Form (ev_var rfl) rfl rfl) (by omega)) ?_
    rw [fval_of]
    exact k

abbrev S_Form_fix (T : Txt K mg) : DSp := det fun ds d => ∃ (p : Int) (n : Nat) (rows : Kvs) (xs : List Int) (x : D), seqOf x = some (intsD xs) ∧ PrimeOk p ∧ RowsOk p n rows ∧ n ≤ 5 ∧ rows.length < 64 ∧ xs.length ≤ n ∧ (∀ a ∈ xs, 0 ≤ a ∧ a < p) ∧ ds = [T.form p n rows, x] ∧ d = T.form p (n - xs.length) (fixR p rows xs)
theorem ok_Form_fix (T : Txt K mg) : FnP P w K mg base 5 (T.a 6007) ["self", "numbers"] (pureSp (S_Form_fix T)) := by
  refine fn_pure T.f_Form_fix sc_Form_fix (fun ds Φ h => ?_) (fun cdv A outer s H E hr ds Φ h => ⟨_, (pss_cons (ps_if (pt_cmpR op_gt (pe_callB call_len_seq (by rfl) T.n_len (by decide +kernel) (pa_cons (pv 1) pa_nil)) (pe_fld (pv 0) rfl) (nomark _))
      pss_never
      pss_nil)
    (pss_cons (ps_set (i := 2) sc_Form_fix.nd rfl (Or.inl rfl) (pe_cl (ok_check_numbers_forms T) (hr.mono (by decide)) T.g_check_numbers_forms (pa_cons (pe_fld (pv 0) rfl) (pa_cons (pv 1) pa_nil))))
    (pss_cons (ps_set (i := 3) sc_Form_fix.nd rfl (Or.inl rfl) (pe_callB call_len_seq (by rfl) T.n_len (by decide +kernel) (pa_cons (pv 2) pa_nil)))
    (pss_cons (ps_setLc (i := 4) (own := [("number", 11), ("most", 12)]) (g := (gTup K 2 (gCons (gName 11) (gCons (gName 12) gNil)))) (by rfl) sc_Form_fix.nd rfl rfl (sw_true rfl rfl rfl (by decide +kernel)) (pi_zipS (by rfl) T.n_zip (pa_cons (pv 2) (pa_cons (pe_fld (pv 0) rfl) pa_nil))) (blkOk_by (N := ["self", "numbers", "own_numbers", "many", "tables", "pairs", "exponents", "coefficient", "value", "table", "exponent", "number", "most"]) (sc := defScope (inClass (top 50) 7)) (by decide +kernel)) (fun _ _ _ _ _ => (pg_tup rfl (pgs_cons (pg_name (i := 11) sc_Form_fix.nd rfl (Or.inl rfl)) (pgs_cons (pg_name (i := 12) sc_Form_fix.nd rfl (Or.inl rfl)) pgs_nil)))) (fun _ _ _ _ _ => pts_nil) (fun _ _ _ _ _ => (pe_cl (ok_power_row T) (hr.mono (by decide)) T.g_power_row (pa_cons (pe_fldK K rfl (pv 0) rfl) (pa_cons (pv 11) (pa_cons (pv 12) pa_nil))))))
    (pss_cons (ps_set (i := 5) sc_Form_fix.nd rfl (Or.inl rfl) (pe_lst pa_nil))
    (pss_cons (ps_for PassesOwn.never rfl (pi_seq (pe_fld (pv 0) rfl)) (pg_tup rfl (pgs_cons (pg_name (i := 6) sc_Form_fix.nd rfl (Or.inl rfl)) (pgs_cons (pg_name (i := 7) sc_Form_fix.nd rfl (Or.inl rfl)) pgs_nil)))
      (pss_cons (ps_set (i := 8) sc_Form_fix.nd rfl (Or.inl rfl) (pv 7))
      (pss_cons (ps_for PassesOwn.never rfl (pi_zipS (by rfl) T.n_zip (pa_cons (pv 4) (pa_cons (pv 6) pa_nil))) (pg_tup rfl (pgs_cons (pg_name (i := 9) sc_Form_fix.nd rfl (Or.inl rfl)) (pgs_cons (pg_name (i := 10) sc_Form_fix.nd rfl (Or.inl rfl)) pgs_nil)))
        (pss_cons (ps_set (i := 8) sc_Form_fix.nd rfl (Or.inl rfl) (pe_op op_mul (pv 8) (pe_ix ix_seq (pv 9) (pv 10) (fun _ _ => rfl))))
        pss_nil))
      (pss_cons (ps_expr (pe_bm PySem.F.plainAttrs_list PySem.F.slot_list_append PySem.F.type_list_append mt_append (pv 5) (pa_cons (pe_tup (pa_cons (pe_slice sl_seq (pv 6) (po_some (pv 3)) po_none) (pa_cons (pe_op op_mod (pv 8) (pe_fld (pv 0) rfl)) pa_nil))) pa_nil)))
      pss_nil))))
    (pss_cons (ps_ret (pe_mk T.mk_Form (ok_Form_init T) hr T.g_Form (pa_cons (pe_fld (pv 0) rfl) (pa_cons (pe_op op_sub (pe_fld (pv 0) rfl) (pv 3)) (pa_cons (pv 5) pa_nil)))))
    pss_nil))))))), ?_⟩)
  · obtain ⟨d, ⟨p, n, rows, xs, x, hx, hp, ro, hn, hr, hl, hb, rfl, rfl⟩, k⟩ := h
    rfl
  obtain ⟨d, ⟨p, n, rows, xs, x, hx, hp, ro, hn, hr, hl, hb, rfl, rfl⟩, k⟩ := h
  have po := ro.pairs
  have hp1 := hp.1
  have hp2 := hp.2.1
  refine sq_no (eb_test (ev_gt (ev_len (ev_var rfl) hx) (ev_fld 1 T.cl_Form (ev_var rfl) rfl rfl))) (by rw [len_ints]; simp; omega) ?_
  refine sq_asg (ev_call (ea_cons (ev_fld 0 T.cl_Form (ev_var rfl) rfl rfl) (ea_cons (ev_var rfl) ea_nil)) ⟨_, ⟨p, xs, x, hx, hb, by omega, rfl, rfl⟩, rfl⟩) (show 2 < 13 by decide) ?_
  refine sq_asg (EvV.is (ev_len (ev_var rfl) rfl) (by rw [len_ints])) (show 3 < 13 by decide) ?_
  have lz : (xs.zip (tops n rows)).length ≤ 100 := by rw [List.length_zip]; omega
  refine sq_asg (EvFV.v (ef_mapE (js := [11, 12]) (ys := xs.zip (tops n rows)) (emb := fun q => D.tup [.int q.1, .int q.2]) (fun q => [.int q.1, .int q.2]) (tabD p) (ei_zipE D.int D.int (ev_var rfl) (ev_fld 3 T.cl_Form (ev_var rfl) rfl rfl) rfl rfl) (jv2 (by decide) (by decide) (show 11 < 13 by decide) (show 12 < 13 by decide)) (by omega) (fun q hq => ⟨gw_two, ev_call (ea_cons (ev_fld 0 T.cl_Form (ev_var rfl) rfl rfl) (ea_cons (ev_var rfl) (ea_cons (ev_var rfl) ea_nil))) ⟨_, ⟨p, q.1, q.2.toNat, hp1, hp2, (zip_bd po hb hq).1.1, (zip_bd po hb hq).1.2, by have := (zip_bd po hb hq).2; omega, by rw [Int.toNat_of_nonneg (zip_bd po hb hq).2.1], rfl⟩, rfl⟩⟩))) (show 4 < 13 by decide) ?_
  refine sq_asgFV (ef_lstV ea_nil) (show 5 < 13 by decide) ?_
  refine sq_forE (js := [6, 7]) (ys := rows) (emb := termD) (fun t => [.ktp (intsD t.1), .int t.2]) (fun i ρ => ∃ a b c d e, ρ = [some (.imm (T.form p n rows)), some (.imm x), some (.imm (.ktp (intsD xs))), some (.imm (.int (xs.length : Int))), some (.imm (.lst ((xs.zip (tops n rows)).map (tabD p)))), some (.own ((rows.take i).map fun t => termD (t.1.drop xs.length, t.2 * wp xs t.1 % p))), a, b, c, d, e, none, none]) (ei_seq (ev_fld 2 T.cl_Form (ev_var rfl) rfl rfl) rfl) ⟨_, _, _, _, _, rfl⟩ (fun i ρ ⟨a, b, c, d, e, q⟩ => by subst q; exact jl2 (show 6 < 13 by decide) (show 7 < 13 by decide)) (fun i t ρ ht ⟨a, b, c, d, e, q⟩ => ?_) (fun ρ ⟨a, b, c, d, e, q⟩ => ?_)
  · subst q
    refine ⟨gw_two, ?_⟩
    have tm := List.mem_of_getElem? ht
    refine sq_asg (ev_var rfl) (show 8 < 13 by decide) ?_
    refine sq_forE (js := [9, 10]) (ys := (xs.zip (tops n rows)).zip t.1) (emb := fun r => D.tup [tabD p r.1, .int r.2]) (fun r => [tabD p r.1, .int r.2]) (fun j ρ => ∃ d e, ρ = [some (.imm (T.form p n rows)), some (.imm x), some (.imm (.ktp (intsD xs))), some (.imm (.int (xs.length : Int))), some (.imm (.lst ((xs.zip (tops n rows)).map (tabD p)))), some (.own ((rows.take i).map fun t => termD (t.1.drop xs.length, t.2 * wp xs t.1 % p))), some (.imm (.ktp (intsD t.1))), some (.imm (.int t.2)), some (.imm (.int ((((xs.zip (tops n rows)).zip t.1).take j).foldl (stepF p) t.2))), d, e, none, none]) (ei_zipE (tabD p) D.int (ev_var rfl) (ev_var rfl) rfl rfl) ⟨_, _, rfl⟩ (fun i ρ ⟨d, e, q⟩ => by subst q; exact jl2 (show 9 < 13 by decide) (show 10 < 13 by decide)) (fun j r ρ hr ⟨d, e, q⟩ => ?_) (fun ρ ⟨d, e, q⟩ => ?_)
    · subst q
      refine ⟨gw_two, ?_⟩
      have tg := tab_get (p := p) po tm hr
      have pb := pow_bd p r.1.1 r.2.toNat (by omega)
      refine sq_asg (ev_mul (ev_var rfl) (ev_ix (ev_var rfl) (ev_var rfl) rfl (at_nat (j := r.2.toNat) (by omega) tg.2)) (Or.inr ⟨by omega, by omega⟩)) (show 8 < 13 by decide) ?_
      refine sw_next ⟨some (.imm (tabD p r.1)), some (.imm (.int r.2)), ?_⟩
      rw [take_snoc hr, foldl_snoc]
      rfl
    · subst q
      rw [List.take_length, zip3 p xs (tops n rows) t.1 t.2 (by rw [tops_len]; omega)]
      refine sq_app rfl (d := termD (t.1.drop xs.length, t.2 * wp xs t.1 % p)) (EvV.is (ev_tup (ea_cons (ev_slT (ev_var rfl) (eo_some (ev_var rfl)) eo_none) (ea_cons (ev_mod (ev_var rfl) (ev_fld 0 T.cl_Form (ev_var rfl) rfl rfl) (by omega)) ea_nil))) ?_) (by rw [List.length_map, List.length_take]; omega) ?_
      · rw [cut_drop, vfold_mod]
        show D.tup [.ktp ((intsD t.1).drop xs.length), _] = D.tup [.ktp (intsD (t.1.drop xs.length)), _]
        rw [intsD, intsD, List.map_drop]
      · have es : ((rows.take i).map fun t => termD (t.1.drop xs.length, t.2 * wp xs t.1 % p)) ++ [termD (t.1.drop xs.length, t.2 * wp xs t.1 % p)] = (rows.take (i + 1)).map fun t => termD (t.1.drop xs.length, t.2 * wp xs t.1 % p) := by
          rw [take_snoc ht, List.map_append]
          rfl
        rw [es]
        exact sw_next ⟨_, _, _, d, e, rfl⟩
  · subst q
    rw [List.take_length]
    have e1 : (n : Int) - (xs.length : Int) = ((n - xs.length : Nat) : Int) := by omega
    have e2 : (rows.map fun t => termD (t.1.drop xs.length, t.2 * wp xs t.1 % p)) = (rows.map fun t => (t.1.drop xs.length, t.2 * wp xs t.1 % p)).map termD := by rw [List.map_map]; rfl
    refine sw_freeze 5 rfl ?_
    refine sq_ret (ew_make (ea_cons (ev_fld 0 T.cl_Form (ev_var rfl) rfl rfl) (ea_cons (ev_sub (ev_fld 1 T.cl_Form (ev_var rfl) rfl rfl) (ev_var rfl)) (ea_cons (ev_var rfl) ea_nil))) ⟨_, ⟨p, n - xs.length, rows.map fun t => (t.1.drop xs.length, t.2 * wp xs t.1 % p), .lst (rows.map fun t => termD (t.1.drop xs.length, t.2 * wp xs t.1 % p)), by rw [e2]; rfl, hp, by omega, ⟨fun t ht => ?_, fun t ht => ?_⟩, fun t ht => ?_, by rw [List.length_map]; exact hr, by rw [e1], rfl⟩, k⟩)
    · obtain ⟨q, hq, e⟩ := List.mem_map.mp ht
      rw [← e]
      show (q.1.drop xs.length).length = _
      rw [List.length_drop, po.len q hq]
    · obtain ⟨q, hq, e⟩ := List.mem_map.mp ht
      rw [← e]
      exact fun a ha => po.bd q hq a (List.mem_of_mem_drop ha)
    · obtain ⟨q, hq, e⟩ := List.mem_map.mp ht
      rw [← e]
      exact ⟨Int.emod_nonneg _ (by omega), Int.emod_lt_of_pos _ (by omega)⟩

end
end SK

set_option Elab.async false
set_option linter.all false
set_option maxRecDepth 100000
set_option maxHeartbeats 4000000
namespace SK
open PySem PySem.Spec PyProof.Rows L2
section
variable {P : Program} {w : World} {K : PySem.W.Frag} {mg : Str → Option Value} {base : Heap}

structure COk (p : Int) (n : Nat) (rows : Kvs) (told : List Int) (total : Int) : Prop where
  pr : PrimeOk p
  ro : RowsOk p n rows
  hn : n ≤ 5
  hr : rows.length < 64
  tl : told.length = n
  tb : ∀ c ∈ told, 0 ≤ c ∧ c ≤ 12
  tt : ∀ (j : Nat) (a b : Int), (tops n rows)[j]? = some a → told[j]? = some b → a ≤ b
  t0 : 0 ≤ total
  t1 : total < p
abbrev rowD (F : Kvs) : List D := (List.range 13).map fun d => D.int (wsum (hd d) F)
theorem rowD_get {F : Kvs} {j : Nat} (h : j < 13) : (rowD F)[j]? = some (.int (wsum (hd j) F)) := by
  rw [List.getElem?_map, List.getElem?_range h]
  rfl
theorem range_set (f : Nat → D) (v : D) (m j : Nat) : ((List.range m).map f).set j v = (List.range m).map fun d => if d = j then v else f d := by
  apply List.ext_getElem?
  intro i
  rw [List.getElem?_set]
  by_cases h : i < m
  · rw [List.getElem?_map, List.getElem?_map, List.getElem?_range h]
    by_cases q : j = i
    · subst q
      simp [h]
    · rw [if_neg q]
      simp [Ne.symm q]
  · have e : ∀ g : Nat → D, ((List.range m).map g)[i]? = none := fun g => List.getElem?_eq_none_iff.mpr (by rw [List.length_map, List.length_range]; omega)
    rw [e, e]
    by_cases q : j = i
    · rw [if_pos q, List.length_map, List.length_range, if_neg (by omega)]
    · rw [if_neg q]
theorem rowD_step {F : Kvs} {a : Int} {r : List Int} {c : Int} (h0 : 0 ≤ a) : (rowD F).set a.toNat (.int (wsum (hd a.toNat) F + c * (1 * 2 ^ (((r.count 0 : Nat) : Int)).toNat))) = rowD (F ++ [(a :: r, c)]) := by
  unfold rowD
  rw [range_set]
  refine List.map_congr_left fun d _ => ?_
  rw [wsum_append, wsum_cons, wsum_nil, Int.add_zero, Int.toNat_natCast, Int.one_mul]
  unfold hd
  show _ = D.int (_ + c * (if a = (d : Int) then zw r else 0))
  by_cases q : d = a.toNat
  · subst q
    rw [if_pos rfl, if_pos (by omega)]
    rfl
  · rw [if_neg q, if_neg (by omega), Int.mul_zero, Int.add_zero]

abbrev S_round_poly (T : Txt K mg) : DSp := det fun ds d => ∃ (p : Int) (n : Nat) (rows : Kvs) (xs : List Int) (x : D), seqOf x = some (intsD xs) ∧ PrimeOk p ∧ RowsOk p n rows ∧ n ≤ 5 ∧ rows.length < 64 ∧ xs.length < n ∧ (∀ a ∈ xs, 0 ≤ a ∧ a < p) ∧ ds = [T.form p n rows, x] ∧ d = T.poly p (rpoly p rows xs)
theorem ok_round_poly (T : Txt K mg) : FnP P w K mg base 6 (T.a 53) ["form", "coins"] (pureSp (S_round_poly T)) := by
  refine fn_pure T.f_round_poly sc_round_poly (fun ds Φ h => ?_) (fun cdv A outer s H E hr ds Φ h => ⟨_, (pss_cons (ps_if (pt_cmpR op_ge (pe_callB call_len_seq (by rfl) T.n_len (by decide +kernel) (pa_cons (pv 1) pa_nil)) (pe_fld (pv 0) rfl) (nomark _))
      pss_never
      pss_nil)
    (pss_cons (ps_set (i := 2) sc_round_poly.nd rfl (Or.inl rfl) (pe_me (pv 0) T.cl_Form.c T.me_Form_fix (ok_Form_fix T) hr (pa_cons (pv 1) pa_nil)))
    (pss_cons (ps_set (i := 3) sc_round_poly.nd rfl (Or.inl rfl) (pe_op op_rep (pe_lst (pa_cons pe_int pa_nil)) (pe_op op_add (pe_gint T.m_MAX_DEGREE (by rfl)) pe_int)))
    (pss_cons (ps_for PassesOwn.never rfl (pi_seq (pe_fld (pv 2) rfl)) (pg_tup rfl (pgs_cons (pg_name (i := 4) sc_round_poly.nd rfl (Or.inl rfl)) (pgs_cons (pg_name (i := 5) sc_round_poly.nd rfl (Or.inl rfl)) pgs_nil)))
      (pss_cons (ps_set (i := 6) sc_round_poly.nd rfl (Or.inl rfl) (pe_slice sl_seq (pv 4) (po_some pe_int) po_none))
      (pss_cons (ps_set (i := 7) sc_round_poly.nd rfl (Or.inl rfl) (pe_ix ix_seq (pv 4) pe_int (fun _ _ => rfl)))
      (pss_cons (ps_asg (pe_op op_add (pe_ix ix_seq (pv 3) (pv 7) (fun _ _ => rfl)) (pe_op op_mul (pv 5) (pe_op op_shl pe_int (pe_countT (pv 6) pe_int)))) (pg_sub (pv 3) (pv 7) set_list))
      pss_nil))))
    (pss_cons (ps_ret (pe_mk T.mk_Poly (ok_Poly_init T) (hr.mono (by decide)) T.g_Poly (pa_cons (pe_fld (pv 0) rfl) (pa_cons (pe_lc (own := [("value", 8)]) (g := (gName 8)) (by rfl) sc_round_poly.nd (pi_seq (pv 3)) (blkOk_by (N := ["form", "coins", "rest", "row", "exponents", "coefficient", "later", "power", "value"]) (sc := defScope (top 53)) (by decide +kernel)) (fun _ _ _ _ _ => (pg_name (i := 8) sc_round_poly.nd rfl (Or.inl rfl))) (fun _ _ _ _ _ => pts_nil) (fun _ _ _ _ _ => (pe_op op_mod (pv 8) (pe_fldK K rfl (pv 0) rfl)))) pa_nil))))
    pss_nil))))), ?_⟩)
  · obtain ⟨d, ⟨p, n, rows, xs, x, hx, hp, ro, hn, hr, hl, hb, rfl, rfl⟩, k⟩ := h
    rfl
  obtain ⟨d, ⟨p, n, rows, xs, x, hx, hp, ro, hn, hr, hl, hb, rfl, rfl⟩, k⟩ := h
  have p0 : 0 < p := by have := hp.1; omega
  have hp2 := hp.2.1
  have fo := fix_ok p0 ro.pairs xs
  refine sq_no (eb_test (ev_ge (ev_len (ev_var rfl) hx) (ev_fld 1 T.cl_Form (ev_var rfl) rfl rfl))) (by rw [len_ints]; simp; omega) ?_
  refine sq_asg (ev_meth (ev_var rfl) (by decide) (ea_cons (ev_var rfl) ea_nil) ⟨_, ⟨p, n, rows, xs, x, hx, hp, ro, hn, hr, by omega, hb, rfl, rfl⟩, rfl⟩) (show 2 < 9 by decide) ?_
  refine sq_asgFV (ef_rep1 (n := 13) (ev_lst (ea_cons ev_int ea_nil)) (EvV.is (ev_add ev_int ev_int) rfl) (by decide)) (show 3 < 9 by decide) ?_
  refine sq_forE (js := [4, 5]) (ys := fixR p rows xs) (emb := termD) (fun t => [.ktp (intsD t.1), .int t.2]) (fun i ρ => ∃ a b c d, ρ = [some (.imm (T.form p n rows)), some (.imm x), some (.imm (T.form p (n - xs.length) (fixR p rows xs))), some (.own (rowD ((fixR p rows xs).take i))), a, b, c, d, none]) (ei_seq (ev_fld 2 T.cl_Form (ev_var rfl) rfl rfl) rfl) ⟨_, _, _, _, rfl⟩ (fun i ρ ⟨a, b, c, d, q⟩ => by subst q; exact jl2 (show 4 < 9 by decide) (show 5 < 9 by decide)) (fun i t ρ ht ⟨a', b, c', d, q⟩ => ?_) (fun ρ ⟨a, b, c, d, q⟩ => ?_)
  · subst q
    refine ⟨gw_two, ?_⟩
    have tm := List.mem_of_getElem? ht
    have c1 := fo.lo t tm
    have c2 := fo.hi t tm
    have tl := fo.len t tm
    have tb := fo.bd t tm
    obtain ⟨e, c⟩ := t
    cases e with
    | nil => exact absurd tl (by show ¬ (0 : Nat) = _; omega)
    | cons a r =>
      have ab := tb a (List.mem_cons_self ..)
      have hc : r.count 0 ≤ 5 := Nat.le_trans (List.count_le_length ..) (by have : r.length + 1 = n - xs.length := tl; omega)
      refine sq_asg (EvV.is (ev_slT (ev_var rfl) (eo_some ev_int) eo_none) (show D.ktp (cutD (intsD (a :: r)) (some ((1 : Nat) : Int)) none) = D.ktp (intsD r) by rw [cut_drop]; rfl)) (show 6 < 9 by decide) ?_
      refine sq_asg (ev_ix (d := .int a) (ev_var rfl) ev_int rfl (at_nat (j := 0) rfl rfl)) (show 7 < 9 by decide) ?_
      refine sq_setI (i := a.toNat) rfl (ev_add (ev_ixO rfl (ev_var rfl) (at_nat (j := a.toNat) (by omega) (rowD_get (by omega)))) (ev_mul (ev_var rfl) (ev_shl ev_int (ev_countT (ev_var rfl) ev_int) ⟨by omega, by omega, by decide⟩) (Or.inl ⟨by show -(2 ^ 64) < c; have : 1 ≤ c := c1; omega, by show c < 2 ^ 64; have : c < p := c2; omega⟩))) (EvV.is (ev_var rfl) (by rw [Int.toNat_of_nonneg ab.1])) (by rw [List.length_map, List.length_range]; omega) ?_
      rw [rowD_step ab.1, ← take_snoc ht]
      exact sw_next ⟨_, _, _, _, rfl⟩
  · subst q
    rw [List.take_length]
    refine sw_freeze 3 rfl ?_
    have e1 : ((List.range 13).map fun d => D.int (wsum (hd d) (fixR p rows xs) % p)) = intsD ((List.range 13).map (rco p rows xs)) := by
      rw [intsD, List.map_map]
      refine List.map_congr_left fun d _ => ?_
      show D.int _ = D.int _
      rw [fix_rco]
    refine sq_ret (ew_make (ea_cons (ev_fld 0 T.cl_Form (ev_var rfl) rfl rfl) (ea_cons (EvFV.v (ef_mapE (js := [8]) (ys := List.range 13) (emb := fun d => D.int (wsum (hd d) (fixR p rows xs))) (fun d => [D.int (wsum (hd d) (fixR p rows xs))]) (fun d => D.int (wsum (hd d) (fixR p rows xs) % p)) (ei_seq (ev_var rfl) rfl) (jv1 (by decide) (show 8 < 9 by decide)) (by decide) (fun d _ => ⟨gw_name, ev_mod (ev_var rfl) (ev_fld 0 T.cl_Form (ev_var rfl) rfl rfl) p0⟩))) ea_nil)) ⟨_, ⟨p, (List.range 13).map (rco p rows xs), hp, by rw [List.length_map, List.length_range]; decide, ?_, by rw [e1], rfl⟩, k⟩)
    intro v hv
    obtain ⟨d, _, e⟩ := List.mem_map.mp hv
    rw [← e]
    exact ⟨Int.emod_nonneg _ (by omega), Int.emod_lt_of_pos _ p0⟩

abbrev S_Claim_init (T : Txt K mg) : DSp := det fun ds d => ∃ (p : Int) (n : Nat) (rows : Kvs) (told : List Int) (total : Int) (x y : D), (x = .lst (intsD told) ∨ x = .ktp (intsD told)) ∧ (y = .int total ∨ (y = .non ∧ total = csum p rows)) ∧ COk p n rows told total ∧ ds = [T.form p n rows, x, y] ∧ d = T.claim p n rows told total
theorem ok_Claim_init (T : Txt K mg) : ∃ fd, FnOk P w K mg base CX0 3 (T.a 6800) fd ["self", "form", "degrees", "total"] (initSp (T.a 58) [] (S_Claim_init T)) ∧ ∃ g : List Value → List Value → List Value, KBn K fd ["self", "form", "degrees", "total"] (1 + 1) ["degrees", "total"] g (fun vs zs => vs ++ zs) := by
  have c := T.cl_Claim
  obtain ⟨fd, F, hK⟩ := T.f_Claim_init
  refine ⟨fd, ?_, hK⟩
  refine fn_init0 F sc_Claim_init (fun es ds Φ l h => ?_) (fun cdv A outer s H E hr es ds Φ l h => ⟨_, (pss_cons (ps_set (i := 4) sc_Claim_init.nd rfl (Or.inl rfl) (pe_cl (ok_own_degrees T) hr T.g_own_degrees (pa_cons (pv 1) (pa_cons (pv 2) pa_nil))))
    (pss_cons (ps_if (pt_cmpR op_notN (pv 3) pe_non (nomark _))
      (pss_cons (ps_expr (pe_cl (ok_own_number T) (hr.mono (by decide)) T.g_own_number (pa_cons (pe_fld (pv 1) rfl) (pa_cons (pv 3) pa_nil))))
      pss_nil)
      pss_nil)
    (pss_cons (ps_for PassesOwn.never rfl (pi_zipS (by rfl) T.n_zip (pa_cons (pe_fld (pv 1) rfl) (pa_cons (pv 4) pa_nil))) (pg_tup rfl (pgs_cons (pg_name (i := 5) sc_Claim_init.nd rfl (Or.inl rfl)) (pgs_cons (pg_name (i := 6) sc_Claim_init.nd rfl (Or.inl rfl)) pgs_nil)))
      (pss_cons (ps_if (pt_cmpR op_gt (pv 5) (pv 6) (nomark _))
        pss_never
        pss_nil)
      pss_nil))
    (pss_cons (ps_fld (pv 0) (pv 1) rfl)
    (pss_cons (ps_fld (pv 0) (pv 4) rfl)
    (pss_cons (ps_fld (pv 0) (pe_ifExp (pt_cmpR op_isN (pv 3) pe_non (nomark _)) (pe_cl (ok_corner_sum T) (hr.mono (by decide)) T.g_corner_sum (pa_cons (pv 1) pa_nil)) (pv 3)) rfl)
    (pss_cons (ps_fld (pv 0) (pe_fld (pv 1) rfl) rfl)
    (pss_cons (ps_fld (pv 0) (pe_fld (pv 1) rfl) rfl)
    pss_nil)))))))), ?_⟩)
  · obtain rfl := List.eq_nil_of_length_eq_zero l.symm
    obtain ⟨d, ⟨p, n, rows, told, total, x, y, hx, hy, co, rfl, rfl⟩, k⟩ := h
    rfl
  obtain rfl := List.eq_nil_of_length_eq_zero l.symm
  obtain ⟨d, ⟨p, n, rows, told, total, x, y, hx, hy, co, rfl, rfl⟩, k⟩ := h
  have p0 : 0 < p := by have := co.pr.1; omega
  have hn := co.hn
  refine sq_asg (ev_call (ea_cons (ev_var rfl) (ea_cons (ev_var rfl) ea_nil)) ⟨_, ⟨p, n, rows, told, x, hx, co.tl, co.tb, by omega, rfl, rfl⟩, rfl⟩) (show 4 < 7 by decide) ?_
  have rest : ∀ y : D, (y = .int total ∨ (y = .non ∧ total = csum p rows)) → SW (tSeq (tFor (iZipS K (tCons (tFld K (tVar 1) "degrees") (tCons (tVar 4) tNil))) (gTup K 2 (gCons (gName 5) (gCons (gName 6) gNil))) (tSeq (tIfS (tTest (tOp (rI0 fun i j => .bl (decide (j < i))) (tVar 5) (tVar 6))) (fun _ _ _ => False) tNext) tNext)) (tSeq (sFld K (tVar 0) (tVar 1) "form") (tSeq (sFld K (tVar 0) (tVar 4) "degrees") (tSeq (sFld K (tVar 0) (tIf (tTest (tOp (fun x y H Q => y = .non ∧ Q (.bl (decide (x = .non))) H) (tVar 3) (tC .non))) (tCall (pureSp (S_corner_sum T)) [] E0 (tCons (tVar 1) tNil)) (tVar 3)) "total") (tSeq (sFld K (tVar 0) (tFld K (tVar 1) "prime") "prime") (tSeq (sFld K (tVar 0) (tFld K (tVar 1) "places") "places") tNext))))))
      [some (.slf (T.a 58) [] []), some (.imm (T.form p n rows)), some (.imm x), some (.imm y), some (.imm (.ktp (intsD told))), none, none] ⟨fun ρ => ∃ ks fs, ρ[0]? = some (some (.slf (T.a 58) ks fs)) ∧ Φ (.obj (T.a 58) ks fs), fun _ => False, fun _ => False, fun _ => False, fun _ _ => True, fun _ => False⟩ := by
    intro y hy
    refine sq_forE (js := [5, 6]) (ys := (tops n rows).zip told) (emb := fun q => D.tup [.int q.1, .int q.2]) (fun q => [.int q.1, .int q.2]) (fun i ρ => ∃ a b, ρ = [some (.slf (T.a 58) [] []), some (.imm (T.form p n rows)), some (.imm x), some (.imm y), some (.imm (.ktp (intsD told))), a, b]) (ei_zipE D.int D.int (ev_fld 3 T.cl_Form (ev_var rfl) rfl rfl) (ev_var rfl) rfl rfl) ⟨_, _, rfl⟩ (fun i ρ ⟨a, b, q⟩ => by subst q; exact jl2 (show 5 < 7 by decide) (show 6 < 7 by decide)) (fun i t ρ ht ⟨a, b, q⟩ => ?_) (fun ρ ⟨a, b, q⟩ => ?_)
    · subst q
      obtain ⟨h1, h2⟩ := List.getElem?_zip_eq_some.mp ht
      have := co.tt i t.1 t.2 h1 h2
      refine ⟨gw_two, ?_⟩
      refine sq_no (eb_test (ev_gt (ev_var rfl) (ev_var rfl))) (by simp; omega) ?_
      exact sw_next ⟨_, _, rfl⟩
    · subst q
      refine sq_fld c (by decide) (by decide) (by decide) (ev_var rfl) rfl ?_
      refine sq_fld c (by decide) (by decide) (by decide) (ev_var rfl) rfl ?_
      refine sq_fld (d := .int total) c (by decide) (by decide) (by decide) ?_ rfl ?_
      · rcases hy with h | ⟨h, e⟩
        · subst h
          exact ew_if (eb_test (ev_isN (ev_var rfl))) (fun z => by cases z) (fun _ => (ev_var rfl))
        · subst h
          exact ew_if (eb_test (ev_isN (ev_var rfl))) (fun _ => (ev_call (ea_cons (ev_var rfl) ea_nil) ⟨_, ⟨p, n, rows, co.pr.1, co.pr.2.1, co.ro, by omega, rfl, rfl⟩, by rw [e]⟩)) (fun z => by cases z)
      refine sq_fld c (by decide) (by decide) (by decide) (ev_fld 0 T.cl_Form (ev_var rfl) rfl rfl) rfl ?_
      refine sq_fld c (by decide) (by decide) (by decide) (ev_fld 1 T.cl_Form (ev_var rfl) rfl rfl) rfl ?_
      exact sw_next ⟨_, _, rfl, k⟩
  rcases hy with h | ⟨h, e⟩
  · subst h
    refine sq_when (eb_test (ev_notN (ev_var rfl))) (fun hb => ?_) (fun hb => by cases hb)
    refine sq_dropV (ev_call (ea_cons (ev_fld 0 T.cl_Form (ev_var rfl) rfl rfl) (ea_cons (ev_var rfl) ea_nil)) ⟨_, ⟨p, total, co.t0, co.t1, rfl, rfl⟩, rfl⟩) ?_
    exact sw_next (rest _ (Or.inl rfl))
  · subst h
    refine sq_when (eb_test (ev_notN (ev_var rfl))) (fun hb => by cases hb) (fun hb => ?_)
    exact rest _ (Or.inr ⟨rfl, e⟩)

end
end SK

set_option Elab.async false
set_option linter.all false
set_option maxRecDepth 100000
set_option maxHeartbeats 4000000
namespace SK
open PySem PySem.Spec PyProof.Rows L2
section
variable {P : Program} {w : World} {K : PySem.W.Frag} {mg : Str → Option Value} {base : Heap}

/-- the honest rounds, the first m -/
def hrounds (p : Int) (rows : Kvs) (xs : List Int) (m : Nat) : List (List Int × Int) := (List.range m).map fun i => (rpoly p rows (xs.take i), xs.getD i 0)
theorem hrounds_snoc (p : Int) (rows : Kvs) (xs : List Int) (m : Nat) : hrounds p rows xs (m + 1) = hrounds p rows xs m ++ [(rpoly p rows (xs.take m), xs.getD m 0)] := range_snoc _ _
theorem hrounds_len (p : Int) (rows : Kvs) (xs : List Int) (m : Nat) : (hrounds p rows xs m).length = m := by
  unfold hrounds
  rw [List.length_map, List.length_range]
theorem hrounds_at {p : Int} {rows : Kvs} {xs : List Int} {m i : Nat} (h : i < m) : (hrounds p rows xs m)[i]? = some (rpoly p rows (xs.take i), xs.getD i 0) := by
  unfold hrounds
  rw [List.getElem?_map, List.getElem?_range h]
  rfl
theorem hrounds_coins (p : Int) (rows : Kvs) (xs : List Int) : ((hrounds p rows xs xs.length).map fun r => D.int r.2) = intsD xs := by
  unfold hrounds intsD
  rw [List.map_map]
  apply List.ext_getElem?
  intro i
  rw [List.getElem?_map, List.getElem?_map]
  by_cases h : i < xs.length
  · rw [List.getElem?_range h, List.getElem?_eq_getElem h]
    show some (D.int (xs.getD i 0)) = some (D.int xs[i])
    rw [List.getD_eq_getElem?_getD, List.getElem?_eq_getElem h, Option.getD_some]
  · rw [List.getElem?_eq_none_iff.mpr (by rw [List.length_range]; omega), List.getElem?_eq_none_iff.mpr (by omega)]
    rfl
/-- how many rounds a talk has -/
def nRounds (p : Int) (n : Nat) (rows : Kvs) (total : Int) : Nat := if total = csum p rows then n else min 1 n
def verdD (p : Int) (n : Nat) (rows : Kvs) (total : Int) : D := if total = csum p rows then .tup [.non, .str "let by"] else .tup [.int 1, .str (if n = 0 then "look" else "sum")]
theorem psum_take {p : Int} {n : Nat} {rows : Kvs} (po : PairsOk n rows) {xs : List Int} {i : Nat} (hi : i < xs.length) (hl : xs.length ≤ n) : pval p (rpoly p rows (xs.take i)) (xs.getD i 0) = psum p rows (xs.take (i + 1)) := by
  rw [rpoly_val po (by rw [List.length_take]; omega), take_snoc (List.getElem?_eq_getElem hi), List.getD_eq_getElem?_getD, List.getElem?_eq_getElem hi, Option.getD_some]
theorem ends_take {p : Int} {n : Nat} {rows : Kvs} (po : PairsOk n rows) {xs : List Int} {i : Nat} (hi : i < xs.length) (hl : xs.length ≤ n) : pends p (rpoly p rows (xs.take i)) = psum p rows (xs.take i) := rpoly_ends po (by rw [List.length_take]; omega)
theorem deg_take {p : Int} {n : Nat} {rows : Kvs} {told : List Int} {total : Int} (co : COk p n rows told total) {xs : List Int} {i : Nat} (hi : i < xs.length) (hl : xs.length = n) : ∃ m, told[i]? = some m ∧ max (((rpoly p rows (xs.take i)).length : Int) - 1) 0 ≤ m := by
  have hin : i < n := by omega
  have hin2 : i < told.length := by rw [co.tl]; exact hin
  have ht : told[i]? = some told[i] := List.getElem?_eq_getElem hin2
  have hl2 : (xs.take i).length = i := by rw [List.length_take]; omega
  have h1 := rpoly_len (p := p) co.ro.pairs (xs := xs.take i) (by rw [hl2]; exact hin) (by rw [hl2]; exact tops_at hin)
  have h2 := co.tt i _ _ (tops_at hin) ht
  have h3 := co.tb _ (List.mem_of_getElem? ht)
  exact ⟨_, ht, by omega⟩
theorem bd_getD {p : Int} {xs : List Int} (hb : ∀ a ∈ xs, 0 ≤ a ∧ a < p) {i : Nat} (hi : i < xs.length) : 0 ≤ xs.getD i 0 ∧ xs.getD i 0 < p := by
  rw [List.getD_eq_getElem?_getD, List.getElem?_eq_getElem hi, Option.getD_some]
  exact hb _ (List.getElem_mem hi)
theorem bd_take {p : Int} {xs : List Int} (hb : ∀ a ∈ xs, 0 ≤ a ∧ a < p) (i : Nat) : ∀ a ∈ xs.take i, 0 ≤ a ∧ a < p := fun a ha => hb a (List.mem_of_mem_take ha)

abbrev S_Claim_with_total (T : Txt K mg) : DSp := det fun ds d => ∃ (p : Int) (n : Nat) (rows : Kvs) (told : List Int) (total total' : Int), COk p n rows told total ∧ COk p n rows told total' ∧ ds = [T.claim p n rows told total, .int total'] ∧ d = T.claim p n rows told total'
theorem ok_Claim_with_total (T : Txt K mg) : FnP P w K mg base 5 (T.a 6804) ["self", "total"] (pureSp (S_Claim_with_total T)) := by
  refine fn_pure T.f_Claim_with_total sc_Claim_with_total (fun ds Φ h => ?_) (fun cdv A outer s H E hr ds Φ h => ⟨_, (pss_cons (ps_expr (pe_cl (ok_own_number T) (hr.mono (by decide)) T.g_own_number (pa_cons (pe_fld (pv 0) rfl) (pa_cons (pv 1) pa_nil))))
    (pss_cons (ps_ret (pe_mkK T.mk_Claim (ok_Claim_init T) hr T.g_Claim (pa_cons (pe_fld (pv 0) rfl) pa_nil) (pk_cons (pe_fld (pv 0) rfl) (pk_cons (pv 1) pk_nil))))
    pss_nil)), ?_⟩)
  · obtain ⟨d, ⟨p, n, rows, told, total, total', co, co', rfl, rfl⟩, k⟩ := h
    rfl
  obtain ⟨d, ⟨p, n, rows, told, total, total', co, co', rfl, rfl⟩, k⟩ := h
  refine sq_dropV (ev_call (ea_cons (ev_fld 3 T.cl_Claim (ev_var rfl) rfl rfl) (ea_cons (ev_var rfl) ea_nil)) ⟨_, ⟨p, total', co'.t0, co'.t1, rfl, rfl⟩, rfl⟩) ?_
  exact sq_ret (ew_makeK (fun _ _ => rfl) (ea_cons (ev_fld 0 T.cl_Claim (ev_var rfl) rfl rfl) ea_nil) (ea_cons (ev_fld 1 T.cl_Claim (ev_var rfl) rfl rfl) (ea_cons (ev_var rfl) ea_nil)) rfl rfl ⟨_, ⟨p, n, rows, told, total', .ktp (intsD told), .int total', Or.inr rfl, Or.inl rfl, co', rfl, rfl⟩, k⟩)

abbrev S_Journal_init (T : Txt K mg) : DSp := det fun ds d => ∃ (p total : Int) (rs : List (List Int × Int)), PrimeOk p ∧ 0 ≤ total ∧ total < p ∧ rs.length ≤ 32 ∧ (∀ r ∈ rs, 0 ≤ r.2 ∧ r.2 < p) ∧ ds = [.int p, .int total, .lst (rs.map (T.pairD p))] ∧ d = T.journal p total rs
theorem ok_Journal_init (T : Txt K mg) : FnP P w K mg base 3 (T.a 7300) ["self", "prime", "total", "rounds"] (initSp (T.a 63) [] (S_Journal_init T)) := by
  have c := T.cl_Journal
  refine fn_init T.f_Journal_init sc_Journal_init (fun es ds Φ l h => ?_) (fun cdv A outer s H E hr es ds Φ l h => ⟨_, (pss_cons (ps_fld (pv 0) (pe_cl (ok_check_prime T) hr T.g_check_prime (pa_cons (pv 1) pa_nil)) rfl)
    (pss_cons (ps_fld (pv 0) (pe_cl (ok_own_number T) (hr.mono (by decide)) T.g_own_number (pa_cons (pv 1) (pa_cons (pv 2) pa_nil))) rfl)
    (pss_cons (ps_fld (pv 0) (pe_cl (ok_own_rounds T) hr T.g_own_rounds (pa_cons (pv 1) (pa_cons (pv 3) pa_nil))) rfl)
    (pss_cons (ps_fld (pv 0) (pe_callTy call_tupK (by rfl) T.n_tuple (by decide +kernel) (pa_cons (pe_lc (own := [("pair", 4)]) (g := (gName 4)) (by rfl) sc_Journal_init.nd (pi_seq (pe_fld (pv 0) rfl)) (blkOk_by (N := ["self", "prime", "total", "rounds", "pair"]) (sc := defScope (inClass (top 63) 0)) (by decide +kernel)) (fun _ _ _ _ _ => (pg_name (i := 4) sc_Journal_init.nd rfl (Or.inl rfl))) (fun _ _ _ _ _ => pts_nil) (fun _ _ _ _ _ => (pe_ix (ix_seqK K rfl) (pv 4) pe_int (fun _ _ => rfl)))) pa_nil)) rfl)
    (pss_cons (ps_fld (pv 0) (pe_callTy call_tupK (by rfl) T.n_tuple (by decide +kernel) (pa_cons (pe_lc (own := [("pair", 4)]) (g := (gName 4)) (by rfl) sc_Journal_init.nd (pi_seq (pe_fld (pv 0) rfl)) (blkOk_by (N := ["self", "prime", "total", "rounds", "pair"]) (sc := defScope (inClass (top 63) 0)) (by decide +kernel)) (fun _ _ _ _ _ => (pg_name (i := 4) sc_Journal_init.nd rfl (Or.inl rfl))) (fun _ _ _ _ _ => pts_nil) (fun _ _ _ _ _ => (pe_ix (ix_seqK K rfl) (pv 4) pe_int (fun _ _ => rfl)))) pa_nil)) rfl)
    pss_nil))))), ?_⟩)
  · obtain rfl := List.eq_nil_of_length_eq_zero l.symm
    obtain ⟨d, ⟨p, total, rs, hp, h0, h1, hl, hb, rfl, rfl⟩, k⟩ := h
    rfl
  obtain rfl := List.eq_nil_of_length_eq_zero l.symm
  obtain ⟨d, ⟨p, total, rs, hp, h0, h1, hl, hb, rfl, rfl⟩, k⟩ := h
  refine sq_fld c (by decide) (by decide) (by decide) (ev_call (ea_cons (ev_var rfl) ea_nil) ⟨_, ⟨p, hp, rfl, rfl⟩, rfl⟩) rfl ?_
  refine sq_fld c (by decide) (by decide) (by decide) (ev_call (ea_cons (ev_var rfl) (ea_cons (ev_var rfl) ea_nil)) ⟨_, ⟨p, total, h0, h1, rfl, rfl⟩, rfl⟩) rfl ?_
  refine sq_fld c (by decide) (by decide) (by decide) (ev_call (ea_cons (ev_var rfl) (ea_cons (ev_var rfl) ea_nil)) ⟨_, ⟨p, rs, hl, hb, rfl, rfl⟩, rfl⟩) rfl ?_
  refine sq_fld c (by decide) (by decide) (by decide) (ev_tupleF (ef_mapE (js := [4]) (ys := rs) (emb := T.pairD p) (fun r => [T.pairD p r]) (fun r => T.poly p r.1) (ei_seq (ev_fldS 2 c (by decide) rfl rfl (by decide) rfl) rfl) (jv1 (by decide) (show 4 < 5 by decide)) (by omega) (fun r _ => ⟨gw_name, ev_ix (ev_var rfl) ev_int rfl (at_nat (j := 0) rfl rfl)⟩))) rfl ?_
  refine sq_fld c (by decide) (by decide) (by decide) (ev_tupleF (ef_mapE (js := [4]) (ys := rs) (emb := T.pairD p) (fun r => [T.pairD p r]) (fun r => D.int r.2) (ei_seq (ev_fldS 2 c (by decide) rfl rfl (by decide) rfl) rfl) (jv1 (by decide) (show 4 < 5 by decide)) (by omega) (fun r _ => ⟨gw_name, ev_ix (ev_var rfl) ev_int rfl (at_nat (j := 1) rfl rfl)⟩))) rfl ?_
  exact sw_next ⟨_, _, rfl, k⟩

abbrev S_Honest_init (T : Txt K mg) : DSp := det fun ds d => ∃ (p : Int) (n : Nat) (rows : Kvs) (told : List Int) (total : Int), COk p n rows told total ∧ ds = [T.claim p n rows told total] ∧ d = T.honest p (T.claim p n rows told total)
theorem ok_Honest_init (T : Txt K mg) : FnP P w K mg base 4 (T.a 8100) ["self", "claim"] (initSp (T.a 71) [] (S_Honest_init T)) := by
  have c := T.cl_Honest
  refine fn_init T.f_Honest_init sc_Honest_init (fun es ds Φ l h => ?_) (fun cdv A outer s H E hr es ds Φ l h => ⟨_, (pss_cons (ps_expr (pe_clsF T.cf_Teller (ok_Teller_init T T.cl_Honest (by decide)) hr T.g_Teller (pa_cons (pv 0) (pa_cons (pe_fld (pv 1) rfl) pa_nil))))
    (pss_cons (ps_fld (pv 0) (pv 1) rfl)
    pss_nil)), ?_⟩)
  · obtain rfl := List.eq_nil_of_length_eq_zero l.symm
    obtain ⟨d, ⟨p, n, rows, told, total, co, rfl, rfl⟩, k⟩ := h
    rfl
  obtain rfl := List.eq_nil_of_length_eq_zero l.symm
  obtain ⟨d, ⟨p, n, rows, told, total, co, rfl, rfl⟩, k⟩ := h
  refine sq_super (Φ := fun d => d = .obj (T.a 71) ["prime"] [.int p]) rfl (ea_cons (ev_fld 3 T.cl_Claim (ev_var rfl) rfl rfl) ea_nil) ⟨p, co.pr, rfl, rfl⟩ (fun ks fs e => ?_)
  cases e
  refine sq_fld c (by decide) (by decide) (by decide) (ev_var rfl) rfl ?_
  exact sw_next ⟨_, _, rfl, k⟩

abbrev S_is_fitting (T : Txt K mg) : DSp := det fun ds d => ∃ (p : Int) (cs : List Int) (g o : Int), 2 ≤ p ∧ p ≤ 101 ∧ ds = [T.poly p cs, .int g, .int o] ∧ d = .bl (decide (max ((cs.length : Int) - 1) 0 ≤ g) && decide (pends p cs = o))
theorem ok_is_fitting (T : Txt K mg) : FnP P w K mg base 4 (T.a 69) ["poly", "degree", "owed"] (pureSp (S_is_fitting T)) := by
  refine fn_pure T.f_is_fitting sc_is_fitting (fun ds Φ h => ?_) (fun cdv A outer s H E hr ds Φ h => ⟨_, (pss_cons (ps_ret (pe_and (pe_me (pv 0) T.cl_Poly.c T.me_Poly_fits (ok_Poly_fits T) hr (pa_cons (pv 1) pa_nil)) (pe_one (pe_cmpR op_eq (pe_me0 (pv 0) T.cl_Poly.c T.me_Poly_ends (ok_Poly_ends T) hr) (pv 2) (nomark _)))))
    pss_nil), ?_⟩)
  · obtain ⟨d, ⟨p, cs, g, o, h0, h1, rfl, rfl⟩, k⟩ := h
    rfl
  obtain ⟨d, ⟨p, cs, g, o, h0, h1, rfl, rfl⟩, k⟩ := h
  refine sq_retV (ev_and (ev_meth (ev_var rfl) (by decide) (ea_cons (ev_var rfl) ea_nil) ⟨_, ⟨p, cs, g, rfl, rfl⟩, rfl⟩) fun _ => (ev_eqI (ev_meth (ev_var rfl) (by decide) ea_nil ⟨_, ⟨p, cs, h0, h1, rfl, rfl⟩, rfl⟩) (ev_var rfl))) ?_
  rw [ends_pends]
  exact k

abbrev S_check_numbers_tellers : DSp := det fun ds d => ∃ (p : Int) (xs : List Int) (x : D), seqOf x = some (intsD xs) ∧ PrimeOk p ∧ (∀ a ∈ xs, 0 ≤ a ∧ a < p) ∧ xs.length ≤ 1000 ∧ ds = [.int p, x] ∧ d = tupD x
theorem ok_check_numbers_tellers (T : Txt K mg) : FnP P w K mg base 5 (T.a 65) ["prime", "numbers"] (pureSp S_check_numbers_tellers) := by
  refine fn_pure T.f_check_numbers_tellers sc_check_numbers_tellers (fun ds Φ h => ?_) (fun cdv A outer s H E hr ds Φ h => ⟨_, (pss_cons (ps_set (i := 2) sc_check_numbers_tellers.nd rfl (Or.inl rfl) (pe_mk T.mk_Field (ok_Field_init T) hr T.g_Field (pa_cons (pv 0) pa_nil)))
    (pss_cons (ps_for PassesOwn.never rfl (pi_seq (pv 1)) (pg_name (i := 3) sc_check_numbers_tellers.nd rfl (Or.inl rfl))
      (pss_cons (ps_if (pt_cmpR (op_notInO T.co_Field (ok_Field_contains T) (hr.mono (by decide))) (pv 3) (pv 2) rfl)
        pss_never
        pss_nil)
      pss_nil))
    (pss_cons (ps_ret (pe_callTy call_tupK (by rfl) T.n_tuple (by decide +kernel) (pa_cons (pv 1) pa_nil)))
    pss_nil))), ?_⟩)
  · obtain ⟨d, ⟨p, xs, x, hx, hp, hb, hl, rfl, rfl⟩, k⟩ := h
    rfl
  obtain ⟨d, ⟨p, xs, x, hx, hp, hb, hl, rfl, rfl⟩, k⟩ := h
  refine sq_asgW (ew_make (ea_cons (ev_var rfl) ea_nil) ⟨_, ⟨p, hp, rfl, rfl⟩, rfl⟩) (show 2 < 4 by decide) ?_
  rintro f rfl
  refine sq_forE (js := [3]) (ys := xs) (emb := D.int) (fun a => [D.int a]) (fun i ρ => ∃ o, ρ = [some (.imm (.int p)), some (.imm x), some (.imm (T.fieldD p)), o]) (ei_seq (ev_var rfl) hx) ⟨_, rfl⟩ (fun i ρ ⟨o, q⟩ => by subst q; exact jl1 (show 3 < 4 by decide)) (fun i a ρ ha ⟨o, q⟩ => ?_) (fun ρ ⟨o, q⟩ => ?_)
  · subst q
    have hv := hb a (List.mem_of_getElem? ha)
    refine ⟨gw_name, ?_⟩
    refine sq_no (eb_notInO (ev_var rfl) (ev_var rfl) ⟨_, ⟨p, a, hv.1, hv.2, rfl, rfl⟩, rfl⟩) rfl ?_
    exact sw_next ⟨_, rfl⟩
  · subst q
    exact sq_retV (ev_tuple (ev_var rfl) hx) k

end
end SK

set_option Elab.async false
set_option linter.all false
set_option maxRecDepth 100000
set_option maxHeartbeats 4000000
namespace SK
open PySem PySem.Spec PyProof.Rows L2
section
variable {P : Program} {w : World} {K : PySem.W.Frag} {mg : Str → Option Value} {base : Heap}

theorem fval_ps {p : Int} {n : Nat} {rows : Kvs} (po : PairsOk n rows) {xs : List Int} (h : xs.length = n) : fval p rows xs = psum p rows (xs.take n) := by
  rw [fval_psum po h, ← h, List.take_length]
theorem nRounds_le (p : Int) (n : Nat) (rows : Kvs) (total : Int) : nRounds p n rows total ≤ n := by
  unfold nRounds
  split <;> omega
theorem hrounds_bd {p : Int} {rows : Kvs} {xs : List Int} (hb : ∀ a ∈ xs, 0 ≤ a ∧ a < p) {m : Nat} (hm : m ≤ xs.length) : ∀ r ∈ hrounds p rows xs m, 0 ≤ r.2 ∧ r.2 < p := fun r hr => by
  obtain ⟨i, hi, e⟩ := List.mem_map.mp hr
  rw [← e]
  exact bd_getD hb (by have := List.mem_range.mp hi; omega)

abbrev S_round_verdict (T : Txt K mg) : DSp := det fun ds d => ∃ (p : Int) (n : Nat) (rows : Kvs) (told : List Int) (total : Int) (i : Nat) (o : Int) (cs : List Int) (m : Int), COk p n rows told total ∧ i < n ∧ told[i]? = some m ∧ max ((cs.length : Int) - 1) 0 ≤ m ∧ ds = [T.claim p n rows told total, .int ((i : Int) + 1), .int o, T.poly p cs] ∧ d = if pends p cs = o then .non else .tup [.int ((i : Int) + 1), .str "sum"]
theorem ok_round_verdict (T : Txt K mg) : FnP P w K mg base 4 (T.a 74) ["claim", "at", "owed", "poly"] (pureSp (S_round_verdict T)) := by
  refine fn_pure T.f_round_verdict sc_round_verdict (fun ds Φ h => ?_) (fun cdv A outer s H E hr ds Φ h => ⟨_, (pss_cons (ps_if (pt_cmpR op_gt (pv 1) (pe_fld (pv 0) rfl) (nomark _))
      (pss_cons (ps_ret (pe_tup (pa_cons (pe_op op_add (pe_fld (pv 0) rfl) pe_int) (pa_cons pe_str pa_nil))))
      pss_nil)
      pss_nil)
    (pss_cons (ps_if (pt_cmpR op_gt (pe_pr (pv 3) T.cl_Poly.c T.pr_Poly_degree.choose_spec (ok_Poly_degree T) (hr.mono (by decide))) (pe_ix ix_seq (pe_fld (pv 0) rfl) (pe_op op_sub (pv 1) pe_int) (fun _ _ => rfl)) (nomark _))
      (pss_cons (ps_ret (pe_tup (pa_cons (pv 1) (pa_cons pe_str pa_nil))))
      pss_nil)
      pss_nil)
    (pss_cons (ps_if (pt_cmpR op_ne (pe_me0 (pv 3) T.cl_Poly.c T.me_Poly_ends (ok_Poly_ends T) hr) (pv 2) (nomark _))
      (pss_cons (ps_ret (pe_tup (pa_cons (pv 1) (pa_cons pe_str pa_nil))))
      pss_nil)
      pss_nil)
    (pss_cons (ps_ret pe_non)
    pss_nil)))), ?_⟩)
  · obtain ⟨d, ⟨p, n, rows, told, total, i, o, cs, m, co, hi, hm, hg, rfl, rfl⟩, k⟩ := h
    rfl
  obtain ⟨d, ⟨p, n, rows, told, total, i, o, cs, m, co, hi, hm, hg, rfl, rfl⟩, k⟩ := h
  refine sq_no (eb_test (ev_gt (ev_var rfl) (ev_fld 4 T.cl_Claim (ev_var rfl) rfl rfl))) (by simp; omega) ?_
  refine sq_no (eb_test (ev_gt (ev_prop (ev_var rfl) ⟨_, ⟨p, cs, rfl, rfl⟩, rfl⟩) (ev_ix (ev_fld 1 T.cl_Claim (ev_var rfl) rfl rfl) (ev_sub (ev_var rfl) ev_int) rfl (at_nat (j := i) (d := .int m) (by omega) (by rw [intsD, List.getElem?_map, hm]; rfl))))) (by simp; omega) ?_
  refine sq_when (eb_test (ev_neI (ev_meth (ev_var rfl) (by decide) ea_nil ⟨_, ⟨p, cs, co.pr.1, co.pr.2.1, rfl, rfl⟩, rfl⟩) (ev_var rfl))) (fun hb => ?_) (fun hb => ?_)
  · rw [ends_pends] at hb
    rw [if_neg (by simpa using hb)] at k
    exact sq_retV (ev_tup (ea_cons (ev_var rfl) (ea_cons ev_str ea_nil))) k
  · rw [ends_pends] at hb
    rw [if_pos (by simpa using hb)] at k
    exact sq_retV ev_non k

abbrev S_end_verdict (T : Txt K mg) : DSp := det fun ds d => ∃ (p : Int) (n : Nat) (rows : Kvs) (told : List Int) (total : Int) (xs : List Int) (o : Int), COk p n rows told total ∧ xs.length = n ∧ (∀ a ∈ xs, 0 ≤ a ∧ a < p) ∧ ds = [T.claim p n rows told total, .ktp (intsD xs), .int o] ∧ d = if fval p rows xs = o then .tup [.non, .str "let by"] else .tup [.int ((n : Int) + 1), .str "look"]
theorem ok_end_verdict (T : Txt K mg) : FnP P w K mg base 4 (T.a 75) ["claim", "coins", "owed"] (pureSp (S_end_verdict T)) := by
  refine fn_pure T.f_end_verdict sc_end_verdict (fun ds Φ h => ?_) (fun cdv A outer s H E hr ds Φ h => ⟨_, (pss_cons (ps_if (pt_cmpR op_lt (pe_callB call_len_seq (by rfl) T.n_len (by decide +kernel) (pa_cons (pv 1) pa_nil)) (pe_fld (pv 0) rfl) (nomark _))
      (pss_cons (ps_ret (pe_tup (pa_cons (pe_op op_add (pe_callB call_len_seq (by rfl) T.n_len (by decide +kernel) (pa_cons (pv 1) pa_nil)) pe_int) (pa_cons pe_str pa_nil))))
      pss_nil)
      pss_nil)
    (pss_cons (ps_if (pt_cmpR op_ne (pe_me (pe_fld (pv 0) rfl) T.cl_Form.c T.me_Form_at (ok_Form_at T) hr (pa_cons (pv 1) pa_nil)) (pv 2) (nomark _))
      (pss_cons (ps_ret (pe_tup (pa_cons (pe_op op_add (pe_fld (pv 0) rfl) pe_int) (pa_cons pe_str pa_nil))))
      pss_nil)
      pss_nil)
    (pss_cons (ps_ret (pe_tup (pa_cons pe_non (pa_cons pe_str pa_nil))))
    pss_nil))), ?_⟩)
  · obtain ⟨d, ⟨p, n, rows, told, total, xs, o, co, hl, hb, rfl, rfl⟩, k⟩ := h
    rfl
  obtain ⟨d, ⟨p, n, rows, told, total, xs, o, co, hl, hb, rfl, rfl⟩, k⟩ := h
  refine sq_no (eb_test (ev_lt (ev_len (ev_var rfl) rfl) (ev_fld 4 T.cl_Claim (ev_var rfl) rfl rfl))) (by rw [len_ints]; simp; omega) ?_
  refine sq_when (eb_test (ev_neI (ev_meth (ev_fld 0 T.cl_Claim (ev_var rfl) rfl rfl) (by decide) (ea_cons (ev_var rfl) ea_nil) ⟨_, ⟨p, n, rows, xs, _, rfl, co.pr.1, co.pr.2.1, co.ro.pairs, co.hn, co.hr, hl, hb, rfl, rfl⟩, rfl⟩) (ev_var rfl))) (fun hb => ?_) (fun hb => ?_)
  · rw [if_neg (by simpa using hb)] at k
    exact sq_retV (ev_tup (ea_cons (ev_add (ev_fld 4 T.cl_Claim (ev_var rfl) rfl rfl) ev_int) (ea_cons ev_str ea_nil))) k
  · rw [if_pos (by simpa using hb)] at k
    exact sq_retV (ev_tup (ea_cons ev_non (ea_cons ev_str ea_nil))) k

abbrev S_judge (T : Txt K mg) : DSp := det fun ds d => ∃ (p : Int) (n : Nat) (rows : Kvs) (told : List Int) (total : Int) (xs : List Int), COk p n rows told total ∧ xs.length = n ∧ (∀ a ∈ xs, 0 ≤ a ∧ a < p) ∧ ds = [T.claim p n rows told total, T.journal p total (hrounds p rows xs (nRounds p n rows total))] ∧ d = verdD p n rows total
theorem ok_judge (T : Txt K mg) : FnP P w K mg base 5 (T.a 76) ["claim", "journal"] (pureSp (S_judge T)) := by
  refine fn_pure T.f_judge sc_judge (fun ds Φ h => ?_) (fun cdv A outer s H E hr ds Φ h => ⟨_, (pss_cons (ps_if (pt_cmpR op_ne (pe_fld (pv 1) rfl) (pe_fld (pv 0) rfl) (nomark _))
      pss_never
      pss_nil)
    (pss_cons (ps_set (i := 2) sc_judge.nd rfl (Or.inl rfl) (pe_fld (pv 1) rfl))
    (pss_cons (ps_if (pt_cmpR op_ne (pv 2) (pe_fld (pv 0) rfl) (nomark _))
      (pss_cons (ps_ret (pe_tup (pa_cons pe_int (pa_cons pe_str pa_nil))))
      pss_nil)
      pss_nil)
    (pss_cons (ps_set (i := 3) sc_judge.nd rfl (Or.inl rfl) pe_int)
    (pss_cons (ps_for PassesOwn.never rfl (pi_seq (pe_fld (pv 1) rfl)) (pg_tup rfl (pgs_cons (pg_name (i := 4) sc_judge.nd rfl (Or.inl rfl)) (pgs_cons (pg_name (i := 5) sc_judge.nd rfl (Or.inl rfl)) pgs_nil)))
      (pss_cons (ps_set (i := 6) sc_judge.nd rfl (Or.inl rfl) (pe_cl (ok_round_verdict T) hr T.g_round_verdict (pa_cons (pv 0) (pa_cons (pv 3) (pa_cons (pv 2) (pa_cons (pv 4) pa_nil))))))
      (pss_cons (ps_if (pt_cmpR op_notN (pv 6) pe_non (nomark _))
        (pss_cons (ps_ret (pv 6))
        pss_nil)
        pss_nil)
      (pss_cons (ps_set (i := 2) sc_judge.nd rfl (Or.inl rfl) (pe_me (pv 4) T.cl_Poly.c T.me_Poly_at (ok_Poly_at T) (hr.mono (by decide)) (pa_cons (pv 5) pa_nil)))
      (pss_cons (ps_aug (i := 3) sc_judge.nd rfl (Or.inl rfl) pe_int ip_add)
      pss_nil)))))
    (pss_cons (ps_ret (pe_cl (ok_end_verdict T) hr T.g_end_verdict (pa_cons (pv 0) (pa_cons (pe_fld (pv 1) rfl) (pa_cons (pv 2) pa_nil)))))
    pss_nil)))))), ?_⟩)
  · obtain ⟨d, ⟨p, n, rows, told, total, xs, co, hl, hb, rfl, rfl⟩, k⟩ := h
    rfl
  obtain ⟨d, ⟨p, n, rows, told, total, xs, co, hl, hb, rfl, rfl⟩, k⟩ := h
  have po := co.ro.pairs
  have hp1 := co.pr.1
  have hp2 := co.pr.2.1
  refine sq_no (eb_test (ev_neI (ev_fld 0 T.cl_Journal (ev_var rfl) rfl rfl) (ev_fld 3 T.cl_Claim (ev_var rfl) rfl rfl))) (by simp) ?_
  refine sq_asg (ev_fld 1 T.cl_Journal (ev_var rfl) rfl rfl) (show 2 < 7 by decide) ?_
  refine sq_no (eb_test (ev_neI (ev_var rfl) (ev_fld 2 T.cl_Claim (ev_var rfl) rfl rfl))) (by simp) ?_
  refine sq_asg ev_int (show 3 < 7 by decide) ?_
  have nr := nRounds_le p n rows total
  refine sq_forE (js := [4, 5]) (ys := hrounds p rows xs (nRounds p n rows total)) (emb := T.pairD p) (fun r => [T.poly p r.1, .int r.2]) (fun i ρ => (total = csum p rows ∨ i = 0) ∧ ∃ a b c, ρ = [some (.imm (T.claim p n rows told total)), some (.imm (T.journal p total (hrounds p rows xs (nRounds p n rows total)))), some (.imm (.int (if i = 0 then total else psum p rows (xs.take i)))), some (.imm (.int ((i : Int) + 1))), a, b, c]) (ei_seq (ev_fld 2 T.cl_Journal (ev_var rfl) rfl rfl) rfl) ⟨Or.inr rfl, _, _, _, rfl⟩ (fun i ρ ⟨_, a, b, c, q⟩ => by subst q; exact jl2 (show 4 < 7 by decide) (show 5 < 7 by decide)) (fun i r ρ hr ⟨ht, a, b, c, q⟩ => ?_) (fun ρ ⟨ht, a, b, c, q⟩ => ?_)
  · subst q
    have hi : i < nRounds p n rows total := by
      have := (List.getElem?_eq_some_iff.mp hr).1
      rwa [hrounds_len] at this
    rw [hrounds_at hi] at hr
    cases hr
    refine ⟨gw_two, ?_⟩
    have hix : i < xs.length := by omega
    obtain ⟨m, hm, hg⟩ := deg_take co hix hl
    have he : pends p (rpoly p rows (xs.take i)) = psum p rows (xs.take i) := ends_take po hix (by omega)
    refine sq_asg (ev_call (ea_cons (ev_var rfl) (ea_cons (ev_var rfl) (ea_cons (ev_var rfl) (ea_cons (ev_var rfl) ea_nil)))) ⟨_, ⟨p, n, rows, told, total, i, _, _, m, co, by omega, hm, hg, rfl, rfl⟩, rfl⟩) (show 6 < 7 by decide) ?_
    by_cases hq : pends p (rpoly p rows (xs.take i)) = (if i = 0 then total else psum p rows (xs.take i))
    · rw [if_pos hq]
      refine sq_no (eb_test (ev_notN (ev_var rfl))) rfl ?_
      have hc := bd_getD hb hix
      refine sq_asg (ev_meth (ev_var rfl) (by decide) (ea_cons (ev_var rfl) ea_nil) ⟨_, ⟨p, _, _, hp1, hp2, hc.1, hc.2, rfl, rfl⟩, rfl⟩) (show 2 < 7 by decide) ?_
      refine sq_asg (ev_add (ev_var rfl) ev_int) (show 3 < 7 by decide) ?_
      rw [psum_take po hix (by omega)]
      have hcs : total = csum p rows := by
        rcases ht with h | h
        · exact h
        · subst h
          rw [if_pos rfl, he] at hq
          rw [csum_psum, ← hq]
          rfl
      exact sw_next ⟨Or.inl hcs, some (.imm (T.poly p (rpoly p rows (xs.take i)))), some (.imm (.int (xs.getD i 0))), some (.imm .non), rfl⟩
    · rw [if_neg hq]
      have h0 : i = 0 ∧ total ≠ csum p rows := by
        by_cases z : i = 0
        · refine ⟨z, fun e => hq ?_⟩
          subst z
          rw [if_pos rfl, he, e, csum_psum]
          rfl
        · rw [if_neg z, he] at hq
          exact absurd rfl hq
      obtain ⟨z, hne⟩ := h0
      subst z
      refine sq_when (eb_test (ev_notN (ev_var rfl))) (fun _ => ?_) (fun hb => by cases hb)
      refine sq_retV (ev_var rfl) ?_
      have e : verdD p n rows total = .tup [.int ((((0 : Nat) : Int)) + 1), .str "sum"] := by
        unfold verdD
        rw [if_neg hne, if_neg (by omega)]
        rfl
      rw [e] at k
      exact k
  · subst q
    rw [hrounds_len] at ht ⊢
    by_cases hc : total = csum p rows
    · have en : nRounds p n rows total = n := if_pos hc
      have ecoin := hrounds_coins p rows xs
      rw [hl] at ecoin
      rw [en]
      refine sq_retV (ev_call (ea_cons (ev_var rfl) (ea_cons (ev_fld 4 T.cl_Journal (ev_var rfl) rfl rfl) (ea_cons (ev_var rfl) ea_nil))) ⟨_, ⟨p, n, rows, told, total, xs, _, co, hl, hb, by rw [ecoin], rfl⟩, rfl⟩) ?_
      have ev : fval p rows xs = (if n = 0 then total else psum p rows (xs.take n)) := by
        rw [fval_ps po hl]
        by_cases z : n = 0
        · rw [if_pos z, hc, csum_psum, z]
          rfl
        · rw [if_neg z]
      rw [if_pos ev]
      have e : verdD p n rows total = .tup [.non, .str "let by"] := if_pos hc
      rw [e] at k
      exact k
    · have hz : nRounds p n rows total = 0 := ht.resolve_left hc
      have n0 : n = 0 := by
        unfold nRounds at hz
        rw [if_neg hc] at hz
        omega
      subst n0
      have x0 : xs = [] := List.eq_nil_of_length_eq_zero hl
      subst x0
      rw [hz]
      refine sq_retV (ev_call (ea_cons (ev_var rfl) (ea_cons (ev_fld 4 T.cl_Journal (ev_var rfl) rfl rfl) (ea_cons (ev_var rfl) ea_nil))) ⟨_, ⟨p, 0, rows, told, total, [], _, co, rfl, hb, rfl, rfl⟩, rfl⟩) ?_
      have ev : ¬ fval p rows [] = total := fun e => hc (by rw [← e, fval_psum po rfl, csum_psum])
      rw [if_pos rfl, if_neg ev]
      have e : verdD p 0 rows total = .tup [.int ((((0 : Nat) : Int)) + 1), .str "look"] := by
        unfold verdD
        rw [if_neg hc]
        rfl
      rw [e] at k
      exact k

abbrev S_is_let_by (T : Txt K mg) : DSp := det fun ds d => ∃ (p : Int) (n : Nat) (rows : Kvs) (told : List Int) (total : Int) (xs : List Int), COk p n rows told total ∧ xs.length = n ∧ (∀ a ∈ xs, 0 ≤ a ∧ a < p) ∧ ds = [T.claim p n rows told total, T.journal p total (hrounds p rows xs (nRounds p n rows total))] ∧ d = .bl (decide (total = csum p rows))
theorem ok_is_let_by (T : Txt K mg) : FnP P w K mg base 6 (T.a 77) ["claim", "journal"] (pureSp (S_is_let_by T)) := by
  refine fn_pure T.f_is_let_by sc_is_let_by (fun ds Φ h => ?_) (fun cdv A outer s H E hr ds Φ h => ⟨_, (pss_cons (ps_ret (pe_cmpR (op_eqD hr.units) (pe_cl (ok_judge T) hr T.g_judge (pa_cons (pv 0) (pa_cons (pv 1) pa_nil))) (pe_tup (pa_cons pe_non (pa_cons pe_str pa_nil))) (nomark _)))
    pss_nil), ?_⟩)
  · obtain ⟨d, ⟨p, n, rows, told, total, xs, co, hl, hb, rfl, rfl⟩, k⟩ := h
    rfl
  obtain ⟨d, ⟨p, n, rows, told, total, xs, co, hl, hb, rfl, rfl⟩, k⟩ := h
  have hj := ev_call (S := S_judge T) (ρ := startE ["claim", "journal"] [T.claim p n rows told total, T.journal p total (hrounds p rows xs (nRounds p n rows total))]) (ea_cons (ev_var (i := 0) rfl) (ea_cons (ev_var (i := 1) rfl) ea_nil)) ⟨_, ⟨p, n, rows, told, total, xs, co, hl, hb, rfl, rfl⟩, rfl⟩
  by_cases hc : total = csum p rows
  · have e : verdD p n rows total = .tup [.non, .str "let by"] := if_pos hc
    rw [decide_eq_true hc] at k
    refine sq_retV (ev_eqD (b := true) (EvV.is hj e) (ev_tup (ea_cons ev_non (ea_cons ev_str ea_nil))) rfl rfl (by decide +kernel) (by decide +kernel) (by decide +kernel)) k
  · have e : verdD p n rows total = .tup [.int 1, .str (if n = 0 then "look" else "sum")] := if_neg hc
    rw [decide_eq_false hc] at k
    by_cases z : n = 0
    · rw [if_pos z] at e
      exact sq_retV (ev_eqD (b := false) (EvV.is hj e) (ev_tup (ea_cons ev_non (ea_cons ev_str ea_nil))) rfl rfl (by decide +kernel) (by decide +kernel) (by decide +kernel)) k
    · rw [if_neg z] at e
      exact sq_retV (ev_eqD (b := false) (EvV.is hj e) (ev_tup (ea_cons ev_non (ea_cons ev_str ea_nil))) rfl rfl (by decide +kernel) (by decide +kernel) (by decide +kernel)) k

abbrev S_Honest_hand (T : Txt K mg) : DSp := det fun ds d => ∃ (p : Int) (n : Nat) (rows : Kvs) (told : List Int) (total : Int) (xs : List Int) (x : D), seqOf x = some (intsD xs) ∧ COk p n rows told total ∧ xs.length < n ∧ (∀ a ∈ xs, 0 ≤ a ∧ a < p) ∧ ds = [T.honest p (T.claim p n rows told total), x] ∧ d = T.poly p (rpoly p rows xs)
theorem ok_Honest_hand (T : Txt K mg) : FnP P w K mg base 7 (T.a 8101) ["self", "coins"] (pureSp (S_Honest_hand T)) := by
  refine fn_pure T.f_Honest_hand sc_Honest_hand (fun ds Φ h => ?_) (fun cdv A outer s H E hr ds Φ h => ⟨_, (pss_cons (ps_if (pt_cmpR op_ge (pe_callB call_len_seq (by rfl) T.n_len (by decide +kernel) (pa_cons (pv 1) pa_nil)) (pe_fld (pe_fld (pv 0) rfl) rfl) (nomark _))
      pss_never
      pss_nil)
    (pss_cons (ps_ret (pe_cl (ok_round_poly T) hr T.g_round_poly (pa_cons (pe_fld (pe_fld (pv 0) rfl) rfl) (pa_cons (pv 1) pa_nil))))
    pss_nil)), ?_⟩)
  · obtain ⟨d, ⟨p, n, rows, told, total, xs, x, hx, co, hl, hb, rfl, rfl⟩, k⟩ := h
    rfl
  obtain ⟨d, ⟨p, n, rows, told, total, xs, x, hx, co, hl, hb, rfl, rfl⟩, k⟩ := h
  refine sq_no (eb_test (ev_ge (ev_len (ev_var rfl) hx) (ev_fld 4 T.cl_Claim (ev_fld 1 T.cl_Honest (ev_var rfl) rfl rfl) rfl rfl))) (by rw [len_ints]; simp; omega) ?_
  refine sq_retV (ev_call (ea_cons (ev_fld 0 T.cl_Claim (ev_fld 1 T.cl_Honest (ev_var rfl) rfl rfl) rfl rfl) (ea_cons (ev_var rfl) ea_nil)) ⟨_, ⟨p, n, rows, xs, x, hx, co.pr, co.ro, co.hn, co.hr, hl, hb, rfl, rfl⟩, rfl⟩) k

abbrev S_ask (T : Txt K mg) : DSp := det fun ds d => ∃ (p : Int) (n : Nat) (rows : Kvs) (told : List Int) (total : Int) (xs : List Int) (x : D), seqOf x = some (intsD xs) ∧ COk p n rows told total ∧ xs.length < n ∧ (∀ a ∈ xs, 0 ≤ a ∧ a < p) ∧ ds = [T.honest p (T.claim p n rows told total), .int p, x] ∧ d = T.poly p (rpoly p rows xs)
theorem ok_ask (T : Txt K mg) : FnP P w K mg base 8 (T.a 68) ["teller", "prime", "coins"] (pureSp (S_ask T)) := by
  refine fn_pure T.f_ask sc_ask (fun ds Φ h => ?_) (fun cdv A outer s H E hr ds Φ h => ⟨_, (pss_cons (ps_set (i := 3) sc_ask.nd rfl (Or.inl rfl) (pe_me (pv 0) T.cl_Honest.c T.me_Honest_hand (ok_Honest_hand T) hr (pa_cons (pe_callTy call_list_of (by rfl) T.n_list (by decide +kernel) (pa_cons (pv 2) pa_nil)) pa_nil)))
    (pss_cons (ps_expr (pe_cl (ok_check_same_field T) (hr.mono (by decide)) T.g_check_same_field (pa_cons (pv 1) (pa_cons (pv 3) pa_nil))))
    (pss_cons (ps_ret (pv 3))
    pss_nil))), ?_⟩)
  · obtain ⟨d, ⟨p, n, rows, told, total, xs, x, hx, co, hl, hb, rfl, rfl⟩, k⟩ := h
    rfl
  obtain ⟨d, ⟨p, n, rows, told, total, xs, x, hx, co, hl, hb, rfl, rfl⟩, k⟩ := h
  refine sq_asg (ev_meth (ev_var rfl) (by decide) (ea_cons (EvFV.v (ef_list (ev_var rfl) hx)) ea_nil) ⟨_, ⟨p, n, rows, told, total, xs, .lst (intsD xs), rfl, co, hl, hb, rfl, rfl⟩, rfl⟩) (show 3 < 4 by decide) ?_
  refine sq_dropV (ev_call (ea_cons (ev_var rfl) (ea_cons (ev_var rfl) ea_nil)) ⟨_, ⟨p, _, rfl, rfl⟩, rfl⟩) ?_
  exact sq_retV (ev_var rfl) k

abbrev S_talk (T : Txt K mg) : DSp := det fun ds d => ∃ (p : Int) (n : Nat) (rows : Kvs) (told : List Int) (total total' : Int) (xs : List Int) (x : D), seqOf x = some (intsD xs) ∧ COk p n rows told total ∧ COk p n rows told total' ∧ xs.length = n ∧ (∀ a ∈ xs, 0 ≤ a ∧ a < p) ∧ ds = [T.claim p n rows told total, T.honest p (T.claim p n rows told total'), x] ∧ d = T.journal p total (hrounds p rows xs (nRounds p n rows total))
theorem ok_talk (T : Txt K mg) : FnP P w K mg base 9 (T.a 72) ["claim", "teller", "coins"] (pureSp (S_talk T)) := by
  refine fn_pure T.f_talk sc_talk (fun ds Φ h => ?_) (fun cdv A outer s H E hr ds Φ h => ⟨_, (pss_cons (ps_if (pt_cmpR op_ne (pe_callB call_len_seq (by rfl) T.n_len (by decide +kernel) (pa_cons (pv 2) pa_nil)) (pe_fld (pv 0) rfl) (nomark _))
      pss_never
      pss_nil)
    (pss_cons (ps_set (i := 3) sc_talk.nd rfl (Or.inl rfl) (pe_cl (ok_check_numbers_tellers T) (hr.mono (by decide)) T.g_check_numbers_tellers (pa_cons (pe_fld (pv 0) rfl) (pa_cons (pv 2) pa_nil))))
    (pss_cons (ps_set (i := 4) sc_talk.nd rfl (Or.inl rfl) (pe_lst pa_nil))
    (pss_cons (ps_set (i := 5) sc_talk.nd rfl (Or.inl rfl) (pe_fld (pv 0) rfl))
    (pss_cons (ps_for PassesOwn.never rfl (pi_enumS (by rfl) T.n_enumerate (pa_cons (pv 3) pa_nil)) (pg_tup rfl (pgs_cons (pg_name (i := 6) sc_talk.nd rfl (Or.inl rfl)) (pgs_cons (pg_name (i := 7) sc_talk.nd rfl (Or.inl rfl)) pgs_nil)))
      (pss_cons (ps_set (i := 8) sc_talk.nd rfl (Or.inl rfl) (pe_cl (ok_ask T) hr T.g_ask (pa_cons (pv 1) (pa_cons (pe_fld (pv 0) rfl) (pa_cons (pe_slice sl_seq (pv 3) po_none (po_some (pv 6))) pa_nil)))))
      (pss_cons (ps_expr (pe_bm PySem.F.plainAttrs_list PySem.F.slot_list_append PySem.F.type_list_append mt_append (pv 4) (pa_cons (pe_tup (pa_cons (pv 8) (pa_cons (pv 7) pa_nil))) pa_nil)))
      (pss_cons (ps_if (pt_not (pt_val (pe_cl (ok_is_fitting T) (hr.mono (by decide)) T.g_is_fitting (pa_cons (pv 8) (pa_cons (pe_ix ix_seq (pe_fld (pv 0) rfl) (pv 6) (fun _ _ => rfl)) (pa_cons (pv 5) pa_nil))))))
        (pss_cons ps_break
        pss_nil)
        pss_nil)
      (pss_cons (ps_set (i := 5) sc_talk.nd rfl (Or.inl rfl) (pe_me (pv 8) T.cl_Poly.c T.me_Poly_at (ok_Poly_at T) (hr.mono (by decide)) (pa_cons (pv 7) pa_nil)))
      pss_nil)))))
    (pss_cons (ps_ret (pe_mk T.mk_Journal (ok_Journal_init T) (hr.mono (by decide)) T.g_Journal (pa_cons (pe_fld (pv 0) rfl) (pa_cons (pe_fld (pv 0) rfl) (pa_cons (pv 4) pa_nil)))))
    pss_nil)))))), ?_⟩)
  · obtain ⟨d, ⟨p, n, rows, told, total, total', xs, x, hx, co, co', hl, hb, rfl, rfl⟩, k⟩ := h
    rfl
  obtain ⟨d, ⟨p, n, rows, told, total, total', xs, x, hx, co, co', hl, hb, rfl, rfl⟩, k⟩ := h
  have po := co.ro.pairs
  have hp1 := co.pr.1
  have hp2 := co.pr.2.1
  have hn := co.hn
  refine sq_no (eb_test (ev_neI (ev_len (ev_var rfl) hx) (ev_fld 4 T.cl_Claim (ev_var rfl) rfl rfl))) (by rw [len_ints, hl]; simp) ?_
  refine sq_asg (ev_call (ea_cons (ev_fld 3 T.cl_Claim (ev_var rfl) rfl rfl) (ea_cons (ev_var rfl) ea_nil)) ⟨_, ⟨p, xs, x, hx, co.pr, hb, by omega, rfl, rfl⟩, rfl⟩) (show 3 < 9 by decide) ?_
  have hk : tupD x = .tup (intsD xs) ∨ tupD x = .ktp (intsD xs) := by
    cases x with
    | tup ds => cases (Option.some.inj (show some ds = some (intsD xs) from hx)); exact Or.inl rfl
    | ktp ds => cases (Option.some.inj (show some ds = some (intsD xs) from hx)); exact Or.inr rfl
    | lst ds => cases (Option.some.inj (show some ds = some (intsD xs) from hx)); exact Or.inr rfl
    | _ => exact absurd hx (by intro z; cases z)
  have hk2 : seqOf (tupD x) = some (intsD xs) := by rcases hk with h | h <;> rw [h] <;> rfl
  generalize tupD x = x' at hk hk2
  refine sq_asgFV (ef_lstV ea_nil) (show 4 < 9 by decide) ?_
  refine sq_asg (ev_fld 2 T.cl_Claim (ev_var rfl) rfl rfl) (show 5 < 9 by decide) ?_
  have fin : ∀ (a b c o : Option SV) (m : Nat), m = nRounds p n rows total → SW (tSeq (tRet (tMake (T.a 63) (initSp (T.a 63) [] (S_Journal_init T)) [] E0 (tCons (tFld K (tVar 0) "prime") (tCons (tFld K (tVar 0) "total") (tCons (tVar 4) tNil))))) tNext)
      [some (.imm (T.claim p n rows told total)), some (.imm (T.honest p (T.claim p n rows told total'))), some (.imm x), some (.imm x'), some (.own ((hrounds p rows xs m).map (T.pairD p))), o, a, b, c] ⟨fun _ => Φ .non, Φ, fun _ => False, fun _ => False, fun _ _ => True, fun _ => False⟩ := by
    rintro a b c o m rfl
    have nr := nRounds_le p n rows total
    refine sw_freeze 4 rfl ?_
    exact sq_ret (ew_make (ea_cons (ev_fld 3 T.cl_Claim (ev_var rfl) rfl rfl) (ea_cons (ev_fld 2 T.cl_Claim (ev_var rfl) rfl rfl) (ea_cons (ev_var rfl) ea_nil))) ⟨_, ⟨p, total, _, co.pr, co.t0, co.t1, by rw [hrounds_len]; omega, hrounds_bd hb (by omega), rfl, rfl⟩, k⟩)
  have een : (intsD xs).mapIdx (fun i d => D.tup [.int (i : Int), d]) = (List.range n).map (fun i : Nat => D.tup [.int (i : Int), .int (xs.getD i 0)]) := by
    apply List.ext_getElem?
    intro i
    rw [List.getElem?_mapIdx, List.getElem?_map]
    by_cases h : i < n
    · rw [List.getElem?_map, List.getElem?_range h, List.getElem?_eq_getElem (by omega : i < xs.length)]
      show some (D.tup [.int (i : Int), .int _]) = some (D.tup [.int (i : Int), .int (xs.getD i 0)])
      rw [List.getD_eq_getElem?_getD, List.getElem?_eq_getElem (by omega : i < xs.length), Option.getD_some]
    · rw [List.getElem?_map, List.getElem?_eq_none_iff.mpr (by omega : xs.length ≤ i), List.getElem?_eq_none_iff.mpr (by rw [List.length_range]; omega)]
      rfl
  refine sq_forE (js := [6, 7]) (ys := List.range n) (emb := fun i : Nat => D.tup [.int (i : Int), .int (xs.getD i 0)]) (fun i => [.int (i : Int), .int (xs.getD i 0)]) (fun i ρ => (total = csum p rows ∨ i = 0) ∧ ∃ a b c, ρ = [some (.imm (T.claim p n rows told total)), some (.imm (T.honest p (T.claim p n rows told total'))), some (.imm x), some (.imm x'), some (.own ((hrounds p rows xs i).map (T.pairD p))), some (.imm (.int (if i = 0 then total else psum p rows (xs.take i)))), a, b, c]) ?_ ⟨Or.inr rfl, _, _, _, rfl⟩ (fun i ρ ⟨_, a, b, c, q⟩ => by subst q; exact jl2 (show 6 < 9 by decide) (show 7 < 9 by decide)) (fun i r ρ hr ⟨ht, a, b, c, q⟩ => ?_) (fun ρ ⟨ht, a, b, c, q⟩ => ?_)
  · rw [← een]
    exact ei_enum (ev_var rfl) hk2
  · subst q
    have ha2 := List.getElem?_eq_some_iff.mp hr
    have hi : i < n := by have := ha2.1; rwa [List.length_range] at this
    have er : r = i := by have := ha2.2; rw [List.getElem_range] at this; exact this.symm
    subst er
    have hix : r < xs.length := by omega
    refine ⟨gw_two, ?_⟩
    obtain ⟨m, hm, hg⟩ := deg_take co hix hl
    have he : pends p (rpoly p rows (xs.take r)) = psum p rows (xs.take r) := ends_take po hix (by omega)
    have ecut : cutD (intsD xs) none (some (r : Int)) = intsD (xs.take r) := by rw [cut_take, intsD, intsD, List.map_take]
    have htk : (xs.take r).length < n := by rw [List.length_take]; omega
    refine sq_asg (ev_call (ea_cons (ev_var rfl) (ea_cons (ev_fld 3 T.cl_Claim (ev_var rfl) rfl rfl) (ea_cons (EvV.is (ev_slN (ev_var rfl) hk (by
      rw [ecut]
      intro z
      have := congrArg List.length z
      rw [len_ints, len_ints, List.length_take] at this
      omega) eo_none (eo_some (ev_var rfl))) (by rw [ecut])) ea_nil))) ⟨_, ⟨p, n, rows, told, total', xs.take r, .ktp (intsD (xs.take r)), rfl, co', htk, bd_take hb r, rfl, rfl⟩, rfl⟩) (show 8 < 9 by decide) ?_
    refine sq_app rfl (ev_tup (ea_cons (ev_var rfl) (ea_cons (ev_var rfl) ea_nil))) (by rw [List.length_map, hrounds_len]; omega) ?_
    have ea : (hrounds p rows xs r).map (T.pairD p) ++ [D.tup [T.poly p (rpoly p rows (xs.take r)), .int (xs.getD r 0)]] = (hrounds p rows xs (r + 1)).map (T.pairD p) := by
      rw [hrounds_snoc, List.map_append]
      rfl
    rw [ea]
    have hfit := eb_B (ev_call (S := S_is_fitting T) (ρ := [some (.imm (T.claim p n rows told total)), some (.imm (T.honest p (T.claim p n rows told total'))), some (.imm x), some (.imm x'), some (.own ((hrounds p rows xs (r + 1)).map (T.pairD p))), some (.imm (.int (if r = 0 then total else psum p rows (xs.take r)))), some (.imm (.int (r : Int))), some (.imm (.int (xs.getD r 0))), some (.imm (T.poly p (rpoly p rows (xs.take r))))]) (ea_cons (ev_var (i := 8) rfl) (ea_cons (ev_ix (K := K) (ev_fld 1 T.cl_Claim (ev_var (i := 0) rfl) rfl rfl) (ev_var (i := 6) rfl) rfl (at_nat (j := r) (d := .int m) rfl (by rw [intsD, List.getElem?_map, hm]; rfl))) (ea_cons (ev_var (i := 5) rfl) ea_nil))) ⟨_, ⟨p, _, m, _, hp1, hp2, rfl, rfl⟩, rfl⟩)
    rw [decide_eq_true hg, Bool.true_and, he] at hfit
    by_cases hq : psum p rows (xs.take r) = (if r = 0 then total else psum p rows (xs.take r))
    · rw [decide_eq_true hq] at hfit
      refine sq_no (eb_not hfit) rfl ?_
      have hc := bd_getD hb hix
      refine sq_asg (ev_meth (ev_var rfl) (by decide) (ea_cons (ev_var rfl) ea_nil) ⟨_, ⟨p, _, _, hp1, hp2, hc.1, hc.2, rfl, rfl⟩, rfl⟩) (show 5 < 9 by decide) ?_
      rw [psum_take po hix (by omega)]
      have hcs : total = csum p rows := by
        rcases ht with h | h
        · exact h
        · subst h
          rw [if_pos rfl] at hq
          rw [csum_psum, ← hq]
          rfl
      exact sw_next ⟨Or.inl hcs, some (.imm (.int (r : Int))), some (.imm (.int (xs.getD r 0))), some (.imm (T.poly p (rpoly p rows (xs.take r)))), rfl⟩
    · rw [decide_eq_false hq] at hfit
      have h0 : r = 0 ∧ total ≠ csum p rows := by
        by_cases z : r = 0
        · refine ⟨z, fun e => hq ?_⟩
          subst z
          rw [if_pos rfl, e, csum_psum]
          rfl
        · rw [if_neg z] at hq
          exact absurd rfl hq
      obtain ⟨z, hne⟩ := h0
      subst z
      refine sq_when (eb_not hfit) (fun _ => ?_) (fun hb => by cases hb)
      refine sq_brk ?_
      refine fin _ _ _ _ 1 ?_
      unfold nRounds
      rw [if_neg hne]
      omega
  · subst q
    rw [List.length_range] at ht ⊢
    refine fin _ _ _ _ n ?_
    unfold nRounds
    by_cases hc : total = csum p rows
    · rw [if_pos hc]
    · rw [if_neg hc]
      have := ht.resolve_left hc
      omega

end
end SK

set_option Elab.async false
set_option linter.all false
set_option maxRecDepth 100000
set_option maxHeartbeats 4000000
namespace SK
open PySem PySem.Spec PyProof.Rows L2
section
variable {P : Program} {w : World} {K : PySem.W.Frag} {mg : Str → Option Value} {base : Heap}

/-- any answer of a kind -/
theorem startK_get {N : List Str} {sd ds : List D} : (startK N sd ds)[0]? = some (some (.sow sd)) := rfl
theorem big_mod (a : Int) : 0 ≤ a % ((10 ^ (60 : Int).toNat) ^ (20 : Int).toNat) ∧ (a % ((10 ^ (60 : Int).toNat) ^ (20 : Int).toNat)).natAbs < 2 ^ 4000 := by
  have hp : (0 : Int) < (10 ^ (60 : Int).toNat) ^ (20 : Int).toNat := by decide +kernel
  have h1 := Int.emod_nonneg a (Int.ne_of_gt hp)
  have h2 := Int.emod_lt_of_pos a hp
  have h3 : ((10 : Int) ^ (60 : Int).toNat) ^ (20 : Int).toNat ≤ ((2 ^ 4000 : Nat) : Int) := by decide +kernel
  refine ⟨h1, ?_⟩
  generalize (2 : Nat) ^ 4000 = X at h3 ⊢
  generalize (10 : Int) ^ (60 : Int).toNat = Y at *
  omega
section
variable {ρ : Env} {c : TT} {t u : TS} {P : Post}
/-- an if whose body may fall through, the rest once -/
theorem sq_join {b : Bool} (I : Env → Prop) (h : EvB c ρ b) (h1 : b = true → SW t ρ { P with nx := I }) (h2 : b = false → I ρ) (k : ∀ ρ', I ρ' → SW u ρ' P) : SW (tSeq (tIfS c t tNext) u) ρ P :=
  sq_when h (fun e => SW.imp (h1 e) k (fun _ h => h) (fun _ h => h) (fun _ h => h) (fun _ _ h => h)) fun e => k ρ (h2 e)
end
theorem div_bd {r m : Int} (h : 0 ≤ r) (h2 : r.natAbs < 2 ^ 4000) (hm : 0 < m) : 0 ≤ r / m ∧ (r / m).natAbs < 2 ^ 4000 := by
  have h3 := Int.ediv_nonneg h (Int.le_of_lt hm)
  have h4 := Int.ediv_le_self m h
  refine ⟨h3, ?_⟩
  generalize (2 : Nat) ^ 4000 = X at h2 ⊢
  omega

abbrev S_lw_mix : DSp := fun ds Φ => ∃ a b : Int, ds = [.int a, .int b] ∧ ∀ v : Int, 0 ≤ v → Φ (.int v)
theorem ok_lw_mix (T : Txt K mg) : FnP P w K mg base 1 (T.a 79) ["_law_number_here", "_law_turn"] (pureSp S_lw_mix) := by
  refine fn_pure T.f_lw_mix sc_lw_mix (fun ds Φ h => ?_) (fun cdv A outer s H E hr ds Φ h => ⟨_, (pss_cons (ps_set (i := 2) sc_lw_mix.nd rfl (Or.inl rfl) (pe_op op_mod (pe_callTy call_int1 (by rfl) T.n_int (by decide +kernel) (pa_cons (pe_op op_add (pe_op op_add (pe_op op_mul (pv 0) pe_int) (pe_op op_mul (pv 1) pe_int)) pe_int) pa_nil)) pe_int))
    (pss_cons (ps_set (i := 3) sc_lw_mix.nd rfl (Or.inl rfl) (pe_op op_mod (pe_callTy call_int1 (by rfl) T.n_int (by decide +kernel) (pa_cons (pe_op op_add (pe_op op_add (pe_op op_mul (pv 2) (pv 2)) (pe_op op_mul (pv 1) pe_int)) pe_int) pa_nil)) pe_int))
    (pss_cons (ps_set (i := 4) sc_lw_mix.nd rfl (Or.inl rfl) (pe_op op_mod (pe_callTy call_int1 (by rfl) T.n_int (by decide +kernel) (pa_cons (pe_op op_add (pe_op op_mul (pv 3) (pe_op op_add (pe_op op_fdiv (pv 3) pe_int) pe_int)) (pv 2)) pa_nil)) pe_int))
    (pss_cons (ps_ret (pe_op op_fdiv (pv 4) pe_int))
    pss_nil)))), ?_⟩)
  · obtain ⟨a, b, rfl, k⟩ := h
    rfl
  obtain ⟨a, b, rfl, k⟩ := h
  refine sq_asg (ev_mod (ev_int1 (ev_add (ev_add (ev_mul (ev_var rfl) ev_int (Or.inr (by decide))) (ev_mul (ev_var rfl) ev_int (Or.inr (by decide)))) ev_int)) ev_int (by decide)) (show 2 < 5 by decide) ?_
  generalize h1 : (a * 48271 + b * 69621 + 12820163) % 2147483647 = one
  have b1 : 0 ≤ one ∧ one < 2147483647 := by omega
  refine sq_asg (ev_mod (ev_int1 (ev_add (ev_add (ev_mul (ev_var rfl) (ev_var rfl) (Or.inr ⟨by omega, by omega⟩)) (ev_mul (ev_var rfl) ev_int (Or.inr (by decide)))) ev_int)) ev_int (by decide)) (show 3 < 5 by decide) ?_
  generalize h2 : (one * one + b * 16807 + 40692) % 2147483629 = two
  have b2 : 0 ≤ two ∧ two < 2147483629 := by omega
  refine sq_asg (ev_mod (ev_int1 (ev_add (ev_mul (ev_var rfl) (ev_add (ev_fdiv (ev_var rfl) ev_int ⟨by decide, by decide⟩) ev_int) (Or.inl ⟨by omega, by omega⟩)) (ev_var rfl))) ev_int (by decide)) (show 4 < 5 by decide) ?_
  generalize h3 : (two * (two / 65536 + 40014) + one) % 1999999973 = three
  have b3 : 0 ≤ three := by omega
  exact sq_retV (ev_fdiv (ev_var rfl) ev_int ⟨by decide, by decide⟩) (k _ (by omega))

abbrev S_lw_store (T : Txt K mg) : FSp := fun ds Φ => ∃ ns : List Int, ds = [.scr K ns] ∧ ∀ xs, StoreD xs → Φ xs
theorem ok_lw_store (T : Txt K mg) : FnP P w K mg base 1 (T.a 80) ["_law_script"] (freshSp (S_lw_store T)) := by
  refine fn_fresh T.f_lw_store sc_lw_store (fun ds Φ h => ?_) (fun cdv A outer s H E hr ds Φ h => ⟨_, (pss_cons (ps_set (i := 1) sc_lw_store.nd rfl (Or.inl rfl) pe_int)
    (pss_cons (ps_for PassesOwn.never rfl (pi_seq (pv 0)) (pg_name (i := 2) sc_lw_store.nd rfl (Or.inl rfl))
      (pss_cons (ps_set (i := 1) sc_lw_store.nd rfl (Or.inl rfl) (pe_op op_mod (pe_callTy call_int1 (by rfl) T.n_int (by decide +kernel) (pa_cons (pe_op op_add (pe_op op_add (pe_op op_mul (pv 1) pe_int) (pe_op op_mod (pe_callTy call_int1 (by rfl) T.n_int (by decide +kernel) (pa_cons (pv 2) pa_nil)) pe_int)) pe_int) pa_nil)) pe_int))
      pss_nil))
    (pss_cons (ps_ret (pe_lst (pa_cons (pe_callTy call_list_of (by rfl) T.n_list (by decide +kernel) (pa_cons (pv 0) pa_nil)) (pa_cons pe_int (pa_cons pe_int (pa_cons pe_int (pa_cons (pv 1) pa_nil)))))))
    pss_nil))), ?_⟩)
  · obtain ⟨ns, rfl, k⟩ := h
    rfl
  obtain ⟨ns, rfl, k⟩ := h
  refine sq_asg ev_int (show 1 < 3 by decide) ?_
  refine sq_forE (js := [2]) (ys := ns) (emb := D.int) (fun a => [D.int a]) (fun i ρ => ∃ s o, ρ = [some (.imm (.scr K ns)), some (.imm (.int s)), o]) (ei_scr (ev_var rfl)) ⟨_, _, rfl⟩ (fun i ρ ⟨s, o, q⟩ => by subst q; exact jl1 (show 2 < 3 by decide)) (fun i a ρ ha ⟨s, o, q⟩ => ?_) (fun ρ ⟨s, o, q⟩ => ?_)
  · subst q
    refine ⟨gw_name, ?_⟩
    refine sq_asg (ev_mod (ev_int1 (ev_add (ev_add (ev_mul (ev_var rfl) ev_int (Or.inr (by decide))) (ev_mod (ev_int1 (ev_var rfl)) ev_int (by decide))) ev_int)) ev_int (by decide)) (show 1 < 3 by decide) ?_
    exact sw_next ⟨_, _, rfl⟩
  · subst q
    exact sq_retF (EvF.imp (ef_lstV (ea_cons (EvFV.v (ef_listScr (ev_var rfl))) (ea_cons ev_int (ea_cons ev_int (ea_cons ev_int (ea_cons (ev_var rfl) ea_nil)))))) fun xs e => by
      subst e
      exact k _ ⟨ns, 0, 0, 0, s, rfl, by decide, by decide, by decide +kernel⟩)

abbrev S_lw_take : DSp := fun ds Φ => ∃ m : Int, ds = [.int m] ∧ m < 1073741824 ∧ ∀ v : Int, 0 ≤ v → v < max 1 m → Φ (.int v)
theorem ok_lw_take (T : Txt K mg) : FnP P w K mg base 2 (T.a 81) ["_law_store_here", "_law_many"] (stoSp S_lw_take) := by
  refine fn_stoK T.f_lw_take sc_lw_take (fun ds Φ h => ?_) (fun cdv A outer s H E hr sd ds Φ so h => ⟨_, (pss_cons (ps_set (i := 1) sc_lw_take.nd rfl (Or.inl rfl) (pe_callB (call_max2 rfl) (by rfl) T.n_max (by decide +kernel) (pa_cons pe_int (pa_cons (pv 1) pa_nil))))
    (pss_cons (ps_asg (pe_op op_add (pe_callTy call_int1 (by rfl) T.n_int (by decide +kernel) (pa_cons (pe_ix ix_seq (pv 0) pe_int (fun _ _ => rfl)) pa_nil)) pe_int) (pg_sub (pv 0) pe_int set_list))
    (pss_cons (ps_if (PW.pt (pw_and (pt_cmpR op_eq (pe_ix ix_seq (pv 0) pe_int (fun _ _ => rfl)) pe_int (nomark _)) (pw_and1 (pt_cmpR op_lt (pe_ix ix_seq (pv 0) pe_int (fun _ _ => rfl)) (pe_callB call_len_seq (by rfl) T.n_len (by decide +kernel) (pa_cons (pe_ix ix_seq (pv 0) pe_int (fun _ _ => rfl)) pa_nil)) (nomark _)))))
      (pss_cons (ps_set (i := 2) sc_lw_take.nd rfl (Or.inl rfl) (pe_callTy call_int1 (by rfl) T.n_int (by decide +kernel) (pa_cons (pe_ix ix_seq (pe_ix ix_seq (pv 0) pe_int (fun _ _ => rfl)) (pe_ix ix_seq (pv 0) pe_int (fun _ _ => rfl)) (fun _ _ => rfl)) pa_nil)))
      (pss_cons (ps_asg (pe_op op_add (pe_ix ix_seq (pv 0) pe_int (fun _ _ => rfl)) pe_int) (pg_sub (pv 0) pe_int set_list))
      (pss_cons (ps_if (pt_cmpR op_lt (pe_callB call_abs (by rfl) T.n_abs (by decide +kernel) (pa_cons (pv 2) pa_nil)) (pe_op op_pow pe_int pe_int) (nomark _))
        (pss_cons (ps_ret (pe_op op_mod (pe_callTy call_int1 (by rfl) T.n_int (by decide +kernel) (pa_cons (pe_cl (ok_lw_mix T) hr T.g_lw_mix (pa_cons (pv 2) (pa_cons (pe_ix ix_seq (pv 0) pe_int (fun _ _ => rfl)) pa_nil))) pa_nil)) (pv 1)))
        pss_nil)
        pss_nil)
      (pss_cons (ps_asg (pe_op op_mod (pe_callB call_abs (by rfl) T.n_abs (by decide +kernel) (pa_cons (pv 2) pa_nil)) (pe_op op_powB (pe_op op_pow pe_int pe_int) pe_int)) (pg_sub (pv 0) pe_int set_list))
      pss_nil))))
      pss_nil)
    (pss_cons (ps_if (pt_cmpR op_gt (pe_ix ix_seq (pv 0) pe_int (fun _ _ => rfl)) pe_int (nomark _))
      (pss_cons (ps_set (i := 3) sc_lw_take.nd rfl (Or.inl rfl) (pe_callTy call_int1 (by rfl) T.n_int (by decide +kernel) (pa_cons (pe_ix ix_seq (pv 0) pe_int (fun _ _ => rfl)) pa_nil)))
      (pss_cons (ps_asg (pe_op op_fdiv (pv 3) (pv 1)) (pg_sub (pv 0) pe_int set_list))
      (pss_cons (ps_ret (pe_op op_mod (pv 3) (pv 1)))
      pss_nil)))
      pss_nil)
    (pss_cons (ps_ret (pe_op op_mod (pe_callTy call_int1 (by rfl) T.n_int (by decide +kernel) (pa_cons (pe_cl (ok_lw_mix T) hr T.g_lw_mix (pa_cons (pe_ix ix_seq (pv 0) pe_int (fun _ _ => rfl)) (pa_cons (pe_ix ix_seq (pv 0) pe_int (fun _ _ => rfl)) pa_nil))) pa_nil)) (pv 1)))
    pss_nil))))), ?_⟩)
  · obtain ⟨m, rfl, hm, k⟩ := h
    rfl
  obtain ⟨m, rfl, hm, k⟩ := h
  obtain ⟨ns, i, r, t, seed, rfl, hi, hr0, hr1⟩ := so
  refine sq_asg (ev_max2 ev_int (ev_var rfl)) (show 1 < 4 by decide) ?_
  generalize hM : max 1 m = M
  have hM0 : 0 < M ∧ M < 1073741824 := by omega
  have km : ∀ v : Int, Φ (.int (v % M)) := fun v => k _ (Int.emod_nonneg _ (by omega)) (by rw [hM]; exact Int.emod_lt_of_pos _ hM0.1)
  refine sq_setS (i := 3) rfl (ev_add (ev_int1 (ev_ixS rfl ev_int rfl)) ev_int) ev_int rfl (show 3 < 5 by decide) ?_
  refine sq_join (fun ρ => ∃ i' r' c, 0 ≤ i' ∧ 0 ≤ r' ∧ r'.natAbs < 2 ^ 4000 ∧ ρ = [some (.sow [.lst (ns.map D.int), .int i', .int r', .int (t + 1), .int seed]), some (.imm (.int M)), c, none]) (eb_and (eb_test (ev_eqI (ev_ixS rfl ev_int rfl) ev_int)) fun _ => (eb_test (ev_lt (ev_ixS rfl ev_int rfl) (ev_len (ev_ixS rfl ev_int rfl) rfl)))) (fun hb => ?_) (fun hb => ⟨i, r, none, hi, hr0, hr1, rfl⟩) ?_
  · have hlt : i.toNat < ns.length := by
      simp only [Bool.and_eq_true, decide_eq_true_eq, List.length_map] at hb
      omega
    have hget : (ns.map D.int)[i.toNat]? = some (.int ns[i.toNat]) := by rw [List.getElem?_map, List.getElem?_eq_getElem hlt]; rfl
    refine sq_asg (ev_int1 (ev_ix (ev_ixS rfl ev_int rfl) (ev_ixS rfl ev_int rfl) rfl (at_nat (j := i.toNat) (by omega) hget))) (show 2 < 4 by decide) ?_
    refine sq_setS (i := 1) rfl (ev_add (ev_ixS rfl ev_int rfl) ev_int) ev_int rfl (show 1 < 5 by decide) ?_
    refine sq_when (eb_test (ev_lt (ev_abs (ev_var rfl)) (ev_pow ev_int ev_int ⟨by decide, by decide, by decide⟩))) (fun _ => ?_) (fun _ => ?_)
    · exact sq_ret (ew_modI (ew_int1 (ew_call (ea_cons (ev_var rfl) (ea_cons (ev_ixS rfl ev_int rfl) ea_nil)) ⟨_, _, rfl, fun v hv => ⟨v, rfl, hv⟩⟩)) (EvV.i (φ := fun x => x = M) (ev_var rfl) rfl) (θ := fun x => Φ (.int x)) (fun a b _ e => by subst e; exact ⟨hM0.1, km a⟩) |> fun h => EvW.imp h fun d ⟨i, e, f⟩ => by rw [e]; exact f) fun _ _ => ⟨_, rfl, ns, _, r, _, seed, rfl, by omega, hr0, hr1⟩
    · have bm := big_mod (if ns[i.toNat] < 0 then -ns[i.toNat] else ns[i.toNat])
      refine sq_setS (i := 2) rfl (ev_mod (ev_abs (ev_var rfl)) (ev_powB (ev_pow ev_int ev_int ⟨by decide, by decide, by decide⟩) ev_int (by constructor <;> decide +kernel)) (by decide +kernel)) ev_int rfl (show 2 < 5 by decide) ?_
      exact sw_next ⟨_, _, _, (by omega : 0 ≤ i + 1), bm.1, bm.2, rfl⟩
  · rintro ρ ⟨i', r', c, h1, h2, h3, rfl⟩
    refine sq_when (eb_test (ev_gt (ev_ixS rfl ev_int rfl) ev_int)) (fun hb => ?_) (fun hb => ?_)
    · refine sq_asg (ev_int1 (ev_ixS rfl ev_int rfl)) (show 3 < 4 by decide) ?_
      refine sq_setS (i := 2) rfl (ev_fdiv (ev_var rfl) (ev_var rfl) ⟨hM0.1, hM0.2⟩) ev_int rfl (show 2 < 5 by decide) ?_
      exact sq_retV (ev_mod (ev_var rfl) (ev_var rfl) hM0.1) (km r') ⟨_, rfl, ns, i', _, _, seed, rfl, h1, (div_bd h2 h3 hM0.1).1, (div_bd h2 h3 hM0.1).2⟩
    · exact sq_ret (ew_modI (ew_int1 (ew_call (ea_cons (ev_ixS rfl ev_int rfl) (ea_cons (ev_ixS rfl ev_int rfl) ea_nil)) ⟨_, _, rfl, fun v hv => ⟨v, rfl, hv⟩⟩)) (EvV.i (φ := fun x => x = M) (ev_var rfl) rfl) (θ := fun x => Φ (.int x)) (fun a b _ e => by subst e; exact ⟨hM0.1, km a⟩) |> fun h => EvW.imp h fun d ⟨i, e, f⟩ => by rw [e]; exact f) fun _ _ => ⟨_, rfl, ns, i', r', _, seed, rfl, h1, h2, h3⟩

end
end SK

set_option Elab.async false
set_option linter.all false
set_option maxRecDepth 100000
set_option maxHeartbeats 4000000
namespace SK
open PySem PySem.Spec PyProof.Rows L2
section
variable {P : Program} {w : World} {K : PySem.W.Frag} {mg : Str → Option Value} {base : Heap}

theorem ints_of {φ : Int → Prop} : ∀ {ys : List D}, (∀ y ∈ ys, IntD φ y) → ∃ xs : List Int, ys = intsD xs ∧ ∀ a ∈ xs, φ a
  | [], _ => ⟨[], rfl, fun a h => by cases h⟩
  | y :: ys, h => by
    obtain ⟨xs, e1, e2⟩ := ints_of (ys := ys) fun z hz => h z (List.mem_cons_of_mem _ hz)
    obtain ⟨i, e3, f⟩ := h y (List.mem_cons_self ..)
    refine ⟨i :: xs, by rw [e1, e3]; rfl, fun a ha => ?_⟩
    rcases List.mem_cons.mp ha with e | m
    · rw [e]; exact f
    · exact e2 a m
/-- the primes, as the law finds them -/
def inP : List Int → Int → Bool
  | [], _ => false
  | q :: qs, n => if n < q * q then false else if n % q = 0 then true else inP qs n
def outP : List Int → List Int → List Int
  | ps, [] => ps
  | ps, n :: ns => outP (if inP ps n then ps else ps ++ [n]) ns
def nsP : List Int := (List.range 100).map fun i : Nat => 2 + (i : Int)
def primesL : List Int := outP [] nsP
theorem outP_snoc (n : Int) : ∀ (ns ps : List Int), outP ps (ns ++ [n]) = if inP (outP ps ns) n then outP ps ns else outP ps ns ++ [n]
  | [], ps => rfl
  | m :: ns, ps => outP_snoc n ns _
theorem outP_ok : ∀ (ns ps : List Int), (∀ q ∈ ps, 2 ≤ q ∧ q ≤ 101) → (∀ q ∈ ns, 2 ≤ q ∧ q ≤ 101) → (∀ q ∈ outP ps ns, 2 ≤ q ∧ q ≤ 101) ∧ (outP ps ns).length ≤ ps.length + ns.length
  | [], ps, h, _ => ⟨h, by show ps.length ≤ _; simp⟩
  | n :: ns, ps, h, h2 => by
    have ih := outP_ok ns (if inP ps n then ps else ps ++ [n]) (fun q hq => by
      split at hq
      · exact h q hq
      · rcases List.mem_append.mp hq with m | m
        · exact h q m
        · rw [List.mem_singleton.mp m]
          exact h2 n (List.mem_cons_self ..)) fun q hq => h2 q (List.mem_cons_of_mem _ hq)
    refine ⟨ih.1, Nat.le_trans ih.2 ?_⟩
    rw [List.length_cons]
    split
    · omega
    · rw [List.length_append, List.length_singleton]; omega
theorem nsP_ok : ∀ q ∈ nsP, 2 ≤ q ∧ q ≤ 101 := fun q h => by
  obtain ⟨i, hi, e⟩ := List.mem_map.mp h
  have := List.mem_range.mp hi
  omega
theorem primesL_ok : ∀ p ∈ primesL, PrimeOk p := by
  have h : ∀ p ∈ primesL, 2 ≤ p ∧ p ≤ 101 ∧ ∀ d ∈ List.range 11, 2 ≤ (d : Int) → (d : Int) * d ≤ p → p % (d : Int) ≠ 0 := by decide +kernel
  intro p hp
  obtain ⟨h1, h2, h3⟩ := h p hp
  refine ⟨h1, h2, fun d hd hdd => ?_⟩
  have hd10 : d < 11 := by
    refine Int.not_le.mp fun z => ?_
    have : 11 * 11 ≤ d * d := Int.mul_le_mul z z (by decide) (by omega)
    omega
  have := h3 d.toNat (List.mem_range.mpr (by omega)) (by omega) (by rw [Int.toNat_of_nonneg (by omega)]; exact hdd)
  rwa [Int.toNat_of_nonneg (by omega)] at this
theorem primesL_len : primesL.length = 26 := by decide +kernel
def rowsK (p : Nat) : Nat → List (List Int)
  | 0 => [[]]
  | k + 1 => (rowsK p k).flatMap fun r => (List.range p).map fun n : Nat => r ++ [(n : Int)]
theorem rowsK_len (p : Nat) : ∀ k, (rowsK p k).length = p ^ k
  | 0 => rfl
  | k + 1 => by
    unfold rowsK
    rw [List.length_flatMap]
    have : ((rowsK p k).map fun a => ((List.range p).map fun n : Nat => a ++ [(n : Int)]).length) = List.replicate (rowsK p k).length p := by
      apply List.ext_getElem
      · simp
      · intro i h1 h2
        simp
    rw [this, List.sum_replicate_nat, rowsK_len p k, Nat.pow_succ]
theorem rowsK_mem {p : Nat} : ∀ {k : Nat} {r : List Int}, r ∈ rowsK p k → r.length = k ∧ ∀ a ∈ r, 0 ≤ a ∧ a < (p : Int)
  | 0, r, h => by
    rw [List.mem_singleton.mp h]
    exact ⟨rfl, fun a m => by cases m⟩
  | k + 1, r, h => by
    obtain ⟨q, hq, hr⟩ := List.mem_flatMap.mp h
    obtain ⟨n, hn, e⟩ := List.mem_map.mp hr
    obtain ⟨i1, i2⟩ := rowsK_mem hq
    have := List.mem_range.mp hn
    subst e
    refine ⟨by rw [List.length_append, i1]; rfl, fun a ha => ?_⟩
    rcases List.mem_append.mp ha with m | m
    · exact i2 a m
    · rw [List.mem_singleton.mp m]; omega

abbrev S_lw_edge : DSp := fun ds Φ => ∃ lo hi : Int, ds = [.int lo, .int hi] ∧ lo ≤ hi ∧ hi - lo < 1073741823 ∧ ∀ v : Int, lo ≤ v → v ≤ hi → Φ (.int v)
theorem ok_lw_edge (T : Txt K mg) : FnP P w K mg base 3 (T.a 82) ["_law_store_here", "_law_low", "_law_high"] (stoSp S_lw_edge) := by
  refine fn_sto T.f_lw_edge sc_lw_edge (fun ds Φ h => ?_) (fun cdv A outer s H E hr ds Φ h => ⟨_, (pss_cons (ps_set (i := 3) sc_lw_edge.nd rfl (Or.inl rfl) (pe_op op_add (pe_callB (call_max2 rfl) (by rfl) T.n_max (by decide +kernel) (pa_cons pe_int (pa_cons (pe_op op_sub (pv 2) (pv 1)) pa_nil))) pe_int))
    (pss_cons (ps_set (i := 4) sc_lw_edge.nd rfl (Or.inl rfl) (pe_cl (ok_lw_take T) hr T.g_lw_take (pa_cons (pv 0) (pa_cons pe_int pa_nil))))
    (pss_cons (ps_if (pt_cmpR op_eq (pv 4) pe_int (nomark _))
      (pss_cons (ps_ret (pv 1))
      pss_nil)
      pss_nil)
    (pss_cons (ps_if (pt_cmpR op_eq (pv 4) pe_int (nomark _))
      (pss_cons (ps_ret (pe_op op_sub (pe_op op_add (pv 1) (pv 3)) pe_int))
      pss_nil)
      pss_nil)
    (pss_cons (ps_if (pt_cmpR op_eq (pv 4) pe_int (nomark _))
      (pss_cons (ps_ret (pe_op op_add (pv 1) (pe_callB (call_min2 rfl) (by rfl) T.n_min (by decide +kernel) (pa_cons (pe_op op_sub (pv 3) pe_int) (pa_cons pe_int pa_nil)))))
      pss_nil)
      pss_nil)
    (pss_cons (ps_ret (pe_op op_add (pv 1) (pe_cl (ok_lw_take T) hr T.g_lw_take (pa_cons (pv 0) (pa_cons (pv 3) pa_nil)))))
    pss_nil)))))), ?_⟩)
  · obtain ⟨lo, hi, rfl, h1, h2, k⟩ := h
    rfl
  obtain ⟨lo, hi, rfl, h1, h2, k⟩ := h
  refine sq_asg (ev_add (ev_max2 ev_int (ev_sub (ev_var rfl) (ev_var rfl))) ev_int) (show 3 < 5 by decide) ?_
  generalize hM : max 0 (hi - lo) + 1 = M
  refine sq_asgW (Φ := IntD fun _ => True) (ew_callSV rfl (ea_cons ev_int ea_nil) ⟨9, rfl, by decide, fun v _ _ => ⟨v, rfl, trivial⟩⟩) (show 4 < 5 by decide) ?_
  rintro _ ⟨wy, rfl, _⟩
  refine sq_when (eb_test (ev_eqI (ev_var rfl) ev_int)) (fun _ => ?_) (fun _ => ?_)
  · exact sq_retV (ev_var rfl) (k _ (by omega) (by omega))
  refine sq_when (eb_test (ev_eqI (ev_var rfl) ev_int)) (fun _ => ?_) (fun _ => ?_)
  · exact sq_retV (ev_sub (ev_add (ev_var rfl) (ev_var rfl)) ev_int) (k _ (by omega) (by omega))
  refine sq_when (eb_test (ev_eqI (ev_var rfl) ev_int)) (fun _ => ?_) (fun _ => ?_)
  · exact sq_retV (ev_add (ev_var rfl) (ev_min2 (ev_sub (ev_var rfl) ev_int) ev_int)) (k _ (by omega) (by omega))
  exact sq_ret (EvW.imp (ew_addI (φ := fun x => x = lo) (ψ := fun x => 0 ≤ x ∧ x < M) (θ := fun x => Φ (.int x)) (EvV.i (ev_var rfl) rfl) (ew_callSV rfl (ea_cons (ev_var rfl) ea_nil) ⟨M, rfl, by omega, fun v h0 h1 => ⟨v, rfl, by omega, by omega⟩⟩) fun i j e f => by subst e; exact k _ (by omega) (by omega)) fun d ⟨i, e, f⟩ => by rw [e]; exact f)

abbrev S_lw_chance : DSp := fun ds Φ => ∃ m : Int, ds = [.int m] ∧ m < 1073741824 ∧ ∀ b : Bool, Φ (.bl b)
theorem ok_lw_chance (T : Txt K mg) : FnP P w K mg base 3 (T.a 83) ["_law_store_here", "_law_part"] (stoSp S_lw_chance) := by
  refine fn_sto T.f_lw_chance sc_lw_chance (fun ds Φ h => ?_) (fun cdv A outer s H E hr ds Φ h => ⟨_, (pss_cons (ps_ret (pe_cmpR op_eq (pe_cl (ok_lw_take T) hr T.g_lw_take (pa_cons (pv 0) (pa_cons (pv 1) pa_nil))) (pe_op op_sub (pe_callB (call_max2 rfl) (by rfl) T.n_max (by decide +kernel) (pa_cons pe_int (pa_cons (pv 1) pa_nil))) pe_int) (nomark _)))
    pss_nil), ?_⟩)
  · obtain ⟨m, rfl, hm, k⟩ := h
    rfl
  obtain ⟨m, rfl, hm, k⟩ := h
  exact sq_ret (EvW.imp (ew_eqI (φ := fun _ => True) (ψ := fun _ => True) (θ := fun _ => True) (ew_callSV rfl (ea_cons (ev_var rfl) ea_nil) ⟨m, rfl, hm, fun v _ _ => ⟨v, rfl, trivial⟩⟩) (EvV.i (ev_sub (ev_max2 ev_int (ev_var rfl)) ev_int) trivial) fun _ _ _ _ => trivial) fun d ⟨b, e, _⟩ => by rw [e]; exact k b)

abbrev S_lw_pick : DSp := fun ds Φ => ∃ (x : D) (xs : List D), ds = [x] ∧ seqOf x = some xs ∧ 0 < xs.length ∧ xs.length < 1000 ∧ ∀ d ∈ xs, Φ d
theorem ok_lw_pick (T : Txt K mg) : FnP P w K mg base 3 (T.a 84) ["_law_store_here", "_law_row_here"] (stoSp S_lw_pick) := by
  refine fn_sto T.f_lw_pick sc_lw_pick (fun ds Φ h => ?_) (fun cdv A outer s H E hr ds Φ h => ⟨_, (pss_cons (ps_if (pt_cmpR op_eq (pe_callB call_len_seq (by rfl) T.n_len (by decide +kernel) (pa_cons (pv 1) pa_nil)) pe_int (nomark _))
      (pss_cons (ps_ret pe_non)
      pss_nil)
      pss_nil)
    (pss_cons (ps_ret (pe_ix ix_seq (pv 1) (pe_cl (ok_lw_take T) hr T.g_lw_take (pa_cons (pv 0) (pa_cons (pe_callB call_len_seq (by rfl) T.n_len (by decide +kernel) (pa_cons (pv 1) pa_nil)) pa_nil))) (fun _ _ => rfl)))
    pss_nil)), ?_⟩)
  · obtain ⟨x, xs, rfl, hx, h0, hl, k⟩ := h
    rfl
  obtain ⟨x, xs, rfl, hx, h0, hl, k⟩ := h
  refine sq_when (eb_test (ev_eqI (ev_len (ev_var rfl) hx) ev_int)) (fun hb => ?_) (fun hb => ?_)
  · have hb := of_decide_eq_true hb
    omega
  exact sq_ret (ew_ixW (ev_var rfl) hx (ew_callSV rfl (ea_cons (ev_len (ev_var rfl) hx) ea_nil) ⟨_, rfl, by omega, fun v h0 h1 => ⟨v, rfl, (⟨h0, h1⟩ : 0 ≤ v ∧ v < max 1 (xs.length : Int))⟩⟩) fun i ⟨h1, h2⟩ => ⟨xs[i.toNat]'(by omega), at_nat (j := i.toNat) (by omega) (List.getElem?_eq_getElem _), k _ (List.getElem_mem _)⟩)

abbrev S_lw_primes : DSp := det fun ds d => ds = [.int 101] ∧ d = .lst (intsD primesL)
theorem ok_lw_primes (T : Txt K mg) : FnP P w K mg base 1 (T.a 85) ["_law_limit"] (pureSp S_lw_primes) := by
  refine fn_pure T.f_lw_primes sc_lw_primes (fun ds Φ h => ?_) (fun cdv A outer s H E hr ds Φ h => ⟨_, (pss_cons (ps_set (i := 1) sc_lw_primes.nd rfl (Or.inl rfl) (pe_lst pa_nil))
    (pss_cons (ps_for PassesOwn.never rfl (pi_range2 (by rfl) T.n_range (pa_cons pe_int (pa_cons (pe_op op_add (pv 0) pe_int) pa_nil))) (pg_name (i := 2) sc_lw_primes.nd rfl (Or.inl rfl))
      (pss_cons (ps_set (i := 3) sc_lw_primes.nd rfl (Or.inl rfl) pe_bl)
      (pss_cons (ps_for PassesOwn.never rfl (pi_seq (pv 1)) (pg_name (i := 4) sc_lw_primes.nd rfl (Or.inl rfl))
        (pss_cons (ps_if (pt_cmpR op_gt (pe_op op_mul (pv 4) (pv 4)) (pv 2) (nomark _))
          (pss_cons ps_break
          pss_nil)
          pss_nil)
        (pss_cons (ps_if (pt_cmpR op_eq (pe_op op_mod (pv 2) (pv 4)) pe_int (nomark _))
          (pss_cons (ps_set (i := 3) sc_lw_primes.nd rfl (Or.inl rfl) pe_bl)
          (pss_cons ps_break
          pss_nil))
          pss_nil)
        pss_nil)))
      (pss_cons (ps_if (pt_not (pt_val (pv 3)))
        (pss_cons (ps_expr (pe_bm PySem.F.plainAttrs_list PySem.F.slot_list_append PySem.F.type_list_append mt_append (pv 1) (pa_cons (pv 2) pa_nil)))
        pss_nil)
        pss_nil)
      pss_nil))))
    (pss_cons (ps_ret (pv 1))
    pss_nil))), ?_⟩)
  · obtain ⟨d, ⟨rfl, rfl⟩, k⟩ := h
    rfl
  obtain ⟨d, ⟨rfl, rfl⟩, k⟩ := h
  have nl : nsP.length = 100 := by unfold nsP; rw [List.length_map, List.length_range]
  refine sq_asgFV (ef_lstV ea_nil) (show 1 < 5 by decide) ?_
  refine sq_forE (js := [2]) (ys := nsP) (emb := D.int) (fun a => [.int a]) (fun i ρ => ∃ a b c : Option D, ρ = [some (.imm (.int 101)), some (.own (intsD (outP [] (nsP.take i)))), a.map SV.imm, b.map SV.imm, c.map SV.imm]) (show EvIV _ _ (nsP.map D.int) from by
    have h := ei_range2 (ρ := [some (.imm (.int 101)), some (.own []), none, none, none]) (lo := 2) (hi := 101 + 1) ev_int (ev_add (ev_var (i := 0) rfl) ev_int) (by decide)
    rw [show (101 + 1 - 2 : Int).toNat = 100 from rfl] at h
    unfold nsP
    rw [List.map_map]
    exact h) ⟨none, none, none, rfl⟩ (fun i ρ ⟨a, b, c, q⟩ => by subst q; exact jl1 (show 2 < 5 by decide)) (fun i n ρ hn ⟨a, b, c, q⟩ => ?_) (fun ρ ⟨a, b, c, q⟩ => ?_)
  · subst q
    have hn2 := nsP_ok n (List.mem_of_getElem? hn)
    have ok := outP_ok (nsP.take i) [] (fun q h => by cases h) fun q h => nsP_ok q (List.mem_of_mem_take h)
    have esn : outP [] (nsP.take (i + 1)) = if inP (outP [] (nsP.take i)) n then outP [] (nsP.take i) else outP [] (nsP.take i) ++ [n] := by rw [take_snoc hn, outP_snoc]
    generalize outP [] (nsP.take i) = ps at ok esn
    have okl : ps.length ≤ 100 := by
      have := ok.2
      rw [List.length_take] at this
      simp at this
      omega
    refine ⟨gw_name, ?_⟩
    refine sq_asg ev_bl (show 3 < 5 by decide) ?_
    refine sq_forO (js := [4]) (j := 1) (xs := intsD ps) (fun l j ρ => ∃ (b : Bool) (c : Option D), ρ = [some (.imm (.int 101)), some (.addr l), some (.imm (.int n)), some (.imm (.bl b)), c.map SV.imm] ∧ (j < ps.length → b = false ∧ inP ps n = inP (ps.drop j) n) ∧ (j = ps.length → b = inP ps n)) rfl (fun l j ρ ⟨b, c, q, _⟩ => by
      subst q
      refine ⟨rfl, nm_of ?_, jl1 (show 4 < 5 by decide)⟩
      cases c <;> simp [nmL, SV.mut]) (fun l => ⟨false, c, rfl, fun _ => ⟨rfl, rfl⟩, fun e => by
      have : ps = [] := List.eq_nil_of_length_eq_zero e.symm
      rw [this]
      rfl⟩) (fun l j d ρ hd ⟨b, c, q, h1, h2⟩ => ?_) (fun l ρ ⟨b, c, q, h1, h2⟩ => ?_)
    · subst q
      rw [intsD, List.getElem?_map] at hd
      cases hq : ps[j]? with
      | none => rw [hq] at hd; cases hd
      | some m =>
        rw [hq] at hd
        cases hd
        have hj : j < ps.length := (List.getElem?_eq_some_iff.mp hq).1
        obtain ⟨hb, hin⟩ := h1 hj
        subst hb
        have hm := ok.1 m (List.mem_of_getElem? hq)
        have hdrop : ps.drop j = m :: ps.drop (j + 1) := by
          rw [List.drop_eq_getElem_cons hj]
          rw [List.getElem?_eq_getElem hj] at hq
          cases hq
          rfl
        rw [hdrop, inP] at hin
        refine ⟨[.int m], gw_name, ?_⟩
        refine sq_when (eb_test (ev_gt (ev_mul (ev_var rfl) (ev_var rfl) (Or.inl ⟨by omega, by omega⟩)) (ev_var rfl))) (fun hb => ?_) (fun hb => ?_)
        · rw [if_pos (by simpa using hb)] at hin
          exact sq_brk ⟨false, some (.int m), rfl, fun h => by simp [intsD] at h, fun _ => hin.symm⟩
        · rw [if_neg (by simpa using hb)] at hin
          refine sq_when (eb_test (ev_eqI (ev_mod (ev_var rfl) (ev_var rfl) (by omega)) ev_int)) (fun hb2 => ?_) (fun hb2 => ?_)
          · rw [if_pos (by simpa using hb2)] at hin
            refine sq_asg ev_bl (show 3 < 5 by decide) ?_
            exact sq_brk ⟨true, some (.int m), rfl, fun h => by simp [intsD] at h, fun _ => hin.symm⟩
          · rw [if_neg (by simpa using hb2)] at hin
            refine sw_next ⟨false, some (.int m), rfl, fun _ => ⟨rfl, hin⟩, fun e => ?_⟩
            rw [hin, e, List.drop_length]
            rfl
    · subst q
      have hb := h2 (by simp [intsD])
      subst hb
      refine sq_when (eb_not (eb_B (ev_var rfl))) (fun hb => ?_) (fun hb => ?_)
      · have hb : inP ps n = false := by simpa using hb
        rw [hb, if_neg Bool.false_ne_true] at esn
        refine sq_app (ds := intsD ps) (d := .int n) rfl (ev_var rfl) (by rw [intsD, List.length_map]; omega) ?_
        refine sw_next (sw_next ⟨some (.int n), some (.bl false), c, ?_⟩)
        rw [esn, intsD, intsD, List.map_append, hb]
        rfl
      · have hb : inP ps n = true := by simpa using hb
        rw [hb, if_pos rfl] at esn
        refine sw_next ⟨some (.int n), some (.bl true), c, ?_⟩
        rw [esn, hb]
        rfl
  · subst q
    rw [List.take_length]
    exact sq_retO rfl k

abbrev S_lw_prime : DSp := fun ds Φ => ds = [] ∧ ∀ p : Int, PrimeOk p → Φ (.int p)
theorem ok_lw_prime (T : Txt K mg) : FnP P w K mg base 4 (T.a 86) ["_law_store_here"] (stoSp S_lw_prime) := by
  refine fn_sto T.f_lw_prime sc_lw_prime (fun ds Φ h => ?_) (fun cdv A outer s H E hr ds Φ h => ⟨_, (pss_cons (ps_set (i := 1) sc_lw_prime.nd rfl (Or.inl rfl) (pe_cl (ok_lw_primes T) (hr.mono (by decide)) T.g_lw_primes (pa_cons pe_int pa_nil)))
    (pss_cons (ps_ret (pe_ix ix_seq (pv 1) (pe_cl (ok_lw_edge T) hr T.g_lw_edge (pa_cons (pv 0) (pa_cons pe_int (pa_cons (pe_op op_sub (pe_callB call_len_seq (by rfl) T.n_len (by decide +kernel) (pa_cons (pv 1) pa_nil)) pe_int) pa_nil)))) (fun _ _ => rfl)))
    pss_nil)), ?_⟩)
  · obtain ⟨rfl, k⟩ := h
    rfl
  obtain ⟨rfl, k⟩ := h
  refine sq_asg (ev_call (ea_cons ev_int ea_nil) ⟨_, ⟨rfl, rfl⟩, rfl⟩) (show 1 < 2 by decide) ?_
  have hl : ((intsD primesL).length : Int) = 26 := by rw [intsD, List.length_map, primesL_len]; rfl
  exact sq_ret (ew_ixW (ev_var rfl) rfl (ew_callSV rfl (ea_cons ev_int (ea_cons (ev_sub (ev_len (ev_var rfl) rfl) ev_int) ea_nil)) ⟨0, _, rfl, by omega, by omega, fun v h0 h1 => ⟨v, rfl, (⟨h0, by omega⟩ : 0 ≤ v ∧ v < 26)⟩⟩) fun i ⟨h1, h2⟩ => by
    have hi : i.toNat < primesL.length := by rw [primesL_len]; omega
    exact ⟨.int primesL[i.toNat], at_nat (j := i.toNat) (by omega) (by rw [intsD, List.getElem?_map, List.getElem?_eq_getElem hi]; rfl), k _ (primesL_ok _ (List.getElem_mem _))⟩)

abbrev S_lw_power : DSp := det fun ds d => ∃ (p : Int) (n : Nat), 0 ≤ p ∧ p ≤ 101 ∧ n ≤ 5 ∧ ds = [.int p, .int (n : Int)] ∧ d = .int (p ^ n)
theorem ok_lw_power (T : Txt K mg) : FnP P w K mg base 1 (T.a 87) ["_law_base", "_law_many"] (pureSp S_lw_power) := by
  refine fn_pure T.f_lw_power sc_lw_power (fun ds Φ h => ?_) (fun cdv A outer s H E hr ds Φ h => ⟨_, (pss_cons (ps_set (i := 2) sc_lw_power.nd rfl (Or.inl rfl) pe_int)
    (pss_cons (ps_for PassesOwn.never rfl (pi_range1 (by rfl) T.n_range (pa_cons (pv 1) pa_nil)) (pg_name (i := 3) sc_lw_power.nd rfl (Or.inl rfl))
      (pss_cons (ps_set (i := 2) sc_lw_power.nd rfl (Or.inl rfl) (pe_op op_mul (pv 2) (pv 0)))
      pss_nil))
    (pss_cons (ps_ret (pv 2))
    pss_nil))), ?_⟩)
  · obtain ⟨d, ⟨p, n, h0, h1, hn, rfl, rfl⟩, k⟩ := h
    rfl
  obtain ⟨d, ⟨p, n, h0, h1, hn, rfl, rfl⟩, k⟩ := h
  refine sq_asg ev_int (show 2 < 4 by decide) ?_
  refine sq_forE (js := [3]) (ys := List.range n) (emb := fun i : Nat => D.int (i : Int)) (fun a => [.int (a : Int)]) (fun i ρ => ∃ o, ρ = [some (.imm (.int p)), some (.imm (.int (n : Int))), some (.imm (.int (p ^ i))), o]) (ei_range1 (ev_var rfl) (by omega)) ⟨_, by rw [Int.pow_zero]; rfl⟩ (fun i ρ ⟨o, q⟩ => by subst q; exact jl1 (show 3 < 4 by decide)) (fun i a ρ ha ⟨o, q⟩ => ?_) (fun ρ ⟨o, q⟩ => ?_)
  · subst q
    refine ⟨gw_name, ?_⟩
    refine sq_asg (ev_mul (ev_var rfl) (ev_var rfl) (Or.inr ⟨by omega, by omega⟩)) (show 2 < 4 by decide) ?_
    refine sw_next ⟨some (.imm (.int (a : Int))), ?_⟩
    rw [Int.pow_succ]
    rfl
  · subst q
    rw [List.length_range]
    exact sq_retV (ev_var rfl) k

abbrev S_lw_number : DSp := fun ds Φ => ∃ p : Int, ds = [.int p] ∧ 2 ≤ p ∧ p ≤ 101 ∧ ∀ v : Int, 0 ≤ v → v < p → Φ (.int v)
theorem ok_lw_number (T : Txt K mg) : FnP P w K mg base 4 (T.a 88) ["_law_store_here", "_law_prime_here"] (stoSp S_lw_number) := by
  refine fn_sto T.f_lw_number sc_lw_number (fun ds Φ h => ?_) (fun cdv A outer s H E hr ds Φ h => ⟨_, (pss_cons (ps_ret (pe_cl (ok_lw_edge T) hr T.g_lw_edge (pa_cons (pv 0) (pa_cons pe_int (pa_cons (pe_op op_sub (pv 1) pe_int) pa_nil)))))
    pss_nil), ?_⟩)
  · obtain ⟨p, rfl, h0, h1, k⟩ := h
    rfl
  obtain ⟨p, rfl, h0, h1, k⟩ := h
  exact sq_ret (ew_callSV rfl (ea_cons ev_int (ea_cons (ev_sub (ev_var rfl) ev_int) ea_nil)) ⟨0, _, rfl, by omega, by omega, fun v a b => k v a (by omega)⟩)

abbrev S_lw_other_number : DSp := fun ds Φ => ∃ p n : Int, ds = [.int p, .int n] ∧ 2 ≤ p ∧ p ≤ 101 ∧ 0 ≤ n ∧ n < p ∧ ∀ v : Int, 0 ≤ v → v < p → v ≠ n → Φ (.int v)
theorem ok_lw_other_number (T : Txt K mg) : FnP P w K mg base 3 (T.a 89) ["_law_store_here", "_law_prime_here", "_law_number_here"] (stoSp S_lw_other_number) := by
  refine fn_sto T.f_lw_other_number sc_lw_other_number (fun ds Φ h => ?_) (fun cdv A outer s H E hr ds Φ h => ⟨_, (pss_cons (ps_ret (pe_op op_mod (pe_callTy call_int1 (by rfl) T.n_int (by decide +kernel) (pa_cons (pe_op op_add (pe_op op_add (pv 2) pe_int) (pe_cl (ok_lw_take T) hr T.g_lw_take (pa_cons (pv 0) (pa_cons (pe_op op_sub (pv 1) pe_int) pa_nil)))) pa_nil)) (pv 1)))
    pss_nil), ?_⟩)
  · obtain ⟨p, n, rfl, h0, h1, h2, h3, k⟩ := h
    rfl
  obtain ⟨p, n, rfl, h0, h1, h2, h3, k⟩ := h
  refine sq_ret (EvW.imp (ew_modI (φ := fun x => n + 1 ≤ x ∧ x < n + p) (ψ := fun x => x = p) (θ := fun x => Φ (.int x)) (ew_int1 (ew_addI (φ := fun x => x = n + 1) (ψ := fun x => 0 ≤ x ∧ x < p - 1) (EvV.i (ev_add (ev_var rfl) ev_int) rfl) (ew_callSV rfl (ea_cons (ev_sub (ev_var rfl) ev_int) ea_nil) ⟨_, rfl, by omega, fun v a b => ⟨v, rfl, a, by omega⟩⟩) fun i j e f => by subst e; omega)) (EvV.i (ev_var rfl) rfl) fun i j f e => ?_) fun d ⟨i, e, f⟩ => by rw [e]; exact f)
  subst e
  refine ⟨by omega, k _ (Int.emod_nonneg _ (by omega)) (Int.emod_lt_of_pos _ (by omega)) ?_⟩
  by_cases hlt : i < j
  · rw [Int.emod_eq_of_lt (by omega) hlt]
    omega
  · rw [← Int.sub_emod_right, Int.emod_eq_of_lt (by omega) (by omega)]
    omega

abbrev S_lw_numbers : DSp := fun ds Φ => ∃ (p : Int) (n : Nat), ds = [.int p, .int (n : Int)] ∧ 2 ≤ p ∧ p ≤ 101 ∧ n ≤ 100 ∧ ∀ xs : List Int, xs.length = n → (∀ a ∈ xs, 0 ≤ a ∧ a < p) → Φ (.lst (intsD xs))
theorem ok_lw_numbers (T : Txt K mg) : FnP P w K mg base 5 (T.a 90) ["_law_store_here", "_law_prime_here", "_law_size"] (stoSp S_lw_numbers) := by
  refine fn_sto T.f_lw_numbers sc_lw_numbers (fun ds Φ h => ?_) (fun cdv A outer s H E hr ds Φ h => ⟨_, (pss_cons (ps_set (i := 3) sc_lw_numbers.nd rfl (Or.inl rfl) (pe_cl (ok_lw_take T) (hr.mono (by decide)) T.g_lw_take (pa_cons (pv 0) (pa_cons pe_int pa_nil))))
    (pss_cons (ps_if (pt_cmpR op_eq (pv 3) pe_int (nomark _))
      (pss_cons (ps_ret (pe_op op_rep (pe_lst (pa_cons pe_int pa_nil)) (pv 2)))
      pss_nil)
      pss_nil)
    (pss_cons (ps_if (pt_cmpR op_eq (pv 3) pe_int (nomark _))
      (pss_cons (ps_ret (pe_op op_rep (pe_lst (pa_cons (pe_cl (ok_lw_number T) hr T.g_lw_number (pa_cons (pv 0) (pa_cons (pv 1) pa_nil))) pa_nil)) (pv 2)))
      pss_nil)
      pss_nil)
    (pss_cons (ps_if (pt_cmpR op_eq (pv 3) pe_int (nomark _))
      (pss_cons (ps_ret (pe_op op_rep (pe_lst (pa_cons (pe_op op_sub (pv 1) pe_int) pa_nil)) (pv 2)))
      pss_nil)
      pss_nil)
    (pss_cons (ps_ret (pe_lc (own := [("_law_k", 4)]) (g := (gName 4)) (by rfl) sc_lw_numbers.nd (pi_range1 (by rfl) T.n_range (pa_cons (pv 2) pa_nil)) (blkOk_by (N := ["_law_store_here", "_law_prime_here", "_law_size", "_law_way", "_law_k"]) (sc := defScope (top 90)) (by decide +kernel)) (fun _ _ _ _ _ => (pg_name (i := 4) sc_lw_numbers.nd rfl (Or.inl rfl))) (fun _ _ _ _ _ => pts_nil) (fun _ _ _ _ _ => (pe_cl (ok_lw_number T) hr T.g_lw_number (pa_cons (pv 0) (pa_cons (pv 1) pa_nil))))))
    pss_nil))))), ?_⟩)
  · obtain ⟨p, n, rfl, h0, h1, hn, k⟩ := h
    rfl
  obtain ⟨p, n, rfl, h0, h1, hn, k⟩ := h
  refine sq_asgW (Φ := IntD fun _ => True) (ew_callSV rfl (ea_cons ev_int ea_nil) ⟨9, rfl, by decide, fun v _ _ => ⟨v, rfl, trivial⟩⟩) (show 3 < 5 by decide) ?_
  rintro _ ⟨wy, rfl, _⟩
  have krep : ∀ v : Int, 0 ≤ v → v < p → Φ (.lst (List.replicate n (.int v))) := fun v a b => by
    have h := k (List.replicate n v) (by rw [List.length_replicate]) fun c hc => by rw [(List.mem_replicate.mp hc).2]; exact ⟨a, b⟩
    rwa [intsD, List.map_replicate] at h
  refine sq_when (eb_test (ev_eqI (ev_var rfl) ev_int)) (fun hb => ?_) (fun hb => ?_)
  · exact sq_retV (EvFV.v (ef_rep1 (ev_lst (ea_cons ev_int ea_nil)) (ev_var rfl) (by omega))) (krep _ (by omega) (by omega))
  refine sq_when (eb_test (ev_eqI (ev_var rfl) ev_int)) (fun hb => ?_) (fun hb => ?_)
  · exact sq_ret (EvF.w (ef_repW (Ψ := IntD fun v => 0 ≤ v ∧ v < p) (ew_lst1 (ew_callSV rfl (ea_cons (ev_var rfl) ea_nil) ⟨p, rfl, h0, h1, fun v a b => ⟨v, rfl, a, b⟩⟩)) (ev_var rfl) (by omega)) fun ds ⟨v, ⟨i, e, a, b⟩, e2⟩ => by
      rw [e2, e]
      exact krep i a b)
  refine sq_when (eb_test (ev_eqI (ev_var rfl) ev_int)) (fun hb => ?_) (fun hb => ?_)
  · exact sq_retV (EvFV.v (ef_rep1 (ev_lst (ea_cons (ev_sub (ev_var rfl) ev_int) ea_nil)) (ev_var rfl) (by omega))) (krep _ (by omega) (by omega))
  refine sq_ret (EvF.w (ef_all (js := [4]) (IntD fun v => 0 ≤ v ∧ v < p) (fun d => [d]) (φ := fun xs => xs = (List.range n).map fun i : Nat => D.int (i : Int)) (ei_range1 (ev_var rfl) (by omega)) (jv1 (by decide) (show 4 < 5 by decide)) (fun xs e => by rw [e, List.length_map, List.length_range]; omega) fun xs d e _ => ⟨gw_name, ew_callSV rfl (ea_cons (ev_var rfl) ea_nil) ⟨p, rfl, h0, h1, fun v a b => ⟨v, rfl, a, b⟩⟩⟩) fun ys ⟨xs, e, hl, hy⟩ => ?_)
  obtain ⟨zs, e2, hz⟩ := ints_of hy
  subst e2 e
  refine k zs ?_ hz
  rw [intsD, List.length_map, List.length_map, List.length_range] at hl
  exact hl

abbrev S_lw_row : DSp := fun ds Φ => ∃ (x : D) (xs : List D), ds = [x] ∧ seqOf x = some xs ∧ ∀ y : D, seqOf y = some xs → Φ y
theorem ok_lw_row (T : Txt K mg) : FnP P w K mg base 3 (T.a 91) ["_law_store_here", "_law_row_here"] (stoSp S_lw_row) := by
  refine fn_sto T.f_lw_row sc_lw_row (fun ds Φ h => ?_) (fun cdv A outer s H E hr ds Φ h => ⟨_, (pss_cons (ps_if (pt_cmpR op_eq (pe_cl (ok_lw_take T) hr T.g_lw_take (pa_cons (pv 0) (pa_cons pe_int pa_nil))) pe_int (nomark _))
      (pss_cons (ps_ret (pe_callTy call_list_of (by rfl) T.n_list (by decide +kernel) (pa_cons (pv 1) pa_nil)))
      pss_nil)
      pss_nil)
    (pss_cons (ps_ret (pe_callTy call_tupK (by rfl) T.n_tuple (by decide +kernel) (pa_cons (pv 1) pa_nil)))
    pss_nil)), ?_⟩)
  · obtain ⟨x, xs, rfl, hx, k⟩ := h
    rfl
  obtain ⟨x, xs, rfl, hx, k⟩ := h
  refine sq_whenT (φ := fun _ => True) (et_test (ew_eqI (φ := fun _ => True) (ψ := fun _ => True) (θ := fun _ => True) (ew_callSV rfl (ea_cons ev_int ea_nil) ⟨2, rfl, by decide, fun v _ _ => ⟨v, rfl, trivial⟩⟩) (EvV.i ev_int trivial) fun _ _ _ _ => trivial)) (fun _ => ?_) (fun _ => ?_)
  · exact sq_retV (EvFV.v (ef_list (ev_var rfl) hx)) (k _ rfl)
  · exact sq_retV (ev_tuple (ev_var rfl) hx) (k _ (by
      cases x <;> first | exact hx | (cases hx)))

abbrev S_lw_all_rows : DSp := det fun ds d => ∃ (p n : Nat), 0 < p ∧ p ^ n ≤ 1000 ∧ n ≤ 5 ∧ ds = [.int (p : Int), .int (n : Int)] ∧ d = .lst ((rowsK p n).map fun r => .tup (intsD r))
theorem ok_lw_all_rows (T : Txt K mg) : FnP P w K mg base 1 (T.a 100) ["_law_prime_here", "_law_many"] (pureSp S_lw_all_rows) := by
  refine fn_pure T.f_lw_all_rows sc_lw_all_rows (fun ds Φ h => ?_) (fun cdv A outer s H E hr ds Φ h => ⟨_, (pss_cons (ps_set (i := 2) sc_lw_all_rows.nd rfl (Or.inl rfl) (pe_lst (pa_cons (pe_tup pa_nil) pa_nil)))
    (pss_cons (ps_for PassesOwn.never rfl (pi_range1 (by rfl) T.n_range (pa_cons (pv 1) pa_nil)) (pg_name (i := 3) sc_lw_all_rows.nd rfl (Or.inl rfl))
      (pss_cons (ps_set (i := 4) sc_lw_all_rows.nd rfl (Or.inl rfl) (pe_lst pa_nil))
      (pss_cons (ps_for PassesOwn.never rfl (pi_seq (pv 2)) (pg_name (i := 5) sc_lw_all_rows.nd rfl (Or.inl rfl))
        (pss_cons (ps_for PassesOwn.never rfl (pi_range1 (by rfl) T.n_range (pa_cons (pv 0) pa_nil)) (pg_name (i := 6) sc_lw_all_rows.nd rfl (Or.inl rfl))
          (pss_cons (ps_expr (pe_bm PySem.F.plainAttrs_list PySem.F.slot_list_append PySem.F.type_list_append mt_append (pv 4) (pa_cons (pe_op op_catA (pv 5) (pe_tup (pa_cons (pv 6) pa_nil))) pa_nil)))
          pss_nil))
        pss_nil))
      (pss_cons (ps_set (i := 2) sc_lw_all_rows.nd rfl (Or.inl rfl) (pe_callTy call_list_of (by rfl) T.n_list (by decide +kernel) (pa_cons (pv 4) pa_nil)))
      pss_nil))))
    (pss_cons (ps_ret (pv 2))
    pss_nil))), ?_⟩)
  · obtain ⟨d, ⟨p, n, h0, h1, hn, rfl, rfl⟩, k⟩ := h
    rfl
  obtain ⟨d, ⟨p, n, h0, h1, hn, rfl, rfl⟩, k⟩ := h
  have le_of : ∀ i, i ≤ n → p ^ i ≤ 1000 := fun i hi => Nat.le_trans (Nat.pow_le_pow_right h0 hi) h1
  have np : p ≤ 1000 ∨ n = 0 := by
    cases n with
    | zero => exact Or.inr rfl
    | succ n => exact Or.inl (Nat.pow_one p ▸ le_of 1 (by omega))
  refine sq_asg (EvFV.v (ef_lstV (ea_cons (ev_tup ea_nil) ea_nil))) (show 2 < 7 by decide) ?_
  refine sq_forE (js := [3]) (ys := List.range n) (emb := fun i : Nat => D.int (i : Int)) (fun a => [.int (a : Int)]) (fun i ρ => ∃ a b c d, ρ = [some (.imm (.int (p : Int))), some (.imm (.int (n : Int))), some (.imm (.lst ((rowsK p i).map fun r => .tup (intsD r)))), a, b, c, d]) (ei_range1 (ev_var rfl) (by omega)) ⟨_, _, _, _, rfl⟩ (fun i ρ ⟨a, b, c, d, q⟩ => by subst q; exact jl1 (show 3 < 7 by decide)) (fun i a ρ ha ⟨x1, x2, x3, x4, q⟩ => ?_) (fun ρ ⟨x1, x2, x3, x4, q⟩ => ?_)
  · subst q
    have hi : i < n := by
      have := (List.getElem?_eq_some_iff.mp ha).1
      rwa [List.length_range] at this
    have hlen : (rowsK p i).length * p ≤ 1000 := by rw [rowsK_len, ← Nat.pow_succ]; exact le_of (i + 1) hi
    have hp : p ≤ 1000 := by omega
    refine ⟨gw_name, ?_⟩
    refine sq_asgFV (ef_lstV ea_nil) (show 4 < 7 by decide) ?_
    refine sq_forE (js := [5]) (ys := rowsK p i) (emb := fun r => D.tup (intsD r)) (fun r => [.tup (intsD r)]) (fun j ρ => ∃ c d, ρ = [some (.imm (.int (p : Int))), some (.imm (.int (n : Int))), some (.imm (.lst ((rowsK p i).map fun r => .tup (intsD r)))), some (.imm (.int (a : Int))), some (.own ((((rowsK p i).take j).flatMap fun r => (List.range p).map fun n : Nat => r ++ [(n : Int)]).map fun r => .tup (intsD r))), c, d]) (ei_seq (ev_var rfl) rfl) ⟨_, _, rfl⟩ (fun i ρ ⟨c, d, q⟩ => by subst q; exact jl1 (show 5 < 7 by decide)) (fun j r ρ hr ⟨c, d, q⟩ => ?_) (fun ρ ⟨c, d, q⟩ => ?_)
    · subst q
      have hj : j < (rowsK p i).length := (List.getElem?_eq_some_iff.mp hr).1
      have hrl := rowsK_mem (List.mem_of_getElem? hr)
      refine ⟨gw_name, ?_⟩
      refine sq_forE (js := [6]) (ys := List.range p) (emb := fun i : Nat => D.int (i : Int)) (fun a => [.int (a : Int)]) (fun m ρ => ∃ d, ρ = [some (.imm (.int (p : Int))), some (.imm (.int (n : Int))), some (.imm (.lst ((rowsK p i).map fun r => .tup (intsD r)))), some (.imm (.int (a : Int))), some (.own ((((rowsK p i).take j).flatMap fun r => (List.range p).map fun n : Nat => r ++ [(n : Int)]).map (fun r => .tup (intsD r)) ++ (((List.range p).take m).map fun n : Nat => .tup (intsD (r ++ [(n : Int)]))))), some (.imm (.tup (intsD r))), d]) (ei_range1 (ev_var rfl) (by omega)) ⟨d, by rw [List.take_zero, List.map_nil, List.append_nil]; rfl⟩ (fun i ρ ⟨d, q⟩ => by subst q; exact jl1 (show 6 < 7 by decide)) (fun m z ρ hz ⟨d, q⟩ => ?_) (fun ρ ⟨d, q⟩ => ?_)
      · subst q
        refine ⟨gw_name, ?_⟩
        have hm : m < p := by
          have := (List.getElem?_eq_some_iff.mp hz).1
          rwa [List.length_range] at this
        have hfl : (((rowsK p i).take j).flatMap fun r => (List.range p).map fun n : Nat => r ++ [(n : Int)]).length ≤ 1000 := by
          rw [List.length_flatMap]
          have : (((rowsK p i).take j).map fun a => ((List.range p).map fun n : Nat => a ++ [(n : Int)]).length) = List.replicate j p := by
            apply List.ext_getElem
            · rw [List.length_map, List.length_take, List.length_replicate]; omega
            · intro i h1 h2
              simp
          rw [this, List.sum_replicate_nat]
          exact Nat.le_trans (Nat.mul_le_mul_right p (Nat.le_of_lt hj)) hlen
        refine sq_app rfl (ev_catT (ev_var rfl) (ev_tup (ea_cons (ev_var rfl) ea_nil)) (by rw [intsD, List.length_map, hrl.1]; show i + 1 ≤ 1000; omega)) (by rw [List.length_append, List.length_map, List.length_map, List.length_take]; omega) ?_
        refine sw_next ⟨some (.imm (.int (z : Int))), ?_⟩
        rw [take_snoc hz, List.map_append, ← List.append_assoc, List.map_cons, List.map_nil, intsD, intsD, List.map_append]
        rfl
      · subst q
        refine sw_next ⟨some (.imm (.tup (intsD r))), d, ?_⟩
        rw [show (List.range p).take (List.range p).length = List.range p from List.take_length, take_snoc hr, List.flatMap_append, List.map_append, List.flatMap_cons, List.flatMap_nil, List.append_nil, List.map_map]
        rfl
    · subst q
      rw [List.take_length]
      refine sw_freeze 4 rfl ?_
      refine sq_asg (EvFV.v (ef_list (ev_var rfl) rfl)) (show 2 < 7 by decide) ?_
      exact sw_next ⟨_, _, _, _, rfl⟩
  · subst q
    rw [List.length_range]
    exact sq_retV (ev_var rfl) k

end
end SK

set_option Elab.async false
set_option linter.all false
set_option maxRecDepth 100000
set_option maxHeartbeats 4000000
namespace SK
open PySem L2
section
variable {ρ : Env} {ta tb tc te : TE} {d x y z : D} {Φ Ψ : D → Prop} {tr : TA}
theorem ea_consV {Ψ : List D → Prop} (h : EvV ta ρ x) (hr : EvA tr ρ Ψ) : EvA (tCons ta tr) ρ (fun ds => ∃ r, ds = x :: r ∧ Ψ r) :=
  EvA.imp (ea_consW (Φ := fun y => y = x) (Ψ := fun _ => Ψ) h fun _ _ => hr) fun ds ⟨y, r, e, e2, f⟩ => ⟨r, by rw [e, e2], f⟩
theorem ea_one (h : EvW ta ρ Φ) : EvA (tCons ta tNil) ρ (fun ds => ∃ y, ds = [y] ∧ Φ y) :=
  EvA.imp (ea_consW (Ψ := fun _ ds => ds = []) h fun _ _ => ea_nil) fun ds ⟨y, r, e, f, e2⟩ => ⟨y, by rw [e, e2], f⟩
/-- [e for x in xs]: what is known of each by its place -/
theorem ef_each {α : Type} {wi : TI} {g : TG} {vs js : List Nat} {ys : List α} {emb : α → D} (dsf : α → List D) (R : α → D → Prop) (h : EvIV wi ρ (ys.map emb)) (hj : ∀ j ∈ js, j ∈ vs ∧ j < ρ.length) (hl : ys.length ≤ 100000)
    (hs : ∀ a ∈ ys, GW g (emb a) js (dsf a) ∧ EvW te (setsE (wipeE ρ vs) js (dsf a)) (R a)) : EvF (tLc wi g tYes te vs) ρ fun zs => zs.length = ys.length ∧ ∀ (i : Nat) a z, ys[i]? = some a → zs[i]? = some z → R a z :=
  ef_lc (fun _ i acc => i ≤ ys.length ∧ acc.length = i ∧ ∀ (j : Nat) a z, ys[j]? = some a → acc[j]? = some z → R a z) h hj (fun _ _ => ⟨Nat.zero_le _, rfl, fun j a z _ e => by simp at e⟩) (fun xs i d acc e hx iv => by
    subst e
    rw [List.getElem?_map] at hx
    cases q : ys[i]? with
    | none => rw [q] at hx; cases hx
    | some a =>
      rw [q] at hx
      cases hx
      have hi : i < ys.length := (List.getElem?_eq_some_iff.mp q).1
      obtain ⟨iv0, iv1, iv2⟩ := iv
      obtain ⟨h1, h2⟩ := hs a (List.mem_of_getElem? q)
      refine ⟨dsf a, h1, EvT.imp et_yes fun b' eb => ?_⟩
      rw [if_pos eb]
      refine ⟨by omega, EvW.imp h2 fun y ry => ⟨hi, by rw [List.length_append, iv1]; rfl, fun j b z e1 e2 => ?_⟩⟩
      by_cases hji : j < acc.length
      · rw [List.getElem?_append_left hji] at e2
        exact iv2 j b z e1 e2
      · rw [List.getElem?_append_right (by omega)] at e2
        by_cases hz : j - acc.length = 0
        · rw [hz] at e2
          cases e2
          have : j = i := by omega
          rw [this, q] at e1
          cases e1
          exact ry
        · rw [List.getElem?_eq_none (by rw [List.length_singleton]; omega)] at e2
          cases e2) fun xs acc e iv => by
    subst e
    rw [List.length_map] at iv
    exact ⟨iv.2.1, iv.2.2⟩
/-- tuple(x), x a list known by a word -/
theorem ew_tupleW {K : PySem.W.Frag} {φ : List Int → Prop} (h : EvW ta ρ fun d => ∃ xs : List Int, d = .lst (xs.map D.int) ∧ φ xs) : EvW (tCB (rTupK K) (tCons ta tNil)) ρ fun d => ∃ xs : List Int, seqOf d = some (xs.map D.int) ∧ φ xs := fun st σ M H s Q q =>
  h st σ M H s _ fun v d M1 H1 T1 r1 ⟨xs, e, f⟩ => by
    subst e
    obtain ⟨a, us, e1, e2, r2⟩ := r1.lst_
    refine ⟨a, us, by rw [e1], Or.inl ⟨SqL.of (T1.w.ex _ _ e2), fun l o hl ho => ?_⟩⟩
    have r3 : Reps (upd M1 l (.frz o (.tup us))) (xs.map D.int) us := r2.mono (.new (T1.w.ex.back hl))
    exact q _ (.ktp (xs.map D.int)) _ _ (T1.trans (.new T1.w hl)) (rep_ktp upd_same ho r3) ⟨xs, rfl, f⟩
/-- list(x), x a sequence of whichever kind -/
theorem ef_listS {K : PySem.W.Frag} {ds : List D} (h : EvW ta ρ fun d => seqOf d = some ds) :
    EvFV (tCB (fun xs H Q => ∃ p ys, xs = [.ref p] ∧ (SqL K H p ys ∨ SqT K H p ys) ∧ ∀ l, H l = none → Q (.ref l) (upd H l (.lst ys))) (tCons ta tNil)) ρ ds := fun st σ M H s Q q =>
  h st σ M H s _ fun v d M1 H1 T r hs => by
    obtain ⟨a, us, e1, sq, r2⟩ := r.seq (K := K) T.w.ex hs
    refine ⟨a, us, by rw [e1], sq, fun l hl => q l us ds M1 _ (T.trans (.newO T.w hl)) ?_ upd_same (T.w.ex.back hl) r2 rfl⟩
    cases e : H l with
    | none => rfl
    | some o => exact absurd hl (T.there (by rw [e]; intro z; cases z))
/-- an instance of a known class -/
theorem ev_isiC {K : PySem.W.Frag} {C Dc : Addr} {ks : List Str} {ds : List D} (h : EvV ta ρ (.obj C ks ds)) (ci : ClsI K C) (k : PySem.W.kitOne K (.ref C) (.ref Dc) = some true) : EvV (tCB (rIsi K) (tCons ta (tCons (tC (.ref Dc)) tNil))) ρ (.bl true) :=
  ev_isi h k (.own Dc) fun C' ks' ds' e => by
    cases e
    exact ci
theorem ew_min2 {φ ψ θ : Int → Prop} (ha : EvW ta ρ (IntD φ)) (hb : EvW tb ρ (IntD ψ)) (h : ∀ i j, φ i → ψ j → θ (min i j)) : EvW (tCB (fun xs H Q => ∃ i j, xs = [V.int i, V.int j] ∧ Q (.int (if j < i then j else i)) H) (tCons ta (tCons tb tNil))) ρ (IntD θ) := fun st σ M H s Q q =>
  (ea_consW ha fun _ _ => ea_one hb) st σ M H s _ fun vs ds M1 H1 T r ⟨x, r', e1, ⟨i, e2, f⟩, y, e3, j, e4, g⟩ => by
    subst e1 e2 e3 e4
    obtain ⟨v, w, e5, r1, r2⟩ := two_of r
    refine ⟨i, j, by rw [e5, r1.int_, r2.int_], ?_⟩
    refine q _ (.int (if j < i then j else i)) M1 H1 T rep_int ⟨_, rfl, ?_⟩
    have e : (if j < i then j else i) = min i j := by split <;> omega
    rw [e]
    exact h i j f g
end
section
variable {ρ : Env} {c : TT} {t w u : TS} {P : Post}
/-- an if, both ways meeting -/
theorem sq_ifJ {b : Bool} (I : Env → Prop) (h : EvB c ρ b) (h1 : b = true → SW t ρ { P with nx := I }) (h2 : b = false → SW w ρ { P with nx := I }) (k : ∀ ρ', I ρ' → SW u ρ' P) : SW (tSeq (tIfS c t w) u) ρ P :=
  sq_ifB h (fun e => SW.imp (h1 e) k (fun _ h => h) (fun _ h => h) (fun _ h => h) (fun _ _ h => h)) fun e => SW.imp (h2 e) k (fun _ h => h) (fun _ h => h) (fun _ h => h) (fun _ _ h => h)
end
end SK

set_option Elab.async false
set_option linter.all false
set_option maxRecDepth 100000
set_option maxHeartbeats 4000000
namespace SK
open PySem L2
theorem get_getD {l : List Int} {i : Nat} (h : i < l.length) : l[i]? = some (l.getD i 0) := by
  rw [List.getD_eq_getElem?_getD, List.getElem?_eq_getElem h, Option.getD_some]
theorem mul_step {v a p : Int} (y : Int) (h : v % p = a % p) : (v * (y % p) % p) % p = a * y % p := by
  rw [Int.emod_emod_of_dvd _ (Int.dvd_refl p), Int.mul_emod, Int.emod_emod_of_dvd _ (Int.dvd_refl p), h, ← Int.mul_emod]
theorem add_step {u v a b p : Int} (h : u = a % p) (h2 : v % p = b % p) : (u + v) % p = (a + b) % p := by
  rw [h, Int.add_emod, Int.emod_emod_of_dvd _ (Int.dvd_refl p), h2, ← Int.add_emod]
theorem wp_take {xs e : List Int} {m : Nat} (h : m < xs.length) (h2 : m < e.length) : wp (xs.take (m + 1)) e = wp (xs.take m) e * (xs.getD m 0) ^ (e.getD m 0).toNat := by
  have hl : (xs.take m).length = m := by rw [List.length_take]; omega
  rw [take_snoc (get_getD h), wp_snoc _ _ _ (by rw [hl]; exact h2)]
  congr 3
  simp only [hl]
  rw [List.getD_eq_getElem?_getD, List.getElem?_eq_getElem h2, Option.getD_some]
theorem zw_snoc (a : List Int) (z : Int) : zw (a ++ [z]) = if z = 0 then 2 * zw a else zw a := by
  unfold zw
  rw [List.count_append]
  by_cases h : z = 0
  · rw [if_pos h, h, List.count_singleton_self, Int.pow_succ, Int.mul_comm]
  · rw [if_neg h, List.count_singleton, if_neg (by simpa using h), Nat.add_zero]
theorem zw_nil : zw [] = 1 := rfl
def wz (xs e : List Int) (j : Nat) : Int := wp (xs.take j) e * zw ((e.take j).drop (xs.length + 1))
theorem wz_zero (xs e : List Int) : wz xs e 0 = 1 := by
  unfold wz
  rw [List.take_zero, List.take_zero, List.drop_nil, zw_nil, Int.mul_one]
  rfl
theorem drop_take_nil {e : List Int} {j k : Nat} (h : j ≤ k) : (e.take j).drop k = [] := List.drop_of_length_le (by rw [List.length_take]; omega)
theorem wz_lt {xs e : List Int} {j : Nat} (h : j < xs.length) (h2 : j < e.length) : wz xs e (j + 1) = wz xs e j * (xs.getD j 0) ^ (e.getD j 0).toNat := by
  unfold wz
  rw [wp_take h h2, drop_take_nil (by omega), drop_take_nil (by omega), zw_nil, Int.mul_one, Int.mul_one]
theorem wz_eq {xs e : List Int} : wz xs e (xs.length + 1) = wz xs e xs.length := by
  unfold wz
  rw [drop_take_nil (by omega), drop_take_nil (by omega), List.take_of_length_le (by omega), List.take_length]
theorem wz_gt {xs e : List Int} {j : Nat} (h : xs.length < j) (h2 : j < e.length) : wz xs e (j + 1) = if e.getD j 0 = 0 then 2 * wz xs e j else wz xs e j := by
  unfold wz
  rw [List.take_of_length_le (show xs.length ≤ j + 1 by omega), List.take_of_length_le (show xs.length ≤ j by omega), take_snoc (get_getD h2), List.drop_append_of_le_length (by rw [List.length_take]; omega), zw_snoc]
  split
  · rw [Int.mul_left_comm]
  · rfl
theorem wz_end {xs e : List Int} (h : xs.length ≤ e.length) : wz xs e e.length = wp xs e * zw (e.drop (xs.length + 1)) := by
  unfold wz
  rw [List.take_of_length_le h, List.take_length]
theorem wsum_snoc (f : List Int → Int) (l : Kvs) (t : List Int × Int) : wsum f (l ++ [t]) = wsum f l + t.2 * f t.1 := by
  rw [wsum_append, wsum_cons, wsum_nil, Int.add_zero]
theorem rco_snoc (p : Int) (l : Kvs) (xs : List Int) (t : List Int × Int) (d : Nat) : rco p (l ++ [t]) xs d = (rco p l xs d + t.2 * (wp xs t.1 * hd d (t.1.drop xs.length))) % p := by
  unfold rco
  rw [wsum_snoc, Int.add_emod (wsum _ l % p), Int.emod_emod_of_dvd _ (Int.dvd_refl p), ← Int.add_emod]
theorem row_step {p : Int} {l : Kvs} {xs : List Int} {t : List Int × Int} {v : Int} {T : Nat} (h : xs.length < t.1.length) (he : 0 ≤ t.1.getD xs.length 0) (hv : v % p = t.2 * (wp xs t.1 * zw (t.1.drop (xs.length + 1))) % p) :
    ((List.range T).map (rco p l xs)).set (t.1.getD xs.length 0).toNat ((rco p l xs (t.1.getD xs.length 0).toNat + v) % p) = (List.range T).map (rco p (l ++ [t]) xs) := by
  have eg : t.1[xs.length] = t.1.getD xs.length 0 := by rw [List.getD_eq_getElem?_getD, List.getElem?_eq_getElem h, Option.getD_some]
  have hh : ∀ d : Nat, hd d (t.1.drop xs.length) = if t.1.getD xs.length 0 = (d : Int) then zw (t.1.drop (xs.length + 1)) else 0 := fun d => by
    unfold hd
    rw [drop_split h, ← eg]
    rfl
  generalize t.1.getD xs.length 0 = z at he hh eg ⊢
  apply List.ext_getElem?
  intro d
  rw [List.getElem?_map]
  by_cases hd : d < T
  · rw [List.getElem?_range hd]
    show _ = some (rco p (l ++ [t]) xs d)
    rw [rco_snoc, hh]
    by_cases q : z.toNat = d
    · subst q
      rw [List.getElem?_set_self (by rw [List.length_map, List.length_range]; exact hd), if_pos (by omega)]
      congr 1
      rw [Int.add_emod, hv, ← Int.add_emod]
    · rw [List.getElem?_set_ne q, List.getElem?_map, List.getElem?_range hd, if_neg (by omega), Int.mul_zero, Int.mul_zero, Int.add_zero]
      show some (rco p l xs d) = some (rco p l xs d % p)
      unfold rco
      rw [Int.emod_emod_of_dvd _ (Int.dvd_refl p)]
  · rw [List.getElem?_eq_none (by rw [List.length_set, List.length_map, List.length_range]; omega), List.getElem?_eq_none (by rw [List.length_range]; omega)]
    rfl
theorem rco_nil (p : Int) (xs : List Int) (d : Nat) : rco p [] xs d = 0 := rfl
theorem fval_snoc (p : Int) (l : Kvs) (t : List Int × Int) (xs : List Int) : fval p (l ++ [t]) xs = (fval p l xs + t.2 * wp xs t.1) % p := by
  unfold fval
  rw [wsum_snoc, Int.add_emod (wsum _ l % p), Int.emod_emod_of_dvd _ (Int.dvd_refl p), ← Int.add_emod]
theorem fval_add {p : Int} {l : Kvs} {t : List Int × Int} {xs : List Int} {v : Int} (h : v % p = t.2 * wp xs t.1 % p) : (fval p l xs + v) % p = fval p (l ++ [t]) xs := by
  rw [fval_snoc, Int.add_emod, h, ← Int.add_emod]
theorem round_eq {p : Int} {n : Nat} {rows : Kvs} (po : PairsOk n rows) {xs : List Int} (h : xs.length < n) {m : Nat} (hm : (tops n rows)[xs.length]? = some (m : Int)) : trimI ((List.range (m + 1)).map (rco p rows xs)) = rpoly p rows xs := by
  have hb := tops_bd po (List.mem_of_getElem? hm)
  unfold rpoly
  have e : m + 1 + (12 - m) = 13 := by omega
  have h2 := trimI_ext (f := rco p rows xs) (m := m + 1) (k := 12 - m) fun d hd => rco_zero po h hm (by omega)
  rw [e] at h2
  exact h2.symm
end SK

set_option Elab.async false
set_option linter.all false
set_option maxRecDepth 100000
set_option maxHeartbeats 4000000
namespace SK
open PySem PySem.Spec PyProof.Rows L2
section
variable {P : Program} {w : World} {K : PySem.W.Frag} {mg : Str → Option Value} {base : Heap}

abbrev hrD (r : List Int × Int) : D := .tup [.ktp (intsD r.1), .int r.2]

abbrev S_lw_form_value : DSp := det fun ds d => ∃ (p : Int) (n : Nat) (rows : Kvs) (xs : List Int) (x : D), seqOf x = some (intsD xs) ∧ 2 ≤ p ∧ p ≤ 101 ∧ PairsOk n rows ∧ n ≤ 100 ∧ xs.length = n ∧ (∀ a ∈ xs, 0 ≤ a ∧ a < p) ∧ ds = [.int p, .lst (rows.map termD), x] ∧ d = .int (fval p rows xs)
theorem ok_lw_form_value (T : Txt K mg) : FnP P w K mg base 2 (T.a 103) ["_law_prime_here", "_law_rows", "_law_point"] (pureSp S_lw_form_value) := by
  refine fn_pure T.f_lw_form_value sc_lw_form_value (fun ds Φ h => ?_) (fun cdv A outer s H E hr ds Φ h => ⟨_, (pss_cons (ps_set (i := 3) sc_lw_form_value.nd rfl (Or.inl rfl) pe_int)
    (pss_cons (ps_for PassesOwn.never rfl (pi_seq (pv 1)) (pg_name (i := 4) sc_lw_form_value.nd rfl (Or.inl rfl))
      (pss_cons (ps_set (i := 5) sc_lw_form_value.nd rfl (Or.inl rfl) (pe_ix ix_seq (pv 4) pe_int (fun _ _ => rfl)))
      (pss_cons (ps_for PassesOwn.never rfl (pi_range1 (by rfl) T.n_range (pa_cons (pe_callB call_len_seq (by rfl) T.n_len (by decide +kernel) (pa_cons (pv 2) pa_nil)) pa_nil)) (pg_name (i := 6) sc_lw_form_value.nd rfl (Or.inl rfl))
        (pss_cons (ps_set (i := 5) sc_lw_form_value.nd rfl (Or.inl rfl) (pe_op op_mod (pe_callTy call_int1 (by rfl) T.n_int (by decide +kernel) (pa_cons (pe_op op_mul (pv 5) (pe_cl (ok_lw_field_power T) hr T.g_lw_field_power (pa_cons (pv 0) (pa_cons (pe_ix ix_seq (pv 2) (pv 6) (fun _ _ => rfl)) (pa_cons (pe_ix ix_seq (pe_ix ix_seq (pv 4) pe_int (fun _ _ => rfl)) (pv 6) (fun _ _ => rfl)) pa_nil))))) pa_nil)) (pv 0)))
        pss_nil))
      (pss_cons (ps_set (i := 3) sc_lw_form_value.nd rfl (Or.inl rfl) (pe_op op_mod (pe_callTy call_int1 (by rfl) T.n_int (by decide +kernel) (pa_cons (pe_op op_add (pv 3) (pv 5)) pa_nil)) (pv 0)))
      pss_nil))))
    (pss_cons (ps_ret (pv 3))
    pss_nil))), ?_⟩)
  · obtain ⟨d, ⟨p, n, rows, xs, x, hx, hp1, hp2, po, hn, hl, hb, rfl, rfl⟩, k⟩ := h
    rfl
  obtain ⟨d, ⟨p, n, rows, xs, x, hx, hp1, hp2, po, hn, hl, hb, rfl, rfl⟩, k⟩ := h
  refine sq_asg ev_int (show 3 < 7 by decide) ?_
  refine sq_forE (js := [4]) (ys := rows) (emb := termD) (fun t => [termD t]) (fun i ρ => ∃ a b c, ρ = [some (.imm (.int p)), some (.imm (.lst (rows.map termD))), some (.imm x), some (.imm (.int (fval p (rows.take i) xs))), a, b, c]) (ei_seq (ev_var rfl) rfl) ⟨_, _, _, rfl⟩ (fun i ρ ⟨a, b, c, q⟩ => by subst q; exact jl1 (show 4 < 7 by decide)) (fun i t ρ ht ⟨a, b, c, q⟩ => ?_) (fun ρ ⟨a, b, c, q⟩ => ?_)
  · subst q
    have tm := List.mem_of_getElem? ht
    have tl := po.len t tm
    refine ⟨gw_name, ?_⟩
    refine sq_asg (ev_ix (ev_var rfl) ev_int rfl (at_nat (j := 1) rfl rfl)) (show 5 < 7 by decide) ?_
    refine sq_forE (js := [6]) (ys := List.range xs.length) (emb := fun i : Nat => D.int (i : Int)) (fun a => [.int (a : Int)]) (fun m ρ => ∃ v c, v % p = t.2 * wp (xs.take m) t.1 % p ∧ ρ = [some (.imm (.int p)), some (.imm (.lst (rows.map termD))), some (.imm x), some (.imm (.int (fval p (rows.take i) xs))), some (.imm (termD t)), some (.imm (.int v)), c]) (ei_range1 (EvV.is (ev_len (ev_var rfl) hx) (by rw [len_ints])) (by omega)) ⟨t.2, c, by rw [List.take_zero]; show _ = t.2 * 1 % p; rw [Int.mul_one], rfl⟩ (fun i ρ ⟨v, c, _, q⟩ => by subst q; exact jl1 (show 6 < 7 by decide)) (fun m z ρ hz ⟨v, c, hv, q⟩ => ?_) (fun ρ ⟨v, c, hv, q⟩ => ?_)
    · subst q
      obtain ⟨hm, ez⟩ := List.getElem?_eq_some_iff.mp hz
      rw [List.getElem_range] at ez
      subst ez
      rw [List.length_range] at hm
      refine ⟨gw_name, ?_⟩
      have bx := bd_getD hb hm
      have be := bd_le (po.bd t tm) m
      have pb := pow_bd p (xs.getD m 0) (t.1.getD m 0).toNat (by omega)
      refine sq_asg (ev_mod (ev_int1 (ev_mul (ev_var rfl) (ev_call (ea_cons (ev_var rfl) (ea_cons (ev_ix (ev_var rfl) (ev_var rfl) hx (at_nat rfl (getD_ints hm))) (ea_cons (ev_ix (ev_ix (ev_var rfl) ev_int rfl (at_nat (j := 0) rfl rfl)) (ev_var rfl) rfl (at_nat rfl (getD_ints (by omega)))) ea_nil))) ⟨_, ⟨p, _, _, hp1, hp2, bx.1, bx.2, be, rfl, rfl⟩, rfl⟩) (Or.inr ⟨by omega, by omega⟩))) (ev_var rfl) (by omega)) (show 5 < 7 by decide) ?_
      refine sw_next ⟨_, some (.imm (.int (m : Int))), ?_, rfl⟩
      rw [mul_step _ hv, wp_take hm (by omega), Int.mul_assoc]
    · subst q
      rw [List.length_range, List.take_length] at hv
      refine sq_asg (ev_mod (ev_int1 (ev_add (ev_var rfl) (ev_var rfl))) (ev_var rfl) (by omega)) (show 3 < 7 by decide) ?_
      refine sw_next ⟨some (.imm (termD t)), some (.imm (.int v)), c, ?_⟩
      rw [take_snoc ht, fval_add hv]
      rfl
  · subst q
    rw [List.take_length]
    exact sq_retV (ev_var rfl) k

abbrev S_lw_round_row : DSp := det fun ds d => ∃ (p : Int) (n : Nat) (rows : Kvs) (xs : List Int) (x : D), seqOf x = some (intsD xs) ∧ 2 ≤ p ∧ p ≤ 101 ∧ PairsOk n rows ∧ n ≤ 100 ∧ rows.length < 64 ∧ xs.length < n ∧ (∀ a ∈ xs, 0 ≤ a ∧ a < p) ∧ ds = [.int p, .int (n : Int), .lst (rows.map termD), x] ∧ d = .ktp (intsD (rpoly p rows xs))
theorem ok_lw_round_row (T : Txt K mg) : FnP P w K mg base 2 (T.a 104) ["_law_prime_here", "_law_places", "_law_rows", "_law_numbers_here"] (pureSp S_lw_round_row) := by
  refine fn_pure T.f_lw_round_row sc_lw_round_row (fun ds Φ h => ?_) (fun cdv A outer s H E hr ds Φ h => ⟨_, (pss_cons (ps_set (i := 4) sc_lw_round_row.nd rfl (Or.inr rfl) (pe_callB call_len_seq (by rfl) T.n_len (by decide +kernel) (pa_cons (pv 3) pa_nil)))
    (pss_cons (ps_set (i := 5) sc_lw_round_row.nd rfl (Or.inl rfl) (pe_op op_rep (pe_lst (pa_cons pe_int pa_nil)) (pe_op op_add pe_int (pe_callB (id := "max") (r := rMax K) (cr_max rfl) (by rfl) T.n_max (by decide +kernel) (pa_cons (pe_op op_cat (pe_lst (pa_cons pe_int pa_nil)) (pe_lc (own := [("_law_one", 6)]) (g := (gName 6)) (by rfl) sc_lw_round_row.nd (pi_seq (pv 2)) (blkOk_by (N := ["_law_prime_here", "_law_places", "_law_rows", "_law_numbers_here", "_law_at", "_law_row_here", "_law_one", "_law_number_here", "_law_k"]) (sc := defScope (top 104)) (by decide +kernel)) (fun _ _ _ _ _ => (pg_name (i := 6) sc_lw_round_row.nd rfl (Or.inl rfl))) (fun _ _ _ _ _ => pts_nil) (fun _ _ _ _ _ => (pe_ix (ix_seqK K rfl) (pe_ix (ix_seqK K rfl) (pv 6) pe_int (fun _ _ => rfl)) (pv 4) (fun _ _ => rfl))))) pa_nil)))))
    (pss_cons (ps_for PassesOwn.never rfl (pi_seq (pv 2)) (pg_name (i := 6) sc_lw_round_row.nd rfl (Or.inl rfl))
      (pss_cons (ps_set (i := 7) sc_lw_round_row.nd rfl (Or.inl rfl) (pe_ix ix_seq (pv 6) pe_int (fun _ _ => rfl)))
      (pss_cons (ps_for PassesOwn.never rfl (pi_range1 (by rfl) T.n_range (pa_cons (pv 1) pa_nil)) (pg_name (i := 8) sc_lw_round_row.nd rfl (Or.inl rfl))
        (pss_cons (ps_if (pt_cmpR op_lt (pv 8) (pv 4) (nomark _))
          (pss_cons (ps_set (i := 7) sc_lw_round_row.nd rfl (Or.inl rfl) (pe_op op_mod (pe_callTy call_int1 (by rfl) T.n_int (by decide +kernel) (pa_cons (pe_op op_mul (pv 7) (pe_cl (ok_lw_field_power T) hr T.g_lw_field_power (pa_cons (pv 0) (pa_cons (pe_ix ix_seq (pv 3) (pv 8) (fun _ _ => rfl)) (pa_cons (pe_ix ix_seq (pe_ix ix_seq (pv 6) pe_int (fun _ _ => rfl)) (pv 8) (fun _ _ => rfl)) pa_nil))))) pa_nil)) (pv 0)))
          pss_nil)
          (pss_cons (ps_if (PW.pt (pw_and (pt_cmpR op_gt (pv 8) (pv 4) (nomark _)) (pw_and1 (pt_cmpR op_eq (pe_ix ix_seq (pe_ix ix_seq (pv 6) pe_int (fun _ _ => rfl)) (pv 8) (fun _ _ => rfl)) pe_int (nomark _)))))
            (pss_cons (ps_set (i := 7) sc_lw_round_row.nd rfl (Or.inl rfl) (pe_op op_mul pe_int (pv 7)))
            pss_nil)
            pss_nil)
          pss_nil))
        pss_nil))
      (pss_cons (ps_asg (pe_op op_mod (pe_callTy call_int1 (by rfl) T.n_int (by decide +kernel) (pa_cons (pe_op op_add (pe_ix ix_seq (pv 5) (pe_ix ix_seq (pe_ix ix_seq (pv 6) pe_int (fun _ _ => rfl)) (pv 4) (fun _ _ => rfl)) (fun _ _ => rfl)) (pv 7)) pa_nil)) (pv 0)) (pg_sub (pv 5) (pe_ix ix_seq (pe_ix ix_seq (pv 6) pe_int (fun _ _ => rfl)) (pv 4) (fun _ _ => rfl)) set_list))
      pss_nil))))
    (pss_cons (ps_ret (pe_cl (ok_lw_trim T) hr T.g_lw_trim (pa_cons (pv 5) pa_nil)))
    pss_nil)))), ?_⟩)
  · obtain ⟨d, ⟨p, n, rows, xs, x, hx, hp1, hp2, po, hn, hr2, hl, hb, rfl, rfl⟩, k⟩ := h
    rfl
  obtain ⟨d, ⟨p, n, rows, xs, x, hx, hp1, hp2, po, hn, hr2, hl, hb, rfl, rfl⟩, k⟩ := h
  refine sq_asg (EvV.is (ev_len (ev_var rfl) hx) (by rw [len_ints])) (show 4 < 9 by decide) ?_
  obtain ⟨m1, m2, m3⟩ := foldl_max_ge (rows.map fun t => t.1.getD xs.length 0) 0
  have ht0 := tops_at (rows := rows) hl
  have htb := tops_bd po (List.mem_of_getElem? ht0)
  generalize hM : (rows.map fun t => t.1.getD xs.length 0).foldl max 0 = M at *
  obtain ⟨m, rfl⟩ := Int.eq_ofNat_of_zero_le htb.1
  refine sq_asgFV (ds := (List.range (m + 1)).map fun d => D.int (rco p [] xs d)) (by
    have h : (List.range (m + 1)).map (fun d => D.int (rco p [] xs d)) = List.replicate (1 + m) (.int 0) := by
      apply List.ext_getElem
      · simp; omega
      · intro i h1 h2
        simp [rco_nil]
    rw [h]
    refine ef_rep1 (n := 1 + m) (ev_lst (ea_cons ev_int ea_nil)) (EvV.is (ev_add ev_int (ev_maxL (ns := 0 :: rows.map fun t => t.1.getD xs.length 0) (EvV.is (EvFV.v (ef_cat (ev_lst (ea_cons ev_int ea_nil)) (EvFV.v (ef_mapE (js := [6]) (ys := rows) (emb := termD) (fun t => [termD t]) (fun t => D.int (t.1.getD xs.length 0)) (ei_seq (ev_var rfl) rfl) (jv1 (by decide) (show 6 < 9 by decide)) (by omega) (fun t ht => ⟨gw_name, ev_ix (ev_ix (ev_var rfl) ev_int rfl (at_nat (j := 0) rfl rfl)) (ev_var rfl) rfl (at_nat rfl (getD_ints (by rw [po.len t ht]; exact hl)))⟩))) (by simp; omega))) ?_) ?_ ?_)) (congrArg D.int (by omega : (1 : Int) + (m : Int) = ((1 + m : Nat) : Int)))) (by omega)
    · rw [List.map_cons, List.map_map]
      rfl
    · rcases m3 with m3 | m3
      · rw [m3]; exact List.mem_cons_self ..
      · exact List.mem_cons_of_mem _ m3
    · intro y hy
      rcases List.mem_cons.mp hy with e | hy
      · rw [e]; exact m1
      · exact m2 y hy) (show 5 < 9 by decide) ?_
  refine sq_forE (js := [6]) (ys := rows) (emb := termD) (fun t => [termD t]) (fun i ρ => ∃ a b c, ρ = [some (.imm (.int p)), some (.imm (.int (n : Int))), some (.imm (.lst (rows.map termD))), some (.imm x), some (.imm (.int (xs.length : Int))), some (.own ((List.range (m + 1)).map fun d => D.int (rco p (rows.take i) xs d))), a, b, c]) (ei_seq (ev_var rfl) rfl) ⟨_, _, _, rfl⟩ (fun i ρ ⟨a, b, c, q⟩ => by subst q; exact jl1 (show 6 < 9 by decide)) (fun i t ρ ht ⟨a, b, c, q⟩ => ?_) (fun ρ ⟨a, b, c, q⟩ => ?_)
  · subst q
    have tm := List.mem_of_getElem? ht
    have tl := po.len t tm
    refine ⟨gw_name, ?_⟩
    refine sq_asg (ev_ix (ev_var rfl) ev_int rfl (at_nat (j := 1) rfl rfl)) (show 7 < 9 by decide) ?_
    refine sq_forE (js := [8]) (ys := List.range n) (emb := fun i : Nat => D.int (i : Int)) (fun a => [.int (a : Int)]) (fun j ρ => ∃ v c, v % p = t.2 * wz xs t.1 j % p ∧ ρ = [some (.imm (.int p)), some (.imm (.int (n : Int))), some (.imm (.lst (rows.map termD))), some (.imm x), some (.imm (.int (xs.length : Int))), some (.own ((List.range (m + 1)).map fun d => D.int (rco p (rows.take i) xs d))), some (.imm (termD t)), some (.imm (.int v)), c]) (ei_range1 (ev_var rfl) (by omega)) ⟨t.2, c, by rw [wz_zero, Int.mul_one], rfl⟩ (fun i ρ ⟨v, c, _, q⟩ => by subst q; exact jl1 (show 8 < 9 by decide)) (fun j z ρ hz ⟨v, c, hv, q⟩ => ?_) (fun ρ ⟨v, c, hv, q⟩ => ?_)
    · subst q
      obtain ⟨hj, ez⟩ := List.getElem?_eq_some_iff.mp hz
      rw [List.getElem_range] at ez
      subst ez
      rw [List.length_range] at hj
      have hte : j < t.1.length := by omega
      refine ⟨gw_name, ?_⟩
      refine sq_ifB (eb_test (ev_lt (ev_var rfl) (ev_var rfl))) (fun hb2 => ?_) (fun hb2 => ?_)
      · have hjx : j < xs.length := by have := of_decide_eq_true hb2; omega
        have bx := bd_getD hb hjx
        have be := bd_le (po.bd t tm) j
        have pb := pow_bd p (xs.getD j 0) (t.1.getD j 0).toNat (by omega)
        refine sq_asg (ev_mod (ev_int1 (ev_mul (ev_var rfl) (ev_call (ea_cons (ev_var rfl) (ea_cons (ev_ix (ev_var rfl) (ev_var rfl) hx (at_nat rfl (getD_ints hjx))) (ea_cons (ev_ix (ev_ix (ev_var rfl) ev_int rfl (at_nat (j := 0) rfl rfl)) (ev_var rfl) rfl (at_nat rfl (getD_ints hte))) ea_nil))) ⟨_, ⟨p, _, _, hp1, hp2, bx.1, bx.2, be, rfl, rfl⟩, rfl⟩) (Or.inr ⟨by omega, by omega⟩))) (ev_var rfl) (by omega)) (show 7 < 9 by decide) ?_
        refine sw_next (sw_next ⟨_, some (.imm (.int (j : Int))), ?_, rfl⟩)
        rw [mul_step _ hv, wz_lt hjx hte, Int.mul_assoc]
      · have hjx : xs.length ≤ j := by have := of_decide_eq_false hb2; omega
        refine sq_when (eb_and (eb_test (ev_gt (ev_var rfl) (ev_var rfl))) fun _ => (eb_test (ev_eqI (ev_ix (ev_ix (ev_var rfl) ev_int rfl (at_nat (j := 0) rfl rfl)) (ev_var rfl) rfl (at_nat rfl (getD_ints hte))) ev_int))) (fun hb3 => ?_) (fun hb3 => ?_)
        · simp only [Bool.and_eq_true, decide_eq_true_eq] at hb3
          refine sq_asg (ev_mul ev_int (ev_var rfl) (Or.inl (by decide))) (show 7 < 9 by decide) ?_
          refine sw_next (sw_next (sw_next ⟨_, some (.imm (.int (j : Int))), ?_, rfl⟩))
          rw [wz_gt (by omega) hte, if_pos hb3.2, Int.mul_emod, hv, ← Int.mul_emod, Int.mul_left_comm]
        · simp only [Bool.and_eq_false_iff, decide_eq_false_iff_not] at hb3
          refine sw_next (sw_next ⟨v, some (.imm (.int (j : Int))), ?_, rfl⟩)
          by_cases hje : j = xs.length
          · rw [hje, wz_eq, ← hje]
            exact hv
          · rw [wz_gt (by omega) hte, if_neg (by rcases hb3 with h | h; omega; exact h)]
            exact hv
    · subst q
      rw [List.length_range, ← tl, wz_end (by omega)] at hv
      have be := bd_le (po.bd t tm) xs.length
      have hte : xs.length < t.1.length := by omega
      have hle : t.1.getD xs.length 0 ≤ (m : Int) := tops_ge ht0 tm
      have hlt : (t.1.getD xs.length 0).toNat < m + 1 := by omega
      have hix : ∀ {ρ : Env}, ρ[6]? = some (some (.imm (termD t))) → ρ[4]? = some (some (.imm (.int (xs.length : Int)))) → EvV (tOp (rIx K) (tOp (rIx K) (tVar 6) (tC (.int 0))) (tVar 4)) ρ (.int (((t.1.getD xs.length 0).toNat : Nat) : Int)) := fun h1 h2 => EvV.is (ev_ix (ev_ix (ev_var h1) ev_int rfl (at_nat (j := 0) rfl rfl)) (ev_var h2) rfl (at_nat rfl (getD_ints hte))) (by rw [Int.toNat_of_nonneg be.1])
      have hro : ((List.range (m + 1)).map fun d => D.int (rco p (rows.take i) xs d))[(t.1.getD xs.length 0).toNat]? = some (.int (rco p (rows.take i) xs (t.1.getD xs.length 0).toNat)) := by
        rw [List.getElem?_map, List.getElem?_range hlt]
        rfl
      refine sq_setI (i := (t.1.getD xs.length 0).toNat) rfl (ev_mod (ev_int1 (ev_add (ev_ixO rfl (hix rfl rfl) (at_nat rfl hro)) (ev_var rfl))) (ev_var rfl) (by omega)) (hix rfl rfl) (by rw [List.length_map, List.length_range]; exact hlt) ?_
      refine sw_next ⟨some (.imm (termD t)), some (.imm (.int v)), c, ?_⟩
      have rs := congrArg intsD (row_step (T := m + 1) (l := rows.take i) hte be.1 hv)
      rw [intsD, intsD, List.map_set, List.map_map, List.map_map, ← take_snoc ht] at rs
      exact congrArg (fun z => [some (.imm (.int p)), some (.imm (.int (n : Int))), some (.imm (.lst (rows.map termD))), some (.imm x), some (.imm (.int (xs.length : Int))), some (.own z), some (.imm (termD t)), some (.imm (.int v)), c]) rs
  · subst q
    rw [List.take_length]
    refine sw_freeze 5 rfl ?_
    have e1 : ((List.range (m + 1)).map fun d => D.int (rco p rows xs d)) = intsD ((List.range (m + 1)).map (rco p rows xs)) := by rw [intsD, List.map_map]; rfl
    rw [← round_eq po hl ht0] at k
    exact sq_retV (ev_call (ea_cons (ev_var rfl) ea_nil) ⟨_, ⟨_, _, Or.inl rfl, by rw [← e1], rfl⟩, rfl⟩) k

end
end SK

set_option Elab.async false
set_option linter.all false
set_option maxRecDepth 100000
set_option maxHeartbeats 4000000
namespace SK
open PySem PySem.Spec PyProof.Rows L2
section
variable {P : Program} {w : World} {K : PySem.W.Frag} {mg : Str → Option Value} {base : Heap}

abbrev S_lw_honest_rounds : DSp := det fun ds d => ∃ (p : Int) (n : Nat) (rows : Kvs) (xs : List Int) (x : D), seqOf x = some (intsD xs) ∧ 2 ≤ p ∧ p ≤ 101 ∧ PairsOk n rows ∧ n ≤ 100 ∧ rows.length < 64 ∧ xs.length = n ∧ (∀ a ∈ xs, 0 ≤ a ∧ a < p) ∧ ds = [.int p, .int (n : Int), .lst (rows.map termD), x] ∧ d = .lst ((hrounds p rows xs n).map hrD)
theorem ok_lw_honest_rounds (T : Txt K mg) : FnP P w K mg base 3 (T.a 105) ["_law_prime_here", "_law_places", "_law_rows", "_law_numbers_here"] (pureSp S_lw_honest_rounds) := by
  refine fn_pure T.f_lw_honest_rounds sc_lw_honest_rounds (fun ds Φ h => ?_) (fun cdv A outer s H E hr ds Φ h => ⟨_, (pss_cons (ps_ret (pe_lc (own := [("_law_k", 4)]) (g := (gName 4)) (by rfl) sc_lw_honest_rounds.nd (pi_range1 (by rfl) T.n_range (pa_cons (pv 1) pa_nil)) (blkOk_by (N := ["_law_prime_here", "_law_places", "_law_rows", "_law_numbers_here", "_law_k"]) (sc := defScope (top 105)) (by decide +kernel)) (fun _ _ _ _ _ => (pg_name (i := 4) sc_lw_honest_rounds.nd rfl (Or.inl rfl))) (fun _ _ _ _ _ => pts_nil) (fun _ _ _ _ _ => (pe_tup (pa_cons (pe_cl (ok_lw_round_row T) hr T.g_lw_round_row (pa_cons (pv 0) (pa_cons (pv 1) (pa_cons (pv 2) (pa_cons (pe_slice (sl_seqK K rfl) (pv 3) po_none (po_some (pv 4))) pa_nil))))) (pa_cons (pe_ix (ix_seqK K rfl) (pv 3) (pv 4) (fun _ _ => rfl)) pa_nil))))))
    pss_nil), ?_⟩)
  · obtain ⟨d, ⟨p, n, rows, xs, x, hx, hp1, hp2, po, hn, hr2, hl, hb, rfl, rfl⟩, k⟩ := h
    rfl
  obtain ⟨d, ⟨p, n, rows, xs, x, hx, hp1, hp2, po, hn, hr2, hl, hb, rfl, rfl⟩, k⟩ := h
  refine sq_retV (EvV.is (EvFV.v (ef_mapE (js := [4]) (ys := List.range n) (emb := fun i : Nat => D.int (i : Int)) (fun j => [D.int (j : Int)]) (fun j : Nat => hrD (rpoly p rows (xs.take j), xs.getD j 0)) (ei_range1 (ev_var rfl) (by omega)) (jv1 (by decide) (show 4 < 5 by decide)) (by rw [List.length_range]; omega) (fun j hj => ⟨gw_name, ?_⟩))) (by unfold hrounds; rw [List.map_map]; rfl)) k
  have hjn : j < n := List.mem_range.mp hj
  have hjx : j < xs.length := by omega
  refine ev_tup (ea_cons (ew_callW (ea_consV (ev_var rfl) (ea_consV (ev_var rfl) (ea_consV (ev_var rfl) (ea_one (ew_slS (ev_var rfl) hx eo_none (eo_some (ev_var rfl))))))) (fun ds ⟨_, e1, _, e2, _, e3, y, e4, hy⟩ => ?_)) (ea_cons (ev_ix (ev_var rfl) (ev_var rfl) hx (at_nat rfl (getD_ints hjx))) ea_nil))
  subst e1 e2 e3 e4
  rw [cut_take, intsD, ← List.map_take] at hy
  exact ⟨_, ⟨p, n, rows, xs.take j, y, hy, hp1, hp2, po, hn, hr2, by rw [List.length_take]; omega, bd_take hb j, rfl, rfl⟩, rfl⟩

abbrev S_lw_drawn_claim : DSp := fun ds Φ => ∃ (p : Int) (n : Nat), ds = [.int p, .int (n : Int), .int 8] ∧ PrimeOk p ∧ n ≤ 5 ∧ ∀ (rows : Kvs) (told : List Int), COk p n rows told (csum p rows) → Φ (.tup [.lst (rows.map termD), .lst (intsD told), .int (csum p rows)])
theorem ok_lw_drawn_claim (T : Txt K mg) : FnP P w K mg base 4 (T.a 106) ["_law_store_here", "_law_prime_here", "_law_places", "_law_many"] (stoSp S_lw_drawn_claim) := by
  refine fn_sto T.f_lw_drawn_claim sc_lw_drawn_claim (fun ds Φ h => ?_) (fun cdv A outer s H E hr ds Φ h => ⟨_, (pss_cons (ps_set (i := 4) sc_lw_drawn_claim.nd rfl (Or.inr rfl) (pe_cl (ok_lw_pick T) hr T.g_lw_pick (pa_cons (pv 0) (pa_cons (pe_lst (pa_cons pe_int (pa_cons pe_int (pa_cons pe_int (pa_cons pe_int (pa_cons pe_int pa_nil)))))) pa_nil))))
    (pss_cons (ps_set (i := 5) sc_lw_drawn_claim.nd rfl (Or.inl rfl) (pe_lst pa_nil))
    (pss_cons (ps_for PassesOwn.never rfl (pi_range1 (by rfl) T.n_range (pa_cons (pe_cl (ok_lw_pick T) hr T.g_lw_pick (pa_cons (pv 0) (pa_cons (pe_lst (pa_cons pe_int (pa_cons pe_int (pa_cons pe_int (pa_cons pe_int (pa_cons pe_int (pa_cons pe_int (pa_cons (pv 3) pa_nil)))))))) pa_nil))) pa_nil)) (pg_name (i := 6) sc_lw_drawn_claim.nd rfl (Or.inl rfl))
      (pss_cons (ps_set (i := 7) sc_lw_drawn_claim.nd rfl (Or.inl rfl) (pe_callTy call_tupK (by rfl) T.n_tuple (by decide +kernel) (pa_cons (pe_lc (own := [("_law_j", 12)]) (g := (gName 12)) (by rfl) sc_lw_drawn_claim.nd (pi_range1 (by rfl) T.n_range (pa_cons (pv 2) pa_nil)) (blkOk_by (N := ["_law_store_here", "_law_prime_here", "_law_places", "_law_many", "_law_most", "_law_pairs", "_law_k", "_law_exponents", "_law_rows", "_law_told", "_law_due", "_law_top", "_law_j"]) (sc := defScope (top 106)) (by decide +kernel)) (fun _ _ _ _ _ => (pg_name (i := 12) sc_lw_drawn_claim.nd rfl (Or.inl rfl))) (fun _ _ _ _ _ => pts_nil) (fun _ _ _ _ _ => (pe_cl (ok_lw_edge T) hr T.g_lw_edge (pa_cons (pv 0) (pa_cons pe_int (pa_cons (pv 4) pa_nil)))))) pa_nil)))
      (pss_cons (ps_expr (pe_bm PySem.F.plainAttrs_list PySem.F.slot_list_append PySem.F.type_list_append mt_append (pv 5) (pa_cons (pe_tup (pa_cons (pv 7) (pa_cons (pe_op op_add pe_int (pe_cl (ok_lw_take T) (hr.mono (by decide)) T.g_lw_take (pa_cons (pv 0) (pa_cons (pe_op op_sub (pv 1) pe_int) pa_nil)))) pa_nil))) pa_nil)))
      pss_nil)))
    (pss_cons (ps_set (i := 8) sc_lw_drawn_claim.nd rfl (Or.inl rfl) (pe_cl (ok_lw_form_rows T) (hr.mono (by decide)) T.g_lw_form_rows (pa_cons (pv 1) (pa_cons (pv 5) pa_nil))))
    (pss_cons (ps_setLc (i := 9) (own := [("_law_top", 11)]) (g := (gName 11)) (by rfl) sc_lw_drawn_claim.nd rfl rfl (sw_true rfl rfl rfl (by decide +kernel)) (pi_seq (pe_cl (ok_lw_form_tops T) (hr.mono (by decide)) T.g_lw_form_tops (pa_cons (pv 2) (pa_cons (pv 8) pa_nil)))) (blkOk_by (N := ["_law_store_here", "_law_prime_here", "_law_places", "_law_many", "_law_most", "_law_pairs", "_law_k", "_law_exponents", "_law_rows", "_law_told", "_law_due", "_law_top", "_law_j"]) (sc := defScope (top 106)) (by decide +kernel)) (fun _ _ _ _ _ => (pg_name (i := 11) sc_lw_drawn_claim.nd rfl (Or.inl rfl))) (fun _ _ _ _ _ => pts_nil) (fun _ _ _ _ _ => (pe_callB (call_min2 rfl) (by rfl) T.n_min (by decide +kernel) (pa_cons pe_int (pa_cons (pe_op op_add (pv 11) (pe_cl (ok_lw_pick T) hr T.g_lw_pick (pa_cons (pv 0) (pa_cons (pe_lst (pa_cons pe_int (pa_cons pe_int (pa_cons pe_int (pa_cons pe_int pa_nil))))) pa_nil)))) pa_nil)))))
    (pss_cons (ps_if (pt_cmpR op_eq (pv 2) pe_int (nomark _))
      (pss_cons (ps_set (i := 10) sc_lw_drawn_claim.nd rfl (Or.inl rfl) (pe_cl (ok_lw_form_value T) (hr.mono (by decide)) T.g_lw_form_value (pa_cons (pv 1) (pa_cons (pv 8) (pa_cons (pe_tup pa_nil) pa_nil)))))
      pss_nil)
      (pss_cons (ps_set (i := 10) sc_lw_drawn_claim.nd rfl (Or.inl rfl) (pe_cl (ok_lw_poly_ends T) (hr.mono (by decide)) T.g_lw_poly_ends (pa_cons (pv 1) (pa_cons (pe_cl (ok_lw_round_row T) (hr.mono (by decide)) T.g_lw_round_row (pa_cons (pv 1) (pa_cons (pv 2) (pa_cons (pv 8) (pa_cons (pe_lst pa_nil) pa_nil))))) pa_nil))))
      pss_nil))
    (pss_cons (ps_ret (pe_tup (pa_cons (pv 8) (pa_cons (pv 9) (pa_cons (pv 10) pa_nil)))))
    pss_nil))))))), ?_⟩)
  · obtain ⟨p, n, rfl, hp, hn, k⟩ := h
    rfl
  obtain ⟨p, n, rfl, hp, hn, k⟩ := h
  have hp1 := hp.1
  have hp2 := hp.2.1
  refine sq_asgW (Φ := IntD fun m => 0 ≤ m ∧ m ≤ 12) (ew_callSV rfl (ea_cons (ev_lst (ea_cons ev_int (ea_cons ev_int (ea_cons ev_int (ea_cons ev_int (ea_cons ev_int ea_nil)))))) ea_nil) ⟨_, _, rfl, rfl, by decide, by decide, fun d hd => ?_⟩) (show 4 < 13 by decide) ?_
  · simp only [List.mem_cons, List.not_mem_nil, or_false] at hd
    rcases hd with h | h | h | h | h <;> exact ⟨_, h, by decide, by decide⟩
  rintro _ ⟨mo, rfl, hmo⟩
  refine sq_asgFV (ef_lstV ea_nil) (show 5 < 13 by decide) ?_
  refine sq_for (js := [6]) (fun xs i ρ => ∃ (ps : Kvs) (a b : Option D), ps.length = i ∧ PairsOk n ps ∧ (∀ t ∈ ps, 1 ≤ t.2 ∧ t.2 < p) ∧ ρ = [some .sto, some (.imm (.int p)), some (.imm (.int (n : Int))), some (.imm (.int 8)), some (.imm (.int mo)), some (.own (ps.map termD)), a.map SV.imm, b.map SV.imm, none, none, none, none, none]) (φ := fun xs => xs.length ≤ 8) (ei_range1W (ew_callSV rfl (ea_cons (ev_lst (ea_cons ev_int (ea_cons ev_int (ea_cons ev_int (ea_cons ev_int (ea_cons ev_int (ea_cons ev_int (ea_cons (ev_var rfl) ea_nil)))))))) ea_nil) ⟨_, _, rfl, rfl, by decide, by decide, fun d hd => ?_⟩)) (fun xs i ρ ⟨ps, a, b, _, _, _, q⟩ => by subst q; exact jl1 (show 6 < 13 by decide)) (fun xs e => ⟨[], none, none, rfl, ⟨(fun t h => by cases h), (fun t h => by cases h)⟩, (fun t h => by cases h), rfl⟩) (fun xs i d ρ e hx iv => ?_) (fun xs ρ e iv => ?_)
  · simp only [List.mem_cons, List.not_mem_nil, or_false] at hd
    rcases hd with h | h | h | h | h | h | h
    · exact ⟨0, h, by decide, by simp⟩
    · exact ⟨1, h, by decide, by simp⟩
    · exact ⟨2, h, by decide, by simp⟩
    · exact ⟨3, h, by decide, by simp⟩
    · exact ⟨4, h, by decide, by simp⟩
    · exact ⟨5, h, by decide, by simp⟩
    · exact ⟨8, h, by decide, by simp⟩
  · obtain ⟨ps, a, b, hl, po, hc, q⟩ := iv
    subst q
    have hi : i < xs.length := (List.getElem?_eq_some_iff.mp hx).1
    refine ⟨[d], gw_name, ?_⟩
    refine sq_asgW (Φ := fun z => ∃ e : List Int, z = .ktp (intsD e) ∧ e.length = n ∧ TS.Bd 13 e) (EvW.imp (ew_tupleF (ef_all (js := [12]) (IntD fun v => 0 ≤ v ∧ v ≤ 12) (fun d => [d]) (φ := fun xs => xs = (List.range n).map fun i : Nat => D.int (i : Int)) (ei_range1 (ev_var rfl) (by omega)) (jv1 (by decide) (show 12 < 13 by decide)) (fun xs e => by rw [e, List.length_map, List.length_range]; omega) fun xs d e _ => ⟨gw_name, ew_callSV rfl (ea_cons ev_int (ea_cons (ev_var rfl) ea_nil)) ⟨0, mo, rfl, hmo.1, by omega, fun v h1 h2 => ⟨v, rfl, h1, by omega⟩⟩⟩)) fun z ⟨ds, e1, ys, e2, e3, e4⟩ => ?_) (show 7 < 13 by decide) ?_
    · obtain ⟨zs, e5, hz⟩ := ints_of e4
      subst e1 e2 e5
      refine ⟨zs, rfl, ?_, fun a ha => ?_⟩
      · rw [intsD, List.length_map, List.length_map, List.length_range] at e3
        exact e3
      · have := hz a ha
        exact ⟨this.1, by omega⟩
    rintro _ ⟨ex, rfl, hex1, hex2⟩
    refine sq_appW (Φ := fun z => ∃ c : Int, z = termD (ex, c) ∧ 1 ≤ c ∧ c < p) rfl (ew_tup (ea_consV (ev_var rfl) (ea_one (ew_addI (φ := fun x => x = 1) (ψ := fun x => 0 ≤ x ∧ x < p - 1) (θ := fun x => 1 ≤ x ∧ x < p) (EvV.i ev_int rfl) (ew_callSV rfl (ea_cons (ev_sub (ev_var rfl) ev_int) ea_nil) ⟨_, rfl, by omega, fun v h1 h2 => ⟨v, rfl, h1, by omega⟩⟩) fun i j h1 h2 => by omega))) fun ds ⟨r, e1, y, e2, c, e3, e4⟩ => ?_) (by rw [List.length_map]; omega) ?_
    · subst e1 e2 e3
      exact ⟨(by decide : 2 ≤ 1000), c, rfl, e4⟩
    rintro _ ⟨c, rfl, hc1, hc2⟩
    refine sw_next ⟨ps ++ [(ex, c)], some d, some (.ktp (intsD ex)), by rw [List.length_append, hl]; rfl, ⟨fun t ht => ?_, fun t ht => ?_⟩, fun t ht => ?_, by rw [List.map_append]; rfl⟩
    · rcases List.mem_append.mp ht with m | m
      · exact po.len t m
      · rw [List.mem_singleton.mp m]; exact hex1
    · rcases List.mem_append.mp ht with m | m
      · exact po.bd t m
      · rw [List.mem_singleton.mp m]; exact hex2
    · rcases List.mem_append.mp ht with m | m
      · exact hc t m
      · rw [List.mem_singleton.mp m]; exact ⟨hc1, hc2⟩
  · obtain ⟨ps, a, b, hl, po, hc, q⟩ := iv
    subst q
    have hp0 : 0 < p := by omega
    have ro := canon_ok (p := p) hp0 po
    have lr := canon_len p ps
    refine sw_freeze 5 rfl ?_
    refine sq_asg (ev_call (ea_cons (ev_var rfl) (ea_cons (ev_var rfl) ea_nil)) ⟨_, ⟨p, n, ps, hp0, po, by omega, rfl, rfl⟩, rfl⟩) (show 8 < 13 by decide) ?_
    generalize canonR p ps = rows at ro lr
    have rpo := ro.pairs
    refine sq_asgW (Φ := fun z => ∃ told : List Int, z = .lst (intsD told) ∧ told.length = n ∧ (∀ c ∈ told, 0 ≤ c ∧ c ≤ 12) ∧ (∀ (j : Nat) (a b : Int), (tops n rows)[j]? = some a → told[j]? = some b → a ≤ b)) (EvF.w (ef_each (js := [11]) (ys := tops n rows) (emb := D.int) (fun a => [.int a]) (fun a => IntD fun v => a ≤ v ∧ 0 ≤ v ∧ v ≤ 12) (ei_seq (ev_call (ea_cons (ev_var rfl) (ea_cons (ev_var rfl) ea_nil)) ⟨_, ⟨n, rows, rpo, by omega, by omega, rfl, rfl⟩, rfl⟩) rfl) (jv1 (by decide) (show 11 < 13 by decide)) (by rw [tops_len]; omega) fun a ha => ⟨gw_name, ?_⟩) fun zs ⟨h1, h2⟩ => ?_) (show 9 < 13 by decide) ?_
    · have hb := tops_bd rpo ha
      refine EvW.imp (Φ := IntD fun v => a ≤ v ∧ 0 ≤ v ∧ v ≤ 12) ?_ fun _ h => h
      exact ew_min2 (φ := fun x => x = 12) (ψ := fun x => a ≤ x) (EvV.i ev_int rfl) (ew_addI (φ := fun x => x = a) (ψ := fun x => 0 ≤ x ∧ x ≤ 2) (EvV.i (ev_var rfl) rfl) (ew_callSV rfl (ea_cons (ev_lst (ea_cons ev_int (ea_cons ev_int (ea_cons ev_int (ea_cons ev_int ea_nil))))) ea_nil) ⟨_, _, rfl, rfl, by decide, by decide, fun d hd => by
        simp only [List.mem_cons, List.not_mem_nil, or_false] at hd
        rcases hd with h | h | h | h <;> exact ⟨_, h, by decide, by decide⟩⟩) fun i j h1 h2 => by omega) fun i j h1 h2 => by omega
    · rw [tops_len] at h1
      obtain ⟨told, e, hz⟩ := ints_of (φ := fun v => 0 ≤ v ∧ v ≤ 12) (ys := zs) fun y hy => by
        obtain ⟨i, hi⟩ := List.getElem?_of_mem hy
        have hin : i < n := by rw [← h1]; exact (List.getElem?_eq_some_iff.mp hi).1
        obtain ⟨v, e, _, h3, h4⟩ := h2 i _ y (tops_at hin) hi
        exact ⟨v, e, h3, h4⟩
      subst e
      rw [intsD, List.length_map] at h1
      refine ⟨told, rfl, h1, hz, fun j a b e1 e2 => ?_⟩
      obtain ⟨v, e, h3, _⟩ := h2 j a (.int b) e1 (by rw [intsD, List.getElem?_map, e2]; rfl)
      cases e
      exact h3
    rintro _ ⟨told, rfl, ht1, ht2, ht3⟩
    have cb : 0 ≤ csum p rows ∧ csum p rows < p := ⟨Int.emod_nonneg _ (by omega), Int.emod_lt_of_pos _ hp0⟩
    have co : COk p n rows told (csum p rows) := ⟨hp, ro, hn, by omega, ht1, ht2, ht3, cb.1, cb.2⟩
    refine sq_ifJ (fun ρ => ∃ a b c, ρ = [some .sto, some (.imm (.int p)), some (.imm (.int (n : Int))), some (.imm (.int 8)), some (.imm (.int mo)), a, b, c, some (.imm (.lst (rows.map termD))), some (.imm (.lst (intsD told))), some (.imm (.int (csum p rows))), none, none]) (eb_test (ev_eqI (ev_var rfl) ev_int)) (fun hb => ?_) (fun hb => ?_) ?_
    · have hb : n = 0 := by have := of_decide_eq_true hb; omega
      subst hb
      refine sq_asg (d := .int (csum p rows)) (EvV.is (ev_call (ea_cons (ev_var rfl) (ea_cons (ev_var rfl) (ea_cons (ev_tup ea_nil) ea_nil))) ⟨_, ⟨p, 0, rows, [], .tup [], rfl, hp1, hp2, rpo, by omega, rfl, (fun a h => by cases h), rfl, rfl⟩, rfl⟩) (by rw [fval_psum rpo rfl, csum_psum])) (show 10 < 13 by decide) ?_
      exact sw_next ⟨_, _, _, rfl⟩
    · have hb : 0 < n := by have := of_decide_eq_false hb; omega
      refine sq_asg (d := .int (csum p rows)) (EvV.is (ev_call (ea_cons (ev_var rfl) (ea_cons (ev_call (ea_cons (ev_var rfl) (ea_cons (ev_var rfl) (ea_cons (ev_var rfl) (ea_cons (ev_lst ea_nil) ea_nil)))) ⟨_, ⟨p, n, rows, [], .lst [], rfl, hp1, hp2, rpo, by omega, by omega, hb, (fun a h => by cases h), rfl, rfl⟩, rfl⟩) ea_nil)) ⟨_, ⟨p, _, hp1, rfl, rfl⟩, rfl⟩) (by rw [rpoly_ends (xs := []) rpo (by exact hb), csum_psum])) (show 10 < 13 by decide) ?_
      exact sw_next ⟨_, _, _, rfl⟩
    · rintro ρ ⟨a, b, c, rfl⟩
      exact sq_retV (ev_tup (ea_cons (ev_var rfl) (ea_cons (ev_var rfl) (ea_cons (ev_var rfl) ea_nil)))) (k rows told co)

abbrev S_lw_rows_of_coins : DSp := fun ds Φ => ∃ (p : Int) (n : Nat), ds = [.int p, .int (n : Int)] ∧ PrimeOk p ∧ n ≤ 5 ∧ ∀ ys : List D, ys.length ≤ 1000 → (∀ y ∈ ys, ∃ r : List Int, seqOf y = some (intsD r) ∧ r.length = n ∧ ∀ a ∈ r, 0 ≤ a ∧ a < p) → Φ (.lst ys)
theorem ok_lw_rows_of_coins (T : Txt K mg) : FnP P w K mg base 6 (T.a 107) ["_law_store_here", "_law_prime_here", "_law_places"] (stoSp S_lw_rows_of_coins) := by
  refine fn_sto T.f_lw_rows_of_coins sc_lw_rows_of_coins (fun ds Φ h => ?_) (fun cdv A outer s H E hr ds Φ h => ⟨_, (pss_cons (ps_if (pt_cmpR op_le (pe_cl (ok_lw_power T) (hr.mono (by decide)) T.g_lw_power (pa_cons (pv 1) (pa_cons (pv 2) pa_nil))) pe_int (nomark _))
      (pss_cons (ps_ret (pe_cl (ok_lw_all_rows T) (hr.mono (by decide)) T.g_lw_all_rows (pa_cons (pv 1) (pa_cons (pv 2) pa_nil))))
      pss_nil)
      pss_nil)
    (pss_cons (ps_ret (pe_lc (own := [("_law_k", 3)]) (g := (gName 3)) (by rfl) sc_lw_rows_of_coins.nd (pi_range1 (by rfl) T.n_range (pa_cons pe_int pa_nil)) (blkOk_by (N := ["_law_store_here", "_law_prime_here", "_law_places", "_law_k"]) (sc := defScope (top 107)) (by decide +kernel)) (fun _ _ _ _ _ => (pg_name (i := 3) sc_lw_rows_of_coins.nd rfl (Or.inl rfl))) (fun _ _ _ _ _ => pts_nil) (fun _ _ _ _ _ => (pe_callTy (r := rTupK K) call_tupK (by rfl) T.n_tuple (by decide +kernel) (pa_cons (pe_cl (ok_lw_numbers T) hr T.g_lw_numbers (pa_cons (pv 0) (pa_cons (pv 1) (pa_cons (pv 2) pa_nil)))) pa_nil)))))
    pss_nil)), ?_⟩)
  · obtain ⟨p, n, rfl, hp, hn, k⟩ := h
    rfl
  obtain ⟨p, n, rfl, hp, hn, k⟩ := h
  have hp1 := hp.1
  have hp2 := hp.2.1
  refine sq_when (eb_test (ev_le (ev_call (ea_cons (ev_var rfl) (ea_cons (ev_var rfl) ea_nil)) ⟨_, ⟨p, n, by omega, hp2, hn, rfl, rfl⟩, rfl⟩) ev_int)) (fun hb => ?_) (fun hb => ?_)
  · have hb := of_decide_eq_true hb
    obtain ⟨q, rfl⟩ := Int.eq_ofNat_of_zero_le (show 0 ≤ p by omega)
    have hq : q ^ n ≤ 16 := by exact_mod_cast hb
    refine sq_retV (ev_call (ea_cons (ev_var rfl) (ea_cons (ev_var rfl) ea_nil)) ⟨_, ⟨q, n, by omega, by omega, hn, rfl, rfl⟩, rfl⟩) (k _ (by rw [List.length_map, rowsK_len]; omega) fun y hy => ?_)
    obtain ⟨r, hr, e⟩ := List.mem_map.mp hy
    subst e
    exact ⟨r, rfl, rowsK_mem hr⟩
  · refine sq_ret (EvF.w (ef_all (js := [3]) (fun y => ∃ r : List Int, seqOf y = some (intsD r) ∧ r.length = n ∧ ∀ a ∈ r, 0 ≤ a ∧ a < p) (fun d => [d]) (φ := fun xs => xs = (List.range 3).map fun i : Nat => D.int (i : Int)) (ei_range1 ev_int (by decide)) (jv1 (by decide) (show 3 < 4 by decide)) (fun xs e => by rw [e]; decide) fun xs d e _ => ⟨gw_name, ew_tupleW (ew_callSV rfl (ea_cons (ev_var rfl) (ea_cons (ev_var rfl) ea_nil)) ⟨p, n, rfl, hp1, hp2, by omega, fun xs hl hb => ⟨xs, rfl, hl, hb⟩⟩)⟩) fun ys ⟨xs, e, hl, hy⟩ => k ys (by rw [hl, e]; decide) hy)

end
end SK

set_option Elab.async false
set_option linter.all false
set_option maxRecDepth 100000
set_option maxHeartbeats 4000000
namespace SK
open PySem PySem.Spec PyProof.Rows L2
section
variable {P : Program} {w : World} {K : PySem.W.Frag} {mg : Str → Option Value} {base : Heap}

def isN : D → Bool
  | .non => true
  | _ => false
theorem ev_isB {ρ : Env} {ta : TE} {x : D} (ha : EvV ta ρ x) : EvV (tOp (fun x y H Q => y = .non ∧ Q (.bl (decide (x = .non))) H) ta (tC .non)) ρ (.bl (isN x)) := by
  cases x <;> exact ev_isN ha
theorem ev_notB {ρ : Env} {ta : TE} {x : D} (ha : EvV ta ρ x) : EvV (tOp (fun x y H Q => y = .non ∧ Q (.bl (!decide (x = .non))) H) ta (tC .non)) ρ (.bl (!isN x)) := by
  cases x <;> exact ev_notN ha
theorem seq_notN {x : D} {ds : List D} (h : seqOf x = some ds) : isN x = false := by
  cases x <;> first | (cases h; done) | rfl
def tupOf : D → Option (List D)
  | .tup ds => some ds
  | .ktp ds => some ds
  | _ => none
/-- two data that the law holds the same, k deep -/
def SameN : Nat → D → D → Prop
  | 0, _, _ => False
  | k + 1, a, b => (a = .non ∧ b = .non) ∨ (∃ x, a = .bl x ∧ b = .bl x) ∨ (∃ i, a = .int i ∧ b = .int i) ∨ (∃ s, a = .str s ∧ b = .str s) ∨
    (∃ xs ys, ((a = .lst xs ∧ b = .lst ys) ∨ (tupOf a = some xs ∧ tupOf b = some ys)) ∧ xs.length = ys.length ∧ xs.length < 10000 ∧ ∀ (i : Nat) x y, xs[i]? = some x → ys[i]? = some y → SameN k x y)
abbrev S_same (k : Nat) : DSp := det fun ds d => ∃ a b : D, SameN k a b ∧ ds = [a, b] ∧ d = .bl true
theorem tupOf_seq {x : D} {ds : List D} (h : tupOf x = some ds) : seqOf x = some ds ∧ tyD x = .type "tuple" := by
  cases x <;> first | (cases h; done) | exact ⟨h, rfl⟩
theorem FnP.zero {x qual : Str} {st : Stmt} {f : Addr} {ps : List Str} {S : DSp} (F : ∃ fd, Fun K x qual st f fd ∧ Binds K fd ps []) (h : ∀ ds Φ, ¬ S ds Φ) : FnP P w K mg base 0 f ps (pureSp S) := by
  obtain ⟨fd, F, b⟩ := F
  exact ⟨⟨fd, ⟨fun vs H Q E ⟨M, ds, Φ, _, _, s, _⟩ => absurd s (h ds Φ), fun A outer s H args us vs Q E _ _ _ _ ⟨M, ds, Φ, _, _, z, _⟩ => absurd z (h ds Φ)⟩, b⟩, F.kp⟩
theorem ok_lw_same_at (T : Txt K mg) : ∀ k, FnP P w K mg base k (T.a 92) ["_law_actual", "_law_expected"] (pureSp (S_same k))
  | 0 => FnP.zero T.f_lw_same fun ds Φ ⟨d, ⟨a, b, z, _⟩, _⟩ => z
  | k + 1 => by
    have IH := ok_lw_same_at T k
    refine fn_pure T.f_lw_same sc_lw_same (fun ds Φ h => ?_) (fun cdv A outer s H E hr ds Φ h => ⟨_, (pss_cons (ps_if (PW.pt (pw_or (pt_cmpR op_isN (pv 1) pe_non (nomark _)) (pw_or1 (pt_cmpR op_isN (pv 0) pe_non (nomark _)))))
      (pss_cons (ps_ret (pe_and (pe_cmpR op_isN (pv 1) pe_non (nomark _)) (pe_one (pe_cmpR op_isN (pv 0) pe_non (nomark _)))))
      pss_nil)
      pss_nil)
    (pss_cons (ps_if (PW.pt (pw_or (pt_val (pe_callB call_isi (by rfl) T.n_isinstance (by decide +kernel) (pa_cons (pv 1) (pa_cons (pe_bltn (v := .ty "bool") (by rfl) T.n_bool (by decide +kernel) rfl) pa_nil)))) (pw_or1 (pt_val (pe_callB call_isi (by rfl) T.n_isinstance (by decide +kernel) (pa_cons (pv 0) (pa_cons (pe_bltn (v := .ty "bool") (by rfl) T.n_bool (by decide +kernel) rfl) pa_nil)))))))
      (pss_cons (ps_ret (pe_and (pe_callB call_isi (by rfl) T.n_isinstance (by decide +kernel) (pa_cons (pv 1) (pa_cons (pe_bltn (v := .ty "bool") (by rfl) T.n_bool (by decide +kernel) rfl) pa_nil))) (pe_and (pe_callB call_isi (by rfl) T.n_isinstance (by decide +kernel) (pa_cons (pv 0) (pa_cons (pe_bltn (v := .ty "bool") (by rfl) T.n_bool (by decide +kernel) rfl) pa_nil))) (pe_one (pe_cmpR op_eq (pv 0) (pv 1) (nomark _))))))
      pss_nil)
      pss_nil)
    (pss_cons (ps_if (pt_val (pe_callB call_isi (by rfl) T.n_isinstance (by decide +kernel) (pa_cons (pv 1) (pa_cons (pe_bltn (v := .ty "int") (by rfl) T.n_int (by decide +kernel) rfl) pa_nil))))
      (pss_cons (ps_ret (pe_and (pe_callB call_isi (by rfl) T.n_isinstance (by decide +kernel) (pa_cons (pv 0) (pa_cons (pe_bltn (v := .ty "int") (by rfl) T.n_int (by decide +kernel) rfl) pa_nil))) (pe_one (pe_cmpR op_eq (pv 0) (pv 1) (nomark _)))))
      pss_nil)
      pss_nil)
    (pss_cons (ps_if (pt_val (pe_callB call_isi (by rfl) T.n_isinstance (by decide +kernel) (pa_cons (pv 1) (pa_cons (pe_bltn (v := .ty "str") (by rfl) T.n_str (by decide +kernel) rfl) pa_nil))))
      (pss_cons (ps_ret (pe_and (pe_callB call_isi (by rfl) T.n_isinstance (by decide +kernel) (pa_cons (pv 0) (pa_cons (pe_bltn (v := .ty "str") (by rfl) T.n_str (by decide +kernel) rfl) pa_nil))) (pe_one (pe_cmpR op_eq (pv 0) (pv 1) (nomark _)))))
      pss_nil)
      pss_nil)
    (pss_cons (ps_if (pt_val (pe_callB call_isi (by rfl) T.n_isinstance (by decide +kernel) (pa_cons (pv 1) (pa_cons (pe_bltn (v := .ty "list") (by rfl) T.n_list (by decide +kernel) rfl) pa_nil))))
      (pss_cons (ps_set (i := 2) sc_lw_same.nd rfl (Or.inl rfl) (pe_callB call_isi (by rfl) T.n_isinstance (by decide +kernel) (pa_cons (pv 0) (pa_cons (pe_bltn (v := .ty "list") (by rfl) T.n_list (by decide +kernel) rfl) pa_nil))))
      pss_nil)
      (pss_cons (ps_set (i := 2) sc_lw_same.nd rfl (Or.inl rfl) (pe_and (pe_callB call_isi (by rfl) T.n_isinstance (by decide +kernel) (pa_cons (pv 1) (pa_cons (pe_bltn (v := .ty "tuple") (by rfl) T.n_tuple (by decide +kernel) rfl) pa_nil))) (pe_one (pe_callB call_isi (by rfl) T.n_isinstance (by decide +kernel) (pa_cons (pv 0) (pa_cons (pe_bltn (v := .ty "tuple") (by rfl) T.n_tuple (by decide +kernel) rfl) pa_nil))))))
      pss_nil))
    (pss_cons (ps_if (PW.pt (pw_or (pt_not (pt_val (pv 2))) (pw_or1 (pt_cmpR op_ne (pe_callB call_len_seq (by rfl) T.n_len (by decide +kernel) (pa_cons (pv 0) pa_nil)) (pe_callB call_len_seq (by rfl) T.n_len (by decide +kernel) (pa_cons (pv 1) pa_nil)) (nomark _)))))
      (pss_cons (ps_ret pe_bl)
      pss_nil)
      pss_nil)
    (pss_cons (ps_for PassesOwn.never rfl (pi_range1 (by rfl) T.n_range (pa_cons (pe_callB call_len_seq (by rfl) T.n_len (by decide +kernel) (pa_cons (pv 1) pa_nil)) pa_nil)) (pg_name (i := 3) sc_lw_same.nd rfl (Or.inl rfl))
      (pss_cons (ps_if (pt_not (pt_val (pe_cl IH hr T.g_lw_same (pa_cons (pe_ix ix_seq (pv 0) (pv 3) (fun _ _ => rfl)) (pa_cons (pe_ix ix_seq (pv 1) (pv 3) (fun _ _ => rfl)) pa_nil)))))
        (pss_cons (ps_ret pe_bl)
        pss_nil)
        pss_nil)
      pss_nil))
    (pss_cons (ps_ret pe_bl)
    pss_nil)))))))), ?_⟩)
    · obtain ⟨d, ⟨a, b, _, rfl, rfl⟩, _⟩ := h
      rfl
    obtain ⟨d, ⟨a, b, sm, rfl, rfl⟩, kk⟩ := h
    rcases sm with ⟨rfl, rfl⟩ | ⟨x, rfl, rfl⟩ | ⟨i, rfl, rfl⟩ | ⟨s, rfl, rfl⟩ | ⟨xs, ys, h1, h2, h3, h4⟩
    · refine sq_when (eb_or (eb_test (ev_isB (ev_var rfl))) fun _ => (eb_test (ev_isB (ev_var rfl)))) (fun hb => ?_) (fun hb => by cases hb)
      exact sq_retV (ev_and (ev_isB (ev_var rfl)) fun _ => (ev_isB (ev_var rfl))) kk
    · refine sq_no (eb_or (eb_test (ev_isB (ev_var rfl))) fun _ => (eb_test (ev_isB (ev_var rfl)))) rfl ?_
      refine sq_when (eb_or (eb_B (ev_isiB (ev_var rfl) rfl rfl)) fun _ => (eb_B (ev_isiB (ev_var rfl) rfl rfl))) (fun hb => ?_) (fun hb => by cases hb)
      refine sq_retV (EvV.is (ev_and (ev_isiB (ev_var rfl) rfl rfl) fun _ => (ev_and (ev_isiB (ev_var rfl) rfl rfl) fun _ => (ev_eqB (ev_var rfl) (ev_var rfl)))) (by simp)) kk
    · refine sq_no (eb_or (eb_test (ev_isB (ev_var rfl))) fun _ => (eb_test (ev_isB (ev_var rfl)))) rfl ?_
      refine sq_no (eb_or (eb_B (ev_isiB (ev_var rfl) rfl rfl)) fun _ => (eb_B (ev_isiB (ev_var rfl) rfl rfl))) rfl ?_
      refine sq_when (eb_B (ev_isiB (ev_var rfl) rfl rfl)) (fun hb => ?_) (fun hb => by cases hb)
      exact sq_retV (EvV.is (ev_and (ev_isiB (ev_var rfl) rfl rfl) fun _ => (ev_eqI (ev_var rfl) (ev_var rfl))) (by simp)) kk
    · refine sq_no (eb_or (eb_test (ev_isB (ev_var rfl))) fun _ => (eb_test (ev_isB (ev_var rfl)))) rfl ?_
      refine sq_no (eb_or (eb_B (ev_isiB (ev_var rfl) rfl rfl)) fun _ => (eb_B (ev_isiB (ev_var rfl) rfl rfl))) rfl ?_
      refine sq_no (eb_B (ev_isiB (ev_var rfl) rfl rfl)) rfl ?_
      refine sq_when (eb_B (ev_isiB (ev_var rfl) rfl rfl)) (fun hb => ?_) (fun hb => by cases hb)
      exact sq_retV (EvV.is (ev_and (ev_isiB (ev_var rfl) rfl rfl) fun _ => (ev_eqS (ev_var rfl) (ev_var rfl))) (by simp)) kk
    · have hs : seqOf a = some xs ∧ seqOf b = some ys := by
        rcases h1 with ⟨rfl, rfl⟩ | ⟨e1, e2⟩
        · exact ⟨rfl, rfl⟩
        · exact ⟨(tupOf_seq e1).1, (tupOf_seq e2).1⟩
      have hf : (tyD a = .type "list" ∧ tyD b = .type "list") ∨ (tyD a = .type "tuple" ∧ tyD b = .type "tuple") := by
        rcases h1 with ⟨rfl, rfl⟩ | ⟨e1, e2⟩
        · exact Or.inl ⟨rfl, rfl⟩
        · exact Or.inr ⟨(tupOf_seq e1).2, (tupOf_seq e2).2⟩
      refine sq_no (eb_or (eb_test (ev_isB (ev_var rfl))) fun _ => (eb_test (ev_isB (ev_var rfl)))) (by rw [seq_notN hs.1, seq_notN hs.2]; rfl) ?_
      rcases hf with ⟨ta, tb⟩ | ⟨ta, tb⟩
      · refine sq_no (eb_or (eb_B (ev_isiB (ev_var rfl) tb rfl)) fun _ => (eb_B (ev_isiB (ev_var rfl) ta rfl))) rfl ?_
        refine sq_no (eb_B (ev_isiB (ev_var rfl) tb rfl)) rfl ?_
        refine sq_no (eb_B (ev_isiB (ev_var rfl) tb rfl)) rfl ?_
        refine sq_ifJ (fun ρ => ρ = [some (.imm a), some (.imm b), some (.imm (.bl true)), none]) (eb_B (ev_isiB (ev_var rfl) tb rfl)) (fun hb => ?_) (fun hb => by cases hb) ?_
        · refine sq_asg (ev_isiB (ev_var rfl) ta rfl) (show 2 < 4 by decide) ?_
          exact sw_next rfl
        rintro ρ rfl
        refine sq_no (eb_or (eb_not (eb_B (ev_var rfl))) fun _ => (eb_test (ev_neI (ev_len (ev_var rfl) hs.1) (ev_len (ev_var rfl) hs.2)))) (by simp [h2]) ?_
        refine sq_forE (js := [3]) (ys := List.range ys.length) (emb := fun i : Nat => D.int (i : Int)) (fun i => [.int (i : Int)]) (fun i ρ => ∃ c, ρ = [some (.imm a), some (.imm b), some (.imm (.bl true)), c]) (ei_range1 (ev_len (ev_var rfl) hs.2) (by omega)) ⟨_, rfl⟩ (fun i ρ ⟨c, q⟩ => by subst q; exact jl1 (show 3 < 4 by decide)) (fun i m ρ hm ⟨c, q⟩ => ?_) (fun ρ ⟨c, q⟩ => by subst q; exact sq_retV ev_bl kk)
        subst q
        have hm : m < ys.length := List.mem_range.mp (List.mem_of_getElem? hm)
        have e1 : xs[m]? = some (xs[m]'(by omega)) := List.getElem?_eq_getElem (by omega)
        have e2 : ys[m]? = some ys[m] := List.getElem?_eq_getElem hm
        refine ⟨gw_name, ?_⟩
        refine sq_no (eb_not (eb_B (ev_call (ea_cons (ev_ix (ev_var rfl) (ev_var rfl) hs.1 (at_nat rfl e1)) (ea_cons (ev_ix (ev_var rfl) (ev_var rfl) hs.2 (at_nat rfl e2)) ea_nil)) ⟨_, ⟨_, _, h4 m _ _ e1 e2, rfl, rfl⟩, rfl⟩))) rfl ?_
        exact sw_next ⟨_, rfl⟩
      · refine sq_no (eb_or (eb_B (ev_isiB (ev_var rfl) tb rfl)) fun _ => (eb_B (ev_isiB (ev_var rfl) ta rfl))) rfl ?_
        refine sq_no (eb_B (ev_isiB (ev_var rfl) tb rfl)) rfl ?_
        refine sq_no (eb_B (ev_isiB (ev_var rfl) tb rfl)) rfl ?_
        refine sq_ifJ (fun ρ => ρ = [some (.imm a), some (.imm b), some (.imm (.bl true)), none]) (eb_B (ev_isiB (ev_var rfl) tb rfl)) (fun hb => by cases hb) (fun hb => ?_) ?_
        · refine sq_asg (EvV.is (ev_and (ev_isiB (ev_var rfl) tb rfl) fun _ => (ev_isiB (ev_var rfl) ta rfl)) rfl) (show 2 < 4 by decide) ?_
          exact sw_next rfl
        rintro ρ rfl
        refine sq_no (eb_or (eb_not (eb_B (ev_var rfl))) fun _ => (eb_test (ev_neI (ev_len (ev_var rfl) hs.1) (ev_len (ev_var rfl) hs.2)))) (by simp [h2]) ?_
        refine sq_forE (js := [3]) (ys := List.range ys.length) (emb := fun i : Nat => D.int (i : Int)) (fun i => [.int (i : Int)]) (fun i ρ => ∃ c, ρ = [some (.imm a), some (.imm b), some (.imm (.bl true)), c]) (ei_range1 (ev_len (ev_var rfl) hs.2) (by omega)) ⟨_, rfl⟩ (fun i ρ ⟨c, q⟩ => by subst q; exact jl1 (show 3 < 4 by decide)) (fun i m ρ hm ⟨c, q⟩ => ?_) (fun ρ ⟨c, q⟩ => by subst q; exact sq_retV ev_bl kk)
        subst q
        have hm : m < ys.length := List.mem_range.mp (List.mem_of_getElem? hm)
        have e1 : xs[m]? = some (xs[m]'(by omega)) := List.getElem?_eq_getElem (by omega)
        have e2 : ys[m]? = some ys[m] := List.getElem?_eq_getElem hm
        refine ⟨gw_name, ?_⟩
        refine sq_no (eb_not (eb_B (ev_call (ea_cons (ev_ix (ev_var rfl) (ev_var rfl) hs.1 (at_nat rfl e1)) (ea_cons (ev_ix (ev_var rfl) (ev_var rfl) hs.2 (at_nat rfl e2)) ea_nil)) ⟨_, ⟨_, _, h4 m _ _ e1 e2, rfl, rfl⟩, rfl⟩))) rfl ?_
        exact sw_next ⟨_, rfl⟩
theorem ok_lw_same (T : Txt K mg) : FnP P w K mg base 9 (T.a 92) ["_law_actual", "_law_expected"] (pureSp (S_same 9)) := ok_lw_same_at T 9

end
end SK

set_option Elab.async false
set_option linter.all false
set_option maxRecDepth 100000
set_option maxHeartbeats 4000000
namespace SK
open PySem PySem.Spec PyProof.Rows L2
section
variable {P : Program} {w : World} {K : PySem.W.Frag} {mg : Str → Option Value} {base : Heap}

theorem same_int {k : Nat} {i : Int} : SameN (k + 1) (.int i) (.int i) := Or.inr (Or.inr (Or.inl ⟨i, rfl, rfl⟩))
theorem same_bl {k : Nat} {i : Bool} : SameN (k + 1) (.bl i) (.bl i) := Or.inr (Or.inl ⟨i, rfl, rfl⟩)
theorem same_non {k : Nat} : SameN (k + 1) .non .non := Or.inl ⟨rfl, rfl⟩
theorem same_str {k : Nat} {s : Str} : SameN (k + 1) (.str s) (.str s) := Or.inr (Or.inr (Or.inr (Or.inl ⟨s, rfl, rfl⟩)))
theorem same_tup {k : Nat} {a b : D} {xs : List D} (h1 : tupOf a = some xs) (h2 : tupOf b = some xs) (hl : xs.length < 10000) (h : ∀ x ∈ xs, SameN k x x) : SameN (k + 1) a b :=
  Or.inr (Or.inr (Or.inr (Or.inr ⟨xs, xs, Or.inr ⟨h1, h2⟩, rfl, hl, fun i x y e1 e2 => by
    rw [e1] at e2
    cases e2
    exact h x (List.mem_of_getElem? e1)⟩)))
theorem same_lst {k : Nat} {xs : List D} (hl : xs.length < 10000) (h : ∀ x ∈ xs, SameN k x x) : SameN (k + 1) (.lst xs) (.lst xs) :=
  Or.inr (Or.inr (Or.inr (Or.inr ⟨xs, xs, Or.inl ⟨rfl, rfl⟩, rfl, hl, fun i x y e1 e2 => by
    rw [e1] at e2
    cases e2
    exact h x (List.mem_of_getElem? e1)⟩)))
theorem same_ints {k : Nat} {a b : D} {xs : List Int} (h1 : tupOf a = some (intsD xs)) (h2 : tupOf b = some (intsD xs)) (hl : xs.length < 10000) : SameN (k + 2) a b :=
  same_tup h1 h2 (by rw [len_ints]; exact hl) fun x hx => by
    obtain ⟨i, _, e⟩ := List.mem_map.mp hx
    rw [← e]
    exact same_int
theorem same_intsL {k : Nat} {xs : List Int} (hl : xs.length < 10000) : SameN (k + 2) (.lst (intsD xs)) (.lst (intsD xs)) :=
  same_lst (by rw [len_ints]; exact hl) fun x hx => by
    obtain ⟨i, _, e⟩ := List.mem_map.mp hx
    rw [← e]
    exact same_int
theorem same_2 {k : Nat} {a b c d : D} (h1 : SameN k a c) (h2 : SameN k b d) : SameN (k + 1) (.tup [a, b]) (.tup [c, d]) :=
  Or.inr (Or.inr (Or.inr (Or.inr ⟨[a, b], [c, d], Or.inr ⟨rfl, rfl⟩, rfl, (by decide : 2 < 10000), fun i x y e1 e2 => by
    match i, e1, e2 with
    | 0, e1, e2 => cases e1; cases e2; exact h1
    | 1, e1, e2 => cases e1; cases e2; exact h2
    | i + 2, e1, e2 => simp at e1⟩)))
theorem same_3 {k : Nat} {a b c a' b' c' : D} (h1 : SameN k a a') (h2 : SameN k b b') (h3 : SameN k c c') : SameN (k + 1) (.tup [a, b, c]) (.tup [a', b', c']) :=
  Or.inr (Or.inr (Or.inr (Or.inr ⟨[a, b, c], [a', b', c'], Or.inr ⟨rfl, rfl⟩, rfl, (by decide : 3 < 10000), fun i x y e1 e2 => by
    match i, e1, e2 with
    | 0, e1, e2 => cases e1; cases e2; exact h1
    | 1, e1, e2 => cases e1; cases e2; exact h2
    | 2, e1, e2 => cases e1; cases e2; exact h3
    | i + 3, e1, e2 => simp at e1⟩)))
theorem same_terms {k n : Nat} {rows : Kvs} (po : PairsOk n rows) (hn : n ≤ 100) (hl : rows.length < 64) : SameN (k + 4) (.ktp (rows.map termD)) (.ktp (rows.map termD)) :=
  same_tup rfl rfl (by rw [List.length_map]; omega) fun x hx => by
    obtain ⟨t, ht, e⟩ := List.mem_map.mp hx
    rw [← e]
    exact same_2 (same_ints rfl rfl (by rw [po.len t ht]; omega)) same_int
theorem tupD_of {x : D} {xs : List D} (h : seqOf x = some xs) : tupOf (tupD x) = some xs := by
  cases x <;> first | (cases h; done) | exact h
theorem rpoly_trim (p : Int) (rows : Kvs) (xs : List Int) : trimI (rpoly p rows xs) = rpoly p rows xs := trimI_self _
theorem rpoly_13 (p : Int) (rows : Kvs) (xs : List Int) : (rpoly p rows xs).length ≤ 13 := by
  refine Nat.le_trans (trimI_len _) ?_
  rw [List.length_map, List.length_range]
  exact Nat.le_refl _

abbrev S_lw_poly_is (T : Txt K mg) : DSp := det fun ds d => ∃ (p : Int) (cs row : List Int) (x : D), (x = .lst (intsD row) ∨ x = .ktp (intsD row)) ∧ trimI row = cs ∧ cs.length < 1000 ∧ ds = [T.poly p cs, .int p, x] ∧ d = .bl true
theorem ok_lw_poly_is (T : Txt K mg) : FnP P w K mg base 10 (T.a 93) ["_law_actual", "_law_prime_here", "_law_row_here"] (pureSp (S_lw_poly_is T)) := by
  refine fn_pure T.f_lw_poly_is sc_lw_poly_is (fun ds Φ h => ?_) (fun cdv A outer s H E hr ds Φ h => ⟨_, (pss_cons (ps_if (pt_not (pt_val (pe_callB call_isi (by rfl) T.n_isinstance (by decide +kernel) (pa_cons (pv 0) (pa_cons (pe_glob (v := .ref (T.a 31)) (by rfl) T.g_Poly rfl) pa_nil)))))
      (pss_cons (ps_ret pe_bl)
      pss_nil)
      pss_nil)
    (pss_cons (ps_ret (pe_and (pe_cl (ok_lw_same T) hr T.g_lw_same (pa_cons (pe_fld (pv 0) rfl) (pa_cons (pv 1) pa_nil))) (pe_one (pe_cl (ok_lw_same T) hr T.g_lw_same (pa_cons (pe_fld (pv 0) rfl) (pa_cons (pe_cl (ok_lw_trim T) (hr.mono (by decide)) T.g_lw_trim (pa_cons (pv 2) pa_nil)) pa_nil))))))
    pss_nil)), ?_⟩)
  · obtain ⟨d, ⟨p, cs, row, x, hx, ht, hl, rfl, rfl⟩, k⟩ := h
    rfl
  obtain ⟨d, ⟨p, cs, row, x, hx, ht, hl, rfl, rfl⟩, k⟩ := h
  refine sq_no (eb_not (eb_B (ev_isiC (ev_var rfl) T.ci_Poly T.ki_Poly))) rfl ?_
  refine sq_retV (ev_and (ev_call (ea_cons (ev_fld 0 T.cl_Poly (ev_var rfl) rfl rfl) (ea_cons (ev_var rfl) ea_nil)) ⟨_, ⟨_, _, same_int, rfl, rfl⟩, rfl⟩) fun _ => (ev_call (ea_cons (ev_fld 1 T.cl_Poly (ev_var rfl) rfl rfl) (ea_cons (ev_call (ea_cons (ev_var rfl) ea_nil) ⟨_, ⟨row, x, hx, rfl, rfl⟩, rfl⟩) ea_nil)) ⟨_, ⟨_, _, ?_, rfl, rfl⟩, rfl⟩)) k
  rw [ht]
  exact same_ints rfl rfl (by omega)

abbrev S_lw_form_is (T : Txt K mg) : DSp := det fun ds d => ∃ (p : Int) (n : Nat) (rows : Kvs), PairsOk n rows ∧ n ≤ 100 ∧ rows.length < 64 ∧ ds = [T.form p n rows, .int p, .int (n : Int), .lst (rows.map termD)] ∧ d = .bl true
theorem ok_lw_form_is (T : Txt K mg) : FnP P w K mg base 10 (T.a 94) ["_law_actual", "_law_prime_here", "_law_places", "_law_rows"] (pureSp (S_lw_form_is T)) := by
  refine fn_pure T.f_lw_form_is sc_lw_form_is (fun ds Φ h => ?_) (fun cdv A outer s H E hr ds Φ h => ⟨_, (pss_cons (ps_if (PW.pt (pw_or (pt_not (pt_val (pe_callB call_isi (by rfl) T.n_isinstance (by decide +kernel) (pa_cons (pv 0) (pa_cons (pe_glob (v := .ref (T.a 50)) (by rfl) T.g_Form rfl) pa_nil))))) (pw_or1 (pt_not (pt_val (pe_cl (ok_lw_same T) hr T.g_lw_same (pa_cons (pe_tup (pa_cons (pe_fld (pv 0) rfl) (pa_cons (pe_fld (pv 0) rfl) pa_nil))) (pa_cons (pe_tup (pa_cons (pv 1) (pa_cons (pv 2) pa_nil))) pa_nil))))))))
      (pss_cons (ps_ret pe_bl)
      pss_nil)
      pss_nil)
    (pss_cons (ps_ret (pe_and (pe_cl (ok_lw_same T) hr T.g_lw_same (pa_cons (pe_fld (pv 0) rfl) (pa_cons (pe_callTy call_tupK (by rfl) T.n_tuple (by decide +kernel) (pa_cons (pv 3) pa_nil)) pa_nil))) (pe_one (pe_cl (ok_lw_same T) hr T.g_lw_same (pa_cons (pe_fld (pv 0) rfl) (pa_cons (pe_cl (ok_lw_form_tops T) (hr.mono (by decide)) T.g_lw_form_tops (pa_cons (pv 2) (pa_cons (pv 3) pa_nil))) pa_nil))))))
    pss_nil)), ?_⟩)
  · obtain ⟨d, ⟨p, n, rows, po, hn, hl, rfl, rfl⟩, k⟩ := h
    rfl
  obtain ⟨d, ⟨p, n, rows, po, hn, hl, rfl, rfl⟩, k⟩ := h
  refine sq_no (eb_or (eb_not (eb_B (ev_isiC (ev_var rfl) T.ci_Form T.ki_Form))) fun _ => (eb_not (eb_B (ev_call (ea_cons (ev_tup (ea_cons (ev_fld 0 T.cl_Form (ev_var rfl) rfl rfl) (ea_cons (ev_fld 1 T.cl_Form (ev_var rfl) rfl rfl) ea_nil))) (ea_cons (ev_tup (ea_cons (ev_var rfl) (ea_cons (ev_var rfl) ea_nil))) ea_nil)) ⟨_, ⟨_, _, same_2 same_int same_int, rfl, rfl⟩, rfl⟩)))) rfl ?_
  exact sq_retV (ev_and (ev_call (ea_cons (ev_fld 2 T.cl_Form (ev_var rfl) rfl rfl) (ea_cons (ev_tuple (ev_var rfl) rfl) ea_nil)) ⟨_, ⟨_, _, same_terms po hn hl, rfl, rfl⟩, rfl⟩) fun _ => (ev_call (ea_cons (ev_fld 3 T.cl_Form (ev_var rfl) rfl rfl) (ea_cons (ev_call (ea_cons (ev_var rfl) (ea_cons (ev_var rfl) ea_nil)) ⟨_, ⟨n, rows, po, hn, by omega, rfl, rfl⟩, rfl⟩) ea_nil)) ⟨_, ⟨_, _, same_ints rfl rfl (by rw [tops_len]; omega), rfl, rfl⟩, rfl⟩)) k

abbrev S_lw_journal_is (T : Txt K mg) : DSp := det fun ds d => ∃ (p total : Int) (rs : List (List Int × Int)), rs.length ≤ 1000 ∧ (∀ r ∈ rs, trimI r.1 = r.1 ∧ r.1.length < 1000) ∧ ds = [T.journal p total rs, .int p, .int total, .lst (rs.map hrD)] ∧ d = .bl true
theorem ok_lw_journal_is (T : Txt K mg) : FnP P w K mg base 11 (T.a 95) ["_law_actual", "_law_prime_here", "_law_opened", "_law_rounds"] (pureSp (S_lw_journal_is T)) := by
  refine fn_pure T.f_lw_journal_is sc_lw_journal_is (fun ds Φ h => ?_) (fun cdv A outer s H E hr ds Φ h => ⟨_, (pss_cons (ps_if (PW.pt (pw_or (pt_not (pt_val (pe_callB call_isi (by rfl) T.n_isinstance (by decide +kernel) (pa_cons (pv 0) (pa_cons (pe_glob (v := .ref (T.a 63)) (by rfl) T.g_Journal rfl) pa_nil))))) (pw_or1 (pt_not (pt_val (pe_cl (ok_lw_same T) (hr.mono (by decide)) T.g_lw_same (pa_cons (pe_tup (pa_cons (pe_fld (pv 0) rfl) (pa_cons (pe_fld (pv 0) rfl) pa_nil))) (pa_cons (pe_tup (pa_cons (pv 1) (pa_cons (pv 2) pa_nil))) pa_nil))))))))
      (pss_cons (ps_ret pe_bl)
      pss_nil)
      pss_nil)
    (pss_cons (ps_if (PW.pt (pw_or (pt_not (pt_val (pe_callB call_isi (by rfl) T.n_isinstance (by decide +kernel) (pa_cons (pe_fld (pv 0) rfl) (pa_cons (pe_bltn (v := .ty "tuple") (by rfl) T.n_tuple (by decide +kernel) rfl) pa_nil))))) (pw_or1 (pt_cmpR op_ne (pe_callB call_len_seq (by rfl) T.n_len (by decide +kernel) (pa_cons (pe_fld (pv 0) rfl) pa_nil)) (pe_callB call_len_seq (by rfl) T.n_len (by decide +kernel) (pa_cons (pv 3) pa_nil)) (nomark _)))))
      (pss_cons (ps_ret pe_bl)
      pss_nil)
      pss_nil)
    (pss_cons (ps_for PassesOwn.never rfl (pi_range1 (by rfl) T.n_range (pa_cons (pe_callB call_len_seq (by rfl) T.n_len (by decide +kernel) (pa_cons (pv 3) pa_nil)) pa_nil)) (pg_name (i := 4) sc_lw_journal_is.nd rfl (Or.inl rfl))
      (pss_cons (ps_set (i := 5) sc_lw_journal_is.nd rfl (Or.inl rfl) (pe_ix ix_seq (pe_fld (pv 0) rfl) (pv 4) (fun _ _ => rfl)))
      (pss_cons (ps_if (PW.pt (pw_or (pt_not (pt_val (pe_callB call_isi (by rfl) T.n_isinstance (by decide +kernel) (pa_cons (pv 5) (pa_cons (pe_bltn (v := .ty "tuple") (by rfl) T.n_tuple (by decide +kernel) rfl) pa_nil))))) (pw_or (pt_cmpR op_ne (pe_callB call_len_seq (by rfl) T.n_len (by decide +kernel) (pa_cons (pv 5) pa_nil)) pe_int (nomark _)) (pw_or1 (pt_not (pt_val (pe_cl (ok_lw_same T) (hr.mono (by decide)) T.g_lw_same (pa_cons (pe_ix ix_seq (pv 5) pe_int (fun _ _ => rfl)) (pa_cons (pe_ix ix_seq (pe_ix ix_seq (pv 3) (pv 4) (fun _ _ => rfl)) pe_int (fun _ _ => rfl)) pa_nil)))))))))
        (pss_cons (ps_ret pe_bl)
        pss_nil)
        pss_nil)
      (pss_cons (ps_if (pt_not (pt_val (pe_cl (ok_lw_poly_is T) hr T.g_lw_poly_is (pa_cons (pe_ix ix_seq (pv 5) pe_int (fun _ _ => rfl)) (pa_cons (pv 1) (pa_cons (pe_ix ix_seq (pe_ix ix_seq (pv 3) (pv 4) (fun _ _ => rfl)) pe_int (fun _ _ => rfl)) pa_nil))))))
        (pss_cons (ps_ret pe_bl)
        pss_nil)
        pss_nil)
      pss_nil))))
    (pss_cons (ps_ret pe_bl)
    pss_nil)))), ?_⟩)
  · obtain ⟨d, ⟨p, total, rs, hl, hr2, rfl, rfl⟩, k⟩ := h
    rfl
  obtain ⟨d, ⟨p, total, rs, hl, hr2, rfl, rfl⟩, k⟩ := h
  refine sq_no (eb_or (eb_not (eb_B (ev_isiC (ev_var rfl) T.ci_Journal T.ki_Journal))) fun _ => (eb_not (eb_B (ev_call (ea_cons (ev_tup (ea_cons (ev_fld 0 T.cl_Journal (ev_var rfl) rfl rfl) (ea_cons (ev_fld 1 T.cl_Journal (ev_var rfl) rfl rfl) ea_nil))) (ea_cons (ev_tup (ea_cons (ev_var rfl) (ea_cons (ev_var rfl) ea_nil))) ea_nil)) ⟨_, ⟨_, _, same_2 same_int same_int, rfl, rfl⟩, rfl⟩)))) rfl ?_
  refine sq_no (eb_or (eb_not (eb_B (ev_isiB (ev_fld 2 T.cl_Journal (ev_var rfl) rfl rfl) rfl rfl))) fun _ => (eb_test (ev_neI (ev_len (ev_fld 2 T.cl_Journal (ev_var rfl) rfl rfl) rfl) (ev_len (ev_var rfl) rfl)))) (by simp) ?_
  refine sq_forE (js := [4]) (ys := List.range rs.length) (emb := fun i : Nat => D.int (i : Int)) (fun i => [.int (i : Int)]) (fun i ρ => ∃ a b, ρ = [some (.imm (T.journal p total rs)), some (.imm (.int p)), some (.imm (.int total)), some (.imm (.lst (rs.map hrD))), a, b]) (ei_range1 (EvV.is (ev_len (ev_var rfl) rfl) (by rw [List.length_map])) (by omega)) ⟨_, _, rfl⟩ (fun i ρ ⟨a, b, q⟩ => by subst q; exact jl1 (show 4 < 6 by decide)) (fun i m ρ hm ⟨a, b, q⟩ => ?_) (fun ρ ⟨a, b, q⟩ => by subst q; exact sq_retV ev_bl k)
  subst q
  have hm : m < rs.length := List.mem_range.mp (List.mem_of_getElem? hm)
  have e1 : (rs.map (T.pairD p))[m]? = some (T.pairD p rs[m]) := by rw [List.getElem?_map, List.getElem?_eq_getElem hm]; rfl
  have e2 : (rs.map hrD)[m]? = some (hrD rs[m]) := by rw [List.getElem?_map, List.getElem?_eq_getElem hm]; rfl
  have ok := hr2 _ (List.getElem_mem hm)
  generalize rs[m] = r at e1 e2 ok
  refine ⟨gw_name, ?_⟩
  refine sq_asg (ev_ix (ev_fld 2 T.cl_Journal (ev_var rfl) rfl rfl) (ev_var rfl) rfl (at_nat rfl e1)) (show 5 < 6 by decide) ?_
  refine sq_no (eb_or (eb_not (eb_B (ev_isiB (ev_var rfl) rfl rfl))) fun _ => (eb_or (eb_test (ev_neI (ev_len (ev_var rfl) rfl) ev_int)) fun _ => (eb_not (eb_B (ev_call (ea_cons (ev_ix (ev_var rfl) ev_int rfl (at_nat (j := 1) rfl rfl)) (ea_cons (ev_ix (ev_ix (ev_var rfl) (ev_var rfl) rfl (at_nat rfl e2)) ev_int rfl (at_nat (j := 1) rfl rfl)) ea_nil)) ⟨_, ⟨_, _, same_int, rfl, rfl⟩, rfl⟩))))) rfl ?_
  refine sq_no (eb_not (eb_B (ev_call (ea_cons (ev_ix (ev_var rfl) ev_int rfl (at_nat (j := 0) rfl rfl)) (ea_cons (ev_var rfl) (ea_cons (ev_ix (ev_ix (ev_var rfl) (ev_var rfl) rfl (at_nat rfl e2)) ev_int rfl (at_nat (j := 0) rfl rfl)) ea_nil))) ⟨_, ⟨p, r.1, r.1, _, Or.inr rfl, ok.1, ok.2, rfl, rfl⟩, rfl⟩))) rfl ?_
  exact sw_next ⟨_, _, rfl⟩

abbrev S_lw_walked (T : Txt K mg) : DSp := det fun ds d => ∃ (p : Int) (n : Nat) (rows : Kvs) (told : List Int) (xs : List Int) (x : D), seqOf x = some (intsD xs) ∧ COk p n rows told (csum p rows) ∧ xs.length = n ∧ (∀ a ∈ xs, 0 ≤ a ∧ a < p) ∧ ds = [T.journal p (csum p rows) (hrounds p rows xs n), .int p, .lst (rows.map termD), .lst (intsD told), .int (csum p rows), x] ∧ d = .bl true
theorem ok_lw_walked (T : Txt K mg) : FnP P w K mg base 11 (T.a 108) ["_law_journal", "_law_prime_here", "_law_rows", "_law_told", "_law_due", "_law_numbers_here"] (pureSp (S_lw_walked T)) := by
  refine fn_pure T.f_lw_walked sc_lw_walked (fun ds Φ h => ?_) (fun cdv A outer s H E hr ds Φ h => ⟨_, (pss_cons (ps_set (i := 6) sc_lw_walked.nd rfl (Or.inl rfl) (pv 4))
    (pss_cons (ps_if (pt_not (pt_val (pe_cl (ok_lw_same T) (hr.mono (by decide)) T.g_lw_same (pa_cons (pe_tup (pa_cons (pe_fld (pv 0) rfl) (pa_cons (pe_fld (pv 0) rfl) (pa_cons (pe_fld (pv 0) rfl) pa_nil)))) (pa_cons (pe_tup (pa_cons (pv 1) (pa_cons (pv 4) (pa_cons (pe_callTy call_tupK (by rfl) T.n_tuple (by decide +kernel) (pa_cons (pv 5) pa_nil)) pa_nil)))) pa_nil)))))
      (pss_cons (ps_ret pe_bl)
      pss_nil)
      pss_nil)
    (pss_cons (ps_if (PW.pt (pw_or (pt_not (pt_val (pe_cl (ok_lw_same T) (hr.mono (by decide)) T.g_lw_same (pa_cons (pe_pr (pv 0) T.cl_Journal.c T.pr_Journal_length.choose_spec (ok_Journal_length T) (hr.mono (by decide))) (pa_cons (pe_callB call_len_seq (by rfl) T.n_len (by decide +kernel) (pa_cons (pv 3) pa_nil)) pa_nil))))) (pw_or1 (pt_cmpR op_ne (pe_callB call_len_seq (by rfl) T.n_len (by decide +kernel) (pa_cons (pe_fld (pv 0) rfl) pa_nil)) (pe_callB call_len_seq (by rfl) T.n_len (by decide +kernel) (pa_cons (pv 3) pa_nil)) (nomark _)))))
      (pss_cons (ps_ret pe_bl)
      pss_nil)
      pss_nil)
    (pss_cons (ps_for PassesOwn.never rfl (pi_range1 (by rfl) T.n_range (pa_cons (pe_callB call_len_seq (by rfl) T.n_len (by decide +kernel) (pa_cons (pv 3) pa_nil)) pa_nil)) (pg_name (i := 7) sc_lw_walked.nd rfl (Or.inl rfl))
      (pss_cons (ps_set (i := 8) sc_lw_walked.nd rfl (Or.inl rfl) (pe_ix ix_seq (pe_fld (pv 0) rfl) (pv 7) (fun _ _ => rfl)))
      (pss_cons (ps_if (PW.pt (pw_or (pt_not (pt_val (pe_cl (ok_lw_poly_is T) hr T.g_lw_poly_is (pa_cons (pv 8) (pa_cons (pv 1) (pa_cons (pe_fld (pv 8) rfl) pa_nil)))))) (pw_or1 (pt_cmpR op_gt (pe_callB call_len_seq (by rfl) T.n_len (by decide +kernel) (pa_cons (pe_fld (pv 8) rfl) pa_nil)) (pe_op op_add (pe_ix ix_seq (pv 3) (pv 7) (fun _ _ => rfl)) pe_int) (nomark _)))))
        (pss_cons (ps_ret pe_bl)
        pss_nil)
        pss_nil)
      (pss_cons (ps_if (pt_cmpR op_ne (pe_cl (ok_lw_poly_ends T) (hr.mono (by decide)) T.g_lw_poly_ends (pa_cons (pv 1) (pa_cons (pe_fld (pv 8) rfl) pa_nil))) (pv 6) (nomark _))
        (pss_cons (ps_ret pe_bl)
        pss_nil)
        pss_nil)
      (pss_cons (ps_set (i := 6) sc_lw_walked.nd rfl (Or.inl rfl) (pe_cl (ok_lw_poly_value T) (hr.mono (by decide)) T.g_lw_poly_value (pa_cons (pv 1) (pa_cons (pe_fld (pv 8) rfl) (pa_cons (pe_ix ix_seq (pv 5) (pv 7) (fun _ _ => rfl)) pa_nil)))))
      pss_nil)))))
    (pss_cons (ps_ret (pe_cmpR op_eq (pv 6) (pe_cl (ok_lw_form_value T) (hr.mono (by decide)) T.g_lw_form_value (pa_cons (pv 1) (pa_cons (pv 2) (pa_cons (pv 5) pa_nil)))) (nomark _)))
    pss_nil))))), ?_⟩)
  · obtain ⟨d, ⟨p, n, rows, told, xs, x, hx, co, hl, hb, rfl, rfl⟩, k⟩ := h
    rfl
  obtain ⟨d, ⟨p, n, rows, told, xs, x, hx, co, hl, hb, rfl, rfl⟩, k⟩ := h
  have po := co.ro.pairs
  have hp1 := co.pr.1
  have hp2 := co.pr.2.1
  have hn := co.hn
  have hr3 := co.hr
  have ecoin := hrounds_coins p rows xs
  rw [hl] at ecoin
  have tlen : ((intsD told).length : Int) = (n : Int) := by rw [len_ints, co.tl]
  refine sq_asg (ev_var rfl) (show 6 < 9 by decide) ?_
  refine sq_no (eb_not (eb_B (ev_call (ea_cons (ev_tup (ea_cons (ev_fld 0 T.cl_Journal (ev_var rfl) rfl rfl) (ea_cons (ev_fld 1 T.cl_Journal (ev_var rfl) rfl rfl) (ea_cons (ev_fld 4 T.cl_Journal (ev_var rfl) rfl rfl) ea_nil)))) (ea_cons (ev_tup (ea_cons (ev_var rfl) (ea_cons (ev_var rfl) (ea_cons (ev_tuple (ev_var rfl) hx) ea_nil)))) ea_nil)) ⟨_, ⟨_, _, same_3 same_int same_int (same_ints (xs := xs) (by rw [ecoin]; rfl) (tupD_of hx) (by omega)), rfl, rfl⟩, rfl⟩))) rfl ?_
  refine sq_no (eb_or (eb_not (eb_B (ev_call (ea_cons (EvV.is (ev_prop (ev_var rfl) ⟨_, ⟨p, csum p rows, _, _, _, rfl, rfl⟩, rfl⟩) (by rw [List.length_map, hrounds_len])) (ea_cons (EvV.is (ev_len (ev_var rfl) rfl) (by rw [tlen])) ea_nil)) ⟨_, ⟨_, _, same_int, rfl, rfl⟩, rfl⟩))) fun _ => (eb_test (ev_neI (ev_len (ev_fld 3 T.cl_Journal (ev_var rfl) rfl rfl) rfl) (ev_len (ev_var rfl) rfl)))) (by rw [tlen, List.length_map, hrounds_len]; simp) ?_
  refine sq_forE (js := [7]) (ys := List.range n) (emb := fun i : Nat => D.int (i : Int)) (fun i => [.int (i : Int)]) (fun i ρ => ∃ a b, ρ = [some (.imm (T.journal p (csum p rows) (hrounds p rows xs n))), some (.imm (.int p)), some (.imm (.lst (rows.map termD))), some (.imm (.lst (intsD told))), some (.imm (.int (csum p rows))), some (.imm x), some (.imm (.int (psum p rows (xs.take i)))), a, b]) (ei_range1 (EvV.is (ev_len (ev_var rfl) rfl) (by rw [tlen])) (by omega)) ⟨_, _, by rw [List.take_zero, ← csum_psum]; rfl⟩ (fun i ρ ⟨a, b, q⟩ => by subst q; exact jl1 (show 7 < 9 by decide)) (fun i r ρ hr ⟨a, b, q⟩ => ?_) (fun ρ ⟨a, b, q⟩ => ?_)
  · subst q
    obtain ⟨hi, er⟩ := List.getElem?_eq_some_iff.mp hr
    rw [List.getElem_range] at er
    subst er
    rw [List.length_range] at hi
    have hix : i < xs.length := by omega
    obtain ⟨m, hm, hg⟩ := deg_take co hix hl
    have he : pends p (rpoly p rows (xs.take i)) = psum p rows (xs.take i) := ends_take po hix (by omega)
    have hpl := rpoly_13 p rows (xs.take i)
    have bx := bd_getD hb hix
    have e1 : ((hrounds p rows xs n).map fun r => T.poly p r.1)[i]? = some (T.poly p (rpoly p rows (xs.take i))) := by rw [List.getElem?_map, hrounds_at hi]; rfl
    refine ⟨gw_name, ?_⟩
    refine sq_asg (ev_ix (ev_fld 3 T.cl_Journal (ev_var rfl) rfl rfl) (ev_var rfl) rfl (at_nat rfl e1)) (show 8 < 9 by decide) ?_
    refine sq_no (eb_or (eb_not (eb_B (ev_call (ea_cons (ev_var rfl) (ea_cons (ev_var rfl) (ea_cons (ev_fld 1 T.cl_Poly (ev_var rfl) rfl rfl) ea_nil))) ⟨_, ⟨p, _, _, _, Or.inr rfl, rpoly_trim .., by omega, rfl, rfl⟩, rfl⟩))) fun _ => (eb_test (ev_gt (ev_len (ev_fld 1 T.cl_Poly (ev_var rfl) rfl rfl) rfl) (ev_add (ev_ix (ev_var rfl) (ev_var rfl) rfl (at_nat (j := i) (d := .int m) rfl (by rw [intsD, List.getElem?_map, hm]; rfl))) ev_int)))) (by rw [len_ints]; simp; omega) ?_
    refine sq_no (eb_test (ev_neI (ev_call (ea_cons (ev_var rfl) (ea_cons (ev_fld 1 T.cl_Poly (ev_var rfl) rfl rfl) ea_nil)) ⟨_, ⟨p, _, hp1, rfl, rfl⟩, rfl⟩) (ev_var rfl))) (by rw [he]; simp) ?_
    refine sq_asg (ev_call (ea_cons (ev_var rfl) (ea_cons (ev_fld 1 T.cl_Poly (ev_var rfl) rfl rfl) (ea_cons (ev_ix (ev_var rfl) (ev_var rfl) hx (at_nat rfl (getD_ints hix))) ea_nil))) ⟨_, ⟨p, _, _, hp1, hp2, bx.1, bx.2, by omega, rfl, rfl⟩, rfl⟩) (show 6 < 9 by decide) ?_
    rw [psum_take po hix (by omega)]
    exact sw_next ⟨_, _, rfl⟩
  · subst q
    rw [List.length_range, ← hl, List.take_length]
    refine sq_retV (EvV.is (ev_eqI (ev_var rfl) (ev_call (ea_cons (ev_var rfl) (ea_cons (ev_var rfl) (ea_cons (ev_var rfl) ea_nil))) ⟨_, ⟨p, n, rows, xs, x, hx, hp1, hp2, po, by omega, hl, hb, rfl, rfl⟩, rfl⟩)) (by rw [fval_psum po hl]; simp)) k

abbrev S_lw_hands (T : Txt K mg) : DSp := det fun ds d => ∃ (p : Int) (n : Nat) (rows : Kvs) (told : List Int) (total : Int) (xs : List Int) (x : D), seqOf x = some (intsD xs) ∧ COk p n rows told total ∧ xs.length = n ∧ (∀ a ∈ xs, 0 ≤ a ∧ a < p) ∧ ds = [T.honest p (T.claim p n rows told total), .int p, .lst (rows.map termD), .lst (intsD told), x] ∧ d = .bl true
theorem ok_lw_hands (T : Txt K mg) : FnP P w K mg base 11 (T.a 109) ["_law_teller", "_law_prime_here", "_law_rows", "_law_told", "_law_numbers_here"] (pureSp (S_lw_hands T)) := by
  refine fn_pure T.f_lw_hands sc_lw_hands (fun ds Φ h => ?_) (fun cdv A outer s H E hr ds Φ h => ⟨_, (pss_cons (ps_for PassesOwn.never rfl (pi_range1 (by rfl) T.n_range (pa_cons (pe_callB call_len_seq (by rfl) T.n_len (by decide +kernel) (pa_cons (pv 3) pa_nil)) pa_nil)) (pg_name (i := 5) sc_lw_hands.nd rfl (Or.inl rfl))
      (pss_cons (ps_set (i := 6) sc_lw_hands.nd rfl (Or.inl rfl) (pe_callTy call_list_of (by rfl) T.n_list (by decide +kernel) (pa_cons (pe_slice sl_seq (pv 4) po_none (po_some (pv 5))) pa_nil)))
      (pss_cons (ps_if (pt_not (pt_val (pe_cl (ok_lw_poly_is T) hr T.g_lw_poly_is (pa_cons (pe_me (pv 0) T.cl_Honest.c T.me_Honest_hand (ok_Honest_hand T) (hr.mono (by decide)) (pa_cons (pv 6) pa_nil)) (pa_cons (pv 1) (pa_cons (pe_cl (ok_lw_round_row T) (hr.mono (by decide)) T.g_lw_round_row (pa_cons (pv 1) (pa_cons (pe_callB call_len_seq (by rfl) T.n_len (by decide +kernel) (pa_cons (pv 3) pa_nil)) (pa_cons (pv 2) (pa_cons (pe_slice sl_seq (pv 4) po_none (po_some (pv 5))) pa_nil))))) pa_nil))))))
        (pss_cons (ps_ret pe_bl)
        pss_nil)
        pss_nil)
      (pss_cons (ps_if (pt_not (pt_val (pe_cl (ok_lw_same T) (hr.mono (by decide)) T.g_lw_same (pa_cons (pv 6) (pa_cons (pe_callTy call_list_of (by rfl) T.n_list (by decide +kernel) (pa_cons (pe_slice sl_seq (pv 4) po_none (po_some (pv 5))) pa_nil)) pa_nil)))))
        (pss_cons (ps_ret pe_bl)
        pss_nil)
        pss_nil)
      pss_nil))))
    (pss_cons (ps_ret pe_bl)
    pss_nil)), ?_⟩)
  · obtain ⟨d, ⟨p, n, rows, told, total, xs, x, hx, co, hl, hb, rfl, rfl⟩, k⟩ := h
    rfl
  obtain ⟨d, ⟨p, n, rows, told, total, xs, x, hx, co, hl, hb, rfl, rfl⟩, k⟩ := h
  have po := co.ro.pairs
  have hp1 := co.pr.1
  have hp2 := co.pr.2.1
  have hn := co.hn
  have hr3 := co.hr
  have tlen : ((intsD told).length : Int) = (n : Int) := by rw [len_ints, co.tl]
  refine sq_forE (js := [5]) (ys := List.range n) (emb := fun i : Nat => D.int (i : Int)) (fun i => [.int (i : Int)]) (fun i ρ => ∃ a b, ρ = [some (.imm (T.honest p (T.claim p n rows told total))), some (.imm (.int p)), some (.imm (.lst (rows.map termD))), some (.imm (.lst (intsD told))), some (.imm x), a, b]) (ei_range1 (EvV.is (ev_len (ev_var rfl) rfl) (by rw [tlen])) (by omega)) ⟨_, _, rfl⟩ (fun i ρ ⟨a, b, q⟩ => by subst q; exact jl1 (show 5 < 7 by decide)) (fun i r ρ hr ⟨a, b, q⟩ => ?_) (fun ρ ⟨a, b, q⟩ => by subst q; exact sq_retV ev_bl k)
  subst q
  obtain ⟨hi, er⟩ := List.getElem?_eq_some_iff.mp hr
  rw [List.getElem_range] at er
  subst er
  rw [List.length_range] at hi
  have ecut : cutD (intsD xs) none (some (i : Int)) = intsD (xs.take i) := by rw [cut_take, intsD, intsD, List.map_take]
  have htk : (xs.take i).length < n := by rw [List.length_take]; omega
  have hpl := rpoly_13 p rows (xs.take i)
  have hsl : ∀ {ρ : Env}, ρ[4]? = some (some (.imm x)) → ρ[5]? = some (some (.imm (.int (i : Int)))) → EvW (tSl (rSl K) (tVar 4) tNoPart (tPart (tVar 5))) ρ (fun y => seqOf y = some (intsD (xs.take i))) := fun h1 h2 => by
    have h := ew_slS (K := K) (ev_var h1) hx eo_none (eo_some (ev_var h2))
    rwa [ecut] at h
  refine ⟨gw_name, ?_⟩
  refine sq_asg (EvFV.v (ef_listS (hsl rfl rfl))) (show 6 < 7 by decide) ?_
  refine sq_no (eb_not (eb_B (ev_call (ea_cons (ev_meth (ev_var rfl) (by decide) (ea_cons (ev_var rfl) ea_nil) ⟨_, ⟨p, n, rows, told, total, xs.take i, _, rfl, co, htk, bd_take hb i, rfl, rfl⟩, rfl⟩) (ea_cons (ev_var rfl) (ea_cons (ew_callW (ea_consV (ev_var rfl) (ea_consV (EvV.is (ev_len (ev_var rfl) rfl) (by rw [tlen])) (ea_consV (ev_var rfl) (ea_one (hsl rfl rfl))))) (fun ds h => by
    obtain ⟨_, e1, _, e2, _, e3, y, e4, hy⟩ := h
    subst e1 e2 e3 e4
    exact ⟨_, ⟨p, n, rows, xs.take i, y, hy, hp1, hp2, po, by omega, hr3, htk, bd_take hb i, rfl, rfl⟩, rfl⟩)) ea_nil))) ⟨_, ⟨p, _, _, _, Or.inr rfl, rpoly_trim .., by omega, rfl, rfl⟩, rfl⟩))) rfl ?_
  refine sq_no (eb_not (eb_B (ev_call (ea_cons (ev_var rfl) (ea_cons (EvFV.v (ef_listS (hsl rfl rfl))) ea_nil)) ⟨_, ⟨_, _, same_intsL (by omega), rfl, rfl⟩, rfl⟩))) rfl ?_
  exact sw_next ⟨_, _, rfl⟩

end
end SK

set_option Elab.async false
set_option linter.all false
set_option maxRecDepth 100000
set_option maxHeartbeats 4000000
namespace SK
open PySem PySem.Spec PyProof.Rows L2
section
variable {P : Program} {w : World} {K : PySem.W.Frag} {mg : Str → Option Value} {base : Heap}

/-- what the law keeps of a claim -/
abbrev Txt.one (T : Txt K mg) (p : Int) (n : Nat) (rows : Kvs) (told : List Int) : D := .tup [.lst (rows.map termD), .lst (intsD told), .int (csum p rows), T.claim p n rows told (csum p rows), T.honest p (T.claim p n rows told (csum p rows))]
theorem hrounds_ok {p : Int} {rows : Kvs} {xs : List Int} {m : Nat} : ∀ r ∈ hrounds p rows xs m, trimI r.1 = r.1 ∧ r.1.length < 1000 := fun r hr => by
  obtain ⟨i, _, e⟩ := List.mem_map.mp hr
  rw [← e]
  exact ⟨rpoly_trim .., Nat.lt_of_le_of_lt (rpoly_13 ..) (by decide)⟩
theorem nRounds_eq (p : Int) (n : Nat) (rows : Kvs) : nRounds p n rows (csum p rows) = n := if_pos rfl
theorem COk.other {p : Int} {n : Nat} {rows : Kvs} {told : List Int} {a b : Int} (c : COk p n rows told a) (h0 : 0 ≤ b) (h1 : b < p) : COk p n rows told b := ⟨c.pr, c.ro, c.hn, c.hr, c.tl, c.tb, c.tt, h0, h1⟩
theorem hrounds_take (p : Int) (rows : Kvs) (xs : List Int) (n m : Nat) : (hrounds p rows xs n).take m = hrounds p rows xs (min m n) := by
  unfold hrounds
  rw [← List.map_take, List.take_range]

abbrev S_lw_let_by (T : Txt K mg) : DSp := fun ds Φ => ∃ (p : Int) (n : Nat) (rows : Kvs) (told : List Int) (xs : List Int) (x : D), seqOf x = some (intsD xs) ∧ COk p n rows told (csum p rows) ∧ xs.length = n ∧ (∀ a ∈ xs, 0 ≤ a ∧ a < p) ∧ ds = [T.one p n rows told, .int p, x] ∧ Φ (.bl true)
theorem ok_lw_let_by (T : Txt K mg) : FnP P w K mg base 12 (T.a 111) ["_law_store_here", "_law_one", "_law_prime_here", "_law_numbers_here"] (stoSp (S_lw_let_by T)) := by
  refine fn_sto T.f_lw_let_by sc_lw_let_by (fun ds Φ h => ?_) (fun cdv A outer s H E hr ds Φ h => ⟨_, (pss_cons (ps_set (i := 4) sc_lw_let_by.nd rfl (Or.inl rfl) (pe_ix ix_seq (pv 1) pe_int (fun _ _ => rfl)))
    (pss_cons (ps_set (i := 5) sc_lw_let_by.nd rfl (Or.inl rfl) (pe_ix ix_seq (pv 1) pe_int (fun _ _ => rfl)))
    (pss_cons (ps_set (i := 6) sc_lw_let_by.nd rfl (Or.inl rfl) (pe_cl (ok_lw_row T) (hr.mono (by decide)) T.g_lw_row (pa_cons (pv 0) (pa_cons (pv 3) pa_nil))))
    (pss_cons (ps_set (i := 7) sc_lw_let_by.nd rfl (Or.inl rfl) (pe_cl (ok_talk T) (hr.mono (by decide)) T.g_talk (pa_cons (pv 4) (pa_cons (pv 5) (pa_cons (pv 6) pa_nil)))))
    (pss_cons (ps_if (pt_not (pt_val (pe_cl (ok_lw_same T) (hr.mono (by decide)) T.g_lw_same (pa_cons (pe_callTy call_list_of (by rfl) T.n_list (by decide +kernel) (pa_cons (pv 6) pa_nil)) (pa_cons (pe_callTy call_list_of (by rfl) T.n_list (by decide +kernel) (pa_cons (pv 3) pa_nil)) pa_nil)))))
      (pss_cons (ps_ret pe_bl)
      pss_nil)
      pss_nil)
    (pss_cons (ps_if (pt_not (pt_val (pe_cl (ok_lw_walked T) hr T.g_lw_walked (pa_cons (pv 7) (pa_cons (pv 2) (pa_cons (pe_ix ix_seq (pv 1) pe_int (fun _ _ => rfl)) (pa_cons (pe_ix ix_seq (pv 1) pe_int (fun _ _ => rfl)) (pa_cons (pe_ix ix_seq (pv 1) pe_int (fun _ _ => rfl)) (pa_cons (pv 3) pa_nil)))))))))
      (pss_cons (ps_ret pe_bl)
      pss_nil)
      pss_nil)
    (pss_cons (ps_if (pt_not (pt_val (pe_cl (ok_lw_same T) (hr.mono (by decide)) T.g_lw_same (pa_cons (pe_tup (pa_cons (pe_cl (ok_judge T) (hr.mono (by decide)) T.g_judge (pa_cons (pv 4) (pa_cons (pv 7) pa_nil))) (pa_cons (pe_cl (ok_is_let_by T) (hr.mono (by decide)) T.g_is_let_by (pa_cons (pv 4) (pa_cons (pv 7) pa_nil))) pa_nil))) (pa_cons (pe_tup (pa_cons (pe_tup (pa_cons pe_non (pa_cons pe_str pa_nil))) (pa_cons pe_bl pa_nil))) pa_nil)))))
      (pss_cons (ps_ret pe_bl)
      pss_nil)
      pss_nil)
    (pss_cons (ps_set (i := 8) sc_lw_let_by.nd rfl (Or.inl rfl) (pe_cl (ok_lw_honest_rounds T) (hr.mono (by decide)) T.g_lw_honest_rounds (pa_cons (pv 2) (pa_cons (pe_callB call_len_seq (by rfl) T.n_len (by decide +kernel) (pa_cons (pe_ix ix_seq (pv 1) pe_int (fun _ _ => rfl)) pa_nil)) (pa_cons (pe_ix ix_seq (pv 1) pe_int (fun _ _ => rfl)) (pa_cons (pv 3) pa_nil))))))
    (pss_cons (ps_if (pt_not (pt_val (pe_cl (ok_lw_journal_is T) hr T.g_lw_journal_is (pa_cons (pv 7) (pa_cons (pv 2) (pa_cons (pe_ix ix_seq (pv 1) pe_int (fun _ _ => rfl)) (pa_cons (pv 8) pa_nil)))))))
      (pss_cons (ps_ret pe_bl)
      pss_nil)
      pss_nil)
    (pss_cons (ps_ret (pe_cl (ok_lw_hands T) hr T.g_lw_hands (pa_cons (pv 5) (pa_cons (pv 2) (pa_cons (pe_ix ix_seq (pv 1) pe_int (fun _ _ => rfl)) (pa_cons (pe_ix ix_seq (pv 1) pe_int (fun _ _ => rfl)) (pa_cons (pv 3) pa_nil)))))))
    pss_nil)))))))))), ?_⟩)
  · obtain ⟨p, n, rows, told, xs, x, hx, co, hl, hb, rfl, k⟩ := h
    rfl
  obtain ⟨p, n, rows, told, xs, x, hx, co, hl, hb, rfl, k⟩ := h
  have po := co.ro.pairs
  have hp1 := co.pr.1
  have hp2 := co.pr.2.1
  have hn := co.hn
  have hr3 := co.hr
  have tlen : ((intsD told).length : Int) = (n : Int) := by rw [len_ints, co.tl]
  refine sq_asg (ev_ix (ev_var rfl) ev_int rfl (at_nat (j := 3) rfl rfl)) (show 4 < 9 by decide) ?_
  refine sq_asg (ev_ix (ev_var rfl) ev_int rfl (at_nat (j := 4) rfl rfl)) (show 5 < 9 by decide) ?_
  refine sq_asgW (Φ := fun y => seqOf y = some (intsD xs)) (ew_callSV rfl (ea_cons (ev_var rfl) ea_nil) ⟨x, _, rfl, hx, fun y hy => hy⟩) (show 6 < 9 by decide) ?_
  intro y hy
  have hj := ev_call (S := S_talk T) (ρ := [some .sto, some (.imm (T.one p n rows told)), some (.imm (.int p)), some (.imm x), some (.imm (T.claim p n rows told (csum p rows))), some (.imm (T.honest p (T.claim p n rows told (csum p rows)))), some (.imm y), none, none]) (ea_cons (ev_var (i := 4) rfl) (ea_cons (ev_var (i := 5) rfl) (ea_cons (ev_var (i := 6) rfl) ea_nil))) ⟨_, ⟨p, n, rows, told, csum p rows, csum p rows, xs, y, hy, co, co, hl, hb, rfl, rfl⟩, rfl⟩
  rw [nRounds_eq] at hj
  refine sq_asg hj (show 7 < 9 by decide) ?_
  refine sq_no (eb_not (eb_B (ev_call (ea_cons (EvFV.v (ef_list (ev_var rfl) hy)) (ea_cons (EvFV.v (ef_list (ev_var rfl) hx)) ea_nil)) ⟨_, ⟨_, _, same_intsL (by omega), rfl, rfl⟩, rfl⟩))) rfl ?_
  refine sq_no (eb_not (eb_B (ev_call (ea_cons (ev_var rfl) (ea_cons (ev_var rfl) (ea_cons (ev_ix (ev_var rfl) ev_int rfl (at_nat (j := 0) rfl rfl)) (ea_cons (ev_ix (ev_var rfl) ev_int rfl (at_nat (j := 1) rfl rfl)) (ea_cons (ev_ix (ev_var rfl) ev_int rfl (at_nat (j := 2) rfl rfl)) (ea_cons (ev_var rfl) ea_nil)))))) ⟨_, ⟨p, n, rows, told, xs, x, hx, co, hl, hb, rfl, rfl⟩, rfl⟩))) rfl ?_
  have ej : T.journal p (csum p rows) (hrounds p rows xs n) = T.journal p (csum p rows) (hrounds p rows xs (nRounds p n rows (csum p rows))) := by rw [nRounds_eq]
  refine sq_no (eb_not (eb_B (ev_call (ea_cons (ev_tup (ea_cons (ev_call (ea_cons (ev_var rfl) (ea_cons (EvV.is (ev_var rfl) ej) ea_nil)) ⟨_, ⟨p, n, rows, told, csum p rows, xs, co, hl, hb, rfl, rfl⟩, rfl⟩) (ea_cons (ev_call (ea_cons (ev_var rfl) (ea_cons (EvV.is (ev_var rfl) ej) ea_nil)) ⟨_, ⟨p, n, rows, told, csum p rows, xs, co, hl, hb, rfl, rfl⟩, rfl⟩) ea_nil))) (ea_cons (ev_tup (ea_cons (ev_tup (ea_cons ev_non (ea_cons ev_str ea_nil))) (ea_cons ev_bl ea_nil))) ea_nil)) ⟨_, ⟨_, _, ?_, rfl, rfl⟩, rfl⟩))) rfl ?_
  · rw [decide_eq_true rfl]
    unfold verdD
    rw [if_pos rfl]
    exact same_2 (same_2 same_non same_str) same_bl
  refine sq_asg (ev_call (ea_cons (ev_var rfl) (ea_cons (EvV.is (ev_len (ev_ix (ev_var rfl) ev_int rfl (at_nat (j := 1) rfl rfl)) rfl) (by rw [tlen])) (ea_cons (ev_ix (ev_var rfl) ev_int rfl (at_nat (j := 0) rfl rfl)) (ea_cons (ev_var rfl) ea_nil)))) ⟨_, ⟨p, n, rows, xs, x, hx, hp1, hp2, po, by omega, hr3, hl, hb, rfl, rfl⟩, rfl⟩) (show 8 < 9 by decide) ?_
  refine sq_no (eb_not (eb_B (ev_call (ea_cons (ev_var rfl) (ea_cons (ev_var rfl) (ea_cons (ev_ix (ev_var rfl) ev_int rfl (at_nat (j := 2) rfl rfl)) (ea_cons (ev_var rfl) ea_nil)))) ⟨_, ⟨p, csum p rows, hrounds p rows xs n, by rw [hrounds_len]; omega, hrounds_ok, rfl, rfl⟩, rfl⟩))) rfl ?_
  exact sq_retV (ev_call (ea_cons (ev_var rfl) (ea_cons (ev_var rfl) (ea_cons (ev_ix (ev_var rfl) ev_int rfl (at_nat (j := 0) rfl rfl)) (ea_cons (ev_ix (ev_var rfl) ev_int rfl (at_nat (j := 1) rfl rfl)) (ea_cons (ev_var rfl) ea_nil))))) ⟨_, ⟨p, n, rows, told, csum p rows, xs, x, hx, co, hl, hb, rfl, rfl⟩, rfl⟩) k

abbrev S_lw_false_talk (T : Txt K mg) : DSp := fun ds Φ => ∃ (p : Int) (n : Nat) (rows : Kvs) (told : List Int) (xs : List Int) (x : D), seqOf x = some (intsD xs) ∧ COk p n rows told (csum p rows) ∧ xs.length = n ∧ (∀ a ∈ xs, 0 ≤ a ∧ a < p) ∧ ds = [T.one p n rows told, .int p, x] ∧ Φ (.bl true)
theorem ok_lw_false_talk (T : Txt K mg) : FnP P w K mg base 12 (T.a 112) ["_law_store_here", "_law_one", "_law_prime_here", "_law_numbers_here"] (stoSp (S_lw_false_talk T)) := by
  refine fn_sto T.f_lw_false_talk sc_lw_false_talk (fun ds Φ h => ?_) (fun cdv A outer s H E hr ds Φ h => ⟨_, (pss_cons (ps_set (i := 4) sc_lw_false_talk.nd rfl (Or.inl rfl) (pe_callB call_len_seq (by rfl) T.n_len (by decide +kernel) (pa_cons (pe_ix ix_seq (pv 1) pe_int (fun _ _ => rfl)) pa_nil)))
    (pss_cons (ps_set (i := 5) sc_lw_false_talk.nd rfl (Or.inl rfl) (pe_cl (ok_lw_other_number T) (hr.mono (by decide)) T.g_lw_other_number (pa_cons (pv 0) (pa_cons (pv 2) (pa_cons (pe_ix ix_seq (pv 1) pe_int (fun _ _ => rfl)) pa_nil)))))
    (pss_cons (ps_set (i := 6) sc_lw_false_talk.nd rfl (Or.inl rfl) (pe_me (pe_ix ix_seq (pv 1) pe_int (fun _ _ => rfl)) T.cl_Claim.c T.me_Claim_with_total (ok_Claim_with_total T) (hr.mono (by decide)) (pa_cons (pv 5) pa_nil)))
    (pss_cons (ps_set (i := 7) sc_lw_false_talk.nd rfl (Or.inl rfl) (pe_mk T.mk_Honest (ok_Honest_init T) (hr.mono (by decide)) T.g_Honest (pa_cons (pv 6) pa_nil)))
    (pss_cons (ps_set (i := 8) sc_lw_false_talk.nd rfl (Or.inl rfl) (pe_slice sl_seq (pe_cl (ok_lw_honest_rounds T) (hr.mono (by decide)) T.g_lw_honest_rounds (pa_cons (pv 2) (pa_cons (pv 4) (pa_cons (pe_ix ix_seq (pv 1) pe_int (fun _ _ => rfl)) (pa_cons (pv 3) pa_nil))))) po_none (po_some pe_int)))
    (pss_cons (ps_set (i := 9) sc_lw_false_talk.nd rfl (Or.inl rfl) (pe_cl (ok_talk T) (hr.mono (by decide)) T.g_talk (pa_cons (pv 6) (pa_cons (pv 7) (pa_cons (pe_callTy call_list_of (by rfl) T.n_list (by decide +kernel) (pa_cons (pv 3) pa_nil)) pa_nil)))))
    (pss_cons (ps_set (i := 10) sc_lw_false_talk.nd rfl (Or.inl rfl) (pe_tup (pa_cons pe_int (pa_cons (pe_ix ix_seq (pe_lst (pa_cons pe_str (pa_cons pe_str pa_nil))) (pe_callTy call_int1 (by rfl) T.n_int (by decide +kernel) (pa_cons (pe_cmpR op_gt (pv 4) pe_int (nomark _)) pa_nil)) (fun _ _ => rfl)) pa_nil))))
    (pss_cons (ps_if (PW.pt (pw_or (pt_not (pt_val (pe_cl (ok_lw_journal_is T) hr T.g_lw_journal_is (pa_cons (pv 9) (pa_cons (pv 2) (pa_cons (pv 5) (pa_cons (pv 8) pa_nil))))))) (pw_or1 (pt_not (pt_val (pe_cl (ok_lw_same T) (hr.mono (by decide)) T.g_lw_same (pa_cons (pe_cl (ok_judge T) (hr.mono (by decide)) T.g_judge (pa_cons (pv 6) (pa_cons (pv 9) pa_nil))) (pa_cons (pv 10) pa_nil))))))))
      (pss_cons (ps_ret pe_bl)
      pss_nil)
      pss_nil)
    (pss_cons (ps_if (pt_not (pt_val (pe_cl (ok_lw_same T) (hr.mono (by decide)) T.g_lw_same (pa_cons (pe_cl (ok_is_let_by T) (hr.mono (by decide)) T.g_is_let_by (pa_cons (pv 6) (pa_cons (pv 9) pa_nil))) (pa_cons pe_bl pa_nil)))))
      (pss_cons (ps_ret pe_bl)
      pss_nil)
      pss_nil)
    (pss_cons (ps_ret (pe_cl (ok_lw_hands T) hr T.g_lw_hands (pa_cons (pv 7) (pa_cons (pv 2) (pa_cons (pe_ix ix_seq (pv 1) pe_int (fun _ _ => rfl)) (pa_cons (pe_ix ix_seq (pv 1) pe_int (fun _ _ => rfl)) (pa_cons (pv 3) pa_nil)))))))
    pss_nil)))))))))), ?_⟩)
  · obtain ⟨p, n, rows, told, xs, x, hx, co, hl, hb, rfl, k⟩ := h
    rfl
  obtain ⟨p, n, rows, told, xs, x, hx, co, hl, hb, rfl, k⟩ := h
  have po := co.ro.pairs
  have hp1 := co.pr.1
  have hp2 := co.pr.2.1
  have hn := co.hn
  have hr3 := co.hr
  have tlen : ((intsD told).length : Int) = (n : Int) := by rw [len_ints, co.tl]
  refine sq_asg (EvV.is (ev_len (ev_ix (ev_var rfl) ev_int rfl (at_nat (j := 1) rfl rfl)) rfl) (by rw [tlen])) (show 4 < 11 by decide) ?_
  refine sq_asgW (Φ := IntD fun v => 0 ≤ v ∧ v < p ∧ v ≠ csum p rows) (ew_callSV rfl (ea_cons (ev_var rfl) (ea_cons (ev_ix (ev_var rfl) ev_int rfl (at_nat (j := 2) rfl rfl)) ea_nil)) ⟨p, csum p rows, rfl, hp1, hp2, co.t0, co.t1, fun v h0 h1 h2 => ⟨v, rfl, h0, h1, h2⟩⟩) (show 5 < 11 by decide) ?_
  rintro _ ⟨v, rfl, v0, v1, v2⟩
  have co' := co.other v0 v1
  have en : nRounds p n rows v = min 1 n := if_neg v2
  refine sq_asg (ev_meth (ev_ix (ev_var rfl) ev_int rfl (at_nat (j := 3) rfl rfl)) (by decide) (ea_cons (ev_var rfl) ea_nil) ⟨_, ⟨p, n, rows, told, csum p rows, v, co, co', rfl, rfl⟩, rfl⟩) (show 6 < 11 by decide) ?_
  refine sq_asgW (Φ := fun z => z = T.honest p (T.claim p n rows told v)) (ew_make (ea_cons (ev_var rfl) ea_nil) ⟨_, ⟨p, n, rows, told, v, co', rfl, rfl⟩, rfl⟩) (show 7 < 11 by decide) ?_
  rintro _ rfl
  refine sq_asg (d := .lst ((hrounds p rows xs (nRounds p n rows v)).map hrD)) (EvV.is (ev_slL (ev_call (ea_cons (ev_var rfl) (ea_cons (ev_var rfl) (ea_cons (ev_ix (ev_var rfl) ev_int rfl (at_nat (j := 0) rfl rfl)) (ea_cons (ev_var rfl) ea_nil)))) ⟨_, ⟨p, n, rows, xs, x, hx, hp1, hp2, po, by omega, hr3, hl, hb, rfl, rfl⟩, rfl⟩) eo_none (eo_some ev_int)) (by
    have h := cut_take ((hrounds p rows xs n).map hrD) 1
    rw [show ((1 : Nat) : Int) = 1 from rfl] at h
    rw [h, ← List.map_take, hrounds_take, en])) (show 8 < 11 by decide) ?_
  refine sq_asg (ev_call (ea_cons (ev_var rfl) (ea_cons (ev_var rfl) (ea_cons (EvFV.v (ef_list (ev_var rfl) hx)) ea_nil))) ⟨_, ⟨p, n, rows, told, v, v, xs, _, rfl, co', co', hl, hb, rfl, rfl⟩, rfl⟩) (show 9 < 11 by decide) ?_
  refine sq_asg (d := .tup [.int 1, .str (if n = 0 then "look" else "sum")]) (ev_tup (ea_cons ev_int (ea_cons (ev_ix (ev_lst (ea_cons ev_str (ea_cons ev_str ea_nil))) (ev_intB (ev_gt (ev_var rfl) ev_int)) rfl (by
    by_cases z : n = 0
    · subst z
      rfl
    · rw [if_neg z, decide_eq_true (by omega : (0 : Int) < (n : Int))]
      rfl)) ea_nil))) (show 10 < 11 by decide) ?_
  refine sq_no (eb_or (eb_not (eb_B (ev_call (ea_cons (ev_var rfl) (ea_cons (ev_var rfl) (ea_cons (ev_var rfl) (ea_cons (ev_var rfl) ea_nil)))) ⟨_, ⟨p, v, _, by rw [hrounds_len, en]; omega, hrounds_ok, rfl, rfl⟩, rfl⟩))) fun _ => (eb_not (eb_B (ev_call (ea_cons (ev_call (ea_cons (ev_var rfl) (ea_cons (ev_var rfl) ea_nil)) ⟨_, ⟨p, n, rows, told, v, xs, co', hl, hb, rfl, rfl⟩, rfl⟩) (ea_cons (ev_var rfl) ea_nil)) ⟨_, ⟨_, _, ?_, rfl, rfl⟩, rfl⟩)))) rfl ?_
  · unfold verdD
    rw [if_neg v2]
    exact same_2 same_int same_str
  refine sq_no (eb_not (eb_B (ev_call (ea_cons (ev_call (ea_cons (ev_var rfl) (ea_cons (ev_var rfl) ea_nil)) ⟨_, ⟨p, n, rows, told, v, xs, co', hl, hb, rfl, rfl⟩, rfl⟩) (ea_cons ev_bl ea_nil)) ⟨_, ⟨_, _, ?_, rfl, rfl⟩, rfl⟩))) rfl ?_
  · rw [decide_eq_false v2]
    exact same_bl
  exact sq_retV (ev_call (ea_cons (ev_var rfl) (ea_cons (ev_var rfl) (ea_cons (ev_ix (ev_var rfl) ev_int rfl (at_nat (j := 0) rfl rfl)) (ea_cons (ev_ix (ev_var rfl) ev_int rfl (at_nat (j := 1) rfl rfl)) (ea_cons (ev_var rfl) ea_nil))))) ⟨_, ⟨p, n, rows, told, v, xs, x, hx, co', hl, hb, rfl, rfl⟩, rfl⟩) k

end
end SK

set_option Elab.async false
set_option linter.all false
set_option maxRecDepth 100000
set_option maxHeartbeats 4000000
namespace SK
open PySem PySem.Spec PyProof.Rows L2
section
variable {X : Cx} {C : Addr} {bmB : List Value} {B newId initId : String}
/-- X() -/
theorem pmk_own0 {x : Str} {p pos : Pos} (F : ExcBaseFacts B newId initId bmB) (q : PySem.W.excIn X.K C bmB newId = true) (gC : X.mg x = some (.ref C)) (kC : PySem.W.keepIn X.K (.ref C) = true) (r : Raises X (.ref C)) (hg : Gl X x)
    (hdb : (x == ("__debug__" : Str)) = false := by decide) : PMk X (.Call (.Name x p) [] [] pos) (fun _ H Q => Q (.ref C) none H) := by
  intro pins s σ H Q I h
  refine wpAny_Call_Name_kw (ld_glob I hg gC ?_ hdb)
  refine PySem.W.callWith_K0 I.kIn kC ?_
  obtain ⟨bm, N, nm, qn, bs, hdct, sn, sub, ab, col, dd, k0, k1, k2, k3, k5, mN, hC, hN, hni, T⟩ := exc_obj I.kIn q
  show wpAny _ _ (call (.ref C) []) _ _ _
  refine wpAny_call_exc_subT F T hC hN hni (fun h' e hm => ?_) (Nat.zero_le _)
  exact mk_of I hm r h (I.hok.gone hm.new)
end
section
variable {X : Cx} {CX : CXT} {k : Nat} {f C : Addr} {fd : FuncData} {ps : List Str} {sp : Sp} {E : L2.St → XK} {x m : Str} {p pos apos : Pos} {e o : Expr} {es : List Expr} {ta : TE} {t : TA}
def tMeS (C : Addr) (m : Str) (sp : Sp) (E : L2.St → XK) (ta : TE) (t : TA) : TE := fun σ H Q => ta σ H fun x H1 => ∃ a dx fs, x = .ref a ∧ H1 a = some (.ins C dx fs) ∧ fs.lookup m = none ∧ t σ H1 fun vs H2 => sp (.ref a :: vs) H2 Q (E σ)
/-- o.m(e, ..), what it lets out told at the slots -/
theorem pe_meS {pl : Sem Bool} (he : PE X o ta) (c : Cls X.K C) (hm : Meth X.K C m f) (F : FnOk X.prog X.w X.K X.mg X.base CX k f fd ps sp) (hr : Room k X.A) (hb : Binds X.K fd ps []) (hx : ∀ σ, PassesAt CX X σ (E σ)) (ha : PA X (e :: es) t)
    (hst : starEach (e :: es) X.env = (false, eval e X.env) :: starEach es X.env := by rfl) (hpl : (backTo pos (starEach es X.env)).any (·.1) = false := by rfl)
    (ht : eval (.Call (.Attribute o m apos) (e :: es) [] pos) X.env = (do
      let ov ← eval o X.env
      standAt apos.atName
      let (f, first) ← holding [ov] (getMethod ov m pl)
      callWith pos f first (backTo pos (starEach (e :: es) X.env)) (backToKw pos (keywordEach [] X.env))) := by rfl) :
    PE X (.Call (.Attribute o m apos) (e :: es) [] pos) (tMeS C m sp E ta t) := by
  refine ⟨fun pins s σ H Q I h => ?_⟩
  refine PySem.W.methodCall_KW (pl := pl) (thn (he.run pins s σ H _ I h) fun u s1 ⟨x, H1, I1, rx, a, dx, fs, ex, ea, l, q⟩ => ?_) ht
  subst ex
  obtain rfl : u = Value.ref a := rx
  refine getmeth_ok I1 ea c hm l ?_
  refine PySem.W.callWith_K (first := [.ref a]) (h₀ := X.base) I.ok.mod.kin hm.kp (thn (ha.run pos pins s1 σ H1 _ I1 q) fun us s2 ⟨vs, H2, I2, r, q2⟩ => ⟨I2.kIn, ?_⟩) hst hpl
  exact run_fnS (us := .ref a :: us) (vs := .ref a :: vs) F hr hb (hx σ) I2 (.cons rfl r) q2
end
/-- isinstance(e, (C, ..)), e the exception that the suite holds -/
def rIsET (K : PySem.W.Frag) (D a : Addr) : List V → Hp → VK → Prop := fun xs H Q => ∃ (tp : Addr) (cs : List V) (us : List Value) (b : Bool), xs = [.ref a, .ref tp] ∧ H tp = some (.tup cs) ∧ Paired ClsV cs us ∧ PySem.W.kitAny K (.ref D) us = some b ∧ Q (.bl b) H
theorem call_isET {X : Cx} {a D : Addr} {oe : Obj} {pn : List (Addr × Obj)} (C : ExcC X.K D) (hz : Zc (.ref D) none oe) (hf : ∃ vs, oe.data = .fields vs) : CallR (X.suite a ((a, oe) :: pn)) (.builtin "isinstance") (rIsET X.K D a) := by
  intro pins s σ H xs us Q I r h
  obtain ⟨tp, cs, ws, b, rfl, hT, k, e, q⟩ := h
  obtain ⟨u1, u2, rfl, r1, r2⟩ := vals2 r
  cases (show u1 = Value.ref a from r1)
  cases (show u2 = Value.ref tp from r2)
  obtain ⟨hget, _⟩ := I.pin (a, oe) (List.mem_append.mpr (.inl List.mem_cons_self))
  obtain ⟨vs, hv⟩ := hf
  have J : PySem.W.InstAt s.heap a oe D none := by
    obtain ⟨oc, od, oda, osl⟩ := oe
    obtain ⟨h1, h2⟩ := hz
    dsimp only at h1 h2 hv
    subst h1 h2 hv
    exact ⟨hget, rfl, rfl, trivial⟩
  obtain ⟨_, its, rv, o, h1, h2, n, h3⟩ := (show ObjOk X.prog X.w H s.heap tp (.tup cs) from I.hok tp _ hT)
  have e3 := ClsV.all k rv
  subst e3
  obtain ⟨oc, od, dt, sl⟩ := o
  simp only at h2 h3
  subst h2 h3
  exact PySem.W.kia_tup (PySem.W.handS_kitx_exc C.hg C.hk C.hs C.hd C.ha C.hn C.ht C.hm) I.kIn J h1 e (fun z => nomatch z) fun tk => ⟨.bl b, H, I.kept (t' := tk) fun _ _ z => z, rfl, q⟩
/-- a def of data that raises C() -/
def rxSp (C : Addr) (S : List D → Prop) : Sp := fun vs H _ E => ∃ M ds, Ex M H ∧ Reps M ds vs ∧ S ds ∧ ∀ M' H', Tr none M H M' H' → E (.ref C) none H'
end SK

set_option Elab.async false
set_option linter.all false
set_option maxRecDepth 100000
set_option maxHeartbeats 4000000
namespace SK
open PySem PySem.Spec PyProof.Rows L2
section
variable {P : Program} {w : World} {K : PySem.W.Frag} {mg : Str → Option Value} {base : Heap}

def S_handX (T : Txt K mg) : List D → Prop := fun ds => ∃ (p : Int) (n : Nat) (rows : Kvs) (told : List Int) (total : Int) (xs : List Int) (x : D), seqOf x = some (intsD xs) ∧ n ≤ xs.length ∧ ds = [T.honest p (T.claim p n rows told total), x]
/-- hand, of too many coins: it raises -/
theorem ok_hand_raise (T : Txt K mg) : ∃ fd, FnOk P w K mg base (L2.CX P w) 7 (T.a 8101) fd ["self", "coins"] (rxSp (T.a 4) (S_handX T)) ∧ Binds K fd ["self", "coins"] [] := by
  obtain ⟨fd, F, b⟩ := T.f_Honest_hand
  refine ⟨fd, F.okX sc_Honest_hand (fun vs H Q E h => ?_) (fun cdv A outer s H vs Q E hr h => ⟨_, pss_cons (ps_if (pt_cmpR op_ge (pe_callB call_len_seq (by rfl) T.n_len (by decide +kernel) (pa_cons (pv 1) pa_nil)) (pe_fld (pe_fld (pv 0) rfl) rfl) (nomark _))
      (pss_one (ps_raise rfl (takes_of rfl rfl rfl rfl) (pmk_own0 PySem.F.excBase_ValueError T.xc_WP T.g_WrongPlaces T.kp_WP (raises_own T.sb_WP T.ty_WP) (by exact rfl))))
      pss_nil)
    (PSs.nox (pss_cons (ps_ret (pe_cl (ok_round_poly T) hr T.g_round_poly (pa_cons (pe_fld (pe_fld (pv 0) rfl) rfl) (pa_cons (pv 1) pa_nil)))) pss_nil)), ?_⟩), b⟩
  · obtain ⟨M, ds, _, r, ⟨p, n, rows, told, total, xs, x, hx, hl, rfl⟩, _⟩ := h
    rw [r.len]
    rfl
  · obtain ⟨M, ds, ex, r, ⟨p, n, rows, told, total, xs, x, hx, hl, rfl⟩, k⟩ := h
    have s0 := start_of (N := ["self", "coins"]) ex r
    refine (eb_test (ev_ge (ev_len (ev_var (i := 1) rfl) hx) (ev_fld 4 T.cl_Claim (ev_fld 1 T.cl_Honest (ev_var (i := 0) rfl) rfl rfl) rfl rfl))) none _ M H s0.sr _ fun b M1 H1 T1 e => ?_
    have hb : b = true := by
      rw [e, len_ints]
      exact decide_eq_true (by omega)
    rw [if_pos hb]
    exact k M1 H1 T1
theorem pss_given {X : Cx} {st : List Stmt} {t : TS} {φ : Prop} (h : φ → PSs X st t) : PSs X st (fun D σ H => φ ∧ t D σ H) := ⟨fun pins s σ H D I q => (h q.1).run pins s σ H D I q.2⟩
theorem call_isE2 {X : Cx} {a Dc : Addr} {cls : Value} {d : Option Addr} {oe : Obj} {pn : List (Addr × Obj)} (C : ExcC X.K Dc) (h : cls = .ref Dc ∧ d = none) (hz : Zc cls d oe) (hf : ∃ vs, oe.data = .fields vs) : CallR (X.suite a ((a, oe) :: pn)) (.builtin "isinstance") (rIsE X.K Dc a) := by
  obtain ⟨rfl, rfl⟩ := h
  exact call_isE C hz hf
theorem call_isET2 {X : Cx} {a Dc : Addr} {cls : Value} {d : Option Addr} {oe : Obj} {pn : List (Addr × Obj)} (C : ExcC X.K Dc) (h : cls = .ref Dc ∧ d = none) (hz : Zc cls d oe) (hf : ∃ vs, oe.data = .fields vs) : CallR (X.suite a ((a, oe) :: pn)) (.builtin "isinstance") (rIsET X.K Dc a) := by
  obtain ⟨rfl, rfl⟩ := h
  exact call_isET C hz hf
abbrev S_lw_refused (T : Txt K mg) : DSp := det fun ds d => S_handX T ds ∧ d = .bl true
theorem ok_lw_refused (T : Txt K mg) : FnP P w K mg base 8 (T.a 110) ["_law_teller", "_law_numbers_here"] (pureSp (S_lw_refused T)) := by
  obtain ⟨fd, F, b⟩ := T.f_lw_refused
  obtain ⟨fdh, Fh, bh⟩ := ok_hand_raise (P := P) (w := w) (base := base) T
  refine ⟨⟨fd, F.ok sc_lw_refused (fun vs H Q E h => ?_) (fun cdv A outer s H vs Q E hr h => ⟨_, pss_cons (ps_try_as (i := 2) (Wout := fun _ _ _ _ => False) rfl rfl sc_lw_refused.nd rfl rfl ⟨rfl, by decide, Or.inl T.g_WrongPlaces⟩ takes0
      (fun W pn xe tk _ => pss_one (ps_expr (by exact (pe_meS (E := WE W) (pv 0) T.cl_Honest.c T.me_Honest_hand Fh hr bh (fun σ => passAt tk σ) (pa_cons (pv 1) pa_nil)))))
      (fun a oe cls d pn hz hf => pss_given (φ := cls = .ref (T.a 4) ∧ d = none) fun hcd => pss_cons (ps_set (i := 3) sc_lw_refused.nd rfl (Or.inl rfl) (pe_not (pe_callB (call_isET2 T.ec_WP hcd hz hf) (by rfl) T.n_isinstance (by decide +kernel) (pa_cons (pv 2) (pa_cons (pe_tup (pa_cons (pe_glob (v := .ref (T.a 9)) (by rfl) T.g_NotInField rfl) (pa_cons (pe_glob (v := .ref (T.a 3)) (by rfl) T.g_OtherField rfl) (pa_cons (pe_glob (v := .ref (T.a 6)) (by rfl) T.g_OutOfRange rfl) (pa_cons (pe_glob (v := .ref (T.a 7)) (by rfl) T.g_TooLarge rfl) pa_nil))))) pa_nil)))))
        (pss_cons (ps_ret (pe_and (pv 3) (pe_and (pe_callB (call_isE2 T.ec_WP hcd hz hf) (by rfl) T.n_isinstance (by decide +kernel) (pa_cons (pv 2) (pa_cons (pe_glob (v := .ref (T.a 2)) (by rfl) T.g_TalkError rfl) pa_nil))) (pe_one (pe_callB (call_isE2 T.ec_WP hcd hz hf) (by rfl) T.n_isinstance (by decide +kernel) (pa_cons (pv 2) (pa_cons (pe_bltn (v := .ty "ValueError") (by rfl) T.n_ValueError (by decide +kernel) rfl) pa_nil)))))))
        pss_nil)))
    (pss_cons (ps_ret pe_bl) pss_nil), ?_⟩), b⟩, F.kp⟩
  · obtain ⟨M, ds, Φ, _, r, ⟨dd, ⟨⟨p, n, rows, told, total, xs, x, hx, hl, rfl⟩, rfl⟩, kk⟩, _⟩ := h
    rw [r.len]
    rfl
  · obtain ⟨M, ds, Φ, ex, r, ⟨dd, ⟨⟨p, n, rows, told, total, xs, x, hx, hl, rfl⟩, rfl⟩, kk⟩, k⟩ := h
    obtain ⟨v1, v2, rfl, r1, r2⟩ := two_of r
    obtain ⟨a, dx, us, rfl, e2, r3, l⟩ := id r1.obj_
    refine ⟨_, rfl, a, dx, _, rfl, ex _ _ e2, lookup_zip_none (by decide), _, rfl, ?_⟩
    refine ⟨M, _, ex, .cons r1 (.cons r2 .nil), ⟨p, n, rows, told, total, xs, x, hx, hl, rfl⟩, fun M' H' T' => ⟨true, T.ex_WP, fun _ a0 h0 => ⟨⟨rfl, rfl⟩, ?_⟩, fun z => by cases z⟩⟩
    refine ⟨_, rfl, (by show 4 ≤ sizeLine; decide), fun tp htp => ?_⟩
    refine ⟨tp, _, [.ref (T.a 9), .ref (T.a 3), .ref (T.a 6), .ref (T.a 7)], false, rfl, upd_same, .cons (.own _) (.cons (.own _) (.cons (.own _) (.cons (.own _) .nil))), T.ka_WP, _, rfl, ?_⟩
    refine ⟨_, rfl, true, rfl, ?_⟩
    rw [if_pos rfl]
    refine ⟨_, rfl, _, .ref (T.a 2), true, rfl, fun u h => h, T.kt_WP, true, rfl, ?_⟩
    rw [if_pos rfl]
    refine ⟨_, rfl, _, .type "ValueError", true, rfl, fun u h => h, T.kv_WP, ?_⟩
    exact k _ (.bl true) M' _ (T'.trans (.newO T'.w htp)) rep_bl kk

end
end SK

set_option Elab.async false
set_option linter.all false
set_option maxRecDepth 100000
set_option maxHeartbeats 4000000
namespace SK
open PySem PySem.Spec PyProof.Rows L2
section
variable {P : Program} {w : World} {K : PySem.W.Frag} {mg : Str → Option Value} {base : Heap}

section
variable {ρ : Env} {tc : TT} {t u : TS} {P : Post} {ar tk : TA} {S : DSp} {C : Addr} {ds : List D} {Φ : D → Prop}
theorem sq_joinT {φ : Bool → Prop} (I : Env → Prop) (h : EvT tc ρ φ) (h1 : φ true → SW t ρ { P with nx := I }) (h2 : φ false → I ρ) (k : ∀ ρ', I ρ' → SW u ρ' P) : SW (tSeq (tIfS tc t tNext) u) ρ P :=
  sq_whenT h (fun e => SW.imp (h1 e) k (fun _ h => h) (fun _ h => h) (fun _ h => h) (fun _ _ h => h)) fun e => k ρ (h2 e)
/-- C(.., k = v, ..), the keywords' values known by a word -/
theorem ew_makeKW {n k : Nat} {ψ : List D → Prop} {gV : List V → List V → List V} (hg : ∀ vs zs, gV vs zs = vs ++ zs) (h : EvAV ar ρ ds) (h2 : EvA tk ρ ψ) (hn : ds.length = n) (hk : ∀ zs, ψ zs → zs.length = k) (s : ∀ zs, ψ zs → S (ds ++ zs) Φ) : EvW (tMakeK C n k (initSp C [] S) gV E0 ar tk) ρ Φ := fun st σ M H sr Q q =>
  h st σ M H sr _ fun vs es M0 H0 T0 r0 e0 => h2 st σ M0 H0 (sr.tr T0) _ fun ws es2 M1 H1 T1 r1 e1 => by
    subst e0
    have r := (r0.mono T1.m).append r1
    refine ⟨by rw [r0.len, hn], by rw [r1.len, hk _ e1], fun a dx n1 n2 ne => ?_⟩
    rw [hg]
    have T := T0.trans T1
    have m1 : M1 a = none := T.w.ex.back n1
    have m2 : M1 dx = none := T.w.ex.back n2
    refine ⟨a, dx, vs ++ ws, [], [], M1, es ++ es2, Φ, rfl, (T.w.ex.updR m2).updR m1, m1, upd_same, .nil, rfl, r, s _ e1, fun k2 fs2 us dy M' H' a1 a2 a3 a4 a5 a6 a7 a8 f => ⟨rfl, ?_⟩⟩
    exact q (.ref a) _ _ H' (T.trans (made_of T.w n1 n2 ne a1 a2 a3 a4 a5 a6 a7)) (rep_obj upd_same (a7.mono (.new a5)) a8) f
end
/-- what is kept of a claim, in short -/
abbrev Cl := Nat × Kvs × List Int
abbrev clD (T : Txt K mg) (p : Int) (c : Cl) : D := T.one p c.1 c.2.1 c.2.2
abbrev ClOk (p : Int) (c : Cl) : Prop := COk p c.1 c.2.1 c.2.2 (csum p c.2.1)

abbrev S_law (T : Txt K mg) : DSp := det fun ds d => ∃ ns : List Int, ds = [.scr K ns] ∧ d = .bl true
theorem ok_law (T : Txt K mg) {fd : FuncData} (F : Fun K "law" "law" (top 113) (T.a 113) fd) : FnOk P w K mg base CX0 13 (T.a 113) fd ["_law_script"] (pureSp (S_law T)) := by
  refine fn_law F sc_law (fun ds Φ h => ?_) (fun cdv A outer s H E hr ds Φ h => ⟨_, _, 1, (pss_cons (ps_set (i := 1) sc_law.nd rfl (Or.inl rfl) (pe_cl (ok_lw_store T) (hr.mono (by decide)) T.g_lw_store (pa_cons (pv 0) pa_nil)))
    (pss_cons (ps_set (i := 2) sc_law.nd rfl (Or.inl rfl) (pe_cl (ok_lw_prime T) (hr.mono (by decide)) T.g_lw_prime (pa_cons (pv 1) pa_nil)))
    (pss_cons (ps_set (i := 2) sc_law.nd rfl (Or.inl rfl) (pe_cl (ok_lw_pick T) (hr.mono (by decide)) T.g_lw_pick (pa_cons (pv 1) (pa_cons (pe_lst (pa_cons pe_int (pa_cons pe_int (pa_cons pe_int (pa_cons pe_int (pa_cons (pv 2) (pa_cons (pv 2) (pa_cons (pv 2) (pa_cons (pv 2) pa_nil))))))))) pa_nil))))
    (pss_cons (ps_set (i := 3) sc_law.nd rfl (Or.inl rfl) (pe_lst pa_nil))
    (pss_cons (ps_for PassesOwn.never rfl (pi_range1 (by rfl) T.n_range (pa_cons pe_int pa_nil)) (pg_name (i := 4) sc_law.nd rfl (Or.inl rfl))
      (pss_cons (ps_set (i := 5) sc_law.nd rfl (Or.inl rfl) (pe_cl (ok_lw_pick T) (hr.mono (by decide)) T.g_lw_pick (pa_cons (pv 1) (pa_cons (pe_lst (pa_cons pe_int (pa_cons pe_int (pa_cons pe_int (pa_cons pe_int (pa_cons pe_int (pa_cons pe_int (pa_cons pe_int (pa_cons pe_int pa_nil))))))))) pa_nil))))
      (pss_cons (ps_if (pt_val (pe_cl (ok_lw_chance T) (hr.mono (by decide)) T.g_lw_chance (pa_cons (pv 1) (pa_cons pe_int pa_nil))))
        (pss_cons (ps_set (i := 5) sc_law.nd rfl (Or.inl rfl) (pe_cl (ok_lw_take T) (hr.mono (by decide)) T.g_lw_take (pa_cons (pv 1) (pa_cons pe_int pa_nil))))
        pss_nil)
        pss_nil)
      (pss_cons (ps_set (i := 6) sc_law.nd rfl (Or.inl rfl) (pe_cl (ok_lw_drawn_claim T) (hr.mono (by decide)) T.g_lw_drawn_claim (pa_cons (pv 1) (pa_cons (pv 2) (pa_cons (pv 5) (pa_cons pe_int pa_nil))))))
      (pss_cons (ps_set (i := 7) sc_law.nd rfl (Or.inl rfl) (pe_mk T.mk_Form (ok_Form_init T) (hr.mono (by decide)) T.g_Form (pa_cons (pv 2) (pa_cons (pv 5) (pa_cons (pe_callTy call_list_of (by rfl) T.n_list (by decide +kernel) (pa_cons (pe_ix ix_seq (pv 6) pe_int (fun _ _ => rfl)) pa_nil)) pa_nil)))))
      (pss_cons (ps_set (i := 8) sc_law.nd rfl (Or.inl rfl) (pe_mkK T.mk_Claim (ok_Claim_init T) (hr.mono (by decide)) T.g_Claim (pa_cons (pv 7) pa_nil) (pk_cons (pe_callTy call_list_of (by rfl) T.n_list (by decide +kernel) (pa_cons (pe_ix ix_seq (pv 6) pe_int (fun _ _ => rfl)) pa_nil)) (pk_cons (pe_cl (ok_lw_pick T) (hr.mono (by decide)) T.g_lw_pick (pa_cons (pv 1) (pa_cons (pe_lst (pa_cons pe_non (pa_cons (pe_ix ix_seq (pv 6) pe_int (fun _ _ => rfl)) pa_nil))) pa_nil))) pk_nil))))
      (pss_cons (ps_expr (pe_bm PySem.F.plainAttrs_list PySem.F.slot_list_append PySem.F.type_list_append mt_append (pv 3) (pa_cons (pe_tup (pa_cons (pe_ix ix_seq (pv 6) pe_int (fun _ _ => rfl)) (pa_cons (pe_ix ix_seq (pv 6) pe_int (fun _ _ => rfl)) (pa_cons (pe_ix ix_seq (pv 6) pe_int (fun _ _ => rfl)) (pa_cons (pv 8) (pa_cons (pe_mk T.mk_Honest (ok_Honest_init T) (hr.mono (by decide)) T.g_Honest (pa_cons (pv 8) pa_nil)) pa_nil)))))) pa_nil)))
      pss_nil)))))))
    (pss_cons (ps_for PassesOwn.never rfl (pi_seq (pv 3)) (pg_name (i := 9) sc_law.nd rfl (Or.inl rfl))
      (pss_cons (ps_set (i := 5) sc_law.nd rfl (Or.inl rfl) (pe_callB call_len_seq (by rfl) T.n_len (by decide +kernel) (pa_cons (pe_ix ix_seq (pv 9) pe_int (fun _ _ => rfl)) pa_nil)))
      (pss_cons (ps_if (PW.pt (pw_or (pt_not (pt_val (pe_callB call_isi (by rfl) T.n_isinstance (by decide +kernel) (pa_cons (pe_ix ix_seq (pv 9) pe_int (fun _ _ => rfl)) (pa_cons (pe_glob (v := .ref (T.a 70)) (by rfl) T.g_Teller rfl) pa_nil))))) (pw_or1 (pt_not (pt_val (pe_cl (ok_lw_same T) (hr.mono (by decide)) T.g_lw_same (pa_cons (pe_fld (pe_ix ix_seq (pv 9) pe_int (fun _ _ => rfl)) rfl) (pa_cons (pv 2) pa_nil))))))))
        (pss_cons (ps_ret pe_bl)
        pss_nil)
        pss_nil)
      (pss_cons (ps_for PassesOwn.never rfl (pi_seq (pe_cl (ok_lw_rows_of_coins T) (hr.mono (by decide)) T.g_lw_rows_of_coins (pa_cons (pv 1) (pa_cons (pv 2) (pa_cons (pv 5) pa_nil))))) (pg_name (i := 10) sc_law.nd rfl (Or.inl rfl))
        (pss_cons (ps_if (pt_not (pt_val (pe_cl (ok_lw_let_by T) hr T.g_lw_let_by (pa_cons (pv 1) (pa_cons (pv 9) (pa_cons (pv 2) (pa_cons (pv 10) pa_nil)))))))
          (pss_cons (ps_ret pe_bl)
          pss_nil)
          pss_nil)
        pss_nil))
      (pss_cons (ps_set (i := 11) sc_law.nd rfl (Or.inl rfl) (pe_cl (ok_lw_numbers T) (hr.mono (by decide)) T.g_lw_numbers (pa_cons (pv 1) (pa_cons (pv 2) (pa_cons (pe_op op_add (pv 5) (pe_cl (ok_lw_take T) (hr.mono (by decide)) T.g_lw_take (pa_cons (pv 1) (pa_cons pe_int pa_nil)))) pa_nil)))))
      (pss_cons (ps_if (pt_not (pt_val (pe_cl (ok_lw_refused T) (hr.mono (by decide)) T.g_lw_refused (pa_cons (pe_ix ix_seq (pv 9) pe_int (fun _ _ => rfl)) (pa_cons (pv 11) pa_nil)))))
        (pss_cons (ps_ret pe_bl)
        pss_nil)
        pss_nil)
      pss_nil))))))
    (pss_cons (ps_set (i := 12) sc_law.nd rfl (Or.inl rfl) (pe_cl (ok_lw_numbers T) (hr.mono (by decide)) T.g_lw_numbers (pa_cons (pv 1) (pa_cons (pv 2) (pa_cons (pe_callB call_len_seq (by rfl) T.n_len (by decide +kernel) (pa_cons (pe_ix ix_seq (pe_ix ix_seq (pv 3) pe_int (fun _ _ => rfl)) pe_int (fun _ _ => rfl)) pa_nil)) pa_nil)))))
    (pss_cons (ps_set (i := 13) sc_law.nd rfl (Or.inl rfl) (pe_cl (ok_lw_numbers T) (hr.mono (by decide)) T.g_lw_numbers (pa_cons (pv 1) (pa_cons (pv 2) (pa_cons (pe_callB call_len_seq (by rfl) T.n_len (by decide +kernel) (pa_cons (pe_ix ix_seq (pe_ix ix_seq (pv 3) pe_int (fun _ _ => rfl)) pe_int (fun _ _ => rfl)) pa_nil)) pa_nil)))))
    (pss_cons (ps_for PassesOwn.never rfl (pi_seq (pv 3)) (pg_name (i := 9) sc_law.nd rfl (Or.inl rfl))
      (pss_cons (ps_if (pt_not (pt_val (pe_cl (ok_lw_hands T) (hr.mono (by decide)) T.g_lw_hands (pa_cons (pe_ix ix_seq (pe_ix ix_seq (pv 3) pe_int (fun _ _ => rfl)) pe_int (fun _ _ => rfl)) (pa_cons (pv 2) (pa_cons (pe_ix ix_seq (pe_ix ix_seq (pv 3) pe_int (fun _ _ => rfl)) pe_int (fun _ _ => rfl)) (pa_cons (pe_ix ix_seq (pe_ix ix_seq (pv 3) pe_int (fun _ _ => rfl)) pe_int (fun _ _ => rfl)) (pa_cons (pv 12) pa_nil))))))))
        (pss_cons (ps_ret pe_bl)
        pss_nil)
        pss_nil)
      (pss_cons (ps_if (pt_not (pt_val (pe_cl (ok_lw_hands T) (hr.mono (by decide)) T.g_lw_hands (pa_cons (pe_ix ix_seq (pe_ix ix_seq (pv 3) pe_int (fun _ _ => rfl)) pe_int (fun _ _ => rfl)) (pa_cons (pv 2) (pa_cons (pe_ix ix_seq (pe_ix ix_seq (pv 3) pe_int (fun _ _ => rfl)) pe_int (fun _ _ => rfl)) (pa_cons (pe_ix ix_seq (pe_ix ix_seq (pv 3) pe_int (fun _ _ => rfl)) pe_int (fun _ _ => rfl)) (pa_cons (pv 13) pa_nil))))))))
        (pss_cons (ps_ret pe_bl)
        pss_nil)
        pss_nil)
      pss_nil)))
    (pss_cons (ps_if (pt_not (pt_val (pe_cl (ok_lw_false_talk T) hr T.g_lw_false_talk (pa_cons (pv 1) (pa_cons (pe_ix ix_seq (pv 3) pe_int (fun _ _ => rfl)) (pa_cons (pv 2) (pa_cons (pv 12) pa_nil)))))))
      (pss_cons (ps_ret pe_bl)
      pss_nil)
      pss_nil)
    (pss_cons (ps_for PassesOwn.never rfl (pi_seq (pv 3)) (pg_name (i := 9) sc_law.nd rfl (Or.inl rfl))
      (pss_cons (ps_if (pt_not (pt_val (pe_cl (ok_lw_form_is T) (hr.mono (by decide)) T.g_lw_form_is (pa_cons (pe_fld (pe_ix ix_seq (pv 9) pe_int (fun _ _ => rfl)) rfl) (pa_cons (pv 2) (pa_cons (pe_callB call_len_seq (by rfl) T.n_len (by decide +kernel) (pa_cons (pe_ix ix_seq (pv 9) pe_int (fun _ _ => rfl)) pa_nil)) (pa_cons (pe_ix ix_seq (pv 9) pe_int (fun _ _ => rfl)) pa_nil)))))))
        (pss_cons (ps_ret pe_bl)
        pss_nil)
        pss_nil)
      (pss_cons (ps_if (pt_not (pt_val (pe_cl (ok_lw_same T) (hr.mono (by decide)) T.g_lw_same (pa_cons (pe_tup (pa_cons (pe_fld (pe_ix ix_seq (pv 9) pe_int (fun _ _ => rfl)) rfl) (pa_cons (pe_fld (pe_ix ix_seq (pv 9) pe_int (fun _ _ => rfl)) rfl) (pa_cons (pe_me0 (pe_ix ix_seq (pv 9) pe_int (fun _ _ => rfl)) T.cl_Claim.c T.me_Claim_is_true (ok_Claim_is_true T) (hr.mono (by decide))) pa_nil)))) (pa_cons (pe_tup (pa_cons (pe_callTy call_tupK (by rfl) T.n_tuple (by decide +kernel) (pa_cons (pe_ix ix_seq (pv 9) pe_int (fun _ _ => rfl)) pa_nil)) (pa_cons (pe_ix ix_seq (pv 9) pe_int (fun _ _ => rfl)) (pa_cons pe_bl pa_nil)))) pa_nil)))))
        (pss_cons (ps_ret pe_bl)
        pss_nil)
        pss_nil)
      pss_nil)))
    (pss_cons (ps_ret (pe_cl (ok_lw_let_by T) hr T.g_lw_let_by (pa_cons (pv 1) (pa_cons (pe_ix ix_seq (pv 3) pe_int (fun _ _ => rfl)) (pa_cons (pv 2) (pa_cons (pv 12) pa_nil))))))
    pss_nil)))))))))))), ?_, ?_, ?_⟩)
  · obtain ⟨d, ⟨ns, rfl, rfl⟩, k⟩ := h
    rfl
  · obtain ⟨d, ⟨ns, rfl, rfl⟩, k⟩ := h
    exact ef_callF (ea_cons (ev_var rfl) ea_nil) ⟨ns, rfl, fun xs so => so⟩
  · obtain ⟨d, ⟨ns, rfl, rfl⟩, k⟩ := h
    exact (by decide : 1 < 14)
  obtain ⟨d, ⟨ns, rfl, rfl⟩, k⟩ := h
  refine sq_asgW (Φ := IntD PrimeOk) (ew_callSV rfl ea_nil ⟨rfl, fun p hp => ⟨p, rfl, hp⟩⟩) (show 2 < 14 by decide) ?_
  rintro _ ⟨p0, rfl, hp0⟩
  refine sq_asgW (Φ := IntD PrimeOk) (ew_callSV rfl (ea_cons (ev_lst (ea_cons ev_int (ea_cons ev_int (ea_cons ev_int (ea_cons ev_int (ea_cons (ev_var rfl) (ea_cons (ev_var rfl) (ea_cons (ev_var rfl) (ea_cons (ev_var rfl) ea_nil))))))))) ea_nil) ⟨_, _, rfl, rfl, (by show 0 < 8; decide), (by show 8 < 1000; decide), fun d hd => ?_⟩) (show 2 < 14 by decide) ?_
  · simp only [List.mem_cons, List.not_mem_nil, or_false] at hd
    rcases hd with h | h | h | h | h | h | h | h
    · exact ⟨2, h, primesL_ok 2 (by decide +kernel)⟩
    · exact ⟨3, h, primesL_ok 3 (by decide +kernel)⟩
    · exact ⟨5, h, primesL_ok 5 (by decide +kernel)⟩
    · exact ⟨7, h, primesL_ok 7 (by decide +kernel)⟩
    all_goals exact ⟨p0, h, hp0⟩
  rintro _ ⟨p, rfl, hp⟩
  have hp1 := hp.1
  have hp2 := hp.2.1
  refine sq_asgFV (ef_lstV ea_nil) (show 3 < 14 by decide) ?_
  refine sq_forE (js := [4]) (ys := List.range 2) (emb := fun i : Nat => D.int (i : Int)) (fun i => [.int (i : Int)]) (fun i ρ => ∃ (cs : List Cl) (a b c d e : Option SV), cs.length = i ∧ (∀ c ∈ cs, ClOk p c) ∧ ρ = [some (.imm (.scr K ns)), some .sto, some (.imm (.int p)), some (.own (cs.map (clD T p))), a, b, c, d, e, none, none, none, none, none]) (ei_range1 ev_int (by decide)) ⟨[], none, none, none, none, none, rfl, (fun c h => by cases h), rfl⟩ (fun i ρ ⟨cs, a, b, c, d, e, _, _, q⟩ => by subst q; exact jl1 (show 4 < 14 by decide)) (fun i m ρ hm ⟨cs, a, b, c, d, e, hl, hc, q⟩ => ?_) (fun ρ ⟨cs, a, b, c, d, e, hl, hc, q⟩ => ?_)
  · subst q
    have hi : i < 2 := by
      have := (List.getElem?_eq_some_iff.mp hm).1
      rwa [List.length_range] at this
    refine ⟨gw_name, ?_⟩
    refine sq_asgW (Φ := fun z => ∃ n : Nat, z = .int (n : Int) ∧ n ≤ 5) (ew_callSV rfl (ea_cons (ev_lst (ea_cons ev_int (ea_cons ev_int (ea_cons ev_int (ea_cons ev_int (ea_cons ev_int (ea_cons ev_int (ea_cons ev_int (ea_cons ev_int ea_nil))))))))) ea_nil) ⟨_, _, rfl, rfl, (by show 0 < 8; decide), (by show 8 < 1000; decide), fun d hd => ?_⟩) (show 5 < 14 by decide) ?_
    · simp only [List.mem_cons, List.not_mem_nil, or_false] at hd
      rcases hd with h | h | h | h | h | h | h | h
      · exact ⟨0, h, by decide⟩
      · exact ⟨1, h, by decide⟩
      · exact ⟨1, h, by decide⟩
      · exact ⟨2, h, by decide⟩
      · exact ⟨2, h, by decide⟩
      · exact ⟨2, h, by decide⟩
      · exact ⟨3, h, by decide⟩
      · exact ⟨3, h, by decide⟩
    rintro _ ⟨n0, rfl, hn0⟩
    refine sq_joinT (φ := fun _ => True) (fun ρ => ∃ n : Nat, n ≤ 5 ∧ ρ = [some (.imm (.scr K ns)), some .sto, some (.imm (.int p)), some (.own (cs.map (clD T p))), some (.imm (.int (m : Int))), some (.imm (.int (n : Int))), c, d, e, none, none, none, none, none]) (et_B (ew_callSV rfl (ea_cons ev_int ea_nil) ⟨6, rfl, by decide, fun b => ⟨b, rfl, trivial⟩⟩)) (fun _ => ?_) (fun _ => ⟨n0, hn0, rfl⟩) ?_
    · refine sq_asgW (Φ := fun z => ∃ n : Nat, z = .int (n : Int) ∧ n ≤ 5) (ew_callSV rfl (ea_cons ev_int ea_nil) ⟨6, rfl, by decide, fun v h0 h1 => ⟨v.toNat, by rw [Int.toNat_of_nonneg h0], by omega⟩⟩) (show 5 < 14 by decide) ?_
      rintro _ ⟨n1, rfl, hn1⟩
      exact sw_next ⟨n1, hn1, rfl⟩
    rintro ρ ⟨n, hn, rfl⟩
    refine sq_asgW (Φ := fun z => ∃ (rows : Kvs) (told : List Int), COk p n rows told (csum p rows) ∧ z = .tup [.lst (rows.map termD), .lst (intsD told), .int (csum p rows)]) (ew_callSV rfl (ea_cons (ev_var rfl) (ea_cons (ev_var rfl) (ea_cons ev_int ea_nil))) ⟨p, n, rfl, hp, hn, fun rows told co => ⟨rows, told, co, rfl⟩⟩) (show 6 < 14 by decide) ?_
    rintro _ ⟨rows, told, co, rfl⟩
    have po := co.ro.pairs
    have hr3 := co.hr
    refine sq_asgW (Φ := fun z => z = T.form p n rows) (ew_make (ea_cons (ev_var rfl) (ea_cons (ev_var rfl) (ea_cons (EvFV.v (ef_list (ev_ix (ev_var rfl) ev_int rfl (at_nat (j := 0) rfl rfl)) rfl)) ea_nil))) ⟨_, ⟨p, n, rows, _, rfl, hp, hn, po, fun t ht => ⟨by have := co.ro.lo t ht; omega, co.ro.hi t ht⟩, hr3, rfl, rfl⟩, by rw [canon_self co.ro (by omega)]⟩) (show 7 < 14 by decide) ?_
    rintro _ rfl
    refine sq_asgW (Φ := fun z => z = T.claim p n rows told (csum p rows)) (ew_makeKW (fun _ _ => rfl) (ea_cons (ev_var rfl) ea_nil) (ea_consV (EvFV.v (ef_list (ev_ix (ev_var rfl) ev_int rfl (at_nat (j := 1) rfl rfl)) rfl)) (ea_one (Φ := fun y => y = .int (csum p rows) ∨ (y = .non ∧ csum p rows = csum p rows)) (ew_callSV rfl (ea_cons (ev_lst (ea_cons ev_non (ea_cons (ev_ix (ev_var rfl) ev_int rfl (at_nat (j := 2) rfl rfl)) ea_nil))) ea_nil) ⟨_, _, rfl, rfl, (by show 0 < 2; decide), (by show 2 < 1000; decide), fun d hd => ?_⟩))) rfl ?_ ?_) (show 8 < 14 by decide) ?_
    · simp only [List.mem_cons, List.not_mem_nil, or_false] at hd
      rcases hd with h | h
      · exact Or.inr ⟨h, rfl⟩
      · exact Or.inl h
    · rintro zs ⟨r, rfl, y, rfl, _⟩
      rfl
    · rintro zs ⟨r, rfl, y, rfl, hy⟩
      exact ⟨_, ⟨p, n, rows, told, csum p rows, _, y, Or.inl rfl, hy, co, rfl, rfl⟩, rfl⟩
    rintro _ rfl
    refine sq_app rfl (d := clD T p (n, rows, told)) (ev_tup (ea_cons (ev_ix (ev_var rfl) ev_int rfl (at_nat (j := 0) rfl rfl)) (ea_cons (ev_ix (ev_var rfl) ev_int rfl (at_nat (j := 1) rfl rfl)) (ea_cons (ev_ix (ev_var rfl) ev_int rfl (at_nat (j := 2) rfl rfl)) (ea_cons (ev_var rfl) (ea_cons (ew_make (ea_cons (ev_var rfl) ea_nil) ⟨_, ⟨p, n, rows, told, csum p rows, co, rfl, rfl⟩, rfl⟩) ea_nil)))))) (by rw [List.length_map]; omega) ?_
    refine sw_next ⟨cs ++ [(n, rows, told)], _, _, _, _, _, by rw [List.length_append, hl]; rfl, fun c hcm => ?_, by rw [List.map_append]; rfl⟩
    rcases List.mem_append.mp hcm with h | h
    · exact hc c h
    · rw [List.mem_singleton.mp h]; exact co
  · subst q
    rw [List.length_range] at hl
    refine sw_freeze 3 rfl ?_
    match cs, hl, hc with
    | [c0, c1], _, hc =>
    have co0 : ClOk p c0 := hc c0 (by simp)
    have co1 : ClOk p c1 := hc c1 (by simp)
    obtain ⟨n0, rows0, told0⟩ := c0
    obtain ⟨n1, rows1, told1⟩ := c1
    have hn0 := co0.hn
    have hn1 := co1.hn
    have tl : ∀ {n : Nat} {rows : Kvs} {told : List Int}, ClOk p (n, rows, told) → D.int ((intsD told).length : Int) = D.int (n : Int) := fun {n rows told} co => by rw [len_ints, co.tl]
    have mem : ∀ {i : Nat} {c : Cl}, ([(n0, rows0, told0), (n1, rows1, told1)] : List Cl)[i]? = some c → ClOk p c := fun h => hc _ (List.mem_of_getElem? h)
    refine sq_forE (js := [9]) (ys := [(n0, rows0, told0), (n1, rows1, told1)]) (emb := clD T p) (fun c => [clD T p c]) (fun i ρ => ∃ (a b c d e f g h : Option SV), ρ = [some (.imm (.scr K ns)), some .sto, some (.imm (.int p)), some (.imm (.lst (([(n0, rows0, told0), (n1, rows1, told1)] : List Cl).map (clD T p)))), a, b, c, d, e, f, g, h, none, none]) (ei_seq (ev_var rfl) rfl) ⟨_, _, _, _, _, _, _, _, rfl⟩ (fun i ρ ⟨a, b, c, d, e, f, g, h, q⟩ => by subst q; exact jl1 (show 9 < 14 by decide)) (fun i c ρ hic ⟨a, b, x6, d, e, f, g, h, q⟩ => ?_) (fun ρ ⟨a, b, c, d, e, f, g, h, q⟩ => ?_)
    · subst q
      have co := mem hic
      obtain ⟨n, rows, told⟩ := c
      have hn := co.hn
      refine ⟨gw_name, ?_⟩
      refine sq_asg (EvV.is (ev_len (ev_ix (ev_var rfl) ev_int rfl (at_nat (j := 1) rfl rfl)) rfl) (tl co)) (show 5 < 14 by decide) ?_
      refine sq_no (eb_or (eb_not (eb_B (ev_isiC (ev_ix (ev_var rfl) ev_int rfl (at_nat (j := 4) rfl rfl)) T.ci_Honest T.ki_Honest))) fun _ => (eb_not (eb_B (ev_call (ea_cons (ev_fld 0 T.cl_Honest (ev_ix (ev_var rfl) ev_int rfl (at_nat (j := 4) rfl rfl)) rfl rfl) (ea_cons (ev_var rfl) ea_nil)) ⟨_, ⟨_, _, same_int, rfl, rfl⟩, rfl⟩)))) rfl ?_
      refine sq_for (js := [10]) (fun xs i ρ => ∃ g : Option SV, ρ = [some (.imm (.scr K ns)), some .sto, some (.imm (.int p)), some (.imm (.lst (([(n0, rows0, told0), (n1, rows1, told1)] : List Cl).map (clD T p)))), a, some (.imm (.int (n : Int))), x6, d, e, some (.imm (clD T p (n, rows, told))), g, h, none, none]) (φ := fun xs => xs.length ≤ 1000 ∧ ∀ y ∈ xs, ∃ r : List Int, seqOf y = some (intsD r) ∧ r.length = n ∧ ∀ a ∈ r, 0 ≤ a ∧ a < p) (ei_seqW (ew_callSV rfl (ea_cons (ev_var rfl) (ea_cons (ev_var rfl) ea_nil)) ⟨p, n, rfl, hp, hn, fun ys h1 h2 => ⟨ys, rfl, h1, h2⟩⟩)) (fun xs i ρ ⟨g, q⟩ => by subst q; exact jl1 (show 10 < 14 by decide)) (fun xs _ => ⟨g, rfl⟩) (fun xs j y ρ hx hy ⟨g, q⟩ => ?_) (fun xs ρ hx ⟨g, q⟩ => ?_)
      · subst q
        obtain ⟨r, hr1, hr2, hr3⟩ := hx.2 y (List.mem_of_getElem? hy)
        refine ⟨[y], gw_name, ?_⟩
        refine sq_no (eb_not (eb_B (ew_callSV rfl (ea_cons (ev_var rfl) (ea_cons (ev_var rfl) (ea_cons (ev_var rfl) ea_nil))) ⟨p, n, rows, told, r, y, hr1, co, hr2, hr3, rfl, rfl⟩))) rfl ?_
        exact sw_next ⟨_, rfl⟩
      · subst q
        refine sq_asgW (Φ := fun z => ∃ xs : List Int, z = .lst (intsD xs) ∧ n ≤ xs.length) (ew_callS rfl (ea_consV (ev_var rfl) (ea_one (ew_addI (φ := fun x => x = (n : Int)) (ψ := fun x => 0 ≤ x ∧ x < 3) (θ := fun x => (n : Int) ≤ x ∧ x < (n : Int) + 3) (EvV.i (ev_var rfl) rfl) (ew_callSV rfl (ea_cons ev_int ea_nil) ⟨3, rfl, by decide, fun v h0 h1 => ⟨v, rfl, h0, by omega⟩⟩) fun i j h1 h2 => by omega))) (fun ds h => by
          obtain ⟨r, rfl, y, rfl, v, rfl, h1, h2⟩ := h
          refine ⟨p, v.toNat, by rw [Int.toNat_of_nonneg (by omega)], hp1, hp2, by omega, fun xs hl _ => ⟨xs, rfl, by omega⟩⟩)) (show 11 < 14 by decide) ?_
        rintro _ ⟨xs, rfl, hxs⟩
        refine sq_no (eb_not (eb_B (ev_call (ea_cons (ev_ix (ev_var rfl) ev_int rfl (at_nat (j := 4) rfl rfl)) (ea_cons (ev_var rfl) ea_nil)) ⟨_, ⟨⟨p, n, rows, told, csum p rows, xs, _, rfl, hxs, rfl⟩, rfl⟩, rfl⟩))) rfl ?_
        exact sw_next ⟨_, _, _, _, _, _, _, _, rfl⟩
    · subst q
      refine sq_asgW (Φ := fun z => ∃ xs : List Int, z = .lst (intsD xs) ∧ xs.length = n0 ∧ ∀ a ∈ xs, 0 ≤ a ∧ a < p) (ew_callSV rfl (ea_cons (ev_var rfl) (ea_cons (EvV.is (ev_len (ev_ix (ev_ix (ev_var rfl) ev_int rfl (at_nat (j := 0) rfl rfl)) ev_int rfl (at_nat (j := 1) rfl rfl)) rfl) (tl co0)) ea_nil)) ⟨p, n0, rfl, hp1, hp2, by omega, fun xs hl hb => ⟨xs, rfl, hl, hb⟩⟩) (show 12 < 14 by decide) ?_
      rintro _ ⟨xs0, rfl, hx0, hb0⟩
      refine sq_asgW (Φ := fun z => ∃ xs : List Int, z = .lst (intsD xs) ∧ xs.length = n1 ∧ ∀ a ∈ xs, 0 ≤ a ∧ a < p) (ew_callSV rfl (ea_cons (ev_var rfl) (ea_cons (EvV.is (ev_len (ev_ix (ev_ix (ev_var rfl) ev_int rfl (at_nat (j := 1) rfl rfl)) ev_int rfl (at_nat (j := 1) rfl rfl)) rfl) (tl co1)) ea_nil)) ⟨p, n1, rfl, hp1, hp2, by omega, fun xs hl hb => ⟨xs, rfl, hl, hb⟩⟩) (show 13 < 14 by decide) ?_
      rintro _ ⟨xs1, rfl, hx1, hb1⟩
      refine sq_forE (js := [9]) (ys := [(n0, rows0, told0), (n1, rows1, told1)]) (emb := clD T p) (fun c => [clD T p c]) (fun i ρ => ∃ (a b c d e f g h : Option SV), ρ = [some (.imm (.scr K ns)), some .sto, some (.imm (.int p)), some (.imm (.lst (([(n0, rows0, told0), (n1, rows1, told1)] : List Cl).map (clD T p)))), a, b, c, d, e, f, g, h, some (.imm (.lst (intsD xs0))), some (.imm (.lst (intsD xs1)))]) (ei_seq (ev_var rfl) rfl) ⟨_, _, _, _, _, _, _, _, rfl⟩ (fun i ρ ⟨a, b, c, d, e, f, g, h, q⟩ => by subst q; exact jl1 (show 9 < 14 by decide)) (fun i c ρ hic ⟨a, b, x6, d, e, f, g, h, q⟩ => ?_) (fun ρ ⟨a, b, c, d, e, f, g, h, q⟩ => ?_)
      · subst q
        refine ⟨gw_name, ?_⟩
        refine sq_no (eb_not (eb_B (ev_call (ea_cons (ev_ix (ev_ix (ev_var rfl) ev_int rfl (at_nat (j := 0) rfl rfl)) ev_int rfl (at_nat (j := 4) rfl rfl)) (ea_cons (ev_var rfl) (ea_cons (ev_ix (ev_ix (ev_var rfl) ev_int rfl (at_nat (j := 0) rfl rfl)) ev_int rfl (at_nat (j := 0) rfl rfl)) (ea_cons (ev_ix (ev_ix (ev_var rfl) ev_int rfl (at_nat (j := 0) rfl rfl)) ev_int rfl (at_nat (j := 1) rfl rfl)) (ea_cons (ev_var rfl) ea_nil))))) ⟨_, ⟨p, n0, rows0, told0, csum p rows0, xs0, _, rfl, co0, hx0, hb0, rfl, rfl⟩, rfl⟩))) rfl ?_
        refine sq_no (eb_not (eb_B (ev_call (ea_cons (ev_ix (ev_ix (ev_var rfl) ev_int rfl (at_nat (j := 1) rfl rfl)) ev_int rfl (at_nat (j := 4) rfl rfl)) (ea_cons (ev_var rfl) (ea_cons (ev_ix (ev_ix (ev_var rfl) ev_int rfl (at_nat (j := 1) rfl rfl)) ev_int rfl (at_nat (j := 0) rfl rfl)) (ea_cons (ev_ix (ev_ix (ev_var rfl) ev_int rfl (at_nat (j := 1) rfl rfl)) ev_int rfl (at_nat (j := 1) rfl rfl)) (ea_cons (ev_var rfl) ea_nil))))) ⟨_, ⟨p, n1, rows1, told1, csum p rows1, xs1, _, rfl, co1, hx1, hb1, rfl, rfl⟩, rfl⟩))) rfl ?_
        exact sw_next ⟨_, _, _, _, _, _, _, _, rfl⟩
      · subst q
        refine sq_no (eb_not (eb_B (ew_callSV rfl (ea_cons (ev_ix (ev_var rfl) ev_int rfl (at_nat (j := 0) rfl rfl)) (ea_cons (ev_var rfl) (ea_cons (ev_var rfl) ea_nil))) ⟨p, n0, rows0, told0, xs0, _, rfl, co0, hx0, hb0, rfl, rfl⟩))) rfl ?_
        refine sq_forE (js := [9]) (ys := [(n0, rows0, told0), (n1, rows1, told1)]) (emb := clD T p) (fun c => [clD T p c]) (fun i ρ => ∃ (a b c d e f g h : Option SV), ρ = [some (.imm (.scr K ns)), some .sto, some (.imm (.int p)), some (.imm (.lst (([(n0, rows0, told0), (n1, rows1, told1)] : List Cl).map (clD T p)))), a, b, c, d, e, f, g, h, some (.imm (.lst (intsD xs0))), some (.imm (.lst (intsD xs1)))]) (ei_seq (ev_var rfl) rfl) ⟨_, _, _, _, _, _, _, _, rfl⟩ (fun i ρ ⟨a, b, c, d, e, f, g, h, q⟩ => by subst q; exact jl1 (show 9 < 14 by decide)) (fun i c ρ hic ⟨a, b, x6, d, e, f, g, h, q⟩ => ?_) (fun ρ ⟨a, b, c, d, e, f, g, h, q⟩ => ?_)
        · subst q
          have co := mem hic
          obtain ⟨n, rows, told⟩ := c
          have hn := co.hn
          have po := co.ro.pairs
          refine ⟨gw_name, ?_⟩
          refine sq_no (eb_not (eb_B (ev_call (ea_cons (ev_fld 0 T.cl_Claim (ev_ix (ev_var rfl) ev_int rfl (at_nat (j := 3) rfl rfl)) rfl rfl) (ea_cons (ev_var rfl) (ea_cons (EvV.is (ev_len (ev_ix (ev_var rfl) ev_int rfl (at_nat (j := 1) rfl rfl)) rfl) (tl co)) (ea_cons (ev_ix (ev_var rfl) ev_int rfl (at_nat (j := 0) rfl rfl)) ea_nil)))) ⟨_, ⟨p, n, rows, po, by omega, co.hr, rfl, rfl⟩, rfl⟩))) rfl ?_
          refine sq_no (eb_not (eb_B (ev_call (ea_cons (ev_tup (ea_cons (ev_fld 1 T.cl_Claim (ev_ix (ev_var rfl) ev_int rfl (at_nat (j := 3) rfl rfl)) rfl rfl) (ea_cons (ev_fld 2 T.cl_Claim (ev_ix (ev_var rfl) ev_int rfl (at_nat (j := 3) rfl rfl)) rfl rfl) (ea_cons (ev_meth (ev_ix (ev_var rfl) ev_int rfl (at_nat (j := 3) rfl rfl)) (by decide) ea_nil ⟨_, ⟨p, n, rows, told, csum p rows, hp1, hp2, co.ro, by omega, rfl, rfl⟩, rfl⟩) ea_nil)))) (ea_cons (ev_tup (ea_cons (ev_tuple (ev_ix (ev_var rfl) ev_int rfl (at_nat (j := 1) rfl rfl)) rfl) (ea_cons (ev_ix (ev_var rfl) ev_int rfl (at_nat (j := 2) rfl rfl)) (ea_cons ev_bl ea_nil)))) ea_nil)) ⟨_, ⟨_, _, ?_, rfl, rfl⟩, rfl⟩))) rfl ?_
          · rw [decide_eq_true rfl]
            exact same_3 (same_ints (xs := told) rfl rfl (by rw [co.tl]; show n < 10000; omega)) same_int same_bl
          exact sw_next ⟨_, _, _, _, _, _, _, _, rfl⟩
        · subst q
          exact sq_ret (EvW.imp (Φ := fun z => z = .bl true) (ew_callSV rfl (ea_cons (ev_ix (ev_var rfl) ev_int rfl (at_nat (j := 0) rfl rfl)) (ea_cons (ev_var rfl) (ea_cons (ev_var rfl) ea_nil))) ⟨p, n0, rows0, told0, xs0, _, rfl, co0, hx0, hb0, rfl, rfl⟩) fun z e => by rw [e]; exact k)

end
end SK

set_option Elab.async false
set_option linter.all false
set_option maxRecDepth 100000
set_option maxHeartbeats 0
namespace SK
open PySem PySem.Spec PyProof.Rows L2
section
variable {K : PySem.W.Frag} {h : Heap} {mg : Str → Option Value}
theorem fun_of {x qual : Str} {st : Stmt} {f : Addr} {ps : List Str} (F : ∃ fd, FunD K x qual (defArgs st) (defBody st) (defScope st) [] [] f fd)
    (hb : ∀ (kV doc pm : Value) (an : Option Addr) (cdv ct : Value) (us : List Value), us.length = ps.length → bindArgs (PySem.W.fnOf x qual (defArgs st) (defBody st) (defScope st) .none kV doc pm an cdv ct) ⟨us, []⟩ = pure (ps.zip us)) :
    ∃ fd, Fun K x qual st f fd ∧ Binds K fd ps [] := by
  obtain ⟨fd, F⟩ := F
  refine ⟨fd, ?_, F.bindsN hb⟩
  obtain ⟨oc, od, dV, kV, doc, pm, an, cdv, ct, osl, rfl, lk, hcd, hD, hK⟩ := F.ex
  rcases hD with ⟨_, rfl⟩ | ⟨e, _⟩
  · exact ⟨⟨oc, od, kV, doc, pm, an, cdv, ct, osl, rfl, lk, hcd⟩, F.kp⟩
  · exact absurd rfl e
theorem get_fun {a : Addr} {name qual : Str} {st : Stmt} (e : fnAt K a = getV name qual st) (c : getB K a qual = true) : ∃ fd, FunD K name qual (defArgs st) (defBody st) (defScope st) [] [] a fd := by
  obtain ⟨kp, c2⟩ := He.ba c
  unfold fnAt getV at e
  cases q : K.lookup a with
  | none =>
    rw [q] at c2
    cases c2
  | some ob =>
    obtain ⟨oc, od, dt, osl⟩ := ob
    rw [q] at c2 e
    cases dt with
    | func fd =>
      obtain ⟨n1, n2, n3, n4, n5, n6, n7, n8, n9, n10, n11, n12, n13, n14, n15⟩ := fd
      simp only [Option.some.injEq, Prod.mk.injEq] at e
      obtain ⟨h1, h2, h3, h4, h5, h6, h7, h8⟩ := e
      subst h1 h2 h3 h4 h5 h6 h7 h8
      obtain ⟨k1, k2⟩ := He.ba c2
      cases n8 with
      | none => exact ⟨_, ⟨oc, od, .none, n9, n10, n11, n12, n13, n14, osl, rfl, q, k1, .inl ⟨rfl, rfl⟩, .inl rfl⟩, kp⟩
      | _ => cases k2
    | _ => cases c2
theorem pr_rec {x f : Str} (c : (match PySem.W.recIn K (He.ma K (He.ga K x) f) "property" with | some (.ref _ :: _) => true | _ => false) = true) : ∃ rest, PySem.W.recIn K (He.ma K (He.ga K x) f) "property" = some (.ref (prA K x f) :: rest) := by
  unfold prA
  split at c
  · rename_i g r e
    rw [e]
    exact ⟨r, rfl⟩
  · cases c
theorem fc_of {C : Addr} {m : Str} {a : Addr} (c : (match PySem.W.findCls K (.ref C) (.type "type") m with | some (.val v) => decide (v = .ref a) | _ => false) = true) : PySem.W.findCls K (.ref C) (.type "type") m = some (.val (.ref a)) := by
  split at c
  · rename_i v e
    rw [e, of_decide_eq_true c]
  · cases c
theorem all_at {l : List Bool} (c : l.all id = true) (i : Nat) {b : Bool} (e : l[i]? = some b) : b = true := List.all_eq_true.mp c b (List.mem_of_getElem? e)

theorem all_of {K : PySem.W.Frag} (c : hObs K = hVal) : He.SaysD hFa0 hFn K ∧ (exL K).all id = true ∧ gets K = getsV := ⟨congrArg (fun z : HAl => z.1) c, congrArg (fun z : HAl => z.2.1) c, congrArg (fun z : HAl => z.2.2) c⟩
theorem hd_Claim_init (c : hObs K = hVal) : ∃ fd, Fun K "__init__" "Claim.__init__" (inClass (top 58) 0) (aAt K 6800) fd ∧ ∃ g : List Value → List Value → List Value, KBn K fd ["self", "form", "degrees", "total"] 2 ["degrees", "total"] g (fun vs zs => vs ++ zs) := by
  obtain ⟨cd, _, _⟩ := all_of c
  obtain ⟨fd, F⟩ := cd.def_ 44 (d := dd_Claim_init) rfl
  have F : FunD K "__init__" "Claim.__init__" (defArgs (inClass (top 58) 0)) (defBody (inClass (top 58) 0)) (defScope (inClass (top 58) 0)) [] [("degrees", V.non), ("total", V.non)] (aAt K 6800) fd := F
  refine ⟨fd, ?_, ?_⟩
  · obtain ⟨oc, od, dV, kV, doc, pm, an, cdv, ct, osl, rfl, lk, hcd, hD, hK⟩ := F.ex
    rcases hD with ⟨_, rfl⟩ | ⟨e, _⟩
    · exact ⟨⟨oc, od, kV, doc, pm, an, cdv, ct, osl, rfl, lk, hcd⟩, F.kp⟩
    · exact absurd rfl e
  · obtain ⟨mv, hb⟩ := F.kbinds0 (ps := ["self", "form", "degrees", "total"]) 2 ["degrees", "total"] [] (fun us _ ws => us ++ ws) (by intro z; cases z) (fun _ z => by cases z) (fun a _ b => Vals.append a b) (fun D doc pm an cdv ct us mv ws l1 l2 l3 => by
      match us, ws, l1, l3 with
      | [_, _], [_, _], _, _ => rfl)
    exact ⟨_, hb⟩
theorem hd_is_whole (c : hObs K = hVal) : ∃ fd, Fun K "is_whole" "is_whole" (top 11) (aAt K 11) fd ∧ Binds K fd ["value"] [] := fun_of (f := aAt K 11) ((all_of c).1.def_ 0 (d := dd_is_whole) rfl) fun _ _ _ _ _ _ us hl => match us, hl with | [_], _ => rfl
theorem hd_has_divisor (c : hObs K = hVal) : ∃ fd, Fun K "has_divisor" "has_divisor" (top 15) (aAt K 15) fd ∧ Binds K fd ["value"] [] := fun_of (f := aAt K 15) ((all_of c).1.def_ 1 (d := dd_has_divisor) rfl) fun _ _ _ _ _ _ us hl => match us, hl with | [_], _ => rfl
theorem hd_check_number_polys (c : hObs K = hVal) : ∃ fd, Fun K "check_number" "check_number" (top 24) (aAt K 24) fd ∧ Binds K fd ["prime", "number"] [] := fun_of (f := aAt K 24) ((all_of c).1.def_ 2 (d := dd_check_number_polys) rfl) fun _ _ _ _ _ _ us hl => match us, hl with | [_, _], _ => rfl
theorem hd_trimmed (c : hObs K = hVal) : ∃ fd, Fun K "trimmed" "trimmed" (top 29) (aAt K 29) fd ∧ Binds K fd ["numbers"] [] := fun_of (f := aAt K 29) ((all_of c).1.def_ 3 (d := dd_trimmed) rfl) fun _ _ _ _ _ _ us hl => match us, hl with | [_], _ => rfl
theorem hd_Poly_degree (c : hObs K = hVal) : ∃ fd, Fun K "degree" "Poly.degree" (inClass (top 31) 1) (aAt K 4101) fd ∧ Binds K fd ["self"] [] := fun_of (f := aAt K 4101) (get_fun (a := prA K "Poly" "degree") (name := "degree") (qual := "Poly.degree") (st := inClass (top 31) 1) (by have e := congrArg (fun l : List He.FnW => l.getD 0 none) (all_of c).2.2; exact e) (all_at (all_of c).2.1 47 rfl)) fun _ _ _ _ _ _ us hl => match us, hl with | [_], _ => rfl
theorem hd_check_whole (c : hObs K = hVal) : ∃ fd, Fun K "check_whole" "check_whole" (top 37) (aAt K 37) fd ∧ Binds K fd ["value", "least", "most"] [] := fun_of (f := aAt K 37) ((all_of c).1.def_ 4 (d := dd_check_whole) rfl) fun _ _ _ _ _ _ us hl => match us, hl with | [_, _, _], _ => rfl
theorem hd_check_number_forms (c : hObs K = hVal) : ∃ fd, Fun K "check_number" "check_number" (top 38) (aAt K 38) fd ∧ Binds K fd ["prime", "value"] [] := fun_of (f := aAt K 38) ((all_of c).1.def_ 5 (d := dd_check_number_forms) rfl) fun _ _ _ _ _ _ us hl => match us, hl with | [_, _], _ => rfl
theorem hd_added_up (c : hObs K = hVal) : ∃ fd, Fun K "added_up" "added_up" (top 43) (aAt K 43) fd ∧ Binds K fd ["prime", "pairs"] [] := fun_of (f := aAt K 43) ((all_of c).1.def_ 6 (d := dd_added_up) rfl) fun _ _ _ _ _ _ us hl => match us, hl with | [_, _], _ => rfl
theorem hd_greatest_exponents (c : hObs K = hVal) : ∃ fd, Fun K "greatest_exponents" "greatest_exponents" (top 44) (aAt K 44) fd ∧ Binds K fd ["places", "terms"] [] := fun_of (f := aAt K 44) ((all_of c).1.def_ 7 (d := dd_greatest_exponents) rfl) fun _ _ _ _ _ _ us hl => match us, hl with | [_, _], _ => rfl
theorem hd_power_row (c : hObs K = hVal) : ∃ fd, Fun K "power_row" "power_row" (top 45) (aAt K 45) fd ∧ Binds K fd ["prime", "number", "most"] [] := fun_of (f := aAt K 45) ((all_of c).1.def_ 8 (d := dd_power_row) rfl) fun _ _ _ _ _ _ us hl => match us, hl with | [_, _, _], _ => rfl
theorem hd_corner_sum (c : hObs K = hVal) : ∃ fd, Fun K "corner_sum" "corner_sum" (top 52) (aAt K 52) fd ∧ Binds K fd ["form"] [] := fun_of (f := aAt K 52) ((all_of c).1.def_ 9 (d := dd_corner_sum) rfl) fun _ _ _ _ _ _ us hl => match us, hl with | [_], _ => rfl
theorem hd_own_whole (c : hObs K = hVal) : ∃ fd, Fun K "own_whole" "own_whole" (top 55) (aAt K 55) fd ∧ Binds K fd ["value", "least", "most"] [] := fun_of (f := aAt K 55) ((all_of c).1.def_ 10 (d := dd_own_whole) rfl) fun _ _ _ _ _ _ us hl => match us, hl with | [_, _, _], _ => rfl
theorem hd_own_number (c : hObs K = hVal) : ∃ fd, Fun K "own_number" "own_number" (top 56) (aAt K 56) fd ∧ Binds K fd ["prime", "value"] [] := fun_of (f := aAt K 56) ((all_of c).1.def_ 11 (d := dd_own_number) rfl) fun _ _ _ _ _ _ us hl => match us, hl with | [_, _], _ => rfl
theorem hd_own_poly (c : hObs K = hVal) : ∃ fd, Fun K "own_poly" "own_poly" (top 61) (aAt K 61) fd ∧ Binds K fd ["prime", "poly"] [] := fun_of (f := aAt K 61) ((all_of c).1.def_ 12 (d := dd_own_poly) rfl) fun _ _ _ _ _ _ us hl => match us, hl with | [_, _], _ => rfl
theorem hd_Journal_length (c : hObs K = hVal) : ∃ fd, Fun K "length" "Journal.length" (inClass (top 63) 1) (aAt K 7301) fd ∧ Binds K fd ["self"] [] := fun_of (f := aAt K 7301) (get_fun (a := prA K "Journal" "length") (name := "length") (qual := "Journal.length") (st := inClass (top 63) 1) (by have e := congrArg (fun l : List He.FnW => l.getD 1 none) (all_of c).2.2; exact e) (all_at (all_of c).2.1 48 rfl)) fun _ _ _ _ _ _ us hl => match us, hl with | [_], _ => rfl
theorem hd_check_same_field (c : hObs K = hVal) : ∃ fd, Fun K "check_same_field" "check_same_field" (top 67) (aAt K 67) fd ∧ Binds K fd ["prime", "thing"] [] := fun_of (f := aAt K 67) ((all_of c).1.def_ 13 (d := dd_check_same_field) rfl) fun _ _ _ _ _ _ us hl => match us, hl with | [_, _], _ => rfl
theorem hd_lw_mix (c : hObs K = hVal) : ∃ fd, Fun K "_law_mix" "_law_mix" (top 79) (aAt K 79) fd ∧ Binds K fd ["_law_number_here", "_law_turn"] [] := fun_of (f := aAt K 79) ((all_of c).1.def_ 14 (d := dd_lw_mix) rfl) fun _ _ _ _ _ _ us hl => match us, hl with | [_, _], _ => rfl
theorem hd_lw_store (c : hObs K = hVal) : ∃ fd, Fun K "_law_store" "_law_store" (top 80) (aAt K 80) fd ∧ Binds K fd ["_law_script"] [] := fun_of (f := aAt K 80) ((all_of c).1.def_ 15 (d := dd_lw_store) rfl) fun _ _ _ _ _ _ us hl => match us, hl with | [_], _ => rfl
theorem hd_lw_primes (c : hObs K = hVal) : ∃ fd, Fun K "_law_primes" "_law_primes" (top 85) (aAt K 85) fd ∧ Binds K fd ["_law_limit"] [] := fun_of (f := aAt K 85) ((all_of c).1.def_ 16 (d := dd_lw_primes) rfl) fun _ _ _ _ _ _ us hl => match us, hl with | [_], _ => rfl
theorem hd_lw_power (c : hObs K = hVal) : ∃ fd, Fun K "_law_power" "_law_power" (top 87) (aAt K 87) fd ∧ Binds K fd ["_law_base", "_law_many"] [] := fun_of (f := aAt K 87) ((all_of c).1.def_ 17 (d := dd_lw_power) rfl) fun _ _ _ _ _ _ us hl => match us, hl with | [_, _], _ => rfl
theorem hd_lw_trim (c : hObs K = hVal) : ∃ fd, Fun K "_law_trim" "_law_trim" (top 96) (aAt K 96) fd ∧ Binds K fd ["_law_row_here"] [] := fun_of (f := aAt K 96) ((all_of c).1.def_ 18 (d := dd_lw_trim) rfl) fun _ _ _ _ _ _ us hl => match us, hl with | [_], _ => rfl
theorem hd_lw_field_power (c : hObs K = hVal) : ∃ fd, Fun K "_law_field_power" "_law_field_power" (top 97) (aAt K 97) fd ∧ Binds K fd ["_law_prime_here", "_law_base", "_law_exponent"] [] := fun_of (f := aAt K 97) ((all_of c).1.def_ 19 (d := dd_lw_field_power) rfl) fun _ _ _ _ _ _ us hl => match us, hl with | [_, _, _], _ => rfl
theorem hd_lw_poly_value (c : hObs K = hVal) : ∃ fd, Fun K "_law_poly_value" "_law_poly_value" (top 98) (aAt K 98) fd ∧ Binds K fd ["_law_prime_here", "_law_row_here", "_law_number_here"] [] := fun_of (f := aAt K 98) ((all_of c).1.def_ 20 (d := dd_lw_poly_value) rfl) fun _ _ _ _ _ _ us hl => match us, hl with | [_, _, _], _ => rfl
theorem hd_lw_poly_ends (c : hObs K = hVal) : ∃ fd, Fun K "_law_poly_ends" "_law_poly_ends" (top 99) (aAt K 99) fd ∧ Binds K fd ["_law_prime_here", "_law_row_here"] [] := fun_of (f := aAt K 99) ((all_of c).1.def_ 21 (d := dd_lw_poly_ends) rfl) fun _ _ _ _ _ _ us hl => match us, hl with | [_, _], _ => rfl
theorem hd_lw_all_rows (c : hObs K = hVal) : ∃ fd, Fun K "_law_all_rows" "_law_all_rows" (top 100) (aAt K 100) fd ∧ Binds K fd ["_law_prime_here", "_law_many"] [] := fun_of (f := aAt K 100) ((all_of c).1.def_ 22 (d := dd_lw_all_rows) rfl) fun _ _ _ _ _ _ us hl => match us, hl with | [_, _], _ => rfl
theorem hd_lw_form_rows (c : hObs K = hVal) : ∃ fd, Fun K "_law_form_rows" "_law_form_rows" (top 101) (aAt K 101) fd ∧ Binds K fd ["_law_prime_here", "_law_terms"] [] := fun_of (f := aAt K 101) ((all_of c).1.def_ 23 (d := dd_lw_form_rows) rfl) fun _ _ _ _ _ _ us hl => match us, hl with | [_, _], _ => rfl
theorem hd_lw_form_tops (c : hObs K = hVal) : ∃ fd, Fun K "_law_form_tops" "_law_form_tops" (top 102) (aAt K 102) fd ∧ Binds K fd ["_law_places", "_law_rows"] [] := fun_of (f := aAt K 102) ((all_of c).1.def_ 24 (d := dd_lw_form_tops) rfl) fun _ _ _ _ _ _ us hl => match us, hl with | [_, _], _ => rfl
theorem hd_check_prime (c : hObs K = hVal) : ∃ fd, Fun K "check_prime" "check_prime" (top 16) (aAt K 16) fd ∧ Binds K fd ["prime"] [] := fun_of (f := aAt K 16) ((all_of c).1.def_ 25 (d := dd_check_prime) rfl) fun _ _ _ _ _ _ us hl => match us, hl with | [_], _ => rfl
theorem hd_is_number (c : hObs K = hVal) : ∃ fd, Fun K "is_number" "is_number" (top 17) (aAt K 17) fd ∧ Binds K fd ["value", "prime"] [] := fun_of (f := aAt K 17) ((all_of c).1.def_ 26 (d := dd_is_number) rfl) fun _ _ _ _ _ _ us hl => match us, hl with | [_, _], _ => rfl
theorem hd_check_row (c : hObs K = hVal) : ∃ fd, Fun K "check_row" "check_row" (top 26) (aAt K 26) fd ∧ Binds K fd ["prime", "numbers", "most"] [] := fun_of (f := aAt K 26) ((all_of c).1.def_ 27 (d := dd_check_row) rfl) fun _ _ _ _ _ _ us hl => match us, hl with | [_, _, _], _ => rfl
theorem hd_Poly_at (c : hObs K = hVal) : ∃ fd, Fun K "at" "Poly.at" (inClass (top 31) 8) (aAt K 4108) fd ∧ Binds K fd ["self", "number"] [] := fun_of (f := aAt K 4108) ((all_of c).1.def_ 28 (d := dd_Poly_at) rfl) fun _ _ _ _ _ _ us hl => match us, hl with | [_, _], _ => rfl
theorem hd_check_numbers_forms (c : hObs K = hVal) : ∃ fd, Fun K "check_numbers" "check_numbers" (top 40) (aAt K 40) fd ∧ Binds K fd ["prime", "row"] [] := fun_of (f := aAt K 40) ((all_of c).1.def_ 29 (d := dd_check_numbers_forms) rfl) fun _ _ _ _ _ _ us hl => match us, hl with | [_, _], _ => rfl
theorem hd_checked_term (c : hObs K = hVal) : ∃ fd, Fun K "checked_term" "checked_term" (top 42) (aAt K 42) fd ∧ Binds K fd ["prime", "places", "exponents", "coefficient"] [] := fun_of (f := aAt K 42) ((all_of c).1.def_ 30 (d := dd_checked_term) rfl) fun _ _ _ _ _ _ us hl => match us, hl with | [_, _, _, _], _ => rfl
theorem hd_own_degrees (c : hObs K = hVal) : ∃ fd, Fun K "own_degrees" "own_degrees" (top 57) (aAt K 57) fd ∧ Binds K fd ["form", "degrees"] [] := fun_of (f := aAt K 57) ((all_of c).1.def_ 31 (d := dd_own_degrees) rfl) fun _ _ _ _ _ _ us hl => match us, hl with | [_, _], _ => rfl
theorem hd_Claim_is_true (c : hObs K = hVal) : ∃ fd, Fun K "is_true" "Claim.is_true" (inClass (top 58) 2) (aAt K 6802) fd ∧ Binds K fd ["self"] [] := fun_of (f := aAt K 6802) ((all_of c).1.def_ 32 (d := dd_Claim_is_true) rfl) fun _ _ _ _ _ _ us hl => match us, hl with | [_], _ => rfl
theorem hd_own_rounds (c : hObs K = hVal) : ∃ fd, Fun K "own_rounds" "own_rounds" (top 62) (aAt K 62) fd ∧ Binds K fd ["prime", "rounds"] [] := fun_of (f := aAt K 62) ((all_of c).1.def_ 33 (d := dd_own_rounds) rfl) fun _ _ _ _ _ _ us hl => match us, hl with | [_, _], _ => rfl
theorem hd_lw_take (c : hObs K = hVal) : ∃ fd, Fun K "_law_take" "_law_take" (top 81) (aAt K 81) fd ∧ Binds K fd ["_law_store_here", "_law_many"] [] := fun_of (f := aAt K 81) ((all_of c).1.def_ 34 (d := dd_lw_take) rfl) fun _ _ _ _ _ _ us hl => match us, hl with | [_, _], _ => rfl
theorem hd_lw_form_value (c : hObs K = hVal) : ∃ fd, Fun K "_law_form_value" "_law_form_value" (top 103) (aAt K 103) fd ∧ Binds K fd ["_law_prime_here", "_law_rows", "_law_point"] [] := fun_of (f := aAt K 103) ((all_of c).1.def_ 35 (d := dd_lw_form_value) rfl) fun _ _ _ _ _ _ us hl => match us, hl with | [_, _, _], _ => rfl
theorem hd_lw_round_row (c : hObs K = hVal) : ∃ fd, Fun K "_law_round_row" "_law_round_row" (top 104) (aAt K 104) fd ∧ Binds K fd ["_law_prime_here", "_law_places", "_law_rows", "_law_numbers_here"] [] := fun_of (f := aAt K 104) ((all_of c).1.def_ 36 (d := dd_lw_round_row) rfl) fun _ _ _ _ _ _ us hl => match us, hl with | [_, _, _, _], _ => rfl
theorem hd_Field_contains (c : hObs K = hVal) : ∃ fd, Fun K "__contains__" "Field.__contains__" (inClass (top 21) 1) (aAt K 3101) fd ∧ Binds K fd ["self", "value"] [] := fun_of (f := aAt K 3101) ((all_of c).1.def_ 37 (d := dd_Field_contains) rfl) fun _ _ _ _ _ _ us hl => match us, hl with | [_, _], _ => rfl
theorem hd_Field_init (c : hObs K = hVal) : ∃ fd, Fun K "__init__" "Field.__init__" (inClass (top 21) 0) (aAt K 3100) fd ∧ Binds K fd ["self", "prime"] [] := fun_of (f := aAt K 3100) ((all_of c).1.def_ 38 (d := dd_Field_init) rfl) fun _ _ _ _ _ _ us hl => match us, hl with | [_, _], _ => rfl
theorem hd_Poly_ends (c : hObs K = hVal) : ∃ fd, Fun K "ends" "Poly.ends" (inClass (top 31) 9) (aAt K 4109) fd ∧ Binds K fd ["self"] [] := fun_of (f := aAt K 4109) ((all_of c).1.def_ 39 (d := dd_Poly_ends) rfl) fun _ _ _ _ _ _ us hl => match us, hl with | [_], _ => rfl
theorem hd_Poly_fits (c : hObs K = hVal) : ∃ fd, Fun K "fits" "Poly.fits" (inClass (top 31) 11) (aAt K 4111) fd ∧ Binds K fd ["self", "bound"] [] := fun_of (f := aAt K 4111) ((all_of c).1.def_ 40 (d := dd_Poly_fits) rfl) fun _ _ _ _ _ _ us hl => match us, hl with | [_, _], _ => rfl
theorem hd_Poly_init (c : hObs K = hVal) : ∃ fd, Fun K "__init__" "Poly.__init__" (inClass (top 31) 0) (aAt K 4100) fd ∧ Binds K fd ["self", "prime", "coefficients"] [] := fun_of (f := aAt K 4100) ((all_of c).1.def_ 41 (d := dd_Poly_init) rfl) fun _ _ _ _ _ _ us hl => match us, hl with | [_, _, _], _ => rfl
theorem hd_Form_at (c : hObs K = hVal) : ∃ fd, Fun K "at" "Form.at" (inClass (top 50) 6) (aAt K 6006) fd ∧ Binds K fd ["self", "point"] [] := fun_of (f := aAt K 6006) ((all_of c).1.def_ 42 (d := dd_Form_at) rfl) fun _ _ _ _ _ _ us hl => match us, hl with | [_, _], _ => rfl
theorem hd_Form_init (c : hObs K = hVal) : ∃ fd, Fun K "__init__" "Form.__init__" (inClass (top 50) 0) (aAt K 6000) fd ∧ Binds K fd ["self", "prime", "places", "terms"] [] := fun_of (f := aAt K 6000) ((all_of c).1.def_ 43 (d := dd_Form_init) rfl) fun _ _ _ _ _ _ us hl => match us, hl with | [_, _, _, _], _ => rfl
theorem hd_Journal_init (c : hObs K = hVal) : ∃ fd, Fun K "__init__" "Journal.__init__" (inClass (top 63) 0) (aAt K 7300) fd ∧ Binds K fd ["self", "prime", "total", "rounds"] [] := fun_of (f := aAt K 7300) ((all_of c).1.def_ 45 (d := dd_Journal_init) rfl) fun _ _ _ _ _ _ us hl => match us, hl with | [_, _, _, _], _ => rfl
theorem hd_Teller_init (c : hObs K = hVal) : ∃ fd, Fun K "__init__" "Teller.__init__" (inClass (top 70) 0) (aAt K 8000) fd ∧ Binds K fd ["self", "prime"] [] := fun_of (f := aAt K 8000) ((all_of c).1.def_ 46 (d := dd_Teller_init) rfl) fun _ _ _ _ _ _ us hl => match us, hl with | [_, _], _ => rfl
theorem hd_lw_edge (c : hObs K = hVal) : ∃ fd, Fun K "_law_edge" "_law_edge" (top 82) (aAt K 82) fd ∧ Binds K fd ["_law_store_here", "_law_low", "_law_high"] [] := fun_of (f := aAt K 82) ((all_of c).1.def_ 47 (d := dd_lw_edge) rfl) fun _ _ _ _ _ _ us hl => match us, hl with | [_, _, _], _ => rfl
theorem hd_lw_chance (c : hObs K = hVal) : ∃ fd, Fun K "_law_chance" "_law_chance" (top 83) (aAt K 83) fd ∧ Binds K fd ["_law_store_here", "_law_part"] [] := fun_of (f := aAt K 83) ((all_of c).1.def_ 48 (d := dd_lw_chance) rfl) fun _ _ _ _ _ _ us hl => match us, hl with | [_, _], _ => rfl
theorem hd_lw_pick (c : hObs K = hVal) : ∃ fd, Fun K "_law_pick" "_law_pick" (top 84) (aAt K 84) fd ∧ Binds K fd ["_law_store_here", "_law_row_here"] [] := fun_of (f := aAt K 84) ((all_of c).1.def_ 49 (d := dd_lw_pick) rfl) fun _ _ _ _ _ _ us hl => match us, hl with | [_, _], _ => rfl
theorem hd_lw_other_number (c : hObs K = hVal) : ∃ fd, Fun K "_law_other_number" "_law_other_number" (top 89) (aAt K 89) fd ∧ Binds K fd ["_law_store_here", "_law_prime_here", "_law_number_here"] [] := fun_of (f := aAt K 89) ((all_of c).1.def_ 50 (d := dd_lw_other_number) rfl) fun _ _ _ _ _ _ us hl => match us, hl with | [_, _, _], _ => rfl
theorem hd_lw_row (c : hObs K = hVal) : ∃ fd, Fun K "_law_row" "_law_row" (top 91) (aAt K 91) fd ∧ Binds K fd ["_law_store_here", "_law_row_here"] [] := fun_of (f := aAt K 91) ((all_of c).1.def_ 51 (d := dd_lw_row) rfl) fun _ _ _ _ _ _ us hl => match us, hl with | [_, _], _ => rfl
theorem hd_lw_honest_rounds (c : hObs K = hVal) : ∃ fd, Fun K "_law_honest_rounds" "_law_honest_rounds" (top 105) (aAt K 105) fd ∧ Binds K fd ["_law_prime_here", "_law_places", "_law_rows", "_law_numbers_here"] [] := fun_of (f := aAt K 105) ((all_of c).1.def_ 52 (d := dd_lw_honest_rounds) rfl) fun _ _ _ _ _ _ us hl => match us, hl with | [_, _, _, _], _ => rfl
theorem hd_is_fitting (c : hObs K = hVal) : ∃ fd, Fun K "is_fitting" "is_fitting" (top 69) (aAt K 69) fd ∧ Binds K fd ["poly", "degree", "owed"] [] := fun_of (f := aAt K 69) ((all_of c).1.def_ 53 (d := dd_is_fitting) rfl) fun _ _ _ _ _ _ us hl => match us, hl with | [_, _, _], _ => rfl
theorem hd_Honest_init (c : hObs K = hVal) : ∃ fd, Fun K "__init__" "Honest.__init__" (inClass (top 71) 0) (aAt K 8100) fd ∧ Binds K fd ["self", "claim"] [] := fun_of (f := aAt K 8100) ((all_of c).1.def_ 54 (d := dd_Honest_init) rfl) fun _ _ _ _ _ _ us hl => match us, hl with | [_, _], _ => rfl
theorem hd_round_verdict (c : hObs K = hVal) : ∃ fd, Fun K "round_verdict" "round_verdict" (top 74) (aAt K 74) fd ∧ Binds K fd ["claim", "at", "owed", "poly"] [] := fun_of (f := aAt K 74) ((all_of c).1.def_ 55 (d := dd_round_verdict) rfl) fun _ _ _ _ _ _ us hl => match us, hl with | [_, _, _, _], _ => rfl
theorem hd_end_verdict (c : hObs K = hVal) : ∃ fd, Fun K "end_verdict" "end_verdict" (top 75) (aAt K 75) fd ∧ Binds K fd ["claim", "coins", "owed"] [] := fun_of (f := aAt K 75) ((all_of c).1.def_ 56 (d := dd_end_verdict) rfl) fun _ _ _ _ _ _ us hl => match us, hl with | [_, _, _], _ => rfl
theorem hd_lw_prime (c : hObs K = hVal) : ∃ fd, Fun K "_law_prime" "_law_prime" (top 86) (aAt K 86) fd ∧ Binds K fd ["_law_store_here"] [] := fun_of (f := aAt K 86) ((all_of c).1.def_ 57 (d := dd_lw_prime) rfl) fun _ _ _ _ _ _ us hl => match us, hl with | [_], _ => rfl
theorem hd_lw_number (c : hObs K = hVal) : ∃ fd, Fun K "_law_number" "_law_number" (top 88) (aAt K 88) fd ∧ Binds K fd ["_law_store_here", "_law_prime_here"] [] := fun_of (f := aAt K 88) ((all_of c).1.def_ 58 (d := dd_lw_number) rfl) fun _ _ _ _ _ _ us hl => match us, hl with | [_, _], _ => rfl
theorem hd_lw_drawn_claim (c : hObs K = hVal) : ∃ fd, Fun K "_law_drawn_claim" "_law_drawn_claim" (top 106) (aAt K 106) fd ∧ Binds K fd ["_law_store_here", "_law_prime_here", "_law_places", "_law_many"] [] := fun_of (f := aAt K 106) ((all_of c).1.def_ 59 (d := dd_lw_drawn_claim) rfl) fun _ _ _ _ _ _ us hl => match us, hl with | [_, _, _, _], _ => rfl
theorem hd_Form_fix (c : hObs K = hVal) : ∃ fd, Fun K "fix" "Form.fix" (inClass (top 50) 7) (aAt K 6007) fd ∧ Binds K fd ["self", "numbers"] [] := fun_of (f := aAt K 6007) ((all_of c).1.def_ 60 (d := dd_Form_fix) rfl) fun _ _ _ _ _ _ us hl => match us, hl with | [_, _], _ => rfl
theorem hd_Claim_with_total (c : hObs K = hVal) : ∃ fd, Fun K "with_total" "Claim.with_total" (inClass (top 58) 4) (aAt K 6804) fd ∧ Binds K fd ["self", "total"] [] := fun_of (f := aAt K 6804) ((all_of c).1.def_ 61 (d := dd_Claim_with_total) rfl) fun _ _ _ _ _ _ us hl => match us, hl with | [_, _], _ => rfl
theorem hd_check_numbers_tellers (c : hObs K = hVal) : ∃ fd, Fun K "check_numbers" "check_numbers" (top 65) (aAt K 65) fd ∧ Binds K fd ["prime", "numbers"] [] := fun_of (f := aAt K 65) ((all_of c).1.def_ 62 (d := dd_check_numbers_tellers) rfl) fun _ _ _ _ _ _ us hl => match us, hl with | [_, _], _ => rfl
theorem hd_judge (c : hObs K = hVal) : ∃ fd, Fun K "judge" "judge" (top 76) (aAt K 76) fd ∧ Binds K fd ["claim", "journal"] [] := fun_of (f := aAt K 76) ((all_of c).1.def_ 63 (d := dd_judge) rfl) fun _ _ _ _ _ _ us hl => match us, hl with | [_, _], _ => rfl
theorem hd_lw_numbers (c : hObs K = hVal) : ∃ fd, Fun K "_law_numbers" "_law_numbers" (top 90) (aAt K 90) fd ∧ Binds K fd ["_law_store_here", "_law_prime_here", "_law_size"] [] := fun_of (f := aAt K 90) ((all_of c).1.def_ 64 (d := dd_lw_numbers) rfl) fun _ _ _ _ _ _ us hl => match us, hl with | [_, _, _], _ => rfl
theorem hd_round_poly (c : hObs K = hVal) : ∃ fd, Fun K "round_poly" "round_poly" (top 53) (aAt K 53) fd ∧ Binds K fd ["form", "coins"] [] := fun_of (f := aAt K 53) ((all_of c).1.def_ 65 (d := dd_round_poly) rfl) fun _ _ _ _ _ _ us hl => match us, hl with | [_, _], _ => rfl
theorem hd_is_let_by (c : hObs K = hVal) : ∃ fd, Fun K "is_let_by" "is_let_by" (top 77) (aAt K 77) fd ∧ Binds K fd ["claim", "journal"] [] := fun_of (f := aAt K 77) ((all_of c).1.def_ 66 (d := dd_is_let_by) rfl) fun _ _ _ _ _ _ us hl => match us, hl with | [_, _], _ => rfl
theorem hd_lw_rows_of_coins (c : hObs K = hVal) : ∃ fd, Fun K "_law_rows_of_coins" "_law_rows_of_coins" (top 107) (aAt K 107) fd ∧ Binds K fd ["_law_store_here", "_law_prime_here", "_law_places"] [] := fun_of (f := aAt K 107) ((all_of c).1.def_ 67 (d := dd_lw_rows_of_coins) rfl) fun _ _ _ _ _ _ us hl => match us, hl with | [_, _, _], _ => rfl
theorem hd_Honest_hand (c : hObs K = hVal) : ∃ fd, Fun K "hand" "Honest.hand" (inClass (top 71) 1) (aAt K 8101) fd ∧ Binds K fd ["self", "coins"] [] := fun_of (f := aAt K 8101) ((all_of c).1.def_ 68 (d := dd_Honest_hand) rfl) fun _ _ _ _ _ _ us hl => match us, hl with | [_, _], _ => rfl
theorem hd_ask (c : hObs K = hVal) : ∃ fd, Fun K "ask" "ask" (top 68) (aAt K 68) fd ∧ Binds K fd ["teller", "prime", "coins"] [] := fun_of (f := aAt K 68) ((all_of c).1.def_ 69 (d := dd_ask) rfl) fun _ _ _ _ _ _ us hl => match us, hl with | [_, _, _], _ => rfl
theorem hd_lw_refused (c : hObs K = hVal) : ∃ fd, Fun K "_law_refused" "_law_refused" (top 110) (aAt K 110) fd ∧ Binds K fd ["_law_teller", "_law_numbers_here"] [] := fun_of (f := aAt K 110) ((all_of c).1.def_ 70 (d := dd_lw_refused) rfl) fun _ _ _ _ _ _ us hl => match us, hl with | [_, _], _ => rfl
theorem hd_talk (c : hObs K = hVal) : ∃ fd, Fun K "talk" "talk" (top 72) (aAt K 72) fd ∧ Binds K fd ["claim", "teller", "coins"] [] := fun_of (f := aAt K 72) ((all_of c).1.def_ 71 (d := dd_talk) rfl) fun _ _ _ _ _ _ us hl => match us, hl with | [_, _, _], _ => rfl
theorem hd_lw_same (c : hObs K = hVal) : ∃ fd, Fun K "_law_same" "_law_same" (top 92) (aAt K 92) fd ∧ Binds K fd ["_law_actual", "_law_expected"] [] := fun_of (f := aAt K 92) ((all_of c).1.def_ 72 (d := dd_lw_same) rfl) fun _ _ _ _ _ _ us hl => match us, hl with | [_, _], _ => rfl
theorem hd_lw_poly_is (c : hObs K = hVal) : ∃ fd, Fun K "_law_poly_is" "_law_poly_is" (top 93) (aAt K 93) fd ∧ Binds K fd ["_law_actual", "_law_prime_here", "_law_row_here"] [] := fun_of (f := aAt K 93) ((all_of c).1.def_ 73 (d := dd_lw_poly_is) rfl) fun _ _ _ _ _ _ us hl => match us, hl with | [_, _, _], _ => rfl
theorem hd_lw_form_is (c : hObs K = hVal) : ∃ fd, Fun K "_law_form_is" "_law_form_is" (top 94) (aAt K 94) fd ∧ Binds K fd ["_law_actual", "_law_prime_here", "_law_places", "_law_rows"] [] := fun_of (f := aAt K 94) ((all_of c).1.def_ 74 (d := dd_lw_form_is) rfl) fun _ _ _ _ _ _ us hl => match us, hl with | [_, _, _, _], _ => rfl
theorem hd_lw_journal_is (c : hObs K = hVal) : ∃ fd, Fun K "_law_journal_is" "_law_journal_is" (top 95) (aAt K 95) fd ∧ Binds K fd ["_law_actual", "_law_prime_here", "_law_opened", "_law_rounds"] [] := fun_of (f := aAt K 95) ((all_of c).1.def_ 75 (d := dd_lw_journal_is) rfl) fun _ _ _ _ _ _ us hl => match us, hl with | [_, _, _, _], _ => rfl
theorem hd_lw_walked (c : hObs K = hVal) : ∃ fd, Fun K "_law_walked" "_law_walked" (top 108) (aAt K 108) fd ∧ Binds K fd ["_law_journal", "_law_prime_here", "_law_rows", "_law_told", "_law_due", "_law_numbers_here"] [] := fun_of (f := aAt K 108) ((all_of c).1.def_ 76 (d := dd_lw_walked) rfl) fun _ _ _ _ _ _ us hl => match us, hl with | [_, _, _, _, _, _], _ => rfl
theorem hd_lw_hands (c : hObs K = hVal) : ∃ fd, Fun K "_law_hands" "_law_hands" (top 109) (aAt K 109) fd ∧ Binds K fd ["_law_teller", "_law_prime_here", "_law_rows", "_law_told", "_law_numbers_here"] [] := fun_of (f := aAt K 109) ((all_of c).1.def_ 77 (d := dd_lw_hands) rfl) fun _ _ _ _ _ _ us hl => match us, hl with | [_, _, _, _, _], _ => rfl
theorem hd_lw_let_by (c : hObs K = hVal) : ∃ fd, Fun K "_law_let_by" "_law_let_by" (top 111) (aAt K 111) fd ∧ Binds K fd ["_law_store_here", "_law_one", "_law_prime_here", "_law_numbers_here"] [] := fun_of (f := aAt K 111) ((all_of c).1.def_ 78 (d := dd_lw_let_by) rfl) fun _ _ _ _ _ _ us hl => match us, hl with | [_, _, _, _], _ => rfl
theorem hd_lw_false_talk (c : hObs K = hVal) : ∃ fd, Fun K "_law_false_talk" "_law_false_talk" (top 112) (aAt K 112) fd ∧ Binds K fd ["_law_store_here", "_law_one", "_law_prime_here", "_law_numbers_here"] [] := fun_of (f := aAt K 112) ((all_of c).1.def_ 79 (d := dd_lw_false_talk) rfl) fun _ _ _ _ _ _ us hl => match us, hl with | [_, _, _, _], _ => rfl
theorem hd_law (c : hObs K = hVal) : ∃ fd, Fun K "law" "law" (top 113) (aAt K 113) fd ∧ Binds K fd ["_law_script"] [] := fun_of (f := aAt K 113) ((all_of c).1.def_ 80 (d := dd_law) rfl) fun _ _ _ _ _ _ us hl => match us, hl with | [_], _ => rfl
theorem hd_cl_Field (c : hObs K = hVal) : ClsD K (aAt K 21) ["prime"] := by
  obtain ⟨cd, _, _⟩ := all_of c
  refine ⟨He.cls_ok (cd.fact 103 (f := .cls "Field") rfl), fun f hf => ?_, by decide⟩
  simp only [List.mem_cons, List.not_mem_nil, or_false] at hf
  subst hf
  exact He.noat_ok (cd.fact 105 (f := .noat "Field" "prime") rfl)
theorem hd_cl_Poly (c : hObs K = hVal) : ClsD K (aAt K 31) ["prime", "coefficients"] := by
  obtain ⟨cd, _, _⟩ := all_of c
  refine ⟨He.cls_ok (cd.fact 106 (f := .cls "Poly") rfl), fun f hf => ?_, by decide⟩
  simp only [List.mem_cons, List.not_mem_nil, or_false] at hf
  rcases hf with rfl | rfl
  · exact He.noat_ok (cd.fact 108 (f := .noat "Poly" "prime") rfl)
  · exact He.noat_ok (cd.fact 109 (f := .noat "Poly" "coefficients") rfl)
theorem hd_cl_Form (c : hObs K = hVal) : ClsD K (aAt K 50) ["prime", "places", "terms", "degrees"] := by
  obtain ⟨cd, _, _⟩ := all_of c
  refine ⟨He.cls_ok (cd.fact 110 (f := .cls "Form") rfl), fun f hf => ?_, by decide⟩
  simp only [List.mem_cons, List.not_mem_nil, or_false] at hf
  rcases hf with rfl | rfl | rfl | rfl
  · exact He.noat_ok (cd.fact 112 (f := .noat "Form" "prime") rfl)
  · exact He.noat_ok (cd.fact 113 (f := .noat "Form" "places") rfl)
  · exact He.noat_ok (cd.fact 114 (f := .noat "Form" "terms") rfl)
  · exact He.noat_ok (cd.fact 115 (f := .noat "Form" "degrees") rfl)
theorem hd_cl_Claim (c : hObs K = hVal) : ClsD K (aAt K 58) ["form", "degrees", "total", "prime", "places"] := by
  obtain ⟨cd, _, _⟩ := all_of c
  refine ⟨He.cls_ok (cd.fact 116 (f := .cls "Claim") rfl), fun f hf => ?_, by decide⟩
  simp only [List.mem_cons, List.not_mem_nil, or_false] at hf
  rcases hf with rfl | rfl | rfl | rfl | rfl
  · exact He.noat_ok (cd.fact 118 (f := .noat "Claim" "form") rfl)
  · exact He.noat_ok (cd.fact 119 (f := .noat "Claim" "degrees") rfl)
  · exact He.noat_ok (cd.fact 120 (f := .noat "Claim" "total") rfl)
  · exact He.noat_ok (cd.fact 121 (f := .noat "Claim" "prime") rfl)
  · exact He.noat_ok (cd.fact 122 (f := .noat "Claim" "places") rfl)
theorem hd_cl_Journal (c : hObs K = hVal) : ClsD K (aAt K 63) ["prime", "total", "rounds", "polys", "coins"] := by
  obtain ⟨cd, _, _⟩ := all_of c
  refine ⟨He.cls_ok (cd.fact 123 (f := .cls "Journal") rfl), fun f hf => ?_, by decide⟩
  simp only [List.mem_cons, List.not_mem_nil, or_false] at hf
  rcases hf with rfl | rfl | rfl | rfl | rfl
  · exact He.noat_ok (cd.fact 125 (f := .noat "Journal" "prime") rfl)
  · exact He.noat_ok (cd.fact 126 (f := .noat "Journal" "total") rfl)
  · exact He.noat_ok (cd.fact 127 (f := .noat "Journal" "rounds") rfl)
  · exact He.noat_ok (cd.fact 128 (f := .noat "Journal" "polys") rfl)
  · exact He.noat_ok (cd.fact 129 (f := .noat "Journal" "coins") rfl)
theorem hd_cl_Honest (c : hObs K = hVal) : ClsD K (aAt K 71) ["prime", "target"] := by
  obtain ⟨cd, _, _⟩ := all_of c
  refine ⟨He.cls_ok (cd.fact 130 (f := .cls "Honest") rfl), fun f hf => ?_, by decide⟩
  simp only [List.mem_cons, List.not_mem_nil, or_false] at hf
  rcases hf with rfl | rfl
  · exact He.noat_ok (cd.fact 132 (f := .noat "Honest" "prime") rfl)
  · exact He.noat_ok (cd.fact 133 (f := .noat "Honest" "target") rfl)
theorem hd_ci_Field (c : hObs K = hVal) : ClsI K (aAt K 21) := by
  obtain ⟨cd, ce, _⟩ := all_of c
  exact ⟨He.cls_ok (cd.fact 103 (f := .cls "Field") rfl), (of_decide_eq_true (p := (PySem.W.findIn K (.ref (He.ga K "Field")) "__class__" = some (some (.builtin "object.__class__")))) (all_at ce 1 rfl)), (of_decide_eq_true (p := (PySem.W.specialIn K (.builtin "object.__class__") "__get__" = some (some (.builtin "getset_descriptor.__get__")))) (all_at ce 18 rfl)), (of_decide_eq_true (p := (PySem.W.takesIn K (.builtin "object.__class__") = some true)) (all_at ce 19 rfl)), (of_decide_eq_true (p := (PySem.W.mroIn K (He.ga K "Field") (.type "object") = some true)) (all_at ce 2 rfl))⟩
theorem hd_ci_Poly (c : hObs K = hVal) : ClsI K (aAt K 31) := by
  obtain ⟨cd, ce, _⟩ := all_of c
  exact ⟨He.cls_ok (cd.fact 106 (f := .cls "Poly") rfl), (of_decide_eq_true (p := (PySem.W.findIn K (.ref (He.ga K "Poly")) "__class__" = some (some (.builtin "object.__class__")))) (all_at ce 4 rfl)), (of_decide_eq_true (p := (PySem.W.specialIn K (.builtin "object.__class__") "__get__" = some (some (.builtin "getset_descriptor.__get__")))) (all_at ce 18 rfl)), (of_decide_eq_true (p := (PySem.W.takesIn K (.builtin "object.__class__") = some true)) (all_at ce 19 rfl)), (of_decide_eq_true (p := (PySem.W.mroIn K (He.ga K "Poly") (.type "object") = some true)) (all_at ce 5 rfl))⟩
theorem hd_ci_Form (c : hObs K = hVal) : ClsI K (aAt K 50) := by
  obtain ⟨cd, ce, _⟩ := all_of c
  exact ⟨He.cls_ok (cd.fact 110 (f := .cls "Form") rfl), (of_decide_eq_true (p := (PySem.W.findIn K (.ref (He.ga K "Form")) "__class__" = some (some (.builtin "object.__class__")))) (all_at ce 7 rfl)), (of_decide_eq_true (p := (PySem.W.specialIn K (.builtin "object.__class__") "__get__" = some (some (.builtin "getset_descriptor.__get__")))) (all_at ce 18 rfl)), (of_decide_eq_true (p := (PySem.W.takesIn K (.builtin "object.__class__") = some true)) (all_at ce 19 rfl)), (of_decide_eq_true (p := (PySem.W.mroIn K (He.ga K "Form") (.type "object") = some true)) (all_at ce 8 rfl))⟩
theorem hd_ci_Claim (c : hObs K = hVal) : ClsI K (aAt K 58) := by
  obtain ⟨cd, ce, _⟩ := all_of c
  exact ⟨He.cls_ok (cd.fact 116 (f := .cls "Claim") rfl), (of_decide_eq_true (p := (PySem.W.findIn K (.ref (He.ga K "Claim")) "__class__" = some (some (.builtin "object.__class__")))) (all_at ce 10 rfl)), (of_decide_eq_true (p := (PySem.W.specialIn K (.builtin "object.__class__") "__get__" = some (some (.builtin "getset_descriptor.__get__")))) (all_at ce 18 rfl)), (of_decide_eq_true (p := (PySem.W.takesIn K (.builtin "object.__class__") = some true)) (all_at ce 19 rfl)), (of_decide_eq_true (p := (PySem.W.mroIn K (He.ga K "Claim") (.type "object") = some true)) (all_at ce 11 rfl))⟩
theorem hd_ci_Journal (c : hObs K = hVal) : ClsI K (aAt K 63) := by
  obtain ⟨cd, ce, _⟩ := all_of c
  exact ⟨He.cls_ok (cd.fact 123 (f := .cls "Journal") rfl), (of_decide_eq_true (p := (PySem.W.findIn K (.ref (He.ga K "Journal")) "__class__" = some (some (.builtin "object.__class__")))) (all_at ce 13 rfl)), (of_decide_eq_true (p := (PySem.W.specialIn K (.builtin "object.__class__") "__get__" = some (some (.builtin "getset_descriptor.__get__")))) (all_at ce 18 rfl)), (of_decide_eq_true (p := (PySem.W.takesIn K (.builtin "object.__class__") = some true)) (all_at ce 19 rfl)), (of_decide_eq_true (p := (PySem.W.mroIn K (He.ga K "Journal") (.type "object") = some true)) (all_at ce 14 rfl))⟩
theorem hd_ci_Honest (c : hObs K = hVal) : ClsI K (aAt K 71) := by
  obtain ⟨cd, ce, _⟩ := all_of c
  exact ⟨He.cls_ok (cd.fact 130 (f := .cls "Honest") rfl), (of_decide_eq_true (p := (PySem.W.findIn K (.ref (He.ga K "Honest")) "__class__" = some (some (.builtin "object.__class__")))) (all_at ce 16 rfl)), (of_decide_eq_true (p := (PySem.W.specialIn K (.builtin "object.__class__") "__get__" = some (some (.builtin "getset_descriptor.__get__")))) (all_at ce 18 rfl)), (of_decide_eq_true (p := (PySem.W.takesIn K (.builtin "object.__class__") = some true)) (all_at ce 19 rfl)), (of_decide_eq_true (p := (PySem.W.mroIn K (He.ga K "Honest") (.type "object") = some true)) (all_at ce 17 rfl))⟩
theorem hd_pr_degree (c : hObs K = hVal) : ∃ q, PropOf K (aAt K 31) "degree" q (aAt K 4101) := by
  obtain ⟨cd, ce, _⟩ := all_of c
  exact ⟨_, (of_decide_eq_true (p := (PySem.W.findIn K (.ref (He.ga K "Poly")) "degree" = some (some (.ref (He.ma K (He.ga K "Poly") "degree"))))) (all_at ce 20 rfl)), (of_decide_eq_true (p := (PySem.W.specialIn K (.ref (He.ma K (He.ga K "Poly") "degree")) "__get__" = some (some (.builtin "property.__get__")))) (all_at ce 21 rfl)), (of_decide_eq_true (p := (PySem.W.takesIn K (.ref (He.ma K (He.ga K "Poly") "degree")) = some true)) (all_at ce 22 rfl)), pr_rec (all_at ce 23 rfl)⟩
theorem hd_pr_length (c : hObs K = hVal) : ∃ q, PropOf K (aAt K 63) "length" q (aAt K 7301) := by
  obtain ⟨cd, ce, _⟩ := all_of c
  exact ⟨_, (of_decide_eq_true (p := (PySem.W.findIn K (.ref (He.ga K "Journal")) "length" = some (some (.ref (He.ma K (He.ga K "Journal") "length"))))) (all_at ce 24 rfl)), (of_decide_eq_true (p := (PySem.W.specialIn K (.ref (He.ma K (He.ga K "Journal") "length")) "__get__" = some (some (.builtin "property.__get__")))) (all_at ce 25 rfl)), (of_decide_eq_true (p := (PySem.W.takesIn K (.ref (He.ma K (He.ga K "Journal") "length")) = some true)) (all_at ce 26 rfl)), pr_rec (all_at ce 27 rfl)⟩
theorem hd_co (c : hObs K = hVal) : ContO K (aAt K 21) (aAt K 3101) := by
  obtain ⟨cd, ce, _⟩ := all_of c
  exact ⟨(of_decide_eq_true (p := (PySem.W.findIn K (.ref (He.ga K "Field")) "__contains__" = some (some (.ref (He.ma K (He.ga K "Field") "__contains__"))))) (all_at ce 28 rfl)), (all_at ce 29 rfl)⟩
theorem hd_cf (c : hObs K = hVal) : CFn K (aAt K 70) "__init__" (aAt K 8000) := by
  obtain ⟨cd, ce, _⟩ := all_of c
  exact ⟨(of_decide_eq_true (p := (PySem.W.specialIn K (.ref (He.ga K "Teller")) "__getattribute__" = some (some (.builtin "type.__getattribute__")))) (all_at ce 30 rfl)), (all_at ce 31 rfl), fc_of (all_at ce 32 rfl), (all_at ce 33 rfl)⟩
theorem hd_ec (c : hObs K = hVal) : ExcC K (aAt K 4) := by
  obtain ⟨cd, ce, _⟩ := all_of c
  exact ⟨(of_decide_eq_true (p := (PySem.W.findIn K (.ref (He.ga K "WrongPlaces")) "__getattribute__" = some (some (.builtin "BaseException.__getattribute__")))) (all_at ce 38 rfl)), (of_decide_eq_true (p := (PySem.W.findIn K (.ref (He.ga K "WrongPlaces")) "__getattr__" = some none)) (all_at ce 39 rfl)), (of_decide_eq_true (p := (PySem.W.subIn K (.ref (He.ga K "WrongPlaces")) (.type "BaseException") = some true)) (all_at ce 40 rfl)), (all_at ce 41 rfl), (of_decide_eq_true (p := (PySem.W.findIn K (.ref (He.ga K "WrongPlaces")) "__class__" = some (some (.builtin "object.__class__")))) (all_at ce 42 rfl)), (of_decide_eq_true (p := (PySem.W.specialIn K (.builtin "object.__class__") "__get__" = some (some (.builtin "getset_descriptor.__get__")))) (all_at ce 18 rfl)), (of_decide_eq_true (p := (PySem.W.takesIn K (.builtin "object.__class__") = some true)) (all_at ce 19 rfl)), (of_decide_eq_true (p := (PySem.W.mroIn K (He.ga K "WrongPlaces") (.type "object") = some true)) (all_at ce 43 rfl))⟩
def txtOf (X : K.In h) (G : h.Ns mainGlobals mg) (c : hObs K = hVal) : Txt K mg :=
  have cd := (all_of c).1
  have ce := (all_of c).2.1
  { a := aAt K,
    f_Claim_init := hd_Claim_init c,
    f_is_whole := hd_is_whole c,
    f_has_divisor := hd_has_divisor c,
    f_check_number_polys := hd_check_number_polys c,
    f_trimmed := hd_trimmed c,
    f_Poly_degree := hd_Poly_degree c,
    f_check_whole := hd_check_whole c,
    f_check_number_forms := hd_check_number_forms c,
    f_added_up := hd_added_up c,
    f_greatest_exponents := hd_greatest_exponents c,
    f_power_row := hd_power_row c,
    f_corner_sum := hd_corner_sum c,
    f_own_whole := hd_own_whole c,
    f_own_number := hd_own_number c,
    f_own_poly := hd_own_poly c,
    f_Journal_length := hd_Journal_length c,
    f_check_same_field := hd_check_same_field c,
    f_lw_mix := hd_lw_mix c,
    f_lw_store := hd_lw_store c,
    f_lw_primes := hd_lw_primes c,
    f_lw_power := hd_lw_power c,
    f_lw_trim := hd_lw_trim c,
    f_lw_field_power := hd_lw_field_power c,
    f_lw_poly_value := hd_lw_poly_value c,
    f_lw_poly_ends := hd_lw_poly_ends c,
    f_lw_all_rows := hd_lw_all_rows c,
    f_lw_form_rows := hd_lw_form_rows c,
    f_lw_form_tops := hd_lw_form_tops c,
    f_check_prime := hd_check_prime c,
    f_is_number := hd_is_number c,
    f_check_row := hd_check_row c,
    f_Poly_at := hd_Poly_at c,
    f_check_numbers_forms := hd_check_numbers_forms c,
    f_checked_term := hd_checked_term c,
    f_own_degrees := hd_own_degrees c,
    f_Claim_is_true := hd_Claim_is_true c,
    f_own_rounds := hd_own_rounds c,
    f_lw_take := hd_lw_take c,
    f_lw_form_value := hd_lw_form_value c,
    f_lw_round_row := hd_lw_round_row c,
    f_Field_contains := hd_Field_contains c,
    f_Field_init := hd_Field_init c,
    f_Poly_ends := hd_Poly_ends c,
    f_Poly_fits := hd_Poly_fits c,
    f_Poly_init := hd_Poly_init c,
    f_Form_at := hd_Form_at c,
    f_Form_init := hd_Form_init c,
    f_Journal_init := hd_Journal_init c,
    f_Teller_init := hd_Teller_init c,
    f_lw_edge := hd_lw_edge c,
    f_lw_chance := hd_lw_chance c,
    f_lw_pick := hd_lw_pick c,
    f_lw_other_number := hd_lw_other_number c,
    f_lw_row := hd_lw_row c,
    f_lw_honest_rounds := hd_lw_honest_rounds c,
    f_is_fitting := hd_is_fitting c,
    f_Honest_init := hd_Honest_init c,
    f_round_verdict := hd_round_verdict c,
    f_end_verdict := hd_end_verdict c,
    f_lw_prime := hd_lw_prime c,
    f_lw_number := hd_lw_number c,
    f_lw_drawn_claim := hd_lw_drawn_claim c,
    f_Form_fix := hd_Form_fix c,
    f_Claim_with_total := hd_Claim_with_total c,
    f_check_numbers_tellers := hd_check_numbers_tellers c,
    f_judge := hd_judge c,
    f_lw_numbers := hd_lw_numbers c,
    f_round_poly := hd_round_poly c,
    f_is_let_by := hd_is_let_by c,
    f_lw_rows_of_coins := hd_lw_rows_of_coins c,
    f_Honest_hand := hd_Honest_hand c,
    f_ask := hd_ask c,
    f_lw_refused := hd_lw_refused c,
    f_talk := hd_talk c,
    f_lw_same := hd_lw_same c,
    f_lw_poly_is := hd_lw_poly_is c,
    f_lw_form_is := hd_lw_form_is c,
    f_lw_journal_is := hd_lw_journal_is c,
    f_lw_walked := hd_lw_walked c,
    f_lw_hands := hd_lw_hands c,
    f_lw_let_by := hd_lw_let_by c,
    f_lw_false_talk := hd_lw_false_talk c,
    f_law := hd_law c,
    g_Claim := He.glo_ok X G (cd.fact 0 (f := .glo "Claim") rfl),
    g_DegreeTooHigh := He.glo_ok X G (cd.fact 1 (f := .glo "DegreeTooHigh") rfl),
    g_Field := He.glo_ok X G (cd.fact 2 (f := .glo "Field") rfl),
    g_Form := He.glo_ok X G (cd.fact 3 (f := .glo "Form") rfl),
    g_Honest := He.glo_ok X G (cd.fact 4 (f := .glo "Honest") rfl),
    g_Journal := He.glo_ok X G (cd.fact 5 (f := .glo "Journal") rfl),
    g_NotInField := He.glo_ok X G (cd.fact 6 (f := .glo "NotInField") rfl),
    g_NotPrime := He.glo_ok X G (cd.fact 7 (f := .glo "NotPrime") rfl),
    g_OtherField := He.glo_ok X G (cd.fact 8 (f := .glo "OtherField") rfl),
    g_OutOfRange := He.glo_ok X G (cd.fact 9 (f := .glo "OutOfRange") rfl),
    g_Poly := He.glo_ok X G (cd.fact 10 (f := .glo "Poly") rfl),
    g_TalkError := He.glo_ok X G (cd.fact 11 (f := .glo "TalkError") rfl),
    g_Teller := He.glo_ok X G (cd.fact 12 (f := .glo "Teller") rfl),
    g_TooLarge := He.glo_ok X G (cd.fact 13 (f := .glo "TooLarge") rfl),
    g_WrongPlaces := He.glo_ok X G (cd.fact 14 (f := .glo "WrongPlaces") rfl),
    g_lw_all_rows := He.glo_ok X G (cd.fact 15 (f := .glo "_law_all_rows") rfl),
    g_lw_chance := He.glo_ok X G (cd.fact 16 (f := .glo "_law_chance") rfl),
    g_lw_drawn_claim := He.glo_ok X G (cd.fact 17 (f := .glo "_law_drawn_claim") rfl),
    g_lw_edge := He.glo_ok X G (cd.fact 18 (f := .glo "_law_edge") rfl),
    g_lw_false_talk := He.glo_ok X G (cd.fact 19 (f := .glo "_law_false_talk") rfl),
    g_lw_field_power := He.glo_ok X G (cd.fact 20 (f := .glo "_law_field_power") rfl),
    g_lw_form_is := He.glo_ok X G (cd.fact 21 (f := .glo "_law_form_is") rfl),
    g_lw_form_rows := He.glo_ok X G (cd.fact 22 (f := .glo "_law_form_rows") rfl),
    g_lw_form_tops := He.glo_ok X G (cd.fact 23 (f := .glo "_law_form_tops") rfl),
    g_lw_form_value := He.glo_ok X G (cd.fact 24 (f := .glo "_law_form_value") rfl),
    g_lw_hands := He.glo_ok X G (cd.fact 25 (f := .glo "_law_hands") rfl),
    g_lw_honest_rounds := He.glo_ok X G (cd.fact 26 (f := .glo "_law_honest_rounds") rfl),
    g_lw_journal_is := He.glo_ok X G (cd.fact 27 (f := .glo "_law_journal_is") rfl),
    g_lw_let_by := He.glo_ok X G (cd.fact 28 (f := .glo "_law_let_by") rfl),
    g_lw_mix := He.glo_ok X G (cd.fact 29 (f := .glo "_law_mix") rfl),
    g_lw_number := He.glo_ok X G (cd.fact 30 (f := .glo "_law_number") rfl),
    g_lw_numbers := He.glo_ok X G (cd.fact 31 (f := .glo "_law_numbers") rfl),
    g_lw_other_number := He.glo_ok X G (cd.fact 32 (f := .glo "_law_other_number") rfl),
    g_lw_pick := He.glo_ok X G (cd.fact 33 (f := .glo "_law_pick") rfl),
    g_lw_poly_ends := He.glo_ok X G (cd.fact 34 (f := .glo "_law_poly_ends") rfl),
    g_lw_poly_is := He.glo_ok X G (cd.fact 35 (f := .glo "_law_poly_is") rfl),
    g_lw_poly_value := He.glo_ok X G (cd.fact 36 (f := .glo "_law_poly_value") rfl),
    g_lw_power := He.glo_ok X G (cd.fact 37 (f := .glo "_law_power") rfl),
    g_lw_prime := He.glo_ok X G (cd.fact 38 (f := .glo "_law_prime") rfl),
    g_lw_primes := He.glo_ok X G (cd.fact 39 (f := .glo "_law_primes") rfl),
    g_lw_refused := He.glo_ok X G (cd.fact 40 (f := .glo "_law_refused") rfl),
    g_lw_round_row := He.glo_ok X G (cd.fact 41 (f := .glo "_law_round_row") rfl),
    g_lw_row := He.glo_ok X G (cd.fact 42 (f := .glo "_law_row") rfl),
    g_lw_rows_of_coins := He.glo_ok X G (cd.fact 43 (f := .glo "_law_rows_of_coins") rfl),
    g_lw_same := He.glo_ok X G (cd.fact 44 (f := .glo "_law_same") rfl),
    g_lw_store := He.glo_ok X G (cd.fact 45 (f := .glo "_law_store") rfl),
    g_lw_take := He.glo_ok X G (cd.fact 46 (f := .glo "_law_take") rfl),
    g_lw_trim := He.glo_ok X G (cd.fact 47 (f := .glo "_law_trim") rfl),
    g_lw_walked := He.glo_ok X G (cd.fact 48 (f := .glo "_law_walked") rfl),
    g_added_up := He.glo_ok X G (cd.fact 49 (f := .glo "added_up") rfl),
    g_ask := He.glo_ok X G (cd.fact 50 (f := .glo "ask") rfl),
    g_check_number_forms := He.glo_ok X G (cd.fact 51 (f := .glo "check_number_forms") rfl),
    g_check_number_polys := He.glo_ok X G (cd.fact 52 (f := .glo "check_number_polys") rfl),
    g_check_numbers_forms := He.glo_ok X G (cd.fact 53 (f := .glo "check_numbers_forms") rfl),
    g_check_numbers_tellers := He.glo_ok X G (cd.fact 54 (f := .glo "check_numbers_tellers") rfl),
    g_check_prime := He.glo_ok X G (cd.fact 55 (f := .glo "check_prime") rfl),
    g_check_row := He.glo_ok X G (cd.fact 56 (f := .glo "check_row") rfl),
    g_check_same_field := He.glo_ok X G (cd.fact 57 (f := .glo "check_same_field") rfl),
    g_check_whole := He.glo_ok X G (cd.fact 58 (f := .glo "check_whole") rfl),
    g_checked_term := He.glo_ok X G (cd.fact 59 (f := .glo "checked_term") rfl),
    g_corner_sum := He.glo_ok X G (cd.fact 60 (f := .glo "corner_sum") rfl),
    g_end_verdict := He.glo_ok X G (cd.fact 61 (f := .glo "end_verdict") rfl),
    g_greatest_exponents := He.glo_ok X G (cd.fact 62 (f := .glo "greatest_exponents") rfl),
    g_has_divisor := He.glo_ok X G (cd.fact 63 (f := .glo "has_divisor") rfl),
    g_is_fitting := He.glo_ok X G (cd.fact 64 (f := .glo "is_fitting") rfl),
    g_is_let_by := He.glo_ok X G (cd.fact 65 (f := .glo "is_let_by") rfl),
    g_is_number := He.glo_ok X G (cd.fact 66 (f := .glo "is_number") rfl),
    g_is_whole := He.glo_ok X G (cd.fact 67 (f := .glo "is_whole") rfl),
    g_judge := He.glo_ok X G (cd.fact 68 (f := .glo "judge") rfl),
    g_own_degrees := He.glo_ok X G (cd.fact 69 (f := .glo "own_degrees") rfl),
    g_own_number := He.glo_ok X G (cd.fact 70 (f := .glo "own_number") rfl),
    g_own_poly := He.glo_ok X G (cd.fact 71 (f := .glo "own_poly") rfl),
    g_own_rounds := He.glo_ok X G (cd.fact 72 (f := .glo "own_rounds") rfl),
    g_own_whole := He.glo_ok X G (cd.fact 73 (f := .glo "own_whole") rfl),
    g_power_row := He.glo_ok X G (cd.fact 74 (f := .glo "power_row") rfl),
    g_round_poly := He.glo_ok X G (cd.fact 75 (f := .glo "round_poly") rfl),
    g_round_verdict := He.glo_ok X G (cd.fact 76 (f := .glo "round_verdict") rfl),
    g_talk := He.glo_ok X G (cd.fact 77 (f := .glo "talk") rfl),
    g_trimmed := He.glo_ok X G (cd.fact 78 (f := .glo "trimmed") rfl),
    m_MAX_COEFFICIENTS := He.int_ok X G (cd.fact 80 (f := .int "MAX_COEFFICIENTS" 128) rfl),
    m_MAX_DEGREE := He.int_ok X G (cd.fact 81 (f := .int "MAX_DEGREE" 12) rfl),
    m_MAX_PLACES := He.int_ok X G (cd.fact 82 (f := .int "MAX_PLACES" 5) rfl),
    m_MAX_PRIME := He.int_ok X G (cd.fact 83 (f := .int "MAX_PRIME" 101) rfl),
    m_MAX_ROUNDS := He.int_ok X G (cd.fact 84 (f := .int "MAX_ROUNDS" 32) rfl),
    m_MAX_TERMS := He.int_ok X G (cd.fact 85 (f := .int "MAX_TERMS" 1024) rfl),
    n_ValueError := He.free_ok X G (cd.fact 86 (f := .free "ValueError") rfl),
    n_abs := He.free_ok X G (cd.fact 87 (f := .free "abs") rfl),
    n_bool := He.free_ok X G (cd.fact 88 (f := .free "bool") rfl),
    n_enumerate := He.free_ok X G (cd.fact 89 (f := .free "enumerate") rfl),
    n_int := He.free_ok X G (cd.fact 90 (f := .free "int") rfl),
    n_isinstance := He.free_ok X G (cd.fact 91 (f := .free "isinstance") rfl),
    n_len := He.free_ok X G (cd.fact 92 (f := .free "len") rfl),
    n_list := He.free_ok X G (cd.fact 93 (f := .free "list") rfl),
    n_max := He.free_ok X G (cd.fact 94 (f := .free "max") rfl),
    n_min := He.free_ok X G (cd.fact 95 (f := .free "min") rfl),
    n_property := He.free_ok X G (cd.fact 96 (f := .free "property") rfl),
    n_range := He.free_ok X G (cd.fact 97 (f := .free "range") rfl),
    n_sorted := He.free_ok X G (cd.fact 98 (f := .free "sorted") rfl),
    n_str := He.free_ok X G (cd.fact 99 (f := .free "str") rfl),
    n_sum := He.free_ok X G (cd.fact 100 (f := .free "sum") rfl),
    n_tuple := He.free_ok X G (cd.fact 101 (f := .free "tuple") rfl),
    n_zip := He.free_ok X G (cd.fact 102 (f := .free "zip") rfl),
    cl_Field := hd_cl_Field c,
    cl_Poly := hd_cl_Poly c,
    cl_Form := hd_cl_Form c,
    cl_Claim := hd_cl_Claim c,
    cl_Journal := hd_cl_Journal c,
    cl_Honest := hd_cl_Honest c,
    ci_Field := hd_ci_Field c,
    ci_Poly := hd_ci_Poly c,
    ci_Form := hd_ci_Form c,
    ci_Claim := hd_ci_Claim c,
    ci_Journal := hd_ci_Journal c,
    ci_Honest := hd_ci_Honest c,
    mk_Field := He.mkr_ok (cd.fact 104 (f := .mkr "Field") rfl),
    mk_Poly := He.mkr_ok (cd.fact 107 (f := .mkr "Poly") rfl),
    mk_Form := He.mkr_ok (cd.fact 111 (f := .mkr "Form") rfl),
    mk_Claim := He.mkr_ok (cd.fact 117 (f := .mkr "Claim") rfl),
    mk_Journal := He.mkr_ok (cd.fact 124 (f := .mkr "Journal") rfl),
    mk_Honest := He.mkr_ok (cd.fact 131 (f := .mkr "Honest") rfl),
    me_Honest_hand := He.meth_ok (cd.fact 134 (f := .meth "Honest" "hand") rfl),
    me_Poly_fits := He.meth_ok (cd.fact 135 (f := .meth "Poly" "fits") rfl),
    me_Poly_ends := He.meth_ok (cd.fact 136 (f := .meth "Poly" "ends") rfl),
    me_Claim_is_true := He.meth_ok (cd.fact 137 (f := .meth "Claim" "is_true") rfl),
    me_Claim_with_total := He.meth_ok (cd.fact 138 (f := .meth "Claim" "with_total") rfl),
    me_Poly_at := He.meth_ok (cd.fact 139 (f := .meth "Poly" "at") rfl),
    me_Form_at := He.meth_ok (cd.fact 140 (f := .meth "Form" "at") rfl),
    me_Form_fix := He.meth_ok (cd.fact 141 (f := .meth "Form" "fix") rfl),
    pr_Poly_degree := hd_pr_degree c,
    pr_Journal_length := hd_pr_length c,
    co_Field := hd_co c,
    cf_Teller := hd_cf c,
    ki_Poly := (of_decide_eq_true (p := (PySem.W.kitOne K (.ref (He.ga K "Poly")) (.ref (He.ga K "Poly")) = some true)) (all_at ce 34 rfl)),
    ki_Form := (of_decide_eq_true (p := (PySem.W.kitOne K (.ref (He.ga K "Form")) (.ref (He.ga K "Form")) = some true)) (all_at ce 35 rfl)),
    ki_Journal := (of_decide_eq_true (p := (PySem.W.kitOne K (.ref (He.ga K "Journal")) (.ref (He.ga K "Journal")) = some true)) (all_at ce 36 rfl)),
    ki_Honest := (of_decide_eq_true (p := (PySem.W.kitOne K (.ref (He.ga K "Honest")) (.ref (He.ga K "Teller")) = some true)) (all_at ce 37 rfl)),
    xc_WP := (He.exc_ok (cd.fact 142 (f := .exc "WrongPlaces") rfl)).1,
    kp_WP := (He.exc_ok (cd.fact 142 (f := .exc "WrongPlaces") rfl)).2.1,
    sb_WP := (He.exc_ok (cd.fact 142 (f := .exc "WrongPlaces") rfl)).2.2.1,
    ty_WP := (He.exc_ok (cd.fact 142 (f := .exc "WrongPlaces") rfl)).2.2.2,
    ex_WP := He.exm_ok (cd.fact 143 (f := .exm "WrongPlaces" "WrongPlaces" true) rfl),
    ec_WP := hd_ec c,
    ka_WP := (of_decide_eq_true (p := (PySem.W.kitAny K (.ref (He.ga K "WrongPlaces")) [.ref (He.ga K "NotInField"), .ref (He.ga K "OtherField"), .ref (He.ga K "OutOfRange"), .ref (He.ga K "TooLarge")] = some false)) (all_at ce 44 rfl)),
    kt_WP := (of_decide_eq_true (p := (PySem.W.kitOne K (.ref (He.ga K "WrongPlaces")) (.ref (He.ga K "TalkError")) = some true)) (all_at ce 45 rfl)),
    kv_WP := (of_decide_eq_true (p := (PySem.W.kitOne K (.ref (He.ga K "WrongPlaces")) (.type "ValueError") = some true)) (all_at ce 46 rfl)) }
end
end SK

set_option Elab.async false
set_option linter.all false
set_option maxRecDepth 100000
set_option maxHeartbeats 0
namespace SK
open PySem PySem.Spec PyProof.Rows L2
theorem law_promise {K : PySem.W.Frag} {mg : Str → Option Value} (T : Txt K mg) (H : Hp) (a : Addr) (ns : List Int) (h : SqL K H a (ns.map V.int)) : pureSp (S_law T) [.ref a] H (fun v _ => v = .bl true) fun _ _ _ => False :=
  ⟨H, [.scr K ns], fun d => d = .bl true, .refl H, .cons (rep_scr h) .nil, ⟨_, ⟨ns, rfl, rfl⟩, rfl⟩, fun v d M' H' _ r e => by subst e; exact r.bl_⟩
theorem law_facts {P : Program} {w : World} {K : PySem.W.Frag} {h : Heap} {mg : Str → Option Value} {f : Addr} (X : K.In h) (G : h.Ns mainGlobals mg) (hfa : mg ("law" : Str) = some (.ref f)) (c : hObs K = hVal) :
    ∃ (fd : FuncData) (sp : Sp), (∀ (s : Shared) (v : Value), BindsTo s fd ⟨[v], []⟩ [("_law_script", v)]) ∧ (∀ (H : Hp) (a : Addr) (ns : List Int), SqL K H a (ns.map V.int) → sp [.ref a] H (fun v _ => v = .bl true) fun _ _ _ => False) ∧
      ∀ base : Heap, FnOk P w K mg base CX0 13 f fd ["_law_script"] sp := by
  have cd := (all_of c).1
  have e := hfa.symm.trans (He.glo_ok X G (cd.fact 79 (f := .glo "law") rfl))
  cases e
  obtain ⟨fd, F⟩ := cd.def_ 80 (d := dd_law) rfl
  have b := FunD.bindsA (ps := ["_law_script"]) F fun _ _ _ _ _ _ us hl => match us, hl with | [_], _ => rfl
  have T : Txt K mg := txtOf X G c
  refine ⟨fd, pureSp (S_law (txtOf X G c)), fun s v => b s [v] rfl, fun H a ns hS => law_promise (txtOf X G c) H a ns hS, fun base => ?_⟩
  have F2 : Fun K "law" "law" (top 113) ((txtOf X G c).a 113) fd := by
    obtain ⟨oc, od, dV, kV, doc, pm, an, cdv, ct, osl, rfl, lk, hcd, hD, hK⟩ := F.ex
    rcases hD with ⟨_, rfl⟩ | ⟨e, _⟩
    · exact ⟨⟨oc, od, kV, doc, pm, an, cdv, ct, osl, rfl, lk, hcd⟩, F.kp⟩
    · exact absurd rfl e
  exact ok_law (txtOf X G c) F2
end SK
open PySem PySem.W PySem.Calls PyProof.Rows
theorem PySem.Challenge.cw_sumtalk_k32_whole_honest_let_by_holds : PySem.Challenge.rw_sumtalk_k32_whole_honest_let_by.Holds := by
  w_on; o_law
  refine HandSHeadRun.head_any (r := OpenLaw.row PySem.Challenge.rw_sumtalk_k32_whole_honest_let_by) (q := view (OpenLaw.row PySem.Challenge.rw_sumtalk_k32_whole_honest_let_by).prog [113]) (H := SK.hHook) (ob := SK.hOb) (M := 9000) (loose := SK.hNames) (d := HandSHeadRun.topDef (OpenLaw.row PySem.Challenge.rw_sumtalk_k32_whole_honest_let_by).prog 113) (kwd := []) SK.hOb_eq
    (by kernel_rfl) (fun s => by kernel_rfl) SK.hRun (by kernel_rfl) (by kernel_rfl) (by kernel_rfl) (by rfl) (by first | assumption | decide +kernel) (by decide +kernel) ⟨rfl, rfl, rfl, rfl, rfl, by decide +kernel⟩ ?hw ?hc
  case hw => w_witness2
  case hc =>
    refine L2.walk_ofE (l := PySem.Challenge.rw_sumtalk_k32_whole_honest_let_by) (n := 63) (k := 13) (x := "_law_script") (CX := L2.CX0) rfl (by decide) (by kernel_rfl) ⟨rfl, by decide, by decide⟩ ?F (fun _ _ _ _ z => z)
    intro w mg fa h Y G hmg0
    obtain ⟨K, KX, c⟩ := Y
    have hmg : mg ("law" : PySem.Str) = some (.ref fa) := by
      have e : (HandSHeadRun.topDef (OpenLaw.row PySem.Challenge.rw_sumtalk_k32_whole_honest_let_by).prog 113).name = ("law" : PySem.Str) := by kernel_rfl
      rw [← e]
      exact hmg0
    obtain ⟨fd, sp, hb, hsp, hF⟩ := SK.law_facts (P := (PySem.Challenge.rw_sumtalk_k32_whole_honest_let_by).prog) (w := w) KX G hmg c
    exact ⟨K, fd, sp, KX, hb, fun H a ns _ _ hS => hsp H a ns hS, fun base _ _ => hF base⟩
