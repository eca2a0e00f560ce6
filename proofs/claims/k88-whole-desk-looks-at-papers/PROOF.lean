import PyProof.Rows.All
import Wide.All
import OpenK.AllK
import Wide.FinOn
import KE.KStateDown
import Lean
import HandS.ForMost
import HandS.Defaults
import HandS.Head0
import HandS.Head1
import HandS.Head2
import HandS.HeadEnd
import HandS.HeadHook1
import HandS.HeadHook2
import HandS.HeadHook3
import PySem.Challenge.RW_rootwheel_k88_whole_desk_looks_at_papers
import HandS.IsInst
import HandS.Walk
import HandS.RevRange
import HandS.Zip
import HandS.Wide
import HandS.StrSplit
import HandS.Style
import KE.GoesEnum
import HandS.Codes
import HandS.SortRule
import KE.KxAffix
import PyProof.StrLawsIn
import PyProof.Rows.StrSplitMax
set_option Elab.async false
set_option linter.all false
set_option maxRecDepth 100000
set_option maxHeartbeats 0
-- H0
namespace RW
open PySem PySem.Spec PyProof.Rows L2
def top (i : Nat) : Stmt := PySem.Challenge.pw_rootwheel_k88_whole_desk_looks_at_papers.main.body.getD i (.Pass ⟨0, 0, 0, 0⟩)
abbrev s_trimmed : Stmt := top 14
abbrev s_over : Stmt := top 18
abbrev s_value : Stmt := top 19
abbrev s_divisors : Stmt := top 21
abbrev s_parted : Stmt := top 22
abbrev s_common : Stmt := top 23
abbrev s_power_by : Stmt := top 27
abbrev s_less_one : Stmt := top 29
abbrev s_root_polys : Stmt := top 30
abbrev s_root_poly : Stmt := top 31
abbrev s_is_whole : Stmt := top 32
abbrev s_why_none : Stmt := top 60
abbrev s_first_primes : Stmt := top 61
abbrev s_is_first : Stmt := top 62
abbrev s_order_is : Stmt := top 63
abbrev s_prime_paper : Stmt := top 64
abbrev s_is_prime_row : Stmt := top 65
abbrev s_shows_prime : Stmt := top 66
abbrev s_roots_show : Stmt := top 67
abbrev s_is_first_row : Stmt := top 68
abbrev s_shows_firsts : Stmt := top 69
abbrev s_is_left : Stmt := top 70
abbrev s_must : Stmt := top 87
abbrev s_read_count : Stmt := top 88
abbrev s_read_number : Stmt := top 89
abbrev s_show_paper : Stmt := top 104
abbrev s_parts_in : Stmt := top 105
abbrev s_read_paper_in : Stmt := top 106
abbrev s_read_paper : Stmt := top 107
abbrev s_show_rows : Stmt := top 108
abbrev s_read_row : Stmt := top 109
abbrev s_read_rows : Stmt := top 110
abbrev s_parts_of : Stmt := top 116
abbrev s_from_to : Stmt := top 118
abbrev s_yes_or_no : Stmt := top 119
abbrev s_read_rest : Stmt := top 122
abbrev s_told_firsts : Stmt := top 123
abbrev s_law_mix : Stmt := top 127
abbrev s_law_common : Stmt := top 128
abbrev s_law_over : Stmt := top 129
abbrev s_law_root_poly : Stmt := top 130
abbrev s_law_prime : Stmt := top 131
abbrev s_law_power : Stmt := top 132
abbrev s_law_proves : Stmt := top 133
abbrev s_law_paper_text : Stmt := top 134
abbrev s_law_parted : Stmt := top 135
abbrev s_law_made : Stmt := top 136
abbrev s_law_bent : Stmt := top 137
abbrev s_law_prime_looked : Stmt := top 138
abbrev s_law_worth : Stmt := top 139
abbrev s_law_is_first : Stmt := top 140
abbrev s_law_are_all : Stmt := top 141
abbrev s_law_rows_text : Stmt := top 142
abbrev s_law_all_bent : Stmt := top 143
abbrev s_law_all_looked : Stmt := top 144
abbrev s_law_told : Stmt := top 145
abbrev s_law : Stmt := top 146
abbrev s_Desk : Stmt := top 124
abbrev m_init : Stmt := inClass s_Desk 0
abbrev m_say : Stmt := inClass s_Desk 1
abbrev m_thing : Stmt := inClass s_Desk 2
abbrev m_asked : Stmt := inClass s_Desk 5
abbrev m_of_numbers : Stmt := inClass s_Desk 6
abbrev m_looked : Stmt := inClass s_Desk 7
def d_trimmed : He.DefD := ⟨("trimmed", none), "trimmed", "trimmed", defArgs s_trimmed, defBody s_trimmed, defScope s_trimmed, [], []⟩
def d_over : He.DefD := ⟨("over", none), "over", "over", defArgs s_over, defBody s_over, defScope s_over, [], []⟩
def d_value : He.DefD := ⟨("value", none), "value", "value", defArgs s_value, defBody s_value, defScope s_value, [], []⟩
def d_divisors : He.DefD := ⟨("divisors", none), "divisors", "divisors", defArgs s_divisors, defBody s_divisors, defScope s_divisors, [], []⟩
def d_parted : He.DefD := ⟨("parted", none), "parted", "parted", defArgs s_parted, defBody s_parted, defScope s_parted, [], []⟩
def d_common : He.DefD := ⟨("common", none), "common", "common", defArgs s_common, defBody s_common, defScope s_common, [], []⟩
def d_power_by : He.DefD := ⟨("power_by", none), "power_by", "power_by", defArgs s_power_by, defBody s_power_by, defScope s_power_by, [], []⟩
def d_less_one : He.DefD := ⟨("less_one", none), "less_one", "less_one", defArgs s_less_one, defBody s_less_one, defScope s_less_one, [], []⟩
def d_root_polys : He.DefD := ⟨("root_polys", none), "root_polys", "root_polys", defArgs s_root_polys, defBody s_root_polys, defScope s_root_polys, [], []⟩
def d_root_poly : He.DefD := ⟨("root_poly", none), "root_poly", "root_poly", defArgs s_root_poly, defBody s_root_poly, defScope s_root_poly, [], []⟩
def d_is_whole : He.DefD := ⟨("is_whole", none), "is_whole", "is_whole", defArgs s_is_whole, defBody s_is_whole, defScope s_is_whole, [], []⟩
def d_why_none : He.DefD := ⟨("why_none", none), "why_none", "why_none", defArgs s_why_none, defBody s_why_none, defScope s_why_none, [], []⟩
def d_first_primes : He.DefD := ⟨("first_primes", none), "first_primes", "first_primes", defArgs s_first_primes, defBody s_first_primes, defScope s_first_primes, [], []⟩
def d_is_first : He.DefD := ⟨("is_first", none), "is_first", "is_first", defArgs s_is_first, defBody s_is_first, defScope s_is_first, [], []⟩
def d_order_is : He.DefD := ⟨("order_is", none), "order_is", "order_is", defArgs s_order_is, defBody s_order_is, defScope s_order_is, [], []⟩
def d_prime_paper : He.DefD := ⟨("prime_paper", none), "prime_paper", "prime_paper", defArgs s_prime_paper, defBody s_prime_paper, defScope s_prime_paper, [], []⟩
def d_is_prime_row : He.DefD := ⟨("is_prime_row", none), "is_prime_row", "is_prime_row", defArgs s_is_prime_row, defBody s_is_prime_row, defScope s_is_prime_row, [], []⟩
def d_shows_prime : He.DefD := ⟨("shows_prime", none), "shows_prime", "shows_prime", defArgs s_shows_prime, defBody s_shows_prime, defScope s_shows_prime, [], []⟩
def d_roots_show : He.DefD := ⟨("roots_show", none), "roots_show", "roots_show", defArgs s_roots_show, defBody s_roots_show, defScope s_roots_show, [], []⟩
def d_is_first_row : He.DefD := ⟨("is_first_row", none), "is_first_row", "is_first_row", defArgs s_is_first_row, defBody s_is_first_row, defScope s_is_first_row, [], []⟩
def d_shows_firsts : He.DefD := ⟨("shows_firsts", none), "shows_firsts", "shows_firsts", defArgs s_shows_firsts, defBody s_shows_firsts, defScope s_shows_firsts, [], []⟩
def d_is_left : He.DefD := ⟨("is_left", none), "is_left", "is_left", defArgs s_is_left, defBody s_is_left, defScope s_is_left, [], []⟩
def d_must : He.DefD := ⟨("must", none), "must", "must", defArgs s_must, defBody s_must, defScope s_must, [], []⟩
def d_read_count : He.DefD := ⟨("read_count", none), "read_count", "read_count", defArgs s_read_count, defBody s_read_count, defScope s_read_count, [], []⟩
def d_read_number : He.DefD := ⟨("read_number", none), "read_number", "read_number", defArgs s_read_number, defBody s_read_number, defScope s_read_number, [], []⟩
def d_show_paper : He.DefD := ⟨("show_paper", none), "show_paper", "show_paper", defArgs s_show_paper, defBody s_show_paper, defScope s_show_paper, [], []⟩
def d_parts_in : He.DefD := ⟨("parts_in", none), "parts_in", "parts_in", defArgs s_parts_in, defBody s_parts_in, defScope s_parts_in, [], []⟩
def d_read_paper_in : He.DefD := ⟨("read_paper_in", none), "read_paper_in", "read_paper_in", defArgs s_read_paper_in, defBody s_read_paper_in, defScope s_read_paper_in, [], []⟩
def d_read_paper : He.DefD := ⟨("read_paper", none), "read_paper", "read_paper", defArgs s_read_paper, defBody s_read_paper, defScope s_read_paper, [], []⟩
def d_show_rows : He.DefD := ⟨("show_rows", none), "show_rows", "show_rows", defArgs s_show_rows, defBody s_show_rows, defScope s_show_rows, [], []⟩
def d_read_row : He.DefD := ⟨("read_row", none), "read_row", "read_row", defArgs s_read_row, defBody s_read_row, defScope s_read_row, [], []⟩
def d_read_rows : He.DefD := ⟨("read_rows", none), "read_rows", "read_rows", defArgs s_read_rows, defBody s_read_rows, defScope s_read_rows, [], []⟩
def d_parts_of : He.DefD := ⟨("parts_of", none), "parts_of", "parts_of", defArgs s_parts_of, defBody s_parts_of, defScope s_parts_of, [], []⟩
def d_from_to : He.DefD := ⟨("from_to", none), "from_to", "from_to", defArgs s_from_to, defBody s_from_to, defScope s_from_to, [], []⟩
def d_yes_or_no : He.DefD := ⟨("yes_or_no", none), "yes_or_no", "yes_or_no", defArgs s_yes_or_no, defBody s_yes_or_no, defScope s_yes_or_no, [], []⟩
def d_read_rest : He.DefD := ⟨("read_rest", none), "read_rest", "read_rest", defArgs s_read_rest, defBody s_read_rest, defScope s_read_rest, [], []⟩
def d_told_firsts : He.DefD := ⟨("told_firsts", none), "told_firsts", "told_firsts", defArgs s_told_firsts, defBody s_told_firsts, defScope s_told_firsts, [], []⟩
def d_law_mix : He.DefD := ⟨("_law_mix", none), "_law_mix", "_law_mix", defArgs s_law_mix, defBody s_law_mix, defScope s_law_mix, [], []⟩
def d_law_common : He.DefD := ⟨("_law_common", none), "_law_common", "_law_common", defArgs s_law_common, defBody s_law_common, defScope s_law_common, [], []⟩
def d_law_over : He.DefD := ⟨("_law_over", none), "_law_over", "_law_over", defArgs s_law_over, defBody s_law_over, defScope s_law_over, [], []⟩
def d_law_root_poly : He.DefD := ⟨("_law_root_poly", none), "_law_root_poly", "_law_root_poly", defArgs s_law_root_poly, defBody s_law_root_poly, defScope s_law_root_poly, [], []⟩
def d_law_prime : He.DefD := ⟨("_law_prime", none), "_law_prime", "_law_prime", defArgs s_law_prime, defBody s_law_prime, defScope s_law_prime, [], []⟩
def d_law_power : He.DefD := ⟨("_law_power", none), "_law_power", "_law_power", defArgs s_law_power, defBody s_law_power, defScope s_law_power, [], []⟩
def d_law_proves : He.DefD := ⟨("_law_proves", none), "_law_proves", "_law_proves", defArgs s_law_proves, defBody s_law_proves, defScope s_law_proves, [], []⟩
def d_law_paper_text : He.DefD := ⟨("_law_paper_text", none), "_law_paper_text", "_law_paper_text", defArgs s_law_paper_text, defBody s_law_paper_text, defScope s_law_paper_text, [], []⟩
def d_law_parted : He.DefD := ⟨("_law_parted", none), "_law_parted", "_law_parted", defArgs s_law_parted, defBody s_law_parted, defScope s_law_parted, [], []⟩
def d_law_made : He.DefD := ⟨("_law_made", none), "_law_made", "_law_made", defArgs s_law_made, defBody s_law_made, defScope s_law_made, [], []⟩
def d_law_bent : He.DefD := ⟨("_law_bent", none), "_law_bent", "_law_bent", defArgs s_law_bent, defBody s_law_bent, defScope s_law_bent, [], []⟩
def d_law_prime_looked : He.DefD := ⟨("_law_prime_looked", none), "_law_prime_looked", "_law_prime_looked", defArgs s_law_prime_looked, defBody s_law_prime_looked, defScope s_law_prime_looked, [], []⟩
def d_law_worth : He.DefD := ⟨("_law_worth", none), "_law_worth", "_law_worth", defArgs s_law_worth, defBody s_law_worth, defScope s_law_worth, [], []⟩
def d_law_is_first : He.DefD := ⟨("_law_is_first", none), "_law_is_first", "_law_is_first", defArgs s_law_is_first, defBody s_law_is_first, defScope s_law_is_first, [], []⟩
def d_law_are_all : He.DefD := ⟨("_law_are_all", none), "_law_are_all", "_law_are_all", defArgs s_law_are_all, defBody s_law_are_all, defScope s_law_are_all, [], []⟩
def d_law_rows_text : He.DefD := ⟨("_law_rows_text", none), "_law_rows_text", "_law_rows_text", defArgs s_law_rows_text, defBody s_law_rows_text, defScope s_law_rows_text, [], []⟩
def d_law_all_bent : He.DefD := ⟨("_law_all_bent", none), "_law_all_bent", "_law_all_bent", defArgs s_law_all_bent, defBody s_law_all_bent, defScope s_law_all_bent, [], []⟩
def d_law_all_looked : He.DefD := ⟨("_law_all_looked", none), "_law_all_looked", "_law_all_looked", defArgs s_law_all_looked, defBody s_law_all_looked, defScope s_law_all_looked, [], []⟩
def d_law_told : He.DefD := ⟨("_law_told", none), "_law_told", "_law_told", defArgs s_law_told, defBody s_law_told, defScope s_law_told, [], []⟩
def d_law : He.DefD := ⟨("law", none), "law", "law", defArgs s_law, defBody s_law, defScope s_law, [], []⟩
def dm_init : He.DefD := ⟨("Desk", some "__init__"), "__init__", "Desk.__init__", defArgs m_init, defBody m_init, defScope m_init, [], []⟩
def dm_say : He.DefD := ⟨("Desk", some "say"), "say", "Desk.say", defArgs m_say, defBody m_say, defScope m_say, [], []⟩
def dm_thing : He.DefD := ⟨("Desk", some "thing"), "thing", "Desk.thing", defArgs m_thing, defBody m_thing, defScope m_thing, [], []⟩
def dm_asked : He.DefD := ⟨("Desk", some "asked"), "asked", "Desk.asked", defArgs m_asked, defBody m_asked, defScope m_asked, [], []⟩
def dm_of_numbers : He.DefD := ⟨("Desk", some "of_numbers"), "of_numbers", "Desk.of_numbers", defArgs m_of_numbers, defBody m_of_numbers, defScope m_of_numbers, [], []⟩
def dm_looked : He.DefD := ⟨("Desk", some "looked"), "looked", "Desk.looked", defArgs m_looked, defBody m_looked, defScope m_looked, [], []⟩
def fn0 : List He.DefD := [d_trimmed, d_over, d_value, d_divisors, d_parted, d_common, d_power_by, d_less_one, d_root_polys, d_root_poly, d_is_whole, d_why_none, d_first_primes, d_is_first, d_order_is, d_prime_paper, d_is_prime_row, d_shows_prime, d_roots_show, d_is_first_row]
def fn1 : List He.DefD := [d_shows_firsts, d_is_left, d_must, d_read_count, d_read_number, d_show_paper, d_parts_in, d_read_paper_in, d_read_paper, d_show_rows, d_read_row, d_read_rows, d_parts_of, d_from_to, d_yes_or_no, d_read_rest, d_told_firsts, d_law_mix, d_law_common, d_law_over]
def fn2 : List He.DefD := [d_law_root_poly, d_law_prime, d_law_power, d_law_proves, d_law_paper_text, d_law_parted, d_law_made, d_law_bent, d_law_prime_looked, d_law_worth, d_law_is_first, d_law_are_all, d_law_rows_text, d_law_all_bent, d_law_all_looked, d_law_told, d_law, dm_init, dm_say, dm_thing]
def fn3 : List He.DefD := [dm_asked, dm_of_numbers, dm_looked]
def fn : List He.DefD := fn0 ++ fn1 ++ fn2 ++ fn3
def fa0 : List He.Fa := [.glo "trimmed", .glo "over", .glo "value", .glo "divisors", .glo "parted", .glo "common", .glo "power_by", .glo "less_one", .glo "root_polys", .glo "root_poly", .glo "is_whole", .glo "why_none", .glo "first_primes", .glo "is_first", .glo "order_is", .glo "prime_paper", .glo "is_prime_row", .glo "shows_prime", .glo "roots_show", .glo "is_first_row"]
def fa1 : List He.Fa := [.glo "shows_firsts", .glo "is_left", .glo "must", .glo "read_count", .glo "read_number", .glo "show_paper", .glo "parts_in", .glo "read_paper_in", .glo "read_paper", .glo "show_rows", .glo "read_row", .glo "read_rows", .glo "parts_of", .glo "from_to", .glo "yes_or_no", .glo "read_rest", .glo "told_firsts", .glo "_law_mix", .glo "_law_common", .glo "_law_over"]
def fa2 : List He.Fa := [.glo "_law_root_poly", .glo "_law_prime", .glo "_law_power", .glo "_law_proves", .glo "_law_paper_text", .glo "_law_parted", .glo "_law_made", .glo "_law_bent", .glo "_law_prime_looked", .glo "_law_worth", .glo "_law_is_first", .glo "_law_are_all", .glo "_law_rows_text", .glo "_law_all_bent", .glo "_law_all_looked", .glo "_law_told", .glo "law", .glo "Desk", .glo "FORMS", .free "len"]
def fa3 : List He.Fa := [.free "max", .free "list", .free "reversed", .free "range", .free "enumerate", .free "zip", .free "all", .free "any", .free "isinstance", .free "str", .free "int", .free "min", .free "sorted", .free "tuple", .free "bool", .int "MOST_FIGURES" 60, .int "DEEPEST" 12, .int "GREATEST_PRIME" 1000000, .cls "Desk", .mkr "Desk"]
def fa4 : List He.Fa := [.meth "Desk" "__init__", .meth "Desk" "say", .meth "Desk" "thing", .meth "Desk" "asked", .meth "Desk" "of_numbers", .meth "Desk" "looked", .noat "Desk" "n", .noat "Desk" "sums", .noat "Desk" "behind"]
def fa : List He.Fa := fa0 ++ fa1 ++ fa2 ++ fa3 ++ fa4
def formKeys : List PySem.Str := [("wheel" : PySem.Str), ("spread" : PySem.Str), ("sum" : PySem.Str), ("plus" : PySem.Str), ("times" : PySem.Str), ("turn" : PySem.Str), ("lead" : PySem.Str), ("rest" : PySem.Str), ("drop" : PySem.Str), ("back" : PySem.Str), ("size" : PySem.Str), ("names" : PySem.Str), ("ground" : PySem.Str), ("show" : PySem.Str), ("nought" : PySem.Str), ("told" : PySem.Str), ("same" : PySem.Str), ("trace" : PySem.Str), ("norm" : PySem.Str), ("keepers" : PySem.Str), ("round" : PySem.Str), ("least" : PySem.Str), ("poly" : PySem.Str), ("cosine" : PySem.Str), ("root" : PySem.Str), ("order" : PySem.Str), ("firsts" : PySem.Str), ("paper" : PySem.Str), ("shows" : PySem.Str), ("makes" : PySem.Str), ("cosines" : PySem.Str), ("prime" : PySem.Str), ("all" : PySem.Str)]
def formVals : List (PySem.Str × He.Dv) := [(("prime" : PySem.Str), .str "hr"), (("all" : PySem.Str), .str "hhr"), (("firsts" : PySem.Str), .str "hh"), (("paper" : PySem.Str), .str "h"), (("size" : PySem.Str), .str "")]
abbrev ts : List He.Tab := [(fun K => He.ga K "FORMS", formKeys)]
abbrev R : PySem.W.OpenRow := PySem.W.OpenLaw.row PySem.Challenge.rw_rootwheel_k88_whole_desk_looks_at_papers
def gn0 : List PySem.Str := [("trimmed" : PySem.Str), ("over" : PySem.Str), ("value" : PySem.Str), ("divisors" : PySem.Str), ("parted" : PySem.Str), ("common" : PySem.Str), ("power_by" : PySem.Str), ("less_one" : PySem.Str), ("root_polys" : PySem.Str), ("root_poly" : PySem.Str), ("is_whole" : PySem.Str), ("why_none" : PySem.Str), ("first_primes" : PySem.Str), ("is_first" : PySem.Str), ("order_is" : PySem.Str), ("prime_paper" : PySem.Str), ("is_prime_row" : PySem.Str), ("shows_prime" : PySem.Str), ("roots_show" : PySem.Str), ("is_first_row" : PySem.Str)]
def gn1 : List PySem.Str := [("shows_firsts" : PySem.Str), ("is_left" : PySem.Str), ("must" : PySem.Str), ("read_count" : PySem.Str), ("read_number" : PySem.Str), ("show_paper" : PySem.Str), ("parts_in" : PySem.Str), ("read_paper_in" : PySem.Str), ("read_paper" : PySem.Str), ("show_rows" : PySem.Str), ("read_row" : PySem.Str), ("read_rows" : PySem.Str), ("parts_of" : PySem.Str), ("from_to" : PySem.Str), ("yes_or_no" : PySem.Str), ("read_rest" : PySem.Str), ("told_firsts" : PySem.Str), ("_law_mix" : PySem.Str), ("_law_common" : PySem.Str), ("_law_over" : PySem.Str)]
def gn2 : List PySem.Str := [("_law_root_poly" : PySem.Str), ("_law_prime" : PySem.Str), ("_law_power" : PySem.Str), ("_law_proves" : PySem.Str), ("_law_paper_text" : PySem.Str), ("_law_parted" : PySem.Str), ("_law_made" : PySem.Str), ("_law_bent" : PySem.Str), ("_law_prime_looked" : PySem.Str), ("_law_worth" : PySem.Str), ("_law_is_first" : PySem.Str), ("_law_are_all" : PySem.Str), ("_law_rows_text" : PySem.Str), ("_law_all_bent" : PySem.Str), ("_law_all_looked" : PySem.Str), ("_law_told" : PySem.Str), ("law" : PySem.Str), ("Desk" : PySem.Str), ("FORMS" : PySem.Str)]
def gn : List PySem.Str := gn0 ++ gn1 ++ gn2
/-- the objects that are looked at: the module's names, what they name, a class's own names and theirs -/
def refs1 (o : Obj) : List Addr := match o.data with
  | .func fd => He.refV fd.code
  | .cls cd => cd.ns :: cd.mro.flatMap He.refV
  | _ => []
def nxt (g : Addr → Option Obj) (f : Obj → List Addr) (as : List Addr) : List Addr := as.flatMap fun a => match g a with
  | some o => f o
  | none => []
def refs2 (o : Obj) : List Addr := match o.data with
  | .dict es _ => es.toList.flatMap fun e => He.refV e.val
  | _ => []
def asR (g : Addr → Option Obj) : List Addr :=
  let a0 := gn.map (He.ga (He.frG g [mainGlobals]))
  let a1 := nxt g refs1 a0
  let a2 := nxt g refs2 a1
  let a3 := nxt g refs1 a2
  mainGlobals :: (a0 ++ a1 ++ a2 ++ a3)
def obsR (g : Addr → Option Obj) : He.AlT × Bool := (He.obsT fa fn ts (He.frG g (asR g)), He.valsB (He.frG g (asR g)) (He.ga (He.frG g (asR g)) "FORMS") formVals)
structure Says (w : World) (K : PySem.W.Frag) : Prop where
  t : He.SaysT fa fn ts w K
  v : He.valsB K (He.ga K "FORMS") formVals = true
def hk : PySem.W.Hook where
  α := He.AlT × Bool
  obs := fun s => obsR s.heap.get?
  val := fun w => (He.valT fn ts w, true)
  says := fun w h => ∃ K : PySem.W.Frag, K.In h ∧ Says w K
  of := fun _ _ e => ⟨_, He.frG_in, ⟨congrArg (fun z : He.AlT × Bool => z.1) e, congrArg (fun z : He.AlT × Bool => z.2) e⟩⟩
  keeps := fun _ _ _ ⟨K, hK, c⟩ k => ⟨K, PySem.W.Frag.In.keeps hK k, c⟩
def ob (s : PySem.W.SharedT) : He.AlT × Bool := obsR (HandSHeadRun.getT s)
theorem ob_eq (s : PySem.W.SharedT) : ob s = hk.obs s.abs := by
  have e : HandSHeadRun.getT s = s.abs.heap.get? := funext (HandSHeadRun.getT_eq s)
  show obsR (HandSHeadRun.getT s) = obsR s.abs.heap.get?
  rw [e]
def ln0 : List PySem.Str := [("WheelError" : PySem.Str), ("NoOrder" : PySem.Str), ("NoPart" : PySem.Str), ("NoPrime" : PySem.Str), ("NoFold" : PySem.Str), ("NoCosine" : PySem.Str), ("NoText" : PySem.Str), ("NoRow" : PySem.Str), ("NoName" : PySem.Str), ("NoSize" : PySem.Str), ("NoUnit" : PySem.Str), ("NoDeed" : PySem.Str), ("trimmed" : PySem.Str), ("plus" : PySem.Str), ("minus" : PySem.Str), ("times" : PySem.Str), ("over" : PySem.Str), ("value" : PySem.Str), ("divisors" : PySem.Str), ("parted" : PySem.Str), ("common" : PySem.Str), ("units" : PySem.Str), ("order" : PySem.Str), ("raised" : PySem.Str), ("power_by" : PySem.Str), ("less_one" : PySem.Str), ("root_polys" : PySem.Str), ("root_poly" : PySem.Str), ("is_whole" : PySem.Str), ("is_poly" : PySem.Str)]
def ln1 : List PySem.Str := [("sum_plus" : PySem.Str), ("sum_times" : PySem.Str), ("turned" : PySem.Str), ("spread" : PySem.Str), ("is_ground" : PySem.Str), ("ground" : PySem.Str), ("come_to" : PySem.Str), ("grounded" : PySem.Str), ("nought" : PySem.Str), ("same" : PySem.Str), ("is_sum" : PySem.Str), ("is_wheel_row" : PySem.Str), ("are_wheels" : PySem.Str), ("shows_nought" : PySem.Str), ("shows_not" : PySem.Str), ("doubled" : PySem.Str), ("laid_in" : PySem.Str), ("folded" : PySem.Str), ("cosine_polys" : PySem.Str), ("cosine_poly" : PySem.Str), ("as_sum" : PySem.Str), ("by_cosine" : PySem.Str), ("shows_cosine" : PySem.Str), ("why_none" : PySem.Str), ("first_primes" : PySem.Str), ("is_first" : PySem.Str), ("order_is" : PySem.Str), ("prime_paper" : PySem.Str), ("is_prime_row" : PySem.Str), ("shows_prime" : PySem.Str)]
def ln2 : List PySem.Str := [("roots_show" : PySem.Str), ("is_first_row" : PySem.Str), ("shows_firsts" : PySem.Str), ("is_left" : PySem.Str), ("led" : PySem.Str), ("keepers" : PySem.Str), ("round_of" : PySem.Str), ("trace" : PySem.Str), ("one_of" : PySem.Str), ("norm" : PySem.Str), ("stepped" : PySem.Str), ("lies_on" : PySem.Str), ("least_wheel" : PySem.Str), ("least_poly" : PySem.Str), ("is_least_poly" : PySem.Str), ("MOST_FIGURES" : PySem.Str), ("MOST_PLACE" : PySem.Str), ("DEEPEST" : PySem.Str), ("must" : PySem.Str), ("read_count" : PySem.Str), ("read_number" : PySem.Str), ("one_term" : PySem.Str), ("all_terms" : PySem.Str), ("show_poly" : PySem.Str), ("show_sum" : PySem.Str), ("read_term" : PySem.Str), ("read_terms" : PySem.Str), ("by_places" : PySem.Str), ("read_poly" : PySem.Str), ("read_sum" : PySem.Str)]
def ln3 : List PySem.Str := [("show_wheels" : PySem.Str), ("read_wheel" : PySem.Str), ("read_wheels" : PySem.Str), ("show_told" : PySem.Str), ("read_told" : PySem.Str), ("show_paper" : PySem.Str), ("parts_in" : PySem.Str), ("read_paper_in" : PySem.Str), ("read_paper" : PySem.Str), ("show_rows" : PySem.Str), ("read_row" : PySem.Str), ("read_rows" : PySem.Str), ("LETTERS" : PySem.Str), ("GREATEST" : PySem.Str), ("GREATEST_PRIME" : PySem.Str), ("FORMS" : PySem.Str), ("parts_of" : PySem.Str), ("is_name" : PySem.Str), ("from_to" : PySem.Str), ("yes_or_no" : PySem.Str), ("in_a_row" : PySem.Str), ("named" : PySem.Str), ("read_rest" : PySem.Str), ("told_firsts" : PySem.Str), ("Desk" : PySem.Str), ("_law_cell_at" : PySem.Str), ("_law_mix" : PySem.Str), ("_law_common" : PySem.Str), ("_law_over" : PySem.Str), ("_law_root_poly" : PySem.Str)]
def ln4 : List PySem.Str := [("_law_prime" : PySem.Str), ("_law_power" : PySem.Str), ("_law_proves" : PySem.Str), ("_law_paper_text" : PySem.Str), ("_law_parted" : PySem.Str), ("_law_made" : PySem.Str), ("_law_bent" : PySem.Str), ("_law_prime_looked" : PySem.Str), ("_law_worth" : PySem.Str), ("_law_is_first" : PySem.Str), ("_law_are_all" : PySem.Str), ("_law_rows_text" : PySem.Str), ("_law_all_bent" : PySem.Str), ("_law_all_looked" : PySem.Str), ("_law_told" : PySem.Str)]
def looseN : List PySem.Str := ln0 ++ ln1 ++ ln2 ++ ln3 ++ ln4
abbrev qv : Program := PySem.W.view R.prog [146]
theorem runF (w : World) : HandSHeadRun.RunEq R qv hk ob 9000 looseN (w.withFollow "special-get-raises" false) := by
  intro os
  kernel_rfl
theorem runT (w : World) : HandSHeadRun.RunEq R qv hk ob 9000 looseN (w.withFollow "special-get-raises" true) := by
  intro os
  kernel_rfl
theorem run (w : World) : HandSHeadRun.RunEq R qv hk ob 9000 looseN w := PySem.W.byRow2 "special-get-raises" (P := fun w => HandSHeadRun.RunEq R qv hk ob 9000 looseN w) runF runT w
end RW
-- H1
/-! The head joined to what a law's def is shown to keep. -/
namespace RW
open PySem PySem.W PySem.Spec PySem.Calls PyProof.Rows L2
/-- what is asked of the law's def -/
def Kept (w : World) (K : PySem.W.Frag) (h : Heap) (mg : PySem.Str → Option Value) (f : Addr) : Prop :=
  ∃ (fd : FuncData) (sp : Sp), (∀ (s : Shared) (u : Value), BindsTo s fd ⟨[u], []⟩ [("_law_script", u)]) ∧
    (∀ (H : Hp) (a : Addr) (ns : List Int), ns.length ≤ 63 → SqL K H a (ns.map V.int) → sp [.ref a] H (fun v _ => v = .bl true) fun _ _ _ => False) ∧
    ∀ base : Heap, K.In base → base.Ns mainGlobals mg → FnOk PySem.Challenge.rw_rootwheel_k88_whole_desk_looks_at_papers.prog w K mg base CX0 61 f fd ["_law_script"] sp
theorem join (F : ∀ (w : World) (K : PySem.W.Frag) (h : Heap) (mg : PySem.Str → Option Value) (f : Addr), K.In h → h.Ns mainGlobals mg → mg ("law" : PySem.Str) = some (.ref f) → Says w K → Kept w K h mg f) : PySem.Challenge.rw_rootwheel_k88_whole_desk_looks_at_papers.Holds := by
  w_on; o_law
  refine HandSHeadRun.head_any (r := OpenLaw.row PySem.Challenge.rw_rootwheel_k88_whole_desk_looks_at_papers) (q := view (OpenLaw.row PySem.Challenge.rw_rootwheel_k88_whole_desk_looks_at_papers).prog [146]) (H := RW.hk) (ob := RW.ob) (M := 9000) (loose := RW.looseN) (d := HandSHeadRun.topDef (OpenLaw.row PySem.Challenge.rw_rootwheel_k88_whole_desk_looks_at_papers).prog 146) (kwd := []) RW.ob_eq
    (by kernel_rfl) (fun s => by kernel_rfl) RW.run (by kernel_rfl) (by kernel_rfl) (by kernel_rfl) (by rfl) (by first | assumption | decide +kernel) (by decide +kernel) ⟨rfl, rfl, rfl, rfl, rfl, by decide +kernel⟩ ?hw ?hc
  case hw => w_witness2
  case hc =>
    refine L2.walk_ofE (l := PySem.Challenge.rw_rootwheel_k88_whole_desk_looks_at_papers) (n := 63) (k := 61) (x := "_law_script") (CX := L2.CX0) rfl (by decide) (by kernel_rfl) ⟨rfl, by decide, by decide⟩ ?F (fun _ _ _ _ z => z)
    intro w mg fa h Y G hmg0
    obtain ⟨K, KX, c⟩ := Y
    have hmg : mg ("law" : PySem.Str) = some (.ref fa) := by
      have e : (HandSHeadRun.topDef (OpenLaw.row PySem.Challenge.rw_rootwheel_k88_whole_desk_looks_at_papers).prog 146).name = ("law" : PySem.Str) := by kernel_rfl
      rw [← e]
      exact hmg0
    obtain ⟨fd, sp, hb, hS, hF⟩ := F w K h mg fa KX G hmg c
    exact ⟨K, fd, sp, KX, hb, fun H a ns hl _ hq => hS H a ns hl hq, hF⟩
end RW
-- DL0
/-! The data layer: judgements that speak of data alone, over the hand layer. -/
namespace DL
open PySem PySem.Spec PyProof.Rows L2

/-! ### data -/
inductive D where
  | non | bl (b : Bool) | int (i : Int) | str (s : Str) | tup (l : List D) | lst (l : List D) | scr (ns : List Int) | dsk (C : Addr)

mutual
/-- the value stands for the datum, in the heap of what no more changes -/
def IsD (K : PySem.W.Frag) (G : Hp) : D → V → Prop
  | .non, v => v = .non
  | .bl b, v => v = .bl b
  | .int i, v => v = .int i
  | .str s, v => v = .str s
  | .tup ds, v => ∃ a vs, v = .ref a ∧ G a = some (.tup vs) ∧ IsDs K G ds vs
  | .lst ds, v => ∃ a vs, v = .ref a ∧ G a = some (.lst vs) ∧ IsDs K G ds vs
  | .scr ns, v => ∃ a, v = .ref a ∧ SqL K G a (ns.map V.int)
  | .dsk C, v => ∃ a dx s b, v = .ref a ∧ G a = some (.ins C dx [("n", .int 1), ("sums", s), ("behind", b)])
def IsDs (K : PySem.W.Frag) (G : Hp) : List D → List V → Prop
  | [], vs => vs = []
  | d :: ds, vs => ∃ v r, vs = v :: r ∧ IsD K G d v ∧ IsDs K G ds r
end
section
variable {K : PySem.W.Frag} {G G' : Hp}
mutual
theorem IsD.mono (e : Same G G') : ∀ {d : D} {v : V}, IsD K G d v → IsD K G' d v
  | .non, _, h => h
  | .bl _, _, h => h
  | .int _, _, h => h
  | .str _, _, h => h
  | .tup ds, v, h => by
    obtain ⟨a, vs, rfl, h1, h2⟩ := h
    exact ⟨a, vs, rfl, e _ _ h1, IsDs.mono e h2⟩
  | .lst ds, v, h => by
    obtain ⟨a, vs, rfl, h1, h2⟩ := h
    exact ⟨a, vs, rfl, e _ _ h1, IsDs.mono e h2⟩
  | .scr ns, v, h => by
    obtain ⟨a, rfl, h1⟩ := h
    exact ⟨a, rfl, e.seq h1⟩
  | .dsk C, v, h => by
    obtain ⟨a, dx, s, b, rfl, h1⟩ := h
    exact ⟨a, dx, s, b, rfl, e _ _ h1⟩
theorem IsDs.mono (e : Same G G') : ∀ {ds : List D} {vs : List V}, IsDs K G ds vs → IsDs K G' ds vs
  | [], _, h => h
  | d :: ds, vs, h => by
    obtain ⟨v, r, rfl, h1, h2⟩ := h
    exact ⟨v, r, rfl, IsD.mono e h1, IsDs.mono e h2⟩
end
theorem IsDs.nil : IsDs K G [] [] := rfl
theorem IsDs.cons {d : D} {ds : List D} {v : V} {vs : List V} (h : IsD K G d v) (t : IsDs K G ds vs) : IsDs K G (d :: ds) (v :: vs) := ⟨v, vs, rfl, h, t⟩
theorem IsDs.len : ∀ {ds : List D} {vs : List V}, IsDs K G ds vs → vs.length = ds.length
  | [], _, h => by
    cases h
    rfl
  | d :: ds, vs, h => by
    obtain ⟨v, r, rfl, _, h2⟩ := h
    simp [IsDs.len h2]
theorem IsDs.get : ∀ {ds : List D} {vs : List V} {i : Nat} {d : D}, IsDs K G ds vs → ds[i]? = some d → ∃ v, vs[i]? = some v ∧ IsD K G d v
  | [], _, _, _, _, e => by simp at e
  | d :: ds, vs, 0, d', h, e => by
    obtain ⟨v, r, rfl, h1, h2⟩ := h
    simp at e
    subst e
    exact ⟨v, rfl, h1⟩
  | d :: ds, vs, i + 1, d', h, e => by
    obtain ⟨v, r, rfl, h1, h2⟩ := h
    obtain ⟨u, e1, e2⟩ := IsDs.get (i := i) h2 (by simpa using e)
    exact ⟨u, by simpa using e1, e2⟩
theorem IsDs.app : ∀ {ds es : List D} {vs us : List V}, IsDs K G ds vs → IsDs K G es us → IsDs K G (ds ++ es) (vs ++ us)
  | [], _, _, _, h, h' => by
    cases h
    exact h'
  | d :: ds, es, vs, us, h, h' => by
    obtain ⟨v, r, rfl, h1, h2⟩ := h
    exact ⟨v, r ++ us, rfl, h1, IsDs.app h2 h'⟩
theorem IsDs.set : ∀ {ds : List D} {vs : List V} {d : D} {v : V} (i : Nat), IsDs K G ds vs → IsD K G d v → IsDs K G (ds.set i d) (vs.set i v)
  | [], _, _, _, _, h, _ => by
    cases h
    rfl
  | _ :: ds, vs, d, v, 0, h, hd => by
    obtain ⟨u, r, rfl, h1, h2⟩ := h
    exact ⟨v, r, rfl, hd, h2⟩
  | _ :: ds, vs, d, v, i + 1, h, hd => by
    obtain ⟨u, r, rfl, h1, h2⟩ := h
    exact ⟨u, r.set i v, rfl, h1, IsDs.set i h2 hd⟩
theorem IsDs.take : ∀ {ds : List D} {vs : List V} (n : Nat), IsDs K G ds vs → IsDs K G (ds.take n) (vs.take n)
  | _, _, 0, _ => by simp [IsDs]
  | [], _, n + 1, h => by
    cases h
    rfl
  | d :: ds, vs, n + 1, h => by
    obtain ⟨u, r, rfl, h1, h2⟩ := h
    exact ⟨u, r.take n, rfl, h1, IsDs.take n h2⟩
theorem IsDs.drop : ∀ {ds : List D} {vs : List V} (n : Nat), IsDs K G ds vs → IsDs K G (ds.drop n) (vs.drop n)
  | _, _, 0, h => h
  | [], _, n + 1, h => by
    cases h
    rfl
  | d :: ds, vs, n + 1, h => by
    obtain ⟨u, r, rfl, h1, h2⟩ := h
    exact IsDs.drop n h2
theorem IsDs.rev : ∀ {ds : List D} {vs : List V}, IsDs K G ds vs → IsDs K G ds.reverse vs.reverse
  | [], _, h => by
    cases h
    rfl
  | d :: ds, vs, h => by
    obtain ⟨u, r, rfl, h1, h2⟩ := h
    rw [List.reverse_cons, List.reverse_cons]
    exact IsDs.app (IsDs.rev h2) (IsDs.cons h1 IsDs.nil)
theorem IsDs.rep {ds : List D} {vs : List V} (h : IsDs K G ds vs) : ∀ n : Nat, IsDs K G (List.replicate n ds).flatten (List.replicate n vs).flatten
  | 0 => rfl
  | n + 1 => by
    rw [List.replicate_succ, List.replicate_succ, List.flatten_cons, List.flatten_cons]
    exact IsDs.app h (IsDs.rep h n)
theorem IsDs.of_get : ∀ {ds : List D} {vs : List V}, vs.length = ds.length → (∀ (i : Nat) (d : D) (v : V), ds[i]? = some d → vs[i]? = some v → IsD K G d v) → IsDs K G ds vs
  | [], vs, e, _ => List.eq_nil_of_length_eq_zero e
  | d :: ds, [], e, _ => by simp at e
  | d :: ds, v :: vs, e, h => ⟨v, vs, rfl, h 0 d v rfl rfl, IsDs.of_get (by simpa using e) fun i d' v' h1 h2 => h (i + 1) d' v' (by simpa using h1) (by simpa using h2)⟩
theorem isDs_ints {ns : List Int} {vs : List V} (h : IsDs K G (ns.map D.int) vs) : vs = ns.map V.int := by
  induction ns generalizing vs with
  | nil => exact h
  | cons n ns ih =>
    obtain ⟨u, r, rfl, h1, h2⟩ := h
    rw [ih h2]
    cases h1
    rfl
theorem isDs_strs {ns : List Str} {vs : List V} (h : IsDs K G (ns.map D.str) vs) : vs = ns.map V.str := by
  induction ns generalizing vs with
  | nil => exact h
  | cons n ns ih =>
    obtain ⟨u, r, rfl, h1, h2⟩ := h
    rw [ih h2]
    cases h1
    rfl
theorem isDs_bls {ns : List Bool} {vs : List V} (h : IsDs K G (ns.map D.bl) vs) : vs = ns.map V.bl := by
  induction ns generalizing vs with
  | nil => exact h
  | cons n ns ih =>
    obtain ⟨u, r, rfl, h1, h2⟩ := h
    rw [ih h2]
    cases h1
    rfl
theorem ints_isDs : ∀ ns : List Int, IsDs K G (ns.map D.int) (ns.map V.int)
  | [] => rfl
  | n :: ns => ⟨.int n, ns.map V.int, rfl, rfl, ints_isDs ns⟩
theorem strs_isDs : ∀ ns : List Str, IsDs K G (ns.map D.str) (ns.map V.str)
  | [] => rfl
  | n :: ns => ⟨.str n, ns.map V.str, rfl, rfl, strs_isDs ns⟩
end

/-! ### how heaps grow: G what no more changes, H all -/
structure Grow (G H G2 H2 : Hp) : Prop where
  g : Same G G2
  h : Same H H2
  sub : Same G2 H2
  fr : ∀ a o, G2 a = some o → G a = some o ∨ H a = none
theorem Grow.refl {G H : Hp} (s : Same G H) : Grow G H G H := ⟨Same.refl _, Same.refl _, s, fun _ _ h => .inl h⟩
theorem Grow.trans {G H G1 H1 G2 H2 : Hp} (a : Grow G H G1 H1) (b : Grow G1 H1 G2 H2) : Grow G H G2 H2 := ⟨a.g.trans b.g, a.h.trans b.h, b.sub, fun p o h => by
  rcases b.fr p o h with z | z
  · exact a.fr p o z
  · exact .inr (a.h.free z)⟩
theorem same_upd {H : Hp} {p : Addr} {o : HO} (h : H p = none) : Same H (upd H p o) := fun b x e => by
  rw [upd_ne (ne_of_none e h)]
  exact e
theorem same_up {G H : Hp} {p : Addr} {o : HO} (s : Same G H) (h : H p = none) : Same (upd G p o) (upd H p o) := fun b x e => by
  by_cases hb : b = p
  · subst hb
    rw [upd_same] at e ⊢
    exact e
  · rw [upd_ne hb] at e ⊢
    exact s b x e
theorem Grow.new {G H : Hp} {p : Addr} {o : HO} (s : Same G H) (h : H p = none) : Grow G H (upd G p o) (upd H p o) := ⟨same_upd (s.free h), same_upd h, same_up s h, fun a u e => by
  by_cases ha : a = p
  · subst ha
    exact .inr h
  · rw [upd_ne ha] at e
    exact .inl e⟩

/-! ### slots -/
inductive Sl where
  | no
  | d (x : D)
  /-- a list of one's own at l, that may still change -/
  | own (l : Addr) (xs : List D)
structure EnvS (K : PySem.W.Frag) (G0 H0 G H : Hp) (σ : L2.St) (ρ : List Sl) : Prop where
  g0 : Same G0 G
  h0 : Same H0 H
  sub : Same G H
  fr : ∀ a o, G a = some o → G0 a = some o ∨ H0 a = none
  len : σ.length = ρ.length
  ok : ∀ (i : Nat) (d : D), ρ[i]? = some (Sl.d d) → ∃ v, σ[i]? = some (some v) ∧ IsD K G d v
  own : ∀ (i : Nat) (l : Addr) (xs : List D), ρ[i]? = some (Sl.own l xs) → σ[i]? = some (some (.ref l)) ∧ H0 l = none ∧ G l = none ∧ ∃ vs, H l = some (.lst vs) ∧ IsDs K G xs vs
  sep : ∀ (i j : Nat) (l : Addr) (xs ys : List D), ρ[i]? = some (Sl.own l xs) → ρ[j]? = some (Sl.own l ys) → i = j
theorem EnvS.grow {K : PySem.W.Frag} {G0 H0 G H G2 H2 : Hp} {σ : L2.St} {ρ : List Sl} (E : EnvS K G0 H0 G H σ ρ) (g : Grow G H G2 H2) : EnvS K G0 H0 G2 H2 σ ρ where
  g0 := E.g0.trans g.g
  h0 := E.h0.trans g.h
  sub := g.sub
  fr := fun a o h => by
    rcases g.fr a o h with z | z
    · exact E.fr a o z
    · exact .inr (E.h0.free z)
  len := E.len
  ok := fun i d h => by
    obtain ⟨v, h1, h2⟩ := E.ok i d h
    exact ⟨v, h1, h2.mono g.g⟩
  own := fun i l xs h => by
    obtain ⟨h1, h2, h3, vs, h4, h5⟩ := E.own i l xs h
    refine ⟨h1, h2, ?_, vs, g.h _ _ h4, h5.mono g.g⟩
    cases q : G2 l with
    | none => rfl
    | some o =>
      rcases g.fr l o q with z | z
      · rw [h3] at z
        cases z
      · rw [h4] at z
        cases z
  sep := E.sep
theorem EnvS.toGrow {K : PySem.W.Frag} {G0 H0 G H : Hp} {σ : L2.St} {ρ : List Sl} (E : EnvS K G0 H0 G H σ ρ) : Grow G0 H0 G H := ⟨E.g0, E.h0, E.sub, E.fr⟩
end DL
-- DL1
/-! The judgements, the rules of expressions. -/
namespace DL
open PySem PySem.Spec PyProof.Rows L2

/-! ### the canonical readings -/
/-- shut, so that nothing looks into it -/
structure Bx (p : Prop) : Prop where
  run : p
section
variable (X : Cx)
def wE (e : Expr) : TE := fun σ H Q => Bx (∀ (pins : List (Addr × Obj)) (s : Shared), Inv X pins σ H s → wpAny (model X.prog X.w) X.A (eval e X.env) (EP X pins σ Q) X.xe s)
def wT (e : Expr) : TT := fun σ H Q => Bx (∀ (pins : List (Addr × Obj)) (s : Shared), Inv X pins σ H s → wpAny (model X.prog X.w) X.A (isTrue e X.env (eval e X.env)) (TP X pins σ Q) X.xe s)
def wW (e : Expr) : TT := fun σ H Q => Bx (∀ (whole : Sem Value) (pins : List (Addr × Obj)) (s : Shared), Inv X pins σ H s → wpAny (model X.prog X.w) X.A (isTrue e X.env whole) (TP X pins σ Q) X.xe s)
def wA (es : List Expr) : TA := fun σ H Q => Bx (∀ (pos : Pos) (pins : List (Addr × Obj)) (s : Shared), Inv X pins σ H s → wpAny (model X.prog X.w) X.A (spliced (backTo pos (starEach es X.env))) (AP X pins σ Q) X.xe s)
def wS (st : Stmt) : TS := fun D σ H => Bx (∀ (pins : List (Addr × Obj)) (s : Shared), Inv X pins σ H s → wpAny (model X.prog X.w) X.A (exec st X.env) (SP X pins D) X.xe s)
def wB (sts : List Stmt) : TS := fun D σ H => Bx (∀ (pins : List (Addr × Obj)) (s : Shared), Inv X pins σ H s → wpAny (model X.prog X.w) X.A (execs sts X.env) (SP X pins D) X.xe s)
def wG (tg : Expr) : TG := fun v σ H Q => Bx (∀ (pins : List (Addr × Obj)) (s : Shared) (u : Value), Inv X pins σ H s → RelV v u → wpAny (model X.prog X.w) X.A (assign tg X.env u) (fun _ s' => ∃ σ' H', Inv X pins σ' H' s' ∧ Q σ' H') X.xe s)
def wGs (ts : List Expr) : TGs := fun vs σ H Q => Bx (∀ (pins : List (Addr × Obj)) (s : Shared) (us : List Value), Inv X pins σ H s → Vals vs us → wpAny (model X.prog X.w) X.A (assignInOrder ((assignEach ts X.env).map (·.2)) us) (fun _ s' => ∃ σ' H', Inv X pins σ' H' s' ∧ Q σ' H') X.xe s)
def wI (tg iter : Expr) : TI := fun σ H R => Bx (∀ (pins : List (Addr × Obj)) (s : Shared), Inv X pins σ H s → wpAny (model X.prog X.w) X.A (eval iter X.env) (fun v s1 => wpAny (model X.prog X.w) X.A (pyIter v) (PIE X pins σ tg R) X.xe s1) X.xe s)
def wTs (ifs : List Expr) : TT := fun σ H Q => Bx (∀ (pins : List (Addr × Obj)) (s : Shared), Inv X pins σ H s →
  wpAny (model X.prog X.w) X.A (forIn ifs true fun c r => if r = true then do let ok ← isTrue c X.env (eval c X.env); pure (ForInStep.yield ok) else pure (ForInStep.yield r)) (TP X pins σ Q) X.xe s)
end
section
variable {X : Cx}
theorem peW {e : Expr} : PE X e (wE X e) := ⟨fun pins s _ _ _ I h => h.run pins s I⟩
theorem ptW {e : Expr} : PT X e (wT X e) := ⟨fun pins s _ _ _ I h => h.run pins s I⟩
theorem pwW {e : Expr} : PW X e (wW X e) := ⟨fun wh pins s _ _ _ I h => h.run wh pins s I⟩
theorem paW {es : List Expr} : PA X es (wA X es) := ⟨fun pos pins s _ _ _ I h => h.run pos pins s I⟩
theorem psW {st : Stmt} : PS X st (wS X st) := ⟨fun pins s _ _ _ I h => h.run pins s I⟩
theorem pbW {sts : List Stmt} : PSs X sts (wB X sts) := ⟨fun pins s _ _ _ I h => h.run pins s I⟩
theorem pgW {tg : Expr} : PG X tg (wG X tg) := ⟨fun pins s _ _ _ u _ I r h => h.run pins s u I r⟩
theorem pgsW {ts : List Expr} : PGs X ts (wGs X ts) := ⟨fun pins s _ _ _ us _ I r h => h.run pins s us I r⟩
theorem piW {tg iter : Expr} : PI X tg iter (wI X tg iter) := ⟨fun pins s _ _ _ I h => h.run pins s I⟩
theorem ptsW {ifs : List Expr} : PTs X ifs (wTs X ifs) := ⟨fun pins s _ _ _ I h => h.run pins s I⟩
variable {σ : L2.St} {H : Hp}
theorem wE.of {e : Expr} {t : TE} (h : PE X e t) {Q : VK} (q : t σ H Q) : wE X e σ H Q := ⟨fun pins s I => h.run pins s σ H Q I q⟩
theorem wT.of {e : Expr} {t : TT} (h : PT X e t) {Q : Bool → Hp → Prop} (q : t σ H Q) : wT X e σ H Q := ⟨fun pins s I => h.run pins s σ H Q I q⟩
theorem wW.of {e : Expr} {t : TT} (h : PW X e t) {Q : Bool → Hp → Prop} (q : t σ H Q) : wW X e σ H Q := ⟨fun wh pins s I => h.run wh pins s σ H Q I q⟩
theorem wA.of {es : List Expr} {t : TA} (h : PA X es t) {Q : List V → Hp → Prop} (q : t σ H Q) : wA X es σ H Q := ⟨fun pos pins s I => h.run pos pins s σ H Q I q⟩
theorem wS.of {st : Stmt} {t : TS} (h : PS X st t) {D : Ends} (q : t D σ H) : wS X st D σ H := ⟨fun pins s I => h.run pins s σ H D I q⟩
theorem wB.of {sts : List Stmt} {t : TS} (h : PSs X sts t) {D : Ends} (q : t D σ H) : wB X sts D σ H := ⟨fun pins s I => h.run pins s σ H D I q⟩
theorem wG.of {tg : Expr} {t : TG} (h : PG X tg t) {v : V} {Q : L2.St → Hp → Prop} (q : t v σ H Q) : wG X tg v σ H Q := ⟨fun pins s u I r => h.run pins s σ H v u Q I r q⟩
theorem wGs.of {ts : List Expr} {t : TGs} (h : PGs X ts t) {vs : List V} {Q : L2.St → Hp → Prop} (q : t vs σ H Q) : wGs X ts vs σ H Q := ⟨fun pins s us I r => h.run pins s σ H vs us Q I r q⟩
theorem wI.of {tg iter : Expr} {t : TI} (h : PI X tg iter t) {R : It → Hp → Prop} (q : t σ H R) : wI X tg iter σ H R := ⟨fun pins s I => h.run pins s σ H R I q⟩
theorem wTs.of {ifs : List Expr} {t : TT} (h : PTs X ifs t) {Q : Bool → Hp → Prop} (q : t σ H Q) : wTs X ifs σ H Q := ⟨fun pins s I => h.run pins s σ H Q I q⟩
end

/-! ### the judgements -/
/-- in the slots ρ the expression gives the datum d -/
def JD (X : Cx) (ρ : List Sl) (e : Expr) (d : D) : Prop := ∀ (G0 H0 G H : Hp) (σ : L2.St), EnvS X.K G0 H0 G H σ ρ → ∀ Q : VK, (∀ v G2 H2, Grow G H G2 H2 → IsD X.K G2 d v → Q v H2) → wE X e σ H Q
def JT (X : Cx) (ρ : List Sl) (e : Expr) (b : Bool) : Prop := ∀ (G0 H0 G H : Hp) (σ : L2.St), EnvS X.K G0 H0 G H σ ρ → ∀ Q : Bool → Hp → Prop, (∀ G2 H2, Grow G H G2 H2 → Q b H2) → wT X e σ H Q
def JW (X : Cx) (ρ : List Sl) (e : Expr) (b : Bool) : Prop := ∀ (G0 H0 G H : Hp) (σ : L2.St), EnvS X.K G0 H0 G H σ ρ → ∀ Q : Bool → Hp → Prop, (∀ G2 H2, Grow G H G2 H2 → Q b H2) → wW X e σ H Q
def JA (X : Cx) (ρ : List Sl) (es : List Expr) (ds : List D) : Prop := ∀ (G0 H0 G H : Hp) (σ : L2.St), EnvS X.K G0 H0 G H σ ρ → ∀ Q : List V → Hp → Prop, (∀ vs G2 H2, Grow G H G2 H2 → IsDs X.K G2 ds vs → Q vs H2) → wA X es σ H Q
def JTs (X : Cx) (ρ : List Sl) (ifs : List Expr) (b : Bool) : Prop := ∀ (G0 H0 G H : Hp) (σ : L2.St), EnvS X.K G0 H0 G H σ ρ → ∀ Q : Bool → Hp → Prop, (∀ G2 H2, Grow G H G2 H2 → Q b H2) → wTs X ifs σ H Q

section
variable {X : Cx} {ρ : List Sl} {e a b : Expr} {es rest : List Expr} {d x y : D} {ds : List D} {pos : Pos} {c c2 : Bool}

/-! ### names, constants -/
theorem je_var (i : Nat) {n : Str} {p : Pos} (hρ : ρ[i]? = some (Sl.d d)) (hN : X.N[i]? = some n := by rfl) (hv : Vis X.env.scope n := by first | exact Or.inl rfl | exact Or.inr (Or.inl rfl) | exact Or.inr (Or.inr rfl)) (hd : (n == ("__debug__" : Str)) = false := by decide)
    (hcd : (n == ("__classdict__" : Str)) = false := by decide) : JD X ρ (.Name n p) d := fun G0 H0 G H σ E Q q => by
  obtain ⟨v, h1, h2⟩ := E.ok i d hρ
  exact wE.of (pe_var hN hv hd hcd) ⟨v, h1, q v G H (Grow.refl E.sub) h2⟩
theorem je_int {i : Int} {j p} : JD X ρ (.Constant (.int i) j p) (.int i) := fun G0 H0 G H σ E Q q => wE.of pe_int (q _ G H (Grow.refl E.sub) rfl)
theorem je_bl {i : Bool} {j p} : JD X ρ (.Constant (.bool i) j p) (.bl i) := fun G0 H0 G H σ E Q q => wE.of pe_bl (q _ G H (Grow.refl E.sub) rfl)
theorem je_non {j p} : JD X ρ (.Constant .none j p) .non := fun G0 H0 G H σ E Q q => wE.of pe_non (q _ G H (Grow.refl E.sub) rfl)
theorem je_str {i : Str} {j p} : JD X ρ (.Constant (.str i) j p) (.str i) := fun G0 H0 G H σ E Q q => wE.of pe_str (q _ G H (Grow.refl E.sub) rfl)
theorem je_gint {n : Str} {i : Int} {p} (hm : ∃ t, X.mg n = some (.int i t)) (hg : Gl X n := by rfl) (hd : (n == ("__debug__" : Str)) = false := by decide) : JD X ρ (.Name n p) (.int i) := fun G0 H0 G H σ E Q q => by
  obtain ⟨t, h⟩ := hm
  exact wE.of (pe_glob (v := .int i) hg h ⟨t, rfl⟩ hd) (q _ G H (Grow.refl E.sub) rfl)

/-! ### two parts -/
theorem JD.two {G0 H0 G H : Hp} {σ : L2.St} (ha : JD X ρ a x) (hb : JD X ρ b y) (E : EnvS X.K G0 H0 G H σ ρ) {R : V → V → Hp → Prop}
    (k : ∀ v u G2 H2, Grow G H G2 H2 → IsD X.K G2 x v → IsD X.K G2 y u → R v u H2) : wE X a σ H fun v H1 => wE X b σ H1 fun u H2 => R v u H2 :=
  ha G0 H0 G H σ E _ fun v G1 H1 g1 i1 => hb G0 H0 G1 H1 σ (E.grow g1) _ fun u G2 H2 g2 i2 => k v u G2 H2 (g1.trans g2) (i1.mono g2.g) i2
/-- an operation on data -/
def OpK (X : Cx) (r : R2) (x y d : D) : Prop := ∀ (v u : V) (G H : Hp) (Q : VK), Same G H → IsD X.K G x v → IsD X.K G y u → (∀ z G2 H2, Grow G H G2 H2 → IsD X.K G2 d z → Q z H2) → r v u H Q
theorem je_op {op : Operator} {r : R2} (ho : OpR X (binaryOp op) r) (k : OpK X r x y d) (ha : JD X ρ a x) (hb : JD X ρ b y) : JD X ρ (.BinOp a op b pos) d := fun G0 H0 G H σ E Q q =>
  wE.of (pe_op ho peW peW) (JD.two ha hb E fun v u G2 H2 g i1 i2 => k v u G2 H2 Q g.sub i1 i2 fun z G3 H3 g3 i3 => q z G3 H3 (g.trans g3) i3)
theorem je_cmp {op : CmpOp} {r : R2} (ho : OpR X (compareOp op) r) (k : OpK X r x y (.bl c)) (ha : JD X ρ a x) (hb : JD X ρ b y) (hm : behindInMarks op b = false) : JD X ρ (.Compare a [op] [b] pos) (.bl c) := fun G0 H0 G H σ E Q q =>
  wE.of (pe_cmpR ho peW peW hm) (JD.two ha hb E fun v u G2 H2 g i1 i2 => k v u G2 H2 Q g.sub i1 i2 fun z G3 H3 g3 i3 => q z G3 H3 (g.trans g3) i3)
theorem jt_cmp {op : CmpOp} {r : R2} (ho : OpR X (compareOp op) r) (k : OpK X r x y (.bl c)) (ha : JD X ρ a x) (hb : JD X ρ b y) (hm : behindInMarks op b = false) : JT X ρ (.Compare a [op] [b] pos) c := fun G0 H0 G H σ E Q q =>
  wT.of (pt_cmpR ho peW peW hm) (JD.two ha hb E fun v u G2 H2 g i1 i2 => k v u G2 H2 _ g.sub i1 i2 fun z G3 H3 g3 i3 => ⟨c, i3, q G3 H3 (g.trans g3)⟩)
/-- a test that is a value -/
theorem jt_val (h : JD X ρ e (.bl c)) (he : ∀ whole, isTrue e X.env whole = (do let v ← whole; standAt e.pos; holding [v] (truthy v)) := by intro _; rfl) : JT X ρ e c := fun G0 H0 G H σ E Q q =>
  wT.of (pt_val peW he) (h G0 H0 G H σ E _ fun v G2 H2 g i => ⟨c, i, q G2 H2 g⟩)
theorem jt_not (h : JT X ρ a c) : JT X ρ (.UnaryOp .Not a pos) (!c) := fun G0 H0 G H σ E Q q => wT.of (pt_not ptW) (h G0 H0 G H σ E _ fun G2 H2 g => q G2 H2 g)
theorem jt_w (h : JW X ρ e c) : JT X ρ e c := fun G0 H0 G H σ E Q q => wT.of (PW.pt pwW) (h G0 H0 G H σ E Q q)
theorem jw_and1 (h : JT X ρ a c) : JW X ρ (.BoolOp .And [a] pos) c := fun G0 H0 G H σ E Q q => wW.of (pw_and1 ptW) (h G0 H0 G H σ E Q q)
theorem jw_or1 (h : JT X ρ a c) : JW X ρ (.BoolOp .Or [a] pos) c := fun G0 H0 G H σ E Q q => wW.of (pw_or1 ptW) (h G0 H0 G H σ E Q q)
theorem jw_and (h : JT X ρ a c) (h2 : c = true → JW X ρ (.BoolOp .And (b :: rest) pos) c2) : JW X ρ (.BoolOp .And (a :: b :: rest) pos) (c && c2) := fun G0 H0 G H σ E Q q =>
  wW.of (pw_and ptW pwW) (h G0 H0 G H σ E _ fun G2 H2 g => by
    cases c with
    | true => exact iteT (h2 rfl G0 H0 G2 H2 σ (E.grow g) Q fun G3 H3 g3 => q G3 H3 (g.trans g3))
    | false => exact iteF (q G2 H2 g))
theorem jw_or (h : JT X ρ a c) (h2 : c = false → JW X ρ (.BoolOp .Or (b :: rest) pos) c2) : JW X ρ (.BoolOp .Or (a :: b :: rest) pos) (c || c2) := fun G0 H0 G H σ E Q q =>
  wW.of (pw_or ptW pwW) (h G0 H0 G H σ E _ fun G2 H2 g => by
    cases c with
    | false => exact iteF (h2 rfl G0 H0 G2 H2 σ (E.grow g) Q fun G3 H3 g3 => q G3 H3 (g.trans g3))
    | true => exact iteT (q G2 H2 g))
theorem je_not (h : JD X ρ a (.bl c)) : JD X ρ (.UnaryOp .Not a pos) (.bl (!c)) := fun G0 H0 G H σ E Q q =>
  wE.of (pe_not peW) (h G0 H0 G H σ E _ fun v G2 H2 g i => ⟨c, i, q _ G2 H2 g rfl⟩)
theorem je_one {op} (h : JD X ρ a d) : JD X ρ (.BoolOp op [a] pos) d := fun G0 H0 G H σ E Q q => wE.of (pe_one peW) (h G0 H0 G H σ E Q q)
theorem je_and (h : JD X ρ a (.bl c)) (h2 : c = true → JD X ρ (.BoolOp .And (b :: rest) pos) (.bl c2)) : JD X ρ (.BoolOp .And (a :: b :: rest) pos) (.bl (c && c2)) := fun G0 H0 G H σ E Q q =>
  wE.of (pe_and peW peW) (h G0 H0 G H σ E _ fun v G2 H2 g i => ⟨c, i, by
    cases c with
    | true => exact iteT (h2 rfl G0 H0 G2 H2 σ (E.grow g) Q fun v G3 H3 g3 i3 => q v G3 H3 (g.trans g3) i3)
    | false => exact iteF (q _ G2 H2 g rfl)⟩)
theorem je_or (h : JD X ρ a (.bl c)) (h2 : c = false → JD X ρ (.BoolOp .Or (b :: rest) pos) (.bl c2)) : JD X ρ (.BoolOp .Or (a :: b :: rest) pos) (.bl (c || c2)) := fun G0 H0 G H σ E Q q =>
  wE.of (pe_or peW peW) (h G0 H0 G H σ E _ fun v G2 H2 g i => ⟨c, i, by
    cases c with
    | false => exact iteF (h2 rfl G0 H0 G2 H2 σ (E.grow g) Q fun v G3 H3 g3 i3 => q v G3 H3 (g.trans g3) i3)
    | true => exact iteT (q _ G2 H2 g rfl)⟩)

/-! ### ints -/
theorem k_I {g : Int → Int → Int} {i j : Int} : OpK X (rI0 fun i j => .int (g i j)) (.int i) (.int j) (.int (g i j)) := fun v u G H Q s i1 i2 q => by
  cases i1
  cases i2
  exact ⟨i, j, rfl, rfl, q _ G H (Grow.refl s) rfl⟩
theorem k_IC {C : Int → Int → Prop} {g : Int → Int → Int} {i j : Int} (hc : C i j) : OpK X (rI C fun i j => .int (g i j)) (.int i) (.int j) (.int (g i j)) := fun v u G H Q s i1 i2 q => by
  cases i1
  cases i2
  exact ⟨i, j, rfl, rfl, hc, q _ G H (Grow.refl s) rfl⟩
theorem k_B {g : Int → Int → Bool} {i j : Int} : OpK X (rI0 fun i j => .bl (g i j)) (.int i) (.int j) (.bl (g i j)) := fun v u G H Q s i1 i2 q => by
  cases i1
  cases i2
  exact ⟨i, j, rfl, rfl, q _ G H (Grow.refl s) rfl⟩
theorem je_addI {i j : Int} (ha : JD X ρ a (.int i)) (hb : JD X ρ b (.int j)) : JD X ρ (.BinOp a .Add b pos) (.int (i + j)) := je_op op_add k_I ha hb
theorem je_subI {i j : Int} (ha : JD X ρ a (.int i)) (hb : JD X ρ b (.int j)) : JD X ρ (.BinOp a .Sub b pos) (.int (i - j)) := je_op op_sub k_I ha hb
theorem je_mulI {i j : Int} (ha : JD X ρ a (.int i)) (hb : JD X ρ b (.int j)) (hc : CMul i j) : JD X ρ (.BinOp a .Mult b pos) (.int (i * j)) := je_op op_mul (k_IC hc) ha hb
theorem je_mulW {i j : Int} (ha : JD X ρ a (.int i)) (hb : JD X ρ b (.int j)) (hc : CMulW i j) : JD X ρ (.BinOp a .Mult b pos) (.int (i * j)) := je_op op_mulW (k_IC hc) ha hb
theorem je_divI {i j : Int} (ha : JD X ρ a (.int i)) (hb : JD X ρ b (.int j)) (hc : CDivW i j) : JD X ρ (.BinOp a .FloorDiv b pos) (.int (i / j)) := je_op op_fdivW (k_IC hc) ha hb
theorem je_modI {i j : Int} (ha : JD X ρ a (.int i)) (hb : JD X ρ b (.int j)) (hc : 0 < j) : JD X ρ (.BinOp a .Mod b pos) (.int (i % j)) := je_op op_mod (k_IC (C := fun _ j => 0 < j) hc) ha hb
theorem je_neg {i : Int} (ha : JD X ρ a (.int i)) : JD X ρ (.UnaryOp .USub a pos) (.int (-i)) := fun G0 H0 G H σ E Q q =>
  wE.of (pe_un un_neg peW) (ha G0 H0 G H σ E _ fun v G2 H2 g i1 => by
    cases i1
    exact ⟨i, rfl, q _ G2 H2 g rfl⟩)
theorem jt_lt {i j : Int} (ha : JD X ρ a (.int i)) (hb : JD X ρ b (.int j)) : JT X ρ (.Compare a [.Lt] [b] pos) (decide (i < j)) := jt_cmp op_lt k_B ha hb (nomark _)
theorem jt_le {i j : Int} (ha : JD X ρ a (.int i)) (hb : JD X ρ b (.int j)) : JT X ρ (.Compare a [.LtE] [b] pos) (decide (i ≤ j)) := jt_cmp op_le k_B ha hb (nomark _)
theorem jt_gt {i j : Int} (ha : JD X ρ a (.int i)) (hb : JD X ρ b (.int j)) : JT X ρ (.Compare a [.Gt] [b] pos) (decide (j < i)) := jt_cmp op_gt k_B ha hb (nomark _)
theorem jt_ge {i j : Int} (ha : JD X ρ a (.int i)) (hb : JD X ρ b (.int j)) : JT X ρ (.Compare a [.GtE] [b] pos) (decide (j ≤ i)) := jt_cmp op_ge k_B ha hb (nomark _)
theorem je_lt {i j : Int} (ha : JD X ρ a (.int i)) (hb : JD X ρ b (.int j)) : JD X ρ (.Compare a [.Lt] [b] pos) (.bl (decide (i < j))) := je_cmp op_lt k_B ha hb (nomark _)
theorem je_le {i j : Int} (ha : JD X ρ a (.int i)) (hb : JD X ρ b (.int j)) : JD X ρ (.Compare a [.LtE] [b] pos) (.bl (decide (i ≤ j))) := je_cmp op_le k_B ha hb (nomark _)
theorem je_gt {i j : Int} (ha : JD X ρ a (.int i)) (hb : JD X ρ b (.int j)) : JD X ρ (.Compare a [.Gt] [b] pos) (.bl (decide (j < i))) := je_cmp op_gt k_B ha hb (nomark _)
theorem je_ge {i j : Int} (ha : JD X ρ a (.int i)) (hb : JD X ρ b (.int j)) : JD X ρ (.Compare a [.GtE] [b] pos) (.bl (decide (j ≤ i))) := je_cmp op_ge k_B ha hb (nomark _)
theorem k_eqI {i j : Int} : OpK X rEq (.int i) (.int j) (.bl (decide (i = j))) := fun v u G H Q s i1 i2 q => by
  cases i1
  cases i2
  refine ⟨rfl, q _ G H (Grow.refl s) ?_⟩
  show V.bl _ = V.bl _
  by_cases h : i = j
  · rw [decide_eq_true h, decide_eq_true (congrArg V.int h)]
  · rw [decide_eq_false h, decide_eq_false (fun z => h (V.int.inj z))]
theorem k_neI {i j : Int} : OpK X rNe (.int i) (.int j) (.bl (!decide (i = j))) := fun v u G H Q s i1 i2 q => by
  cases i1
  cases i2
  refine ⟨rfl, q _ G H (Grow.refl s) ?_⟩
  show V.bl _ = V.bl _
  by_cases h : i = j
  · rw [decide_eq_true h, decide_eq_true (congrArg V.int h)]
  · rw [decide_eq_false h, decide_eq_false (fun z => h (V.int.inj z))]
theorem k_eqS {i j : Str} : OpK X rEq (.str i) (.str j) (.bl (decide (i = j))) := fun v u G H Q s i1 i2 q => by
  cases i1
  cases i2
  refine ⟨rfl, q _ G H (Grow.refl s) ?_⟩
  show V.bl _ = V.bl _
  by_cases h : i = j
  · rw [decide_eq_true h, decide_eq_true (congrArg V.str h)]
  · rw [decide_eq_false h, decide_eq_false (fun z => h (V.str.inj z))]
theorem k_neS {i j : Str} : OpK X rNe (.str i) (.str j) (.bl (!decide (i = j))) := fun v u G H Q s i1 i2 q => by
  cases i1
  cases i2
  refine ⟨rfl, q _ G H (Grow.refl s) ?_⟩
  show V.bl _ = V.bl _
  by_cases h : i = j
  · rw [decide_eq_true h, decide_eq_true (congrArg V.str h)]
  · rw [decide_eq_false h, decide_eq_false (fun z => h (V.str.inj z))]
theorem k_eqB {i j : Bool} : OpK X rEq (.bl i) (.bl j) (.bl (decide (i = j))) := fun v u G H Q s i1 i2 q => by
  cases i1
  cases i2
  refine ⟨rfl, q _ G H (Grow.refl s) ?_⟩
  show V.bl _ = V.bl _
  by_cases h : i = j
  · rw [decide_eq_true h, decide_eq_true (congrArg V.bl h)]
  · rw [decide_eq_false h, decide_eq_false (fun z => h (V.bl.inj z))]
theorem jt_eqI {i j : Int} (ha : JD X ρ a (.int i)) (hb : JD X ρ b (.int j)) : JT X ρ (.Compare a [.Eq] [b] pos) (decide (i = j)) := jt_cmp op_eq k_eqI ha hb (nomark _)
theorem jt_neI {i j : Int} (ha : JD X ρ a (.int i)) (hb : JD X ρ b (.int j)) : JT X ρ (.Compare a [.NotEq] [b] pos) (!decide (i = j)) := jt_cmp op_ne k_neI ha hb (nomark _)
theorem jt_eqS {i j : Str} (ha : JD X ρ a (.str i)) (hb : JD X ρ b (.str j)) : JT X ρ (.Compare a [.Eq] [b] pos) (decide (i = j)) := jt_cmp op_eq k_eqS ha hb (nomark _)
theorem jt_neS {i j : Str} (ha : JD X ρ a (.str i)) (hb : JD X ρ b (.str j)) : JT X ρ (.Compare a [.NotEq] [b] pos) (!decide (i = j)) := jt_cmp op_ne k_neS ha hb (nomark _)
theorem je_eqI {i j : Int} (ha : JD X ρ a (.int i)) (hb : JD X ρ b (.int j)) : JD X ρ (.Compare a [.Eq] [b] pos) (.bl (decide (i = j))) := je_cmp op_eq k_eqI ha hb (nomark _)
theorem je_neI {i j : Int} (ha : JD X ρ a (.int i)) (hb : JD X ρ b (.int j)) : JD X ρ (.Compare a [.NotEq] [b] pos) (.bl (!decide (i = j))) := je_cmp op_ne k_neI ha hb (nomark _)
theorem je_eqS {i j : Str} (ha : JD X ρ a (.str i)) (hb : JD X ρ b (.str j)) : JD X ρ (.Compare a [.Eq] [b] pos) (.bl (decide (i = j))) := je_cmp op_eq k_eqS ha hb (nomark _)
theorem je_neS {i j : Str} (ha : JD X ρ a (.str i)) (hb : JD X ρ b (.str j)) : JD X ρ (.Compare a [.NotEq] [b] pos) (.bl (!decide (i = j))) := je_cmp op_ne k_neS ha hb (nomark _)
theorem jt_eqB {i j : Bool} (ha : JD X ρ a (.bl i)) (hb : JD X ρ b (.bl j)) : JT X ρ (.Compare a [.Eq] [b] pos) (decide (i = j)) := jt_cmp op_eq k_eqB ha hb (nomark _)
/-- is None, of what is not None -/
def isN : D → Bool
  | .non => true
  | _ => false
theorem isN_v {K : PySem.W.Frag} {G : Hp} : ∀ {d : D} {v : V}, IsD K G d v → decide (v = .non) = isN d
  | .non, _, h => by
    cases h
    rfl
  | .bl _, _, h => by
    cases h
    rfl
  | .int _, _, h => by
    cases h
    rfl
  | .str _, _, h => by
    cases h
    rfl
  | .tup _, _, h => by
    obtain ⟨a, vs, rfl, _⟩ := h
    rfl
  | .lst _, _, h => by
    obtain ⟨a, vs, rfl, _⟩ := h
    rfl
  | .scr _, _, h => by
    obtain ⟨a, rfl, _⟩ := h
    rfl
  | .dsk _, _, h => by
    obtain ⟨a, _, _, _, rfl, _⟩ := h
    rfl
theorem jt_isN (ha : JD X ρ a x) (hb : JD X ρ b .non) : JT X ρ (.Compare a [.Is] [b] pos) (isN x) := jt_cmp op_isN (fun v u G H Q s i1 i2 q => by
  cases i2
  exact ⟨rfl, q _ G H (Grow.refl s) (by
    show V.bl _ = V.bl _
    rw [isN_v i1])⟩) ha hb (nomark _)
end
end DL
-- DL2
/-! The rules of lists, tuples, texts, calls. -/
namespace DL
open PySem PySem.Spec PyProof.Rows L2
theorem sz_of {n : Nat} (h : n ≤ 100000) : n ≤ sizeLine := Nat.le_trans h (by decide)
theorem sz_lt {n : Nat} (h : n < 100000) : n < sizeLine := Nat.lt_of_lt_of_le h (by decide)
section
variable {X : Cx} {ρ : List Sl} {e a b : Expr} {es rest : List Expr} {d x y : D} {ds xs ys : List D} {pos : Pos} {c c2 : Bool}

/-! ### arguments, displays -/
theorem ja_nil : JA X ρ [] [] := fun G0 H0 G H σ E Q q => wA.of pa_nil (q _ G H (Grow.refl E.sub) rfl)
theorem ja_cons (ha : JD X ρ e d) (hr : JA X ρ es ds) (hs : starEach (e :: es) X.env = (false, eval e X.env) :: starEach es X.env := by rfl) : JA X ρ (e :: es) (d :: ds) := fun G0 H0 G H σ E Q q =>
  wA.of (pa_cons peW paW hs) (ha G0 H0 G H σ E _ fun v G1 H1 g1 i1 => hr G0 H0 G1 H1 σ (E.grow g1) _ fun vs G2 H2 g2 i2 => q _ G2 H2 (g1.trans g2) (IsDs.cons (i1.mono g2.g) i2))
theorem je_tup {k : Nat} (h : JA X ρ es ds) (hl : ds.length ≤ sizeLine := by decide) : JD X ρ (.Tuple es k pos) (.tup ds) := fun G0 H0 G H σ E Q q =>
  wE.of (pe_tup paW) (h G0 H0 G H σ E _ fun vs G1 H1 g1 i1 => ⟨by rw [i1.len]; exact hl, fun p np => q _ (upd G1 p (.tup vs)) _ (g1.trans (Grow.new g1.sub np)) ⟨p, vs, rfl, upd_same, i1.mono (same_upd (g1.sub.free np))⟩⟩)
theorem je_lst (h : JA X ρ es ds) (hl : ds.length ≤ sizeLine := by decide) : JD X ρ (.List es pos) (.lst ds) := fun G0 H0 G H σ E Q q =>
  wE.of (pe_lst paW) (h G0 H0 G H σ E _ fun vs G1 H1 g1 i1 => ⟨by rw [i1.len]; exact hl, fun p np => q _ (upd G1 p (.lst vs)) _ (g1.trans (Grow.new g1.sub np)) ⟨p, vs, rfl, upd_same, i1.mono (same_upd (g1.sub.free np))⟩⟩)
/-- a new list of data behind a new address -/
theorem new_lst {G H G1 H1 : Hp} {Q : VK} {d : D} {vs : List V} {p : Addr} (g1 : Grow G H G1 H1) (q : ∀ z G2 H2, Grow G H G2 H2 → IsD X.K G2 (.lst ds) z → Q z H2) (i1 : IsDs X.K G1 ds vs) (np : H1 p = none) : Q (.ref p) (upd H1 p (.lst vs)) :=
  q _ (upd G1 p (.lst vs)) _ (g1.trans (Grow.new g1.sub np)) ⟨p, vs, rfl, upd_same, i1.mono (same_upd (g1.sub.free np))⟩
theorem new_tup {G H G1 H1 : Hp} {Q : VK} {vs : List V} {p : Addr} (g1 : Grow G H G1 H1) (q : ∀ z G2 H2, Grow G H G2 H2 → IsD X.K G2 (.tup ds) z → Q z H2) (i1 : IsDs X.K G1 ds vs) (np : H1 p = none) : Q (.ref p) (upd H1 p (.tup vs)) :=
  q _ (upd G1 p (.tup vs)) _ (g1.trans (Grow.new g1.sub np)) ⟨p, vs, rfl, upd_same, i1.mono (same_upd (g1.sub.free np))⟩

/-! ### + and * of lists, + of texts -/
theorem je_cat (ha : JD X ρ a (.lst xs)) (hb : JD X ρ b (.lst ys)) (hl : xs.length + ys.length ≤ sizeLine) : JD X ρ (.BinOp a .Add b pos) (.lst (xs ++ ys)) := je_op op_cat (fun v u G H Q s i1 i2 q => by
  obtain ⟨p, vs, rfl, h1, h2⟩ := i1
  obtain ⟨p', us, rfl, h3, h4⟩ := i2
  exact ⟨p, p', vs, us, rfl, rfl, s _ _ h1, s _ _ h3, by rw [h2.len, h4.len]; exact hl, fun r nr => new_lst (d := .non) (Grow.refl s) q (h2.app h4) nr⟩) ha hb
theorem je_rep {k : Int} (ha : JD X ρ a (.lst xs)) (hb : JD X ρ b (.int k)) (h0 : -(2 ^ 63) ≤ k) (h1 : k < 2 ^ 63) (hl : xs.length * k.toNat ≤ sizeLine) : JD X ρ (.BinOp a .Mult b pos) (.lst (List.replicate k.toNat xs).flatten) := je_op op_rep (fun v u G H Q s i1 i2 q => by
  obtain ⟨p, vs, rfl, e1, e2⟩ := i1
  cases i2
  exact ⟨p, k, vs, rfl, rfl, s _ _ e1, h0, h1, by rw [e2.len]; exact hl, fun r nr => new_lst (d := .non) (Grow.refl s) q (e2.rep _) nr⟩) ha hb
theorem je_addS {s t : Str} (ha : JD X ρ a (.str s)) (hb : JD X ρ b (.str t)) (hl : s.length + t.length ≤ sizeLine) : JD X ρ (.BinOp a .Add b pos) (.str (s ++ t)) := je_op op_add_str (fun v u G H Q s' i1 i2 q => by
  cases i1
  cases i2
  exact ⟨s, t, rfl, rfl, hl, q _ G H (Grow.refl s') rfl⟩) ha hb

/-! ### subscripts -/
theorem je_ixo {r : R2} (hr : IxR X r) (k : OpK X r x y d) (ha : JD X ρ a x) (hb : JD X ρ b y) (hs : PlainIx b) : JD X ρ (.Subscript a b pos) d := fun G0 H0 G H σ E Q q =>
  wE.of (pe_ix hr peW peW hs) (JD.two ha hb E fun v u G2 H2 g i1 i2 => k v u G2 H2 Q g.sub i1 i2 fun z G3 H3 g3 i3 => q z G3 H3 (g.trans g3) i3)
theorem atI_isD {K : PySem.W.Frag} {G : Hp} {ds : List D} {vs : List V} {i : Int} {d : D} (h : IsDs K G ds vs) (e : atI ds i = some d) : ∃ v, atI vs i = some v ∧ IsD K G d v := by
  unfold atI at e ⊢
  rw [h.len]
  cases q : ixN ds.length i with
  | none =>
    rw [q] at e
    cases e
  | some j =>
    rw [q] at e
    obtain ⟨v, h1, h2⟩ := h.get (i := j) (d := d) e
    exact ⟨v, h1, h2⟩
theorem je_ixL {i : Int} (ha : JD X ρ a (.lst xs)) (hb : JD X ρ b (.int i)) (hi : atI xs i = some d) (hs : PlainIx b := by exact fun _ _ => rfl) : JD X ρ (.Subscript a b pos) d := je_ixo ix_list (fun v u G H Q s i1 i2 q => by
  obtain ⟨p, vs, rfl, h1, h2⟩ := i1
  cases i2
  obtain ⟨z, e1, e2⟩ := atI_isD h2 hi
  exact ⟨p, vs, i, z, rfl, rfl, SqL.of (s _ _ h1), e1, q _ G H (Grow.refl s) e2⟩) ha hb hs
theorem je_ixT {i : Int} (ha : JD X ρ a (.tup xs)) (hb : JD X ρ b (.int i)) (hi : atI xs i = some d) (hs : PlainIx b := by exact fun _ _ => rfl) : JD X ρ (.Subscript a b pos) d := je_ixo ix_tup (fun v u G H Q s i1 i2 q => by
  obtain ⟨p, vs, rfl, h1, h2⟩ := i1
  cases i2
  obtain ⟨z, e1, e2⟩ := atI_isD h2 hi
  exact ⟨p, vs, i, z, rfl, rfl, SqT.of (s _ _ h1), e1, q _ G H (Grow.refl s) e2⟩) ha hb hs
theorem je_ixS {i : Int} {t : Str} {ch : Nat} (ha : JD X ρ a (.str t)) (hb : JD X ρ b (.int i)) (hl : t.length ≤ sizeLine) (hi : atI t.cps.toList i = some ch) (hs : PlainIx b := by exact fun _ _ => rfl) : JD X ρ (.Subscript a b pos) (.str ⟨#[ch]⟩) := je_ixo ix_str (fun v u G H Q s i1 i2 q => by
  cases i1
  cases i2
  exact ⟨t, i, ch, rfl, rfl, hl, hi, q _ G H (Grow.refl s) rfl⟩) ha hb hs
/-- an own list, read -/
theorem je_ownIx (i : Nat) {l : Addr} {n : Str} {p : Pos} {k : Int} (hρ : ρ[i]? = some (Sl.own l xs)) (hb : JD X ρ b (.int k)) (hi : atI xs k = some d) (hN : X.N[i]? = some n := by rfl) (hs : PlainIx b := by exact fun _ _ => rfl)
    (hv : Vis X.env.scope n := by first | exact Or.inl rfl | exact Or.inr (Or.inl rfl) | exact Or.inr (Or.inr rfl)) (hd : (n == ("__debug__" : Str)) = false := by decide) (hcd : (n == ("__classdict__" : Str)) = false := by decide) : JD X ρ (.Subscript (.Name n p) b pos) d := fun G0 H0 G H σ E Q q => by
  obtain ⟨h1, h2, h3, vs, h4, h5⟩ := E.own i l xs hρ
  refine wE.of (pe_ix ix_list (pe_var hN hv hd hcd) peW hs) ⟨_, h1, hb G0 H0 G H σ E _ fun u G2 H2 g i2 => ?_⟩
  cases i2
  obtain ⟨z, e1, e2⟩ := atI_isD (h5.mono g.g) hi
  exact ⟨l, vs, k, z, rfl, rfl, SqL.of (g.h _ _ h4), e1, q _ G2 H2 g e2⟩

/-! ### slices -/
def JO (X : Cx) (ρ : List Sl) (e : Option Expr) (o : Option Int) : Prop := match e with
  | none => o = none
  | some e => ∃ i, o = some i ∧ JD X ρ e (.int i)
def wO (X : Cx) (e : Option Expr) : TO := match e with
  | none => tNoPart
  | some e => tPart (wE X e)
theorem poW {e : Option Expr} : PO X e (wO X e) := by
  cases e with
  | none => exact po_none
  | some e => exact po_some peW
theorem JO.run {e : Option Expr} {o : Option Int} {G0 H0 G H : Hp} {σ : L2.St} (h : JO X ρ e o) (E : EnvS X.K G0 H0 G H σ ρ) {Q : Option Int → Hp → Prop} (q : ∀ G2 H2, Grow G H G2 H2 → Q o H2) : wO X e σ H Q := by
  cases e with
  | none =>
    cases (show o = none from h)
    exact q G H (Grow.refl E.sub)
  | some e =>
    obtain ⟨i, rfl, hd⟩ := h
    exact hd G0 H0 G H σ E _ fun v G2 H2 g i1 => ⟨i, i1, q G2 H2 g⟩
theorem jo_none : JO X ρ none none := rfl
theorem jo_some {i : Int} (h : JD X ρ e (.int i)) : JO X ρ (some e) (some i) := ⟨i, rfl, h⟩
/-- the slice of a list -/
def cutD (xs : List D) (lo hi : Option Int) : List D := (xs.drop (HT.sIx xs.length 0 lo)).take (HT.sIx xs.length xs.length hi - HT.sIx xs.length 0 lo)
theorem cutD_isDs {K : PySem.W.Frag} {G : Hp} {ds : List D} {vs : List V} (h : IsDs K G ds vs) (lo hi : Option Int) : IsDs K G (cutD ds lo hi) (cutV vs lo hi) := by
  unfold cutD cutV
  rw [h.len]
  exact (h.drop _).take _
variable {lo hi : Option Expr} {l u : Option Int} {p2 : Pos}
theorem je_slL (ha : JD X ρ a (.lst xs)) (h1 : JO X ρ lo l) (h2 : JO X ρ hi u) : JD X ρ (.Subscript a (.Slice lo hi none p2) pos) (.lst (cutD xs l u)) := fun G0 H0 G H σ E Q q =>
  wE.of (pe_slice sl_list peW poW poW) (ha G0 H0 G H σ E _ fun v G1 H1 g1 i1 => h1.run (E.grow g1) fun G2 H2 g2 => h2.run (E.grow (g1.trans g2)) fun G3 H3 g3 => by
    obtain ⟨p, vs, rfl, e1, e2⟩ := i1
    have g := (g1.trans g2).trans g3
    have s : Same G1 G3 := g2.g.trans g3.g
    exact ⟨p, vs, rfl, SqL.of (g.sub _ _ (s _ _ e1)), fun r nr => new_lst (d := .non) g q (cutD_isDs (e2.mono s) l u) nr⟩)
theorem je_slScr {ns : List Int} (ha : JD X ρ a (.scr ns)) (h1 : JO X ρ lo l) (h2 : JO X ρ hi u) : JD X ρ (.Subscript a (.Slice lo hi none p2) pos) (.lst (cutD (ns.map D.int) l u)) := fun G0 H0 G H σ E Q q =>
  wE.of (pe_slice sl_list peW poW poW) (ha G0 H0 G H σ E _ fun v G1 H1 g1 i1 => h1.run (E.grow g1) fun G2 H2 g2 => h2.run (E.grow (g1.trans g2)) fun G3 H3 g3 => by
    obtain ⟨p, rfl, e1⟩ := i1
    have g := (g1.trans g2).trans g3
    have s : Same G1 G3 := g2.g.trans g3.g
    exact ⟨p, ns.map V.int, rfl, (s.trans g.sub).seq e1, fun r nr => new_lst (d := .non) g q (cutD_isDs (ints_isDs ns) l u) nr⟩)
theorem je_slT (ha : JD X ρ a (.tup xs)) (h1 : JO X ρ lo l) (h2 : JO X ρ hi u) (hn : ¬ (HT.sIx xs.length 0 l = 0 ∧ HT.sIx xs.length xs.length u = xs.length)) : JD X ρ (.Subscript a (.Slice lo hi none p2) pos) (.tup (cutD xs l u)) := fun G0 H0 G H σ E Q q =>
  wE.of (pe_slice sl_tup peW poW poW) (ha G0 H0 G H σ E _ fun v G1 H1 g1 i1 => h1.run (E.grow g1) fun G2 H2 g2 => h2.run (E.grow (g1.trans g2)) fun G3 H3 g3 => by
    obtain ⟨p, vs, rfl, e1, e2⟩ := i1
    have g := (g1.trans g2).trans g3
    have s : Same G1 G3 := g2.g.trans g3.g
    exact ⟨p, vs, rfl, SqT.of (g.sub _ _ (s _ _ e1)), by rw [e2.len]; exact hn, fun r nr => new_tup g q (cutD_isDs (e2.mono s) l u) nr⟩)
theorem je_slS {t : Str} (ha : JD X ρ a (.str t)) (h1 : JO X ρ lo l) (h2 : JO X ρ hi u) (hl : t.length ≤ sizeLine) : JD X ρ (.Subscript a (.Slice lo hi none p2) pos) (.str (cutS t l u)) := fun G0 H0 G H σ E Q q =>
  wE.of (pe_slice sl_str peW poW poW) (ha G0 H0 G H σ E _ fun v G1 H1 g1 i1 => h1.run (E.grow g1) fun G2 H2 g2 => h2.run (E.grow (g1.trans g2)) fun G3 H3 g3 => by
    cases i1
    exact ⟨t, rfl, hl, q _ G3 H3 ((g1.trans g2).trans g3) rfl⟩)
theorem je_revL {k : Nat} {p1 p3 p4 : Pos} (ha : JD X ρ a (.lst xs)) : JD X ρ (.Subscript a (.Slice none none (some (.UnaryOp .USub (.Constant (.int 1) k p1) p3)) p4) pos) (.lst xs.reverse) := fun G0 H0 G H σ E Q q =>
  wE.of (pe_revL peW) (ha G0 H0 G H σ E _ fun v G1 H1 g1 i1 => by
    obtain ⟨p, vs, rfl, e1, e2⟩ := i1
    exact ⟨p, vs, rfl, SqL.of (g1.sub _ _ e1), fun r nr => new_lst (d := .non) g1 q e2.rev nr⟩)

/-! ### built-in calls -/
/-- a call on data -/
def CaK (X : Cx) (r : List V → Hp → VK → Prop) (ds : List D) (d : D) : Prop := ∀ (vs : List V) (G H : Hp) (Q : VK), Same G H → IsDs X.K G ds vs → (∀ z G2 H2, Grow G H G2 H2 → IsD X.K G2 d z → Q z H2) → r vs H Q
theorem je_callB {id : String} {r : List V → Hp → VK → Prop} {n : Str} {p : Pos} (hc : CallR X (.builtin id) r) (k : CaK X r ds d) (hm : X.mg n = none) (hv : bootBuiltins n = some (.builtin id)) (ha : JA X ρ (e :: es) ds) (hg : Gl X n := by rfl) (hn : n ≠ "__name__" := by decide) (hdb : (n == ("__debug__" : Str)) = false := by decide)
    (he : starEach (e :: es) X.env = (false, eval e X.env) :: starEach es X.env := by rfl) (hpl : (backTo pos (starEach es X.env)).any (·.1) = false := by rfl) : JD X ρ (.Call (.Name n p) (e :: es) [] pos) d := fun G0 H0 G H σ E Q q =>
  wE.of (pe_callB hc hg hm hv paW hn hdb he hpl) (ha G0 H0 G H σ E _ fun vs G1 H1 g1 i1 => k vs G1 H1 Q g1.sub i1 fun z G2 H2 g2 i2 => q z G2 H2 (g1.trans g2) i2)
theorem je_callT {T : String} {r : List V → Hp → VK → Prop} {n : Str} {p : Pos} (hc : CallR X (.type T) r) (k : CaK X r ds d) (hm : X.mg n = none) (hv : bootBuiltins n = some (.type T)) (ha : JA X ρ (e :: es) ds) (hg : Gl X n := by rfl) (hn : n ≠ "__name__" := by decide) (hdb : (n == ("__debug__" : Str)) = false := by decide)
    (he : starEach (e :: es) X.env = (false, eval e X.env) :: starEach es X.env := by rfl) (hpl : (backTo pos (starEach es X.env)).any (·.1) = false := by rfl) : JD X ρ (.Call (.Name n p) (e :: es) [] pos) d := fun G0 H0 G H σ E Q q =>
  wE.of (pe_callTy hc hg hm hv paW hn hdb he hpl) (ha G0 H0 G H σ E _ fun vs G1 H1 g1 i1 => k vs G1 H1 Q g1.sub i1 fun z G2 H2 g2 i2 => q z G2 H2 (g1.trans g2) i2)
variable {p : Pos}
theorem je_lenL (hm : X.mg "len" = none) (ha : JD X ρ a (.lst xs)) (hg : Gl X "len" := by rfl) (hs : starEach [a] X.env = (false, eval a X.env) :: starEach [] X.env := by rfl) (hpl : (backTo pos (starEach [] X.env)).any (·.1) = false := by rfl) : JD X ρ (.Call (.Name "len" p) [a] [] pos) (.int xs.length) := je_callB call_len_seq (fun vs G H Q s i q => by
  obtain ⟨v, r, rfl, ⟨b, us, rfl, e1, e2⟩, hr⟩ := i
  cases hr
  refine ⟨b, us, rfl, .inl (SqL.of (s _ _ e1)), q _ G H (Grow.refl s) ?_⟩
  rw [e2.len]
  exact rfl) hm PySem.boot_len (ja_cons ha ja_nil hs) hg (he := hs) (hpl := hpl)
theorem je_lenT (hm : X.mg "len" = none) (ha : JD X ρ a (.tup xs)) (hg : Gl X "len" := by rfl) (hs : starEach [a] X.env = (false, eval a X.env) :: starEach [] X.env := by rfl) (hpl : (backTo pos (starEach [] X.env)).any (·.1) = false := by rfl) : JD X ρ (.Call (.Name "len" p) [a] [] pos) (.int xs.length) := je_callB call_len_seq (fun vs G H Q s i q => by
  obtain ⟨v, r, rfl, ⟨b, us, rfl, e1, e2⟩, hr⟩ := i
  cases hr
  refine ⟨b, us, rfl, .inr (SqT.of (s _ _ e1)), q _ G H (Grow.refl s) ?_⟩
  rw [e2.len]
  exact rfl) hm PySem.boot_len (ja_cons ha ja_nil hs) hg (he := hs) (hpl := hpl)
theorem je_lenS {t : Str} (hm : X.mg "len" = none) (ha : JD X ρ a (.str t)) (hl : t.length ≤ sizeLine) (hg : Gl X "len" := by rfl) (hs : starEach [a] X.env = (false, eval a X.env) :: starEach [] X.env := by rfl) (hpl : (backTo pos (starEach [] X.env)).any (·.1) = false := by rfl) : JD X ρ (.Call (.Name "len" p) [a] [] pos) (.int t.length) := je_callB call_len_str (fun vs G H Q s i q => by
  obtain ⟨v, r, rfl, rfl, hr⟩ := i
  cases hr
  exact ⟨t, rfl, hl, q _ G H (Grow.refl s) rfl⟩) hm PySem.boot_len (ja_cons ha ja_nil hs) hg (he := hs) (hpl := hpl)
/-- len of an own list -/
theorem je_ownLen (i : Nat) {l : Addr} {n : Str} {p' : Pos} (hm : X.mg "len" = none) (hρ : ρ[i]? = some (Sl.own l xs)) (hN : X.N[i]? = some n := by rfl) (hv : Vis X.env.scope n := by first | exact Or.inl rfl | exact Or.inr (Or.inl rfl) | exact Or.inr (Or.inr rfl)) (hd : (n == ("__debug__" : Str)) = false := by decide)
    (hcd : (n == ("__classdict__" : Str)) = false := by decide) (hg : Gl X "len" := by rfl) (hs : starEach [.Name n p'] X.env = (false, eval (.Name n p') X.env) :: starEach [] X.env := by rfl) (hpl : (backTo pos (starEach [] X.env)).any (·.1) = false := by rfl) : JD X ρ (.Call (.Name "len" p) [.Name n p'] [] pos) (.int xs.length) := fun G0 H0 G H σ E Q q => by
  obtain ⟨h1, h2, h3, vs, h4, h5⟩ := E.own i l xs hρ
  refine wE.of (pe_callB call_len_seq hg hm PySem.boot_len (pa_cons (pe_var hN hv hd hcd) pa_nil hs) (he := hs) (hpl := hpl)) ⟨_, h1, l, vs, rfl, .inl (SqL.of h4), q _ G H (Grow.refl E.sub) ?_⟩
  rw [h5.len]
  exact rfl
theorem je_strI {i : Int} (hm : X.mg "str" = none) (ha : JD X ρ a (.int i)) (hl : i.natAbs.log2 < 1920) (hg : Gl X "str" := by rfl) (hs : starEach [a] X.env = (false, eval a X.env) :: starEach [] X.env := by rfl) (hpl : (backTo pos (starEach [] X.env)).any (·.1) = false := by rfl) : JD X ρ (.Call (.Name "str" p) [a] [] pos) (.str (toString i)) := je_callT call_str_int (fun vs G H Q s j q => by
  obtain ⟨v, r, rfl, rfl, hr⟩ := j
  cases hr
  exact ⟨i, rfl, hl, q _ G H (Grow.refl s) rfl⟩) hm (by decide +kernel) (ja_cons ha ja_nil hs) hg (he := hs) (hpl := hpl)
theorem je_intB {k : Bool} (hm : X.mg "int" = none) (ha : JD X ρ a (.bl k)) (hg : Gl X "int" := by rfl) (hs : starEach [a] X.env = (false, eval a X.env) :: starEach [] X.env := by rfl) (hpl : (backTo pos (starEach [] X.env)).any (·.1) = false := by rfl) : JD X ρ (.Call (.Name "int" p) [a] [] pos) (.int (if k then 1 else 0)) := je_callT call_int1 (fun vs G H Q s j q => by
  obtain ⟨v, r, rfl, rfl, hr⟩ := j
  cases hr
  exact .inr ⟨k, rfl, q _ G H (Grow.refl s) rfl⟩) hm (by decide +kernel) (ja_cons ha ja_nil hs) hg (he := hs) (hpl := hpl)
theorem je_intS {t : Str} {n : Int} (hm : X.mg "int" = none) (ha : JD X ρ a (.str t)) (hn : PySem.intText? t = some n) (hl : t.length ≤ 640) (hg : Gl X "int" := by rfl) (hs : starEach [a] X.env = (false, eval a X.env) :: starEach [] X.env := by rfl) (hpl : (backTo pos (starEach [] X.env)).any (·.1) = false := by rfl) : JD X ρ (.Call (.Name "int" p) [a] [] pos) (.int n) := je_callT call_int_str (fun vs G H Q s j q => by
  obtain ⟨v, r, rfl, rfl, hr⟩ := j
  cases hr
  exact ⟨t, n, rfl, hn, hl, q _ G H (Grow.refl s) rfl⟩) hm (by decide +kernel) (ja_cons ha ja_nil hs) hg (he := hs) (hpl := hpl)
theorem je_max {i j : Int} (hc : X.calm = true) (hm : X.mg "max" = none) (ha : JD X ρ a (.int i)) (hb : JD X ρ b (.int j)) (hg : Gl X "max" := by rfl) (hs : starEach [a, b] X.env = (false, eval a X.env) :: starEach [b] X.env := by rfl) (hs2 : starEach [b] X.env = (false, eval b X.env) :: starEach [] X.env := by rfl) (hpl : (backTo pos (starEach [b] X.env)).any (·.1) = false := by rfl) : JD X ρ (.Call (.Name "max" p) [a, b] [] pos) (.int (if j > i then j else i)) := je_callB (call_max2 hc) (fun vs G H Q s k q => by
  obtain ⟨v, r, rfl, rfl, v2, r2, rfl, rfl, hr⟩ := k
  cases hr
  exact ⟨i, j, rfl, q _ G H (Grow.refl s) rfl⟩) hm (by decide +kernel) (ja_cons ha (ja_cons hb ja_nil hs2) hs) hg (he := hs) (hpl := hpl)
theorem je_min {i j : Int} (hc : X.calm = true) (hm : X.mg "min" = none) (ha : JD X ρ a (.int i)) (hb : JD X ρ b (.int j)) (hg : Gl X "min" := by rfl) (hs : starEach [a, b] X.env = (false, eval a X.env) :: starEach [b] X.env := by rfl) (hs2 : starEach [b] X.env = (false, eval b X.env) :: starEach [] X.env := by rfl) (hpl : (backTo pos (starEach [b] X.env)).any (·.1) = false := by rfl) : JD X ρ (.Call (.Name "min" p) [a, b] [] pos) (.int (if j < i then j else i)) := je_callB (call_min2 hc) (fun vs G H Q s k q => by
  obtain ⟨v, r, rfl, rfl, v2, r2, rfl, rfl, hr⟩ := k
  cases hr
  exact ⟨i, j, rfl, q _ G H (Grow.refl s) rfl⟩) hm (by decide +kernel) (ja_cons ha (ja_cons hb ja_nil hs2) hs) hg (he := hs) (hpl := hpl)
theorem je_listL (hm : X.mg "list" = none) (ha : JD X ρ a (.lst xs)) (hg : Gl X "list" := by rfl) (hs : starEach [a] X.env = (false, eval a X.env) :: starEach [] X.env := by rfl) (hpl : (backTo pos (starEach [] X.env)).any (·.1) = false := by rfl) : JD X ρ (.Call (.Name "list" p) [a] [] pos) (.lst xs) := je_callT call_list_of (fun vs G H Q s i q => by
  obtain ⟨v, r, rfl, ⟨b, us, rfl, e1, e2⟩, hr⟩ := i
  cases hr
  exact ⟨b, us, rfl, .inl (SqL.of (s _ _ e1)), fun z nz => new_lst (d := .non) (Grow.refl s) q e2 nz⟩) hm (by decide +kernel) (ja_cons ha ja_nil hs) hg (he := hs) (hpl := hpl)
theorem je_all {bs : List Bool} (hc : X.calm = true) (hm : X.mg "all" = none) (ha : JD X ρ a (.lst (bs.map D.bl))) (hg : Gl X "all" := by rfl) (hs : starEach [a] X.env = (false, eval a X.env) :: starEach [] X.env := by rfl) (hpl : (backTo pos (starEach [] X.env)).any (·.1) = false := by rfl) : JD X ρ (.Call (.Name "all" p) [a] [] pos) (.bl (bs.all id)) := je_callB (cr_all hc) (fun vs G H Q s i q => by
  obtain ⟨v, r, rfl, ⟨b, us, rfl, e1, e2⟩, hr⟩ := i
  cases hr
  rw [isDs_bls e2] at e1
  exact ⟨b, bs, rfl, SqL.of (s _ _ e1), q _ G H (Grow.refl s) rfl⟩) hm (by decide +kernel) (ja_cons ha ja_nil hs) hg (he := hs) (hpl := hpl)
theorem je_any {bs : List Bool} (hc : X.calm = true) (hm : X.mg "any" = none) (ha : JD X ρ a (.lst (bs.map D.bl))) (hg : Gl X "any" := by rfl) (hs : starEach [a] X.env = (false, eval a X.env) :: starEach [] X.env := by rfl) (hpl : (backTo pos (starEach [] X.env)).any (·.1) = false := by rfl) : JD X ρ (.Call (.Name "any" p) [a] [] pos) (.bl (bs.any id)) := je_callB (cr_any hc) (fun vs G H Q s i q => by
  obtain ⟨v, r, rfl, ⟨b, us, rfl, e1, e2⟩, hr⟩ := i
  cases hr
  rw [isDs_bls e2] at e1
  exact ⟨b, bs, rfl, SqL.of (s _ _ e1), q _ G H (Grow.refl s) rfl⟩) hm (by decide +kernel) (ja_cons ha ja_nil hs) hg (he := hs) (hpl := hpl)
end
end DL
-- DL3
/-! Own defs, methods, isinstance, texts' methods, in, == of data. -/
namespace DL
open PySem PySem.Spec PyProof.Rows L2

/-! ### defs by a relation on data -/
/-- called with data ds of which R holds with d, it gives d -/
def spR (K : PySem.W.Frag) (n : Nat) (R : List D → D → Prop) : Sp := fun vs H Q _ => ∃ ds d G, ds.length = n ∧ R ds d ∧ Same G H ∧ IsDs K G ds vs ∧ ∀ v G2 H2, Grow G H G2 H2 → IsD K G2 d v → Q v H2
theorem spR_len {K : PySem.W.Frag} {n : Nat} {R : List D → D → Prop} {vs : List V} {H : Hp} {Q : VK} {E : XK} (h : spR K n R vs H Q E) : vs.length = n := by
  obtain ⟨ds, d, G, hl, _, _, hi, _⟩ := h
  rw [hi.len, hl]
/-- the module's name x is a def that keeps R -/
structure Fn (P : Program) (w : World) (K : PySem.W.Frag) (mg : Str → Option Value) (base : Heap) (k : Nat) (x : Str) (n : Nat) (R : List D → D → Prop) : Prop where
  ex : ∃ (f : Addr) (fd : FuncData) (ps : List Str), FnOk P w K mg base CX0 k f fd ps (spR K n R) ∧ mg x = some (.ref f) ∧ PySem.W.keepIn K (.ref f) = true ∧ Binds K fd ps []
/-- a method of the class at C -/
structure Mt (P : Program) (w : World) (K : PySem.W.Frag) (mg : Str → Option Value) (base : Heap) (k : Nat) (C : Addr) (m : Str) (n : Nat) (R : List D → D → Prop) : Prop where
  ex : ∃ (f : Addr) (fd : FuncData) (ps : List Str), Cls K C ∧ Meth K C m f ∧ FnOk P w K mg base CX0 k f fd ps (spR K n R) ∧ Binds K fd ps []
theorem Fn.imp {P : Program} {w : World} {K : PySem.W.Frag} {mg : Str → Option Value} {base : Heap} {k : Nat} {x : Str} {n : Nat} {R R' : List D → D → Prop} (F : Fn P w K mg base k x n R) (h : ∀ ds d, ds.length = n → R' ds d → R ds d) : Fn P w K mg base k x n R' := by
  obtain ⟨f, fd, ps, F1, h1, h2, h3⟩ := F.ex
  exact ⟨f, fd, ps, F1.imp fun vs H Q E ⟨ds, d, G, a, b, c⟩ => ⟨ds, d, G, a, h ds d a b, c⟩, h1, h2, h3⟩
section
variable {X : Cx} {ρ : List Sl} {e a b o : Expr} {es rest : List Expr} {d x y : D} {ds xs ys : List D} {pos p apos : Pos} {c c2 : Bool} {k j : Nat} {R : List D → D → Prop}
theorem je_call {n : Str} {m : Nat} (F : Fn X.prog X.w X.K X.mg X.base k n m R) (hr : Room j X.A) (ha : JA X ρ (e :: es) ds) (hR : R ds d) (hk : k ≤ j := by decide) (hl : ds.length = m := by rfl) (hg : Gl X n := by rfl) (hdb : (n == ("__debug__" : Str)) = false := by decide)
    (he : starEach (e :: es) X.env = (false, eval e X.env) :: starEach es X.env := by rfl) (hpl : (backTo pos (starEach es X.env)).any (·.1) = false := by rfl) : JD X ρ (.Call (.Name n p) (e :: es) [] pos) d := fun G0 H0 G H σ E Q q => by
  obtain ⟨f, fd, ps, F1, hm, kp, hb⟩ := F.ex
  refine wE.of (pe_call F1 (hr.mono hk) hg hm kp hb .nil pass0 paW hdb he hpl) (ha G0 H0 G H σ E _ fun vs G1 H1 g1 i1 => ?_)
  show spR X.K m R (vs ++ []) H1 Q E0
  rw [List.append_nil]
  exact ⟨ds, d, G1, hl, hR, g1.sub, i1, fun v G2 H2 g2 i2 => q v G2 H2 (g1.trans g2) i2⟩
/-- o.m(..), o the desk -/
theorem je_meth {n : Str} {m : Nat} {C : Addr} (F : Mt X.prog X.w X.K X.mg X.base k C n (m + 1) R) (hr : Room j X.A) (ho : JD X ρ o (.dsk C)) (ha : JA X ρ (e :: es) ds) (hR : R (.dsk C :: ds) d) (hk : k ≤ j := by decide) (hl : ds.length = m := by rfl)
    (hn : (([("n", .int 1), ("sums", V.non), ("behind", V.non)] : List (Str × V)).lookup n).isNone = true := by decide) (pl : Sem Bool) (hst : starEach (e :: es) X.env = (false, eval e X.env) :: starEach es X.env := by rfl) (hpl : (backTo pos (starEach es X.env)).any (·.1) = false := by rfl)
    (ht : eval (.Call (.Attribute o n apos) (e :: es) [] pos) X.env = (do
      let ov ← eval o X.env
      standAt apos.atName
      let (f, first) ← holding [ov] (getMethod ov n pl)
      callWith pos f first (backTo pos (starEach (e :: es) X.env)) (backToKw pos (keywordEach [] X.env))) := by rfl) : JD X ρ (.Call (.Attribute o n apos) (e :: es) [] pos) d := fun G0 H0 G H σ E Q q => by
  obtain ⟨f, fd, ps, hc, hm, F1, hb⟩ := F.ex
  refine wE.of (pe_meth (pl := pl) peW hc hm F1 (hr.mono hk) hb .nil pass0 paW hst hpl ht) (ho G0 H0 G H σ E _ fun v G1 H1 g1 i1 => ?_)
  obtain ⟨a, dx, s, b, rfl, h1⟩ := i1
  refine ⟨a, dx, _, rfl, g1.sub _ _ h1, ?_, ha G0 H0 G1 H1 σ (E.grow g1) _ fun vs G2 H2 g2 i2 => ?_⟩
  · have z : ∀ (l : List (Str × V)) (l' : List (Str × V)), l.map (·.1) = l'.map (·.1) → (l.lookup n).isNone = (l'.lookup n).isNone := by
      intro l
      induction l with
      | nil =>
        intro l' e
        cases l' with
        | nil => rfl
        | cons _ _ => simp at e
      | cons q r ih =>
        intro l' e
        cases l' with
        | nil => simp at e
        | cons q' r' =>
          obtain ⟨e1, e2⟩ := List.cons.inj (show q.1 :: r.map (·.1) = q'.1 :: r'.map (·.1) from e)
          obtain ⟨q1, q2⟩ := q
          obtain ⟨q1', q2'⟩ := q'
          have e1 : q1 = q1' := e1
          subst e1
          rw [List.lookup_cons, List.lookup_cons]
          cases n == q1 with
          | true => rfl
          | false => exact ih r' e2
    have w := (z [("n", .int 1), ("sums", s), ("behind", b)] [("n", .int 1), ("sums", V.non), ("behind", V.non)] rfl).trans hn
    exact Option.isNone_iff_eq_none.mp w
  · show spR X.K (m + 1) R (.ref a :: (vs ++ [])) H2 Q E0
    rw [List.append_nil]
    exact ⟨.dsk C :: ds, d, G2, by rw [List.length_cons, hl], hR, g2.sub, ⟨.ref a, vs, rfl, ⟨a, dx, s, b, rfl, g2.g _ _ h1⟩, i2⟩, fun v G3 H3 g3 i3 => q v G3 H3 ((g1.trans g2).trans g3) i3⟩
/-- self.n -/
theorem je_n {C : Addr} (hc : Cls X.K C) (hn : NoAttr X.K C "n") (ho : JD X ρ o (.dsk C)) (hb : attributeBase o "n" X.env (eval o X.env) = eval o X.env := by rfl) : JD X ρ (.Attribute o "n" pos) (.int 1) := fun G0 H0 G H σ E Q q =>
  wE.of (pe_fld peW hb) (ho G0 H0 G H σ E _ fun v G1 H1 g1 i1 => by
    obtain ⟨a, dx, s, b, rfl, h1⟩ := i1
    exact ⟨a, C, dx, _, .int 1, rfl, g1.sub _ _ h1, hc, hn, rfl, q _ G1 H1 g1 rfl⟩)

/-! ### isinstance -/
def tyD : D → String
  | .non => "NoneType"
  | .bl _ => "bool"
  | .int _ => "int"
  | .str _ => "str"
  | .tup _ => "tuple"
  | .lst _ => "list"
  | .scr _ => "list"
  | .dsk _ => ""
def plainD : D → Bool
  | .scr _ => false
  | .dsk _ => false
  | _ => true
theorem tyD_of {K : PySem.W.Frag} {G H : Hp} (s : Same G H) : ∀ {d : D} {v : V}, plainD d = true → IsD K G d v → TyX K H v (.type (tyD d))
  | .non, _, _, h => by
    cases h
    exact .base .non
  | .bl _, _, _, h => by
    cases h
    exact .base (.bl _)
  | .int _, _, _, h => by
    cases h
    exact .base (.int _)
  | .str _, _, _, h => by
    cases h
    exact .base (.str _)
  | .tup _, _, _, h => by
    obtain ⟨a, vs, rfl, h1, _⟩ := h
    exact .base (.tup (s _ _ h1))
  | .lst _, _, _, h => by
    obtain ⟨a, vs, rfl, h1, _⟩ := h
    exact .base (.lst (s _ _ h1))
theorem je_isi {T n : String} {ny : Str} (hm : X.mg "isinstance" = none) (hmT : X.mg ny = none) (hT : bootBuiltins ny = some (.type T)) (ha : JD X ρ a x) (hp : plainD x = true) (hk : kitB (tyD x) T = some c) (hg : Gl X "isinstance" := by rfl) (hgT : Gl X ny := by rfl) (hnT : ny ≠ "__name__" := by decide) (hdT : (ny == ("__debug__" : Str)) = false := by decide)
    {p2 : Pos} (hs : starEach [a, .Name ny p2] X.env = (false, eval a X.env) :: starEach [.Name ny p2] X.env := by rfl) (hs2 : starEach [.Name ny p2] X.env = (false, eval (.Name ny p2) X.env) :: starEach [] X.env := by rfl) (hpl : (backTo pos (starEach [.Name ny p2] X.env)).any (·.1) = false := by rfl) :
    JD X ρ (.Call (.Name "isinstance" p) [a, .Name ny p2] [] pos) (.bl c) := fun G0 H0 G H σ E Q q =>
  wE.of (pe_callB call_isi hg hm (by decide +kernel) (pa_cons peW (pa_cons (pe_bltn (v := .ty T) hgT hmT hT rfl hnT hdT) pa_nil hs2) hs) (he := hs) (hpl := hpl)) (ha G0 H0 G H σ E _ fun v G1 H1 g1 i1 =>
    ⟨v, .ty T, .type (tyD x), .type T, c, rfl, .ty T, tyD_of g1.sub hp i1, kit_ty hk, q _ G1 H1 g1 rfl⟩)

/-! ### texts -/
def MeK (X : Cx) (r : V → List V → Hp → VK → Prop) (x : D) (ds : List D) (d : D) : Prop := ∀ (v : V) (vs : List V) (G H : Hp) (Q : VK), Same G H → IsD X.K G x v → IsDs X.K G ds vs → (∀ z G2 H2, Grow G H G2 H2 → IsD X.K G2 d z → Q z H2) → r v vs H Q
theorem new_strs {G H G1 H1 : Hp} {Q : VK} {ys : List Str} (g1 : Grow G H G1 H1) (q : ∀ z G2 H2, Grow G H G2 H2 → IsD X.K G2 (.lst (ys.map D.str)) z → Q z H2) : rNewStrs ys H1 Q := fun p np => new_lst (d := .non) g1 q (strs_isDs ys) np
theorem je_m1 {id : String} {r : V → List V → Hp → VK → Prop} {n : Str} {t : Str} (slot : Slot "str" n id) (ty : typeOf (.builtin id) = pure (.type "method_descriptor")) (rule : MtR X id r) (k : MeK X r (.str t) [y] d) (ha : JD X ρ o (.str t)) (hb : JD X ρ e y)
    (hs : starEach [e] X.env = [(false, eval e X.env)]) (hbase : attributeBase o n X.env (eval o X.env) = eval o X.env) (hline : (apos.endLine == pos.line) = true) : JD X ρ (.Call (.Attribute o n apos) [e] [] pos) d := fun G0 H0 G H σ E Q q =>
  wE.of (pe_m1 slot ty rule peW peW hs hbase hline) (ha G0 H0 G H σ E _ fun v G1 H1 g1 i1 => ⟨⟨t, i1⟩, hb G0 H0 G1 H1 σ (E.grow g1) _ fun w G2 H2 g2 i2 => k v [w] G2 H2 Q g2.sub (i1.mono g2.g) (IsDs.cons i2 IsDs.nil) fun z G3 H3 g3 i3 => q z G3 H3 ((g1.trans g2).trans g3) i3⟩)
variable {t u : Str}
theorem je_split (ha : JD X ρ o (.str t)) (hb : JD X ρ e (.str u)) (h0 : (u.length == 0) = false) (hl : t.length + 2 ≤ sizeLine) (hs : starEach [e] X.env = [(false, eval e X.env)] := by rfl) (hbase : attributeBase o "split" X.env (eval o X.env) = eval o X.env := by rfl) (hline : (apos.endLine == pos.line) = true := by rfl) :
    JD X ρ (.Call (.Attribute o "split" apos) [e] [] pos) (.lst ((Txt.split t u).map D.str)) := je_m1 F.slot_str_split F.type_str_split mt_split (fun v vs G H Q s i1 i2 q => by
  cases i1
  obtain ⟨w, r, rfl, rfl, hr⟩ := i2
  cases hr
  exact ⟨t, u, rfl, rfl, h0, hl, new_strs (Grow.refl s) q⟩) ha hb hs hbase hline
theorem je_partition (ha : JD X ρ o (.str t)) (hb : JD X ρ e (.str u)) (h0 : (u.length == 0) = false) (hl : t.length ≤ sizeLine) (hs : starEach [e] X.env = [(false, eval e X.env)] := by rfl) (hbase : attributeBase o "partition" X.env (eval o X.env) = eval o X.env := by rfl) (hline : (apos.endLine == pos.line) = true := by rfl) :
    JD X ρ (.Call (.Attribute o "partition" apos) [e] [] pos) (.tup [.str (Txt.partition t u).1, .str (Txt.partition t u).2.1, .str (Txt.partition t u).2.2]) := je_m1 F.slot_str_partition F.type_str_partition mt_partition (fun v vs G H Q s i1 i2 q => by
  cases i1
  obtain ⟨w, r, rfl, rfl, hr⟩ := i2
  cases hr
  exact ⟨t, u, rfl, rfl, h0, hl, fun p np => new_tup (Grow.refl s) q (IsDs.cons rfl (IsDs.cons rfl (IsDs.cons rfl IsDs.nil))) np⟩) ha hb hs hbase hline
theorem je_join {ts : List Str} (ha : JD X ρ o (.str t)) (hb : JD X ρ e (.lst (ts.map D.str))) (hl : (ts.map (·.length)).sum + ts.length * t.length ≤ 16777216) (hs : starEach [e] X.env = [(false, eval e X.env)] := by rfl) (hbase : attributeBase o "join" X.env (eval o X.env) = eval o X.env := by rfl) (hline : (apos.endLine == pos.line) = true := by rfl) :
    JD X ρ (.Call (.Attribute o "join" apos) [e] [] pos) (.str (Txt.join t ts)) := je_m1 F.slot_str_join F.type_str_join mt_join (fun v vs G H Q s i1 i2 q => by
  cases i1
  obtain ⟨w, r, rfl, ⟨b, us, rfl, e1, e2⟩, hr⟩ := i2
  cases hr
  rw [isDs_strs e2] at e1
  exact ⟨t, b, ts, rfl, rfl, .inl (SqL.of (s _ _ e1)), hl, q _ G H (Grow.refl s) rfl⟩) ha hb hs hbase hline
theorem je_startswith (ha : JD X ρ o (.str t)) (hb : JD X ρ e (.str u)) (hs : starEach [e] X.env = [(false, eval e X.env)] := by rfl) (hbase : attributeBase o "startswith" X.env (eval o X.env) = eval o X.env := by rfl) (hline : (apos.endLine == pos.line) = true := by rfl) :
    JD X ρ (.Call (.Attribute o "startswith" apos) [e] [] pos) (.bl (Txt.startswith t u)) := je_m1 F.slot_str_startswith F.type_str_startswith mt_startswith (fun v vs G H Q s i1 i2 q => by
  cases i1
  obtain ⟨w, r, rfl, rfl, hr⟩ := i2
  cases hr
  exact ⟨t, u, rfl, rfl, q _ G H (Grow.refl s) rfl⟩) ha hb hs hbase hline
theorem je_endswith (ha : JD X ρ o (.str t)) (hb : JD X ρ e (.str u)) (hs : starEach [e] X.env = [(false, eval e X.env)] := by rfl) (hbase : attributeBase o "endswith" X.env (eval o X.env) = eval o X.env := by rfl) (hline : (apos.endLine == pos.line) = true := by rfl) :
    JD X ρ (.Call (.Attribute o "endswith" apos) [e] [] pos) (.bl (Txt.endswith t u)) := je_m1 F.slot_str_endswith F.type_str_endswith mt_endswith (fun v vs G H Q s i1 i2 q => by
  cases i1
  obtain ⟨w, r, rfl, rfl, hr⟩ := i2
  cases hr
  exact ⟨t, u, rfl, rfl, q _ G H (Grow.refl s) rfl⟩) ha hb hs hbase hline
/-- t.split(u, k) -/
theorem je_splitMax {e2 : Expr} {kk : Int} {pl : Sem Bool} (ha : JD X ρ o (.str t)) (hb : JD X ρ e (.str u)) (hc : JD X ρ e2 (.int kk)) (h0 : (u.length == 0) = false) (hl : t.length + 2 ≤ sizeLine) (hk1 : -(2 ^ 63) ≤ kk) (hk2 : kk < 2 ^ 63)
    (hs : starEach [e, e2] X.env = (false, eval e X.env) :: starEach [e2] X.env := by rfl) (hs2 : starEach [e2] X.env = (false, eval e2 X.env) :: starEach [] X.env := by rfl)
    (hpe : ∀ {r : V → List V → Hp → VK → Prop}, MtR X "str.split" r → PE X (.Call (.Attribute o "split" apos) [e, e2] [] pos) (tBM X.K "str" r (wE X o) (tCons (wE X e) (tCons (wE X e2) tNil))) := by
      exact fun hm => pe_bm PySem.F.plainAttrs_str PySem.F.slot_str_split PySem.F.type_str_split hm peW (pa_cons peW (pa_cons peW pa_nil))) :
    JD X ρ (.Call (.Attribute o "split" apos) [e, e2] [] pos) (.lst ((Txt.splitMax t u kk).map D.str)) := fun G0 H0 G H σ E Q q =>
  wE.of (hpe mt_splitMax) (ha G0 H0 G H σ E _ fun v G1 H1 g1 i1 => by
    cases i1
    refine ⟨rfl, hb G0 H0 G1 H1 σ (E.grow g1) _ fun w G2 H2 g2 i2 => hc G0 H0 G2 H2 σ ((E.grow g1).grow g2) _ fun z G3 H3 g3 i3 => ?_⟩
    cases i2
    cases i3
    exact ⟨t, u, kk, rfl, rfl, h0, hk1, hk2, hl, new_strs ((g1.trans g2).trans g3) q⟩)

/-! ### in -/
theorem k_inS {ch : Nat} {z : Str} : OpK X (fun x y H Q => ∃ (c : Nat) (z : Str), x = .str ⟨#[c]⟩ ∧ y = .str z ∧ Q (.bl (decide (c ∈ z.cps.toList))) H) (.str ⟨#[ch]⟩) (.str z) (.bl (decide (ch ∈ z.cps.toList))) := fun v u G H Q s i1 i2 q => by
  cases i1
  cases i2
  exact ⟨ch, z, rfl, rfl, q _ G H (Grow.refl s) rfl⟩
theorem je_inSign {ch : Nat} {z : Str} (ha : JD X ρ a (.str ⟨#[ch]⟩)) (hb : JD X ρ b (.str z)) (hm : behindInMarks .In b = false := by rfl) : JD X ρ (.Compare a [.In] [b] pos) (.bl (decide (ch ∈ z.cps.toList))) := je_cmp op_in_sign k_inS ha hb hm
/-- flat data -/
def flatD : D → Bool
  | .non => true
  | .bl _ => true
  | .int _ => true
  | .str _ => true
  | _ => false
def toV : D → V
  | .bl b => .bl b
  | .int i => .int i
  | .str s => .str s
  | _ => .non
theorem toV_of {K : PySem.W.Frag} {G : Hp} : ∀ {d : D} {v : V}, flatD d = true → IsD K G d v → v = toV d ∧ flatV v = true
  | .non, _, _, h => by
    cases h
    exact ⟨rfl, rfl⟩
  | .bl _, _, _, h => by
    cases h
    exact ⟨rfl, rfl⟩
  | .int _, _, _, h => by
    cases h
    exact ⟨rfl, rfl⟩
  | .str _, _, _, h => by
    cases h
    exact ⟨rfl, rfl⟩
theorem toVs_of {K : PySem.W.Frag} {G : Hp} : ∀ {ds : List D} {vs : List V}, ds.all flatD = true → IsDs K G ds vs → vs = ds.map toV ∧ vs.all flatV = true
  | [], _, _, h => by
    cases h
    exact ⟨rfl, rfl⟩
  | d :: ds, vs, f, h => by
    obtain ⟨v, r, rfl, h1, h2⟩ := h
    rw [List.all_cons, Bool.and_eq_true] at f
    obtain ⟨e1, f1⟩ := toV_of f.1 h1
    obtain ⟨e2, f2⟩ := toVs_of f.2 h2
    exact ⟨by rw [e1, e2]; rfl, by rw [List.all_cons, f1, f2]; rfl⟩
def inD (x : D) (xs : List D) : Bool := inV (toV x) (xs.map toV)
theorem k_inL (fx : flatD x = true) (fs : xs.all flatD = true) : OpK X (rIn X.K false) x (.lst xs) (.bl (inD x xs)) := fun v u G H Q s i1 i2 q => by
  obtain ⟨e1, f1⟩ := toV_of fx i1
  obtain ⟨p, vs, rfl, h1, h2⟩ := i2
  obtain ⟨e2, f2⟩ := toVs_of fs h2
  refine ⟨p, vs, rfl, .inl (SqL.of (s _ _ h1)), f1, f2, q _ G H (Grow.refl s) ?_⟩
  rw [e1, e2]
  exact rfl
theorem k_inT (fx : flatD x = true) (fs : xs.all flatD = true) : OpK X (rIn X.K false) x (.tup xs) (.bl (inD x xs)) := fun v u G H Q s i1 i2 q => by
  obtain ⟨e1, f1⟩ := toV_of fx i1
  obtain ⟨p, vs, rfl, h1, h2⟩ := i2
  obtain ⟨e2, f2⟩ := toVs_of fs h2
  refine ⟨p, vs, rfl, .inr (SqT.of (s _ _ h1)), f1, f2, q _ G H (Grow.refl s) ?_⟩
  rw [e1, e2]
  exact rfl
theorem k_ninL (fx : flatD x = true) (fs : xs.all flatD = true) : OpK X (rIn X.K true) x (.lst xs) (.bl (!inD x xs)) := fun v u G H Q s i1 i2 q => by
  obtain ⟨e1, f1⟩ := toV_of fx i1
  obtain ⟨p, vs, rfl, h1, h2⟩ := i2
  obtain ⟨e2, f2⟩ := toVs_of fs h2
  refine ⟨p, vs, rfl, .inl (SqL.of (s _ _ h1)), f1, f2, q _ G H (Grow.refl s) ?_⟩
  rw [e1, e2]
  exact rfl
theorem jt_inL (ha : JD X ρ a x) (hb : JD X ρ b (.lst xs)) (fx : flatD x = true) (fs : xs.all flatD = true) (hm : behindInMarks .In b = false := by rfl) : JT X ρ (.Compare a [.In] [b] pos) (inD x xs) := jt_cmp op_in_seq (k_inL fx fs) ha hb hm
theorem jt_inT (ha : JD X ρ a x) (hb : JD X ρ b (.tup xs)) (fx : flatD x = true) (fs : xs.all flatD = true) (hm : behindInMarks .In b = false := by rfl) : JT X ρ (.Compare a [.In] [b] pos) (inD x xs) := jt_cmp op_in_seq (k_inT fx fs) ha hb hm
theorem jt_ninL (ha : JD X ρ a x) (hb : JD X ρ b (.lst xs)) (fx : flatD x = true) (fs : xs.all flatD = true) (hm : behindInMarks .NotIn b = false := by rfl) : JT X ρ (.Compare a [.NotIn] [b] pos) (!inD x xs) := jt_cmp op_notIn_seq (k_ninL fx fs) ha hb hm

/-! ### == of data -/
mutual
def toPy : D → PyData
  | .non => .none
  | .bl b => .bool b
  | .int i => .int i
  | .str s => .str s
  | .tup l => .tuple (toPys l)
  | .lst l => .list (toPys l)
  | .scr _ => .none
  | .dsk _ => .none
def toPys : List D → List PyData
  | [] => []
  | d :: l => toPy d :: toPys l
end
mutual
def okPy : D → Bool
  | .scr _ => false
  | .dsk _ => false
  | .tup l => okPys l
  | .lst l => okPys l
  | _ => true
def okPys : List D → Bool
  | [] => true
  | d :: l => okPy d && okPys l
end
mutual
theorem dp_of {K : PySem.W.Frag} {G H : Hp} (s : Same G H) : ∀ {d : D} {v : V}, okPy d = true → IsD K G d v → Dp K H v (toPy d)
  | .non, _, _, h => by
    cases h
    exact .non
  | .bl _, _, _, h => by
    cases h
    exact .bl _
  | .int _, _, _, h => by
    cases h
    exact .int _
  | .str _, _, _, h => by
    cases h
    exact .str _
  | .tup l, _, f, h => by
    obtain ⟨a, vs, rfl, h1, h2⟩ := h
    exact .tup (SqT.of (s _ _ h1)) (dps_of s (l := l) f h2)
  | .lst l, _, f, h => by
    obtain ⟨a, vs, rfl, h1, h2⟩ := h
    exact .lst (SqL.of (s _ _ h1)) (dps_of s (l := l) f h2)
  | .scr _, _, f, _ => by cases f
  | .dsk _, _, f, _ => by cases f
theorem dps_of {K : PySem.W.Frag} {G H : Hp} (s : Same G H) : ∀ {l : List D} {vs : List V}, okPys l = true → IsDs K G l vs → DpAll K H vs (toPys l)
  | [], _, _, h => by
    cases h
    exact .nil
  | d :: l, vs, f, h => by
    obtain ⟨v, r, rfl, h1, h2⟩ := h
    have f : (okPy d && okPys l) = true := f
    rw [Bool.and_eq_true] at f
    exact .cons (dp_of s f.1 h1) (dps_of s f.2 h2)
end
structure EqOk (d : D) : Prop where
  ok : okPy d = true
  sh : SeqAt.shaped (toPy d) = true
theorem k_eqD (hx : EqOk x) (hy : EqOk y) : OpK X (rEqD X.K) x y (.bl (PyData.eqv (toPy x) (toPy y))) := fun v u G H Q s i1 i2 q =>
  ⟨_, _, dp_of s hx.ok i1, dp_of s hy.ok i2, hx.sh, hy.sh, q _ G H (Grow.refl s) rfl⟩
theorem k_neD (hx : EqOk x) (hy : EqOk y) : OpK X (rNeD X.K) x y (.bl (!PyData.eqv (toPy x) (toPy y))) := fun v u G H Q s i1 i2 q =>
  ⟨_, _, dp_of s hx.ok i1, dp_of s hy.ok i2, hx.sh, hy.sh, q _ G H (Grow.refl s) rfl⟩
theorem jt_eqD (hu : X.A.units + 64 < cLine) (hx : EqOk x) (hy : EqOk y) (ha : JD X ρ a x) (hb : JD X ρ b y) : JT X ρ (.Compare a [.Eq] [b] pos) (PyData.eqv (toPy x) (toPy y)) := jt_cmp (op_eqD hu) (k_eqD hx hy) ha hb (nomark _)
theorem jt_neD (hu : X.A.units + 64 < cLine) (hx : EqOk x) (hy : EqOk y) (ha : JD X ρ a x) (hb : JD X ρ b y) : JT X ρ (.Compare a [.NotEq] [b] pos) (!PyData.eqv (toPy x) (toPy y)) := jt_cmp (op_neD hu) (k_neD hx hy) ha hb (nomark _)
theorem je_eqD (hu : X.A.units + 64 < cLine) (hx : EqOk x) (hy : EqOk y) (ha : JD X ρ a x) (hb : JD X ρ b y) : JD X ρ (.Compare a [.Eq] [b] pos) (.bl (PyData.eqv (toPy x) (toPy y))) := je_cmp (op_eqD hu) (k_eqD hx hy) ha hb (nomark _)
end
end DL
-- DL4
/-! Targets, what is walked, comprehensions, statements. -/
namespace DL
open PySem PySem.Spec PyProof.Rows L2

/-! ### wiped slots -/
theorem wipe_at (σ : L2.St) (vs : List Nat) (j : Nat) : (wipe σ vs)[j]? = if j ∈ vs ∧ j < σ.length then some none else σ[j]? := by
  induction vs with
  | nil => simp [wipe]
  | cons v vs ih =>
    show ((wipe σ vs).set v none)[j]? = _
    rw [List.getElem?_set]
    by_cases h : v = j
    · subst h
      rw [if_pos rfl, wipe_length]
      by_cases hl : v < σ.length
      · rw [if_pos hl, if_pos ⟨List.mem_cons_self, hl⟩]
      · rw [if_neg hl, if_neg (fun z => hl z.2), List.getElem?_eq_none (by omega)]
    · rw [if_neg h, ih]
      by_cases hj : j ∈ vs ∧ j < σ.length
      · rw [if_pos hj, if_pos ⟨List.mem_cons_of_mem _ hj.1, hj.2⟩]
      · rw [if_neg hj, if_neg (fun z => hj ⟨(List.mem_cons.mp z.1).resolve_left fun e => h e.symm, z.2⟩)]
theorem wipe_set {σ : L2.St} {vs : List Nat} {i : Nat} {x : Option V} (h : i ∈ vs) : wipe (σ.set i x) vs = wipe σ vs := by
  apply List.ext_getElem?
  intro j
  rw [wipe_at, wipe_at, List.length_set, List.getElem?_set]
  by_cases hj : j ∈ vs ∧ j < σ.length
  · rw [if_pos hj, if_pos hj]
  · rw [if_neg hj, if_neg hj]
    by_cases e : i = j
    · subst e
      have : ¬ i < σ.length := fun z => hj ⟨h, z⟩
      rw [if_pos rfl, if_neg this, List.getElem?_eq_none (by omega)]
    · rw [if_neg e]
def wipeS (ρ : List Sl) : List Nat → List Sl
  | [] => ρ
  | v :: vs => (wipeS ρ vs).set v .no
theorem wipeS_at (ρ : List Sl) (vs : List Nat) (j : Nat) : (wipeS ρ vs)[j]? = if j ∈ vs ∧ j < ρ.length then some Sl.no else ρ[j]? := by
  have wl : ∀ vs : List Nat, (wipeS ρ vs).length = ρ.length := fun vs => by
    induction vs with
    | nil => rfl
    | cons v vs ih =>
      show ((wipeS ρ vs).set v .no).length = _
      rw [List.length_set, ih]
  induction vs with
  | nil => simp [wipeS]
  | cons v vs ih =>
    show ((wipeS ρ vs).set v .no)[j]? = _
    rw [List.getElem?_set]
    by_cases h : v = j
    · subst h
      rw [if_pos rfl, wl]
      by_cases hl : v < ρ.length
      · rw [if_pos hl, if_pos ⟨List.mem_cons_self, hl⟩]
      · rw [if_neg hl, if_neg (fun z => hl z.2), List.getElem?_eq_none (by omega)]
    · rw [if_neg h, ih]
      by_cases hj : j ∈ vs ∧ j < ρ.length
      · rw [if_pos hj, if_pos ⟨List.mem_cons_of_mem _ hj.1, hj.2⟩]
      · rw [if_neg hj, if_neg (fun z => hj ⟨(List.mem_cons.mp z.1).resolve_left fun e => h e.symm, z.2⟩)]
section
variable {K : PySem.W.Frag} {G0 H0 G H : Hp} {σ : L2.St} {ρ : List Sl}
theorem EnvS.wipe (E : EnvS K G0 H0 G H σ ρ) (vs : List Nat) : EnvS K G0 H0 G H (L2.wipe σ vs) (wipeS ρ vs) where
  g0 := E.g0
  h0 := E.h0
  sub := E.sub
  fr := E.fr
  len := by
    rw [wipe_length, E.len]
    induction vs with
    | nil => rfl
    | cons v vs ih =>
      show _ = ((wipeS ρ vs).set v .no).length
      rw [List.length_set, ← ih]
  ok := fun i d h => by
    rw [wipeS_at] at h
    rw [wipe_at]
    by_cases hj : i ∈ vs ∧ i < ρ.length
    · rw [if_pos hj] at h
      cases h
    · rw [if_neg hj] at h
      rw [E.len, if_neg hj]
      exact E.ok i d h
  own := fun i l xs h => by
    rw [wipeS_at] at h
    rw [wipe_at]
    by_cases hj : i ∈ vs ∧ i < ρ.length
    · rw [if_pos hj] at h
      cases h
    · rw [if_neg hj] at h
      rw [E.len, if_neg hj]
      exact E.own i l xs h
  sep := fun i j l xs ys h1 h2 => by
    rw [wipeS_at] at h1 h2
    by_cases hi : i ∈ vs ∧ i < ρ.length
    · rw [if_pos hi] at h1
      cases h1
    · by_cases hj : j ∈ vs ∧ j < ρ.length
      · rw [if_pos hj] at h2
        cases h2
      · rw [if_neg hi] at h1
        rw [if_neg hj] at h2
        exact E.sep i j l xs ys h1 h2
/-- a slot is set to a datum -/
theorem EnvS.set (E : EnvS K G0 H0 G H σ ρ) (i : Nat) {d : D} {v : V} (h : IsD K G d v) : EnvS K G0 H0 G H (σ.set i (some v)) (ρ.set i (.d d)) where
  g0 := E.g0
  h0 := E.h0
  sub := E.sub
  fr := E.fr
  len := by rw [List.length_set, List.length_set, E.len]
  ok := fun j d' h' => by
    rw [List.getElem?_set] at h' ⊢
    rw [E.len]
    by_cases e : i = j
    · rw [if_pos e] at h' ⊢
      by_cases hl : i < ρ.length
      · rw [if_pos hl] at h' ⊢
        cases h'
        exact ⟨v, rfl, h⟩
      · rw [if_neg hl] at h'
        cases h'
    · rw [if_neg e] at h' ⊢
      exact E.ok j d' h'
  own := fun j l xs h' => by
    rw [List.getElem?_set] at h' ⊢
    rw [E.len]
    by_cases e : i = j
    · rw [if_pos e] at h'
      split at h' <;> cases h'
    · rw [if_neg e] at h' ⊢
      exact E.own j l xs h'
  sep := fun j k l xs ys h1 h2 => by
    rw [List.getElem?_set] at h1 h2
    split at h1
    · split at h1 <;> cases h1
    · split at h2
      · split at h2 <;> cases h2
      · exact E.sep j k l xs ys h1 h2
/-- a slot is set to a new list of one's own -/
theorem EnvS.setOwn (E : EnvS K G0 H0 G H σ ρ) (i : Nat) {xs : List D} {l : Addr} {vs : List V} (hH : H l = some (.lst vs)) (hG : G l = none) (h0 : H0 l = none) (hx : IsDs K G xs vs) (hne : ∀ (j : Nat) (l' : Addr) (ys : List D), ρ[j]? = some (Sl.own l' ys) → l' ≠ l) :
    EnvS K G0 H0 G H (σ.set i (some (.ref l))) (ρ.set i (.own l xs)) where
  g0 := E.g0
  h0 := E.h0
  sub := E.sub
  fr := E.fr
  len := by rw [List.length_set, List.length_set, E.len]
  ok := fun j d' h' => by
    rw [List.getElem?_set] at h' ⊢
    rw [E.len]
    by_cases e : i = j
    · rw [if_pos e] at h'
      split at h' <;> cases h'
    · rw [if_neg e] at h' ⊢
      exact E.ok j d' h'
  own := fun j l' ys h' => by
    rw [List.getElem?_set] at h' ⊢
    rw [E.len]
    by_cases e : i = j
    · rw [if_pos e] at h' ⊢
      by_cases hl : i < ρ.length
      · rw [if_pos hl] at h' ⊢
        cases h'
        exact ⟨rfl, h0, hG, vs, hH, hx⟩
      · rw [if_neg hl] at h'
        cases h'
    · rw [if_neg e] at h' ⊢
      exact E.own j l' ys h'
  sep := fun j k l' ys zs h1 h2 => by
    rw [List.getElem?_set] at h1 h2
    by_cases e1 : i = j
    · by_cases e2 : i = k
      · rw [← e1, ← e2]
      · rw [if_pos e1] at h1
        rw [if_neg e2] at h2
        split at h1
        · cases h1
          exact absurd rfl (hne k l zs h2)
        · cases h1
    · by_cases e2 : i = k
      · rw [if_neg e1] at h1
        rw [if_pos e2] at h2
        split at h2
        · cases h2
          exact absurd rfl (hne j l ys h1)
        · cases h2
      · rw [if_neg e1] at h1
        rw [if_neg e2] at h2
        exact E.sep j k l' ys zs h1 h2
/-- an own list is changed -/
theorem EnvS.chg (E : EnvS K G0 H0 G H σ ρ) {i : Nat} {l : Addr} {xs ys : List D} {us : List V} (hρ : ρ[i]? = some (Sl.own l xs)) (hy : IsDs K G ys us) : EnvS K G0 H0 G (upd H l (.lst us)) σ (ρ.set i (.own l ys)) := by
  obtain ⟨h1, h2, h3, vs, h4, h5⟩ := E.own i l xs hρ
  refine ⟨E.g0, fun b o e => ?_, fun b o e => ?_, E.fr, by rw [List.length_set, E.len], fun j d' h' => ?_, fun j l' zs h' => ?_, fun j k l' zs ws a b => ?_⟩
  · rw [upd_ne (ne_of_none e h2)]
    exact E.h0 b o e
  · rw [upd_ne (ne_of_none e h3)]
    exact E.sub b o e
  · rw [List.getElem?_set] at h'
    split at h'
    · split at h' <;> cases h'
    · exact E.ok j d' h'
  · rw [List.getElem?_set] at h'
    by_cases e : i = j
    · subst e
      rw [if_pos rfl] at h'
      split at h'
      · cases h'
        exact ⟨h1, h2, h3, us, upd_same, hy⟩
      · cases h'
    · rw [if_neg e] at h'
      obtain ⟨g1, g2, g3, ws, g4, g5⟩ := E.own j l' zs h'
      refine ⟨g1, g2, g3, ws, ?_, g5⟩
      rw [upd_ne (fun z => e ?_)]
      · exact g4
      · subst z
        exact E.sep i j l' xs zs hρ h'
  · have q : ∀ (j : Nat) (zs : List D), (ρ.set i (Sl.own l ys))[j]? = some (Sl.own l' zs) → ∃ zs', ρ[j]? = some (Sl.own l' zs') := fun j zs h' => by
      rw [List.getElem?_set] at h'
      by_cases e : i = j
      · subst e
        rw [if_pos rfl] at h'
        split at h'
        · cases h'
          exact ⟨xs, hρ⟩
        · cases h'
      · rw [if_neg e] at h'
        exact ⟨zs, h'⟩
    obtain ⟨z1, e1⟩ := q j zs a
    obtain ⟨z2, e2⟩ := q k ws b
    exact E.sep j k l' z1 z2 e1 e2
/-- an own list is done: it is a datum from then on -/
theorem EnvS.freeze (E : EnvS K G0 H0 G H σ ρ) {i : Nat} {l : Addr} {xs : List D} (hρ : ρ[i]? = some (Sl.own l xs)) : ∃ G2, Same G G2 ∧ EnvS K G0 H0 G2 H σ (ρ.set i (.d (.lst xs))) := by
  obtain ⟨h1, h2, h3, vs, h4, h5⟩ := E.own i l xs hρ
  have hil : i < ρ.length := by
    obtain ⟨h, _⟩ := List.getElem?_eq_some_iff.mp hρ
    exact h
  have sG : Same G (upd G l (.lst vs)) := same_upd h3
  have sb : Same (upd G l (.lst vs)) H := fun b o e => by
    by_cases hb : b = l
    · subst hb
      rw [upd_same] at e
      rw [h4, e]
    · rw [upd_ne hb] at e
      exact E.sub b o e
  refine ⟨upd G l (.lst vs), sG, E.g0.trans sG, E.h0, sb, fun a o e => ?_, by rw [List.length_set, E.len], fun j d' h' => ?_, fun j l' zs h' => ?_, fun j k l' zs ws a b => ?_⟩
  · by_cases ha : a = l
    · subst ha
      exact .inr h2
    · rw [upd_ne ha] at e
      exact E.fr a o e
  · rw [List.getElem?_set] at h'
    by_cases e : i = j
    · subst e
      rw [if_pos rfl, if_pos hil] at h'
      cases h'
      exact ⟨.ref l, h1, l, vs, rfl, upd_same, h5.mono sG⟩
    · rw [if_neg e] at h'
      obtain ⟨v, a, b⟩ := E.ok j d' h'
      exact ⟨v, a, b.mono sG⟩
  · rw [List.getElem?_set] at h'
    by_cases e : i = j
    · rw [if_pos e] at h'
      split at h' <;> cases h'
    · rw [if_neg e] at h'
      obtain ⟨g1, g2, g3, ws, g4, g5⟩ := E.own j l' zs h'
      refine ⟨g1, g2, ?_, ws, g4, g5.mono sG⟩
      rw [upd_ne (fun z => e ?_)]
      · exact g3
      · subst z
        exact E.sep i j l' xs zs hρ h'
  · rw [List.getElem?_set] at a b
    by_cases e1 : i = j
    · rw [if_pos e1, if_pos hil] at a
      cases a
    · by_cases e2 : i = k
      · rw [if_pos e2, if_pos hil] at b
        cases b
      · rw [if_neg e1] at a
        rw [if_neg e2] at b
        exact E.sep j k l' zs ws a b
end
end DL
-- DL5
/-! Targets, what is walked, comprehensions, statements. -/
namespace DL
open PySem PySem.Spec PyProof.Rows L2

/-! ### targets -/
def JG (X : Cx) (ρ : List Sl) (tg : Expr) (d : D) (ρ' : List Sl) (is : List Nat) : Prop := ∀ (G0 H0 G H : Hp) (σ : L2.St) (v : V), EnvS X.K G0 H0 G H σ ρ → IsD X.K G d v → ∀ Q : L2.St → Hp → Prop,
  (∀ σ', EnvS X.K G0 H0 G H σ' ρ' → (∀ vs : List Nat, (∀ i ∈ is, i ∈ vs) → wipe σ' vs = wipe σ vs) → Q σ' H) → wG X tg v σ H Q
def JGs (X : Cx) (ρ : List Sl) (ts : List Expr) (ds : List D) (ρ' : List Sl) (is : List Nat) : Prop := ∀ (G0 H0 G H : Hp) (σ : L2.St) (vs : List V), EnvS X.K G0 H0 G H σ ρ → IsDs X.K G ds vs → ∀ Q : L2.St → Hp → Prop,
  (∀ σ', EnvS X.K G0 H0 G H σ' ρ' → (∀ vs : List Nat, (∀ i ∈ is, i ∈ vs) → wipe σ' vs = wipe σ vs) → Q σ' H) → wGs X ts vs σ H Q
section
variable {X : Cx} {ρ ρ1 ρ' : List Sl} {e a b o tg : Expr} {es rest ts : List Expr} {d x y : D} {ds xs ys : List D} {pos p apos : Pos} {c c2 : Bool} {is js : List Nat}
theorem jg_name (i : Nat) {n : Str} (hN : X.N.Nodup) (hi : X.N[i]? = some n := by rfl) (hx : Loc X.env.scope n := by first | exact Or.inl rfl | exact Or.inr rfl) (hf : X.fn n = true ∨ X.env.scope.names.lookup n = some .local := by first | exact .inl rfl | exact .inr rfl) : JG X ρ (.Name n p) d (ρ.set i (.d d)) [i] := fun G0 H0 G H σ v E h Q q =>
  wG.of (pg_name hN hi hx hf) (q _ (E.set i h) fun vs hv => wipe_set (hv i List.mem_cons_self))
theorem jgs_nil : JGs X ρ [] [] ρ [] := fun G0 H0 G H σ vs E h Q q => by
  cases h
  exact wGs.of pgs_nil ⟨rfl, q σ E fun _ _ => rfl⟩
theorem jgs_cons (h1 : JG X ρ e d ρ1 is) (h2 : JGs X ρ1 es ds ρ' js) (hs : (assignEach (e :: es) X.env).map (·.2) = assign e X.env :: (assignEach es X.env).map (·.2) := by rfl) : JGs X ρ (e :: es) (d :: ds) ρ' (is ++ js) := fun G0 H0 G H σ vs E h Q q => by
  obtain ⟨v, r, rfl, hv, hr⟩ := h
  exact wGs.of (pgs_cons pgW pgsW hs) ⟨v, r, rfl, h1 G0 H0 G H σ v E hv _ fun σ1 E1 w1 => h2 G0 H0 G H σ1 r E1 hr Q fun σ2 E2 w2 => q σ2 E2 fun vs hh => (w2 vs fun i hi => hh i (List.mem_append_right _ hi)).trans (w1 vs fun i hi => hh i (List.mem_append_left _ hi))⟩
theorem jg_tup {k : Nat} (hc : X.calm = true) (h : JGs X ρ ts ds ρ' is) (hn : (assignEach ts X.env).length = ds.length := by rfl) (hst : (assignEach ts X.env).findIdx? (·.1) = none := by rfl) : JG X ρ (.Tuple ts k p) (.tup ds) ρ' is := fun G0 H0 G H σ v E hv Q q => by
  obtain ⟨b, us, rfl, h1, h2⟩ := hv
  exact wG.of (pg_tup hc pgsW hn hst) ⟨b, us, rfl, SqT.of (E.sub _ _ h1), h2.len, h G0 H0 G H σ us E h2 Q q⟩
/-- a list taken apart -/
theorem jg_lst {k : Nat} (hpg : ∀ {t : TGs} {n : Nat}, PGs X ts t → (assignEach ts X.env).length = n → (assignEach ts X.env).findIdx? (·.1) = none → PG X (.Tuple ts k p) (fun v σ H Q => ∃ a xs, v = .ref a ∧ SqL X.K H a xs ∧ xs.length = n ∧ t xs σ H Q)) (h : JGs X ρ ts ds ρ' is) (hn : (assignEach ts X.env).length = ds.length := by rfl) (hst : (assignEach ts X.env).findIdx? (·.1) = none := by rfl) : JG X ρ (.Tuple ts k p) (.lst ds) ρ' is := fun G0 H0 G H σ v E hv Q q => by
  obtain ⟨b, us, rfl, h1, h2⟩ := hv
  exact wG.of (hpg pgsW hn hst) ⟨b, us, rfl, SqL.of (E.sub _ _ h1), h2.len, h G0 H0 G H σ us E h2 Q q⟩
end

/-! ### what is walked -/
structure IterOk (K : PySem.W.Frag) (J : It) (S : Hp → Hp → Prop) (ds : List D) : Prop where
  stop : ∀ G H, S G H → Same G H → J.stop ds.length H
  go : ∀ G H (i : Nat) d, S G H → Same G H → ds[i]? = some d → J.go i H ∧ ∀ x H', J.yld i H x H' → ∃ G', Grow G H G' H' ∧ IsD K G' d x
/-- the iterable gives ds, while oc holds of the slots -/
def JI (X : Cx) (ρ : List Sl) (tg iter : Expr) (ds : List D) (oc : List Sl → Prop) : Prop := ∀ (G0 H0 G H : Hp) (σ : L2.St), EnvS X.K G0 H0 G H σ ρ → ∀ R : It → Hp → Prop,
  (∀ J G1 H1 S, Grow G H G1 H1 → (∀ G2 H2 σ2 ρ2, EnvS X.K G0 H0 G2 H2 σ2 ρ2 → Same G1 G2 → oc ρ2 → S G2 H2) → IterOk X.K J S ds → R J H1) → wI X tg iter σ H R
def ocT : List Sl → Prop := fun _ => True
section
variable {X : Cx} {ρ ρ1 ρ' : List Sl} {e a b o tg : Expr} {es rest ts : List Expr} {d x y : D} {ds xs ys : List D} {pos p apos : Pos} {c c2 : Bool} {is js : List Nat}
theorem iter_list {K : PySem.W.Frag} {G1 : Hp} {l : Addr} {vs : List V} (h2 : IsDs K G1 xs vs) : IterOk K (Itl K l) (fun G H => Same G1 G ∧ H l = some (.lst vs)) xs where
  stop := fun G H s _ => ⟨vs, SqL.of s.2, by rw [h2.len]; exact Nat.le_refl _⟩
  go := fun G H i d s sub e => by
    obtain ⟨v, e1, e2⟩ := h2.get e
    exact ⟨⟨vs, v, SqL.of s.2, e1⟩, fun x H' y => by
      obtain ⟨rfl, f⟩ := y
      have ex : x = v := Option.some.inj ((f vs (SqL.of s.2)).symm.trans e1)
      subst ex
      exact ⟨G, Grow.refl sub, e2.mono s.1⟩⟩
theorem ji_list (ha : JD X ρ e (.lst xs)) : JI X ρ tg e xs ocT := fun G0 H0 G H σ E R r =>
  wI.of (pi_list peW) (ha G0 H0 G H σ E _ fun v G1 H1 g1 i1 => by
    obtain ⟨l, vs, rfl, h1, h2⟩ := i1
    exact ⟨l, rfl, ⟨vs, SqL.of (g1.sub _ _ h1)⟩, r _ G1 H1 _ g1 (fun G2 H2 σ2 ρ2 E2 s _ => ⟨s, E2.sub _ _ (s _ _ h1)⟩) (iter_list h2)⟩)
/-- an own list is walked that stays as it is -/
theorem ji_own (i : Nat) {l : Addr} {n : Str} (hρ : ρ[i]? = some (Sl.own l xs)) (hN : X.N[i]? = some n := by rfl) (hv : Vis X.env.scope n := by first | exact Or.inl rfl | exact Or.inr (Or.inl rfl) | exact Or.inr (Or.inr rfl)) (hd : (n == ("__debug__" : Str)) = false := by decide)
    (hcd : (n == ("__classdict__" : Str)) = false := by decide) : JI X ρ tg (.Name n p) xs (fun ρ2 => ρ2[i]? = some (Sl.own l xs)) := fun G0 H0 G H σ E R r => by
  obtain ⟨h1, h2, h3, vs, h4, h5⟩ := E.own i l xs hρ
  refine wI.of (pi_list (pe_var hN hv hd hcd)) ⟨_, h1, l, rfl, ⟨vs, SqL.of h4⟩, r _ G H (fun G2 H2 => ∃ vs, IsDs X.K G2 xs vs ∧ H2 l = some (.lst vs)) (Grow.refl E.sub) (fun G2 H2 σ2 ρ2 E2 s oc => ?_) ⟨fun G2 H2 s _ => ?_, fun G2 H2 j d s sub e => ?_⟩⟩
  · obtain ⟨_, _, _, us, a, b⟩ := E2.own i l xs oc
    exact ⟨us, b, a⟩
  · obtain ⟨us, a, b⟩ := s
    exact ⟨us, SqL.of b, by rw [a.len]; exact Nat.le_refl _⟩
  · obtain ⟨us, a, b⟩ := s
    obtain ⟨v, e1, e2⟩ := a.get e
    exact ⟨⟨us, v, SqL.of b, e1⟩, fun x H' y => by
      obtain ⟨rfl, f⟩ := y
      have ex : x = v := Option.some.inj ((f us (SqL.of b)).symm.trans e1)
      subst ex
      exact ⟨G2, Grow.refl sub, e2⟩⟩
theorem ji_tup (ha : JD X ρ e (.tup xs)) : JI X ρ tg e xs ocT := fun G0 H0 G H σ E R r =>
  wI.of (pi_tup peW) (ha G0 H0 G H σ E _ fun v G1 H1 g1 i1 => by
    obtain ⟨l, vs, rfl, h1, h2⟩ := i1
    exact ⟨l, rfl, ⟨vs, SqT.of (g1.sub _ _ h1)⟩, r _ G1 H1 (fun G2 H2 => Same G1 G2 ∧ H2 l = some (.tup vs)) g1 (fun G2 H2 σ2 ρ2 E2 s _ => ⟨s, E2.sub _ _ (s _ _ h1)⟩) ⟨fun G2 H2 s _ => ⟨vs, SqT.of s.2, by rw [h2.len]; exact Nat.le_refl _⟩, fun G2 H2 j d s sub e => by
      obtain ⟨v, e1, e2⟩ := h2.get e
      exact ⟨⟨vs, v, SqT.of s.2, e1⟩, fun x H' y => by
        obtain ⟨rfl, f⟩ := y
        have ex : x = v := Option.some.inj ((f vs (SqT.of s.2)).symm.trans e1)
        subst ex
        exact ⟨G2, Grow.refl sub, e2.mono s.1⟩⟩⟩⟩)
/-- a text's signs -/
theorem ji_str {t : Str} (ha : JD X ρ e (.str t)) : JI X ρ tg e (t.cps.toList.map fun c => .str ⟨#[c]⟩) ocT := fun G0 H0 G H σ E R r =>
  wI.of (pi_str peW) (ha G0 H0 G H σ E _ fun v G1 H1 g1 i1 => by
    cases i1
    exact ⟨t, rfl, r _ G1 H1 (fun _ _ => True) g1 (fun _ _ _ _ _ _ _ => trivial) ⟨fun G2 H2 s _ => by
      have w := (walk_str (z := t)).stops H2 trivial
      simpa using w, fun G2 H2 j d s sub e => by
      rw [List.getElem?_map] at e
      cases q : t.cps.toList[j]? with
      | none =>
        rw [q] at e
        cases e
      | some c =>
        rw [q] at e
        have e : D.str ⟨#[c]⟩ = d := Option.some.inj e
        subst e
        have hj : j < t.cps.size := by
          obtain ⟨h, _⟩ := List.getElem?_eq_some_iff.mp q
          simpa using h
        have qa : t.cps[j]? = some c := by simpa using q
        exact ⟨(walk_str (z := t)).goes j H2 hj trivial, fun x H' y => by
          obtain ⟨rfl, c', h1, h2⟩ := (walk_str (z := t)).yields j H2 x H' hj trivial y
          rw [qa] at h1
          cases h1
          exact ⟨G2, Grow.refl sub, h2⟩⟩⟩⟩)
/-- lo, lo + s, .. -/
def rngD (lo s : Int) (n : Nat) : List D := (List.range n).map fun i => .int (lo + (i : Nat) * s)
theorem rngD_len (lo s : Int) (n : Nat) : (rngD lo s n).length = n := by simp [rngD]
theorem rngD_get {lo s : Int} {n i : Nat} {d : D} (h : (rngD lo s n)[i]? = some d) : i < n ∧ d = .int (lo + (i : Nat) * s) := by
  unfold rngD at h
  rw [List.getElem?_map] at h
  cases q : (List.range n)[i]? with
  | none =>
    rw [q] at h
    cases h
  | some k =>
    rw [q] at h
    obtain ⟨h1, h2⟩ := List.getElem?_eq_some_iff.mp q
    rw [List.getElem_range] at h2
    subst h2
    exact ⟨by simpa using h1, (Option.some.inj h).symm⟩
theorem iter_rngC {K : PySem.W.Frag} {lo s : Int} {n : Nat} : IterOk K (Itc lo s n) (fun _ _ => True) (rngD lo s n) where
  stop := fun G H _ _ => by
    rw [rngD_len]
    exact Nat.le_refl _
  go := fun G H i d _ sub e => by
    obtain ⟨h1, rfl⟩ := rngD_get e
    exact ⟨h1, fun x H' y => by
      obtain ⟨rfl, rfl⟩ := y
      exact ⟨G, Grow.refl sub, rfl⟩⟩
theorem iter_rng {K : PySem.W.Frag} {lo : Int} {n : Nat} : IterOk K (Itr lo n) (fun _ _ => True) (rngD lo 1 n) where
  stop := fun G H _ _ => by
    rw [rngD_len]
    exact Nat.le_refl _
  go := fun G H i d _ sub e => by
    obtain ⟨h1, rfl⟩ := rngD_get e
    exact ⟨h1, fun x H' y => by
      obtain ⟨rfl, rfl⟩ := y
      exact ⟨G, Grow.refl sub, by
        show V.int _ = V.int _
        rw [Int.mul_one]⟩⟩
theorem ji_range1 {j : Int} (hm : X.mg "range" = none) (ha : JD X ρ a (.int j)) (h1 : -(2 ^ 62) ≤ j) (h2 : j < 2 ^ 62) (hg : Gl X "range" := by rfl) (hs : starEach [a] X.env = [(false, eval a X.env)] := by rfl) (hs' : starEach [a] X.env = (false, eval a X.env) :: starEach [] X.env := by rfl) : JI X ρ tg (.Call (.Name "range" p) [a] [] pos) (rngD 0 1 j.toNat) ocT := fun G0 H0 G H σ E R r =>
  wI.of (pi_range1 hg hm (pa_cons peW pa_nil hs') hs) (ha G0 H0 G H σ E _ fun v G1 H1 g1 i1 => by
    cases i1
    exact ⟨j, rfl, h1, h2, r _ G1 H1 _ g1 (fun _ _ _ _ _ _ _ => trivial) iter_rng⟩)
theorem ji_range2 {i j : Int} (hm : X.mg "range" = none) (ha : JD X ρ a (.int i)) (hb : JD X ρ b (.int j)) (h1 : -(2 ^ 62) ≤ i) (h2 : i < 2 ^ 62) (h3 : -(2 ^ 62) ≤ j) (h4 : j < 2 ^ 62) (hg : Gl X "range" := by rfl) (hs : starEach [a, b] X.env = [(false, eval a X.env), (false, eval b X.env)] := by rfl) (hs2 : starEach [b] X.env = [(false, eval b X.env)] := by rfl)
    (hs3 : starEach [a, b] X.env = (false, eval a X.env) :: starEach [b] X.env := by rfl) (hs4 : starEach [b] X.env = (false, eval b X.env) :: starEach [] X.env := by rfl) : JI X ρ tg (.Call (.Name "range" p) [a, b] [] pos) (rngD i 1 (j - i).toNat) ocT := fun G0 H0 G H σ E R r =>
  wI.of (pi_range2 hg hm (pa_cons peW (pa_cons peW pa_nil hs4) hs3) hs hs2) (ha G0 H0 G H σ E _ fun v G1 H1 g1 i1 => hb G0 H0 G1 H1 σ (E.grow g1) _ fun w G2 H2 g2 i2 => by
    cases i1
    cases i2
    exact ⟨i, j, rfl, ⟨h1, h2, h3, h4⟩, r _ G2 H2 _ (g1.trans g2) (fun _ _ _ _ _ _ _ => trivial) iter_rng⟩)
/-- range(i, j, -1) -/
theorem ji_rangeDown {i j : Int} {e3 : Expr} (hm : X.mg "range" = none) (ha : JD X ρ a (.int i)) (hb : JD X ρ b (.int j)) (hc : JD X ρ e3 (.int (-1))) (h1 : -(2 ^ 62) ≤ i) (h2 : i < 2 ^ 62) (h3 : -(2 ^ 62) ≤ j) (h4 : j < 2 ^ 62) (hg : Gl X "range" := by rfl) (hs : starEach [a, b, e3] X.env = (false, eval a X.env) :: starEach [b, e3] X.env := by rfl)
    (hs2 : starEach [b, e3] X.env = (false, eval b X.env) :: starEach [e3] X.env := by rfl) (hs3 : starEach [e3] X.env = (false, eval e3 X.env) :: starEach [] X.env := by rfl) (hpl : (backTo pos (starEach [b, e3] X.env)).any (·.1) = false := by rfl) : JI X ρ tg (.Call (.Name "range" p) [a, b, e3] [] pos) (rngD i (-1) (i - j).toNat) ocT := fun G0 H0 G H σ E R r =>
  wI.of (pi_range3 hg hm (pa_cons peW (pa_cons peW (pa_cons peW pa_nil hs3) hs2) hs) hs hpl) (ha G0 H0 G H σ E _ fun v G1 H1 g1 i1 => hb G0 H0 G1 H1 σ (E.grow g1) _ fun w G2 H2 g2 i2 => hc G0 H0 G2 H2 σ ((E.grow g1).grow g2) _ fun z G3 H3 g3 i3 => by
    cases i1
    cases i2
    cases i3
    exact ⟨i, j, -1, (i - j).toNat, rfl, RgC.neg h1 h2 h3 h4, r _ G3 H3 _ ((g1.trans g2).trans g3) (fun _ _ _ _ _ _ _ => trivial) iter_rngC⟩)
/-- reversed(range(n)) -/
theorem ji_revRange {j : Int} {p2 pos2 : Pos} (hm : X.mg "reversed" = none) (hm2 : X.mg "range" = none) (ha : JD X ρ a (.int j)) (h1 : -(2 ^ 62) ≤ j) (h2 : j < 2 ^ 62) (hg : Gl X "reversed" := by rfl) (hg2 : Gl X "range" := by rfl)
    (hpi : ∀ {ta : TE}, PE X a ta → PI X tg (.Call (.Name "reversed" p) [.Call (.Name "range" p2) [a] [] pos2] [] pos) (iRevR (tRg1 ta)) := by exact fun h => pi_revR (by rfl) (by assumption) (prg_1 (by rfl) (by assumption) h)) :
    JI X ρ tg (.Call (.Name "reversed" p) [.Call (.Name "range" p2) [a] [] pos2] [] pos) (rngD ((j.toNat : Int) - 1) (-1) j.toNat) ocT := fun G0 H0 G H σ E R r =>
  wI.of (hpi peW) (ha G0 H0 G H σ E _ fun v G1 H1 g1 i1 => by
    cases i1
    refine ⟨j, rfl, by decide, by decide, h1, h2, ?_⟩
    have e : (0 : Int) + (((j - 0).toNat : Nat) : Int) - 1 = (j.toNat : Int) - 1 := by rw [Int.sub_zero, Int.zero_add]
    rw [e, Int.sub_zero]
    exact r _ G1 H1 _ g1 (fun _ _ _ _ _ _ _ => trivial) iter_rngC)
/-- reversed(list) -/
theorem ji_rev (hm : X.mg "reversed" = none) (ha : JD X ρ a (.lst xs)) (hg : Gl X "reversed" := by rfl) (hs : starEach [a] X.env = [(false, eval a X.env)] := by rfl) (hs' : starEach [a] X.env = (false, eval a X.env) :: starEach [] X.env := by rfl) : JI X ρ tg (.Call (.Name "reversed" p) [a] [] pos) xs.reverse ocT := fun G0 H0 G H σ E R r =>
  wI.of (pi_reversed hg hm (pa_cons peW pa_nil hs') hs) (ha G0 H0 G H σ E _ fun v G1 H1 g1 i1 => by
    obtain ⟨l, vs, rfl, h1, h2⟩ := i1
    have hl := h2.len
    refine ⟨l, vs, rfl, SqL.of (g1.sub _ _ h1), r _ G1 H1 (fun G2 H2 => Same G1 G2 ∧ H2 l = some (.lst vs)) g1 (fun G2 H2 σ2 ρ2 E2 s _ => ⟨s, E2.sub _ _ (s _ _ h1)⟩) ⟨fun G2 H2 s _ => ?_, fun G2 H2 j d s sub e => ?_⟩⟩
    · show vs.length ≤ _
      rw [hl, List.length_reverse]
      exact Nat.le_refl _
    · obtain ⟨hj, he⟩ := List.getElem?_eq_some_iff.mp e
      rw [List.length_reverse] at hj
      have e' : xs[xs.length - 1 - j]? = some d := by
        rw [List.getElem?_reverse hj] at e
        exact e
      obtain ⟨v, e1, e2⟩ := h2.get e'
      rw [← hl] at e1
      exact ⟨⟨by omega, vs, v, SqL.of s.2, e1⟩, fun x H' y => by
        obtain ⟨rfl, f⟩ := y
        have ex : x = v := Option.some.inj ((f vs (SqL.of s.2)).symm.trans e1)
        subst ex
        exact ⟨G2, Grow.refl sub, e2.mono s.1⟩⟩)
/-- enumerate(list) -/
def enumD (xs : List D) : List D := xs.zipIdx.map fun p => .tup [.int (p.2 : Nat), p.1]
theorem ji_enum {elts : List Expr} {kk : Nat} {tpos : Pos} (hm : X.mg "enumerate" = none) (ha : JD X ρ a (.lst xs)) (hg : Gl X "enumerate" := by rfl) (hs : starEach [a] X.env = [(false, eval a X.env)] := by rfl) (hs' : starEach [a] X.env = (false, eval a X.env) :: starEach [] X.env := by rfl) : JI X ρ (.Tuple elts kk tpos) (.Call (.Name "enumerate" p) [a] [] pos) (enumD xs) ocT := fun G0 H0 G H σ E R r =>
  wI.of (pi_enum hg hm (pa_cons peW pa_nil hs') hs) (ha G0 H0 G H σ E _ fun v G1 H1 g1 i1 => by
    obtain ⟨l, vs, rfl, h1, h2⟩ := i1
    have hl := h2.len
    refine ⟨l, vs, rfl, SqL.of (g1.sub _ _ h1), r _ G1 H1 (fun G2 H2 => Same G1 G2 ∧ H2 l = some (.lst vs)) g1 (fun G2 H2 σ2 ρ2 E2 s _ => ⟨s, E2.sub _ _ (s _ _ h1)⟩) ⟨fun G2 H2 s _ => ?_, fun G2 H2 j d s sub e => ?_⟩⟩
    · refine ⟨vs, SqL.of s.2, ?_⟩
      rw [hl]
      simp [enumD]
    · unfold enumD at e
      rw [List.getElem?_map, List.getElem?_zipIdx] at e
      cases q : xs[j]? with
      | none =>
        rw [q] at e
        cases e
      | some z =>
        rw [q] at e
        have e : D.tup [.int ((0 + j : Nat) : Nat), z] = d := Option.some.inj e
        rw [Nat.zero_add] at e
        subst e
        obtain ⟨v, e1, e2⟩ := h2.get q
        exact ⟨⟨vs, v, SqL.of s.2, e1⟩, fun x H' y => by
          obtain ⟨T, u, rfl, nT, rfl, f⟩ := y
          have ex : u = v := Option.some.inj ((f vs (SqL.of s.2)).symm.trans e1)
          subst ex
          exact ⟨upd G2 T (.tup [.int (j : Nat), u]), Grow.new sub nT, T, _, rfl, upd_same, IsDs.cons rfl (IsDs.cons ((e2.mono s.1).mono (same_upd (sub.free nT))) IsDs.nil)⟩⟩)
/-- zip(list, list) -/
def zipD (xs ys : List D) : List D := (xs.zip ys).map fun p => .tup [p.1, p.2]
theorem zipD_get {xs ys : List D} {j : Nat} {d : D} (h : (zipD xs ys)[j]? = some d) : ∃ x y, xs[j]? = some x ∧ ys[j]? = some y ∧ d = .tup [x, y] := by
  unfold zipD at h
  rw [List.getElem?_map] at h
  cases q : (xs.zip ys)[j]? with
  | none =>
    rw [q] at h
    cases h
  | some z =>
    rw [q] at h
    obtain ⟨h1, h2⟩ := List.getElem?_zip_eq_some.mp q
    exact ⟨z.1, z.2, h1, h2, (Option.some.inj h).symm⟩
theorem ji_zip {elts : List Expr} {kk : Nat} {tpos : Pos} (hm : X.mg "zip" = none) (ha : JD X ρ a (.lst xs)) (hb : JD X ρ b (.lst ys)) (hg : Gl X "zip" := by rfl) (hs : starEach [a, b] X.env = (false, eval a X.env) :: starEach [b] X.env := by rfl) (hs2 : starEach [b] X.env = (false, eval b X.env) :: starEach [] X.env := by rfl) (hpl : (backTo pos (starEach [b] X.env)).any (·.1) = false := by rfl) :
    JI X ρ (.Tuple elts kk tpos) (.Call (.Name "zip" p) [a, b] [] pos) (zipD xs ys) ocT := fun G0 H0 G H σ E R r =>
  wI.of (pi_zip hg hm (pa_cons peW (pa_cons peW pa_nil hs2) hs) hs hpl) (ha G0 H0 G H σ E _ fun v G1 H1 g1 i1 => hb G0 H0 G1 H1 σ (E.grow g1) _ fun w G2 H2 g2 i2 => by
    obtain ⟨l, vs, rfl, h1, h2⟩ := i1
    obtain ⟨m, us, rfl, h3, h4⟩ := i2
    have h1 := g2.g _ _ h1
    have h2 := h2.mono g2.g
    have hl := h2.len
    have hl2 := h4.len
    refine ⟨l, m, vs, us, rfl, SqL.of (g2.sub _ _ h1), SqL.of (g2.sub _ _ h3), r _ G2 H2 (fun G3 H3 => Same G2 G3 ∧ H3 l = some (.lst vs) ∧ H3 m = some (.lst us)) (g1.trans g2) (fun G3 H3 σ3 ρ3 E3 s _ => ⟨s, E3.sub _ _ (s _ _ h1), E3.sub _ _ (s _ _ h3)⟩) ⟨fun G3 H3 s _ => ?_, fun G3 H3 j d s sub e => ?_⟩⟩
    · refine ⟨vs, us, SqL.of s.2.1, SqL.of s.2.2, ?_⟩
      simp only [zipD, List.length_map, List.length_zip]
      omega
    · obtain ⟨x, y, q1, q2, rfl⟩ := zipD_get e
      obtain ⟨v, e1, e2⟩ := h2.get q1
      obtain ⟨w, e3, e4⟩ := h4.get q2
      exact ⟨⟨vs, us, v, w, SqL.of s.2.1, SqL.of s.2.2, e1, e3⟩, fun z H' y' => by
        obtain ⟨T, u1, u2, rfl, nT, rfl, f1, f2⟩ := y'
        have ex1 : u1 = v := Option.some.inj ((f1 vs (SqL.of s.2.1)).symm.trans e1)
        have ex2 : u2 = w := Option.some.inj ((f2 us (SqL.of s.2.2)).symm.trans e3)
        subst ex1 ex2
        have k := s.1.trans (same_upd (o := .tup [u1, u2]) (sub.free nT))
        exact ⟨upd G3 T (.tup [u1, u2]), Grow.new sub nT, T, _, rfl, upd_same, IsDs.cons (e2.mono k) (IsDs.cons (e4.mono k) IsDs.nil)⟩⟩)
end
end DL
-- DL6
/-! zip of a text and a list. -/
namespace DL
open PySem PySem.Spec PyProof.Rows L2
/-- a text's signs and the list at b, of one length, in new pairs -/
def ItzS (K : PySem.W.Frag) (x : Str) (b : Addr) : It :=
  ⟨fun i H => ∃ (ys : List V) (y : V), SqL K H b ys ∧ i < x.cps.size ∧ ys[i]? = some y,
    fun i H v H' => ∃ T c y, v = .ref T ∧ H T = none ∧ H' = upd H T (.tup [.str ⟨#[c]⟩, y]) ∧ x.cps[i]? = some c ∧ ∀ ys, SqL K H b ys → ys[i]? = some y,
    fun i H => ∃ ys : List V, SqL K H b ys ∧ i = x.cps.size ∧ i = ys.length⟩
theorem turn_zipSL {P : Program} {w : World} {K : PySem.W.Frag} {elts : List Expr} {kk : Nat} {tpos : Pos} {b z TI TO i1 i2 : Addr} {x : Str} {t : Tok} (S : ZipSep2 z TI TO i1 i2 [i1] [i2, b]) :
    Turn P w K (.Tuple elts kk tpos) (ItzS K x b) [z, TI, TO, i1, i2] z (fun i h => IsZip h z TI TO .none ∧ IsTupOf2 h TI (.ref i1) (.ref i2) ∧ (∃ x y, IsTupOf2 h TO x y) ∧ h.IsStrIter i1 (strIterType x) x t i ∧ h.IsListIter i2 b i) where
  mem := by simp
  obj := fun i h st c hc => by
    obtain ⟨hz, hTI, ⟨x, y, hTO⟩, ⟨o1, e1, _, d1⟩, ⟨o2, e2, _, d2⟩⟩ := st
    have e' : c = z ∨ c = TI ∨ c = TO ∨ c = i1 ∨ c = i2 := by simpa using hc
    rcases e' with q | q | q | q | q
    · rw [q]; exact ⟨_, hz, fun v q => nomatch q⟩
    · rw [q]; exact ⟨_, hTI, fun v q => nomatch q⟩
    · rw [q]; exact ⟨_, hTO, fun v q => nomatch q⟩
    · rw [q]; exact ⟨o1, e1, fun v q => by rw [d1] at q; cases q⟩
    · rw [q]; exact ⟨o2, e2, fun v q => by rw [d2] at q; cases q⟩
  keep := fun i h h' st k => by
    obtain ⟨hz, hTI, ⟨x, y, hTO⟩, h1, h2⟩ := st
    exact ⟨k z (by simp) _ hz, k TI (by simp) _ hTI, ⟨x, y, k TO (by simp) _ hTO⟩, (let ⟨o, ho, hc, hd⟩ := h1; ⟨o, k i1 (by simp) _ ho, hc, hd⟩), h2.at fun o q => k i2 (by simp) o q⟩
  item := by
    intro X hP hw hK hc i pins s σ H E I hf st hg
    subst hP hw hK
    obtain ⟨hz, hTI, ⟨x0, y0, hTO⟩, h1, h2⟩ := st
    obtain ⟨ys, y, hqy, hx, hy⟩ := hg
    obtain ⟨its, rv, p, _⟩ := I.list hqy
    have hzl : z < s.heap.objs.size := Heap.lt_size hz
    have hl := rv.length
    have hi2 : i < its.toArray.size := by
      obtain ⟨hh, _⟩ := List.getElem?_eq_some_iff.mp hy
      rw [List.size_toArray, ← hl]
      exact hh
    have hh : X.A.in1.handled = none := I.ok.hd hc
    have nb : b ≠ i2 := fun e => by
      obtain ⟨o, e1, c1, d1⟩ := h2
      obtain ⟨o', e2, c2, _⟩ := p.isList
      rw [← e, e2] at e1
      cases e1
      rw [c2] at c1
      exact absurd (Value.type.inj c1) (by decide)
    refine wpAny_pyNext_zipD2_item S (Draws.text hh i1 x t) (Draws.list hh i2 b nb its.toArray) hz hTI hTO h1 ⟨h2, p.isList⟩ hx hi2 fun x1 x2 h' tk y1 y2 z' TO' h1' h2' hT hsz hk => ?_
    obtain ⟨c, u, hc1, rfl⟩ := y1
    have ru2 : RelV y x2 := by
      obtain ⟨u2, q1, q2⟩ := rv.get hy
      have q3 : its.toArray[i]? = some u2 := by simpa using q1
      rw [q3] at y2
      cases y2
      exact q2
    refine ⟨_, rfl, wpAny_letOwnedTupleGo_zip (s := { s with heap := h', toks := tk }) z' fun h'' z'' sb => ?_⟩
    have hT2 : h''.get? s.heap.objs.size = some { cls := .type "tuple", data := .seq #[.str ⟨#[c]⟩ u, x2] } := (sb.2 _ (Nat.ne_of_gt hzl)).trans hT
    have new : ObjOk X.prog X.w (upd H s.heap.objs.size (.tup [.str ⟨#[c]⟩, y])) h'' s.heap.objs.size (.tup [.str ⟨#[c]⟩, y]) :=
      ⟨by show 2 ≤ sizeLine; decide, [.str ⟨#[c]⟩ u, x2], .cons ⟨_, rfl⟩ (.cons ru2 .nil), ⟨_, hT2, rfl, _, rfl⟩⟩
    have I1 : Inv X pins σ (upd H s.heap.objs.size (.tup [.str ⟨#[c]⟩, y])) { s with heap := h'', toks := tk } :=
      I.turnedNew (t' := tk) (ch := [z, TI, TO, i1, i2]) (fun c o hb q => (sb.2 c (fun q' => hb (by simp [q']))).trans (hk c o (fun q' => hb (by simp [q'])) (fun q' => hb (by simp [q'])) (fun q' => hb (by simp [q'])) (fun q' => hb (by simp [q'])) q)) hf (Nat.le_refl _) new
    refine ⟨.ref s.heap.objs.size, _, I1, rfl, ⟨_, c, y, rfl, I.hok.fresh (Nat.le_refl _), rfl, hc1, fun l hl => by rw [I.list_inj hl hqy]; exact hy⟩, ⟨z'', ?_, ⟨.str ⟨#[c]⟩ u, x2, ?_⟩, ?_, ?_⟩, fun c hcm => ?_⟩
    · exact (sb.2 _ S.TIz).trans (hk _ _ S.TIz S.TITO S.TIi1 S.TIi2 hTI)
    · exact (sb.2 _ S.TOz).trans TO'
    · obtain ⟨o, ho, hc, hd⟩ := h1'
      exact ⟨o, (sb.2 _ S.zi1.symm).trans ho, hc, hd⟩
    · exact h2'.1.at fun o q => (sb.2 _ S.zi2.symm).trans q
    · have hlt : c < s.heap.objs.size := by
        have e' : c = z ∨ c = TI ∨ c = TO ∨ c = i1 ∨ c = i2 := by simpa using hcm
        rcases e' with q | q | q | q | q
        · rw [q]; exact hzl
        · rw [q]; exact Heap.lt_size hTI
        · rw [q]; exact Heap.lt_size hTO
        · rw [q]; obtain ⟨_, e1, _⟩ := h1; exact Heap.lt_size e1
        · rw [q]; obtain ⟨_, e2, _⟩ := h2; exact Heap.lt_size e2
      rw [upd_ne (Nat.ne_of_lt hlt)]
      exact (hf c hcm).1
  done := by
    intro X hP hw hK hc i pins s σ H E I hf st hg
    subst hP hw hK
    obtain ⟨hz, hTI, ⟨x0, y0, hTO⟩, h1, h2⟩ := st
    obtain ⟨ys, hqy, e1, e2⟩ := hg
    obtain ⟨its, rv, p, _⟩ := I.list hqy
    have hl := rv.length
    have hh : X.A.in1.handled = none := I.ok.hd hc
    have nb : b ≠ i2 := fun e => by
      obtain ⟨o, e1, c1, d1⟩ := h2
      obtain ⟨o', e2, c2, _⟩ := p.isList
      rw [← e, e2] at e1
      cases e1
      rw [c2] at c1
      exact absurd (Value.type.inj c1) (by decide)
    refine wpAny_pyNext_zipD2_end S (Draws.text hh i1 x t) (Draws.list hh i2 b nb its.toArray) hz hTI hTO h1 ⟨h2, p.isList⟩ (by omega) (by rw [List.size_toArray]; omega) (.inl e1) fun h' tk eb => ⟨rfl, ?_⟩
    exact I.turnedL (t' := tk) (ch := [z, TI, TO, i1, i2]) (fun c o hb q => eb c o (fun q' => hb (by simp [q'])) (fun q' => hb (by simp [q'])) (fun q' => hb (by simp [q'])) (fun q' => hb (by simp [q'])) q) hf
  self := fun A i s Q E st h => let ⟨hz, _⟩ := st; wpAny_pyIter_zip hz h
def iZipS (K : PySem.W.Frag) (ta : TA) : TI := fun σ H R => ta σ H fun vs H1 => ∃ x b ys, vs = [.str x, .ref b] ∧ SqL K H1 b ys ∧ R (ItzS K x b) H1
theorem pi_zipSL {X : Cx} {e e2 : Expr} {ta : TA} {p pos tpos : Pos} {elts : List Expr} {kk : Nat} (hg : Gl X "zip") (hm : X.mg "zip" = none) (ha : PA X [e, e2] ta)
    (hs : starEach [e, e2] X.env = (false, eval e X.env) :: starEach [e2] X.env := by rfl) (hpl : (backTo pos (starEach [e2] X.env)).any (·.1) = false := by rfl) :
    PI X (.Tuple elts kk tpos) (.Call (.Name "zip" p) [e, e2] [] pos) (iZipS X.K ta) := by
  refine ⟨fun pins s σ H R I h => ?_⟩
  refine Call_ (ld_blt I hg hm PyProof.Rows.boot_zip (PyProof.Rows.callWith_type1 (thn (ha.run pos pins s σ H _ I h) fun us s1 ⟨vs, H1, I1, r1, q1⟩ => ?_) hs hpl))
  obtain ⟨x, b, ys, ex, hqy, q⟩ := q1
  subst ex
  cases r1 with
  | cons r rr =>
    cases rr with
    | cons r' rr =>
      cases rr
      obtain ⟨t, rfl⟩ := r
      cases r'
      obtain ⟨its2, rv2, p2, _⟩ := I1.list hqy
      have lb : b < s1.heap.objs.size := p2.lt
      refine zip_begins2 (begins_text x t) (begins_list b its2.toArray) trivial p2.isList fun h' hz hTI hTO h1 h2 hsz hk => wpAny_pyIter_zip hz ?_
      have I2 : Inv X pins σ H1 { s1 with heap := h' } := I1.kept (t' := s1.toks) hk
      refine ⟨s1.heap.objs.size + 4, [s1.heap.objs.size + 4, s1.heap.objs.size + 2, s1.heap.objs.size + 3, s1.heap.objs.size, s1.heap.objs.size + 1], _, _, H1, rfl, I2, turn_zipSL (x := x) (t := t) (zip_sep2 (fp1 := []) (fp2 := [b]) (fun b hb => nomatch hb) (fun c hc => by
        have e : c = b := by simpa using hc
        subst e
        exact lb)), ⟨hz, hTI, ⟨.none, .none, hTO⟩, ⟨_, h1, rfl, rfl⟩, ⟨_, h2, rfl, rfl⟩⟩, fun c hcm => ?_, q⟩
      have e' : c = s1.heap.objs.size + 4 ∨ c = s1.heap.objs.size + 2 ∨ c = s1.heap.objs.size + 3 ∨ c = s1.heap.objs.size ∨ c = s1.heap.objs.size + 1 := by simpa using hcm
      have hle : s1.heap.objs.size ≤ c := by
        rcases e' with z | z | z | z | z
        · rw [z]; exact Nat.le_add_right _ _
        · rw [z]; exact Nat.le_add_right _ _
        · rw [z]; exact Nat.le_add_right _ _
        · rw [z]; exact Nat.le_refl _
        · rw [z]; exact Nat.le_add_right _ _
      exact I1.fpOk hle (I1.hok.fresh hle)
section
variable {X : Cx} {ρ : List Sl} {a b : Expr} {ys : List D} {pos p : Pos}
theorem ji_zipS {t : Str} {elts : List Expr} {kk : Nat} {tpos : Pos} (hm : X.mg "zip" = none) (ha : JD X ρ a (.str t)) (hb : JD X ρ b (.lst ys)) (hl : t.cps.size = ys.length) (hg : Gl X "zip" := by rfl) (hs : starEach [a, b] X.env = (false, eval a X.env) :: starEach [b] X.env := by rfl) (hs2 : starEach [b] X.env = (false, eval b X.env) :: starEach [] X.env := by rfl) (hpl : (backTo pos (starEach [b] X.env)).any (·.1) = false := by rfl) :
    JI X ρ (.Tuple elts kk tpos) (.Call (.Name "zip" p) [a, b] [] pos) (zipD (t.cps.toList.map fun c => .str ⟨#[c]⟩) ys) ocT := fun G0 H0 G H σ E R r =>
  wI.of (pi_zipSL hg hm (pa_cons peW (pa_cons peW pa_nil hs2) hs) hs hpl) (ha G0 H0 G H σ E _ fun v G1 H1 g1 i1 => hb G0 H0 G1 H1 σ (E.grow g1) _ fun w G2 H2 g2 i2 => by
    cases i1
    obtain ⟨m, us, rfl, h3, h4⟩ := i2
    have hl2 := h4.len
    refine ⟨t, m, us, rfl, SqL.of (g2.sub _ _ h3), r _ G2 H2 (fun G3 H3 => Same G2 G3 ∧ H3 m = some (.lst us)) (g1.trans g2) (fun G3 H3 σ3 ρ3 E3 s _ => ⟨s, E3.sub _ _ (s _ _ h3)⟩) ⟨fun G3 H3 s _ => ?_, fun G3 H3 j d s sub e => ?_⟩⟩
    · refine ⟨us, SqL.of s.2, ?_, ?_⟩
      · simp only [zipD, List.length_map, List.length_zip, Array.length_toList]
        omega
      · simp only [zipD, List.length_map, List.length_zip, Array.length_toList]
        omega
    · obtain ⟨x, y, q1, q2, rfl⟩ := zipD_get e
      obtain ⟨w, e3, e4⟩ := h4.get q2
      rw [List.getElem?_map] at q1
      cases qc : t.cps.toList[j]? with
      | none =>
        rw [qc] at q1
        cases q1
      | some c =>
        rw [qc] at q1
        have ex : D.str ⟨#[c]⟩ = x := Option.some.inj q1
        subst ex
        have hj : j < t.cps.size := by
          obtain ⟨h, _⟩ := List.getElem?_eq_some_iff.mp qc
          simpa using h
        have qa : t.cps[j]? = some c := by simpa using qc
        exact ⟨⟨us, w, SqL.of s.2, hj, e3⟩, fun z H' y' => by
          obtain ⟨T, c', u2, rfl, nT, rfl, f1, f2⟩ := y'
          rw [qa] at f1
          cases f1
          have ex2 : u2 = w := Option.some.inj ((f2 us (SqL.of s.2)).symm.trans e3)
          subst ex2
          have k := s.1.trans (same_upd (o := .tup [.str ⟨#[c]⟩, u2]) (sub.free nT))
          exact ⟨upd G3 T (.tup [.str ⟨#[c]⟩, u2]), Grow.new sub nT, T, _, rfl, upd_same, IsDs.cons rfl (IsDs.cons (e4.mono k) IsDs.nil)⟩⟩)
end
end DL
-- DL7
/-! Comprehensions, statements. -/
namespace DL
open PySem PySem.Spec PyProof.Rows L2

/-! ### list comprehensions -/
/-- in every block of the comprehension -/
def Blk (X : Cx) (scope : Scope) (P : Cx → Prop) : Prop := ∀ (s : Shared) (H : Hp) (C : Addr) (cl : List (Str × Addr)) (fp : List Addr), P (X.blk s H scope (compEnvC scope cl C X.env) fp)
/-- from the items to what is made -/
def Comp (X : Cx) (scope : Scope) (vs : List Nat) (tg : Expr) (ifs : List Expr) (elt : Expr) (ρw : List Sl) : List D → List D → Prop
  | [], out => out = []
  | d :: ds, out => ∃ ρ1 is b, (∀ i ∈ is, i ∈ vs) ∧ Blk X scope (fun B => JG B ρw tg d ρ1 is) ∧ Blk X scope (fun B => JTs B ρ1 ifs b) ∧
      ((b = true ∧ ∃ y out', Blk X scope (fun B => JD B ρ1 elt y) ∧ out = y :: out' ∧ Comp X scope vs tg ifs elt ρw ds out') ∨ (b = false ∧ Comp X scope vs tg ifs elt ρw ds out))
section
variable {X : Cx} {ρ ρ1 ρ' : List Sl} {e a b o tg iter elt : Expr} {es rest ts ifs : List Expr} {d x y : D} {ds xs ys out : List D} {pos p apos : Pos} {c c2 : Bool} {is js vs : List Nat} {scope : Scope}
theorem jts_nil : JTs X ρ [] true := fun G0 H0 G H σ E Q q => wTs.of pts_nil (q G H (Grow.refl E.sub))
theorem jts_one (h : JT X ρ e c) : JTs X ρ [e] c := fun G0 H0 G H σ E Q q => wTs.of (pts_one ptW) (h G0 H0 G H σ E Q q)
def gAll (X : Cx) (scope : Scope) (tg : Expr) : TG := fun v σ H Q => ∀ (s : Shared) (H' : Hp) (C : Addr) (cl : List (Str × Addr)) (fp : List Addr), wG (X.blk s H' scope (compEnvC scope cl C X.env) fp) tg v σ H Q
def tAll (X : Cx) (scope : Scope) (ifs : List Expr) : TT := fun σ H Q => ∀ (s : Shared) (H' : Hp) (C : Addr) (cl : List (Str × Addr)) (fp : List Addr), wTs (X.blk s H' scope (compEnvC scope cl C X.env) fp) ifs σ H Q
def eAll (X : Cx) (scope : Scope) (e : Expr) : TE := fun σ H Q => ∀ (s : Shared) (H' : Hp) (C : Addr) (cl : List (Str × Addr)) (fp : List Addr), wE (X.blk s H' scope (compEnvC scope cl C X.env) fp) e σ H Q
/-- the comprehension's reading -/
theorem comp_run {G0 H0 G H : Hp} {σ : L2.St} (hi : JI X ρ tg iter ds ocT) (hC : Comp X scope vs tg ifs elt (wipeS ρ vs) ds out) (hout : out.length ≤ 100000) (E : EnvS X.K G0 H0 G H σ ρ) {Q : VK}
    (q : ∀ p us G2 H2, Grow G H G2 H2 → H p = none → G2 p = none → H2 p = some (.lst us) → IsDs X.K G2 out us → Q (.ref p) H2) : tLc (wI X tg iter) (gAll X scope tg) (tAll X scope ifs) (eAll X scope elt) vs σ H Q := by
  refine hi G0 H0 G H σ E _ fun J G1 H1 S g1 hS hJ => ?_
  intro L hL
  refine ⟨fun i m H' => ∃ G' accD rest acc, Grow G1 H1 G' H' ∧ H' L = some (.lst acc) ∧ G' L = none ∧ IsDs X.K G' accD acc ∧ Comp X scope vs tg ifs elt (wipeS ρ vs) (ds.drop i) rest ∧ out = accD ++ rest ∧ i ≤ ds.length ∧ m = ds.length - i, ⟨_, G1, [], out, [], ⟨Same.refl _, same_upd hL, fun b o e => ?_, fun a o e => .inl e⟩, upd_same, g1.sub.free hL, rfl, hC, rfl, Nat.zero_le _, rfl⟩, ?_⟩
  · rw [upd_ne (ne_of_none e (g1.sub.free hL))]
    exact g1.sub b o e
  rintro i m H' ⟨G', accD, rest, acc, g, hacc, hGL, hA, hR, ho, hle, rfl⟩
  have E' : EnvS X.K G0 H0 G' H' σ ρ := E.grow (g1.trans g)
  have hS' : S G' H' := hS G' H' σ ρ E' g.g trivial
  by_cases hlt : i < ds.length
  · obtain ⟨d, hd⟩ : ∃ d, ds[i]? = some d := ⟨ds[i], by simp [hlt]⟩
    obtain ⟨hgo, hy⟩ := hJ.go G' H' i d hS' g.sub hd
    have hdrop : ds.drop i = d :: ds.drop (i + 1) := by
      rw [List.drop_eq_getElem_cons hlt]
      obtain ⟨_, e2⟩ := List.getElem?_eq_some_iff.mp hd
      rw [e2]
    rw [hdrop] at hR
    obtain ⟨ρ1, is, b, his, hG, hT, hE⟩ := hR
    refine .inr ⟨hgo, fun H'' => ∃ G' accD rest acc, Grow G1 H1 G' H'' ∧ H'' L = some (.lst acc) ∧ G' L = none ∧ IsDs X.K G' accD acc ∧ Comp X scope vs tg ifs elt (wipeS ρ vs) (ds.drop (i + 1)) rest ∧ out = accD ++ rest, fun H'' hN => ?_, fun x H2 hx => ?_⟩
    · obtain ⟨G2, a1, a2, a3, b1, b2, b3, b4, b5, b6⟩ := hN
      exact ⟨ds.length - (i + 1), by omega, G2, a1, a2, a3, b1, b2, b3, b4, b5, b6, hlt, rfl⟩
    · obtain ⟨G2, g2, hxd⟩ := hy x H2 hx
      have hGL2 : G2 L = none := by
        cases z : G2 L with
        | none => rfl
        | some o =>
          rcases g2.fr L o z with w | w
          · rw [hGL] at w
            cases w
          · rw [hacc] at w
            cases w
      have Ew : EnvS X.K G0 H0 G2 H2 (wipe σ vs) (wipeS ρ vs) := (E'.grow g2).wipe vs
      intro s Hs C cl fp
      refine hG s Hs C cl fp G0 H0 G2 H2 (wipe σ vs) x Ew hxd _ fun σ1 E1 hw => ⟨?_, ?_⟩
      · rw [hw vs his]
        apply List.ext_getElem?
        intro j
        rw [wipe_at, wipe_at, wipe_length]
        by_cases hj : j ∈ vs ∧ j < σ.length
        · rw [if_pos hj, if_pos hj]
        · rw [if_neg hj]
      · intro s' Hs' C' cl' fp'
        refine hT s' Hs' C' cl' fp' G0 H0 G2 H2 σ1 E1 _ fun G3 H3 g3 => ?_
        have fin : ∀ {G4 H4 : Hp}, Grow G2 H2 G4 H4 → Grow G1 H1 G4 H4 ∧ H4 L = some (.lst acc) ∧ G4 L = none ∧ IsDs X.K G4 accD acc := fun {G4 H4} g4 => by
          refine ⟨(g.trans g2).trans g4, g4.h _ _ (g2.h _ _ hacc), ?_, hA.mono (g2.g.trans g4.g)⟩
          cases z : G4 L with
          | none => rfl
          | some o =>
            rcases g4.fr L o z with w | w
            · rw [hGL2] at w
              cases w
            · rw [g2.h _ _ hacc] at w
              cases w
        rcases hE with ⟨rfl, y, out', hyE, rfl, hC'⟩ | ⟨rfl, hC'⟩
        · rw [if_pos rfl]
          intro s2 Hs2 C2 cl2 fp2
          refine hyE s2 Hs2 C2 cl2 fp2 G0 H0 G3 H3 σ1 (E1.grow g3) _ fun v G4 H4 g4 hv => ?_
          obtain ⟨f1, f2, f3, f4⟩ := fin (g3.trans g4)
          have hal : acc.length < 100000 := by
            rw [f4.len]
            rw [ho, List.length_append, List.length_cons] at hout
            omega
          refine ⟨acc, f2, sz_lt hal, G4, accD ++ [y], out', acc ++ [v], ⟨f1.g, fun b o e => ?_, fun b o e => ?_, f1.fr⟩, upd_same, f3, f4.app (IsDs.cons hv IsDs.nil), hC', by rw [ho, List.append_assoc]; rfl⟩
          · rw [upd_ne (ne_of_none e hL)]
            exact f1.h b o e
          · rw [upd_ne (ne_of_none e f3)]
            exact f1.sub b o e
        · rw [if_neg Bool.false_ne_true]
          obtain ⟨f1, f2, f3, f4⟩ := fin g3
          exact ⟨G3, accD, rest, acc, f1, f2, f3, f4, hC', ho⟩
  · have hi' : i = ds.length := by omega
    subst hi'
    rw [List.drop_length] at hR
    have hR : rest = [] := hR
    subst hR
    rw [List.append_nil] at ho
    subst ho
    have hL0 : H L = none := g1.h.free hL
    exact .inl ⟨hJ.stop G' H' hS' g.sub, q L acc G' H' (g1.trans g) hL0 hGL hacc hA⟩
/-- the comprehension as a value -/
theorem je_comp {own : List (Str × Nat)} (hc : X.calm = true) (hN : X.N.Nodup) (hi : JI X ρ tg iter ds ocT) (ok : BlkOk X.N X.env.scope scope own) (hC : Comp X scope (own.map (·.2)) tg ifs elt (wipeS ρ (own.map (·.2))) ds out) (hout : out.length ≤ 100000)
    (hs : ∀ x, foldedSetIterable iter X.env x = pure x := by intro _; rfl) : JD X ρ (.ListComp elt [⟨tg, iter, ifs, 0⟩] scope pos) (.lst out) := fun G0 H0 G H σ E Q q =>
  wE.of (pe_lc (own := own) hc hN piW ok (g := gAll X scope tg) (tt := tAll X scope ifs) (te := eAll X scope elt) (fun s H' C cl fp => ⟨fun pins s1 σ H v u Q I r h => (h s H' C cl fp).run pins s1 u I r⟩) (fun s H' C cl fp => ⟨fun pins s1 σ H Q I h => (h s H' C cl fp).run pins s1 I⟩) (fun s H' C cl fp => ⟨fun pins s1 σ H Q I h => (h s H' C cl fp).run pins s1 I⟩) hs)
    (comp_run hi hC hout E fun p us G2 H2 g hp hGp hH hD => by
      have sb : Same (upd G2 p (.lst us)) H2 := fun b o e => by
        by_cases hb : b = p
        · subst hb
          rw [upd_same] at e
          rw [hH, e]
        · rw [upd_ne hb] at e
          exact g.sub b o e
      refine q _ (upd G2 p (.lst us)) H2 ⟨g.g.trans (same_upd hGp), g.h, sb, fun a o e => ?_⟩ ⟨p, us, rfl, upd_same, hD.mono (same_upd hGp)⟩
      by_cases ha : a = p
      · subst ha
        exact .inr hp
      · rw [upd_ne ha] at e
        exact g.fr a o e)
end

/-! ### statements -/
inductive Oc where
  | nx (ρ : List Sl)
  | rt (d : D)
def Post (K : PySem.W.Frag) (G0 H0 G : Hp) (o : Oc) (T : Ends) : Prop := match o with
  | .nx ρ' => ∀ σ' G' H', EnvS K G0 H0 G' H' σ' ρ' → Same G G' → T.nx σ' H'
  | .rt d => ∀ v G' H', Grow G0 H0 G' H' → IsD K G' d v → T.rt v H'
theorem Post.mono {K : PySem.W.Frag} {G0 H0 G G1 : Hp} {o : Oc} {T : Ends} (t : Post K G0 H0 G o T) (s : Same G G1) : Post K G0 H0 G1 o T := by
  cases o with
  | nx ρ => exact fun σ' G' H' E s' => t σ' G' H' E (s.trans s')
  | rt d => exact t
def JS (X : Cx) (ρ : List Sl) (st : Stmt) (o : Oc) : Prop := ∀ (G0 H0 G H : Hp) (σ : L2.St), EnvS X.K G0 H0 G H σ ρ → ∀ T : Ends, Post X.K G0 H0 G o T → wS X st T σ H
def JB (X : Cx) (ρ : List Sl) (sts : List Stmt) (o : Oc) : Prop := ∀ (G0 H0 G H : Hp) (σ : L2.St), EnvS X.K G0 H0 G H σ ρ → ∀ T : Ends, Post X.K G0 H0 G o T → wB X sts T σ H
section
variable {X : Cx} {ρ ρ1 ρ' : List Sl} {e a b o tg iter elt : Expr} {es ts ifs : List Expr} {st : Stmt} {rest body els : List Stmt} {d x y : D} {ds xs ys out : List D} {pos p apos : Pos} {c c2 : Bool} {is js vs : List Nat} {scope : Scope} {oc : Oc}
theorem jb_nil : JB X ρ [] (.nx ρ) := fun G0 H0 G H σ E T t => wB.of pss_nil (t σ G H E (Same.refl _))
theorem jb_cons (h1 : JS X ρ st (.nx ρ1)) (h2 : JB X ρ1 rest oc) : JB X ρ (st :: rest) oc := fun G0 H0 G H σ E T t =>
  wB.of (pss_cons psW pbW) (h1 G0 H0 G H σ E _ fun σ' G' H' E' s => h2 G0 H0 G' H' σ' E' T (t.mono s))
theorem jb_stop (h1 : JS X ρ st (.rt d)) : JB X ρ (st :: rest) (.rt d) := fun G0 H0 G H σ E T t =>
  wB.of (pss_cons psW pss_never) (h1 G0 H0 G H σ E _ t)
/-- the last statement -/
theorem jb_one (h1 : JS X ρ st oc) : JB X ρ [st] oc := fun G0 H0 G H σ E T t => wB.of (pss_one psW) (h1 G0 H0 G H σ E T t)
/-- an own list is a datum from here on -/
theorem jb_freeze (i : Nat) {l : Addr} (hρ : ρ[i]? = some (Sl.own l xs)) (h : JB X (ρ.set i (.d (.lst xs))) rest oc) : JB X ρ rest oc := fun G0 H0 G H σ E T t => by
  obtain ⟨G2, s, E2⟩ := E.freeze hρ
  exact h G0 H0 G2 H σ E2 T (t.mono s)
theorem js_ret (h : JD X ρ e d) : JS X ρ (.Return (some e) pos) (.rt d) := fun G0 H0 G H σ E T t =>
  wS.of (ps_ret peW) (h G0 H0 G H σ E _ fun v G2 H2 g i => t v G2 H2 (E.toGrow.trans g) i)
theorem js_expr (h : JD X ρ e d) (hs : swapsWith e none pos.line X.env = pure false := by rfl) : JS X ρ (.Expr e pos) (.nx ρ) := fun G0 H0 G H σ E T t =>
  wS.of (ps_expr peW hs) (h G0 H0 G H σ E _ fun v G2 H2 g i => t σ G2 H2 (E.grow g) g.g)
theorem js_set (i : Nat) {n : Str} {pos' : Pos} (hN : X.N.Nodup) (h : JD X ρ e d) (hi : X.N[i]? = some n := by rfl) (hx : Loc X.env.scope n := by first | exact Or.inl rfl | exact Or.inr rfl) (hs : swapsWith e (some (.Name n pos')) pos.line X.env = pure false := by rfl)
    (hf : X.fn n = true ∨ X.env.scope.names.lookup n = some .local := by first | exact .inl rfl | exact .inr rfl) : JS X ρ (.Assign [.Name n pos'] e pos) (.nx (ρ.set i (.d d))) := fun G0 H0 G H σ E T t =>
  wS.of (ps_set hN hi hx peW hs hf) (h G0 H0 G H σ E _ fun v G2 H2 g j => t _ G2 H2 ((E.grow g).set i j) g.g)
theorem js_asg (h : JD X ρ e d) (hg : JG X ρ tg d ρ' is) (hs : swapsWithSole [tg] e pos.line X.env = pure false := by rfl) (hw : swappedStores [tg] e X.env = pure none := by rfl) (h1 : (assignEach [tg] X.env).map (·.2) = [assign tg X.env] := by rfl) : JS X ρ (.Assign [tg] e pos) (.nx ρ') := fun G0 H0 G H σ E T t =>
  wS.of (ps_asg peW pgW hs hw h1) (h G0 H0 G H σ E _ fun v G2 H2 g j => hg G0 H0 G2 H2 σ v (E.grow g) j _ fun σ' E' _ => t σ' G2 H2 E' g.g)
theorem js_par (i j : Nat) {n m : Str} {px py pt : Pos} {kt k2 : Nat} {pt2 : Pos} (hN : X.N.Nodup) (hc : X.calm = true) (h1 : JD X ρ a x) (h2 : JD X ρ b y) (hij : i ≠ j := by decide) (hi : X.N[i]? = some n := by rfl) (hj : X.N[j]? = some m := by rfl) (hx : X.env.scope.names.lookup n = some .local := by rfl) (hy : X.env.scope.names.lookup m = some .local := by rfl)
    (hs1 : starEach [a, b] X.env = (false, eval a X.env) :: starEach [b] X.env := by rfl) (hs2 : starEach [b] X.env = (false, eval b X.env) :: starEach [] X.env := by rfl)
    (hw : swappedStores [.Tuple [.Name n px, .Name m py] kt pt] (.Tuple [a, b] k2 pt2) X.env = pure (some [n, m]) := by rfl) (hs : swapsWithSole [.Tuple [.Name n px, .Name m py] kt pt] (.Tuple [a, b] k2 pt2) pos.line X.env = pure false := by rfl) :
    JS X ρ (.Assign [.Tuple [.Name n px, .Name m py] kt pt] (.Tuple [a, b] k2 pt2) pos) (.nx ((ρ.set i (.d x)).set j (.d y))) := fun G0 H0 G H σ E T t =>
  wS.of (ps_par hc hN hi hj hij hx hy (pa_cons peW (pa_cons peW pa_nil hs2) hs1) hw hs) (h1 G0 H0 G H σ E _ fun v G1 H1 g1 i1 => h2 G0 H0 G1 H1 σ (E.grow g1) _ fun w G2 H2 g2 i2 => ⟨v, w, rfl, t _ G2 H2 (((E.grow (g1.trans g2)).set i (i1.mono g2.g)).set j i2) (g1.trans g2).g⟩)
/-- x += e, x -= e on ints -/
theorem js_aug (i : Nat) {n : Str} {pos' : Pos} {op : Operator} {f : Int → Int → Int} {k m : Int} (hN : X.N.Nodup) (ho : PIp X op (ipI f)) (hρ : ρ[i]? = some (Sl.d (.int k))) (h : JD X ρ e (.int m)) (hi : X.N[i]? = some n := by rfl) (hx : Loc X.env.scope n := by first | exact Or.inl rfl | exact Or.inr rfl)
    (hf : X.fn n = true ∨ X.env.scope.names.lookup n = some .local := by first | exact .inl rfl | exact .inr rfl) : JS X ρ (.AugAssign (.Name n pos') op e pos) (.nx (ρ.set i (.d (.int (f k m))))) := fun G0 H0 G H σ E T t => by
  obtain ⟨v, h1, h2⟩ := E.ok i _ hρ
  cases h2
  exact wS.of (ps_aug hN hi hx peW ho hf) ⟨_, h1, h G0 H0 G H σ E _ fun w G2 H2 g j => by
    cases j
    exact ⟨k, m, rfl, rfl, t _ G2 H2 ((E.grow g).set i rfl) g.g⟩⟩

/-! ### own lists -/
/-- the expression gives a new list, that nothing else knows -/
def JN (X : Cx) (ρ : List Sl) (e : Expr) (xs : List D) : Prop := ∀ (G0 H0 G H : Hp) (σ : L2.St), EnvS X.K G0 H0 G H σ ρ → ∀ Q : VK, (∀ p vs G2 H2, Grow G H G2 H2 → H p = none → G2 p = none → H2 p = some (.lst vs) → IsDs X.K G2 xs vs → Q (.ref p) H2) → wE X e σ H Q
theorem new_own {K : PySem.W.Frag} {G H G1 H1 : Hp} {Q : VK} {ds : List D} {vs : List V} {p : Addr} (g1 : Grow G H G1 H1) (q : ∀ p vs G2 H2, Grow G H G2 H2 → H p = none → G2 p = none → H2 p = some (.lst vs) → IsDs K G2 ds vs → Q (.ref p) H2) (i1 : IsDs K G1 ds vs) (np : H1 p = none) : Q (.ref p) (upd H1 p (.lst vs)) :=
  q p vs G1 _ ⟨g1.g, g1.h.trans (same_upd np), fun b o e => by
    rw [upd_ne (ne_of_none e (g1.sub.free np))]
    exact g1.sub b o e, g1.fr⟩ (g1.h.free np) (g1.sub.free np) upd_same i1
theorem jn_lst (h : JA X ρ es ds) (hl : ds.length ≤ sizeLine := by decide) : JN X ρ (.List es pos) ds := fun G0 H0 G H σ E Q q =>
  wE.of (pe_lst paW) (h G0 H0 G H σ E _ fun vs G1 H1 g1 i1 => ⟨by rw [i1.len]; exact hl, fun p np => new_own g1 q i1 np⟩)
theorem jn_rep {k : Int} (ha : JD X ρ a (.lst xs)) (hb : JD X ρ b (.int k)) (h0 : -(2 ^ 63) ≤ k) (h1 : k < 2 ^ 63) (hl : xs.length * k.toNat ≤ sizeLine) : JN X ρ (.BinOp a .Mult b pos) (List.replicate k.toNat xs).flatten := fun G0 H0 G H σ E Q q =>
  wE.of (pe_op op_rep peW peW) (JD.two ha hb E fun v u G2 H2 g i1 i2 => by
    obtain ⟨p, vs, rfl, e1, e2⟩ := i1
    cases i2
    exact ⟨p, k, vs, rfl, rfl, g.sub _ _ e1, h0, h1, by rw [e2.len]; exact hl, fun r nr => new_own g q (e2.rep _) nr⟩)
theorem jn_cat (ha : JD X ρ a (.lst xs)) (hb : JD X ρ b (.lst ys)) (hl : xs.length + ys.length ≤ sizeLine) : JN X ρ (.BinOp a .Add b pos) (xs ++ ys) := fun G0 H0 G H σ E Q q =>
  wE.of (pe_op op_cat peW peW) (JD.two ha hb E fun v u G2 H2 g i1 i2 => by
    obtain ⟨p, vs, rfl, h1, h2⟩ := i1
    obtain ⟨p', us, rfl, h3, h4⟩ := i2
    exact ⟨p, p', vs, us, rfl, rfl, g.sub _ _ h1, g.sub _ _ h3, by rw [h2.len, h4.len]; exact hl, fun r nr => new_own g q (h2.app h4) nr⟩)
theorem jn_list (hm : X.mg "list" = none) (ha : JD X ρ a (.lst xs)) (hg : Gl X "list" := by rfl) (hs : starEach [a] X.env = (false, eval a X.env) :: starEach [] X.env := by rfl) (hpl : (backTo pos (starEach [] X.env)).any (·.1) = false := by rfl) : JN X ρ (.Call (.Name "list" p) [a] [] pos) xs := fun G0 H0 G H σ E Q q =>
  wE.of (pe_callTy call_list_of hg hm (by decide +kernel) (pa_cons peW pa_nil hs) (he := hs) (hpl := hpl)) (ha G0 H0 G H σ E _ fun v G1 H1 g1 i1 => by
    obtain ⟨b, us, rfl, e1, e2⟩ := i1
    exact ⟨b, us, rfl, .inl (SqL.of (g1.sub _ _ e1)), fun z nz => new_own g1 q e2 nz⟩)
/-- x = a new list of one's own -/
theorem jb_own (i : Nat) {n : Str} {pos' : Pos} (hN : X.N.Nodup) (h : JN X ρ e xs) (hr : ∀ l, JB X (ρ.set i (.own l xs)) rest oc) (hi : X.N[i]? = some n := by rfl) (hx : Loc X.env.scope n := by first | exact Or.inl rfl | exact Or.inr rfl) (hs : swapsWith e (some (.Name n pos')) pos.line X.env = pure false := by rfl)
    (hf : X.fn n = true ∨ X.env.scope.names.lookup n = some .local := by first | exact .inl rfl | exact .inr rfl) : JB X ρ (.Assign [.Name n pos'] e pos :: rest) oc := fun G0 H0 G H σ E T t =>
  wB.of (pss_cons (ps_set hN hi hx peW hs hf) pbW) (h G0 H0 G H σ E _ fun p vs G2 H2 g hp hGp hH hD => hr p G0 H0 G2 H2 _ ((E.grow g).setOwn i hH hGp (E.h0.free hp) hD fun j l' ys hj e => by
    subst e
    obtain ⟨_, _, _, us, h4, _⟩ := E.own j l' ys hj
    rw [hp] at h4
    cases h4) T (t.mono g.g))
/-- x.append(e) -/
theorem js_append (i : Nat) {n : Str} {p0 apos cpos : Pos} {l : Addr} (hρ : ρ[i]? = some (Sl.own l xs)) (h : JD X ρ e d) (hl : xs.length < sizeLine) (hN : X.N[i]? = some n := by rfl) (hv : Vis X.env.scope n := by first | exact Or.inl rfl | exact Or.inr (Or.inl rfl) | exact Or.inr (Or.inr rfl)) (hd : (n == ("__debug__" : Str)) = false := by decide)
    (hcd : (n == ("__classdict__" : Str)) = false := by decide) (hst : starEach [e] X.env = (false, eval e X.env) :: starEach [] X.env := by rfl)
    (hpe : ∀ {r : V → List V → Hp → VK → Prop}, MtR X "list.append" r → PE X (.Call (.Attribute (.Name n p0) "append" apos) [e] [] cpos) (tBM X.K "list" r (tVar i) (tCons (wE X e) tNil)) := by
      exact fun hm => pe_bm PySem.F.plainAttrs_list PySem.F.slot_list_append PySem.F.type_list_append hm (pe_var (by rfl) (by first | exact Or.inl rfl | exact Or.inr (Or.inl rfl))) (pa_cons peW pa_nil))
    (hs : swapsWith (.Call (.Attribute (.Name n p0) "append" apos) [e] [] cpos) none pos.line X.env = pure false := by rfl) : JS X ρ (.Expr (.Call (.Attribute (.Name n p0) "append" apos) [e] [] cpos) pos) (.nx (ρ.set i (.own l (xs ++ [d])))) := fun G0 H0 G H σ E T t => by
  obtain ⟨h1, h2, h3, vs, h4, h5⟩ := E.own i l xs hρ
  refine wS.of (ps_expr (hpe mt_append) hs) ⟨_, h1, .inl ⟨rfl, _, .inl (.inl h4)⟩, h G0 H0 G H σ E _ fun v G2 H2 g j => ?_⟩
  refine ⟨l, vs, v, rfl, rfl, g.h _ _ h4, by rw [h5.len]; exact hl, t _ G2 _ ((E.grow g).chg hρ ((h5.mono g.g).app (IsDs.cons j IsDs.nil))) g.g⟩
/-- x[k] = e -/
theorem js_setIx (i : Nat) {n : Str} {p0 : Pos} {l : Addr} {k : Int} {j : Nat} (hρ : ρ[i]? = some (Sl.own l xs)) (h : JD X ρ e d) (hb : JD X ρ b (.int k)) (hj : ixN xs.length k = some j) (hN : X.N[i]? = some n := by rfl) (hv : Vis X.env.scope n := by first | exact Or.inl rfl | exact Or.inr (Or.inl rfl) | exact Or.inr (Or.inr rfl)) (hd : (n == ("__debug__" : Str)) = false := by decide)
    (hcd : (n == ("__classdict__" : Str)) = false := by decide) (ha : ∀ v, assign (.Subscript (.Name n p0) b p) X.env v = (do
      let ov ← holding [v] (eval (.Name n p0) X.env)
      let iv ← holding [v, ov] (eval b X.env)
      standAt p
      holding [v, ov, iv] (setItem ov iv v)
      release [v, ov, iv] []) := by intro _; rfl)
    (hs : swapsWithSole [.Subscript (.Name n p0) b p] e pos.line X.env = pure false := by rfl) (hw : swappedStores [.Subscript (.Name n p0) b p] e X.env = pure none := by rfl) (h1 : (assignEach [.Subscript (.Name n p0) b p] X.env).map (·.2) = [assign (.Subscript (.Name n p0) b p) X.env] := by rfl) :
    JS X ρ (.Assign [.Subscript (.Name n p0) b p] e pos) (.nx (ρ.set i (.own l (xs.set j d)))) := fun G0 H0 G H σ E T t => by
  refine wS.of (ps_asg peW (pg_sub (pe_var hN hv hd hcd) peW set_list ha) hs hw h1) (h G0 H0 G H σ E _ fun v G1 H1 g1 i1 => ?_)
  obtain ⟨h1, h2, h3, vs, h4, h5⟩ := (E.grow g1).own i l xs hρ
  refine ⟨_, h1, hb G0 H0 G1 H1 σ (E.grow g1) _ fun w G2 H2 g2 i2 => ?_⟩
  cases i2
  exact ⟨l, vs, k, j, rfl, rfl, g2.h _ _ h4, by rw [h5.len]; exact hj, t _ G2 _ (((E.grow g1).grow g2).chg hρ ((h5.mono g2.g).set j (i1.mono g2.g))) (g1.g.trans g2.g)⟩
theorem pget_list : PGet X (rIxL X.K) := by
  intro pins s σ H x y v u Q I rx ry h
  obtain ⟨p, xs, i, z, rfl, rfl, hq, he, q⟩ := h
  cases rx
  obtain ⟨t, rfl⟩ := ry
  obtain ⟨its, r, pl, hz⟩ := I.list hq
  obtain ⟨j, h1, h2, h3, h4, h5⟩ := atI_get he
  obtain ⟨w, ew, rw'⟩ := r.get h2
  have hl := r.length
  have hn := line63
  have fin : EP X pins σ Q w s := ⟨z, H, I, rw', q⟩
  by_cases h0 : 0 ≤ i
  · have hj : i.toNat = j := by
      rw [seqIndex_of h0 h5] at h1
      exact Option.some.inj h1
    exact wpAny_getItem_list pl.isList h0 (by omega) (by rw [hj]; simpa using ew) fin
  · have hj : (i + (its.toArray.size : Int)).toNat = j := by
      rw [seqIndex_neg (by omega) h4] at h1
      rw [List.size_toArray, ← hl]
      exact Option.some.inj h1
    exact wpAny_getItem_list_neg pl.isList (by omega) (by rw [List.size_toArray] <;> omega) (by omega) (by rw [hj]; simpa using ew) fin
/-- x[k] op= e -/
theorem js_augIx (i : Nat) {n : Str} {p0 : Pos} {l : Addr} {k : Int} {j : Nat} {op : Operator} {tip : TIp} {z : D} (hp : PIp X op tip) (hk : ∀ (v u : V) (G H : Hp) (Q : VK), Same G H → IsD X.K G x v → IsD X.K G y u → (∀ w, IsD X.K G z w → Q w H) → tip v u H Q)
    (hρ : ρ[i]? = some (Sl.own l xs)) (hb : JD X ρ b (.int k)) (hj : ixN xs.length k = some j) (hx : xs[j]? = some x) (h : JD X ρ e y) (hN : X.N[i]? = some n := by rfl) (hv : Vis X.env.scope n := by first | exact Or.inl rfl | exact Or.inr (Or.inl rfl) | exact Or.inr (Or.inr rfl)) (hd : (n == ("__debug__" : Str)) = false := by decide)
    (hcd : (n == ("__classdict__" : Str)) = false := by decide)
    (ha : ∀ ov iv new, augStore b ov iv new = (do holding [new, ov, iv] (setItem ov iv new); release [new, ov, iv] []; pure .next) := by intros; rfl) :
    JS X ρ (.AugAssign (.Subscript (.Name n p0) b p) op e pos) (.nx (ρ.set i (.own l (xs.set j z)))) := fun G0 H0 G H σ E T t => by
  obtain ⟨h1, h2, h3, vs, h4, h5⟩ := E.own i l xs hρ
  refine wS.of (ps_augS (pe_var hN hv hd hcd) peW pget_list peW hp set_list ha) ⟨_, h1, hb G0 H0 G H σ E _ fun w G1 H1 g1 i1 => ?_⟩
  cases i1
  obtain ⟨v, e1, e2⟩ := h5.get hx
  have ea : atI vs k = some v := by
    unfold atI
    rw [h5.len, hj]
    exact e1
  refine ⟨l, vs, k, v, rfl, rfl, SqL.of (g1.h _ _ h4), ea, h G0 H0 G1 H1 σ (E.grow g1) _ fun u G2 H2 g2 i2 => ?_⟩
  refine hk v u G2 H2 _ g2.sub (e2.mono (g1.trans g2).g) i2 fun w hw => ?_
  exact ⟨l, vs, k, j, rfl, rfl, g2.h _ _ (g1.h _ _ h4), by rw [h5.len]; exact hj, t _ G2 _ ((E.grow (g1.trans g2)).chg hρ ((h5.mono (g1.trans g2).g).set j hw)) (g1.trans g2).g⟩
theorem js_augSub {n : Str} (i : Nat) {p0 : Pos} {l : Addr} {k u v : Int} {j : Nat} (hρ : ρ[i]? = some (Sl.own l xs)) (hb : JD X ρ b (.int k)) (hj : ixN xs.length k = some j) (hx : xs[j]? = some (.int u)) (h : JD X ρ e (.int v)) (hN : X.N[i]? = some n := by rfl) (hv : Vis X.env.scope n := by first | exact Or.inl rfl | exact Or.inr (Or.inl rfl) | exact Or.inr (Or.inr rfl)) (hd : (n == ("__debug__" : Str)) = false := by decide)
    (hcd : (n == ("__classdict__" : Str)) = false := by decide) (ha : ∀ ov iv new, augStore b ov iv new = (do holding [new, ov, iv] (setItem ov iv new); release [new, ov, iv] []; pure .next) := by intros; rfl) :
    JS X ρ (.AugAssign (.Subscript (.Name n p0) b p) .Sub e pos) (.nx (ρ.set i (.own l (xs.set j (.int (u - v)))))) := js_augIx i ip_sub (fun v u G H Q s i1 i2 q => by
  cases i1
  cases i2
  exact ⟨_, _, rfl, rfl, q _ rfl⟩) hρ hb hj hx h hN hv hd hcd ha
theorem ip_addS : PIp X .Add (fun x y H Q => ∃ i j, x = .str i ∧ y = .str j ∧ i.length + j.length ≤ sizeLine ∧ Q (.str (i ++ j)) H) := fun pins s σ H x y v u Q I rx ry h => iop_add_str pins s σ H x y v u Q I rx ry h
theorem js_augStr {n : Str} (i : Nat) {p0 : Pos} {l : Addr} {k : Int} {u v : Str} {j : Nat} (hρ : ρ[i]? = some (Sl.own l xs)) (hb : JD X ρ b (.int k)) (hj : ixN xs.length k = some j) (hx : xs[j]? = some (.str u)) (h : JD X ρ e (.str v)) (hl : u.length + v.length ≤ sizeLine) (hN : X.N[i]? = some n := by rfl) (hv : Vis X.env.scope n := by first | exact Or.inl rfl | exact Or.inr (Or.inl rfl) | exact Or.inr (Or.inr rfl)) (hd : (n == ("__debug__" : Str)) = false := by decide)
    (hcd : (n == ("__classdict__" : Str)) = false := by decide) (ha : ∀ ov iv new, augStore b ov iv new = (do holding [new, ov, iv] (setItem ov iv new); release [new, ov, iv] []; pure .next) := by intros; rfl) :
    JS X ρ (.AugAssign (.Subscript (.Name n p0) b p) .Add e pos) (.nx (ρ.set i (.own l (xs.set j (.str (u ++ v)))))) := js_augIx i ip_addS (fun v u G H Q s i1 i2 q => by
  cases i1
  cases i2
  exact ⟨_, _, rfl, rfl, hl, q _ rfl⟩) hρ hb hj hx h hN hv hd hcd ha

/-! ### if, while, for -/
theorem js_ifT (h : JT X ρ e true) (h1 : JB X ρ body oc) : JS X ρ (.If e body els pos) oc := fun G0 H0 G H σ E T t =>
  wS.of (ps_if ptW pbW pss_never) (h G0 H0 G H σ E _ fun G2 H2 g => iteT (h1 G0 H0 G2 H2 σ (E.grow g) T (t.mono g.g)))
theorem js_ifF (h : JT X ρ e false) (h1 : JB X ρ els oc) : JS X ρ (.If e body els pos) oc := fun G0 H0 G H σ E T t =>
  wS.of (ps_if ptW pss_never pbW) (h G0 H0 G H σ E _ fun G2 H2 g => iteF (h1 G0 H0 G2 H2 σ (E.grow g) T (t.mono g.g)))
/-- if c: body, where the body comes through -/
theorem js_when (h : JT X ρ e c) (h1 : c = true → JB X ρ body (.nx ρ')) (h2 : c = false → ρ' = ρ) : JS X ρ (.If e body [] pos) (.nx ρ') := by
  cases c with
  | true => exact js_ifT h (h1 rfl)
  | false =>
    rw [h2 rfl]
    exact js_ifF h jb_nil
/-- if c: return .. -/
theorem jb_ifRet (h : JT X ρ e c) (h1 : c = true → JB X ρ body oc) (hr : c = true → ∃ d, oc = .rt d) (h2 : c = false → JB X ρ rest oc) : JB X ρ (.If e body [] pos :: rest) oc := by
  cases c with
  | true =>
    obtain ⟨d, rfl⟩ := hr rfl
    exact jb_stop (js_ifT h (h1 rfl))
  | false => exact jb_cons (js_ifF h jb_nil) (h2 rfl)
def Whl (X : Cx) (c : Expr) (body : List Stmt) : Nat → List Sl → Oc → Prop
  | 0, _, _ => False
  | n + 1, ρ, o => (JT X ρ c false ∧ o = .nx ρ) ∨ (JT X ρ c true ∧ ((∃ r, JB X ρ body (.rt r) ∧ o = .rt r) ∨ ∃ ρ2, JB X ρ body (.nx ρ2) ∧ Whl X c body n ρ2 o))
theorem js_while (hp : PassesOwn (model X.prog X.w) X.A X.env X.xe) {n : Nat} (h : Whl X e body n ρ oc) : JS X ρ (.While e body [] pos) oc := fun G0 H0 G H σ E T t => by
  refine wS.of (ps_while hp ptW pbW) ⟨fun m σ H => ∃ G2 ρ, EnvS X.K G0 H0 G2 H σ ρ ∧ Same G G2 ∧ Whl X e body m ρ oc, ⟨n, G, ρ, E, Same.refl _, h⟩, ?_⟩
  rintro m σ H ⟨G1, ρ, E, s1, h⟩
  cases m with
  | zero => exact h.elim
  | succ m =>
    rcases h with ⟨hT, rfl⟩ | ⟨hT, h⟩
    · exact hT G0 H0 G1 H σ E _ fun G2 H2 g => iteF (t σ G2 H2 (E.grow g) (s1.trans g.g))
    · refine hT G0 H0 G1 H σ E _ fun G2 H2 g => iteT ?_
      refine ⟨fun σ' H' => ∃ G' ρ', EnvS X.K G0 H0 G' H' σ' ρ' ∧ Same G G' ∧ Whl X e body m ρ' oc, fun σ' H' hN => ⟨m, Nat.lt_succ_self m, hN⟩, ?_⟩
      rcases h with ⟨r, hB, rfl⟩ | ⟨ρ2, hB, hW⟩
      · exact hB G0 H0 G2 H2 σ (E.grow g) _ t
      · exact hB G0 H0 G2 H2 σ (E.grow g) _ fun σ' G' H' E' s => ⟨G', ρ2, E', (s1.trans g.g).trans s, hW⟩
def Lp (X : Cx) (tg : Expr) (body : List Stmt) (ok : List Sl → Prop) : List D → List Sl → Oc → Prop
  | [], ρ, o => ok ρ ∧ o = .nx ρ
  | d :: ds, ρ, o => ok ρ ∧ ∃ ρ1 is, JG X ρ tg d ρ1 is ∧ ((∃ r, JB X ρ1 body (.rt r) ∧ o = .rt r) ∨ ∃ ρ2, JB X ρ1 body (.nx ρ2) ∧ Lp X tg body ok ds ρ2 o)
theorem js_for {ok : List Sl → Prop} (hp : PassesOwn (model X.prog X.w) X.A X.env X.xe) (hc : X.calm = true) (hi : JI X ρ tg iter ds ok) (h : Lp X tg body ok ds ρ oc) (hs : ∀ x, foldedSetIterable iter X.env x = pure x := by intro _; rfl) : JS X ρ (.For tg iter body [] pos) oc := fun G0 H0 G H σ E T t => by
  refine wS.of (ps_for hp hc piW pgW pbW hs) (hi G0 H0 G H σ E _ fun J G1 H1 S g1 hS hJ => ?_)
  have s0 := g1.g
  refine ⟨fun i m σ H => ∃ G ρ, EnvS X.K G0 H0 G H σ ρ ∧ Same G1 G ∧ Lp X tg body ok (ds.drop i) ρ oc ∧ i ≤ ds.length ∧ m = ds.length - i, ⟨_, G1, ρ, E.grow g1, Same.refl _, h, Nat.zero_le _, rfl⟩, ?_⟩
  rintro i m σ H ⟨G, ρ, E, s1, h, hle, rfl⟩
  by_cases hlt : i < ds.length
  · obtain ⟨d, hd⟩ : ∃ d, ds[i]? = some d := ⟨ds[i], by simp [hlt]⟩
    have hdrop : ds.drop i = d :: ds.drop (i + 1) := by
      rw [List.drop_eq_getElem_cons hlt]
      obtain ⟨_, e2⟩ := List.getElem?_eq_some_iff.mp hd
      rw [e2]
    rw [hdrop] at h
    obtain ⟨hok, ρ1, is, hG, h⟩ := h
    obtain ⟨hgo, hy⟩ := hJ.go G H i d (hS G H σ ρ E s1 hok) E.sub hd
    refine .inr ⟨hgo, fun σ' H' => ∃ G ρ, EnvS X.K G0 H0 G H' σ' ρ ∧ Same G1 G ∧ Lp X tg body ok (ds.drop (i + 1)) ρ oc, fun σ' H' hN => ?_, fun x H' hx => ?_⟩
    · obtain ⟨G', ρ', a, b, c⟩ := hN
      exact ⟨_, by omega, G', ρ', a, b, c, hlt, rfl⟩
    · obtain ⟨G2, g2, hxd⟩ := hy x H' hx
      refine hG G0 H0 G2 H' σ x (E.grow g2) hxd _ fun σ1 E1 _ => ?_
      have s2 : Same G1 G2 := s1.trans g2.g
      rcases h with ⟨r, hB, rfl⟩ | ⟨ρ2, hB, hL⟩
      · exact hB G0 H0 G2 H' σ1 E1 _ t
      · exact hB G0 H0 G2 H' σ1 E1 _ fun σ' G' H'' E' s => ⟨G', ρ2, E', s2.trans s, hL⟩
  · have hi' : i = ds.length := by omega
    subst hi'
    rw [List.drop_length] at h
    obtain ⟨hok, rfl⟩ := h
    exact .inl ⟨hJ.stop G H (hS G H σ ρ E s1 hok) E.sub, t σ G H E (s0.trans s1)⟩
end
end DL
-- DL8
/-! Defs from their bodies. -/
namespace DL
open PySem PySem.Spec PyProof.Rows L2
/-- the body's context -/
abbrev fx (P : Program) (w : World) (K : PySem.W.Frag) (mg : Str → Option Value) (base : Heap) (N : List Str) (qual : Str) (scope : Scope) (f : Addr) (cdv : Value) (A : Around) (outer : List Env) (s : Shared) (H : Hp) : Cx where
  prog := P
  w := w
  K := K
  mg := mg
  base := base
  A := A.deeper (envOfC qual scope s.heap.objs.size f cdv)
  N := N
  s_0 := s
  H_0 := H
  env := envOfC qual scope s.heap.objs.size f cdv
  outer := outer
  stack := envOfC qual scope s.heap.objs.size f cdv :: outer
  ex := []
  calm := true
  fn := fun _ => true
  pn := []
  xe := fun _ _ => False
theorem fx_eq {P : Program} {w : World} {K : PySem.W.Frag} {mg : Str → Option Value} {base : Heap} {N : List Str} {qual : Str} {scope : Scope} {f : Addr} {cdv : Value} {A : Around} {outer : List Env} {s : Shared} {H : Hp} {E : XK} : (cxOf CX0 P w K mg base N qual scope f cdv A outer s H E).nox = fx P w K mg base N qual scope f cdv A outer s H := rfl
def st0 (N : List Str) (ds : List D) : List Sl := ds.map Sl.d ++ List.replicate (N.length - ds.length) Sl.no
def Fin (d : D) : Oc → Prop
  | .rt d' => d' = d
  | .nx _ => d = .non
theorem st0_envS {K : PySem.W.Frag} {G H : Hp} {N : List Str} {ds : List D} {vs : List V} (s : Same G H) (h : IsDs K G ds vs) : EnvS K G H G H (L2.start N vs) (st0 N ds) where
  g0 := Same.refl _
  h0 := Same.refl _
  sub := s
  fr := fun _ _ h => .inl h
  len := by simp [L2.start, st0, h.len]
  ok := fun i d e => by
    unfold st0 at e
    unfold L2.start
    by_cases hi : i < ds.length
    · rw [List.getElem?_append_left (by simpa using hi), List.getElem?_map] at e
      rw [List.getElem?_append_left (by simpa [h.len] using hi), List.getElem?_map]
      cases z : ds[i]? with
      | none =>
        rw [z] at e
        cases e
      | some d' =>
        rw [z] at e
        cases e
        obtain ⟨v, e1, e2⟩ := h.get z
        rw [e1]
        exact ⟨v, rfl, e2⟩
    · rw [List.getElem?_append_right (by simpa using hi), List.getElem?_replicate] at e
      split at e <;> cases e
  own := fun i l xs e => by
    unfold st0 at e
    by_cases hi : i < ds.length
    · rw [List.getElem?_append_left (by simpa using hi), List.getElem?_map] at e
      cases z : ds[i]? with
      | none =>
        rw [z] at e
        cases e
      | some d' =>
        rw [z] at e
        cases e
    · rw [List.getElem?_append_right (by simpa using hi), List.getElem?_replicate] at e
      split at e <;> cases e
  sep := fun i j l xs ys e _ => by
    unfold st0 at e
    by_cases hi : i < ds.length
    · rw [List.getElem?_append_left (by simpa using hi), List.getElem?_map] at e
      cases z : ds[i]? with
      | none =>
        rw [z] at e
        cases e
      | some d' =>
        rw [z] at e
        cases e
    · rw [List.getElem?_append_right (by simpa using hi), List.getElem?_replicate] at e
      split at e <;> cases e
section
variable {P : Program} {w : World} {K : PySem.W.Frag} {mg : Str → Option Value} {base : Heap} {x qual : Str} {params : Arguments} {body : List Stmt} {scope : Scope} {f : Addr} {fd : FuncData} {N ps : List Str} {k : Nat} {R : List D → D → Prop}
theorem fn_ok (F : FunD K x qual params body scope [] [] f fd) (S : FnScope N ps scope)
    (h : ∀ (cdv : Value) (A : Around) (outer : List Env) (s : Shared) (H : Hp) (E : XK), Room k (A.deeper (envOfC qual scope s.heap.objs.size f cdv)) → ∀ ds d, ds.length = ps.length → R ds d → ∃ o, JB (fx P w K mg base N qual scope f cdv A outer s H) (st0 N ds) body o ∧ Fin d o) :
    FnOk P w K mg base CX0 (k + 1) f fd ps (spR K ps.length R) := by
  refine F.ok S (fun vs H Q E h => spR_len h) (fun cdv A outer s H vs Q E hr hsp => ?_)
  obtain ⟨ds, d, G, hl, hR, sm, hi, hQ⟩ := hsp
  obtain ⟨o, hJ, hF⟩ := h cdv A outer s H E hr ds d hl hR
  refine ⟨wB (fx P w K mg base N qual scope f cdv A outer s H) body, PSs.nox (fx_eq ▸ pbW), ?_⟩
  refine hJ G H G H _ (st0_envS sm hi) _ ?_
  cases o with
  | nx ρ =>
    have e : d = .non := hF
    subst e
    exact fun σ' G' H' E' s' => hQ .non G' H' E'.toGrow rfl
  | rt d' =>
    have e : d' = d := hF
    subst e
    exact fun v G' H' g i => hQ v G' H' g i
end
end DL
-- DL9
/-! The program's defs by number. -/
namespace DL
open PySem PySem.Spec PyProof.Rows L2 RW
structure Ctx (w : World) (K : PySem.W.Frag) (mg : Str → Option Value) (base : Heap) : Prop where
  says : He.SaysT fa fn ts w K
  vals : He.valsB K (He.ga K "FORMS") formVals = true
  kin : K.In base
  ns : base.Ns mainGlobals mg
section
variable {P : Program} {w : World} {K : PySem.W.Frag} {mg : Str → Option Value} {base : Heap} {k : Nat} {R : List D → D → Prop}
theorem Ctx.free (c : Ctx w K mg base) (i : Nat) {x : Str} (h : fa[i]? = some (.free x) := by rfl) : mg x = none := He.free_ok c.kin c.ns (c.says.d.fact i (f := .free x) h)
theorem Ctx.glo (c : Ctx w K mg base) (i : Nat) {x : Str} (h : fa[i]? = some (.glo x) := by rfl) : mg x = some (.ref (He.ga K x)) := He.glo_ok c.kin c.ns (c.says.d.fact i (f := .glo x) h)
theorem Ctx.fn (c : Ctx w K mg base) (i : Nat) (N ps : List Str) {n k' : Nat} {x : Str} {d : He.DefD} (hd : fn[i]? = some d := by rfl) (hg : fa[i]? = some (.glo x) := by rfl) (hn : ps.length = n := by rfl) (hk' : k + 1 = k' := by rfl) (hv : d.dvs K = [] := by rfl) (hk : d.kws K = [] := by rfl) (ha : He.fAd K d.at_ = He.ga K x := by rfl)
    (S : FnScope N ps d.scope := by exact ⟨rfl, rfl, rfl, by decide +kernel, rfl, by decide +kernel, by decide +kernel⟩)
    (hb : ∀ {x qual : Str} {kws : List (Str × V)} {f : Addr} {fd : FuncData}, FunD K x qual d.params d.body d.scope [] kws f fd → Binds K fd ps [] := by
      first
      | exact fun F => F.bindsN fun _ _ _ _ _ _ us hl => match us, hl with | [_], _ => rfl
      | exact fun F => F.bindsN fun _ _ _ _ _ _ us hl => match us, hl with | [_, _], _ => rfl
      | exact fun F => F.bindsN fun _ _ _ _ _ _ us hl => match us, hl with | [_, _, _], _ => rfl
      | exact fun F => F.bindsN fun _ _ _ _ _ _ us hl => match us, hl with | [_, _, _, _], _ => rfl
      | exact fun F => F.bindsN fun _ _ _ _ _ _ us hl => match us, hl with | [_, _, _, _, _], _ => rfl)
    (h : ∀ (cdv : Value) (A : Around) (outer : List Env) (s : Shared) (H : Hp) (E : XK), Room k (A.deeper (envOfC d.qual d.scope s.heap.objs.size (He.ga K x) cdv)) → N.Nodup → ∀ ds r, ds.length = n → R ds r → ∃ o, JB (fx P w K mg base N d.qual d.scope (He.ga K x) cdv A outer s H) (st0 N ds) d.body o ∧ Fin r o) : Fn P w K mg base k' x n R := by
  obtain ⟨fd, F⟩ := c.says.d.def_ i hd
  rw [hv, hk, ha] at F
  subst hn hk'
  exact ⟨_, fd, ps, fn_ok F S (fun cdv A outer s H E hr => h cdv A outer s H E hr S.nd), c.glo i hg, F.kp, hb F⟩
end
end DL
-- DL10
/-! Rules by what the operands are, and tactics that follow the text. -/
namespace DL
open PySem PySem.Spec PyProof.Rows L2 RW
section
variable {X : Cx} {ρ ρ1 ρ' : List Sl} {e a b o tg iter elt : Expr} {es rest ts ifs : List Expr} {d x y : D} {ds xs ys out : List D} {pos p apos p2 : Pos} {c c2 : Bool} {is js vs : List Nat} {scope : Scope} {op : Operator} {cop : CmpOp}
theorem JD.eq {d' : D} (h : JD X ρ e d) (q : d = d') : JD X ρ e d' := q ▸ h
theorem JT.eq {c' : Bool} (h : JT X ρ e c) (q : c = c') : JT X ρ e c' := q ▸ h
theorem JA.eq {ds' : List D} (h : JA X ρ es ds) (q : ds = ds') : JA X ρ es ds' := q ▸ h
def BinK (X : Cx) (op : Operator) (x y d : D) : Prop := ∃ r, OpR X (binaryOp op) r ∧ OpK X r x y d
theorem je_bin (ha : JD X ρ a x) (hb : JD X ρ b y) (k : BinK X op x y d) : JD X ρ (.BinOp a op b pos) d := by
  obtain ⟨r, h1, h2⟩ := k
  exact je_op h1 h2 ha hb
variable {i j : Int} {s t : Str}
theorem bk_add : BinK X .Add (.int i) (.int j) (.int (i + j)) := ⟨_, op_add, k_I⟩
theorem bk_sub : BinK X .Sub (.int i) (.int j) (.int (i - j)) := ⟨_, op_sub, k_I⟩
theorem bk_mul (hc : CMul i j ∨ CMulW i j) : BinK X .Mult (.int i) (.int j) (.int (i * j)) := by
  rcases hc with hc | hc
  · exact ⟨_, op_mul, k_IC hc⟩
  · exact ⟨_, op_mulW, k_IC hc⟩
theorem bk_mulW (hc : CMulW i j) : BinK X .Mult (.int i) (.int j) (.int (i * j)) := ⟨_, op_mulW, k_IC hc⟩
theorem lg70 {j : Int} (h0 : 0 ≤ j) (h : j < 2 ^ 70) : j.natAbs.log2 < 9000 := by
  by_cases z : j.natAbs = 0
  · rw [z]
    decide
  · have : j.natAbs < 2 ^ 70 := by omega
    have := (Nat.log2_lt z).mpr this
    omega
theorem bk_div (h0 : 0 < j) (h1 : j < 2 ^ 70) : BinK X .FloorDiv (.int i) (.int j) (.int (i / j)) := ⟨_, op_fdivW, k_IC ⟨h0, lg70 (Int.le_of_lt h0) h1⟩⟩
theorem bk_mod (hc : 0 < j) : BinK X .Mod (.int i) (.int j) (.int (i % j)) := ⟨_, op_mod, k_IC (C := fun _ j => 0 < j) hc⟩
theorem bk_cat (hl : xs.length + ys.length ≤ sizeLine) : BinK X .Add (.lst xs) (.lst ys) (.lst (xs ++ ys)) := ⟨_, op_cat, fun v u G H Q s i1 i2 q => by
  obtain ⟨p, vs, rfl, h1, h2⟩ := i1
  obtain ⟨p', us, rfl, h3, h4⟩ := i2
  exact ⟨p, p', vs, us, rfl, rfl, s _ _ h1, s _ _ h3, by rw [h2.len, h4.len]; exact hl, fun z nz => new_lst (d := .non) (Grow.refl s) q (h2.app h4) nz⟩⟩
theorem bk_rep (h0 : -(2 ^ 63) ≤ i) (h1 : i < 2 ^ 63) (hl : xs.length * i.toNat ≤ sizeLine) : BinK X .Mult (.lst xs) (.int i) (.lst (List.replicate i.toNat xs).flatten) := ⟨_, op_rep, fun v u G H Q s i1 i2 q => by
  obtain ⟨p, vs, rfl, e1, e2⟩ := i1
  cases i2
  exact ⟨p, i, vs, rfl, rfl, s _ _ e1, h0, h1, by rw [e2.len]; exact hl, fun r nr => new_lst (d := .non) (Grow.refl s) q (e2.rep _) nr⟩⟩
theorem bk_addS (hl : s.length + t.length ≤ sizeLine) : BinK X .Add (.str s) (.str t) (.str (s ++ t)) := ⟨_, op_add_str, fun v u G H Q s' i1 i2 q => by
  cases i1
  cases i2
  exact ⟨_, _, rfl, rfl, hl, q _ G H (Grow.refl s') rfl⟩⟩
def CmpK (X : Cx) (op : CmpOp) (x y : D) (c : Bool) : Prop := ∃ r, OpR X (compareOp op) r ∧ OpK X r x y (.bl c)
theorem je_cm (ha : JD X ρ a x) (hb : JD X ρ b y) (k : CmpK X cop x y c) (hm : behindInMarks cop b = false := by first | exact nomark _ | rfl) : JD X ρ (.Compare a [cop] [b] pos) (.bl c) := by
  obtain ⟨r, h1, h2⟩ := k
  exact je_cmp h1 h2 ha hb hm
theorem jt_cm (ha : JD X ρ a x) (hb : JD X ρ b y) (k : CmpK X cop x y c) (hm : behindInMarks cop b = false := by first | exact nomark _ | rfl) : JT X ρ (.Compare a [cop] [b] pos) c := by
  obtain ⟨r, h1, h2⟩ := k
  exact jt_cmp h1 h2 ha hb hm
theorem ck_lt : CmpK X .Lt (.int i) (.int j) (decide (i < j)) := ⟨_, op_lt, k_B⟩
theorem ck_le : CmpK X .LtE (.int i) (.int j) (decide (i ≤ j)) := ⟨_, op_le, k_B⟩
theorem ck_gt : CmpK X .Gt (.int i) (.int j) (decide (j < i)) := ⟨_, op_gt, k_B⟩
theorem ck_ge : CmpK X .GtE (.int i) (.int j) (decide (j ≤ i)) := ⟨_, op_ge, k_B⟩
theorem ck_eqI : CmpK X .Eq (.int i) (.int j) (decide (i = j)) := ⟨_, op_eq, k_eqI⟩
theorem ck_neI : CmpK X .NotEq (.int i) (.int j) (!decide (i = j)) := ⟨_, op_ne, k_neI⟩
theorem ck_eqS : CmpK X .Eq (.str s) (.str t) (decide (s = t)) := ⟨_, op_eq, k_eqS⟩
theorem ck_neS : CmpK X .NotEq (.str s) (.str t) (!decide (s = t)) := ⟨_, op_ne, k_neS⟩
theorem ck_eqB {i j : Bool} : CmpK X .Eq (.bl i) (.bl j) (decide (i = j)) := ⟨_, op_eq, k_eqB⟩
theorem ck_eqD (hu : X.A.units + 64 < cLine) (hx : EqOk x) (hy : EqOk y) : CmpK X .Eq x y (PyData.eqv (toPy x) (toPy y)) := ⟨_, op_eqD hu, k_eqD hx hy⟩
theorem ck_neD (hu : X.A.units + 64 < cLine) (hx : EqOk x) (hy : EqOk y) : CmpK X .NotEq x y (!PyData.eqv (toPy x) (toPy y)) := ⟨_, op_neD hu, k_neD hx hy⟩
theorem ck_inL (fx : flatD x = true) (fs : xs.all flatD = true) : CmpK X .In x (.lst xs) (inD x xs) := ⟨_, op_in_seq, k_inL fx fs⟩
theorem ck_inT (fx : flatD x = true) (fs : xs.all flatD = true) : CmpK X .In x (.tup xs) (inD x xs) := ⟨_, op_in_seq, k_inT fx fs⟩
theorem ck_ninL (fx : flatD x = true) (fs : xs.all flatD = true) : CmpK X .NotIn x (.lst xs) (!inD x xs) := ⟨_, op_notIn_seq, k_ninL fx fs⟩
theorem ck_inS {ch : Nat} : CmpK X .In (.str ⟨#[ch]⟩) (.str s) (decide (ch ∈ s.cps.toList)) := ⟨_, op_in_sign, k_inS⟩
theorem ck_isN : CmpK X .Is x .non (isN x) := ⟨_, op_isN, fun v u G H Q s i1 i2 q => by
  cases i2
  exact ⟨rfl, q _ G H (Grow.refl s) (by
    show V.bl _ = V.bl _
    rw [isN_v i1])⟩⟩
def IxK (X : Cx) (x y d : D) : Prop := ∃ r, IxR X r ∧ OpK X r x y d
theorem je_ix (ha : JD X ρ a x) (hb : JD X ρ b y) (k : IxK X x y d) (hs : PlainIx b := by exact fun _ _ => rfl) : JD X ρ (.Subscript a b pos) d := by
  obtain ⟨r, h1, h2⟩ := k
  exact je_ixo h1 h2 ha hb hs
theorem ik_L (hi : atI xs i = some d) : IxK X (.lst xs) (.int i) d := ⟨_, ix_list, fun v u G H Q s i1 i2 q => by
  obtain ⟨p, vs, rfl, e1, e2⟩ := i1
  cases i2
  obtain ⟨z, h1, h2⟩ := atI_isD e2 hi
  exact ⟨p, vs, i, z, rfl, rfl, SqL.of (s _ _ e1), h1, q z G H (Grow.refl s) h2⟩⟩
theorem ik_T (hi : atI xs i = some d) : IxK X (.tup xs) (.int i) d := ⟨_, ix_tup, fun v u G H Q s i1 i2 q => by
  obtain ⟨p, vs, rfl, e1, e2⟩ := i1
  cases i2
  obtain ⟨z, h1, h2⟩ := atI_isD e2 hi
  exact ⟨p, vs, i, z, rfl, rfl, SqT.of (s _ _ e1), h1, q z G H (Grow.refl s) h2⟩⟩
theorem ik_S {ch : Nat} (hl : s.length ≤ sizeLine) (hi : atI s.cps.toList i = some ch) : IxK X (.str s) (.int i) (.str ⟨#[ch]⟩) := ⟨_, ix_str, fun v u G H Q s' i1 i2 q => by
  cases i1
  cases i2
  exact ⟨s, i, ch, rfl, rfl, hl, hi, q _ G H (Grow.refl s') rfl⟩⟩
end
end DL
-- DL11
/-! Tactics that follow the text. -/
namespace DL
open PySem PySem.Spec PyProof.Rows L2 RW
section
variable {X : Cx} {ρ ρ1 ρ' : List Sl} {e a b o tg iter elt : Expr} {es rest ts ifs : List Expr} {st : Stmt} {sts body els : List Stmt} {d x y : D} {ds xs ys out : List D} {pos p apos p2 : Pos} {c c2 : Bool} {is js vs : List Nat} {scope : Scope} {op : Operator} {cop : CmpOp} {oc oc' : Oc}
theorem jt_and (h : JT X ρ a c) (h2 : c = true → JW X ρ (.BoolOp .And (b :: rest) pos) c2) : JT X ρ (.BoolOp .And (a :: b :: rest) pos) (c && c2) := jt_w (jw_and h h2)
theorem jt_or (h : JT X ρ a c) (h2 : c = false → JW X ρ (.BoolOp .Or (b :: rest) pos) c2) : JT X ρ (.BoolOp .Or (a :: b :: rest) pos) (c || c2) := jt_w (jw_or h h2)
theorem JB.eq (h : JB X ρ sts oc) (q : oc = oc') : JB X ρ sts oc' := q ▸ h
theorem JS.eq (h : JS X ρ st oc) (q : oc = oc') : JS X ρ st oc' := q ▸ h
def LenK (x : D) (n : Nat) : Prop := (∃ xs, x = .lst xs ∧ n = xs.length) ∨ (∃ xs, x = .tup xs ∧ n = xs.length) ∨ ∃ t : Str, x = .str t ∧ n = t.length ∧ t.length ≤ sizeLine
theorem lk_L : LenK (.lst xs) xs.length := .inl ⟨xs, rfl, rfl⟩
theorem lk_T : LenK (.tup xs) xs.length := .inr (.inl ⟨xs, rfl, rfl⟩)
theorem lk_S {t : Str} (h : t.length ≤ sizeLine) : LenK (.str t) t.length := .inr (.inr ⟨t, rfl, rfl, h⟩)
theorem je_len {n : Nat} (hm : X.mg "len" = none) (ha : JD X ρ a x) (k : LenK x n) (hg : Gl X "len" := by rfl) (hs : starEach [a] X.env = (false, eval a X.env) :: starEach [] X.env := by rfl) (hpl : (backTo pos (starEach [] X.env)).any (·.1) = false := by rfl) : JD X ρ (.Call (.Name "len" p) [a] [] pos) (.int n) := by
  rcases k with ⟨xs, rfl, rfl⟩ | ⟨xs, rfl, rfl⟩ | ⟨t, rfl, rfl, h⟩
  · exact je_lenL hm ha hg hs hpl
  · exact je_lenT hm ha hg hs hpl
  · exact je_lenS hm ha h hg hs hpl
def SlK (X : Cx) (ρ : List Sl) (a : Expr) (x : D) (l u : Option Int) (d : D) : Prop := ∀ (lo hi : Option Expr) (p2 pos : Pos), JD X ρ a x → JO X ρ lo l → JO X ρ hi u → JD X ρ (.Subscript a (.Slice lo hi none p2) pos) d
theorem je_sl {lo hi : Option Expr} {l u : Option Int} (ha : JD X ρ a x) (h1 : JO X ρ lo l) (h2 : JO X ρ hi u) (k : SlK X ρ a x l u d) : JD X ρ (.Subscript a (.Slice lo hi none p2) pos) d := k lo hi p2 pos ha h1 h2
theorem sk_L {l u : Option Int} : SlK X ρ a (.lst xs) l u (.lst (cutD xs l u)) := fun _ _ _ _ ha h1 h2 => je_slL ha h1 h2
theorem sk_R {ns : List Int} {l u : Option Int} : SlK X ρ a (.scr ns) l u (.lst (cutD (ns.map D.int) l u)) := fun _ _ _ _ ha h1 h2 => je_slScr ha h1 h2
theorem sk_S {t : Str} {l u : Option Int} (h : t.length ≤ sizeLine) : SlK X ρ a (.str t) l u (.str (cutS t l u)) := fun _ _ _ _ ha h1 h2 => je_slS ha h1 h2 h
theorem sk_T {l u : Option Int} (hn : ¬ (HT.sIx xs.length 0 l = 0 ∧ HT.sIx xs.length xs.length u = xs.length)) : SlK X ρ a (.tup xs) l u (.tup (cutD xs l u)) := fun _ _ _ _ ha h1 h2 => je_slT ha h1 h2 hn
/-- the first name alone of a comparison with many or calls is looked at by its Room -/
theorem Room.ofX {k : Nat} {A : Around} (r : Room k A) : A.units + 64 < cLine := r.units
end
end DL
-- DL12
/-! Loops by states. -/
namespace DL
open PySem PySem.Spec PyProof.Rows L2 RW
section
variable {X : Cx} {ρ ρ1 ρ' : List Sl} {e a b o tg iter elt : Expr} {es rest ts ifs : List Expr} {sts body els : List Stmt} {d x y : D} {ds xs ys out : List D} {pos p apos p2 : Pos} {c c2 : Bool} {is js vs : List Nat} {scope : Scope} {oc : Oc}
/-- some slots are no more known -/
inductive Wk : List Sl → List Sl → Prop
  | nil : Wk [] []
  | no {s : Sl} {r r' : List Sl} (h : Wk r r') : Wk (s :: r) (.no :: r')
  | same {s : Sl} {r r' : List Sl} (h : Wk r r') : Wk (s :: r) (s :: r')
theorem Wk.sameE {s s' : Sl} {r r' : List Sl} (e : s = s') (h : Wk r r') : Wk (s :: r) (s' :: r') := e ▸ .same h
theorem Wk.refl : ∀ ρ : List Sl, Wk ρ ρ
  | [] => .nil
  | _ :: r => .same (Wk.refl r)
theorem Wk.len : ∀ {ρ ρ' : List Sl}, Wk ρ ρ' → ρ.length = ρ'.length
  | _, _, .nil => rfl
  | _, _, .no h => congrArg (· + 1) h.len
  | _, _, .same h => congrArg (· + 1) h.len
theorem Wk.at : ∀ {ρ ρ' : List Sl}, Wk ρ ρ' → ∀ (i : Nat) (s : Sl), ρ'[i]? = some s → s ≠ .no → ρ[i]? = some s
  | _, _, .nil, i, s, h, _ => by simp at h
  | _, _, .no h, 0, s, e, n => by
    simp at e
    exact absurd e.symm n
  | _, _, .no h, i + 1, s, e, n => by
    simp at e ⊢
    exact h.at i s e n
  | _, _, .same h, 0, s, e, n => by simpa using e
  | _, _, .same h, i + 1, s, e, n => by
    simp at e ⊢
    exact h.at i s e n
theorem EnvS.wk {K : PySem.W.Frag} {G0 H0 G H : Hp} {σ : L2.St} (E : EnvS K G0 H0 G H σ ρ) (h : Wk ρ ρ') : EnvS K G0 H0 G H σ ρ' where
  g0 := E.g0
  h0 := E.h0
  sub := E.sub
  fr := E.fr
  len := E.len.trans h.len
  ok := fun i d e => E.ok i d (h.at i _ e (by intro q; cases q))
  own := fun i l xs e => E.own i l xs (h.at i _ e (by intro q; cases q))
  sep := fun i j l xs ys e e' => E.sep i j l xs ys (h.at i _ e (by intro q; cases q)) (h.at j _ e' (by intro q; cases q))
theorem JB.pre (h : JB X ρ' sts oc) (w : Wk ρ ρ') : JB X ρ sts oc := fun G0 H0 G H σ E T t => h G0 H0 G H σ (E.wk w) T t
theorem JB.wk (h : JB X ρ sts (.nx ρ1)) (w : Wk ρ1 ρ') : JB X ρ sts (.nx ρ') := fun G0 H0 G H σ E T t => h G0 H0 G H σ E T fun σ' G' H' E' s => t σ' G' H' (E'.wk w) s
theorem JS.wk {st : Stmt} (h : JS X ρ st (.nx ρ1)) (w : Wk ρ1 ρ') : JS X ρ st (.nx ρ') := fun G0 H0 G H σ E T t => h G0 H0 G H σ E T fun σ' G' H' E' s => t σ' G' H' (E'.wk w) s
theorem whl_of {α : Type} {st : α → List Sl} {res : α → Oc} {m : α → Nat} {I : α → Prop} (hs : ∀ a, I a → ∃ c, JT X (st a) e c ∧ (c = false → ∃ ρe, res a = .nx ρe ∧ Wk (st a) ρe) ∧ (c = true → (∃ r, JB X (st a) body (.rt r) ∧ res a = .rt r) ∨ ∃ a', JB X (st a) body (.nx (st a')) ∧ I a' ∧ m a' < m a ∧ res a' = res a)) :
    ∀ (n : Nat) (a : α), m a < n → I a → ∃ o', Whl X e body n (st a) o' ∧ (o' = res a ∨ ∃ ρe ρe', o' = .nx ρe ∧ res a = .nx ρe' ∧ Wk ρe ρe')
  | 0, a, h, _ => absurd h (Nat.not_lt_zero _)
  | n + 1, a, h, hI => by
    obtain ⟨c, hT, hf, ht⟩ := hs a hI
    cases c with
    | false =>
      obtain ⟨ρe, h1, h2⟩ := hf rfl
      exact ⟨.nx (st a), .inl ⟨hT, rfl⟩, .inr ⟨_, _, rfl, h1, h2⟩⟩
    | true =>
      rcases ht rfl with ⟨r, h1, h2⟩ | ⟨a', h1, h3, h4, h5⟩
      · exact ⟨.rt r, .inr ⟨hT, .inl ⟨r, h1, rfl⟩⟩, .inl h2.symm⟩
      · obtain ⟨o', h6, h7⟩ := whl_of hs n a' (by omega) h3
        exact ⟨o', .inr ⟨hT, .inr ⟨_, h1, h6⟩⟩, h5 ▸ h7⟩
theorem js_whileA {α : Type} (st : α → List Sl) (res : α → Oc) (m : α → Nat) (I : α → Prop) (a0 : α) (ha : I a0) (hp : PassesOwn (model X.prog X.w) X.A X.env X.xe)
    (hs : ∀ a, I a → ∃ c, JT X (st a) e c ∧ (c = false → ∃ ρe, res a = .nx ρe ∧ Wk (st a) ρe) ∧ (c = true → (∃ r, JB X (st a) body (.rt r) ∧ res a = .rt r) ∨ ∃ a', JB X (st a) body (.nx (st a')) ∧ I a' ∧ m a' < m a ∧ res a' = res a)) (hρ : Wk ρ (st a0)) : JS X ρ (.While e body [] pos) (res a0) := fun G0 H0 G H σ E T t => by
  obtain ⟨o', h1, h2⟩ := whl_of hs (m a0 + 1) a0 (Nat.lt_succ_self _) ha
  refine js_while hp h1 G0 H0 G H σ (E.wk hρ) T ?_
  rcases h2 with rfl | ⟨ρe, ρe', rfl, h3, h4⟩
  · exact t
  · rw [h3] at t
    exact fun σ' G' H' E' s => t σ' G' H' (E'.wk h4) s
/-- for, over the data of a list -/
theorem lp_ofB {α β : Type} {f : β → D} {st : α → List Sl} {res : α → List β → Oc} {I : α → List β → Prop} (h0 : ∀ a, I a [] → res a [] = .nx (st a))
    (hs : ∀ a d ds, I a (d :: ds) → ∃ ρ1 is, JG X (st a) tg (f d) ρ1 is ∧ ((∃ r, JB X ρ1 body (.rt r) ∧ res a (d :: ds) = .rt r) ∨ ∃ a', JB X ρ1 body (.nx (st a')) ∧ I a' ds ∧ res a' ds = res a (d :: ds))) : ∀ (ds : List β) (a : α), I a ds → Lp X tg body ocT (ds.map f) (st a) (res a ds)
  | [], a, h => ⟨trivial, h0 a h⟩
  | d :: ds, a, h => by
    obtain ⟨ρ1, is, hG, h2⟩ := hs a d ds h
    refine ⟨trivial, ρ1, is, hG, ?_⟩
    rcases h2 with ⟨r, h3, h4⟩ | ⟨a', h3, h4, h5⟩
    · exact .inl ⟨r, h3, h4⟩
    · exact .inr ⟨_, h3, h5 ▸ lp_ofB h0 hs ds a' h4⟩
theorem js_forB {α β : Type} {f : β → D} {l : List β} (st : α → List Sl) (res : α → List β → Oc) (I : α → List β → Prop) (a0 : α) (hi : JI X (st a0) tg iter (l.map f) ocT) (ha : I a0 l) (hp : PassesOwn (model X.prog X.w) X.A X.env X.xe) (hc : X.calm = true) (h0 : ∀ a, I a [] → res a [] = .nx (st a))
    (hs : ∀ a d ds, I a (d :: ds) → ∃ ρ1 is, JG X (st a) tg (f d) ρ1 is ∧ ((∃ r, JB X ρ1 body (.rt r) ∧ res a (d :: ds) = .rt r) ∨ ∃ a', JB X ρ1 body (.nx (st a')) ∧ I a' ds ∧ res a' ds = res a (d :: ds)))
    (hρ : Wk ρ (st a0)) (hs' : ∀ x, foldedSetIterable iter X.env x = pure x := by intro _; rfl) : JS X ρ (.For tg iter body [] pos) (res a0 l) := fun G0 H0 G H σ E T t =>
  js_for (ok := ocT) hp hc hi (lp_ofB h0 hs l a0 ha) hs' G0 H0 G H σ (E.wk hρ) T t
/-- what a comprehension makes, item by item -/
theorem comp_of {vs : List Nat} {ρw : List Sl} {f : D → Option D} : ∀ {ds : List D}, (∀ d ∈ ds, ∃ ρ1 is b, (∀ i ∈ is, i ∈ vs) ∧ Blk X scope (fun B => JG B ρw tg d ρ1 is) ∧ Blk X scope (fun B => JTs B ρ1 ifs b) ∧ ((b = true ∧ ∃ y, Blk X scope (fun B => JD B ρ1 elt y) ∧ f d = some y) ∨ (b = false ∧ f d = none))) → Comp X scope vs tg ifs elt ρw ds (ds.filterMap f)
  | [], _ => rfl
  | d :: ds, h => by
    obtain ⟨ρ1, is, b, h1, h2, h3, h4⟩ := h d (List.mem_cons_self ..)
    have ih := comp_of (ds := ds) fun d hd => h d (List.mem_cons_of_mem _ hd)
    refine ⟨ρ1, is, b, h1, h2, h3, ?_⟩
    rcases h4 with ⟨hb, y, h5, h6⟩ | ⟨hb, h6⟩
    · exact .inl ⟨hb, y, _, h5, by rw [List.filterMap_cons, h6], ih⟩
    · refine .inr ⟨hb, ?_⟩
      rw [List.filterMap_cons, h6]
      exact ih
/-- without ifs -/
theorem comp_map {vs : List Nat} {ρw : List Sl} {f : D → D} : ∀ {ds : List D}, (∀ d ∈ ds, ∃ ρ1 is, (∀ i ∈ is, i ∈ vs) ∧ Blk X scope (fun B => JG B ρw tg d ρ1 is) ∧ Blk X scope (fun B => JD B ρ1 elt (f d))) → Comp X scope vs tg [] elt ρw ds (ds.map f)
  | [], _ => rfl
  | d :: ds, h => by
    obtain ⟨ρ1, is, h1, h2, h5⟩ := h d (List.mem_cons_self ..)
    have ih := comp_map (ds := ds) fun d hd => h d (List.mem_cons_of_mem _ hd)
    exact ⟨ρ1, is, true, h1, h2, fun s H C cl fp => jts_nil, .inl ⟨rfl, _, _, h5, rfl, ih⟩⟩
/-- x = [comprehension] -/
theorem js_setLc (i : Nat) {n : Str} {pos' p3 : Pos} {own : List (Str × Nat)} (hc : X.calm = true) (hN : X.N.Nodup) (hi : JI X ρ tg iter ds ocT) (hC : Comp X scope (own.map (·.2)) tg ifs elt (wipeS ρ (own.map (·.2))) ds out) (hout : out.length ≤ 100000) (ok : BlkOk X.N X.env.scope scope own)
    (hix : X.N[i]? = some n := by rfl) (hx : Loc X.env.scope n := by first | exact Or.inl rfl | exact Or.inr rfl) (hs : swapsWith (.ListComp elt [⟨tg, iter, ifs, 0⟩] scope p3) (some (.Name n pos')) pos.line X.env = pure false := by rfl)
    (hf : X.fn n = true ∨ X.env.scope.names.lookup n = some .local := by first | exact .inl rfl | exact .inr rfl) (hs' : ∀ x, foldedSetIterable iter X.env x = pure x := by intro _; rfl) : JS X ρ (.Assign [.Name n pos'] (.ListComp elt [⟨tg, iter, ifs, 0⟩] scope p3) pos) (.nx (ρ.set i (.d (.lst out)))) :=
  js_set i hN (je_comp hc hN hi ok hC hout hs') hix hx hs hf
/-- .. where it stands on the name's line -/
theorem js_setLcS (i : Nat) {n : Str} {pos' p3 : Pos} {own : List (Str × Nat)} (hc : X.calm = true) (hN : X.N.Nodup) (hi : JI X ρ tg iter ds ocT) (hC : Comp X scope (own.map (·.2)) tg ifs elt (wipeS ρ (own.map (·.2))) ds out) (hout : out.length ≤ 100000) (ok : BlkOk X.N X.env.scope scope own)
    (hix : X.N[i]? = some n := by rfl) (hyl : X.env.scope.names.lookup n = some .local := by rfl) (hsw : swapsWith (.ListComp elt [⟨tg, iter, ifs, 0⟩] scope p3) (some (.Name n pos')) pos.line X.env = pure true := by rfl)
    (hs : ∀ x, foldedSetIterable iter X.env x = pure x := by intro _; rfl) : JS X ρ (.Assign [.Name n pos'] (.ListComp elt [⟨tg, iter, ifs, 0⟩] scope p3) pos) (.nx (ρ.set i (.d (.lst out)))) := fun G0 H0 G H σ E T t =>
  wS.of (ps_setLc (own := own) hc hN hix hyl hsw piW ok (g := gAll X scope tg) (tt := tAll X scope ifs) (te := eAll X scope elt) (fun s H' C cl fp => ⟨fun pins s1 σ H v u Q I r h => (h s H' C cl fp).run pins s1 u I r⟩) (fun s H' C cl fp => ⟨fun pins s1 σ H Q I h => (h s H' C cl fp).run pins s1 I⟩) (fun s H' C cl fp => ⟨fun pins s1 σ H Q I h => (h s H' C cl fp).run pins s1 I⟩) hs)
    (comp_run hi hC hout E fun p us G2 H2 g hp hGp hH hD => by
      have sb : Same (upd G2 p (.lst us)) H2 := fun b o e => by
        by_cases hb : b = p
        · subst hb
          rw [upd_same] at e
          rw [hH, e]
        · rw [upd_ne hb] at e
          exact g.sub b o e
      have gr : Grow G H (upd G2 p (.lst us)) H2 := ⟨g.g.trans (same_upd hGp), g.h, sb, fun a o e => by
        by_cases ha : a = p
        · subst ha
          exact .inr hp
        · rw [upd_ne ha] at e
          exact g.fr a o e⟩
      exact t _ _ H2 ((E.grow gr).set i (d := .lst out) ⟨p, us, rfl, upd_same, hD.mono (same_upd hGp)⟩) gr.g)
theorem JI.eq {ok : List Sl → Prop} {ds' : List D} (h : JI X ρ tg iter ds ok) (q : ds = ds') : JI X ρ tg iter ds' ok := q ▸ h
theorem rngD_eq (n : Nat) : rngD 0 1 n = (List.range n).map fun i => D.int (i : Nat) := by
  unfold rngD
  congr 1
  funext i
  congr 1
  omega
theorem rngD_down (n : Nat) : rngD ((n : Int) - 1) (-1) n = (List.range n).reverse.map fun i => D.int (i : Nat) := by
  unfold rngD
  apply List.ext_getElem
  · simp
  · intro i h1 h2
    simp only [List.length_map, List.length_range, List.length_reverse] at h1 h2
    simp only [List.getElem_map, List.getElem_range, List.getElem_reverse, List.length_map, List.length_range]
    congr 1
    omega
end
end DL
-- DL13
/-! Rules that look names up in lists that stand written. -/
namespace DL
open PySem PySem.Spec PyProof.Rows L2 RW
inductive At : List Str → List Sl → Str → Sl → Nat → Prop
  | z {n : Str} {N : List Str} {s : Sl} {ρ : List Sl} : At (n :: N) (s :: ρ) n s 0
  | s {m n : Str} {N : List Str} {t s : Sl} {ρ : List Sl} {i : Nat} (h : At N ρ n s i) : At (m :: N) (t :: ρ) n s (i + 1)
inductive Put : List Str → List Sl → Str → Sl → List Sl → Nat → Prop
  | z {n : Str} {N : List Str} {t s : Sl} {ρ : List Sl} : Put (n :: N) (t :: ρ) n s (s :: ρ) 0
  | s {m n : Str} {N : List Str} {t s : Sl} {ρ ρ' : List Sl} {i : Nat} (h : Put N ρ n s ρ' i) : Put (m :: N) (t :: ρ) n s (t :: ρ') (i + 1)
theorem At.n {N : List Str} {ρ : List Sl} {n : Str} {s : Sl} {i : Nat} (h : At N ρ n s i) : N[i]? = some n := by
  induction h with
  | z => rfl
  | s h ih => simpa using ih
theorem At.r {N : List Str} {ρ : List Sl} {n : Str} {s : Sl} {i : Nat} (h : At N ρ n s i) : ρ[i]? = some s := by
  induction h with
  | z => rfl
  | s h ih => simpa using ih
theorem Put.n {N : List Str} {ρ ρ' : List Sl} {n : Str} {s : Sl} {i : Nat} (h : Put N ρ n s ρ' i) : N[i]? = some n := by
  induction h with
  | z => rfl
  | s h ih => simpa using ih
theorem Put.r {N : List Str} {ρ ρ' : List Sl} {n : Str} {s : Sl} {i : Nat} (h : Put N ρ n s ρ' i) : ρ' = ρ.set i s := by
  induction h with
  | z => rfl
  | s h ih => simpa using ih
theorem At.put {N : List Str} {ρ ρ' : List Sl} {n : Str} {s t : Sl} {i : Nat} (h : At N ρ n s i) : ∀ {j : Nat}, N.Nodup → Put N ρ n t ρ' j → j = i := by
  intro j nd p
  have h1 := h.n
  have h2 := p.n
  have l1 : i < N.length := by
    by_cases q : i < N.length
    · exact q
    · rw [List.getElem?_eq_none (by omega)] at h1
      cases h1
  have l2 : j < N.length := by
    by_cases q : j < N.length
    · exact q
    · rw [List.getElem?_eq_none (by omega)] at h2
      cases h2
  exact (List.getElem?_inj l2 nd).mp (h2.trans h1.symm)
def visB (sc : Scope) (n : Str) : Bool := (match sc.names.lookup n with
  | some .local => true
  | some .cell => true
  | some .free => true
  | _ => false) && (!(n == ("__debug__" : Str)) && !(n == ("__classdict__" : Str)))
def locB (sc : Scope) (tt : Bool) (n : Str) : Bool := match sc.names.lookup n with
  | some .local => true
  | some .cell => tt
  | _ => false
def glB (sc : Scope) (n : Str) : Bool := (match sc.names.lookup n with
  | some .globalImplicit => true
  | _ => false) && !(n == ("__debug__" : Str))
theorem visB_ok {sc : Scope} {n : Str} (h : visB sc n = true) : Vis sc n ∧ (n == ("__debug__" : Str)) = false ∧ (n == ("__classdict__" : Str)) = false := by
  unfold visB at h
  simp only [Bool.and_eq_true, Bool.not_eq_true'] at h
  obtain ⟨h1, h2, h3⟩ := h
  refine ⟨?_, h2, h3⟩
  cases e : sc.names.lookup n with
  | none =>
    rw [e] at h1
    cases h1
  | some k =>
    rw [e] at h1
    cases k with
    | «local» => exact .inl e
    | cell => exact .inr (.inl e)
    | free => exact .inr (.inr e)
    | _ => cases h1
theorem locB_ok {sc : Scope} {tt : Bool} {n : Str} (h : locB sc tt n = true) : sc.names.lookup n = some .local ∨ (sc.names.lookup n = some .cell ∧ tt = true) := by
  unfold locB at h
  cases e : sc.names.lookup n with
  | none =>
    rw [e] at h
    cases h
  | some k =>
    rw [e] at h
    cases k with
    | «local» => exact .inl rfl
    | cell => exact .inr ⟨rfl, h⟩
    | _ => cases h
/-- the names of a body's context -/
structure OkN (X : Cx) (N : List Str) (sc : Scope) (tt : Bool) : Prop where
  n : X.N = N
  nd : N.Nodup
  calm : X.calm = true
  hsc : X.env.scope = sc
  kind : ∀ n, X.env.kindOf n = sc.names.lookup n
  fn : tt = true → ∀ n, X.fn n = true
section
variable {X : Cx} {N : List Str} {sc : Scope} {tt : Bool} {ρ ρ1 ρ' : List Sl} {e a b o tg iter elt : Expr} {es rest' ts ifs : List Expr} {rest body els : List Stmt} {d x y z : D} {ds xs ys out : List D} {pos pos' p p0 apos cpos p2 : Pos} {c c2 : Bool} {is js vs : List Nat} {scope : Scope} {oc : Oc} {n m : Str} {i j k : Nat} {l : Addr}
theorem OkN.hf (ok : OkN X N sc tt) (h : locB sc tt n = true) : X.fn n = true ∨ X.env.scope.names.lookup n = some .local := by
  rcases locB_ok h with h | h
  · exact .inr (by rw [ok.hsc]; exact h)
  · exact .inl (ok.fn h.2 n)
theorem OkN.hx (ok : OkN X N sc tt) (h : locB sc tt n = true) : Loc X.env.scope n := by
  rw [ok.hsc]
  rcases locB_ok h with h | h
  · exact .inl h
  · exact .inr h.1
theorem OkN.hv (ok : OkN X N sc tt) (h : visB sc n = true) : Vis X.env.scope n := by
  rw [ok.hsc]
  exact (visB_ok h).1
theorem OkN.at_ (ok : OkN X N sc tt) {s : Sl} (h : At N ρ n s i) : X.N[i]? = some n := by rw [ok.n, h.n]
theorem OkN.pt (ok : OkN X N sc tt) {s : Sl} (h : Put N ρ n s ρ' i) : X.N[i]? = some n := by rw [ok.n, h.n]
theorem OkN.ndN (ok : OkN X N sc tt) : X.N.Nodup := by rw [ok.n]; exact ok.nd
theorem OkN.gl (ok : OkN X N sc tt) (h : glB sc n = true) : Gl X n ∧ (n == ("__debug__" : Str)) = false := by
  unfold glB at h
  simp only [Bool.and_eq_true, Bool.not_eq_true'] at h
  obtain ⟨h1, h2⟩ := h
  refine ⟨?_, h2⟩
  show X.env.kindOf n = _
  rw [ok.kind]
  cases e : sc.names.lookup n with
  | none =>
    rw [e] at h1
    cases h1
  | some k =>
    rw [e] at h1
    cases k with
    | globalImplicit => rfl
    | _ => cases h1
theorem je_v (ok : OkN X N sc tt) (h : At N ρ n (.d d) i) (hv : visB sc n = true := by decide +kernel) : JD X ρ (.Name n p) d :=
  je_var i h.r (ok.at_ h) (ok.hv hv) (visB_ok hv).2.1 (visB_ok hv).2.2
theorem je_oix (ok : OkN X N sc tt) {k : Int} (h : At N ρ n (.own l xs) i) (hb : JD X ρ b (.int k)) (hi : atI xs k = some d) (hv : visB sc n = true := by decide +kernel) (hs : PlainIx b := by exact fun _ _ => rfl) : JD X ρ (.Subscript (.Name n p) b pos) d :=
  je_ownIx i h.r hb hi (ok.at_ h) hs (ok.hv hv) (visB_ok hv).2.1 (visB_ok hv).2.2
theorem je_olen (ok : OkN X N sc tt) (hm : X.mg "len" = none) (h : At N ρ n (.own l xs) i) (hgl : glB sc "len" = true := by decide +kernel) (hv : visB sc n = true := by decide +kernel)
    (hs : starEach [.Name n p0] X.env = (false, eval (.Name n p0) X.env) :: starEach [] X.env := by rfl) (hpl : (backTo pos (starEach [] X.env)).any (·.1) = false := by rfl) : JD X ρ (.Call (.Name "len" p) [.Name n p0] [] pos) (.int xs.length) :=
  je_ownLen i hm h.r (ok.at_ h) (ok.hv hv) (visB_ok hv).2.1 (visB_ok hv).2.2 (ok.gl hgl).1 hs hpl
theorem ji_o (ok : OkN X N sc tt) (h : At N ρ n (.own l xs) i) (hv : visB sc n = true := by decide +kernel) : JI X ρ tg (.Name n p) xs (fun ρ2 => ρ2[i]? = some (Sl.own l xs)) :=
  ji_own i h.r (ok.at_ h) (ok.hv hv) (visB_ok hv).2.1 (visB_ok hv).2.2
theorem jg_v (ok : OkN X N sc tt) (h : Put N ρ n (.d d) ρ' i) (hl : locB sc tt n = true := by decide +kernel) : JG X ρ (.Name n p) d ρ' [i] := by
  rw [h.r]
  exact jg_name i ok.ndN (ok.pt h) (ok.hx hl) (ok.hf hl)
theorem js_st (ok : OkN X N sc tt) (h : JD X ρ e d) (hp : Put N ρ n (.d d) ρ' i) (hl : locB sc tt n = true := by decide +kernel) (hs : swapsWith e (some (.Name n pos')) pos.line X.env = pure false := by rfl) : JS X ρ (.Assign [.Name n pos'] e pos) (.nx ρ') := by
  rw [hp.r]
  exact js_set i ok.ndN h (ok.pt hp) (ok.hx hl) hs (ok.hf hl)
theorem js_au {op : Operator} {f : Int → Int → Int} {k m : Int} {pos' : Pos} (ok : OkN X N sc tt) (ho : PIp X op (ipI f)) (ha : At N ρ n (.d (.int k)) i) (h : JD X ρ e (.int m)) (hp : Put N ρ n (.d (.int (f k m))) ρ' j) (hl : locB sc tt n = true := by decide +kernel) : JS X ρ (.AugAssign (.Name n pos') op e pos) (.nx ρ') := by
  have q := ha.put ok.nd hp
  subst q
  rw [hp.r]
  exact js_aug _ ok.ndN ho ha.r h (ok.at_ ha) (ok.hx hl) (ok.hf hl)
theorem jb_ow {ρ' : Addr → List Sl} (ok : OkN X N sc tt) (h : JN X ρ e xs) (hp : ∀ l, Put N ρ n (.own l xs) (ρ' l) i) (hr : ∀ l, JB X (ρ' l) rest oc) (hl : locB sc tt n = true := by decide +kernel) (hs : swapsWith e (some (.Name n pos')) pos.line X.env = pure false := by rfl) : JB X ρ (.Assign [.Name n pos'] e pos :: rest) oc :=
  jb_own i ok.ndN h (fun l => (hp l).r ▸ hr l) (ok.pt (hp 0)) (ok.hx hl) hs (ok.hf hl)
theorem jb_frz (ok : OkN X N sc tt) (h : At N ρ n (.own l xs) i) (hp : Put N ρ n (.d (.lst xs)) ρ' j) (hr : JB X ρ' rest oc) : JB X ρ rest oc := by
  have q := h.put ok.nd hp
  subst q
  exact jb_freeze _ h.r (hp.r ▸ hr)
theorem js_app (ok : OkN X N sc tt) (ha : At N ρ n (.own l xs) i) (h : JD X ρ e d) (hp : Put N ρ n (.own l (xs ++ [d])) ρ' j) (hl : xs.length < sizeLine) (hv : visB sc n = true := by decide +kernel) (hst : starEach [e] X.env = (false, eval e X.env) :: starEach [] X.env := by rfl)
    (hpe : ∀ {r : V → List V → Hp → VK → Prop} {i : Nat}, X.N[i]? = some n → Vis X.env.scope n → (n == ("__debug__" : Str)) = false → (n == ("__classdict__" : Str)) = false → MtR X "list.append" r → PE X (.Call (.Attribute (.Name n p0) "append" apos) [e] [] cpos) (tBM X.K "list" r (tVar i) (tCons (wE X e) tNil)) := by
      exact fun a b c d hm => pe_bm PySem.F.plainAttrs_list PySem.F.slot_list_append PySem.F.type_list_append hm (pe_var a b c d) (pa_cons peW pa_nil))
    (hs : swapsWith (.Call (.Attribute (.Name n p0) "append" apos) [e] [] cpos) none pos.line X.env = pure false := by rfl) : JS X ρ (.Expr (.Call (.Attribute (.Name n p0) "append" apos) [e] [] cpos) pos) (.nx ρ') := by
  have q := ha.put ok.nd hp
  subst q
  rw [hp.r]
  exact js_append _ ha.r h hl (ok.at_ ha) (ok.hv hv) (visB_ok hv).2.1 (visB_ok hv).2.2 hst (fun hm => hpe (ok.at_ ha) (ok.hv hv) (visB_ok hv).2.1 (visB_ok hv).2.2 hm) hs
theorem js_six {k : Int} {q : Nat} (ok : OkN X N sc tt) (ha : At N ρ n (.own l xs) i) (h : JD X ρ e d) (hb : JD X ρ b (.int k)) (hj : ixN xs.length k = some q) (hp : Put N ρ n (.own l (xs.set q d)) ρ' j) (hv : visB sc n = true := by decide +kernel)
    (ha' : ∀ v, assign (.Subscript (.Name n p0) b p) X.env v = (do
      let ov ← holding [v] (eval (.Name n p0) X.env)
      let iv ← holding [v, ov] (eval b X.env)
      standAt p
      holding [v, ov, iv] (setItem ov iv v)
      release [v, ov, iv] []) := by intro _; rfl)
    (hs : swapsWithSole [.Subscript (.Name n p0) b p] e pos.line X.env = pure false := by rfl) (hw : swappedStores [.Subscript (.Name n p0) b p] e X.env = pure none := by rfl) (h1 : (assignEach [.Subscript (.Name n p0) b p] X.env).map (·.2) = [assign (.Subscript (.Name n p0) b p) X.env] := by rfl) :
    JS X ρ (.Assign [.Subscript (.Name n p0) b p] e pos) (.nx ρ') := by
  have q := ha.put ok.nd hp
  subst q
  rw [hp.r]
  exact js_setIx _ ha.r h hb hj (ok.at_ ha) (ok.hv hv) (visB_ok hv).2.1 (visB_ok hv).2.2 ha' hs hw h1
/-- what op= gives of two data -/
def IpK (X : Cx) (op : Operator) (x y z : D) : Prop := ∃ tip, PIp X op tip ∧ ∀ (v u : V) (G H : Hp) (Q : VK), Same G H → IsD X.K G x v → IsD X.K G y u → (∀ w, IsD X.K G z w → Q w H) → tip v u H Q
theorem ip_addI {i j : Int} : IpK X .Add (.int i) (.int j) (.int (i + j)) := ⟨_, ip_add, fun v u G H Q s i1 i2 q => by
  cases i1
  cases i2
  exact ⟨_, _, rfl, rfl, q _ rfl⟩⟩
theorem ip_subI {i j : Int} : IpK X .Sub (.int i) (.int j) (.int (i - j)) := ⟨_, ip_sub, fun v u G H Q s i1 i2 q => by
  cases i1
  cases i2
  exact ⟨_, _, rfl, rfl, q _ rfl⟩⟩
theorem ip_addStr {u v : Str} (hl : u.length + v.length ≤ sizeLine) : IpK X .Add (.str u) (.str v) (.str (u ++ v)) := ⟨_, ip_addS, fun v u G H Q s i1 i2 q => by
  cases i1
  cases i2
  exact ⟨_, _, rfl, rfl, hl, q _ rfl⟩⟩
theorem js_aix {op : Operator} {k : Int} {q : Nat} (ok : OkN X N sc tt) (ha : At N ρ n (.own l xs) i) (hb : JD X ρ b (.int k)) (hj : ixN xs.length k = some q) (hx : xs[q]? = some x) (h : JD X ρ e y) (hk : IpK X op x y z) (hp : Put N ρ n (.own l (xs.set q z)) ρ' j) (hv : visB sc n = true := by decide +kernel)
    (ha' : ∀ ov iv new, augStore b ov iv new = (do holding [new, ov, iv] (setItem ov iv new); release [new, ov, iv] []; pure .next) := by intros; rfl) :
    JS X ρ (.AugAssign (.Subscript (.Name n p0) b p) op e pos) (.nx ρ') := by
  obtain ⟨tip, h1, h2⟩ := hk
  have q := ha.put ok.nd hp
  subst q
  rw [hp.r]
  exact js_augIx _ h1 h2 ha.r hb hj hx h (ok.at_ ha) (ok.hv hv) (visB_ok hv).2.1 (visB_ok hv).2.2 ha'
theorem je_ca {m j k : Nat} {R : List D → D → Prop} (ok : OkN X N sc tt) (F : Fn X.prog X.w X.K X.mg X.base k n m R) (hr : Room j X.A) (ha : JA X ρ (e :: es) ds) (hR : R ds d) (hk : k ≤ j) (hgl : glB sc n = true := by decide +kernel) (hl : ds.length = m := by rfl)
    (he : starEach (e :: es) X.env = (false, eval e X.env) :: starEach es X.env := by rfl) (hpl : (backTo pos (starEach es X.env)).any (·.1) = false := by rfl) : JD X ρ (.Call (.Name n p) (e :: es) [] pos) d :=
  je_call F hr ha hR hk hl (ok.gl hgl).1 (ok.gl hgl).2 he hpl
theorem je_ln {q : Nat} (ok : OkN X N sc tt) (hm : X.mg "len" = none) (ha : JD X ρ a x) (k : LenK x q) (hgl : glB sc "len" = true := by decide +kernel) (hs : starEach [a] X.env = (false, eval a X.env) :: starEach [] X.env := by rfl) (hpl : (backTo pos (starEach [] X.env)).any (·.1) = false := by rfl) : JD X ρ (.Call (.Name "len" p) [a] [] pos) (.int q) := je_len hm ha k (ok.gl hgl).1 hs hpl
theorem je_sI {i : Int} (ok : OkN X N sc tt) (hm : X.mg "str" = none) (ha : JD X ρ a (.int i)) (hl : i.natAbs.log2 < 1920) (hgl : glB sc "str" = true := by decide +kernel) (hs : starEach [a] X.env = (false, eval a X.env) :: starEach [] X.env := by rfl) (hpl : (backTo pos (starEach [] X.env)).any (·.1) = false := by rfl) : JD X ρ (.Call (.Name "str" p) [a] [] pos) (.str (toString i)) := je_strI hm ha hl (ok.gl hgl).1 hs hpl
/-- what int(..) gives -/
inductive IntK : D → D → Prop
  | bl (k : Bool) : IntK (.bl k) (.int (if k then 1 else 0))
  | str (t : Str) (q : Int) (h : PySem.intText? t = some q) (hl : t.length ≤ 640) : IntK (.str t) (.int q)
theorem je_in (ok : OkN X N sc tt) (hm : X.mg "int" = none) (ha : JD X ρ a x) (k : IntK x d) (hgl : glB sc "int" = true := by decide +kernel) (hs : starEach [a] X.env = (false, eval a X.env) :: starEach [] X.env := by rfl) (hpl : (backTo pos (starEach [] X.env)).any (·.1) = false := by rfl) : JD X ρ (.Call (.Name "int" p) [a] [] pos) d := by
  cases k with
  | bl k => exact je_intB hm ha (ok.gl hgl).1 hs hpl
  | str t q h hl => exact je_intS hm ha h hl (ok.gl hgl).1 hs hpl
theorem je_mx {i j : Int} (ok : OkN X N sc tt) (hm : X.mg "max" = none) (ha : JD X ρ a (.int i)) (hb : JD X ρ b (.int j)) (hgl : glB sc "max" = true := by decide +kernel) (hs : starEach [a, b] X.env = (false, eval a X.env) :: starEach [b] X.env := by rfl) (hs2 : starEach [b] X.env = (false, eval b X.env) :: starEach [] X.env := by rfl) (hpl : (backTo pos (starEach [b] X.env)).any (·.1) = false := by rfl) : JD X ρ (.Call (.Name "max" p) [a, b] [] pos) (.int (if j > i then j else i)) := je_max ok.calm hm ha hb (ok.gl hgl).1 hs hs2 hpl
theorem je_mn {i j : Int} (ok : OkN X N sc tt) (hm : X.mg "min" = none) (ha : JD X ρ a (.int i)) (hb : JD X ρ b (.int j)) (hgl : glB sc "min" = true := by decide +kernel) (hs : starEach [a, b] X.env = (false, eval a X.env) :: starEach [b] X.env := by rfl) (hs2 : starEach [b] X.env = (false, eval b X.env) :: starEach [] X.env := by rfl) (hpl : (backTo pos (starEach [b] X.env)).any (·.1) = false := by rfl) : JD X ρ (.Call (.Name "min" p) [a, b] [] pos) (.int (if j < i then j else i)) := je_min ok.calm hm ha hb (ok.gl hgl).1 hs hs2 hpl
theorem jn_li (ok : OkN X N sc tt) (hm : X.mg "list" = none) (ha : JD X ρ a (.lst xs)) (hgl : glB sc "list" = true := by decide +kernel) (hs : starEach [a] X.env = (false, eval a X.env) :: starEach [] X.env := by rfl) (hpl : (backTo pos (starEach [] X.env)).any (·.1) = false := by rfl) : JN X ρ (.Call (.Name "list" p) [a] [] pos) xs := jn_list hm ha (ok.gl hgl).1 hs hpl
theorem je_al {bs : List Bool} (ok : OkN X N sc tt) (hm : X.mg "all" = none) (ha : JD X ρ a (.lst (bs.map D.bl))) (hgl : glB sc "all" = true := by decide +kernel) (hs : starEach [a] X.env = (false, eval a X.env) :: starEach [] X.env := by rfl) (hpl : (backTo pos (starEach [] X.env)).any (·.1) = false := by rfl) : JD X ρ (.Call (.Name "all" p) [a] [] pos) (.bl (bs.all id)) := je_all ok.calm hm ha (ok.gl hgl).1 hs hpl
theorem je_an {bs : List Bool} (ok : OkN X N sc tt) (hm : X.mg "any" = none) (ha : JD X ρ a (.lst (bs.map D.bl))) (hgl : glB sc "any" = true := by decide +kernel) (hs : starEach [a] X.env = (false, eval a X.env) :: starEach [] X.env := by rfl) (hpl : (backTo pos (starEach [] X.env)).any (·.1) = false := by rfl) : JD X ρ (.Call (.Name "any" p) [a] [] pos) (.bl (bs.any id)) := je_any ok.calm hm ha (ok.gl hgl).1 hs hpl
theorem je_iI {T : String} {ny : Str} (ok : OkN X N sc tt) (hm : X.mg "isinstance" = none) (hmT : X.mg ny = none) (hT : bootBuiltins ny = some (.type T)) (hnT : ny ≠ "__name__") (ha : JD X ρ a x) (hp : plainD x = true) (hk : kitB (tyD x) T = some c) (hgl : glB sc "isinstance" = true := by decide +kernel) (hgl2 : glB sc ny = true := by decide +kernel)
    {p2 : Pos} (hs : starEach [a, .Name ny p2] X.env = (false, eval a X.env) :: starEach [.Name ny p2] X.env := by rfl) (hs2 : starEach [.Name ny p2] X.env = (false, eval (.Name ny p2) X.env) :: starEach [] X.env := by rfl) (hpl : (backTo pos (starEach [.Name ny p2] X.env)).any (·.1) = false := by rfl) :
    JD X ρ (.Call (.Name "isinstance" p) [a, .Name ny p2] [] pos) (.bl c) := je_isi (n := "isinstance") hm hmT hT ha hp hk (ok.gl hgl).1 (ok.gl hgl2).1 hnT (ok.gl hgl2).2 hs hs2 hpl
theorem ji_r1 {j : Int} (ok : OkN X N sc tt) (hm : X.mg "range" = none) (ha : JD X ρ a (.int j)) (h1 : -(2 ^ 62) ≤ j) (h2 : j < 2 ^ 62) (hgl : glB sc "range" = true := by decide +kernel) (hs : starEach [a] X.env = [(false, eval a X.env)] := by rfl) (hs' : starEach [a] X.env = (false, eval a X.env) :: starEach [] X.env := by rfl) : JI X ρ tg (.Call (.Name "range" p) [a] [] pos) ((List.range j.toNat).map fun i => D.int (i : Nat)) ocT :=
  rngD_eq j.toNat ▸ ji_range1 hm ha h1 h2 (ok.gl hgl).1 hs hs'
theorem ji_rr {j : Int} {p2 pos2 : Pos} (ok : OkN X N sc tt) (hm : X.mg "reversed" = none) (hm2 : X.mg "range" = none) (ha : JD X ρ a (.int j)) (h0 : 0 ≤ j) (h2 : j < 2 ^ 62) (hgl : glB sc "reversed" = true := by decide +kernel) (hgl2 : glB sc "range" = true := by decide +kernel)
    (hpi : ∀ {ta : TE}, Gl X "reversed" → X.mg "reversed" = none → Gl X "range" → X.mg "range" = none → PE X a ta → PI X tg (.Call (.Name "reversed" p) [.Call (.Name "range" p2) [a] [] pos2] [] pos) (iRevR (tRg1 ta)) := by exact fun h1 h2 h3 h4 h => pi_revR h1 h2 (prg_1 h3 h4 h)) :
    JI X ρ tg (.Call (.Name "reversed" p) [.Call (.Name "range" p2) [a] [] pos2] [] pos) ((List.range j.toNat).reverse.map fun i => D.int (i : Nat)) ocT :=
  rngD_down j.toNat ▸ ji_revRange hm hm2 ha (by omega) h2 (ok.gl hgl).1 (ok.gl hgl2).1 (fun h => hpi (ok.gl hgl).1 hm (ok.gl hgl2).1 hm2 h)
theorem ji_re (ok : OkN X N sc tt) (hm : X.mg "reversed" = none) (ha : JD X ρ a (.lst xs)) (hgl : glB sc "reversed" = true := by decide +kernel) (hs : starEach [a] X.env = [(false, eval a X.env)] := by rfl) (hs' : starEach [a] X.env = (false, eval a X.env) :: starEach [] X.env := by rfl) : JI X ρ tg (.Call (.Name "reversed" p) [a] [] pos) xs.reverse ocT := ji_rev hm ha (ok.gl hgl).1 hs hs'
theorem ji_en {elts : List Expr} {kk : Nat} {tpos : Pos} (ok : OkN X N sc tt) (hm : X.mg "enumerate" = none) (ha : JD X ρ a (.lst xs)) (hgl : glB sc "enumerate" = true := by decide +kernel) (hs : starEach [a] X.env = [(false, eval a X.env)] := by rfl) (hs' : starEach [a] X.env = (false, eval a X.env) :: starEach [] X.env := by rfl) : JI X ρ (.Tuple elts kk tpos) (.Call (.Name "enumerate" p) [a] [] pos) (enumD xs) ocT := ji_enum hm ha (ok.gl hgl).1 hs hs'
theorem ji_zi {elts : List Expr} {kk : Nat} {tpos : Pos} (ok : OkN X N sc tt) (hm : X.mg "zip" = none) (ha : JD X ρ a (.lst xs)) (hb : JD X ρ b (.lst ys)) (hgl : glB sc "zip" = true := by decide +kernel) (hs : starEach [a, b] X.env = (false, eval a X.env) :: starEach [b] X.env := by rfl) (hs2 : starEach [b] X.env = (false, eval b X.env) :: starEach [] X.env := by rfl) (hpl : (backTo pos (starEach [b] X.env)).any (·.1) = false := by rfl) :
    JI X ρ (.Tuple elts kk tpos) (.Call (.Name "zip" p) [a, b] [] pos) (zipD xs ys) ocT := ji_zip hm ha hb (ok.gl hgl).1 hs hs2 hpl
/-- a block's scope within another one -/
def relS (scope sc : Scope) : Scope := { scope with names := scope.names.map fun (n, k) => if (k == .free && sc.kind == .function && sc.names.lookup n == some .cell) then (n, .cell) else (n, k) }
/-- the names of a block -/
theorem OkN.blk (ok : OkN X N sc tt) {scope : Scope} {s : Shared} {H : Hp} {C : Addr} {cl : List (Str × Addr)} {fp : List Addr} : OkN (X.blk s H scope (compEnvC scope cl C X.env) fp) N (relS scope sc) false := by
  have e : relabel scope X.env = relS scope sc := by
    unfold relabel relS
    rw [ok.hsc]
    congr 1
    apply List.map_congr_left
    rintro ⟨n, k⟩ _
    dsimp only
    rw [ok.kind]
  exact ⟨ok.n, ok.nd, ok.calm, e, fun n => by rw [← e]; rfl, nofun⟩
end
end DL
-- DL14
/-! The program's defs by number, with their names' facts. -/
namespace DL
open PySem PySem.Spec PyProof.Rows L2 RW
section
variable {P : Program} {w : World} {K : PySem.W.Frag} {mg : Str → Option Value} {base : Heap} {k : Nat} {R : List D → D → Prop}
theorem Ctx.f_len (c : Ctx w K mg base) : mg "len" = none := c.free 59
theorem Ctx.f_max (c : Ctx w K mg base) : mg "max" = none := c.free 60
theorem Ctx.f_list (c : Ctx w K mg base) : mg "list" = none := c.free 61
theorem Ctx.f_reversed (c : Ctx w K mg base) : mg "reversed" = none := c.free 62
theorem Ctx.f_range (c : Ctx w K mg base) : mg "range" = none := c.free 63
theorem Ctx.f_enumerate (c : Ctx w K mg base) : mg "enumerate" = none := c.free 64
theorem Ctx.f_zip (c : Ctx w K mg base) : mg "zip" = none := c.free 65
theorem Ctx.f_all (c : Ctx w K mg base) : mg "all" = none := c.free 66
theorem Ctx.f_any (c : Ctx w K mg base) : mg "any" = none := c.free 67
theorem Ctx.f_isinstance (c : Ctx w K mg base) : mg "isinstance" = none := c.free 68
theorem Ctx.f_str (c : Ctx w K mg base) : mg "str" = none := c.free 69
theorem Ctx.f_int (c : Ctx w K mg base) : mg "int" = none := c.free 70
theorem Ctx.f_min (c : Ctx w K mg base) : mg "min" = none := c.free 71
theorem Ctx.f_sorted (c : Ctx w K mg base) : mg "sorted" = none := c.free 72
theorem Ctx.f_tuple (c : Ctx w K mg base) : mg "tuple" = none := c.free 73
theorem Ctx.f_bool (c : Ctx w K mg base) : mg "bool" = none := c.free 74
theorem OkN.fx {N : List Str} {qual : Str} {scope : Scope} {f : Addr} {cdv : Value} {A : Around} {outer : List Env} {s : Shared} {H : Hp} (nd : N.Nodup) : OkN (fx P w K mg base N qual scope f cdv A outer s H) N scope true where
  n := rfl
  nd := nd
  calm := rfl
  hsc := rfl
  kind := fun _ => rfl
  fn := fun _ _ => rfl
theorem Ctx.df (c : Ctx w K mg base) (i : Nat) (N ps : List Str) {n k' : Nat} {x : Str} {d : He.DefD} (hd : RW.fn[i]? = some d := by rfl) (hg : RW.fa[i]? = some (.glo x) := by rfl) (hn : ps.length = n := by rfl) (hk' : k + 1 = k' := by rfl) (hv : d.dvs K = [] := by rfl) (hk : d.kws K = [] := by rfl) (ha : He.fAd K d.at_ = He.ga K x := by rfl)
    (S : FnScope N ps d.scope := by exact ⟨rfl, rfl, rfl, by decide +kernel, rfl, by decide +kernel, by decide +kernel⟩)
    (hb : ∀ {x qual : Str} {kws : List (Str × V)} {f : Addr} {fd : FuncData}, FunD K x qual d.params d.body d.scope [] kws f fd → Binds K fd ps [] := by
      first
      | exact fun F => F.bindsN fun _ _ _ _ _ _ us hl => match us, hl with | [_], _ => rfl
      | exact fun F => F.bindsN fun _ _ _ _ _ _ us hl => match us, hl with | [_, _], _ => rfl
      | exact fun F => F.bindsN fun _ _ _ _ _ _ us hl => match us, hl with | [_, _, _], _ => rfl
      | exact fun F => F.bindsN fun _ _ _ _ _ _ us hl => match us, hl with | [_, _, _, _], _ => rfl
      | exact fun F => F.bindsN fun _ _ _ _ _ _ us hl => match us, hl with | [_, _, _, _, _], _ => rfl)
    (h : ∀ (cdv : Value) (A : Around) (outer : List Env) (s : Shared) (H : Hp) (E : XK), Room k (A.deeper (envOfC d.qual d.scope s.heap.objs.size (He.ga K x) cdv)) → OkN (fx P w K mg base N d.qual d.scope (He.ga K x) cdv A outer s H) N d.scope true → ∀ ds r, ds.length = n → R ds r → ∃ o, JB (fx P w K mg base N d.qual d.scope (He.ga K x) cdv A outer s H) (st0 N ds) d.body o ∧ Fin r o) : Fn P w K mg base k' x n R :=
  Ctx.fn (x := x) (d := d) c i N ps (hd := hd) (hg := hg) (hn := hn) (hk' := hk') (hv := hv) (hk := hk) (ha := ha) (S := S) (hb := hb) (h := fun cdv A outer s H E hr nd => h cdv A outer s H E hr (OkN.fx nd))
theorem bodyE {X : Cx} {ρ ρ' : List Sl} {b : List Stmt} {r : D} (o : Oc) (h : JB X ρ' b o) (hρ : Wk ρ ρ') (hF : Fin r o) : ∃ o, JB X ρ b o ∧ Fin r o := ⟨o, h.pre hρ, hF⟩
/-- a body that returns -/
theorem bodyR {X : Cx} {ρ ρ' : List Sl} {st : Stmt} {rest : List Stmt} {r : D} (hρ : Wk ρ ρ') (h : JB X ρ' (st :: rest) (.rt r)) : ∃ o, JB X ρ (st :: rest) o ∧ Fin r o := ⟨_, h.pre hρ, rfl⟩
end
end DL
-- DL15
/-! Loops towards a fixed end. -/
namespace DL
open PySem PySem.Spec PyProof.Rows L2 RW
section
variable {X : Cx} {N : List Str} {sc : Scope} {ρ ρ1 ρ' : List Sl} {e a b o tg iter elt : Expr} {es ts ifs : List Expr} {sts body els : List Stmt} {d x y : D} {ds xs ys out : List D} {pos p apos p2 : Pos} {c c2 : Bool} {is js vs : List Nat} {scope : Scope} {oc : Oc}
theorem js_whileG {α : Type} (st : α → List Sl) (G : Nat → α → Prop) (oc : Oc) (f0 : Nat) (a0 : α) (h : G f0 a0) (hρ : Wk ρ (st a0)) (hp : PassesOwn (model X.prog X.w) X.A X.env X.xe)
    (hs : ∀ f a, G f a → ∃ c, JT X (st a) e c ∧ (c = false → ∃ ρe, oc = .nx ρe ∧ Wk (st a) ρe) ∧ (c = true → (∃ d, JB X (st a) body (.rt d) ∧ oc = .rt d) ∨ ∃ f' a', f' < f ∧ G f' a' ∧ JB X (st a) body (.nx (st a')))) : JS X ρ (.While e body [] pos) oc := fun G0 H0 G1 H σ E T t => by
  have key : ∀ (n f : Nat) (a : α), f < n → G f a → ∃ o', Whl X e body n (st a) o' ∧ (o' = oc ∨ ∃ ρe ρe', o' = .nx ρe ∧ oc = .nx ρe' ∧ Wk ρe ρe') := by
    intro n
    induction n with
    | zero => intro f a h _; exact absurd h (Nat.not_lt_zero _)
    | succ n ih =>
      intro f a hf hG
      obtain ⟨c, hT, hF, ht⟩ := hs f a hG
      cases c with
      | false =>
        obtain ⟨ρe, h1, h2⟩ := hF rfl
        exact ⟨.nx (st a), .inl ⟨hT, rfl⟩, .inr ⟨_, _, rfl, h1, h2⟩⟩
      | true =>
        rcases ht rfl with ⟨r, h1, h2⟩ | ⟨f', a', h1, h3, h4⟩
        · exact ⟨.rt r, .inr ⟨hT, .inl ⟨r, h1, rfl⟩⟩, .inl h2.symm⟩
        · obtain ⟨o', h6, h7⟩ := ih f' a' (by omega) h3
          exact ⟨o', .inr ⟨hT, .inr ⟨_, h4, h6⟩⟩, h7⟩
  obtain ⟨o', h1, h2⟩ := key (f0 + 1) f0 a0 (Nat.lt_succ_self _) h
  refine js_while hp h1 G0 H0 G1 H σ (E.wk hρ) T ?_
  rcases h2 with rfl | ⟨ρe, ρe', rfl, h3, h4⟩
  · exact t
  · rw [h3] at t
    exact fun σ' G' H' E' s => t σ' G' H' (E'.wk h4) s
theorem lp_ofG {α β : Type} {ok : List Sl → Prop} {f : β → D} {st : α → List Sl} {G : α → List β → Prop} {oc : Oc} (hok : ∀ a l, G a l → ok (st a)) (h0 : ∀ a, G a [] → ∃ ρe, oc = .nx ρe ∧ Wk (st a) ρe)
    (hs : ∀ a x xs, G a (x :: xs) → ∃ ρ1 is, JG X (st a) tg (f x) ρ1 is ∧ ((∃ r, JB X ρ1 body (.rt r) ∧ oc = .rt r) ∨ ∃ a', G a' xs ∧ JB X ρ1 body (.nx (st a')))) : ∀ (l : List β) (a : α), G a l → ∃ o', Lp X tg body ok (l.map f) (st a) o' ∧ (o' = oc ∨ ∃ ρe ρe', o' = .nx ρe ∧ oc = .nx ρe' ∧ Wk ρe ρe')
  | [], a, h => by
    obtain ⟨ρe, h1, h2⟩ := h0 a h
    exact ⟨.nx (st a), ⟨hok a _ h, rfl⟩, .inr ⟨_, _, rfl, h1, h2⟩⟩
  | x :: xs, a, h => by
    obtain ⟨ρ1, is, hG, h2⟩ := hs a x xs h
    rcases h2 with ⟨r, h3, h4⟩ | ⟨a', h4, h3⟩
    · exact ⟨.rt r, ⟨hok a _ h, ρ1, is, hG, .inl ⟨r, h3, rfl⟩⟩, .inl h4.symm⟩
    · obtain ⟨o', h6, h7⟩ := lp_ofG hok h0 hs xs a' h4
      exact ⟨o', ⟨hok a _ h, ρ1, is, hG, .inr ⟨_, h3, h6⟩⟩, h7⟩
theorem js_forK {α β : Type} {ok : List Sl → Prop} {f : β → D} {l : List β} (st : α → List Sl) (G : α → List β → Prop) (oc : Oc) (a0 : α) (hok : ∀ a l, G a l → ok (st a)) (hi : JI X (st a0) tg iter (l.map f) ok) (h : G a0 l) (hρ : Wk ρ (st a0)) (hp : PassesOwn (model X.prog X.w) X.A X.env X.xe) (hc : X.calm = true)
    (h0 : ∀ a, G a [] → ∃ ρe, oc = .nx ρe ∧ Wk (st a) ρe)
    (hs : ∀ a x xs, G a (x :: xs) → ∃ ρ1 is, JG X (st a) tg (f x) ρ1 is ∧ ((∃ r, JB X ρ1 body (.rt r) ∧ oc = .rt r) ∨ ∃ a', G a' xs ∧ JB X ρ1 body (.nx (st a'))))
    (hs' : ∀ x, foldedSetIterable iter X.env x = pure x := by intro _; rfl) : JS X ρ (.For tg iter body [] pos) oc := fun G0 H0 G1 H σ E T t => by
  obtain ⟨o', h1, h2⟩ := lp_ofG hok h0 hs l a0 h
  refine js_for hp hc hi h1 hs' G0 H0 G1 H σ (E.wk hρ) T ?_
  rcases h2 with rfl | ⟨ρe, ρe', rfl, h3, h4⟩
  · exact t
  · rw [h3] at t
    exact fun σ' G' H' E' s => t σ' G' H' (E'.wk h4) s
theorem js_forG {α β : Type} {f : β → D} {l : List β} (st : α → List Sl) (G : α → List β → Prop) (oc : Oc) (a0 : α) (hi : JI X (st a0) tg iter (l.map f) ocT) (h : G a0 l) (hρ : Wk ρ (st a0)) (hp : PassesOwn (model X.prog X.w) X.A X.env X.xe) (hc : X.calm = true)
    (h0 : ∀ a, G a [] → ∃ ρe, oc = .nx ρe ∧ Wk (st a) ρe)
    (hs : ∀ a x xs, G a (x :: xs) → ∃ ρ1 is, JG X (st a) tg (f x) ρ1 is ∧ ((∃ r, JB X ρ1 body (.rt r) ∧ oc = .rt r) ∨ ∃ a', G a' xs ∧ JB X ρ1 body (.nx (st a'))))
    (hs' : ∀ x, foldedSetIterable iter X.env x = pure x := by intro _; rfl) : JS X ρ (.For tg iter body [] pos) oc := js_forK st G oc a0 (fun _ _ _ => trivial) hi h hρ hp hc h0 hs hs'
theorem JG.eqD {d' : D} (h : JG X ρ tg d ρ' is) (q : d = d') : JG X ρ tg d' ρ' is := q ▸ h
theorem JI.conv {ok : List Sl → Prop} {ds' : List D} (h : JI X ρ tg iter ds ok) (q : ds = ds') : JI X ρ tg iter ds' ok := q ▸ h
theorem jb_rt {st : Stmt} (h : JS X ρ st (.rt d)) {rest : List Stmt} : JB X ρ (st :: rest) (.rt d) := jb_stop h
theorem jb_if {c : Bool} (h : JT X ρ e c) (h1 : c = true → JB X ρ body oc) (hr : c = true → ∃ d, oc = .rt d) (h2 : c = false → JB X ρ sts oc) : JB X ρ (.If e body [] pos :: sts) oc := jb_ifRet h h1 hr h2
end
end DL
-- M0
/-! Mirrors: what the defs compute, in plain Lean. -/
namespace M
open DL
/-- one prime taken out -/
def stripP : Nat → Int → Int → Int → Option (Int × Int)
  | 0, _, _, _ => none
  | f + 1, p, n, m => if n % p = 0 then stripP f p (n / p) (m + 1) else some (n, m)
/-- what is taken out, and what is left -/
def prtE : Nat → Int → Int → Option (List (Int × Int) × Int)
  | 0, _, _ => none
  | f + 1, p, n => if p * p ≤ n then
      (match stripP f p n 0 with
      | some (n', m) => (match prtE f (p + 1) n' with
        | some (l, n2) => some (if 0 < m then (p, m) :: l else l, n2)
        | none => none)
      | none => none)
    else some ([], n)
def prt (f : Nat) (p n : Int) : Option (List (Int × Int)) := match prtE f p n with
  | some (l, n2) => some (if 1 < n2 then l ++ [(n2, 1)] else l)
  | none => none
def prD (q : Int × Int) : D := .tup [.int q.1, .int q.2]
def intsD (l : List Int) : List D := l.map D.int
/-- without noughts at the end: how many are left -/
def trimN (l : List Int) : Nat → Nat
  | 0 => 0
  | m + 1 => if l[m]?.getD 0 = 0 then trimN l m else m + 1
def trim (l : List Int) : List Int := l.take (trimN l l.length)
/-- less a multiple, from a place on -/
def subAt (c : Int) : List Int → List Int → Nat → List Int
  | left, [], _ => left
  | left, x :: g, k => subAt c (left.set k (left[k]?.getD 0 - c * x)) g (k + 1)
/-- the places are gone through from behind: how often, what is left -/
def ovr (g : List Int) : List Nat → List Int → List Int → List Int × List Int
  | [], told, left => (told, left)
  | i :: r, told, left => let c := left[i + g.length - 1]?.getD 0; ovr g r (told.set i c) (subAt c left g i)
def overQ (f g : List Int) : List Int × List Int :=
  let n := (f.length + 1) - g.length
  ovr g (List.range n).reverse (List.replicate n 0) f
def horner (a : Int) : List Int → Int → Int
  | [], t => t
  | x :: r, t => horner a r (t * a + x)
def value (f : List Int) (a : Int) : Int := horner a f.reverse 0
def lessOne (d : Nat) : List Int := [-1] ++ List.replicate (d - 1) 0 ++ [1]
def low : Nat → Int → Int → Option (List Int)
  | 0, _, _ => none
  | f + 1, d, n => if d * d ≤ n then (match low f (d + 1) n with
      | some l => some (if n % d = 0 then d :: l else l)
      | none => none) else some []
def divs (lo : List Int) (n : Int) : List Int := lo ++ lo.reverse.filterMap fun d => if d * d = n then none else some (n / d)
def okG (g : List Int) : Bool := decide (g ≠ []) && (decide (g.length ≤ 1000) && (decide (g[g.length - 1]?.getD 0 = 1) && g.all fun x => decide (-(2 ^ 60) < x) && decide (x < 2 ^ 60)))
/-- one divisor's polynomial, out of those before -/
def rpF (d : Int) : List (Int × List Int) → List Int → Option (List Int)
  | [], f => if f.length ≤ 1000 then some f else none
  | (e, g) :: r, f => if f.length ≤ 1000 ∧ 0 < e then (if d % e = 0 then (if okG g then rpF d r (trim (overQ f g).1) else none) else rpF d r f) else none
def rps : List Int → List (Int × List Int) → Option (List (Int × List Int))
  | [], told => some told
  | d :: ds, told => if 1 ≤ d ∧ d ≤ 1000 ∧ told.length ≤ 1000 then (match rpF d told (lessOne d.toNat) with
    | some f => rps ds (told ++ [(d, f)])
    | none => none) else none
def rootPolys (n : Int) : Option (List (Int × List Int)) := match low 40 1 n with
  | some lo => rps (divs lo n) []
  | none => none
def rootPoly (n : Int) : Option (List Int) := match rootPolys n with
  | some l => (l[l.length - 1]?).map (·.2)
  | none => none
def rpD (q : Int × List Int) : D := .tup [.int q.1, .lst (intsD q.2)]
end M
-- DL16
/-! Data without texts, compared; small lemmas on data. -/
namespace DL
open PySem PySem.Spec PyProof.Rows L2 RW M
def okE : Nat → D → Bool
  | _, .non => true
  | _, .bl _ => true
  | _, .int _ => true
  | n + 1, .tup l => l.all (okE n)
  | n + 1, .lst l => l.all (okE n)
  | _, _ => false
theorem okE_ok : ∀ (n : Nat) (d : D), okE n d = true → okPy d = true ∧ PyData.canLay0 (toPy d) = true ∧ PyData.depth (toPy d) ≤ n + 1
  | n, .non, _ => ⟨rfl, by simp [toPy, PyData.canLay0], by simp [toPy, PyData.depth]⟩
  | n, .bl _, _ => ⟨rfl, by simp [toPy, PyData.canLay0], by simp [toPy, PyData.depth]⟩
  | n, .int _, _ => ⟨rfl, by simp [toPy, PyData.canLay0], by simp [toPy, PyData.depth]⟩
  | 0, .str _, h => by simp [okE] at h
  | n + 1, .str _, h => by simp [okE] at h
  | 0, .scr _, h => by simp [okE] at h
  | n + 1, .scr _, h => by simp [okE] at h
  | 0, .dsk _, h => by simp [okE] at h
  | n + 1, .dsk _, h => by simp [okE] at h
  | 0, .tup _, h => by simp [okE] at h
  | 0, .lst _, h => by simp [okE] at h
  | n + 1, .tup l, h => by
    have h : l.all (okE n) = true := h
    have key : ∀ l : List D, l.all (okE n) = true → okPys l = true ∧ PyData.canLayAll0 (toPys l) = true ∧ PyData.depthAll (toPys l) ≤ n + 1 := by
      intro l
      induction l with
      | nil => intro _; exact ⟨rfl, by simp [toPys, PyData.canLayAll0], by simp [toPys, PyData.depthAll]⟩
      | cons d l ih =>
        intro h
        rw [List.all_cons, Bool.and_eq_true] at h
        obtain ⟨a1, a2, a3⟩ := okE_ok n d h.1
        obtain ⟨b1, b2, b3⟩ := ih h.2
        refine ⟨by simp [okPys, a1, b1], by simp [toPys, PyData.canLayAll0, a2, b2], ?_⟩
        simp only [toPys, PyData.depthAll]
        omega
    obtain ⟨a, b, c⟩ := key l h
    exact ⟨a, by simpa [toPy, PyData.canLay0] using b, by simp only [toPy, PyData.depth]; omega⟩
  | n + 1, .lst l, h => by
    have h : l.all (okE n) = true := h
    have key : ∀ l : List D, l.all (okE n) = true → okPys l = true ∧ PyData.canLayAll0 (toPys l) = true ∧ PyData.depthAll (toPys l) ≤ n + 1 := by
      intro l
      induction l with
      | nil => intro _; exact ⟨rfl, by simp [toPys, PyData.canLayAll0], by simp [toPys, PyData.depthAll]⟩
      | cons d l ih =>
        intro h
        rw [List.all_cons, Bool.and_eq_true] at h
        obtain ⟨a1, a2, a3⟩ := okE_ok n d h.1
        obtain ⟨b1, b2, b3⟩ := ih h.2
        refine ⟨by simp [okPys, a1, b1], by simp [toPys, PyData.canLayAll0, a2, b2], ?_⟩
        simp only [toPys, PyData.depthAll]
        omega
    obtain ⟨a, b, c⟩ := key l h
    exact ⟨a, by simpa [toPy, PyData.canLay0] using b, by simp only [toPy, PyData.depth]; omega⟩
theorem EqOk.of {n : Nat} {d : D} (h : okE n d = true) (hn : n ≤ 60) : EqOk d := by
  obtain ⟨a, b, c⟩ := okE_ok n d h
  refine ⟨a, ?_⟩
  unfold SeqAt.shaped
  rw [b, Bool.true_and]
  exact decide_eq_true (by omega)
theorem okE_ints (n : Nat) (l : List Int) : okE (n + 1) (.lst (intsD l)) = true := by
  show (intsD l).all (okE n) = true
  unfold intsD
  rw [List.all_map, List.all_eq_true]
  intro x _
  cases n <;> rfl
theorem okE_prs (n : Nat) (l : List (Int × Int)) : okE (n + 2) (.lst (l.map prD)) = true := by
  show (l.map prD).all (okE (n + 1)) = true
  rw [List.all_map, List.all_eq_true]
  intro x _
  cases n <;> rfl
theorem eqok_ints (l : List Int) : EqOk (.lst (intsD l)) := EqOk.of (okE_ints 0 l) (by decide)
theorem eqok_prs (l : List (Int × Int)) : EqOk (.lst (l.map prD)) := EqOk.of (okE_prs 0 l) (by decide)
theorem eqok_nil : EqOk (.lst []) := eqok_ints []
theorem eqv_nil (l : List D) : PyData.eqv (toPy (.lst l)) (toPy (.lst [])) = l.isEmpty := by
  cases l <;> simp [toPy, toPys, PyData.eqv, PyData.eqvAll]
theorem eqv_prs : ∀ a b : List (Int × Int), PyData.eqv (toPy (.lst (a.map prD))) (toPy (.lst (b.map prD))) = decide (a = b) := by
  have key : ∀ a b : List (Int × Int), PyData.eqvAll (toPys (a.map prD)) (toPys (b.map prD)) = decide (a = b) := by
    intro a
    induction a with
    | nil => intro b; cases b <;> simp [toPys, PyData.eqvAll]
    | cons x a ih =>
      intro b
      cases b with
      | nil => simp [toPys, PyData.eqvAll]
      | cons y b =>
        obtain ⟨x1, x2⟩ := x
        obtain ⟨y1, y2⟩ := y
        simp only [List.map_cons, toPys, PyData.eqvAll, ih, prD, toPy, PyData.eqv, List.cons.injEq, Prod.mk.injEq, Bool.and_true]
        by_cases h1 : x1 = y1 <;> by_cases h2 : x2 = y2 <;> by_cases h3 : a = b <;> simp [h1, h2, h3]
  intro a b
  simp only [toPy, PyData.eqv]
  exact key a b
theorem flat_rep {α : Type} (n : Nat) (x : α) : (List.replicate n [x]).flatten = List.replicate n x := by
  induction n with
  | zero => rfl
  | succ n ih => rw [List.replicate_succ, List.flatten_cons, ih, List.replicate_succ]; rfl
def gt (l : List Int) (k : Nat) : Int := l[k]?.getD 0
theorem intsD_len (l : List Int) : (intsD l).length = l.length := List.length_map ..
theorem intsD_get {l : List Int} {k : Nat} (h : k < l.length) : (intsD l)[k]? = some (.int (gt l k)) := by
  unfold intsD gt
  rw [List.getElem?_map, List.getElem?_eq_getElem h]
  rfl
theorem atI_ints {l : List Int} {i : Int} {k : Nat} (h : k < l.length) (e : i = (k : Int)) : atI (intsD l) i = some (.int (gt l k)) := by
  subst e
  exact atI_nat (intsD_get h)
theorem atI_at {l : List D} {i : Int} {k : Nat} {d : D} (h : l[k]? = some d) (e : i = (k : Int)) : atI l i = some d := by
  subst e
  exact atI_nat h
theorem ixN_at {n : Nat} {i : Int} {k : Nat} (h : k < n) (e : i = (k : Int)) : ixN n i = some k := by
  subst e
  unfold ixN
  rw [if_pos (by omega), if_pos (by omega), Int.toNat_natCast]
theorem intsD_set (l : List Int) (k : Nat) (x : Int) : (intsD l).set k (.int x) = intsD (l.set k x) := (List.map_set ..).symm
theorem intsD_app (a b : List Int) : intsD a ++ intsD b = intsD (a ++ b) := (List.map_append ..).symm
theorem cutD_take (l : List D) (k : Nat) (h : k ≤ l.length) {i : Int} (e : i = (k : Int)) : cutD l none (some i) = l.take k := by
  subst e
  unfold cutD
  rw [HT.sIx_nat]
  show (l.drop 0).take (min k l.length - 0) = l.take k
  rw [List.drop_zero, Nat.sub_zero, Nat.min_eq_left h]
theorem cutD_drop (l : List D) (k : Nat) (h : k ≤ l.length) {i : Int} (e : i = (k : Int)) : cutD l (some i) none = l.drop k := by
  subst e
  unfold cutD
  rw [HT.sIx_nat]
  show (l.drop (min k l.length)).take (l.length - min k l.length) = l.drop k
  rw [Nat.min_eq_left h, List.take_of_length_le (by rw [List.length_drop]; exact Nat.le_refl _)]
end DL
-- DL17
/-! Comprehensions, by their items. -/
namespace DL
open PySem PySem.Spec PyProof.Rows L2 RW M
section
variable {X : Cx} {N : List Str} {sc : Scope} {tt : Bool} {ρ ρ1 ρ' : List Sl} {e a b o tg iter elt : Expr} {es ts ifs : List Expr} {sts body els : List Stmt} {d x y : D} {ds xs ys out : List D} {pos p apos p2 : Pos} {c c2 : Bool} {is js vs : List Nat} {scope : Scope} {oc : Oc}
theorem blk_i {P : Cx → Prop} (ok : OkN X N sc tt) (h : ∀ s H C cl fp, OkN (X.blk s H scope (compEnvC scope cl C X.env) fp) N (relS scope sc) false → P (X.blk s H scope (compEnvC scope cl C X.env) fp)) : Blk X scope P := fun s H C cl fp => h s H C cl fp ok.blk
theorem comp_l {β : Type} {f : β → D} {g : β → Option D} {vs : List Nat} {ρw : List Sl} : ∀ {l : List β}, (∀ x ∈ l, ∃ ρ1 is b, (∀ i ∈ is, i ∈ vs) ∧ Blk X scope (fun B => JG B ρw tg (f x) ρ1 is) ∧ Blk X scope (fun B => JTs B ρ1 ifs b) ∧ ((b = true ∧ ∃ y, Blk X scope (fun B => JD B ρ1 elt y) ∧ g x = some y) ∨ (b = false ∧ g x = none))) → Comp X scope vs tg ifs elt ρw (l.map f) (l.filterMap g)
  | [], _ => rfl
  | d :: ds, h => by
    obtain ⟨ρ1, is, b, h1, h2, h3, h4⟩ := h d (List.mem_cons_self ..)
    have ih := comp_l (g := g) (l := ds) fun d hd => h d (List.mem_cons_of_mem _ hd)
    refine ⟨ρ1, is, b, h1, h2, h3, ?_⟩
    rcases h4 with ⟨hb, y, h5, h6⟩ | ⟨hb, h6⟩
    · exact .inl ⟨hb, y, _, h5, by rw [List.filterMap_cons, h6], ih⟩
    · refine .inr ⟨hb, ?_⟩
      rw [List.filterMap_cons, h6]
      exact ih
theorem comp_m {β : Type} {f g : β → D} {vs : List Nat} {ρw : List Sl} : ∀ {l : List β}, (∀ x ∈ l, ∃ ρ1 is, (∀ i ∈ is, i ∈ vs) ∧ Blk X scope (fun B => JG B ρw tg (f x) ρ1 is) ∧ Blk X scope (fun B => JD B ρ1 elt (g x))) → Comp X scope vs tg [] elt ρw (l.map f) (l.map g)
  | [], _ => rfl
  | d :: ds, h => by
    obtain ⟨ρ1, is, h1, h2, h5⟩ := h d (List.mem_cons_self ..)
    have ih := comp_m (g := g) (l := ds) fun d hd => h d (List.mem_cons_of_mem _ hd)
    exact ⟨ρ1, is, true, h1, h2, fun s H C cl fp => jts_nil, .inl ⟨rfl, _, _, h5, rfl, ih⟩⟩
theorem je_cp (own : List (Str × Nat)) (ok : OkN X N sc tt) (hi : JI X ρ tg iter ds ocT) (ρw : List Sl) (hC : Comp X scope (own.map (·.2)) tg ifs elt ρw ds out) (hout : out.length ≤ 100000) (hb : BlkOk N sc scope own := by exact ⟨rfl, by decide +kernel, by decide +kernel, by decide +kernel, by decide +kernel⟩)
    (hs : ∀ x, foldedSetIterable iter X.env x = pure x := by intro _; rfl) (hw : wipeS ρ (own.map (·.2)) = ρw := by rfl) : JD X ρ (.ListComp elt [⟨tg, iter, ifs, 0⟩] scope pos) (.lst out) := je_comp (own := own) ok.calm ok.ndN hi (by rw [ok.n, ok.hsc]; exact hb) (hw ▸ hC) hout hs
/-- x = [..], on its line -/
theorem js_lc {n : Str} {pos' p3 : Pos} {i : Nat} (own : List (Str × Nat)) (ok : OkN X N sc tt) (hi : JI X ρ tg iter ds ocT) (ρw : List Sl) (hC : Comp X scope (own.map (·.2)) tg ifs elt ρw ds out) (hout : out.length ≤ 100000) (hp : Put N ρ n (.d (.lst out)) ρ' i) (hb : BlkOk N sc scope own := by exact ⟨rfl, by decide +kernel, by decide +kernel, by decide +kernel, by decide +kernel⟩)
    (hyl : X.env.scope.names.lookup n = some .local := by rfl) (hsw : swapsWith (.ListComp elt [⟨tg, iter, ifs, 0⟩] scope p3) (some (.Name n pos')) pos.line X.env = pure true := by rfl)
    (hs : ∀ x, foldedSetIterable iter X.env x = pure x := by intro _; rfl) (hw : wipeS ρ (own.map (·.2)) = ρw := by rfl) : JS X ρ (.Assign [.Name n pos'] (.ListComp elt [⟨tg, iter, ifs, 0⟩] scope p3) pos) (.nx ρ') := by
  rw [hp.r]
  exact js_setLcS i ok.calm ok.ndN hi (hw ▸ hC) hout (by rw [ok.n, ok.hsc]; exact hb) (ok.pt hp) hyl hsw hs
/-- .., on another line or of a name that a block knows -/
theorem js_lc2 {n : Str} {pos' p3 : Pos} {i : Nat} (own : List (Str × Nat)) (ok : OkN X N sc tt) (hi : JI X ρ tg iter ds ocT) (ρw : List Sl) (hC : Comp X scope (own.map (·.2)) tg ifs elt ρw ds out) (hout : out.length ≤ 100000) (hp : Put N ρ n (.d (.lst out)) ρ' i) (hb : BlkOk N sc scope own := by exact ⟨rfl, by decide +kernel, by decide +kernel, by decide +kernel, by decide +kernel⟩)
    (hl : locB sc tt n = true := by decide +kernel) (hsw : swapsWith (.ListComp elt [⟨tg, iter, ifs, 0⟩] scope p3) (some (.Name n pos')) pos.line X.env = pure false := by rfl)
    (hs : ∀ x, foldedSetIterable iter X.env x = pure x := by intro _; rfl) (hw : wipeS ρ (own.map (·.2)) = ρw := by rfl) : JS X ρ (.Assign [.Name n pos'] (.ListComp elt [⟨tg, iter, ifs, 0⟩] scope p3) pos) (.nx ρ') :=
  js_st ok (je_cp own ok hi ρw hC hout hb hs hw) hp hl hsw
/-- .., wherever it stands -/
theorem js_lcV {n : Str} {pos' p3 : Pos} {i : Nat} (own : List (Str × Nat)) (ok : OkN X N sc tt) (hi : JI X ρ tg iter ds ocT) (ρw : List Sl) (hC : Comp X scope (own.map (·.2)) tg ifs elt ρw ds out) (hout : out.length ≤ 100000) (hp : Put N ρ n (.d (.lst out)) ρ' i) (hb : BlkOk N sc scope own := by exact ⟨rfl, by decide +kernel, by decide +kernel, by decide +kernel, by decide +kernel⟩)
    (hl : (X.env.scope.names.lookup n = some .local ∧ swapsWith (.ListComp elt [⟨tg, iter, ifs, 0⟩] scope p3) (some (.Name n pos')) pos.line X.env = pure true) ∨ (locB sc tt n = true ∧ swapsWith (.ListComp elt [⟨tg, iter, ifs, 0⟩] scope p3) (some (.Name n pos')) pos.line X.env = pure false) := by first | exact Or.inl ⟨rfl, rfl⟩ | exact Or.inr ⟨by decide +kernel, rfl⟩)
    (hs : ∀ x, foldedSetIterable iter X.env x = pure x := by intro _; rfl) (hw : wipeS ρ (own.map (·.2)) = ρw := by rfl) : JS X ρ (.Assign [.Name n pos'] (.ListComp elt [⟨tg, iter, ifs, 0⟩] scope p3) pos) (.nx ρ') := by
  rcases hl with ⟨a, b⟩ | ⟨a, b⟩
  · exact js_lc own ok hi ρw hC hout hp hb a b hs hw
  · exact js_lc2 own ok hi ρw hC hout hp hb a b hs hw
end
end DL
-- DL18
/-! More rules by names. -/
namespace DL
open PySem PySem.Spec PyProof.Rows L2 RW M
theorem rngD_lo (lo : Int) (n : Nat) : rngD lo 1 n = (List.range n).map fun i => D.int (lo + (i : Nat)) := by
  unfold rngD
  congr 1
  funext i
  congr 1
  omega
section
variable {X : Cx} {N : List Str} {sc : Scope} {tt : Bool} {ρ ρ1 ρ' : List Sl} {e a b o tg iter elt : Expr} {es ts ifs : List Expr} {sts body els : List Stmt} {d x y : D} {ds xs ys out : List D} {pos p apos p2 : Pos} {c c2 : Bool} {is js vs : List Nat} {scope : Scope} {oc : Oc} {n : Str} {l : Addr}
theorem ji_r2 {i j : Int} (ok : OkN X N sc tt) (hm : X.mg "range" = none) (ha : JD X ρ a (.int i)) (hb : JD X ρ b (.int j)) (h1 : -(2 ^ 62) ≤ i) (h2 : i < 2 ^ 62) (h3 : -(2 ^ 62) ≤ j) (h4 : j < 2 ^ 62) (hgl : glB sc "range" = true := by decide +kernel) (hs : starEach [a, b] X.env = [(false, eval a X.env), (false, eval b X.env)] := by rfl) (hs2 : starEach [b] X.env = [(false, eval b X.env)] := by rfl)
    (hs3 : starEach [a, b] X.env = (false, eval a X.env) :: starEach [b] X.env := by rfl) (hs4 : starEach [b] X.env = (false, eval b X.env) :: starEach [] X.env := by rfl) : JI X ρ tg (.Call (.Name "range" p) [a, b] [] pos) ((List.range (j - i).toNat).map fun t => D.int (i + (t : Nat))) ocT :=
  rngD_lo i (j - i).toNat ▸ ji_range2 hm ha hb h1 h2 h3 h4 (ok.gl hgl).1 hs hs2 hs3 hs4
theorem ji_zs {t : Str} {elts : List Expr} {kk : Nat} {tpos : Pos} (ok : OkN X N sc tt) (hm : X.mg "zip" = none) (ha : JD X ρ a (.str t)) (hb : JD X ρ b (.lst ys)) (hl : t.cps.size = ys.length) (hgl : glB sc "zip" = true := by decide +kernel) (hs : starEach [a, b] X.env = (false, eval a X.env) :: starEach [b] X.env := by rfl) (hs2 : starEach [b] X.env = (false, eval b X.env) :: starEach [] X.env := by rfl) (hpl : (backTo pos (starEach [b] X.env)).any (·.1) = false := by rfl) :
    JI X ρ (.Tuple elts kk tpos) (.Call (.Name "zip" p) [a, b] [] pos) (zipD (t.cps.toList.map fun c => .str ⟨#[c]⟩) ys) ocT := ji_zipS hm ha hb hl (ok.gl hgl).1 hs hs2 hpl
theorem op_powW : OpR X (binaryOp .Pow) (rI (fun i j => 0 ≤ j ∧ (Builtin.Int.intBits i : Int) * j ≤ 2 ^ 27) fun i j => .int (i ^ j.toNat)) := opI fun _ _ _ _ _ _ _ hc q => pow_int hc.1 hc.2 q
theorem bk_pow {i j : Int} (h0 : 0 ≤ j) (h : (Builtin.Int.intBits i : Int) * j ≤ 2 ^ 27) : BinK X .Pow (.int i) (.int j) (.int (i ^ j.toNat)) := ⟨_, op_powW, k_IC (C := fun i j => 0 ≤ j ∧ (Builtin.Int.intBits i : Int) * j ≤ 2 ^ 27) ⟨h0, h⟩⟩
theorem js_pr {i j : Nat} {n m : Str} {px py pt : Pos} {kt k2 : Nat} {pt2 : Pos} (ok : OkN X N sc tt) (h1 : JD X ρ a x) (h2 : JD X ρ b y) (hp1 : Put N ρ n (.d x) ρ1 i) (hp2 : Put N ρ1 m (.d y) ρ' j) (hij : i ≠ j := by decide) (hx : X.env.scope.names.lookup n = some .local := by rfl) (hy : X.env.scope.names.lookup m = some .local := by rfl)
    (hs1 : starEach [a, b] X.env = (false, eval a X.env) :: starEach [b] X.env := by rfl) (hs2 : starEach [b] X.env = (false, eval b X.env) :: starEach [] X.env := by rfl)
    (hw : swappedStores [.Tuple [.Name n px, .Name m py] kt pt] (.Tuple [a, b] k2 pt2) X.env = pure (some [n, m]) := by rfl) (hs : swapsWithSole [.Tuple [.Name n px, .Name m py] kt pt] (.Tuple [a, b] k2 pt2) pos.line X.env = pure false := by rfl) :
    JS X ρ (.Assign [.Tuple [.Name n px, .Name m py] kt pt] (.Tuple [a, b] k2 pt2) pos) (.nx ρ') := by
  rw [hp2.r, hp1.r]
  exact js_par i j ok.ndN ok.calm h1 h2 hij (ok.pt hp1) (ok.pt hp2) hx hy hs1 hs2 hw hs
end
end DL
-- M1
/-! Mirrors of the law's number defs. -/
namespace M
open DL
def lroF (rec : Int → Option (List Int)) (n : Int) : List Nat → List Int → Option (List Int)
  | [], f => some f
  | d :: r, f => if n % (1 + (d : Nat)) = 0 then (match rec (1 + (d : Nat)) with
      | some g => if okG g && decide (f.length ≤ 1000) then lroF rec n r (overQ f g).1 else none
      | none => none) else lroF rec n r f
def lroot : Nat → Int → Option (List Int)
  | 0, _ => none
  | k + 1, n => if 1 ≤ n ∧ n ≤ 999 then lroF (lroot k) n (List.range (n - 1).toNat) (lessOne n.toNat) else none
/-- whether a divisor is met -/
def lprD : Nat → Int → Int → Option Bool
  | 0, _, _ => none
  | f + 1, d, q => if d * d ≤ q then (if q % d = 0 then some true else lprD f (d + 1) q) else some false
def lprime (f : Nat) (q : Int) : Option Bool := match lprD f 2 q with
  | some true => some false
  | some false => some (decide (1 < q))
  | none => none
def mixS (cell : Int) (k : Nat) : Int :=
  let n := (cell % 1000003 + (k : Int) * k * 7919 + k) * 48271 % 2147483629
  let n := n * n % 2147483587
  n * (n + 2) % 2147483579 / 7
def mixD : Nat → Int → Int
  | 0, c => c
  | k + 1, c => mixD k (c / 10 ^ 6)
def p60 : Int := 10 ^ 60
def p1200 : Int := p60 ^ 20
def mix (cell : Int) (k : Nat) : Int := if 10 ^ 18 ≤ cell then mixD k (cell % p1200) % 10 ^ 6 else mixS cell k
theorem mix_lt (cell : Int) (k : Nat) : 0 ≤ mix cell k ∧ mix cell k < 2 ^ 29 := by
  unfold mix
  split
  · generalize mixD k (cell % p1200) = c
    omega
  · unfold mixS
    dsimp only
    omega
end M
-- M2
/-! Mirrors: firsts. -/
namespace M
open DL
def pw (a k q : Int) : Int := a ^ k.toNat % q
def orderM (a n q : Int) (l : List (Int × Int)) : Bool := decide (pw a n q = 1 % q) && l.all fun x => !decide (pw a (n / x.1) q = 1 % q)
def firstM (a n q : Int) (l : List (Int × Int)) : Bool := decide (((Int.gcd a q : Nat) : Int) = 1) && orderM a n q l
def lfirstM (a n q : Int) : Bool := !(decide (q < 2) || (!decide (((Int.gcd a q : Nat) : Int) = 1) || !decide (pw a n q = 1 % q))) && ((List.range (n - 1).toNat).filter fun t => decide (n % (1 + (t : Nat)) = 0) && decide (pw a (1 + (t : Nat)) q = 1 % q)).isEmpty
/-- what the parts of n are, and that they can be parted by -/
structure PartsOf (n : Int) (l : List (Int × Int)) : Prop where
  h0 : 1 ≤ n
  hb : n ≤ 1000
  h : prt 1000 2 n = some l
  pos : ∀ x ∈ l, 1 ≤ x.1 ∧ x.1 ≤ 1000
end M
-- M3
/-! Papers. -/
namespace M
open PySem DL
/-- a paper (q, g, ks); r, m: as which row it stands -/
inductive T where
  | node (r m q g : Int) (ks : List T)
def T.r : T → Int
  | .node r _ _ _ _ => r
def T.m : T → Int
  | .node _ m _ _ _ => m
def T.q : T → Int
  | .node _ _ q _ _ => q
def T.g : T → Int
  | .node _ _ _ g _ => g
def T.ks : T → List T
  | .node _ _ _ _ ks => ks
mutual
def pap : T → D
  | .node _ _ q g ks => .tup [.int q, .int g, .lst (rowsD ks)]
def rowsD : List T → List D
  | [] => []
  | k :: ks => .tup [.int k.r, .int k.m, pap k] :: rowsD ks
end
def rowD (k : T) : D := .tup [.int k.r, .int k.m, pap k]
theorem rowsD_map : ∀ ks : List T, rowsD ks = ks.map rowD
  | [] => rfl
  | k :: ks => by
    rw [rowsD, rowsD_map ks]
    rfl
def str (i : Int) : Str := Str.ofString (toString i)
mutual
def txt : T → Str
  | .node _ _ q g ks => ("(" : Str) ++ Txt.join (" " : Str) (str q :: str g :: pcs ks) ++ (")" : Str)
def pcs : List T → List Str
  | [] => []
  | k :: ks => (("(" : Str) ++ str k.r ++ (" " : Str) ++ str k.m ++ (" " : Str) ++ txt k ++ (")" : Str)) :: pcs ks
end
mutual
def dep : T → Nat
  | .node _ _ _ _ ks => 1 + deps ks
def deps : List T → Nat
  | [] => 0
  | k :: ks => max (dep k) (deps ks)
end
mutual
def siz : T → Nat
  | .node _ _ _ _ ks => 1 + sizs ks
def sizs : List T → Nat
  | [] => 0
  | k :: ks => siz k + sizs ks
end
mutual
/-- its numbers are not great -/
def okT : T → Bool
  | .node r m q g ks => (decide (0 ≤ r) && decide (r < 2 ^ 60)) && ((decide (0 ≤ m) && decide (m ≤ 20)) && ((decide (0 ≤ q) && decide (q < 2 ^ 60)) && ((decide (0 ≤ g) && decide (g < 2 ^ 60)) && okTs ks)))
def okTs : List T → Bool
  | [] => true
  | k :: ks => okT k && okTs ks
end
/-! the program's look -/
/-- the product, m times r more; none: greater than q -/
def prodQ (q r : Int) : Nat → Int → Option Int
  | 0, x => some x
  | m + 1, x => if q < x * r then none else prodQ q r m (x * r)
def prodL (q : Int) : List T → Int → Int → Option Int
  | [], x, _ => some x
  | k :: ks, x, last => if k.r ≤ last then none else (match prodQ q k.r k.m.toNat x with
    | some y => prodL q ks y k.r
    | none => none)
def rootsM (q g : Int) (ks : List T) : Bool := match prodL q ks 1 1 with
  | none => false
  | some x => if x = q - 1 ∧ pw g (q - 1) q = 1 then ks.all fun k => !decide (pw g ((q - 1) / k.r) q = 1) else false
mutual
def shows (q : Int) : T → Bool
  | .node _ _ q' g ks => if q' ≠ q ∨ q < 2 then false else if q = 2 then decide (g = 1) && ks.isEmpty else
      if g < 1 ∨ q ≤ g ∨ showsL ks = false then false else rootsM q g ks
def showsL : List T → Bool
  | [] => true
  | k :: ks => (decide (1 ≤ k.m) && shows k.r k) && showsL ks
end
/-! the law's look -/
/-- parted by r, m times; none: not wholly -/
def divQ (r : Int) : Nat → Int → Option Int
  | 0, x => some x
  | m + 1, x => if x % r = 0 then divQ r m (x / r) else none
mutual
def proves (q : Int) : T → Bool
  | .node _ _ q' g ks => if q' ≠ q ∨ q < 2 ∨ g < 1 ∨ q ≤ g then false else provesL q g ks 1 (q - 1)
def provesL (q g : Int) : List T → Int → Int → Bool
  | [], _, left => decide (left = 1) && decide (pw g (q - 1) q = 1 % q)
  | k :: ks, last, left => if k.r ≤ last ∨ k.m < 1 ∨ 20 < k.m ∨ proves k.r k = false then false else (match divQ k.r k.m.toNat left with
      | none => false
      | some y => if pw g ((q - 1) / k.r) q = 1 % q then false else provesL q g ks k.r y)
end
end M
-- M4
/-! The program's look at a paper is the law's. -/
namespace M
open PySem DL
theorem divQ_some {r : Int} (hr : 2 ≤ r) : ∀ {m : Nat} {x y : Int}, divQ r m x = some y → x = y * r ^ m
  | 0, x, y, h => by
    cases h
    rw [Int.pow_zero, Int.mul_one]
  | m + 1, x, y, h => by
    unfold divQ at h
    split at h
    · rename_i hm
      have := divQ_some hr h
      have h2 : x = x / r * r := (Int.ediv_mul_cancel (Int.dvd_of_emod_eq_zero hm)).symm
      rw [h2, this, Int.pow_succ, Int.mul_assoc]
    · cases h
theorem divQ_none {r : Int} (hr : 2 ≤ r) : ∀ {m : Nat} {x : Int}, divQ r m x = none → ¬ r ^ m ∣ x
  | 0, x, h => by cases h
  | m + 1, x, h => by
    unfold divQ at h
    split at h
    · rename_i hm
      intro hd
      have h2 : x = x / r * r := (Int.ediv_mul_cancel (Int.dvd_of_emod_eq_zero hm)).symm
      rw [h2, Int.pow_succ] at hd
      exact divQ_none hr h (Int.dvd_of_mul_dvd_mul_right (by omega) hd)
    · rename_i hm
      intro hd
      apply hm
      apply Int.emod_eq_zero_of_dvd
      rw [Int.pow_succ] at hd
      exact Int.dvd_trans (Int.dvd_mul_left _ _) hd
theorem prodQ_some {q r : Int} : ∀ {m : Nat} {x z : Int}, prodQ q r m x = some z → z = x * r ^ m
  | 0, x, z, h => by
    cases h
    rw [Int.pow_zero, Int.mul_one]
  | m + 1, x, z, h => by
    unfold prodQ at h
    split at h
    · cases h
    · rw [prodQ_some h, Int.pow_succ, Int.mul_assoc, Int.mul_comm r]
theorem pow_pos' {r : Int} (hr : 1 ≤ r) : ∀ m : Nat, 1 ≤ r ^ m
  | 0 => by rw [Int.pow_zero]; exact Int.le_refl 1
  | m + 1 => by
    have := pow_pos' hr m
    rw [Int.pow_succ]
    have h2 := Int.mul_le_mul this hr (by omega) (by omega)
    omega
theorem prodQ_ok {q r : Int} (hr : 2 ≤ r) : ∀ {m : Nat} {x : Int}, 1 ≤ x → x * r ^ m ≤ q → prodQ q r m x = some (x * r ^ m)
  | 0, x, _, _ => by
    unfold prodQ
    rw [Int.pow_zero, Int.mul_one]
  | m + 1, x, hx, h => by
    have e : x * r ^ (m + 1) = x * r * r ^ m := by rw [Int.pow_succ, Int.mul_assoc, Int.mul_comm r]
    rw [e] at h ⊢
    have h1 : 1 ≤ x * r := by
      have := Int.mul_le_mul hx (show 1 ≤ r by omega) (by omega) (by omega)
      omega
    have h2 : x * r * 1 ≤ x * r * r ^ m := Int.mul_le_mul_of_nonneg_left (pow_pos' (by omega) m) (by omega)
    unfold prodQ
    rw [if_neg (by omega), prodQ_ok hr h1 h]
theorem prodL_dvd {q : Int} : ∀ {ks : List T} {x last z : Int}, prodL q ks x last = some z → x ∣ z
  | [], x, last, z, h => by
    cases h
    exact Int.dvd_refl _
  | k :: ks, x, last, z, h => by
    unfold prodL at h
    split at h
    · cases h
    · split at h
      · rename_i y hy
        have h1 := prodL_dvd h
        rw [prodQ_some hy] at h1
        exact Int.dvd_trans (Int.dvd_mul_right _ _) h1
      · cases h
def endM (q g : Int) (ks : List T) (o : Option Int) : Bool := match o with
  | none => false
  | some x => if x = q - 1 ∧ pw g (q - 1) q = 1 then ks.all fun k => !decide (pw g ((q - 1) / k.r) q = 1) else false
mutual
theorem shows_eq : ∀ (t : T) (q : Int), okT t = true → shows q t = proves q t
  | .node r m q' g ks, q, h => by
    have hks : okTs ks = true := by
      unfold okT at h
      simp only [Bool.and_eq_true] at h
      exact h.2.2.2.2
    unfold shows proves
    by_cases h1 : q' ≠ q ∨ q < 2
    · rw [if_pos h1, if_pos (by rcases h1 with h1 | h1; exact .inl h1; exact .inr (.inl h1))]
    rw [if_neg h1]
    have hq : ¬ q < 2 := fun z => h1 (.inr z)
    have hqq : ¬ q' ≠ q := fun z => h1 (.inl z)
    by_cases h2 : q = 2
    · subst h2
      rw [if_pos rfl]
      by_cases hg : g = 1
      · subst hg
        rw [if_neg (by omega)]
        cases ks with
        | nil =>
          unfold provesL
          decide
        | cons k ks =>
          unfold provesL
          show _ = _
          split
          · rfl
          · rename_i hn
            have hr : 2 ≤ k.r := by omega
            have hm : ∃ j, k.m.toNat = j + 1 := ⟨k.m.toNat - 1, by omega⟩
            obtain ⟨j, hj⟩ := hm
            rw [hj]
            have : divQ k.r (j + 1) (2 - 1) = none := by
              unfold divQ
              rw [if_neg]
              rw [Int.emod_eq_of_lt (by omega) (by omega)]
              omega
            rw [this]
            rfl
      · rw [if_pos (by omega)]
        simp [hg]
    · rw [if_neg h2]
      by_cases hg : g < 1 ∨ q ≤ g
      · rw [if_pos (by rcases hg with hg | hg; exact .inl hg; exact .inr (.inl hg)), if_pos (by rcases hg with hg | hg; exact .inr (.inr (.inl hg)); exact .inr (.inr (.inr hg)))]
      · rw [if_neg (show ¬ (q' ≠ q ∨ q < 2 ∨ g < 1 ∨ q ≤ g) by omega)]
        have key := showsL_eq ks q g 1 1 (q - 1) hks (by omega) (by omega) (by omega) (by omega) (by omega)
        rw [← key]
        cases hs : showsL ks with
        | false => rw [if_pos (.inr (.inr rfl))]; rfl
        | true =>
          rw [if_neg (show ¬ (g < 1 ∨ q ≤ g ∨ true = false) by rintro (z | z | z); exact hg (.inl z); exact hg (.inr z); cases z)]
          rfl
theorem showsL_eq : ∀ (ks : List T) (q g x last left : Int), okTs ks = true → 2 < q → 1 ≤ x → 1 ≤ last → 1 ≤ left → x * left = q - 1 → (showsL ks && endM q g ks (prodL q ks x last)) = provesL q g ks last left
  | [], q, g, x, last, left, _, hq, hx, hl, hle, e => by
    unfold showsL prodL provesL endM
    have e1 : (1 : Int) % q = 1 := Int.emod_eq_of_lt (by omega) (by omega)
    rw [e1]
    have e2 : x = q - 1 ↔ left = 1 := by
      constructor
      · intro z
        rw [← e] at z
        have : x * 1 = x * left := by rw [Int.mul_one]; exact z
        exact (Int.eq_of_mul_eq_mul_left (by omega) this).symm
      · intro z
        rw [← e, z, Int.mul_one]
    by_cases h1 : left = 1 <;> by_cases h2 : pw g (q - 1) q = 1 <;> simp [e2, h1, h2]
  | k :: ks, q, g, x, last, left, hok, hq, hx, hl, hle, e => by
    unfold okTs at hok
    rw [Bool.and_eq_true] at hok
    obtain ⟨hk, hks⟩ := hok
    have hm20 : k.m ≤ 20 := by
      cases k with
      | node r m q' g' ks' =>
        unfold okT at hk
        simp only [Bool.and_eq_true, decide_eq_true_eq] at hk
        exact hk.2.1.2
    have e1 : (1 : Int) % q = 1 := Int.emod_eq_of_lt (by omega) (by omega)
    have ih := shows_eq k k.r hk
    unfold showsL prodL provesL
    rw [← ih]
    by_cases h1 : k.r ≤ last
    · rw [if_pos h1, if_pos (.inl h1)]
      simp [endM]
    rw [if_neg h1]
    by_cases h2 : k.m < 1
    · rw [if_pos (.inr (.inl h2))]
      have : ¬ 1 ≤ k.m := by omega
      simp [this]
    by_cases h3 : shows k.r k = false
    · rw [if_pos (.inr (.inr (.inr h3))), h3]
      simp
    have h3 : shows k.r k = true := by simpa using h3
    rw [h3, if_neg (show ¬ (k.r ≤ last ∨ k.m < 1 ∨ 20 < k.m ∨ true = false) by rintro (z | z | z | z); exact h1 z; exact h2 z; omega; cases z)]
    have hr : 2 ≤ k.r := by omega
    have h1m : decide (1 ≤ k.m) = true := decide_eq_true (by omega)
    rw [h1m, Bool.and_true, Bool.true_and, e1]
    cases hd : divQ k.r k.m.toNat left with
    | some y =>
      have hy := divQ_some hr hd
      have hp := pow_pos' (show 1 ≤ k.r by omega) k.m.toNat
      have hy1 : 1 ≤ y := by
        rcases Int.lt_or_le y 1 with z | z
        · have : y * k.r ^ k.m.toNat ≤ 0 := Int.mul_nonpos_of_nonpos_of_nonneg (by omega) (by omega)
          omega
        · exact z
      have e2 : x * k.r ^ k.m.toNat * y = q - 1 := by
        rw [← e, hy, Int.mul_assoc, Int.mul_comm (k.r ^ k.m.toNat)]
      have h4 : 1 ≤ x * k.r ^ k.m.toNat := by
        have := Int.mul_le_mul hx hp (by omega) (by omega)
        omega
      have h5 : x * k.r ^ k.m.toNat * 1 ≤ x * k.r ^ k.m.toNat * y := Int.mul_le_mul_of_nonneg_left hy1 (by omega)
      rw [prodQ_ok hr hx (by omega)]
      dsimp only
      have ih2 := showsL_eq ks q g (x * k.r ^ k.m.toNat) k.r y hks hq h4 (by omega) hy1 e2
      by_cases h6 : pw g ((q - 1) / k.r) q = 1
      · rw [if_pos h6]
        unfold endM
        split
        · simp
        · split
          · rw [List.all_cons]
            simp [h6]
          · simp
      · rw [if_neg h6, ← ih2]
        congr 1
        unfold endM
        split
        · rfl
        · split
          · rw [List.all_cons]
            simp [h6]
          · rfl
    | none =>
      have hn := divQ_none hr hd
      dsimp only
      rw [Bool.and_eq_false_iff]
      right
      cases hp : prodQ q k.r k.m.toNat x with
      | none => rfl
      | some y =>
        dsimp only
        cases hz : prodL q ks y k.r with
        | none => rfl
        | some z =>
          unfold endM
          dsimp only
          rw [if_neg]
          rintro ⟨h7, _⟩
          apply hn
          have h8 := prodL_dvd hz
          rw [prodQ_some hp, h7, ← e] at h8
          exact Int.dvd_of_mul_dvd_mul_left (by omega) h8
end
end M
-- M5
/-! Firsts with papers: the program's look is the law's. -/
namespace M
open PySem DL
def lastP (l : List (Int × Int)) : Int := ((l[l.length - 1]?).map (·.1)).getD 0
def isLeftM (n left : Int) (l : List (Int × Int)) : Option Bool :=
  if n = 2 then (match stripP 200 2 left 0 with
    | some (r, _) => some (decide (r = 1))
    | none => none)
  else some (decide (left = 1) || (decide (2 < n) && decide (left = lastP l)))
def firstsM (a n : Int) (pl l : List (Int × Int)) : List (Int × Int) := pl.filter fun x => firstM a n x.1 l
def whyM (n : Int) : Str := if n = 1 then "one" else if n = 2 then "two" else "six"
/-- what is left, none: a row or paper is none, or not wholly parted -/
def sfL (a n : Int) (l : List (Int × Int)) : List ((Int × Int) × T) → Int → Option Int
  | [], left => some left
  | z :: r, left => if shows z.1.1 z.2 = false ∨ firstM a n z.1.1 l = false then none else (match divQ z.1.1 z.1.2.toNat left with
    | none => none
    | some y => sfL a n l r y)
def asc : List (Int × Int) → Bool
  | [] => true
  | [_] => true
  | x :: y :: r => decide (x.1 < y.1) && asc (y :: r)
def rowsOk (rows : List (Int × Int)) : Bool := rows.all fun x => decide (2 ≤ x.1) && decide (1 ≤ x.2)
def showsF (a n v : Int) (l : List (Int × Int)) (rows : List (Int × Int)) (ts : List T) : Option Bool :=
  if rows.length ≠ ts.length ∨ rowsOk rows = false ∨ asc rows = false then some false else (match sfL a n l (rows.zip ts) v with
    | none => some false
    | some left => isLeftM n left l)
def aaL (a n : Int) : List ((Int × Int) × T) → Int → Int → Option Int
  | [], _, left => some left
  | z :: r, last, left => if z.1.1 ≤ last ∨ z.1.2 < 1 ∨ 40 < z.1.2 ∨ proves z.1.1 z.2 = false ∨ lfirstM a n z.1.1 = false then none else (match divQ z.1.1 z.1.2.toNat left with
    | none => none
    | some y => aaL a n r z.1.1 y)
def areAll (a n v : Int) (l : List (Int × Int)) (rows : List (Int × Int)) (ts : List T) : Option Bool :=
  if rows.length ≠ ts.length then some false else (match aaL a n (rows.zip ts) 1 v with
    | none => some false
    | some left => isLeftM n left l)
theorem ascend_head {x : Int × Int} : ∀ {r : List (Int × Int)}, asc (x :: r) = true → asc r = true
  | [], _ => rfl
  | y :: r, h => by
    unfold asc at h
    rw [Bool.and_eq_true] at h
    exact h.2
/-- the one look is the other, where the rows' counts are small and firsts agree -/
theorem sf_aa {a n : Int} {l : List (Int × Int)} (hF : ∀ q, 2 ≤ q → firstM a n q l = lfirstM a n q) : ∀ (rows : List (Int × Int)) (ts : List T) (last left : Int), rows.length = ts.length → (∀ x ∈ rows, x.2 ≤ 40) → (∀ t ∈ ts, okT t = true) → 1 ≤ last → rowsOk rows = true → asc rows = true → (∀ x ∈ rows.head?, last < x.1) → sfL a n l (rows.zip ts) left = aaL a n (rows.zip ts) last left
  | [], ts, last, left, _, _, _, _, _, _, _ => by
    simp [sfL, aaL]
  | x :: rows, [], last, left, hl, _, _, _, _, _, _ => by simp at hl
  | x :: rows, t :: ts, last, left, hl, h40, hok, h1, hr, ha, hh => by
    rw [List.zip_cons_cons]
    unfold sfL aaL
    dsimp only
    have hx := hh x (by simp)
    unfold rowsOk at hr
    rw [List.all_cons, Bool.and_eq_true, Bool.and_eq_true] at hr
    obtain ⟨⟨h2, h3⟩, h4⟩ := hr
    have h2 : 2 ≤ x.1 := of_decide_eq_true h2
    have h3 : 1 ≤ x.2 := of_decide_eq_true h3
    have h5 := h40 x (List.mem_cons_self ..)
    rw [shows_eq t x.1 (hok t (List.mem_cons_self ..)), hF x.1 h2]
    by_cases hc : proves x.1 t = false ∨ lfirstM a n x.1 = false
    · rw [if_pos hc, if_pos (.inr (.inr (.inr hc)))]
    · rw [if_neg hc, if_neg (by rintro (z | z | z | z); omega; omega; omega; exact hc z)]
      cases divQ x.1 x.2.toNat left with
      | none => rfl
      | some y =>
        refine sf_aa hF rows ts x.1 y (by simpa using hl) (fun z hz => h40 z (List.mem_cons_of_mem _ hz)) (fun z hz => hok z (List.mem_cons_of_mem _ hz)) (by omega) h4 (ascend_head ha) ?_
        intro z hz
        cases rows with
        | nil => simp at hz
        | cons w rows =>
          simp at hz
          subst hz
          unfold asc at ha
          rw [Bool.and_eq_true] at ha
          exact of_decide_eq_true ha.1
/-- where the rows are not as they should be, the law says no as well -/
theorem aa_bad {a n : Int} : ∀ (rows : List (Int × Int)) (ts : List T) (last left : Int), rows.length = ts.length → 1 ≤ last → (rowsOk rows = false ∨ asc rows = false ∨ ∃ x ∈ rows.head?, x.1 ≤ last) → aaL a n (rows.zip ts) last left = none
  | [], ts, last, left, _, _, h => by
    rcases h with h | h | ⟨x, h, _⟩
    · cases h
    · cases h
    · simp at h
  | x :: rows, [], last, left, hl, _, _ => by simp at hl
  | x :: rows, t :: ts, last, left, hl, h1, h => by
    rw [List.zip_cons_cons]
    unfold aaL
    dsimp only
    split
    · rfl
    · rename_i hc
      have hc1 : ¬ x.1 ≤ last := fun z => hc (.inl z)
      have hc2 : ¬ x.2 < 1 := fun z => hc (.inr (.inl z))
      cases divQ x.1 x.2.toNat left with
      | none => rfl
      | some y =>
        refine aa_bad rows ts x.1 y (by simpa using hl) (by omega) ?_
        rcases h with h | h | ⟨z, hz, h⟩
        · unfold rowsOk at h
          rw [List.all_cons, Bool.and_eq_false_iff] at h
          rcases h with h | h
          · have h2 : decide (2 ≤ x.1) = true := decide_eq_true (by omega)
            have h3 : decide (1 ≤ x.2) = true := decide_eq_true (by omega)
            rw [h2, h3] at h
            cases h
          · exact .inl h
        · cases rows with
          | nil => cases h
          | cons w rows =>
            unfold asc at h
            rw [Bool.and_eq_false_iff] at h
            rcases h with h | h
            · have := of_decide_eq_false h
              exact .inr (.inr ⟨w, rfl, by omega⟩)
            · exact .inr (.inl h)
        · simp at hz
          subst hz
          exact absurd h hc1
theorem shows_all {a n v : Int} {l : List (Int × Int)} (hF : ∀ q, 2 ≤ q → firstM a n q l = lfirstM a n q) (rows : List (Int × Int)) (ts : List T) (h40 : ∀ x ∈ rows, x.2 ≤ 40) (hok : ∀ t ∈ ts, okT t = true) : showsF a n v l rows ts = areAll a n v l rows ts := by
  unfold showsF areAll
  by_cases hl : rows.length = ts.length
  · rw [if_neg (show ¬ rows.length ≠ ts.length from fun z => z hl)]
    by_cases hb : rowsOk rows = false ∨ asc rows = false
    · rw [if_pos (.inr hb), aa_bad rows ts 1 v hl (Int.le_refl 1) (by rcases hb with h | h; exact .inl h; exact .inr (.inl h))]
    · have hr : rowsOk rows = true := by
        cases h : rowsOk rows with
        | true => rfl
        | false => exact absurd (.inl h) hb
      have ha : asc rows = true := by
        cases h : asc rows with
        | true => rfl
        | false => exact absurd (.inr h) hb
      rw [if_neg (by rintro (z | z); exact z hl; exact hb z)]
      rw [sf_aa hF rows ts 1 v hl h40 hok (Int.le_refl 1) hr ha]
      intro x hx
      cases rows with
      | nil => simp at hx
      | cons w rows =>
        simp at hx
        subst hx
        unfold rowsOk at hr
        rw [List.all_cons, Bool.and_eq_true, Bool.and_eq_true] at hr
        have := of_decide_eq_true hr.1.1
        omega
  · rw [if_pos hl, if_pos (.inl hl)]
end M
-- M6
/-! Firsts: all divisors, or those by primes. -/
namespace M
open PySem DL
def partsT (n : Int) : List (Int × Int) := (prt 1000 2 n).getD []
theorem partsOf : ∀ n : Int, 1 ≤ n → n ≤ 12 → PartsOf n (partsT n) := by
  intro n h0 h1
  have h : n = 1 ∨ n = 2 ∨ n = 3 ∨ n = 4 ∨ n = 5 ∨ n = 6 ∨ n = 7 ∨ n = 8 ∨ n = 9 ∨ n = 10 ∨ n = 11 ∨ n = 12 := by omega
  rcases h with rfl | rfl | rfl | rfl | rfl | rfl | rfl | rfl | rfl | rfl | rfl | rfl <;> exact ⟨by decide, by decide, by decide +kernel, by decide +kernel⟩
theorem pw_mul {a q : Int} {d k : Nat} (h : pw a (d : Nat) q = 1 % q) : pw a ((d * k : Nat) : Int) q = 1 % q := by
  unfold pw at h ⊢
  rw [Int.toNat_natCast] at h ⊢
  rw [Int.pow_mul]
  have pm : ∀ (x : Int) (j : Nat), (x % q) ^ j % q = x ^ j % q := by
    intro x j
    induction j with
    | zero => rw [Int.pow_zero, Int.pow_zero]
    | succ j ih => rw [Int.pow_succ, Int.pow_succ, Int.mul_emod, ih, Int.emod_emod, ← Int.mul_emod]
  rw [← pm, h, pm, Int.one_pow]
/-- whether the power is one -/
def pB (a q : Int) (d : Nat) : Bool := decide (pw a (d : Nat) q = 1 % q)
theorem pB_mul {a q : Int} (d k : Nat) (h : pB a q d = true) : pB a q (d * k) = true := decide_eq_true (pw_mul (of_decide_eq_true h))
theorem first_eq (a n : Int) (h0 : 1 ≤ n) (h1 : n ≤ 12) (q : Int) (hq : 2 ≤ q) : firstM a n q (partsT n) = lfirstM a n q := by
  have hq2 : decide (q < 2) = false := decide_eq_false (by omega)
  unfold firstM lfirstM orderM
  rw [hq2, Bool.false_or, Bool.not_or, Bool.not_not, Bool.not_not, Bool.and_assoc]
  congr 1
  cases hp : decide (pw a n q = 1 % q) with
  | false => rfl
  | true =>
    rw [Bool.true_and, Bool.true_and]
    have e : ∀ t : Nat, decide (pw a (1 + (t : Int)) q = 1 % q) = pB a q (1 + t) := fun t => by
      unfold pB
      rw [Int.natCast_add]
      rfl
    simp only [e]
    have h : n = 1 ∨ n = 2 ∨ n = 3 ∨ n = 4 ∨ n = 5 ∨ n = 6 ∨ n = 7 ∨ n = 8 ∨ n = 9 ∨ n = 10 ∨ n = 11 ∨ n = 12 := by omega
    have m1 := pB_mul (a := a) (q := q) 1
    have m2 := pB_mul (a := a) (q := q) 2
    have m3 := pB_mul (a := a) (q := q) 3
    have e1 : ∀ k : Nat, decide (pw a ((k : Nat) : Int) q = 1 % q) = pB a q k := fun k => rfl
    rcases h with rfl | rfl | rfl | rfl | rfl | rfl | rfl | rfl | rfl | rfl | rfl | rfl
    · rfl
    · show ((!pB a q 1) && true) = ([0].filter fun t => decide ((2 : Int) % (1 + (t : Nat)) = 0) && pB a q (1 + t)).isEmpty
      cases p1 : pB a q 1 <;> simp [List.filter, p1]
    · show ((!pB a q 1) && true) = ([0, 1].filter fun t => decide ((3 : Int) % (1 + (t : Nat)) = 0) && pB a q (1 + t)).isEmpty
      cases p1 : pB a q 1 <;> simp [List.filter, p1]
    · show ((!pB a q 2) && true) = ([0, 1, 2].filter fun t => decide ((4 : Int) % (1 + (t : Nat)) = 0) && pB a q (1 + t)).isEmpty
      have := m1 2
      cases p1 : pB a q 1 <;> cases p2 : pB a q 2 <;> simp_all [List.filter]
    · show ((!pB a q 1) && true) = ([0, 1, 2, 3].filter fun t => decide ((5 : Int) % (1 + (t : Nat)) = 0) && pB a q (1 + t)).isEmpty
      cases p1 : pB a q 1 <;> simp [List.filter, p1]
    · show ((!pB a q 3) && ((!pB a q 2) && true)) = ([0, 1, 2, 3, 4].filter fun t => decide ((6 : Int) % (1 + (t : Nat)) = 0) && pB a q (1 + t)).isEmpty
      have := m1 2
      cases p1 : pB a q 1 <;> cases p2 : pB a q 2 <;> cases p3 : pB a q 3 <;> simp_all [List.filter]
    · show ((!pB a q 1) && true) = ([0, 1, 2, 3, 4, 5].filter fun t => decide ((7 : Int) % (1 + (t : Nat)) = 0) && pB a q (1 + t)).isEmpty
      cases p1 : pB a q 1 <;> simp [List.filter, p1]
    · show ((!pB a q 4) && true) = ([0, 1, 2, 3, 4, 5, 6].filter fun t => decide ((8 : Int) % (1 + (t : Nat)) = 0) && pB a q (1 + t)).isEmpty
      have := m1 4
      have := m2 2
      cases p1 : pB a q 1 <;> cases p2 : pB a q 2 <;> cases p4 : pB a q 4 <;> simp_all [List.filter]
    · show ((!pB a q 3) && true) = ([0, 1, 2, 3, 4, 5, 6, 7].filter fun t => decide ((9 : Int) % (1 + (t : Nat)) = 0) && pB a q (1 + t)).isEmpty
      have := m1 3
      cases p1 : pB a q 1 <;> cases p3 : pB a q 3 <;> simp_all [List.filter]
    · show ((!pB a q 5) && ((!pB a q 2) && true)) = ([0, 1, 2, 3, 4, 5, 6, 7, 8].filter fun t => decide ((10 : Int) % (1 + (t : Nat)) = 0) && pB a q (1 + t)).isEmpty
      have := m1 2
      cases p1 : pB a q 1 <;> cases p2 : pB a q 2 <;> cases p5 : pB a q 5 <;> simp_all [List.filter]
    · show ((!pB a q 1) && true) = ([0, 1, 2, 3, 4, 5, 6, 7, 8, 9].filter fun t => decide ((11 : Int) % (1 + (t : Nat)) = 0) && pB a q (1 + t)).isEmpty
      cases p1 : pB a q 1 <;> simp [List.filter, p1]
    · show ((!pB a q 6) && ((!pB a q 4) && true)) = ([0, 1, 2, 3, 4, 5, 6, 7, 8, 9, 10].filter fun t => decide ((12 : Int) % (1 + (t : Nat)) = 0) && pB a q (1 + t)).isEmpty
      have := m1 4
      have := m2 2
      have := m3 2
      cases p1 : pB a q 1 <;> cases p2 : pB a q 2 <;> cases p3 : pB a q 3 <;> cases p4 : pB a q 4 <;> cases p6 : pB a q 6 <;> simp_all [List.filter]
end M
-- F1
/-! Number defs. -/
namespace DL
open PySem PySem.Spec PyProof.Rows L2 RW M
local macro_rules | `(tactic| walk_at "num") => `(tactic| first
  | with_reducible assumption
  | rfl
  | omega
  | (simp only [decide_eq_true_eq, decide_eq_false_iff_not, Bool.not_eq_true', Bool.not_eq_false', Bool.and_eq_true, Bool.or_eq_false_iff, Bool.not_eq_true, Bool.not_eq_false, Int.not_lt, Int.not_le] at *; omega)
  | skip)
local macro_rules | `(tactic| walk_at "sz") => `(tactic| first
  | with_reducible assumption
  | exact sz_of (by simp only [List.length_cons, List.length_nil, List.length_append, List.length_map, List.length_replicate]; omega)
  | exact sz_lt (by simp only [List.length_cons, List.length_nil, List.length_append, List.length_map, List.length_replicate]; omega)
  | skip)
local macro_rules | `(tactic| walk_at "at") => `(tactic| first
  | with_reducible exact At.z
  | (with_reducible apply At.s; walk_at "at"))
local macro_rules | `(tactic| walk_at "pt") => `(tactic| first
  | with_reducible exact Put.z
  | (with_reducible apply Put.s; walk_at "pt"))
local macro_rules | `(tactic| walk_at "mul") => `(tactic| first
  | assumption
  | (exact Or.inl (Or.inl ⟨by omega, by omega⟩))
  | (exact Or.inl (Or.inr ⟨by omega, by omega⟩))
  | skip)
local macro_rules | `(tactic| walk_at "bk") => `(tactic| first
  | with_reducible assumption
  | with_reducible exact bk_add
  | with_reducible exact bk_sub
  | ((with_reducible apply bk_mul) ; walk_at "mul")
  | ((with_reducible apply @bk_div) <;> walk_at "dl")
  | ((with_reducible apply @bk_mod) <;> walk_at "dl")
  | ((with_reducible apply @bk_cat) <;> walk_at "dl")
  | ((with_reducible apply @bk_addS) <;> walk_at "dl")
  | ((with_reducible apply @bk_rep) <;> walk_at "dl"))
local macro_rules | `(tactic| walk_at "ck") => `(tactic| first
  | with_reducible exact ck_eqI
  | with_reducible exact ck_neI
  | with_reducible exact ck_lt
  | with_reducible exact ck_le
  | with_reducible exact ck_gt
  | with_reducible exact ck_ge
  | with_reducible exact ck_eqS
  | with_reducible exact ck_neS
  | with_reducible exact ck_isN
  | with_reducible exact ck_eqB
  | with_reducible exact ck_inS
  | ((with_reducible apply @ck_inL) <;> walk_at "dl")
  | ((with_reducible apply @ck_inT) <;> walk_at "dl")
  | ((with_reducible apply @ck_ninL) <;> walk_at "dl")
  | ((with_reducible apply @ck_eqD) <;> first | (exact Room.ofX (by assumption)) | walk_at "dl")
  | ((with_reducible apply @ck_neD) <;> first | (exact Room.ofX (by assumption)) | walk_at "dl"))
local macro_rules | `(tactic| walk_at "ik") => `(tactic| first
  | ((with_reducible apply @ik_L) <;> walk_at "dl")
  | ((with_reducible apply @ik_T) <;> walk_at "dl")
  | ((with_reducible apply @ik_S) <;> walk_at "dl"))
local macro_rules | `(tactic| walk_at "sk") => `(tactic| first
  | with_reducible exact sk_L
  | with_reducible exact sk_R
  | ((with_reducible apply @sk_S) <;> walk_at "dl")
  | ((with_reducible apply @sk_T) <;> walk_at "dl"))
local macro_rules | `(tactic| walk_at "lk") => `(tactic| first
  | with_reducible exact lk_L
  | with_reducible exact lk_T
  | ((with_reducible apply @lk_S) <;> walk_at "dl"))
local macro_rules | `(tactic| walk_at "mg") => `(tactic| first
  | with_reducible exact Ctx.f_len (by assumption)
  | with_reducible exact Ctx.f_max (by assumption)
  | with_reducible exact Ctx.f_list (by assumption)
  | with_reducible exact Ctx.f_reversed (by assumption)
  | with_reducible exact Ctx.f_range (by assumption)
  | with_reducible exact Ctx.f_enumerate (by assumption)
  | with_reducible exact Ctx.f_zip (by assumption)
  | with_reducible exact Ctx.f_all (by assumption)
  | with_reducible exact Ctx.f_any (by assumption)
  | with_reducible exact Ctx.f_isinstance (by assumption)
  | with_reducible exact Ctx.f_str (by assumption)
  | with_reducible exact Ctx.f_int (by assumption)
  | with_reducible exact Ctx.f_min (by assumption)
  | with_reducible exact Ctx.f_sorted (by assumption)
  | with_reducible exact Ctx.f_tuple (by assumption)
  | with_reducible exact Ctx.f_bool (by assumption))
local macro_rules | `(tactic| walk_at "call") => `(tactic| first
  | ((with_reducible show JD _ _ (Expr.Call (Expr.Name (PySem.Str.ofString "len") _) _ _ _) _); (first | ((with_reducible apply @je_olen) <;> (first | ((with_reducible show At _ _ _ _ _); walk_at "at") | ((fail_if_success (with_reducible show At _ _ _ _ _)); walk_at "dl"))) | ((with_reducible apply @je_ln) <;> walk_at "dl")))
  | ((with_reducible show JD _ _ (Expr.Call (Expr.Name (PySem.Str.ofString "int") _) _ _ _) _); ((with_reducible apply @je_in) <;> walk_at "dl"))
  | ((with_reducible show JD _ _ (Expr.Call (Expr.Name (PySem.Str.ofString "str") _) _ _ _) _); ((with_reducible apply @je_sI) <;> walk_at "dl"))
  | ((with_reducible show JD _ _ (Expr.Call (Expr.Name (PySem.Str.ofString "max") _) _ _ _) _); ((with_reducible apply @je_mx) <;> walk_at "dl"))
  | ((with_reducible show JD _ _ (Expr.Call (Expr.Name (PySem.Str.ofString "min") _) _ _ _) _); ((with_reducible apply @je_mn) <;> walk_at "dl"))
  | ((with_reducible show JD _ _ (Expr.Call (Expr.Name (PySem.Str.ofString "all") _) _ _ _) _); ((with_reducible apply @je_al) <;> walk_at "dl"))
  | ((with_reducible show JD _ _ (Expr.Call (Expr.Name (PySem.Str.ofString "any") _) _ _ _) _); ((with_reducible apply @je_an) <;> walk_at "dl"))
  | ((with_reducible show JD _ _ (Expr.Call (Expr.Name (PySem.Str.ofString "isinstance") _) [_, Expr.Name (PySem.Str.ofString "int") _] _ _) _); ((with_reducible apply @je_iI) <;> walk_at "dl"))
  | ((with_reducible show JD _ _ (Expr.Call (Expr.Name (PySem.Str.ofString "isinstance") _) [_, Expr.Name (PySem.Str.ofString "bool") _] _ _) _); ((with_reducible apply @je_iI) <;> walk_at "dl"))
  | ((with_reducible show JD _ _ (Expr.Call (Expr.Name (PySem.Str.ofString "isinstance") _) [_, Expr.Name (PySem.Str.ofString "tuple") _] _ _) _); ((with_reducible apply @je_iI) <;> walk_at "dl"))
  | ((with_reducible show JD _ _ (Expr.Call (Expr.Name (PySem.Str.ofString "isinstance") _) [_, Expr.Name (PySem.Str.ofString "list") _] _ _) _); ((with_reducible apply @je_iI) <;> walk_at "dl"))
  | ((with_reducible apply @je_ca) <;> walk_at "dl"))
local macro_rules | `(tactic| walk_at "jd") => `(tactic| first
  | ((with_reducible show JD _ _ (Expr.Name _ _) _); ((with_reducible apply @je_v) <;> walk_at "dl"))
  | ((with_reducible show JD _ _ (Expr.Constant _ _ _) _); (first | exact je_int | exact je_str | exact je_bl | exact je_non))
  | ((with_reducible show JD _ _ (Expr.BinOp _ _ _ _) _); ((with_reducible apply @je_bin) <;> walk_at "dl"))
  | ((with_reducible show JD _ _ (Expr.Compare _ _ _ _) _); ((with_reducible apply @je_cm) <;> walk_at "dl"))
  | ((with_reducible show JD _ _ (Expr.Subscript _ (Expr.Slice none none (some _) _) _) _); ((with_reducible apply @je_revL) <;> walk_at "dl"))
  | ((with_reducible show JD _ _ (Expr.Subscript _ (Expr.Slice _ _ none _) _) _); ((with_reducible apply @je_sl) <;> walk_at "dl"))
  | ((with_reducible show JD _ _ (Expr.Subscript (Expr.Name _ _) _ _) _); (first | ((with_reducible apply @je_oix) <;> (first | ((with_reducible show At _ _ _ _ _); walk_at "at") | ((fail_if_success (with_reducible show At _ _ _ _ _)); walk_at "dl"))) | ((with_reducible apply @je_ix) <;> walk_at "dl")))
  | ((with_reducible show JD _ _ (Expr.Subscript _ _ _) _); ((with_reducible apply @je_ix) <;> walk_at "dl"))
  | ((with_reducible show JD _ _ (Expr.Tuple _ _ _) _); ((with_reducible apply @je_tup) <;> walk_at "dl"))
  | ((with_reducible show JD _ _ (Expr.List _ _) _); ((with_reducible apply @je_lst) <;> walk_at "dl"))
  | ((with_reducible show JD _ _ (Expr.Call _ _ _ _) _); walk_at "call")
  | ((with_reducible show JD _ _ (Expr.BoolOp _ (_ :: _ :: _) _) _); (first | ((with_reducible apply @je_and) <;> first | ((with_reducible show _ = true → _); intro _; walk_at "dl") | walk_at "dl") | ((with_reducible apply @je_or) <;> first | ((with_reducible show _ = false → _); intro _; walk_at "dl") | walk_at "dl")))
  | ((with_reducible show JD _ _ (Expr.BoolOp _ _ _) _); ((with_reducible apply @je_one) <;> walk_at "dl"))
  | ((with_reducible apply @je_neg) <;> walk_at "dl")
  | ((with_reducible apply @je_not) <;> walk_at "dl"))
local macro_rules | `(tactic| walk_at "jw") => `(tactic| first
  | ((with_reducible apply @jw_and) <;> first | ((with_reducible show _ = _ → _); intro _; walk_at "dl") | walk_at "dl")
  | ((with_reducible apply @jw_or) <;> first | ((with_reducible show _ = _ → _); intro _; walk_at "dl") | walk_at "dl")
  | ((with_reducible apply @jw_and1) <;> walk_at "dl")
  | ((with_reducible apply @jw_or1) <;> walk_at "dl"))
local macro_rules | `(tactic| walk_at "jt") => `(tactic| first
  | ((with_reducible show JT _ _ (Expr.Compare _ _ _ _) _); ((with_reducible apply @jt_cm) <;> walk_at "dl"))
  | ((with_reducible show JT _ _ (Expr.BoolOp _ _ _) _); (first | ((with_reducible apply @jt_and) <;> first | ((with_reducible show _ = _ → _); intro _; walk_at "dl") | walk_at "dl") | ((with_reducible apply @jt_or) <;> first | ((with_reducible show _ = _ → _); intro _; walk_at "dl") | walk_at "dl")))
  | ((with_reducible apply @jt_not) <;> walk_at "dl")
  | ((with_reducible apply @jt_val) <;> walk_at "dl"))
local macro_rules | `(tactic| walk_at "dl") => `(tactic| first
  | ((with_reducible show JD _ _ _ _); walk_at "jd")
  | ((with_reducible show JT _ _ _ _); walk_at "jt")
  | ((with_reducible show JA _ _ _ _); (first | (with_reducible exact ja_nil) | ((with_reducible apply @ja_cons) <;> walk_at "dl")))
  | ((with_reducible show OkN _ _ _ _); with_reducible assumption)
  | ((with_reducible show At _ _ _ _ _); walk_at "at")
  | ((with_reducible show Put _ _ _ _ _ _); walk_at "pt")
  | ((with_reducible show visB _ _ = true); decide +kernel)
  | ((with_reducible show glB _ _ = true); decide +kernel)
  | ((with_reducible show locB _ _ _ = true); decide +kernel)
  | ((with_reducible show Cx.mg _ _ = none); walk_at "mg")
  | ((with_reducible show BinK _ _ _ _ _); walk_at "bk")
  | ((with_reducible show CmpK _ _ _ _ _); walk_at "ck")
  | ((with_reducible show IxK _ _ _ _); walk_at "ik")
  | ((with_reducible show JW _ _ _ _); walk_at "jw")
  | ((with_reducible show SlK _ _ _ _ _ _ _); walk_at "sk")
  | ((with_reducible show LenK _ _); walk_at "lk")
  | ((with_reducible show IntK _ _); (constructor <;> walk_at "num"))
  | ((with_reducible show JO _ _ _ _); (first | (with_reducible exact jo_none) | ((with_reducible apply @jo_some) <;> walk_at "dl")))
  | ((with_reducible show Fn _ _ _ _ _ _ _ _ _); with_reducible assumption)
  | ((with_reducible show Room _ _); with_reducible assumption)
  | ((with_reducible show PlainIx _); exact fun _ _ => rfl)
  | ((with_reducible show behindInMarks _ _ = false); (first | exact nomark _ | rfl))
  | ((with_reducible show IpK _ _ _ _ _); (first | with_reducible exact ip_addI | with_reducible exact ip_subI | ((with_reducible apply @ip_addStr) <;> walk_at "dl")))
  | ((with_reducible show EqOk _); (first | with_reducible assumption | exact eqok_ints _ | exact eqok_prs _ | exact eqok_nil))
  | ((with_reducible show PIp _ _ _); (first | exact ip_add | exact ip_sub))
  | ((with_reducible show bootBuiltins _ = _); decide +kernel)
  | ((with_reducible show _ ≤ PySem.sizeLine); walk_at "sz")
  | ((with_reducible show _ < PySem.sizeLine); walk_at "sz")
  | ((with_reducible show _ ≠ _); (first | assumption | decide))
  | ((with_reducible show atI _ _ = some _); (first | with_reducible assumption | rfl | skip))
  | ((with_reducible show ixN _ _ = some _); (first | with_reducible assumption | rfl | skip))
  | ((with_reducible show _ = _); (first | with_reducible assumption | rfl | walk_at "num"))
  | ((with_reducible show Nat); skip)
  | ((with_reducible show Int); skip)
  | ((with_reducible show D); skip)
  | ((with_reducible show Bool); skip)
  | ((with_reducible show List _); skip)
  | ((with_reducible show Option _); skip)
  | ((with_reducible show PySem.Str); skip)
  | ((with_reducible show Sl); skip)
  | ((with_reducible show Oc); skip)
  | ((with_reducible show Prop); skip)
  | ((with_reducible show PySem.Expr); skip)
  | ((with_reducible show PySem.Addr); skip)
  | ((with_reducible show Scope); skip)
  | ((with_reducible show String); skip)
  | ((with_reducible show List D → D → Prop); skip)
  | ((with_reducible show (_ : Prop)); (first | with_reducible assumption | omega | (exact fun a b c d hm => pe_bm PySem.F.plainAttrs_list PySem.F.slot_list_append PySem.F.type_list_append hm (pe_var a b c d) (pa_cons peW pa_nil)) | (constructor <;> walk_at "num") | (intro _; rfl) | (intro _ _ _; rfl)))
  | skip)
local macro_rules | `(tactic| walk_at "de") => `(tactic| first
  | ((with_reducible apply @JD.eq) <;> walk_at "dl"))
local macro_rules | `(tactic| walk_at "te") => `(tactic| first
  | ((with_reducible apply @JT.eq) <;> walk_at "dl"))
local macro_rules | `(tactic| walk_at "wk") => `(tactic| first
  | exact Wk.nil
  | (refine Wk.no ?_; walk_at "wk")
  | (refine Wk.same ?_; walk_at "wk")
  | (refine Wk.sameE ?_ ?_; rotate_left; walk_at "wk"))
local macro_rules | `(tactic| walk_at "jg") => `(tactic| first
  | ((with_reducible show JG _ _ (Expr.Name _ _) _ _ _); ((with_reducible apply @jg_v) <;> walk_at "dl"))
  | ((with_reducible show JG _ _ (Expr.Tuple _ _ _) (D.tup _) _ _); ((with_reducible apply @jg_tup) <;> first | ((with_reducible show JGs _ _ _ _ _ _); walk_at "jgs") | rfl)))
local macro_rules | `(tactic| walk_at "jgs") => `(tactic| first
  | with_reducible exact jgs_nil
  | ((with_reducible apply @jgs_cons) <;> first | ((with_reducible show JG _ _ _ _ _ _); walk_at "jg") | ((with_reducible show JGs _ _ _ _ _ _); walk_at "jgs") | ((with_reducible show (_ = _)); rfl) | skip))
local macro_rules | `(tactic| walk_at "s") => `(tactic| first
  | ((with_reducible apply jb_cons); walk_at "js"))
local macro_rules | `(tactic| walk_at "rt") => `(tactic| first
  | ((with_reducible apply JB.eq); ((with_reducible apply jb_stop); walk_at "js")))
local macro_rules | `(tactic| walk_at "ss") => `(tactic| first
  | with_reducible exact jb_nil
  | ((with_reducible apply jb_cons); walk_at "js"; walk_at "ss")
  | skip)
local macro_rules | `(tactic| walk_at "bw") => `(tactic| first
  | ((with_reducible apply JB.wk); walk_at "ss"; walk_at "wk"))
local macro_rules | `(tactic| walk_at "js") => `(tactic| first
  | ((with_reducible apply @js_st) <;> walk_at "dl")
  | ((with_reducible apply @js_au) <;> walk_at "dl")
  | ((with_reducible apply @js_ret) <;> walk_at "dl")
  | ((with_reducible apply @js_app) <;> walk_at "dl")
  | ((with_reducible apply @js_six) <;> walk_at "dl")
  | ((with_reducible apply @js_aix) <;> walk_at "dl"))
section
variable {P : Program} {w : World} {K : PySem.W.Frag} {mg : Str → Option Value} {base : Heap} {k : Nat} {R : List D → D → Prop}
inductive Rcommon : List D → D → Prop
  | mk (a b : Int) (h0 : 0 ≤ a) (h : 0 ≤ b) : Rcommon [.int a, .int b] (.int (Int.gcd a b))
theorem gcd_step {a b : Int} (h0 : 0 ≤ a) (h : 0 < b) : Int.gcd b (a % b) = Int.gcd a b := by
  obtain ⟨a, rfl⟩ := Int.eq_ofNat_of_zero_le h0
  obtain ⟨b, rfl⟩ := Int.eq_ofNat_of_zero_le (Int.le_of_lt h)
  show Nat.gcd b (a % b) = Nat.gcd a b
  rw [Nat.gcd_comm b, ← Nat.gcd_rec, Nat.gcd_comm]
/-! power_by: told, a, k -/
def big : Int := 2 ^ 1000
inductive Rpow : List D → D → Prop
  | mk (a k n : Int) (hk : 0 ≤ k) (hn : 0 < n) (hb : n ≤ 2 ^ 60) : Rpow [.int a, .int k, .int n] (.int (a ^ k.toNat % n))
theorem pm {n : Int} (x : Int) (j : Nat) : (x % n) ^ j % n = x ^ j % n := by
  induction j with
  | zero => rw [Int.pow_zero, Int.pow_zero]
  | succ j ih => rw [Int.pow_succ, Int.pow_succ, Int.mul_emod, ih, Int.emod_emod, ← Int.mul_emod]
theorem pow_step {t a n k : Int} (hk : 0 < k) : (if k % 2 = 1 then t * a % n else t) * (a * a % n) ^ (k / 2).toNat % n = t * a ^ k.toNat % n := by
  obtain ⟨m, rfl⟩ := Int.eq_ofNat_of_zero_le (Int.le_of_lt hk)
  have e2 : ((m : Int) / 2).toNat = m / 2 := by omega
  rw [e2, Int.toNat_natCast]
  have e3 : a ^ m = a ^ (m % 2) * (a * a) ^ (m / 2) := by
    have e : a * a = a ^ 2 := by rw [Int.pow_succ, Int.pow_succ, Int.pow_zero, Int.one_mul]
    rw [e, ← Int.pow_mul, ← Int.pow_add]
    congr 1
    omega
  rcases Nat.mod_two_eq_zero_or_one m with h | h
  · have : ¬ ((m : Int) % 2 = 1) := by omega
    rw [if_neg this, e3, h, Int.pow_zero, Int.one_mul, Int.mul_emod, pm, ← Int.mul_emod]
  · have : ((m : Int) % 2 = 1) := by omega
    rw [if_pos this, e3, h, Int.pow_one, ← Int.mul_assoc, Int.mul_emod, Int.emod_emod, pm, ← Int.mul_emod]
theorem fn_power_by (c : Ctx w K mg base) : Fn P w K mg base 1 "power_by" 3 Rpow := by
  refine c.df 6 ["a", "k", "n", "told"] ["a", "k", "n"] (h := ?_)
  rintro cdv A outer s H E hr ok _ _ - ⟨a, k, n, hk, hn, hb⟩
  refine bodyR (ρ' := [.d (.int a), .d (.int k), .d (.int n), .no]) (Wk.refl _) (JB.eq (jb_cons (by walk_at "js") (jb_cons (by walk_at "js") (jb_cons (js_whileA (fun q : Int × Int × Int => [.d (.int q.1), .d (.int q.2.1), .d (.int n), .d (.int q.2.2)]) (fun q => .nx [.no, .no, .no, .d (.int (q.2.2 * q.1 ^ q.2.1.toNat % n))]) (fun q => q.2.1.toNat) (fun q => 0 ≤ q.1 ∧ q.1 < n ∧ 0 ≤ q.2.1 ∧ 0 ≤ q.2.2 ∧ q.2.2 < n) (a % n, k, 1 % n) ?_ .never ?_ (by walk_at "wk")) (jb_one (by walk_at "js"))))) ?_)
  · exact ⟨Int.emod_nonneg _ (by omega), Int.emod_lt_of_pos _ hn, hk, Int.emod_nonneg _ (by omega), Int.emod_lt_of_pos _ hn⟩
  · rintro ⟨a, k, t⟩ ⟨h1, h2, h3, h4, h5⟩
    dsimp only at h1 h2 h3 h4 h5 ⊢
    refine ⟨decide (0 < k), by walk_at "te", fun h => ⟨_, rfl, ?_⟩, fun h => .inr ⟨(a * a % n, k / 2, if k % 2 = 1 then t * a % n else t), ?_, ?_, ?_, ?_⟩⟩
    · have : k = 0 := by
        have : ¬ 0 < k := by simpa using h
        omega
      subst this
      walk_at "wk"
      show Sl.d (.int t) = Sl.d (.int (t * a ^ 0 % n))
      rw [Int.pow_zero]
      rw [Int.mul_one, Int.emod_eq_of_lt h4 h5]
    · refine JB.wk (jb_cons (js_when (ρ' := [.d (.int a), .d (.int k), .d (.int n), .d (.int (if k % 2 = 1 then t * a % n else t))]) (c := decide (k % 2 = 1)) (by walk_at "te") (fun hc => ?_) ?_) (jb_cons (by walk_at "js") (jb_one (by walk_at "js")))) ?_
      · have hc : k % 2 = 1 := by simpa using hc
        rw [if_pos hc]
        exact jb_one (by walk_at "js")
      · intro hc
        have hc : ¬ k % 2 = 1 := by simpa using hc
        rw [if_neg hc]
      · walk_at "wk"
    all_goals have h6 : 0 < k := by simpa using h
    · refine ⟨Int.emod_nonneg _ (by omega), Int.emod_lt_of_pos _ hn, by show 0 ≤ k / 2; omega, ?_, ?_⟩ <;> dsimp only <;> split
      · exact Int.emod_nonneg _ (by omega)
      · exact h4
      · exact Int.emod_lt_of_pos _ hn
      · exact h5
    · show (k / 2).toNat < k.toNat
      omega
    · show Oc.nx _ = Oc.nx _
      dsimp only
      rw [pow_step h6]
  · show Oc.rt (.int _) = Oc.rt (.int _)
    dsimp only
    rw [Int.mul_emod, Int.emod_emod, pm, ← Int.mul_emod, Int.one_mul]
/-! parted -/
inductive Rparted : List D → D → Prop
  | mk (n : Int) (l : List (Int × Int)) (f : Nat) (h0 : 0 ≤ n) (hb : n < 2 ^ 60) (hf : f ≤ 100000) (h : prt f 2 n = some l) : Rparted [.int n] (.lst (l.map prD))
theorem strip_some {f : Nat} {p n m : Int} {r : Int × Int} (h : stripP f p n m = some r) : ∃ f', f = f' + 1 ∧ ((n % p = 0 ∧ stripP f' p (n / p) (m + 1) = some r) ∨ (n % p ≠ 0 ∧ r = (n, m))) := by
  cases f with
  | zero => cases h
  | succ f =>
    refine ⟨f, rfl, ?_⟩
    unfold stripP at h
    split at h
    · rename_i q
      exact .inl ⟨q, h⟩
    · rename_i q
      exact .inr ⟨q, (Option.some.inj h).symm⟩
theorem strip_le {p : Int} (hp : 2 ≤ p) : ∀ {f : Nat} {n m : Int} {r : Int × Int}, 0 ≤ n → stripP f p n m = some r → 0 ≤ r.1 ∧ r.1 ≤ n ∧ m ≤ r.2
  | f, n, m, r, hn, h => by
    obtain ⟨f', rfl, h | h⟩ := strip_some h
    · have h3 : n / p ≤ n := Int.ediv_le_self _ hn
      have h4 : 0 ≤ n / p := Int.ediv_nonneg hn (by omega)
      obtain ⟨a, b, c⟩ := strip_le hp h4 h.2
      exact ⟨a, by omega, by omega⟩
    · rw [h.2]
      exact ⟨hn, Int.le_refl _, Int.le_refl _⟩
theorem prtE_some {f : Nat} {p n : Int} {r : List (Int × Int) × Int} (h : prtE f p n = some r) : ∃ f', f = f' + 1 ∧ ((p * p ≤ n ∧ ∃ n' m l, stripP f' p n 0 = some (n', m) ∧ prtE f' (p + 1) n' = some (l, r.2) ∧ r.1 = if 0 < m then (p, m) :: l else l) ∨ (¬ p * p ≤ n ∧ r = ([], n))) := by
  cases f with
  | zero => cases h
  | succ f =>
    refine ⟨f, rfl, ?_⟩
    unfold prtE at h
    split at h
    · rename_i q
      refine .inl ⟨q, ?_⟩
      split at h
      · rename_i n' m e
        split at h
        · rename_i l n2 e2
          cases h
          exact ⟨n', m, l, e, e2, rfl⟩
        · cases h
      · cases h
    · rename_i q
      exact .inr ⟨q, (Option.some.inj h).symm⟩
theorem prtE_len : ∀ {f : Nat} {p n : Int} {r : List (Int × Int) × Int}, prtE f p n = some r → r.1.length < f
  | f, p, n, r, h => by
    obtain ⟨f', rfl, h | h⟩ := prtE_some h
    · obtain ⟨_, n', m, l, _, h2, h3⟩ := h
      have := prtE_len h2
      rw [h3]
      dsimp only at this
      split
      · rw [List.length_cons]
        omega
      · omega
    · rw [h.2]
      exact Nat.succ_pos _
theorem fn_parted (c : Ctx w K mg base) : Fn P w K mg base 1 "parted" 1 Rparted := by
  refine c.df 4 ["n", "told", "p", "times"] ["n"] (h := ?_)
  rintro cdv A outer s H E hr ok _ _ - ⟨n, l, f, h0, hb, hf, h⟩
  unfold prt at h
  split at h
  case h_2 => cases h
  rename_i l1 n2 he0
  cases h
  refine bodyR (ρ' := [.d (.int n), .no, .no, .no]) (Wk.refl _) (jb_ow ok (jn_lst ja_nil) (fun l => .s .z) fun a => ?_)
  walk_at "s"
  refine jb_cons (js_whileG (fun q : Int × Int × List (Int × Int) => [.d (.int q.1), .own a (q.2.2.map prD), .d (.int q.2.1), .no]) (fun f q => 0 ≤ q.1 ∧ q.1 < 2 ^ 60 ∧ 2 ≤ q.2.1 ∧ q.2.1 + f ≤ 100002 ∧ ∃ l, prtE f q.2.1 q.1 = some (l, n2) ∧ l1 = q.2.2 ++ l) (.nx [.d (.int n2), .own a (l1.map prD), .no, .no]) f (n, 2, []) ⟨h0, hb, Int.le_refl 2, by dsimp only; omega, l1, he0, rfl⟩ (by walk_at "wk") .never ?_) ?_
  · rintro f ⟨n, p, acc⟩ ⟨h0, hb, hp, hpf, l, he, hl⟩
    dsimp only at *
    obtain ⟨f', rfl, h | h⟩ := prtE_some he
    · obtain ⟨hle, n', m, l', e1, e2, e3⟩ := h
      have hpp : p < 2 ^ 60 := by
        have : p * 1 ≤ p * p := Int.mul_le_mul_of_nonneg_left (by omega) (by omega)
        omega
      obtain ⟨b1, b2, b3⟩ := strip_le hp h0 e1
      refine ⟨true, by walk_at "te", nofun, fun _ => .inr ⟨f', (n', p + 1, acc ++ if 0 < m then [(p, m)] else []), Nat.lt_succ_self _, ⟨b1, by dsimp only at b2 ⊢; omega, by dsimp only; omega, by dsimp only; omega, l', e2, ?_⟩, ?_⟩⟩
      · dsimp only at e3 ⊢
        rw [hl, e3]
        split <;> simp
      · walk_at "s"
        refine jb_cons (js_whileG (fun q : Int × Int => [.d (.int q.1), .own a (acc.map prD), .d (.int p), .d (.int q.2)]) (fun f q => 0 ≤ q.1 ∧ stripP f p q.1 q.2 = some (n', m)) (.nx [.d (.int n'), .own a (acc.map prD), .d (.int p), .d (.int m)]) f' (n, 0) ⟨h0, e1⟩ (by walk_at "wk") .never ?_) ?_
        · rintro f ⟨n, k⟩ ⟨h0, he⟩
          dsimp only at *
          obtain ⟨f', rfl, h | h⟩ := strip_some he
          · refine ⟨true, by have := h.1; walk_at "te", nofun, fun _ => .inr ⟨f', (n / p, k + 1), Nat.lt_succ_self _, ⟨Int.ediv_nonneg h0 (by omega), h.2⟩, ?_⟩⟩
            walk_at "bw"
          · refine ⟨false, by have := h.1; walk_at "te", fun _ => ⟨_, rfl, ?_⟩, nofun⟩
            cases h.2
            walk_at "wk"
        · refine jb_cons (js_when (ρ' := [.d (.int n'), .own a ((acc ++ if 0 < m then [(p, m)] else []).map prD), .d (.int p), .d (.int m)]) (c := decide (0 < m)) (by walk_at "te") (fun hc => ?_) (fun hc => ?_)) ?_
          · have hc : 0 < m := of_decide_eq_true hc
            rw [if_pos hc, List.map_append]
            have hz : acc.length < 100000 := by
              have := prtE_len he0
              rw [hl, List.length_append] at this
              omega
            walk_at "bw"
          · have hc : ¬ 0 < m := of_decide_eq_false hc
            rw [if_neg hc, List.append_nil]
          · walk_at "bw"
    · refine ⟨false, by have := h.1; walk_at "te", fun _ => ⟨_, rfl, ?_⟩, nofun⟩
      cases h.2
      rw [hl, List.append_nil]
      walk_at "wk"
  · refine jb_cons (js_when (ρ' := [.d (.int n2), .own a ((if 1 < n2 then l1 ++ [(n2, 1)] else l1).map prD), .no, .no]) (c := decide (1 < n2)) (by walk_at "te") (fun hc => ?_) (fun hc => ?_)) ?_
    · have hc : 1 < n2 := of_decide_eq_true hc
      rw [if_pos hc, List.map_append]
      have hz : l1.length < f := prtE_len he0
      walk_at "bw"
    · have hc : ¬ 1 < n2 := of_decide_eq_false hc
      rw [if_neg hc]
    · refine jb_frz ok (by walk_at "at") (by walk_at "pt") ?_
      exact jb_one (by walk_at "js")
end
-- F2
/-! Polynomial defs. -/
open PySem PySem.Spec PyProof.Rows L2 RW M
section
variable {P : Program} {w : World} {K : PySem.W.Frag} {mg : Str → Option Value} {base : Heap} {k : Nat} {R : List D → D → Prop}
inductive Rtrim : List D → D → Prop
  | mk (l : List Int) (h : l.length ≤ 100000) : Rtrim [.lst (intsD l)] (.lst (intsD (trim l)))
theorem trimN_le (l : List Int) : ∀ m, trimN l m ≤ m
  | 0 => Nat.le_refl _
  | m + 1 => by
    unfold trimN
    split
    · exact Nat.le_succ_of_le (trimN_le l m)
    · exact Nat.le_refl _
theorem fn_trimmed (c : Ctx w K mg base) : Fn P w K mg base 1 "trimmed" 1 Rtrim := by
  refine c.df 0 ["numbers", "many"] ["numbers"] (h := ?_)
  rintro cdv A outer s H E hr ok _ _ - ⟨l, hl⟩
  refine bodyR (ρ' := [.d (.lst (intsD l)), .no]) (Wk.refl _) ?_
  walk_at "s"
  refine jb_cons (js_whileG (fun m : Nat => [.d (.lst (intsD l)), .d (.int (m : Nat))]) (fun f m => f = m ∧ m ≤ l.length ∧ trimN l m = trimN l l.length) (.nx [.d (.lst (intsD l)), .d (.int (trimN l l.length : Nat))]) l.length l.length ⟨rfl, Nat.le_refl _, rfl⟩ (by rw [intsD_len]; exact Wk.refl _) .never ?_) ?_
  · rintro f m ⟨rfl, hle, ht⟩
    cases f with
    | zero =>
      refine ⟨false, ?_, fun _ => ⟨_, rfl, ?_⟩, nofun⟩
      · refine JT.eq (jt_and (c := false) (c2 := true) (by walk_at "te") nofun) rfl
      · rw [← ht]
        exact Wk.refl _
    | succ m =>
      have hat : atI (intsD l) (((m + 1 : Nat) : Int) - 1) = some (.int (gt l m)) := atI_ints (by omega) (by omega)
      refine ⟨decide (gt l m = 0), ?_, fun hc => ⟨_, rfl, ?_⟩, fun hc => .inr ⟨m, m, Nat.lt_succ_self _, ⟨rfl, by omega, ?_⟩, ?_⟩⟩
      · walk_at "te"
        simp
      · have hc : ¬ gt l m = 0 := of_decide_eq_false hc
        rw [← ht]
        have e : trimN l (m + 1) = m + 1 := by
          unfold trimN
          exact if_neg hc
        rw [e]
        exact Wk.refl _
      · have hc : gt l m = 0 := of_decide_eq_true hc
        rw [← ht]
        conv => rhs; unfold trimN
        exact (if_pos hc).symm
      · walk_at "bw"
        congr 2
        omega
  · walk_at "rt"
    rw [cutD_take _ _ (by rw [intsD_len]; exact trimN_le _ _) rfl]
    unfold trim intsD
    rw [List.map_take]
/-! value -/
inductive Rvalue : List D → D → Prop
  | mk (f : List Int) (a : Int) (h : f.length ≤ 100000) (ha : 0 ≤ a ∧ a < 2 ^ 60) : Rvalue [.lst (intsD f), .int a] (.int (value f a))
theorem fn_value (c : Ctx w K mg base) : Fn P w K mg base 1 "value" 2 Rvalue := by
  refine c.df 2 ["f", "a", "told", "number"] ["f", "a"] (h := ?_)
  rintro cdv A outer s H E hr ok _ _ - ⟨f, a, hf, ha⟩
  refine bodyR (ρ' := [.d (.lst (intsD f)), .d (.int a), .no, .no]) (Wk.refl _) ?_
  walk_at "s"
  refine jb_cons (js_forG (f := D.int) (l := f.reverse) (fun t : Int => [.d (.lst (intsD f)), .d (.int a), .d (.int t), .no]) (fun t l => horner a l t = value f a) (.nx [.d (.lst (intsD f)), .d (.int a), .d (.int (value f a)), .no]) 0 ?_ rfl (by walk_at "wk") .never rfl ?_ ?_) ?_
  · refine JI.conv (ji_re ok c.f_reversed (by walk_at "dl")) ?_
    unfold intsD
    rw [List.map_reverse]
  · rintro t h
    refine ⟨_, rfl, ?_⟩
    rw [← h]
    exact Wk.refl _
  · rintro t x xs h
    refine ⟨_, _, jg_v ok (by walk_at "pt"), .inr ⟨t * a + x, h, ?_⟩⟩
    walk_at "bw"
  · walk_at "rt"
    rfl
/-! less_one -/
inductive Rless : List D → D → Prop
  | mk (d : Int) (h0 : 1 ≤ d) (h : d ≤ 1000) : Rless [.int d] (.lst (intsD (lessOne d.toNat)))
theorem fn_less_one (c : Ctx w K mg base) : Fn P w K mg base 1 "less_one" 1 Rless := by
  refine c.df 7 ["d"] ["d"] (h := ?_)
  rintro cdv A outer s H E hr ok _ _ - ⟨d', hd0, hd'⟩
  obtain ⟨d, rfl⟩ := Int.eq_ofNat_of_zero_le (show 0 ≤ d' by omega)
  have hd : d ≤ 1000 := by omega
  refine bodyR (ρ' := [.d (.int d)]) (Wk.refl _) ?_
  have e1 : (List.replicate ((d : Int) - 1).toNat [D.int 0]).flatten = List.replicate (d - 1) (D.int 0) := by
    rw [flat_rep]
    congr 1
    omega
  have h1 : [D.int (0 - 1)].length + (List.replicate ((d : Int) - 1).toNat [D.int 0]).flatten.length ≤ sizeLine := by
    rw [e1]
    walk_at "sz"
  have h2 : ([D.int (0 - 1)] ++ (List.replicate ((d : Int) - 1).toNat [D.int 0]).flatten).length + [D.int 1].length ≤ sizeLine := by
    rw [e1]
    walk_at "sz"
  have h3 : [D.int 0].length * ((d : Int) - 1).toNat ≤ sizeLine := sz_of (by simp only [List.length_cons, List.length_nil]; omega)
  walk_at "rt"
  rw [e1]
  show Oc.rt (.lst _) = Oc.rt (.lst _)
  rw [Int.toNat_natCast]
  unfold intsD lessOne
  simp
/-! over -/
inductive Rover : List D → D → Prop
  | mk (f g : List Int) (hf : f.length ≤ 1000) (hg : g.length ≤ 1000) (h1 : g ≠ []) (h2 : gt g (g.length - 1) = 1) (hb : ∀ x ∈ g, -(2 ^ 60) < x ∧ x < 2 ^ 60) : Rover [.lst (intsD f), .lst (intsD g)] (.tup [.lst (intsD (trim (overQ f g).1)), .lst (intsD (trim (overQ f g).2))])
theorem subAt_len (c : Int) : ∀ (g left : List Int) (k : Nat), (subAt c left g k).length = left.length
  | [], left, k => rfl
  | x :: g, left, k => by
    unfold subAt
    rw [subAt_len c g, List.length_set]
theorem ovr_len (g : List Int) : ∀ (r : List Nat) (told left : List Int), (ovr g r told left).1.length = told.length ∧ (ovr g r told left).2.length = left.length
  | [], told, left => ⟨rfl, rfl⟩
  | i :: r, told, left => by
    unfold ovr
    dsimp only
    obtain ⟨h1, h2⟩ := ovr_len g r (told.set i (left[i + g.length - 1]?.getD 0)) (subAt (left[i + g.length - 1]?.getD 0) left g i)
    rw [List.length_set] at h1
    rw [subAt_len] at h2
    exact ⟨h1, h2⟩
theorem enumD_ints (l : List Int) : enumD (intsD l) = l.zipIdx.map fun q => D.tup [.int (q.2 : Nat), .int q.1] := by
  unfold enumD intsD
  rw [List.zipIdx_map, List.map_map]
  rfl
theorem fn_over (c : Ctx w K mg base) : Fn P w K mg base 2 "over" 2 Rover := by
  have Ft : Fn P w K mg base 1 "trimmed" 1 Rtrim := fn_trimmed c
  refine c.df 1 ["f", "g", "left", "told", "at", "number", "k", "x"] ["f", "g"] (h := ?_)
  rintro cdv A outer s H E hr ok _ _ - ⟨f, g, hf, hg, h1, h2, hb⟩
  refine bodyR (ρ' := [.d (.lst (intsD f)), .d (.lst (intsD g)), .no, .no, .no, .no, .no, .no]) (Wk.refl _) ?_
  have hl : 0 < g.length := List.length_pos_iff.mpr h1
  have hat : atI (intsD g) (-1) = some (.int 1) := by
    have h3 : ixN (intsD g).length (-1) = some (g.length - 1) := by
      unfold ixN
      rw [intsD_len, if_neg (by decide), if_pos (by omega)]
      congr 1
      omega
    unfold atI
    rw [h3]
    show (intsD g)[g.length - 1]? = _
    rw [intsD_get (by omega), h2]
  refine jb_if (c := false) ?_ nofun nofun fun _ => ?_
  · walk_at "te"
    rw [eqv_nil]
    cases g with
    | nil => exact absurd rfl h1
    | cons x g => rfl
  refine jb_ow ok (jn_li ok c.f_list (by walk_at "dl")) (fun a => by walk_at "pt") fun a => ?_
  refine jb_ow (xs := intsD (List.replicate ((f.length + 1) - g.length) 0)) ok ?_ (fun a => by walk_at "pt") fun b => ?_
  · have e1 : (List.replicate (if ((intsD f).length : Int) - (intsD g).length + 1 > 0 then ((intsD f).length : Int) - (intsD g).length + 1 else 0).toNat [D.int 0]).flatten = intsD (List.replicate ((f.length + 1) - g.length) 0) := by
      rw [flat_rep, intsD_len, intsD_len]
      unfold intsD
      rw [List.map_replicate]
      congr 1
      split <;> omega
    rw [← e1]
    refine jn_rep (by walk_at "dl") (by walk_at "dl") ?_ ?_ ?_
    · split <;> omega
    · rw [intsD_len, intsD_len]
      split <;> omega
    · refine sz_of ?_
      rw [intsD_len, intsD_len]
      simp only [List.length_cons, List.length_nil]
      split <;> omega
  generalize hn : (f.length + 1) - g.length = n
  rcases hTL : overQ f g with ⟨T, L⟩
  have hov : ovr g (List.range n).reverse (List.replicate n 0) f = (T, L) := by
    rw [← hTL, ← hn]
    rfl
  have hlen := ovr_len g (List.range n).reverse (List.replicate n 0) f
  rw [hov] at hlen
  dsimp only at hlen
  rw [List.length_replicate] at hlen
  refine jb_cons (js_forG (f := fun i : Nat => D.int (i : Nat)) (l := (List.range n).reverse) (fun q : List Int × List Int => [.d (.lst (intsD f)), .d (.lst (intsD g)), .own a (intsD q.2), .own b (intsD q.1), .no, .no, .no, .no]) (fun q l => ovr g l q.1 q.2 = (T, L) ∧ q.1.length = n ∧ q.2.length = f.length ∧ ∀ i ∈ l, i < n) (.nx [.d (.lst (intsD f)), .d (.lst (intsD g)), .own a (intsD L), .own b (intsD T), .no, .no, .no, .no]) (List.replicate n 0, f) ?_ ⟨hov, List.length_replicate .., rfl, fun i hi => by simpa using hi⟩ (by walk_at "wk") .never rfl ?_ ?_) ?_
  · refine JI.conv (ji_rr ok c.f_reversed c.f_range (by walk_at "dl") (by omega) (by rw [intsD_len, List.length_replicate]; omega)) ?_
    rw [intsD_len, List.length_replicate, Int.toNat_natCast]
  · rintro ⟨t, l⟩ ⟨h, _⟩
    cases h
    exact ⟨_, rfl, Wk.refl _⟩
  · rintro ⟨t, l⟩ i r ⟨h, h3, h4, h5⟩
    dsimp only at *
    have hi : i < n := h5 i (List.mem_cons_self ..)
    have ha1 : atI (intsD l) ((i : Int) + ((intsD g).length : Int) - 1) = some (.int (gt l (i + g.length - 1))) := atI_ints (by omega) (by rw [intsD_len]; omega)
    have ha2 : ixN (intsD t).length (i : Int) = some i := ixN_at (by rw [intsD_len]; omega) rfl
    generalize hc : gt l (i + g.length - 1) = cc at ha1
    refine ⟨_, _, jg_v ok (by walk_at "pt"), .inr ⟨(t.set i cc, subAt cc l g i), ⟨?_, ?_, ?_, fun j hj => h5 j (List.mem_cons_of_mem _ hj)⟩, ?_⟩⟩
    · rw [← hc]
      exact h
    · rw [List.length_set, h3]
    · rw [subAt_len, h4]
    · walk_at "s"
      walk_at "s"
      refine jb_cons (js_forG (f := fun q : Int × Nat => D.tup [.int (q.2 : Nat), .int q.1]) (l := g.zipIdx) (fun q : List Int => [.d (.lst (intsD f)), .d (.lst (intsD g)), .own a (intsD q), .own b (intsD (t.set i cc)), .d (.int (i : Nat)), .d (.int cc), .no, .no]) (fun q l' => ∃ g' k, l' = g'.zipIdx k ∧ subAt cc q g' (i + k) = subAt cc l g i ∧ k + g'.length = g.length ∧ q.length = f.length ∧ ∀ x ∈ g', -(2 ^ 60) < x ∧ x < 2 ^ 60) (.nx [.d (.lst (intsD f)), .d (.lst (intsD g)), .own a (intsD (subAt cc l g i)), .own b (intsD (t.set i cc)), .no, .no, .no, .no]) l ?_ ⟨g, 0, rfl, rfl, by omega, h4, hb⟩ ?_ .never rfl ?_ ?_) ?_
      · exact JI.conv (ji_en ok c.f_enumerate (by walk_at "dl")) (enumD_ints g)
      · walk_at "wk"
        rw [intsD_set]
      · rintro q ⟨g', k, e, h6, h7, h8, h9⟩
        have e : g' = [] := by
          cases g' with
          | nil => rfl
          | cons x g' => cases e
        subst e
        refine ⟨_, rfl, ?_⟩
        rw [← h6]
        walk_at "wk"
      · rintro q ⟨x, k'⟩ r' ⟨g', k, e, h6, h7, h8, h9⟩
        cases g' with
        | nil => cases e
        | cons y g' =>
          rw [List.zipIdx_cons] at e
          obtain ⟨e1, e2⟩ := List.cons.inj e
          cases e1
          rw [List.length_cons] at h7
          have hx := h9 x (List.mem_cons_self ..)
          have ha3 : ixN (intsD q).length ((i : Int) + (k' : Int)) = some (i + k') := ixN_at (by rw [intsD_len]; omega) (by omega)
          have ha4 : (intsD q)[i + k']? = some (.int (gt q (i + k'))) := intsD_get (by omega)
          refine ⟨_, _, by walk_at "jg", .inr ⟨q.set (i + k') (gt q (i + k') - cc * x), ⟨g', k' + 1, e2, ?_, by omega, by rw [List.length_set]; exact h8, fun z hz => h9 z (List.mem_cons_of_mem _ hz)⟩, ?_⟩⟩
          · rw [← h6]
            rfl
          · walk_at "bw"
            rw [intsD_set]
      · walk_at "bw"
  · refine jb_frz ok (n := "left") (by walk_at "at") (by walk_at "pt") ?_
    refine jb_frz ok (n := "told") (by walk_at "at") (by walk_at "pt") ?_
    have hL : L.length ≤ 100000 := by omega
    have hT : T.length ≤ 100000 := by omega
    walk_at "rt"
    rfl
end
-- F3
/-! Root polynomials. -/
open PySem PySem.Spec PyProof.Rows L2 RW M
section
variable {P : Program} {w : World} {K : PySem.W.Frag} {mg : Str → Option Value} {base : Heap} {k : Nat} {R : List D → D → Prop}
inductive Rdiv : List D → D → Prop
  | mk (n : Int) (lo : List Int) (f : Nat) (h0 : 1 ≤ n) (hb : n ≤ 1000) (hf : f ≤ 1000) (h : low f 1 n = some lo) : Rdiv [.int n] (.lst (intsD (divs lo n)))
theorem low_some {f : Nat} {d n : Int} {r : List Int} (h : low f d n = some r) : ∃ f', f = f' + 1 ∧ ((d * d ≤ n ∧ ∃ l, low f' (d + 1) n = some l ∧ r = if n % d = 0 then d :: l else l) ∨ (¬ d * d ≤ n ∧ r = [])) := by
  cases f with
  | zero => cases h
  | succ f =>
    refine ⟨f, rfl, ?_⟩
    unfold low at h
    split at h
    · rename_i q
      split at h
      · rename_i l e
        exact .inl ⟨q, l, e, (Option.some.inj h).symm⟩
      · cases h
    · rename_i q
      exact .inr ⟨q, (Option.some.inj h).symm⟩
theorem low_ge : ∀ {f : Nat} {d n : Int} {r : List Int}, 1 ≤ d → low f d n = some r → (∀ x ∈ r, 1 ≤ x ∧ x ≤ n) ∧ r.length < f
  | f, d, n, r, hd, h => by
    obtain ⟨f', rfl, h | h⟩ := low_some h
    · obtain ⟨h1, l, h2, h3⟩ := h
      obtain ⟨h4, h5⟩ := low_ge (by omega) h2
      have h6 : d ≤ n := by
        have : d * 1 ≤ d * d := Int.mul_le_mul_of_nonneg_left hd (by omega)
        omega
      rw [h3]
      split
      · refine ⟨fun x hx => ?_, by rw [List.length_cons]; omega⟩
        rcases List.mem_cons.mp hx with rfl | hx
        · exact ⟨hd, h6⟩
        · exact h4 x hx
      · exact ⟨h4, by omega⟩
    · rw [h.2]
      exact ⟨fun x hx => (by cases hx), Nat.succ_pos _⟩
theorem fn_divisors (c : Ctx w K mg base) : Fn P w K mg base 1 "divisors" 1 Rdiv := by
  refine c.df 3 ["n", "low", "d"] ["n"] (h := ?_)
  rintro cdv A outer s H E hr ok _ _ - ⟨n, lo, f, h0, hb, hf, h⟩
  refine bodyR (ρ' := [.d (.int n), .no, .no]) (Wk.refl _) (jb_ow ok (jn_lst ja_nil) (fun l => .s .z) fun a => ?_)
  walk_at "s"
  obtain ⟨hge, hlen⟩ := low_ge (Int.le_refl 1) h
  refine jb_cons (js_whileG (fun q : Int × List Int => [.d (.int n), .own a (intsD q.2), .d (.int q.1)]) (fun f q => 1 ≤ q.1 ∧ q.1 + f ≤ 1001 ∧ ∃ l, low f q.1 n = some l ∧ lo = q.2 ++ l) (.nx [.d (.int n), .own a (intsD lo), .no]) f (1, []) ⟨Int.le_refl 1, by dsimp only; omega, lo, h, rfl⟩ (by walk_at "wk") .never ?_) ?_
  · rintro f ⟨d, acc⟩ ⟨hd, hdf, l, hl, e⟩
    dsimp only at *
    obtain ⟨f', rfl, h | h⟩ := low_some hl
    · obtain ⟨h1, l', h2, h3⟩ := h
      refine ⟨true, by walk_at "te", nofun, fun _ => .inr ⟨f', (d + 1, acc ++ if n % d = 0 then [d] else []), Nat.lt_succ_self _, ⟨by dsimp only; omega, by dsimp only; omega, l', h2, ?_⟩, ?_⟩⟩
      · dsimp only
        rw [e, h3]
        split <;> simp
      · have hz : acc.length < 1000 := by
          rw [e, List.length_append] at hlen
          omega
        refine jb_cons (js_when (ρ' := [.d (.int n), .own a (intsD (acc ++ if n % d = 0 then [d] else [])), .d (.int d)]) (c := decide (n % d = 0)) (by walk_at "te") (fun hc => ?_) (fun hc => ?_)) ?_
        · have hc : n % d = 0 := of_decide_eq_true hc
          have hz' : (intsD acc).length < sizeLine := by
            rw [intsD_len]
            exact sz_lt (by omega)
          rw [if_pos hc, ← intsD_app]
          walk_at "bw"
        · have hc : ¬ n % d = 0 := of_decide_eq_false hc
          rw [if_neg hc, List.append_nil]
        · walk_at "bw"
    · refine ⟨false, by have := h.1; walk_at "te", fun _ => ⟨_, rfl, ?_⟩, nofun⟩
      rw [e, h.2, List.append_nil]
      walk_at "wk"
  · refine jb_frz ok (by walk_at "at") (by walk_at "pt") ?_
    have hdl : (lo.reverse.filterMap fun d => if d * d = n then none else some (n / d)).length ≤ lo.length := by
      refine Nat.le_trans (List.length_filterMap_le ..) ?_
      rw [List.length_reverse]
      exact Nat.le_refl _
    refine JB.eq (jb_stop (js_ret (je_bin (by walk_at "dl") (je_cp [("d", 2)] ok (JI.conv (ds' := lo.reverse.map D.int) (ji_re ok c.f_reversed (by walk_at "dl")) (by unfold intsD; rw [← List.map_reverse])) [.d (.int n), .d (.lst (intsD lo)), .no] (comp_l (f := D.int) (l := lo.reverse) (g := fun d => if d * d = n then none else some (.int (n / d))) fun d hd => ?_) ?_) (bk_cat ?_)))) ?_
    · have hd' := hge d (List.mem_reverse.mp hd)
      refine ⟨[.d (.int n), .d (.lst (intsD lo)), .d (.int d)], [2], !decide (d * d = n), by simp, blk_i ok fun s H C cl fp okb => by walk_at "jg", blk_i ok fun s H C cl fp okb => jts_one (by walk_at "te"), ?_⟩
      by_cases hc : d * d = n
      · exact .inr ⟨by simp [hc], if_pos hc⟩
      · exact .inl ⟨by simp [hc], _, blk_i ok fun s H C cl fp okb => by walk_at "dl", if_neg hc⟩
    · refine Nat.le_trans (List.length_filterMap_le ..) ?_
      rw [List.length_reverse]
      omega
    · rw [intsD_len]
      refine sz_of (Nat.le_trans (Nat.add_le_add_left (List.length_filterMap_le ..) _) ?_)
      rw [List.length_reverse]
      omega
    show Oc.rt _ = Oc.rt _
    unfold divs
    rw [← intsD_app]
    congr 2
    unfold intsD
    rw [List.map_filterMap]
    congr 1
    congr 1
    funext d
    split <;> rfl
inductive Rrps : List D → D → Prop
  | mk (n : Int) (l : List (Int × List Int)) (h0 : 1 ≤ n) (hb : n ≤ 1000) (h : rootPolys n = some l) : Rrps [.int n] (.lst (l.map rpD))
theorem okG_ok {g : List Int} (h : okG g = true) : g ≠ [] ∧ g.length ≤ 1000 ∧ gt g (g.length - 1) = 1 ∧ ∀ x ∈ g, -(2 ^ 60) < x ∧ x < 2 ^ 60 := by
  unfold okG at h
  simp only [Bool.and_eq_true, decide_eq_true_eq, List.all_eq_true] at h
  exact h
theorem fn_root_polys (c : Ctx w K mg base) : Fn P w K mg base 3 "root_polys" 1 Rrps := by
  have Fd : Fn P w K mg base 1 "divisors" 1 Rdiv := fn_divisors c
  have Fo : Fn P w K mg base 2 "over" 2 Rover := fn_over c
  have Fl : Fn P w K mg base 1 "less_one" 1 Rless := fn_less_one c
  refine c.df 8 ["n", "told", "d", "f", "e", "g"] ["n"] (h := ?_)
  rintro cdv A outer s H E hr ok _ _ - ⟨n, l, h0, hb, h⟩
  unfold rootPolys at h
  split at h
  case h_2 => cases h
  rename_i lo hlo
  refine bodyR (ρ' := [.d (.int n), .no, .no, .no, .no, .no]) (Wk.refl _) (jb_ow ok (jn_lst ja_nil) (fun l => by walk_at "pt") fun a => ?_)
  have hR : Rdiv [.int n] (.lst ((divs lo n).map D.int)) := .mk n lo 40 h0 hb (by decide) hlo
  refine jb_cons (js_forG (f := D.int) (l := divs lo n) (fun q : List (Int × List Int) => [.d (.int n), .own a (q.map rpD), .no, .no, .no, .no]) (fun q ds => rps ds q = some l) (.nx [.d (.int n), .own a (l.map rpD), .no, .no, .no, .no]) [] (ji_list (je_ca ok Fd hr (by walk_at "dl") hR (by omega))) h (by walk_at "wk") .never rfl ?_ ?_) ?_
  · rintro q h
    cases h
    exact ⟨_, rfl, Wk.refl _⟩
  · rintro q d ds h
    unfold rps at h
    split at h
    case isFalse => cases h
    rename_i hc
    obtain ⟨c1, c2, c3⟩ := hc
    split at h
    case h_2 => cases h
    rename_i f0 hf0
    refine ⟨_, _, by walk_at "jg", .inr ⟨q ++ [(d, f0)], h, ?_⟩⟩
    walk_at "s"
    refine jb_cons (js_forK (ok := fun ρ2 => ρ2[1]? = some (Sl.own a (q.map rpD))) (f := rpD) (l := q) (fun f : List Int => [.d (.int n), .own a (q.map rpD), .d (.int d), .d (.lst (intsD f)), .no, .no]) (fun f r => rpF d r f = some f0) (.nx [.d (.int n), .own a (q.map rpD), .d (.int d), .d (.lst (intsD f0)), .no, .no]) (lessOne d.toNat) (fun _ _ _ => rfl) (ji_o ok (by walk_at "at")) hf0 (by walk_at "wk") .never rfl ?_ ?_) ?_
    · rintro f h
      unfold rpF at h
      split at h
      case isFalse => cases h
      cases h
      exact ⟨_, rfl, Wk.refl _⟩
    · rintro f ⟨e, g⟩ r h
      unfold rpF at h
      split at h
      case isFalse => cases h
      rename_i hc
      obtain ⟨d1, d2⟩ := hc
      refine ⟨_, _, jg_tup rfl (by walk_at "jgs"), .inr ⟨if d % e = 0 then trim (overQ f g).1 else f, ?_, ?_⟩⟩
      · split at h
        · rename_i hm
          rw [if_pos hm]
          split at h
          · exact h
          · cases h
        · rename_i hm
          rw [if_neg hm]
          exact h
      · with_reducible apply JB.wk
        refine jb_one (js_when (ρ' := [.d (.int n), .own a (q.map rpD), .d (.int d), .d (.lst (intsD (if d % e = 0 then trim (overQ f g).1 else f))), .d (.int e), .d (.lst (intsD g))]) (c := decide (d % e = 0)) (by walk_at "te") (fun hc => ?_) (fun hc => ?_))
        · have hc : d % e = 0 := of_decide_eq_true hc
          rw [if_pos hc] at h ⊢
          split at h
          case isFalse => cases h
          rename_i hk
          obtain ⟨k1, k2, k3, k4⟩ := okG_ok hk
          walk_at "bw"
        · have hc : ¬ d % e = 0 := of_decide_eq_false hc
          rw [if_neg hc]
        · walk_at "wk"
    · have hz : (q.map rpD).length < sizeLine := by
        rw [List.length_map]
        exact sz_lt (by omega)
      walk_at "bw"
      rw [List.map_append]
      rfl
  · refine jb_frz ok (by walk_at "at") (by walk_at "pt") ?_
    walk_at "rt"
    rfl
inductive Rroot : List D → D → Prop
  | mk (n : Int) (f : List Int) (h0 : 1 ≤ n) (hb : n ≤ 1000) (h : rootPoly n = some f) : Rroot [.int n] (.lst (intsD f))
theorem fn_root_poly (c : Ctx w K mg base) : Fn P w K mg base 4 "root_poly" 1 Rroot := by
  have Fd : Fn P w K mg base 3 "root_polys" 1 Rrps := fn_root_polys c
  refine c.df 9 ["n"] ["n"] (h := ?_)
  rintro cdv A outer s H E hr ok _ _ - ⟨n, f, h0, hb, h⟩
  unfold rootPoly at h
  split at h
  case h_2 => cases h
  rename_i l hl
  rw [Option.map_eq_some_iff] at h
  obtain ⟨⟨d, f'⟩, h1, rfl⟩ := h
  have hlt : l.length - 1 < l.length := by
    by_cases q : l.length - 1 < l.length
    · exact q
    · rw [List.getElem?_eq_none (by omega)] at h1
      cases h1
  have hat : atI (l.map rpD) (-1) = some (rpD (d, f')) := by
    have h3 : ixN (l.map rpD).length (-1) = some (l.length - 1) := by
      unfold ixN
      rw [List.length_map, if_neg (by decide), if_pos (by omega)]
      congr 1
      omega
    unfold atI
    rw [h3]
    show (l.map rpD)[l.length - 1]? = _
    rw [List.getElem?_map, h1]
    rfl
  refine bodyR (ρ' := [.d (.int n)]) (Wk.refl _) ?_
  refine jb_stop (js_ret (je_ix (x := rpD (d, f')) (je_ix (by walk_at "dl") (by walk_at "dl") (ik_L hat)) (by walk_at "dl") (ik_T rfl)))
end
-- F4
/-! Number defs, more. -/
open PySem PySem.Spec PyProof.Rows L2 RW M
section
variable {P : Program} {w : World} {K : PySem.W.Frag} {mg : Str → Option Value} {base : Heap} {k : Nat} {R : List D → D → Prop}
theorem fn_common (c : Ctx w K mg base) : Fn P w K mg base 1 "common" 2 Rcommon := by
  refine c.df 5 ["one", "other"] ["one", "other"] (h := ?_)
  rintro cdv A outer s H E hr ok _ _ - ⟨a, b, h0, h⟩
  refine bodyR (ρ' := [.d (.int a), .d (.int b)]) (Wk.refl _) ?_
  refine jb_cons (js_whileG (fun q : Int × Int => [.d (.int q.1), .d (.int q.2)]) (fun f q => 0 ≤ q.1 ∧ 0 ≤ q.2 ∧ f = q.2.toNat ∧ Int.gcd q.1 q.2 = Int.gcd a b) (.nx [.d (.int (Int.gcd a b)), .no]) _ (a, b) ⟨h0, h, rfl, rfl⟩ (Wk.refl _) .never ?_) ?_
  · rintro f ⟨x, y⟩ ⟨h0, h, rfl, hg⟩
    dsimp only at *
    by_cases hy : y = 0
    · subst hy
      refine ⟨false, by walk_at "te", fun _ => ⟨_, rfl, ?_⟩, nofun⟩
      rw [← hg]
      refine Wk.sameE ?_ (Wk.no .nil)
      simp [Int.gcd, Int.natAbs_of_nonneg h0]
    · have hy' : 0 < y := by omega
      refine ⟨true, by walk_at "te", nofun, fun _ => .inr ⟨_, (y, x % y), ?_, ⟨h, Int.emod_nonneg _ hy, rfl, ?_⟩, ?_⟩⟩
      · have := Int.emod_lt_of_pos x hy'
        have := Int.emod_nonneg x hy
        dsimp only
        omega
      · rw [gcd_step h0 hy', hg]
      · exact jb_one (js_pr ok (by walk_at "dl") (by walk_at "dl") (by walk_at "pt") (by walk_at "pt"))
  · walk_at "rt"
    rfl
theorem fn_law_common (c : Ctx w K mg base) : Fn P w K mg base 1 "_law_common" 2 Rcommon := by
  refine c.df 38 ["_law_one", "_law_other"] ["_law_one", "_law_other"] (h := ?_)
  rintro cdv A outer s H E hr ok _ _ - ⟨a, b, h0, h⟩
  refine bodyR (ρ' := [.d (.int a), .d (.int b)]) (Wk.refl _) ?_
  refine jb_cons (js_whileG (fun q : Int × Int => [.d (.int q.1), .d (.int q.2)]) (fun f q => 0 ≤ q.1 ∧ 0 ≤ q.2 ∧ f = q.2.toNat ∧ Int.gcd q.1 q.2 = Int.gcd a b) (.nx [.d (.int (Int.gcd a b)), .no]) _ (a, b) ⟨h0, h, rfl, rfl⟩ (Wk.refl _) .never ?_) ?_
  · rintro f ⟨x, y⟩ ⟨h0, h, rfl, hg⟩
    dsimp only at *
    by_cases hy : y = 0
    · subst hy
      refine ⟨false, by walk_at "te", fun _ => ⟨_, rfl, ?_⟩, nofun⟩
      rw [← hg]
      refine Wk.sameE ?_ (Wk.no .nil)
      simp [Int.gcd, Int.natAbs_of_nonneg h0]
    · have hy' : 0 < y := by omega
      refine ⟨true, by walk_at "te", nofun, fun _ => .inr ⟨_, (y, x % y), ?_, ⟨h, Int.emod_nonneg _ hy, rfl, ?_⟩, ?_⟩⟩
      · have := Int.emod_lt_of_pos x hy'
        have := Int.emod_nonneg x hy
        dsimp only
        omega
      · rw [gcd_step h0 hy', hg]
      · exact jb_one (js_pr ok (by walk_at "dl") (by walk_at "dl") (by walk_at "pt") (by walk_at "pt"))
  · walk_at "rt"
    rfl
theorem fn_law_power (c : Ctx w K mg base) : Fn P w K mg base 1 "_law_power" 3 Rpow := by
  refine c.df 42 ["_law_a", "_law_k", "_law_q", "_law_found"] ["_law_a", "_law_k", "_law_q"] (h := ?_)
  rintro cdv A outer s H E hr ok _ _ - ⟨a, k, n, hk, hn, hb⟩
  refine bodyR (ρ' := [.d (.int a), .d (.int k), .d (.int n), .no]) (Wk.refl _) (JB.eq (jb_cons (by walk_at "js") (jb_cons (by walk_at "js") (jb_cons (js_whileA (fun q : Int × Int × Int => [.d (.int q.1), .d (.int q.2.1), .d (.int n), .d (.int q.2.2)]) (fun q => .nx [.no, .no, .no, .d (.int (q.2.2 * q.1 ^ q.2.1.toNat % n))]) (fun q => q.2.1.toNat) (fun q => 0 ≤ q.1 ∧ q.1 < n ∧ 0 ≤ q.2.1 ∧ 0 ≤ q.2.2 ∧ q.2.2 < n) (a % n, k, 1 % n) ?_ .never ?_ (by walk_at "wk")) (jb_one (by walk_at "js"))))) ?_)
  · exact ⟨Int.emod_nonneg _ (by omega), Int.emod_lt_of_pos _ hn, hk, Int.emod_nonneg _ (by omega), Int.emod_lt_of_pos _ hn⟩
  · rintro ⟨a, k, t⟩ ⟨h1, h2, h3, h4, h5⟩
    dsimp only at h1 h2 h3 h4 h5 ⊢
    refine ⟨decide (0 < k), by walk_at "te", fun h => ⟨_, rfl, ?_⟩, fun h => .inr ⟨(a * a % n, k / 2, if k % 2 = 1 then t * a % n else t), ?_, ?_, ?_, ?_⟩⟩
    · have : k = 0 := by
        have : ¬ 0 < k := by simpa using h
        omega
      subst this
      walk_at "wk"
      show Sl.d (.int t) = Sl.d (.int (t * a ^ 0 % n))
      rw [Int.pow_zero]
      rw [Int.mul_one, Int.emod_eq_of_lt h4 h5]
    · refine JB.wk (jb_cons (js_when (ρ' := [.d (.int a), .d (.int k), .d (.int n), .d (.int (if k % 2 = 1 then t * a % n else t))]) (c := decide (k % 2 = 1)) (by walk_at "te") (fun hc => ?_) ?_) (jb_cons (by walk_at "js") (jb_one (by walk_at "js")))) ?_
      · have hc : k % 2 = 1 := by simpa using hc
        rw [if_pos hc]
        exact jb_one (by walk_at "js")
      · intro hc
        have hc : ¬ k % 2 = 1 := by simpa using hc
        rw [if_neg hc]
      · walk_at "wk"
    all_goals have h6 : 0 < k := by simpa using h
    · refine ⟨Int.emod_nonneg _ (by omega), Int.emod_lt_of_pos _ hn, by show 0 ≤ k / 2; omega, ?_, ?_⟩ <;> dsimp only <;> split
      · exact Int.emod_nonneg _ (by omega)
      · exact h4
      · exact Int.emod_lt_of_pos _ hn
      · exact h5
    · show (k / 2).toNat < k.toNat
      omega
    · show Oc.nx _ = Oc.nx _
      dsimp only
      rw [pow_step h6]
  · show Oc.rt (.int _) = Oc.rt (.int _)
    dsimp only
    rw [Int.mul_emod, Int.emod_emod, pm, ← Int.mul_emod, Int.one_mul]
inductive Rwhole : List D → D → Prop
  | mk (i : Int) : Rwhole [.int i] (.bl true)
theorem fn_is_whole (c : Ctx w K mg base) : Fn P w K mg base 1 "is_whole" 1 Rwhole := by
  refine c.df 10 ["thing"] ["thing"] (h := ?_)
  rintro cdv A outer s H E hr ok _ _ - ⟨i⟩
  refine bodyR (ρ' := [.d (.int i)]) (Wk.refl _) ?_
  walk_at "rt"
  rfl
/-! _law_parted -/
theorem fn_law_parted (c : Ctx w K mg base) : Fn P w K mg base 1 "_law_parted" 1 Rparted := by
  refine c.df 45 ["_law_n", "_law_found", "_law_p", "_law_many"] ["_law_n"] (h := ?_)
  rintro cdv A outer s H E hr ok _ _ - ⟨n, l, f, h0, hb, hf, h⟩
  unfold prt at h
  split at h
  case h_2 => cases h
  rename_i l1 n2 he0
  cases h
  have hz1 : l1.length < f := prtE_len he0
  refine bodyR (ρ' := [.d (.int n), .no, .no, .no]) (Wk.refl _) (jb_ow ok (jn_lst ja_nil) (fun l => .s .z) fun a => ?_)
  walk_at "s"
  refine jb_cons (js_whileG (fun q : Int × Int × List (Int × Int) => [.d (.int q.1), .own a (q.2.2.map prD), .d (.int q.2.1), .no]) (fun m q => (q.1 ≤ 1 ∧ q.2.2 = if 1 < n2 then l1 ++ [(n2, 1)] else l1) ∨ (0 ≤ q.1 ∧ q.1 < 2 ^ 60 ∧ 2 ≤ q.2.1 ∧ q.2.1 + m ≤ 100002 ∧ ∃ l, prtE m q.2.1 q.1 = some (l, n2) ∧ l1 = q.2.2 ++ l)) (.nx [.no, .own a ((if 1 < n2 then l1 ++ [(n2, 1)] else l1).map prD), .no, .no]) f (n, 2, []) (.inr ⟨h0, hb, Int.le_refl 2, by dsimp only; omega, l1, he0, rfl⟩) (by walk_at "wk") .never ?_) ?_
  · rintro f ⟨n, p, acc⟩ (⟨hn, hacc⟩ | ⟨h0, hb, hp, hpf, l, he, hl⟩)
    · dsimp only at *
      refine ⟨false, by walk_at "te", fun _ => ⟨_, rfl, ?_⟩, nofun⟩
      rw [hacc]
      walk_at "wk"
    dsimp only at *
    have hz : acc.length < 100000 := by
      rw [hl, List.length_append] at hz1
      omega
    by_cases hn1 : n ≤ 1
    · refine ⟨false, by walk_at "te", fun _ => ⟨_, rfl, ?_⟩, nofun⟩
      obtain ⟨f', rfl, h | h⟩ := prtE_some he
      · have h2 := h.1
        have : 2 * 2 ≤ p * p := Int.mul_le_mul hp hp (by omega) (by omega)
        omega
      · cases h.2
        rw [if_neg (by omega), hl, List.append_nil]
        walk_at "wk"
    obtain ⟨f', rfl, h | h⟩ := prtE_some he
    · obtain ⟨hle, n', m, l', e1, e2, e3⟩ := h
      obtain ⟨b1, b2, b3⟩ := strip_le hp h0 e1
      dsimp only at b1 b2 b3
      refine ⟨true, by walk_at "te", nofun, fun _ => .inr ⟨f', (n', p + 1, acc ++ if 0 < m then [(p, m)] else []), Nat.lt_succ_self _, .inr ⟨b1, by dsimp only; omega, by dsimp only; omega, by dsimp only; omega, l', e2, ?_⟩, ?_⟩⟩
      · dsimp only at e3 ⊢
        rw [hl, e3]
        split <;> simp
      · refine jb_cons (js_ifF (by walk_at "te") jb_nil) ?_
        walk_at "s"
        refine jb_cons (js_whileG (fun q : Int × Int => [.d (.int q.1), .own a (acc.map prD), .d (.int p), .d (.int q.2)]) (fun f q => 0 ≤ q.1 ∧ stripP f p q.1 q.2 = some (n', m)) (.nx [.d (.int n'), .own a (acc.map prD), .d (.int p), .d (.int m)]) f' (n, 0) ⟨h0, e1⟩ (by walk_at "wk") .never ?_) ?_
        · rintro f ⟨n, k⟩ ⟨h0, he⟩
          dsimp only at *
          obtain ⟨f', rfl, h | h⟩ := strip_some he
          · refine ⟨true, by have := h.1; walk_at "te", nofun, fun _ => .inr ⟨f', (n / p, k + 1), Nat.lt_succ_self _, ⟨Int.ediv_nonneg h0 (by omega), h.2⟩, ?_⟩⟩
            walk_at "bw"
          · refine ⟨false, by have := h.1; walk_at "te", fun _ => ⟨_, rfl, ?_⟩, nofun⟩
            cases h.2
            walk_at "wk"
        · refine jb_cons (js_when (ρ' := [.d (.int n'), .own a ((acc ++ if 0 < m then [(p, m)] else []).map prD), .d (.int p), .d (.int m)]) (c := decide (0 < m)) (by walk_at "te") (fun hc => ?_) (fun hc => ?_)) ?_
          · have hc : 0 < m := of_decide_eq_true hc
            rw [if_pos hc, List.map_append]
            walk_at "bw"
          · have hc : ¬ 0 < m := of_decide_eq_false hc
            rw [if_neg hc, List.append_nil]
          · walk_at "bw"
    · obtain ⟨hgt, hln⟩ := h
      cases hln
      have hnn : n2 % n2 = 0 := Int.emod_self
      have hnd : n2 / n2 = 1 := Int.ediv_self (by omega)
      refine ⟨true, by walk_at "te", nofun, fun _ => .inr ⟨0, (1, n2 + 1, acc ++ [(n2, 1)]), Nat.succ_pos _, .inl ⟨Int.le_refl 1, ?_⟩, ?_⟩⟩
      · dsimp only
        rw [if_pos (by omega), hl, List.append_nil]
      · refine jb_cons (ρ1 := [.d (.int n2), .own a (acc.map prD), .d (.int n2), .no]) (js_ifT (by walk_at "te") (by walk_at "bw")) ?_
        walk_at "s"
        refine jb_cons (js_whileG (fun q : Int × Int => [.d (.int q.1), .own a (acc.map prD), .d (.int n2), .d (.int q.2)]) (fun f q => (f = 1 ∧ q = (n2, 0)) ∨ (f = 0 ∧ q = (1, 1))) (.nx [.d (.int 1), .own a (acc.map prD), .d (.int n2), .d (.int 1)]) 1 (n2, 0) (.inl ⟨rfl, rfl⟩) (by walk_at "wk") .never ?_) ?_
        · rintro f q (⟨rfl, rfl⟩ | ⟨rfl, rfl⟩)
          · refine ⟨true, by walk_at "te", nofun, fun _ => .inr ⟨0, (1, 1), Nat.zero_lt_one, .inr ⟨rfl, rfl⟩, ?_⟩⟩
            walk_at "bw"
            rw [hnd]
          · have h1n : (1 : Int) % n2 = 1 := Int.emod_eq_of_lt (by omega) (by omega)
            refine ⟨false, ?_, fun _ => ⟨_, rfl, by walk_at "wk"⟩, nofun⟩
            walk_at "te"
        · have hsz : (acc.map prD).length < sizeLine := by
            rw [List.length_map]
            exact sz_lt (by omega)
          refine jb_cons (ρ1 := [.d (.int 1), .own a ((acc ++ [(n2, 1)]).map prD), .d (.int n2), .d (.int 1)]) (js_ifT (by walk_at "te") ?_) ?_
          · rw [List.map_append]
            walk_at "bw"
          · walk_at "bw"
  · refine jb_frz ok (by walk_at "at") (by walk_at "pt") ?_
    walk_at "rt"
    rfl
/-! _law_over -/
inductive Rlover : List D → D → Prop
  | mk (f g : List Int) (hf : f.length ≤ 1000) (hg : g.length ≤ 1000) (h1 : g ≠ []) (hb : ∀ x ∈ g, -(2 ^ 60) < x ∧ x < 2 ^ 60) : Rlover [.lst (intsD f), .lst (intsD g)] (.lst (intsD (overQ f g).1))
theorem rngDown (n : Nat) : rngD ((n : Int) - 1) (-1) ((n : Int) - 1 - -1).toNat = (List.range n).reverse.map fun i => D.int (i : Nat) := by
  have e : ((n : Int) - 1 - -1).toNat = n := by omega
  rw [e, rngD_down]
theorem fn_law_over (c : Ctx w K mg base) : Fn P w K mg base 1 "_law_over" 2 Rlover := by
  refine c.df 39 ["_law_numbers", "_law_by", "_law_left", "_law_found", "_law_at", "_law_k"] ["_law_numbers", "_law_by"] (h := ?_)
  rintro cdv A outer s H E hr ok _ _ - ⟨f, g, hf, hg, h1, hb⟩
  refine bodyR (ρ' := [.d (.lst (intsD f)), .d (.lst (intsD g)), .no, .no, .no, .no]) (Wk.refl _) ?_
  have hl : 0 < g.length := List.length_pos_iff.mpr h1
  refine jb_ow ok (jn_li ok c.f_list (by walk_at "dl")) (fun a => by walk_at "pt") fun a => ?_
  refine jb_ow (xs := intsD (List.replicate ((f.length + 1) - g.length) 0)) ok ?_ (fun a => by walk_at "pt") fun b => ?_
  · have e1 : (List.replicate (if ((intsD f).length : Int) - (intsD g).length + 1 > 0 then ((intsD f).length : Int) - (intsD g).length + 1 else 0).toNat [D.int 0]).flatten = intsD (List.replicate ((f.length + 1) - g.length) 0) := by
      rw [flat_rep, intsD_len, intsD_len]
      unfold intsD
      rw [List.map_replicate]
      congr 1
      split <;> omega
    rw [← e1]
    refine jn_rep (by walk_at "dl") (by walk_at "dl") ?_ ?_ ?_
    · split <;> omega
    · rw [intsD_len, intsD_len]
      split <;> omega
    · refine sz_of ?_
      rw [intsD_len, intsD_len]
      simp only [List.length_cons, List.length_nil]
      split <;> omega
  generalize hn : (f.length + 1) - g.length = n
  rcases hTL : overQ f g with ⟨T, L⟩
  have hov : ovr g (List.range n).reverse (List.replicate n 0) f = (T, L) := by
    rw [← hTL, ← hn]
    rfl
  refine jb_cons (js_forG (f := fun i : Nat => D.int (i : Nat)) (l := (List.range n).reverse) (fun q : List Int × List Int => [.d (.lst (intsD f)), .d (.lst (intsD g)), .own a (intsD q.2), .own b (intsD q.1), .no, .no]) (fun q l => ovr g l q.1 q.2 = (T, L) ∧ q.1.length = n ∧ q.2.length = f.length ∧ ∀ i ∈ l, i < n) (.nx [.d (.lst (intsD f)), .d (.lst (intsD g)), .own a (intsD L), .own b (intsD T), .no, .no]) (List.replicate n 0, f) ?_ ⟨hov, List.length_replicate .., rfl, fun i hi => by simpa using hi⟩ (by walk_at "wk") .never rfl ?_ ?_) ?_
  · refine JI.conv (ji_rangeDown (i := (n : Int) - 1) (j := -1) c.f_range (JD.eq (je_bin (je_olen ok c.f_len (by walk_at "at")) je_int bk_sub) ?_) (by walk_at "dl") (by walk_at "dl") (by omega) (by omega) (by omega) (by omega) (ok.gl (by decide +kernel)).1) (rngDown n)
    rw [intsD_len, List.length_replicate]
  · rintro ⟨t, l⟩ ⟨h, _⟩
    cases h
    exact ⟨_, rfl, Wk.refl _⟩
  · rintro ⟨t, l⟩ i r ⟨h, h3, h4, h5⟩
    dsimp only at *
    have hi : i < n := h5 i (List.mem_cons_self ..)
    have ha1 : atI (intsD l) ((i : Int) + ((intsD g).length : Int) - 1) = some (.int (gt l (i + g.length - 1))) := atI_ints (by omega) (by rw [intsD_len]; omega)
    have ha2 : ixN (intsD t).length (i : Int) = some i := ixN_at (by rw [intsD_len]; omega) rfl
    generalize hc : gt l (i + g.length - 1) = cc at ha1
    refine ⟨_, _, jg_v ok (by walk_at "pt"), .inr ⟨(t.set i cc, subAt cc l g i), ⟨?_, ?_, ?_, fun j hj => h5 j (List.mem_cons_of_mem _ hj)⟩, ?_⟩⟩
    · rw [← hc]
      exact h
    · rw [List.length_set, h3]
    · rw [subAt_len, h4]
    · walk_at "s"
      have ha5 : atI ((intsD t).set i (.int cc)) (i : Int) = some (.int cc) := atI_at (k := i) (List.getElem?_set_self (by rw [intsD_len]; omega)) rfl
      refine jb_cons (js_forG (f := fun q : Nat => D.int (q : Nat)) (l := List.range g.length) (fun q : List Int => [.d (.lst (intsD f)), .d (.lst (intsD g)), .own a (intsD q), .own b ((intsD t).set i (.int cc)), .d (.int (i : Nat)), .no]) (fun q l' => ∃ k, l' = List.range' k (g.length - k) ∧ subAt cc q (g.drop k) (i + k) = subAt cc l g i ∧ k ≤ g.length ∧ q.length = f.length) (.nx [.d (.lst (intsD f)), .d (.lst (intsD g)), .own a (intsD (subAt cc l g i)), .own b (intsD (t.set i cc)), .no, .no]) l ?_ ⟨0, by rw [List.range_eq_range']; rfl, rfl, Nat.zero_le _, h4⟩ ?_ .never rfl ?_ ?_) ?_
      · refine JI.conv (ji_r1 ok c.f_range (by walk_at "dl") (by omega) (by rw [intsD_len]; omega)) ?_
        rw [intsD_len]
        rfl
      · walk_at "wk"
      · rintro q ⟨k, e, h6, h7, h8⟩
        have e : k = g.length := by
          have := congrArg List.length e
          rw [List.length_range'] at this
          simp at this
          omega
        subst e
        refine ⟨_, rfl, ?_⟩
        rw [← h6, List.drop_length, ← intsD_set]
        walk_at "wk"
      · rintro q k' r' ⟨k, e, h6, h7, h8⟩
        have hk : k < g.length := by
          rcases Nat.lt_or_ge k g.length with q | q
          · exact q
          · rw [Nat.sub_eq_zero_of_le q] at e
            cases e
        obtain ⟨m, hm⟩ : ∃ m, g.length - k = m + 1 := ⟨g.length - k - 1, by omega⟩
        rw [hm, List.range'_succ] at e
        obtain ⟨e1, e2⟩ := List.cons.inj e
        subst e1
        have hx : g[k'] ∈ g := List.getElem_mem hk
        have hx' := hb _ hx
        have hgk : gt g k' = g[k'] := by
          unfold gt
          rw [List.getElem?_eq_getElem hk]
          rfl
        have ha6 : atI (intsD g) (k' : Int) = some (.int g[k']) := by
          rw [← hgk]
          exact atI_ints hk rfl
        have ha3 : ixN (intsD q).length ((i : Int) + (k' : Int)) = some (i + k') := ixN_at (by rw [intsD_len]; omega) (by omega)
        have ha4 : atI (intsD q) ((i : Int) + (k' : Int)) = some (.int (gt q (i + k'))) := atI_ints (by omega) (by omega)
        refine ⟨_, _, by walk_at "jg", .inr ⟨q.set (i + k') (gt q (i + k') - cc * g[k']), ⟨k' + 1, ?_, ?_, by omega, by rw [List.length_set]; exact h8⟩, ?_⟩⟩
        · rw [e2]
          congr 1
          omega
        · rw [← h6, List.drop_eq_getElem_cons hk]
          rfl
        · walk_at "bw"
          rw [intsD_set]
      · walk_at "bw"
  · refine jb_frz ok (n := "_law_found") (by walk_at "at") (by walk_at "pt") ?_
    walk_at "rt"
    rfl
end
-- F5
/-! The law's root polynomials, worth, prime, draws. -/
open PySem PySem.Spec PyProof.Rows L2 RW M
section
variable {P : Program} {w : World} {K : PySem.W.Frag} {mg : Str → Option Value} {base : Heap} {k : Nat} {R : List D → D → Prop}
inductive Rlroot (k : Nat) : List D → D → Prop
  | mk (n : Int) (f : List Int) (h : lroot k n = some f) : Rlroot k [.int n] (.lst (intsD f))
theorem fn_law_root_poly (c : Ctx w K mg base) : ∀ k, Fn P w K mg base (k + 2) "_law_root_poly" 1 (Rlroot k)
  | 0 => by
    refine c.df 40 (k := 1) ["_law_n", "_law_found", "_law_d"] ["_law_n"] (h := ?_)
    rintro cdv A outer s H E hr ok _ _ - ⟨n, f, h⟩
    cases h
  | k + 1 => by
    have Fr : Fn P w K mg base (k + 2) "_law_root_poly" 1 (Rlroot k) := fn_law_root_poly c k
    have Fo : Fn P w K mg base 1 "_law_over" 2 Rlover := fn_law_over c
    refine c.df 40 (k := k + 2) ["_law_n", "_law_found", "_law_d"] ["_law_n"] (h := ?_)
    rintro cdv A outer s H E hr ok _ _ - ⟨n, f, h⟩
    unfold lroot at h
    split at h
    case isFalse => cases h
    rename_i hn
    refine bodyR (ρ' := [.d (.int n), .no, .no]) (Wk.refl _) ?_
    obtain ⟨m, rfl⟩ := Int.eq_ofNat_of_zero_le (show 0 ≤ n by omega)
    have e1 : (List.replicate ((m : Int) - 1).toNat [D.int 0]).flatten = List.replicate (m - 1) (D.int 0) := by
      rw [flat_rep]
      congr 1
      omega
    have h1 : [D.int (-1)].length + (List.replicate ((m : Int) - 1).toNat [D.int 0]).flatten.length ≤ sizeLine := by
      rw [e1]
      walk_at "sz"
    have h2 : ([D.int (-1)] ++ (List.replicate ((m : Int) - 1).toNat [D.int 0]).flatten).length + [D.int 1].length ≤ sizeLine := by
      rw [e1]
      walk_at "sz"
    have h3 : [D.int 0].length * ((m : Int) - 1).toNat ≤ sizeLine := sz_of (by simp only [List.length_cons, List.length_nil]; omega)
    refine jb_cons (ρ1 := [.d (.int m), .d (.lst (intsD (lessOne m))), .no]) (JS.wk (by walk_at "js") ?_) ?_
    · refine Wk.same (Wk.sameE ?_ (Wk.refl _))
      rw [e1]
      unfold intsD lessOne
      simp
    refine jb_cons (js_forG (f := fun t : Nat => D.int (1 + (t : Nat))) (l := List.range ((m : Int) - 1).toNat) (fun q : List Int => [.d (.int m), .d (.lst (intsD q)), .no]) (fun q l => lroF (lroot k) m l q = some f) (.nx [.d (.int m), .d (.lst (intsD f)), .no]) (lessOne m) (ji_r2 ok c.f_range (by walk_at "dl") (by walk_at "dl") (by omega) (by omega) (by omega) (by omega)) h (by walk_at "wk") .never rfl ?_ ?_) ?_
    · rintro q h
      cases h
      exact ⟨_, rfl, Wk.refl _⟩
    · rintro q t r h
      unfold lroF at h
      split at h
      · rename_i hm
        split at h
        case h_2 => cases h
        rename_i g hg
        split at h
        case isFalse => cases h
        rename_i hk
        rw [Bool.and_eq_true, decide_eq_true_eq] at hk
        obtain ⟨k1, k2, k3, k4⟩ := okG_ok hk.1
        have k5 := hk.2
        refine ⟨_, _, by walk_at "jg", .inr ⟨(overQ q g).1, h, ?_⟩⟩
        refine JB.wk (jb_one (js_ifT (by walk_at "te") (oc := .nx [.d (.int m), .d (.lst (intsD (overQ q g).1)), .d (.int (1 + (t : Nat)))]) ?_)) (by walk_at "wk")
        walk_at "bw"
      · rename_i hm
        refine ⟨_, _, by walk_at "jg", .inr ⟨q, h, ?_⟩⟩
        exact JB.wk (jb_one (js_ifF (by walk_at "te") jb_nil)) (by walk_at "wk")
    · walk_at "rt"
      rfl
inductive Rworth : List D → D → Prop
  | mk (a n : Int) (f : List Int) (k : Nat) (hk : k ≤ 8) (h : lroot k n = some f) (hf : f.length ≤ 1000) (ha : 0 ≤ a ∧ a < 2 ^ 60) : Rworth [.int a, .int n] (.int (value f a))
theorem fn_law_worth (c : Ctx w K mg base) : Fn P w K mg base 11 "_law_worth" 2 Rworth := by
  refine c.df 49 (k := 10) ["_law_a", "_law_n", "_law_found", "_law_number"] ["_law_a", "_law_n"] (h := ?_)
  rintro cdv A outer s H E hr ok _ _ - ⟨a, n, f, k, hk, h, hf, ha⟩
  have Fr : Fn P w K mg base (k + 2) "_law_root_poly" 1 (Rlroot k) := fn_law_root_poly c k
  refine bodyR (ρ' := [.d (.int a), .d (.int n), .no, .no]) (Wk.refl _) ?_
  walk_at "s"
  refine jb_cons (js_forG (f := D.int) (l := f.reverse) (fun t : Int => [.d (.int a), .d (.int n), .d (.int t), .no]) (fun t l => horner a l t = value f a) (.nx [.d (.int a), .d (.int n), .d (.int (value f a)), .no]) 0 ?_ rfl (by walk_at "wk") .never rfl ?_ ?_) ?_
  · refine JI.conv (ji_list (je_revL (xs := intsD f) (je_ca ok Fr hr (by walk_at "dl") (.mk n f h) (by omega)))) ?_
    unfold intsD
    rw [List.map_reverse]
  · rintro t h
    refine ⟨_, rfl, ?_⟩
    rw [← h]
    exact Wk.refl _
  · rintro t x xs h
    refine ⟨_, _, jg_v ok (by walk_at "pt"), .inr ⟨t * a + x, h, ?_⟩⟩
    walk_at "bw"
  · walk_at "rt"
    rfl
inductive Rprime : List D → D → Prop
  | mk (q : Int) (b : Bool) (f : Nat) (h : lprime f q = some b) (hf : f ≤ 100000) : Rprime [.int q] (.bl b)
theorem lprD_some {f : Nat} {d q : Int} {r : Bool} (h : lprD f d q = some r) : ∃ f', f = f' + 1 ∧ ((d * d ≤ q ∧ q % d = 0 ∧ r = true) ∨ (d * d ≤ q ∧ q % d ≠ 0 ∧ lprD f' (d + 1) q = some r) ∨ (¬ d * d ≤ q ∧ r = false)) := by
  cases f with
  | zero => cases h
  | succ f =>
    refine ⟨f, rfl, ?_⟩
    unfold lprD at h
    split at h
    · rename_i q1
      split at h
      · rename_i q2
        exact .inl ⟨q1, q2, (Option.some.inj h).symm⟩
      · rename_i q2
        exact .inr (.inl ⟨q1, q2, h⟩)
    · rename_i q1
      exact .inr (.inr ⟨q1, (Option.some.inj h).symm⟩)
theorem fn_law_prime (c : Ctx w K mg base) : Fn P w K mg base 1 "_law_prime" 1 Rprime := by
  refine c.df 41 ["_law_q", "_law_d"] ["_law_q"] (h := ?_)
  rintro cdv A outer s H E hr ok _ _ - ⟨q, b, f, h, hf⟩
  refine bodyR (ρ' := [.d (.int q), .no]) (Wk.refl _) ?_
  walk_at "s"
  unfold lprime at h
  split at h
  · rename_i hd
    cases h
    refine jb_stop (js_whileG (fun d : Int => [.d (.int q), .d (.int d)]) (fun f d => lprD f d q = some true ∧ 2 ≤ d ∧ d + f ≤ 100002) (.rt (.bl false)) f 2 ⟨hd, Int.le_refl 2, by omega⟩ (Wk.refl _) .never ?_)
    rintro f d ⟨h, hd, hdf⟩
    obtain ⟨f', rfl, h | h | h⟩ := lprD_some h
    · have := h.1
      refine ⟨true, by walk_at "te", nofun, fun _ => .inl ⟨.bl false, ?_, rfl⟩⟩
      exact jb_stop (js_ifT (by have := h.2.1; walk_at "te") (jb_stop (by walk_at "js")))
    · have := h.1
      refine ⟨true, by walk_at "te", nofun, fun _ => .inr ⟨f', d + 1, Nat.lt_succ_self _, ⟨h.2.2, by omega, by omega⟩, ?_⟩⟩
      refine jb_cons (js_ifF (by have := h.2.1; walk_at "te") jb_nil) ?_
      walk_at "bw"
    · have := h.1
      exact absurd h.2 nofun
  · rename_i hd
    cases h
    refine jb_cons (js_whileG (fun d : Int => [.d (.int q), .d (.int d)]) (fun f d => lprD f d q = some false ∧ 2 ≤ d ∧ d + f ≤ 100002) (.nx [.d (.int q), .no]) f 2 ⟨hd, Int.le_refl 2, by omega⟩ (Wk.refl _) .never ?_) ?_
    rotate_left
    · walk_at "rt"
      rfl
    rintro f d ⟨h, hd, hdf⟩
    obtain ⟨f', rfl, h | h | h⟩ := lprD_some h
    · have := h.1
      exact absurd h.2.2 nofun
    · have := h.1
      refine ⟨true, by walk_at "te", nofun, fun _ => .inr ⟨f', d + 1, Nat.lt_succ_self _, ⟨h.2.2, by omega, by omega⟩, ?_⟩⟩
      refine jb_cons (js_ifF (by have := h.2.1; walk_at "te") jb_nil) ?_
      walk_at "bw"
    · have := h.1
      refine ⟨false, by walk_at "te", fun _ => ⟨_, rfl, by walk_at "wk"⟩, nofun⟩
  · cases h
end
-- F6
/-! Draws. -/
open PySem PySem.Spec PyProof.Rows L2 RW M
section
variable {P : Program} {w : World} {K : PySem.W.Frag} {mg : Str → Option Value} {base : Heap} {k : Nat} {R : List D → D → Prop}
/-! _law_mix -/
inductive Rmix : List D → D → Prop
  | mk (cell : Int) (k : Nat) (hk : k ≤ 1000) : Rmix [.int cell, .int (k : Nat)] (.int (mix cell k))
theorem hp18 {X : Cx} : BinK X .Pow (.int 10) (.int 18) (.int (10 ^ 18)) := bk_pow (by decide) (by decide +kernel)
theorem hp6 {X : Cx} : BinK X .Pow (.int 10) (.int 6) (.int (10 ^ 6)) := bk_pow (by decide) (by decide +kernel)
theorem hp60 {X : Cx} : BinK X .Pow (.int 10) (.int 60) (.int p60) := bk_pow (by decide) (by decide +kernel)
theorem hp20 {X : Cx} : BinK X .Pow (.int p60) (.int 20) (.int p1200) := bk_pow (by decide) (by decide +kernel)
theorem hpos : 0 < p1200 := by decide +kernel
theorem fn_law_mix (c : Ctx w K mg base) : Fn P w K mg base 1 "_law_mix" 2 Rmix := by
  refine c.df 37 ["_law_cell", "_law_k", "_law_turn", "_law_number"] ["_law_cell", "_law_k"] (h := ?_)
  rintro cdv A outer s H E hr ok _ _ - ⟨cell, k, hk⟩
  refine bodyR (ρ' := [.d (.int cell), .d (.int k), .no, .no]) (Wk.refl _) ?_
  have hpos := hpos
  have hkk : (k : Int) * k ≤ 1000 * 1000 := Int.mul_le_mul (by omega) (by omega) (by omega) (by omega)
  have hkk0 : 0 ≤ (k : Int) * k := Int.mul_nonneg (by omega) (by omega)
  by_cases hc : 10 ^ 18 ≤ cell
  · refine jb_stop (js_ifT (JT.eq (jt_cm (by walk_at "dl") (je_bin je_int je_int hp18) (by walk_at "dl")) (by walk_at "dl")) ?_)
    obtain ⟨c0, hc0⟩ : ∃ c0, cell % p1200 = c0 := ⟨_, rfl⟩
    refine jb_cons (js_st (d := .int c0) ok (JD.eq (je_bin (je_v ok (by walk_at "at")) (je_bin (je_bin je_int je_int hp60) je_int hp20) (bk_mod hpos)) (by rw [hc0])) (by walk_at "pt")) ?_
    obtain ⟨c1, hc1⟩ : ∃ c1, mixD k c0 = c1 := ⟨_, rfl⟩
    have hm : mix cell k = c1 % 10 ^ 6 := by
      unfold mix
      rw [if_pos hc, hc0, hc1]
    rw [hm]
    clear hm hc0 hc hpos
    refine jb_cons (js_forG (f := fun t : Nat => D.int (t : Nat)) (l := List.range k) (fun q : Int => [.d (.int q), .d (.int k), .no, .no]) (fun q l => mixD l.length q = c1) (.nx [.d (.int c1), .d (.int k), .no, .no]) c0 (JI.conv (ji_r1 ok c.f_range (by walk_at "dl") (by omega) (by omega)) (by rw [Int.toNat_natCast])) (show mixD (List.range k).length c0 = c1 by rw [List.length_range]; exact hc1) (by walk_at "wk") .never rfl ?_ ?_) ?_
    · rintro q h
      cases h
      exact ⟨_, rfl, Wk.refl _⟩
    · rintro q t r h
      refine ⟨_, _, by walk_at "jg", .inr ⟨q / 10 ^ 6, h, ?_⟩⟩
      refine JB.wk (jb_one (js_st ok (je_bin (by walk_at "dl") (je_bin je_int je_int hp6) (bk_div (by decide +kernel) (by decide +kernel))) (by walk_at "pt"))) (by walk_at "wk")
    · exact jb_stop (js_ret (je_bin (by walk_at "dl") (je_bin je_int je_int hp6) (bk_mod (by decide +kernel))))
  · refine jb_cons (js_ifF (JT.eq (jt_cm (by walk_at "dl") (je_bin je_int je_int hp18) (by walk_at "dl")) (by walk_at "dl")) jb_nil) ?_
    walk_at "s"
    walk_at "s"
    walk_at "rt"
    show Oc.rt (.int _) = Oc.rt (.int _)
    unfold mix mixS
    rw [if_neg hc]
end
-- F7
/-! Firsts. -/
open PySem PySem.Spec PyProof.Rows L2 RW M
section
variable {P : Program} {w : World} {K : PySem.W.Frag} {mg : Str → Option Value} {base : Heap} {k : Nat} {R : List D → D → Prop}
inductive Rorder : List D → D → Prop
  | mk (a n q : Int) (l : List (Int × Int)) (hl : PartsOf n l) (hq : 2 ≤ q) (hb : q ≤ 2 ^ 60) : Rorder [.int a, .int n, .int q] (.bl (orderM a n q l))
theorem Rparted.of {n : Int} {l : List (Int × Int)} (h : PartsOf n l) : Rparted [.int n] (.lst (l.map prD)) := .mk n l 1000 (by have := h.h0; omega) (by have := h.hb; omega) (by decide) h.h
theorem Rpow.of {a k n : Int} (hk : 0 ≤ k) (hn : 0 < n) (hb : n ≤ 2 ^ 60) : Rpow [.int a, .int k, .int n] (.int (pw a k n)) := .mk a k n hk hn hb
theorem fn_order_is (c : Ctx w K mg base) : Fn P w K mg base 2 "order_is" 3 Rorder := by
  have Fp : Fn P w K mg base 1 "power_by" 3 Rpow := fn_power_by c
  have Fd : Fn P w K mg base 1 "parted" 1 Rparted := fn_parted c
  refine c.df 14 ["a", "n", "q", "p", "often"] ["a", "n", "q"] (h := ?_)
  rintro cdv A outer s H E hr ok _ _ - ⟨a, n, q, l, hl, hq, hb⟩
  have h0 := hl.h0
  have hp1 := Rpow.of (a := a) (k := n) (n := q) (by omega) (by omega) hb
  refine bodyR (ρ' := [.d (.int a), .d (.int n), .d (.int q), .no, .no]) (Wk.refl _) ?_
  refine jb_if (c := !decide (pw a n q = 1 % q)) (JT.eq (jt_cm (je_ca ok Fp hr (by walk_at "dl") hp1 (by omega)) (by walk_at "dl") ck_neI) rfl) (fun hc => ?_) (fun _ => ⟨_, rfl⟩) fun hc => ?_
  · have hc : ¬ pw a n q = 1 % q := by simpa using hc
    have e : orderM a n q l = false := by simp [orderM, hc]
    rw [e]
    exact jb_stop (by walk_at "js")
  · have hc : pw a n q = 1 % q := by simpa using hc
    have e : orderM a n q l = (l.map fun x => !decide (pw a (n / x.1) q = 1 % q)).all id := by simp [orderM, hc, List.all_map]
    rw [e]
    refine jb_stop (js_ret (je_al ok c.f_all (JD.eq (je_cp [("p", 3), ("often", 4)] ok (ji_list (je_ca ok Fd hr (by walk_at "dl") (Rparted.of hl) (by omega))) [.d (.int a), .d (.int n), .d (.int q), .no, .no] (comp_m (f := prD) (g := fun x => .bl (!decide (pw a (n / x.1) q = 1 % q))) (l := l) fun x hx => ?_) ?_) ?_)))
    · obtain ⟨b1, b2⟩ := hl.pos x hx
      have hp2 := Rpow.of (a := a) (k := n / x.1) (n := q) (Int.ediv_nonneg (by omega) (by omega)) (by omega) hb
      refine ⟨[.d (.int a), .d (.int n), .d (.int q), .d (.int x.1), .d (.int x.2)], [3] ++ ([4] ++ []), by simp, blk_i ok fun s H C cl fp okb => jg_tup (ds := [.int x.1, .int x.2]) rfl (by walk_at "jgs"), blk_i ok fun s H C cl fp okb => je_cm (je_ca okb Fp hr (by walk_at "dl") hp2 (by omega)) (by walk_at "dl") ck_neI⟩
    · rw [List.length_map]
      have hh := hl.h
      unfold prt at hh
      split at hh
      · rename_i l1 n2 he
        have := prtE_len he
        dsimp only at this
        cases hh
        split
        · rw [List.length_append]
          simp only [List.length_cons, List.length_nil]
          omega
        · omega
      · cases hh
    · rw [List.map_map]
      rfl
inductive Rfirst : List D → D → Prop
  | mk (a n q : Int) (l : List (Int × Int)) (hl : PartsOf n l) (ha : 0 ≤ a) (hq : 2 ≤ q) (hb : q ≤ 2 ^ 60) : Rfirst [.int a, .int n, .int q] (.bl (firstM a n q l))
theorem fn_is_first (c : Ctx w K mg base) : Fn P w K mg base 3 "is_first" 3 Rfirst := by
  have Fc : Fn P w K mg base 1 "common" 2 Rcommon := fn_common c
  have Fo : Fn P w K mg base 2 "order_is" 3 Rorder := fn_order_is c
  refine c.df 13 ["a", "n", "q"] ["a", "n", "q"] (h := ?_)
  rintro cdv A outer s H E hr ok _ _ - ⟨a, n, q, l, hl, ha, hq, hb⟩
  have hq0 : 0 ≤ q := by omega
  refine bodyR (ρ' := [.d (.int a), .d (.int n), .d (.int q)]) (Wk.refl _) ?_
  refine jb_stop (js_ret (JD.eq (je_and (by walk_at "dl") fun _ => je_one (je_ca ok Fo hr (by walk_at "dl") (.mk a n q l hl hq hb) (by omega))) ?_))
  rfl
inductive Rlfirst : List D → D → Prop
  | mk (a n q : Int) (h0 : 1 ≤ n) (hn : n ≤ 1000) (ha : 0 ≤ a) (hq : 0 ≤ q) (hb : q ≤ 2 ^ 60) : Rlfirst [.int a, .int n, .int q] (.bl (lfirstM a n q))
theorem fn_law_is_first (c : Ctx w K mg base) : Fn P w K mg base 2 "_law_is_first" 3 Rlfirst := by
  have Fc : Fn P w K mg base 1 "_law_common" 2 Rcommon := fn_law_common c
  have Fp : Fn P w K mg base 1 "_law_power" 3 Rpow := fn_law_power c
  refine c.df 50 ["_law_a", "_law_n", "_law_q", "_law_d"] ["_law_a", "_law_n", "_law_q"] (h := ?_)
  rintro cdv A outer s H E hr ok _ _ - ⟨a, n, q, h0, hn, ha, hq, hb⟩
  refine bodyR (ρ' := [.d (.int a), .d (.int n), .d (.int q), .no]) (Wk.refl _) ?_
  have hT : ∀ hq2 : 2 ≤ q, Rpow [.int a, .int n, .int q] (.int (pw a n q)) := fun h => Rpow.of (by omega) (by omega) hb
  refine jb_if (c := decide (q < 2) || (!decide (((Int.gcd a q : Nat) : Int) = 1) || !decide (pw a n q = 1 % q))) (jt_or (by walk_at "dl") fun h2 => jw_or (by walk_at "dl") fun h3 => jw_or1 ?_) (fun hc => ?_) (fun _ => ⟨_, rfl⟩) fun hc => ?_
  · have h2 : ¬ q < 2 := of_decide_eq_false h2
    exact jt_cm (je_ca ok Fp hr (by walk_at "dl") (hT (by omega)) (by omega)) (by walk_at "dl") ck_neI
  · have e : lfirstM a n q = false := by
      unfold lfirstM
      rw [hc]
      rfl
    rw [e]
    exact jb_stop (by walk_at "js")
  · have hq2 : 2 ≤ q := by
      have := (Bool.or_eq_false_iff.mp hc).1
      have : ¬ q < 2 := of_decide_eq_false this
      omega
    have e : lfirstM a n q = ((List.range (n - 1).toNat).filter fun t => decide (n % (1 + (t : Nat)) = 0) && decide (pw a (1 + (t : Nat)) q = 1 % q)).isEmpty := by
      unfold lfirstM
      rw [hc]
      rfl
    rw [e]
    refine jb_stop (js_ret (JD.eq (je_cm (x := .lst ((List.range (n - 1).toNat).filterMap fun t => if (decide (n % (1 + (t : Nat)) = 0) && decide (pw a (1 + (t : Nat)) q = 1 % q)) = true then some (.int (1 + (t : Nat))) else none)) (y := .lst []) (je_cp [("_law_d", 3)] ok (ji_r2 ok c.f_range (by walk_at "dl") (by walk_at "dl") (by omega) (by omega) (by omega) (by omega)) [.d (.int a), .d (.int n), .d (.int q), .no] (comp_l (f := fun t : Nat => D.int (1 + (t : Nat))) (l := List.range (n - 1).toNat) fun t ht => ?_) ?_) (by walk_at "dl") (ck_eqD (Room.ofX hr) ?_ eqok_nil)) ?_))
    · have ht : t < (n - 1).toNat := List.mem_range.mp ht
      have hp2 := Rpow.of (a := a) (k := 1 + (t : Nat)) (n := q) (by omega) (by omega) hb
      refine ⟨[.d (.int a), .d (.int n), .d (.int q), .d (.int (1 + (t : Nat)))], [3], decide (n % (1 + (t : Nat)) = 0) && decide (pw a (1 + (t : Nat)) q = 1 % q), by simp, blk_i ok fun s H C cl fp okb => by walk_at "jg", blk_i ok fun s H C cl fp okb => jts_one (jt_and (by walk_at "dl") fun _ => jw_and1 (jt_cm (je_ca okb Fp hr (by walk_at "dl") hp2 (by omega)) (by walk_at "dl") ck_eqI)), ?_⟩
      cases hb' : decide (n % (1 + (t : Nat)) = 0) && decide (pw a (1 + (t : Nat)) q = 1 % q) with
      | true => exact .inl ⟨rfl, _, blk_i ok fun s H C cl fp okb => by walk_at "dl", if_pos rfl⟩
      | false => exact .inr ⟨rfl, if_neg (by decide)⟩
    · refine Nat.le_trans (List.length_filterMap_le ..) ?_
      rw [List.length_range]
      omega
    · refine EqOk.of (n := 1) ?_ (by decide)
      show List.all _ _ = true
      rw [List.all_eq_true]
      intro x hx
      obtain ⟨t, _, ht⟩ := List.mem_filterMap.mp hx
      split at ht
      · cases ht
        rfl
      · cases ht
    · rw [eqv_nil]
      congr 1
      generalize List.range (n - 1).toNat = ll
      induction ll with
      | nil => rfl
      | cons t r ih =>
        rw [List.filterMap_cons, List.filter_cons]
        by_cases hh : (decide (n % (1 + (t : Nat)) = 0) && decide (pw a (1 + (t : Nat)) q = 1 % q)) = true
        · simp only [hh, if_true]
          rfl
        · simp only [if_neg hh]
          exact ih
end
-- F8
/-! Papers looked at. -/
open PySem PySem.Spec PyProof.Rows L2 RW M
section
variable {P : Program} {w : World} {K : PySem.W.Frag} {mg : Str → Option Value} {base : Heap} {k : Nat} {R : List D → D → Prop}
theorem okT_of {t : T} (h : okT t = true) : (0 ≤ t.r ∧ t.r < 2 ^ 60) ∧ (0 ≤ t.m ∧ t.m ≤ 20) ∧ (0 ≤ t.q ∧ t.q < 2 ^ 60) ∧ (0 ≤ t.g ∧ t.g < 2 ^ 60) ∧ okTs t.ks = true := by
  cases t with
  | node r m q g ks =>
    unfold okT at h
    simp only [Bool.and_eq_true, decide_eq_true_eq] at h
    exact h
theorem okTs_mem : ∀ {ks : List T}, okTs ks = true → ∀ k ∈ ks, okT k = true
  | [], _, k, hk => by cases hk
  | x :: ks, h, k, hk => by
    unfold okTs at h
    rw [Bool.and_eq_true] at h
    rcases List.mem_cons.mp hk with rfl | hk
    · exact h.1
    · exact okTs_mem h.2 k hk
/-! roots_show -/
theorem prodQ_bd {q r : Int} (hr : 1 ≤ r) : ∀ {m : Nat} {x y : Int}, 1 ≤ x → x ≤ q → prodQ q r m x = some y → 1 ≤ y ∧ y ≤ q
  | 0, x, y, h1, h2, h => by
    cases h
    exact ⟨h1, h2⟩
  | m + 1, x, y, h1, h2, h => by
    unfold prodQ at h
    split at h
    · cases h
    · have h3 : 1 * 1 ≤ x * r := Int.mul_le_mul h1 hr (by omega) (by omega)
      exact prodQ_bd hr (by omega) (by omega) h
inductive Rroots : List D → D → Prop
  | mk (q g : Int) (ks : List T) (hok : okTs ks = true) (hr : ∀ k ∈ ks, 2 ≤ k.r) (hl : ks.length ≤ 1000) (hq : 2 < q) (hb : q < 2 ^ 60) : Rroots [.int q, .int g, .lst (rowsD ks)] (.bl (rootsM q g ks))
theorem fn_roots_show (c : Ctx w K mg base) : Fn P w K mg base 2 "roots_show" 3 Rroots := by
  have Fp : Fn P w K mg base 1 "power_by" 3 Rpow := fn_power_by c
  refine c.df 18 ["q", "g", "rows", "product", "last", "r", "often", "paper", "k"] ["q", "g", "rows"] (h := ?_)
  rintro cdv A outer s H E hr ok _ _ - ⟨q, g, ks, hok, hr2, hl, hq, hb⟩
  rw [rowsD_map]
  refine bodyR (ρ' := [.d (.int q), .d (.int g), .d (.lst (ks.map rowD)), .no, .no, .no, .no, .no, .no]) (Wk.refl _) ?_
  walk_at "s"
  walk_at "s"
  have hmem : ∀ k ∈ ks, okT k = true ∧ 2 ≤ k.r := fun k hk => ⟨okTs_mem hok k hk, hr2 k hk⟩
  cases hL : prodL q ks 1 1 with
  | none =>
    have e : rootsM q g ks = false := by
      unfold rootsM
      rw [hL]
    rw [e]
    refine jb_stop (js_forG (f := rowD) (l := ks) (fun p : Int × Int => [.d (.int q), .d (.int g), .d (.lst (ks.map rowD)), .d (.int p.1), .d (.int p.2), .no, .no, .no, .no]) (fun p l => prodL q l p.1 p.2 = none ∧ (∀ k ∈ l, okT k = true ∧ 2 ≤ k.r) ∧ 1 ≤ p.1 ∧ p.1 ≤ q) (.rt (.bl false)) (1, 1) (ji_list (by walk_at "dl")) ⟨hL, hmem, Int.le_refl 1, by dsimp only; omega⟩ (by walk_at "wk") .never rfl ?_ ?_)
    · rintro ⟨x, last⟩ ⟨h, _⟩
      cases h
    · rintro ⟨x, last⟩ k l ⟨h, hm, hx1, hxq⟩
      dsimp only at *
      obtain ⟨hk, hk2⟩ := hm k (List.mem_cons_self ..)
      have hm' : ∀ k ∈ l, okT k = true ∧ 2 ≤ k.r := fun k hk => hm k (List.mem_cons_of_mem _ hk)
      obtain ⟨⟨r0, r1⟩, ⟨m0, m1⟩, _⟩ := okT_of hk
      refine ⟨_, _, jg_tup (ds := [.int k.r, .int k.m, pap k]) rfl (by walk_at "jgs"), ?_⟩
      unfold prodL at h
      by_cases h1 : k.r ≤ last
      · exact .inl ⟨.bl false, jb_stop (js_ifT (by walk_at "te") (jb_stop (by walk_at "js"))), rfl⟩
      rw [if_neg h1] at h
      cases hp : prodQ q k.r k.m.toNat x with
      | none =>
        refine .inl ⟨.bl false, ?_, rfl⟩
        refine jb_cons (js_ifF (by walk_at "te") jb_nil) ?_
        walk_at "s"
        refine jb_stop (js_forG (f := fun t : Nat => D.int (t : Nat)) (l := List.range k.m.toNat) (fun y : Int => [.d (.int q), .d (.int g), .d (.lst (ks.map rowD)), .d (.int y), .d (.int k.r), .d (.int k.r), .d (.int k.m), .d (pap k), .no]) (fun y l => prodQ q k.r l.length y = none ∧ 1 ≤ y ∧ y ≤ q) (.rt (.bl false)) x (ji_r1 ok c.f_range (by walk_at "dl") (by omega) (by omega)) ⟨by rw [List.length_range]; exact hp, hx1, hxq⟩ (by walk_at "wk") .never rfl ?_ ?_)
        · rintro y ⟨h, _⟩
          cases h
        · rintro y t l ⟨h, hy1, hyq⟩
          refine ⟨_, _, by walk_at "jg", ?_⟩
          rw [List.length_cons] at h
          unfold prodQ at h
          by_cases h2 : q < y * k.r
          · refine .inl ⟨.bl false, ?_, rfl⟩
            walk_at "s"
            exact jb_stop (js_ifT (by walk_at "te") (jb_stop (by walk_at "js")))
          · rw [if_neg h2] at h
            have h3 : 1 * 1 ≤ y * k.r := Int.mul_le_mul hy1 (by omega) (by omega) (by omega)
            refine .inr ⟨y * k.r, ⟨h, by omega, by omega⟩, ?_⟩
            walk_at "s"
            exact JB.wk (jb_one (js_ifF (by walk_at "te") jb_nil)) (by walk_at "wk")
      | some y0 =>
        rw [hp] at h
        have hy0 : 1 ≤ y0 ∧ y0 ≤ q := prodQ_bd (by omega) hx1 hxq hp
        refine .inr ⟨(y0, k.r), ⟨h, hm', hy0.1, hy0.2⟩, ?_⟩
        refine jb_cons (js_ifF (by walk_at "te") jb_nil) ?_
        walk_at "s"
        refine jb_cons (js_forG (f := fun t : Nat => D.int (t : Nat)) (l := List.range k.m.toNat) (fun y : Int => [.d (.int q), .d (.int g), .d (.lst (ks.map rowD)), .d (.int y), .d (.int k.r), .d (.int k.r), .d (.int k.m), .d (pap k), .no]) (fun y l => prodQ q k.r l.length y = some y0 ∧ 1 ≤ y ∧ y ≤ q) (.nx [.d (.int q), .d (.int g), .d (.lst (ks.map rowD)), .d (.int y0), .d (.int k.r), .d (.int k.r), .d (.int k.m), .d (pap k), .no]) x (ji_r1 ok c.f_range (by walk_at "dl") (by omega) (by omega)) ⟨by rw [List.length_range]; exact hp, hx1, hxq⟩ (by walk_at "wk") .never rfl ?_ ?_) ?_
        · rintro y ⟨h, _⟩
          cases h
          exact ⟨_, rfl, Wk.refl _⟩
        · rintro y t l ⟨h, hy1, hyq⟩
          refine ⟨_, _, by walk_at "jg", ?_⟩
          rw [List.length_cons] at h
          unfold prodQ at h
          by_cases h2 : q < y * k.r
          · rw [if_pos h2] at h
            cases h
          · rw [if_neg h2] at h
            have h3 : 1 * 1 ≤ y * k.r := Int.mul_le_mul hy1 (by omega) (by omega) (by omega)
            refine .inr ⟨y * k.r, ⟨h, by omega, by omega⟩, ?_⟩
            walk_at "s"
            exact JB.wk (jb_one (js_ifF (by walk_at "te") jb_nil)) (by walk_at "wk")
        · walk_at "bw"
  | some z =>
    have e : rootsM q g ks = if z = q - 1 ∧ pw g (q - 1) q = 1 then ks.all fun k => !decide (pw g ((q - 1) / k.r) q = 1) else false := by
      unfold rootsM
      rw [hL]
    rw [e]
    refine jb_cons (js_forG (f := rowD) (l := ks) (fun p : Int × Int => [.d (.int q), .d (.int g), .d (.lst (ks.map rowD)), .d (.int p.1), .d (.int p.2), .no, .no, .no, .no]) (fun p l => prodL q l p.1 p.2 = some z ∧ (∀ k ∈ l, okT k = true ∧ 2 ≤ k.r) ∧ 1 ≤ p.1 ∧ p.1 ≤ q) (.nx [.d (.int q), .d (.int g), .d (.lst (ks.map rowD)), .d (.int z), .no, .no, .no, .no, .no]) (1, 1) (ji_list (by walk_at "dl")) ⟨hL, hmem, Int.le_refl 1, by dsimp only; omega⟩ (by walk_at "wk") .never rfl ?_ ?_) ?_
    · rintro ⟨x, last⟩ ⟨h, _⟩
      cases h
      exact ⟨_, rfl, by walk_at "wk"⟩
    · rintro ⟨x, last⟩ k l ⟨h, hm, hx1, hxq⟩
      dsimp only at *
      obtain ⟨hk, hk2⟩ := hm k (List.mem_cons_self ..)
      have hm' : ∀ k ∈ l, okT k = true ∧ 2 ≤ k.r := fun k hk => hm k (List.mem_cons_of_mem _ hk)
      obtain ⟨⟨r0, r1⟩, ⟨m0, m1⟩, _⟩ := okT_of hk
      refine ⟨_, _, jg_tup (ds := [.int k.r, .int k.m, pap k]) rfl (by walk_at "jgs"), ?_⟩
      unfold prodL at h
      by_cases h1 : k.r ≤ last
      · rw [if_pos h1] at h
        cases h
      rw [if_neg h1] at h
      cases hp : prodQ q k.r k.m.toNat x with
      | none =>
        rw [hp] at h
        cases h
      | some y0 =>
        rw [hp] at h
        have hy0 : 1 ≤ y0 ∧ y0 ≤ q := prodQ_bd (by omega) hx1 hxq hp
        refine .inr ⟨(y0, k.r), ⟨h, hm', hy0.1, hy0.2⟩, ?_⟩
        refine jb_cons (js_ifF (by walk_at "te") jb_nil) ?_
        walk_at "s"
        refine jb_cons (js_forG (f := fun t : Nat => D.int (t : Nat)) (l := List.range k.m.toNat) (fun y : Int => [.d (.int q), .d (.int g), .d (.lst (ks.map rowD)), .d (.int y), .d (.int k.r), .d (.int k.r), .d (.int k.m), .d (pap k), .no]) (fun y l => prodQ q k.r l.length y = some y0 ∧ 1 ≤ y ∧ y ≤ q) (.nx [.d (.int q), .d (.int g), .d (.lst (ks.map rowD)), .d (.int y0), .d (.int k.r), .d (.int k.r), .d (.int k.m), .d (pap k), .no]) x (ji_r1 ok c.f_range (by walk_at "dl") (by omega) (by omega)) ⟨by rw [List.length_range]; exact hp, hx1, hxq⟩ (by walk_at "wk") .never rfl ?_ ?_) ?_
        · rintro y ⟨h, _⟩
          cases h
          exact ⟨_, rfl, Wk.refl _⟩
        · rintro y t l ⟨h, hy1, hyq⟩
          refine ⟨_, _, by walk_at "jg", ?_⟩
          rw [List.length_cons] at h
          unfold prodQ at h
          by_cases h2 : q < y * k.r
          · rw [if_pos h2] at h
            cases h
          · rw [if_neg h2] at h
            have h3 : 1 * 1 ≤ y * k.r := Int.mul_le_mul hy1 (by omega) (by omega) (by omega)
            refine .inr ⟨y * k.r, ⟨h, by omega, by omega⟩, ?_⟩
            walk_at "s"
            exact JB.wk (jb_one (js_ifF (by walk_at "te") jb_nil)) (by walk_at "wk")
        · walk_at "bw"
    have hp1 := Rpow.of (a := g) (k := q - 1) (n := q) (by omega) (by omega) (by omega)
    refine jb_if (c := !decide (z = q - 1) || !decide (pw g (q - 1) q = 1)) (jt_or (by walk_at "dl") fun _ => jw_or1 (jt_cm (je_ca ok Fp hr (by walk_at "dl") hp1 (by omega)) (by walk_at "dl") ck_neI)) (fun hc => ?_) (fun _ => ⟨_, rfl⟩) fun hc => ?_
    · have hn : ¬ (z = q - 1 ∧ pw g (q - 1) q = 1) := by
        rintro ⟨h1, h2⟩
        rw [decide_eq_true h1, decide_eq_true h2] at hc
        cases hc
      rw [if_neg hn]
      exact jb_stop (by walk_at "js")
    · have hn : z = q - 1 ∧ pw g (q - 1) q = 1 := by simpa using hc
      rw [if_pos hn]
      have e2 : (ks.all fun k => !decide (pw g ((q - 1) / k.r) q = 1)) = (ks.map fun k => !decide (pw g ((q - 1) / k.r) q = 1)).all id := by simp [List.all_map]
      rw [e2]
      refine jb_stop (js_ret (je_al ok c.f_all (JD.eq (je_cp [("r", 5), ("often", 6), ("paper", 7)] ok (ji_list (by walk_at "dl")) [.d (.int q), .d (.int g), .d (.lst (ks.map rowD)), .d (.int z), .no, .no, .no, .no, .no] (comp_m (f := rowD) (g := fun k => .bl (!decide (pw g ((q - 1) / k.r) q = 1))) (l := ks) fun k hk => ?_) ?_) ?_)))
      · obtain ⟨hk1, hk2⟩ := hmem k hk
        obtain ⟨⟨r0, r1⟩, _⟩ := okT_of hk1
        have hp2 := Rpow.of (a := g) (k := (q - 1) / k.r) (n := q) (Int.ediv_nonneg (by omega) (by omega)) (by omega) (by omega)
        exact ⟨[.d (.int q), .d (.int g), .d (.lst (ks.map rowD)), .d (.int z), .no, .d (.int k.r), .d (.int k.m), .d (pap k), .no], [5] ++ ([6] ++ ([7] ++ [])), by simp, blk_i ok fun s H C cl fp okb => jg_tup (ds := [.int k.r, .int k.m, pap k]) rfl (by walk_at "jgs"), blk_i ok fun s H C cl fp okb => je_cm (je_ca okb Fp hr (by walk_at "dl") hp2 (by omega)) (by walk_at "dl") ck_neI⟩
      · rw [List.length_map]
        omega
      · rw [List.map_map]
        rfl
end
-- F9
/-! Papers looked at, by depth. -/
open PySem PySem.Spec PyProof.Rows L2 RW M
section
variable {P : Program} {w : World} {K : PySem.W.Frag} {mg : Str → Option Value} {base : Heap} {k : Nat} {R : List D → D → Prop}
mutual
/-- no paper has very many rows -/
def fewT : T → Bool
  | .node _ _ _ _ ks => decide (ks.length ≤ 1000) && fewTs ks
def fewTs : List T → Bool
  | [] => true
  | k :: ks => fewT k && fewTs ks
end
theorem fewTs_mem : ∀ {ks : List T}, fewTs ks = true → ∀ k ∈ ks, fewT k = true
  | [], _, k, hk => by cases hk
  | x :: ks, h, k, hk => by
    unfold fewTs at h
    rw [Bool.and_eq_true] at h
    rcases List.mem_cons.mp hk with rfl | hk
    · exact h.1
    · exact fewTs_mem h.2 k hk
theorem deps_mem : ∀ {ks : List T} {n : Nat}, deps ks ≤ n → ∀ k ∈ ks, dep k ≤ n
  | [], _, _, k, hk => by cases hk
  | x :: ks, n, h, k, hk => by
    unfold deps at h
    rcases List.mem_cons.mp hk with rfl | hk
    · omega
    · exact deps_mem (n := n) (by omega) k hk
theorem dep_pos (t : T) : 1 ≤ dep t := by
  cases t
  unfold dep
  omega
theorem okE_pap : ∀ (n : Nat) (t : T), dep t ≤ n → okE (3 * n) (pap t) = true
  | 0, t, h => by
    have := dep_pos t
    omega
  | n + 1, .node r m q g ks, h => by
    unfold dep at h
    show okE (3 * n + 1 + 1 + 1) (.tup [.int q, .int g, .lst (rowsD ks)]) = true
    have key : (rowsD ks).all (okE (3 * n + 1)) = true := by
      rw [rowsD_map, List.all_map, List.all_eq_true]
      intro k hk
      have ih := okE_pap n k (deps_mem (n := n) (by omega) k hk)
      show okE (3 * n + 1) (.tup [.int k.r, .int k.m, pap k]) = true
      show ([D.int k.r, .int k.m, pap k]).all (okE (3 * n)) = true
      have h1 : ∀ i, okE (3 * n) (.int i) = true := fun i => by cases (3 * n) <;> rfl
      simp [h1, ih]
    have h1 : ∀ i, okE (3 * n + 1 + 1) (.int i) = true := fun i => rfl
    show ([D.int q, .int g, .lst (rowsD ks)]).all (okE (3 * n + 1 + 1)) = true
    have h2 : okE (3 * n + 1 + 1) (.lst (rowsD ks)) = true := key
    simp [h1, h2]
inductive Rshow (k : Nat) : List D → D → Prop
  | mk (q : Int) (t : T) (hd : dep t ≤ k) (hok : okT t = true) (hf : fewT t = true) (h0 : 0 ≤ q) (hb : q < 2 ^ 60) : Rshow k [.int q, pap t] (.bl (shows q t))
inductive Rprow (k : Nat) : List D → D → Prop
  | mk (t : T) (hd : dep t ≤ k) (hok : okT t = true) (hf : fewT t = true) : Rprow k [rowD t] (.bl (decide (1 ≤ t.m) && shows t.r t))
theorem fn_is_prime_row (c : Ctx w K mg base) {L : Nat} (hL : 1 ≤ L) (Fs : Fn P w K mg base L "shows_prime" 2 (Rshow k)) : Fn P w K mg base (L + 1) "is_prime_row" 1 (Rprow k) := by
  have Fw : Fn P w K mg base 1 "is_whole" 1 Rwhole := fn_is_whole c
  refine c.df 16 (k := L) ["thing"] ["thing"] (h := ?_)
  rintro cdv A outer s H E hr ok _ _ - ⟨t, hd, hok, hf⟩
  obtain ⟨⟨r0, r1⟩, ⟨m0, m1⟩, _⟩ := okT_of hok
  refine bodyR (ρ' := [.d (.tup [.int t.r, .int t.m, pap t])]) (Wk.refl _) ?_
  refine jb_if (c := false) (by walk_at "te") nofun nofun fun _ => ?_
  refine jb_stop (js_ret (JD.eq (je_and (by walk_at "dl") fun _ => je_one (je_ca ok Fs hr (by walk_at "dl") (.mk t.r t hd hok hf r0 r1) (by omega))) ?_))
  rfl
theorem showsL_all : ∀ ks : List T, showsL ks = (ks.map fun k => decide (1 ≤ k.m) && shows k.r k).all id
  | [] => rfl
  | k :: ks => by
    unfold showsL
    rw [showsL_all ks]
    rfl
theorem shows_two {q : Int} {t : T} (h : shows q t = true) : 2 ≤ q := by
  cases t with
  | node r m q' g ks =>
    unfold shows at h
    split at h
    · cases h
    · omega
theorem fn_shows_prime (c : Ctx w K mg base) : ∀ k : Nat, k ≤ 15 → Fn P w K mg base (2 * k + 3) "shows_prime" 2 (Rshow k)
  | 0, _ => by
    refine c.df 17 (k := 2) ["q", "paper", "g", "row"] ["q", "paper"] (h := ?_)
    rintro cdv A outer s H E hr ok _ _ - ⟨q, t, hd, _⟩
    have := dep_pos t
    omega
  | k + 1, hk15 => by
    have Fw : Fn P w K mg base 1 "is_whole" 1 Rwhole := fn_is_whole c
    have Fr : Fn P w K mg base (2 * k + 3 + 1) "is_prime_row" 1 (Rprow k) := fn_is_prime_row c (by omega) (fn_shows_prime c k (by omega))
    have Fo : Fn P w K mg base 2 "roots_show" 3 Rroots := fn_roots_show c
    refine c.df 17 (k := 2 * k + 4) ["q", "paper", "g", "row"] ["q", "paper"] (h := ?_)
    rintro cdv A outer s H E hr ok _ _ - ⟨q, ⟨r, m, q', g, ks⟩, hd, hok, hf, h0, hb⟩
    obtain ⟨_, _, ⟨q0, q1⟩, ⟨g0, g1⟩, hoks⟩ := okT_of hok
    dsimp only [T.q, T.g, T.ks] at q0 q1 g0 g1 hoks
    unfold dep at hd
    unfold fewT at hf
    simp only [Bool.and_eq_true, decide_eq_true_eq] at hf
    refine bodyR (ρ' := [.d (.int q), .d (.tup [.int q', .int g, .lst (rowsD ks)]), .no, .no]) (Wk.refl _) ?_
    refine jb_if (c := false) (by walk_at "te") nofun nofun fun _ => ?_
    refine jb_if (c := !decide (q' = q) || decide (q < 2)) ?_ (fun hc => ?_) (fun _ => ⟨_, rfl⟩) fun hc => ?_
    · walk_at "te"
      simp
    · have e : shows q (.node r m q' g ks) = false := by
        unfold shows
        rw [if_pos]
        simpa using hc
      rw [e]
      exact jb_stop (by walk_at "js")
    have hc' : ¬ (q' ≠ q ∨ q < 2) := by
      rw [Bool.or_eq_false_iff] at hc
      obtain ⟨a, b⟩ := hc
      have a' : q' = q := by simpa using a
      have b' : ¬ q < 2 := of_decide_eq_false b
      omega
    refine jb_if (c := decide (q = 2)) (by walk_at "te") (fun hc => ?_) (fun _ => ⟨_, rfl⟩) fun hc => ?_
    · have hq : q = 2 := of_decide_eq_true hc
      have hqq : q' = 2 := by omega
      subst hqq
      have e : shows q (.node r m 2 g ks) = (decide (g = 1) && ks.isEmpty) := by
        unfold shows
        rw [if_neg hc', if_pos hq]
      rw [e]
      refine jb_stop (js_ret (JD.eq (je_cm (by walk_at "dl") (by walk_at "dl") (ck_eqD (Room.ofX hr) ?_ ?_)) ?_))
      · exact EqOk.of (okE_pap (k + 1) (.node r m 2 g ks) (by unfold dep; omega)) (by omega)
      · exact EqOk.of (n := 2) rfl (by decide)
      · cases ks with
        | nil =>
          simp [toPy, toPys, rowsD, PyData.eqv, PyData.eqvAll]
          by_cases hg1 : g = 1 <;> simp [hg1]
        | cons x ks => simp [toPy, toPys, rowsD, PyData.eqv, PyData.eqvAll]
    · have hq : ¬ q = 2 := of_decide_eq_false hc
      walk_at "s"
      have hall : ∀ x ∈ ks, dep x ≤ k ∧ okT x = true ∧ fewT x = true := fun x hx => ⟨deps_mem (n := k) (by omega) x hx, okTs_mem hoks x hx, fewTs_mem hf.2 x hx⟩
      refine jb_if (c := decide (g < 1) || (decide (q ≤ g) || !showsL ks)) (jt_or (by walk_at "dl") fun _ => jw_or (by walk_at "dl") fun _ => jw_or1 (jt_not (jt_val ?_))) (fun hc => ?_) (fun _ => ⟨_, rfl⟩) fun hc => ?_
      · rw [showsL_all]
        refine je_al ok c.f_all (JD.eq (je_cp [("row", 3)] ok (ji_list (xs := ks.map rowD) (by rw [← rowsD_map]; walk_at "dl")) [.d (.int q), .d (.tup [.int q', .int g, .lst (rowsD ks)]), .d (.int g), .no] (comp_m (f := rowD) (g := fun k => .bl (decide (1 ≤ k.m) && shows k.r k)) (l := ks) fun x hx => ?_) ?_) ?_)
        · obtain ⟨a1, a2, a3⟩ := hall x hx
          exact ⟨[.d (.int q), .d (.tup [.int q', .int g, .lst (rowsD ks)]), .d (.int g), .d (rowD x)], [3], by simp, blk_i ok fun s H C cl fp okb => by walk_at "jg", blk_i ok fun s H C cl fp okb => je_ca okb Fr hr (by walk_at "dl") (.mk x a1 a2 a3) (by omega)⟩
        · rw [List.length_map]
          omega
        · rw [List.map_map]
          rfl
      · have e : shows q (.node r m q' g ks) = false := by
          unfold shows
          rw [if_neg hc', if_neg hq, if_pos]
          simpa using hc
        rw [e]
        exact jb_stop (by walk_at "js")
      · have hn : ¬ (g < 1 ∨ q ≤ g ∨ showsL ks = false) := by simpa using hc
        have e : shows q (.node r m q' g ks) = rootsM q g ks := by
          unfold shows
          rw [if_neg hc', if_neg hq, if_neg hn]
        rw [e]
        have hs : showsL ks = true := by
          cases h : showsL ks with
          | true => rfl
          | false => exact absurd (.inr (.inr h)) hn
        have hr2 : ∀ x ∈ ks, 2 ≤ x.r := by
          intro x hx
          rw [showsL_all, List.all_eq_true] at hs
          have := hs _ (List.mem_map_of_mem hx)
          simp only [id, Bool.and_eq_true] at this
          exact shows_two this.2
        exact jb_stop (js_ret (je_ca ok Fo hr (by walk_at "dl") (.mk q g ks hoks hr2 hf.1 (by omega) hb) (by omega)))
end
-- F10
/-! The law's look at a paper. -/
open PySem PySem.Spec PyProof.Rows L2 RW M
section
variable {P : Program} {w : World} {K : PySem.W.Frag} {mg : Str → Option Value} {base : Heap} {k : Nat} {R : List D → D → Prop}
def plEnd (q g : Int) : List T → Int → Int → Option Int
  | [], _, left => some left
  | k :: ks, last, left => if k.r ≤ last ∨ k.m < 1 ∨ 20 < k.m ∨ proves k.r k = false then none else (match divQ k.r k.m.toNat left with
      | none => none
      | some y => if pw g ((q - 1) / k.r) q = 1 % q then none else plEnd q g ks k.r y)
theorem provesL_end (q g : Int) : ∀ (ks : List T) (last left : Int), provesL q g ks last left = match plEnd q g ks last left with
    | none => false
    | some y => decide (y = 1) && decide (pw g (q - 1) q = 1 % q)
  | [], last, left => rfl
  | k :: ks, last, left => by
    unfold provesL plEnd
    split
    · rfl
    · cases divQ k.r k.m.toNat left with
      | none => rfl
      | some y =>
        dsimp only
        split
        · rfl
        · exact provesL_end q g ks k.r y
inductive Rprov (k : Nat) : List D → D → Prop
  | mk (q : Int) (t : T) (hd : dep t ≤ k) (hok : okT t = true) (hf : fewT t = true) (h0 : 0 ≤ q) (hb : q < 2 ^ 60) : Rprov k [.int q, pap t] (.bl (proves q t))
theorem divQ_nn {r : Int} (hr : 2 ≤ r) : ∀ {m : Nat} {x y : Int}, 0 ≤ x → divQ r m x = some y → 0 ≤ y
  | 0, x, y, h, e => by
    cases e
    exact h
  | m + 1, x, y, h, e => by
    unfold divQ at e
    split at e
    · exact divQ_nn hr (Int.ediv_nonneg h (by omega)) e
    · cases e
theorem fn_law_proves (c : Ctx w K mg base) : ∀ k : Nat, Fn P w K mg base (k + 2) "_law_proves" 2 (Rprov k)
  | 0 => by
    refine c.df 43 (k := 1) ["_law_q", "_law_paper", "_law_last", "_law_left", "_law_r", "_law_many", "_law_inner", "_law_turn"] ["_law_q", "_law_paper"] (h := ?_)
    rintro cdv A outer s H E hr ok _ _ - ⟨q, t, hd, _⟩
    have := dep_pos t
    omega
  | k + 1 => by
    have Fp : Fn P w K mg base 1 "_law_power" 3 Rpow := fn_law_power c
    have Fs : Fn P w K mg base (k + 2) "_law_proves" 2 (Rprov k) := fn_law_proves c k
    refine c.df 43 (k := k + 2) ["_law_q", "_law_paper", "_law_last", "_law_left", "_law_r", "_law_many", "_law_inner", "_law_turn"] ["_law_q", "_law_paper"] (h := ?_)
    rintro cdv A outer s H E hr ok _ _ - ⟨q, ⟨r, m, q', g, ks⟩, hd, hok, hf, h0, hb⟩
    obtain ⟨_, _, ⟨q0, q1⟩, ⟨g0, g1⟩, hoks⟩ := okT_of hok
    dsimp only [T.q, T.g, T.ks] at q0 q1 g0 g1 hoks
    unfold dep at hd
    unfold fewT at hf
    simp only [Bool.and_eq_true, decide_eq_true_eq] at hf
    have hsl : ¬ (HT.sIx [D.int q', .int g, .lst (rowsD ks)].length 0 none = 0 ∧ HT.sIx [D.int q', .int g, .lst (rowsD ks)].length [D.int q', .int g, .lst (rowsD ks)].length (some 2) = [D.int q', .int g, .lst (rowsD ks)].length) := by
      show ¬ (0 = 0 ∧ 2 = 3)
      omega
    have hall : ∀ x ∈ ks, dep x ≤ k ∧ okT x = true ∧ fewT x = true := fun x hx => ⟨deps_mem (n := k) (by omega) x hx, okTs_mem hoks x hx, fewTs_mem hf.2 x hx⟩
    refine bodyR (ρ' := [.d (.int q), .d (.tup [.int q', .int g, .lst (rowsD ks)]), .no, .no, .no, .no, .no, .no]) (Wk.refl _) ?_
    refine jb_if (c := !decide (q' = q) || (decide (q < 2) || (decide (g < 1) || decide (q ≤ g)))) ?_ (fun hc => ?_) (fun _ => ⟨_, rfl⟩) fun hc => ?_
    · walk_at "te"
    · have e : proves q (.node r m q' g ks) = false := by
        unfold proves
        rw [if_pos]
        simpa using hc
      rw [e]
      exact jb_stop (by walk_at "js")
    have hc' : ¬ (q' ≠ q ∨ q < 2 ∨ g < 1 ∨ q ≤ g) := by simpa using hc
    have e : proves q (.node r m q' g ks) = provesL q g ks 1 (q - 1) := by
      unfold proves
      rw [if_neg hc']
    rw [e, provesL_end]
    clear e
    walk_at "s"
    walk_at "s"
    cases hL : plEnd q g ks 1 (q - 1) with
    | none =>
      refine jb_stop (js_forG (f := rowD) (l := ks) (fun p : Int × Int => [.d (.int q), .d (.tup [.int q', .int g, .lst (rowsD ks)]), .d (.int p.1), .d (.int p.2), .no, .no, .no, .no]) (fun p l => plEnd q g l p.1 p.2 = none ∧ (∀ x ∈ l, dep x ≤ k ∧ okT x = true ∧ fewT x = true) ∧ 1 ≤ p.1 ∧ 0 ≤ p.2) (.rt (.bl false)) (1, q - 1) (ji_list (xs := ks.map rowD) (by rw [← rowsD_map]; walk_at "dl")) ⟨hL, hall, Int.le_refl 1, by dsimp only; omega⟩ (by walk_at "wk") .never rfl ?_ ?_)
      · rintro ⟨last, left⟩ ⟨h, _⟩
        cases h
      · rintro ⟨last, left⟩ k l ⟨h, hm, hl1, hx1⟩
        dsimp only at *
        obtain ⟨kd, kok, kf⟩ := hm k (List.mem_cons_self ..)
        have hm' : ∀ x ∈ l, dep x ≤ _ ∧ okT x = true ∧ fewT x = true := fun x hx => hm x (List.mem_cons_of_mem _ hx)
        obtain ⟨⟨r0, r1⟩, ⟨m0, m1⟩, _⟩ := okT_of kok
        have hR := Rprov.mk k.r k kd kok kf r0 r1
        refine ⟨_, _, jg_tup (ds := [.int k.r, .int k.m, pap k]) rfl (by walk_at "jgs"), ?_⟩
        unfold plEnd at h
        by_cases h1 : k.r ≤ last ∨ k.m < 1 ∨ 20 < k.m ∨ proves k.r k = false
        · have hc1 : (decide (k.r ≤ last) || (decide (k.m < 1) || (decide (20 < k.m) || !proves k.r k))) = true := by simpa using h1
          exact .inl ⟨.bl false, jb_stop (js_ifT (JT.eq (jt_or (by walk_at "dl") fun _ => jw_or (by walk_at "dl") fun _ => jw_or (by walk_at "dl") fun _ => jw_or (by walk_at "dl") fun _ => jw_or (by walk_at "dl") fun _ => jw_or1 (jt_not (jt_val (je_ca ok Fs hr (by walk_at "dl") hR (by omega))))) hc1) (jb_stop (by walk_at "js"))), rfl⟩
        rw [if_neg h1] at h
        have hc1 : (decide (k.r ≤ last) || (decide (k.m < 1) || (decide (20 < k.m) || !proves k.r k))) = false := by simpa using h1
        have hr2 : 2 ≤ k.r := by omega
        have hp2 := Rpow.of (a := g) (k := (q - 1) / k.r) (n := q) (Int.ediv_nonneg (by omega) (by omega)) (by omega) (by omega)
        cases hp : divQ k.r k.m.toNat left with
        | none =>
          refine .inl ⟨.bl false, ?_, rfl⟩
          refine jb_cons (js_ifF (JT.eq (jt_or (by walk_at "dl") fun _ => jw_or (by walk_at "dl") fun _ => jw_or (by walk_at "dl") fun _ => jw_or (by walk_at "dl") fun _ => jw_or (by walk_at "dl") fun _ => jw_or1 (jt_not (jt_val (je_ca ok Fs hr (by walk_at "dl") hR (by omega))))) hc1) jb_nil) ?_
          walk_at "s"
          refine jb_stop (js_forG (f := fun t : Nat => D.int (t : Nat)) (l := List.range k.m.toNat) (fun y : Int => [.d (.int q), .d (.tup [.int q', .int g, .lst (rowsD ks)]), .d (.int k.r), .d (.int y), .d (.int k.r), .d (.int k.m), .d (pap k), .no]) (fun y l => divQ k.r l.length y = none ∧ 0 ≤ y) (.rt (.bl false)) left (ji_r1 ok c.f_range (by walk_at "dl") (by omega) (by omega)) ⟨by rw [List.length_range]; exact hp, hx1⟩ (by walk_at "wk") .never rfl ?_ ?_)
          · rintro y ⟨h, _⟩
            cases h
          · rintro y t l ⟨h, hy1⟩
            refine ⟨_, _, by walk_at "jg", ?_⟩
            rw [List.length_cons] at h
            unfold divQ at h
            by_cases h2 : y % k.r = 0
            · rw [if_pos h2] at h
              refine .inr ⟨y / k.r, ⟨h, Int.ediv_nonneg hy1 (by omega)⟩, ?_⟩
              refine jb_cons (js_ifF (by walk_at "te") jb_nil) ?_
              walk_at "bw"
            · exact .inl ⟨.bl false, jb_stop (js_ifT (by walk_at "te") (jb_stop (by walk_at "js"))), rfl⟩
        | some y0 =>
          rw [hp] at h
          have hy0 : 0 ≤ y0 := divQ_nn hr2 hx1 hp
          dsimp only at h
          by_cases h4 : pw g ((q - 1) / k.r) q = 1 % q
          · refine .inl ⟨.bl false, ?_, rfl⟩
            refine jb_cons (js_ifF (JT.eq (jt_or (by walk_at "dl") fun _ => jw_or (by walk_at "dl") fun _ => jw_or (by walk_at "dl") fun _ => jw_or (by walk_at "dl") fun _ => jw_or (by walk_at "dl") fun _ => jw_or1 (jt_not (jt_val (je_ca ok Fs hr (by walk_at "dl") hR (by omega))))) hc1) jb_nil) ?_
            walk_at "s"
            refine jb_cons (js_forG (f := fun t : Nat => D.int (t : Nat)) (l := List.range k.m.toNat) (fun y : Int => [.d (.int q), .d (.tup [.int q', .int g, .lst (rowsD ks)]), .d (.int k.r), .d (.int y), .d (.int k.r), .d (.int k.m), .d (pap k), .no]) (fun y l => divQ k.r l.length y = some y0 ∧ 0 ≤ y) (.nx [.d (.int q), .d (.tup [.int q', .int g, .lst (rowsD ks)]), .d (.int k.r), .d (.int y0), .d (.int k.r), .d (.int k.m), .d (pap k), .no]) left (ji_r1 ok c.f_range (by walk_at "dl") (by omega) (by omega)) ⟨by rw [List.length_range]; exact hp, hx1⟩ (by walk_at "wk") .never rfl ?_ ?_) ?_
            · rintro y ⟨h, _⟩
              cases h
              exact ⟨_, rfl, Wk.refl _⟩
            · rintro y t l ⟨h, hy1⟩
              refine ⟨_, _, by walk_at "jg", ?_⟩
              rw [List.length_cons] at h
              unfold divQ at h
              by_cases h2 : y % k.r = 0
              · rw [if_pos h2] at h
                refine .inr ⟨y / k.r, ⟨h, Int.ediv_nonneg hy1 (by omega)⟩, ?_⟩
                refine jb_cons (js_ifF (by walk_at "te") jb_nil) ?_
                walk_at "bw"
              · rw [if_neg h2] at h
                cases h
            · exact jb_stop (js_ifT (JT.eq (jt_cm (je_ca ok Fp hr (by walk_at "dl") hp2 (by omega)) (by walk_at "dl") ck_eqI) (by rw [decide_eq_true h4])) (jb_stop (by walk_at "js")))
          · rw [if_neg h4] at h
            refine .inr ⟨(k.r, y0), ⟨h, hm', by dsimp only; omega, hy0⟩, ?_⟩
            refine jb_cons (js_ifF (JT.eq (jt_or (by walk_at "dl") fun _ => jw_or (by walk_at "dl") fun _ => jw_or (by walk_at "dl") fun _ => jw_or (by walk_at "dl") fun _ => jw_or (by walk_at "dl") fun _ => jw_or1 (jt_not (jt_val (je_ca ok Fs hr (by walk_at "dl") hR (by omega))))) hc1) jb_nil) ?_
            walk_at "s"
            refine jb_cons (js_forG (f := fun t : Nat => D.int (t : Nat)) (l := List.range k.m.toNat) (fun y : Int => [.d (.int q), .d (.tup [.int q', .int g, .lst (rowsD ks)]), .d (.int k.r), .d (.int y), .d (.int k.r), .d (.int k.m), .d (pap k), .no]) (fun y l => divQ k.r l.length y = some y0 ∧ 0 ≤ y) (.nx [.d (.int q), .d (.tup [.int q', .int g, .lst (rowsD ks)]), .d (.int k.r), .d (.int y0), .d (.int k.r), .d (.int k.m), .d (pap k), .no]) left (ji_r1 ok c.f_range (by walk_at "dl") (by omega) (by omega)) ⟨by rw [List.length_range]; exact hp, hx1⟩ (by walk_at "wk") .never rfl ?_ ?_) ?_
            · rintro y ⟨h, _⟩
              cases h
              exact ⟨_, rfl, Wk.refl _⟩
            · rintro y t l ⟨h, hy1⟩
              refine ⟨_, _, by walk_at "jg", ?_⟩
              rw [List.length_cons] at h
              unfold divQ at h
              by_cases h2 : y % k.r = 0
              · rw [if_pos h2] at h
                refine .inr ⟨y / k.r, ⟨h, Int.ediv_nonneg hy1 (by omega)⟩, ?_⟩
                refine jb_cons (js_ifF (by walk_at "te") jb_nil) ?_
                walk_at "bw"
              · rw [if_neg h2] at h
                cases h
            · exact JB.wk (jb_one (js_ifF (JT.eq (jt_cm (je_ca ok Fp hr (by walk_at "dl") hp2 (by omega)) (by walk_at "dl") ck_eqI) (by rw [decide_eq_false h4])) jb_nil)) (by walk_at "wk")
    | some z =>
      refine jb_cons (js_forG (f := rowD) (l := ks) (fun p : Int × Int => [.d (.int q), .d (.tup [.int q', .int g, .lst (rowsD ks)]), .d (.int p.1), .d (.int p.2), .no, .no, .no, .no]) (fun p l => plEnd q g l p.1 p.2 = some z ∧ (∀ x ∈ l, dep x ≤ k ∧ okT x = true ∧ fewT x = true) ∧ 1 ≤ p.1 ∧ 0 ≤ p.2) (.nx [.d (.int q), .d (.tup [.int q', .int g, .lst (rowsD ks)]), .no, .d (.int z), .no, .no, .no, .no]) (1, q - 1) (ji_list (xs := ks.map rowD) (by rw [← rowsD_map]; walk_at "dl")) ⟨hL, hall, Int.le_refl 1, by dsimp only; omega⟩ (by walk_at "wk") .never rfl ?_ ?_) ?_
      · rintro ⟨last, left⟩ ⟨h, _⟩
        cases h
        exact ⟨_, rfl, by walk_at "wk"⟩
      · rintro ⟨last, left⟩ k l ⟨h, hm, hl1, hx1⟩
        dsimp only at *
        obtain ⟨kd, kok, kf⟩ := hm k (List.mem_cons_self ..)
        have hm' : ∀ x ∈ l, dep x ≤ _ ∧ okT x = true ∧ fewT x = true := fun x hx => hm x (List.mem_cons_of_mem _ hx)
        obtain ⟨⟨r0, r1⟩, ⟨m0, m1⟩, _⟩ := okT_of kok
        have hR := Rprov.mk k.r k kd kok kf r0 r1
        refine ⟨_, _, jg_tup (ds := [.int k.r, .int k.m, pap k]) rfl (by walk_at "jgs"), ?_⟩
        unfold plEnd at h
        by_cases h1 : k.r ≤ last ∨ k.m < 1 ∨ 20 < k.m ∨ proves k.r k = false
        · rw [if_pos h1] at h
          cases h
        rw [if_neg h1] at h
        have hc1 : (decide (k.r ≤ last) || (decide (k.m < 1) || (decide (20 < k.m) || !proves k.r k))) = false := by simpa using h1
        have hr2 : 2 ≤ k.r := by omega
        have hp2 := Rpow.of (a := g) (k := (q - 1) / k.r) (n := q) (Int.ediv_nonneg (by omega) (by omega)) (by omega) (by omega)
        cases hp : divQ k.r k.m.toNat left with
        | none =>
          rw [hp] at h
          cases h
        | some y0 =>
          rw [hp] at h
          have hy0 : 0 ≤ y0 := divQ_nn hr2 hx1 hp
          dsimp only at h
          by_cases h4 : pw g ((q - 1) / k.r) q = 1 % q
          · rw [if_pos h4] at h
            cases h
          · rw [if_neg h4] at h
            refine .inr ⟨(k.r, y0), ⟨h, hm', by dsimp only; omega, hy0⟩, ?_⟩
            refine jb_cons (js_ifF (JT.eq (jt_or (by walk_at "dl") fun _ => jw_or (by walk_at "dl") fun _ => jw_or (by walk_at "dl") fun _ => jw_or (by walk_at "dl") fun _ => jw_or (by walk_at "dl") fun _ => jw_or1 (jt_not (jt_val (je_ca ok Fs hr (by walk_at "dl") hR (by omega))))) hc1) jb_nil) ?_
            walk_at "s"
            refine jb_cons (js_forG (f := fun t : Nat => D.int (t : Nat)) (l := List.range k.m.toNat) (fun y : Int => [.d (.int q), .d (.tup [.int q', .int g, .lst (rowsD ks)]), .d (.int k.r), .d (.int y), .d (.int k.r), .d (.int k.m), .d (pap k), .no]) (fun y l => divQ k.r l.length y = some y0 ∧ 0 ≤ y) (.nx [.d (.int q), .d (.tup [.int q', .int g, .lst (rowsD ks)]), .d (.int k.r), .d (.int y0), .d (.int k.r), .d (.int k.m), .d (pap k), .no]) left (ji_r1 ok c.f_range (by walk_at "dl") (by omega) (by omega)) ⟨by rw [List.length_range]; exact hp, hx1⟩ (by walk_at "wk") .never rfl ?_ ?_) ?_
            · rintro y ⟨h, _⟩
              cases h
              exact ⟨_, rfl, Wk.refl _⟩
            · rintro y t l ⟨h, hy1⟩
              refine ⟨_, _, by walk_at "jg", ?_⟩
              rw [List.length_cons] at h
              unfold divQ at h
              by_cases h2 : y % k.r = 0
              · rw [if_pos h2] at h
                refine .inr ⟨y / k.r, ⟨h, Int.ediv_nonneg hy1 (by omega)⟩, ?_⟩
                refine jb_cons (js_ifF (by walk_at "te") jb_nil) ?_
                walk_at "bw"
              · rw [if_neg h2] at h
                cases h
            · exact JB.wk (jb_one (js_ifF (JT.eq (jt_cm (je_ca ok Fp hr (by walk_at "dl") hp2 (by omega)) (by walk_at "dl") ck_eqI) (by rw [decide_eq_false h4])) jb_nil)) (by walk_at "wk")
      · have hp1 := Rpow.of (a := g) (k := q - 1) (n := q) (by omega) (by omega) (by omega)
        refine jb_stop (js_ret (JD.eq (je_and (by walk_at "dl") fun _ => je_one (je_cm (je_ca ok Fp hr (by walk_at "dl") hp1 (by omega)) (by walk_at "dl") ck_eqI)) ?_))
        rfl
end
-- F11
/-! Firsts, with papers. -/
open PySem PySem.Spec PyProof.Rows L2 RW M
section
variable {P : Program} {w : World} {K : PySem.W.Frag} {mg : Str → Option Value} {base : Heap} {k : Nat} {R : List D → D → Prop}
/-! is_left -/
theorem lastP_at {l : List (Int × Int)} (h : l ≠ []) : ∃ x : Int × Int, atI (l.map prD) (-1) = some (prD x) ∧ x.1 = lastP l := by
  have hl : 0 < l.length := List.length_pos_iff.mpr h
  have h3 : ixN (l.map prD).length (-1) = some (l.length - 1) := by
    unfold ixN
    rw [List.length_map, if_neg (by decide), if_pos (by omega)]
    congr 1
    omega
  refine ⟨l[l.length - 1], ?_, ?_⟩
  · unfold atI
    rw [h3]
    show (l.map prD)[l.length - 1]? = _
    rw [List.getElem?_map, List.getElem?_eq_getElem (by omega)]
    rfl
  · unfold lastP
    rw [List.getElem?_eq_getElem (by omega)]
    rfl
theorem partsT_ne {n : Int} (h0 : 2 < n) (h1 : n ≤ 12) : partsT n ≠ [] := by
  have h : n = 3 ∨ n = 4 ∨ n = 5 ∨ n = 6 ∨ n = 7 ∨ n = 8 ∨ n = 9 ∨ n = 10 ∨ n = 11 ∨ n = 12 := by omega
  rcases h with rfl | rfl | rfl | rfl | rfl | rfl | rfl | rfl | rfl | rfl <;> decide +kernel
inductive Rleft : List D → D → Prop
  | mk (n left : Int) (b : Bool) (h0 : 1 ≤ n) (h1 : n ≤ 12) (hl0 : 0 ≤ left) (h : isLeftM n left (partsT n) = some b) : Rleft [.int n, .int left] (.bl b)
theorem fn_is_left (c : Ctx w K mg base) : Fn P w K mg base 2 "is_left" 2 Rleft := by
  have Fd : Fn P w K mg base 1 "parted" 1 Rparted := fn_parted c
  refine c.df 21 ["n", "left"] ["n", "left"] (h := ?_)
  rintro cdv A outer s H E hr ok _ _ - ⟨n, left, b, h0, h1, hl0, h⟩
  refine bodyR (ρ' := [.d (.int n), .d (.int left)]) (Wk.refl _) ?_
  unfold isLeftM at h
  by_cases hn : n = 2
  · rw [if_pos hn] at h
    split at h
    case h_2 => cases h
    rename_i r m hs
    cases h
    refine jb_stop (js_ifT (by walk_at "te") (jb_cons (js_whileG (fun q : Int × Int => [.d (.int n), .d (.int q.1)]) (fun f q => 0 ≤ q.1 ∧ stripP f 2 q.1 q.2 = some (r, m)) (.nx [.no, .d (.int r)]) 200 (left, 0) ⟨hl0, hs⟩ (by walk_at "wk") .never ?_) ?_))
    · rintro f ⟨x, j⟩ ⟨hx, he⟩
      dsimp only at *
      obtain ⟨f', rfl, h | h⟩ := strip_some he
      · refine ⟨true, by have := h.1; walk_at "te", nofun, fun _ => .inr ⟨f', (x / 2, j + 1), Nat.lt_succ_self _, ⟨Int.ediv_nonneg hx (by omega), h.2⟩, ?_⟩⟩
        walk_at "bw"
      · refine ⟨false, by have := h.1; walk_at "te", fun _ => ⟨_, rfl, ?_⟩, nofun⟩
        cases h.2
        walk_at "wk"
    · walk_at "rt"
      rfl
  · rw [if_neg hn] at h
    cases h
    refine jb_cons (js_ifF (by walk_at "te") jb_nil) ?_
    refine jb_stop (js_ret (JD.eq (je_or (by walk_at "dl") fun _ => je_one (je_and (c2 := decide (left = lastP (partsT n))) (by walk_at "dl") fun h2 => ?_)) ?_))
    · have h2 : 2 < n := of_decide_eq_true h2
      obtain ⟨x, hx1, hx2⟩ := lastP_at (partsT_ne h2 h1)
      refine JD.eq (je_one (je_cm (by walk_at "dl") (je_ix (x := prD x) (y := .int 0) (d := .int x.1) (je_ix (je_ca ok Fd hr (by walk_at "dl") (Rparted.of (partsOf n h0 h1)) (by omega)) (by walk_at "dl") (ik_L hx1)) (by walk_at "dl") (ik_T rfl)) ck_eqI)) ?_
      rw [hx2]
    · rfl
/-! why_none, first_primes -/
inductive Rwhy : List D → D → Prop
  | mk (a n : Int) : Rwhy [.int a, .int n] (.str (whyM n))
theorem fn_why_none (c : Ctx w K mg base) : Fn P w K mg base 1 "why_none" 2 Rwhy := by
  refine c.df 11 ["a", "n"] ["a", "n"] (h := ?_)
  rintro cdv A outer s H E hr ok _ _ - ⟨a, n⟩
  refine bodyR (ρ' := [.d (.int a), .d (.int n)]) (Wk.refl _) ?_
  unfold whyM
  refine jb_if (c := decide (n = 1)) (by walk_at "te") (fun hc => ?_) (fun _ => ⟨_, rfl⟩) fun hc => ?_
  · rw [if_pos (of_decide_eq_true hc)]
    exact jb_stop (by walk_at "js")
  rw [if_neg (of_decide_eq_false hc)]
  refine jb_if (c := decide (n = 2)) (by walk_at "te") (fun hc => ?_) (fun _ => ⟨_, rfl⟩) fun hc => ?_
  · rw [if_pos (of_decide_eq_true hc)]
    exact jb_stop (by walk_at "js")
  rw [if_neg (of_decide_eq_false hc)]
  exact jb_stop (by walk_at "js")
def toldD (n : Int) (rows : List (Int × Int)) : D := if rows.isEmpty then .tup [.str "none", .str (whyM n)] else .tup [.str "primes", .lst (rows.map prD)]
inductive Rfp : List D → D → Prop
  | mk (a n : Int) (f : List Int) (pl : List (Int × Int)) (F : Nat) (ha : 0 ≤ a ∧ a < 2 ^ 60) (h0 : 1 ≤ n) (h1 : n ≤ 12) (hf : rootPoly n = some f) (hfl : f.length ≤ 1000) (hv : 0 ≤ value f a ∧ value f a < 2 ^ 60) (hF : F ≤ 100000) (hp : prt F 2 (value f a) = some pl) (hpl : ∀ x ∈ pl, 2 ≤ x.1 ∧ x.1 ≤ 2 ^ 60) : Rfp [.int a, .int n] (toldD n (firstsM a n pl (partsT n)))
theorem prt_len {F : Nat} {p n : Int} {pl : List (Int × Int)} (h : prt F p n = some pl) : pl.length ≤ F := by
  unfold prt at h
  split at h
  · rename_i l1 n2 he
    have := prtE_len he
    dsimp only at this
    cases h
    split
    · rw [List.length_append]
      simp only [List.length_cons, List.length_nil]
      omega
    · omega
  · cases h
theorem filterMap_filter {α β : Type} (p : α → Bool) (f : α → β) : ∀ l : List α, (l.filterMap fun x => if p x = true then some (f x) else none) = (l.filter p).map f
  | [] => rfl
  | x :: l => by
    rw [List.filterMap_cons, List.filter_cons, filterMap_filter p f l]
    by_cases h : p x = true
    · rw [if_pos h, if_pos h]
      rfl
    · rw [if_neg h, if_neg h]
theorem fn_first_primes (c : Ctx w K mg base) : Fn P w K mg base 5 "first_primes" 2 Rfp := by
  have Fd : Fn P w K mg base 1 "parted" 1 Rparted := fn_parted c
  have Fv : Fn P w K mg base 1 "value" 2 Rvalue := fn_value c
  have Fr : Fn P w K mg base 4 "root_poly" 1 Rroot := fn_root_poly c
  have Ff : Fn P w K mg base 3 "is_first" 3 Rfirst := fn_is_first c
  have Fw : Fn P w K mg base 1 "why_none" 2 Rwhy := fn_why_none c
  refine c.df 12 ["a", "n", "rows", "q", "often"] ["a", "n"] (h := ?_)
  rintro cdv A outer s H E hr ok _ _ - ⟨a, n, f, pl, F, ha, h0, h1, hf, hfl, hv, hF, hp, hpl⟩
  have hn : n ≤ 1000 := by omega
  refine bodyR (ρ' := [.d (.int a), .d (.int n), .no, .no, .no]) (Wk.refl _) ?_
  have hR1 : Rroot [.int n] (.lst (intsD f)) := .mk n f h0 hn hf
  have hR2 : Rvalue [.lst (intsD f), .int a] (.int (value f a)) := .mk f a (by omega) ha
  have hR3 : Rparted [.int (value f a)] (.lst (pl.map prD)) := .mk _ pl F hv.1 hv.2 hF hp
  refine jb_cons (ρ1 := [.d (.int a), .d (.int n), .d (.lst ((firstsM a n pl (partsT n)).map prD)), .no, .no]) (js_lcV [("q", 3), ("often", 4)] ok (ji_list (je_ca ok Fd hr (ja_cons (je_ca ok Fv hr (ja_cons (je_ca ok Fr hr (by walk_at "dl") hR1 (by omega)) (ja_cons (by walk_at "dl") ja_nil)) hR2 (by omega)) ja_nil) hR3 (by omega))) [.d (.int a), .d (.int n), .no, .no, .no] (out := (firstsM a n pl (partsT n)).map prD) ?_ ?_ (by walk_at "pt")) ?_
  · unfold firstsM
    rw [← filterMap_filter]
    refine comp_l (f := prD) (l := pl) fun x hx => ?_
    obtain ⟨b1, b2⟩ := hpl x hx
    have hR := Rfirst.mk a n x.1 (partsT n) (partsOf n h0 h1) ha.1 b1 b2
    refine ⟨[.d (.int a), .d (.int n), .no, .d (.int x.1), .d (.int x.2)], [3] ++ ([4] ++ []), firstM a n x.1 (partsT n), by simp, blk_i ok fun s H C cl fp okb => jg_tup (ds := [.int x.1, .int x.2]) rfl (by walk_at "jgs"), blk_i ok fun s H C cl fp okb => jts_one (jt_val (je_ca okb Ff hr (by walk_at "dl") hR (by omega))), ?_⟩
    cases hc : firstM a n x.1 (partsT n) with
    | true => exact .inl ⟨rfl, prD x, blk_i ok fun s H C cl fp okb => by walk_at "de", rfl⟩
    | false => exact .inr ⟨rfl, rfl⟩
  · rw [List.length_map]
    unfold firstsM
    have := prt_len hp
    have := List.length_filter_le (fun x => firstM a n x.1 (partsT n)) pl
    omega
  generalize firstsM a n pl (partsT n) = rows
  refine jb_if (c := rows.isEmpty) (JT.eq (jt_cm (by walk_at "dl") (by walk_at "dl") (ck_eqD (Room.ofX hr) (eqok_prs _) eqok_nil)) ?_) (fun hc => ?_) (fun _ => ⟨_, rfl⟩) fun hc => ?_
  · rw [eqv_nil, List.isEmpty_map]
  · unfold toldD
    rw [if_pos hc]
    exact jb_stop (by walk_at "js")
  · unfold toldD
    rw [if_neg (by rw [hc]; decide)]
    exact jb_stop (by walk_at "js")
end
-- F12
/-! All firsts, with papers: the program's look. -/
open PySem PySem.Spec PyProof.Rows L2 RW M
section
variable {P : Program} {w : World} {K : PySem.W.Frag} {mg : Str → Option Value} {base : Heap} {k : Nat} {R : List D → D → Prop}
inductive Rfrow : List D → D → Prop
  | mk (x : Int × Int) : Rfrow [prD x] (.bl (decide (2 ≤ x.1) && decide (1 ≤ x.2)))
theorem fn_is_first_row (c : Ctx w K mg base) : Fn P w K mg base 2 "is_first_row" 1 Rfrow := by
  have Fw : Fn P w K mg base 1 "is_whole" 1 Rwhole := fn_is_whole c
  refine c.df 19 ["thing", "number"] ["thing"] (h := ?_)
  rintro cdv A outer s H E hr ok _ _ - ⟨x⟩
  refine bodyR (ρ' := [.d (.tup [.int x.1, .int x.2]), .no]) (Wk.refl _) ?_
  refine jb_if (c := false) (JT.eq (jt_or (by walk_at "dl") fun _ => jw_or (by walk_at "dl") fun _ => jw_or1 (jt_not (jt_val (je_al (bs := [true, true]) ok c.f_all (JD.eq (je_cp [("number", 1)] ok (ji_tup (xs := [x.1, x.2].map D.int) (by walk_at "dl")) [.d (.tup [.int x.1, .int x.2]), .no] (comp_m (f := D.int) (g := fun _ => .bl true) (l := [x.1, x.2]) fun i hi => ⟨[.d (.tup [.int x.1, .int x.2]), .d (.int i)], [1], by simp, blk_i ok fun s H C cl fp okb => by walk_at "jg", blk_i ok fun s H C cl fp okb => je_ca okb Fw hr (by walk_at "dl") (.mk i) (by omega)⟩) (show 2 ≤ 100000 by decide)) rfl))))) rfl) nofun nofun fun _ => ?_
  refine jb_stop (js_ret (JD.eq (je_and (by walk_at "dl") fun _ => je_one (by walk_at "dl")) ?_))
  rfl
theorem asc_all : ∀ rows : List (Int × Int), asc rows = ((rows.zip (rows.drop 1)).map fun z => decide (z.1.1 < z.2.1)).all id
  | [] => rfl
  | [x] => rfl
  | x :: y :: r => by
    unfold asc
    rw [asc_all (y :: r)]
    rfl
theorem zipD_map {α β : Type} (f : α → D) (g : β → D) (l : List α) (m : List β) : zipD (l.map f) (m.map g) = (l.zip m).map fun z => .tup [f z.1, g z.2] := by
  unfold zipD
  rw [List.zip_map, List.map_map]
  rfl
theorem rowsOk_all (rows : List (Int × Int)) : rowsOk rows = (rows.map fun x => decide (2 ≤ x.1) && decide (1 ≤ x.2)).all id := by
  unfold rowsOk
  rw [List.all_map]
  rfl
theorem sfL_nn {a n : Int} {l : List (Int × Int)} : ∀ (zs : List ((Int × Int) × T)) {x y : Int}, (∀ z ∈ zs, 2 ≤ z.1.1) → 0 ≤ x → sfL a n l zs x = some y → 0 ≤ y
  | [], x, y, _, h, e => by
    cases e
    exact h
  | z :: zs, x, y, hz, h, e => by
    unfold sfL at e
    split at e
    · cases e
    · split at e
      · cases e
      · rename_i w hw
        exact sfL_nn zs (fun z' hz' => hz z' (List.mem_cons_of_mem _ hz')) (divQ_nn (hz z (List.mem_cons_self ..)) h hw) e
inductive Rsf (k : Nat) : List D → D → Prop
  | mk (a n : Int) (f : List Int) (rows : List (Int × Int)) (ts : List T) (b : Bool) (ha : 0 ≤ a ∧ a < 2 ^ 60) (h0 : 1 ≤ n) (h1 : n ≤ 12) (hf : rootPoly n = some f) (hfl : f.length ≤ 1000) (hv : 0 ≤ value f a) (hrl : rows.length ≤ 1000) (htl : ts.length ≤ 1000) (hrq : ∀ x ∈ rows, 0 ≤ x.1 ∧ x.1 < 2 ^ 60 ∧ x.2 ≤ 100) (hts : ∀ t ∈ ts, dep t ≤ k ∧ okT t = true ∧ fewT t = true) (h : showsF a n (value f a) (partsT n) rows ts = some b) : Rsf k [.int a, .int n, .lst (rows.map prD), .lst (ts.map pap)] (.bl b)
theorem fn_shows_firsts (c : Ctx w K mg base) (k : Nat) (hk : k ≤ 15) : Fn P w K mg base 40 "shows_firsts" 4 (Rsf k) := by
  have Fr : Fn P w K mg base 4 "root_poly" 1 Rroot := fn_root_poly c
  have Fv : Fn P w K mg base 1 "value" 2 Rvalue := fn_value c
  have Fw : Fn P w K mg base 2 "is_first_row" 1 Rfrow := fn_is_first_row c
  have Fs : Fn P w K mg base (2 * k + 3) "shows_prime" 2 (Rshow k) := fn_shows_prime c k hk
  have Ff : Fn P w K mg base 3 "is_first" 3 Rfirst := fn_is_first c
  have Fl : Fn P w K mg base 2 "is_left" 2 Rleft := fn_is_left c
  refine c.df 20 (k := 39) ["a", "n", "rows", "papers", "left", "q", "often", "paper", "k", "row", "one", "other"] ["a", "n", "rows", "papers"] (h := ?_)
  rintro cdv A outer s H E hr ok _ _ - ⟨a, n, f, rows, ts, b, ha, h0, h1, hf, hfl, hv, hrl, htl, hrq, hts, h⟩
  refine bodyR (ρ' := [.d (.int a), .d (.int n), .d (.lst (rows.map prD)), .d (.lst (ts.map pap)), .no, .no, .no, .no, .no, .no, .no, .no]) (Wk.refl _) ?_
  have hn : n ≤ 1000 := by omega
  unfold showsF at h
  refine jb_if (c := !decide (rows.length = ts.length)) ?_ (fun hc => ?_) (fun _ => ⟨_, rfl⟩) fun hc => ?_
  · walk_at "te"
    simp only [List.length_map, Bool.not_true, Bool.false_or, bne, Int.natCast_inj]
  · have hc : rows.length ≠ ts.length := by simpa using hc
    rw [if_pos (.inl hc)] at h
    cases h
    exact jb_stop (by walk_at "js")
  have hlen : rows.length = ts.length := by simpa using hc
  refine jb_if (c := !rowsOk rows) (jt_not (jt_val ?_)) (fun hc => ?_) (fun _ => ⟨_, rfl⟩) fun hc => ?_
  · rw [rowsOk_all]
    refine je_al ok c.f_all (JD.eq (je_cp [("row", 9)] ok (ji_list (by walk_at "dl")) [.d (.int a), .d (.int n), .d (.lst (rows.map prD)), .d (.lst (ts.map pap)), .no, .no, .no, .no, .no, .no, .no, .no] (comp_m (f := prD) (g := fun x => .bl (decide (2 ≤ x.1) && decide (1 ≤ x.2))) (l := rows) fun x hx => ⟨[.d (.int a), .d (.int n), .d (.lst (rows.map prD)), .d (.lst (ts.map pap)), .no, .no, .no, .no, .no, .d (prD x), .no, .no], [9], by simp, blk_i ok fun s H C cl fp okb => by walk_at "jg", blk_i ok fun s H C cl fp okb => je_ca okb Fw hr (by walk_at "dl") (.mk x) (by omega)⟩) ?_) ?_)
    · rw [List.length_map]
      omega
    · rw [List.map_map]
      rfl
  · have hc : rowsOk rows = false := by simpa using hc
    rw [if_pos (.inr (.inl hc))] at h
    cases h
    exact jb_stop (by walk_at "js")
  have hok : rowsOk rows = true := by simpa using hc
  refine jb_if (c := !asc rows) (jt_not (jt_val ?_)) (fun hc => ?_) (fun _ => ⟨_, rfl⟩) fun hc => ?_
  · rw [asc_all]
    refine je_al ok c.f_all (JD.eq (je_cp [("one", 10), ("other", 11)] ok (JI.conv (ds' := (rows.zip (rows.drop 1)).map fun z => D.tup [prD z.1, prD z.2]) (ji_zi ok c.f_zip (by walk_at "dl") (by walk_at "dl")) ?_) [.d (.int a), .d (.int n), .d (.lst (rows.map prD)), .d (.lst (ts.map pap)), .no, .no, .no, .no, .no, .no, .no, .no] (comp_m (f := fun z : (Int × Int) × (Int × Int) => D.tup [prD z.1, prD z.2]) (g := fun z => .bl (decide (z.1.1 < z.2.1))) (l := rows.zip (rows.drop 1)) fun z hz => ⟨[.d (.int a), .d (.int n), .d (.lst (rows.map prD)), .d (.lst (ts.map pap)), .no, .no, .no, .no, .no, .no, .d (.tup [.int z.1.1, .int z.1.2]), .d (.tup [.int z.2.1, .int z.2.2])], [10] ++ ([11] ++ []), by simp, blk_i ok fun s H C cl fp okb => jg_tup (ds := [.tup [.int z.1.1, .int z.1.2], .tup [.int z.2.1, .int z.2.2]]) rfl (by walk_at "jgs"), blk_i ok fun s H C cl fp okb => by walk_at "dl"⟩) ?_) ?_)
    · rw [← zipD_map]
      congr 1
      cases rows with
      | nil => rfl
      | cons x r => exact (cutD_drop _ 1 (by simp) (i := 1) rfl).trans (List.map_drop ..).symm
    · rw [List.length_map, List.length_zip]
      omega
    · rw [List.map_map]
      rfl
  · have hc : asc rows = false := by simpa using hc
    rw [if_pos (.inr (.inr hc))] at h
    cases h
    exact jb_stop (by walk_at "js")
  have hasc : asc rows = true := by simpa using hc
  rw [if_neg (by rintro (z | z | z); exact z hlen; rw [hok] at z; cases z; rw [hasc] at z; cases z)] at h
  have hR1 : Rroot [.int n] (.lst (intsD f)) := .mk n f h0 hn hf
  have hR2 : Rvalue [.lst (intsD f), .int a] (.int (value f a)) := .mk f a (by omega) ha
  refine jb_cons (js_st ok (je_ca ok Fv hr (ja_cons (je_ca ok Fr hr (by walk_at "dl") hR1 (by omega)) (ja_cons (by walk_at "dl") ja_nil)) hR2 (by omega)) (by walk_at "pt")) ?_
  have hz : ∀ z ∈ rows.zip ts, (2 ≤ z.1.1 ∧ z.1.1 < 2 ^ 60 ∧ 0 ≤ z.1.2 ∧ z.1.2 ≤ 100) ∧ dep z.2 ≤ k ∧ okT z.2 = true ∧ fewT z.2 = true := by
    intro z hz
    obtain ⟨hz1, hz2⟩ := List.of_mem_zip (a := z.1) (b := z.2) hz
    have q1 := hrq _ hz1
    unfold rowsOk at hok
    have q2 := List.all_eq_true.mp hok _ hz1
    simp only [Bool.and_eq_true, decide_eq_true_eq] at q2
    exact ⟨⟨q2.1, q1.2.1, by omega, q1.2.2⟩, hts _ hz2⟩
  cases hL : sfL a n (partsT n) (rows.zip ts) (value f a) with
  | none =>
    rw [hL] at h
    cases h
    refine jb_stop (js_forG (f := fun z : (Int × Int) × T => D.tup [prD z.1, pap z.2]) (l := rows.zip ts) (fun p : Int => [.d (.int a), .d (.int n), .d (.lst (rows.map prD)), .d (.lst (ts.map pap)), .d (.int p), .no, .no, .no, .no, .no, .no, .no]) (fun p l => sfL a n (partsT n) l p = none ∧ (∀ z ∈ l, (2 ≤ z.1.1 ∧ z.1.1 < 2 ^ 60 ∧ 0 ≤ z.1.2 ∧ z.1.2 ≤ 100) ∧ dep z.2 ≤ k ∧ okT z.2 = true ∧ fewT z.2 = true) ∧ 0 ≤ p) (.rt (.bl false)) (value f a) (JI.conv (ji_zi ok c.f_zip (by walk_at "dl") (by walk_at "dl")) (zipD_map prD pap rows ts)) ⟨hL, hz, hv⟩ (by walk_at "wk") .never rfl ?_ ?_)
    · rintro left ⟨h, _⟩
      cases h
    · rintro left z l ⟨h, hm, hx1⟩
      obtain ⟨⟨z1, z2, z3, z4⟩, kd, kok, kf⟩ := hm z (List.mem_cons_self ..)
      have hm' : ∀ z ∈ l, (2 ≤ z.1.1 ∧ z.1.1 < 2 ^ 60 ∧ 0 ≤ z.1.2 ∧ z.1.2 ≤ 100) ∧ dep z.2 ≤ k ∧ okT z.2 = true ∧ fewT z.2 = true := fun x hx => hm x (List.mem_cons_of_mem _ hx)
      have hRs := Rshow.mk z.1.1 z.2 kd kok kf (by omega) z2
      have hRf := Rfirst.mk a n z.1.1 (partsT n) (partsOf n h0 h1) ha.1 z1 (by omega)
      refine ⟨_, _, jg_tup (ds := [.tup [.int z.1.1, .int z.1.2], pap z.2]) rfl (by walk_at "jgs"), ?_⟩
      unfold sfL at h
      by_cases h1 : shows z.1.1 z.2 = false ∨ firstM a n z.1.1 (partsT n) = false
      · have hc1 : (!shows z.1.1 z.2 || !firstM a n z.1.1 (partsT n)) = true := by simpa using h1
        exact .inl ⟨.bl false, jb_stop (js_ifT (JT.eq (jt_or (jt_not (jt_val (je_ca ok Fs hr (by walk_at "dl") hRs (by omega)))) fun _ => jw_or1 (jt_not (jt_val (je_ca ok Ff hr (by walk_at "dl") hRf (by omega))))) hc1) (jb_stop (by walk_at "js"))), rfl⟩
      rw [if_neg h1] at h
      have hc1 : (!shows z.1.1 z.2 || !firstM a n z.1.1 (partsT n)) = false := by simpa using h1
      cases hp : divQ z.1.1 z.1.2.toNat left with
      | none =>
        refine .inl ⟨.bl false, ?_, rfl⟩
        refine jb_cons (js_ifF (JT.eq (jt_or (jt_not (jt_val (je_ca ok Fs hr (by walk_at "dl") hRs (by omega)))) fun _ => jw_or1 (jt_not (jt_val (je_ca ok Ff hr (by walk_at "dl") hRf (by omega))))) hc1) jb_nil) ?_
        refine jb_stop (js_forG (f := fun t : Nat => D.int (t : Nat)) (l := List.range z.1.2.toNat) (fun y : Int => [.d (.int a), .d (.int n), .d (.lst (rows.map prD)), .d (.lst (ts.map pap)), .d (.int y), .d (.int z.1.1), .d (.int z.1.2), .d (pap z.2), .no, .no, .no, .no]) (fun y l => divQ z.1.1 l.length y = none ∧ 0 ≤ y) (.rt (.bl false)) left (ji_r1 ok c.f_range (by walk_at "dl") (by omega) (by omega)) ⟨by rw [List.length_range]; exact hp, hx1⟩ (by walk_at "wk") .never rfl ?_ ?_)
        · rintro y ⟨h, _⟩
          cases h
        · rintro y t l ⟨h, hy1⟩
          refine ⟨_, _, by walk_at "jg", ?_⟩
          rw [List.length_cons] at h
          unfold divQ at h
          by_cases h2 : y % z.1.1 = 0
          · rw [if_pos h2] at h
            refine .inr ⟨y / z.1.1, ⟨h, Int.ediv_nonneg hy1 (by omega)⟩, ?_⟩
            refine jb_cons (js_ifF (by walk_at "te") jb_nil) ?_
            walk_at "bw"
          · exact .inl ⟨.bl false, jb_stop (js_ifT (by walk_at "te") (jb_stop (by walk_at "js"))), rfl⟩
      | some y0 =>
        rw [hp] at h
        have hy0 : 0 ≤ y0 := divQ_nn z1 hx1 hp
        dsimp only at h
        refine .inr ⟨y0, ⟨h, hm', hy0⟩, ?_⟩
        refine jb_cons (js_ifF (JT.eq (jt_or (jt_not (jt_val (je_ca ok Fs hr (by walk_at "dl") hRs (by omega)))) fun _ => jw_or1 (jt_not (jt_val (je_ca ok Ff hr (by walk_at "dl") hRf (by omega))))) hc1) jb_nil) ?_
        refine JB.wk (jb_one (js_forG (f := fun t : Nat => D.int (t : Nat)) (l := List.range z.1.2.toNat) (fun y : Int => [.d (.int a), .d (.int n), .d (.lst (rows.map prD)), .d (.lst (ts.map pap)), .d (.int y), .d (.int z.1.1), .d (.int z.1.2), .d (pap z.2), .no, .no, .no, .no]) (fun y l => divQ z.1.1 l.length y = some y0 ∧ 0 ≤ y) (.nx [.d (.int a), .d (.int n), .d (.lst (rows.map prD)), .d (.lst (ts.map pap)), .d (.int y0), .d (.int z.1.1), .d (.int z.1.2), .d (pap z.2), .no, .no, .no, .no]) left (ji_r1 ok c.f_range (by walk_at "dl") (by omega) (by omega)) ⟨by rw [List.length_range]; exact hp, hx1⟩ (by walk_at "wk") .never rfl ?_ ?_)) (by walk_at "wk")
        · rintro y ⟨h, _⟩
          cases h
          exact ⟨_, rfl, Wk.refl _⟩
        · rintro y t l ⟨h, hy1⟩
          refine ⟨_, _, by walk_at "jg", ?_⟩
          rw [List.length_cons] at h
          unfold divQ at h
          by_cases h2 : y % z.1.1 = 0
          · rw [if_pos h2] at h
            refine .inr ⟨y / z.1.1, ⟨h, Int.ediv_nonneg hy1 (by omega)⟩, ?_⟩
            refine jb_cons (js_ifF (by walk_at "te") jb_nil) ?_
            walk_at "bw"
          · rw [if_neg h2] at h
            cases h
  | some zz =>
    rw [hL] at h
    dsimp only at h
    refine jb_cons (js_forG (f := fun z : (Int × Int) × T => D.tup [prD z.1, pap z.2]) (l := rows.zip ts) (fun p : Int => [.d (.int a), .d (.int n), .d (.lst (rows.map prD)), .d (.lst (ts.map pap)), .d (.int p), .no, .no, .no, .no, .no, .no, .no]) (fun p l => sfL a n (partsT n) l p = some zz ∧ (∀ z ∈ l, (2 ≤ z.1.1 ∧ z.1.1 < 2 ^ 60 ∧ 0 ≤ z.1.2 ∧ z.1.2 ≤ 100) ∧ dep z.2 ≤ k ∧ okT z.2 = true ∧ fewT z.2 = true) ∧ 0 ≤ p) (.nx [.d (.int a), .d (.int n), .d (.lst (rows.map prD)), .d (.lst (ts.map pap)), .d (.int zz), .no, .no, .no, .no, .no, .no, .no]) (value f a) (JI.conv (ji_zi ok c.f_zip (by walk_at "dl") (by walk_at "dl")) (zipD_map prD pap rows ts)) ⟨hL, hz, hv⟩ (by walk_at "wk") .never rfl ?_ ?_) ?_
    · rintro left ⟨h, _⟩
      cases h
      exact ⟨_, rfl, by walk_at "wk"⟩
    · rintro left z l ⟨h, hm, hx1⟩
      obtain ⟨⟨z1, z2, z3, z4⟩, kd, kok, kf⟩ := hm z (List.mem_cons_self ..)
      have hm' : ∀ z ∈ l, (2 ≤ z.1.1 ∧ z.1.1 < 2 ^ 60 ∧ 0 ≤ z.1.2 ∧ z.1.2 ≤ 100) ∧ dep z.2 ≤ k ∧ okT z.2 = true ∧ fewT z.2 = true := fun x hx => hm x (List.mem_cons_of_mem _ hx)
      have hRs := Rshow.mk z.1.1 z.2 kd kok kf (by omega) z2
      have hRf := Rfirst.mk a n z.1.1 (partsT n) (partsOf n h0 h1) ha.1 z1 (by omega)
      refine ⟨_, _, jg_tup (ds := [.tup [.int z.1.1, .int z.1.2], pap z.2]) rfl (by walk_at "jgs"), ?_⟩
      unfold sfL at h
      by_cases h1 : shows z.1.1 z.2 = false ∨ firstM a n z.1.1 (partsT n) = false
      · rw [if_pos h1] at h
        cases h
      rw [if_neg h1] at h
      have hc1 : (!shows z.1.1 z.2 || !firstM a n z.1.1 (partsT n)) = false := by simpa using h1
      cases hp : divQ z.1.1 z.1.2.toNat left with
      | none =>
        rw [hp] at h
        cases h
      | some y0 =>
        rw [hp] at h
        have hy0 : 0 ≤ y0 := divQ_nn z1 hx1 hp
        dsimp only at h
        refine .inr ⟨y0, ⟨h, hm', hy0⟩, ?_⟩
        refine jb_cons (js_ifF (JT.eq (jt_or (jt_not (jt_val (je_ca ok Fs hr (by walk_at "dl") hRs (by omega)))) fun _ => jw_or1 (jt_not (jt_val (je_ca ok Ff hr (by walk_at "dl") hRf (by omega))))) hc1) jb_nil) ?_
        refine JB.wk (jb_one (js_forG (f := fun t : Nat => D.int (t : Nat)) (l := List.range z.1.2.toNat) (fun y : Int => [.d (.int a), .d (.int n), .d (.lst (rows.map prD)), .d (.lst (ts.map pap)), .d (.int y), .d (.int z.1.1), .d (.int z.1.2), .d (pap z.2), .no, .no, .no, .no]) (fun y l => divQ z.1.1 l.length y = some y0 ∧ 0 ≤ y) (.nx [.d (.int a), .d (.int n), .d (.lst (rows.map prD)), .d (.lst (ts.map pap)), .d (.int y0), .d (.int z.1.1), .d (.int z.1.2), .d (pap z.2), .no, .no, .no, .no]) left (ji_r1 ok c.f_range (by walk_at "dl") (by omega) (by omega)) ⟨by rw [List.length_range]; exact hp, hx1⟩ (by walk_at "wk") .never rfl ?_ ?_)) (by walk_at "wk")
        · rintro y ⟨h, _⟩
          cases h
          exact ⟨_, rfl, Wk.refl _⟩
        · rintro y t l ⟨h, hy1⟩
          refine ⟨_, _, by walk_at "jg", ?_⟩
          rw [List.length_cons] at h
          unfold divQ at h
          by_cases h2 : y % z.1.1 = 0
          · rw [if_pos h2] at h
            refine .inr ⟨y / z.1.1, ⟨h, Int.ediv_nonneg hy1 (by omega)⟩, ?_⟩
            refine jb_cons (js_ifF (by walk_at "te") jb_nil) ?_
            walk_at "bw"
          · rw [if_neg h2] at h
            cases h
    · have hzz : 0 ≤ zz := sfL_nn (rows.zip ts) (fun z hz' => (hz z hz').1.1) hv hL
      exact jb_stop (js_ret (je_ca ok Fl hr (by walk_at "dl") (.mk n zz b h0 h1 hzz h) (by omega)))
end
-- F13
/-! All firsts, with papers: the law's look. -/
open PySem PySem.Spec PyProof.Rows L2 RW M
section
variable {P : Program} {w : World} {K : PySem.W.Frag} {mg : Str → Option Value} {base : Heap} {k : Nat} {R : List D → D → Prop}
theorem aaL_nn {a n : Int} : ∀ (zs : List ((Int × Int) × T)) {last x y : Int}, 1 ≤ last → 0 ≤ x → aaL a n zs last x = some y → 0 ≤ y
  | [], last, x, y, _, h, e => by
    cases e
    exact h
  | z :: zs, last, x, y, hl, h, e => by
    unfold aaL at e
    split at e
    · cases e
    · rename_i hc
      have hc1 : ¬ z.1.1 ≤ last := fun q => hc (.inl q)
      split at e
      · cases e
      · rename_i w hw
        exact aaL_nn zs (by omega) (divQ_nn (by omega) h hw) e
inductive Rla (k : Nat) : List D → D → Prop
  | mk (a n : Int) (f : List Int) (rows : List (Int × Int)) (ts : List T) (b : Bool) (ha : 0 ≤ a ∧ a < 2 ^ 60) (h0 : 1 ≤ n) (h1 : n ≤ 12) (hf : lroot 8 n = some f) (hfl : f.length ≤ 1000) (hv : 0 ≤ value f a) (hrq : ∀ x ∈ rows, 0 ≤ x.1 ∧ x.1 < 2 ^ 60 ∧ x.2 ≤ 100) (hts : ∀ t ∈ ts, dep t ≤ k ∧ okT t = true ∧ fewT t = true) (h : areAll a n (value f a) (partsT n) rows ts = some b) : Rla k [.int a, .int n, .lst (rows.map prD), .lst (ts.map pap)] (.bl b)
theorem fn_law_are_all (c : Ctx w K mg base) (k : Nat) (hk : k ≤ 15) : Fn P w K mg base 40 "_law_are_all" 4 (Rla k) := by
  have Fw : Fn P w K mg base 11 "_law_worth" 2 Rworth := fn_law_worth c
  have Fs : Fn P w K mg base (k + 2) "_law_proves" 2 (Rprov k) := fn_law_proves c k
  have Ff : Fn P w K mg base 2 "_law_is_first" 3 Rlfirst := fn_law_is_first c
  have Fd : Fn P w K mg base 1 "_law_parted" 1 Rparted := fn_law_parted c
  refine c.df 51 (k := 39) ["_law_a", "_law_n", "_law_rows", "_law_papers", "_law_left", "_law_last", "_law_q", "_law_many", "_law_paper", "_law_turn"] ["_law_a", "_law_n", "_law_rows", "_law_papers"] (h := ?_)
  rintro cdv A outer s H E hr ok _ _ - ⟨a, n, f, rows, ts, b, ha, h0, h1, hf, hfl, hv, hrq, hts, h⟩
  refine bodyR (ρ' := [.d (.int a), .d (.int n), .d (.lst (rows.map prD)), .d (.lst (ts.map pap)), .no, .no, .no, .no, .no, .no]) (Wk.refl _) ?_
  have hn : n ≤ 1000 := by omega
  unfold areAll at h
  refine jb_if (c := !decide (rows.length = ts.length)) ?_ (fun hc => ?_) (fun _ => ⟨_, rfl⟩) fun hc => ?_
  · walk_at "te"
    simp only [List.length_map, Bool.not_true, Bool.false_or, bne, Int.natCast_inj]
  · have hc : rows.length ≠ ts.length := by simpa using hc
    rw [if_pos hc] at h
    cases h
    exact jb_stop (by walk_at "js")
  have hlen : rows.length = ts.length := by simpa using hc
  rw [if_neg (show ¬ rows.length ≠ ts.length from fun z => z hlen)] at h
  have hR1 := Rworth.mk a n f 8 (by decide) hf hfl ha
  refine jb_cons (js_st ok (je_ca ok Fw hr (by walk_at "dl") hR1 (by omega)) (by walk_at "pt")) ?_
  walk_at "s"
  have hz : ∀ z ∈ rows.zip ts, (0 ≤ z.1.1 ∧ z.1.1 < 2 ^ 60 ∧ z.1.2 ≤ 100) ∧ dep z.2 ≤ k ∧ okT z.2 = true ∧ fewT z.2 = true := by
    intro z hz
    obtain ⟨hz1, hz2⟩ := List.of_mem_zip (a := z.1) (b := z.2) hz
    exact ⟨hrq _ hz1, hts _ hz2⟩
  cases hL : aaL a n (rows.zip ts) 1 (value f a) with
  | none =>
    rw [hL] at h
    cases h
    refine jb_stop (js_forG (f := fun z : (Int × Int) × T => D.tup [prD z.1, pap z.2]) (l := rows.zip ts) (fun p : Int × Int => [.d (.int a), .d (.int n), .d (.lst (rows.map prD)), .d (.lst (ts.map pap)), .d (.int p.2), .d (.int p.1), .no, .no, .no, .no]) (fun p l => aaL a n l p.1 p.2 = none ∧ (∀ z ∈ l, (0 ≤ z.1.1 ∧ z.1.1 < 2 ^ 60 ∧ z.1.2 ≤ 100) ∧ dep z.2 ≤ k ∧ okT z.2 = true ∧ fewT z.2 = true) ∧ 1 ≤ p.1 ∧ 0 ≤ p.2) (.rt (.bl false)) (1, value f a) (JI.conv (ji_zi ok c.f_zip (by walk_at "dl") (by walk_at "dl")) (zipD_map prD pap rows ts)) ⟨hL, hz, Int.le_refl 1, hv⟩ (by walk_at "wk") .never rfl ?_ ?_)
    · rintro ⟨last, left⟩ ⟨h, _⟩
      cases h
    · rintro ⟨last, left⟩ z l ⟨h, hm, hl1, hx1⟩
      dsimp only at *
      obtain ⟨⟨z1, z2, z4⟩, kd, kok, kf⟩ := hm z (List.mem_cons_self ..)
      have hm' : ∀ z ∈ l, (0 ≤ z.1.1 ∧ z.1.1 < 2 ^ 60 ∧ z.1.2 ≤ 100) ∧ dep z.2 ≤ k ∧ okT z.2 = true ∧ fewT z.2 = true := fun x hx => hm x (List.mem_cons_of_mem _ hx)
      have hRs := Rprov.mk z.1.1 z.2 kd kok kf z1 z2
      have hRf := Rlfirst.mk a n z.1.1 h0 hn ha.1 z1 (by omega)
      refine ⟨_, _, jg_tup (ds := [.tup [.int z.1.1, .int z.1.2], pap z.2]) rfl (by walk_at "jgs"), ?_⟩
      unfold aaL at h
      by_cases h1 : z.1.1 ≤ last ∨ z.1.2 < 1 ∨ 40 < z.1.2 ∨ proves z.1.1 z.2 = false ∨ lfirstM a n z.1.1 = false
      · have hc1 : (decide (z.1.1 ≤ last) || (decide (z.1.2 < 1) || (decide (40 < z.1.2) || (!proves z.1.1 z.2 || !lfirstM a n z.1.1)))) = true := by simpa using h1
        exact .inl ⟨.bl false, jb_stop (js_ifT (JT.eq (jt_or (by walk_at "dl") fun _ => jw_or (by walk_at "dl") fun _ => jw_or (by walk_at "dl") fun _ => jw_or (jt_not (jt_val (je_ca ok Fs hr (by walk_at "dl") hRs (by omega)))) fun _ => jw_or1 (jt_not (jt_val (je_ca ok Ff hr (by walk_at "dl") hRf (by omega))))) hc1) (jb_stop (by walk_at "js"))), rfl⟩
      rw [if_neg h1] at h
      have hr2 : 2 ≤ z.1.1 := by
        have : ¬ z.1.1 ≤ last := fun q => h1 (.inl q)
        omega
      have hc1 : (decide (z.1.1 ≤ last) || (decide (z.1.2 < 1) || (decide (40 < z.1.2) || (!proves z.1.1 z.2 || !lfirstM a n z.1.1)))) = false := by simpa using h1
      cases hp : divQ z.1.1 z.1.2.toNat left with
      | none =>
        refine .inl ⟨.bl false, ?_, rfl⟩
        refine jb_cons (js_ifF (JT.eq (jt_or (by walk_at "dl") fun _ => jw_or (by walk_at "dl") fun _ => jw_or (by walk_at "dl") fun _ => jw_or (jt_not (jt_val (je_ca ok Fs hr (by walk_at "dl") hRs (by omega)))) fun _ => jw_or1 (jt_not (jt_val (je_ca ok Ff hr (by walk_at "dl") hRf (by omega))))) hc1) jb_nil) ?_
        walk_at "s"
        refine jb_stop (js_forG (f := fun t : Nat => D.int (t : Nat)) (l := List.range z.1.2.toNat) (fun y : Int => [.d (.int a), .d (.int n), .d (.lst (rows.map prD)), .d (.lst (ts.map pap)), .d (.int y), .d (.int z.1.1), .d (.int z.1.1), .d (.int z.1.2), .d (pap z.2), .no]) (fun y l => divQ z.1.1 l.length y = none ∧ 0 ≤ y) (.rt (.bl false)) left (ji_r1 ok c.f_range (by walk_at "dl") (by omega) (by omega)) ⟨by rw [List.length_range]; exact hp, hx1⟩ (by walk_at "wk") .never rfl ?_ ?_)
        · rintro y ⟨h, _⟩
          cases h
        · rintro y t l ⟨h, hy1⟩
          refine ⟨_, _, by walk_at "jg", ?_⟩
          rw [List.length_cons] at h
          unfold divQ at h
          by_cases h2 : y % z.1.1 = 0
          · rw [if_pos h2] at h
            refine .inr ⟨y / z.1.1, ⟨h, Int.ediv_nonneg hy1 (by omega)⟩, ?_⟩
            refine jb_cons (js_ifF (by walk_at "te") jb_nil) ?_
            walk_at "bw"
          · exact .inl ⟨.bl false, jb_stop (js_ifT (by walk_at "te") (jb_stop (by walk_at "js"))), rfl⟩
      | some y0 =>
        rw [hp] at h
        have hy0 : 0 ≤ y0 := divQ_nn hr2 hx1 hp
        dsimp only at h
        refine .inr ⟨(z.1.1, y0), ⟨h, hm', by dsimp only; omega, hy0⟩, ?_⟩
        refine jb_cons (js_ifF (JT.eq (jt_or (by walk_at "dl") fun _ => jw_or (by walk_at "dl") fun _ => jw_or (by walk_at "dl") fun _ => jw_or (jt_not (jt_val (je_ca ok Fs hr (by walk_at "dl") hRs (by omega)))) fun _ => jw_or1 (jt_not (jt_val (je_ca ok Ff hr (by walk_at "dl") hRf (by omega))))) hc1) jb_nil) ?_
        walk_at "s"
        refine JB.wk (jb_one (js_forG (f := fun t : Nat => D.int (t : Nat)) (l := List.range z.1.2.toNat) (fun y : Int => [.d (.int a), .d (.int n), .d (.lst (rows.map prD)), .d (.lst (ts.map pap)), .d (.int y), .d (.int z.1.1), .d (.int z.1.1), .d (.int z.1.2), .d (pap z.2), .no]) (fun y l => divQ z.1.1 l.length y = some y0 ∧ 0 ≤ y) (.nx [.d (.int a), .d (.int n), .d (.lst (rows.map prD)), .d (.lst (ts.map pap)), .d (.int y0), .d (.int z.1.1), .d (.int z.1.1), .d (.int z.1.2), .d (pap z.2), .no]) left (ji_r1 ok c.f_range (by walk_at "dl") (by omega) (by omega)) ⟨by rw [List.length_range]; exact hp, hx1⟩ (by walk_at "wk") .never rfl ?_ ?_)) (by walk_at "wk")
        · rintro y ⟨h, _⟩
          cases h
          exact ⟨_, rfl, Wk.refl _⟩
        · rintro y t l ⟨h, hy1⟩
          refine ⟨_, _, by walk_at "jg", ?_⟩
          rw [List.length_cons] at h
          unfold divQ at h
          by_cases h2 : y % z.1.1 = 0
          · rw [if_pos h2] at h
            refine .inr ⟨y / z.1.1, ⟨h, Int.ediv_nonneg hy1 (by omega)⟩, ?_⟩
            refine jb_cons (js_ifF (by walk_at "te") jb_nil) ?_
            walk_at "bw"
          · rw [if_neg h2] at h
            cases h
  | some zz =>
    rw [hL] at h
    dsimp only at h
    refine jb_cons (js_forG (f := fun z : (Int × Int) × T => D.tup [prD z.1, pap z.2]) (l := rows.zip ts) (fun p : Int × Int => [.d (.int a), .d (.int n), .d (.lst (rows.map prD)), .d (.lst (ts.map pap)), .d (.int p.2), .d (.int p.1), .no, .no, .no, .no]) (fun p l => aaL a n l p.1 p.2 = some zz ∧ (∀ z ∈ l, (0 ≤ z.1.1 ∧ z.1.1 < 2 ^ 60 ∧ z.1.2 ≤ 100) ∧ dep z.2 ≤ k ∧ okT z.2 = true ∧ fewT z.2 = true) ∧ 1 ≤ p.1 ∧ 0 ≤ p.2) (.nx [.d (.int a), .d (.int n), .d (.lst (rows.map prD)), .d (.lst (ts.map pap)), .d (.int zz), .no, .no, .no, .no, .no]) (1, value f a) (JI.conv (ji_zi ok c.f_zip (by walk_at "dl") (by walk_at "dl")) (zipD_map prD pap rows ts)) ⟨hL, hz, Int.le_refl 1, hv⟩ (by walk_at "wk") .never rfl ?_ ?_) ?_
    · rintro ⟨last, left⟩ ⟨h, _⟩
      cases h
      exact ⟨_, rfl, by walk_at "wk"⟩
    · rintro ⟨last, left⟩ z l ⟨h, hm, hl1, hx1⟩
      dsimp only at *
      obtain ⟨⟨z1, z2, z4⟩, kd, kok, kf⟩ := hm z (List.mem_cons_self ..)
      have hm' : ∀ z ∈ l, (0 ≤ z.1.1 ∧ z.1.1 < 2 ^ 60 ∧ z.1.2 ≤ 100) ∧ dep z.2 ≤ k ∧ okT z.2 = true ∧ fewT z.2 = true := fun x hx => hm x (List.mem_cons_of_mem _ hx)
      have hRs := Rprov.mk z.1.1 z.2 kd kok kf z1 z2
      have hRf := Rlfirst.mk a n z.1.1 h0 hn ha.1 z1 (by omega)
      refine ⟨_, _, jg_tup (ds := [.tup [.int z.1.1, .int z.1.2], pap z.2]) rfl (by walk_at "jgs"), ?_⟩
      unfold aaL at h
      by_cases h1 : z.1.1 ≤ last ∨ z.1.2 < 1 ∨ 40 < z.1.2 ∨ proves z.1.1 z.2 = false ∨ lfirstM a n z.1.1 = false
      · rw [if_pos h1] at h
        cases h
      rw [if_neg h1] at h
      have hr2 : 2 ≤ z.1.1 := by
        have : ¬ z.1.1 ≤ last := fun q => h1 (.inl q)
        omega
      have hc1 : (decide (z.1.1 ≤ last) || (decide (z.1.2 < 1) || (decide (40 < z.1.2) || (!proves z.1.1 z.2 || !lfirstM a n z.1.1)))) = false := by simpa using h1
      cases hp : divQ z.1.1 z.1.2.toNat left with
      | none =>
        rw [hp] at h
        cases h
      | some y0 =>
        rw [hp] at h
        have hy0 : 0 ≤ y0 := divQ_nn hr2 hx1 hp
        dsimp only at h
        refine .inr ⟨(z.1.1, y0), ⟨h, hm', by dsimp only; omega, hy0⟩, ?_⟩
        refine jb_cons (js_ifF (JT.eq (jt_or (by walk_at "dl") fun _ => jw_or (by walk_at "dl") fun _ => jw_or (by walk_at "dl") fun _ => jw_or (jt_not (jt_val (je_ca ok Fs hr (by walk_at "dl") hRs (by omega)))) fun _ => jw_or1 (jt_not (jt_val (je_ca ok Ff hr (by walk_at "dl") hRf (by omega))))) hc1) jb_nil) ?_
        walk_at "s"
        refine JB.wk (jb_one (js_forG (f := fun t : Nat => D.int (t : Nat)) (l := List.range z.1.2.toNat) (fun y : Int => [.d (.int a), .d (.int n), .d (.lst (rows.map prD)), .d (.lst (ts.map pap)), .d (.int y), .d (.int z.1.1), .d (.int z.1.1), .d (.int z.1.2), .d (pap z.2), .no]) (fun y l => divQ z.1.1 l.length y = some y0 ∧ 0 ≤ y) (.nx [.d (.int a), .d (.int n), .d (.lst (rows.map prD)), .d (.lst (ts.map pap)), .d (.int y0), .d (.int z.1.1), .d (.int z.1.1), .d (.int z.1.2), .d (pap z.2), .no]) left (ji_r1 ok c.f_range (by walk_at "dl") (by omega) (by omega)) ⟨by rw [List.length_range]; exact hp, hx1⟩ (by walk_at "wk") .never rfl ?_ ?_)) (by walk_at "wk")
        · rintro y ⟨h, _⟩
          cases h
          exact ⟨_, rfl, Wk.refl _⟩
        · rintro y t l ⟨h, hy1⟩
          refine ⟨_, _, by walk_at "jg", ?_⟩
          rw [List.length_cons] at h
          unfold divQ at h
          by_cases h2 : y % z.1.1 = 0
          · rw [if_pos h2] at h
            refine .inr ⟨y / z.1.1, ⟨h, Int.ediv_nonneg hy1 (by omega)⟩, ?_⟩
            refine jb_cons (js_ifF (by walk_at "te") jb_nil) ?_
            walk_at "bw"
          · rw [if_neg h2] at h
            cases h
    · have hzz : 0 ≤ zz := aaL_nn (rows.zip ts) (Int.le_refl 1) hv hL
      unfold isLeftM at h
      by_cases hn2 : n = 2
      · rw [if_pos hn2] at h
        split at h
        case h_2 => cases h
        rename_i r m hs
        cases h
        refine jb_cons (ρ1 := [.d (.int a), .d (.int n), .no, .no, .d (.int r), .no, .no, .no, .no, .no]) (js_ifT (by walk_at "te") (jb_one (js_whileG (fun q : Int × Int => [.d (.int a), .d (.int n), .no, .no, .d (.int q.1), .no, .no, .no, .no, .no]) (fun f q => 0 ≤ q.1 ∧ stripP f 2 q.1 q.2 = some (r, m)) (.nx [.d (.int a), .d (.int n), .no, .no, .d (.int r), .no, .no, .no, .no, .no]) 200 (zz, 0) ⟨hzz, hs⟩ (by walk_at "wk") .never ?_))) ?_
        · rintro f ⟨x, j⟩ ⟨hx, he⟩
          dsimp only at *
          obtain ⟨f', rfl, h | h⟩ := strip_some he
          · refine ⟨true, by have := h.1; walk_at "te", nofun, fun _ => .inr ⟨f', (x / 2, j + 1), Nat.lt_succ_self _, ⟨Int.ediv_nonneg hx (by omega), h.2⟩, ?_⟩⟩
            walk_at "bw"
          · refine ⟨false, by have := h.1; walk_at "te", fun _ => ⟨_, rfl, ?_⟩, nofun⟩
            cases h.2
            walk_at "wk"
        · refine jb_cons (js_ifF (JT.eq (jt_and (c := false) (c2 := true) (by walk_at "te") nofun) rfl) jb_nil) ?_
          walk_at "rt"
          rfl
      · rw [if_neg hn2] at h
        cases h
        refine jb_cons (js_ifF (by walk_at "te") jb_nil) ?_
        refine jb_if (c := decide (2 < n) && !decide (zz = 1)) (by walk_at "te") (fun hc => ?_) (fun _ => ⟨_, rfl⟩) fun hc => ?_
        · rw [Bool.and_eq_true] at hc
          obtain ⟨hc1, hc2⟩ := hc
          have h2 : 2 < n := of_decide_eq_true hc1
          have hz1 : ¬ zz = 1 := by simpa using hc2
          obtain ⟨x, hx1, hx2⟩ := lastP_at (partsT_ne h2 h1)
          refine jb_stop (js_ret (JD.eq (je_cm (by walk_at "dl") (je_ix (x := prD x) (y := .int 0) (d := .int x.1) (je_ix (je_ca ok Fd hr (by walk_at "dl") (Rparted.of (partsOf n h0 h1)) (by omega)) (by walk_at "dl") (ik_L hx1)) (by walk_at "dl") (ik_T rfl)) ck_eqI) ?_))
          rw [hx2, decide_eq_true h2, decide_eq_false hz1]
          rfl
        · have : (decide (2 < n) && decide (zz = lastP (partsT n))) = true → zz = 1 := by
            intro hh
            rw [Bool.and_eq_true] at hh
            rw [hh.1] at hc
            simpa using hc
          refine jb_stop (js_ret (JD.eq (by walk_at "dl") ?_))
          congr 1
          by_cases hz1 : zz = 1
          · rw [decide_eq_true hz1]
            rfl
          · rw [decide_eq_false hz1, Bool.false_or]
            cases hq : (decide (2 < n) && decide (zz = lastP (partsT n))) with
            | false => rfl
            | true => exact absurd (this hq) hz1
end
end DL
-- M7
/-! Papers as texts: lists of signs. -/
namespace M
open PySem DL SX
/-- a number's figures -/
def num (i : Int) : List Nat := TL.numL i.toNat
def brk (l : List Nat) : List Nat := 40 :: (l ++ [41])
mutual
def txtC : T → List Nat
  | .node _ _ q g ks => brk (TL.joinL [32] (num q :: num g :: pcsC ks))
def pcsC : List T → List (List Nat)
  | [] => []
  | k :: ks => brk (TL.joinL [32] [num k.r, num k.m, txtC k]) :: pcsC ks
end
def pcC (k : T) : List Nat := brk (TL.joinL [32] [num k.r, num k.m, txtC k])
def inC (t : T) : List Nat := TL.joinL [32] (num t.q :: num t.g :: pcsC t.ks)
theorem txtC_in (t : T) : txtC t = brk (inC t) := by
  cases t
  unfold txtC inC
  rfl
theorem pcsC_map : ∀ ks : List T, pcsC ks = ks.map pcC
  | [] => by
    unfold pcsC
    rfl
  | k :: ks => by
    unfold pcsC
    rw [pcsC_map ks]
    rfl
/-! reading: parts by blanks outside of brackets -/
def pin : List Nat → List (List Nat) → List Nat → Int → Option (List (List Nat))
  | [], done, cur, d => if d = 0 then some (done ++ [cur]) else none
  | c :: r, done, cur, d =>
    let d' := d + ((if c = 40 then 1 else 0) - (if c = 41 then 1 else 0))
    if d' < 0 then none else if c = 32 ∧ d' = 0 then pin r (done ++ [cur]) [] d' else pin r done (cur ++ [c]) d'
def Neu (m : Int) (w : List Nat) : Prop := ∀ (d : Int) (rest cur : List Nat) (done : List (List Nat)), m ≤ d → pin (w ++ rest) done cur d = pin rest done (cur ++ w) d
theorem Neu.nil {m : Int} : Neu m [] := fun d rest cur done _ => by rw [List.nil_append, List.append_nil]
theorem Neu.app {m : Int} {u v : List Nat} (h1 : Neu m u) (h2 : Neu m v) : Neu m (u ++ v) := fun d rest cur done h => by
  rw [List.append_assoc, h1 d _ _ _ h, h2 d _ _ _ h, List.append_assoc]
theorem Neu.up {m n : Int} {u : List Nat} (h1 : Neu m u) (h : m ≤ n) : Neu n u := fun d rest cur done hd => h1 d rest cur done (Int.le_trans h hd)
theorem Neu.one {m : Int} (hm : 0 ≤ m) {c : Nat} (h1 : c ≠ 40) (h2 : c ≠ 41) (h3 : c ≠ 32) : Neu m [c] := fun d rest cur done h => by
  show pin (c :: rest) done cur d = _
  conv => lhs; unfold pin
  dsimp only
  rw [if_neg h1, if_neg h2, if_neg (show ¬ (d + (0 - 0) < 0) by omega), if_neg (fun z => h3 z.1)]
  congr 1
  omega
theorem Neu.blank : Neu 1 [32] := fun d rest cur done h => by
  show pin (32 :: rest) done cur d = _
  conv => lhs; unfold pin
  dsimp only
  rw [if_neg (show ¬ (32 : Nat) = 40 by decide), if_neg (show ¬ (32 : Nat) = 41 by decide), if_neg (show ¬ (d + (0 - 0) < 0) by omega), if_neg (fun z => by have := z.2; omega)]
  congr 1
  omega
theorem Neu.plain {m : Int} (hm : 0 ≤ m) : ∀ {u : List Nat}, (∀ c ∈ u, c ≠ 40 ∧ c ≠ 41 ∧ c ≠ 32) → Neu m u
  | [], _ => Neu.nil
  | c :: u, h => by
    obtain ⟨h1, h2, h3⟩ := h c (List.mem_cons_self ..)
    exact Neu.app (u := [c]) (Neu.one hm h1 h2 h3) (Neu.plain hm fun x hx => h x (List.mem_cons_of_mem _ hx))
theorem Neu.num {m : Int} (hm : 0 ≤ m) (i : Int) : Neu m (num i) := Neu.plain hm fun c hc => by
  have := TL.numL_digits i.toNat c hc
  omega
theorem Neu.brk {u : List Nat} (h1 : Neu 1 u) : Neu 0 (brk u) := fun d rest cur done h => by
  show pin (40 :: ((u ++ [41]) ++ rest)) done cur d = _
  conv => lhs; unfold pin
  dsimp only
  rw [if_pos rfl, if_neg (show ¬ (40 : Nat) = 41 by decide), if_neg (show ¬ (d + (1 - 0) < 0) by omega), if_neg (fun z => by have := z.1; omega)]
  rw [List.append_assoc, h1 _ _ _ _ (by omega)]
  show pin (41 :: rest) done (cur ++ [40] ++ u) _ = _
  conv => lhs; unfold pin
  dsimp only
  rw [if_neg (show ¬ (41 : Nat) = 40 by decide), if_pos rfl, if_neg (by omega), if_neg (fun z => by have := z.1; omega)]
  have e : cur ++ [40] ++ u ++ [41] = cur ++ M.brk u := by
    unfold M.brk
    simp
  rw [e]
  congr 1
  omega
theorem Neu.join : ∀ {ws : List (List Nat)}, (∀ w ∈ ws, Neu 1 w) → Neu 1 (TL.joinL [32] ws)
  | [], _ => Neu.nil
  | [p], h => h p (by simp)
  | p :: q :: r, h => by
    show Neu 1 (p ++ ([32] ++ TL.joinL [32] (q :: r)))
    exact Neu.app (h p (by simp)) (Neu.app Neu.blank (Neu.join fun w hw => h w (List.mem_cons_of_mem _ hw)))
theorem pin_join : ∀ (ws : List (List Nat)) (done : List (List Nat)), ws ≠ [] → (∀ w ∈ ws, Neu 0 w) → pin (TL.joinL [32] ws) done [] 0 = some (done ++ ws)
  | [], _, h, _ => absurd rfl h
  | [p], done, _, h => by
    show pin p done [] 0 = _
    have e := h p (by simp) 0 [] [] done (by decide)
    rw [List.append_nil] at e
    rw [e]
    unfold pin
    rw [if_pos rfl, List.nil_append]
  | p :: q :: r, done, _, h => by
    show pin (p ++ ([32] ++ TL.joinL [32] (q :: r))) done [] 0 = _
    rw [h p (by simp) 0 _ _ _ (by decide), List.nil_append]
    show pin (32 :: TL.joinL [32] (q :: r)) done p 0 = _
    conv => lhs; unfold pin
    dsimp only
    rw [if_neg (show ¬ (32 : Nat) = 40 by decide), if_neg (show ¬ (32 : Nat) = 41 by decide), if_neg (by omega), if_pos ⟨rfl, by omega⟩]
    have e := pin_join (q :: r) (done ++ [p]) (by simp) fun w hw => h w (List.mem_cons_of_mem _ hw)
    rw [show ((0 : Int) + (0 - 0)) = 0 by omega, e]
    simp
mutual
theorem neu_txt : ∀ t : T, Neu 0 (txtC t)
  | .node _ _ q g ks => by
    unfold txtC
    refine Neu.brk (Neu.join fun w hw => ?_)
    rcases List.mem_cons.mp hw with rfl | hw
    · exact Neu.num (by decide) _
    · rcases List.mem_cons.mp hw with rfl | hw
      · exact Neu.num (by decide) _
      · exact (neu_pcs ks w hw).up (by decide)
theorem neu_pcs : ∀ (ks : List T) (w : List Nat), w ∈ pcsC ks → Neu 0 w
  | [], w, h => by
    unfold pcsC at h
    cases h
  | k :: ks, w, h => by
    unfold pcsC at h
    rcases List.mem_cons.mp h with rfl | h
    · refine Neu.brk (Neu.join fun w hw => ?_)
      simp only [List.mem_cons, List.not_mem_nil, or_false] at hw
      rcases hw with rfl | rfl | rfl
      · exact Neu.num (by decide) _
      · exact Neu.num (by decide) _
      · exact (neu_txt k).up (by decide)
    · exact neu_pcs ks w h
end
theorem pin_txt (t : T) : pin (inC t) [] [] 0 = some (num t.q :: num t.g :: pcsC t.ks) := by
  unfold inC
  rw [pin_join _ _ (by simp), List.nil_append]
  intro w hw
  rcases List.mem_cons.mp hw with rfl | hw
  · exact Neu.num (by decide) _
  · rcases List.mem_cons.mp hw with rfl | hw
    · exact Neu.num (by decide) _
    · exact neu_pcs _ w hw
theorem pin_pc (k : T) : pin (TL.joinL [32] [num k.r, num k.m, txtC k]) [] [] 0 = some [num k.r, num k.m, txtC k] := by
  rw [pin_join _ _ (by simp), List.nil_append]
  intro w hw
  simp only [List.mem_cons, List.not_mem_nil, or_false] at hw
  rcases hw with rfl | rfl | rfl
  · exact Neu.num (by decide) _
  · exact Neu.num (by decide) _
  · exact neu_txt k
/-! the texts' lengths -/
theorem len_joinL (S : List Nat) : ∀ ws : List (List Nat), ws ≠ [] → (TL.joinL S ws).length + S.length = (ws.map List.length).sum + ws.length * S.length
  | [], h => absurd rfl h
  | [p], _ => by simp [TL.joinL]
  | p :: q :: r, _ => by
    have e := len_joinL S (q :: r) (by simp)
    show (p ++ (S ++ TL.joinL S (q :: r))).length + S.length = _
    rw [List.length_append, List.length_append, List.map_cons, List.sum_cons, List.length_cons (a := p), Nat.add_mul]
    omega
theorem len_brk (u : List Nat) : (brk u).length = u.length + 2 := by
  unfold brk
  simp
theorem num_ne (i : Int) : num i ≠ [] := TL.numL_ne _
theorem num_pos (i : Int) : 1 ≤ (num i).length := by
  have := num_ne i
  cases h : num i with
  | nil => exact absurd h this
  | cons => simp
theorem num_len {i : Int} (h : i < 2 ^ 60) : (num i).length ≤ 19 := TL.numL_len (by decide) (by omega)
theorem str_num {i : Int} (h : 0 ≤ i) : str i = S (num i) := by
  unfold str num
  obtain ⟨n, rfl⟩ := Int.eq_ofNat_of_zero_le h
  rw [Int.toNat_natCast]
  exact num_S n
theorem mem_len : ∀ {l : List (List Nat)} {w : List Nat}, w ∈ l → w.length ≤ (l.map List.length).sum
  | [], w, h => by cases h
  | x :: l, w, h => by
    rw [List.map_cons, List.sum_cons]
    rcases List.mem_cons.mp h with rfl | h
    · omega
    · have := mem_len h
      omega
/-- a text within a text -/
theorem len_mem_join {S : List Nat} {l : List (List Nat)} {w : List Nat} (h : w ∈ l) : w.length ≤ (TL.joinL S l).length := by
  cases l with
  | nil => cases h
  | cons x r =>
    have e := len_joinL S (x :: r) (by simp)
    have := mem_len h
    rw [List.length_cons, Nat.add_mul] at e
    omega
theorem len_txt (t : T) : (txtC t).length = (inC t).length + 2 := by rw [txtC_in, len_brk]
theorem len_pc_in {t k : T} (h : k ∈ t.ks) : (pcC k).length ≤ (inC t).length := by
  unfold inC
  refine len_mem_join ?_
  rw [pcsC_map]
  exact List.mem_cons_of_mem _ (List.mem_cons_of_mem _ (List.mem_map.mpr ⟨k, h, rfl⟩))
theorem len_kid {t k : T} (h : k ∈ t.ks) : (txtC k).length + 2 ≤ (inC t).length := by
  have h1 := len_pc_in h
  have h2 : (txtC k).length ≤ (TL.joinL [32] [num k.r, num k.m, txtC k]).length := len_mem_join (by simp)
  unfold pcC at h1
  rw [len_brk] at h1
  omega
/-! a number's figures -/
theorem numL_h0 (n : Nat) : ∀ c r, TL.numL n = c :: r → c = 48 → n = 0 := by
  induction n using Nat.strongRecOn with
  | _ n ih =>
    intro c r e hc
    by_cases h : n < 10
    · rw [TL.numL_lt h] at e
      injection e with e1
      omega
    · rw [TL.numL_step (by omega)] at e
      cases hq : TL.numL (n / 10) with
      | nil => exact absurd hq (TL.numL_ne _)
      | cons c' r' =>
        rw [hq] at e
        injection e with e1
        have := ih (n / 10) (by omega) c' r' hq (by omega)
        omega
end M
-- DL19
/-! Rules: the module's numbers, the module's table, slices of texts. -/
namespace DL
open PySem PySem.Spec PyProof.Rows L2 RW
def FormAt (w : World) (K : PySem.W.Frag) (mg : Str → Option Value) (z f : Str) : Prop := ∃ d es n u, mg "FORMS" = some (.ref d) ∧ KDict K w d es n ∧ PySem.W.nsIn K d z = some (some u) ∧ RelV (.str f) u
section
variable {w : World} {K : PySem.W.Frag} {mg : Str → Option Value} {base : Heap}
theorem Ctx.int (c : Ctx w K mg base) (i : Nat) {x : Str} {n : Int} (h : fa[i]? = some (.int x n) := by rfl) : ∃ t, mg x = some (.int n t) := He.int_ok c.kin c.ns (c.says.d.fact i (f := .int x n) h)
theorem Ctx.form (c : Ctx w K mg base) {z f : Str} (h : (z, He.Dv.str f) ∈ formVals) : FormAt w K mg z f := by
  obtain ⟨es, n, D⟩ := c.says.tab 0 (t := (fun K => He.ga K "FORMS", formKeys))
  obtain ⟨u, h1, h2⟩ := He.valsB_ok c.vals h
  exact ⟨_, es, n, u, c.glo 58, D, h1, h2⟩
end
section
variable {X : Cx} {ρ : List Sl} {a b : Expr} {sc : Scope} {N : List Str} {tt : Bool} {p pos : Pos}
theorem je_gi {n : Str} {i : Int} (ok : OkN X N sc tt) (hm : ∃ t, X.mg n = some (.int i t)) (hgl : glB sc n = true := by decide +kernel) : JD X ρ (.Name n p) (.int i) := fun G0 H0 G H σ E Q q => by
  obtain ⟨t, hm⟩ := hm
  exact wE.of (C8.pe_gc (v := .int i) (ok.gl hgl).1 ⟨_, hm, ⟨t, rfl⟩⟩ (ok.gl hgl).2) (q _ G H (Grow.refl E.sub) rfl)
theorem jt_nif {z f : Str} (ok : OkN X N sc tt) (F : FormAt X.w X.K X.mg z f) (ha : JD X ρ a (.str z)) (hgl : glB sc "FORMS" = true := by decide +kernel) : JT X ρ (.Compare a [.NotIn] [.Name "FORMS" p] pos) false := fun G0 H0 G H σ E Q q => by
  obtain ⟨d, es, n, u, hm, D, h1, h2⟩ := F
  refine wT.of (pt_cmpR (op_notIn_kd D) peW (C8.pe_gc (v := .ref d) (ok.gl hgl).1 ⟨_, hm, rfl⟩ (ok.gl hgl).2) rfl) (ha G0 H0 G H σ E _ fun v G1 H1 g1 i1 => ?_)
  cases i1
  exact ⟨z, some u, rfl, rfl, h1, false, rfl, q G1 H1 g1⟩
theorem je_form {z f : Str} (ok : OkN X N sc tt) (F : FormAt X.w X.K X.mg z f) (hb : JD X ρ b (.str z)) (hgl : glB sc "FORMS" = true := by decide +kernel) (hs : PlainIx b := by exact fun _ _ => rfl) : JD X ρ (.Subscript (.Name "FORMS" p) b pos) (.str f) := fun G0 H0 G H σ E Q q => by
  obtain ⟨d, es, n, u, hm, D, h1, h2⟩ := F
  refine wE.of (pe_ix ix_kdict (C8.pe_gc (v := .ref d) (ok.gl hgl).1 ⟨_, hm, rfl⟩ (ok.gl hgl).2) peW hs) (hb G0 H0 G H σ E _ fun v G1 H1 g1 i1 => ?_)
  cases i1
  exact ⟨d, z, .str f, rfl, rfl, ⟨es, n, u, D.at_, D.lit, h1, h2⟩, q _ G1 H1 g1 rfl⟩
end
open SX in
theorem cut_in (l : List Nat) : cutS (S (40 :: (l ++ [41]))) (some 1) (some (-1)) = S l := by
  have hl : (S (40 :: (l ++ [41]))).length = l.length + 2 := by
    rw [S_len]
    simp
  unfold cutS
  have e1 : HT.sIx (S (40 :: (l ++ [41]))).length 0 (some 1) = 1 := by
    rw [hl]
    refine (HT.sIx_nat _ 0 1).trans ?_
    omega
  have e2 : HT.sIx (S (40 :: (l ++ [41]))).length (S (40 :: (l ++ [41]))).length (some (-1)) = l.length + 1 := by
    rw [hl]
    show (if (-1 : Int) < 0 then ((-1 : Int) + ((l.length + 2 : Nat) : Int)).toNat else min (-1 : Int).toNat (l.length + 2)) = _
    rw [if_pos (by decide)]
    omega
  rw [e1, e2]
  show (⟨((l ++ [41]).take l.length).toArray⟩ : Str) = _
  rw [List.take_left]
end DL
-- DL20
/-! sorted of triples whose first numbers differ. -/
namespace DL
open PySem PySem.Spec PyProof.Rows L2 Srt SrtO
section
variable {prog : Program} {w : World} {A : Around} {E : Value → Shared → Prop} {s : Shared}
def IsTrip (h : Heap) (v : Value) (x : Int) : Prop := ∃ a o t y u z n, v = .ref a ∧ h.get? a = some o ∧ o.cls = .type "tuple" ∧ o.data = .seq #[.int x t, .int y u, z] n
theorem IsTrip.keeps {h h' : Heap} {v : Value} {x : Int} (p : IsTrip h v x) (k : ∀ b o, h.get? b = some o → o.cls = .type "tuple" → h'.get? b = some o) : IsTrip h' v x := by
  obtain ⟨a, o, t, y, u, z, n, e, ho, hc, hd⟩ := p
  exact ⟨a, o, t, y, u, z, n, e, k _ _ ho hc, hc, hd⟩
abbrev ltI {α : Type} (k : α → Int) : α → α → Bool := fun v u => decide (k v < k u)
theorem swo_ltI {α : Type} (k : α → Int) : Swo (ltI k) := by
  refine ⟨fun x y h => ?_, fun x y z h1 h2 => ?_⟩
  · have a : k x < k y := of_decide_eq_true h
    exact decide_eq_false (by omega)
  · have a : ¬ k y < k x := of_decide_eq_false h1
    have b : ¬ k z < k y := of_decide_eq_false h2
    exact decide_eq_false (by omega)
theorem trip_cmp {vs : List Value} {k : Value → Int} (hp : ∀ v ∈ vs, IsTrip s.heap v (k v)) (hd : ∀ v ∈ vs, ∀ u ∈ vs, k v = k u → v = u) : Cmp prog w A s (tuples' true) (fun p => p.1 ∈ vs) (lt2 (ltI k)) := by
  intro p q hm hm'
  have h1 := hp _ hm
  have h2 := hp _ hm'
  have h3 := hd _ hm _ hm'
  show wpAny (model prog w) A (keyLt' (tuples' true) p.1 q.1) (fun r s' => s' = s ∧ r = decide (k p.1 < k q.1)) (fun _ _ => False) s
  generalize k p.1 = x at h1 h3 ⊢
  generalize k q.1 = x' at h2 h3 ⊢
  obtain ⟨a, o, t, y, u, z, n, e, ho, hc, hd⟩ := h1
  obtain ⟨a', o', t', y', u', z', n', e', ho', hc', hd'⟩ := h2
  rw [e, e'] at h3 ⊢
  refine PySem.W.kat_lt ho hd ho' hd' ?_
  show PySem.W.KatLex prog w A true (decide (3 < 3)) _ [(.int x t, .int x' t'), (.int y u, .int y' u'), (z, z')] 0 s
  refine PySem.W.kat_cons (SeqAt.EqAt.int_int x t x' t' prog w _ _ ?_)
  refine PySem.W.kat_go (fun e1 => ?_) (fun e1 => ?_)
  · have ex : x = x' := by simpa using e1
    have ea : a = a' := Value.ref.inj (h3 ex)
    subst ea
    rw [ho] at ho'
    cases ho'
    rw [hd] at hd'
    have hq : (#[.int x t, .int y u, z] : Array Value) = #[.int x' t', .int y' u', z'] := by
      injection hd'
    have hq2 := congrArg Array.toList hq
    simp only [List.cons.injEq] at hq2
    obtain ⟨_, q2, q3, _⟩ := hq2
    rw [q2, q3]
    refine PySem.W.kat_yes (PySem.W.kat_cons (SeqAt.EqAt.same _ prog w _ _ ?_))
    refine PySem.W.kat_yes (PySem.W.kat_cons (SeqAt.EqAt.same _ prog w _ _ ?_))
    exact PySem.W.kat_yes (PySem.W.kat_nil ⟨rfl, by rw [ex]; exact (decide_eq_false (Int.lt_irrefl _)).symm⟩)
  · exact PySem.W.kat_no (oneLt_int ⟨rfl, rfl⟩)
theorem firsts_trip {h : Heap} : ∀ {vs : List Value}, (∀ v ∈ vs, ∃ x, IsTrip h v x) → ∃ fs : List Value, PySem.W.KatTups h vs fs ∧ fs.length = vs.length ∧ ∀ f ∈ fs, ∃ x t, f = Value.int x t
  | [], _ => ⟨[], PySem.W.KatTups.nil, rfl, fun _ hm => by simp at hm⟩
  | v :: vs, hp => by
    obtain ⟨fs, h1, h2, h3⟩ := firsts_trip (vs := vs) fun v' hm => hp v' (List.mem_cons_of_mem _ hm)
    obtain ⟨x, a, o, t, y, u, z, n, e, ho, hc, hd⟩ := hp v (List.mem_cons_self ..)
    subst e
    refine ⟨.int x t :: fs, PySem.W.KatTups.cons ho hc hd rfl h1, by rw [List.length_cons, List.length_cons, h2], fun f hm => ?_⟩
    rcases List.mem_cons.mp hm with rfl | hm
    · exact ⟨x, t, rfl⟩
    · exact h3 f hm
theorem trip_sortable {a : Addr} {vs : List Value} {k : Value → Int} (h0 : 0 < vs.length) (hp : ∀ v ∈ vs, IsTrip s.heap v (k v)) (hd : ∀ v ∈ vs, ∀ u ∈ vs, k v = k u → v = u) (ha : ∀ o, s.heap.get? a = some o → o.cls ≠ .type "tuple") : SortableO prog w A s a vs (ltI k) := by
  intro h' keep
  have hp' : ∀ v ∈ vs, IsTrip h' v (k v) := fun v hm => (hp v hm).keeps fun b o e c => keep b o (fun z => by subst z; exact ha o e c) e
  obtain ⟨fs, h1, h2, h3⟩ := firsts_trip fun v hm => ⟨_, hp' v hm⟩
  refine ⟨tuples' true, fun Q E hq => ?_, trip_cmp hp' hd⟩
  refine PySem.W.kat_kind (T := .type "int") h1 (by omega) (fun f hm => ?_) (by rfl) ?_
  · obtain ⟨x, t, rfl⟩ := h3 f hm
    exact PySem.W.Looks.now
  · have e : (Value.type "int" != Value.type "tuple") = true := by first | decide +kernel | rfl | decide
    rw [e]
    exact hq
theorem sorted_trips {l : Addr} {vs : List Value} {k : Value → Int} {Q : Value → Shared → Prop} (hl : s.heap.IsList l vs.toArray) (hz : vs.length ≤ sizeLine) (hp : ∀ v ∈ vs, IsTrip s.heap v (k v)) (hd : ∀ v ∈ vs, ∀ u ∈ vs, k v = k u → v = u)
    (h : ∀ (h' : Heap) (d : Addr) (out : List Value), Srtd (ltI k) out → Stb (ltI k) out vs → (∀ b o, s.heap.get? b = some o → h'.get? b = some o) → s.heap.objs.size ≤ d → (∃ n, h'.get? d = some (seqObj "list" out.toArray n)) → Q (.ref d) { s with heap := h' }) :
    wpAny (model prog w) A (call (.builtin "sorted") [.ref l]) Q E s := by
  refine sorted_ord (swo_ltI k) hl hz (fun h2 h₁ a ha kk => ?_) fun out hs hb => ?_
  · refine trip_sortable (s := { s with heap := h₁ }) (by omega) (fun v hm => (hp v hm).keeps fun b o e _ => (kk b o e).2) hd fun o e => ?_
    have e' : some o = some (seqObj "list" vs.toArray 0) := e.symm.trans ha
    cases e'
    intro c
    exact absurd (Value.type.inj c) (by decide)
  · exact h _ _ out hs hb (fun b o e => sortedAll_old e) (Nat.le_succ _) (sortedAll_at s.heap vs out.toArray)
end
def rSortedT (K : PySem.W.Frag) : List V → Hp → VK → Prop := fun vs H Q => ∃ (a : Addr) (xs : List V) (k : V → Int), vs = [V.ref a] ∧ SqL K H a xs ∧ (∀ x ∈ xs, ∃ t y z, x = V.ref t ∧ H t = some (.tup [.int (k x), .int y, z])) ∧ (∀ x ∈ xs, ∀ y ∈ xs, k x = k y → x = y) ∧
  ∀ ys p, Srtd (ltI k) ys → ys.Perm xs → H p = none → Q (.ref p) (upd H p (.lst ys))
section
variable {X : Cx}
theorem cr_sortedT : CallR X (.builtin "sorted") (rSortedT X.K) := by
  intro pins s σ H vs us Q I r h
  obtain ⟨a, xs, k, rfl, hs, hx, hdis, q⟩ := h
  obtain ⟨its, rv, hl, hz⟩ := I.list hs
  obtain ⟨u, rfl, ru⟩ := vals1 r
  obtain rfl : u = Value.ref a := ru
  obtain ⟨e1, e2⟩ := refs_back rv fun x m => by
    obtain ⟨t, _, _, e, _⟩ := hx x m
    exact ⟨t, e⟩
  refine sorted_trips (k := fun u => k (backV u)) hl.isList (by rw [← rv.length]; exact hz) (fun v hv => ?_) (fun v hv u hu e => ?_) fun h' d out h1 h2 kp hd hn => ?_
  · obtain ⟨t, rfl⟩ := e2 v hv
    have hm : V.ref t ∈ xs := by rw [e1]; exact List.mem_map.mpr ⟨_, hv, rfl⟩
    obtain ⟨t', y, z, e, ht⟩ := hx _ hm
    cases e
    obtain ⟨_, its2, r2, o, ho, hc, n, hd⟩ := I.hok _ _ ht
    cases r2 with
    | cons ri r2 =>
      cases r2 with
      | cons rj r2 =>
        cases r2 with
        | cons rz r2 =>
          cases r2
          obtain ⟨t1, rfl⟩ := ri
          obtain ⟨t2, rfl⟩ := rj
          exact ⟨t, o, t1, y, t2, _, n, rfl, ho, hc, hd⟩
  · obtain ⟨t, rfl⟩ := e2 v hv
    obtain ⟨t', rfl⟩ := e2 u hu
    have hm : V.ref t ∈ xs := by rw [e1]; exact List.mem_map.mpr ⟨_, hv, rfl⟩
    have hm' : V.ref t' ∈ xs := by rw [e1]; exact List.mem_map.mpr ⟨_, hu, rfl⟩
    have := hdis _ hm _ hm' e
    rw [V.ref.inj this]
  · have h3 : ∀ u ∈ out, ∃ a, u = Value.ref a := fun u hu => e2 u (h2.perm.mem_iff.mp hu)
    obtain ⟨n, hn⟩ := hn
    have hb : (out.map backV).Perm xs := by
      rw [e1]
      exact h2.perm.map _
    refine ⟨.ref d, upd H d (.lst (out.map backV)), I.laid (t' := s.toks) kp hd ⟨?_, out, n, vals_back h3, hn⟩, rfl, q _ d (SrtO.srtd_map h1) hb (I.hok.fresh hd)⟩
    rw [hb.length_eq]
    exact hz
end
/-! in data -/
def keyD : D → Int
  | .tup (.int i :: _) => i
  | _ => 0
def keyV (G : Hp) : V → Int
  | .ref t => (match G t with
    | some (.tup (.int i :: _)) => i
    | _ => 0)
  | _ => 0
def isTr (d : D) : Prop := ∃ i j z, d = .tup [.int i, .int j, z]
theorem tr_key {K : PySem.W.Frag} {G : Hp} {d : D} {v : V} (ht : isTr d) (h : IsD K G d v) : keyV G v = keyD d ∧ ∃ t y z, v = V.ref t ∧ G t = some (.tup [.int (keyV G v), .int y, z]) := by
  obtain ⟨i, j, z, rfl⟩ := ht
  obtain ⟨a, vs, rfl, h1, h2⟩ := h
  obtain ⟨v1, r1, rfl, e1, h2⟩ := h2
  obtain ⟨v2, r2, rfl, e2, h2⟩ := h2
  obtain ⟨v3, r3, rfl, e3, h2⟩ := h2
  have h2 : r3 = [] := h2
  have e1 : v1 = .int i := e1
  have e2 : v2 = .int j := e2
  subst h2 e1 e2
  have e : keyV G (.ref a) = i := by
    show (match G a with
      | some (.tup (.int i :: _)) => i
      | _ => 0) = i
    rw [h1]
  rw [e]
  exact ⟨rfl, a, j, v3, rfl, h1⟩
theorem isDs_perm {K : PySem.W.Frag} {G : Hp} {vs ys : List V} (hp : ys.Perm vs) : ∀ {ds : List D}, IsDs K G ds vs → ∃ es : List D, es.Perm ds ∧ IsDs K G es ys := by
  induction hp with
  | nil =>
    intro ds h
    exact ⟨ds, List.Perm.refl _, h⟩
  | cons x hp ih =>
    intro ds h
    cases ds with
    | nil => cases h
    | cons d ds =>
      obtain ⟨v, r, e, h1, h2⟩ := h
      obtain ⟨rfl, rfl⟩ := List.cons.inj e
      obtain ⟨es, p1, p2⟩ := ih h2
      exact ⟨d :: es, p1.cons d, ⟨_, _, rfl, h1, p2⟩⟩
  | swap x y l =>
    intro ds h
    cases ds with
    | nil => cases h
    | cons d ds =>
      obtain ⟨v, r, e, h1, h2⟩ := h
      obtain ⟨rfl, rfl⟩ := List.cons.inj e
      cases ds with
      | nil => cases h2
      | cons d' ds =>
        obtain ⟨v', r', e, h3, h4⟩ := h2
        obtain ⟨rfl, rfl⟩ := List.cons.inj e
        exact ⟨d' :: d :: ds, List.Perm.swap d d' ds, ⟨_, _, rfl, h3, ⟨_, _, rfl, h1, h4⟩⟩⟩
  | trans _ _ ih1 ih2 =>
    intro ds h
    obtain ⟨es, p1, p2⟩ := ih2 h
    obtain ⟨fs, p3, p4⟩ := ih1 p2
    exact ⟨fs, p3.trans p1, p4⟩
theorem key_perm_eq : ∀ {l m : List D}, l.Perm m → l.Pairwise (fun x y => keyD x ≤ keyD y) → m.Pairwise (fun x y => keyD x < keyD y) → l = m
  | [], m, h, _, _ => (List.Perm.eq_nil h.symm).symm
  | x :: l, [], h, _, _ => absurd h.length_eq (by simp)
  | x :: l, y :: m, h, h1, h2 => by
    obtain ⟨a1, a2⟩ := List.pairwise_cons.mp h1
    obtain ⟨b1, b2⟩ := List.pairwise_cons.mp h2
    have e : x = y := by
      rcases List.mem_cons.mp (h.mem_iff.mp (List.mem_cons_self (a := x) (l := l))) with e | hx
      · exact e
      · rcases List.mem_cons.mp (h.mem_iff.mpr (List.mem_cons_self (a := y) (l := m))) with e | hy
        · exact e.symm
        · have := b1 x hx
          have := a1 y hy
          omega
    subst e
    rw [key_perm_eq h.cons_inv a2 b2]
theorem isDs_pair {K : PySem.W.Frag} {G : Hp} : ∀ {es : List D} {ys : List V}, IsDs K G es ys → (∀ d ∈ es, isTr d) → ys.Pairwise (fun x y => keyV G x ≤ keyV G y) → es.Pairwise (fun x y => keyD x ≤ keyD y)
  | [], _, _, _, _ => List.Pairwise.nil
  | d :: es, ys, h, ht, hp => by
    obtain ⟨v, r, rfl, h1, h2⟩ := h
    obtain ⟨p1, p2⟩ := List.pairwise_cons.mp hp
    refine List.pairwise_cons.mpr ⟨fun d' hd' => ?_, isDs_pair h2 (fun x hx => ht x (List.mem_cons_of_mem _ hx)) p2⟩
    obtain ⟨i, hi⟩ := List.mem_iff_getElem?.mp hd'
    obtain ⟨v', e1, e2⟩ := h2.get hi
    have := p1 v' (List.mem_of_getElem? e1)
    rw [(tr_key (ht d (List.mem_cons_self ..)) h1).1, (tr_key (ht d' (List.mem_cons_of_mem _ hd')) e2).1] at this
    exact this
section
variable {X : Cx} {ρ : List Sl} {a : Expr} {sc : Scope} {N : List Str} {tt : Bool} {p pos : Pos} {xs out : List D}
theorem je_so (ok : OkN X N sc tt) (hm : X.mg "sorted" = none) (ha : JD X ρ a (.lst xs)) (ht : ∀ d ∈ xs, isTr d) (hn : (xs.map keyD).Nodup) (ho : out.Perm xs) (hs : out.Pairwise (fun x y => keyD x < keyD y)) (hgl : glB sc "sorted" = true := by decide +kernel)
    (hst : starEach [a] X.env = (false, eval a X.env) :: starEach [] X.env := by rfl) (hpl : (backTo pos (starEach [] X.env)).any (·.1) = false := by rfl) : JD X ρ (.Call (.Name "sorted" p) [a] [] pos) (.lst out) := fun G0 H0 G H σ E Q q => by
  refine wE.of (pe_callB cr_sortedT (ok.gl hgl).1 hm (by decide +kernel) (pa_cons peW pa_nil hst) (he := hst) (hpl := hpl)) (ha G0 H0 G H σ E _ fun v G1 H1 g1 i1 => ?_)
  obtain ⟨b, vs, rfl, h1, h2⟩ := i1
  refine ⟨b, vs, keyV G1, rfl, SqL.of (g1.sub _ _ h1), fun x hx => ?_, fun x hx y hy e => ?_, fun ys p hsr hpm np => ?_⟩
  · obtain ⟨i, hi⟩ := List.mem_iff_getElem?.mp hx
    have hlt : i < xs.length := by
      rw [← h2.len]
      exact (List.getElem?_eq_some_iff.mp hi).1
    obtain ⟨v', e1, e2⟩ := h2.get (List.getElem?_eq_getElem hlt)
    rw [hi] at e1
    cases e1
    obtain ⟨_, t, y, z, e3, e4⟩ := tr_key (ht _ (List.getElem_mem hlt)) e2
    exact ⟨t, y, z, e3, g1.sub _ _ e4⟩
  · obtain ⟨i, hi⟩ := List.mem_iff_getElem?.mp hx
    obtain ⟨j, hj⟩ := List.mem_iff_getElem?.mp hy
    have hli : i < xs.length := by
      rw [← h2.len]
      exact (List.getElem?_eq_some_iff.mp hi).1
    have hlj : j < xs.length := by
      rw [← h2.len]
      exact (List.getElem?_eq_some_iff.mp hj).1
    obtain ⟨v', e1, e2⟩ := h2.get (List.getElem?_eq_getElem hli)
    rw [hi] at e1
    cases e1
    obtain ⟨v', e3, e4⟩ := h2.get (List.getElem?_eq_getElem hlj)
    rw [hj] at e3
    cases e3
    rw [(tr_key (ht _ (List.getElem_mem hli)) e2).1, (tr_key (ht _ (List.getElem_mem hlj)) e4).1] at e
    have e5 : (xs.map keyD)[i]'(by simpa using hli) = (xs.map keyD)[j]'(by simpa using hlj) := by simpa using e
    have e6 : i = j := by
      have hp := List.pairwise_iff_getElem.mp hn
      rcases Nat.lt_trichotomy i j with h | h | h
      · exact absurd e5 (hp i j _ _ h)
      · exact h
      · exact absurd e5.symm (hp j i _ _ h)
    subst e6
    rw [hi] at hj
    exact Option.some.inj hj
  · obtain ⟨es, p1, p2⟩ := isDs_perm hpm h2
    have hte : ∀ d ∈ es, isTr d := fun d hd => ht d (p1.mem_iff.mp hd)
    have hsr' : ys.Pairwise (fun x y => keyV G1 x ≤ keyV G1 y) := List.Pairwise.imp (fun h => by
      have h : ¬ _ < _ := of_decide_eq_false h
      omega) hsr
    have e : es = out := key_perm_eq (p1.trans ho.symm) (isDs_pair p2 hte hsr') hs
    subst e
    exact new_lst (d := .non) g1 q p2 np
end
end DL
-- DL21
/-! Rules for texts as lists of signs. -/
namespace DL
open PySem PySem.Spec PyProof.Rows L2 RW M
open SX (S S_len S_cat S_inj)
abbrev sD (w : List Nat) : D := .str (S w)
section
variable {X : Cx} {ρ : List Sl} {a b e o : Expr} {sc : Scope} {N : List Str} {tt : Bool} {p pos apos : Pos} {x y u : List Nat}
theorem je_cS (ha : JD X ρ a (sD x)) (hb : JD X ρ b (sD y)) (hl : x.length + y.length ≤ 16777216) : JD X ρ (.BinOp a .Add b pos) (sD (x ++ y)) := by
  refine JD.eq (je_bin ha hb (bk_addS ?_)) (by rw [S_cat])
  rw [S_len, S_len]
  exact hl
theorem je_sN {i : Int} (ok : OkN X N sc tt) (hm : X.mg "str" = none) (ha : JD X ρ a (.int i)) (h0 : 0 ≤ i) (hb : i < 2 ^ 62) (hgl : glB sc "str" = true := by decide +kernel) (hs : starEach [a] X.env = (false, eval a X.env) :: starEach [] X.env := by rfl) (hpl : (backTo pos (starEach [] X.env)).any (·.1) = false := by rfl) : JD X ρ (.Call (.Name "str" p) [a] [] pos) (sD (num i)) := by
  refine JD.eq (je_sI ok hm ha ?_ hgl hs hpl) (congrArg D.str (str_num h0))
  have : i.natAbs < 2 ^ 62 := by omega
  by_cases h : i.natAbs = 0
  · rw [h]
    decide
  · have := (Nat.log2_lt h).mpr this
    omega
theorem je_lit {t : Str} {w : List Nat} {j p} (h : t.cps.toList = w) : JD X ρ (.Constant (.str t) j p) (sD w) := JD.eq je_str (congrArg D.str (by rw [← h]))
theorem je_jS {s : List Nat} {ws : List (List Nat)} (ha : JD X ρ o (sD s)) (hb : JD X ρ e (.lst (ws.map sD))) (hl : (TL.joinL s ws).length + s.length ≤ 16777216) (hs : starEach [e] X.env = [(false, eval e X.env)] := by rfl) (hbase : attributeBase o "join" X.env (eval o X.env) = eval o X.env := by rfl) (hline : (apos.endLine == pos.line) = true := by rfl) :
    JD X ρ (.Call (.Attribute o "join" apos) [e] [] pos) (sD (TL.joinL s ws)) := by
  refine JD.eq (je_join (ts := ws.map S) ha (JD.eq hb (by rw [List.map_map]; rfl)) ?_ hs hbase hline) (by rw [SX.join_S])
  rw [SX.lens, List.length_map, S_len]
  by_cases h : ws = []
  · subst h
    simp
  · have := len_joinL s ws h
    have e : (ws.map fun x => x.length).sum = (ws.map List.length).sum := rfl
    omega
theorem je_spS {s : List Nat} (ha : JD X ρ o (sD x)) (hb : JD X ρ e (sD s)) (hne : s ≠ []) (hk : s.all (· < 256) = true) (hl : x.length ≤ 16000000) (hs : starEach [e] X.env = [(false, eval e X.env)] := by rfl) (hbase : attributeBase o "split" X.env (eval o X.env) = eval o X.env := by rfl) (hline : (apos.endLine == pos.line) = true := by rfl) :
    JD X ρ (.Call (.Attribute o "split" apos) [e] [] pos) (.lst ((TL.spl s 0 [] x).map sD)) := by
  refine JD.eq (je_split ha hb ?_ ?_ hs hbase hline) (by rw [SX.split_S hne hk, List.map_map]; rfl)
  · rw [S_len]
    cases s with
    | nil => exact absurd rfl hne
    | cons => rfl
  · rw [S_len]
    have : 16000000 + 2 ≤ sizeLine := by decide
    omega
theorem je_paS {s q r : List Nat} (ha : JD X ρ o (sD x)) (hb : JD X ρ e (sD s)) (h : TL.par s [] x = some (q, r)) (hne : s ≠ []) (hl : x.length ≤ 16000000) (hs : starEach [e] X.env = [(false, eval e X.env)] := by rfl) (hbase : attributeBase o "partition" X.env (eval o X.env) = eval o X.env := by rfl) (hline : (apos.endLine == pos.line) = true := by rfl) :
    JD X ρ (.Call (.Attribute o "partition" apos) [e] [] pos) (.tup [sD q, sD s, sD r]) := by
  refine JD.eq (je_partition ha hb ?_ ?_ hs hbase hline) (by rw [SX.partition_some hne h])
  · rw [S_len]
    cases s with
    | nil => exact absurd rfl hne
    | cons => rfl
  · rw [S_len]
    have : 16000000 + 2 ≤ sizeLine := by decide
    omega
theorem je_paN {s : List Nat} (ha : JD X ρ o (sD x)) (hb : JD X ρ e (sD s)) (h : TL.par s [] x = none) (hne : s ≠ []) (hl : x.length ≤ 16000000) (hs : starEach [e] X.env = [(false, eval e X.env)] := by rfl) (hbase : attributeBase o "partition" X.env (eval o X.env) = eval o X.env := by rfl) (hline : (apos.endLine == pos.line) = true := by rfl) :
    JD X ρ (.Call (.Attribute o "partition" apos) [e] [] pos) (.tup [sD x, sD [], sD []]) := by
  refine JD.eq (je_partition ha hb ?_ ?_ hs hbase hline) (by rw [SX.partition_none hne h])
  · rw [S_len]
    cases s with
    | nil => exact absurd rfl hne
    | cons => rfl
  · rw [S_len]
    have : 16000000 + 2 ≤ sizeLine := by decide
    omega
end
end DL
-- F14
/-! Texts: must, read_count, read_number, parts_in. -/
namespace DL
open PySem PySem.Spec PyProof.Rows L2 RW M
open SX (S S_len S_cat S_inj)
local macro_rules | `(tactic| walk_at "num") => `(tactic| first
  | with_reducible assumption
  | rfl
  | omega
  | (simp only [decide_eq_true_eq, decide_eq_false_iff_not, Bool.not_eq_true', Bool.not_eq_false', Bool.and_eq_true, Bool.or_eq_false_iff, Bool.not_eq_true, Bool.not_eq_false, Int.not_lt, Int.not_le] at *; omega)
  | skip)
local macro_rules | `(tactic| walk_at "sz") => `(tactic| first
  | with_reducible assumption
  | exact sz_of (by simp only [List.length_cons, List.length_nil, List.length_append, List.length_map, List.length_replicate]; omega)
  | exact sz_lt (by simp only [List.length_cons, List.length_nil, List.length_append, List.length_map, List.length_replicate]; omega)
  | skip)
local macro_rules | `(tactic| walk_at "at") => `(tactic| first
  | with_reducible exact At.z
  | (with_reducible apply At.s; walk_at "at"))
local macro_rules | `(tactic| walk_at "pt") => `(tactic| first
  | with_reducible exact Put.z
  | (with_reducible apply Put.s; walk_at "pt"))
local macro_rules | `(tactic| walk_at "mul") => `(tactic| first
  | assumption
  | (exact Or.inl (Or.inl ⟨by omega, by omega⟩))
  | (exact Or.inl (Or.inr ⟨by omega, by omega⟩))
  | skip)
local macro_rules | `(tactic| walk_at "bk") => `(tactic| first
  | with_reducible assumption
  | with_reducible exact bk_add
  | with_reducible exact bk_sub
  | ((with_reducible apply bk_mul) ; walk_at "mul")
  | ((with_reducible apply @bk_div) <;> walk_at "dl")
  | ((with_reducible apply @bk_mod) <;> walk_at "dl")
  | ((with_reducible apply @bk_cat) <;> walk_at "dl")
  | ((with_reducible apply @bk_addS) <;> walk_at "dl")
  | ((with_reducible apply @bk_rep) <;> walk_at "dl"))
local macro_rules | `(tactic| walk_at "ck") => `(tactic| first
  | with_reducible exact ck_eqI
  | with_reducible exact ck_neI
  | with_reducible exact ck_lt
  | with_reducible exact ck_le
  | with_reducible exact ck_gt
  | with_reducible exact ck_ge
  | with_reducible exact ck_eqS
  | with_reducible exact ck_neS
  | with_reducible exact ck_isN
  | with_reducible exact ck_eqB
  | with_reducible exact ck_inS
  | ((with_reducible apply @ck_inL) <;> walk_at "dl")
  | ((with_reducible apply @ck_inT) <;> walk_at "dl")
  | ((with_reducible apply @ck_ninL) <;> walk_at "dl")
  | ((with_reducible apply @ck_eqD) <;> first | (exact Room.ofX (by assumption)) | walk_at "dl")
  | ((with_reducible apply @ck_neD) <;> first | (exact Room.ofX (by assumption)) | walk_at "dl"))
local macro_rules | `(tactic| walk_at "ik") => `(tactic| first
  | ((with_reducible apply @ik_L) <;> walk_at "dl")
  | ((with_reducible apply @ik_T) <;> walk_at "dl")
  | ((with_reducible apply @ik_S) <;> walk_at "dl"))
local macro_rules | `(tactic| walk_at "sk") => `(tactic| first
  | with_reducible exact sk_L
  | with_reducible exact sk_R
  | ((with_reducible apply @sk_S) <;> walk_at "dl")
  | ((with_reducible apply @sk_T) <;> walk_at "dl"))
local macro_rules | `(tactic| walk_at "lk") => `(tactic| first
  | with_reducible exact lk_L
  | with_reducible exact lk_T
  | ((with_reducible apply @lk_S) <;> walk_at "dl"))
local macro_rules | `(tactic| walk_at "mg") => `(tactic| first
  | with_reducible exact Ctx.f_len (by assumption)
  | with_reducible exact Ctx.f_max (by assumption)
  | with_reducible exact Ctx.f_list (by assumption)
  | with_reducible exact Ctx.f_reversed (by assumption)
  | with_reducible exact Ctx.f_range (by assumption)
  | with_reducible exact Ctx.f_enumerate (by assumption)
  | with_reducible exact Ctx.f_zip (by assumption)
  | with_reducible exact Ctx.f_all (by assumption)
  | with_reducible exact Ctx.f_any (by assumption)
  | with_reducible exact Ctx.f_isinstance (by assumption)
  | with_reducible exact Ctx.f_str (by assumption)
  | with_reducible exact Ctx.f_int (by assumption)
  | with_reducible exact Ctx.f_min (by assumption)
  | with_reducible exact Ctx.f_sorted (by assumption)
  | with_reducible exact Ctx.f_tuple (by assumption)
  | with_reducible exact Ctx.f_bool (by assumption))
local macro_rules | `(tactic| walk_at "call") => `(tactic| first
  | ((with_reducible show JD _ _ (Expr.Call (Expr.Name (PySem.Str.ofString "len") _) _ _ _) _); (first | ((with_reducible apply @je_olen) <;> (first | ((with_reducible show At _ _ _ _ _); walk_at "at") | ((fail_if_success (with_reducible show At _ _ _ _ _)); walk_at "dl"))) | ((with_reducible apply @je_ln) <;> walk_at "dl")))
  | ((with_reducible show JD _ _ (Expr.Call (Expr.Name (PySem.Str.ofString "int") _) _ _ _) _); ((with_reducible apply @je_in) <;> walk_at "dl"))
  | ((with_reducible show JD _ _ (Expr.Call (Expr.Name (PySem.Str.ofString "str") _) _ _ _) _); ((with_reducible apply @je_sI) <;> walk_at "dl"))
  | ((with_reducible show JD _ _ (Expr.Call (Expr.Name (PySem.Str.ofString "max") _) _ _ _) _); ((with_reducible apply @je_mx) <;> walk_at "dl"))
  | ((with_reducible show JD _ _ (Expr.Call (Expr.Name (PySem.Str.ofString "min") _) _ _ _) _); ((with_reducible apply @je_mn) <;> walk_at "dl"))
  | ((with_reducible show JD _ _ (Expr.Call (Expr.Name (PySem.Str.ofString "all") _) _ _ _) _); ((with_reducible apply @je_al) <;> walk_at "dl"))
  | ((with_reducible show JD _ _ (Expr.Call (Expr.Name (PySem.Str.ofString "any") _) _ _ _) _); ((with_reducible apply @je_an) <;> walk_at "dl"))
  | ((with_reducible show JD _ _ (Expr.Call (Expr.Name (PySem.Str.ofString "isinstance") _) [_, Expr.Name (PySem.Str.ofString "int") _] _ _) _); ((with_reducible apply @je_iI) <;> walk_at "dl"))
  | ((with_reducible show JD _ _ (Expr.Call (Expr.Name (PySem.Str.ofString "isinstance") _) [_, Expr.Name (PySem.Str.ofString "bool") _] _ _) _); ((with_reducible apply @je_iI) <;> walk_at "dl"))
  | ((with_reducible show JD _ _ (Expr.Call (Expr.Name (PySem.Str.ofString "isinstance") _) [_, Expr.Name (PySem.Str.ofString "tuple") _] _ _) _); ((with_reducible apply @je_iI) <;> walk_at "dl"))
  | ((with_reducible show JD _ _ (Expr.Call (Expr.Name (PySem.Str.ofString "isinstance") _) [_, Expr.Name (PySem.Str.ofString "list") _] _ _) _); ((with_reducible apply @je_iI) <;> walk_at "dl"))
  | ((with_reducible apply @je_ca) <;> walk_at "dl"))
local macro_rules | `(tactic| walk_at "jd") => `(tactic| first
  | ((with_reducible show JD _ _ (Expr.Name _ _) _); ((with_reducible apply @je_v) <;> walk_at "dl"))
  | ((with_reducible show JD _ _ (Expr.Constant _ _ _) _); (first | exact je_int | exact je_str | exact je_bl | exact je_non))
  | ((with_reducible show JD _ _ (Expr.BinOp _ _ _ _) _); ((with_reducible apply @je_bin) <;> walk_at "dl"))
  | ((with_reducible show JD _ _ (Expr.Compare _ _ _ _) _); ((with_reducible apply @je_cm) <;> walk_at "dl"))
  | ((with_reducible show JD _ _ (Expr.Subscript _ (Expr.Slice none none (some _) _) _) _); ((with_reducible apply @je_revL) <;> walk_at "dl"))
  | ((with_reducible show JD _ _ (Expr.Subscript _ (Expr.Slice _ _ none _) _) _); ((with_reducible apply @je_sl) <;> walk_at "dl"))
  | ((with_reducible show JD _ _ (Expr.Subscript (Expr.Name _ _) _ _) _); (first | ((with_reducible apply @je_oix) <;> (first | ((with_reducible show At _ _ _ _ _); walk_at "at") | ((fail_if_success (with_reducible show At _ _ _ _ _)); walk_at "dl"))) | ((with_reducible apply @je_ix) <;> walk_at "dl")))
  | ((with_reducible show JD _ _ (Expr.Subscript _ _ _) _); ((with_reducible apply @je_ix) <;> walk_at "dl"))
  | ((with_reducible show JD _ _ (Expr.Tuple _ _ _) _); ((with_reducible apply @je_tup) <;> walk_at "dl"))
  | ((with_reducible show JD _ _ (Expr.List _ _) _); ((with_reducible apply @je_lst) <;> walk_at "dl"))
  | ((with_reducible show JD _ _ (Expr.Call _ _ _ _) _); walk_at "call")
  | ((with_reducible show JD _ _ (Expr.BoolOp _ (_ :: _ :: _) _) _); (first | ((with_reducible apply @je_and) <;> first | ((with_reducible show _ = true → _); intro _; walk_at "dl") | walk_at "dl") | ((with_reducible apply @je_or) <;> first | ((with_reducible show _ = false → _); intro _; walk_at "dl") | walk_at "dl")))
  | ((with_reducible show JD _ _ (Expr.BoolOp _ _ _) _); ((with_reducible apply @je_one) <;> walk_at "dl"))
  | ((with_reducible apply @je_neg) <;> walk_at "dl")
  | ((with_reducible apply @je_not) <;> walk_at "dl"))
local macro_rules | `(tactic| walk_at "jw") => `(tactic| first
  | ((with_reducible apply @jw_and) <;> first | ((with_reducible show _ = _ → _); intro _; walk_at "dl") | walk_at "dl")
  | ((with_reducible apply @jw_or) <;> first | ((with_reducible show _ = _ → _); intro _; walk_at "dl") | walk_at "dl")
  | ((with_reducible apply @jw_and1) <;> walk_at "dl")
  | ((with_reducible apply @jw_or1) <;> walk_at "dl"))
local macro_rules | `(tactic| walk_at "jt") => `(tactic| first
  | ((with_reducible show JT _ _ (Expr.Compare _ _ _ _) _); ((with_reducible apply @jt_cm) <;> walk_at "dl"))
  | ((with_reducible show JT _ _ (Expr.BoolOp _ _ _) _); (first | ((with_reducible apply @jt_and) <;> first | ((with_reducible show _ = _ → _); intro _; walk_at "dl") | walk_at "dl") | ((with_reducible apply @jt_or) <;> first | ((with_reducible show _ = _ → _); intro _; walk_at "dl") | walk_at "dl")))
  | ((with_reducible apply @jt_not) <;> walk_at "dl")
  | ((with_reducible apply @jt_val) <;> walk_at "dl"))
local macro_rules | `(tactic| walk_at "dl") => `(tactic| first
  | ((with_reducible show JD _ _ _ _); walk_at "jd")
  | ((with_reducible show JT _ _ _ _); walk_at "jt")
  | ((with_reducible show JA _ _ _ _); (first | (with_reducible exact ja_nil) | ((with_reducible apply @ja_cons) <;> walk_at "dl")))
  | ((with_reducible show OkN _ _ _ _); with_reducible assumption)
  | ((with_reducible show At _ _ _ _ _); walk_at "at")
  | ((with_reducible show Put _ _ _ _ _ _); walk_at "pt")
  | ((with_reducible show visB _ _ = true); decide +kernel)
  | ((with_reducible show glB _ _ = true); decide +kernel)
  | ((with_reducible show locB _ _ _ = true); decide +kernel)
  | ((with_reducible show Cx.mg _ _ = none); walk_at "mg")
  | ((with_reducible show BinK _ _ _ _ _); walk_at "bk")
  | ((with_reducible show CmpK _ _ _ _ _); walk_at "ck")
  | ((with_reducible show IxK _ _ _ _); walk_at "ik")
  | ((with_reducible show JW _ _ _ _); walk_at "jw")
  | ((with_reducible show SlK _ _ _ _ _ _ _); walk_at "sk")
  | ((with_reducible show LenK _ _); walk_at "lk")
  | ((with_reducible show IntK _ _); (constructor <;> walk_at "num"))
  | ((with_reducible show JO _ _ _ _); (first | (with_reducible exact jo_none) | ((with_reducible apply @jo_some) <;> walk_at "dl")))
  | ((with_reducible show Fn _ _ _ _ _ _ _ _ _); with_reducible assumption)
  | ((with_reducible show Room _ _); with_reducible assumption)
  | ((with_reducible show PlainIx _); exact fun _ _ => rfl)
  | ((with_reducible show behindInMarks _ _ = false); (first | exact nomark _ | rfl))
  | ((with_reducible show IpK _ _ _ _ _); (first | with_reducible exact ip_addI | with_reducible exact ip_subI | ((with_reducible apply @ip_addStr) <;> walk_at "dl")))
  | ((with_reducible show EqOk _); (first | with_reducible assumption | exact eqok_ints _ | exact eqok_prs _ | exact eqok_nil))
  | ((with_reducible show PIp _ _ _); (first | exact ip_add | exact ip_sub))
  | ((with_reducible show bootBuiltins _ = _); decide +kernel)
  | ((with_reducible show _ ≤ PySem.sizeLine); walk_at "sz")
  | ((with_reducible show _ < PySem.sizeLine); walk_at "sz")
  | ((with_reducible show _ ≠ _); (first | assumption | decide))
  | ((with_reducible show atI _ _ = some _); (first | with_reducible assumption | rfl | skip))
  | ((with_reducible show ixN _ _ = some _); (first | with_reducible assumption | rfl | skip))
  | ((with_reducible show _ = _); (first | with_reducible assumption | rfl | walk_at "num"))
  | ((with_reducible show Nat); skip)
  | ((with_reducible show Int); skip)
  | ((with_reducible show D); skip)
  | ((with_reducible show Bool); skip)
  | ((with_reducible show List _); skip)
  | ((with_reducible show Option _); skip)
  | ((with_reducible show PySem.Str); skip)
  | ((with_reducible show Sl); skip)
  | ((with_reducible show Oc); skip)
  | ((with_reducible show Prop); skip)
  | ((with_reducible show PySem.Expr); skip)
  | ((with_reducible show PySem.Addr); skip)
  | ((with_reducible show Scope); skip)
  | ((with_reducible show String); skip)
  | ((with_reducible show List D → D → Prop); skip)
  | ((with_reducible show (_ : Prop)); (first | with_reducible assumption | omega | (exact fun a b c d hm => pe_bm PySem.F.plainAttrs_list PySem.F.slot_list_append PySem.F.type_list_append hm (pe_var a b c d) (pa_cons peW pa_nil)) | (constructor <;> walk_at "num") | (intro _; rfl) | (intro _ _ _; rfl)))
  | skip)
local macro_rules | `(tactic| walk_at "de") => `(tactic| first
  | ((with_reducible apply @JD.eq) <;> walk_at "dl"))
local macro_rules | `(tactic| walk_at "te") => `(tactic| first
  | ((with_reducible apply @JT.eq) <;> walk_at "dl"))
local macro_rules | `(tactic| walk_at "wk") => `(tactic| first
  | exact Wk.nil
  | (refine Wk.no ?_; walk_at "wk")
  | (refine Wk.same ?_; walk_at "wk")
  | (refine Wk.sameE ?_ ?_; rotate_left; walk_at "wk"))
local macro_rules | `(tactic| walk_at "jg") => `(tactic| first
  | ((with_reducible show JG _ _ (Expr.Name _ _) _ _ _); ((with_reducible apply @jg_v) <;> walk_at "dl"))
  | ((with_reducible show JG _ _ (Expr.Tuple _ _ _) (D.tup _) _ _); ((with_reducible apply @jg_tup) <;> first | ((with_reducible show JGs _ _ _ _ _ _); walk_at "jgs") | rfl)))
local macro_rules | `(tactic| walk_at "jgs") => `(tactic| first
  | with_reducible exact jgs_nil
  | ((with_reducible apply @jgs_cons) <;> first | ((with_reducible show JG _ _ _ _ _ _); walk_at "jg") | ((with_reducible show JGs _ _ _ _ _ _); walk_at "jgs") | ((with_reducible show (_ = _)); rfl) | skip))
local macro_rules | `(tactic| walk_at "s") => `(tactic| first
  | ((with_reducible apply jb_cons); walk_at "js"))
local macro_rules | `(tactic| walk_at "rt") => `(tactic| first
  | ((with_reducible apply JB.eq); ((with_reducible apply jb_stop); walk_at "js")))
local macro_rules | `(tactic| walk_at "ss") => `(tactic| first
  | with_reducible exact jb_nil
  | ((with_reducible apply jb_cons); walk_at "js"; walk_at "ss")
  | skip)
local macro_rules | `(tactic| walk_at "bw") => `(tactic| first
  | ((with_reducible apply JB.wk); walk_at "ss"; walk_at "wk"))
local macro_rules | `(tactic| walk_at "js") => `(tactic| first
  | ((with_reducible apply @js_st) <;> walk_at "dl")
  | ((with_reducible apply @js_au) <;> walk_at "dl")
  | ((with_reducible apply @js_ret) <;> walk_at "dl")
  | ((with_reducible apply @js_app) <;> walk_at "dl")
  | ((with_reducible apply @js_six) <;> walk_at "dl")
  | ((with_reducible apply @js_aix) <;> walk_at "dl"))
section
variable {P : Program} {w : World} {K : PySem.W.Frag} {mg : Str → Option Value} {base : Heap} {k : Nat} {R : List D → D → Prop}
inductive Rmust : List D → D → Prop
  | mk : Rmust [.bl true] .non
theorem fn_must (c : Ctx w K mg base) : Fn P w K mg base 1 "must" 1 Rmust := by
  refine c.df 22 ["fine"] ["fine"] (h := ?_)
  rintro cdv A outer s H E hr ok _ _ - ⟨⟩
  exact bodyE (ρ' := [.d (.bl true)]) (.nx [.d (.bl true)]) (jb_one (js_ifF (by walk_at "te") jb_nil)) (Wk.refl _) rfl
theorem at_head (c : Nat) (r : List Nat) : atI (c :: r) 0 = some c := by
  unfold atI ixN
  rw [if_pos (by decide), if_pos (by rw [List.length_cons]; omega)]
  rfl
inductive Rcount : List D → D → Prop
  | mk (i : Int) (h0 : 0 ≤ i) (hb : i < 2 ^ 60) : Rcount [.str (S (num i))] (.int i)
theorem num_all (i : Int) : ∀ c ∈ num i, c ∈ (("0123456789" : Str).cps.toList) := by
  intro c hc
  have h := TL.numL_digits i.toNat c hc
  have e : c = 48 ∨ c = 49 ∨ c = 50 ∨ c = 51 ∨ c = 52 ∨ c = 53 ∨ c = 54 ∨ c = 55 ∨ c = 56 ∨ c = 57 := by omega
  rcases e with rfl | rfl | rfl | rfl | rfl | rfl | rfl | rfl | rfl | rfl <;> decide
theorem S_ne_nil {l : List Nat} (h : l ≠ []) : ¬ S l = ("" : Str) := fun e => h (S_inj (e.trans (show ("" : Str) = S [] from rfl)))
theorem S_eq_lit {l m : List Nat} {t : Str} (ht : t.cps.toList = m) : decide (S l = t) = decide (l = m) := by
  have e : t = S m := by
    rw [← ht]
  rw [e]
  exact decide_eq_decide.mpr ⟨fun h => S_inj h, fun h => by rw [h]⟩
theorem int_back {i : Int} (h0 : 0 ≤ i) (hb : i < 2 ^ 60) : PySem.intText? (S (num i)) = some i := by
  have hl := num_len hb
  unfold num at hl ⊢
  obtain ⟨n, rfl⟩ := Int.eq_ofNat_of_zero_le h0
  rw [Int.toNat_natCast] at hl ⊢
  rw [← SX.num_S]
  exact TL.int_num (by omega)
theorem fn_read_count (c : Ctx w K mg base) : Fn P w K mg base 2 "read_count" 1 Rcount := by
  have Fm : Fn P w K mg base 1 "must" 1 Rmust := fn_must c
  refine c.df 23 ["word", "mark"] ["word"] (h := ?_)
  rintro cdv A outer s H E hr ok _ _ - ⟨i, h0, hb⟩
  have hl := num_len hb
  have hne := num_ne i
  have hsl : (S (num i)).length = (num i).length := S_len _
  obtain ⟨ch, r, hcr⟩ : ∃ ch r, num i = ch :: r := by
    cases h : num i with
    | nil => exact absurd h hne
    | cons ch r => exact ⟨ch, r, rfl⟩
  have hz : (S (num i)).length ≤ sizeLine := by
    rw [hsl]
    exact Nat.le_trans hl (by decide)
  have h0' : i = 0 ∨ ch ≠ 48 := by
    by_cases e : ch = 48
    · have := numL_h0 i.toNat ch r hcr e
      omega
    · exact .inr e
  refine bodyR (ρ' := [.d (.str (S (num i))), .no]) (Wk.refl _) ?_
  refine jb_cons (ρ1 := [.d (.str (S (num i))), .no]) (js_expr (je_ca ok Fm hr (ja_cons (JD.eq (d := .bl (!decide (S (num i) = ("" : Str)) && (decide (((S (num i)).length : Int) ≤ 60) && true))) (je_and (by walk_at "dl") fun _ => je_and (je_cm (je_ln ok c.f_len (by walk_at "dl") (lk_S hz)) (je_gi ok (c.int 75)) ck_le) fun _ => je_one (JD.eq (je_al (bs := (num i).map fun _ => true) ok c.f_all (JD.eq (je_cp [("mark", 1)] ok (ji_str (t := S (num i)) (by walk_at "dl")) [.d (.str (S (num i))), .no] (comp_m (f := fun ch : Nat => D.str ⟨#[ch]⟩) (g := fun _ => .bl true) (l := num i) fun ch hch => ⟨[.d (.str (S (num i))), .d (.str ⟨#[ch]⟩)], [1], by simp, blk_i ok fun s H C cl fp okb => by walk_at "jg", blk_i ok fun s H C cl fp okb => ?_⟩) ?_) ?_)) ?_)) ?_) ja_nil) .mk (by omega))) ?_
  · refine JD.eq (je_cm (by walk_at "dl") (by walk_at "dl") ck_inS) ?_
    rw [decide_eq_true (num_all i ch hch)]
  · rw [List.length_map]
    omega
  · rw [List.map_map]
    rfl
  · simp
  · rw [decide_eq_false (S_ne_nil hne), hsl, decide_eq_true (by omega)]
    rfl
  refine jb_cons (ρ1 := [.d (.str (S (num i))), .no]) (js_expr (je_ca ok Fm hr (ja_cons (JD.eq (je_or (c := decide (S (num i) = ("0" : Str))) (by walk_at "dl") fun _ => je_one (je_cm (je_ix (by walk_at "dl") (by walk_at "dl") (ik_S (ch := ch) hz ?_)) (by walk_at "dl") ck_neS)) ?_) ja_nil) .mk (by omega))) ?_
  · show atI (num i) 0 = some ch
    rw [hcr]
    exact at_head ch r
  · rw [S_eq_lit (t := "0") (m := [48]) rfl, show (⟨#[ch]⟩ : Str) = S [ch] from rfl, S_eq_lit (t := "0") (m := [48]) rfl]
    rcases h0' with rfl | hch
    · rfl
    · rw [decide_eq_false (show ¬ [ch] = [48] from fun e => hch (List.cons.inj e).1)]
      simp
  refine jb_stop (js_ret (je_in ok c.f_int (by walk_at "dl") (.str _ i (int_back h0 hb) (by rw [hsl]; omega))))
theorem starts_num (i : Int) : Txt.startswith (S (num i)) "-" = false := by
  cases h : num i with
  | nil => exact absurd h (num_ne i)
  | cons c r =>
    have hc := TL.numL_digits i.toNat c (by
      show c ∈ num i
      rw [h]
      exact List.mem_cons_self)
    rw [show c :: r = [c] ++ r from rfl, ← S_cat, PySem.W.KAf.starts_left (by rw [S_len]; exact Nat.le_refl 1)]
    have e : c = 48 ∨ c = 49 ∨ c = 50 ∨ c = 51 ∨ c = 52 ∨ c = 53 ∨ c = 54 ∨ c = 55 ∨ c = 56 ∨ c = 57 := by omega
    rcases e with rfl | rfl | rfl | rfl | rfl | rfl | rfl | rfl | rfl | rfl <;> decide
theorem at_last (l : List Nat) : atI (brk l) (-1) = some 41 := by
  have e : ixN (brk l).length (-1) = some (l.length + 1) := by
    rw [len_brk]
    unfold ixN
    rw [if_neg (by decide), if_pos (by omega)]
    congr 1
    omega
  unfold atI
  rw [e]
  show (40 :: (l ++ [41]))[l.length + 1]? = some 41
  rw [List.getElem?_cons_succ, List.getElem?_append_right (Nat.le_refl _), Nat.sub_self]
  rfl
theorem ixN_last {n : Nat} : ixN (n + 1) (-1) = some n := by
  unfold ixN
  rw [if_neg (by decide), if_pos (by omega)]
  congr 1
  omega
inductive Rnumber : List D → D → Prop
  | mk (i : Int) (h0 : 0 ≤ i) (hb : i < 2 ^ 60) : Rnumber [.str (S (num i))] (.int i)
theorem fn_read_number (c : Ctx w K mg base) : Fn P w K mg base 3 "read_number" 1 Rnumber := by
  have Fc : Fn P w K mg base 2 "read_count" 1 Rcount := fn_read_count c
  refine c.df 24 ["word", "number"] ["word"] (h := ?_)
  rintro cdv A outer s H E hr ok _ _ - ⟨i, h0, hb⟩
  refine bodyR (ρ' := [.d (.str (S (num i))), .no]) (Wk.refl _) ?_
  refine jb_if (c := false) (JT.eq (jt_val (je_startswith (u := ("-" : Str)) (by walk_at "dl") (by walk_at "dl"))) ?_) nofun nofun fun _ => ?_
  · exact starts_num i
  · exact jb_stop (js_ret (je_ca ok Fc hr (by walk_at "dl") (.mk i h0 hb) (by omega)))
inductive Rpin : List D → D → Prop
  | mk (l : List Nat) (ps : List (List Nat)) (h : pin l [] [] 0 = some ps) (hne : l ≠ []) (hl : l.length ≤ 8388608) : Rpin [.str (S (brk l))] (.lst (ps.map fun x => D.str (S x)))
theorem pin_some {c : Nat} {r cur : List Nat} {done ps : List (List Nat)} {d : Int} (h : pin (c :: r) done cur d = some ps) : 0 ≤ d + ((if c = 40 then 1 else 0) - (if c = 41 then 1 else 0)) ∧ ((c = 32 ∧ d + ((if c = 40 then 1 else 0) - (if c = 41 then 1 else 0)) = 0 ∧ pin r (done ++ [cur]) [] (d + ((if c = 40 then 1 else 0) - (if c = 41 then 1 else 0))) = some ps) ∨ (¬ (c = 32 ∧ d + ((if c = 40 then 1 else 0) - (if c = 41 then 1 else 0)) = 0) ∧ pin r done (cur ++ [c]) (d + ((if c = 40 then 1 else 0) - (if c = 41 then 1 else 0))) = some ps)) := by
  unfold pin at h
  dsimp only at h
  generalize d + ((if c = 40 then (1 : Int) else 0) - (if c = 41 then 1 else 0)) = d' at h ⊢
  by_cases h1 : d' < 0
  · rw [if_pos h1] at h
    cases h
  rw [if_neg h1] at h
  refine ⟨by omega, ?_⟩
  by_cases h2 : c = 32 ∧ d' = 0
  · rw [if_pos h2] at h
    exact .inl ⟨h2.1, h2.2, h⟩
  · rw [if_neg h2] at h
    exact .inr ⟨h2, h⟩
theorem fn_parts_in (c : Ctx w K mg base) : Fn P w K mg base 2 "parts_in" 1 Rpin := by
  have Fm : Fn P w K mg base 1 "must" 1 Rmust := fn_must c
  refine c.df 26 ["text", "parts", "depth", "mark"] ["text"] (h := ?_)
  rintro cdv A outer s H E hr ok _ _ - ⟨l, ps, h, hne, hl⟩
  have hsl : (S (brk l)).length = l.length + 2 := by rw [S_len, len_brk]
  have hz : (S (brk l)).length ≤ sizeLine := by
    rw [hsl]
    exact Nat.le_trans (Nat.add_le_add_right hl 2) (by decide)
  have hpos : 1 ≤ l.length := by
    cases l with
    | nil => exact absurd rfl hne
    | cons => simp
  have hcut : cutS (S (brk l)) (some 1) (some (-1)) = S l := cut_in l
  refine bodyR (ρ' := [.d (.str (S (brk l))), .no, .no, .no]) (Wk.refl _) ?_
  refine jb_cons (ρ1 := [.d (.str (S (brk l))), .no, .no, .no]) (js_expr (je_ca ok Fm hr (ja_cons (JD.eq (je_and (c := decide (2 < ((S (brk l)).length : Int))) (je_cm (je_ln ok c.f_len (by walk_at "dl") (lk_S hz)) (by walk_at "dl") ck_gt) fun _ => je_and (je_cm (je_ix (by walk_at "dl") (by walk_at "dl") (ik_S (ch := 40) hz ?_)) (by walk_at "dl") ck_eqS) fun _ => je_one (je_cm (je_ix (by walk_at "dl") (by walk_at "dl") (ik_S (ch := 41) hz ?_)) (by walk_at "dl") ck_eqS)) ?_) ja_nil) .mk (by omega))) ?_
  · exact at_head 40 _
  · exact at_last l
  · rw [hsl, decide_eq_true (by omega)]
    exact congrArg D.bl (by decide)
  refine jb_ow ok (xs := [D.str (S [])]) (jn_lst (ja_cons (JD.eq je_str (congrArg D.str (show ("" : Str) = S [] from rfl))) ja_nil)) (fun a => by walk_at "pt") fun a => ?_
  walk_at "s"
  refine jb_cons (ρ1 := [.no, .own a (ps.map fun x => D.str (S x)), .d (.int 0), .no]) (js_forG (f := fun ch : Nat => D.str ⟨#[ch]⟩) (l := l) (fun q : List (List Nat) × List Nat × Int => [.d (.str (S (brk l))), .own a ((q.1 ++ [q.2.1]).map fun x => D.str (S x)), .d (.int q.2.2), .no]) (fun q rest => pin rest q.1 q.2.1 q.2.2 = some ps ∧ q.1.length + rest.length ≤ 8388608 ∧ q.2.1.length + rest.length ≤ 8388608) (.nx [.no, .own a (ps.map fun x => D.str (S x)), .d (.int 0), .no]) ([], [], 0) (JI.conv (ji_str (t := S l) (JD.eq (by walk_at "dl") (by rw [hcut]))) rfl) ⟨h, by simpa using hl, by simpa using hl⟩ (by walk_at "wk") .never rfl ?_ ?_) ?_
  · rintro ⟨done, cur, d⟩ ⟨h, _⟩
    dsimp only at *
    unfold pin at h
    split at h
    · rename_i hd
      cases h
      cases hd
      exact ⟨_, rfl, by walk_at "wk"⟩
    · cases h
  · rintro ⟨done, cur, d⟩ ch r ⟨h, hl1, hl2⟩
    dsimp only at *
    obtain ⟨h1, h2⟩ := pin_some h
    rw [List.length_cons] at hl1 hl2
    refine ⟨_, _, by walk_at "jg", .inr ?_⟩
    have e1 : decide ((⟨#[ch]⟩ : Str) = "(") = decide (ch = 40) := by
      rw [show (⟨#[ch]⟩ : Str) = S [ch] from rfl, S_eq_lit (t := "(") (m := [40]) rfl]
      simp
    have e2 : decide ((⟨#[ch]⟩ : Str) = ")") = decide (ch = 41) := by
      rw [show (⟨#[ch]⟩ : Str) = S [ch] from rfl, S_eq_lit (t := ")") (m := [41]) rfl]
      simp
    have e3 : decide ((⟨#[ch]⟩ : Str) = " ") = decide (ch = 32) := by
      rw [show (⟨#[ch]⟩ : Str) = S [ch] from rfl, S_eq_lit (t := " ") (m := [32]) rfl]
      simp
    generalize hd' : d + ((if ch = 40 then (1 : Int) else 0) - (if ch = 41 then 1 else 0)) = d' at h1 h2
    rcases h2 with ⟨hc, hd0, h2⟩ | ⟨hc, h2⟩
    · refine ⟨(done ++ [cur], [], d'), ⟨h2, by dsimp only; rw [List.length_append]; simp only [List.length_cons, List.length_nil]; omega, by dsimp only; simp only [List.length_nil]; omega⟩, ?_⟩
      refine jb_cons (ρ1 := [.d (.str (S (brk l))), .own a ((done ++ [cur]).map fun x => D.str (S x)), .d (.int d'), .d (.str ⟨#[ch]⟩)]) ?_ ?_
      · rw [← hd']
        refine js_au ok ip_add (by walk_at "dl") (JD.eq (je_bin (je_in ok c.f_int (je_cm (by walk_at "dl") (by walk_at "dl") ck_eqS) (.bl _)) (je_in ok c.f_int (je_cm (by walk_at "dl") (by walk_at "dl") ck_eqS) (.bl _)) bk_sub) ?_) (by walk_at "pt")
        rw [e1, e2]
        simp only [decide_eq_true_eq]
      refine jb_cons (ρ1 := [.d (.str (S (brk l))), .own a ((done ++ [cur]).map fun x => D.str (S x)), .d (.int d'), .d (.str ⟨#[ch]⟩)]) (js_expr (je_ca ok Fm hr (ja_cons (JD.eq (by walk_at "dl") (congrArg D.bl (decide_eq_true h1))) ja_nil) .mk (by omega))) ?_
      refine JB.wk (jb_one (js_ifT (JT.eq (c := decide ((⟨#[ch]⟩ : Str) = " ") && decide (d' = 0)) (by walk_at "dl") ?_) (jb_one (js_app (d := .str (S [])) (ρ' := [.d (.str (S (brk l))), .own a ((done ++ [cur]).map (fun x => D.str (S x)) ++ [.str (S [])]), .d (.int d'), .d (.str ⟨#[ch]⟩)]) ok (by walk_at "at") (by walk_at "dl") (by walk_at "pt") ?_)))) ?_
      · rw [e3, decide_eq_true hc, decide_eq_true hd0]
        rfl
      · rw [List.length_map, List.length_append]
        simp only [List.length_cons, List.length_nil]
        have : (8388608 : Nat) + 1 < sizeLine := by decide
        omega
      · dsimp only
        rw [List.map_append (l₁ := done ++ [cur])]
        walk_at "wk"
    · refine ⟨(done, cur ++ [ch], d'), ⟨h2, by dsimp only; omega, by dsimp only; rw [List.length_append]; simp only [List.length_cons, List.length_nil]; omega⟩, ?_⟩
      have hx : ((done ++ [cur]).map fun x => D.str (S x))[done.length]? = some (.str (S cur)) := by
        rw [List.map_append, List.getElem?_append_right (by rw [List.length_map]; exact Nat.le_refl _), List.length_map, Nat.sub_self]
        rfl
      have hset : ((done ++ [cur]).map fun x => D.str (S x)).set done.length (.str (S cur ++ (⟨#[ch]⟩ : Str))) = (done ++ [cur ++ [ch]]).map fun x => D.str (S x) := by
        rw [List.map_append, List.map_append, List.set_append_right _ _ (by rw [List.length_map]; exact Nat.le_refl _), List.length_map, Nat.sub_self, show (⟨#[ch]⟩ : Str) = S [ch] from rfl, S_cat]
        rfl
      have hix : ixN ((done ++ [cur]).map fun x => D.str (S x)).length (-1) = some done.length := by
        rw [List.length_map, List.length_append]
        exact ixN_last
      have hcl : (S cur).length + (⟨#[ch]⟩ : Str).length ≤ sizeLine := by
        rw [S_len, show (⟨#[ch]⟩ : Str).length = 1 from rfl]
        have : (8388608 : Nat) + 1 < sizeLine := by decide
        omega
      refine jb_cons (ρ1 := [.d (.str (S (brk l))), .own a ((done ++ [cur]).map fun x => D.str (S x)), .d (.int d'), .d (.str ⟨#[ch]⟩)]) ?_ ?_
      · rw [← hd']
        refine js_au ok ip_add (by walk_at "dl") (JD.eq (je_bin (je_in ok c.f_int (je_cm (by walk_at "dl") (by walk_at "dl") ck_eqS) (.bl _)) (je_in ok c.f_int (je_cm (by walk_at "dl") (by walk_at "dl") ck_eqS) (.bl _)) bk_sub) ?_) (by walk_at "pt")
        rw [e1, e2]
        simp only [decide_eq_true_eq]
      refine jb_cons (ρ1 := [.d (.str (S (brk l))), .own a ((done ++ [cur]).map fun x => D.str (S x)), .d (.int d'), .d (.str ⟨#[ch]⟩)]) (js_expr (je_ca ok Fm hr (ja_cons (JD.eq (by walk_at "dl") (congrArg D.bl (decide_eq_true h1))) ja_nil) .mk (by omega))) ?_
      refine JB.wk (jb_one (js_ifF (JT.eq (c := decide ((⟨#[ch]⟩ : Str) = " ") && decide (d' = 0)) (by walk_at "dl") ?_) (jb_one (js_aix (x := .str (S cur)) (y := .str ⟨#[ch]⟩) (z := .str (S cur ++ (⟨#[ch]⟩ : Str))) (k := -1) (q := done.length) (ρ' := [.d (.str (S (brk l))), .own a (((done ++ [cur]).map fun x => D.str (S x)).set done.length (.str (S cur ++ (⟨#[ch]⟩ : Str)))), .d (.int d'), .d (.str ⟨#[ch]⟩)]) ok (by walk_at "at") (by walk_at "dl") hix hx (by walk_at "dl") (ip_addStr hcl) (by walk_at "pt"))))) ?_
      · rw [e3]
        by_cases h3 : ch = 32
        · rw [decide_eq_false (fun h => hc ⟨h3, h⟩), Bool.and_false]
        · rw [decide_eq_false h3, Bool.false_and]
      · dsimp only
        rw [hset]
        walk_at "wk"
  · refine jb_cons (ρ1 := [.no, .own a (ps.map fun x => D.str (S x)), .d (.int 0), .no]) (js_expr (je_ca ok Fm hr (ja_cons (JD.eq (by walk_at "dl") (congrArg D.bl (decide_eq_true rfl))) ja_nil) .mk (by omega))) ?_
    refine jb_frz ok (by walk_at "at") (by walk_at "pt") ?_
    exact jb_one (by walk_at "js")
end
-- F15
/-! Papers as texts: written, read. -/
open PySem PySem.Spec PyProof.Rows L2 RW M
open SX (S S_len S_cat S_inj)
section
variable {P : Program} {w : World} {K : PySem.W.Frag} {mg : Str → Option Value} {base : Heap} {k : Nat} {R : List D → D → Prop}
inductive Rtext (k : Nat) : List D → D → Prop
  | mk (t : T) (hd : dep t ≤ k) (hok : okT t = true) (hl : (txtC t).length ≤ 8000000) : Rtext k [pap t] (sD (txtC t))
theorem len_in {t : T} (h : (txtC t).length ≤ 8000000) : (inC t).length + 2 ≤ 8000000 := by
  rw [len_txt] at h
  exact h
theorem kids_few {t : T} : t.ks.length ≤ (inC t).length := by
  have e := len_joinL [32] (num t.q :: num t.g :: pcsC t.ks) (by simp)
  unfold inC
  rw [pcsC_map] at e ⊢
  simp only [List.length_cons, List.length_nil, List.length_map] at e
  have := num_pos t.q
  simp only [List.map_cons, List.sum_cons] at e
  omega
theorem pc_eq (k : T) : [40] ++ num k.r ++ [32] ++ num k.m ++ [32] ++ txtC k ++ [41] = pcC k := by
  unfold pcC brk
  simp [TL.joinL]
theorem fn_show_paper (c : Ctx w K mg base) : ∀ k : Nat, Fn P w K mg base (k + 1) "show_paper" 1 (Rtext k)
  | 0 => by
    refine c.df 25 (k := 0) ["paper", "parts", "r", "often", "inner"] ["paper"] (h := ?_)
    rintro cdv A outer s H E hr ok _ _ - ⟨t, hd, _⟩
    have := dep_pos t
    omega
  | k + 1 => by
    have Fs : Fn P w K mg base (k + 1) "show_paper" 1 (Rtext k) := fn_show_paper c k
    refine c.df 25 (k := k + 1) ["paper", "parts", "r", "often", "inner"] ["paper"] (h := ?_)
    rintro cdv A outer s H E hr ok _ _ - ⟨⟨r, m, q, g, ks⟩, hd, hok, hl⟩
    obtain ⟨_, _, ⟨q0, q1⟩, ⟨g0, g1⟩, hoks⟩ := okT_of hok
    dsimp only [T.q, T.g, T.ks] at q0 q1 g0 g1 hoks
    have hli := len_in hl
    have hfew := kids_few (t := .node r m q g ks)
    unfold dep at hd
    have hks : ∀ x ∈ ks, dep x ≤ k ∧ okT x = true ∧ (txtC x).length ≤ 8000000 ∧ (pcC x).length ≤ (inC (.node r m q g ks)).length := fun x hx => by
      have h1 := len_pc_in (t := .node r m q g ks) hx
      have h2 := len_kid (t := .node r m q g ks) hx
      exact ⟨deps_mem (n := k) (by omega) x hx, okTs_mem hoks x hx, by omega, h1⟩
    refine bodyR (ρ' := [.d (.tup [.int q, .int g, .lst (rowsD ks)]), .no, .no, .no, .no]) (Wk.refl _) ?_
    refine jb_ow ok (xs := [sD (num q), sD (num g)]) (jn_lst (ja_cons (je_sN ok c.f_str (by walk_at "dl") q0 (by omega)) (ja_cons (je_sN ok c.f_str (by walk_at "dl") g0 (by omega)) ja_nil)) (show 2 ≤ sizeLine by decide)) (fun a => by walk_at "pt") fun a => ?_
    refine jb_cons (ρ1 := [.no, .own a ((num q :: num g :: ks.map pcC).map sD), .no, .no, .no]) (js_forG (f := rowD) (l := ks) (fun acc : List T => [.d (.tup [.int q, .int g, .lst (rowsD ks)]), .own a ((num q :: num g :: acc.map pcC).map sD), .no, .no, .no]) (fun acc l => acc ++ l = ks) (.nx [.no, .own a ((num q :: num g :: ks.map pcC).map sD), .no, .no, .no]) [] (ji_list (xs := ks.map rowD) (by rw [← rowsD_map]; walk_at "dl")) (List.nil_append _) (by walk_at "wk") .never rfl ?_ ?_) ?_
    · intro acc h
      rw [List.append_nil] at h
      subst h
      exact ⟨_, rfl, by walk_at "wk"⟩
    · intro acc x l h
      have hx : x ∈ ks := by
        rw [← h]
        simp
      obtain ⟨xd, xok, xl, xp⟩ := hks x hx
      obtain ⟨⟨r0, r1⟩, ⟨m0, m1⟩, _⟩ := okT_of xok
      have hal : acc.length + 1 ≤ ks.length := by
        rw [← h, List.length_append, List.length_cons]
        omega
      refine ⟨_, _, jg_tup (ds := [.int x.r, .int x.m, pap x]) rfl (by walk_at "jgs"), .inr ⟨acc ++ [x], by rw [← h]; simp, ?_⟩⟩
      refine JB.wk (jb_one (js_app (d := sD (pcC x)) (ρ' := [.d (.tup [.int q, .int g, .lst (rowsD ks)]), .own a ((num q :: num g :: acc.map pcC).map sD ++ [sD (pcC x)]), .d (.int x.r), .d (.int x.m), .d (pap x)]) ok (by walk_at "at") ?_ (by walk_at "pt") ?_)) ?_
      · rw [← pc_eq x] at xp ⊢
        simp only [List.length_append, List.length_cons, List.length_nil] at xp
        refine je_cS (je_cS (je_cS (je_cS (je_cS (je_cS (je_lit rfl) (je_sN ok c.f_str (by walk_at "dl") r0 (by omega)) ?_) (je_lit rfl) ?_) (je_sN ok c.f_str (by walk_at "dl") m0 (by omega)) ?_) (je_lit rfl) ?_) (je_ca ok Fs hr (by walk_at "dl") (.mk x xd xok xl) (by omega)) ?_) (je_lit rfl) ?_ <;>
          (simp only [List.length_append, List.length_cons, List.length_nil]; omega)
      · simp only [List.length_map, List.length_cons]
        have : (8000000 : Nat) + 2 < sizeLine := by decide
        dsimp only [T.ks] at hfew
        omega
      · rw [show (num q :: num g :: (acc ++ [x]).map pcC).map sD = (num q :: num g :: acc.map pcC).map sD ++ [sD (pcC x)] by simp]
        walk_at "wk"
    refine jb_frz ok (by walk_at "at") (by walk_at "pt") ?_
    have e : txtC (.node r m q g ks) = [40] ++ TL.joinL [32] (num q :: num g :: ks.map pcC) ++ [41] := by
      rw [txtC_in]
      unfold brk inC
      rw [pcsC_map]
      rfl
    have e2 : (inC (.node r m q g ks)).length = (TL.joinL [32] (num q :: num g :: ks.map pcC)).length := by
      unfold inC
      rw [pcsC_map]
      rfl
    rw [e]
    refine jb_stop (js_ret (je_cS (je_cS (je_lit rfl) (je_jS (je_lit rfl) (by walk_at "dl") ?_) ?_) (je_lit rfl) ?_)) <;>
      (simp only [List.length_append, List.length_cons, List.length_nil]; omega)
theorem fn_law_paper_text (c : Ctx w K mg base) : ∀ k : Nat, Fn P w K mg base (k + 1) "_law_paper_text" 1 (Rtext k)
  | 0 => by
    refine c.df 44 (k := 0) ["_law_paper", "_law_pieces", "_law_r", "_law_many", "_law_inner"] ["_law_paper"] (h := ?_)
    rintro cdv A outer s H E hr ok _ _ - ⟨t, hd, _⟩
    have := dep_pos t
    omega
  | k + 1 => by
    have Fs : Fn P w K mg base (k + 1) "_law_paper_text" 1 (Rtext k) := fn_law_paper_text c k
    refine c.df 44 (k := k + 1) ["_law_paper", "_law_pieces", "_law_r", "_law_many", "_law_inner"] ["_law_paper"] (h := ?_)
    rintro cdv A outer s H E hr ok _ _ - ⟨⟨r, m, q, g, ks⟩, hd, hok, hl⟩
    obtain ⟨_, _, ⟨q0, q1⟩, ⟨g0, g1⟩, hoks⟩ := okT_of hok
    dsimp only [T.q, T.g, T.ks] at q0 q1 g0 g1 hoks
    have hli := len_in hl
    have hfew := kids_few (t := .node r m q g ks)
    unfold dep at hd
    have hks : ∀ x ∈ ks, dep x ≤ k ∧ okT x = true ∧ (txtC x).length ≤ 8000000 ∧ (pcC x).length ≤ (inC (.node r m q g ks)).length := fun x hx => by
      have h1 := len_pc_in (t := .node r m q g ks) hx
      have h2 := len_kid (t := .node r m q g ks) hx
      exact ⟨deps_mem (n := k) (by omega) x hx, okTs_mem hoks x hx, by omega, h1⟩
    refine bodyR (ρ' := [.d (.tup [.int q, .int g, .lst (rowsD ks)]), .no, .no, .no, .no]) (Wk.refl _) ?_
    refine jb_ow ok (xs := [sD (num q), sD (num g)]) (jn_lst (ja_cons (je_sN ok c.f_str (by walk_at "dl") q0 (by omega)) (ja_cons (je_sN ok c.f_str (by walk_at "dl") g0 (by omega)) ja_nil)) (show 2 ≤ sizeLine by decide)) (fun a => by walk_at "pt") fun a => ?_
    refine jb_cons (ρ1 := [.no, .own a ((num q :: num g :: ks.map pcC).map sD), .no, .no, .no]) (js_forG (f := rowD) (l := ks) (fun acc : List T => [.d (.tup [.int q, .int g, .lst (rowsD ks)]), .own a ((num q :: num g :: acc.map pcC).map sD), .no, .no, .no]) (fun acc l => acc ++ l = ks) (.nx [.no, .own a ((num q :: num g :: ks.map pcC).map sD), .no, .no, .no]) [] (ji_list (xs := ks.map rowD) (by rw [← rowsD_map]; walk_at "dl")) (List.nil_append _) (by walk_at "wk") .never rfl ?_ ?_) ?_
    · intro acc h
      rw [List.append_nil] at h
      subst h
      exact ⟨_, rfl, by walk_at "wk"⟩
    · intro acc x l h
      have hx : x ∈ ks := by
        rw [← h]
        simp
      obtain ⟨xd, xok, xl, xp⟩ := hks x hx
      obtain ⟨⟨r0, r1⟩, ⟨m0, m1⟩, _⟩ := okT_of xok
      have hal : acc.length + 1 ≤ ks.length := by
        rw [← h, List.length_append, List.length_cons]
        omega
      refine ⟨_, _, jg_tup (ds := [.int x.r, .int x.m, pap x]) rfl (by walk_at "jgs"), .inr ⟨acc ++ [x], by rw [← h]; simp, ?_⟩⟩
      refine JB.wk (jb_one (js_app (d := sD (pcC x)) (ρ' := [.d (.tup [.int q, .int g, .lst (rowsD ks)]), .own a ((num q :: num g :: acc.map pcC).map sD ++ [sD (pcC x)]), .d (.int x.r), .d (.int x.m), .d (pap x)]) ok (by walk_at "at") ?_ (by walk_at "pt") ?_)) ?_
      · rw [← pc_eq x] at xp ⊢
        simp only [List.length_append, List.length_cons, List.length_nil] at xp
        refine je_cS (je_cS (je_cS (je_cS (je_cS (je_cS (je_lit rfl) (je_sN ok c.f_str (by walk_at "dl") r0 (by omega)) ?_) (je_lit rfl) ?_) (je_sN ok c.f_str (by walk_at "dl") m0 (by omega)) ?_) (je_lit rfl) ?_) (je_ca ok Fs hr (by walk_at "dl") (.mk x xd xok xl) (by omega)) ?_) (je_lit rfl) ?_ <;>
          (simp only [List.length_append, List.length_cons, List.length_nil]; omega)
      · simp only [List.length_map, List.length_cons]
        have : (8000000 : Nat) + 2 < sizeLine := by decide
        dsimp only [T.ks] at hfew
        omega
      · rw [show (num q :: num g :: (acc ++ [x]).map pcC).map sD = (num q :: num g :: acc.map pcC).map sD ++ [sD (pcC x)] by simp]
        walk_at "wk"
    refine jb_frz ok (by walk_at "at") (by walk_at "pt") ?_
    have e : txtC (.node r m q g ks) = [40] ++ TL.joinL [32] (num q :: num g :: ks.map pcC) ++ [41] := by
      rw [txtC_in]
      unfold brk inC
      rw [pcsC_map]
      rfl
    have e2 : (inC (.node r m q g ks)).length = (TL.joinL [32] (num q :: num g :: ks.map pcC)).length := by
      unfold inC
      rw [pcsC_map]
      rfl
    rw [e]
    refine jb_stop (js_ret (je_cS (je_cS (je_lit rfl) (je_jS (je_lit rfl) (by walk_at "dl") ?_) ?_) (je_lit rfl) ?_)) <;>
      (simp only [List.length_append, List.length_cons, List.length_nil]; omega)
inductive Rrpi (k : Nat) : List D → D → Prop
  | mk (t : T) (j : Int) (hd : dep t ≤ k) (hj : j + dep t ≤ 13) (hok : okT t = true) (hl : (txtC t).length ≤ 8000000) : Rrpi k [sD (txtC t), .int j] (pap t)
theorem at0 (x : D) (l : List D) : atI (x :: l) 0 = some x := by
  unfold atI ixN
  rw [if_pos (by decide), if_pos (by rw [List.length_cons]; omega)]
  rfl
theorem at1 (x y : D) (l : List D) : atI (x :: y :: l) 1 = some y := by
  unfold atI ixN
  rw [if_pos (by decide), if_pos (by rw [List.length_cons, List.length_cons]; omega)]
  rfl
theorem cut_two (x y : D) (l : List D) : cutD (x :: y :: l) (some 2) none = l := by
  unfold cutD
  rw [HT.sIx_none]
  have e : HT.sIx (x :: y :: l).length 0 (some 2) = 2 := by
    refine (HT.sIx_nat _ 0 2).trans ?_
    simp only [List.length_cons]
    omega
  rw [e]
  simp
theorem fn_read_paper_in (c : Ctx w K mg base) : ∀ k : Nat, Fn P w K mg base (k + 3) "read_paper_in" 2 (Rrpi k)
  | 0 => by
    refine c.df 27 (k := 2) ["text", "deep", "parts", "rows", "part", "inner"] ["text", "deep"] (h := ?_)
    rintro cdv A outer s H E hr ok _ _ - ⟨t, j, hd, _⟩
    have := dep_pos t
    omega
  | k + 1 => by
    have Fs : Fn P w K mg base (k + 3) "read_paper_in" 2 (Rrpi k) := fn_read_paper_in c k
    have Fm : Fn P w K mg base 1 "must" 1 Rmust := fn_must c
    have Fp : Fn P w K mg base 2 "parts_in" 1 Rpin := fn_parts_in c
    have Fc : Fn P w K mg base 2 "read_count" 1 Rcount := fn_read_count c
    refine c.df 27 (k := k + 3) ["text", "deep", "parts", "rows", "part", "inner"] ["text", "deep"] (h := ?_)
    rintro cdv A outer s H E hr ok _ _ - ⟨⟨r, m, q, g, ks⟩, j, hd, hj, hok, hl⟩
    obtain ⟨_, _, ⟨q0, q1⟩, ⟨g0, g1⟩, hoks⟩ := okT_of hok
    dsimp only [T.q, T.g, T.ks] at q0 q1 g0 g1 hoks
    have hli := len_in hl
    have hfew := kids_few (t := .node r m q g ks)
    dsimp only [T.ks] at hfew
    have hdp := dep_pos (.node r m q g ks)
    have hj12 : j ≤ 12 := by omega
    unfold dep at hd hj
    have hks : ∀ x ∈ ks, dep x ≤ k ∧ j + 1 + dep x ≤ 13 ∧ okT x = true ∧ (txtC x).length ≤ 8000000 ∧ (pcC x).length ≤ (inC (.node r m q g ks)).length := fun x hx => by
      have h1 := len_pc_in (t := .node r m q g ks) hx
      have h2 := len_kid (t := .node r m q g ks) hx
      have h3 := deps_mem (n := deps ks) (Nat.le_refl _) x hx
      exact ⟨deps_mem (n := k) (by omega) x hx, by omega, okTs_mem hoks x hx, by omega, h1⟩
    have hR1 : Rpin [sD (txtC (.node r m q g ks))] (.lst ((num q :: num g :: ks.map pcC).map sD)) := by
      have h := Rpin.mk (inC (.node r m q g ks)) _ (pin_txt _) (by
        intro e
        have h1 : (num (T.node r m q g ks).q).length ≤ (inC (.node r m q g ks)).length := len_mem_join (by simp)
        have := num_pos (T.node r m q g ks).q
        rw [e] at h1
        simp only [List.length_nil] at h1
        omega) (by omega)
      rw [← txtC_in, pcsC_map] at h
      exact h
    refine bodyR (ρ' := [.d (sD (txtC (.node r m q g ks))), .d (.int j), .no, .no, .no, .no]) (Wk.refl _) ?_
    refine jb_cons (ρ1 := [.d (sD (txtC (.node r m q g ks))), .d (.int j), .no, .no, .no, .no]) (js_expr (je_ca ok Fm hr (ja_cons (JD.eq (je_cm (by walk_at "dl") (je_gi ok (c.int 76)) ck_le) (congrArg D.bl (decide_eq_true hj12))) ja_nil) .mk (by omega))) ?_
    refine jb_cons (ρ1 := [.d (sD (txtC (.node r m q g ks))), .d (.int j), .d (.lst ((num q :: num g :: ks.map pcC).map sD)), .no, .no, .no]) (js_st ok (je_ca ok Fp hr (by walk_at "dl") hR1 (by omega)) (by walk_at "pt")) ?_
    refine jb_cons (ρ1 := [.d (sD (txtC (.node r m q g ks))), .d (.int j), .d (.lst ((num q :: num g :: ks.map pcC).map sD)), .no, .no, .no]) (js_expr (je_ca ok Fm hr (ja_cons (JD.eq (je_cm (je_ln ok c.f_len (by walk_at "dl") lk_L) (by walk_at "dl") ck_ge) (congrArg D.bl (decide_eq_true (by simp only [List.length_map, List.length_cons]; omega)))) ja_nil) .mk (by omega))) ?_
    refine jb_ow ok (xs := []) (jn_lst ja_nil) (fun a => by walk_at "pt") fun a => ?_
    refine jb_cons (ρ1 := [.no, .no, .d (.lst ((num q :: num g :: ks.map pcC).map sD)), .own a (ks.map rowD), .no, .no]) (js_forG (f := fun x : T => sD (pcC x)) (l := ks) (fun acc : List T => [.d (sD (txtC (.node r m q g ks))), .d (.int j), .d (.lst ((num q :: num g :: ks.map pcC).map sD)), .own a (acc.map rowD), .no, .no]) (fun acc l => acc ++ l = ks) (.nx [.no, .no, .d (.lst ((num q :: num g :: ks.map pcC).map sD)), .own a (ks.map rowD), .no, .no]) [] (JI.conv (ji_list (xs := cutD ((num q :: num g :: ks.map pcC).map sD) (some 2) none) (by walk_at "dl")) ?_) (List.nil_append _) (by walk_at "wk") .never rfl ?_ ?_) ?_
    · rw [List.map_cons, List.map_cons, cut_two, List.map_map]
      rfl
    · intro acc h
      rw [List.append_nil] at h
      subst h
      exact ⟨_, rfl, by walk_at "wk"⟩
    · intro acc x l h
      have hx : x ∈ ks := by
        rw [← h]
        simp
      obtain ⟨xd, xj, xok, xl, xp⟩ := hks x hx
      obtain ⟨⟨r0, r1⟩, ⟨m0, m1⟩, _⟩ := okT_of xok
      have hal : acc.length + 1 ≤ ks.length := by
        rw [← h, List.length_append, List.length_cons]
        omega
      have hR2 : Rpin [sD (pcC x)] (.lst [sD (num x.r), sD (num x.m), sD (txtC x)]) := by
        refine Rpin.mk (TL.joinL [32] [num x.r, num x.m, txtC x]) _ (pin_pc x) (fun e => ?_) ?_
        · have h1 : (num x.r).length ≤ (TL.joinL [32] [num x.r, num x.m, txtC x]).length := len_mem_join (by simp)
          have := num_pos x.r
          rw [e] at h1
          simp only [List.length_nil] at h1
          omega
        · unfold pcC at xp
          rw [len_brk] at xp
          omega
      refine ⟨[.d (sD (txtC (.node r m q g ks))), .d (.int j), .d (.lst ((num q :: num g :: ks.map pcC).map sD)), .own a (acc.map rowD), .d (sD (pcC x)), .no], _, by walk_at "jg", .inr ⟨acc ++ [x], by rw [← h]; simp, ?_⟩⟩
      refine jb_cons (ρ1 := [.d (sD (txtC (.node r m q g ks))), .d (.int j), .d (.lst ((num q :: num g :: ks.map pcC).map sD)), .own a (acc.map rowD), .d (sD (pcC x)), .d (.lst [sD (num x.r), sD (num x.m), sD (txtC x)])]) (js_st ok (je_ca ok Fp hr (by walk_at "dl") hR2 (by omega)) (by walk_at "pt")) ?_
      refine jb_cons (ρ1 := [.d (sD (txtC (.node r m q g ks))), .d (.int j), .d (.lst ((num q :: num g :: ks.map pcC).map sD)), .own a (acc.map rowD), .d (sD (pcC x)), .d (.lst [sD (num x.r), sD (num x.m), sD (txtC x)])]) (js_expr (je_ca ok Fm hr (ja_cons (JD.eq (je_cm (je_ln ok c.f_len (by walk_at "dl") lk_L) (by walk_at "dl") ck_eqI) (congrArg D.bl (decide_eq_true rfl))) ja_nil) .mk (by omega))) ?_
      refine JB.wk (jb_one (js_app (d := rowD x) (ρ' := [.d (sD (txtC (.node r m q g ks))), .d (.int j), .d (.lst ((num q :: num g :: ks.map pcC).map sD)), .own a (acc.map rowD ++ [rowD x]), .d (sD (pcC x)), .d (.lst [sD (num x.r), sD (num x.m), sD (txtC x)])]) ok (by walk_at "at") ?_ (by walk_at "pt") ?_)) ?_
      · refine je_tup (ja_cons (je_ca ok Fc hr (ja_cons (je_ix (by walk_at "dl") (by walk_at "dl") (ik_L (i := 0) (d := sD (num x.r)) rfl)) ja_nil) (.mk x.r r0 r1) (by omega)) (ja_cons (je_ca ok Fc hr (ja_cons (je_ix (by walk_at "dl") (by walk_at "dl") (ik_L (i := 1) (d := sD (num x.m)) rfl)) ja_nil) (.mk x.m m0 (by omega)) (by omega)) (ja_cons (je_ca ok Fs hr (ja_cons (je_ix (by walk_at "dl") (by walk_at "dl") (ik_L (i := 2) (d := sD (txtC x)) rfl)) (ja_cons (by walk_at "dl") ja_nil)) (.mk x (j + 1) xd xj xok xl) (by omega)) ja_nil))) (show 3 ≤ sizeLine by decide)
      · simp only [List.length_map]
        have : (8000000 : Nat) + 2 < sizeLine := by decide
        omega
      · rw [show (acc ++ [x]).map rowD = acc.map rowD ++ [rowD x] by simp]
        walk_at "wk"
    refine jb_frz ok (by walk_at "at") (by walk_at "pt") ?_
    refine jb_stop (js_ret (JD.eq (je_tup (ja_cons (je_ca ok Fc hr (ja_cons (je_ix (x := .lst ((num q :: num g :: ks.map pcC).map sD)) (y := .int 0) (by walk_at "dl") (by walk_at "dl") (ik_L (at0 _ _))) ja_nil) (.mk q q0 q1) (by omega)) (ja_cons (je_ca ok Fc hr (ja_cons (je_ix (x := .lst ((num q :: num g :: ks.map pcC).map sD)) (y := .int 1) (by walk_at "dl") (by walk_at "dl") (ik_L (at1 _ _ _))) ja_nil) (.mk g g0 g1) (by omega)) (ja_cons (by walk_at "dl") ja_nil))) (show 3 ≤ sizeLine by decide)) ?_))
    unfold pap
    rw [rowsD_map]
inductive Rrp : List D → D → Prop
  | mk (t : T) (hd : dep t ≤ 12) (hok : okT t = true) (hl : (txtC t).length ≤ 8000000) : Rrp [sD (txtC t)] (pap t)
theorem fn_read_paper (c : Ctx w K mg base) : Fn P w K mg base 16 "read_paper" 1 Rrp := by
  have Fs : Fn P w K mg base 15 "read_paper_in" 2 (Rrpi 12) := fn_read_paper_in c 12
  refine c.df 28 (k := 15) ["text"] ["text"] (h := ?_)
  rintro cdv A outer s H E hr ok _ _ - ⟨t, hd, hok, hl⟩
  refine bodyR (ρ' := [.d (sD (txtC t))]) (Wk.refl _) ?_
  exact jb_stop (js_ret (je_ca ok Fs hr (by walk_at "dl") (.mk t 1 hd (by omega) hok hl) (by omega)))
end
-- F16
/-! Rows as texts. -/
open PySem PySem.Spec PyProof.Rows L2 RW M
open SX (S S_len S_cat S_inj)
section
variable {P : Program} {w : World} {K : PySem.W.Frag} {mg : Str → Option Value} {base : Heap} {k : Nat} {R : List D → D → Prop}
def rowC (x : Int × Int) : List Nat := num x.1 ++ (if 1 < x.2 then 94 :: num x.2 else [])
def noneC : List Nat := [110, 111, 110, 101]
def rowsC (rows : List (Int × Int)) : List Nat := if rows = [] then noneC else TL.joinL [32] (rows.map rowC)
def papsC (ts : List T) : List Nat := if ts = [] then noneC else TL.joinL [59, 32] (ts.map txtC)
def byC : List Nat := [32, 98, 121, 32]
def allC (rows : List (Int × Int)) (ts : List T) : List Nat := rowsC rows ++ byC ++ papsC ts
structure RowOk (x : Int × Int) : Prop where
  q0 : 0 ≤ x.1
  q1 : x.1 < 2 ^ 60
  m0 : 1 ≤ x.2
  m1 : x.2 ≤ 100
inductive Rrowsx : List D → D → Prop
  | mk (rows : List (Int × Int)) (h : ∀ x ∈ rows, RowOk x) (hl : (rowsC rows).length ≤ 8000000) (hn : rows.length ≤ 1000) : Rrowsx [.lst (rows.map prD)] (sD (rowsC rows))
theorem rowsC_ne {rows : List (Int × Int)} (h : rows ≠ []) : rowsC rows = TL.joinL [32] (rows.map rowC) := if_neg h
theorem len_row {x : Int × Int} (h : RowOk x) : (rowC x).length ≤ 39 := by
  unfold rowC
  have h1 := num_len h.q1
  rw [List.length_append]
  split
  · have h2 := num_len (i := x.2) (by have := h.m1; omega)
    rw [List.length_cons]
    omega
  · rw [List.length_nil]
    omega
theorem pr_empty (rows : List (Int × Int)) : (rows.map prD).isEmpty = decide (rows = []) := by
  cases rows <;> simp
theorem fn_show_rows (c : Ctx w K mg base) : Fn P w K mg base 1 "show_rows" 1 Rrowsx := by
  refine c.df 29 ["rows", "q", "often"] ["rows"] (h := ?_)
  rintro cdv A outer s H E hr ok _ _ - ⟨rows, h, hl, hn⟩
  refine bodyR (ρ' := [.d (.lst (rows.map prD)), .no, .no]) (Wk.refl _) ?_
  refine jb_if (c := decide (rows = [])) (JT.eq (jt_cm (by walk_at "dl") (by walk_at "dl") (ck_eqD (Room.ofX hr) (eqok_prs _) eqok_nil)) ?_) (fun hc => ?_) (fun _ => ⟨_, rfl⟩) fun hc => ?_
  · rw [eqv_nil, pr_empty]
  · have hc : rows = [] := of_decide_eq_true hc
    subst hc
    exact jb_stop (js_ret (je_lit rfl))
  have hc : rows ≠ [] := of_decide_eq_false hc
  rw [rowsC_ne hc] at hl ⊢
  refine jb_stop (js_ret (je_jS (je_lit rfl) (JD.eq (je_cp [("q", 1), ("often", 2)] ok (ji_list (by walk_at "dl")) [.d (.lst (rows.map prD)), .no, .no] (comp_m (f := prD) (g := fun x => sD (rowC x)) (l := rows) fun x hx => ⟨[.d (.lst (rows.map prD)), .d (.int x.1), .d (.int x.2)], [1] ++ ([2] ++ []), by simp, blk_i ok fun s H C cl fp okb => jg_tup (ds := [.int x.1, .int x.2]) rfl (by walk_at "jgs"), blk_i ok fun s H C cl fp okb => ?_⟩) ?_) ?_) ?_))
  · have hx := h x hx
    refine JD.eq (je_cS (x := num x.1) (y := if 1 < x.2 then 94 :: num x.2 else []) (je_sN okb c.f_str (by walk_at "dl") hx.q0 (by have := hx.q1; omega)) ?_ ?_) rfl
    · refine je_ix (x := .lst [sD [], sD (94 :: num x.2)]) (y := .int (if decide (1 < x.2) then 1 else 0)) (je_lst (ja_cons (je_lit rfl) (ja_cons (JD.eq (je_cS (x := [94]) (y := num x.2) (je_lit rfl) (je_sN okb c.f_str (by walk_at "dl") (by have := hx.m0; omega) (by have := hx.m1; omega)) ?_) rfl) ja_nil)) (show 2 ≤ sizeLine by decide)) (je_in okb c.f_int (by walk_at "dl") (.bl _)) (ik_L ?_)
      · have h2 := num_len (i := x.2) (by have := hx.m1; omega)
        simp only [List.length_cons, List.length_nil]
        omega
      · by_cases hm : 1 < x.2
        · rw [decide_eq_true hm, if_pos hm]
          rfl
        · rw [decide_eq_false hm, if_neg hm]
          rfl
    · have := len_row hx
      unfold rowC at this
      rw [List.length_append] at this
      omega
  · rw [List.length_map]
    omega
  · rw [List.map_map]
    rfl
  · simp only [List.length_cons, List.length_nil]
    omega
inductive Rrow : List D → D → Prop
  | mk (x : Int × Int) (h : RowOk x) : Rrow [sD (rowC x)] (prD x)
theorem fn_read_row (c : Ctx w K mg base) : Fn P w K mg base 3 "read_row" 1 Rrow := by
  have Fm : Fn P w K mg base 1 "must" 1 Rmust := fn_must c
  have Fc : Fn P w K mg base 2 "read_count" 1 Rcount := fn_read_count c
  refine c.df 30 ["word", "head", "found", "tail", "often"] ["word"] (h := ?_)
  rintro cdv A outer s H E hr ok _ _ - ⟨x, hx⟩
  have hl := len_row hx
  have hm0 := hx.m0
  have hm1 := hx.m1
  refine bodyR (ρ' := [.d (sD (rowC x)), .no, .no, .no, .no]) (Wk.refl _) ?_
  by_cases hm : 1 < x.2
  · have e : rowC x = num x.1 ++ ([94] ++ num x.2) := by
      unfold rowC
      rw [if_pos hm]
      rfl
    have hp : TL.par [94] [] (rowC x) = some (num x.1, num x.2) := by
      rw [e]
      exact SX.par_head (c := 94) (sep := []) _ (TL.numL_free (by decide))
    refine jb_cons (ρ1 := [.d (sD (rowC x)), .d (sD (num x.1)), .d (sD [94]), .d (sD (num x.2)), .no]) (js_asg (je_paS (by walk_at "dl") (je_lit rfl) hp (by decide) (by omega)) (jg_tup (ds := [sD (num x.1), sD [94], sD (num x.2)]) rfl (by walk_at "jgs"))) ?_
    walk_at "s"
    refine jb_cons (ρ1 := [.d (sD (rowC x)), .d (sD (num x.1)), .d (sD [94]), .d (sD (num x.2)), .d (.int x.2)]) (js_ifT (JT.eq (c := !decide (S [94] = ("" : Str))) (by walk_at "dl") rfl) (jb_cons (ρ1 := [.d (sD (rowC x)), .d (sD (num x.1)), .d (sD [94]), .d (sD (num x.2)), .d (.int x.2)]) (js_st ok (je_ca ok Fc hr (by walk_at "dl") (.mk x.2 (by omega) (by omega)) (by omega)) (by walk_at "pt")) (jb_one (js_expr (je_ca ok Fm hr (ja_cons (JD.eq (by walk_at "dl") (congrArg D.bl (decide_eq_true hm))) ja_nil) .mk (by omega)))))) ?_
    exact jb_stop (js_ret (je_tup (ja_cons (je_ca ok Fc hr (by walk_at "dl") (.mk x.1 hx.q0 hx.q1) (by omega)) (ja_cons (by walk_at "dl") ja_nil)) (show 2 ≤ sizeLine by decide)))
  · have e : rowC x = num x.1 := by
      unfold rowC
      rw [if_neg hm, List.append_nil]
    have h1 : x.2 = 1 := by omega
    have hp : TL.par [94] [] (rowC x) = none := by
      rw [e]
      exact SX.par_head_none (TL.numL_free (by decide))
    refine jb_cons (ρ1 := [.d (sD (rowC x)), .d (sD (rowC x)), .d (sD []), .d (sD []), .no]) (js_asg (je_paN (by walk_at "dl") (je_lit rfl) hp (by decide) (by omega)) (jg_tup (ds := [sD (rowC x), sD [], sD []]) rfl (by walk_at "jgs"))) ?_
    walk_at "s"
    refine jb_cons (js_ifF (JT.eq (c := !decide (S [] = ("" : Str))) (by walk_at "dl") rfl) jb_nil) ?_
    rw [e]
    refine jb_stop (js_ret (JD.eq (je_tup (ja_cons (je_ca ok Fc hr (by walk_at "dl") (.mk x.1 hx.q0 hx.q1) (by omega)) (ja_cons (by walk_at "dl") ja_nil)) (show 2 ≤ sizeLine by decide)) ?_))
    rw [← h1]
    rfl
inductive Rrows : List D → D → Prop
  | mk (rows : List (Int × Int)) (h : ∀ x ∈ rows, RowOk x) (hl : (rowsC rows).length ≤ 8000000) (hn : rows.length ≤ 1000) : Rrows [sD (rowsC rows)] (.lst (rows.map prD))
theorem rowC_free {x : Int × Int} {c : Nat} (hc : c < 48 ∨ 57 < c) (h94 : c ≠ 94) : c ∉ rowC x := by
  unfold rowC
  rw [List.mem_append]
  rintro (h | h)
  · exact TL.numL_free hc h
  · split at h
    · rcases List.mem_cons.mp h with h | h
      · exact h94 h
      · exact TL.numL_free hc h
    · cases h
theorem rowsC_not {rows : List (Int × Int)} (h : rows ≠ []) : rowsC rows ≠ noneC := by
  rw [rowsC_ne h]
  intro e
  cases rows with
  | nil => exact h rfl
  | cons x r =>
    have h1 : ∃ d l, TL.joinL [32] ((x :: r).map rowC) = d :: l ∧ d ≠ 110 := by
      cases hn : num x.1 with
      | nil => exact absurd hn (num_ne _)
      | cons d l =>
        have hd := TL.numL_digits x.1.toNat d (by
          show d ∈ num x.1
          rw [hn]
          exact List.mem_cons_self)
        cases r with
        | nil => exact ⟨d, _, by
            show rowC x = _
            unfold rowC
            rw [hn]
            rfl, by omega⟩
        | cons y r => exact ⟨d, _, by
            show rowC x ++ ([32] ++ TL.joinL [32] ((y :: r).map rowC)) = _
            unfold rowC
            rw [hn]
            rfl, by omega⟩
    obtain ⟨d, l, e1, e2⟩ := h1
    rw [e1] at e
    exact e2 (List.cons.inj e).1
theorem fn_read_rows (c : Ctx w K mg base) : Fn P w K mg base 4 "read_rows" 1 Rrows := by
  have Fr : Fn P w K mg base 3 "read_row" 1 Rrow := fn_read_row c
  refine c.df 31 ["text", "word"] ["text"] (h := ?_)
  rintro cdv A outer s H E hr ok _ _ - ⟨rows, h, hl, hn⟩
  refine bodyR (ρ' := [.d (sD (rowsC rows)), .no]) (Wk.refl _) ?_
  refine jb_if (c := decide (rows = [])) (JT.eq (c := decide (S (rowsC rows) = ("none" : Str))) (by walk_at "dl") ?_) (fun hc => ?_) (fun _ => ⟨_, rfl⟩) fun hc => ?_
  · rw [S_eq_lit (m := noneC) rfl]
    by_cases hc : rows = []
    · subst hc
      rfl
    · rw [decide_eq_false hc, decide_eq_false (rowsC_not hc)]
  · have hc : rows = [] := of_decide_eq_true hc
    subst hc
    exact jb_stop (js_ret (je_lst ja_nil))
  have hc : rows ≠ [] := of_decide_eq_false hc
  have hsp : TL.spl [32] 0 [] (rowsC rows) = rows.map rowC := by
    rw [rowsC_ne hc]
    refine SX.spl_join (by simpa using hc) fun p hp => ?_
    obtain ⟨x, hx, rfl⟩ := List.mem_map.mp hp
    exact rowC_free (by decide) (by decide)
  refine jb_stop (js_ret (je_cp [("word", 1)] ok (JI.conv (ds' := rows.map fun x => sD (rowC x)) (ji_list (je_spS (s := [32]) (by walk_at "dl") (je_lit rfl) (by decide) rfl (by omega))) ?_) [.d (sD (rowsC rows)), .no] (comp_m (f := fun x => sD (rowC x)) (g := prD) (l := rows) fun x hx => ⟨[.d (sD (rowsC rows)), .d (sD (rowC x))], [1], by simp, blk_i ok fun s H C cl fp okb => by walk_at "jg", blk_i ok fun s H C cl fp okb => je_ca okb Fr hr (by walk_at "dl") (.mk x (h x hx)) (by omega)⟩) ?_))
  · rw [hsp, List.map_map]
    rfl
  · rw [List.length_map]
    omega
inductive Rlrt (k : Nat) : List D → D → Prop
  | mk (rows : List (Int × Int)) (ts : List T) (h : ∀ x ∈ rows, RowOk x) (hn : rows.length ≤ 1000) (ht : ∀ t ∈ ts, dep t ≤ k ∧ okT t = true) (htn : ts.length ≤ 1000) (hl : (allC rows ts).length ≤ 8000000) : Rlrt k [.lst (rows.map prD), .lst (ts.map pap)] (sD (allC rows ts))
theorem allC_len {rows : List (Int × Int)} {ts : List T} : (allC rows ts).length = (rowsC rows).length + 4 + (papsC ts).length := by
  unfold allC
  rw [List.length_append, List.length_append]
  rfl
theorem papsC_ne {ts : List T} (h : ts ≠ []) : papsC ts = TL.joinL [59, 32] (ts.map txtC) := if_neg h
theorem eqok_paps {k : Nat} (hk : k ≤ 15) {ts : List T} (h : ∀ t ∈ ts, dep t ≤ k) : EqOk (.lst (ts.map pap)) := by
  refine EqOk.of (n := 3 * k + 1) ?_ (by omega)
  show (ts.map pap).all (okE (3 * k)) = true
  rw [List.all_map, List.all_eq_true]
  exact fun t ht => okE_pap k t (h t ht)
theorem fn_law_rows_text (c : Ctx w K mg base) (k : Nat) (hk : k ≤ 15) : Fn P w K mg base (k + 2) "_law_rows_text" 2 (Rlrt k) := by
  have Fs : Fn P w K mg base (k + 1) "_law_paper_text" 1 (Rtext k) := fn_law_paper_text c k
  refine c.df 52 (k := k + 1) ["_law_rows", "_law_papers", "_law_text", "_law_q", "_law_many", "_law_paper"] ["_law_rows", "_law_papers"] (h := ?_)
  rintro cdv A outer s H E hr ok _ _ - ⟨rows, ts, h, hn, ht, htn, hl⟩
  have hal := allC_len (rows := rows) (ts := ts)
  refine bodyR (ρ' := [.d (.lst (rows.map prD)), .d (.lst (ts.map pap)), .no, .no, .no, .no]) (Wk.refl _) ?_
  refine jb_cons (ρ1 := [.d (.lst (rows.map prD)), .d (.lst (ts.map pap)), .d (sD (rowsC rows)), .no, .no, .no]) ?_ ?_
  · by_cases hc : rows = []
    · subst hc
      refine js_ifT (JT.eq (jt_cm (by walk_at "dl") (by walk_at "dl") (ck_eqD (Room.ofX hr) (eqok_prs _) eqok_nil)) ?_) (jb_one (js_st ok (je_lit (w := rowsC []) rfl) (by walk_at "pt")))
      rw [eqv_nil]
      rfl
    · refine js_ifF (JT.eq (jt_cm (by walk_at "dl") (by walk_at "dl") (ck_eqD (Room.ofX hr) (eqok_prs _) eqok_nil)) ?_) ?_
      · rw [eqv_nil, pr_empty, decide_eq_false hc]
      rw [rowsC_ne hc] at hal ⊢
      refine jb_one (js_st ok (je_jS (s := [32]) (je_lit rfl) (JD.eq (je_cp [("_law_q", 3), ("_law_many", 4)] ok (ji_list (by walk_at "dl")) [.d (.lst (rows.map prD)), .d (.lst (ts.map pap)), .no, .no, .no, .no] (comp_m (f := prD) (g := fun x => sD (rowC x)) (l := rows) fun x hx => ⟨[.d (.lst (rows.map prD)), .d (.lst (ts.map pap)), .no, .d (.int x.1), .d (.int x.2), .no], [3] ++ ([4] ++ []), by simp, blk_i ok fun s H C cl fp okb => jg_tup (ds := [.int x.1, .int x.2]) rfl (by walk_at "jgs"), blk_i ok fun s H C cl fp okb => ?_⟩) ?_) ?_) ?_) (by walk_at "pt"))
      · have hx := h x hx
        refine JD.eq (je_cS (x := num x.1) (y := if 1 < x.2 then 94 :: num x.2 else []) (je_sN okb c.f_str (by walk_at "dl") hx.q0 (by have := hx.q1; omega)) ?_ ?_) rfl
        · refine je_ix (x := .lst [sD [], sD (94 :: num x.2)]) (y := .int (if decide (1 < x.2) then 1 else 0)) (je_lst (ja_cons (je_lit rfl) (ja_cons (JD.eq (je_cS (x := [94]) (y := num x.2) (je_lit rfl) (je_sN okb c.f_str (by walk_at "dl") (by have := hx.m0; omega) (by have := hx.m1; omega)) ?_) rfl) ja_nil)) (show 2 ≤ sizeLine by decide)) (je_in okb c.f_int (by walk_at "dl") (.bl _)) (ik_L ?_)
          · have h2 := num_len (i := x.2) (by have := hx.m1; omega)
            simp only [List.length_cons, List.length_nil]
            omega
          · by_cases hm : 1 < x.2
            · rw [decide_eq_true hm, if_pos hm]
              rfl
            · rw [decide_eq_false hm, if_neg hm]
              rfl
        · have := len_row hx
          unfold rowC at this
          rw [List.length_append] at this
          omega
      · rw [List.length_map]
        omega
      · rw [List.map_map]
        rfl
      · simp only [List.length_cons, List.length_nil]
        omega
  refine jb_if (c := decide (ts = [])) (JT.eq (jt_cm (by walk_at "dl") (by walk_at "dl") (ck_eqD (Room.ofX hr) ?_ eqok_nil)) ?_) (fun hc => ?_) (fun _ => ⟨_, rfl⟩) fun hc => ?_
  · exact eqok_paps hk fun t h => (ht t h).1
  · rw [eqv_nil]
    cases ts <;> simp
  · have hc : ts = [] := of_decide_eq_true hc
    subst hc
    refine jb_stop (js_ret (JD.eq (je_cS (x := rowsC rows) (y := byC ++ noneC) (by walk_at "dl") (je_lit rfl) ?_) ?_))
    · rw [hal] at hl
      have : (byC ++ noneC).length = 8 := rfl
      omega
    · unfold allC
      rw [List.append_assoc]
      rfl
  have hc : ts ≠ [] := of_decide_eq_false hc
  unfold allC
  rw [papsC_ne hc] at hal ⊢
  have hbl : byC.length = 4 := rfl
  refine jb_stop (js_ret (je_cS (je_cS (by walk_at "dl") (je_lit rfl) ?_) (je_jS (je_lit rfl) (JD.eq (je_cp [("_law_paper", 5)] ok (ji_list (by walk_at "dl")) [.d (.lst (rows.map prD)), .d (.lst (ts.map pap)), .d (sD (rowsC rows)), .no, .no, .no] (comp_m (f := pap) (g := fun x => sD (txtC x)) (l := ts) fun x hx => ⟨[.d (.lst (rows.map prD)), .d (.lst (ts.map pap)), .d (sD (rowsC rows)), .no, .no, .d (pap x)], [5], by simp, blk_i ok fun s H C cl fp okb => by walk_at "jg", blk_i ok fun s H C cl fp okb => je_ca okb Fs hr (by walk_at "dl") (.mk x (ht x hx).1 (ht x hx).2 ?_) (by omega)⟩) ?_) ?_) ?_) ?_))
  · omega
  · have : (txtC x).length ≤ (TL.joinL [59, 32] (ts.map txtC)).length := len_mem_join (List.mem_map.mpr ⟨x, hx, rfl⟩)
    omega
  · rw [List.length_map]
    omega
  · rw [List.map_map]
    rfl
  · simp only [List.length_cons, List.length_nil]
    omega
  · rw [List.length_append]
    omega
end
end DL
-- M8
/-! A text split at a sign, at most so many times. -/
namespace M
open PySem PySem.Builtin PySem.Builtin.Str PySem.StrLaws
open SX (S)
def cutsAt (c : Nat) : Nat → Nat → List Nat → List Nat
  | 0, _, _ => []
  | _ + 1, _, [] => []
  | k + 1, i, d :: r => if d = c then i :: cutsAt c k (i + 1) r else cutsAt c (k + 1) (i + 1) r
theorem cutsAt_zero (c i : Nat) (l : List Nat) : cutsAt c 0 i l = [] := by
  unfold cutsAt
  rfl
theorem cutsAt_nil (c k i : Nat) : cutsAt c k i [] = [] := by cases k <;> (unfold cutsAt; rfl)
theorem occ_run (c limit : Nat) (L : List Nat) : ∀ (m a : Nat) (arr : Array Nat) (f : Nat), a + m = L.length + 1 → f ≤ a → (forIn (List.range' a m) (arr, f) (occBody (S L) (S [c]) L.length limit)).run.fst.toList = arr.toList ++ cutsAt c (limit - arr.size) a (L.drop a)
  | 0, a, arr, f, h, _ => by
    rw [List.drop_eq_nil_of_le (by omega), cutsAt_nil, List.append_nil]
    rfl
  | m + 1, a, arr, f, h, hf => by
    rw [List.range'_succ, List.forIn_cons]
    unfold occBody
    have hl : (S [c]).length = 1 := rfl
    by_cases ha : a < L.length
    · have hd : L.drop a = L[a] :: L.drop (a + 1) := List.drop_eq_getElem_cons ha
      have hs : PySem.Builtin.Str.subAt (S L) (S [c]) a = decide (L[a] = c) := by
        rw [subAt_eq]
        show ((L.drop a).take 1 == [c]) = _
        rw [hd]
        show ([L[a]] == [c]) = _
        by_cases e : L[a] = c
        · rw [e]
          simp
        · rw [decide_eq_false e]
          simp [e]
      by_cases e : L[a] = c
      · by_cases hz : arr.size < limit
        · rw [if_pos ⟨⟨⟨hz, hf⟩, by rw [hl]; omega⟩, by rw [hs]; exact decide_eq_true e⟩]
          refine (occ_run c limit L m (a + 1) (arr.push a) (a + (S [c]).length) (by omega) (by rw [hl]; exact Nat.le_refl _)).trans ?_
          rw [hd, Array.toList_push, Array.size_push]
          obtain ⟨j, hj⟩ : ∃ j, limit - arr.size = j + 1 := ⟨limit - arr.size - 1, by omega⟩
          rw [hj, show limit - (arr.size + 1) = j by omega]
          rw [show cutsAt c (j + 1) a (L[a] :: L.drop (a + 1)) = a :: cutsAt c j (a + 1) (L.drop (a + 1)) from if_pos e, List.append_assoc]
          rfl
        · rw [if_neg (fun z => hz z.1.1.1)]
          refine (occ_run c limit L m (a + 1) arr f (by omega) (by omega)).trans ?_
          rw [show limit - arr.size = 0 by omega, cutsAt_zero, cutsAt_zero]
      · rw [if_neg (fun z => by
          have := z.2
          rw [hs] at this
          exact e (of_decide_eq_true this))]
        refine (occ_run c limit L m (a + 1) arr f (by omega) (by omega)).trans ?_
        rw [hd]
        congr 1
        cases limit - arr.size with
        | zero => rw [cutsAt_zero, cutsAt_zero]
        | succ j =>
          conv => rhs; unfold cutsAt
          rw [if_neg e]
    · rw [if_neg (fun z => by
        have := z.1.2
        rw [hl] at this
        omega)]
      refine (occ_run c limit L m (a + 1) arr f (by omega) (by omega)).trans ?_
      rw [List.drop_eq_nil_of_le (by omega), List.drop_eq_nil_of_le (by omega), cutsAt_nil, cutsAt_nil]
theorem occ_cuts (c limit : Nat) (L : List Nat) : occurrences (S L) (S [c]) 0 (S L).length limit = cutsAt c limit 0 L := by
  rw [occ_eq, SX.S_len]
  refine (occ_run c limit L (L.length + 1 - 0) 0 #[] 0 (by omega) (Nat.le_refl 0)).trans ?_
  rfl
theorem cutsAt_skip (c k : Nat) (r : List Nat) : ∀ (w : List Nat) (i : Nat), c ∉ w → cutsAt c (k + 1) i (w ++ c :: r) = (i + w.length) :: cutsAt c k (i + w.length + 1) r
  | [], i, _ => by
    show (if c = c then _ else _) = _
    rw [if_pos rfl]
    rfl
  | d :: w, i, h => by
    show (if d = c then _ else cutsAt c (k + 1) (i + 1) (w ++ c :: r)) = _
    rw [if_neg (fun e => h (by rw [e]; exact List.mem_cons_self)), cutsAt_skip c k r w (i + 1) fun z => h (List.mem_cons_of_mem _ z), List.length_cons, show i + 1 + w.length = i + (w.length + 1) by omega]
theorem sub_S (L : List Nat) (i j : Nat) : strSub (S L) i j = S ((L.drop i).take (j - i)) := TL.ext_tl (TL.tl_strSub (S L) i j)
theorem max_cond (c : Nat) (hc : c < 256) {L : List Nat} (h : 1 ≤ L.length) : (decide ((S L).length < (S [c]).length) || decide (strKind (S L) < strKind (S [c]))) = false := by
  have h1 : ¬ strKind (S L) < strKind (S [c]) := TL.kind_ok (by
    apply SX.all256
    simpa using hc)
  rw [decide_eq_false h1, Bool.or_false, SX.S_len]
  exact decide_eq_false (by
    show ¬ L.length < 1
    omega)
theorem splitMax1 {w r : List Nat} (h : 32 ∉ w) : Txt.splitMax (S (w ++ 32 :: r)) (S [32]) 1 = [S w, S r] := by
  unfold Txt.splitMax
  rw [if_neg (by rw [max_cond 32 (by decide) (by simp only [List.length_append, List.length_cons]; omega)]; decide), occ_cuts]
  have e : cutsAt 32 (limitOf (S (w ++ 32 :: r)) 1) 0 (w ++ 32 :: r) = [w.length] := by
    show cutsAt 32 (0 + 1) 0 (w ++ 32 :: r) = _
    rw [cutsAt_skip 32 0 r w 0 h, cutsAt_zero, Nat.zero_add]
  rw [e, if_neg (by simp)]
  show [strSub _ 0 w.length, strSub _ (w.length + 1) (S (w ++ 32 :: r)).length] = _
  rw [sub_S, sub_S, SX.S_len]
  congr 1
  · simp
  · congr 2
    rw [← List.drop_drop, List.drop_left, List.drop_one, List.tail_cons, List.take_of_length_le]
    simp only [List.length_append, List.length_cons]
    omega
theorem splitMax2 {w v r : List Nat} (h : 32 ∉ w) (h2 : 32 ∉ v) : Txt.splitMax (S (w ++ 32 :: (v ++ 32 :: r))) (S [32]) 2 = [S w, S v, S r] := by
  unfold Txt.splitMax
  rw [if_neg (by rw [max_cond 32 (by decide) (by simp only [List.length_append, List.length_cons]; omega)]; decide), occ_cuts]
  have e : cutsAt 32 (limitOf (S (w ++ 32 :: (v ++ 32 :: r))) 2) 0 (w ++ 32 :: (v ++ 32 :: r)) = [w.length, w.length + 1 + v.length] := by
    show cutsAt 32 (1 + 1) 0 _ = _
    rw [cutsAt_skip 32 1 _ w 0 h, cutsAt_skip 32 0 r v _ h2, cutsAt_zero, Nat.zero_add]
  rw [e, if_neg (by simp)]
  show [strSub _ 0 w.length, strSub _ (w.length + 1) (w.length + 1 + v.length), strSub _ (w.length + 1 + v.length + 1) (S (w ++ 32 :: (v ++ 32 :: r))).length] = _
  rw [sub_S, sub_S, sub_S, SX.S_len]
  have e1 : (w ++ 32 :: (v ++ 32 :: r)).drop (w.length + 1) = v ++ 32 :: r := by
    rw [← List.drop_drop, List.drop_left, List.drop_one, List.tail_cons]
  have e2 : (w ++ 32 :: (v ++ 32 :: r)).drop (w.length + 1 + v.length + 1) = r := by
    rw [show w.length + 1 + v.length + 1 = w.length + 1 + (v.length + 1) by omega, ← List.drop_drop, e1, ← List.drop_drop, List.drop_left, List.drop_one, List.tail_cons]
  rw [e1, e2]
  congr 1
  · simp
  · congr 1
    · congr 1
      rw [Nat.add_sub_cancel_left, List.take_left]
    · congr 2
      rw [List.take_of_length_le]
      simp only [List.length_append, List.length_cons]
      omega
end M
-- F17
/-! A row of the desk taken apart. -/
namespace DL
open PySem PySem.Spec PyProof.Rows L2 RW M
open SX (S S_len S_cat S_inj)
local macro_rules | `(tactic| walk_at "num") => `(tactic| first
  | with_reducible assumption
  | rfl
  | omega
  | (simp only [decide_eq_true_eq, decide_eq_false_iff_not, Bool.not_eq_true', Bool.not_eq_false', Bool.and_eq_true, Bool.or_eq_false_iff, Bool.not_eq_true, Bool.not_eq_false, Int.not_lt, Int.not_le] at *; omega)
  | skip)
local macro_rules | `(tactic| walk_at "sz") => `(tactic| first
  | with_reducible assumption
  | exact sz_of (by simp only [List.length_cons, List.length_nil, List.length_append, List.length_map, List.length_replicate]; omega)
  | exact sz_lt (by simp only [List.length_cons, List.length_nil, List.length_append, List.length_map, List.length_replicate]; omega)
  | skip)
local macro_rules | `(tactic| walk_at "at") => `(tactic| first
  | with_reducible exact At.z
  | (with_reducible apply At.s; walk_at "at"))
local macro_rules | `(tactic| walk_at "pt") => `(tactic| first
  | with_reducible exact Put.z
  | (with_reducible apply Put.s; walk_at "pt"))
local macro_rules | `(tactic| walk_at "mul") => `(tactic| first
  | assumption
  | (exact Or.inl (Or.inl ⟨by omega, by omega⟩))
  | (exact Or.inl (Or.inr ⟨by omega, by omega⟩))
  | skip)
local macro_rules | `(tactic| walk_at "bk") => `(tactic| first
  | with_reducible assumption
  | with_reducible exact bk_add
  | with_reducible exact bk_sub
  | ((with_reducible apply bk_mul) ; walk_at "mul")
  | ((with_reducible apply @bk_div) <;> walk_at "dl")
  | ((with_reducible apply @bk_mod) <;> walk_at "dl")
  | ((with_reducible apply @bk_cat) <;> walk_at "dl")
  | ((with_reducible apply @bk_addS) <;> walk_at "dl")
  | ((with_reducible apply @bk_rep) <;> walk_at "dl"))
local macro_rules | `(tactic| walk_at "ck") => `(tactic| first
  | with_reducible exact ck_eqI
  | with_reducible exact ck_neI
  | with_reducible exact ck_lt
  | with_reducible exact ck_le
  | with_reducible exact ck_gt
  | with_reducible exact ck_ge
  | with_reducible exact ck_eqS
  | with_reducible exact ck_neS
  | with_reducible exact ck_isN
  | with_reducible exact ck_eqB
  | with_reducible exact ck_inS
  | ((with_reducible apply @ck_inL) <;> walk_at "dl")
  | ((with_reducible apply @ck_inT) <;> walk_at "dl")
  | ((with_reducible apply @ck_ninL) <;> walk_at "dl")
  | ((with_reducible apply @ck_eqD) <;> first | (exact Room.ofX (by assumption)) | walk_at "dl")
  | ((with_reducible apply @ck_neD) <;> first | (exact Room.ofX (by assumption)) | walk_at "dl"))
local macro_rules | `(tactic| walk_at "ik") => `(tactic| first
  | ((with_reducible apply @ik_L) <;> walk_at "dl")
  | ((with_reducible apply @ik_T) <;> walk_at "dl")
  | ((with_reducible apply @ik_S) <;> walk_at "dl"))
local macro_rules | `(tactic| walk_at "sk") => `(tactic| first
  | with_reducible exact sk_L
  | with_reducible exact sk_R
  | ((with_reducible apply @sk_S) <;> walk_at "dl")
  | ((with_reducible apply @sk_T) <;> walk_at "dl"))
local macro_rules | `(tactic| walk_at "lk") => `(tactic| first
  | with_reducible exact lk_L
  | with_reducible exact lk_T
  | ((with_reducible apply @lk_S) <;> walk_at "dl"))
local macro_rules | `(tactic| walk_at "mg") => `(tactic| first
  | with_reducible exact Ctx.f_len (by assumption)
  | with_reducible exact Ctx.f_max (by assumption)
  | with_reducible exact Ctx.f_list (by assumption)
  | with_reducible exact Ctx.f_reversed (by assumption)
  | with_reducible exact Ctx.f_range (by assumption)
  | with_reducible exact Ctx.f_enumerate (by assumption)
  | with_reducible exact Ctx.f_zip (by assumption)
  | with_reducible exact Ctx.f_all (by assumption)
  | with_reducible exact Ctx.f_any (by assumption)
  | with_reducible exact Ctx.f_isinstance (by assumption)
  | with_reducible exact Ctx.f_str (by assumption)
  | with_reducible exact Ctx.f_int (by assumption)
  | with_reducible exact Ctx.f_min (by assumption)
  | with_reducible exact Ctx.f_sorted (by assumption)
  | with_reducible exact Ctx.f_tuple (by assumption)
  | with_reducible exact Ctx.f_bool (by assumption))
local macro_rules | `(tactic| walk_at "call") => `(tactic| first
  | ((with_reducible show JD _ _ (Expr.Call (Expr.Name (PySem.Str.ofString "len") _) _ _ _) _); (first | ((with_reducible apply @je_olen) <;> (first | ((with_reducible show At _ _ _ _ _); walk_at "at") | ((fail_if_success (with_reducible show At _ _ _ _ _)); walk_at "dl"))) | ((with_reducible apply @je_ln) <;> walk_at "dl")))
  | ((with_reducible show JD _ _ (Expr.Call (Expr.Name (PySem.Str.ofString "int") _) _ _ _) _); ((with_reducible apply @je_in) <;> walk_at "dl"))
  | ((with_reducible show JD _ _ (Expr.Call (Expr.Name (PySem.Str.ofString "str") _) _ _ _) _); ((with_reducible apply @je_sI) <;> walk_at "dl"))
  | ((with_reducible show JD _ _ (Expr.Call (Expr.Name (PySem.Str.ofString "max") _) _ _ _) _); ((with_reducible apply @je_mx) <;> walk_at "dl"))
  | ((with_reducible show JD _ _ (Expr.Call (Expr.Name (PySem.Str.ofString "min") _) _ _ _) _); ((with_reducible apply @je_mn) <;> walk_at "dl"))
  | ((with_reducible show JD _ _ (Expr.Call (Expr.Name (PySem.Str.ofString "all") _) _ _ _) _); ((with_reducible apply @je_al) <;> walk_at "dl"))
  | ((with_reducible show JD _ _ (Expr.Call (Expr.Name (PySem.Str.ofString "any") _) _ _ _) _); ((with_reducible apply @je_an) <;> walk_at "dl"))
  | ((with_reducible show JD _ _ (Expr.Call (Expr.Name (PySem.Str.ofString "isinstance") _) [_, Expr.Name (PySem.Str.ofString "int") _] _ _) _); ((with_reducible apply @je_iI) <;> walk_at "dl"))
  | ((with_reducible show JD _ _ (Expr.Call (Expr.Name (PySem.Str.ofString "isinstance") _) [_, Expr.Name (PySem.Str.ofString "bool") _] _ _) _); ((with_reducible apply @je_iI) <;> walk_at "dl"))
  | ((with_reducible show JD _ _ (Expr.Call (Expr.Name (PySem.Str.ofString "isinstance") _) [_, Expr.Name (PySem.Str.ofString "tuple") _] _ _) _); ((with_reducible apply @je_iI) <;> walk_at "dl"))
  | ((with_reducible show JD _ _ (Expr.Call (Expr.Name (PySem.Str.ofString "isinstance") _) [_, Expr.Name (PySem.Str.ofString "list") _] _ _) _); ((with_reducible apply @je_iI) <;> walk_at "dl"))
  | ((with_reducible apply @je_ca) <;> walk_at "dl"))
local macro_rules | `(tactic| walk_at "jd") => `(tactic| first
  | ((with_reducible show JD _ _ (Expr.Name _ _) _); ((with_reducible apply @je_v) <;> walk_at "dl"))
  | ((with_reducible show JD _ _ (Expr.Constant _ _ _) _); (first | exact je_int | exact je_str | exact je_bl | exact je_non))
  | ((with_reducible show JD _ _ (Expr.BinOp _ _ _ _) _); ((with_reducible apply @je_bin) <;> walk_at "dl"))
  | ((with_reducible show JD _ _ (Expr.Compare _ _ _ _) _); ((with_reducible apply @je_cm) <;> walk_at "dl"))
  | ((with_reducible show JD _ _ (Expr.Subscript _ (Expr.Slice none none (some _) _) _) _); ((with_reducible apply @je_revL) <;> walk_at "dl"))
  | ((with_reducible show JD _ _ (Expr.Subscript _ (Expr.Slice _ _ none _) _) _); ((with_reducible apply @je_sl) <;> walk_at "dl"))
  | ((with_reducible show JD _ _ (Expr.Subscript (Expr.Name _ _) _ _) _); (first | ((with_reducible apply @je_oix) <;> (first | ((with_reducible show At _ _ _ _ _); walk_at "at") | ((fail_if_success (with_reducible show At _ _ _ _ _)); walk_at "dl"))) | ((with_reducible apply @je_ix) <;> walk_at "dl")))
  | ((with_reducible show JD _ _ (Expr.Subscript _ _ _) _); ((with_reducible apply @je_ix) <;> walk_at "dl"))
  | ((with_reducible show JD _ _ (Expr.Tuple _ _ _) _); ((with_reducible apply @je_tup) <;> walk_at "dl"))
  | ((with_reducible show JD _ _ (Expr.List _ _) _); ((with_reducible apply @je_lst) <;> walk_at "dl"))
  | ((with_reducible show JD _ _ (Expr.Call _ _ _ _) _); walk_at "call")
  | ((with_reducible show JD _ _ (Expr.BoolOp _ (_ :: _ :: _) _) _); (first | ((with_reducible apply @je_and) <;> first | ((with_reducible show _ = true → _); intro _; walk_at "dl") | walk_at "dl") | ((with_reducible apply @je_or) <;> first | ((with_reducible show _ = false → _); intro _; walk_at "dl") | walk_at "dl")))
  | ((with_reducible show JD _ _ (Expr.BoolOp _ _ _) _); ((with_reducible apply @je_one) <;> walk_at "dl"))
  | ((with_reducible apply @je_neg) <;> walk_at "dl")
  | ((with_reducible apply @je_not) <;> walk_at "dl"))
local macro_rules | `(tactic| walk_at "jw") => `(tactic| first
  | ((with_reducible apply @jw_and) <;> first | ((with_reducible show _ = _ → _); intro _; walk_at "dl") | walk_at "dl")
  | ((with_reducible apply @jw_or) <;> first | ((with_reducible show _ = _ → _); intro _; walk_at "dl") | walk_at "dl")
  | ((with_reducible apply @jw_and1) <;> walk_at "dl")
  | ((with_reducible apply @jw_or1) <;> walk_at "dl"))
local macro_rules | `(tactic| walk_at "jt") => `(tactic| first
  | ((with_reducible show JT _ _ (Expr.Compare _ _ _ _) _); ((with_reducible apply @jt_cm) <;> walk_at "dl"))
  | ((with_reducible show JT _ _ (Expr.BoolOp _ _ _) _); (first | ((with_reducible apply @jt_and) <;> first | ((with_reducible show _ = _ → _); intro _; walk_at "dl") | walk_at "dl") | ((with_reducible apply @jt_or) <;> first | ((with_reducible show _ = _ → _); intro _; walk_at "dl") | walk_at "dl")))
  | ((with_reducible apply @jt_not) <;> walk_at "dl")
  | ((with_reducible apply @jt_val) <;> walk_at "dl"))
local macro_rules | `(tactic| walk_at "dl") => `(tactic| first
  | ((with_reducible show JD _ _ _ _); walk_at "jd")
  | ((with_reducible show JT _ _ _ _); walk_at "jt")
  | ((with_reducible show JA _ _ _ _); (first | (with_reducible exact ja_nil) | ((with_reducible apply @ja_cons) <;> walk_at "dl")))
  | ((with_reducible show OkN _ _ _ _); with_reducible assumption)
  | ((with_reducible show At _ _ _ _ _); walk_at "at")
  | ((with_reducible show Put _ _ _ _ _ _); walk_at "pt")
  | ((with_reducible show visB _ _ = true); decide +kernel)
  | ((with_reducible show glB _ _ = true); decide +kernel)
  | ((with_reducible show locB _ _ _ = true); decide +kernel)
  | ((with_reducible show Cx.mg _ _ = none); walk_at "mg")
  | ((with_reducible show BinK _ _ _ _ _); walk_at "bk")
  | ((with_reducible show CmpK _ _ _ _ _); walk_at "ck")
  | ((with_reducible show IxK _ _ _ _); walk_at "ik")
  | ((with_reducible show JW _ _ _ _); walk_at "jw")
  | ((with_reducible show SlK _ _ _ _ _ _ _); walk_at "sk")
  | ((with_reducible show LenK _ _); walk_at "lk")
  | ((with_reducible show IntK _ _); (constructor <;> walk_at "num"))
  | ((with_reducible show JO _ _ _ _); (first | (with_reducible exact jo_none) | ((with_reducible apply @jo_some) <;> walk_at "dl")))
  | ((with_reducible show Fn _ _ _ _ _ _ _ _ _); with_reducible assumption)
  | ((with_reducible show Room _ _); with_reducible assumption)
  | ((with_reducible show PlainIx _); exact fun _ _ => rfl)
  | ((with_reducible show behindInMarks _ _ = false); (first | exact nomark _ | rfl))
  | ((with_reducible show IpK _ _ _ _ _); (first | with_reducible exact ip_addI | with_reducible exact ip_subI | ((with_reducible apply @ip_addStr) <;> walk_at "dl")))
  | ((with_reducible show EqOk _); (first | with_reducible assumption | exact eqok_ints _ | exact eqok_prs _ | exact eqok_nil))
  | ((with_reducible show PIp _ _ _); (first | exact ip_add | exact ip_sub))
  | ((with_reducible show bootBuiltins _ = _); decide +kernel)
  | ((with_reducible show _ ≤ PySem.sizeLine); walk_at "sz")
  | ((with_reducible show _ < PySem.sizeLine); walk_at "sz")
  | ((with_reducible show _ ≠ _); (first | assumption | decide))
  | ((with_reducible show atI _ _ = some _); (first | with_reducible assumption | rfl | skip))
  | ((with_reducible show ixN _ _ = some _); (first | with_reducible assumption | rfl | skip))
  | ((with_reducible show _ = _); (first | with_reducible assumption | rfl | walk_at "num"))
  | ((with_reducible show Nat); skip)
  | ((with_reducible show Int); skip)
  | ((with_reducible show D); skip)
  | ((with_reducible show Bool); skip)
  | ((with_reducible show List _); skip)
  | ((with_reducible show Option _); skip)
  | ((with_reducible show PySem.Str); skip)
  | ((with_reducible show Sl); skip)
  | ((with_reducible show Oc); skip)
  | ((with_reducible show Prop); skip)
  | ((with_reducible show PySem.Expr); skip)
  | ((with_reducible show PySem.Addr); skip)
  | ((with_reducible show Scope); skip)
  | ((with_reducible show String); skip)
  | ((with_reducible show List D → D → Prop); skip)
  | ((with_reducible show (_ : Prop)); (first | with_reducible assumption | omega | (exact fun a b c d hm => pe_bm PySem.F.plainAttrs_list PySem.F.slot_list_append PySem.F.type_list_append hm (pe_var a b c d) (pa_cons peW pa_nil)) | (constructor <;> walk_at "num") | (intro _; rfl) | (intro _ _ _; rfl)))
  | skip)
local macro_rules | `(tactic| walk_at "de") => `(tactic| first
  | ((with_reducible apply @JD.eq) <;> walk_at "dl"))
local macro_rules | `(tactic| walk_at "te") => `(tactic| first
  | ((with_reducible apply @JT.eq) <;> walk_at "dl"))
local macro_rules | `(tactic| walk_at "wk") => `(tactic| first
  | exact Wk.nil
  | (refine Wk.no ?_; walk_at "wk")
  | (refine Wk.same ?_; walk_at "wk")
  | (refine Wk.sameE ?_ ?_; rotate_left; walk_at "wk"))
local macro_rules | `(tactic| walk_at "jg") => `(tactic| first
  | ((with_reducible show JG _ _ (Expr.Name _ _) _ _ _); ((with_reducible apply @jg_v) <;> walk_at "dl"))
  | ((with_reducible show JG _ _ (Expr.Tuple _ _ _) (D.tup _) _ _); ((with_reducible apply @jg_tup) <;> first | ((with_reducible show JGs _ _ _ _ _ _); walk_at "jgs") | rfl)))
local macro_rules | `(tactic| walk_at "jgs") => `(tactic| first
  | with_reducible exact jgs_nil
  | ((with_reducible apply @jgs_cons) <;> first | ((with_reducible show JG _ _ _ _ _ _); walk_at "jg") | ((with_reducible show JGs _ _ _ _ _ _); walk_at "jgs") | ((with_reducible show (_ = _)); rfl) | skip))
local macro_rules | `(tactic| walk_at "s") => `(tactic| first
  | ((with_reducible apply jb_cons); walk_at "js"))
local macro_rules | `(tactic| walk_at "rt") => `(tactic| first
  | ((with_reducible apply JB.eq); ((with_reducible apply jb_stop); walk_at "js")))
local macro_rules | `(tactic| walk_at "ss") => `(tactic| first
  | with_reducible exact jb_nil
  | ((with_reducible apply jb_cons); walk_at "js"; walk_at "ss")
  | skip)
local macro_rules | `(tactic| walk_at "bw") => `(tactic| first
  | ((with_reducible apply JB.wk); walk_at "ss"; walk_at "wk"))
local macro_rules | `(tactic| walk_at "js") => `(tactic| first
  | ((with_reducible apply @js_st) <;> walk_at "dl")
  | ((with_reducible apply @js_au) <;> walk_at "dl")
  | ((with_reducible apply @js_ret) <;> walk_at "dl")
  | ((with_reducible apply @js_app) <;> walk_at "dl")
  | ((with_reducible apply @js_six) <;> walk_at "dl")
  | ((with_reducible apply @js_aix) <;> walk_at "dl"))
section
variable {P : Program} {w : World} {K : PySem.W.Frag} {mg : Str → Option Value} {base : Heap} {k : Nat} {R : List D → D → Prop}
theorem k_neB {X : Cx} {i j : Bool} : OpK X rNe (.bl i) (.bl j) (.bl (!decide (i = j))) := fun v u G H Q s i1 i2 q => by
  cases i1
  cases i2
  refine ⟨rfl, q _ G H (Grow.refl s) ?_⟩
  show V.bl _ = V.bl _
  by_cases h : i = j
  · rw [decide_eq_true h, decide_eq_true (congrArg V.bl h)]
  · rw [decide_eq_false h, decide_eq_false (fun z => h (V.bl.inj z))]
theorem ck_neB {X : Cx} {i j : Bool} : CmpK X .NotEq (.bl i) (.bl j) (!decide (i = j)) := ⟨_, op_ne, k_neB⟩
inductive Rparts : List D → D → Prop
  | size : Rparts [sD [115, 105, 122, 101]] (.tup [.str "size", .lst []])
  | mk (h f : Str) (H tail : List Nat) (l : List (List Nat)) (z : List Nat) (b : Bool) (hm : (h, He.Dv.str f) ∈ RW.formVals) (hH : h = S H) (hfree : 32 ∉ H) (hl : (H ++ 32 :: tail).length ≤ 8500000) (hb : Txt.endswith f "r" = b) (h0 : b = false → TL.spl [32] 0 [] tail = l ++ [z])
      (h1 : b = true → Txt.splitMax (S tail) (S [32]) ((f.length : Int) - 1) = (l ++ [z]).map S) (hn : (l ++ [z]).length = f.length) (hz : z ≠ []) (hf : f.length ≤ 10) : Rparts [sD (H ++ 32 :: tail)] (.tup [.str h, .lst ((l ++ [z]).map sD)])
theorem at_lastD (l : List D) (z : D) : atI (l ++ [z]) (-1) = some z := by
  unfold atI
  rw [List.length_append, show [z].length = 1 from rfl, ixN_last]
  show (l ++ [z])[l.length]? = some z
  rw [List.getElem?_append_right (Nat.le_refl _), Nat.sub_self]
  rfl
theorem fn_parts_of (c : Ctx w K mg base) : Fn P w K mg base 1 "parts_of" 1 Rparts := by
  refine c.df 32 ["row", "head", "blank", "tail", "many", "words"] ["row"] (h := ?_)
  rintro cdv A outer s H E hr ok _ _ - (_ | ⟨h, f, H', tail, l, z, b, hm, hH, hfree, hl, hb, h0, h1, hn, hz, hf⟩)
  · have F := c.form (z := "size") (f := "") (by simp [RW.formVals])
    refine bodyR (ρ' := [.d (sD [115, 105, 122, 101]), .no, .no, .no, .no, .no]) (Wk.refl _) ?_
    refine jb_cons (ρ1 := [.d (sD [115, 105, 122, 101]), .d (sD [115, 105, 122, 101]), .d (sD []), .d (sD []), .no, .no]) (js_asg (je_paN (s := [32]) (by walk_at "dl") (je_lit rfl) (by decide) (by decide) (by decide)) (jg_tup (ds := [sD [115, 105, 122, 101], sD [], sD []]) rfl (by walk_at "jgs"))) ?_
    refine jb_cons (js_ifF (JT.eq (jt_or (jt_nif ok F (JD.eq (by walk_at "dl") (congrArg D.str (show S [115, 105, 122, 101] = ("size" : Str) from rfl)))) fun _ => jw_or1 (jt_cm (je_cm (by walk_at "dl") (by walk_at "dl") ck_eqS) (je_cm (je_form ok F (JD.eq (by walk_at "dl") (congrArg D.str (show S [115, 105, 122, 101] = ("size" : Str) from rfl)))) (by walk_at "dl") ck_eqS) ck_neB)) ?_) jb_nil) ?_
    · decide
    refine jb_cons (js_st (d := .int 0) (ρ' := [.d (sD [115, 105, 122, 101]), .d (sD [115, 105, 122, 101]), .d (sD []), .d (sD []), .d (.int 0), .no]) ok (JD.eq (je_ln ok c.f_len (je_form ok F (JD.eq (by walk_at "dl") (congrArg D.str (show S [115, 105, 122, 101] = ("size" : Str) from rfl)))) (lk_S (by decide))) rfl) (by walk_at "pt")) ?_
    refine jb_stop (js_ifT (by walk_at "te") (jb_stop (js_ret (JD.eq (d := .tup [sD [115, 105, 122, 101], .lst []]) (je_tup (ja_cons (by walk_at "dl") (ja_cons (je_lst ja_nil) ja_nil)) (show 2 ≤ sizeLine by decide)) rfl))))
  · subst hH
    have F := c.form hm
    have hfl : f.length ≤ sizeLine := Nat.le_trans hf (by decide)
    have hfn : f.length ≠ 0 := by
      rw [← hn, List.length_append]
      simp
    have hfe : ¬ f = ("" : Str) := fun e => hfn (by rw [e]; rfl)
    have htl : tail.length ≤ 8500000 := by
      rw [List.length_append, List.length_cons] at hl
      omega
    have hpar : TL.par [32] [] (H' ++ 32 :: tail) = some (H', tail) := SX.par_head (c := 32) (sep := []) tail hfree
    refine bodyR (ρ' := [.d (sD (H' ++ 32 :: tail)), .no, .no, .no, .no, .no]) (Wk.refl _) ?_
    refine jb_cons (ρ1 := [.d (sD (H' ++ 32 :: tail)), .d (sD H'), .d (sD [32]), .d (sD tail), .no, .no]) (js_asg (je_paS (s := [32]) (by walk_at "dl") (je_lit rfl) hpar (by decide) (by omega)) (jg_tup (ds := [sD H', sD [32], sD tail]) rfl (by walk_at "jgs"))) ?_
    refine jb_cons (js_ifF (JT.eq (jt_or (jt_nif ok F (by walk_at "dl")) fun _ => jw_or1 (jt_cm (je_cm (by walk_at "dl") (by walk_at "dl") ck_eqS) (je_cm (je_form ok F (by walk_at "dl")) (by walk_at "dl") ck_eqS) ck_neB)) ?_) jb_nil) ?_
    · rw [decide_eq_false hfe]
      decide
    refine jb_cons (ρ1 := [.d (sD (H' ++ 32 :: tail)), .d (sD H'), .d (sD [32]), .d (sD tail), .d (.int (f.length : Nat)), .no]) (js_st ok (je_ln ok c.f_len (je_form ok F (by walk_at "dl")) (lk_S hfl)) (by walk_at "pt")) ?_
    refine jb_cons (js_ifF (JT.eq (c := decide ((f.length : Int) = 0)) (by walk_at "dl") (decide_eq_false (by omega))) jb_nil) ?_
    refine jb_cons (ρ1 := [.d (sD (H' ++ 32 :: tail)), .d (sD H'), .d (sD [32]), .d (sD tail), .d (.int (f.length : Nat)), .d (.lst ((TL.spl [32] 0 [] tail).map sD))]) (js_st ok (je_spS (s := [32]) (by walk_at "dl") (je_lit rfl) (by decide) rfl (by omega)) (by walk_at "pt")) ?_
    refine jb_cons (ρ1 := [.d (sD (H' ++ 32 :: tail)), .d (sD H'), .d (sD [32]), .d (sD tail), .d (.int (f.length : Nat)), .d (.lst ((l ++ [z]).map sD))]) ?_ ?_
    · cases b with
      | true =>
        refine js_ifT (JT.eq (jt_val (je_endswith (u := ("r" : Str)) (je_form ok F (by walk_at "dl")) (by walk_at "dl"))) hb) (jb_one (js_st ok (JD.eq (je_splitMax (t := S tail) (u := S [32]) (kk := (f.length : Int) - 1) (pl := pure true) (by walk_at "dl") (je_lit rfl) (by walk_at "dl") (by rfl) ?_ (by omega) (by omega)) ?_) (by walk_at "pt")))
        · rw [S_len]
          have : 8500000 + 2 ≤ sizeLine := by decide
          omega
        · rw [h1 rfl, List.map_map]
          rfl
      | false =>
        refine js_ifF (JT.eq (jt_val (je_endswith (u := ("r" : Str)) (je_form ok F (by walk_at "dl")) (by walk_at "dl"))) hb) ?_
        rw [h0 rfl]
        exact jb_nil
    refine jb_cons (js_ifF (JT.eq (jt_or (c := !decide ((((l ++ [z]).map sD).length : Int) = (f.length : Int))) (c2 := false) (jt_cm (je_ln ok c.f_len (by walk_at "dl") lk_L) (by walk_at "dl") ck_neI) fun _ => ?_) ?_) jb_nil) ?_
    · cases b with
      | true =>
        refine jw_or1 (JT.eq (jt_and (c2 := false) (jt_val (je_endswith (u := ("r" : Str)) (je_form ok F (by walk_at "dl")) (by walk_at "dl"))) fun _ => jw_and1 (JT.eq (jt_cm (je_ix (by walk_at "dl") (by walk_at "dl") (ik_L (i := -1) (d := sD z) ?_)) (by walk_at "dl") ck_eqS) ?_)) ?_)
        · rw [List.map_append]
          exact at_lastD _ _
        · exact decide_eq_false (S_ne_nil hz)
        · exact Bool.and_false _
      | false =>
        refine jw_or1 (JT.eq (jt_and (c := false) (c2 := true) (JT.eq (jt_val (je_endswith (u := ("r" : Str)) (je_form ok F (by walk_at "dl")) (by walk_at "dl"))) hb) nofun) rfl)
    · rw [List.length_map, hn, decide_eq_true rfl]
      rfl
    exact jb_stop (js_ret (je_tup (ja_cons (by walk_at "dl") (ja_cons (by walk_at "dl") ja_nil)) (show 2 ≤ sizeLine by decide)))
inductive Rfromto : List D → D → Prop
  | mk (a l m : Int) (h1 : l ≤ a) (h2 : a ≤ m) : Rfromto [.int a, .int l, .int m] .non
theorem fn_from_to (c : Ctx w K mg base) : Fn P w K mg base 1 "from_to" 3 Rfromto := by
  refine c.df 33 ["number", "least", "most"] ["number", "least", "most"] (h := ?_)
  rintro cdv A outer s H E hr ok _ _ - ⟨a, l, m, h1, h2⟩
  exact bodyE (ρ' := [.d (.int a), .d (.int l), .d (.int m)]) (.nx [.d (.int a), .d (.int l), .d (.int m)]) (jb_one (js_ifF (by walk_at "te") jb_nil)) (Wk.refl _) rfl
def yesD (b : Bool) : D := .str (if b then "yes" else "no")
inductive Ryes : List D → D → Prop
  | mk (b : Bool) : Ryes [.bl b] (yesD b)
theorem fn_yes_or_no (c : Ctx w K mg base) : Fn P w K mg base 1 "yes_or_no" 1 Ryes := by
  refine c.df 34 ["fine"] ["fine"] (h := ?_)
  rintro cdv A outer s H E hr ok _ _ - ⟨b⟩
  refine bodyR (ρ' := [.d (.bl b)]) (Wk.refl _) ?_
  refine jb_stop (js_ret (je_ix (x := .lst [.str "no", .str "yes"]) (y := .int (if b then 1 else 0)) (by walk_at "dl") (je_in ok c.f_int (by walk_at "dl") (.bl _)) (ik_L ?_)))
  cases b <;> rfl
end
-- F18
/-! The rest of a row; told firsts. -/
open PySem PySem.Spec PyProof.Rows L2 RW M
open SX (S S_len S_cat S_inj)
section
variable {P : Program} {w : World} {K : PySem.W.Frag} {mg : Str → Option Value} {base : Heap} {k : Nat} {R : List D → D → Prop}
/-- " by " begins nowhere -/
def nb : List Nat → Bool
  | [] => true
  | [c] => decide (c ≠ 32)
  | c :: d :: r => (decide (c ≠ 32) || decide (d ≠ 98)) && nb (d :: r)
theorem nb_free : ∀ {a b : List Nat}, 32 ∉ a → nb b = true → nb (a ++ b) = true
  | [], b, _, h => h
  | [c], [], h, _ => decide_eq_true fun e => h (by rw [e]; exact List.mem_cons_self)
  | [c], d :: b, h, hb => by
    show ((decide (c ≠ 32) || decide (d ≠ 98)) && nb (d :: b)) = true
    rw [hb, decide_eq_true (show c ≠ 32 from fun e => h (by rw [e]; exact List.mem_cons_self))]
    rfl
  | c :: d :: a, b, h, hb => by
    show ((decide (c ≠ 32) || decide (d ≠ 98)) && nb (d :: a ++ b)) = true
    rw [nb_free (a := d :: a) (fun z => h (List.mem_cons_of_mem _ z)) hb, decide_eq_true (show c ≠ 32 from fun e => h (by rw [e]; exact List.mem_cons_self))]
    rfl
theorem pre_by {c : Nat} {l : List Nat} (h : c ≠ 32 ∨ ∃ d r, l = d :: r ∧ d ≠ 98) : TL.pre byC (c :: l) = false := by
  rcases h with h | ⟨d, r, rfl, hd⟩
  · exact TL.pre_of_head _ _ h
  · unfold TL.pre
    show ((c :: d :: r).take 4 == byC) = false
    cases r with
    | nil =>
      refine beq_eq_false_iff_ne.mpr fun e => ?_
      have := congrArg List.length e
      simp [byC] at this
    | cons x r =>
      refine beq_eq_false_iff_ne.mpr fun e => ?_
      have e2 : c :: d :: (x :: r).take 2 = [32, 98, 121, 32] := e
      exact hd (List.cons.inj (List.cons.inj e2).2).1
theorem par_by (q : List Nat) : ∀ (p acc : List Nat), nb p = true → TL.par byC acc (p ++ (byC ++ q)) = some (acc ++ p, q)
  | [], acc, _ => by
    rw [List.nil_append, List.append_nil]
    show TL.par byC acc (32 :: ([98, 121, 32] ++ q)) = _
    rw [TL.par_hit (by rw [show 32 :: ([98, 121, 32] ++ q) = byC ++ q from rfl]; exact TL.pre_self byC q)]
    rfl
  | [c], acc, h => by
    have hc : c ≠ 32 := of_decide_eq_true h
    show TL.par byC acc (c :: ([] ++ (byC ++ q))) = _
    rw [TL.par_miss (pre_by (.inl hc)), par_by q [] (acc ++ [c]) rfl, List.append_nil]
  | c :: d :: r, acc, h => by
    have h : ((decide (c ≠ 32) || decide (d ≠ 98)) && nb (d :: r)) = true := h
    rw [Bool.and_eq_true, Bool.or_eq_true] at h
    show TL.par byC acc (c :: (d :: r ++ (byC ++ q))) = _
    refine (TL.par_miss (pre_by (h.1.imp (fun z => of_decide_eq_true z) fun z => ⟨d, _, rfl, of_decide_eq_true z⟩))).trans ?_
    refine (par_by q (d :: r) (acc ++ [c]) h.2).trans ?_
    rw [List.append_assoc]
    rfl
theorem nb_rows : ∀ rows : List (Int × Int), rows ≠ [] → nb (TL.joinL [32] (rows.map rowC)) = true
  | [], h => absurd rfl h
  | [x], _ => by
    show nb (rowC x) = true
    have := nb_free (a := rowC x) (b := []) (rowC_free (by decide) (by decide)) rfl
    rw [List.append_nil] at this
    exact this
  | x :: y :: r, _ => by
    show nb (rowC x ++ ([32] ++ TL.joinL [32] ((y :: r).map rowC))) = true
    have ih := nb_rows (y :: r) (by simp)
    refine nb_free (rowC_free (by decide) (by decide)) ?_
    have h1 : ∃ d l, TL.joinL [32] ((y :: r).map rowC) = d :: l ∧ d ≠ 98 := by
      cases hn : num y.1 with
      | nil => exact absurd hn (num_ne _)
      | cons d l =>
        have hd := TL.numL_digits y.1.toNat d (by
          show d ∈ num y.1
          rw [hn]
          exact List.mem_cons_self)
        cases r with
        | nil => exact ⟨d, _, by
            show rowC y = _
            unfold rowC
            rw [hn]
            rfl, by omega⟩
        | cons z r => exact ⟨d, _, by
            show rowC y ++ ([32] ++ TL.joinL [32] ((z :: r).map rowC)) = _
            unfold rowC
            rw [hn]
            rfl, by omega⟩
    obtain ⟨d, l, e1, e2⟩ := h1
    rw [e1] at ih ⊢
    show ((decide (32 ≠ 32) || decide (d ≠ 98)) && nb (d :: l)) = true
    rw [ih, decide_eq_true e2]
    rfl
theorem par_all (rows : List (Int × Int)) (ts : List T) : TL.par byC [] (allC rows ts) = some (rowsC rows, papsC ts) := by
  unfold allC
  rw [List.append_assoc]
  refine par_by _ _ [] ?_
  unfold rowsC
  split
  · decide
  · rename_i h
    exact nb_rows rows h
theorem brk_free {c : Nat} {u : List Nat} (h2 : c ≠ 40) (h3 : c ≠ 41) (h : c ∉ u) : c ∉ brk u := by
  unfold brk
  intro z
  rcases List.mem_cons.mp z with z | z
  · exact h2 z
  · rcases List.mem_append.mp z with z | z
    · exact h z
    · exact h3 (by simpa using z)
theorem join_free {c : Nat} (h4 : c ≠ 32) : ∀ {ws : List (List Nat)}, (∀ p ∈ ws, c ∉ p) → c ∉ TL.joinL [32] ws
  | [], _ => by simp [TL.joinL]
  | [p], h => h p (by simp)
  | p :: q :: r, h => by
    show c ∉ p ++ ([32] ++ TL.joinL [32] (q :: r))
    intro z
    rcases List.mem_append.mp z with z | z
    · exact h p (by simp) z
    · rcases List.mem_append.mp z with z | z
      · exact h4 (by simpa using z)
      · exact join_free h4 (fun w hw => h w (List.mem_cons_of_mem _ hw)) z
mutual
theorem txt_free {c : Nat} (h1 : c < 48 ∨ 57 < c) (h2 : c ≠ 40) (h3 : c ≠ 41) (h4 : c ≠ 32) : ∀ t : T, c ∉ txtC t
  | .node _ _ q g ks => by
    unfold txtC
    refine brk_free h2 h3 (join_free h4 fun p hp => ?_)
    rcases List.mem_cons.mp hp with rfl | hp
    · exact TL.numL_free h1
    · rcases List.mem_cons.mp hp with rfl | hp
      · exact TL.numL_free h1
      · exact pcs_free h1 h2 h3 h4 ks p hp
theorem pcs_free {c : Nat} (h1 : c < 48 ∨ 57 < c) (h2 : c ≠ 40) (h3 : c ≠ 41) (h4 : c ≠ 32) : ∀ (ks : List T) (p : List Nat), p ∈ pcsC ks → c ∉ p
  | [], p, h => by
    unfold pcsC at h
    cases h
  | k :: ks, p, h => by
    unfold pcsC at h
    rcases List.mem_cons.mp h with rfl | h
    · refine brk_free h2 h3 (join_free h4 fun p hp => ?_)
      simp only [List.mem_cons, List.not_mem_nil, or_false] at hp
      rcases hp with rfl | rfl | rfl
      · exact TL.numL_free h1
      · exact TL.numL_free h1
      · exact txt_free h1 h2 h3 h4 k
    · exact pcs_free h1 h2 h3 h4 ks p h
end
theorem papsC_not {ts : List T} (h : ts ≠ []) : papsC ts ≠ noneC := by
  rw [papsC_ne h]
  intro e
  cases ts with
  | nil => exact h rfl
  | cons t r =>
    have h1 : ∃ l, TL.joinL [59, 32] ((t :: r).map txtC) = 40 :: l := by
      cases r with
      | nil => exact ⟨_, by
          show txtC t = _
          rw [txtC_in]
          rfl⟩
      | cons u r => exact ⟨_, by
          show txtC t ++ ([59, 32] ++ TL.joinL [59, 32] ((u :: r).map txtC)) = _
          rw [txtC_in]
          rfl⟩
    obtain ⟨l, e1⟩ := h1
    rw [e1] at e
    exact absurd (List.cons.inj e).1 (by decide)
inductive Rrest : List D → D → Prop
  | prime (t : T) (hd : dep t ≤ 12) (hok : okT t = true) (hl : (txtC t).length ≤ 8000000) : Rrest [.str "prime", sD (txtC t)] (pap t)
  | all (rows : List (Int × Int)) (ts : List T) (h : ∀ x ∈ rows, RowOk x) (hn : rows.length ≤ 1000) (ht : ∀ t ∈ ts, dep t ≤ 12 ∧ okT t = true) (htn : ts.length ≤ 1000) (hl : (allC rows ts).length ≤ 8000000) : Rrest [.str "all", sD (allC rows ts)] (.tup [.lst (rows.map prD), .lst (ts.map pap)])
theorem fn_read_rest (c : Ctx w K mg base) : Fn P w K mg base 17 "read_rest" 2 Rrest := by
  have Fp : Fn P w K mg base 16 "read_paper" 1 Rrp := fn_read_paper c
  have Fr : Fn P w K mg base 4 "read_rows" 1 Rrows := fn_read_rows c
  refine c.df 35 (k := 16) ["head", "text", "rows", "found", "papers", "paper"] ["head", "text"] (h := ?_)
  rintro cdv A outer s H E hr ok _ _ - (⟨t, hd, hok, hl⟩ | ⟨rows, ts, h, hn, ht, htn, hl⟩)
  · refine bodyR (ρ' := [.d (.str "prime"), .d (sD (txtC t)), .no, .no, .no, .no]) (Wk.refl _) ?_
    refine jb_cons (js_ifF (JT.eq (by walk_at "dl") (show decide (("prime" : Str) = "sum") = false by decide)) jb_nil) ?_
    refine jb_cons (js_ifF (JT.eq (by walk_at "dl") (show decide (("prime" : Str) = "shows") = false by decide)) jb_nil) ?_
    refine jb_stop (js_ifT (JT.eq (by walk_at "dl") (show decide (("prime" : Str) = "prime") = true by decide)) (jb_stop (js_ret (je_ca ok Fp hr (by walk_at "dl") (.mk t hd hok hl) (by omega)))))
  · have hal := allC_len (rows := rows) (ts := ts)
    refine bodyR (ρ' := [.d (.str "all"), .d (sD (allC rows ts)), .no, .no, .no, .no]) (Wk.refl _) ?_
    refine jb_cons (js_ifF (JT.eq (by walk_at "dl") (show decide (("all" : Str) = "sum") = false by decide)) jb_nil) ?_
    refine jb_cons (js_ifF (JT.eq (by walk_at "dl") (show decide (("all" : Str) = "shows") = false by decide)) jb_nil) ?_
    refine jb_cons (js_ifF (JT.eq (by walk_at "dl") (show decide (("all" : Str) = "prime") = false by decide)) jb_nil) ?_
    refine jb_cons (js_ifF (JT.eq (jt_cm (y := .lst [.str "makes", .str "cosines"]) (by walk_at "dl") (by walk_at "dl") (ck_inL rfl rfl)) (by decide)) jb_nil) ?_
    refine jb_cons (ρ1 := [.d (.str "all"), .d (sD (allC rows ts)), .d (sD (rowsC rows)), .d (sD byC), .d (sD (papsC ts)), .no]) (js_asg (je_paS (s := byC) (by walk_at "dl") (je_lit rfl) (par_all rows ts) (by decide) (by omega)) (jg_tup (ds := [sD (rowsC rows), sD byC, sD (papsC ts)]) rfl (by walk_at "jgs"))) ?_
    refine jb_cons (js_ifF (JT.eq (c := decide (S byC = ("" : Str))) (by walk_at "dl") (by decide)) jb_nil) ?_
    refine jb_if (c := decide (ts = [])) (JT.eq (c := decide (S (papsC ts) = ("none" : Str))) (by walk_at "dl") ?_) (fun hc => ?_) (fun _ => ⟨_, rfl⟩) fun hc => ?_
    · rw [S_eq_lit (m := noneC) rfl]
      by_cases hc : ts = []
      · subst hc
        rfl
      · rw [decide_eq_false hc, decide_eq_false (papsC_not hc)]
    · have hc : ts = [] := of_decide_eq_true hc
      subst hc
      exact jb_stop (js_ret (je_tup (ja_cons (je_ca ok Fr hr (by walk_at "dl") (.mk rows h (by omega) hn) (by omega)) (ja_cons (je_lst ja_nil) ja_nil)) (show 2 ≤ sizeLine by decide)))
    have hc : ts ≠ [] := of_decide_eq_false hc
    have hsp : TL.spl [59, 32] 0 [] (papsC ts) = ts.map txtC := by
      rw [papsC_ne hc]
      refine SX.spl_join (by simpa using hc) fun p hp => ?_
      obtain ⟨x, hx, rfl⟩ := List.mem_map.mp hp
      exact txt_free (by decide) (by decide) (by decide) (by decide) x
    refine jb_stop (js_ret (je_tup (ja_cons (je_ca ok Fr hr (by walk_at "dl") (.mk rows h (by omega) hn) (by omega)) (ja_cons (je_cp [("paper", 5)] ok (JI.conv (ds' := ts.map fun x => sD (txtC x)) (ji_list (je_spS (s := [59, 32]) (by walk_at "dl") (je_lit rfl) (by decide) rfl (by omega))) ?_) [.d (.str "all"), .d (sD (allC rows ts)), .d (sD (rowsC rows)), .d (sD byC), .d (sD (papsC ts)), .no] (comp_m (f := fun x => sD (txtC x)) (g := pap) (l := ts) fun x hx => ⟨[.d (.str "all"), .d (sD (allC rows ts)), .d (sD (rowsC rows)), .d (sD byC), .d (sD (papsC ts)), .d (sD (txtC x))], [5], by simp, blk_i ok fun s H C cl fp okb => by walk_at "jg", blk_i ok fun s H C cl fp okb => je_ca okb Fp hr (by walk_at "dl") (.mk x (ht x hx).1 (ht x hx).2 ?_) (by omega)⟩) ?_) ja_nil)) (show 2 ≤ sizeLine by decide)))
    · rw [hsp, List.map_map]
      rfl
    · rw [papsC_ne hc] at hal
      have : (txtC x).length ≤ (TL.joinL [59, 32] (ts.map txtC)).length := len_mem_join (List.mem_map.mpr ⟨x, hx, rfl⟩)
      omega
    · rw [List.length_map]
      omega
def whyC (n : Int) : List Nat := if n = 1 then [111, 110, 101] else if n = 2 then [116, 119, 111] else [115, 105, 120]
theorem why_S (n : Int) : whyM n = S (whyC n) := by
  unfold whyM whyC
  split
  · rfl
  split <;> rfl
def firstsC (n : Int) (rows : List (Int × Int)) : List Nat := if rows = [] then noneC ++ [32] ++ whyC n else rowsC rows
inductive Rtf : List D → D → Prop
  | mk (a n : Int) (rows : List (Int × Int)) (h : Rfp [.int a, .int n] (toldD n rows)) (hr : ∀ x ∈ rows, RowOk x) (hl : (rowsC rows).length ≤ 8000000) (hn : rows.length ≤ 1000) : Rtf [.int a, .int n] (sD (firstsC n rows))
theorem fn_told_firsts (c : Ctx w K mg base) : Fn P w K mg base 6 "told_firsts" 2 Rtf := by
  have Ff : Fn P w K mg base 5 "first_primes" 2 Rfp := fn_first_primes c
  have Fs : Fn P w K mg base 1 "show_rows" 1 Rrowsx := fn_show_rows c
  refine c.df 36 (k := 5) ["a", "n", "told"] ["a", "n"] (h := ?_)
  rintro cdv A outer s H E hr ok _ _ - ⟨a, n, rows, h, hrw, hl, hn⟩
  refine bodyR (ρ' := [.d (.int a), .d (.int n), .no]) (Wk.refl _) ?_
  refine jb_cons (ρ1 := [.d (.int a), .d (.int n), .d (toldD n rows)]) (js_st ok (je_ca ok Ff hr (by walk_at "dl") h (by omega)) (by walk_at "pt")) ?_
  unfold firstsC toldD
  by_cases hc : rows = []
  · subst hc
    rw [if_pos rfl, if_pos (show ([] : List (Int × Int)).isEmpty = true from rfl)]
    refine jb_stop (js_ifT (JT.eq (jt_cm (je_ix (x := .tup [.str "none", .str (whyM n)]) (y := .int 0) (by walk_at "dl") (by walk_at "dl") (ik_T (at0 _ _))) (by walk_at "dl") ck_eqS) (by decide)) (jb_stop (js_ret (je_cS (je_lit rfl) (JD.eq (je_ix (x := .tup [.str "none", .str (whyM n)]) (y := .int 1) (by walk_at "dl") (by walk_at "dl") (ik_T (at1 _ _ _))) (by rw [why_S])) ?_))))
    unfold whyC
    split
    · decide
    split <;> decide
  · have hb : ¬ rows.isEmpty = true := by simpa using hc
    rw [if_neg hb, if_neg hc]
    refine jb_cons (js_ifF (JT.eq (jt_cm (je_ix (x := .tup [.str "primes", .lst (rows.map prD)]) (y := .int 0) (by walk_at "dl") (by walk_at "dl") (ik_T (at0 _ _))) (by walk_at "dl") ck_eqS) (by decide)) jb_nil) ?_
    exact jb_stop (js_ret (je_ca ok Fs hr (ja_cons (je_ix (x := .tup [.str "primes", .lst (rows.map prD)]) (y := .int 1) (by walk_at "dl") (by walk_at "dl") (ik_T (at1 _ _ _))) ja_nil) (.mk rows hrw hl hn) (by omega)))
end
end DL
-- M9
/-! Papers made, bent. -/
namespace M
open DL
def mapO (F : Int → Int → Int → Option T) : List (Int × Int) → Option (List T)
  | [] => some []
  | x :: l => match F x.1 x.2 x.1 with
    | none => none
    | some t => (match mapO F l with
      | none => none
      | some r => some (t :: r))
theorem mapO_spec {F : Int → Int → Int → Option T} (hF : ∀ r m q t, F r m q = some t → t.r = r ∧ t.m = m ∧ t.q = q) : ∀ {l : List (Int × Int)} {ks : List T}, mapO F l = some ks → l = ks.map (fun k => (k.r, k.m)) ∧ ∀ k ∈ ks, F k.r k.m k.r = some k ∧ k.q = k.r
  | [], ks, h => by
    cases h
    exact ⟨rfl, fun k hk => by cases hk⟩
  | x :: l, ks, h => by
    unfold mapO at h
    cases h1 : F x.1 x.2 x.1 with
    | none =>
      rw [h1] at h
      cases h
    | some t =>
      rw [h1] at h
      dsimp only at h
      cases h2 : mapO F l with
      | none =>
        rw [h2] at h
        cases h
      | some r =>
        rw [h2] at h
        cases h
        obtain ⟨a1, a2, a3⟩ := hF _ _ _ _ h1
        obtain ⟨b1, b2⟩ := mapO_spec hF h2
        refine ⟨by rw [List.map_cons, ← b1, a1, a2], fun k hk => ?_⟩
        rcases List.mem_cons.mp hk with rfl | hk
        · rw [a1, a2]
          exact ⟨h1, a3⟩
        · exact b2 k hk
def fineG (q g : Int) (ks : List T) : Bool := ks.all fun k => !decide (pw g ((q - 1) / k.r) q = 1)
def gL (q : Int) (ks : List T) : Nat → Int → Int
  | 0, g => g
  | f + 1, g => if g < min (q - 1) 300 then (if fineG q (g + 1) ks = true then g + 1 else gL q ks f (g + 1)) else g
theorem gL_bound (q : Int) (ks : List T) : ∀ (f : Nat) (g : Int), 0 ≤ g → g ≤ 300 → 0 ≤ gL q ks f g ∧ gL q ks f g ≤ 300
  | 0, g, h0, h1 => ⟨h0, h1⟩
  | f + 1, g, h0, h1 => by
    unfold gL
    split
    · split
      · omega
      · exact gL_bound q ks f (g + 1) (by omega) (by omega)
    · exact ⟨h0, h1⟩
def madeM : Nat → Int → Int → Int → Option T
  | 0, _, _, _ => none
  | f + 1, r, m, q => if q < 3 then some (.node r m q 1 []) else (match prt 100000 2 (q - 1) with
    | none => none
    | some l => (match mapO (madeM f) l with
      | none => none
      | some ks => some (.node r m q (gL q ks 300 1) ks)))
theorem made_rmq : ∀ {f : Nat} {r m q : Int} {t : T}, madeM f r m q = some t → t.r = r ∧ t.m = m ∧ t.q = q
  | 0, r, m, q, t, h => by cases h
  | f + 1, r, m, q, t, h => by
    unfold madeM at h
    split at h
    · cases h
      exact ⟨rfl, rfl, rfl⟩
    · split at h
      · cases h
      · split at h
        · cases h
        · cases h
          exact ⟨rfl, rfl, rfl⟩
def ascT : Int → List T → Bool
  | _, [] => true
  | b, k :: r => decide (b < k.r) && ascT k.r r
mutual
/-- its numbers but g's are not great, its rows few, by ascending primes -/
def good0 : T → Bool
  | .node r m q _ ks => ((decide (0 ≤ r) && decide (r < 2 ^ 59)) && (decide (0 ≤ m) && decide (m ≤ 19))) && ((decide (0 ≤ q) && decide (q < 2 ^ 59)) && (decide (ks.length ≤ 6) && (ascT 1 ks && good0s ks)))
def good0s : List T → Bool
  | [] => true
  | k :: ks => good0 k && good0s ks
end
mutual
def gB : T → Bool
  | .node _ _ _ g ks => (decide (0 ≤ g) && decide (g < 2 ^ 59)) && gBs ks
def gBs : List T → Bool
  | [] => true
  | k :: ks => gB k && gBs ks
end
theorem gBs_all : ∀ {ks : List T}, gBs ks = true ↔ ∀ k ∈ ks, gB k = true
  | [] => by
    unfold gBs
    simp
  | k :: ks => by
    unfold gBs
    rw [Bool.and_eq_true, gBs_all]
    simp
theorem good0s_all : ∀ {ks : List T}, good0s ks = true ↔ ∀ k ∈ ks, good0 k = true
  | [] => by
    unfold good0s
    simp
  | k :: ks => by
    unfold good0s
    rw [Bool.and_eq_true, good0s_all]
    simp
theorem okTs_all : ∀ {ks : List T}, okTs ks = true ↔ ∀ k ∈ ks, okT k = true
  | [] => by
    unfold okTs
    simp
  | k :: ks => by
    unfold okTs
    rw [Bool.and_eq_true, okTs_all]
    simp
theorem deps_all {n : Nat} : ∀ {ks : List T}, deps ks ≤ n ↔ ∀ k ∈ ks, dep k ≤ n
  | [] => by
    unfold deps
    simp
  | k :: ks => by
    unfold deps
    rw [Nat.max_le, deps_all]
    simp
theorem made_gB : ∀ {f : Nat} {r m q : Int} {t : T}, madeM f r m q = some t → gB t = true
  | 0, r, m, q, t, h => by cases h
  | f + 1, r, m, q, t, h => by
    unfold madeM at h
    split at h
    · cases h
      rfl
    · split at h
      · cases h
      · split at h
        · cases h
        · rename_i ks hk
          cases h
          unfold gB
          obtain ⟨b1, b2⟩ := gL_bound q ks 300 1 (by decide) (by decide)
          rw [Bool.and_eq_true, Bool.and_eq_true, gBs_all]
          exact ⟨⟨decide_eq_true b1, decide_eq_true (by omega)⟩, fun k hk' => made_gB ((mapO_spec (fun _ _ _ _ h => made_rmq h) hk).2 k hk').1⟩
structure Good (t : T) : Prop where
  g0 : good0 t = true
  gb : gB t = true
structure GoodN (r m q g : Int) (ks : List T) : Prop where
  r0 : 0 ≤ r
  r1 : r < 2 ^ 59
  m0 : 0 ≤ m
  m1 : m ≤ 19
  q0 : 0 ≤ q
  q1 : q < 2 ^ 59
  g0 : 0 ≤ g
  g1 : g < 2 ^ 59
  few : ks.length ≤ 6
  asc : ascT 1 ks = true
  kids : ∀ k ∈ ks, Good k
theorem Good.of {r m q g : Int} {ks : List T} (h : Good (.node r m q g ks)) : GoodN r m q g ks := by
  obtain ⟨h1, h2⟩ := h
  unfold good0 at h1
  unfold gB at h2
  simp only [Bool.and_eq_true, decide_eq_true_eq] at h1 h2
  obtain ⟨⟨⟨a1, a2⟩, a3, a4⟩, ⟨a5, a6⟩, a7, a8, a9⟩ := h1
  obtain ⟨⟨b1, b2⟩, b3⟩ := h2
  exact ⟨a1, a2, a3, a4, a5, a6, b1, b2, a7, a8, fun k hk => ⟨good0s_all.mp a9 k hk, gBs_all.mp b3 k hk⟩⟩
theorem ascT_gt : ∀ {ks : List T} {b : Int}, ascT b ks = true → ∀ k ∈ ks, b < k.r
  | [], b, _, k, hk => by cases hk
  | x :: ks, b, h, k, hk => by
    unfold ascT at h
    rw [Bool.and_eq_true] at h
    have h1 : b < x.r := of_decide_eq_true h.1
    rcases List.mem_cons.mp hk with rfl | hk
    · exact h1
    · exact Int.lt_trans h1 (ascT_gt h.2 k hk)
theorem ascT_pair : ∀ {ks : List T} {b : Int}, ascT b ks = true → ks.Pairwise fun x y => x.r < y.r
  | [], b, _ => List.Pairwise.nil
  | x :: ks, b, h => by
    unfold ascT at h
    rw [Bool.and_eq_true] at h
    exact List.pairwise_cons.mpr ⟨fun y hy => ascT_gt h.2 y hy, ascT_pair h.2⟩
theorem Good.ok {t : T} (h : Good t) : okT t = true := by
  match t, h with
  | .node r m q g ks, h =>
    have n := h.of
    unfold okT
    simp only [Bool.and_eq_true, decide_eq_true_eq]
    have := n.r0; have := n.r1; have := n.m0; have := n.m1; have := n.q0; have := n.q1; have := n.g0; have := n.g1
    refine ⟨⟨by omega, by omega⟩, ⟨by omega, by omega⟩, ⟨by omega, by omega⟩, ⟨by omega, by omega⟩, okTs_all.mpr fun k hk => ?_⟩
    have : sizeOf k < sizeOf ks := List.sizeOf_lt_of_mem hk
    exact Good.ok (n.kids k hk)
termination_by sizeOf t
decreasing_by simp_wf; omega
/-! bent -/
def bOthers : List Int := [2, 3, 5, 7, 11, 13, 17, 19, 23, 29, 31]
def freeP (ks : List T) : List Int := bOthers.filter fun p => !decide (p ∈ ks.map T.r)
def insT (x : T) : List T → List T
  | [] => [x]
  | y :: r => if x.r < y.r then x :: y :: r else y :: insT x r
def smallT (p : Int) : T := (madeM 6 p 0 p).getD (.node p 0 2 1 [])
def T.withM : T → Int → T
  | .node r _ q g ks, m => .node r m q g ks
def twoT (k : T) : T := .node k.r k.m 2 1 []
def g4 (q g pick : Int) : Int := ([g + 1, max 0 (g - 1), q, 1][(pick / 64 % 4).toNat]?).getD 1
def pm1 (pick : Int) : Int := if pick / 64 % 2 = 0 then 1 else -1
def putAt (ks : List T) (i : Nat) (mid : List T) : List T := ks.take i ++ (mid ++ ks.drop (i + 1))
def bentF (rec : T → Int → T) : T → Int → T
  | .node r m q g ks, pick =>
    if pick % 9 = 0 then .node r m (max 0 (q + pm1 pick)) g ks
    else if pick % 9 = 8 then .node r m q g (insT (smallT (((freeP ks)[(pick / 64 % 5).toNat]?).getD 2)) ks)
    else if pick % 9 = 1 ∨ ks = [] then .node r m q (g4 q g pick) ks
    else match ks[(pick / 9 % max 1 (ks.length : Int)).toNat]? with
      | none => .node r m q g ks
      | some k =>
        if pick % 9 = 2 then .node r m q g (putAt ks (pick / 9 % max 1 (ks.length : Int)).toNat [])
        else if pick % 9 = 3 then .node r m q g (putAt ks (pick / 9 % max 1 (ks.length : Int)).toNat [k, k])
        else if pick % 9 = 4 then .node r m q g (putAt ks (pick / 9 % max 1 (ks.length : Int)).toNat [k.withM (max 0 (k.m + pm1 pick))])
        else if pick % 9 = 5 then .node r m q g (putAt ks (pick / 9 % max 1 (ks.length : Int)).toNat [twoT k])
        else if pick % 9 = 6 then .node r m q g ks.reverse
        else .node r m q g (putAt ks (pick / 9 % max 1 (ks.length : Int)).toNat [rec k (pick / 64)])
def bentM : Nat → T → Int → T
  | 0 => bentF fun t _ => t
  | f + 1 => bentF (bentM f)
theorem small_ok : ∀ p ∈ bOthers, ∃ t, madeM 6 p 0 p = some t ∧ smallT p = t ∧ good0 t = true ∧ dep t ≤ 4 ∧ siz t ≤ 20 := by
  have h : (bOthers.all fun p => match madeM 6 p 0 p with
    | none => false
    | some t => good0 t && (decide (dep t ≤ 4) && decide (siz t ≤ 20))) = true := by decide +kernel
  intro p hp
  have := List.all_eq_true.mp h p hp
  cases hm : madeM 6 p 0 p with
  | none =>
    rw [hm] at this
    cases this
  | some t =>
    rw [hm] at this
    simp only [Bool.and_eq_true, decide_eq_true_eq] at this
    exact ⟨t, rfl, by unfold smallT; rw [hm]; rfl, this⟩
theorem len_filter_ne (x : Int) : ∀ {l : List Int}, l.Nodup → l.length ≤ (l.filter fun p => !decide (p = x)).length + 1
  | [], _ => by simp
  | y :: l, h => by
    obtain ⟨h1, h2⟩ := List.nodup_cons.mp h
    rw [List.filter_cons]
    by_cases e : y = x
    · rw [if_neg (by simp [e])]
      have : l.filter (fun p => !decide (p = x)) = l := List.filter_eq_self.mpr fun p hp => by
        have : p ≠ x := fun q => h1 (by rw [e, ← q]; exact hp)
        simp [this]
      rw [this, List.length_cons]
      exact Nat.le_refl _
    · rw [if_pos (by simp [e]), List.length_cons, List.length_cons]
      have := len_filter_ne x h2
      omega
theorem len_filter_mem : ∀ (L : List Int) {l : List Int}, l.Nodup → l.length ≤ (l.filter fun p => !decide (p ∈ L)).length + L.length
  | [], l, h => by
    have e : (l.filter fun p => !decide (p ∈ ([] : List Int))) = l := List.filter_eq_self.mpr (by simp)
    rw [e]
    exact Nat.le_refl _
  | x :: L, l, h => by
    have e : (l.filter fun p => !decide (p ∈ x :: L)) = (l.filter fun p => !decide (p = x)).filter fun p => !decide (p ∈ L) := by
      rw [List.filter_filter]
      congr 1
      funext p
      by_cases h1 : p = x <;> by_cases h2 : p ∈ L <;> simp [h1, h2]
    have h1 := len_filter_ne x h
    have h2 := len_filter_mem L (l := l.filter fun p => !decide (p = x)) (h.filter _)
    rw [e, List.length_cons]
    omega
theorem freeP_len {ks : List T} (h : ks.length ≤ 6) : 5 ≤ (freeP ks).length := by
  have := len_filter_mem (ks.map T.r) (l := bOthers) (by decide)
  rw [List.length_map] at this
  have e : bOthers.length = 11 := rfl
  unfold freeP
  omega
theorem pick_free {ks : List T} (h : ks.length ≤ 6) (pick : Int) : ∃ p, (freeP ks)[(pick / 64 % 5).toNat]? = some p ∧ p ∈ bOthers ∧ p ∉ ks.map T.r := by
  have h1 := freeP_len h
  have h2 : (pick / 64 % 5).toNat < (freeP ks).length := by omega
  obtain ⟨p, hp⟩ : ∃ p, (freeP ks)[(pick / 64 % 5).toNat]? = some p := ⟨_, List.getElem?_eq_getElem h2⟩
  have := List.mem_of_getElem? hp
  unfold freeP at this
  obtain ⟨a, b⟩ := List.mem_filter.mp this
  exact ⟨p, hp, a, fun z => by
    rw [decide_eq_true z] at b
    cases b⟩
theorem insT_perm (x : T) : ∀ ks : List T, (insT x ks).Perm (x :: ks)
  | [] => List.Perm.refl _
  | y :: r => by
    unfold insT
    split
    · exact List.Perm.refl _
    · exact ((insT_perm x r).cons y).trans (List.Perm.swap x y r)
theorem insT_sorted (x : T) : ∀ {ks : List T}, ks.Pairwise (fun a b => a.r < b.r) → (∀ k ∈ ks, k.r ≠ x.r) → (insT x ks).Pairwise (fun a b => a.r < b.r)
  | [], _, _ => List.pairwise_singleton _ _
  | y :: r, h, hn => by
    obtain ⟨h1, h2⟩ := List.pairwise_cons.mp h
    have hy := hn y List.mem_cons_self
    unfold insT
    split
    · rename_i hlt
      refine List.pairwise_cons.mpr ⟨fun z hz => ?_, h⟩
      rcases List.mem_cons.mp hz with rfl | hz
      · exact hlt
      · exact Int.lt_trans hlt (h1 z hz)
    · rename_i hlt
      refine List.pairwise_cons.mpr ⟨fun z hz => ?_, insT_sorted x h2 fun k hk => hn k (List.mem_cons_of_mem _ hk)⟩
      rcases List.mem_cons.mp ((insT_perm x r).mem_iff.mp hz) with rfl | hz
      · omega
      · exact h1 z hz
theorem sizs_app : ∀ l m : List T, sizs (l ++ m) = sizs l + sizs m
  | [], m => by simp [sizs]
  | x :: l, m => by
    show siz x + sizs (l ++ m) = siz x + sizs l + sizs m
    rw [sizs_app l m]
    omega
theorem sizs_perm {l m : List T} (h : l.Perm m) : sizs l = sizs m := by
  induction h with
  | nil => rfl
  | cons x _ ih =>
    show siz x + _ = siz x + _
    rw [ih]
  | swap x y l =>
    show siz y + (siz x + sizs l) = siz x + (siz y + sizs l)
    omega
  | trans _ _ i1 i2 => exact i1.trans i2
theorem split_at {ks : List T} {i : Nat} {k : T} (h : ks[i]? = some k) : ks = putAt ks i [k] := by
  obtain ⟨h1, h2⟩ := List.getElem?_eq_some_iff.mp h
  unfold putAt
  rw [← h2]
  show ks = ks.take i ++ (ks[i] :: ks.drop (i + 1))
  rw [← List.drop_eq_getElem_cons h1, List.take_append_drop]
theorem mem_put {ks : List T} {i : Nat} {mid : List T} {x : T} (h : x ∈ putAt ks i mid) : x ∈ ks ∨ x ∈ mid := by
  unfold putAt at h
  rcases List.mem_append.mp h with h | h
  · exact .inl (List.mem_of_mem_take h)
  · rcases List.mem_append.mp h with h | h
    · exact .inr h
    · exact .inl (List.mem_of_mem_drop h)
theorem sizs_put {ks : List T} {i : Nat} {k : T} (h : ks[i]? = some k) (mid : List T) : sizs (putAt ks i mid) + siz k = sizs ks + sizs mid := by
  have e : sizs ks = sizs (putAt ks i [k]) := congrArg sizs (split_at h)
  rw [e]
  unfold putAt
  simp only [sizs_app]
  have : sizs [k] = siz k := by simp [sizs]
  omega
theorem len_put {ks : List T} {i : Nat} (mid : List T) : (putAt ks i mid).length ≤ ks.length + mid.length := by
  unfold putAt
  simp only [List.length_append, List.length_take, List.length_drop]
  omega
mutual
def fewB : T → Bool
  | .node _ _ _ _ ks => decide (ks.length ≤ 1000) && fewBs ks
def fewBs : List T → Bool
  | [] => true
  | k :: ks => fewB k && fewBs ks
end
theorem fewBs_all : ∀ {ks : List T}, fewBs ks = true ↔ ∀ k ∈ ks, fewB k = true
  | [] => by
    unfold fewBs
    simp
  | k :: ks => by
    unfold fewBs
    rw [Bool.and_eq_true, fewBs_all]
    simp
theorem Good.few {t : T} (h : Good t) : fewB t = true := by
  match t, h with
  | .node r m q g ks, h =>
    have n := h.of
    unfold fewB
    rw [Bool.and_eq_true, fewBs_all]
    refine ⟨decide_eq_true (by have := n.few; omega), fun k hk => ?_⟩
    have : sizeOf k < sizeOf ks := List.sizeOf_lt_of_mem hk
    exact Good.few (n.kids k hk)
termination_by sizeOf t
decreasing_by simp_wf; omega
structure Fit (D Z : Nat) (t : T) : Prop where
  ok : okT t = true
  few : fewB t = true
  dep : dep t ≤ D
  siz : siz t ≤ Z
theorem node_fit {r m q g : Int} {ks : List T} {D Z : Nat} (hr : 0 ≤ r ∧ r < 2 ^ 60) (hm : 0 ≤ m ∧ m ≤ 20) (hq : 0 ≤ q ∧ q < 2 ^ 60) (hg : 0 ≤ g ∧ g < 2 ^ 60) (hl : ks.length ≤ 1000) (hk : ∀ k ∈ ks, okT k = true ∧ fewB k = true ∧ M.dep k ≤ D) (hz : sizs ks + 1 ≤ Z) : Fit (D + 1) Z (.node r m q g ks) := by
  refine ⟨?_, ?_, ?_, ?_⟩
  · unfold okT
    simp only [Bool.and_eq_true, decide_eq_true_eq]
    exact ⟨hr, hm, hq, hg, okTs_all.mpr fun k h => (hk k h).1⟩
  · unfold fewB
    rw [Bool.and_eq_true, fewBs_all]
    exact ⟨decide_eq_true hl, fun k h => (hk k h).2.1⟩
  · unfold M.dep
    have := deps_all.mpr fun k h => (hk k h).2.2
    omega
  · unfold M.siz
    omega
theorem siz_kid {ks : List T} {k : T} (h : k ∈ ks) : siz k ≤ sizs ks := by
  obtain ⟨i, hi⟩ := List.mem_iff_getElem?.mp h
  have := sizs_put hi []
  have e : sizs [] = 0 := by simp [sizs]
  omega
theorem okT_withM {k : T} {m : Int} (h : okT k = true) (hm : 0 ≤ m ∧ m ≤ 20) : okT (k.withM m) = true := by
  cases k
  unfold okT at h
  unfold T.withM okT
  simp only [Bool.and_eq_true, decide_eq_true_eq] at h ⊢
  exact ⟨h.1, hm, h.2.2⟩
theorem fewB_withM {k : T} {m : Int} : fewB (k.withM m) = fewB k := by
  cases k
  rfl
theorem dep_withM {k : T} {m : Int} : dep (k.withM m) = dep k := by
  cases k
  rfl
theorem siz_withM {k : T} {m : Int} : siz (k.withM m) = siz k := by
  cases k
  rfl
theorem siz_pos (t : T) : 1 ≤ siz t := by
  cases t
  unfold siz
  omega
theorem g4_bound {q g pick : Int} (hq : 0 ≤ q ∧ q < 2 ^ 59) (hg : 0 ≤ g ∧ g < 2 ^ 59) : 0 ≤ g4 q g pick ∧ g4 q g pick < 2 ^ 60 := by
  unfold g4
  have h : (pick / 64 % 4).toNat = 0 ∨ (pick / 64 % 4).toNat = 1 ∨ (pick / 64 % 4).toNat = 2 ∨ (pick / 64 % 4).toNat = 3 := by omega
  rcases h with h | h | h | h <;> rw [h]
  · show 0 ≤ g + 1 ∧ g + 1 < 2 ^ 60
    omega
  · show 0 ≤ max 0 (g - 1) ∧ max 0 (g - 1) < 2 ^ 60
    omega
  · show 0 ≤ q ∧ q < 2 ^ 60
    omega
  · show (0 : Int) ≤ 1 ∧ (1 : Int) < 2 ^ 60
    omega
theorem bentF_fit {rec : T → Int → T} {D : Nat} (t : T) (pick : Int) (ht : Good t) (hD : 4 ≤ D) (hp : 0 ≤ pick) (hrec : pick % 9 = 7 → ∀ k ∈ t.ks, Fit (max (M.dep k) D) (2 * M.siz k + 30) (rec k (pick / 64))) : Fit (max (M.dep t) (D + 1)) (2 * M.siz t + 30) (bentF rec t pick) := by
  match t, ht with
  | .node r m q g ks, ht =>
    have n := ht.of
    have b1 := n.r0; have b2 := n.r1; have b3 := n.m0; have b4 := n.m1; have b5 := n.q0; have b6 := n.q1; have b7 := n.g0; have b8 := n.g1; have b9 := n.few
    have hk : ∀ k ∈ ks, okT k = true ∧ fewB k = true := fun k h => ⟨(n.kids k h).ok, (n.kids k h).few⟩
    have hdk : ∀ k ∈ ks, M.dep k ≤ max (deps ks) D := fun k h => Nat.le_trans (deps_all.mp (Nat.le_refl (deps ks)) k h) (Nat.le_max_left _ _)
    have hall : ∀ k ∈ ks, okT k = true ∧ fewB k = true ∧ M.dep k ≤ max (deps ks) D := fun k h => ⟨(hk k h).1, (hk k h).2, hdk k h⟩
    have hpm : pm1 pick = 1 ∨ pm1 pick = -1 := by
      unfold pm1
      split
      · exact .inl rfl
      · exact .inr rfl
    have fin : ∀ {q' g' : Int} {ks' : List T}, (0 ≤ q' ∧ q' < 2 ^ 60) → (0 ≤ g' ∧ g' < 2 ^ 60) → ks'.length ≤ 1000 → (∀ k ∈ ks', okT k = true ∧ fewB k = true ∧ M.dep k ≤ max (deps ks) D) → sizs ks' ≤ 2 * sizs ks + 30 → Fit (max (M.dep (.node r m q g ks)) (D + 1)) (2 * M.siz (.node r m q g ks) + 30) (.node r m q' g' ks') := by
      intro q' g' ks' h1 h2 h3 h4 h5
      have := node_fit (r := r) (m := m) (D := max (deps ks) D) (Z := 2 * M.siz (.node r m q g ks) + 30) ⟨b1, by omega⟩ ⟨b3, by omega⟩ h1 h2 h3 h4 (by
        unfold M.siz
        omega)
      refine ⟨this.ok, this.few, ?_, this.siz⟩
      have h6 := this.dep
      unfold M.dep at h6 ⊢
      omega
    have fq : (0 ≤ q ∧ q < 2 ^ 60) := ⟨b5, by omega⟩
    have fg : (0 ≤ g ∧ g < 2 ^ 60) := ⟨b7, by omega⟩
    rw [bentF]
    split
    · exact fin ⟨by omega, by omega⟩ fg (by omega) hall (by omega)
    split
    · obtain ⟨p, e1, e2, e3⟩ := pick_free n.few pick
      rw [e1]
      obtain ⟨x, x1, x2, x3, x4, x5⟩ := small_ok p e2
      show Fit _ _ (.node r m q g (insT (smallT p) ks))
      rw [x2]
      have hpm := insT_perm x ks
      refine fin fq fg (by rw [hpm.length_eq, List.length_cons]; omega) (fun k h => ?_) (by
        rw [sizs_perm hpm]
        show M.siz x + sizs ks ≤ _
        omega)
      rcases List.mem_cons.mp (hpm.mem_iff.mp h) with rfl | h
      · exact ⟨Good.ok ⟨x3, made_gB x1⟩, Good.few ⟨x3, made_gB x1⟩, by omega⟩
      · exact hall k h
    split
    · exact fin fq (g4_bound ⟨b5, b6⟩ ⟨b7, b8⟩) (by omega) hall (by omega)
    split
    · exact fin fq fg (by omega) hall (by omega)
    rename_i k hi
    have hkm : k ∈ ks := List.mem_of_getElem? hi
    have hkk := hall k hkm
    have hks := siz_kid hkm
    have hput : ∀ (mid : List T), mid.length ≤ 2 → (∀ x ∈ mid, okT x = true ∧ fewB x = true ∧ M.dep x ≤ max (deps ks) D) → sizs mid ≤ 2 * M.siz k + 30 → Fit (max (M.dep (.node r m q g ks)) (D + 1)) (2 * M.siz (.node r m q g ks) + 30) (.node r m q g (putAt ks (pick / 9 % max 1 (ks.length : Int)).toNat mid)) := by
      intro mid h1 h2 h3
      have hz := sizs_put hi mid
      refine fin fq fg (by have := len_put (ks := ks) (i := (pick / 9 % max 1 (ks.length : Int)).toNat) mid; omega) (fun x hx => ?_) (by omega)
      rcases mem_put hx with h | h
      · exact hall x h
      · exact h2 x h
    have e0 : sizs [] = 0 := by simp [sizs]
    have e1 : ∀ x : T, sizs [x] = M.siz x := fun x => by simp [sizs]
    split
    · exact hput [] (by simp) (fun x hx => by cases hx) (by omega)
    split
    · refine hput [k, k] (by simp) (fun x hx => ?_) (by simp [sizs]; omega)
      have : x = k := by simpa using hx
      rw [this]
      exact hkk
    split
    · refine hput [k.withM (max 0 (k.m + pm1 pick))] (by simp) (fun x hx => ?_) (by rw [e1, siz_withM]; omega)
      have hx : x = _ := List.mem_singleton.mp hx
      have hm : 0 ≤ k.m ∧ k.m ≤ 19 := by
        match k, n.kids k hkm with
        | .node _ _ _ _ _, h => exact ⟨h.of.m0, h.of.m1⟩
      rw [hx, fewB_withM, dep_withM]
      exact ⟨okT_withM hkk.1 (by omega), hkk.2⟩
    split
    · refine hput [twoT k] (by simp) (fun x hx => ?_) (by rw [e1]; show 1 + sizs [] ≤ _; omega)
      have hx : x = _ := List.mem_singleton.mp hx
      have hm : (0 ≤ k.m ∧ k.m ≤ 19) ∧ 0 ≤ k.r ∧ k.r < 2 ^ 59 := by
        match k, n.kids k hkm with
        | .node _ _ _ _ _, h => exact ⟨⟨h.of.m0, h.of.m1⟩, h.of.r0, h.of.r1⟩
      rw [hx]
      have := node_fit (r := k.r) (m := k.m) (q := 2) (g := 1) (ks := []) (D := 0) (Z := 1) ⟨hm.2.1, by omega⟩ ⟨hm.1.1, by omega⟩ (by decide) (by decide) (by simp) (fun k h => by cases h) (by simp [sizs])
      exact ⟨this.ok, this.few, by have := this.dep; show M.dep (.node k.r k.m 2 1 []) ≤ _; omega⟩
    split
    · refine fin fq fg (by rw [List.length_reverse]; omega) (fun x hx => hall x (List.mem_reverse.mp hx)) (by rw [sizs_perm (List.reverse_perm ks)]; omega)
    · have h7 : pick % 9 = 7 := by omega
      have hr := hrec h7 k hkm
      refine hput [rec k (pick / 64)] (by simp) (fun x hx => ?_) (by rw [e1]; exact hr.siz)
      have hx : x = _ := List.mem_singleton.mp hx
      rw [hx]
      exact ⟨hr.ok, hr.few, by have := hr.dep; have := hkk.2.2; omega⟩
theorem bentM_fit : ∀ (f : Nat) (t : T) (pick : Int), Good t → 0 ≤ pick → pick < 64 ^ f → Fit (max (M.dep t) (f + 5)) (2 * M.siz t + 30) (bentM f t pick)
  | 0, t, pick, ht, h0, h1 => by
    have : pick = 0 := by
      rw [Int.pow_zero] at h1
      omega
    exact bentF_fit (D := 4) t pick ht (Nat.le_refl _) h0 fun z => by omega
  | f + 1, t, pick, ht, h0, h1 => by
    rw [Int.pow_succ] at h1
    refine bentF_fit (D := f + 5) t pick ht (by omega) h0 fun z k hk => ?_
    match t, ht with
    | .node r m q g ks, ht => exact bentM_fit f k (pick / 64) (ht.of.kids k hk) (by omega) (by omega)
theorem bentF_rm (rec : T → Int → T) (t : T) (pick : Int) : (bentF rec t pick).r = t.r ∧ (bentF rec t pick).m = t.m := by
  cases t
  rw [bentF]
  repeat' split
  all_goals exact ⟨rfl, rfl⟩
theorem bentM_rm (f : Nat) (t : T) (pick : Int) : (bentM f t pick).r = t.r ∧ (bentM f t pick).m = t.m := by
  cases f <;> exact bentF_rm _ t pick
end M
-- F19
/-! Papers made. -/
namespace DL
open PySem PySem.Spec PyProof.Rows L2 RW M
open SX (S S_len S_cat S_inj)
local macro_rules | `(tactic| walk_at "num") => `(tactic| first
  | with_reducible assumption
  | rfl
  | omega
  | (simp only [decide_eq_true_eq, decide_eq_false_iff_not, Bool.not_eq_true', Bool.not_eq_false', Bool.and_eq_true, Bool.or_eq_false_iff, Bool.not_eq_true, Bool.not_eq_false, Int.not_lt, Int.not_le] at *; omega)
  | skip)
local macro_rules | `(tactic| walk_at "sz") => `(tactic| first
  | with_reducible assumption
  | exact sz_of (by simp only [List.length_cons, List.length_nil, List.length_append, List.length_map, List.length_replicate]; omega)
  | exact sz_lt (by simp only [List.length_cons, List.length_nil, List.length_append, List.length_map, List.length_replicate]; omega)
  | skip)
local macro_rules | `(tactic| walk_at "at") => `(tactic| first
  | with_reducible exact At.z
  | (with_reducible apply At.s; walk_at "at"))
local macro_rules | `(tactic| walk_at "pt") => `(tactic| first
  | with_reducible exact Put.z
  | (with_reducible apply Put.s; walk_at "pt"))
local macro_rules | `(tactic| walk_at "mul") => `(tactic| first
  | assumption
  | (exact Or.inl (Or.inl ⟨by omega, by omega⟩))
  | (exact Or.inl (Or.inr ⟨by omega, by omega⟩))
  | skip)
local macro_rules | `(tactic| walk_at "bk") => `(tactic| first
  | with_reducible assumption
  | with_reducible exact bk_add
  | with_reducible exact bk_sub
  | ((with_reducible apply bk_mul) ; walk_at "mul")
  | ((with_reducible apply @bk_div) <;> walk_at "dl")
  | ((with_reducible apply @bk_mod) <;> walk_at "dl")
  | ((with_reducible apply @bk_cat) <;> walk_at "dl")
  | ((with_reducible apply @bk_addS) <;> walk_at "dl")
  | ((with_reducible apply @bk_rep) <;> walk_at "dl"))
local macro_rules | `(tactic| walk_at "ck") => `(tactic| first
  | with_reducible exact ck_eqI
  | with_reducible exact ck_neI
  | with_reducible exact ck_lt
  | with_reducible exact ck_le
  | with_reducible exact ck_gt
  | with_reducible exact ck_ge
  | with_reducible exact ck_eqS
  | with_reducible exact ck_neS
  | with_reducible exact ck_isN
  | with_reducible exact ck_eqB
  | with_reducible exact ck_inS
  | ((with_reducible apply @ck_inL) <;> walk_at "dl")
  | ((with_reducible apply @ck_inT) <;> walk_at "dl")
  | ((with_reducible apply @ck_ninL) <;> walk_at "dl")
  | ((with_reducible apply @ck_eqD) <;> first | (exact Room.ofX (by assumption)) | walk_at "dl")
  | ((with_reducible apply @ck_neD) <;> first | (exact Room.ofX (by assumption)) | walk_at "dl"))
local macro_rules | `(tactic| walk_at "ik") => `(tactic| first
  | ((with_reducible apply @ik_L) <;> walk_at "dl")
  | ((with_reducible apply @ik_T) <;> walk_at "dl")
  | ((with_reducible apply @ik_S) <;> walk_at "dl"))
local macro_rules | `(tactic| walk_at "sk") => `(tactic| first
  | with_reducible exact sk_L
  | with_reducible exact sk_R
  | ((with_reducible apply @sk_S) <;> walk_at "dl")
  | ((with_reducible apply @sk_T) <;> walk_at "dl"))
local macro_rules | `(tactic| walk_at "lk") => `(tactic| first
  | with_reducible exact lk_L
  | with_reducible exact lk_T
  | ((with_reducible apply @lk_S) <;> walk_at "dl"))
local macro_rules | `(tactic| walk_at "mg") => `(tactic| first
  | with_reducible exact Ctx.f_len (by assumption)
  | with_reducible exact Ctx.f_max (by assumption)
  | with_reducible exact Ctx.f_list (by assumption)
  | with_reducible exact Ctx.f_reversed (by assumption)
  | with_reducible exact Ctx.f_range (by assumption)
  | with_reducible exact Ctx.f_enumerate (by assumption)
  | with_reducible exact Ctx.f_zip (by assumption)
  | with_reducible exact Ctx.f_all (by assumption)
  | with_reducible exact Ctx.f_any (by assumption)
  | with_reducible exact Ctx.f_isinstance (by assumption)
  | with_reducible exact Ctx.f_str (by assumption)
  | with_reducible exact Ctx.f_int (by assumption)
  | with_reducible exact Ctx.f_min (by assumption)
  | with_reducible exact Ctx.f_sorted (by assumption)
  | with_reducible exact Ctx.f_tuple (by assumption)
  | with_reducible exact Ctx.f_bool (by assumption))
local macro_rules | `(tactic| walk_at "call") => `(tactic| first
  | ((with_reducible show JD _ _ (Expr.Call (Expr.Name (PySem.Str.ofString "len") _) _ _ _) _); (first | ((with_reducible apply @je_olen) <;> (first | ((with_reducible show At _ _ _ _ _); walk_at "at") | ((fail_if_success (with_reducible show At _ _ _ _ _)); walk_at "dl"))) | ((with_reducible apply @je_ln) <;> walk_at "dl")))
  | ((with_reducible show JD _ _ (Expr.Call (Expr.Name (PySem.Str.ofString "int") _) _ _ _) _); ((with_reducible apply @je_in) <;> walk_at "dl"))
  | ((with_reducible show JD _ _ (Expr.Call (Expr.Name (PySem.Str.ofString "str") _) _ _ _) _); ((with_reducible apply @je_sI) <;> walk_at "dl"))
  | ((with_reducible show JD _ _ (Expr.Call (Expr.Name (PySem.Str.ofString "max") _) _ _ _) _); ((with_reducible apply @je_mx) <;> walk_at "dl"))
  | ((with_reducible show JD _ _ (Expr.Call (Expr.Name (PySem.Str.ofString "min") _) _ _ _) _); ((with_reducible apply @je_mn) <;> walk_at "dl"))
  | ((with_reducible show JD _ _ (Expr.Call (Expr.Name (PySem.Str.ofString "all") _) _ _ _) _); ((with_reducible apply @je_al) <;> walk_at "dl"))
  | ((with_reducible show JD _ _ (Expr.Call (Expr.Name (PySem.Str.ofString "any") _) _ _ _) _); ((with_reducible apply @je_an) <;> walk_at "dl"))
  | ((with_reducible show JD _ _ (Expr.Call (Expr.Name (PySem.Str.ofString "isinstance") _) [_, Expr.Name (PySem.Str.ofString "int") _] _ _) _); ((with_reducible apply @je_iI) <;> walk_at "dl"))
  | ((with_reducible show JD _ _ (Expr.Call (Expr.Name (PySem.Str.ofString "isinstance") _) [_, Expr.Name (PySem.Str.ofString "bool") _] _ _) _); ((with_reducible apply @je_iI) <;> walk_at "dl"))
  | ((with_reducible show JD _ _ (Expr.Call (Expr.Name (PySem.Str.ofString "isinstance") _) [_, Expr.Name (PySem.Str.ofString "tuple") _] _ _) _); ((with_reducible apply @je_iI) <;> walk_at "dl"))
  | ((with_reducible show JD _ _ (Expr.Call (Expr.Name (PySem.Str.ofString "isinstance") _) [_, Expr.Name (PySem.Str.ofString "list") _] _ _) _); ((with_reducible apply @je_iI) <;> walk_at "dl"))
  | ((with_reducible apply @je_ca) <;> walk_at "dl"))
local macro_rules | `(tactic| walk_at "jd") => `(tactic| first
  | ((with_reducible show JD _ _ (Expr.Name _ _) _); ((with_reducible apply @je_v) <;> walk_at "dl"))
  | ((with_reducible show JD _ _ (Expr.Constant _ _ _) _); (first | exact je_int | exact je_str | exact je_bl | exact je_non))
  | ((with_reducible show JD _ _ (Expr.BinOp _ _ _ _) _); ((with_reducible apply @je_bin) <;> walk_at "dl"))
  | ((with_reducible show JD _ _ (Expr.Compare _ _ _ _) _); ((with_reducible apply @je_cm) <;> walk_at "dl"))
  | ((with_reducible show JD _ _ (Expr.Subscript _ (Expr.Slice none none (some _) _) _) _); ((with_reducible apply @je_revL) <;> walk_at "dl"))
  | ((with_reducible show JD _ _ (Expr.Subscript _ (Expr.Slice _ _ none _) _) _); ((with_reducible apply @je_sl) <;> walk_at "dl"))
  | ((with_reducible show JD _ _ (Expr.Subscript (Expr.Name _ _) _ _) _); (first | ((with_reducible apply @je_oix) <;> (first | ((with_reducible show At _ _ _ _ _); walk_at "at") | ((fail_if_success (with_reducible show At _ _ _ _ _)); walk_at "dl"))) | ((with_reducible apply @je_ix) <;> walk_at "dl")))
  | ((with_reducible show JD _ _ (Expr.Subscript _ _ _) _); ((with_reducible apply @je_ix) <;> walk_at "dl"))
  | ((with_reducible show JD _ _ (Expr.Tuple _ _ _) _); ((with_reducible apply @je_tup) <;> walk_at "dl"))
  | ((with_reducible show JD _ _ (Expr.List _ _) _); ((with_reducible apply @je_lst) <;> walk_at "dl"))
  | ((with_reducible show JD _ _ (Expr.Call _ _ _ _) _); walk_at "call")
  | ((with_reducible show JD _ _ (Expr.BoolOp _ (_ :: _ :: _) _) _); (first | ((with_reducible apply @je_and) <;> first | ((with_reducible show _ = true → _); intro _; walk_at "dl") | walk_at "dl") | ((with_reducible apply @je_or) <;> first | ((with_reducible show _ = false → _); intro _; walk_at "dl") | walk_at "dl")))
  | ((with_reducible show JD _ _ (Expr.BoolOp _ _ _) _); ((with_reducible apply @je_one) <;> walk_at "dl"))
  | ((with_reducible apply @je_neg) <;> walk_at "dl")
  | ((with_reducible apply @je_not) <;> walk_at "dl"))
local macro_rules | `(tactic| walk_at "jw") => `(tactic| first
  | ((with_reducible apply @jw_and) <;> first | ((with_reducible show _ = _ → _); intro _; walk_at "dl") | walk_at "dl")
  | ((with_reducible apply @jw_or) <;> first | ((with_reducible show _ = _ → _); intro _; walk_at "dl") | walk_at "dl")
  | ((with_reducible apply @jw_and1) <;> walk_at "dl")
  | ((with_reducible apply @jw_or1) <;> walk_at "dl"))
local macro_rules | `(tactic| walk_at "jt") => `(tactic| first
  | ((with_reducible show JT _ _ (Expr.Compare _ _ _ _) _); ((with_reducible apply @jt_cm) <;> walk_at "dl"))
  | ((with_reducible show JT _ _ (Expr.BoolOp _ _ _) _); (first | ((with_reducible apply @jt_and) <;> first | ((with_reducible show _ = _ → _); intro _; walk_at "dl") | walk_at "dl") | ((with_reducible apply @jt_or) <;> first | ((with_reducible show _ = _ → _); intro _; walk_at "dl") | walk_at "dl")))
  | ((with_reducible apply @jt_not) <;> walk_at "dl")
  | ((with_reducible apply @jt_val) <;> walk_at "dl"))
local macro_rules | `(tactic| walk_at "dl") => `(tactic| first
  | ((with_reducible show JD _ _ _ _); walk_at "jd")
  | ((with_reducible show JT _ _ _ _); walk_at "jt")
  | ((with_reducible show JA _ _ _ _); (first | (with_reducible exact ja_nil) | ((with_reducible apply @ja_cons) <;> walk_at "dl")))
  | ((with_reducible show OkN _ _ _ _); with_reducible assumption)
  | ((with_reducible show At _ _ _ _ _); walk_at "at")
  | ((with_reducible show Put _ _ _ _ _ _); walk_at "pt")
  | ((with_reducible show visB _ _ = true); decide +kernel)
  | ((with_reducible show glB _ _ = true); decide +kernel)
  | ((with_reducible show locB _ _ _ = true); decide +kernel)
  | ((with_reducible show Cx.mg _ _ = none); walk_at "mg")
  | ((with_reducible show BinK _ _ _ _ _); walk_at "bk")
  | ((with_reducible show CmpK _ _ _ _ _); walk_at "ck")
  | ((with_reducible show IxK _ _ _ _); walk_at "ik")
  | ((with_reducible show JW _ _ _ _); walk_at "jw")
  | ((with_reducible show SlK _ _ _ _ _ _ _); walk_at "sk")
  | ((with_reducible show LenK _ _); walk_at "lk")
  | ((with_reducible show IntK _ _); (constructor <;> walk_at "num"))
  | ((with_reducible show JO _ _ _ _); (first | (with_reducible exact jo_none) | ((with_reducible apply @jo_some) <;> walk_at "dl")))
  | ((with_reducible show Fn _ _ _ _ _ _ _ _ _); with_reducible assumption)
  | ((with_reducible show Room _ _); with_reducible assumption)
  | ((with_reducible show PlainIx _); exact fun _ _ => rfl)
  | ((with_reducible show behindInMarks _ _ = false); (first | exact nomark _ | rfl))
  | ((with_reducible show IpK _ _ _ _ _); (first | with_reducible exact ip_addI | with_reducible exact ip_subI | ((with_reducible apply @ip_addStr) <;> walk_at "dl")))
  | ((with_reducible show EqOk _); (first | with_reducible assumption | exact eqok_ints _ | exact eqok_prs _ | exact eqok_nil))
  | ((with_reducible show PIp _ _ _); (first | exact ip_add | exact ip_sub))
  | ((with_reducible show bootBuiltins _ = _); decide +kernel)
  | ((with_reducible show _ ≤ PySem.sizeLine); walk_at "sz")
  | ((with_reducible show _ < PySem.sizeLine); walk_at "sz")
  | ((with_reducible show _ ≠ _); (first | assumption | decide))
  | ((with_reducible show atI _ _ = some _); (first | with_reducible assumption | rfl | skip))
  | ((with_reducible show ixN _ _ = some _); (first | with_reducible assumption | rfl | skip))
  | ((with_reducible show _ = _); (first | with_reducible assumption | rfl | walk_at "num"))
  | ((with_reducible show Nat); skip)
  | ((with_reducible show Int); skip)
  | ((with_reducible show D); skip)
  | ((with_reducible show Bool); skip)
  | ((with_reducible show List _); skip)
  | ((with_reducible show Option _); skip)
  | ((with_reducible show PySem.Str); skip)
  | ((with_reducible show Sl); skip)
  | ((with_reducible show Oc); skip)
  | ((with_reducible show Prop); skip)
  | ((with_reducible show PySem.Expr); skip)
  | ((with_reducible show PySem.Addr); skip)
  | ((with_reducible show Scope); skip)
  | ((with_reducible show String); skip)
  | ((with_reducible show List D → D → Prop); skip)
  | ((with_reducible show (_ : Prop)); (first | with_reducible assumption | omega | (exact fun a b c d hm => pe_bm PySem.F.plainAttrs_list PySem.F.slot_list_append PySem.F.type_list_append hm (pe_var a b c d) (pa_cons peW pa_nil)) | (constructor <;> walk_at "num") | (intro _; rfl) | (intro _ _ _; rfl)))
  | skip)
local macro_rules | `(tactic| walk_at "de") => `(tactic| first
  | ((with_reducible apply @JD.eq) <;> walk_at "dl"))
local macro_rules | `(tactic| walk_at "te") => `(tactic| first
  | ((with_reducible apply @JT.eq) <;> walk_at "dl"))
local macro_rules | `(tactic| walk_at "wk") => `(tactic| first
  | exact Wk.nil
  | (refine Wk.no ?_; walk_at "wk")
  | (refine Wk.same ?_; walk_at "wk")
  | (refine Wk.sameE ?_ ?_; rotate_left; walk_at "wk"))
local macro_rules | `(tactic| walk_at "jg") => `(tactic| first
  | ((with_reducible show JG _ _ (Expr.Name _ _) _ _ _); ((with_reducible apply @jg_v) <;> walk_at "dl"))
  | ((with_reducible show JG _ _ (Expr.Tuple _ _ _) (D.tup _) _ _); ((with_reducible apply @jg_tup) <;> first | ((with_reducible show JGs _ _ _ _ _ _); walk_at "jgs") | rfl)))
local macro_rules | `(tactic| walk_at "jgs") => `(tactic| first
  | with_reducible exact jgs_nil
  | ((with_reducible apply @jgs_cons) <;> first | ((with_reducible show JG _ _ _ _ _ _); walk_at "jg") | ((with_reducible show JGs _ _ _ _ _ _); walk_at "jgs") | ((with_reducible show (_ = _)); rfl) | skip))
local macro_rules | `(tactic| walk_at "s") => `(tactic| first
  | ((with_reducible apply jb_cons); walk_at "js"))
local macro_rules | `(tactic| walk_at "rt") => `(tactic| first
  | ((with_reducible apply JB.eq); ((with_reducible apply jb_stop); walk_at "js")))
local macro_rules | `(tactic| walk_at "ss") => `(tactic| first
  | with_reducible exact jb_nil
  | ((with_reducible apply jb_cons); walk_at "js"; walk_at "ss")
  | skip)
local macro_rules | `(tactic| walk_at "bw") => `(tactic| first
  | ((with_reducible apply JB.wk); walk_at "ss"; walk_at "wk"))
local macro_rules | `(tactic| walk_at "js") => `(tactic| first
  | ((with_reducible apply @js_st) <;> walk_at "dl")
  | ((with_reducible apply @js_au) <;> walk_at "dl")
  | ((with_reducible apply @js_ret) <;> walk_at "dl")
  | ((with_reducible apply @js_app) <;> walk_at "dl")
  | ((with_reducible apply @js_six) <;> walk_at "dl")
  | ((with_reducible apply @js_aix) <;> walk_at "dl"))
section
variable {P : Program} {w : World} {K : PySem.W.Frag} {mg : Str → Option Value} {base : Heap} {k : Nat} {R : List D → D → Prop}
inductive Rmade (f : Nat) : List D → D → Prop
  | mk (r m q : Int) (t : T) (h : madeM f r m q = some t) (hg : Good t) : Rmade f [.int q] (pap t)
theorem any_filter_empty {α β : Type} (p : α → Bool) (f : α → β) : ∀ l : List α, ((l.filter p).map f).isEmpty = l.all fun x => !p x
  | [] => rfl
  | x :: l => by
    rw [List.filter_cons, List.all_cons]
    cases h : p x with
    | true => rfl
    | false => exact any_filter_empty p f l
theorem min_if (x : Int) : (if 300 < x then 300 else x) = min x 300 := by split <;> omega
theorem kids_gt {ks : List T} (h : ascT 1 ks = true) : ∀ k ∈ ks, 2 ≤ k.r := fun k hk => by
  have := ascT_gt h k hk
  omega
theorem prs_pairs (ks : List T) : (ks.map fun k => (k.r, k.m)).map prD = ks.map fun k => prD (k.r, k.m) := by
  rw [List.map_map]
  rfl
theorem fn_law_made (c : Ctx w K mg base) : ∀ f : Nat, Fn P w K mg base (f + 2) "_law_made" 1 (Rmade f)
  | 0 => by
    refine c.df 46 (k := 1) ["_law_q", "_law_rows", "_law_g", "_law_fine", "_law_r", "_law_many", "_law_inner"] ["_law_q"] (h := ?_)
    rintro cdv A outer s H E hr ok _ _ - ⟨r, m, q, t, h, hg⟩
    cases h
  | f + 1 => by
    have Fs : Fn P w K mg base (f + 2) "_law_made" 1 (Rmade f) := fn_law_made c f
    have Fd : Fn P w K mg base 1 "_law_parted" 1 Rparted := fn_law_parted c
    have Fp : Fn P w K mg base 1 "_law_power" 3 Rpow := fn_law_power c
    refine c.df 46 (k := f + 2) ["_law_q", "_law_rows", "_law_g", "_law_fine", "_law_r", "_law_many", "_law_inner"] ["_law_q"] (h := ?_)
    rintro cdv A outer s H E hr ok _ _ - ⟨r, m, q, t, h, hg⟩
    refine bodyR (ρ' := [.d (.int q), .no, .no, .no, .no, .no, .no]) (Wk.refl _) ?_
    unfold madeM at h
    refine jb_if (c := decide (q < 3)) (by walk_at "te") (fun hc => ?_) (fun _ => ⟨_, rfl⟩) fun hc => ?_
    · rw [if_pos (of_decide_eq_true hc)] at h
      cases h
      exact jb_stop (js_ret (je_tup (ja_cons (by walk_at "dl") (ja_cons (by walk_at "dl") (ja_cons (je_lst ja_nil) ja_nil))) (show 3 ≤ sizeLine by decide)))
    have hq3 : ¬ q < 3 := of_decide_eq_false hc
    rw [if_neg hq3] at h
    cases hp : prt 100000 2 (q - 1) with
    | none =>
      rw [hp] at h
      cases h
    | some l =>
    rw [hp] at h
    dsimp only at h
    cases hm : mapO (madeM f) l with
    | none =>
      rw [hm] at h
      cases h
    | some ks =>
    rw [hm] at h
    cases h
    obtain ⟨G, hG⟩ : ∃ G, G = gL q ks 300 1 := ⟨_, rfl⟩
    rw [← hG] at hg ⊢
    have n := hg.of
    have q1 := n.q1
    obtain ⟨hl, hks⟩ := mapO_spec (fun _ _ _ _ h => made_rmq h) hm
    have hgt := kids_gt n.asc
    have few := n.few
    have hR1 : Rparted [.int (q - 1)] (.lst (ks.map fun k => prD (k.r, k.m))) := by
      have := Rparted.mk (q - 1) l 100000 (by omega) (by omega) (by decide) hp
      rw [hl, prs_pairs] at this
      exact this
    refine jb_cons (ρ1 := [.d (.int q), .d (.lst (ks.map rowD)), .no, .no, .no, .no, .no]) (js_lcV [("_law_r", 4), ("_law_many", 5)] ok (ji_list (je_ca ok Fd hr (by walk_at "dl") hR1 (by omega))) [.d (.int q), .no, .no, .no, .no, .no, .no] (out := ks.map rowD) (comp_m (f := fun k : T => prD (k.r, k.m)) (g := rowD) (l := ks) fun x hx => ⟨[.d (.int q), .no, .no, .no, .d (.int x.r), .d (.int x.m), .no], [4] ++ ([5] ++ []), by simp, blk_i ok fun s H C cl fp okb => jg_tup (ds := [.int x.r, .int x.m]) rfl (by walk_at "jgs"), blk_i ok fun s H C cl fp okb => je_tup (ja_cons (by walk_at "dl") (ja_cons (by walk_at "dl") (ja_cons (je_ca okb Fs hr (by walk_at "dl") (.mk x.r x.m x.r x (hks x hx).1 (n.kids x hx)) (by omega)) ja_nil))) (show 3 ≤ sizeLine by decide)⟩) ?_ (by walk_at "pt")) ?_
    · rw [List.length_map]
      omega
    walk_at "s"
    walk_at "s"
    refine jb_cons (ρ1 := [.d (.int q), .d (.lst (ks.map rowD)), .d (.int G), .no, .no, .no, .no]) (js_whileG (fun z : Int × Bool => [.d (.int q), .d (.lst (ks.map rowD)), .d (.int z.1), .d (.bl z.2), .no, .no, .no]) (fun f z => 1 ≤ z.1 ∧ z.1 ≤ 300 ∧ (f : Int) = 300 - z.1 ∧ ((z.2 = true ∧ G = z.1) ∨ (z.2 = false ∧ ∃ e : Nat, f ≤ e ∧ G = gL q ks e z.1))) (.nx [.d (.int q), .d (.lst (ks.map rowD)), .d (.int G), .no, .no, .no, .no]) 299 (1, false) ⟨Int.le_refl _, by decide, by decide, .inr ⟨rfl, 300, by decide, hG⟩⟩ (by walk_at "wk") .never ?_) ?_
    · rintro e ⟨g, b⟩ ⟨g1, g2, g3, g4⟩
      dsimp only at *
      refine ⟨!b && decide (g < min (q - 1) 300), JT.eq (c := !b && decide (g < if 300 < q - 1 then 300 else q - 1)) (by walk_at "te") (by rw [min_if]), fun hcc => ⟨_, rfl, ?_⟩, fun hcc => .inr ?_⟩
      · have he : G = g := by
          rcases g4 with ⟨_, h⟩ | ⟨hb, e2, he2, h⟩
          · exact h
          · rw [hb] at hcc
            have hng : ¬ g < min (q - 1) 300 := by simpa using hcc
            rw [h]
            cases e2 with
            | zero => rfl
            | succ e2 =>
              unfold gL
              rw [if_neg hng]
        rw [he]
        walk_at "wk"
      · rw [Bool.and_eq_true] at hcc
        obtain ⟨hb, hlt⟩ := hcc
        have hb : b = false := by simpa using hb
        have hlt : g < min (q - 1) 300 := of_decide_eq_true hlt
        rcases g4 with ⟨hb', _⟩ | ⟨_, e2, he2, h⟩
        · rw [hb] at hb'
          cases hb'
        have he1 : 0 < e := by omega
        obtain ⟨e2', rfl⟩ : ∃ j, e2 = j + 1 := ⟨e2 - 1, by omega⟩
        unfold gL at h
        rw [if_pos hlt] at h
        refine ⟨e - 1, (g + 1, fineG q (g + 1) ks), by omega, ⟨by dsimp only; omega, by dsimp only; omega, by dsimp only; omega, ?_⟩, ?_⟩
        · dsimp only
          cases hf : fineG q (g + 1) ks with
          | true =>
            rw [hf, if_pos rfl] at h
            exact .inl ⟨rfl, h⟩
          | false =>
            rw [hf, if_neg (by decide)] at h
            exact .inr ⟨rfl, e2', by omega, h⟩
        · walk_at "s"
          refine JB.wk (jb_one (js_st (ρ' := [.d (.int q), .d (.lst (ks.map rowD)), .d (.int (g + 1)), .d (.bl (fineG q (g + 1) ks)), .no, .no, .no]) ok (JD.eq (je_cm (je_cp [("_law_r", 4), ("_law_many", 5), ("_law_inner", 6)] ok (ji_list (by walk_at "dl")) [.d (.int q), .d (.lst (ks.map rowD)), .d (.int (g + 1)), .d (.bl b), .no, .no, .no] (out := (ks.filter fun k => decide (pw (g + 1) ((q - 1) / k.r) q = 1)).map fun k => D.int k.r) ?_ ?_) (by walk_at "dl") (ck_eqD (Room.ofX hr) ?_ eqok_nil)) ?_) (by walk_at "pt"))) (by walk_at "wk")
          · rw [← filterMap_filter]
            refine comp_l (f := rowD) (l := ks) fun x hx => ?_
            have hx2 := hgt x hx
            have hR := Rpow.mk (g + 1) ((q - 1) / x.r) q (Int.ediv_nonneg (by omega) (by omega)) (by omega) (by omega)
            have hxr : x.r < 2 ^ 59 := by
              match x, n.kids x hx with
              | .node _ _ _ _ _, h => exact h.of.r1
            refine ⟨[.d (.int q), .d (.lst (ks.map rowD)), .d (.int (g + 1)), .d (.bl b), .d (.int x.r), .d (.int x.m), .d (pap x)], [4] ++ ([5] ++ ([6] ++ [])), decide (pw (g + 1) ((q - 1) / x.r) q = 1), by simp, blk_i ok fun s H C cl fp okb => jg_tup (ds := [.int x.r, .int x.m, pap x]) rfl (by walk_at "jgs"), blk_i ok fun s H C cl fp okb => jts_one (jt_cm (je_ca okb Fp hr (by walk_at "dl") hR (by omega)) (by walk_at "dl") ck_eqI), ?_⟩
            cases hc : decide (pw (g + 1) ((q - 1) / x.r) q = 1) with
            | true => exact .inl ⟨rfl, .int x.r, blk_i ok fun s H C cl fp okb => by walk_at "de", rfl⟩
            | false => exact .inr ⟨rfl, rfl⟩
          · rw [List.length_map]
            have := List.length_filter_le (fun k => decide (pw (g + 1) ((q - 1) / k.r) q = 1)) ks
            omega
          · have := eqok_ints ((ks.filter fun k => decide (pw (g + 1) ((q - 1) / k.r) q = 1)).map T.r)
            unfold intsD at this
            rw [List.map_map] at this
            exact this
          · rw [eqv_nil, any_filter_empty]
            rfl
    · refine jb_stop (js_ret (JD.eq (je_tup (ja_cons (by walk_at "dl") (ja_cons (by walk_at "dl") (ja_cons (by walk_at "dl") ja_nil))) (show 3 ≤ sizeLine by decide)) ?_))
      unfold pap
      rw [rowsD_map]
end
-- F20
/-! Papers bent. -/
open PySem PySem.Spec PyProof.Rows L2 RW M
open SX (S S_len S_cat S_inj)
section
variable {P : Program} {w : World} {K : PySem.W.Frag} {mg : Str → Option Value} {base : Heap} {k : Nat} {R : List D → D → Prop}
theorem max_if (x : Int) : (if 0 < x then x else 0) = max 0 x := by split <;> omega
theorem max_if1 (x : Int) : (if 1 < x then x else 1) = max 1 x := by split <;> omega
theorem at_nat (l : List D) (i : Int) (h0 : 0 ≤ i) {d : D} (h : l[i.toNat]? = some d) : atI l i = some d := by
  have hl := (List.getElem?_eq_some_iff.mp h).1
  unfold atI ixN
  rw [if_pos h0, if_pos (by omega)]
  exact h
theorem at_pm (pick : Int) : atI [D.int 1, .int (-1)] (pick / 64 % 2) = some (.int (pm1 pick)) := by
  unfold pm1
  by_cases h : pick / 64 % 2 = 0
  · rw [if_pos h, h]
    rfl
  · rw [if_neg h, show pick / 64 % 2 = 1 by omega]
    rfl
theorem at_g4 (q g pick : Int) : atI [D.int (g + 1), .int (max 0 (g - 1)), .int q, .int 1] (pick / 64 % 4) = some (.int (g4 q g pick)) := by
  unfold g4
  have h : pick / 64 % 4 = 0 ∨ pick / 64 % 4 = 1 ∨ pick / 64 % 4 = 2 ∨ pick / 64 % 4 = 3 := by omega
  rcases h with h | h | h | h <;> rw [h] <;> rfl
theorem inD_ints (p : Int) : ∀ l : List Int, inD (.int p) (l.map D.int) = decide (p ∈ l)
  | [] => rfl
  | x :: l => by
    have ih : (l.map D.int |>.map toV).any (fun y => eqV y (.int p)) = decide (p ∈ l) := inD_ints p l
    show ((x == p) || (l.map D.int |>.map toV).any (fun y => eqV y (.int p))) = decide (p ∈ x :: l)
    rw [ih]
    by_cases h1 : x = p
    · subst h1
      simp
    · have h2 : ¬ p = x := fun e => h1 e.symm
      simp [h1, h2]
theorem put_D (ks : List T) (i : Nat) (mid : List T) : (ks.map rowD).take i ++ mid.map rowD ++ (ks.map rowD).drop (i + 1) = (M.putAt ks i mid).map rowD := by
  unfold M.putAt
  rw [List.map_append, List.map_append, List.map_take, List.map_drop, List.append_assoc]
inductive Rbstep (Rg : T → Int → Prop) (rec : T → Int → T) : List D → D → Prop
  | mk (t : T) (pick : Int) (h : Rg t pick) : Rbstep Rg rec [pap t, .int pick] (pap (bentF rec t pick))
theorem pap_node (r m q g : Int) (ks : List T) : pap (.node r m q g ks) = .tup [.int q, .int g, .lst (ks.map rowD)] := by
  unfold pap
  rw [rowsD_map]
theorem eqok_rows {r m q g : Int} {ks : List T} (h : M.dep (.node r m q g ks) ≤ 15) : EqOk (.lst (ks.map rowD)) := by
  unfold M.dep at h
  refine EqOk.of (n := 47) ?_ (by decide)
  show (ks.map rowD).all (okE (3 * 15 + 1)) = true
  rw [List.all_map, List.all_eq_true]
  intro k hk
  have ih := okE_pap 15 k (deps_mem (n := 15) (by omega) k hk)
  show ([D.int k.r, .int k.m, pap k]).all (okE (3 * 15)) = true
  have h1 : ∀ i, okE (3 * 15) (.int i) = true := fun i => rfl
  simp [h1, ih]
theorem fn_bent_step (c : Ctx w K mg base) (k : Nat) (hk : 8 ≤ k) (rec : T → Int → T) (RR : List D → D → Prop) (Fs : Fn P w K mg base k "_law_bent" 2 RR) (Rg : T → Int → Prop) (hR : ∀ t pick, Rg t pick → (Good t ∧ M.dep t ≤ 15) ∧ 0 ≤ pick ∧ (pick % 9 = 7 → ∀ x ∈ t.ks, RR [pap x, .int (pick / 64)] (pap (rec x (pick / 64))))) (hrm : ∀ t p, (rec t p).r = t.r ∧ (rec t p).m = t.m) : Fn P w K mg base (k + 1) "_law_bent" 2 (Rbstep Rg rec) := by
  have Fm : Fn P w K mg base 8 "_law_made" 1 (Rmade 6) := fn_law_made c 6
  refine c.df 47 (k := k) ["_law_paper", "_law_pick", "_law_q", "_law_g", "_law_rows", "_law_way", "_law_at", "_law_other", "_law_r", "_law_p", "_law_row", "_law_many", "_law_inner", "_law_front", "_law_behind"] ["_law_paper", "_law_pick"] (h := ?_)
  rintro cdv A outer s H E hr ok _ _ - ⟨⟨r, m, q, g, ks⟩, pick, hg⟩
  obtain ⟨⟨hgood, hdep⟩, h0, hrc⟩ := hR _ _ hg
  have n := hgood.of
  have few := n.few
  refine bodyR (ρ' := [.d (.tup [.int q, .int g, .lst (ks.map rowD)]), .d (.int pick), .no, .no, .no, .no, .no, .no, .no, .no, .no, .no, .no, .no, .no]) ?_ ?_
  · rw [← pap_node r m]
    exact Wk.refl _
  refine jb_cons (ρ1 := [.no, .d (.int pick), .d (.int q), .d (.int g), .d (.lst (ks.map rowD)), .no, .no, .no, .no, .no, .no, .no, .no, .no, .no]) (JS.wk (js_asg (by walk_at "dl") (jg_tup (ds := [.int q, .int g, .lst (ks.map rowD)]) rfl (by walk_at "jgs"))) (by walk_at "wk")) ?_
  refine jb_cons (ρ1 := [.no, .d (.int pick), .d (.int q), .d (.int g), .d (.lst (ks.map rowD)), .d (.int (pick % 9)), .no, .no, .no, .no, .no, .no, .no, .no, .no]) (js_st ok (by walk_at "de") (by walk_at "pt")) ?_
  obtain ⟨i, hi⟩ : ∃ i : Nat, i = (pick / 9 % max 1 (ks.length : Int)).toNat := ⟨_, rfl⟩
  have hii : pick / 9 % max 1 (ks.length : Int) = (i : Int) := by
    have := Int.emod_nonneg (pick / 9) (b := max 1 (ks.length : Int)) (by omega)
    omega
  refine jb_cons (ρ1 := [.no, .d (.int pick), .d (.int q), .d (.int g), .d (.lst (ks.map rowD)), .d (.int (pick % 9)), .d (.int (i : Nat)), .no, .no, .no, .no, .no, .no, .no, .no]) (js_st ok (JD.eq (je_bin (x := .int (pick / 9)) (y := .int (max 1 (ks.length : Int))) (by walk_at "dl") (JD.eq (je_mx (i := 1) (j := ((ks.map rowD).length : Nat)) ok c.f_max (by walk_at "dl") (je_ln ok c.f_len (by walk_at "dl") lk_L)) (by rw [max_if1, List.length_map])) (bk_mod (by omega))) (by rw [hii])) (by walk_at "pt")) ?_
  rw [bentF, ← hi]
  refine jb_if (c := decide (pick % 9 = 0)) (by walk_at "te") (fun hc => ?_) (fun _ => ⟨_, rfl⟩) fun hc => ?_
  · rw [if_pos (of_decide_eq_true hc), pap_node]
    refine jb_stop (js_ret (je_tup (ja_cons (JD.eq (je_mx (i := 0) (j := q + pm1 pick) ok c.f_max (by walk_at "dl") (je_bin (x := .int q) (y := .int (pm1 pick)) (by walk_at "dl") (je_ix (x := .lst [.int 1, .int (-1)]) (y := .int (pick / 64 % 2)) (by walk_at "dl") (by walk_at "dl") (ik_L (at_pm pick))) bk_add)) (by rw [max_if])) (ja_cons (by walk_at "dl") (ja_cons (by walk_at "dl") ja_nil))) (show 3 ≤ sizeLine by decide)))
  rw [if_neg (of_decide_eq_false hc)]
  refine jb_if (c := decide (pick % 9 = 8)) (by walk_at "te") (fun hc => ?_) (fun _ => ⟨_, rfl⟩) fun hc => ?_
  · rw [if_pos (of_decide_eq_true hc), pap_node]
    obtain ⟨p, e1, e2, e3⟩ := pick_free few pick
    obtain ⟨x, x1, x2, x3, x4, x5⟩ := small_ok p e2
    rw [e1]
    show JB _ _ _ (.rt (.tup [.int q, .int g, .lst ((insT (smallT p) ks).map rowD)]))
    rw [x2]
    obtain ⟨y1, y2, y3⟩ := made_rmq x1
    have hxr : rowD x = .tup [.int p, .int 0, pap x] := by
      unfold rowD
      rw [y1, y2]
    have hpm := insT_perm x ks
    refine jb_cons (ρ1 := [.no, .d (.int pick), .d (.int q), .d (.int g), .d (.lst (ks.map rowD)), .d (.int (pick % 9)), .d (.int (i : Nat)), .d (.lst (bOthers.map D.int)), .no, .no, .no, .no, .no, .no, .no]) (js_st (d := .lst (bOthers.map D.int)) ok (JD.eq (d := .lst [.int 2, .int 3, .int 5, .int 7, .int 11, .int 13, .int 17, .int 19, .int 23, .int 29, .int 31]) (by walk_at "dl") rfl) (by walk_at "pt")) ?_
    refine jb_cons (ρ1 := [.no, .d (.int pick), .d (.int q), .d (.int g), .d (.lst (ks.map rowD)), .d (.int (pick % 9)), .d (.int (i : Nat)), .d (.lst (bOthers.map D.int)), .d (.int p), .no, .no, .no, .no, .no, .no]) (js_st ok (je_ix (x := .lst ((freeP ks).map D.int)) (y := .int (pick / 64 % 5)) (je_cp [("_law_p", 9)] ok (ji_list (by walk_at "dl")) [.no, .d (.int pick), .d (.int q), .d (.int g), .d (.lst (ks.map rowD)), .d (.int (pick % 9)), .d (.int (i : Nat)), .d (.lst (bOthers.map D.int)), .no, .no, .no, .no, .no, .no, .no] ?_ ?_) (by walk_at "dl") (ik_L (at_nat _ _ (by omega) ?_))) (by walk_at "pt")) ?_
    · unfold freeP
      rw [← filterMap_filter]
      refine comp_l (f := D.int) (l := bOthers) fun z hz => ?_
      refine ⟨[.no, .d (.int pick), .d (.int q), .d (.int g), .d (.lst (ks.map rowD)), .d (.int (pick % 9)), .d (.int (i : Nat)), .d (.lst (bOthers.map D.int)), .no, .d (.int z), .no, .no, .no, .no, .no], [9], !decide (z ∈ ks.map T.r), by simp, blk_i ok fun s H C cl fp okb => by walk_at "jg", blk_i ok fun s H C cl fp okb => jts_one (JT.eq (jt_cm (x := .int z) (y := .lst ((ks.map T.r).map D.int)) (by walk_at "dl") (je_cp [("_law_row", 10)] okb (ji_list (by walk_at "dl")) [.no, .d (.int pick), .d (.int q), .d (.int g), .d (.lst (ks.map rowD)), .d (.int (pick % 9)), .d (.int (i : Nat)), .d (.lst (bOthers.map D.int)), .no, .d (.int z), .no, .no, .no, .no, .no] ?_ ?_) (ck_ninL rfl ?_)) ?_), ?_⟩
      · rw [List.map_map]
        exact comp_m (f := rowD) (g := D.int ∘ T.r) (l := ks) fun x hx => ⟨[.no, .d (.int pick), .d (.int q), .d (.int g), .d (.lst (ks.map rowD)), .d (.int (pick % 9)), .d (.int (i : Nat)), .d (.lst (bOthers.map D.int)), .no, .d (.int z), .d (.tup [.int x.r, .int x.m, pap x]), .no, .no, .no, .no], [10], by simp, blk_i okb fun s H C cl fp okc => (show JG _ _ _ (.tup [.int x.r, .int x.m, pap x]) _ _ by walk_at "jg"), blk_i okb fun s H C cl fp okc => je_ix (x := .tup [.int x.r, .int x.m, pap x]) (y := .int 0) (by walk_at "dl") (by walk_at "dl") (ik_T (at0 _ _))⟩
      · rw [List.length_map, List.length_map]
        omega
      · rw [List.all_map, List.all_eq_true]
        exact fun _ _ => rfl
      · rw [inD_ints]
      · cases hc : !decide (z ∈ ks.map T.r) with
        | true => exact .inl ⟨rfl, .int z, blk_i ok fun s H C cl fp okb => by walk_at "de", rfl⟩
        | false => exact .inr ⟨rfl, rfl⟩
    · rw [List.length_map]
      have := List.length_filter_le (fun p => !decide (p ∈ ks.map T.r)) bOthers
      have e : bOthers.length = 11 := rfl
      unfold freeP
      omega
    · rw [List.getElem?_map, e1]
      rfl
    refine jb_stop (js_ret (je_tup (ja_cons (by walk_at "dl") (ja_cons (by walk_at "dl") (ja_cons (je_so (xs := ks.map rowD ++ [rowD x]) (out := (insT x ks).map rowD) ok c.f_sorted (je_bin (x := .lst (ks.map rowD)) (y := .lst [rowD x]) (by walk_at "dl") ?_ (bk_cat ?_)) ?_ ?_ ?_ ?_) ja_nil))) (show 3 ≤ sizeLine by decide)))
    · rw [hxr]
      exact je_lst (ja_cons (je_tup (ja_cons (by walk_at "dl") (ja_cons (by walk_at "dl") (ja_cons (je_ca ok Fm hr (by walk_at "dl") (.mk p 0 p x x1 ⟨x3, made_gB x1⟩) (by omega)) ja_nil))) (show 3 ≤ sizeLine by decide)) ja_nil) (show 1 ≤ sizeLine by decide)
    · rw [List.length_map]
      have : (7 : Nat) ≤ sizeLine := by decide
      simp only [List.length_cons, List.length_nil]
      omega
    · intro d hd
      rw [show ks.map rowD ++ [rowD x] = (ks ++ [x]).map rowD by simp] at hd
      obtain ⟨z, _, rfl⟩ := List.mem_map.mp hd
      exact ⟨z.r, z.m, pap z, rfl⟩
    · rw [show ks.map rowD ++ [rowD x] = (ks ++ [x]).map rowD by simp, List.map_map]
      have e : keyD ∘ rowD = T.r := rfl
      rw [e]
      have hs := insT_sorted x (ascT_pair n.asc) fun k hk z => e3 (List.mem_map.mpr ⟨k, hk, by rw [z, y1]⟩)
      have hnd : ((insT x ks).map T.r).Nodup := List.pairwise_map.mpr (hs.imp fun h => Int.ne_of_lt h)
      have hp2 : ((insT x ks).map T.r).Perm ((ks ++ [x]).map T.r) := (hpm.trans (List.perm_append_comm (l₁ := [x]) (l₂ := ks))).map _
      exact hp2.nodup_iff.mp hnd
    · rw [show ks.map rowD ++ [rowD x] = (ks ++ [x]).map rowD by simp]
      exact (hpm.trans (List.perm_append_comm (l₁ := [x]) (l₂ := ks))).map _
    · have hs := insT_sorted x (ascT_pair n.asc) fun k hk z => e3 (List.mem_map.mpr ⟨k, hk, by rw [z, y1]⟩)
      exact List.pairwise_map.mpr hs
  rw [if_neg (of_decide_eq_false hc)]
  refine jb_if (c := decide (pick % 9 = 1) || decide (ks = [])) (JT.eq (jt_or (c := decide (pick % 9 = 1)) (by walk_at "dl") fun _ => jw_or1 (JT.eq (jt_cm (by walk_at "dl") (by walk_at "dl") (ck_eqD (Room.ofX hr) ?_ eqok_nil)) (eqv_nil _))) ?_) (fun hc => ?_) (fun _ => ⟨_, rfl⟩) fun hc => ?_
  · exact eqok_rows hdep
  · cases ks <;> simp
  · rw [if_pos (by simpa using hc), pap_node]
    refine jb_stop (js_ret (je_tup (ja_cons (by walk_at "dl") (ja_cons (je_ix (x := .lst [.int (g + 1), .int (max 0 (g - 1)), .int q, .int 1]) (y := .int (pick / 64 % 4)) (je_lst (ja_cons (by walk_at "dl") (ja_cons (JD.eq (je_mx (i := 0) (j := g - 1) ok c.f_max (by walk_at "dl") (by walk_at "dl")) (by rw [max_if])) (ja_cons (by walk_at "dl") (ja_cons (by walk_at "dl") ja_nil)))) (show 4 ≤ sizeLine by decide)) (by walk_at "dl") (ik_L (at_g4 q g pick))) (ja_cons (by walk_at "dl") ja_nil))) (show 3 ≤ sizeLine by decide)))
  have hc2 : ¬ (pick % 9 = 1 ∨ ks = []) := by simpa using hc
  rw [if_neg hc2]
  have hne : ks ≠ [] := fun z => hc2 (.inr z)
  have hlen : 1 ≤ ks.length := by
    cases ks with
    | nil => exact absurd rfl hne
    | cons => simp
  have hil : i < ks.length := by
    have := Int.emod_lt_of_pos (pick / 9) (b := max 1 (ks.length : Int)) (by omega)
    omega
  obtain ⟨x, hx⟩ : ∃ x, ks[i]? = some x := ⟨_, List.getElem?_eq_getElem hil⟩
  have hxm : x ∈ ks := List.mem_of_getElem? hx
  rw [hx]
  dsimp only
  have hat : atI (ks.map rowD) (i : Int) = some (rowD x) := at_nat _ _ (by omega) (by rw [Int.toNat_natCast, List.getElem?_map, hx]; rfl)
  refine jb_cons (ρ1 := [.no, .d (.int pick), .d (.int q), .d (.int g), .d (.lst (ks.map rowD)), .d (.int (pick % 9)), .d (.int (i : Nat)), .no, .d (.int x.r), .no, .no, .d (.int x.m), .d (pap x), .no, .no]) (js_asg (je_ix (x := .lst (ks.map rowD)) (y := .int (i : Nat)) (by walk_at "dl") (by walk_at "dl") (ik_L hat)) (jg_tup (ds := [.int x.r, .int x.m, pap x]) rfl (by walk_at "jgs"))) ?_
  have hz7 : (7 : Nat) + 7 ≤ sizeLine := by decide
  have hmid : ∀ (mid : List T) {X : Cx} {ρ : List Sl} {a b d : Expr} {p1 p2 : Pos}, mid.length ≤ 2 → JD X ρ a (.lst ((ks.map rowD).take i)) → JD X ρ b (.lst (mid.map rowD)) → JD X ρ d (.lst ((ks.map rowD).drop (i + 1))) → JD X ρ (.BinOp (.BinOp a .Add b p1) .Add d p2) (.lst ((M.putAt ks i mid).map rowD)) := by
    intro mid X ρ a b d p1 p2 hm ha hb hd
    refine JD.eq (je_bin (je_bin ha hb (bk_cat ?_)) hd (bk_cat ?_)) (congrArg D.lst (put_D ks i mid)) <;>
      (simp only [List.length_append, List.length_take, List.length_map, List.length_drop]; omega)
  refine jb_cons (ρ1 := [.no, .d (.int pick), .d (.int q), .d (.int g), .d (.lst (ks.map rowD)), .d (.int (pick % 9)), .d (.int (i : Nat)), .no, .d (.int x.r), .no, .no, .d (.int x.m), .d (pap x), .d (.lst ((ks.map rowD).take i)), .no]) (js_st ok (JD.eq (by walk_at "dl") (congrArg D.lst (cutD_take _ i (by rw [List.length_map]; omega) rfl))) (by walk_at "pt")) ?_
  refine jb_cons (ρ1 := [.no, .d (.int pick), .d (.int q), .d (.int g), .d (.lst (ks.map rowD)), .d (.int (pick % 9)), .d (.int (i : Nat)), .no, .d (.int x.r), .no, .no, .d (.int x.m), .d (pap x), .d (.lst ((ks.map rowD).take i)), .d (.lst ((ks.map rowD).drop (i + 1)))]) (js_st ok (JD.eq (by walk_at "dl") (congrArg D.lst (cutD_drop _ (i + 1) (by rw [List.length_map]; omega) (by omega)))) (by walk_at "pt")) ?_
  have hfin : ∀ {ks' : List T}, Oc.rt (pap (.node r m q g ks')) = .rt (.tup [.int q, .int g, .lst (ks'.map rowD)]) := fun {ks'} => by rw [pap_node]
  refine jb_if (c := decide (pick % 9 = 2)) (by walk_at "te") (fun hc => ?_) (fun _ => ⟨_, rfl⟩) fun hc => ?_
  · rw [if_pos (of_decide_eq_true hc), hfin]
    refine jb_stop (js_ret (je_tup (ja_cons (by walk_at "dl") (ja_cons (by walk_at "dl") (ja_cons (JD.eq (je_bin (x := .lst ((ks.map rowD).take i)) (y := .lst ((ks.map rowD).drop (i + 1))) (by walk_at "dl") (by walk_at "dl") (bk_cat ?_)) ?_) ja_nil))) (show 3 ≤ sizeLine by decide)))
    · simp only [List.length_append, List.length_take, List.length_map, List.length_drop]
      omega
    · rw [← put_D, List.map_nil, List.append_nil]
  rw [if_neg (of_decide_eq_false hc)]
  refine jb_if (c := decide (pick % 9 = 3)) (by walk_at "te") (fun hc => ?_) (fun _ => ⟨_, rfl⟩) fun hc => ?_
  · rw [if_pos (of_decide_eq_true hc), hfin]
    exact jb_stop (js_ret (je_tup (ja_cons (by walk_at "dl") (ja_cons (by walk_at "dl") (ja_cons (hmid [x, x] (Nat.le_refl 2) (by walk_at "dl") (je_lst (ja_cons (je_ix (x := .lst (ks.map rowD)) (y := .int (i : Nat)) (by walk_at "dl") (by walk_at "dl") (ik_L hat)) (ja_cons (je_ix (x := .lst (ks.map rowD)) (y := .int (i : Nat)) (by walk_at "dl") (by walk_at "dl") (ik_L hat)) ja_nil)) (show 2 ≤ sizeLine by decide)) (by walk_at "dl")) ja_nil))) (show 3 ≤ sizeLine by decide)))
  rw [if_neg (of_decide_eq_false hc)]
  refine jb_if (c := decide (pick % 9 = 4)) (by walk_at "te") (fun hc => ?_) (fun _ => ⟨_, rfl⟩) fun hc => ?_
  · rw [if_pos (of_decide_eq_true hc), hfin]
    have hw : rowD (x.withM (max 0 (x.m + pm1 pick))) = .tup [.int x.r, .int (max 0 (x.m + pm1 pick)), pap x] := by
      cases x
      rfl
    refine jb_stop (js_ret (je_tup (ja_cons (by walk_at "dl") (ja_cons (by walk_at "dl") (ja_cons (hmid [x.withM (max 0 (x.m + pm1 pick))] (Nat.le_succ 1) (by walk_at "dl") ?_ (by walk_at "dl")) ja_nil))) (show 3 ≤ sizeLine by decide)))
    show JD _ _ _ (.lst [rowD (x.withM (max 0 (x.m + pm1 pick)))])
    rw [hw]
    exact je_lst (ja_cons (je_tup (ja_cons (by walk_at "dl") (ja_cons (JD.eq (je_mx (i := 0) (j := x.m + pm1 pick) ok c.f_max (by walk_at "dl") (je_bin (x := .int x.m) (y := .int (pm1 pick)) (by walk_at "dl") (je_ix (x := .lst [.int 1, .int (-1)]) (y := .int (pick / 64 % 2)) (by walk_at "dl") (by walk_at "dl") (ik_L (at_pm pick))) bk_add)) (by rw [max_if])) (ja_cons (by walk_at "dl") ja_nil))) (show 3 ≤ sizeLine by decide)) ja_nil) (show 1 ≤ sizeLine by decide)
  rw [if_neg (of_decide_eq_false hc)]
  refine jb_if (c := decide (pick % 9 = 5)) (by walk_at "te") (fun hc => ?_) (fun _ => ⟨_, rfl⟩) fun hc => ?_
  · rw [if_pos (of_decide_eq_true hc), hfin]
    refine jb_stop (js_ret (je_tup (ja_cons (by walk_at "dl") (ja_cons (by walk_at "dl") (ja_cons (hmid [twoT x] (Nat.le_succ 1) (by walk_at "dl") ?_ (by walk_at "dl")) ja_nil))) (show 3 ≤ sizeLine by decide)))
    have hw : rowD (twoT x) = .tup [.int x.r, .int x.m, .tup [.int 2, .int 1, .lst []]] := by
      unfold rowD twoT
      rw [pap_node]
      rfl
    show JD _ _ _ (.lst [rowD (twoT x)])
    rw [hw]
    exact je_lst (ja_cons (je_tup (ja_cons (by walk_at "dl") (ja_cons (by walk_at "dl") (ja_cons (je_tup (ja_cons (by walk_at "dl") (ja_cons (by walk_at "dl") (ja_cons (je_lst ja_nil) ja_nil))) (show 3 ≤ sizeLine by decide)) ja_nil))) (show 3 ≤ sizeLine by decide)) ja_nil) (show 1 ≤ sizeLine by decide)
  rw [if_neg (of_decide_eq_false hc)]
  refine jb_if (c := decide (pick % 9 = 6)) (by walk_at "te") (fun hc => ?_) (fun _ => ⟨_, rfl⟩) fun hc => ?_
  · rw [if_pos (of_decide_eq_true hc), hfin]
    exact jb_stop (js_ret (je_tup (ja_cons (by walk_at "dl") (ja_cons (by walk_at "dl") (ja_cons (JD.eq (je_revL (xs := ks.map rowD) (by walk_at "dl")) (by rw [List.map_reverse])) ja_nil))) (show 3 ≤ sizeLine by decide)))
  rw [if_neg (of_decide_eq_false hc), hfin]
  have h7 : pick % 9 = 7 := by
    simp only [decide_eq_false_iff_not] at *
    omega
  have hw : rowD (rec x (pick / 64)) = .tup [.int x.r, .int x.m, pap (rec x (pick / 64))] := by
    unfold rowD
    rw [(hrm x (pick / 64)).1, (hrm x (pick / 64)).2]
  refine jb_stop (js_ret (je_tup (ja_cons (by walk_at "dl") (ja_cons (by walk_at "dl") (ja_cons (hmid [rec x (pick / 64)] (Nat.le_succ 1) (by walk_at "dl") ?_ (by walk_at "dl")) ja_nil))) (show 3 ≤ sizeLine by decide)))
  show JD _ _ _ (.lst [rowD (rec x (pick / 64))])
  rw [hw]
  exact je_lst (ja_cons (je_tup (ja_cons (by walk_at "dl") (ja_cons (by walk_at "dl") (ja_cons (je_ca ok Fs hr (by walk_at "dl") (hrc h7 x hxm) (by omega)) ja_nil))) (show 3 ≤ sizeLine by decide)) ja_nil) (show 1 ≤ sizeLine by decide)
theorem fn_bent_none (c : Ctx w K mg base) : Fn P w K mg base 8 "_law_bent" 2 (fun _ _ => False) := by
  refine c.df 47 (k := 7) ["_law_paper", "_law_pick", "_law_q", "_law_g", "_law_rows", "_law_way", "_law_at", "_law_other", "_law_r", "_law_p", "_law_row", "_law_many", "_law_inner", "_law_front", "_law_behind"] ["_law_paper", "_law_pick"] (h := ?_)
  rintro cdv A outer s H E hr ok _ _ - ⟨⟩
inductive Rbent (f : Nat) : List D → D → Prop
  | mk (t : T) (pick : Int) (ht : Good t) (hd : M.dep t ≤ 15) (h0 : 0 ≤ pick) (h1 : pick < 64 ^ f) : Rbent f [pap t, .int pick] (pap (bentM f t pick))
theorem fn_law_bent (c : Ctx w K mg base) : ∀ f : Nat, Fn P w K mg base (f + 9) "_law_bent" 2 (Rbent f)
  | 0 => (fn_bent_step c 8 (Nat.le_refl _) (fun t _ => t) _ (fn_bent_none c) (fun t pick => (Good t ∧ M.dep t ≤ 15) ∧ pick = 0) (fun t pick h => ⟨h.1, by rw [h.2]; exact Int.le_refl _, fun z => by rw [h.2] at z; cases z⟩) (fun _ _ => ⟨rfl, rfl⟩)).imp fun ds d _ h => by
    obtain ⟨t, pick, ht, hd, h0, h1⟩ := h
    exact .mk t pick ⟨⟨ht, hd⟩, by rw [Int.pow_zero] at h1; omega⟩
  | f + 1 => (fn_bent_step c (f + 9) (by omega) (bentM f) _ (fn_law_bent c f) (fun t pick => (Good t ∧ M.dep t ≤ 15) ∧ 0 ≤ pick ∧ pick < 64 ^ (f + 1)) (fun t pick h => ⟨h.1, h.2.1, fun z x hx => by
      have hp := h.2.2
      rw [Int.pow_succ] at hp
      obtain ⟨hg, hd⟩ := h.1
      match t, hg, hd with
      | .node r m q g ks, hg, hd =>
        unfold M.dep at hd
        exact .mk x (pick / 64) (hg.of.kids x hx) (deps_mem (n := 15) (show deps ks ≤ 15 by omega) x hx) (by omega) (by omega)⟩) (bentM_rm f)).imp fun ds d _ h => by
    obtain ⟨t, pick, ht, hd, h0, h1⟩ := h
    exact .mk t pick ⟨⟨ht, hd⟩, h0, h1⟩
end
end DL
-- M10
/-! All rows with papers bent; papers of primes. -/
namespace M
open DL
def putG {α : Type} (l : List α) (i : Nat) (mid : List α) : List α := l.take i ++ (mid ++ l.drop (i + 1))
def p3 (more : Int) : Int := (([7, 11, 13] : List Int)[(more % 3).toNat]?).getD 7
def mk3 (more : Int) : T := smallT (p3 more)
def allBent (rows : List (Int × Int)) (ts : List T) (pick : Int) : List (Int × Int) × List T :=
  if rows = [] ∧ pick % 10 % 2 = 1 then (rows, ts ++ [mk3 (pick / 10)])
  else if pick % 10 = 0 ∨ rows = [] then (rows ++ [(5 + pick / 10 % 20, 1)], ts ++ [mk3 (pick / 10)])
  else match rows[(pick / 10 % (rows.length : Int)).toNat]?, ts[(pick / 10 % (rows.length : Int)).toNat]? with
    | some x, some t =>
      if pick % 10 = 1 then (putG rows (pick / 10 % (rows.length : Int)).toNat [], putG ts (pick / 10 % (rows.length : Int)).toNat [])
      else if pick % 10 = 2 then (rows, putG ts (pick / 10 % (rows.length : Int)).toNat [])
      else if pick % 10 = 3 then (rows.reverse, ts.reverse)
      else if pick % 10 = 4 then (putG rows (pick / 10 % (rows.length : Int)).toNat [(x.1, x.2 + 1)], ts)
      else if pick % 10 = 5 then (rows ++ [x], ts ++ [t])
      else if pick % 10 = 6 then (putG rows (pick / 10 % (rows.length : Int)).toNat [(x.1 + 2 * (pick / 10 / 8 % 2) - 1, x.2)], ts)
      else if pick % 10 = 8 then (rows, ts.reverse)
      else if pick % 10 = 9 then (rows, ts ++ [t])
      else (rows, putG ts (pick / 10 % (rows.length : Int)).toNat [bentM 5 t (pick / 10 / 8)])
    | _, _ => (rows, ts)
theorem p3_mem (more : Int) : p3 more ∈ bOthers := by
  unfold p3
  have h : (more % 3).toNat = 0 ∨ (more % 3).toNat = 1 ∨ (more % 3).toNat = 2 := by omega
  rcases h with h | h | h <;> rw [h] <;> decide
theorem mk3_ok (more : Int) : ∃ t, madeM 6 (p3 more) 0 (p3 more) = some t ∧ mk3 more = t ∧ Good t ∧ dep t ≤ 4 ∧ siz t ≤ 20 := by
  obtain ⟨t, h1, h2, h3, h4, h5⟩ := small_ok _ (p3_mem more)
  exact ⟨t, h1, h2, ⟨h3, made_gB h1⟩, h4, h5⟩
/-- what rows and papers are allowed to be -/
structure RP (N : Nat) (rows : List (Int × Int)) (ts : List T) : Prop where
  rn : rows.length ≤ N
  tn : ts.length ≤ N
  q : ∀ x ∈ rows, 1 ≤ x.1 ∧ x.1 < 2 ^ 59 ∧ 1 ≤ x.2 ∧ x.2 ≤ 30
  t : ∀ t ∈ ts, Fit 12 200 t
theorem mem_putG {α : Type} {ks : List α} {i : Nat} {mid : List α} {x : α} (h : x ∈ putG ks i mid) : x ∈ ks ∨ x ∈ mid := by
  unfold putG at h
  rcases List.mem_append.mp h with h | h
  · exact .inl (List.mem_of_mem_take h)
  · rcases List.mem_append.mp h with h | h
    · exact .inr h
    · exact .inl (List.mem_of_mem_drop h)
theorem len_putG {α : Type} {ks : List α} {i : Nat} (mid : List α) : (putG ks i mid).length ≤ ks.length + mid.length := by
  unfold putG
  simp only [List.length_append, List.length_take, List.length_drop]
  omega
theorem Good.fit {t : T} {D Z : Nat} (h : Good t) (h1 : dep t ≤ D) (h2 : siz t ≤ Z) : Fit D Z t := ⟨h.ok, h.few, h1, h2⟩
theorem allBent_ok {rows : List (Int × Int)} {ts : List T} {pick : Int} (h0 : 0 ≤ pick) (h1 : pick < 2 ^ 29) (hn : rows.length ≤ 20) (hm : ts.length ≤ 20) (hq : ∀ x ∈ rows, 2 ≤ x.1 ∧ x.1 < 2 ^ 58 ∧ 1 ≤ x.2 ∧ x.2 ≤ 20) (ht : ∀ t ∈ ts, Good t ∧ dep t ≤ 11 ∧ siz t ≤ 80) : RP 30 (allBent rows ts pick).1 (allBent rows ts pick).2 := by
  have hq' : ∀ x ∈ rows, 1 ≤ x.1 ∧ x.1 < 2 ^ 59 ∧ 1 ≤ x.2 ∧ x.2 ≤ 30 := fun x hx => by
    have := hq x hx
    omega
  have ht' : ∀ t ∈ ts, Fit 12 200 t := fun t h => (ht t h).1.fit (by have := (ht t h).2.1; omega) (by have := (ht t h).2.2; omega)
  have h3 : Fit 12 200 (mk3 (pick / 10)) := by
    obtain ⟨t, _, e, g, d, z⟩ := mk3_ok (pick / 10)
    rw [e]
    exact g.fit (by omega) (by omega)
  have app1 : ∀ {t : T}, Fit 12 200 t → ∀ x ∈ ts ++ [t], Fit 12 200 x := fun {t} h x hx => by
    rcases List.mem_append.mp hx with hx | hx
    · exact ht' x hx
    · rw [List.mem_singleton.mp hx]
      exact h
  have l1 : ∀ {t : T}, (ts ++ [t]).length ≤ 30 := fun {t} => by
    rw [List.length_append]
    simp only [List.length_cons, List.length_nil]
    omega
  unfold allBent
  split
  · dsimp only
    exact ⟨by omega, l1, hq', app1 h3⟩
  split
  · dsimp only
    refine ⟨by simp only [List.length_append, List.length_cons, List.length_nil]; omega, l1, fun x hx => ?_, app1 h3⟩
    rcases List.mem_append.mp hx with hx | hx
    · exact hq' x hx
    · rw [List.mem_singleton.mp hx]
      dsimp only
      omega
  split
  · rename_i x t hx htt
    have hxm := List.mem_of_getElem? hx
    have htm := List.mem_of_getElem? htt
    have hxx := hq x hxm
    have put0 : ∀ {i : Nat}, ∀ y ∈ putG rows i [], 1 ≤ y.1 ∧ y.1 < 2 ^ 59 ∧ 1 ≤ y.2 ∧ y.2 ≤ 30 := fun {i} y hy => by
      rcases mem_putG hy with h | h
      · exact hq' y h
      · cases h
    have putT : ∀ {i : Nat} {mid : List T}, mid.length ≤ 1 → (∀ z ∈ mid, Fit 12 200 z) → (putG ts i mid).length ≤ 30 ∧ ∀ y ∈ putG ts i mid, Fit 12 200 y := fun {i mid} hl hm2 => by
      refine ⟨by have := len_putG (ks := ts) (i := i) mid; omega, fun y hy => ?_⟩
      rcases mem_putG hy with h | h
      · exact ht' y h
      · exact hm2 y h
    have putR : ∀ {i : Nat} {z : Int × Int}, (1 ≤ z.1 ∧ z.1 < 2 ^ 59 ∧ 1 ≤ z.2 ∧ z.2 ≤ 30) → (putG rows i [z]).length ≤ 30 ∧ ∀ y ∈ putG rows i [z], 1 ≤ y.1 ∧ y.1 < 2 ^ 59 ∧ 1 ≤ y.2 ∧ y.2 ≤ 30 := fun {i z} hz => by
      refine ⟨by have := len_putG (ks := rows) (i := i) [z]; simp only [List.length_cons, List.length_nil] at this; omega, fun y hy => ?_⟩
      rcases mem_putG hy with h | h
      · exact hq' y h
      · rw [List.mem_singleton.mp h]
        exact hz
    have pn := fun i : Nat => putT (i := i) (mid := []) (by simp) (fun z hz => by cases hz)
    split
    · dsimp only
      exact ⟨by have := len_putG (ks := rows) (i := (pick / 10 % (rows.length : Int)).toNat) []; simp only [List.length_nil] at this; omega, (pn _).1, put0, (pn _).2⟩
    split
    · dsimp only
      exact ⟨by omega, (pn _).1, hq', (pn _).2⟩
    split
    · dsimp only
      exact ⟨by rw [List.length_reverse]; omega, by rw [List.length_reverse]; omega, fun y hy => hq' y (List.mem_reverse.mp hy), fun y hy => ht' y (List.mem_reverse.mp hy)⟩
    split
    · have := putR (i := (pick / 10 % (rows.length : Int)).toNat) (z := (x.1, x.2 + 1)) (by dsimp only; omega)
      dsimp only
      exact ⟨this.1, by omega, this.2, ht'⟩
    split
    · dsimp only
      refine ⟨by simp only [List.length_append, List.length_cons, List.length_nil]; omega, l1, fun y hy => ?_, app1 (ht' t htm)⟩
      rcases List.mem_append.mp hy with hy | hy
      · exact hq' y hy
      · rw [List.mem_singleton.mp hy]
        exact hq' x hxm
    split
    · have := putR (i := (pick / 10 % (rows.length : Int)).toNat) (z := (x.1 + 2 * (pick / 10 / 8 % 2) - 1, x.2)) (by dsimp only; omega)
      dsimp only
      exact ⟨this.1, by omega, this.2, ht'⟩
    split
    · dsimp only
      exact ⟨by omega, by rw [List.length_reverse]; omega, hq', fun y hy => ht' y (List.mem_reverse.mp hy)⟩
    split
    · dsimp only
      exact ⟨by omega, l1, hq', app1 (ht' t htm)⟩
    · have hb := bentM_fit 5 t (pick / 10 / 8) (ht t htm).1 (by omega) (by omega)
      have hd := (ht t htm).2.1
      have hz := (ht t htm).2.2
      have := putT (i := (pick / 10 % (rows.length : Int)).toNat) (mid := [bentM 5 t (pick / 10 / 8)]) (by simp) (fun z hz' => by
        rw [List.mem_singleton.mp hz']
        exact ⟨hb.ok, hb.few, by have := hb.dep; omega, by have := hb.siz; omega⟩)
      dsimp only
      exact ⟨by omega, this.1, hq', this.2⟩
  · dsimp only
    exact ⟨by omega, by omega, hq', ht'⟩
/-! papers of primes -/
def pwF (a k q : Int) : Int := if 0 ≤ a ∧ 0 ≤ q then ((a.toNat ^ k.toNat % q.toNat : Nat) : Int) else pw a k q
theorem pwF_eq (a k q : Int) : pwF a k q = pw a k q := by
  unfold pwF
  split
  · rename_i h
    obtain ⟨x, rfl⟩ := Int.eq_ofNat_of_zero_le h.1
    obtain ⟨y, rfl⟩ := Int.eq_ofNat_of_zero_le h.2
    unfold pw
    rw [Int.toNat_natCast, Int.toNat_natCast, Int.natCast_emod, Int.natCast_pow]
  · rfl
def gP (q : Int) (l : List (Int × Int)) : Nat → Int → Option Int
  | 0, _ => none
  | f + 1, g => if (l.any fun x => decide (pwF g ((q - 1) / x.1) q = 1)) = true then gP q l f (g + 1) else some g
theorem gP_bound {q : Int} {l : List (Int × Int)} : ∀ {f : Nat} {g x : Int}, gP q l f g = some x → g ≤ x ∧ x < g + f
  | 0, g, x, h => by cases h
  | f + 1, g, x, h => by
    unfold gP at h
    split at h
    · have := gP_bound h
      omega
    · cases h
      omega
def ppM : Nat → Int → Int → Int → Option T
  | 0, _, _, _ => none
  | f + 1, r, m, q => if q = 2 then some (.node r m 2 1 []) else (match prt 100000 2 (q - 1) with
    | none => none
    | some l => (match gP q l 300 2 with
      | none => none
      | some g => (match mapO (ppM f) l with
        | none => none
        | some ks => some (.node r m q g ks))))
theorem pp_rmq : ∀ {f : Nat} {r m q : Int} {t : T}, ppM f r m q = some t → t.r = r ∧ t.m = m ∧ t.q = q
  | 0, r, m, q, t, h => by cases h
  | f + 1, r, m, q, t, h => by
    unfold ppM at h
    split at h
    · rename_i h2
      cases h
      exact ⟨rfl, rfl, h2.symm⟩
    · split at h
      · cases h
      · split at h
        · cases h
        · split at h
          · cases h
          · cases h
            exact ⟨rfl, rfl, rfl⟩
theorem pp_gB : ∀ {f : Nat} {r m q : Int} {t : T}, ppM f r m q = some t → gB t = true
  | 0, r, m, q, t, h => by cases h
  | f + 1, r, m, q, t, h => by
    unfold ppM at h
    split at h
    · cases h
      rfl
    · split at h
      · cases h
      · split at h
        · cases h
        · rename_i g hg
          split at h
          · cases h
          · rename_i ks hk
            cases h
            unfold gB
            have hb := gP_bound hg
            rw [Bool.and_eq_true, Bool.and_eq_true, gBs_all]
            exact ⟨⟨decide_eq_true (by omega), decide_eq_true (by omega)⟩, fun k hk' => pp_gB ((mapO_spec (fun _ _ _ _ h => pp_rmq h) hk).2 k hk').1⟩
/-! a text's length -/
theorem len_num {i : Int} (h : i < 2 ^ 60) : (num i).length ≤ 19 := num_len h
mutual
theorem len_siz : ∀ t : T, okT t = true → (txtC t).length + 43 ≤ 100 * siz t
  | .node r m q g ks, h => by
    unfold okT at h
    simp only [Bool.and_eq_true, decide_eq_true_eq] at h
    obtain ⟨_, _, hq, hg, hk⟩ := h
    have h1 := num_len hq.2
    have h2 := num_len hg.2
    have h3 := len_sizs ks hk
    have e := len_joinL [32] (num q :: num g :: pcsC ks) (by simp)
    unfold txtC siz
    rw [len_brk]
    simp only [List.map_cons, List.sum_cons, List.length_cons, List.length_nil] at e
    omega
theorem len_sizs : ∀ ks : List T, okTs ks = true → ((pcsC ks).map List.length).sum + (pcsC ks).length ≤ 100 * sizs ks
  | [], _ => by
    unfold pcsC sizs
    simp
  | k :: ks, h => by
    unfold okTs at h
    rw [Bool.and_eq_true] at h
    have h1 := len_siz k h.1
    have h2 := len_sizs ks h.2
    have hk := h.1
    have e := len_joinL [32] [num k.r, num k.m, txtC k] (by simp)
    have hb : k.r < 2 ^ 60 ∧ k.m < 2 ^ 60 := by
      cases k
      unfold okT at hk
      simp only [Bool.and_eq_true, decide_eq_true_eq] at hk
      exact ⟨hk.1.2, by have := hk.2.1.2; simp only [T.m]; omega⟩
    have h3 := num_len hb.1
    have h4 := num_len hb.2
    unfold pcsC sizs
    rw [List.map_cons, List.sum_cons, List.length_cons, len_brk]
    simp only [List.map_cons, List.sum_cons, List.map_nil, List.sum_nil, List.length_cons, List.length_nil] at e
    omega
end
end M
-- F21
/-! Papers of primes; rows and papers bent. -/
namespace DL
open PySem PySem.Spec PyProof.Rows L2 RW M
open SX (S S_len S_cat S_inj)
local macro_rules | `(tactic| walk_at "num") => `(tactic| first
  | with_reducible assumption
  | rfl
  | omega
  | (simp only [decide_eq_true_eq, decide_eq_false_iff_not, Bool.not_eq_true', Bool.not_eq_false', Bool.and_eq_true, Bool.or_eq_false_iff, Bool.not_eq_true, Bool.not_eq_false, Int.not_lt, Int.not_le] at *; omega)
  | skip)
local macro_rules | `(tactic| walk_at "sz") => `(tactic| first
  | with_reducible assumption
  | exact sz_of (by simp only [List.length_cons, List.length_nil, List.length_append, List.length_map, List.length_replicate]; omega)
  | exact sz_lt (by simp only [List.length_cons, List.length_nil, List.length_append, List.length_map, List.length_replicate]; omega)
  | skip)
local macro_rules | `(tactic| walk_at "at") => `(tactic| first
  | with_reducible exact At.z
  | (with_reducible apply At.s; walk_at "at"))
local macro_rules | `(tactic| walk_at "pt") => `(tactic| first
  | with_reducible exact Put.z
  | (with_reducible apply Put.s; walk_at "pt"))
local macro_rules | `(tactic| walk_at "mul") => `(tactic| first
  | assumption
  | (exact Or.inl (Or.inl ⟨by omega, by omega⟩))
  | (exact Or.inl (Or.inr ⟨by omega, by omega⟩))
  | skip)
local macro_rules | `(tactic| walk_at "bk") => `(tactic| first
  | with_reducible assumption
  | with_reducible exact bk_add
  | with_reducible exact bk_sub
  | ((with_reducible apply bk_mul) ; walk_at "mul")
  | ((with_reducible apply @bk_div) <;> walk_at "dl")
  | ((with_reducible apply @bk_mod) <;> walk_at "dl")
  | ((with_reducible apply @bk_cat) <;> walk_at "dl")
  | ((with_reducible apply @bk_addS) <;> walk_at "dl")
  | ((with_reducible apply @bk_rep) <;> walk_at "dl"))
local macro_rules | `(tactic| walk_at "ck") => `(tactic| first
  | with_reducible exact ck_eqI
  | with_reducible exact ck_neI
  | with_reducible exact ck_lt
  | with_reducible exact ck_le
  | with_reducible exact ck_gt
  | with_reducible exact ck_ge
  | with_reducible exact ck_eqS
  | with_reducible exact ck_neS
  | with_reducible exact ck_isN
  | with_reducible exact ck_eqB
  | with_reducible exact ck_inS
  | ((with_reducible apply @ck_inL) <;> walk_at "dl")
  | ((with_reducible apply @ck_inT) <;> walk_at "dl")
  | ((with_reducible apply @ck_ninL) <;> walk_at "dl")
  | ((with_reducible apply @ck_eqD) <;> first | (exact Room.ofX (by assumption)) | walk_at "dl")
  | ((with_reducible apply @ck_neD) <;> first | (exact Room.ofX (by assumption)) | walk_at "dl"))
local macro_rules | `(tactic| walk_at "ik") => `(tactic| first
  | ((with_reducible apply @ik_L) <;> walk_at "dl")
  | ((with_reducible apply @ik_T) <;> walk_at "dl")
  | ((with_reducible apply @ik_S) <;> walk_at "dl"))
local macro_rules | `(tactic| walk_at "sk") => `(tactic| first
  | with_reducible exact sk_L
  | with_reducible exact sk_R
  | ((with_reducible apply @sk_S) <;> walk_at "dl")
  | ((with_reducible apply @sk_T) <;> walk_at "dl"))
local macro_rules | `(tactic| walk_at "lk") => `(tactic| first
  | with_reducible exact lk_L
  | with_reducible exact lk_T
  | ((with_reducible apply @lk_S) <;> walk_at "dl"))
local macro_rules | `(tactic| walk_at "mg") => `(tactic| first
  | with_reducible exact Ctx.f_len (by assumption)
  | with_reducible exact Ctx.f_max (by assumption)
  | with_reducible exact Ctx.f_list (by assumption)
  | with_reducible exact Ctx.f_reversed (by assumption)
  | with_reducible exact Ctx.f_range (by assumption)
  | with_reducible exact Ctx.f_enumerate (by assumption)
  | with_reducible exact Ctx.f_zip (by assumption)
  | with_reducible exact Ctx.f_all (by assumption)
  | with_reducible exact Ctx.f_any (by assumption)
  | with_reducible exact Ctx.f_isinstance (by assumption)
  | with_reducible exact Ctx.f_str (by assumption)
  | with_reducible exact Ctx.f_int (by assumption)
  | with_reducible exact Ctx.f_min (by assumption)
  | with_reducible exact Ctx.f_sorted (by assumption)
  | with_reducible exact Ctx.f_tuple (by assumption)
  | with_reducible exact Ctx.f_bool (by assumption))
local macro_rules | `(tactic| walk_at "call") => `(tactic| first
  | ((with_reducible show JD _ _ (Expr.Call (Expr.Name (PySem.Str.ofString "len") _) _ _ _) _); (first | ((with_reducible apply @je_olen) <;> (first | ((with_reducible show At _ _ _ _ _); walk_at "at") | ((fail_if_success (with_reducible show At _ _ _ _ _)); walk_at "dl"))) | ((with_reducible apply @je_ln) <;> walk_at "dl")))
  | ((with_reducible show JD _ _ (Expr.Call (Expr.Name (PySem.Str.ofString "int") _) _ _ _) _); ((with_reducible apply @je_in) <;> walk_at "dl"))
  | ((with_reducible show JD _ _ (Expr.Call (Expr.Name (PySem.Str.ofString "str") _) _ _ _) _); ((with_reducible apply @je_sI) <;> walk_at "dl"))
  | ((with_reducible show JD _ _ (Expr.Call (Expr.Name (PySem.Str.ofString "max") _) _ _ _) _); ((with_reducible apply @je_mx) <;> walk_at "dl"))
  | ((with_reducible show JD _ _ (Expr.Call (Expr.Name (PySem.Str.ofString "min") _) _ _ _) _); ((with_reducible apply @je_mn) <;> walk_at "dl"))
  | ((with_reducible show JD _ _ (Expr.Call (Expr.Name (PySem.Str.ofString "all") _) _ _ _) _); ((with_reducible apply @je_al) <;> walk_at "dl"))
  | ((with_reducible show JD _ _ (Expr.Call (Expr.Name (PySem.Str.ofString "any") _) _ _ _) _); ((with_reducible apply @je_an) <;> walk_at "dl"))
  | ((with_reducible show JD _ _ (Expr.Call (Expr.Name (PySem.Str.ofString "isinstance") _) [_, Expr.Name (PySem.Str.ofString "int") _] _ _) _); ((with_reducible apply @je_iI) <;> walk_at "dl"))
  | ((with_reducible show JD _ _ (Expr.Call (Expr.Name (PySem.Str.ofString "isinstance") _) [_, Expr.Name (PySem.Str.ofString "bool") _] _ _) _); ((with_reducible apply @je_iI) <;> walk_at "dl"))
  | ((with_reducible show JD _ _ (Expr.Call (Expr.Name (PySem.Str.ofString "isinstance") _) [_, Expr.Name (PySem.Str.ofString "tuple") _] _ _) _); ((with_reducible apply @je_iI) <;> walk_at "dl"))
  | ((with_reducible show JD _ _ (Expr.Call (Expr.Name (PySem.Str.ofString "isinstance") _) [_, Expr.Name (PySem.Str.ofString "list") _] _ _) _); ((with_reducible apply @je_iI) <;> walk_at "dl"))
  | ((with_reducible apply @je_ca) <;> walk_at "dl"))
local macro_rules | `(tactic| walk_at "jd") => `(tactic| first
  | ((with_reducible show JD _ _ (Expr.Name _ _) _); ((with_reducible apply @je_v) <;> walk_at "dl"))
  | ((with_reducible show JD _ _ (Expr.Constant _ _ _) _); (first | exact je_int | exact je_str | exact je_bl | exact je_non))
  | ((with_reducible show JD _ _ (Expr.BinOp _ _ _ _) _); ((with_reducible apply @je_bin) <;> walk_at "dl"))
  | ((with_reducible show JD _ _ (Expr.Compare _ _ _ _) _); ((with_reducible apply @je_cm) <;> walk_at "dl"))
  | ((with_reducible show JD _ _ (Expr.Subscript _ (Expr.Slice none none (some _) _) _) _); ((with_reducible apply @je_revL) <;> walk_at "dl"))
  | ((with_reducible show JD _ _ (Expr.Subscript _ (Expr.Slice _ _ none _) _) _); ((with_reducible apply @je_sl) <;> walk_at "dl"))
  | ((with_reducible show JD _ _ (Expr.Subscript (Expr.Name _ _) _ _) _); (first | ((with_reducible apply @je_oix) <;> (first | ((with_reducible show At _ _ _ _ _); walk_at "at") | ((fail_if_success (with_reducible show At _ _ _ _ _)); walk_at "dl"))) | ((with_reducible apply @je_ix) <;> walk_at "dl")))
  | ((with_reducible show JD _ _ (Expr.Subscript _ _ _) _); ((with_reducible apply @je_ix) <;> walk_at "dl"))
  | ((with_reducible show JD _ _ (Expr.Tuple _ _ _) _); ((with_reducible apply @je_tup) <;> walk_at "dl"))
  | ((with_reducible show JD _ _ (Expr.List _ _) _); ((with_reducible apply @je_lst) <;> walk_at "dl"))
  | ((with_reducible show JD _ _ (Expr.Call _ _ _ _) _); walk_at "call")
  | ((with_reducible show JD _ _ (Expr.BoolOp _ (_ :: _ :: _) _) _); (first | ((with_reducible apply @je_and) <;> first | ((with_reducible show _ = true → _); intro _; walk_at "dl") | walk_at "dl") | ((with_reducible apply @je_or) <;> first | ((with_reducible show _ = false → _); intro _; walk_at "dl") | walk_at "dl")))
  | ((with_reducible show JD _ _ (Expr.BoolOp _ _ _) _); ((with_reducible apply @je_one) <;> walk_at "dl"))
  | ((with_reducible apply @je_neg) <;> walk_at "dl")
  | ((with_reducible apply @je_not) <;> walk_at "dl"))
local macro_rules | `(tactic| walk_at "jw") => `(tactic| first
  | ((with_reducible apply @jw_and) <;> first | ((with_reducible show _ = _ → _); intro _; walk_at "dl") | walk_at "dl")
  | ((with_reducible apply @jw_or) <;> first | ((with_reducible show _ = _ → _); intro _; walk_at "dl") | walk_at "dl")
  | ((with_reducible apply @jw_and1) <;> walk_at "dl")
  | ((with_reducible apply @jw_or1) <;> walk_at "dl"))
local macro_rules | `(tactic| walk_at "jt") => `(tactic| first
  | ((with_reducible show JT _ _ (Expr.Compare _ _ _ _) _); ((with_reducible apply @jt_cm) <;> walk_at "dl"))
  | ((with_reducible show JT _ _ (Expr.BoolOp _ _ _) _); (first | ((with_reducible apply @jt_and) <;> first | ((with_reducible show _ = _ → _); intro _; walk_at "dl") | walk_at "dl") | ((with_reducible apply @jt_or) <;> first | ((with_reducible show _ = _ → _); intro _; walk_at "dl") | walk_at "dl")))
  | ((with_reducible apply @jt_not) <;> walk_at "dl")
  | ((with_reducible apply @jt_val) <;> walk_at "dl"))
local macro_rules | `(tactic| walk_at "dl") => `(tactic| first
  | ((with_reducible show JD _ _ _ _); walk_at "jd")
  | ((with_reducible show JT _ _ _ _); walk_at "jt")
  | ((with_reducible show JA _ _ _ _); (first | (with_reducible exact ja_nil) | ((with_reducible apply @ja_cons) <;> walk_at "dl")))
  | ((with_reducible show OkN _ _ _ _); with_reducible assumption)
  | ((with_reducible show At _ _ _ _ _); walk_at "at")
  | ((with_reducible show Put _ _ _ _ _ _); walk_at "pt")
  | ((with_reducible show visB _ _ = true); decide +kernel)
  | ((with_reducible show glB _ _ = true); decide +kernel)
  | ((with_reducible show locB _ _ _ = true); decide +kernel)
  | ((with_reducible show Cx.mg _ _ = none); walk_at "mg")
  | ((with_reducible show BinK _ _ _ _ _); walk_at "bk")
  | ((with_reducible show CmpK _ _ _ _ _); walk_at "ck")
  | ((with_reducible show IxK _ _ _ _); walk_at "ik")
  | ((with_reducible show JW _ _ _ _); walk_at "jw")
  | ((with_reducible show SlK _ _ _ _ _ _ _); walk_at "sk")
  | ((with_reducible show LenK _ _); walk_at "lk")
  | ((with_reducible show IntK _ _); (constructor <;> walk_at "num"))
  | ((with_reducible show JO _ _ _ _); (first | (with_reducible exact jo_none) | ((with_reducible apply @jo_some) <;> walk_at "dl")))
  | ((with_reducible show Fn _ _ _ _ _ _ _ _ _); with_reducible assumption)
  | ((with_reducible show Room _ _); with_reducible assumption)
  | ((with_reducible show PlainIx _); exact fun _ _ => rfl)
  | ((with_reducible show behindInMarks _ _ = false); (first | exact nomark _ | rfl))
  | ((with_reducible show IpK _ _ _ _ _); (first | with_reducible exact ip_addI | with_reducible exact ip_subI | ((with_reducible apply @ip_addStr) <;> walk_at "dl")))
  | ((with_reducible show EqOk _); (first | with_reducible assumption | exact eqok_ints _ | exact eqok_prs _ | exact eqok_nil))
  | ((with_reducible show PIp _ _ _); (first | exact ip_add | exact ip_sub))
  | ((with_reducible show bootBuiltins _ = _); decide +kernel)
  | ((with_reducible show _ ≤ PySem.sizeLine); walk_at "sz")
  | ((with_reducible show _ < PySem.sizeLine); walk_at "sz")
  | ((with_reducible show _ ≠ _); (first | assumption | decide))
  | ((with_reducible show atI _ _ = some _); (first | with_reducible assumption | rfl | skip))
  | ((with_reducible show ixN _ _ = some _); (first | with_reducible assumption | rfl | skip))
  | ((with_reducible show _ = _); (first | with_reducible assumption | rfl | walk_at "num"))
  | ((with_reducible show Nat); skip)
  | ((with_reducible show Int); skip)
  | ((with_reducible show D); skip)
  | ((with_reducible show Bool); skip)
  | ((with_reducible show List _); skip)
  | ((with_reducible show Option _); skip)
  | ((with_reducible show PySem.Str); skip)
  | ((with_reducible show Sl); skip)
  | ((with_reducible show Oc); skip)
  | ((with_reducible show Prop); skip)
  | ((with_reducible show PySem.Expr); skip)
  | ((with_reducible show PySem.Addr); skip)
  | ((with_reducible show Scope); skip)
  | ((with_reducible show String); skip)
  | ((with_reducible show List D → D → Prop); skip)
  | ((with_reducible show (_ : Prop)); (first | with_reducible assumption | omega | (exact fun a b c d hm => pe_bm PySem.F.plainAttrs_list PySem.F.slot_list_append PySem.F.type_list_append hm (pe_var a b c d) (pa_cons peW pa_nil)) | (constructor <;> walk_at "num") | (intro _; rfl) | (intro _ _ _; rfl)))
  | skip)
local macro_rules | `(tactic| walk_at "de") => `(tactic| first
  | ((with_reducible apply @JD.eq) <;> walk_at "dl"))
local macro_rules | `(tactic| walk_at "te") => `(tactic| first
  | ((with_reducible apply @JT.eq) <;> walk_at "dl"))
local macro_rules | `(tactic| walk_at "wk") => `(tactic| first
  | exact Wk.nil
  | (refine Wk.no ?_; walk_at "wk")
  | (refine Wk.same ?_; walk_at "wk")
  | (refine Wk.sameE ?_ ?_; rotate_left; walk_at "wk"))
local macro_rules | `(tactic| walk_at "jg") => `(tactic| first
  | ((with_reducible show JG _ _ (Expr.Name _ _) _ _ _); ((with_reducible apply @jg_v) <;> walk_at "dl"))
  | ((with_reducible show JG _ _ (Expr.Tuple _ _ _) (D.tup _) _ _); ((with_reducible apply @jg_tup) <;> first | ((with_reducible show JGs _ _ _ _ _ _); walk_at "jgs") | rfl)))
local macro_rules | `(tactic| walk_at "jgs") => `(tactic| first
  | with_reducible exact jgs_nil
  | ((with_reducible apply @jgs_cons) <;> first | ((with_reducible show JG _ _ _ _ _ _); walk_at "jg") | ((with_reducible show JGs _ _ _ _ _ _); walk_at "jgs") | ((with_reducible show (_ = _)); rfl) | skip))
local macro_rules | `(tactic| walk_at "s") => `(tactic| first
  | ((with_reducible apply jb_cons); walk_at "js"))
local macro_rules | `(tactic| walk_at "rt") => `(tactic| first
  | ((with_reducible apply JB.eq); ((with_reducible apply jb_stop); walk_at "js")))
local macro_rules | `(tactic| walk_at "ss") => `(tactic| first
  | with_reducible exact jb_nil
  | ((with_reducible apply jb_cons); walk_at "js"; walk_at "ss")
  | skip)
local macro_rules | `(tactic| walk_at "bw") => `(tactic| first
  | ((with_reducible apply JB.wk); walk_at "ss"; walk_at "wk"))
local macro_rules | `(tactic| walk_at "js") => `(tactic| first
  | ((with_reducible apply @js_st) <;> walk_at "dl")
  | ((with_reducible apply @js_au) <;> walk_at "dl")
  | ((with_reducible apply @js_ret) <;> walk_at "dl")
  | ((with_reducible apply @js_app) <;> walk_at "dl")
  | ((with_reducible apply @js_six) <;> walk_at "dl")
  | ((with_reducible apply @js_aix) <;> walk_at "dl"))
section
variable {P : Program} {w : World} {K : PySem.W.Frag} {mg : Str → Option Value} {base : Heap} {k : Nat} {R : List D → D → Prop}
inductive Rpp (f : Nat) : List D → D → Prop
  | mk (r m q : Int) (t : T) (h : ppM f r m q = some t) (hg : Good t) (hq : 2 ≤ q) : Rpp f [.int q] (pap t)
theorem fn_prime_paper (c : Ctx w K mg base) : ∀ f : Nat, Fn P w K mg base (f + 2) "prime_paper" 1 (Rpp f)
  | 0 => by
    refine c.df 15 (k := 1) ["q", "rows", "g", "r", "often"] ["q"] (h := ?_)
    rintro cdv A outer s H E hr ok _ _ - ⟨r, m, q, t, h, hg, hq⟩
    cases h
  | f + 1 => by
    have Fs : Fn P w K mg base (f + 2) "prime_paper" 1 (Rpp f) := fn_prime_paper c f
    have Fd : Fn P w K mg base 1 "parted" 1 Rparted := fn_parted c
    have Fp : Fn P w K mg base 1 "power_by" 3 Rpow := fn_power_by c
    refine c.df 15 (k := f + 2) ["q", "rows", "g", "r", "often"] ["q"] (h := ?_)
    rintro cdv A outer s H E hr ok _ _ - ⟨r, m, q, t, h, hg, hq⟩
    refine bodyR (ρ' := [.d (.int q), .no, .no, .no, .no]) (Wk.refl _) ?_
    unfold ppM at h
    refine jb_if (c := decide (q = 2)) (by walk_at "te") (fun hc => ?_) (fun _ => ⟨_, rfl⟩) fun hc => ?_
    · rw [if_pos (of_decide_eq_true hc)] at h
      cases h
      rw [pap_node]
      exact jb_stop (js_ret (je_tup (ja_cons (by walk_at "dl") (ja_cons (by walk_at "dl") (ja_cons (je_lst ja_nil) ja_nil))) (show 3 ≤ sizeLine by decide)))
    have hq3 : ¬ q = 2 := of_decide_eq_false hc
    rw [if_neg hq3] at h
    cases hp : prt 100000 2 (q - 1) with
    | none =>
      rw [hp] at h
      cases h
    | some l =>
    rw [hp] at h
    dsimp only at h
    cases hgp : gP q l 300 2 with
    | none =>
      rw [hgp] at h
      cases h
    | some G =>
    rw [hgp] at h
    dsimp only at h
    cases hm : mapO (ppM f) l with
    | none =>
      rw [hm] at h
      cases h
    | some ks =>
    rw [hm] at h
    cases h
    have n := hg.of
    have q1 := n.q1
    obtain ⟨hl, hks⟩ := mapO_spec (fun _ _ _ _ h => pp_rmq h) hm
    have hgt := kids_gt n.asc
    have few := n.few
    have hll : l.length ≤ 6 := by
      rw [hl, List.length_map]
      exact few
    have hlgt : ∀ x ∈ l, 2 ≤ x.1 ∧ x.1 < 2 ^ 59 := fun x hx => by
      rw [hl] at hx
      obtain ⟨z, hz, rfl⟩ := List.mem_map.mp hx
      refine ⟨hgt z hz, ?_⟩
      match z, n.kids z hz with
      | .node _ _ _ _ _, h => exact h.of.r1
    have hR1 : Rparted [.int (q - 1)] (.lst (l.map prD)) := Rparted.mk (q - 1) l 100000 (by omega) (by omega) (by decide) hp
    refine jb_cons (ρ1 := [.d (.int q), .d (.lst (l.map prD)), .no, .no, .no]) (js_st ok (je_ca ok Fd hr (by walk_at "dl") hR1 (by omega)) (by walk_at "pt")) ?_
    walk_at "s"
    refine jb_cons (ρ1 := [.d (.int q), .d (.lst (l.map prD)), .d (.int G), .no, .no]) (js_whileG (fun g : Int => [.d (.int q), .d (.lst (l.map prD)), .d (.int g), .no, .no]) (fun f g => 2 ≤ g ∧ gP q l f g = some G) (.nx [.d (.int q), .d (.lst (l.map prD)), .d (.int G), .no, .no]) 300 2 ⟨by decide, hgp⟩ (by walk_at "wk") .never ?_) ?_
    · rintro e g ⟨g2, hg⟩
      cases e with
      | zero => cases hg
      | succ e =>
      unfold gP at hg
      refine ⟨l.any fun x => decide (pwF g ((q - 1) / x.1) q = 1), jt_val (JD.eq (je_an (bs := l.map fun x => decide (pwF g ((q - 1) / x.1) q = 1)) ok c.f_any (JD.eq (je_cp [("r", 3), ("often", 4)] ok (ji_list (by walk_at "dl")) [.d (.int q), .d (.lst (l.map prD)), .d (.int g), .no, .no] (comp_m (f := prD) (g := fun x => .bl (decide (pwF g ((q - 1) / x.1) q = 1))) (l := l) fun x hx => ⟨[.d (.int q), .d (.lst (l.map prD)), .d (.int g), .d (.int x.1), .d (.int x.2)], [3] ++ ([4] ++ []), by simp, blk_i ok fun s H C cl fp okb => jg_tup (ds := [.int x.1, .int x.2]) rfl (by walk_at "jgs"), blk_i ok fun s H C cl fp okb => ?_⟩) ?_) ?_)) ?_), fun hcc => ⟨_, rfl, ?_⟩, fun hcc => .inr ?_⟩
      · have hx2 := hlgt x hx
        have hR := Rpow.mk g ((q - 1) / x.1) q (Int.ediv_nonneg (by omega) (by omega)) (by omega) (by omega)
        refine JD.eq (je_cm (je_ca okb Fp hr (by walk_at "dl") hR (by omega)) (by walk_at "dl") ck_eqI) ?_
        rw [pwF_eq]
        rfl
      · rw [List.length_map]
        omega
      · rw [List.map_map]
        rfl
      · rw [List.any_map]
        rfl
      · rw [if_neg (by rw [hcc]; decide)] at hg
        cases hg
        walk_at "wk"
      · rw [if_pos hcc] at hg
        refine ⟨e, g + 1, Nat.lt_succ_self _, ⟨by omega, hg⟩, ?_⟩
        walk_at "bw"
    · have hk1 : ks.length ≤ 100000 := by omega
      refine jb_stop (js_ret (JD.eq (je_tup (ja_cons (by walk_at "dl") (ja_cons (by walk_at "dl") (ja_cons (je_cp [("r", 3), ("often", 4)] ok (ji_list (by walk_at "dl")) [.d (.int q), .d (.lst (l.map prD)), .d (.int G), .no, .no] (out := ks.map rowD) ?_ (by rw [List.length_map]; exact hk1)) ja_nil))) (show 3 ≤ sizeLine by decide)) (pap_node _ _ _ _ _).symm))
      rw [hl, prs_pairs]
      exact comp_m (f := fun k : T => prD (k.r, k.m)) (g := rowD) (l := ks) fun x hx => ⟨[.d (.int q), .d (.lst (ks.map fun k => prD (k.r, k.m))), .d (.int G), .d (.int x.r), .d (.int x.m)], [3] ++ ([4] ++ []), by simp, blk_i ok fun s H C cl fp okb => jg_tup (ds := [.int x.r, .int x.m]) rfl (by walk_at "jgs"), blk_i ok fun s H C cl fp okb => je_tup (ja_cons (by walk_at "dl") (ja_cons (by walk_at "dl") (ja_cons (je_ca okb Fs hr (by walk_at "dl") (.mk x.r x.m x.r x (hks x hx).1 (n.kids x hx) (hgt x hx)) (by omega)) ja_nil))) (show 3 ≤ sizeLine by decide)⟩
end
-- F22
/-! Rows and papers bent. -/
open PySem PySem.Spec PyProof.Rows L2 RW M
open SX (S S_len S_cat S_inj)
section
variable {P : Program} {w : World} {K : PySem.W.Frag} {mg : Str → Option Value} {base : Heap} {k : Nat} {R : List D → D → Prop}
inductive Rab : List D → D → Prop
  | mk (rows : List (Int × Int)) (ts : List T) (pick : Int) (hl : rows.length = ts.length) (hn : rows.length ≤ 20) (ht : ∀ t ∈ ts, Good t ∧ M.dep t ≤ 15) (h0 : 0 ≤ pick) (h1 : pick < 2 ^ 29) : Rab [.lst (rows.map prD), .lst (ts.map pap), .int pick] (.tup [.lst ((allBent rows ts pick).1.map prD), .lst ((allBent rows ts pick).2.map pap)])
theorem at_p3 (more : Int) : atI [D.int 7, .int 11, .int 13] (more % 3) = some (.int (p3 more)) := by
  unfold p3
  have h : more % 3 = 0 ∨ more % 3 = 1 ∨ more % 3 = 2 := by omega
  rcases h with h | h | h <;> rw [h] <;> rfl
theorem putG_D {α : Type} (f : α → D) (l : List α) (i : Nat) (mid : List α) : (l.map f).take i ++ mid.map f ++ (l.map f).drop (i + 1) = (putG l i mid).map f := by
  unfold putG
  rw [List.map_append, List.map_append, List.map_take, List.map_drop, List.append_assoc]
theorem putG_D0 {α : Type} (f : α → D) (l : List α) (i : Nat) : (l.map f).take i ++ (l.map f).drop (i + 1) = (putG l i []).map f := by
  have := putG_D f l i []
  rw [List.map_nil, List.append_nil] at this
  exact this
theorem fn_law_all_bent (c : Ctx w K mg base) : Fn P w K mg base 20 "_law_all_bent" 3 Rab := by
  have Fm : Fn P w K mg base 8 "_law_made" 1 (Rmade 6) := fn_law_made c 6
  have Fb : Fn P w K mg base 14 "_law_bent" 2 (Rbent 5) := fn_law_bent c 5
  refine c.df 53 (k := 19) ["_law_rows", "_law_papers", "_law_pick", "_law_way", "_law_more", "_law_at", "_law_q", "_law_many"] ["_law_rows", "_law_papers", "_law_pick"] (h := ?_)
  rintro cdv A outer s H E hr ok _ _ - ⟨rows, ts, pick, hl, hn, ht, h0, h1⟩
  have htn : ts.length ≤ 20 := by omega
  have hz : (20 : Nat) + 20 ≤ sizeLine := by decide
  refine bodyR (ρ' := [.d (.lst (rows.map prD)), .d (.lst (ts.map pap)), .d (.int pick), .no, .no, .no, .no, .no]) (Wk.refl _) ?_
  walk_at "s"
  walk_at "s"
  obtain ⟨x3, x1, x2, xg, _, _⟩ := mk3_ok (pick / 10)
  have eqr : ∀ {l : List (Int × Int)}, PyData.eqv (toPy (.lst (l.map prD))) (toPy (.lst [])) = decide (l = []) := fun {l} => by rw [eqv_nil, pr_empty]
  have e1 : allBent rows ts pick = allBent rows ts pick := rfl
  conv at e1 => rhs; unfold allBent
  refine jb_if (c := decide (rows = []) && decide (pick % 10 % 2 = 1)) (JT.eq (jt_and (jt_cm (by walk_at "dl") (by walk_at "dl") (ck_eqD (Room.ofX hr) (eqok_prs _) eqok_nil)) fun _ => jw_and1 (by walk_at "dl")) (by rw [eqr])) (fun hc => ?_) (fun _ => ⟨_, rfl⟩) fun hc => ?_
  · have hc : rows = [] ∧ pick % 10 % 2 = 1 := by simpa using hc
    rw [if_pos hc] at e1
    rw [e1]
    exact jb_stop (js_ret (je_tup (ja_cons (by walk_at "dl") (ja_cons (JD.eq (je_bin (x := .lst (ts.map pap)) (y := .lst ([mk3 (pick / 10)].map pap)) (by walk_at "dl") (show JD _ _ _ (.lst ([mk3 (pick / 10)].map pap)) by
      show JD _ _ _ (.lst [pap (mk3 (pick / 10))])
      rw [x2]
      exact je_lst (ja_cons (je_ca ok Fm hr (ja_cons (je_ix (x := .lst [.int 7, .int 11, .int 13]) (y := .int (pick / 10 % 3)) (by walk_at "dl") (by walk_at "dl") (ik_L (at_p3 _))) ja_nil) (.mk _ _ _ x3 x1 xg) (by omega)) ja_nil) (show 1 ≤ sizeLine by decide)) (bk_cat (by simp only [List.length_map, List.length_cons, List.length_nil]; omega))) (by rw [← List.map_append])) ja_nil)) (show 2 ≤ sizeLine by decide)))
  have hc1 : ¬ (rows = [] ∧ pick % 10 % 2 = 1) := by simpa using hc
  rw [if_neg hc1] at e1
  refine jb_if (c := decide (pick % 10 = 0) || decide (rows = [])) (JT.eq (jt_or (by walk_at "dl") fun _ => jw_or1 (jt_cm (by walk_at "dl") (by walk_at "dl") (ck_eqD (Room.ofX hr) (eqok_prs _) eqok_nil))) (by rw [eqr])) (fun hc => ?_) (fun _ => ⟨_, rfl⟩) fun hc => ?_
  · have hc : pick % 10 = 0 ∨ rows = [] := by simpa using hc
    rw [if_pos hc] at e1
    rw [e1]
    exact jb_stop (js_ret (je_tup (ja_cons (JD.eq (je_bin (x := .lst (rows.map prD)) (y := .lst ([((5 + pick / 10 % 20, 1) : Int × Int)].map prD)) (by walk_at "dl") (show JD _ _ _ (.lst [.tup [.int (5 + pick / 10 % 20), .int 1]]) by walk_at "dl") (bk_cat (by simp only [List.length_map, List.length_cons, List.length_nil]; omega))) (by rw [← List.map_append])) (ja_cons (JD.eq (je_bin (x := .lst (ts.map pap)) (y := .lst ([mk3 (pick / 10)].map pap)) (by walk_at "dl") (show JD _ _ _ (.lst ([mk3 (pick / 10)].map pap)) by
      show JD _ _ _ (.lst [pap (mk3 (pick / 10))])
      rw [x2]
      exact je_lst (ja_cons (je_ca ok Fm hr (ja_cons (je_ix (x := .lst [.int 7, .int 11, .int 13]) (y := .int (pick / 10 % 3)) (by walk_at "dl") (by walk_at "dl") (ik_L (at_p3 _))) ja_nil) (.mk _ _ _ x3 x1 xg) (by omega)) ja_nil) (show 1 ≤ sizeLine by decide)) (bk_cat (by simp only [List.length_map, List.length_cons, List.length_nil]; omega))) (by rw [← List.map_append])) ja_nil)) (show 2 ≤ sizeLine by decide)))
  have hc2 : ¬ (pick % 10 = 0 ∨ rows = []) := by simpa using hc
  rw [if_neg hc2] at e1
  have hne : rows ≠ [] := fun z => hc2 (.inr z)
  have hlen : 1 ≤ rows.length := by
    cases rows with
    | nil => exact absurd rfl hne
    | cons => simp
  obtain ⟨i, hi⟩ : ∃ i : Nat, i = (pick / 10 % (rows.length : Int)).toNat := ⟨_, rfl⟩
  have hii : pick / 10 % (rows.length : Int) = (i : Int) := by
    have := Int.emod_nonneg (pick / 10) (b := (rows.length : Int)) (by omega)
    omega
  have hil : i < rows.length := by
    have := Int.emod_lt_of_pos (pick / 10) (b := (rows.length : Int)) (by omega)
    omega
  obtain ⟨x, hx⟩ : ∃ x, rows[i]? = some x := ⟨_, List.getElem?_eq_getElem hil⟩
  obtain ⟨t, htt⟩ : ∃ t, ts[i]? = some t := ⟨_, List.getElem?_eq_getElem (by omega)⟩
  rw [← hi, hx, htt] at e1
  dsimp only at e1
  have htm := ht t (List.mem_of_getElem? htt)
  have hatr : atI (rows.map prD) (i : Int) = some (prD x) := at_nat _ _ (by omega) (by rw [Int.toNat_natCast, List.getElem?_map, hx]; rfl)
  have hatt : atI (ts.map pap) (i : Int) = some (pap t) := at_nat _ _ (by omega) (by rw [Int.toNat_natCast, List.getElem?_map, htt]; rfl)
  refine jb_cons (ρ1 := [.d (.lst (rows.map prD)), .d (.lst (ts.map pap)), .d (.int pick), .d (.int (pick % 10)), .d (.int (pick / 10)), .d (.int (i : Nat)), .no, .no]) (js_st ok (JD.eq (je_bin (x := .int (pick / 10)) (y := .int (rows.length : Nat)) (by walk_at "dl") (JD.eq (je_ln ok c.f_len (by walk_at "dl") lk_L) (by rw [List.length_map])) (bk_mod (by omega))) (by rw [hii])) (by walk_at "pt")) ?_
  refine jb_cons (ρ1 := [.d (.lst (rows.map prD)), .d (.lst (ts.map pap)), .d (.int pick), .d (.int (pick % 10)), .d (.int (pick / 10)), .d (.int (i : Nat)), .d (.int x.1), .d (.int x.2)]) (js_asg (je_ix (x := .lst (rows.map prD)) (y := .int (i : Nat)) (by walk_at "dl") (by walk_at "dl") (ik_L hatr)) (jg_tup (ds := [.int x.1, .int x.2]) rfl (by walk_at "jgs"))) ?_
  have hmid : ∀ {α : Type} (f : α → D) (l mid : List α) {X : Cx} {ρ : List Sl} {a b d : Expr} {p1 p2 : Pos}, l.length ≤ 20 → mid.length ≤ 1 → JD X ρ a (.lst ((l.map f).take i)) → JD X ρ b (.lst (mid.map f)) → JD X ρ d (.lst ((l.map f).drop (i + 1))) → JD X ρ (.BinOp (.BinOp a .Add b p1) .Add d p2) (.lst ((putG l i mid).map f)) := by
    intro α f l mid X ρ a b d p1 p2 h2 hm ha hb hd
    refine JD.eq (je_bin (je_bin ha hb (bk_cat ?_)) hd (bk_cat ?_)) (congrArg D.lst (putG_D f l i mid)) <;>
      (simp only [List.length_append, List.length_take, List.length_map, List.length_drop]; omega)
  have hmid0 : ∀ {α : Type} (f : α → D) (l : List α) {X : Cx} {ρ : List Sl} {a d : Expr} {p2 : Pos}, l.length ≤ 20 → JD X ρ a (.lst ((l.map f).take i)) → JD X ρ d (.lst ((l.map f).drop (i + 1))) → JD X ρ (.BinOp a .Add d p2) (.lst ((putG l i []).map f)) := by
    intro α f l X ρ a d p2 h2 ha hd
    refine JD.eq (je_bin ha hd (bk_cat ?_)) (congrArg D.lst (putG_D0 f l i))
    simp only [List.length_append, List.length_take, List.length_map, List.length_drop]
    omega
  refine jb_if (c := decide (pick % 10 = 1)) (by walk_at "te") (fun hc => ?_) (fun _ => ⟨_, rfl⟩) fun hc => ?_
  · rw [if_pos (of_decide_eq_true hc)] at e1
    rw [e1]
    exact jb_stop (js_ret (je_tup (ja_cons (hmid0 prD rows (by omega) (JD.eq (by walk_at "dl") (congrArg D.lst (cutD_take _ i (by rw [List.length_map]; omega) rfl))) (JD.eq (by walk_at "dl") (congrArg D.lst (cutD_drop _ (i + 1) (by rw [List.length_map]; omega) (by omega))))) (ja_cons (hmid0 pap ts (by omega) (JD.eq (by walk_at "dl") (congrArg D.lst (cutD_take _ i (by rw [List.length_map]; omega) rfl))) (JD.eq (by walk_at "dl") (congrArg D.lst (cutD_drop _ (i + 1) (by rw [List.length_map]; omega) (by omega))))) ja_nil)) (show 2 ≤ sizeLine by decide)))
  rw [if_neg (of_decide_eq_false hc)] at e1
  refine jb_if (c := decide (pick % 10 = 2)) (by walk_at "te") (fun hc => ?_) (fun _ => ⟨_, rfl⟩) fun hc => ?_
  · rw [if_pos (of_decide_eq_true hc)] at e1
    rw [e1]
    exact jb_stop (js_ret (je_tup (ja_cons (by walk_at "dl") (ja_cons (hmid0 pap ts (by omega) (JD.eq (by walk_at "dl") (congrArg D.lst (cutD_take _ i (by rw [List.length_map]; omega) rfl))) (JD.eq (by walk_at "dl") (congrArg D.lst (cutD_drop _ (i + 1) (by rw [List.length_map]; omega) (by omega))))) ja_nil)) (show 2 ≤ sizeLine by decide)))
  rw [if_neg (of_decide_eq_false hc)] at e1
  refine jb_if (c := decide (pick % 10 = 3)) (by walk_at "te") (fun hc => ?_) (fun _ => ⟨_, rfl⟩) fun hc => ?_
  · rw [if_pos (of_decide_eq_true hc)] at e1
    rw [e1]
    exact jb_stop (js_ret (je_tup (ja_cons (JD.eq (je_revL (xs := rows.map prD) (by walk_at "dl")) (by rw [List.map_reverse])) (ja_cons (JD.eq (je_revL (xs := ts.map pap) (by walk_at "dl")) (by rw [List.map_reverse])) ja_nil)) (show 2 ≤ sizeLine by decide)))
  rw [if_neg (of_decide_eq_false hc)] at e1
  refine jb_if (c := decide (pick % 10 = 4)) (by walk_at "te") (fun hc => ?_) (fun _ => ⟨_, rfl⟩) fun hc => ?_
  · rw [if_pos (of_decide_eq_true hc)] at e1
    rw [e1]
    exact jb_stop (js_ret (je_tup (ja_cons (hmid prD rows [((x.1, x.2 + 1) : Int × Int)] (by omega) (Nat.le_refl 1) (JD.eq (by walk_at "dl") (congrArg D.lst (cutD_take _ i (by rw [List.length_map]; omega) rfl))) (show JD _ _ _ (.lst [.tup [.int x.1, .int (x.2 + 1)]]) by walk_at "dl") (JD.eq (by walk_at "dl") (congrArg D.lst (cutD_drop _ (i + 1) (by rw [List.length_map]; omega) (by omega))))) (ja_cons (by walk_at "dl") ja_nil)) (show 2 ≤ sizeLine by decide)))
  rw [if_neg (of_decide_eq_false hc)] at e1
  refine jb_if (c := decide (pick % 10 = 5)) (by walk_at "te") (fun hc => ?_) (fun _ => ⟨_, rfl⟩) fun hc => ?_
  · rw [if_pos (of_decide_eq_true hc)] at e1
    rw [e1]
    exact jb_stop (js_ret (je_tup (ja_cons (JD.eq (je_bin (x := .lst (rows.map prD)) (y := .lst ([x].map prD)) (by walk_at "dl") (je_lst (ja_cons (je_ix (x := .lst (rows.map prD)) (y := .int (i : Nat)) (by walk_at "dl") (by walk_at "dl") (ik_L hatr)) ja_nil) (show 1 ≤ sizeLine by decide)) (bk_cat (by simp only [List.length_map, List.length_cons, List.length_nil]; omega))) (by rw [← List.map_append])) (ja_cons (JD.eq (je_bin (x := .lst (ts.map pap)) (y := .lst ([t].map pap)) (by walk_at "dl") (je_lst (ja_cons (je_ix (x := .lst (ts.map pap)) (y := .int (i : Nat)) (by walk_at "dl") (by walk_at "dl") (ik_L hatt)) ja_nil) (show 1 ≤ sizeLine by decide)) (bk_cat (by simp only [List.length_map, List.length_cons, List.length_nil]; omega))) (by rw [← List.map_append])) ja_nil)) (show 2 ≤ sizeLine by decide)))
  rw [if_neg (of_decide_eq_false hc)] at e1
  refine jb_if (c := decide (pick % 10 = 6)) (by walk_at "te") (fun hc => ?_) (fun _ => ⟨_, rfl⟩) fun hc => ?_
  · rw [if_pos (of_decide_eq_true hc)] at e1
    rw [e1]
    exact jb_stop (js_ret (je_tup (ja_cons (hmid prD rows [((x.1 + 2 * (pick / 10 / 8 % 2) - 1, x.2) : Int × Int)] (by omega) (Nat.le_refl 1) (JD.eq (by walk_at "dl") (congrArg D.lst (cutD_take _ i (by rw [List.length_map]; omega) rfl))) (show JD _ _ _ (.lst [.tup [.int (x.1 + 2 * (pick / 10 / 8 % 2) - 1), .int x.2]]) by walk_at "dl") (JD.eq (by walk_at "dl") (congrArg D.lst (cutD_drop _ (i + 1) (by rw [List.length_map]; omega) (by omega))))) (ja_cons (by walk_at "dl") ja_nil)) (show 2 ≤ sizeLine by decide)))
  rw [if_neg (of_decide_eq_false hc)] at e1
  refine jb_if (c := decide (pick % 10 = 8)) (by walk_at "te") (fun hc => ?_) (fun _ => ⟨_, rfl⟩) fun hc => ?_
  · rw [if_pos (of_decide_eq_true hc)] at e1
    rw [e1]
    exact jb_stop (js_ret (je_tup (ja_cons (by walk_at "dl") (ja_cons (JD.eq (je_revL (xs := ts.map pap) (by walk_at "dl")) (by rw [List.map_reverse])) ja_nil)) (show 2 ≤ sizeLine by decide)))
  rw [if_neg (of_decide_eq_false hc)] at e1
  refine jb_if (c := decide (pick % 10 = 9)) (by walk_at "te") (fun hc => ?_) (fun _ => ⟨_, rfl⟩) fun hc => ?_
  · rw [if_pos (of_decide_eq_true hc)] at e1
    rw [e1]
    exact jb_stop (js_ret (je_tup (ja_cons (by walk_at "dl") (ja_cons (JD.eq (je_bin (x := .lst (ts.map pap)) (y := .lst ([t].map pap)) (by walk_at "dl") (je_lst (ja_cons (je_ix (x := .lst (ts.map pap)) (y := .int (i : Nat)) (by walk_at "dl") (by walk_at "dl") (ik_L hatt)) ja_nil) (show 1 ≤ sizeLine by decide)) (bk_cat (by simp only [List.length_map, List.length_cons, List.length_nil]; omega))) (by rw [← List.map_append])) ja_nil)) (show 2 ≤ sizeLine by decide)))
  rw [if_neg (of_decide_eq_false hc)] at e1
  rw [e1]
  exact jb_stop (js_ret (je_tup (ja_cons (by walk_at "dl") (ja_cons (hmid pap ts [bentM 5 t (pick / 10 / 8)] (by omega) (Nat.le_refl 1) (JD.eq (by walk_at "dl") (congrArg D.lst (cutD_take _ i (by rw [List.length_map]; omega) rfl))) (je_lst (ja_cons (je_ca ok Fb hr (ja_cons (je_ix (x := .lst (ts.map pap)) (y := .int (i : Nat)) (by walk_at "dl") (by walk_at "dl") (ik_L hatt)) (ja_cons (by walk_at "dl") ja_nil)) (.mk t (pick / 10 / 8) htm.1 htm.2 (by omega) (by omega)) (by omega)) ja_nil) (show 1 ≤ sizeLine by decide)) (JD.eq (by walk_at "dl") (congrArg D.lst (cutD_drop _ (i + 1) (by rw [List.length_map]; omega) (by omega))))) ja_nil)) (show 2 ≤ sizeLine by decide)))
end
end DL
-- DL22
/-! Methods of the desk, the desk made. -/
namespace DL
open PySem PySem.Spec PyProof.Rows L2 RW
section
variable {P : Program} {w : World} {K : PySem.W.Frag} {mg : Str → Option Value} {base : Heap} {k : Nat} {R : List D → D → Prop}
abbrev deskA (K : PySem.W.Frag) : Addr := He.ga K "Desk"
theorem Ctx.cls (c : Ctx w K mg base) : Cls K (deskA K) := He.cls_ok (c.says.d.fact 78 (f := .cls "Desk") rfl)
theorem Ctx.mkr (c : Ctx w K mg base) : Mk K (deskA K) (He.ma K (deskA K) "__init__") := He.mkr_ok (c.says.d.fact 79 (f := .mkr "Desk") rfl)
theorem Ctx.noat (c : Ctx w K mg base) (i : Nat) {x : Str} (h : fa[i]? = some (.noat "Desk" x) := by rfl) : NoAttr K (deskA K) x := He.noat_ok (c.says.d.fact i (f := .noat "Desk" x) h)
theorem Ctx.mt (c : Ctx w K mg base) (i j : Nat) (N ps : List Str) {n k' : Nat} {m : Str} {d : He.DefD} (hd : RW.fn[i]? = some d := by rfl) (hg : RW.fa[j]? = some (.meth "Desk" m) := by rfl) (hn : ps.length = n := by rfl) (hk' : k + 1 = k' := by rfl) (hv : d.dvs K = [] := by rfl) (hk : d.kws K = [] := by rfl) (ha : He.fAd K d.at_ = He.ma K (deskA K) m := by rfl)
    (S : FnScope N ps d.scope := by exact ⟨rfl, rfl, rfl, by decide +kernel, rfl, by decide +kernel, by decide +kernel⟩)
    (hb : ∀ {x qual : Str} {kws : List (Str × V)} {f : Addr} {fd : FuncData}, FunD K x qual d.params d.body d.scope [] kws f fd → Binds K fd ps [] := by
      first
      | exact fun F => F.bindsN fun _ _ _ _ _ _ us hl => match us, hl with | [_], _ => rfl
      | exact fun F => F.bindsN fun _ _ _ _ _ _ us hl => match us, hl with | [_, _], _ => rfl
      | exact fun F => F.bindsN fun _ _ _ _ _ _ us hl => match us, hl with | [_, _, _], _ => rfl
      | exact fun F => F.bindsN fun _ _ _ _ _ _ us hl => match us, hl with | [_, _, _, _], _ => rfl
      | exact fun F => F.bindsN fun _ _ _ _ _ _ us hl => match us, hl with | [_, _, _, _, _], _ => rfl)
    (h : ∀ (cdv : Value) (A : Around) (outer : List Env) (s : Shared) (H : Hp) (E : XK), Room k (A.deeper (envOfC d.qual d.scope s.heap.objs.size (He.ma K (deskA K) m) cdv)) → OkN (fx P w K mg base N d.qual d.scope (He.ma K (deskA K) m) cdv A outer s H) N d.scope true → ∀ ds r, ds.length = n → R ds r → ∃ o, JB (fx P w K mg base N d.qual d.scope (He.ma K (deskA K) m) cdv A outer s H) (st0 N ds) d.body o ∧ Fin r o) : Mt P w K mg base k' (deskA K) m n R := by
  obtain ⟨fd, F⟩ := c.says.d.def_ i hd
  rw [hv, hk, ha] at F
  subst hn hk'
  exact ⟨_, fd, ps, c.cls, He.meth_ok (c.says.d.fact j (f := .meth "Desk" m) hg), fn_ok F S (fun cdv A outer s H E hr => h cdv A outer s H E hr (OkN.fx S.nd)), hb F⟩
end
end DL
-- F23
/-! The desk's methods. -/
namespace DL
open PySem PySem.Spec PyProof.Rows L2 RW M
open SX (S S_len S_cat S_inj)
local macro_rules | `(tactic| walk_at "num") => `(tactic| first
  | with_reducible assumption
  | rfl
  | omega
  | (simp only [decide_eq_true_eq, decide_eq_false_iff_not, Bool.not_eq_true', Bool.not_eq_false', Bool.and_eq_true, Bool.or_eq_false_iff, Bool.not_eq_true, Bool.not_eq_false, Int.not_lt, Int.not_le] at *; omega)
  | skip)
local macro_rules | `(tactic| walk_at "sz") => `(tactic| first
  | with_reducible assumption
  | exact sz_of (by simp only [List.length_cons, List.length_nil, List.length_append, List.length_map, List.length_replicate]; omega)
  | exact sz_lt (by simp only [List.length_cons, List.length_nil, List.length_append, List.length_map, List.length_replicate]; omega)
  | skip)
local macro_rules | `(tactic| walk_at "at") => `(tactic| first
  | with_reducible exact At.z
  | (with_reducible apply At.s; walk_at "at"))
local macro_rules | `(tactic| walk_at "pt") => `(tactic| first
  | with_reducible exact Put.z
  | (with_reducible apply Put.s; walk_at "pt"))
local macro_rules | `(tactic| walk_at "mul") => `(tactic| first
  | assumption
  | (exact Or.inl (Or.inl ⟨by omega, by omega⟩))
  | (exact Or.inl (Or.inr ⟨by omega, by omega⟩))
  | skip)
local macro_rules | `(tactic| walk_at "bk") => `(tactic| first
  | with_reducible assumption
  | with_reducible exact bk_add
  | with_reducible exact bk_sub
  | ((with_reducible apply bk_mul) ; walk_at "mul")
  | ((with_reducible apply @bk_div) <;> walk_at "dl")
  | ((with_reducible apply @bk_mod) <;> walk_at "dl")
  | ((with_reducible apply @bk_cat) <;> walk_at "dl")
  | ((with_reducible apply @bk_addS) <;> walk_at "dl")
  | ((with_reducible apply @bk_rep) <;> walk_at "dl"))
local macro_rules | `(tactic| walk_at "ck") => `(tactic| first
  | with_reducible exact ck_eqI
  | with_reducible exact ck_neI
  | with_reducible exact ck_lt
  | with_reducible exact ck_le
  | with_reducible exact ck_gt
  | with_reducible exact ck_ge
  | with_reducible exact ck_eqS
  | with_reducible exact ck_neS
  | with_reducible exact ck_isN
  | with_reducible exact ck_eqB
  | with_reducible exact ck_inS
  | ((with_reducible apply @ck_inL) <;> walk_at "dl")
  | ((with_reducible apply @ck_inT) <;> walk_at "dl")
  | ((with_reducible apply @ck_ninL) <;> walk_at "dl")
  | ((with_reducible apply @ck_eqD) <;> first | (exact Room.ofX (by assumption)) | walk_at "dl")
  | ((with_reducible apply @ck_neD) <;> first | (exact Room.ofX (by assumption)) | walk_at "dl"))
local macro_rules | `(tactic| walk_at "ik") => `(tactic| first
  | ((with_reducible apply @ik_L) <;> walk_at "dl")
  | ((with_reducible apply @ik_T) <;> walk_at "dl")
  | ((with_reducible apply @ik_S) <;> walk_at "dl"))
local macro_rules | `(tactic| walk_at "sk") => `(tactic| first
  | with_reducible exact sk_L
  | with_reducible exact sk_R
  | ((with_reducible apply @sk_S) <;> walk_at "dl")
  | ((with_reducible apply @sk_T) <;> walk_at "dl"))
local macro_rules | `(tactic| walk_at "lk") => `(tactic| first
  | with_reducible exact lk_L
  | with_reducible exact lk_T
  | ((with_reducible apply @lk_S) <;> walk_at "dl"))
local macro_rules | `(tactic| walk_at "mg") => `(tactic| first
  | with_reducible exact Ctx.f_len (by assumption)
  | with_reducible exact Ctx.f_max (by assumption)
  | with_reducible exact Ctx.f_list (by assumption)
  | with_reducible exact Ctx.f_reversed (by assumption)
  | with_reducible exact Ctx.f_range (by assumption)
  | with_reducible exact Ctx.f_enumerate (by assumption)
  | with_reducible exact Ctx.f_zip (by assumption)
  | with_reducible exact Ctx.f_all (by assumption)
  | with_reducible exact Ctx.f_any (by assumption)
  | with_reducible exact Ctx.f_isinstance (by assumption)
  | with_reducible exact Ctx.f_str (by assumption)
  | with_reducible exact Ctx.f_int (by assumption)
  | with_reducible exact Ctx.f_min (by assumption)
  | with_reducible exact Ctx.f_sorted (by assumption)
  | with_reducible exact Ctx.f_tuple (by assumption)
  | with_reducible exact Ctx.f_bool (by assumption))
local macro_rules | `(tactic| walk_at "call") => `(tactic| first
  | ((with_reducible show JD _ _ (Expr.Call (Expr.Name (PySem.Str.ofString "len") _) _ _ _) _); (first | ((with_reducible apply @je_olen) <;> (first | ((with_reducible show At _ _ _ _ _); walk_at "at") | ((fail_if_success (with_reducible show At _ _ _ _ _)); walk_at "dl"))) | ((with_reducible apply @je_ln) <;> walk_at "dl")))
  | ((with_reducible show JD _ _ (Expr.Call (Expr.Name (PySem.Str.ofString "int") _) _ _ _) _); ((with_reducible apply @je_in) <;> walk_at "dl"))
  | ((with_reducible show JD _ _ (Expr.Call (Expr.Name (PySem.Str.ofString "str") _) _ _ _) _); ((with_reducible apply @je_sI) <;> walk_at "dl"))
  | ((with_reducible show JD _ _ (Expr.Call (Expr.Name (PySem.Str.ofString "max") _) _ _ _) _); ((with_reducible apply @je_mx) <;> walk_at "dl"))
  | ((with_reducible show JD _ _ (Expr.Call (Expr.Name (PySem.Str.ofString "min") _) _ _ _) _); ((with_reducible apply @je_mn) <;> walk_at "dl"))
  | ((with_reducible show JD _ _ (Expr.Call (Expr.Name (PySem.Str.ofString "all") _) _ _ _) _); ((with_reducible apply @je_al) <;> walk_at "dl"))
  | ((with_reducible show JD _ _ (Expr.Call (Expr.Name (PySem.Str.ofString "any") _) _ _ _) _); ((with_reducible apply @je_an) <;> walk_at "dl"))
  | ((with_reducible show JD _ _ (Expr.Call (Expr.Name (PySem.Str.ofString "isinstance") _) [_, Expr.Name (PySem.Str.ofString "int") _] _ _) _); ((with_reducible apply @je_iI) <;> walk_at "dl"))
  | ((with_reducible show JD _ _ (Expr.Call (Expr.Name (PySem.Str.ofString "isinstance") _) [_, Expr.Name (PySem.Str.ofString "bool") _] _ _) _); ((with_reducible apply @je_iI) <;> walk_at "dl"))
  | ((with_reducible show JD _ _ (Expr.Call (Expr.Name (PySem.Str.ofString "isinstance") _) [_, Expr.Name (PySem.Str.ofString "tuple") _] _ _) _); ((with_reducible apply @je_iI) <;> walk_at "dl"))
  | ((with_reducible show JD _ _ (Expr.Call (Expr.Name (PySem.Str.ofString "isinstance") _) [_, Expr.Name (PySem.Str.ofString "list") _] _ _) _); ((with_reducible apply @je_iI) <;> walk_at "dl"))
  | ((with_reducible apply @je_ca) <;> walk_at "dl"))
local macro_rules | `(tactic| walk_at "jd") => `(tactic| first
  | ((with_reducible show JD _ _ (Expr.Name _ _) _); ((with_reducible apply @je_v) <;> walk_at "dl"))
  | ((with_reducible show JD _ _ (Expr.Constant _ _ _) _); (first | exact je_int | exact je_str | exact je_bl | exact je_non))
  | ((with_reducible show JD _ _ (Expr.BinOp _ _ _ _) _); ((with_reducible apply @je_bin) <;> walk_at "dl"))
  | ((with_reducible show JD _ _ (Expr.Compare _ _ _ _) _); ((with_reducible apply @je_cm) <;> walk_at "dl"))
  | ((with_reducible show JD _ _ (Expr.Subscript _ (Expr.Slice none none (some _) _) _) _); ((with_reducible apply @je_revL) <;> walk_at "dl"))
  | ((with_reducible show JD _ _ (Expr.Subscript _ (Expr.Slice _ _ none _) _) _); ((with_reducible apply @je_sl) <;> walk_at "dl"))
  | ((with_reducible show JD _ _ (Expr.Subscript (Expr.Name _ _) _ _) _); (first | ((with_reducible apply @je_oix) <;> (first | ((with_reducible show At _ _ _ _ _); walk_at "at") | ((fail_if_success (with_reducible show At _ _ _ _ _)); walk_at "dl"))) | ((with_reducible apply @je_ix) <;> walk_at "dl")))
  | ((with_reducible show JD _ _ (Expr.Subscript _ _ _) _); ((with_reducible apply @je_ix) <;> walk_at "dl"))
  | ((with_reducible show JD _ _ (Expr.Tuple _ _ _) _); ((with_reducible apply @je_tup) <;> walk_at "dl"))
  | ((with_reducible show JD _ _ (Expr.List _ _) _); ((with_reducible apply @je_lst) <;> walk_at "dl"))
  | ((with_reducible show JD _ _ (Expr.Call _ _ _ _) _); walk_at "call")
  | ((with_reducible show JD _ _ (Expr.BoolOp _ (_ :: _ :: _) _) _); (first | ((with_reducible apply @je_and) <;> first | ((with_reducible show _ = true → _); intro _; walk_at "dl") | walk_at "dl") | ((with_reducible apply @je_or) <;> first | ((with_reducible show _ = false → _); intro _; walk_at "dl") | walk_at "dl")))
  | ((with_reducible show JD _ _ (Expr.BoolOp _ _ _) _); ((with_reducible apply @je_one) <;> walk_at "dl"))
  | ((with_reducible apply @je_neg) <;> walk_at "dl")
  | ((with_reducible apply @je_not) <;> walk_at "dl"))
local macro_rules | `(tactic| walk_at "jw") => `(tactic| first
  | ((with_reducible apply @jw_and) <;> first | ((with_reducible show _ = _ → _); intro _; walk_at "dl") | walk_at "dl")
  | ((with_reducible apply @jw_or) <;> first | ((with_reducible show _ = _ → _); intro _; walk_at "dl") | walk_at "dl")
  | ((with_reducible apply @jw_and1) <;> walk_at "dl")
  | ((with_reducible apply @jw_or1) <;> walk_at "dl"))
local macro_rules | `(tactic| walk_at "jt") => `(tactic| first
  | ((with_reducible show JT _ _ (Expr.Compare _ _ _ _) _); ((with_reducible apply @jt_cm) <;> walk_at "dl"))
  | ((with_reducible show JT _ _ (Expr.BoolOp _ _ _) _); (first | ((with_reducible apply @jt_and) <;> first | ((with_reducible show _ = _ → _); intro _; walk_at "dl") | walk_at "dl") | ((with_reducible apply @jt_or) <;> first | ((with_reducible show _ = _ → _); intro _; walk_at "dl") | walk_at "dl")))
  | ((with_reducible apply @jt_not) <;> walk_at "dl")
  | ((with_reducible apply @jt_val) <;> walk_at "dl"))
local macro_rules | `(tactic| walk_at "dl") => `(tactic| first
  | ((with_reducible show JD _ _ _ _); walk_at "jd")
  | ((with_reducible show JT _ _ _ _); walk_at "jt")
  | ((with_reducible show JA _ _ _ _); (first | (with_reducible exact ja_nil) | ((with_reducible apply @ja_cons) <;> walk_at "dl")))
  | ((with_reducible show OkN _ _ _ _); with_reducible assumption)
  | ((with_reducible show At _ _ _ _ _); walk_at "at")
  | ((with_reducible show Put _ _ _ _ _ _); walk_at "pt")
  | ((with_reducible show visB _ _ = true); decide +kernel)
  | ((with_reducible show glB _ _ = true); decide +kernel)
  | ((with_reducible show locB _ _ _ = true); decide +kernel)
  | ((with_reducible show Cx.mg _ _ = none); walk_at "mg")
  | ((with_reducible show BinK _ _ _ _ _); walk_at "bk")
  | ((with_reducible show CmpK _ _ _ _ _); walk_at "ck")
  | ((with_reducible show IxK _ _ _ _); walk_at "ik")
  | ((with_reducible show JW _ _ _ _); walk_at "jw")
  | ((with_reducible show SlK _ _ _ _ _ _ _); walk_at "sk")
  | ((with_reducible show LenK _ _); walk_at "lk")
  | ((with_reducible show IntK _ _); (constructor <;> walk_at "num"))
  | ((with_reducible show JO _ _ _ _); (first | (with_reducible exact jo_none) | ((with_reducible apply @jo_some) <;> walk_at "dl")))
  | ((with_reducible show Fn _ _ _ _ _ _ _ _ _); with_reducible assumption)
  | ((with_reducible show Room _ _); with_reducible assumption)
  | ((with_reducible show PlainIx _); exact fun _ _ => rfl)
  | ((with_reducible show behindInMarks _ _ = false); (first | exact nomark _ | rfl))
  | ((with_reducible show IpK _ _ _ _ _); (first | with_reducible exact ip_addI | with_reducible exact ip_subI | ((with_reducible apply @ip_addStr) <;> walk_at "dl")))
  | ((with_reducible show EqOk _); (first | with_reducible assumption | exact eqok_ints _ | exact eqok_prs _ | exact eqok_nil))
  | ((with_reducible show PIp _ _ _); (first | exact ip_add | exact ip_sub))
  | ((with_reducible show bootBuiltins _ = _); decide +kernel)
  | ((with_reducible show _ ≤ PySem.sizeLine); walk_at "sz")
  | ((with_reducible show _ < PySem.sizeLine); walk_at "sz")
  | ((with_reducible show _ ≠ _); (first | assumption | decide))
  | ((with_reducible show atI _ _ = some _); (first | with_reducible assumption | rfl | skip))
  | ((with_reducible show ixN _ _ = some _); (first | with_reducible assumption | rfl | skip))
  | ((with_reducible show _ = _); (first | with_reducible assumption | rfl | walk_at "num"))
  | ((with_reducible show Nat); skip)
  | ((with_reducible show Int); skip)
  | ((with_reducible show D); skip)
  | ((with_reducible show Bool); skip)
  | ((with_reducible show List _); skip)
  | ((with_reducible show Option _); skip)
  | ((with_reducible show PySem.Str); skip)
  | ((with_reducible show Sl); skip)
  | ((with_reducible show Oc); skip)
  | ((with_reducible show Prop); skip)
  | ((with_reducible show PySem.Expr); skip)
  | ((with_reducible show PySem.Addr); skip)
  | ((with_reducible show Scope); skip)
  | ((with_reducible show String); skip)
  | ((with_reducible show List D → D → Prop); skip)
  | ((with_reducible show (_ : Prop)); (first | with_reducible assumption | omega | (exact fun a b c d hm => pe_bm PySem.F.plainAttrs_list PySem.F.slot_list_append PySem.F.type_list_append hm (pe_var a b c d) (pa_cons peW pa_nil)) | (constructor <;> walk_at "num") | (intro _; rfl) | (intro _ _ _; rfl)))
  | skip)
local macro_rules | `(tactic| walk_at "de") => `(tactic| first
  | ((with_reducible apply @JD.eq) <;> walk_at "dl"))
local macro_rules | `(tactic| walk_at "te") => `(tactic| first
  | ((with_reducible apply @JT.eq) <;> walk_at "dl"))
local macro_rules | `(tactic| walk_at "wk") => `(tactic| first
  | exact Wk.nil
  | (refine Wk.no ?_; walk_at "wk")
  | (refine Wk.same ?_; walk_at "wk")
  | (refine Wk.sameE ?_ ?_; rotate_left; walk_at "wk"))
local macro_rules | `(tactic| walk_at "jg") => `(tactic| first
  | ((with_reducible show JG _ _ (Expr.Name _ _) _ _ _); ((with_reducible apply @jg_v) <;> walk_at "dl"))
  | ((with_reducible show JG _ _ (Expr.Tuple _ _ _) (D.tup _) _ _); ((with_reducible apply @jg_tup) <;> first | ((with_reducible show JGs _ _ _ _ _ _); walk_at "jgs") | rfl)))
local macro_rules | `(tactic| walk_at "jgs") => `(tactic| first
  | with_reducible exact jgs_nil
  | ((with_reducible apply @jgs_cons) <;> first | ((with_reducible show JG _ _ _ _ _ _); walk_at "jg") | ((with_reducible show JGs _ _ _ _ _ _); walk_at "jgs") | ((with_reducible show (_ = _)); rfl) | skip))
local macro_rules | `(tactic| walk_at "s") => `(tactic| first
  | ((with_reducible apply jb_cons); walk_at "js"))
local macro_rules | `(tactic| walk_at "rt") => `(tactic| first
  | ((with_reducible apply JB.eq); ((with_reducible apply jb_stop); walk_at "js")))
local macro_rules | `(tactic| walk_at "ss") => `(tactic| first
  | with_reducible exact jb_nil
  | ((with_reducible apply jb_cons); walk_at "js"; walk_at "ss")
  | skip)
local macro_rules | `(tactic| walk_at "bw") => `(tactic| first
  | ((with_reducible apply JB.wk); walk_at "ss"; walk_at "wk"))
local macro_rules | `(tactic| walk_at "js") => `(tactic| first
  | ((with_reducible apply @js_st) <;> walk_at "dl")
  | ((with_reducible apply @js_au) <;> walk_at "dl")
  | ((with_reducible apply @js_ret) <;> walk_at "dl")
  | ((with_reducible apply @js_app) <;> walk_at "dl")
  | ((with_reducible apply @js_six) <;> walk_at "dl")
  | ((with_reducible apply @js_aix) <;> walk_at "dl"))
section
variable {P : Program} {w : World} {K : PySem.W.Frag} {mg : Str → Option Value} {base : Heap} {k : Nat} {R : List D → D → Prop}
inductive Rlooked (C : Addr) : List D → D → Prop
  | prime (q : Int) (t : T) (h : Rshow 12 [.int q, pap t] (.bl (shows q t))) : Rlooked C [.dsk C, .str "prime", .lst [.int q, pap t]] (.bl (shows q t))
  | all (a n : Int) (x y : D) (b : Bool) (h1 : 2 ≤ a) (h2 : a ≤ 10) (h3 : 1 ≤ n) (h4 : n ≤ 12) (h : Rsf 12 [.int a, .int n, x, y] (.bl b)) : Rlooked C [.dsk C, .str "all", .lst [.int a, .int n, .tup [x, y]]] (.bl b)
theorem mt_looked (c : Ctx w K mg base) : Mt P w K mg base 41 (deskA K) "looked" 3 (Rlooked (deskA K)) := by
  have Fs : Fn P w K mg base 27 "shows_prime" 2 (Rshow 12) := fn_shows_prime c 12 (by decide)
  have Ff : Fn P w K mg base 40 "shows_firsts" 4 (Rsf 12) := fn_shows_firsts c 12 (by decide)
  have Ft : Fn P w K mg base 1 "from_to" 3 Rfromto := fn_from_to c
  refine c.mt 62 85 (k := 40) ["self", "head", "things"] ["self", "head", "things"] (h := ?_)
  rintro cdv A outer s H E hr ok _ _ - (⟨q, t, h⟩ | ⟨a, n, x, y, b, h1, h2, h3, h4, h⟩)
  · refine bodyR (ρ' := [.d (.dsk (deskA K)), .d (.str "prime"), .d (.lst [.int q, pap t])]) (Wk.refl _) ?_
    refine jb_cons (js_ifF (JT.eq (by walk_at "dl") (show decide (("prime" : Str) = "shows") = false by decide)) jb_nil) ?_
    refine jb_cons (js_ifF (JT.eq (by walk_at "dl") (show decide (("prime" : Str) = "makes") = false by decide)) jb_nil) ?_
    refine jb_cons (js_ifF (JT.eq (by walk_at "dl") (show decide (("prime" : Str) = "cosines") = false by decide)) jb_nil) ?_
    exact jb_stop (js_ifT (JT.eq (by walk_at "dl") (show decide (("prime" : Str) = "prime") = true by decide)) (jb_stop (js_ret (je_ca ok Fs hr (ja_cons (je_ix (by walk_at "dl") (by walk_at "dl") (ik_L (at0 _ _))) (ja_cons (je_ix (by walk_at "dl") (by walk_at "dl") (ik_L (at1 _ _ _))) ja_nil)) h (by omega)))))
  · refine bodyR (ρ' := [.d (.dsk (deskA K)), .d (.str "all"), .d (.lst [.int a, .int n, .tup [x, y]])]) (Wk.refl _) ?_
    refine jb_cons (js_ifF (JT.eq (by walk_at "dl") (show decide (("all" : Str) = "shows") = false by decide)) jb_nil) ?_
    refine jb_cons (js_ifF (JT.eq (by walk_at "dl") (show decide (("all" : Str) = "makes") = false by decide)) jb_nil) ?_
    refine jb_cons (js_ifF (JT.eq (by walk_at "dl") (show decide (("all" : Str) = "cosines") = false by decide)) jb_nil) ?_
    refine jb_cons (js_ifF (JT.eq (by walk_at "dl") (show decide (("all" : Str) = "prime") = false by decide)) jb_nil) ?_
    refine jb_cons (js_expr (je_ca ok Ft hr (ja_cons (je_ix (by walk_at "dl") (by walk_at "dl") (ik_L (at0 _ _))) (by walk_at "dl")) (.mk a 2 10 h1 h2) (by omega))) ?_
    refine jb_cons (js_expr (je_ca ok Ft hr (ja_cons (je_ix (by walk_at "dl") (by walk_at "dl") (ik_L (at1 _ _ _))) (by walk_at "dl")) (.mk n 1 12 h3 h4) (by omega))) ?_
    have e2 : atI [D.int a, .int n, .tup [x, y]] 2 = some (.tup [x, y]) := rfl
    exact jb_stop (js_ret (je_ca ok Ff hr (ja_cons (je_ix (by walk_at "dl") (by walk_at "dl") (ik_L (at0 _ _))) (ja_cons (je_ix (by walk_at "dl") (by walk_at "dl") (ik_L (at1 _ _ _))) (ja_cons (je_ix (je_ix (by walk_at "dl") (by walk_at "dl") (ik_L e2)) (by walk_at "dl") (ik_T (at0 _ _))) (ja_cons (je_ix (je_ix (by walk_at "dl") (by walk_at "dl") (ik_L e2)) (by walk_at "dl") (ik_T (at1 _ _ _))) ja_nil)))) h (by omega)))
inductive Rofn (C : Addr) : List D → D → Prop
  | firsts (a n : Int) (d : D) (h1 : 2 ≤ a) (h2 : a ≤ 10) (h3 : 1 ≤ n) (h4 : n ≤ 12) (h : Rtf [.int a, .int n] d) : Rofn C [.dsk C, .str "firsts", .lst [.int a, .int n]] d
  | paper (q : Int) (t : T) (F : Nat) (hq : 2 ≤ q) (hq2 : q ≤ 1000000) (hF : F ≤ 100000) (hp : prt F 2 q = some [(q, 1)]) (h : Rpp 12 [.int q] (pap t)) (ht : Rtext 12 [pap t] (sD (txtC t))) : Rofn C [.dsk C, .str "paper", .lst [.int q]] (sD (txtC t))
theorem mt_of_numbers (c : Ctx w K mg base) : Mt P w K mg base 15 (deskA K) "of_numbers" 3 (Rofn (deskA K)) := by
  have Ft : Fn P w K mg base 1 "from_to" 3 Rfromto := fn_from_to c
  have Ff : Fn P w K mg base 6 "told_firsts" 2 Rtf := fn_told_firsts c
  have Fd : Fn P w K mg base 1 "parted" 1 Rparted := fn_parted c
  have Fp : Fn P w K mg base 14 "prime_paper" 1 (Rpp 12) := fn_prime_paper c 12
  have Fx : Fn P w K mg base 13 "show_paper" 1 (Rtext 12) := fn_show_paper c 12
  refine c.mt 61 84 (k := 14) ["self", "head", "things"] ["self", "head", "things"] (h := ?_)
  rintro cdv A outer s H E hr ok _ _ - (⟨a, n, d, h1, h2, h3, h4, h⟩ | ⟨q, t, F, hq, hq2, hF, hp, h, ht⟩)
  · refine bodyR (ρ' := [.d (.dsk (deskA K)), .d (.str "firsts"), .d (.lst [.int a, .int n])]) (Wk.refl _) ?_
    refine jb_cons (js_ifF (JT.eq (by walk_at "dl") (show decide (("firsts" : Str) = "root") = false by decide)) jb_nil) ?_
    refine jb_cons (js_ifF (JT.eq (by walk_at "dl") (show decide (("firsts" : Str) = "order") = false by decide)) jb_nil) ?_
    refine jb_stop (js_ifT (JT.eq (by walk_at "dl") (show decide (("firsts" : Str) = "firsts") = true by decide)) ?_)
    refine jb_cons (js_expr (je_ca ok Ft hr (ja_cons (je_ix (by walk_at "dl") (by walk_at "dl") (ik_L (at0 _ _))) (by walk_at "dl")) (.mk a 2 10 h1 h2) (by omega))) ?_
    refine jb_cons (js_expr (je_ca ok Ft hr (ja_cons (je_ix (by walk_at "dl") (by walk_at "dl") (ik_L (at1 _ _ _))) (by walk_at "dl")) (.mk n 1 12 h3 h4) (by omega))) ?_
    exact jb_stop (js_ret (je_ca ok Ff hr (ja_cons (je_ix (by walk_at "dl") (by walk_at "dl") (ik_L (at0 _ _))) (ja_cons (je_ix (by walk_at "dl") (by walk_at "dl") (ik_L (at1 _ _ _))) ja_nil)) h (by omega)))
  · refine bodyR (ρ' := [.d (.dsk (deskA K)), .d (.str "paper"), .d (.lst [.int q])]) (Wk.refl _) ?_
    refine jb_cons (js_ifF (JT.eq (by walk_at "dl") (show decide (("paper" : Str) = "root") = false by decide)) jb_nil) ?_
    refine jb_cons (js_ifF (JT.eq (by walk_at "dl") (show decide (("paper" : Str) = "order") = false by decide)) jb_nil) ?_
    refine jb_cons (js_ifF (JT.eq (by walk_at "dl") (show decide (("paper" : Str) = "firsts") = false by decide)) jb_nil) ?_
    have hR := Rparted.mk q _ F (by omega) (by omega) hF hp
    refine jb_cons (js_ifF (JT.eq (jt_cm (je_ix (by walk_at "dl") (by walk_at "dl") (ik_L (at0 _ _))) (je_gi ok (c.int 77)) ck_gt) (decide_eq_false (by omega))) jb_nil) ?_
    refine jb_cons (js_ifF (JT.eq (jt_or (c := decide (q < 2)) (jt_cm (je_ix (by walk_at "dl") (by walk_at "dl") (ik_L (at0 _ _))) (by walk_at "dl") ck_lt) fun _ => jw_or1 (jt_cm (je_ca ok Fd hr (ja_cons (je_ix (by walk_at "dl") (by walk_at "dl") (ik_L (at0 _ _))) ja_nil) hR (by omega)) (je_lst (ds := [(q, 1)].map prD) (ja_cons (je_tup (ja_cons (je_ix (by walk_at "dl") (by walk_at "dl") (ik_L (at0 _ _))) (ja_cons (by walk_at "dl") ja_nil)) (show 2 ≤ sizeLine by decide)) ja_nil) (show 1 ≤ sizeLine by decide)) (ck_neD (Room.ofX hr) (eqok_prs _) (eqok_prs _)))) ?_) jb_nil) ?_
    · rw [eqv_prs]
      simp
      omega
    exact jb_stop (js_ret (je_ca ok Fx hr (ja_cons (je_ca ok Fp hr (ja_cons (je_ix (by walk_at "dl") (by walk_at "dl") (ik_L (at0 _ _))) ja_nil) h (by omega)) ja_nil) ht (by omega)))
inductive Rasked (C : Addr) : List D → D → Prop
  | size : Rasked C [.dsk C, .str "size", .lst []] (sD (num 1))
  | num (h : Str) (hh : h = "firsts" ∨ h = "paper") (x d : D) (hR : Rofn C [.dsk C, .str h, x] d) : Rasked C [.dsk C, .str h, x] d
theorem mt_asked (c : Ctx w K mg base) : Mt P w K mg base 16 (deskA K) "asked" 3 (Rasked (deskA K)) := by
  have Fn1 : Mt P w K mg base 15 (deskA K) "of_numbers" 3 (Rofn (deskA K)) := mt_of_numbers c
  refine c.mt 60 83 (k := 15) ["self", "head", "things", "some", "one"] ["self", "head", "things"] (h := ?_)
  rintro cdv A outer s H E hr ok _ _ - (_ | ⟨h, hh, x, d, hR⟩)
  · refine bodyR (ρ' := [.d (.dsk (deskA K)), .d (.str "size"), .d (.lst []), .no, .no]) (Wk.refl _) ?_
    exact jb_stop (js_ifT (JT.eq (by walk_at "dl") (show decide (("size" : Str) = "size") = true by decide)) (jb_stop (js_ret (je_sN ok c.f_str (je_n c.cls (c.noat 86) (by walk_at "dl")) (by decide) (by decide)))))
  · refine bodyR (ρ' := [.d (.dsk (deskA K)), .d (.str h), .d x, .no, .no]) (Wk.refl _) ?_
    refine jb_cons (js_ifF (JT.eq (c := decide (h = ("size" : Str))) (by walk_at "dl") (by rcases hh with rfl | rfl <;> decide)) jb_nil) ?_
    refine jb_cons (js_ifF (JT.eq (c := decide (h = ("names" : Str))) (by walk_at "dl") (by rcases hh with rfl | rfl <;> decide)) jb_nil) ?_
    refine jb_cons (js_ifF (JT.eq (c := decide (h = ("ground" : Str))) (by walk_at "dl") (by rcases hh with rfl | rfl <;> decide)) jb_nil) ?_
    refine jb_stop (js_ifT (JT.eq (jt_cm (y := .lst [.str "root", .str "order", .str "firsts", .str "paper"]) (by walk_at "dl") (by walk_at "dl") (ck_inL rfl rfl)) (by rcases hh with rfl | rfl <;> decide)) ?_)
    exact jb_stop (js_ret (je_meth Fn1 hr (by walk_at "dl") (by walk_at "dl") hR (by omega) (pl := _)))
inductive Rthing (C : Addr) : List D → D → Prop
  | h (hd : Str) (i : Int) (h0 : 0 ≤ i) (h1 : i < 2 ^ 60) : Rthing C [.dsk C, .str hd, .str "h", sD (M.num i)] (.int i)
  | r (hd : Str) (x d : D) (h : Rrest [.str hd, x] d) : Rthing C [.dsk C, .str hd, .str "r", x] d
theorem mt_thing (c : Ctx w K mg base) : Mt P w K mg base 18 (deskA K) "thing" 4 (Rthing (deskA K)) := by
  have Fr : Fn P w K mg base 17 "read_rest" 2 Rrest := fn_read_rest c
  have Fu : Fn P w K mg base 3 "read_number" 1 Rnumber := fn_read_number c
  refine c.mt 59 82 (k := 17) ["self", "head", "kind", "word"] ["self", "head", "kind", "word"] (h := ?_)
  rintro cdv A outer s H E hr ok _ _ - (⟨hd, i, h0, h1⟩ | ⟨hd, x, d, h⟩)
  · refine bodyR (ρ' := [.d (.dsk (deskA K)), .d (.str hd), .d (.str "h"), .d (sD (M.num i))]) (Wk.refl _) ?_
    refine jb_cons (js_ifF (JT.eq (by walk_at "dl") (show decide (("h" : Str) = "a") = false by decide)) jb_nil) ?_
    exact jb_stop (js_ifT (JT.eq (by walk_at "dl") (show decide (("h" : Str) = "h") = true by decide)) (jb_stop (js_ret (je_ca ok Fu hr (by walk_at "dl") (.mk i h0 h1) (by omega)))))
  · refine bodyR (ρ' := [.d (.dsk (deskA K)), .d (.str hd), .d (.str "r"), .d x]) (Wk.refl _) ?_
    refine jb_cons (js_ifF (JT.eq (by walk_at "dl") (show decide (("r" : Str) = "a") = false by decide)) jb_nil) ?_
    refine jb_cons (js_ifF (JT.eq (by walk_at "dl") (show decide (("r" : Str) = "h") = false by decide)) jb_nil) ?_
    exact jb_stop (js_ifT (JT.eq (by walk_at "dl") (show decide (("r" : Str) = "r") = true by decide)) (jb_stop (js_ret (je_ca ok Fr hr (by walk_at "dl") h (by omega)))))
end
-- F24
/-! The desk made, asked. -/
open PySem PySem.Spec PyProof.Rows L2 RW M
open SX (S S_len S_cat S_inj)
section
variable {P : Program} {w : World} {K : PySem.W.Frag} {mg : Str → Option Value} {base : Heap} {k : Nat} {R : List D → D → Prop}
def deskFs (s b : V) : List (Str × V) := [("n", .int 1), ("sums", s), ("behind", b)]
def spInit (C : Addr) : Sp := fun vs H Q _ => ∃ (p dx : Addr), vs = [.ref p] ∧ H p = some (.ins C dx []) ∧ ∀ (H' : Hp) (s b : V), H' p = some (.ins C dx (deskFs s b)) → (∀ a o, a ≠ p → H a = some o → H' a = some o) → Q .non H'
theorem ok_init (c : Ctx w K mg base) : ∃ fd, FnOk P w K mg base CX0 1 (He.ma K (deskA K) "__init__") fd ["self"] (spInit (deskA K)) ∧ Binds K fd ["self"] [] := by
  obtain ⟨fd, F⟩ := c.says.d.def_ 57 (d := dm_init) rfl
  have F : FunD K dm_init.name dm_init.qual dm_init.params dm_init.body dm_init.scope [] [] (He.ma K (deskA K) "__init__") fd := F
  refine ⟨fd, F.ok (show FnScope ["self"] ["self"] dm_init.scope from ⟨rfl, rfl, rfl, by decide +kernel, rfl, by decide +kernel, by decide +kernel⟩) (fun vs H Q E h => ?_) (fun cdv A outer s H vs Q E hr h => ?_), F.bindsN fun _ _ _ _ _ _ us hl => match us, hl with | [_], _ => rfl⟩
  · obtain ⟨p, dx, rfl, _⟩ := h
    rfl
  · obtain ⟨p, dx, rfl, hp, kq⟩ := h
    refine ⟨_, pss_cons (ps_fld (pv 0) pe_int rfl) (pss_cons (ps_fld (pv 0) pe_dnewK rfl) (pss_one (ps_fld (pv 0) (pe_lst pa_nil) rfl))), ?_⟩
    refine ⟨_, rfl, p, deskA K, dx, [], rfl, hp, c.cls, c.noat 86, (by show 0 < 1000; decide), ?_⟩
    intro q hq
    have h1 : (upd H p (.ins (deskA K) dx (putF "n" (.int 1) []))) p = some (.ins (deskA K) dx (putF "n" (.int 1) [])) := upd_same
    have npq : p ≠ q := ne_of_none h1 hq
    refine ⟨_, rfl, p, deskA K, dx, _, rfl, (by rw [upd_ne npq]; exact h1), c.cls, c.noat 87, (by show 1 < 1000; decide), ?_⟩
    refine ⟨Nat.zero_le _, fun l hl => ?_⟩
    refine ⟨_, rfl, p, deskA K, dx, putF "sums" (.ref q) (putF "n" (.int 1) []), rfl, ?_, c.cls, c.noat 88, (by show 2 < 1000; decide), ?_⟩
    · have h2 : (upd (upd (upd H p (.ins (deskA K) dx (putF "n" (.int 1) []))) q (.dK [])) p (.ins (deskA K) dx (putF "sums" (.ref q) (putF "n" (.int 1) [])))) p = some (.ins (deskA K) dx (putF "sums" (.ref q) (putF "n" (.int 1) []))) := upd_same
      have npl : p ≠ l := ne_of_none h2 hl
      rw [upd_ne npl]
      exact h2
    · refine kq _ (.ref q) (.ref l) upd_same fun a o ha ho => ?_
      have haq : a ≠ q := by
        rintro rfl
        rw [upd_ne ha, ho] at hq
        cases hq
      have e2 : (upd (upd (upd H p (.ins (deskA K) dx (putF "n" (.int 1) []))) q (.dK [])) p (.ins (deskA K) dx (putF "sums" (.ref q) (putF "n" (.int 1) [])))) a = some o := by
        rw [upd_ne ha, upd_ne haq, upd_ne ha]
        exact ho
      have hal : a ≠ l := ne_of_none e2 hl
      rw [upd_ne ha, upd_ne hal]
      exact e2
theorem je_desk {X : Cx} {ρ : List Sl} {N : List Str} {sc : Scope} {tt : Bool} {p pos : Pos} {j : Nat} {fd : FuncData} (ok : OkN X N sc tt) (M1 : Mk X.K (deskA X.K) (He.ma X.K (deskA X.K) "__init__")) (hm : X.mg "Desk" = some (.ref (deskA X.K))) (F : FnOk X.prog X.w X.K X.mg X.base CX0 1 (He.ma X.K (deskA X.K) "__init__") fd ["self"] (spInit (deskA X.K))) (hb : Binds X.K fd ["self"] []) (hr : Room j X.A) (hj : 2 ≤ j) (hgl : glB sc "Desk" = true := by decide +kernel) : JD X ρ (.Call (.Name "Desk" p) [] [] pos) (.dsk (deskA X.K)) := fun G0 H0 G H σ E Q q => by
  refine wE.of (pe_make0 M1 F (hr.mono hj) (ok.gl hgl).1 hm hb .nil pass0 (ok.gl hgl).2) ?_
  intro x dx hx hdx hne
  refine ⟨x, dx, rfl, upd_same, fun H' s b hH hk => ⟨rfl, ?_⟩⟩
  have hG : G x = none := E.sub.free hx
  have hold : ∀ a o, H a = some o → H' a = some o := fun a o ho => by
    have h1 : a ≠ x := ne_of_none ho hx
    have h2 : a ≠ dx := ne_of_none ho hdx
    exact hk a o h1 (by rw [upd_ne h1, upd_ne h2]; exact ho)
  refine q (.ref x) (upd G x (.ins (deskA X.K) dx (deskFs s b))) H' ⟨fun a o ho => ?_, hold, fun a o ho => ?_, fun a o ho => ?_⟩ ⟨x, dx, s, b, rfl, upd_same⟩
  · have h1 : a ≠ x := ne_of_none ho hG
    rw [upd_ne h1]
    exact ho
  · by_cases h1 : a = x
    · subst h1
      rw [upd_same] at ho
      cases ho
      exact hH
    · rw [upd_ne h1] at ho
      exact hold a o (E.sub _ _ ho)
  · by_cases h1 : a = x
    · subst h1
      exact .inr hx
    · rw [upd_ne h1] at ho
      exact .inl ho
inductive Rsay (C : Addr) : List D → D → Prop
  | mk (h f : Str) (row d : D) (zs : List (Nat × D × D)) (hm : (h, He.Dv.str f) ∈ RW.formVals) (hp : Rparts [row] (.tup [.str h, .lst (zs.map fun z => z.2.1)])) (hf : f.cps.toList = zs.map fun z => z.1) (hk : ∀ z ∈ zs, (z.1 = 104 ∨ z.1 = 114) ∧ Rthing C [.dsk C, .str h, .str ⟨#[z.1]⟩, z.2.1] z.2.2)
      (hh : h = "prime" ∨ h = "all" ∨ h = "firsts" ∨ h = "paper" ∨ h = "size") (hl : zs.length ≤ 10) (he : (Txt.endswith f "r" = true ∧ ∃ b, Rlooked C [.dsk C, .str h, .lst (zs.map fun z => z.2.2)] (.bl b) ∧ d = yesD b) ∨ (Txt.endswith f "r" = false ∧ Rasked C [.dsk C, .str h, .lst (zs.map fun z => z.2.2)] d)) : Rsay C [.dsk C, row] d
theorem mt_say (c : Ctx w K mg base) : Mt P w K mg base 50 (deskA K) "say" 2 (Rsay (deskA K)) := by
  have Fp : Fn P w K mg base 1 "parts_of" 1 Rparts := fn_parts_of c
  have Fy : Fn P w K mg base 1 "yes_or_no" 1 Ryes := fn_yes_or_no c
  have Mt1 : Mt P w K mg base 18 (deskA K) "thing" 4 (Rthing (deskA K)) := mt_thing c
  have Ml : Mt P w K mg base 41 (deskA K) "looked" 3 (Rlooked (deskA K)) := mt_looked c
  have Ma : Mt P w K mg base 16 (deskA K) "asked" 3 (Rasked (deskA K)) := mt_asked c
  refine c.mt 58 81 (k := 49) ["self", "row", "head", "words", "form", "kind", "word", "things"] ["self", "row"] (h := ?_)
  rintro cdv A outer s H E hr ok _ _ - ⟨h, f, row, d, zs, hm, hp, hf, hk, hh, hl, he⟩
  have F := c.form hm
  have hfl : f.cps.size = (zs.map fun z => z.2.1).length := by
    have := congrArg List.length hf
    rw [Array.length_toList, List.length_map] at this
    rw [List.length_map]
    exact this
  have hzip : zipD (f.cps.toList.map fun c => D.str ⟨#[c]⟩) (zs.map fun z => z.2.1) = zs.map fun z => .tup [.str ⟨#[z.1]⟩, z.2.1] := by
    rw [hf, List.map_map, zipD_map]
    have : ∀ l : List (Nat × D × D), (l.zip l).map (fun z => D.tup [((fun c => D.str ⟨#[c]⟩) ∘ fun z : Nat × D × D => z.1) z.1, z.2.2.1]) = l.map fun z => .tup [.str ⟨#[z.1]⟩, z.2.1] := by
      intro l
      induction l with
      | nil => rfl
      | cons a l ih =>
        rw [List.zip_cons_cons, List.map_cons, List.map_cons, ih]
        rfl
    exact this zs
  refine bodyR (ρ' := [.d (.dsk (deskA K)), .d row, .no, .no, .no, .no, .no, .no]) (Wk.refl _) ?_
  refine jb_cons (ρ1 := [.d (.dsk (deskA K)), .no, .d (.str h), .d (.lst (zs.map fun z => z.2.1)), .no, .no, .no, .no]) (JS.wk (js_asg (je_ca ok Fp hr (by walk_at "dl") hp (by omega)) (jg_tup (ds := [.str h, .lst (zs.map fun z => z.2.1)]) rfl (by walk_at "jgs"))) (by walk_at "wk")) ?_
  refine jb_cons (ρ1 := [.d (.dsk (deskA K)), .no, .d (.str h), .d (.lst (zs.map fun z => z.2.1)), .d (.str f), .no, .no, .no]) (js_st ok (je_form ok F (by walk_at "dl")) (by walk_at "pt")) ?_
  refine jb_cons (ρ1 := [.d (.dsk (deskA K)), .no, .d (.str h), .d (.lst (zs.map fun z => z.2.1)), .d (.str f), .no, .no, .no]) (js_forG (f := fun z : Nat × D × D => D.tup [.str ⟨#[z.1]⟩, z.2.1]) (l := zs) (fun _ : Unit => [.d (.dsk (deskA K)), .no, .d (.str h), .d (.lst (zs.map fun z => z.2.1)), .d (.str f), .no, .no, .no]) (fun _ l => ∀ z ∈ l, z ∈ zs) (.nx [.d (.dsk (deskA K)), .no, .d (.str h), .d (.lst (zs.map fun z => z.2.1)), .d (.str f), .no, .no, .no]) () (JI.conv (ji_zs ok c.f_zip (by walk_at "dl") (by walk_at "dl") hfl) hzip) (fun z hz => hz) (by walk_at "wk") .never rfl ?_ ?_) ?_
  · intro _ _
    exact ⟨_, rfl, Wk.refl _⟩
  · intro _ z l hz
    have hkz := (hk z (hz z List.mem_cons_self)).1
    refine ⟨_, _, jg_tup (ds := [.str ⟨#[z.1]⟩, z.2.1]) rfl (by walk_at "jgs"), .inr ⟨(), fun x hx => hz x (List.mem_cons_of_mem _ hx), ?_⟩⟩
    have e1 : decide ((⟨#[z.1]⟩ : Str) = "w") = false := by
      rw [show (⟨#[z.1]⟩ : Str) = S [z.1] from rfl, S_eq_lit (t := "w") (m := [119]) rfl]
      rcases hkz with h | h <;> rw [h] <;> decide
    have e2 : decide ((⟨#[z.1]⟩ : Str) = "a") = false := by
      rw [show (⟨#[z.1]⟩ : Str) = S [z.1] from rfl, S_eq_lit (t := "a") (m := [97]) rfl]
      rcases hkz with h | h <;> rw [h] <;> decide
    exact JB.wk (jb_one (js_ifF (JT.eq (jt_or (c := false) (c2 := false) (JT.eq (jt_and (c := false) (c2 := true) (JT.eq (c := decide ((⟨#[z.1]⟩ : Str) = "w")) (by walk_at "dl") e1) nofun) rfl) fun _ => jw_or1 (JT.eq (jt_and (c := false) (c2 := true) (JT.eq (c := decide ((⟨#[z.1]⟩ : Str) = "a")) (by walk_at "dl") e2) nofun) rfl)) rfl) jb_nil)) (by walk_at "wk")
  refine jb_cons (ρ1 := [.d (.dsk (deskA K)), .no, .d (.str h), .d (.lst (zs.map fun z => z.2.1)), .d (.str f), .no, .no, .d (.lst (zs.map fun z => z.2.2))]) (js_lcV [("kind", 5), ("word", 6)] ok (JI.conv (ji_zs ok c.f_zip (by walk_at "dl") (by walk_at "dl") hfl) hzip) [.d (.dsk (deskA K)), .no, .d (.str h), .d (.lst (zs.map fun z => z.2.1)), .d (.str f), .no, .no, .no] (out := zs.map fun z => z.2.2) (comp_m (f := fun z : Nat × D × D => D.tup [.str ⟨#[z.1]⟩, z.2.1]) (g := fun z => z.2.2) (l := zs) fun z hz => ⟨[.d (.dsk (deskA K)), .no, .d (.str h), .d (.lst (zs.map fun z => z.2.1)), .d (.str f), .d (.str ⟨#[z.1]⟩), .d z.2.1, .no], [5] ++ ([6] ++ []), by simp, blk_i ok fun s H C cl fp okb => jg_tup (ds := [.str ⟨#[z.1]⟩, z.2.1]) rfl (by walk_at "jgs"), blk_i ok fun s H C cl fp okb => je_meth Mt1 hr (by walk_at "dl") (by walk_at "dl") (hk z hz).2 (by omega) (pl := _)⟩) (by rw [List.length_map]; omega) (by walk_at "pt")) ?_
  refine jb_cons (js_ifF (JT.eq (jt_cm (y := .lst [.str "wheel", .str "spread", .str "sum", .str "plus", .str "times", .str "turn", .str "lead", .str "rest", .str "drop", .str "back"]) (by walk_at "dl") (by walk_at "dl") (ck_inL rfl rfl)) (by rcases hh with rfl | rfl | rfl | rfl | rfl <;> decide)) jb_nil) ?_
  rcases he with ⟨e1, b, hb, rfl⟩ | ⟨e1, ha⟩
  · exact jb_stop (js_ifT (JT.eq (jt_val (je_endswith (u := ("r" : Str)) (by walk_at "dl") (by walk_at "dl"))) e1) (jb_stop (js_ret (je_ca ok Fy hr (ja_cons (je_meth Ml hr (by walk_at "dl") (by walk_at "dl") hb (by omega) (pl := _)) ja_nil) (.mk b) (by omega)))))
  · refine jb_cons (js_ifF (JT.eq (jt_val (je_endswith (u := ("r" : Str)) (by walk_at "dl") (by walk_at "dl"))) e1) jb_nil) ?_
    exact jb_stop (js_ret (je_meth Ma hr (by walk_at "dl") (by walk_at "dl") ha (by omega) (pl := _)))
end
-- F25
/-! Rows of the desk: what it answers. -/
open PySem PySem.Spec PyProof.Rows L2 RW M
open SX (S S_len S_cat S_inj)
section
variable {P : Program} {w : World} {K : PySem.W.Frag} {mg : Str → Option Value} {base : Heap} {k : Nat} {R : List D → D → Prop}
mutual
theorem few_eq : ∀ t : T, fewT t = fewB t
  | .node _ _ _ _ ks => by
    unfold fewT fewB
    rw [fews_eq ks]
theorem fews_eq : ∀ ks : List T, fewTs ks = fewBs ks
  | [] => by
    unfold fewTs fewBs
    rfl
  | k :: ks => by
    unfold fewTs fewBs
    rw [few_eq k, fews_eq ks]
end
def primeC : List Nat := [112, 114, 105, 109, 101]
def allW : List Nat := [97, 108, 108]
def firstsW : List Nat := [102, 105, 114, 115, 116, 115]
def paperW : List Nat := [112, 97, 112, 101, 114]
def rowP (q : Int) (t : T) : List Nat := primeC ++ 32 :: (num q ++ 32 :: txtC t)
def rowA (a n : Int) (x : List Nat) : List Nat := allW ++ 32 :: (num a ++ 32 :: (num n ++ 32 :: x))
def rowF (a n : Int) : List Nat := firstsW ++ 32 :: (num a ++ 32 :: num n)
def rowQ (q : Int) : List Nat := paperW ++ 32 :: num q
theorem num32 (i : Int) : 32 ∉ num i := TL.numL_free (by decide)
theorem txt_ne (t : T) : txtC t ≠ [] := by
  rw [txtC_in]
  exact List.cons_ne_nil _ _
theorem _root_.M.Fit.text {Z : Nat} {D : Nat} {t : T} (h : Fit D Z t) : (txtC t).length ≤ 100 * Z := by
  have h1 := len_siz t h.ok
  have h2 := h.siz
  omega
theorem say_prime (C : Addr) (q : Int) (t : T) (q0 : 0 ≤ q) (q1 : q < 2 ^ 60) (h : Fit 12 200 t) : Rsay C [.dsk C, sD (rowP q t)] (yesD (shows q t)) := by
  have ht := h.text
  have hn := num_len q1
  refine .mk "prime" "hr" _ _ [(104, sD (num q), .int q), (114, sD (txtC t), pap t)] (by simp [RW.formVals]) ?_ rfl ?_ (.inl rfl) (by simp) (.inl ⟨by decide +kernel, _, .prime q t (.mk q t h.dep h.ok (by rw [few_eq]; exact h.few) q0 q1), rfl⟩)
  · exact .mk "prime" "hr" primeC (num q ++ 32 :: txtC t) [num q] (txtC t) true (by simp [RW.formVals]) rfl (by decide) (by simp only [List.length_append, List.length_cons, primeC]; simp only [List.length_cons, List.length_nil]; omega) (by decide +kernel) nofun (fun _ => splitMax1 (num32 q)) rfl (txt_ne t) (by decide)
  · intro z hz
    simp only [List.mem_cons, List.not_mem_nil, or_false] at hz
    rcases hz with rfl | rfl
    · exact ⟨.inl rfl, .h "prime" q q0 q1⟩
    · exact ⟨.inr rfl, .r "prime" _ _ (.prime t h.dep h.ok (by omega))⟩
theorem _root_.M.RP.row {N : Nat} {rows : List (Int × Int)} {ts : List T} (h : RP N rows ts) : ∀ x ∈ rows, RowOk x := fun x hx => by
  have := h.q x hx
  exact ⟨by omega, by omega, by omega, by omega⟩
theorem sum_le {α : Type} (f : α → List Nat) (m : Nat) : ∀ {l : List α}, (∀ x ∈ l, (f x).length ≤ m) → ((l.map f).map List.length).sum ≤ m * l.length
  | [], _ => by simp
  | x :: l, h => by
    have h1 := h x List.mem_cons_self
    have h2 := sum_le f m (l := l) fun y hy => h y (List.mem_cons_of_mem _ hy)
    rw [List.map_cons, List.map_cons, List.sum_cons, List.length_cons, Nat.mul_add]
    omega
theorem _root_.M.RP.len {rows : List (Int × Int)} {ts : List T} (h : RP 30 rows ts) : (allC rows ts).length ≤ 700000 ∧ (rowsC rows).length ≤ 2000 := by
  have h1 : (rowsC rows).length ≤ 2000 := by
    unfold rowsC
    split
    · decide
    · rename_i hne
      have e := len_joinL [32] (rows.map rowC) (by simpa using hne)
      have := sum_le rowC 39 fun x hx => len_row (h.row x hx)
      have := h.rn
      rw [List.length_map] at e
      simp only [List.length_cons, List.length_nil] at e
      omega
  have h2 : (papsC ts).length ≤ 690000 := by
    unfold papsC
    split
    · decide
    · rename_i hne
      have e := len_joinL [59, 32] (ts.map txtC) (by simpa using hne)
      have := sum_le txtC 20000 fun x hx => by
        have := (h.t x hx).text
        omega
      have := h.tn
      rw [List.length_map] at e
      simp only [List.length_cons, List.length_nil] at e
      omega
  exact ⟨by rw [allC_len]; omega, h1⟩
theorem papsC_pos (ts : List T) : papsC ts ≠ [] := by
  by_cases h : ts = []
  · subst h
    decide
  · rw [papsC_ne h]
    cases ts with
    | nil => exact absurd rfl h
    | cons t r =>
      intro e
      have : (txtC t).length ≤ (TL.joinL [59, 32] ((t :: r).map txtC)).length := len_mem_join (by simp)
      rw [e, len_txt] at this
      simp at this
theorem allC_ne (rows : List (Int × Int)) (ts : List T) : allC rows ts ≠ [] := by
  intro e
  have := congrArg List.length e
  rw [allC_len] at this
  simp at this
theorem say_all (C : Addr) (a n : Int) (rows : List (Int × Int)) (ts : List T) (b : Bool) (a0 : 2 ≤ a) (a1 : a ≤ 10) (n0 : 1 ≤ n) (n1 : n ≤ 12) (h : RP 30 rows ts) (hs : Rsf 12 [.int a, .int n, .lst (rows.map prD), .lst (ts.map pap)] (.bl b)) : Rsay C [.dsk C, sD (rowA a n (allC rows ts))] (yesD b) := by
  have hl := h.len.1
  have hna := num_len (i := a) (by omega)
  have hnn := num_len (i := n) (by omega)
  have hrn := h.rn
  have htn := h.tn
  refine .mk "all" "hhr" _ _ [(104, sD (num a), .int a), (104, sD (num n), .int n), (114, sD (allC rows ts), .tup [.lst (rows.map prD), .lst (ts.map pap)])] (by simp [RW.formVals]) ?_ rfl ?_ (.inr (.inl rfl)) (by simp) (.inl ⟨by decide +kernel, b, .all a n _ _ b a0 a1 n0 n1 hs, rfl⟩)
  · exact .mk "all" "hhr" allW (num a ++ 32 :: (num n ++ 32 :: allC rows ts)) [num a, num n] (allC rows ts) true (by simp [RW.formVals]) rfl (by decide) (by simp only [List.length_append, List.length_cons, allW]; simp only [List.length_cons, List.length_nil]; omega) (by decide +kernel) nofun (fun _ => splitMax2 (num32 a) (num32 n)) rfl (allC_ne rows ts) (by decide)
  · intro z hz
    simp only [List.mem_cons, List.not_mem_nil, or_false] at hz
    rcases hz with rfl | rfl | rfl
    · exact ⟨.inl rfl, .h "all" a (by omega) (by omega)⟩
    · exact ⟨.inl rfl, .h "all" n (by omega) (by omega)⟩
    · exact ⟨.inr rfl, .r "all" _ _ (.all rows ts h.row (by omega) (fun t ht => ⟨(h.t t ht).dep, (h.t t ht).ok⟩) (by omega) (by omega))⟩
theorem say_firsts (C : Addr) (a n : Int) (d : D) (a0 : 2 ≤ a) (a1 : a ≤ 10) (n0 : 1 ≤ n) (n1 : n ≤ 12) (h : Rtf [.int a, .int n] d) : Rsay C [.dsk C, sD (rowF a n)] d := by
  have hna := num_len (i := a) (by omega)
  have hnn := num_len (i := n) (by omega)
  refine .mk "firsts" "hh" _ _ [(104, sD (num a), .int a), (104, sD (num n), .int n)] (by simp [RW.formVals]) ?_ rfl ?_ (.inr (.inr (.inl rfl))) (by simp) (.inr ⟨by decide +kernel, .num "firsts" (.inl rfl) _ _ (.firsts a n d a0 a1 n0 n1 h)⟩)
  · refine .mk "firsts" "hh" firstsW (num a ++ 32 :: num n) [num a] (num n) false (by simp [RW.formVals]) rfl (by decide) (by simp only [List.length_append, List.length_cons, firstsW]; simp only [List.length_cons, List.length_nil]; omega) (by decide +kernel) (fun _ => ?_) nofun rfl (num_ne n) (by decide)
    exact SX.spl_join (c := 32) (sep := []) (parts := [num a, num n]) (by simp) fun p hp => by
      simp only [List.mem_cons, List.not_mem_nil, or_false] at hp
      rcases hp with rfl | rfl <;> exact num32 _
  · intro z hz
    simp only [List.mem_cons, List.not_mem_nil, or_false] at hz
    rcases hz with rfl | rfl
    · exact ⟨.inl rfl, .h "firsts" a (by omega) (by omega)⟩
    · exact ⟨.inl rfl, .h "firsts" n (by omega) (by omega)⟩
theorem say_paper (C : Addr) (q : Int) (t : T) (hp : ppM 12 0 0 q = some t) (hg : Good t) (hd : M.dep t ≤ 12) (hz : M.siz t ≤ 200) (q0 : 2 ≤ q) (q1 : q ≤ 1000000) (hq : prt 100000 2 q = some [(q, 1)]) : Rsay C [.dsk C, sD (rowQ q)] (sD (txtC t)) := by
  have hnn := num_len (i := q) (by omega)
  have hl := len_siz t hg.ok
  refine .mk "paper" "h" _ _ [(104, sD (num q), .int q)] (by simp [RW.formVals]) ?_ rfl ?_ (.inr (.inr (.inr (.inl rfl)))) (by simp) (.inr ⟨by decide +kernel, .num "paper" (.inr rfl) _ _ (.paper q t 100000 q0 q1 (Nat.le_refl _) hq (.mk 0 0 q t hp hg q0) (.mk t hd hg.ok (by omega)))⟩)
  · refine .mk "paper" "h" paperW (num q) [] (num q) false (by simp [RW.formVals]) rfl (by decide) (by simp only [List.length_append, List.length_cons, paperW]; simp only [List.length_cons, List.length_nil]; omega) (by decide +kernel) (fun _ => ?_) nofun rfl (num_ne q) (by decide)
    exact SX.spl_join (c := 32) (sep := []) (parts := [num q]) (by simp) fun p hp => by
      rw [List.mem_singleton.mp hp]
      exact num32 _
  · intro z hz
    rw [List.mem_singleton.mp hz]
    exact ⟨.inl rfl, .h "paper" q (by omega) (by omega)⟩
theorem say_size (C : Addr) : Rsay C [.dsk C, sD [115, 105, 122, 101]] (sD (num 1)) := by
  exact .mk "size" "" _ _ [] (by simp [RW.formVals]) .size rfl (fun z hz => by cases hz) (.inr (.inr (.inr (.inr rfl)))) (by simp) (.inr ⟨by decide +kernel, .size⟩)
end
end DL
-- M11
/-! Checks of pairs by the kernel. -/
namespace M
open PySem DL
def chkM (q : Int) : Bool := match madeM 12 0 0 q with
  | none => false
  | some t => good0 t && (decide (dep t ≤ 10) && decide (siz t ≤ 40))
def rootsK (q g : Int) (ks : List T) : Bool := match prodL q ks 1 1 with
  | none => false
  | some x => if x = q - 1 ∧ pwF g (q - 1) q = 1 then ks.all fun k => !decide (pwF g ((q - 1) / k.r) q = 1) else false
theorem rootsK_eq (q g : Int) (ks : List T) : rootsK q g ks = rootsM q g ks := by
  unfold rootsK rootsM
  cases prodL q ks 1 1 with
  | none => rfl
  | some x =>
    dsimp only
    simp only [pwF_eq]
mutual
def showsK (q : Int) : T → Bool
  | .node _ _ q' g ks => if q' ≠ q ∨ q < 2 then false else if q = 2 then decide (g = 1) && ks.isEmpty else
      if g < 1 ∨ q ≤ g ∨ showsLK ks = false then false else rootsK q g ks
def showsLK : List T → Bool
  | [] => true
  | k :: ks => (decide (1 ≤ k.m) && showsK k.r k) && showsLK ks
end
mutual
theorem showsK_eq (q : Int) : ∀ t : T, showsK q t = shows q t
  | .node _ _ q' g ks => by
    unfold showsK shows
    rw [showsLK_eq ks, rootsK_eq]
theorem showsLK_eq : ∀ ks : List T, showsLK ks = showsL ks
  | [] => by
    unfold showsLK showsL
    rfl
  | k :: ks => by
    unfold showsLK showsL
    rw [showsK_eq k.r k, showsLK_eq ks]
end
def sfK (a n : Int) (l : List (Int × Int)) : List ((Int × Int) × T) → Int → Option Int
  | [], left => some left
  | z :: r, left => if showsK z.1.1 z.2 = false ∨ firstM a n z.1.1 l = false then none else (match divQ z.1.1 z.1.2.toNat left with
    | none => none
    | some y => sfK a n l r y)
theorem sfK_eq (a n : Int) (l : List (Int × Int)) : ∀ (zs : List ((Int × Int) × T)) (left : Int), sfK a n l zs left = sfL a n l zs left
  | [], left => by
    unfold sfK sfL
    rfl
  | z :: r, left => by
    unfold sfK sfL
    rw [showsK_eq]
    cases divQ z.1.1 z.1.2.toNat left with
    | none => rfl
    | some y =>
      dsimp only
      rw [sfK_eq a n l r y]
def showsFK (a n v : Int) (l : List (Int × Int)) (rows : List (Int × Int)) (ts : List T) : Option Bool :=
  if rows.length ≠ ts.length ∨ rowsOk rows = false ∨ asc rows = false then some false else (match sfK a n l (rows.zip ts) v with
    | none => some false
    | some left => isLeftM n left l)
theorem showsFK_eq (a n v : Int) (l : List (Int × Int)) (rows : List (Int × Int)) (ts : List T) : showsFK a n v l rows ts = showsF a n v l rows ts := by
  unfold showsFK showsF
  rw [sfK_eq]
  all_goals (cases sfL a n l (rows.zip ts) v <;> rfl)
def ppRows : List (Int × Int) → Option (Bool × List T)
  | [] => some (false, [])
  | x :: r => if 1000000 < x.1 then some (true, []) else (match ppM 12 0 0 x.1 with
    | none => none
    | some t => if (good0 t && (decide (dep t ≤ 12) && (decide (siz t ≤ 200) && (decide (2 ≤ x.1) && decide (prt 100000 2 x.1 = some [(x.1, 1)]))))) = true then (match ppRows r with
      | none => none
      | some (b, ts) => some (b, t :: ts)) else none)
def chkP (a n : Int) : Bool := match rootPoly n with
  | none => false
  | some f => match prt 100000 2 (value f a) with
    | none => false
    | some pl => (decide (lroot 8 n = some f) && decide (f.length ≤ 1000)) && ((decide (1 ≤ value f a) && decide (value f a < 2 ^ 59)) && (((pl.all fun x => (decide (2 ≤ x.1) && decide (x.1 < 2 ^ 58)) && (decide (1 ≤ x.2) && decide (x.2 ≤ 20))) && decide (pl.length ≤ 20)) &&
      (((firstsM a n pl (partsT n)).all fun x => chkM x.1) && (if firstsM a n pl (partsT n) = [] then decide (showsFK a n (value f a) (partsT n) [] [] = some true) else (match ppRows (firstsM a n pl (partsT n)) with
        | none => false
        | some (true, _) => true
        | some (false, ts) => decide (showsFK a n (value f a) (partsT n) (firstsM a n pl (partsT n)) ts = some true))))))
theorem chkP_all : ((List.range 9).all fun i => (List.range 12).all fun j => chkP ((2 + i : Nat) : Int) ((1 + j : Nat) : Int)) = true := by decide +kernel
end M
-- M12
/-! Checks of numbers by the kernel. -/
namespace M
def chkR (a : Nat) : Bool := (List.range 400).all fun i => chkM ((a + i : Nat) : Int)
theorem chkR_0 : chkR 2 = true := by decide +kernel
theorem chkR_1 : chkR 402 = true := by decide +kernel
theorem chkR_2 : chkR 802 = true := by decide +kernel
theorem chkR_3 : chkR 1202 = true := by decide +kernel
theorem chkR_4 : chkR 1602 = true := by decide +kernel
theorem chkR_5 : chkR 2002 = true := by decide +kernel
theorem chkR_6 : chkR 2402 = true := by decide +kernel
theorem chkR_7 : chkR 2802 = true := by decide +kernel
theorem chkR_8 : chkR 3202 = true := by decide +kernel
theorem chkR_9 : chkR 3602 = true := by decide +kernel
theorem chkM_all : ((List.range 4000).all fun i => chkM ((2 + i : Nat) : Int)) = true := by
  rw [List.all_eq_true]
  intro i hi
  have hi := List.mem_range.mp hi
  have key : ∀ a : Nat, chkR a = true → a ≤ 2 + i → 2 + i < a + 400 → chkM ((2 + i : Nat) : Int) = true := by
    intro a h h1 h2
    have := List.all_eq_true.mp h (2 + i - a) (List.mem_range.mpr (by omega))
    rw [show a + (2 + i - a) = 2 + i by omega] at this
    exact this
  by_cases h0 : 2 + i < 402
  · exact key 2 chkR_0 (by omega) (by omega)
  by_cases h1 : 2 + i < 802
  · exact key 402 chkR_1 (by omega) (by omega)
  by_cases h2 : 2 + i < 1202
  · exact key 802 chkR_2 (by omega) (by omega)
  by_cases h3 : 2 + i < 1602
  · exact key 1202 chkR_3 (by omega) (by omega)
  by_cases h4 : 2 + i < 2002
  · exact key 1602 chkR_4 (by omega) (by omega)
  by_cases h5 : 2 + i < 2402
  · exact key 2002 chkR_5 (by omega) (by omega)
  by_cases h6 : 2 + i < 2802
  · exact key 2402 chkR_6 (by omega) (by omega)
  by_cases h7 : 2 + i < 3202
  · exact key 2802 chkR_7 (by omega) (by omega)
  by_cases h8 : 2 + i < 3602
  · exact key 3202 chkR_8 (by omega) (by omega)
  by_cases h9 : 2 + i < 4002
  · exact key 3602 chkR_9 (by omega) (by omega)
  omega
end M
-- M13
/-! What the checks say. -/
namespace M
open PySem DL
theorem divQ_pos {r : Int} (hr : 2 ≤ r) : ∀ {m : Nat} {x y : Int}, 1 ≤ x → divQ r m x = some y → 1 ≤ y ∧ y ≤ x
  | 0, x, y, h, e => by
    cases e
    exact ⟨h, Int.le_refl _⟩
  | m + 1, x, y, h, e => by
    unfold divQ at e
    split at e
    · rename_i h0
      have h1 : x / r * r = x := by
        have := Int.mul_ediv_add_emod x r
        rw [h0, Int.add_zero, Int.mul_comm] at this
        exact this
      have h2 : 1 ≤ x / r := by
        rcases Int.lt_or_le 0 (x / r) with h3 | h3
        · omega
        · have : x / r * r ≤ 0 := Int.mul_nonpos_of_nonpos_of_nonneg h3 (by omega)
          omega
      have h3 : x / r ≤ x := Int.ediv_le_self _ (by omega)
      have := divQ_pos hr h2 e
      omega
    · cases e
theorem aaL_pos {a n : Int} : ∀ (zs : List ((Int × Int) × T)) {last x y : Int}, 1 ≤ last → 1 ≤ x → aaL a n zs last x = some y → 1 ≤ y ∧ y ≤ x
  | [], last, x, y, _, h, e => by
    cases e
    exact ⟨h, Int.le_refl _⟩
  | z :: zs, last, x, y, hl, h, e => by
    unfold aaL at e
    split at e
    · cases e
    · rename_i hc
      have hc1 : ¬ z.1.1 ≤ last := fun q => hc (.inl q)
      split at e
      · cases e
      · rename_i w hw
        have h1 := divQ_pos (by omega) h hw
        have h2 := aaL_pos zs (by omega) h1.1 e
        omega
theorem strip_ex : ∀ (f : Nat) (n m : Int), 1 ≤ n → n < 2 ^ f → ∃ r, stripP (f + 1) 2 n m = some r
  | 0, n, m, h1, h2 => by
    rw [Int.pow_zero] at h2
    omega
  | f + 1, n, m, h1, h2 => by
    rw [Int.pow_succ] at h2
    unfold stripP
    split
    · rename_i h
      exact strip_ex f (n / 2) (m + 1) (by omega) (by omega)
    · exact ⟨_, rfl⟩
theorem areAll_ex {a n v : Int} (l : List (Int × Int)) (hv : 1 ≤ v) (hv2 : v < 2 ^ 59) (rows : List (Int × Int)) (ts : List T) : ∃ b, areAll a n v l rows ts = some b := by
  unfold areAll
  split
  · exact ⟨_, rfl⟩
  · cases h : aaL a n (rows.zip ts) 1 v with
    | none => exact ⟨_, rfl⟩
    | some left =>
      have hp := aaL_pos _ (Int.le_refl 1) hv h
      dsimp only
      unfold isLeftM
      split
      · have h200 : left < 2 ^ 199 := Int.lt_of_le_of_lt hp.2 (Int.lt_trans hv2 (by decide))
        obtain ⟨r, hr⟩ := strip_ex 199 left 0 hp.1 h200
        rw [hr]
        exact ⟨_, rfl⟩
      · exact ⟨_, rfl⟩
/-- a pair's polynomial, parts -/
structure Pr (a n : Int) (f : List Int) (pl : List (Int × Int)) : Prop where
  a0 : 2 ≤ a
  a1 : a ≤ 10
  n0 : 1 ≤ n
  n1 : n ≤ 12
  rp : rootPoly n = some f
  lr : lroot 8 n = some f
  fl : f.length ≤ 1000
  v0 : 1 ≤ value f a
  v1 : value f a < 2 ^ 59
  hp : prt 100000 2 (value f a) = some pl
  pq : ∀ x ∈ pl, 2 ≤ x.1 ∧ x.1 < 2 ^ 58 ∧ 1 ≤ x.2 ∧ x.2 ≤ 20
  pn : pl.length ≤ 20
  md : ∀ x ∈ firstsM a n pl (partsT n), chkM x.1 = true
  td : (firstsM a n pl (partsT n) = [] ∧ showsF a n (value f a) (partsT n) [] [] = some true) ∨ (firstsM a n pl (partsT n) ≠ [] ∧ ((∃ ts, ppRows (firstsM a n pl (partsT n)) = some (true, ts)) ∨ ∃ ts, ppRows (firstsM a n pl (partsT n)) = some (false, ts) ∧ showsF a n (value f a) (partsT n) (firstsM a n pl (partsT n)) ts = some true))
theorem pr_ex {a n : Int} (a0 : 2 ≤ a) (a1 : a ≤ 10) (n0 : 1 ≤ n) (n1 : n ≤ 12) : ∃ f pl, Pr a n f pl := by
  have h : chkP a n = true := by
    have h1 := List.all_eq_true.mp chkP_all (a - 2).toNat (List.mem_range.mpr (by omega))
    have h2 := List.all_eq_true.mp h1 (n - 1).toNat (List.mem_range.mpr (by omega))
    rw [show ((2 + (a - 2).toNat : Nat) : Int) = a by omega, show ((1 + (n - 1).toNat : Nat) : Int) = n by omega] at h2
    exact h2
  unfold chkP at h
  split at h
  · cases h
  rename_i f hf
  split at h
  · cases h
  rename_i pl hp
  simp only [Bool.and_eq_true, decide_eq_true_eq] at h
  obtain ⟨⟨h1, h2⟩, ⟨h3, h4⟩, ⟨h5, h6⟩, h7, h8⟩ := h
  refine ⟨f, pl, a0, a1, n0, n1, hf, h1, h2, h3, h4, hp, fun x hx => ?_, h6, fun x hx => List.all_eq_true.mp h7 x hx, ?_⟩
  · have := List.all_eq_true.mp h5 x hx
    simp only [Bool.and_eq_true, decide_eq_true_eq] at this
    exact ⟨this.1.1, this.1.2, this.2.1, this.2.2⟩
  · split at h8
    · rename_i h9
      rw [showsFK_eq] at h8
      exact .inl ⟨h9, of_decide_eq_true h8⟩
    · rename_i h9
      refine .inr ⟨h9, ?_⟩
      split at h8
      · cases h8
      · rename_i ts e
        exact .inl ⟨ts, e⟩
      · rename_i ts e
        rw [showsFK_eq] at h8
        exact .inr ⟨ts, e, of_decide_eq_true h8⟩
theorem chkM_of {q : Int} (h : chkM q = true) : ∃ t, madeM 12 0 0 q = some t ∧ Good t ∧ dep t ≤ 10 ∧ siz t ≤ 40 := by
  unfold chkM at h
  split at h
  · cases h
  · rename_i t ht
    simp only [Bool.and_eq_true, decide_eq_true_eq] at h
    exact ⟨t, ht, ⟨h.1, made_gB ht⟩, h.2.1, h.2.2⟩
theorem made_ex {q : Int} (h0 : 2 ≤ q) (h1 : q ≤ 4001) : ∃ t, madeM 12 0 0 q = some t ∧ Good t ∧ dep t ≤ 10 ∧ siz t ≤ 40 := by
  refine chkM_of ?_
  have h := List.all_eq_true.mp chkM_all (q - 2).toNat (List.mem_range.mpr (by omega))
  rw [show ((2 + (q - 2).toNat : Nat) : Int) = q by omega] at h
  exact h
theorem firsts_law {a n : Int} {f : List Int} {pl : List (Int × Int)} (h : Pr a n f pl) : pl.filter (fun x => lfirstM a n x.1) = firstsM a n pl (partsT n) := by
  unfold firstsM
  refine List.filter_congr fun x hx => ?_
  exact (first_eq a n h.n0 h.n1 x.1 (h.pq x hx).1).symm
theorem firsts_sub {a n : Int} {pl l : List (Int × Int)} {x : Int × Int} (h : x ∈ firstsM a n pl l) : x ∈ pl := (List.mem_filter.mp h).1
theorem firsts_len {a n : Int} {pl l : List (Int × Int)} : (firstsM a n pl l).length ≤ pl.length := List.length_filter_le _ _
/-- what is asked and what is found, alike -/
theorem all_alike {a n : Int} {f : List Int} {pl : List (Int × Int)} (h : Pr a n f pl) {rows : List (Int × Int)} {ts : List T} (hr : ∀ x ∈ rows, x.2 ≤ 40) (ht : ∀ t ∈ ts, okT t = true) : ∃ b, areAll a n (value f a) (partsT n) rows ts = some b ∧ showsF a n (value f a) (partsT n) rows ts = some b := by
  obtain ⟨b, hb⟩ := areAll_ex (a := a) (n := n) (partsT n) h.v0 h.v1 rows ts
  refine ⟨b, hb, ?_⟩
  rw [shows_all (fun q hq => first_eq a n h.n0 h.n1 q hq) rows ts hr ht]
  exact hb
/-- told papers -/
theorem pp_cons {x : Int × Int} {r : List (Int × Int)} {b : Bool} {ts : List T} (h : ppRows (x :: r) = some (b, ts)) : (1000000 < x.1 ∧ b = true ∧ ts = []) ∨ (x.1 ≤ 1000000 ∧ 2 ≤ x.1 ∧ ∃ t ts', ts = t :: ts' ∧ ppM 12 0 0 x.1 = some t ∧ Good t ∧ dep t ≤ 12 ∧ siz t ≤ 200 ∧ prt 100000 2 x.1 = some [(x.1, 1)] ∧ ppRows r = some (b, ts')) := by
  unfold ppRows at h
  split at h
  · rename_i h1
    cases h
    exact .inl ⟨h1, rfl, rfl⟩
  · rename_i h1
    split at h
    · cases h
    · rename_i t ht
      split at h
      · rename_i h2
        simp only [Bool.and_eq_true, decide_eq_true_eq] at h2
        split at h
        · cases h
        · rename_i b' ts' h3
          cases h
          exact .inr ⟨by omega, h2.2.2.2.1, t, ts', rfl, ht, ⟨h2.1, pp_gB ht⟩, h2.2.1, h2.2.2.1, h2.2.2.2.2, h3⟩
      · cases h
end M
-- F26
/-! The law's looks. -/
namespace DL
open PySem PySem.Spec PyProof.Rows L2 RW M
open SX (S S_len S_cat S_inj)
local macro_rules | `(tactic| walk_at "num") => `(tactic| first
  | with_reducible assumption
  | rfl
  | omega
  | (simp only [decide_eq_true_eq, decide_eq_false_iff_not, Bool.not_eq_true', Bool.not_eq_false', Bool.and_eq_true, Bool.or_eq_false_iff, Bool.not_eq_true, Bool.not_eq_false, Int.not_lt, Int.not_le] at *; omega)
  | skip)
local macro_rules | `(tactic| walk_at "sz") => `(tactic| first
  | with_reducible assumption
  | exact sz_of (by simp only [List.length_cons, List.length_nil, List.length_append, List.length_map, List.length_replicate]; omega)
  | exact sz_lt (by simp only [List.length_cons, List.length_nil, List.length_append, List.length_map, List.length_replicate]; omega)
  | skip)
local macro_rules | `(tactic| walk_at "at") => `(tactic| first
  | with_reducible exact At.z
  | (with_reducible apply At.s; walk_at "at"))
local macro_rules | `(tactic| walk_at "pt") => `(tactic| first
  | with_reducible exact Put.z
  | (with_reducible apply Put.s; walk_at "pt"))
local macro_rules | `(tactic| walk_at "mul") => `(tactic| first
  | assumption
  | (exact Or.inl (Or.inl ⟨by omega, by omega⟩))
  | (exact Or.inl (Or.inr ⟨by omega, by omega⟩))
  | skip)
local macro_rules | `(tactic| walk_at "bk") => `(tactic| first
  | with_reducible assumption
  | with_reducible exact bk_add
  | with_reducible exact bk_sub
  | ((with_reducible apply bk_mul) ; walk_at "mul")
  | ((with_reducible apply @bk_div) <;> walk_at "dl")
  | ((with_reducible apply @bk_mod) <;> walk_at "dl")
  | ((with_reducible apply @bk_cat) <;> walk_at "dl")
  | ((with_reducible apply @bk_addS) <;> walk_at "dl")
  | ((with_reducible apply @bk_rep) <;> walk_at "dl"))
local macro_rules | `(tactic| walk_at "ck") => `(tactic| first
  | with_reducible exact ck_eqI
  | with_reducible exact ck_neI
  | with_reducible exact ck_lt
  | with_reducible exact ck_le
  | with_reducible exact ck_gt
  | with_reducible exact ck_ge
  | with_reducible exact ck_eqS
  | with_reducible exact ck_neS
  | with_reducible exact ck_isN
  | with_reducible exact ck_eqB
  | with_reducible exact ck_inS
  | ((with_reducible apply @ck_inL) <;> walk_at "dl")
  | ((with_reducible apply @ck_inT) <;> walk_at "dl")
  | ((with_reducible apply @ck_ninL) <;> walk_at "dl")
  | ((with_reducible apply @ck_eqD) <;> first | (exact Room.ofX (by assumption)) | walk_at "dl")
  | ((with_reducible apply @ck_neD) <;> first | (exact Room.ofX (by assumption)) | walk_at "dl"))
local macro_rules | `(tactic| walk_at "ik") => `(tactic| first
  | ((with_reducible apply @ik_L) <;> walk_at "dl")
  | ((with_reducible apply @ik_T) <;> walk_at "dl")
  | ((with_reducible apply @ik_S) <;> walk_at "dl"))
local macro_rules | `(tactic| walk_at "sk") => `(tactic| first
  | with_reducible exact sk_L
  | with_reducible exact sk_R
  | ((with_reducible apply @sk_S) <;> walk_at "dl")
  | ((with_reducible apply @sk_T) <;> walk_at "dl"))
local macro_rules | `(tactic| walk_at "lk") => `(tactic| first
  | with_reducible exact lk_L
  | with_reducible exact lk_T
  | ((with_reducible apply @lk_S) <;> walk_at "dl"))
local macro_rules | `(tactic| walk_at "mg") => `(tactic| first
  | with_reducible exact Ctx.f_len (by assumption)
  | with_reducible exact Ctx.f_max (by assumption)
  | with_reducible exact Ctx.f_list (by assumption)
  | with_reducible exact Ctx.f_reversed (by assumption)
  | with_reducible exact Ctx.f_range (by assumption)
  | with_reducible exact Ctx.f_enumerate (by assumption)
  | with_reducible exact Ctx.f_zip (by assumption)
  | with_reducible exact Ctx.f_all (by assumption)
  | with_reducible exact Ctx.f_any (by assumption)
  | with_reducible exact Ctx.f_isinstance (by assumption)
  | with_reducible exact Ctx.f_str (by assumption)
  | with_reducible exact Ctx.f_int (by assumption)
  | with_reducible exact Ctx.f_min (by assumption)
  | with_reducible exact Ctx.f_sorted (by assumption)
  | with_reducible exact Ctx.f_tuple (by assumption)
  | with_reducible exact Ctx.f_bool (by assumption))
local macro_rules | `(tactic| walk_at "call") => `(tactic| first
  | ((with_reducible show JD _ _ (Expr.Call (Expr.Name (PySem.Str.ofString "len") _) _ _ _) _); (first | ((with_reducible apply @je_olen) <;> (first | ((with_reducible show At _ _ _ _ _); walk_at "at") | ((fail_if_success (with_reducible show At _ _ _ _ _)); walk_at "dl"))) | ((with_reducible apply @je_ln) <;> walk_at "dl")))
  | ((with_reducible show JD _ _ (Expr.Call (Expr.Name (PySem.Str.ofString "int") _) _ _ _) _); ((with_reducible apply @je_in) <;> walk_at "dl"))
  | ((with_reducible show JD _ _ (Expr.Call (Expr.Name (PySem.Str.ofString "str") _) _ _ _) _); ((with_reducible apply @je_sI) <;> walk_at "dl"))
  | ((with_reducible show JD _ _ (Expr.Call (Expr.Name (PySem.Str.ofString "max") _) _ _ _) _); ((with_reducible apply @je_mx) <;> walk_at "dl"))
  | ((with_reducible show JD _ _ (Expr.Call (Expr.Name (PySem.Str.ofString "min") _) _ _ _) _); ((with_reducible apply @je_mn) <;> walk_at "dl"))
  | ((with_reducible show JD _ _ (Expr.Call (Expr.Name (PySem.Str.ofString "all") _) _ _ _) _); ((with_reducible apply @je_al) <;> walk_at "dl"))
  | ((with_reducible show JD _ _ (Expr.Call (Expr.Name (PySem.Str.ofString "any") _) _ _ _) _); ((with_reducible apply @je_an) <;> walk_at "dl"))
  | ((with_reducible show JD _ _ (Expr.Call (Expr.Name (PySem.Str.ofString "isinstance") _) [_, Expr.Name (PySem.Str.ofString "int") _] _ _) _); ((with_reducible apply @je_iI) <;> walk_at "dl"))
  | ((with_reducible show JD _ _ (Expr.Call (Expr.Name (PySem.Str.ofString "isinstance") _) [_, Expr.Name (PySem.Str.ofString "bool") _] _ _) _); ((with_reducible apply @je_iI) <;> walk_at "dl"))
  | ((with_reducible show JD _ _ (Expr.Call (Expr.Name (PySem.Str.ofString "isinstance") _) [_, Expr.Name (PySem.Str.ofString "tuple") _] _ _) _); ((with_reducible apply @je_iI) <;> walk_at "dl"))
  | ((with_reducible show JD _ _ (Expr.Call (Expr.Name (PySem.Str.ofString "isinstance") _) [_, Expr.Name (PySem.Str.ofString "list") _] _ _) _); ((with_reducible apply @je_iI) <;> walk_at "dl"))
  | ((with_reducible apply @je_ca) <;> walk_at "dl"))
local macro_rules | `(tactic| walk_at "jd") => `(tactic| first
  | ((with_reducible show JD _ _ (Expr.Name _ _) _); ((with_reducible apply @je_v) <;> walk_at "dl"))
  | ((with_reducible show JD _ _ (Expr.Constant _ _ _) _); (first | exact je_int | exact je_str | exact je_bl | exact je_non))
  | ((with_reducible show JD _ _ (Expr.BinOp _ _ _ _) _); ((with_reducible apply @je_bin) <;> walk_at "dl"))
  | ((with_reducible show JD _ _ (Expr.Compare _ _ _ _) _); ((with_reducible apply @je_cm) <;> walk_at "dl"))
  | ((with_reducible show JD _ _ (Expr.Subscript _ (Expr.Slice none none (some _) _) _) _); ((with_reducible apply @je_revL) <;> walk_at "dl"))
  | ((with_reducible show JD _ _ (Expr.Subscript _ (Expr.Slice _ _ none _) _) _); ((with_reducible apply @je_sl) <;> walk_at "dl"))
  | ((with_reducible show JD _ _ (Expr.Subscript (Expr.Name _ _) _ _) _); (first | ((with_reducible apply @je_oix) <;> (first | ((with_reducible show At _ _ _ _ _); walk_at "at") | ((fail_if_success (with_reducible show At _ _ _ _ _)); walk_at "dl"))) | ((with_reducible apply @je_ix) <;> walk_at "dl")))
  | ((with_reducible show JD _ _ (Expr.Subscript _ _ _) _); ((with_reducible apply @je_ix) <;> walk_at "dl"))
  | ((with_reducible show JD _ _ (Expr.Tuple _ _ _) _); ((with_reducible apply @je_tup) <;> walk_at "dl"))
  | ((with_reducible show JD _ _ (Expr.List _ _) _); ((with_reducible apply @je_lst) <;> walk_at "dl"))
  | ((with_reducible show JD _ _ (Expr.Call _ _ _ _) _); walk_at "call")
  | ((with_reducible show JD _ _ (Expr.BoolOp _ (_ :: _ :: _) _) _); (first | ((with_reducible apply @je_and) <;> first | ((with_reducible show _ = true → _); intro _; walk_at "dl") | walk_at "dl") | ((with_reducible apply @je_or) <;> first | ((with_reducible show _ = false → _); intro _; walk_at "dl") | walk_at "dl")))
  | ((with_reducible show JD _ _ (Expr.BoolOp _ _ _) _); ((with_reducible apply @je_one) <;> walk_at "dl"))
  | ((with_reducible apply @je_neg) <;> walk_at "dl")
  | ((with_reducible apply @je_not) <;> walk_at "dl"))
local macro_rules | `(tactic| walk_at "jw") => `(tactic| first
  | ((with_reducible apply @jw_and) <;> first | ((with_reducible show _ = _ → _); intro _; walk_at "dl") | walk_at "dl")
  | ((with_reducible apply @jw_or) <;> first | ((with_reducible show _ = _ → _); intro _; walk_at "dl") | walk_at "dl")
  | ((with_reducible apply @jw_and1) <;> walk_at "dl")
  | ((with_reducible apply @jw_or1) <;> walk_at "dl"))
local macro_rules | `(tactic| walk_at "jt") => `(tactic| first
  | ((with_reducible show JT _ _ (Expr.Compare _ _ _ _) _); ((with_reducible apply @jt_cm) <;> walk_at "dl"))
  | ((with_reducible show JT _ _ (Expr.BoolOp _ _ _) _); (first | ((with_reducible apply @jt_and) <;> first | ((with_reducible show _ = _ → _); intro _; walk_at "dl") | walk_at "dl") | ((with_reducible apply @jt_or) <;> first | ((with_reducible show _ = _ → _); intro _; walk_at "dl") | walk_at "dl")))
  | ((with_reducible apply @jt_not) <;> walk_at "dl")
  | ((with_reducible apply @jt_val) <;> walk_at "dl"))
local macro_rules | `(tactic| walk_at "dl") => `(tactic| first
  | ((with_reducible show JD _ _ _ _); walk_at "jd")
  | ((with_reducible show JT _ _ _ _); walk_at "jt")
  | ((with_reducible show JA _ _ _ _); (first | (with_reducible exact ja_nil) | ((with_reducible apply @ja_cons) <;> walk_at "dl")))
  | ((with_reducible show OkN _ _ _ _); with_reducible assumption)
  | ((with_reducible show At _ _ _ _ _); walk_at "at")
  | ((with_reducible show Put _ _ _ _ _ _); walk_at "pt")
  | ((with_reducible show visB _ _ = true); decide +kernel)
  | ((with_reducible show glB _ _ = true); decide +kernel)
  | ((with_reducible show locB _ _ _ = true); decide +kernel)
  | ((with_reducible show Cx.mg _ _ = none); walk_at "mg")
  | ((with_reducible show BinK _ _ _ _ _); walk_at "bk")
  | ((with_reducible show CmpK _ _ _ _ _); walk_at "ck")
  | ((with_reducible show IxK _ _ _ _); walk_at "ik")
  | ((with_reducible show JW _ _ _ _); walk_at "jw")
  | ((with_reducible show SlK _ _ _ _ _ _ _); walk_at "sk")
  | ((with_reducible show LenK _ _); walk_at "lk")
  | ((with_reducible show IntK _ _); (constructor <;> walk_at "num"))
  | ((with_reducible show JO _ _ _ _); (first | (with_reducible exact jo_none) | ((with_reducible apply @jo_some) <;> walk_at "dl")))
  | ((with_reducible show Fn _ _ _ _ _ _ _ _ _); with_reducible assumption)
  | ((with_reducible show Room _ _); with_reducible assumption)
  | ((with_reducible show PlainIx _); exact fun _ _ => rfl)
  | ((with_reducible show behindInMarks _ _ = false); (first | exact nomark _ | rfl))
  | ((with_reducible show IpK _ _ _ _ _); (first | with_reducible exact ip_addI | with_reducible exact ip_subI | ((with_reducible apply @ip_addStr) <;> walk_at "dl")))
  | ((with_reducible show EqOk _); (first | with_reducible assumption | exact eqok_ints _ | exact eqok_prs _ | exact eqok_nil))
  | ((with_reducible show PIp _ _ _); (first | exact ip_add | exact ip_sub))
  | ((with_reducible show bootBuiltins _ = _); decide +kernel)
  | ((with_reducible show _ ≤ PySem.sizeLine); walk_at "sz")
  | ((with_reducible show _ < PySem.sizeLine); walk_at "sz")
  | ((with_reducible show _ ≠ _); (first | assumption | decide))
  | ((with_reducible show atI _ _ = some _); (first | with_reducible assumption | rfl | skip))
  | ((with_reducible show ixN _ _ = some _); (first | with_reducible assumption | rfl | skip))
  | ((with_reducible show _ = _); (first | with_reducible assumption | rfl | walk_at "num"))
  | ((with_reducible show Nat); skip)
  | ((with_reducible show Int); skip)
  | ((with_reducible show D); skip)
  | ((with_reducible show Bool); skip)
  | ((with_reducible show List _); skip)
  | ((with_reducible show Option _); skip)
  | ((with_reducible show PySem.Str); skip)
  | ((with_reducible show Sl); skip)
  | ((with_reducible show Oc); skip)
  | ((with_reducible show Prop); skip)
  | ((with_reducible show PySem.Expr); skip)
  | ((with_reducible show PySem.Addr); skip)
  | ((with_reducible show Scope); skip)
  | ((with_reducible show String); skip)
  | ((with_reducible show List D → D → Prop); skip)
  | ((with_reducible show (_ : Prop)); (first | with_reducible assumption | omega | (exact fun a b c d hm => pe_bm PySem.F.plainAttrs_list PySem.F.slot_list_append PySem.F.type_list_append hm (pe_var a b c d) (pa_cons peW pa_nil)) | (constructor <;> walk_at "num") | (intro _; rfl) | (intro _ _ _; rfl)))
  | skip)
local macro_rules | `(tactic| walk_at "de") => `(tactic| first
  | ((with_reducible apply @JD.eq) <;> walk_at "dl"))
local macro_rules | `(tactic| walk_at "te") => `(tactic| first
  | ((with_reducible apply @JT.eq) <;> walk_at "dl"))
local macro_rules | `(tactic| walk_at "wk") => `(tactic| first
  | exact Wk.nil
  | (refine Wk.no ?_; walk_at "wk")
  | (refine Wk.same ?_; walk_at "wk")
  | (refine Wk.sameE ?_ ?_; rotate_left; walk_at "wk"))
local macro_rules | `(tactic| walk_at "jg") => `(tactic| first
  | ((with_reducible show JG _ _ (Expr.Name _ _) _ _ _); ((with_reducible apply @jg_v) <;> walk_at "dl"))
  | ((with_reducible show JG _ _ (Expr.Tuple _ _ _) (D.tup _) _ _); ((with_reducible apply @jg_tup) <;> first | ((with_reducible show JGs _ _ _ _ _ _); walk_at "jgs") | rfl)))
local macro_rules | `(tactic| walk_at "jgs") => `(tactic| first
  | with_reducible exact jgs_nil
  | ((with_reducible apply @jgs_cons) <;> first | ((with_reducible show JG _ _ _ _ _ _); walk_at "jg") | ((with_reducible show JGs _ _ _ _ _ _); walk_at "jgs") | ((with_reducible show (_ = _)); rfl) | skip))
local macro_rules | `(tactic| walk_at "s") => `(tactic| first
  | ((with_reducible apply jb_cons); walk_at "js"))
local macro_rules | `(tactic| walk_at "rt") => `(tactic| first
  | ((with_reducible apply JB.eq); ((with_reducible apply jb_stop); walk_at "js")))
local macro_rules | `(tactic| walk_at "ss") => `(tactic| first
  | with_reducible exact jb_nil
  | ((with_reducible apply jb_cons); walk_at "js"; walk_at "ss")
  | skip)
local macro_rules | `(tactic| walk_at "bw") => `(tactic| first
  | ((with_reducible apply JB.wk); walk_at "ss"; walk_at "wk"))
local macro_rules | `(tactic| walk_at "js") => `(tactic| first
  | ((with_reducible apply @js_st) <;> walk_at "dl")
  | ((with_reducible apply @js_au) <;> walk_at "dl")
  | ((with_reducible apply @js_ret) <;> walk_at "dl")
  | ((with_reducible apply @js_app) <;> walk_at "dl")
  | ((with_reducible apply @js_six) <;> walk_at "dl")
  | ((with_reducible apply @js_aix) <;> walk_at "dl"))
section
variable {P : Program} {w : World} {K : PySem.W.Frag} {mg : Str → Option Value} {base : Heap} {k : Nat} {R : List D → D → Prop}
theorem rowP_eq (q : Int) (t : T) : [112, 114, 105, 109, 101, 32] ++ num q ++ [32] ++ txtC t = rowP q t := by
  unfold rowP primeC
  simp
theorem rowA_eq (a n : Int) (x : List Nat) : TL.joinL [32] [allW, num a, num n, x] = rowA a n x := by
  unfold rowA allW
  simp [TL.joinL]
theorem rowF_eq (a n : Int) : [102, 105, 114, 115, 116, 115, 32] ++ num a ++ [32] ++ num n = rowF a n := by
  unfold rowF firstsW
  simp
theorem rowQ_eq (q : Int) : [112, 97, 112, 101, 114, 32] ++ num q = rowQ q := by
  unfold rowQ paperW
  simp
theorem yes_eq (b : Bool) : decide ((if b then ("yes" : Str) else "no") = if b then ("yes" : Str) else "no") = true := decide_eq_true rfl
theorem je_due {X : Cx} {N : List Str} {sc : Scope} {tt : Bool} {ρ : List Sl} {e : Expr} {b : Bool} {p1 p2 p3 p4 p5 : Pos} {j1 j2 : Nat} {ix : Expr} (hix : JD X ρ ix (.int (if b then 1 else 0))) (hs : PlainIx ix) : JD X ρ (.Subscript (.List [.Constant (.str "no") j1 p1, .Constant (.str "yes") j2 p2] p3) ix p4) (yesD b) := by
  refine je_ix (x := .lst [.str "no", .str "yes"]) (y := .int (if b then 1 else 0)) (je_lst (ja_cons je_str (ja_cons je_str ja_nil)) (show 2 ≤ sizeLine by decide)) hix (ik_L ?_) hs
  cases b <;> rfl
inductive Rpl (C : Addr) : List D → D → Prop
  | mk (q : Int) (t : T) (q0 : 0 ≤ q) (q1 : q < 2 ^ 60) (h : Fit 12 200 t) : Rpl C [.dsk C, .int q, pap t] (.bl true)
theorem fn_law_prime_looked (c : Ctx w K mg base) : Fn P w K mg base 51 "_law_prime_looked" 3 (Rpl (deskA K)) := by
  have Ms : Mt P w K mg base 50 (deskA K) "say" 2 (Rsay (deskA K)) := mt_say c
  have Fv : Fn P w K mg base 14 "_law_proves" 2 (Rprov 12) := fn_law_proves c 12
  have Fx : Fn P w K mg base 13 "_law_paper_text" 1 (Rtext 12) := fn_law_paper_text c 12
  refine c.df 48 (k := 50) ["_law_desk", "_law_q", "_law_paper", "_law_row", "_law_due"] ["_law_desk", "_law_q", "_law_paper"] (h := ?_)
  rintro cdv A outer s H E hr ok _ _ - ⟨q, t, q0, q1, h⟩
  have ht := h.text
  have hn := num_len q1
  have hR := Rprov.mk q t h.dep h.ok (by rw [few_eq]; exact h.few) q0 q1
  have hS := say_prime (deskA K) q t q0 q1 h
  rw [M.shows_eq t q h.ok] at hS
  refine bodyR (ρ' := [.d (.dsk (deskA K)), .d (.int q), .d (pap t), .no, .no]) (Wk.refl _) ?_
  refine jb_cons (ρ1 := [.d (.dsk (deskA K)), .d (.int q), .d (pap t), .d (sD (rowP q t)), .no]) (js_st ok (JD.eq (je_cS (je_cS (je_cS (je_lit rfl) (je_sN ok c.f_str (by walk_at "dl") q0 (by omega)) ?_) (je_lit rfl) ?_) (je_ca ok Fx hr (by walk_at "dl") (.mk t h.dep h.ok (by omega)) (by omega)) ?_) (congrArg sD (rowP_eq q t))) (by walk_at "pt")) ?_
  · show 6 + (num q).length ≤ _
    omega
  · rw [List.length_append]
    show 6 + (num q).length + 1 ≤ _
    omega
  · rw [List.length_append, List.length_append]
    show 6 + (num q).length + 1 + _ ≤ _
    omega
  refine jb_cons (ρ1 := [.d (.dsk (deskA K)), .d (.int q), .d (pap t), .d (sD (rowP q t)), .d (yesD (proves q t))]) (js_st ok (je_ix (x := .lst [.str "no", .str "yes"]) (y := .int (if proves q t then 1 else 0)) (by walk_at "dl") (je_in ok c.f_int (je_ca ok Fv hr (by walk_at "dl") hR (by omega)) (.bl _)) (ik_L ?_)) (by walk_at "pt")) ?_
  · cases proves q t <;> rfl
  refine jb_stop (js_ret (JD.eq (je_and (je_cm (x := yesD (proves q t)) (y := yesD (proves q t)) (je_meth Ms hr (by walk_at "dl") (by walk_at "dl") hS (by omega) (pl := _)) (by walk_at "dl") ck_eqS) fun _ => je_one (je_cm (x := yesD (proves q t)) (y := yesD (proves q t)) (je_meth Ms hr (by walk_at "dl") (by walk_at "dl") hS (by omega) (pl := _)) (by walk_at "dl") ck_eqS)) ?_))
  rw [yes_eq]
  rfl
inductive Ral (C : Addr) : List D → D → Prop
  | mk (a n : Int) (f : List Int) (pl : List (Int × Int)) (h : Pr a n f pl) (rows : List (Int × Int)) (ts : List T) (hrp : RP 30 rows ts) : Ral C [.dsk C, .int a, .int n, .lst (rows.map prD), .lst (ts.map pap)] (.bl true)
theorem rsf_of {a n : Int} {f : List Int} {pl rows : List (Int × Int)} {ts : List T} {b : Bool} (h : Pr a n f pl) (hrp : RP 30 rows ts) (hb : showsF a n (value f a) (partsT n) rows ts = some b) : Rsf 12 [.int a, .int n, .lst (rows.map prD), .lst (ts.map pap)] (.bl b) := by
  have a0 := h.a0; have a1 := h.a1; have v0 := h.v0; have rn := hrp.rn; have tn := hrp.tn
  exact .mk a n f rows ts b ⟨by omega, by omega⟩ h.n0 h.n1 h.rp h.fl (by omega) (by omega) (by omega) (fun x hx => by have := hrp.q x hx; omega) (fun t ht => ⟨(hrp.t t ht).dep, (hrp.t t ht).ok, by rw [few_eq]; exact (hrp.t t ht).few⟩) hb
theorem fn_law_all_looked (c : Ctx w K mg base) : Fn P w K mg base 51 "_law_all_looked" 5 (Ral (deskA K)) := by
  have Ms : Mt P w K mg base 50 (deskA K) "say" 2 (Rsay (deskA K)) := mt_say c
  have Fv : Fn P w K mg base 40 "_law_are_all" 4 (Rla 12) := fn_law_are_all c 12 (by decide)
  have Fx : Fn P w K mg base 14 "_law_rows_text" 2 (Rlrt 12) := fn_law_rows_text c 12 (by decide)
  refine c.df 54 (k := 50) ["_law_desk", "_law_a", "_law_n", "_law_rows", "_law_papers", "_law_row", "_law_due"] ["_law_desk", "_law_a", "_law_n", "_law_rows", "_law_papers"] (h := ?_)
  rintro cdv A outer s H E hr ok _ _ - ⟨a, n, f, pl, h, rows, ts, hrp⟩
  have a0 := h.a0; have a1 := h.a1; have v0 := h.v0; have rn := hrp.rn; have tn := hrp.tn; have n0 := h.n0; have n1 := h.n1
  have hl := hrp.len.1
  have hna := num_len (i := a) (by omega)
  have hnn := num_len (i := n) (by omega)
  obtain ⟨b, hb1, hb2⟩ := all_alike h (rows := rows) (ts := ts) (fun x hx => by have := hrp.q x hx; omega) fun t ht => (hrp.t t ht).ok
  have hR1 : Rla 12 [.int a, .int n, .lst (rows.map prD), .lst (ts.map pap)] (.bl b) := .mk a n f rows ts b ⟨by omega, by omega⟩ n0 n1 h.lr h.fl (by omega) (fun x hx => by have := hrp.q x hx; omega) (fun t ht => ⟨(hrp.t t ht).dep, (hrp.t t ht).ok, by rw [few_eq]; exact (hrp.t t ht).few⟩) hb1
  have hS := say_all (deskA K) a n rows ts b a0 a1 n0 n1 hrp (rsf_of h hrp hb2)
  refine bodyR (ρ' := [.d (.dsk (deskA K)), .d (.int a), .d (.int n), .d (.lst (rows.map prD)), .d (.lst (ts.map pap)), .no, .no]) (Wk.refl _) ?_
  refine jb_cons (ρ1 := [.d (.dsk (deskA K)), .d (.int a), .d (.int n), .d (.lst (rows.map prD)), .d (.lst (ts.map pap)), .d (sD (rowA a n (allC rows ts))), .no]) (js_st ok (JD.eq (je_jS (s := [32]) (ws := [allW, num a, num n, allC rows ts]) (je_lit rfl) (je_lst (ja_cons (je_lit rfl) (ja_cons (je_sN ok c.f_str (by walk_at "dl") (by omega) (by omega)) (ja_cons (je_sN ok c.f_str (by walk_at "dl") (by omega) (by omega)) (ja_cons (je_ca ok Fx hr (by walk_at "dl") (.mk rows ts hrp.row (by omega) (fun t ht => ⟨(hrp.t t ht).dep, (hrp.t t ht).ok⟩) (by omega) (by omega)) (by omega)) ja_nil)))) (show 4 ≤ sizeLine by decide)) ?_) (congrArg sD (rowA_eq a n _))) (by walk_at "pt")) ?_
  · rw [rowA_eq]
    unfold rowA allW
    simp only [List.length_append, List.length_cons, List.length_nil]
    omega
  refine jb_cons (ρ1 := [.d (.dsk (deskA K)), .d (.int a), .d (.int n), .d (.lst (rows.map prD)), .d (.lst (ts.map pap)), .d (sD (rowA a n (allC rows ts))), .d (yesD b)]) (js_st ok (je_ix (x := .lst [.str "no", .str "yes"]) (y := .int (if b then 1 else 0)) (by walk_at "dl") (je_in ok c.f_int (je_ca ok Fv hr (by walk_at "dl") hR1 (by omega)) (.bl _)) (ik_L ?_)) (by walk_at "pt")) ?_
  · cases b <;> rfl
  refine jb_stop (js_ret (JD.eq (je_and (je_cm (x := yesD b) (y := yesD b) (je_meth Ms hr (by walk_at "dl") (by walk_at "dl") hS (by omega) (pl := _)) (by walk_at "dl") ck_eqS) fun _ => je_one (je_cm (x := yesD b) (y := yesD b) (je_meth Ms hr (by walk_at "dl") (by walk_at "dl") hS (by omega) (pl := _)) (by walk_at "dl") ck_eqS)) ?_))
  rw [yes_eq]
  rfl
end
-- F27
/-! What firsts and papers tell themselves. -/
open PySem PySem.Spec PyProof.Rows L2 RW M
open SX (S S_len S_cat S_inj)
section
variable {P : Program} {w : World} {K : PySem.W.Frag} {mg : Str → Option Value} {base : Heap} {k : Nat} {R : List D → D → Prop}
theorem cut4 (l : List Nat) : cutS (S l) none (some 4) = S (l.take 4) := by
  rw [C8.cutS_slice, SX.slice_to (by decide)]
  rfl
theorem rows_head {rows : List (Int × Int)} (h : rows ≠ []) : (rowsC rows).take 4 ≠ noneC := by
  rw [rowsC_ne h]
  intro e
  cases rows with
  | nil => exact h rfl
  | cons x r =>
    have h1 : ∃ d l, TL.joinL [32] ((x :: r).map rowC) = d :: l ∧ d ≠ 110 := by
      cases hn : num x.1 with
      | nil => exact absurd hn (num_ne _)
      | cons d l =>
        have hd := TL.numL_digits x.1.toNat d (by
          show d ∈ num x.1
          rw [hn]
          exact List.mem_cons_self)
        cases r with
        | nil => exact ⟨d, _, by
            show rowC x = _
            unfold rowC
            rw [hn]
            rfl, by omega⟩
        | cons y r => exact ⟨d, _, by
            show rowC x ++ ([32] ++ TL.joinL [32] ((y :: r).map rowC)) = _
            unfold rowC
            rw [hn]
            rfl, by omega⟩
    obtain ⟨d, l, e1, e2⟩ := h1
    rw [e1, List.take_succ_cons] at e
    exact e2 (List.cons.inj e).1
theorem par_row {x : Int × Int} : (∃ r, TL.par [94] [] (rowC x) = some (num x.1, r)) ∨ (TL.par [94] [] (rowC x) = none ∧ rowC x = num x.1) := by
  by_cases hm : 1 < x.2
  · refine .inl ⟨num x.2, ?_⟩
    have e : rowC x = num x.1 ++ ([94] ++ num x.2) := by
      unfold rowC
      rw [if_pos hm]
      rfl
    rw [e]
    exact SX.par_head (c := 94) (sep := []) _ (TL.numL_free (by decide))
  · have e : rowC x = num x.1 := by
      unfold rowC
      rw [if_neg hm, List.append_nil]
    refine .inr ⟨?_, e⟩
    rw [e]
    exact SX.par_head_none (TL.numL_free (by decide))
theorem pp_fit : ∀ {l : List (Int × Int)} {b : Bool} {ts : List T}, ppRows l = some (b, ts) → (∀ t ∈ ts, Fit 12 200 t) ∧ ts.length ≤ l.length
  | [], b, ts, h => by
    cases h
    exact ⟨(fun t ht => by cases ht), Nat.le_refl _⟩
  | x :: l, b, ts, h => by
    rcases pp_cons h with ⟨_, _, rfl⟩ | ⟨_, _, t, ts', rfl, _, hg, hd, hz, _, h2⟩
    · exact ⟨(fun t ht => by cases ht), by simp⟩
    · obtain ⟨h3, h4⟩ := pp_fit h2
      refine ⟨fun u hu => ?_, by simp only [List.length_cons]; omega⟩
      rcases List.mem_cons.mp hu with rfl | hu
      · exact hg.fit hd hz
      · exact h3 u hu
theorem pp_ne : ∀ {l : List (Int × Int)} {ts : List T}, l ≠ [] → ppRows l = some (false, ts) → ts ≠ []
  | [], ts, h, _ => absurd rfl h
  | x :: l, ts, _, h => by
    rcases pp_cons h with ⟨_, z, _⟩ | ⟨_, _, t, ts', rfl, _⟩
    · cases z
    · exact List.cons_ne_nil _ _
theorem all_eq6 (a n : Int) (rows : List (Int × Int)) {ts : List T} (h : ts ≠ []) : TL.joinL [32] [allW, num a, num n, rowsC rows, [98, 121], TL.joinL [59, 32] (ts.map txtC)] = rowA a n (allC rows ts) := by
  unfold rowA allW allC
  rw [papsC_ne h]
  unfold byC
  simp [TL.joinL]
theorem all_eq4 (a n : Int) : TL.joinL [32] [allW, num a, num n, noneC ++ byC ++ noneC] = rowA a n (allC [] []) := by
  rw [rowA_eq]
  rfl
inductive Rtold (C : Addr) : List D → D → Prop
  | mk (a n : Int) (f : List Int) (pl : List (Int × Int)) (h : Pr a n f pl) : Rtold C [.dsk C, .int a, .int n] (.bl true)
theorem fn_law_told (c : Ctx w K mg base) : Fn P w K mg base 51 "_law_told" 3 (Rtold (deskA K)) := by
  have Ms : Mt P w K mg base 50 (deskA K) "say" 2 (Rsay (deskA K)) := mt_say c
  refine c.df 55 (k := 50) ["_law_desk", "_law_a", "_law_n", "_law_text", "_law_papers", "_law_word", "_law_q"] ["_law_desk", "_law_a", "_law_n"] (h := ?_)
  rintro cdv A outer s H E hr ok _ _ - ⟨a, n, f, pl, h⟩
  have a0 := h.a0; have a1 := h.a1; have v0 := h.v0; have v1 := h.v1; have n0 := h.n0; have n1 := h.n1
  have hna := num_len (i := a) (by omega)
  have hnn := num_len (i := n) (by omega)
  have hsub : ∀ x ∈ firstsM a n pl (partsT n), 2 ≤ x.1 ∧ x.1 < 2 ^ 58 ∧ 1 ≤ x.2 ∧ x.2 ≤ 20 := fun x hx => h.pq x (firsts_sub hx)
  have hlen : (firstsM a n pl (partsT n)).length ≤ 20 := Nat.le_trans firsts_len h.pn
  have hF : Rfp [.int a, .int n] (toldD n (firstsM a n pl (partsT n))) := .mk a n f pl 100000 ⟨by omega, by omega⟩ n0 n1 h.rp h.fl ⟨by omega, by omega⟩ (Nat.le_refl _) h.hp fun x hx => by
    have := h.pq x hx
    omega
  have td := h.td
  obtain ⟨rows, hrows⟩ : ∃ rows, rows = firstsM a n pl (partsT n) := ⟨_, rfl⟩
  rw [← hrows] at hsub hlen hF td
  have hrw : ∀ x ∈ rows, RowOk x := fun x hx => by
    have := hsub x hx
    exact ⟨by omega, by omega, by omega, by omega⟩
  have hrp : ∀ {ts : List T}, (∀ t ∈ ts, Fit 12 200 t) → ts.length ≤ rows.length → RP 30 rows ts := fun {ts} ht hl => ⟨by omega, by omega, fun x hx => by have := hsub x hx; omega, ht⟩
  have hrl := (hrp (ts := []) (fun t ht => by cases ht) (Nat.zero_le _)).len.2
  have hS1 := say_firsts (deskA K) a n (sD (firstsC n rows)) a0 a1 n0 n1 (.mk a n rows hF hrw (by omega) (by omega))
  refine bodyR (ρ' := [.d (.dsk (deskA K)), .d (.int a), .d (.int n), .no, .no, .no, .no]) (Wk.refl _) ?_
  refine jb_cons (ρ1 := [.d (.dsk (deskA K)), .d (.int a), .d (.int n), .d (sD (firstsC n rows)), .no, .no, .no]) (js_st ok (je_meth Ms hr (by walk_at "dl") (ja_cons (JD.eq (je_cS (je_cS (je_cS (je_lit rfl) (je_sN ok c.f_str (by walk_at "dl") (by omega) (by omega)) ?_) (je_lit rfl) ?_) (je_sN ok c.f_str (by walk_at "dl") (by omega) (by omega)) ?_) (congrArg sD (rowF_eq a n))) ja_nil) hS1 (by omega) (pl := _)) (by walk_at "pt")) ?_
  · show 7 + (num a).length ≤ _
    omega
  · rw [List.length_append]
    show 7 + (num a).length + 1 ≤ _
    omega
  · rw [List.length_append, List.length_append]
    show 7 + (num a).length + 1 + _ ≤ _
    omega
  unfold firstsC
  by_cases hc : rows = []
  · rcases td with ⟨_, td⟩ | ⟨td, _⟩
    · subst hc
      rw [if_pos rfl]
      have hS2 := say_all (deskA K) a n [] [] true a0 a1 n0 n1 (hrp (fun t ht => by cases ht) (Nat.le_refl _)) (rsf_of h (hrp (fun t ht => by cases ht) (Nat.le_refl _)) td)
      have hlw : (whyC n).length ≤ 3 := by
        unfold whyC
        split
        · decide
        split <;> decide
      refine jb_stop (js_ifT (JT.eq (jt_cm (x := .str (S ((noneC ++ [32] ++ whyC n).take 4))) (y := .str "none") (JD.eq (je_sl (by walk_at "dl") jo_none (jo_some (by walk_at "dl")) (sk_S ?_)) (congrArg D.str (cut4 _))) (by walk_at "dl") ck_eqS) ?_) (jb_stop (js_ret (JD.eq (je_cm (x := yesD true) (y := .str "yes") (je_meth Ms hr (by walk_at "dl") (ja_cons (JD.eq (je_jS (s := [32]) (ws := [allW, num a, num n, noneC ++ byC ++ noneC]) (je_lit rfl) (je_lst (ja_cons (je_lit rfl) (ja_cons (je_sN ok c.f_str (by walk_at "dl") (by omega) (by omega)) (ja_cons (je_sN ok c.f_str (by walk_at "dl") (by omega) (by omega)) (ja_cons (je_lit rfl) ja_nil)))) (show 4 ≤ sizeLine by decide)) ?_) (congrArg sD (all_eq4 a n))) ja_nil) hS2 (by omega) (pl := _)) (by walk_at "dl") ck_eqS) ?_))))
      · rw [S_len, List.length_append]
        show 5 + _ ≤ _
        exact Nat.le_trans (Nat.add_le_add_left hlw 5) (by decide)
      · rw [S_eq_lit (m := noneC) rfl]
        rfl
      · rw [all_eq4]
        unfold rowA allW
        have : (allC [] []).length = 12 := rfl
        simp only [List.length_append, List.length_cons, List.length_nil]
        omega
      · rfl
    · exact absurd hc td
  · rw [if_neg hc]
    rcases td with ⟨z, _⟩ | ⟨_, td⟩
    · exact absurd z hc
    refine jb_cons (js_ifF (JT.eq (jt_cm (x := .str (S ((rowsC rows).take 4))) (y := .str "none") (JD.eq (je_sl (by walk_at "dl") jo_none (jo_some (by walk_at "dl")) (sk_S ?_)) (congrArg D.str (cut4 _))) (by walk_at "dl") ck_eqS) ?_) jb_nil) ?_
    · rw [S_len]
      exact Nat.le_trans hrl (by decide)
    · rw [S_eq_lit (m := noneC) rfl, decide_eq_false (rows_head hc)]
    refine jb_ow ok (xs := []) (jn_lst ja_nil) (fun l => by walk_at "pt") fun l => ?_
    have hsp : TL.spl [32] 0 [] (rowsC rows) = rows.map rowC := by
      rw [rowsC_ne hc]
      refine SX.spl_join (by simpa using hc) fun p hp => ?_
      obtain ⟨x, hx, rfl⟩ := List.mem_map.mp hp
      exact rowC_free (by decide) (by decide)
    have hrr : ∀ x ∈ rows, RowOk x ∧ 2 ≤ x.1 := fun x hx => ⟨hrw x hx, (hsub x hx).1⟩
    rcases td with ⟨tsE, hpp⟩ | ⟨tsA, hpp, td⟩
    · refine jb_stop (js_forG (f := fun x => sD (rowC x)) (l := rows) (fun acc : List T => [.d (.dsk (deskA K)), .d (.int a), .d (.int n), .d (sD (rowsC rows)), .own l (acc.map fun t => sD (txtC t)), .no, .no]) (fun acc l => (∃ rest, ppRows l = some (true, rest)) ∧ (∀ x ∈ l, RowOk x ∧ 2 ≤ x.1) ∧ acc.length + l.length ≤ 30) (.rt (.bl true)) [] (JI.conv (ds' := rows.map fun x => sD (rowC x)) (ji_list (je_spS (s := [32]) (by walk_at "dl") (je_lit rfl) (by decide) rfl (by omega))) (by rw [hsp, List.map_map]; rfl)) ⟨⟨_, hpp⟩, hrr, by simp only [List.length_nil]; omega⟩ (by walk_at "wk") .never rfl ?_ ?_)
      · rintro acc ⟨⟨_, h⟩, _⟩
        cases h
      · rintro acc x r ⟨⟨rest, h⟩, hx, hl⟩
        obtain ⟨hxo, hx2⟩ := hx x List.mem_cons_self
        have hx' : ∀ y ∈ r, RowOk y ∧ 2 ≤ y.1 := fun y hy => hx y (List.mem_cons_of_mem _ hy)
        have hrl2 := len_row hxo
        have hxq := hxo.q1
        have hnx := num_len hxq
        rw [List.length_cons] at hl
        refine ⟨_, _, by walk_at "jg", ?_⟩
        rcases pp_cons h with ⟨hbig, hb, _⟩ | ⟨hsm, _, t, ts', ets, hpm, hg, hd, hz, hprt, h2⟩
        · refine .inl ⟨.bl true, ?_, rfl⟩
          refine jb_cons (ρ1 := [.d (.dsk (deskA K)), .d (.int a), .d (.int n), .d (sD (rowsC rows)), .own l (acc.map fun t => sD (txtC t)), .d (sD (rowC x)), .d (sD (num x.1))]) ?_ ?_
          · rcases par_row (x := x) with ⟨r, hp⟩ | ⟨hp, e⟩
            · exact js_st ok (je_ix (x := .tup [sD (num x.1), sD [94], sD r]) (y := .int 0) (je_paS (s := [94]) (by walk_at "dl") (je_lit rfl) hp (by decide) (by omega)) (by walk_at "dl") (ik_T (at0 _ _))) (by walk_at "pt")
            · exact js_st ok (JD.eq (je_ix (x := .tup [sD (rowC x), sD [], sD []]) (y := .int 0) (je_paN (s := [94]) (by walk_at "dl") (je_lit rfl) hp (by decide) (by omega)) (by walk_at "dl") (ik_T (at0 _ _))) (by rw [e])) (by walk_at "pt")
          exact jb_stop (js_ifT (JT.eq (jt_cm (x := .int x.1) (y := .int 1000000) (je_in ok c.f_int (by walk_at "dl") (.str _ x.1 (int_back (by omega) (by omega)) (by rw [S_len]; omega))) (by walk_at "dl") ck_gt) (decide_eq_true hbig)) (jb_stop (js_ret je_bl)))
        · have hS := say_paper (deskA K) x.1 t hpm hg hd hz hx2 hsm hprt
          refine .inr ⟨acc ++ [t], ⟨⟨_, h2⟩, hx', by rw [List.length_append]; simp only [List.length_cons, List.length_nil]; omega⟩, ?_⟩
          refine jb_cons (ρ1 := [.d (.dsk (deskA K)), .d (.int a), .d (.int n), .d (sD (rowsC rows)), .own l (acc.map fun t => sD (txtC t)), .d (sD (rowC x)), .d (sD (num x.1))]) ?_ ?_
          · rcases par_row (x := x) with ⟨r, hp⟩ | ⟨hp, e⟩
            · exact js_st ok (je_ix (x := .tup [sD (num x.1), sD [94], sD r]) (y := .int 0) (je_paS (s := [94]) (by walk_at "dl") (je_lit rfl) hp (by decide) (by omega)) (by walk_at "dl") (ik_T (at0 _ _))) (by walk_at "pt")
            · exact js_st ok (JD.eq (je_ix (x := .tup [sD (rowC x), sD [], sD []]) (y := .int 0) (je_paN (s := [94]) (by walk_at "dl") (je_lit rfl) hp (by decide) (by omega)) (by walk_at "dl") (ik_T (at0 _ _))) (by rw [e])) (by walk_at "pt")
          refine jb_cons (js_ifF (JT.eq (jt_cm (x := .int x.1) (y := .int 1000000) (je_in ok c.f_int (by walk_at "dl") (.str _ x.1 (int_back (by omega) (by omega)) (by rw [S_len]; omega))) (by walk_at "dl") ck_gt) (decide_eq_false (by omega))) jb_nil) ?_
          refine JB.wk (jb_one (js_app (d := sD (txtC t)) (ρ' := [.d (.dsk (deskA K)), .d (.int a), .d (.int n), .d (sD (rowsC rows)), .own l (acc.map (fun t => sD (txtC t)) ++ [sD (txtC t)]), .d (sD (rowC x)), .d (sD (num x.1))]) ok (by walk_at "at") (je_meth Ms hr (by walk_at "dl") (ja_cons (JD.eq (je_cS (je_lit rfl) (by walk_at "dl") ?_) (congrArg sD (rowQ_eq x.1))) ja_nil) hS (by omega) (pl := _)) (by walk_at "pt") ?_)) ?_
          · show 6 + (num x.1).length ≤ _
            omega
          · rw [List.length_map]
            have : (100 : Nat) < sizeLine := by decide
            omega
          · rw [show (acc ++ [t]).map (fun t => sD (txtC t)) = acc.map (fun t => sD (txtC t)) ++ [sD (txtC t)] by simp]
            walk_at "wk"
    · refine jb_cons (js_forG (f := fun x => sD (rowC x)) (l := rows) (fun acc : List T => [.d (.dsk (deskA K)), .d (.int a), .d (.int n), .d (sD (rowsC rows)), .own l (acc.map fun t => sD (txtC t)), .no, .no]) (fun acc l => (∃ rest, ppRows l = some (false, rest) ∧ acc ++ rest = tsA) ∧ (∀ x ∈ l, RowOk x ∧ 2 ≤ x.1) ∧ acc.length + l.length ≤ 30) (.nx [.d (.dsk (deskA K)), .d (.int a), .d (.int n), .d (sD (rowsC rows)), .own l (tsA.map fun t => sD (txtC t)), .no, .no]) [] (JI.conv (ds' := rows.map fun x => sD (rowC x)) (ji_list (je_spS (s := [32]) (by walk_at "dl") (je_lit rfl) (by decide) rfl (by omega))) (by rw [hsp, List.map_map]; rfl)) ⟨⟨_, hpp, List.nil_append _⟩, hrr, by simp only [List.length_nil]; omega⟩ (by walk_at "wk") .never rfl ?_ ?_) ?_
      · rintro acc ⟨⟨rest, h, e⟩, _⟩
        cases h
        rw [List.append_nil] at e
        subst e
        exact ⟨_, rfl, Wk.refl _⟩
      · rintro acc x r ⟨⟨rest, h, e⟩, hx, hl⟩
        obtain ⟨hxo, hx2⟩ := hx x List.mem_cons_self
        have hx' : ∀ y ∈ r, RowOk y ∧ 2 ≤ y.1 := fun y hy => hx y (List.mem_cons_of_mem _ hy)
        have hrl2 := len_row hxo
        have hxq := hxo.q1
        have hnx := num_len hxq
        rw [List.length_cons] at hl
        refine ⟨_, _, by walk_at "jg", ?_⟩
        rcases pp_cons h with ⟨hbig, hb, _⟩ | ⟨hsm, _, t, ts', ets, hpm, hg, hd, hz, hprt, h2⟩
        · cases hb
        · have hS := say_paper (deskA K) x.1 t hpm hg hd hz hx2 hsm hprt
          refine .inr ⟨acc ++ [t], ⟨⟨ts', h2, by rw [← e, ets, List.append_assoc]; rfl⟩, hx', by rw [List.length_append]; simp only [List.length_cons, List.length_nil]; omega⟩, ?_⟩
          refine jb_cons (ρ1 := [.d (.dsk (deskA K)), .d (.int a), .d (.int n), .d (sD (rowsC rows)), .own l (acc.map fun t => sD (txtC t)), .d (sD (rowC x)), .d (sD (num x.1))]) ?_ ?_
          · rcases par_row (x := x) with ⟨r, hp⟩ | ⟨hp, e⟩
            · exact js_st ok (je_ix (x := .tup [sD (num x.1), sD [94], sD r]) (y := .int 0) (je_paS (s := [94]) (by walk_at "dl") (je_lit rfl) hp (by decide) (by omega)) (by walk_at "dl") (ik_T (at0 _ _))) (by walk_at "pt")
            · exact js_st ok (JD.eq (je_ix (x := .tup [sD (rowC x), sD [], sD []]) (y := .int 0) (je_paN (s := [94]) (by walk_at "dl") (je_lit rfl) hp (by decide) (by omega)) (by walk_at "dl") (ik_T (at0 _ _))) (by rw [e])) (by walk_at "pt")
          refine jb_cons (js_ifF (JT.eq (jt_cm (x := .int x.1) (y := .int 1000000) (je_in ok c.f_int (by walk_at "dl") (.str _ x.1 (int_back (by omega) (by omega)) (by rw [S_len]; omega))) (by walk_at "dl") ck_gt) (decide_eq_false (by omega))) jb_nil) ?_
          refine JB.wk (jb_one (js_app (d := sD (txtC t)) (ρ' := [.d (.dsk (deskA K)), .d (.int a), .d (.int n), .d (sD (rowsC rows)), .own l (acc.map (fun t => sD (txtC t)) ++ [sD (txtC t)]), .d (sD (rowC x)), .d (sD (num x.1))]) ok (by walk_at "at") (je_meth Ms hr (by walk_at "dl") (ja_cons (JD.eq (je_cS (je_lit rfl) (by walk_at "dl") ?_) (congrArg sD (rowQ_eq x.1))) ja_nil) hS (by omega) (pl := _)) (by walk_at "pt") ?_)) ?_
          · show 6 + (num x.1).length ≤ _
            omega
          · rw [List.length_map]
            have : (100 : Nat) < sizeLine := by decide
            omega
          · rw [show (acc ++ [t]).map (fun t => sD (txtC t)) = acc.map (fun t => sD (txtC t)) ++ [sD (txtC t)] by simp]
            walk_at "wk"
      obtain ⟨hfit, hfl⟩ := pp_fit hpp
      have hrA := hrp hfit hfl
      have hlA := hrA.len.1
      have hS3 := say_all (deskA K) a n rows tsA true a0 a1 n0 n1 hrA (rsf_of h hrA td)
      have hne := pp_ne hc hpp
      have hra : (rowA a n (allC rows tsA)).length ≤ 800000 := by
        unfold rowA allW
        simp only [List.length_append, List.length_cons, List.length_nil]
        omega
      have hpl : (TL.joinL [59, 32] (tsA.map txtC)).length ≤ 800000 := by
        have := allC_len (rows := rows) (ts := tsA)
        rw [papsC_ne hne] at this
        omega
      refine jb_frz ok (by walk_at "at") (by walk_at "pt") ?_
      refine jb_stop (js_ret (JD.eq (je_cm (x := yesD true) (y := .str "yes") (je_meth Ms hr (by walk_at "dl") (ja_cons (JD.eq (je_jS (s := [32]) (ws := [allW, num a, num n, rowsC rows, [98, 121], TL.joinL [59, 32] (tsA.map txtC)]) (je_lit rfl) (je_lst (ja_cons (je_lit rfl) (ja_cons (je_sN ok c.f_str (by walk_at "dl") (by omega) (by omega)) (ja_cons (je_sN ok c.f_str (by walk_at "dl") (by omega) (by omega)) (ja_cons (by walk_at "dl") (ja_cons (je_lit rfl) (ja_cons (je_jS (s := [59, 32]) (ws := tsA.map txtC) (je_lit rfl) (JD.eq (d := .lst (tsA.map fun t => sD (txtC t))) (by walk_at "dl") (by rw [List.map_map]; rfl)) ?_) ja_nil)))))) (show 6 ≤ sizeLine by decide)) ?_) (congrArg sD (all_eq6 a n rows hne))) ja_nil) hS3 (by omega) (pl := _)) (by walk_at "dl") ck_eqS) ?_))
      · show _ + 2 ≤ _
        omega
      · rw [all_eq6 a n rows hne]
        show _ + 1 ≤ _
        omega
      · rfl
end
-- F28
/-! The law. -/
open PySem PySem.Spec PyProof.Rows L2 RW M
open SX (S S_len S_cat S_inj)
section
variable {P : Program} {w : World} {K : PySem.W.Frag} {mg : Str → Option Value} {base : Heap} {k : Nat} {R : List D → D → Prop}
theorem lpr_ex : ∀ (f : Nat) (d q : Int), 2 ≤ d → q < (d + f) * (d + f) → ∃ b, lprD (f + 1) d q = some b
  | 0, d, q, hd, h => by
    unfold lprD
    rw [if_neg (by
      intro z
      rw [show d + ((0 : Nat) : Int) = d by omega] at h
      omega)]
    exact ⟨_, rfl⟩
  | f + 1, d, q, hd, h => by
    unfold lprD
    split
    · split
      · exact ⟨_, rfl⟩
      · exact lpr_ex f (d + 1) q (by omega) (by rw [show d + 1 + (f : Int) = d + ((f + 1 : Nat) : Int) by omega]; exact h)
    · exact ⟨_, rfl⟩
theorem prime_ex {q : Int} (h : q ≤ 4001) : ∃ b, lprime 101 q = some b := by
  obtain ⟨b, hb⟩ := lpr_ex 100 2 q (by decide) (by omega)
  unfold lprime
  rw [hb]
  cases b <;> exact ⟨_, rfl⟩
def nextQ (c : Bool) : Nat → Int → Int
  | 0, q => q
  | f + 1, q => if (c && !(lprime 101 q).getD true) = true then nextQ c f (q + 1) else q
def baseQ (cell : Int) : Int := 2 + (if mix cell 1 % 2 = 0 then mix cell 0 % 199 else mix cell 0 % 3999)
theorem baseQ_bound (cell : Int) : 2 ≤ baseQ cell ∧ baseQ cell ≤ 4000 := by
  unfold baseQ
  split <;> omega
theorem nextQ_bound (c : Bool) : ∀ (f : Nat) (q : Int), 2 ≤ q → (f : Int) = 4001 - q → 2 ≤ nextQ c f q ∧ nextQ c f q ≤ 4001
  | 0, q, h, e => by
    unfold nextQ
    omega
  | f + 1, q, h, e => by
    unfold nextQ
    split
    · exact nextQ_bound c f (q + 1) (by omega) (by omega)
    · omega
def mkT (q : Int) : T := (madeM 12 0 0 q).getD (.node 0 0 2 1 [])
theorem mkT_of {q : Int} (h : chkM q = true) : madeM 12 0 0 q = some (mkT q) ∧ Good (mkT q) ∧ M.dep (mkT q) ≤ 10 ∧ M.siz (mkT q) ≤ 40 := by
  obtain ⟨t, h1, h2, h3, h4⟩ := chkM_of h
  have e : mkT q = t := by
    unfold mkT
    rw [h1]
    rfl
  rw [e]
  exact ⟨h1, h2, h3, h4⟩
theorem mkT_ex {q : Int} (h0 : 2 ≤ q) (h1 : q ≤ 4001) : madeM 12 0 0 q = some (mkT q) ∧ Good (mkT q) ∧ M.dep (mkT q) ≤ 10 ∧ M.siz (mkT q) ≤ 40 := by
  obtain ⟨t, h1, h2, h3, h4⟩ := made_ex h0 h1
  have e : mkT q = t := by
    unfold mkT
    rw [h1]
    rfl
  rw [e]
  exact ⟨h1, h2, h3, h4⟩
theorem cells_ex (ns : List Int) : ∃ cs : List Int, cutD (ns.map D.int) none (some 5) = cs.map D.int ∧ cs.length ≤ 5 := by
  refine ⟨ns.take 5, ?_, by rw [List.length_take]; omega⟩
  unfold cutD
  have e : HT.sIx (ns.map D.int).length (ns.map D.int).length (some 5) = min 5 (ns.map D.int).length := HT.sIx_nat _ _ 5
  rw [HT.sIx_none, e, List.drop_zero, Nat.sub_zero, List.map_take, ← List.take_take, List.take_length]
inductive Rlaw : List D → D → Prop
  | mk (ns : List Int) (h : ns.length ≤ 63) : Rlaw [.scr ns] (.bl true)
theorem law_ok (c : Ctx w K mg base) {fl : Addr} {fdl : FuncData} (F : FunD K d_law.name d_law.qual d_law.params d_law.body d_law.scope [] [] fl fdl) : FnOk P w K mg base CX0 61 fl fdl ["_law_script"] (spR K 1 Rlaw) := by
  obtain ⟨fd, Fi, Fb⟩ := ok_init (P := P) c
  have Ms : Mt P w K mg base 50 (deskA K) "say" 2 (Rsay (deskA K)) := mt_say c
  have Fx : Fn P w K mg base 1 "_law_mix" 2 Rmix := fn_law_mix c
  have Fp : Fn P w K mg base 1 "_law_prime" 1 Rprime := fn_law_prime c
  have Fm : Fn P w K mg base 14 "_law_made" 1 (Rmade 12) := fn_law_made c 12
  have Fl : Fn P w K mg base 51 "_law_prime_looked" 3 (Rpl (deskA K)) := fn_law_prime_looked c
  have Fd : Fn P w K mg base 1 "_law_parted" 1 Rparted := fn_law_parted c
  have Fw : Fn P w K mg base 11 "_law_worth" 2 Rworth := fn_law_worth c
  have Ff : Fn P w K mg base 2 "_law_is_first" 3 Rlfirst := fn_law_is_first c
  have Fa : Fn P w K mg base 51 "_law_all_looked" 5 (Ral (deskA K)) := fn_law_all_looked c
  have Ft : Fn P w K mg base 51 "_law_told" 3 (Rtold (deskA K)) := fn_law_told c
  have Fn1 : Fn P w K mg base 14 "_law_bent" 2 (Rbent 5) := fn_law_bent c 5
  have Fn2 : Fn P w K mg base 20 "_law_all_bent" 3 Rab := fn_law_all_bent c
  have S : FnScope ["_law_script", "_law_desk", "_law_cell", "_law_q", "_law_paper", "_law_a", "_law_n", "_law_rows", "_law_papers", "_law_k", "_law_some", "_law_others", "_law_p", "_law_many"] ["_law_script"] d_law.scope := ⟨rfl, rfl, rfl, by decide +kernel, rfl, by decide +kernel, by decide +kernel⟩
  refine fn_ok F S (k := 60) (ps := ["_law_script"]) (R := Rlaw) (fun cdv A outer s H E hr => ?_)
  have ok := OkN.fx (N := ["_law_script", "_law_desk", "_law_cell", "_law_q", "_law_paper", "_law_a", "_law_n", "_law_rows", "_law_papers", "_law_k", "_law_some", "_law_others", "_law_p", "_law_many"]) (qual := d_law.qual) (scope := d_law.scope) (f := fl) (cdv := cdv) (A := A) (outer := outer) (s := s) (H := H) (P := P) (w := w) (K := K) (mg := mg) (base := base) S.nd
  rintro _ _ - ⟨ns, hns⟩
  obtain ⟨cs, hcs, hcl⟩ := cells_ex ns
  refine bodyR (ρ' := [.d (.scr ns), .no, .no, .no, .no, .no, .no, .no, .no, .no, .no, .no, .no, .no]) (Wk.refl _) ?_
  refine jb_cons (ρ1 := [.d (.scr ns), .d (.dsk (deskA K)), .no, .no, .no, .no, .no, .no, .no, .no, .no, .no, .no, .no]) (js_st ok (je_desk ok c.mkr (c.glo 57) Fi Fb hr (by omega)) (by walk_at "pt")) ?_
  refine jb_cons (ρ1 := [.no, .d (.dsk (deskA K)), .no, .no, .no, .no, .no, .no, .no, .no, .no, .no, .no, .no]) (js_forG (f := D.int) (l := cs ++ [0]) (fun _ : Unit => [.d (.scr ns), .d (.dsk (deskA K)), .no, .no, .no, .no, .no, .no, .no, .no, .no, .no, .no, .no]) (fun _ _ => True) (.nx [.no, .d (.dsk (deskA K)), .no, .no, .no, .no, .no, .no, .no, .no, .no, .no, .no, .no]) () (JI.conv (ji_list (je_bin (x := .lst (cs.map D.int)) (y := .lst [.int 0]) (JD.eq (je_sl (by walk_at "dl") jo_none (jo_some (by walk_at "dl")) sk_R) (by rw [hcs])) (by walk_at "dl") (bk_cat ?_))) (by rw [List.map_append]; rfl)) trivial (Wk.refl _) .never rfl ?_ ?_) ?_
  · rw [List.length_map]
    have : (100 : Nat) ≤ sizeLine := by decide
    simp only [List.length_cons, List.length_nil]
    omega
  · intro _ _
    exact ⟨_, rfl, by walk_at "wk"⟩
  · intro _ cell _ _
    refine ⟨_, _, by walk_at "jg", .inr ⟨(), trivial, ?_⟩⟩
    have m0 := mix_lt cell 0
    have m1 := mix_lt cell 1
    have m2 := mix_lt cell 2
    have m3 := mix_lt cell 3
    have J : ∀ (j : Nat), j ≤ 100 → Rmix [.int cell, .int (j : Nat)] (.int (mix cell j)) := fun j hj => .mk cell j (by omega)
    have hb := baseQ_bound cell
    refine jb_cons (ρ1 := [.d (.scr ns), .d (.dsk (deskA K)), .d (.int cell), .d (.int (baseQ cell)), .no, .no, .no, .no, .no, .no, .no, .no, .no, .no]) (js_st (d := .int (baseQ cell)) ok (JD.eq (je_bin (x := .int 2) (y := .int (if mix cell 1 % 2 = 0 then mix cell 0 % 199 else mix cell 0 % 3999)) (by walk_at "dl") (je_ix (x := .lst [.int (mix cell 0 % 199), .int (mix cell 0 % 3999)]) (y := .int (mix cell 1 % 2)) (je_lst (ja_cons (je_bin (je_ca ok Fx hr (by walk_at "dl") (J 0 (by decide)) (by omega)) (by walk_at "dl") (bk_mod (by decide))) (ja_cons (je_bin (je_ca ok Fx hr (by walk_at "dl") (J 0 (by decide)) (by omega)) (by walk_at "dl") (bk_mod (by decide))) ja_nil)) (show 2 ≤ sizeLine by decide)) (je_bin (je_ca ok Fx hr (by walk_at "dl") (J 1 (by decide)) (by omega)) (by walk_at "dl") (bk_mod (by decide))) (ik_L ?_)) bk_add) rfl) (by walk_at "pt")) ?_
    · by_cases h : mix cell 1 % 2 = 0
      · rw [if_pos h, h]
        rfl
      · rw [if_neg h, show mix cell 1 % 2 = 1 by omega]
        rfl
    obtain ⟨cb, hcb⟩ : ∃ cb : Bool, cb = decide (0 < mix cell 1 / 2 % 4) := ⟨_, rfl⟩
    obtain ⟨q, hq⟩ : ∃ q, q = nextQ cb (4001 - baseQ cell).toNat (baseQ cell) := ⟨_, rfl⟩
    have hqb := nextQ_bound cb (4001 - baseQ cell).toNat (baseQ cell) hb.1 (by omega)
    rw [← hq] at hqb
    refine jb_cons (ρ1 := [.d (.scr ns), .d (.dsk (deskA K)), .d (.int cell), .d (.int q), .no, .no, .no, .no, .no, .no, .no, .no, .no, .no]) (js_whileG (fun x : Int => [.d (.scr ns), .d (.dsk (deskA K)), .d (.int cell), .d (.int x), .no, .no, .no, .no, .no, .no, .no, .no, .no, .no]) (fun f x => 2 ≤ x ∧ (f : Int) = 4001 - x ∧ nextQ cb f x = q) (.nx [.d (.scr ns), .d (.dsk (deskA K)), .d (.int cell), .d (.int q), .no, .no, .no, .no, .no, .no, .no, .no, .no, .no]) (4001 - baseQ cell).toNat (baseQ cell) ⟨hb.1, by omega, hq.symm⟩ (Wk.refl _) .never ?_) ?_
    · rintro f x ⟨x0, hf, hx⟩
      obtain ⟨b, hpb⟩ := prime_ex (q := x) (by omega)
      refine ⟨cb && !b, JT.eq (c := decide (0 < mix cell 1 / 2 % 4) && !b) (jt_and (jt_cm (je_bin (je_bin (je_ca ok Fx hr (by walk_at "dl") (J 1 (by decide)) (by omega)) (by walk_at "dl") (bk_div (by decide) (by decide))) (by walk_at "dl") (bk_mod (by decide))) (by walk_at "dl") ck_gt) fun _ => jw_and1 (jt_not (jt_val (je_ca ok Fp hr (by walk_at "dl") (.mk x b 101 hpb (by decide)) (by omega))))) (by rw [hcb]), fun hcc => ⟨_, rfl, ?_⟩, fun hcc => .inr ?_⟩
      · have e : x = q := by
          cases f with
          | zero => exact hx
          | succ f =>
            unfold nextQ at hx
            rw [hpb] at hx
            rw [if_neg (by show ¬ (cb && !b) = true; rw [hcc]; decide)] at hx
            exact hx
        rw [e]
        exact Wk.refl _
      · cases f with
        | zero =>
          have e : x = 4001 := by omega
          have h4 : lprime 101 4001 = some true := by decide +kernel
          rw [e, h4] at hpb
          cases hpb
          rw [Bool.and_eq_true] at hcc
          cases hcc.2
        | succ f =>
          unfold nextQ at hx
          rw [hpb] at hx
          rw [if_pos (show (cb && !(some b).getD true) = true from hcc)] at hx
          refine ⟨f, x + 1, Nat.lt_succ_self _, ⟨by omega, by omega, hx⟩, ?_⟩
          walk_at "bw"
    obtain ⟨hm1, hm2, hm3, hm4⟩ := mkT_ex hqb.1 hqb.2
    refine jb_cons (ρ1 := [.d (.scr ns), .d (.dsk (deskA K)), .d (.int cell), .d (.int q), .d (pap (mkT q)), .no, .no, .no, .no, .no, .no, .no, .no, .no]) (js_st ok (je_ca ok Fm hr (by walk_at "dl") (.mk 0 0 q (mkT q) hm1 hm2) (by omega)) (by walk_at "pt")) ?_
    refine jb_cons (js_ifF (JT.eq (c := !true) (jt_not (jt_val (je_ca ok Fl hr (by walk_at "dl") (.mk q (mkT q) (by omega) (by omega) (hm2.fit (by omega) (by omega))) (by omega)))) rfl) jb_nil) ?_
    obtain ⟨a, ha⟩ : ∃ a, a = 2 + mix cell 2 % 9 := ⟨_, rfl⟩
    obtain ⟨n, hn⟩ : ∃ n, n = 1 + mix cell 3 % 12 := ⟨_, rfl⟩
    obtain ⟨f, pl, hpr⟩ := pr_ex (a := a) (n := n) (by omega) (by omega) (by omega) (by omega)
    have a0 := hpr.a0; have a1 := hpr.a1; have n0 := hpr.n0; have n1 := hpr.n1; have v0 := hpr.v0; have v1 := hpr.v1
    refine jb_cons (ρ1 := [.d (.scr ns), .d (.dsk (deskA K)), .d (.int cell), .d (.int q), .d (pap (mkT q)), .d (.int a), .no, .no, .no, .no, .no, .no, .no, .no]) (js_st (d := .int a) ok (JD.eq (je_bin (x := .int 2) (by walk_at "dl") (je_bin (je_ca ok Fx hr (by walk_at "dl") (J 2 (by decide)) (by omega)) (by walk_at "dl") (bk_mod (by decide))) bk_add) (by rw [ha])) (by walk_at "pt")) ?_
    refine jb_cons (ρ1 := [.d (.scr ns), .d (.dsk (deskA K)), .d (.int cell), .d (.int q), .d (pap (mkT q)), .d (.int a), .d (.int n), .no, .no, .no, .no, .no, .no, .no]) (js_st (d := .int n) ok (JD.eq (je_bin (x := .int 1) (by walk_at "dl") (je_bin (je_ca ok Fx hr (by walk_at "dl") (J 3 (by decide)) (by omega)) (by walk_at "dl") (bk_mod (by decide))) bk_add) (by rw [hn])) (by walk_at "pt")) ?_
    have hR1 : Rworth [.int a, .int n] (.int (value f a)) := .mk a n f 8 (by decide) hpr.lr hpr.fl ⟨by omega, by omega⟩
    have hR2 : Rparted [.int (value f a)] (.lst (pl.map prD)) := .mk _ pl 100000 (by omega) (by omega) (by decide) hpr.hp
    obtain ⟨rows, hrows⟩ : ∃ rows, rows = firstsM a n pl (partsT n) := ⟨_, rfl⟩
    have hrl := firsts_law hpr
    have hmd := hpr.md
    rw [← hrows] at hrl hmd
    have hsub : ∀ x ∈ rows, 2 ≤ x.1 ∧ x.1 < 2 ^ 58 ∧ 1 ≤ x.2 ∧ x.2 ≤ 20 := fun x hx => hpr.pq x (firsts_sub (by rw [hrows] at hx; exact hx))
    have hlen : rows.length ≤ 20 := by
      rw [hrows]
      exact Nat.le_trans firsts_len hpr.pn
    refine jb_cons (ρ1 := [.d (.scr ns), .d (.dsk (deskA K)), .d (.int cell), .d (.int q), .d (pap (mkT q)), .d (.int a), .d (.int n), .d (.lst (rows.map prD)), .no, .no, .no, .no, .no, .no]) (js_lcV [("_law_p", 12), ("_law_many", 13)] ok (ji_list (je_ca ok Fd hr (ja_cons (je_ca ok Fw hr (by walk_at "dl") hR1 (by omega)) ja_nil) hR2 (by omega))) [.d (.scr ns), .d (.dsk (deskA K)), .d (.int cell), .d (.int q), .d (pap (mkT q)), .d (.int a), .d (.int n), .no, .no, .no, .no, .no, .no, .no] (out := rows.map prD) ?_ ?_ (by walk_at "pt")) ?_
    · rw [← hrl, ← filterMap_filter]
      refine comp_l (f := prD) (l := pl) fun x hx => ?_
      have hx2 := hpr.pq x hx
      have hR := Rlfirst.mk a n x.1 n0 (by omega) (by omega) (by omega) (by omega)
      refine ⟨[.d (.scr ns), .d (.dsk (deskA K)), .d (.int cell), .d (.int q), .d (pap (mkT q)), .d (.int a), .d (.int n), .no, .no, .no, .no, .no, .d (.int x.1), .d (.int x.2)], [12] ++ ([13] ++ []), lfirstM a n x.1, by simp, blk_i ok fun s H C cl fp okb => jg_tup (ds := [.int x.1, .int x.2]) rfl (by walk_at "jgs"), blk_i ok fun s H C cl fp okb => jts_one (jt_val (je_ca okb Ff hr (by walk_at "dl") hR (by omega))), ?_⟩
      cases hc : lfirstM a n x.1 with
      | true => exact .inl ⟨rfl, prD x, blk_i ok fun s H C cl fp okb => by walk_at "de", rfl⟩
      | false => exact .inr ⟨rfl, rfl⟩
    · rw [List.length_map]
      omega
    obtain ⟨ts, hts⟩ : ∃ ts : List T, ts = rows.map fun x => mkT x.1 := ⟨_, rfl⟩
    have htl : rows.length = ts.length := by rw [hts, List.length_map]
    have htg : ∀ t ∈ ts, Good t ∧ M.dep t ≤ 10 ∧ M.siz t ≤ 40 := fun t ht => by
      rw [hts] at ht
      obtain ⟨x, hx, rfl⟩ := List.mem_map.mp ht
      exact (mkT_of (hmd x hx)).2
    refine jb_cons (ρ1 := [.d (.scr ns), .d (.dsk (deskA K)), .d (.int cell), .d (.int q), .d (pap (mkT q)), .d (.int a), .d (.int n), .d (.lst (rows.map prD)), .d (.lst (ts.map pap)), .no, .no, .no, .no, .no]) (js_lcV [("_law_p", 12), ("_law_many", 13)] ok (ji_list (by walk_at "dl")) [.d (.scr ns), .d (.dsk (deskA K)), .d (.int cell), .d (.int q), .d (pap (mkT q)), .d (.int a), .d (.int n), .d (.lst (rows.map prD)), .no, .no, .no, .no, .no, .no] (out := ts.map pap) ?_ ?_ (by walk_at "pt")) ?_
    · rw [hts, List.map_map]
      exact comp_m (f := prD) (g := pap ∘ fun x : Int × Int => mkT x.1) (l := rows) fun x hx => ⟨[.d (.scr ns), .d (.dsk (deskA K)), .d (.int cell), .d (.int q), .d (pap (mkT q)), .d (.int a), .d (.int n), .d (.lst (rows.map prD)), .no, .no, .no, .no, .d (.int x.1), .d (.int x.2)], [12] ++ ([13] ++ []), by simp, blk_i ok fun s H C cl fp okb => jg_tup (ds := [.int x.1, .int x.2]) rfl (by walk_at "jgs"), blk_i ok fun s H C cl fp okb => je_ca okb Fm hr (by walk_at "dl") (.mk 0 0 x.1 (mkT x.1) (mkT_of (hmd x hx)).1 (mkT_of (hmd x hx)).2.1) (by omega)⟩
    · rw [List.length_map]
      omega
    have hrp : RP 30 rows ts := ⟨by omega, by omega, fun x hx => by have := hsub x hx; omega, fun t ht => (htg t ht).1.fit (by have := (htg t ht).2.1; omega) (by have := (htg t ht).2.2; omega)⟩
    refine jb_cons (js_ifF (JT.eq (c := !true || !true) (jt_or (jt_not (jt_val (je_ca ok Fa hr (by walk_at "dl") (.mk a n f pl hpr rows ts hrp) (by omega)))) fun _ => jw_or1 (jt_not (jt_val (je_ca ok Ft hr (by walk_at "dl") (.mk a n f pl hpr) (by omega))))) rfl) jb_nil) ?_
    refine JB.wk (jb_one (js_forG (f := fun t : Nat => D.int (t : Nat)) (l := List.range 6) (fun _ : Unit => [.d (.scr ns), .d (.dsk (deskA K)), .d (.int cell), .d (.int q), .d (pap (mkT q)), .d (.int a), .d (.int n), .d (.lst (rows.map prD)), .d (.lst (ts.map pap)), .no, .no, .no, .no, .no]) (fun _ l => ∀ t ∈ l, t < 6) (.nx [.d (.scr ns), .d (.dsk (deskA K)), .d (.int cell), .d (.int q), .d (pap (mkT q)), .d (.int a), .d (.int n), .d (.lst (rows.map prD)), .d (.lst (ts.map pap)), .no, .no, .no, .no, .no]) () (ji_r1 (j := 6) ok c.f_range (by walk_at "dl") (by decide) (by decide)) (fun t ht => List.mem_range.mp ht) (Wk.refl _) .never rfl ?_ ?_)) (by walk_at "wk")
    · intro _ _
      exact ⟨_, rfl, Wk.refl _⟩
    · intro _ j l hj
      have hj6 := hj j List.mem_cons_self
      refine ⟨_, _, by walk_at "jg", .inr ⟨(), fun x hx => hj x (List.mem_cons_of_mem _ hx), ?_⟩⟩
      have p1 := mix_lt cell (10 + j)
      have p2 := mix_lt cell (20 + j)
      have hfit := bentM_fit 5 (mkT q) (mix cell (10 + j)) hm2 p1.1 (by omega)
      have hfit2 : Fit 12 200 (bentM 5 (mkT q) (mix cell (10 + j))) := ⟨hfit.ok, hfit.few, by have := hfit.dep; omega, by have := hfit.siz; omega⟩
      have hJ1 : Rmix [.int cell, .int (10 + (j : Int))] (.int (mix cell (10 + j))) := by
        have := J (10 + j) (by omega)
        rw [show (((10 + j : Nat)) : Int) = 10 + (j : Int) by omega] at this
        exact this
      have hJ2 : Rmix [.int cell, .int (20 + (j : Int))] (.int (mix cell (20 + j))) := by
        have := J (20 + j) (by omega)
        rw [show (((20 + j : Nat)) : Int) = 20 + (j : Int) by omega] at this
        exact this
      have hab := allBent_ok (rows := rows) (ts := ts) (pick := mix cell (20 + j)) p2.1 p2.2 hlen (by omega) hsub fun t ht => ⟨(htg t ht).1, by have := (htg t ht).2.1; omega, by have := (htg t ht).2.2; omega⟩
      have hRab := Rab.mk rows ts (mix cell (20 + j)) htl hlen (fun t ht => ⟨(htg t ht).1, by have := (htg t ht).2.1; omega⟩) p2.1 p2.2
      refine jb_cons (js_ifF (JT.eq (c := !true) (jt_not (jt_val (je_ca ok Fl hr (ja_cons (by walk_at "dl") (ja_cons (by walk_at "dl") (ja_cons (je_ca ok Fn1 hr (ja_cons (by walk_at "dl") (ja_cons (je_ca ok Fx hr (by walk_at "dl") hJ1 (by omega)) ja_nil)) (.mk (mkT q) _ hm2 (by omega) p1.1 (by omega)) (by omega)) ja_nil))) (.mk q _ (by omega) (by omega) hfit2) (by omega)))) rfl) jb_nil) ?_
      refine jb_cons (ρ1 := [.d (.scr ns), .d (.dsk (deskA K)), .d (.int cell), .d (.int q), .d (pap (mkT q)), .d (.int a), .d (.int n), .d (.lst (rows.map prD)), .d (.lst (ts.map pap)), .d (.int (j : Nat)), .d (.lst ((allBent rows ts (mix cell (20 + j))).1.map prD)), .d (.lst ((allBent rows ts (mix cell (20 + j))).2.map pap)), .no, .no]) (js_asg (je_ca ok Fn2 hr (ja_cons (by walk_at "dl") (ja_cons (by walk_at "dl") (ja_cons (je_ca ok Fx hr (by walk_at "dl") hJ2 (by omega)) ja_nil))) hRab (by omega)) (jg_tup (ds := [.lst ((allBent rows ts (mix cell (20 + j))).1.map prD), .lst ((allBent rows ts (mix cell (20 + j))).2.map pap)]) rfl (by walk_at "jgs"))) ?_
      exact JB.wk (jb_one (js_ifF (JT.eq (c := !true) (jt_not (jt_val (je_ca ok Fa hr (by walk_at "dl") (.mk a n f pl hpr _ _ hab) (by omega)))) rfl) jb_nil)) (by walk_at "wk")
  · have hS := say_size (deskA K)
    refine jb_stop (js_ret (JD.eq (je_cm (x := sD (num 1)) (y := .str "1") (je_meth Ms hr (by walk_at "dl") (ja_cons (je_lit rfl) ja_nil) hS (by omega) (pl := _)) (by walk_at "dl") ck_eqS) ?_))
    rw [S_eq_lit (m := [49]) rfl]
    exact congrArg D.bl (decide_eq_true (TL.numL_lt (by decide)))
end
end DL
-- F29
/-! The head joined to the law. -/
namespace DL
open PySem PySem.Spec PyProof.Rows L2 RW
theorem facts {P : Program} {w : World} {K : PySem.W.Frag} {h : Heap} {mg : Str → Option Value} {f : Addr} (X : K.In h) (G : h.Ns mainGlobals mg) (hfa : mg ("law" : Str) = some (.ref f)) (c : Says w K) :
    ∃ fd : FuncData, (∀ (s : Shared) (v : Value), BindsTo s fd ⟨[v], []⟩ [("_law_script", v)]) ∧ ∀ base : Heap, K.In base → base.Ns mainGlobals mg → FnOk P w K mg base CX0 61 f fd ["_law_script"] (spR K 1 Rlaw) := by
  have c0 : Ctx w K mg h := ⟨c.t, c.v, X, G⟩
  obtain ⟨fd, F⟩ := c.t.d.def_ 56 (d := d_law) rfl
  have F : FunD K d_law.name d_law.qual d_law.params d_law.body d_law.scope [] [] (He.ga K "law") fd := F
  have e := hfa.symm.trans (c0.glo 56)
  cases e
  have b := FunD.bindsA (ps := ["_law_script"]) F fun _ _ _ _ _ _ us hl => match us, hl with | [_], _ => rfl
  exact ⟨fd, fun s v => b s [v] rfl, fun base X2 G2 => law_ok ⟨c.t, c.v, X2, G2⟩ F⟩
end DL
theorem PySem.Challenge.cw_rootwheel_k88_whole_desk_looks_at_papers_holds : PySem.Challenge.rw_rootwheel_k88_whole_desk_looks_at_papers.Holds := by
  refine RW.join fun w K h mg f X G hfa c => ?_
  obtain ⟨fd, hb, hF⟩ := DL.facts (P := PySem.Challenge.rw_rootwheel_k88_whole_desk_looks_at_papers.prog) (w := w) X G hfa c
  exact ⟨fd, DL.spR K 1 DL.Rlaw, hb, fun H a ns hl hS => ⟨[.scr ns], .bl true, H, rfl, .mk ns hl, L2.Same.refl _, ⟨.ref a, [], rfl, ⟨a, rfl, hS⟩, rfl⟩, fun v G2 H2 _ i => i⟩, hF⟩
