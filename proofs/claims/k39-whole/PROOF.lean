import PyProof.Rows.All
import Wide.All
import OpenK.AllK
import Wide.FinOn
import KE.KStateDown
import Lean
import HandS.Base
import HandS.Call
import HandS.List
import HandS.Comp
import HandS.Ends
import HandS.More
import HandS.Words
import HandS.WordsExc
import HandS.Defaults
import HandS.Head0
import HandS.Head1
import HandS.Head2
import HandS.HeadEnd
import HandS.HeadHook1
import HandS.HeadHook2
import HandS.HeadHook3
import HandS.HeadHook4
import HandS.HeadWalk
import PySem.Challenge.RW_falsesums_k39_whole_least_degrees_beside
import KE.KDictKeyed
import KE.KDictLaw
import KE.KDictOf
import HandS.ForMost
import HandS.Walk
import HandS.Flow
import KE.KDictWalk
import KE.KDictDisplayH
import KE.KDictPairs
import KE.KDictCopyH
import KE.KEqDict
import KE.KPairComp
import KE.DataMinKey
import KE.DataCmp
import KE.SortKeyHeap
import HandS.OwnEq
import HandS.SortKw
import HandS.Lambda
import HandS.ExcValue
import HandS.SetFor
import HandS.Strs
import HandS.Codes
import HandS.IsInst
import HandS.Wide
import HandS.WideMore
import HandS.TupAny
import HandS.Exc
import HandS.Style
import HandS.Conv
import HandS.Zip
import HandS.TupLe
import KE.GoesMore
set_option Elab.async false
set_option linter.all false
set_option maxRecDepth 100000
set_option maxHeartbeats 0
namespace FS
open PySem PySem.Spec PyProof.Rows L2
def top (i : Nat) : Stmt := PySem.Challenge.pw_falsesums_k39_whole_least_degrees_beside.main.body.getD i (.Pass ⟨0, 0, 0, 0⟩)

abbrev s_is_whole : Stmt := top 16
def d_is_whole : He.DefD := { at_ := ("is_whole", none), name := "is_whole", qual := "is_whole", params := defArgs s_is_whole, body := defBody s_is_whole, scope := defScope s_is_whole }
abbrev s_is_prime : Stmt := top 17
def d_is_prime : He.DefD := { at_ := ("is_prime", none), name := "is_prime", qual := "is_prime", params := defArgs s_is_prime, body := defBody s_is_prime, scope := defScope s_is_prime }
abbrev s_lowest : Stmt := top 18
def d_lowest : He.DefD := { at_ := ("lowest", none), name := "lowest", qual := "lowest", params := defArgs s_lowest, body := defBody s_lowest, scope := defScope s_lowest }
abbrev s_Field_init : Stmt := inClass (top 19) 0
def d_Field_init : He.DefD := { at_ := ("Field", some "__init__"), name := "__init__", qual := "Field.__init__", params := defArgs s_Field_init, body := defBody s_Field_init, scope := defScope s_Field_init, dfl := [.int 0] }
abbrev s_Field_eq : Stmt := inClass (top 19) 1
def d_Field_eq : He.DefD := { at_ := ("Field", some "__eq__"), name := "__eq__", qual := "Field.__eq__", params := defArgs s_Field_eq, body := defBody s_Field_eq, scope := defScope s_Field_eq }
abbrev s_Field_prime : Stmt := inClass (top 19) 3
def d_Field_prime : He.DefD := { at_ := ("Field", some "prime"), name := "prime", qual := "Field.prime", params := defArgs s_Field_prime, body := defBody s_Field_prime, scope := defScope s_Field_prime }
abbrev s_Field_made : Stmt := inClass (top 19) 4
def d_Field_made : He.DefD := { at_ := ("Field", some "made"), name := "made", qual := "Field.made", params := defArgs s_Field_made, body := defBody s_Field_made, scope := defScope s_Field_made, dfl := [.int 1] }
abbrev s_Field_plus : Stmt := inClass (top 19) 5
def d_Field_plus : He.DefD := { at_ := ("Field", some "plus"), name := "plus", qual := "Field.plus", params := defArgs s_Field_plus, body := defBody s_Field_plus, scope := defScope s_Field_plus }
abbrev s_Field_minus : Stmt := inClass (top 19) 6
def d_Field_minus : He.DefD := { at_ := ("Field", some "minus"), name := "minus", qual := "Field.minus", params := defArgs s_Field_minus, body := defBody s_Field_minus, scope := defScope s_Field_minus }
abbrev s_Field_times : Stmt := inClass (top 19) 7
def d_Field_times : He.DefD := { at_ := ("Field", some "times"), name := "times", qual := "Field.times", params := defArgs s_Field_times, body := defBody s_Field_times, scope := defScope s_Field_times }
abbrev s_Field_over : Stmt := inClass (top 19) 8
def d_Field_over : He.DefD := { at_ := ("Field", some "over"), name := "over", qual := "Field.over", params := defArgs s_Field_over, body := defBody s_Field_over, scope := defScope s_Field_over }
abbrev s_Field_is_number : Stmt := inClass (top 19) 9
def d_Field_is_number : He.DefD := { at_ := ("Field", some "is_number"), name := "is_number", qual := "Field.is_number", params := defArgs s_Field_is_number, body := defBody s_Field_is_number, scope := defScope s_Field_is_number }
abbrev s_is_place : Stmt := top 22
def d_is_place : He.DefD := { at_ := ("is_place", none), name := "is_place", qual := "is_place", params := defArgs s_is_place, body := defBody s_is_place, scope := defScope s_is_place }
abbrev s_is_product : Stmt := top 23
def d_is_product : He.DefD := { at_ := ("is_product", none), name := "is_product", qual := "is_product", params := defArgs s_is_product, body := defBody s_is_product, scope := defScope s_is_product }
abbrev s_joined_product : Stmt := top 24
def d_joined_product : He.DefD := { at_ := ("joined_product", none), name := "joined_product", qual := "joined_product", params := defArgs s_joined_product, body := defBody s_joined_product, scope := defScope s_joined_product }
abbrev s_look_at_terms : Stmt := top 29
def d_look_at_terms : He.DefD := { at_ := ("look_at_terms", none), name := "look_at_terms", qual := "look_at_terms", params := defArgs s_look_at_terms, body := defBody s_look_at_terms, scope := defScope s_look_at_terms }
abbrev s_gathered : Stmt := top 30
def d_gathered : He.DefD := { at_ := ("gathered", none), name := "gathered", qual := "gathered", params := defArgs s_gathered, body := defBody s_gathered, scope := defScope s_gathered }
abbrev s_Sum_init : Stmt := inClass (top 31) 0
def d_Sum_init : He.DefD := { at_ := ("Sum", some "__init__"), name := "__init__", qual := "Sum.__init__", params := defArgs s_Sum_init, body := defBody s_Sum_init, scope := defScope s_Sum_init, dfl := [.non] }
abbrev s_Sum_field : Stmt := inClass (top 31) 5
def d_Sum_field : He.DefD := { at_ := ("Sum", some "field"), name := "field", qual := "Sum.field", params := defArgs s_Sum_field, body := defBody s_Sum_field, scope := defScope s_Sum_field }
abbrev s_Sum_terms : Stmt := inClass (top 31) 6
def d_Sum_terms : He.DefD := { at_ := ("Sum", some "terms"), name := "terms", qual := "Sum.terms", params := defArgs s_Sum_terms, body := defBody s_Sum_terms, scope := defScope s_Sum_terms }
abbrev s_Sum_degree : Stmt := inClass (top 31) 7
def d_Sum_degree : He.DefD := { at_ := ("Sum", some "degree"), name := "degree", qual := "Sum.degree", params := defArgs s_Sum_degree, body := defBody s_Sum_degree, scope := defScope s_Sum_degree }
abbrev s_Sum_reach : Stmt := inClass (top 31) 8
def d_Sum_reach : He.DefD := { at_ := ("Sum", some "reach"), name := "reach", qual := "Sum.reach", params := defArgs s_Sum_reach, body := defBody s_Sum_reach, scope := defScope s_Sum_reach }
abbrev s_Sum_renamed : Stmt := inClass (top 31) 13
def d_Sum_renamed : He.DefD := { at_ := ("Sum", some "renamed"), name := "renamed", qual := "Sum.renamed", params := defArgs s_Sum_renamed, body := defBody s_Sum_renamed, scope := defScope s_Sum_renamed }
abbrev s_Sum_worth : Stmt := inClass (top 31) 15
def d_Sum_worth : He.DefD := { at_ := ("Sum", some "worth"), name := "worth", qual := "Sum.worth", params := defArgs s_Sum_worth, body := defBody s_Sum_worth, scope := defScope s_Sum_worth }
abbrev s_is_wish : Stmt := top 34
def d_is_wish : He.DefD := { at_ := ("is_wish", none), name := "is_wish", qual := "is_wish", params := defArgs s_is_wish, body := defBody s_is_wish, scope := defScope s_is_wish }
abbrev s_look_at_wishes : Stmt := top 35
def d_look_at_wishes : He.DefD := { at_ := ("look_at_wishes", none), name := "look_at_wishes", qual := "look_at_wishes", params := defArgs s_look_at_wishes, body := defBody s_look_at_wishes, scope := defScope s_look_at_wishes }
abbrev s_is_order : Stmt := top 36
def d_is_order : He.DefD := { at_ := ("is_order", none), name := "is_order", qual := "is_order", params := defArgs s_is_order, body := defBody s_is_order, scope := defScope s_is_order }
abbrev s_System_init : Stmt := inClass (top 37) 0
def d_System_init : He.DefD := { at_ := ("System", some "__init__"), name := "__init__", qual := "System.__init__", params := defArgs s_System_init, body := defBody s_System_init, scope := defScope s_System_init, dfl := [.non] }
abbrev s_System_field : Stmt := inClass (top 37) 3
def d_System_field : He.DefD := { at_ := ("System", some "field"), name := "field", qual := "System.field", params := defArgs s_System_field, body := defBody s_System_field, scope := defScope s_System_field }
abbrev s_System_places : Stmt := inClass (top 37) 4
def d_System_places : He.DefD := { at_ := ("System", some "places"), name := "places", qual := "System.places", params := defArgs s_System_places, body := defBody s_System_places, scope := defScope s_System_places }
abbrev s_System_noughts : Stmt := inClass (top 37) 5
def d_System_noughts : He.DefD := { at_ := ("System", some "noughts"), name := "noughts", qual := "System.noughts", params := defArgs s_System_noughts, body := defBody s_System_noughts, scope := defScope s_System_noughts }
abbrev s_System_uppers : Stmt := inClass (top 37) 6
def d_System_uppers : He.DefD := { at_ := ("System", some "uppers"), name := "uppers", qual := "System.uppers", params := defArgs s_System_uppers, body := defBody s_System_uppers, scope := defScope s_System_uppers }
abbrev s_System_top : Stmt := inClass (top 37) 7
def d_System_top : He.DefD := { at_ := ("System", some "top"), name := "top", qual := "System.top", params := defArgs s_System_top, body := defBody s_System_top, scope := defScope s_System_top }
abbrev s_System_renamed : Stmt := inClass (top 37) 8
def d_System_renamed : He.DefD := { at_ := ("System", some "renamed"), name := "renamed", qual := "System.renamed", params := defArgs s_System_renamed, body := defBody s_System_renamed, scope := defScope s_System_renamed }
abbrev s_is_row : Stmt := top 40
def d_is_row : He.DefD := { at_ := ("is_row", none), name := "is_row", qual := "is_row", params := defArgs s_is_row, body := defBody s_is_row, scope := defScope s_is_row }
abbrev s_grants : Stmt := top 41
def d_grants : He.DefD := { at_ := ("grants", none), name := "grants", qual := "grants", params := defArgs s_grants, body := defBody s_grants, scope := defScope s_grants }
abbrev s_is_filling : Stmt := top 42
def d_is_filling : He.DefD := { at_ := ("is_filling", none), name := "is_filling", qual := "is_filling", params := defArgs s_is_filling, body := defBody s_is_filling, scope := defScope s_is_filling, dfl := [.bl false] }
abbrev s_rows_of : Stmt := top 43
def d_rows_of : He.DefD := { at_ := ("rows_of", none), name := "rows_of", qual := "rows_of", params := defArgs s_rows_of, body := defBody s_rows_of, scope := defScope s_rows_of }
abbrev s_fillings : Stmt := top 44
def d_fillings : He.DefD := { at_ := ("fillings", none), name := "fillings", qual := "fillings", params := defArgs s_fillings, body := defBody s_fillings, scope := defScope s_fillings, dfl := [.bl false] }
abbrev s_order_of : Stmt := top 46
def d_order_of : He.DefD := { at_ := ("order_of", none), name := "order_of", qual := "order_of", params := defArgs s_order_of, body := defBody s_order_of, scope := defScope s_order_of }
abbrev s_Lines_init : Stmt := inClass (top 47) 0
def d_Lines_init : He.DefD := { at_ := ("Lines", some "__init__"), name := "__init__", qual := "Lines.__init__", params := defArgs s_Lines_init, body := defBody s_Lines_init, scope := defScope s_Lines_init }
abbrev s_Lines_less : Stmt := inClass (top 47) 1
def d_Lines_less : He.DefD := { at_ := ("Lines", some "less"), name := "less", qual := "Lines.less", params := defArgs s_Lines_less, body := defBody s_Lines_less, scope := defScope s_Lines_less }
abbrev s_Lines_put : Stmt := inClass (top 47) 2
def d_Lines_put : He.DefD := { at_ := ("Lines", some "put"), name := "put", qual := "Lines.put", params := defArgs s_Lines_put, body := defBody s_Lines_put, scope := defScope s_Lines_put }
abbrev s_Lines_made_of : Stmt := inClass (top 47) 3
def d_Lines_made_of : He.DefD := { at_ := ("Lines", some "made_of"), name := "made_of", qual := "Lines.made_of", params := defArgs s_Lines_made_of, body := defBody s_Lines_made_of, scope := defScope s_Lines_made_of }
abbrev s_Lines_nought_on_all : Stmt := inClass (top 47) 5
def d_Lines_nought_on_all : He.DefD := { at_ := ("Lines", some "nought_on_all"), name := "nought_on_all", qual := "Lines.nought_on_all", params := defArgs s_Lines_nought_on_all, body := defBody s_Lines_nought_on_all, scope := defScope s_Lines_nought_on_all }
abbrev s_look_at_degree : Stmt := top 50
def d_look_at_degree : He.DefD := { at_ := ("look_at_degree", none), name := "look_at_degree", qual := "look_at_degree", params := defArgs s_look_at_degree, body := defBody s_look_at_degree, scope := defScope s_look_at_degree }
abbrev s_products_many : Stmt := top 51
def d_products_many : He.DefD := { at_ := ("products_many", none), name := "products_many", qual := "products_many", params := defArgs s_products_many, body := defBody s_products_many, scope := defScope s_products_many }
abbrev s_products_of : Stmt := top 52
def d_products_of : He.DefD := { at_ := ("products_of", none), name := "products_of", qual := "products_of", params := defArgs s_products_of, body := defBody s_products_of, scope := defScope s_products_of }
abbrev s_pairs_of : Stmt := top 56
def d_pairs_of : He.DefD := { at_ := ("pairs_of", none), name := "pairs_of", qual := "pairs_of", params := defArgs s_pairs_of, body := defBody s_pairs_of, scope := defScope s_pairs_of }
abbrev s_look_at_many : Stmt := top 57
def d_look_at_many : He.DefD := { at_ := ("look_at_many", none), name := "look_at_many", qual := "look_at_many", params := defArgs s_look_at_many, body := defBody s_look_at_many, scope := defScope s_look_at_many }
abbrev s_beside : Stmt := top 58
def d_beside : He.DefD := { at_ := ("beside", none), name := "beside", qual := "beside", params := defArgs s_beside, body := defBody s_beside, scope := defScope s_beside }
abbrev s_lines_of : Stmt := top 59
def d_lines_of : He.DefD := { at_ := ("lines_of", none), name := "lines_of", qual := "lines_of", params := defArgs s_lines_of, body := defBody s_lines_of, scope := defScope s_lines_of }
abbrev s_showing_by : Stmt := top 60
def d_showing_by : He.DefD := { at_ := ("showing_by", none), name := "showing_by", qual := "showing_by", params := defArgs s_showing_by, body := defBody s_showing_by, scope := defScope s_showing_by }
abbrev s_told : Stmt := top 61
def d_told : He.DefD := { at_ := ("told", none), name := "told", qual := "told", params := defArgs s_told, body := defBody s_told, scope := defScope s_told }
abbrev s_least : Stmt := top 64
def d_least : He.DefD := { at_ := ("least", none), name := "least", qual := "least", params := defArgs s_least, body := defBody s_least, scope := defScope s_least }
abbrev s_law_pool : Stmt := top 66
def d_law_pool : He.DefD := { at_ := ("_law_pool", none), name := "_law_pool", qual := "_law_pool", params := defArgs s_law_pool, body := defBody s_law_pool, scope := defScope s_law_pool }
abbrev s_law_take : Stmt := top 67
def d_law_take : He.DefD := { at_ := ("_law_take", none), name := "_law_take", qual := "_law_take", params := defArgs s_law_take, body := defBody s_law_take, scope := defScope s_law_take }
abbrev s_law_low : Stmt := top 68
def d_law_low : He.DefD := { at_ := ("_law_low", none), name := "_law_low", qual := "_law_low", params := defArgs s_law_low, body := defBody s_law_low, scope := defScope s_law_low }
abbrev s_law_made : Stmt := top 69
def d_law_made : He.DefD := { at_ := ("_law_made", none), name := "_law_made", qual := "_law_made", params := defArgs s_law_made, body := defBody s_law_made, scope := defScope s_law_made }
abbrev s_law_plus : Stmt := top 70
def d_law_plus : He.DefD := { at_ := ("_law_plus", none), name := "_law_plus", qual := "_law_plus", params := defArgs s_law_plus, body := defBody s_law_plus, scope := defScope s_law_plus }
abbrev s_law_times : Stmt := top 71
def d_law_times : He.DefD := { at_ := ("_law_times", none), name := "_law_times", qual := "_law_times", params := defArgs s_law_times, body := defBody s_law_times, scope := defScope s_law_times }
abbrev s_law_row_key : Stmt := top 72
def d_law_row_key : He.DefD := { at_ := ("_law_row_key", none), name := "_law_row_key", qual := "_law_row_key", params := defArgs s_law_row_key, body := defBody s_law_row_key, scope := defScope s_law_row_key }
abbrev s_law_gathered : Stmt := top 73
def d_law_gathered : He.DefD := { at_ := ("_law_gathered", none), name := "_law_gathered", qual := "_law_gathered", params := defArgs s_law_gathered, body := defBody s_law_gathered, scope := defScope s_law_gathered }
abbrev s_law_added : Stmt := top 74
def d_law_added : He.DefD := { at_ := ("_law_added", none), name := "_law_added", qual := "_law_added", params := defArgs s_law_added, body := defBody s_law_added, scope := defScope s_law_added }
abbrev s_law_multiplied : Stmt := top 75
def d_law_multiplied : He.DefD := { at_ := ("_law_multiplied", none), name := "_law_multiplied", qual := "_law_multiplied", params := defArgs s_law_multiplied, body := defBody s_law_multiplied, scope := defScope s_law_multiplied }
abbrev s_law_prime : Stmt := top 76
def d_law_prime : He.DefD := { at_ := ("_law_prime", none), name := "_law_prime", qual := "_law_prime", params := defArgs s_law_prime, body := defBody s_law_prime, scope := defScope s_law_prime }
abbrev s_law_number : Stmt := top 77
def d_law_number : He.DefD := { at_ := ("_law_number", none), name := "_law_number", qual := "_law_number", params := defArgs s_law_number, body := defBody s_law_number, scope := defScope s_law_number }
abbrev s_law_product : Stmt := top 78
def d_law_product : He.DefD := { at_ := ("_law_product", none), name := "_law_product", qual := "_law_product", params := defArgs s_law_product, body := defBody s_law_product, scope := defScope s_law_product }
abbrev s_law_terms : Stmt := top 79
def d_law_terms : He.DefD := { at_ := ("_law_terms", none), name := "_law_terms", qual := "_law_terms", params := defArgs s_law_terms, body := defBody s_law_terms, scope := defScope s_law_terms }
abbrev s_law_system : Stmt := top 80
def d_law_system : He.DefD := { at_ := ("_law_system", none), name := "_law_system", qual := "_law_system", params := defArgs s_law_system, body := defBody s_law_system, scope := defScope s_law_system }
abbrev s_law_worth : Stmt := top 81
def d_law_worth : He.DefD := { at_ := ("_law_worth", none), name := "_law_worth", qual := "_law_worth", params := defArgs s_law_worth, body := defBody s_law_worth, scope := defScope s_law_worth }
abbrev s_law_planted : Stmt := top 82
def d_law_planted : He.DefD := { at_ := ("_law_planted", none), name := "_law_planted", qual := "_law_planted", params := defArgs s_law_planted, body := defBody s_law_planted, scope := defScope s_law_planted }
abbrev s_law_small_wishes : Stmt := top 83
def d_law_small_wishes : He.DefD := { at_ := ("_law_small_wishes", none), name := "_law_small_wishes", qual := "_law_small_wishes", params := defArgs s_law_small_wishes, body := defBody s_law_small_wishes, scope := defScope s_law_small_wishes }
abbrev s_law_least_of : Stmt := top 84
def d_law_least_of : He.DefD := { at_ := ("_law_least_of", none), name := "_law_least_of", qual := "_law_least_of", params := defArgs s_law_least_of, body := defBody s_law_least_of, scope := defScope s_law_least_of }
abbrev s_law_ends : Stmt := top 85
def d_law_ends : He.DefD := { at_ := ("_law_ends", none), name := "_law_ends", qual := "_law_ends", params := defArgs s_law_ends, body := defBody s_law_ends, scope := defScope s_law_ends }
abbrev s_law_led_right : Stmt := top 86
def d_law_led_right : He.DefD := { at_ := ("_law_led_right", none), name := "_law_led_right", qual := "_law_led_right", params := defArgs s_law_led_right, body := defBody s_law_led_right, scope := defScope s_law_led_right }
abbrev s_law : Stmt := top 87
def d_law : He.DefD := { at_ := ("law", none), name := "law", qual := "law", params := defArgs s_law, body := defBody s_law, scope := defScope s_law }
def fn : List He.DefD := ([d_is_whole, d_is_prime, d_lowest, d_Field_init, d_Field_eq, d_Field_prime, d_Field_made, d_Field_plus, d_Field_minus, d_Field_times, d_Field_over, d_Field_is_number, d_is_place, d_is_product, d_joined_product, d_look_at_terms, d_gathered, d_Sum_init, d_Sum_field, d_Sum_terms, d_Sum_degree, d_Sum_reach, d_Sum_renamed, d_Sum_worth, d_is_wish, d_look_at_wishes, d_is_order, d_System_init, d_System_field, d_System_places, d_System_noughts, d_System_uppers, d_System_top, d_System_renamed, d_is_row, d_grants, d_is_filling, d_rows_of, d_fillings, d_order_of] : List He.DefD) ++ ([d_Lines_init, d_Lines_less, d_Lines_put, d_Lines_made_of, d_Lines_nought_on_all, d_look_at_degree, d_products_many, d_products_of, d_pairs_of, d_look_at_many, d_beside, d_lines_of, d_showing_by, d_told, d_least, d_law_pool, d_law_take, d_law_low, d_law_made, d_law_plus, d_law_times, d_law_row_key, d_law_gathered, d_law_added, d_law_multiplied, d_law_prime, d_law_number, d_law_product, d_law_terms, d_law_system, d_law_worth, d_law_planted, d_law_small_wishes, d_law_least_of, d_law_ends, d_law_led_right, d_law] : List He.DefD)
def fa : List He.Fa := ([.glo "is_whole", .glo "is_prime", .glo "lowest", .meth "Field" "__eq__", .meth "Field" "prime", .meth "Field" "made", .meth "Field" "plus", .meth "Field" "minus", .meth "Field" "times", .meth "Field" "over", .meth "Field" "is_number", .glo "is_place", .glo "is_product", .glo "joined_product", .glo "look_at_terms", .glo "gathered", .meth "Sum" "field", .meth "Sum" "terms", .meth "Sum" "degree", .meth "Sum" "reach", .meth "Sum" "renamed", .meth "Sum" "worth", .glo "is_wish", .glo "look_at_wishes", .glo "is_order", .meth "System" "field", .meth "System" "places", .meth "System" "noughts", .meth "System" "uppers", .meth "System" "top", .meth "System" "renamed", .glo "is_row", .glo "grants", .glo "is_filling", .glo "rows_of", .glo "fillings", .glo "order_of", .meth "Lines" "less", .meth "Lines" "put", .meth "Lines" "made_of"] : List He.Fa) ++ ([.meth "Lines" "nought_on_all", .glo "look_at_degree", .glo "products_many", .glo "products_of", .glo "pairs_of", .glo "look_at_many", .glo "beside", .glo "lines_of", .glo "showing_by", .glo "told", .glo "least", .glo "_law_pool", .glo "_law_take", .glo "_law_low", .glo "_law_made", .glo "_law_plus", .glo "_law_times", .glo "_law_row_key", .glo "_law_gathered", .glo "_law_added", .glo "_law_multiplied", .glo "_law_prime", .glo "_law_number", .glo "_law_product", .glo "_law_terms", .glo "_law_system", .glo "_law_worth", .glo "_law_planted", .glo "_law_small_wishes", .glo "_law_least_of", .glo "_law_ends", .glo "_law_led_right", .glo "law", .glo "Field", .cls "Field", .mkr "Field", .keep "Field", .noat "Field" "own_prime", .glo "Sum", .cls "Sum"] : List He.Fa) ++ ([.mkr "Sum", .keep "Sum", .noat "Sum" "own_field", .noat "Sum" "row", .glo "System", .cls "System", .mkr "System", .keep "System", .noat "System" "own_field", .noat "System" "many_places", .noat "System" "nought_sums", .noat "System" "upper_sums", .glo "Lines", .cls "Lines", .mkr "Lines", .keep "Lines", .noat "Lines" "line_field", .noat "Lines" "by_head", .int "MOST_PRIME" 97, .int "MOST_PLACES_sums" 60, .int "MOST_WISHES" 200, .int "MOST_WALKED" 12, .int "MOST_DEGREE" 300, .int "MOST_PRODUCTS" 600, .int "MOST_PAIRS" 2000, .int "MOST_PLACES_leasts" 12, .free "isinstance", .free "int", .free "bool", .free "range", .free "abs", .free "list", .free "tuple", .free "len", .free "enumerate", .free "sorted", .free "set", .free "max", .free "min", .free "dict"] : List He.Fa) ++ ([.free "all", .glo "ZERO", .glo "ONE"] : List He.Fa)
def loose : List PySem.Str := (["_wall", "FalseError", "NoField", "NoNumber", "Unlike", "NoOrder", "NoFilling", "NoDegree", "TooMany", "NoSum", "NoSystem", "MOST_PRIME"] : List PySem.Str) ++ (["ZERO", "ONE", "is_whole", "is_prime", "lowest", "Field", "MOST_PLACES_sums", "is_place", "is_product", "joined_product", "number_text", "term_text"] : List PySem.Str) ++ (["written", "plain_names", "look_at_terms", "gathered", "Sum", "MOST_WISHES", "is_wish", "look_at_wishes", "is_order", "System", "MOST_WALKED", "is_row"] : List PySem.Str) ++ (["grants", "is_filling", "rows_of", "fillings", "order_of", "Lines", "MOST_DEGREE", "look_at_degree", "products_many", "products_of", "MOST_PRODUCTS", "MOST_PAIRS"] : List PySem.Str) ++ (["pairs_of", "look_at_many", "beside", "lines_of", "showing_by", "told", "MOST_PLACES_leasts", "least", "_law_pool", "_law_take", "_law_low", "_law_made"] : List PySem.Str) ++ (["_law_plus", "_law_times", "_law_row_key", "_law_gathered", "_law_added", "_law_multiplied", "_law_prime", "_law_number", "_law_product", "_law_terms", "_law_system", "_law_worth"] : List PySem.Str) ++ (["_law_planted", "_law_small_wishes", "_law_least_of", "_law_ends", "_law_led_right"] : List PySem.Str)
/-- what isinstance asks of an own class -/
def ownB (K : PySem.W.Frag) (x : PySem.Str) : Bool :=
  He.eqO (PySem.W.findIn K (.ref (He.ga K x)) "__class__") (some (some (.builtin "object.__class__"))) &&
  (He.eqO (PySem.W.specialIn K (.builtin "object.__class__") "__get__") (some (some (.builtin "getset_descriptor.__get__"))) &&
  (decide (PySem.W.takesIn K (.builtin "object.__class__") = some true) &&
  decide (PySem.W.mroIn K (He.ga K x) (.type "object") = some true)))
def more (K : PySem.W.Frag) : Bool := He.tupB K "ZERO" [.int 0, .int 1] && (He.tupB K "ONE" [.int 1, .int 1] &&
  (ownB K "Field" && (ownB K "Sum" && (ownB K "System" && ownB K "Lines"))))
abbrev R : PySem.W.OpenRow := PySem.W.OpenLaw.row PySem.Challenge.rw_falsesums_k39_whole_least_degrees_beside
def tf : List He.Defn := [("gathered", none)]
end FS
set_option Elab.async false
set_option linter.all false
set_option maxRecDepth 100000
set_option maxHeartbeats 0
namespace FS
open PySem PySem.Spec PyProof.Rows L2
/-- what an object leads to: a namespace's things, a class's namespace, a def's code and defaults -/
def refsK (o : Obj) : List Addr := match o.data with
  | .func fd => He.refV fd.code ++ He.refV fd.defaults
  | .cls cd => [cd.ns]
  | .dict es _ => es.toList.flatMap fun e => He.refV e.val
  | _ => []
def lv (g : Addr → Option Obj) (as : List Addr) : List Addr := as.flatMap fun a => match g a with
  | some o => refsK o
  | none => []
def asK (g : Addr → Option Obj) : List Addr :=
  mainGlobals :: (lv g [mainGlobals] ++ (lv g (lv g [mainGlobals]) ++ (lv g (lv g (lv g [mainGlobals])) ++ lv g (lv g (lv g (lv g [mainGlobals]))))))
abbrev KG (g : Addr → Option Obj) : PySem.W.Frag := He.frT g (asK g)
def obG (g : Addr → Option Obj) : He.AlX := (He.obsT fa fn [] (KG g), more (KG g) && He.tabsB g tf (KG g))
theorem obG_says {w : World} {h : Heap} (e : obG h.get? = He.valX fn [] w) : He.SaysX fa fn [] tf more w h (KG h.get?) := by
  have e2 := congrArg Prod.snd e
  obtain ⟨m1, m2⟩ := He.ba (show (more (KG h.get?) && He.tabsB h.get? tf (KG h.get?)) = true from e2)
  have all : ∀ p ∈ tf, PySem.W.codeHdIn (KG h.get?) (He.cT (KG h.get?) p).1 (He.cT (KG h.get?) p).2 = true ∧ ∃ o, h.get? (He.cT (KG h.get?) p).2 = some o ∧ He.emptyTab o = true := by
    intro p hp
    obtain ⟨k1, k2⟩ := He.ba (List.all_eq_true.mp m2 p hp)
    refine ⟨k1, ?_⟩
    generalize h.get? (He.cT (KG h.get?) p).2 = x at k2
    match x, k2 with
    | some o, k2 => exact ⟨o, rfl, k2⟩
    | none, k2 => cases k2
  refine { t := congrArg Prod.fst e, more := m1, hd := fun p hp => (all p hp).1, out := ?_, empty := ?_ }
  · intro p hp
    obtain ⟨_, o, g1, g2⟩ := all p hp
    exact He.frT_none g1 g2
  · intro p hp
    obtain ⟨_, o, g1, g2⟩ := all p hp
    exact g1.trans (congrArg some (He.emptyTab_eq g2))
def hk : PySem.W.Hook where
  α := He.AlX
  obs := fun s => obG s.heap.get?
  val := fun w => He.valX fn [] w
  says := fun w h => ∃ K : PySem.W.Frag, K.In h ∧ He.SaysX fa fn [] tf more w h K
  of := fun _ _ e => ⟨_, He.frT_in, obG_says e⟩
  keeps := fun _ _ _ ⟨K, i, c⟩ k => ⟨K, i.keeps k, { t := c.t, more := c.more, hd := c.hd, out := c.out, empty := fun p hp => k _ _ (c.empty p hp) }⟩
def ob (s : PySem.W.SharedT) : He.AlX := obG (HandSHeadRun.getT s)
theorem ob_eq (s : PySem.W.SharedT) : ob s = hk.obs s.abs := congrArg obG (funext (HandSHeadRun.getT_eq s))
theorem run (w : World) : HandSHeadRun.RunEq R (PySem.W.view R.prog [87]) hk ob 12000 loose w := by
  intro os
  kernel_rfl
end FS
set_option Elab.async false
set_option linter.all false
set_option maxRecDepth 100000
set_option maxHeartbeats 4000000
/-! dicts whose keys are nested tuples, over the hand layer -/
namespace FS
open PySem PySem.Spec PyProof.Rows L2
abbrev NK := NestedKey
/-- a key, where its tuple stands, the value -/
abbrev Ent := NK × Addr × V
abbrev EP : List Ent → List (NK × Addr × Value) → Prop := Paired fun p q => p.1 = q.1 ∧ p.2.1 = q.2.1 ∧ RelV p.2.2 q.2.2
def DPhi (P : Program) (w : World) (d : Addr) (xs : List Ent) : Heap → Prop := fun h =>
  xs.length ≤ sizeLine ∧ (d == sysModules) = false ∧ ∃ ys, EP xs ys ∧ ∃ o es ep, h.get? d = some o ∧ o.ExactDict ∧ o.data = .dict es ep ∧ es.toList = ys.map (entryOfKey (nestedKind P w)) ∧ (ys.map (·.1)).Nodup
def DO (P : Program) (w : World) (d : Addr) (xs : List Ent) : HO := .ext (DPhi P w d xs)
theorem dphi_stay {P : Program} {w : World} {d : Addr} {xs : List Ent} (h1 h2 : Heap) (x : DPhi P w d xs h1) (k : ∀ o, h1.get? d = some o → h2.get? d = some o) : DPhi P w d xs h2 := by
  obtain ⟨z, y, ys, r, o, es, ep, a, b⟩ := x
  exact ⟨z, y, ys, r, o, es, ep, k _ a, b⟩
theorem do_ok {P : Program} {w : World} {H : Hp} {h : Heap} {d : Addr} {xs : List Ent} (x : DPhi P w d xs h) : ObjOk P w H h d (DO P w d xs) := by
  refine ⟨x, ?_, fun h1 h2 a b => dphi_stay h1 h2 a b⟩
  obtain ⟨_, _, ys, _, o, _, _, a, _⟩ := x
  exact ⟨o, a⟩

/-! ### keys -/
mutual
inductive KeyV (K : PySem.W.Frag) (H : Hp) : V → NestedKey → Prop
  | num (i : Int) : KeyV K H (.int i) (.num i)
  | tup {a : Addr} {xs : List V} {ks : List NestedKey} : SqT K H a xs → KeysV K H xs ks → KeyV K H (.ref a) (.tup ks)
inductive KeysV (K : PySem.W.Frag) (H : Hp) : List V → List NestedKey → Prop
  | nil : KeysV K H [] []
  | cons {x : V} {k : NestedKey} {xs : List V} {ks : List NestedKey} : KeyV K H x k → KeysV K H xs ks → KeysV K H (x :: xs) (k :: ks)
end
/-- the tuples stay -/
structure Tups (H H' : Hp) : Prop where
  tup : ∀ b xs, H b = some (.tup xs) → H' b = some (.tup xs)
  frz : ∀ b o xs, H b = some (.frz o (.tup xs)) → H' b = some (.frz o (.tup xs))
theorem Tups.refl (H : Hp) : Tups H H := ⟨fun _ _ h => h, fun _ _ _ h => h⟩
theorem Tups.trans {H H1 H2 : Hp} (a : Tups H H1) (b : Tups H1 H2) : Tups H H2 := ⟨fun c xs h => b.tup c xs (a.tup c xs h), fun c o xs h => b.frz c o xs (a.frz c o xs h)⟩
theorem Tups.sqt {K : PySem.W.Frag} {H H' : Hp} (t : Tups H H') {a : Addr} {xs : List V} (h : SqT K H a xs) : SqT K H' a xs := by
  rcases h with (h | ⟨o, h⟩) | h
  · exact .inl (.inl (t.tup _ _ h))
  · exact .inl (.inr ⟨o, t.frz _ _ _ h⟩)
  · exact .inr h
/-- what is no tuple may change -/
def NoTup (o : Option HO) : Prop := ∀ xs, o ≠ some (.tup xs) ∧ ∀ ob, o ≠ some (.frz ob (.tup xs))
theorem Tups.upd {H : Hp} {d : Addr} {o : HO} (h : NoTup (H d)) : Tups H (upd H d o) := by
  refine ⟨fun b xs e => ?_, fun b ob xs e => ?_⟩
  · rw [upd_ne (fun z => (h xs).1 (by rw [← z]; exact e))]; exact e
  · rw [upd_ne (fun z => (h xs).2 ob (by rw [← z]; exact e))]; exact e
theorem noTup_none {H : Hp} {d : Addr} (h : H d = none) : NoTup (H d) := by
  intro xs
  rw [h]
  constructor
  · intro z
    cases z
  · intro ob z
    cases z
mutual
theorem KeyV.mono {K : PySem.W.Frag} {H H' : Hp} (t : Tups H H') : ∀ {x : V} {k : NestedKey}, KeyV K H x k → KeyV K H' x k
  | _, _, .num i => .num i
  | _, _, .tup h r => .tup (t.sqt h) (KeysV.mono t r)
theorem KeysV.mono {K : PySem.W.Frag} {H H' : Hp} (t : Tups H H') : ∀ {xs : List V} {ks : List NestedKey}, KeysV K H xs ks → KeysV K H' xs ks
  | _, _, .nil => .nil
  | _, _, .cons h r => .cons (h.mono t) (KeysV.mono t r)
end
section
variable {X : Cx} {pins : List (Addr × Obj)} {σ : L2.St} {H : Hp} {s : Shared}
mutual
theorem keyV_is (I : Inv X pins σ H s) : ∀ {x : V} {k : NestedKey} {u : Value}, KeyV X.K H x k → RelV x u → NestedIs s.heap k u
  | _, _, _, .num i, r => by
    obtain ⟨t, e⟩ := (show ∃ t, _ = Value.int i t from r)
    rw [e]
    exact .int i t
  | _, _, _, .tup h q, r => by
    cases r
    obtain ⟨its, rv, ⟨o, h1, h2, n, h3⟩, _⟩ := I.tuple h
    exact .tup h1 h2 h3 (keysV_is I q rv)
theorem keysV_is (I : Inv X pins σ H s) : ∀ {xs : List V} {ks : List NestedKey} {us : List Value}, KeysV X.K H xs ks → Vals xs us → NestedAll s.heap ks us
  | _, _, _, .nil, .nil => .nil
  | _, _, _, .cons h q, .cons r t => .cons (keyV_is I h r) (keysV_is I q t)
end
end

/-! ### entries -/
def kvE (xs : List Ent) : List (NK × V) := xs.map fun e => (e.1, e.2.2)
/-- the entries' keys are what stands at their addresses, and not too deep -/
def KeysOk (K : PySem.W.Frag) (H : Hp) (xs : List Ent) : Prop := ∀ e ∈ xs, KeyV K H (.ref e.2.1) e.1 ∧ e.1.depth ≤ 8
theorem KeysOk.mono {K : PySem.W.Frag} {H H' : Hp} {xs : List Ent} (t : Tups H H') (h : KeysOk K H xs) : KeysOk K H' xs := fun e he => ⟨(h e he).1.mono t, (h e he).2⟩
def putE (xs : List Ent) (k : NK) (a : Addr) (v : V) : List Ent :=
  if xs.any (fun e => decide (e.1 = k)) then xs.map fun e => if e.1 = k then (e.1, e.2.1, v) else e else xs ++ [(k, a, v)]
def dropE (xs : List Ent) (k : NK) : List Ent := xs.filter fun e => decide (e.1 ≠ k)
theorem kvE_any (xs : List Ent) (k : NK) : ((kvE xs).any fun kv => decide (kv.1 = k)) = xs.any fun e => decide (e.1 = k) := by
  unfold kvE
  rw [List.any_map]
  rfl
theorem kvE_put (xs : List Ent) (k : NK) (a : Addr) (v : V) : kvE (putE xs k a v) = putK (kvE xs) k v := by
  unfold putE putK
  rw [kvE_any]
  split
  · unfold kvE
    rw [List.map_map, List.map_map]
    refine List.map_congr_left fun e _ => ?_
    by_cases h : e.1 = k <;> simp [h]
  · simp [kvE]
theorem kvE_drop (xs : List Ent) (k : NK) : kvE (dropE xs k) = dropK (kvE xs) k := by
  unfold dropE dropK kvE
  rw [List.filter_map]
  rfl
theorem ep_any {xs : List Ent} {ys : List (NK × Addr × Value)} (r : EP xs ys) (k : NK) : (xs.any fun e => decide (e.1 = k)) = (atKey ys k).isSome := by
  induction r with
  | nil => rfl
  | @cons p q ps qs h t ih =>
    by_cases e : q.1 = k
    · simp [atKey, h.1, e]
    · have : ¬ p.1 = k := by rw [h.1]; exact e
      simp only [List.any_cons, decide_eq_false this, Bool.false_or, ih]
      simp [atKey, List.find?_cons, e]
theorem ep_val {xs : List Ent} {ys : List (NK × Addr × Value)} (r : EP xs ys) (k : NK) : RelO (valV (kvE xs) k) ((atKey ys k).map (·.2)) := by
  induction r with
  | nil => exact True.intro
  | @cons p q ps qs h t ih =>
    by_cases e : q.1 = k
    · have e' : p.1 = k := by rw [h.1]; exact e
      have h1 : valV (kvE (p :: ps)) k = some p.2.2 := valV_pos (p := (p.1, p.2.2)) e'
      have h2 : (atKey (q :: qs) k).map (·.2) = some q.2.2 := by simp [atKey, List.find?_cons, e]
      rw [h1, h2]
      exact h.2.2
    · have e' : ¬ p.1 = k := by rw [h.1]; exact e
      have h1 : valV (kvE (p :: ps)) k = valV (kvE ps) k := valV_neg (p := (p.1, p.2.2)) e'
      have h2 : atKey (q :: qs) k = atKey qs k := by simp [atKey, List.find?_cons, e]
      rw [h1, h2]
      exact ih
theorem ep_map {xs : List Ent} {ys : List (NK × Addr × Value)} (r : EP xs ys) (k : NK) {v : V} {u : Value} (rv : RelV v u) :
    EP (xs.map fun e => if e.1 = k then (e.1, e.2.1, v) else e) (ys.map (putAt k u)) := by
  induction r with
  | nil => exact .nil
  | @cons p q ps qs h t ih =>
    refine .cons ?_ ih
    by_cases e : q.1 = k
    · have e' : p.1 = k := by rw [h.1]; exact e
      simp only [putAt, e, e', if_true]
      exact ⟨True.intro, h.2.1, rv⟩
    · have e' : ¬ p.1 = k := by rw [h.1]; exact e
      simp only [putAt, e, e', if_false]
      exact h
theorem paired_append {α β : Type} {F : α → β → Prop} : ∀ {l₁ l₂ : List α} {m₁ m₂ : List β}, Paired F l₁ m₁ → Paired F l₂ m₂ → Paired F (l₁ ++ l₂) (m₁ ++ m₂)
  | _, _, _, _, .nil, s => s
  | _, _, _, _, .cons r t, s => .cons r (paired_append t s)
theorem ep_put {xs : List Ent} {ys : List (NK × Addr × Value)} (r : EP xs ys) (k : NK) (a : Addr) {v : V} {u : Value} (rv : RelV v u) : EP (putE xs k a v) (storedH ys k a u) := by
  unfold putE storedH
  rw [ep_any r]
  split
  · exact ep_map r k rv
  · exact paired_append r (.cons ⟨rfl, rfl, rv⟩ .nil)
theorem ep_drop {xs : List Ent} {ys : List (NK × Addr × Value)} (r : EP xs ys) (k : NK) : EP (dropE xs k) (withoutH ys k) := by
  induction r with
  | nil => exact .nil
  | @cons p q ps qs h t ih =>
    by_cases e : q.1 = k
    · have e' : p.1 = k := by rw [h.1]; exact e
      have h1 : dropE (p :: ps) k = dropE ps k := by simp [dropE, List.filter_cons, e']
      have h2 : withoutH (q :: qs) k = withoutH qs k := by simp [withoutH, List.filter_cons, e]
      rw [h1, h2]
      exact ih
    · have e' : ¬ p.1 = k := by rw [h.1]; exact e
      have h1 : dropE (p :: ps) k = p :: dropE ps k := by simp [dropE, List.filter_cons, e']
      have h2 : withoutH (q :: qs) k = q :: withoutH qs k := by simp [withoutH, List.filter_cons, e]
      rw [h1, h2]
      exact .cons h ih
theorem length_putE (xs : List Ent) (k : NK) (a : Addr) (v : V) : (putE xs k a v).length ≤ xs.length + 1 := by
  unfold putE
  split
  · rw [List.length_map]; omega
  · rw [List.length_append]; exact Nat.le_refl _
theorem keysOk_put {K : PySem.W.Frag} {H : Hp} {xs : List Ent} {k : NK} {a : Addr} {v : V} (h : KeysOk K H xs) (hk : KeyV K H (.ref a) k) (hd : k.depth ≤ 8) : KeysOk K H (putE xs k a v) := by
  intro e he
  unfold putE at he
  split at he
  · obtain ⟨f, hf, rfl⟩ := List.mem_map.mp he
    by_cases z : f.1 = k
    · simp only [z, if_true]
      have := h f hf
      rw [z] at this
      exact this
    · simp only [z, if_false]
      exact h f hf
  · rcases List.mem_append.mp he with he | he
    · exact h e he
    · rw [List.mem_singleton.mp he]
      exact ⟨hk, hd⟩
theorem keysOk_drop {K : PySem.W.Frag} {H : Hp} {xs : List Ent} {k : NK} (h : KeysOk K H xs) : KeysOk K H (dropE xs k) := fun e he => h e (List.mem_filter.mp he).1

/-! ### what stands at d -/
/-- a dict that may be read: tracked or locked -/
def DRd (X : Cx) (H : Hp) (d : Addr) (kvs : List (NK × V)) : Prop := ∃ xs : List Ent, kvE xs = kvs ∧ Rd H d (DO X.prog X.w d xs) ∧ KeysOk X.K H xs
/-- a dict that may be written -/
def DAt (P : Program) (w : World) (K : PySem.W.Frag) (H : Hp) (d : Addr) (kvs : List (NK × V)) : Prop := ∃ xs : List Ent, kvE xs = kvs ∧ H d = some (DO P w d xs) ∧ KeysOk K H xs
theorem DAt.rd {X : Cx} {H : Hp} {d : Addr} {kvs : List (NK × V)} (h : DAt X.prog X.w X.K H d kvs) : DRd X H d kvs := let ⟨xs, a, b, c⟩ := h; ⟨xs, a, .inl b, c⟩
section
variable {X : Cx} {pins : List (Addr × Obj)} {σ : L2.St} {H : Hp} {s : Shared} {d : Addr} {xs : List Ent}
theorem dict_of (I : Inv X pins σ H s) (e : Rd H d (DO X.prog X.w d xs)) (ko : KeysOk X.K H xs) :
    xs.length ≤ sizeLine ∧ (d == sysModules) = false ∧ ∃ ys, EP xs ys ∧ s.heap.DictOfH (nestedKind X.prog X.w) d ys := by
  obtain ⟨⟨z, y, ys, r, o, es, ep, a, b, c, f, g⟩, _, _⟩ := (show ObjOk X.prog X.w H s.heap d (DO X.prog X.w d xs) from e.ok I.hok)
  refine ⟨z, y, ys, r, o, es, ep, a, b, c, f, ?_, g⟩
  have all : ∀ {l : List Ent} {m : List (NK × Addr × Value)}, EP l m → KeysOk X.K H l → ∀ x ∈ m, (nestedKind X.prog X.w).is s.heap x.1 x.2.1 := by
    intro l m q
    induction q with
    | nil => intro _ x hx; exact nomatch hx
    | @cons p q ps qs hq t ih =>
      intro kk x hx
      rcases List.mem_cons.mp hx with e | hx
      · subst e
        have := kk p List.mem_cons_self
        rw [hq.1, hq.2.1] at this
        exact ⟨keyV_is I this.1 rfl, this.2⟩
      · exact ih (fun e he => kk e (List.mem_cons_of_mem _ he)) x hx
  exact all r ko
theorem key_is (I : Inv X pins σ H s) {a : Addr} {k : NK} (h : KeyV X.K H (.ref a) k) (hd : k.depth ≤ 8) : (nestedKind X.prog X.w).is s.heap k a := ⟨keyV_is I h rfl, hd⟩
theorem nroom {A : Around} (hu : A.units + 9 < cLine) : (nestedKind X.prog X.w).room A.in1 := by show A.units + 1 + 8 < cLine; omega
theorem dict_type (I : Inv X pins σ H s) (e : Rd H d (DO X.prog X.w d xs)) (ko : KeysOk X.K H xs) : s.TypeIs (.ref d) "dict" ∧ ∀ b, Value.ref d = .ref b → ∃ ob, s.heap.get? b = some ob ∧ ob.dict = none := by
  obtain ⟨_, _, ys, _, dd⟩ := dict_of I e ko
  refine ⟨dd.typeIs, fun b q => ?_⟩
  cases q
  obtain ⟨ob, _, _, h1, h2, _⟩ := dd
  exact ⟨ob, h1, h2.2.1⟩
theorem dict_wr {h' : Heap} {t' : Nat} {xs' : List Ent} {ys' : List (NK × Addr × Value)} (I : Inv X pins σ H s) (e : H d = some (DO X.prog X.w d xs)) (hs : Heap.SameBut d s.heap h') (z : xs'.length ≤ sizeLine) (hd : (d == sysModules) = false)
    (r : EP xs' ys') (dd : h'.DictOfH (nestedKind X.prog X.w) d ys') : Inv X pins σ (upd H d (DO X.prog X.w d xs')) { s with heap := h', toks := t' } := by
  obtain ⟨o, es, ep, h1, h2, h3, h4, _, h5⟩ := dd
  exact d_write I (by rw [e]; exact True.intro) hs ⟨o, h1⟩ (do_ok ⟨z, hd, ys', r, o, es, ep, h1, h2, h3, h4, h5⟩)
variable {A : Around} {E : Value → Shared → Prop} {y v : V} {k : NK} {u r : Value}
theorem x_getItem {Q : Value → Shared → Prop} (hu : A.units + 9 < cLine) (I : Inv X pins σ H s) (e : Rd H d (DO X.prog X.w d xs)) (ko : KeysOk X.K H xs) {a : Addr} (hk : KeyV X.K H (.ref a) k) (hdp : k.depth ≤ 8) (l : valV (kvE xs) k = some v)
    (h : ∀ w' s', Inv X pins σ H s' → RelV v w' → Q w' s') : wpAny (model X.prog X.w) A (getItem (.ref d) (.ref a)) Q E s := by
  obtain ⟨z, hd, ys, rel, dd⟩ := dict_of I e ko
  obtain ⟨w', hw, rw'⟩ := RelO.some_of (v := v) (o := (atKey ys k).map (·.2)) (by rw [← l]; exact ep_val rel k)
  obtain ⟨p, hp, hp2⟩ := Option.map_eq_some_iff.mp hw
  refine wpAny_getItem_heap (nroom hu) (key_is I hk hdp) dd hp ?_
  rw [hp2]
  exact h w' _ (I.tok _) rw'
theorem x_in {Q : Value → Shared → Prop} (hu : A.units + 9 < cLine) (I : Inv X pins σ H s) (e : Rd H d (DO X.prog X.w d xs)) (ko : KeysOk X.K H xs) {a : Addr} (hk : KeyV X.K H (.ref a) k) (hdp : k.depth ≤ 8)
    (h : ∀ s', Inv X pins σ H s' → Q (.bool (valV (kvE xs) k).isSome) s') : wpAny (model X.prog X.w) A (compareOp .In (.ref a) (.ref d)) Q E s := by
  obtain ⟨z, hd, ys, rel, dd⟩ := dict_of I e ko
  refine wpAny_in_heap (nroom hu) (key_is I hk hdp) hd dd ?_
  have q := (ep_val rel k).isSome_eq
  rw [Option.isSome_map] at q
  rw [← q]
  exact h _ (I.tok _)
theorem x_notIn {Q : Value → Shared → Prop} (hu : A.units + 9 < cLine) (I : Inv X pins σ H s) (e : Rd H d (DO X.prog X.w d xs)) (ko : KeysOk X.K H xs) {a : Addr} (hk : KeyV X.K H (.ref a) k) (hdp : k.depth ≤ 8)
    (h : ∀ s', Inv X pins σ H s' → Q (.bool (!(valV (kvE xs) k).isSome)) s') : wpAny (model X.prog X.w) A (compareOp .NotIn (.ref a) (.ref d)) Q E s := by
  obtain ⟨z, hd, ys, rel, dd⟩ := dict_of I e ko
  refine notIn_keyed (kvs := pairsH ys) (nroom hu) (key_is I hk hdp) hd ⟨ys, dd, rfl⟩ ?_
  have q := (ep_val rel k).isSome_eq
  rw [Option.isSome_map] at q
  rw [valueAt_pairsH, Option.isSome_map, ← q]
  exact h _ (I.tok _)
theorem x_setItem {Q : Unit → Shared → Prop} (hu : A.units + 9 < cLine) (I : Inv X pins σ H s) (e : H d = some (DO X.prog X.w d xs)) (ko : KeysOk X.K H xs) {a : Addr} (hk : KeyV X.K H (.ref a) k) (hdp : k.depth ≤ 8) (rv : RelV v r) (hl : xs.length < sizeLine)
    (h : ∀ s', Inv X pins σ (upd H d (DO X.prog X.w d (putE xs k a v))) s' → Q () s') : wpAny (model X.prog X.w) A (setItem (.ref d) (.ref a) r) Q E s := by
  obtain ⟨z, hd, ys, rel, dd⟩ := dict_of I (.inl e) ko
  have hz : ys.length ≤ sizeLine := by rw [← Paired.length rel]; exact z
  refine wpAny_setItem_heap (hsz := hz) (nroom hu) (key_is I hk hdp) dd fun h' dd' hs => h _ ?_
  exact dict_wr I e hs (by have := length_putE xs k a v; omega) hd (ep_put rel k a rv) dd'
theorem x_setdefault {Q : Value → Shared → Prop} (hu : A.units + 9 < cLine) (I : Inv X pins σ H s) (e : H d = some (DO X.prog X.w d xs)) (ko : KeysOk X.K H xs) {a : Addr} (hk : KeyV X.K H (.ref a) k) (hdp : k.depth ≤ 8) (rv : RelV v r) (hl : xs.length < sizeLine)
    (h1 : ∀ v', valV (kvE xs) k = some v' → ∀ w' s', Inv X pins σ H s' → RelV v' w' → Q w' s')
    (h2 : valV (kvE xs) k = none → ∀ w' s', Inv X pins σ (upd H d (DO X.prog X.w d (putE xs k a v))) s' → RelV v w' → Q w' s') : wpAny (model X.prog X.w) A (call (.builtin "dict.setdefault") [.ref d, .ref a, r]) Q E s := by
  obtain ⟨z, hd, ys, rel, dd⟩ := dict_of I (.inl e) ko
  have hz : ys.length ≤ sizeLine := by rw [← Paired.length rel]; exact z
  refine call_setdefault_heap (hsz := hz) (nroom hu) (key_is I hk hdp) hd dd (fun p hp => ?_) (fun hn h' dd' hs => ?_)
  · have q := ep_val rel k
    rw [hp] at q
    cases q0 : valV (kvE xs) k with
    | none => rw [q0] at q; exact q.elim
    | some v0 =>
      rw [q0] at q
      exact h1 v0 q0 _ _ (I.tok _) q
  · have q := ep_val rel k
    rw [hn] at q
    cases q0 : valV (kvE xs) k with
    | some v0 => rw [q0] at q; exact q.elim
    | none => exact h2 q0 _ _ (dict_wr I e hs (by have := length_putE xs k a v; omega) hd (ep_put rel k a rv) dd') rv
theorem x_pop {Q : Value → Shared → Prop} (hu : A.units + 9 < cLine) (I : Inv X pins σ H s) (e : H d = some (DO X.prog X.w d xs)) (ko : KeysOk X.K H xs) {a : Addr} (hk : KeyV X.K H (.ref a) k) (hdp : k.depth ≤ 8) (l : valV (kvE xs) k = some v)
    (h : ∀ w' s', Inv X pins σ (upd H d (DO X.prog X.w d (dropE xs k))) s' → RelV v w' → Q w' s') : wpAny (model X.prog X.w) A (call (.builtin "dict.pop") [.ref d, .ref a]) Q E s := by
  obtain ⟨z, hd, ys, rel, dd⟩ := dict_of I (.inl e) ko
  have hz : ys.length ≤ sizeLine := by rw [← Paired.length rel]; exact z
  obtain ⟨w', hw, rw'⟩ := RelO.some_of (v := v) (o := (atKey ys k).map (·.2)) (by rw [← l]; exact ep_val rel k)
  obtain ⟨p, hp, hp2⟩ := Option.map_eq_some_iff.mp hw
  refine call_pop_heap (hsz := hz) (.inl rfl) (F.args_dict_pop_2 _ _) (nroom hu) (key_is I hk hdp) hd dd hp fun h' dd' hs => ?_
  rw [hp2]
  exact h w' _ (dict_wr I e hs (Nat.le_trans (List.length_filter_le _ _) z) hd (ep_drop rel k) dd') rw'
theorem x_get2 {Q : Value → Shared → Prop} (hu : A.units + 9 < cLine) (I : Inv X pins σ H s) (e : Rd H d (DO X.prog X.w d xs)) (ko : KeysOk X.K H xs) {a : Addr} (hk : KeyV X.K H (.ref a) k) (hdp : k.depth ≤ 8) (rv : RelV v r)
    (h : ∀ w' s', Inv X pins σ H s' → RelV ((valV (kvE xs) k).getD v) w' → Q w' s') : wpAny (model X.prog X.w) A (call (.builtin "dict.get") [.ref d, .ref a, r]) Q E s := by
  obtain ⟨z, hd, ys, rel, dd⟩ := dict_of I e ko
  refine getOr_keyed (kvs := pairsH ys) (nroom hu) (key_is I hk hdp) hd ⟨ys, dd, rfl⟩ ?_
  rw [valueAt_pairsH]
  exact h _ _ (I.tok _) ((ep_val rel k).getD rv)
end
end FS
set_option Elab.async false
set_option linter.all false
set_option maxRecDepth 100000
set_option maxHeartbeats 4000000
namespace FS
open PySem PySem.Spec PyProof.Rows L2
/-- a key as a value -/
def KeyR (K : PySem.W.Frag) (H : Hp) (y : V) (k : NK) : Prop := ∃ a, y = .ref a ∧ KeyV K H (.ref a) k ∧ k.depth ≤ 8
theorem KeyR.mono {K : PySem.W.Frag} {H H' : Hp} (t : Tups H H') {y : V} {k : NK} (h : KeyR K H y k) : KeyR K H' y k := let ⟨a, e, r, d⟩ := h; ⟨a, e, r.mono t, d⟩
/-- a dict to be read -/
def DR (P : Program) (w : World) (K : PySem.W.Frag) (H : Hp) (d : Addr) (kvs : List (NK × V)) : Prop := ∃ xs : List Ent, kvE xs = kvs ∧ Rd H d (DO P w d xs) ∧ KeysOk K H xs
theorem DAt.r {P : Program} {w : World} {K : PySem.W.Frag} {H : Hp} {d : Addr} {kvs : List (NK × V)} (h : DAt P w K H d kvs) : DR P w K H d kvs := let ⟨xs, a, b, c⟩ := h; ⟨xs, a, .inl b, c⟩
theorem noTup_do {P : Program} {w : World} {H : Hp} {d d' : Addr} {xs : List Ent} (h : H d = some (DO P w d' xs)) : NoTup (H d) := by
  intro ys
  rw [h]
  constructor
  · intro z
    cases z
  · intro ob z
    cases z
theorem DAt.upd_ne {P : Program} {w : World} {K : PySem.W.Frag} {H : Hp} {d d' : Addr} {o : HO} {kvs : List (NK × V)} (h : DAt P w K H d kvs) (hn : d ≠ d') (nt : NoTup (H d')) : DAt P w K (upd H d' o) d kvs := by
  obtain ⟨xs, a, b, c⟩ := h
  exact ⟨xs, a, by rw [L2.upd_ne hn]; exact b, c.mono (Tups.upd nt)⟩
theorem DAt.noTup {P : Program} {w : World} {K : PySem.W.Frag} {H : Hp} {d : Addr} {kvs : List (NK × V)} (h : DAt P w K H d kvs) : NoTup (H d) := let ⟨xs, a, b, c⟩ := h; noTup_do b
theorem DAt.some {P : Program} {w : World} {K : PySem.W.Frag} {H : Hp} {d : Addr} {kvs : List (NK × V)} (h : DAt P w K H d kvs) : ∃ φ, H d = some (.ext φ) := let ⟨xs, a, b, c⟩ := h; ⟨_, b⟩
/-- the dict at d in H is written: what the heap is behind -/
def DWr (P : Program) (w : World) (K : PySem.W.Frag) (H : Hp) (d : Addr) (kvs : List (NK × V)) (k : Hp → Prop) : Prop := ∀ φ, DAt P w K (upd H d (.ext φ)) d kvs → k (upd H d (.ext φ))

section
variable {X : Cx} {o e f i value : Expr} {td ty tx tv : TE} {pos pos' apos cpos : Pos}
def tXGet (P : Program) (w : World) (K : PySem.W.Frag) (td ty : TE) : TE := fun σ H Q => td σ H fun x H1 => ty σ H1 fun y H2 => ∃ d kvs k v, x = .ref d ∧ DR P w K H2 d kvs ∧ KeyR K H2 y k ∧ valV kvs k = some v ∧ Q v H2
theorem pe_xget (hu : X.A.units + 9 < cLine) (ho : PE X o td) (hi : PE X i ty) (hs : NoSl i) : PE X (.Subscript o i pos) (tXGet X.prog X.w X.K td ty) := by
  refine ⟨fun pins s σ H Q I h => ?_⟩
  refine subD_of PySem.F.slot_dict_getitem.lookup hs (thn (ho.run pins s σ H _ I h) fun u s1 ⟨x, H1, I1, rx, q1⟩ => thn (hi.run pins s1 σ H1 _ I1 q1) fun iv s2 ⟨y, H2, I2, ry, d, kvs, k, v, ex, ⟨xs, ek, e, ko⟩, ⟨a, ey, hk, hdp⟩, l, q2⟩ => ?_)
  subst ex ey ek
  obtain rfl : u = Value.ref d := rx
  obtain rfl : iv = Value.ref a := ry
  exact ⟨(dict_type I2 e ko).1, x_getItem hu I2 e ko hk hdp l fun w' s3 I3 rw' => ⟨v, H2, I3, rw', q2⟩⟩
def tXIn (P : Program) (w : World) (K : PySem.W.Frag) (neg : Bool) (ty td : TE) : TE := fun σ H Q => ty σ H fun y H1 => td σ H1 fun x H2 => ∃ d kvs k, x = .ref d ∧ DR P w K H2 d kvs ∧ KeyR K H2 y k ∧ Q (.bl (neg ^^ (valV kvs k).isSome)) H2
theorem pc_xin (hu : X.A.units + 9 < cLine) (hi : PE X i ty) (ho : PE X o td) : PC X .In i o (tXIn X.prog X.w X.K false ty td) := by
  refine ⟨fun pins s σ H Q I h => ?_⟩
  refine thn (hi.run pins s σ H _ I h) fun iv s1 ⟨y, H1, I1, ry, q1⟩ => thn (ho.run pins s1 σ H1 _ I1 q1) fun u s2 ⟨x, H2, I2, rx, d, kvs, k, ex, ⟨xs, ek, e, ko⟩, ⟨a, ey, hk, hdp⟩, q2⟩ => ?_
  subst ex ey ek
  obtain rfl : u = Value.ref d := rx
  obtain rfl : iv = Value.ref a := ry
  rw [Bool.false_xor] at q2
  exact x_in hu I2 e ko hk hdp fun s3 I3 => ⟨.bl _, H2, I3, rfl, q2⟩
theorem pc_xnotin (hu : X.A.units + 9 < cLine) (hi : PE X i ty) (ho : PE X o td) : PC X .NotIn i o (tXIn X.prog X.w X.K true ty td) := by
  refine ⟨fun pins s σ H Q I h => ?_⟩
  refine thn (hi.run pins s σ H _ I h) fun iv s1 ⟨y, H1, I1, ry, q1⟩ => thn (ho.run pins s1 σ H1 _ I1 q1) fun u s2 ⟨x, H2, I2, rx, d, kvs, k, ex, ⟨xs, ek, e, ko⟩, ⟨a, ey, hk, hdp⟩, q2⟩ => ?_
  subst ex ey ek
  obtain rfl : u = Value.ref d := rx
  obtain rfl : iv = Value.ref a := ry
  rw [Bool.true_xor] at q2
  exact x_notIn hu I2 e ko hk hdp fun s3 I3 => ⟨.bl _, H2, I3, rfl, q2⟩
def sXPut (P : Program) (w : World) (K : PySem.W.Frag) (td ty tv : TE) : TS := fun D σ H => tv σ H fun v H1 => td σ H1 fun x H2 => ty σ H2 fun y H3 => ∃ d kvs k, x = .ref d ∧ DAt P w K H3 d kvs ∧ KeyR K H3 y k ∧ kvs.length < sizeLine ∧ DWr P w K H3 d (putK kvs k v) (D.nx σ)
theorem ps_xput (hu : X.A.units + 9 < cLine) (ho : PE X o td) (hi : PE X i ty) (hv : PE X value tv) (hs : swapsWith value (some (.Subscript o i pos')) pos.line X.env = pure false) :
    PS X (.Assign [.Subscript o i pos'] value pos) (sXPut X.prog X.w X.K td ty tv) := by
  refine ⟨fun pins s σ H D I h => ?_⟩
  refine wpAny_Assign_Subscript (thn (hv.run pins s σ H _ I h) fun r s1 ⟨v, H1, I1, rv, q1⟩ => thn (ho.run pins s1 σ H1 _ I1 q1) fun u s2 ⟨x, H2, I2, rx, q2⟩ => thn (hi.run pins s2 σ H2 _ I2 q2) fun iv s3 ⟨y, H3, I3, ry, d, kvs, k, ex, ⟨xs, ek, e, ko⟩, ⟨a, ey, hk, hdp⟩, hl, q3⟩ => ?_) hs
  subst ex ey ek
  obtain rfl : u = Value.ref d := rx
  obtain rfl : iv = Value.ref a := ry
  refine x_setItem hu I3 e ko hk hdp rv (by simpa [kvE] using hl) fun s4 I4 => ⟨σ, _, I4, q3 _ ⟨putE xs k a v, kvE_put xs k a v, upd_same, ?_⟩⟩
  exact (keysOk_put ko hk hdp).mono (Tups.upd (noTup_do e))
def tXSetd (P : Program) (w : World) (K : PySem.W.Frag) (td ty tx : TE) : TE := fun σ H Q => td σ H fun x H1 => ∃ d, x = .ref d ∧ (∃ kvs, DR P w K H1 d kvs) ∧ ty σ H1 fun y H2 => tx σ H2 fun z H3 => ∃ kvs k, DAt P w K H3 d kvs ∧ KeyR K H3 y k ∧ kvs.length < sizeLine ∧
  (∀ v, valV kvs k = some v → Q v H3) ∧ (valV kvs k = none → DWr P w K H3 d (putK kvs k z) (Q z))
theorem pe_xsetd (hu : X.A.units + 9 < cLine) (ho : PE X o td) (he : PE X e ty) (hf : PE X f tx) (m : M2 X o "setdefault" apos e f cpos) : PE X (.Call (.Attribute o "setdefault" apos) [e, f] [] cpos) (tXSetd X.prog X.w X.K td ty tx) := by
  refine ⟨fun pins s σ H Q I h => ?_⟩
  refine wpAny_Call_method m.base m.few m.line PySem.F.plainAttrs_dict PySem.F.slot_dict_setdefault PySem.F.type_dict_setdefault (thn (ho.run pins s σ H _ I h) fun u s1 ⟨x, H1, I1, rx, d, ex, ⟨kvs1, xs1, _, e1, ko1⟩, q1⟩ => ?_)
  subst ex
  obtain rfl : u = Value.ref d := rx
  obtain ⟨t1, t2⟩ := dict_type I1 e1 ko1
  refine ⟨t1, t2, ?_⟩
  rw [m.trees]
  refine Calls.callWith_builtin rfl (Calls.evalArgs_plain (Calls.spliced_cons (thn (he.run pins s1 σ H1 _ I1 q1) fun iv s2 ⟨y, H2, I2, ry, q2⟩ =>
    Calls.spliced_cons (thn (hf.run pins s2 σ H2 _ I2 q2) fun fv s3 ⟨z, H3, I3, rz, kvs, k, ⟨xs, ek, e, ko⟩, ⟨a, ey, hk, hdp⟩, hl, q3, q4⟩ => Calls.spliced_nil ?_))))
  subst ey ek
  obtain rfl : iv = Value.ref a := ry
  refine x_setdefault hu I3 e ko hk hdp rz (by simpa [kvE] using hl) (fun v' hv w' s4 I4 rw' => ⟨v', H3, I4, rw', q3 v' hv⟩) fun hn w' s4 I4 rw' => ⟨z, _, I4, rw', q4 hn _ ⟨putE xs k a z, kvE_put xs k a z, upd_same, ?_⟩⟩
  exact (keysOk_put ko hk hdp).mono (Tups.upd (noTup_do e))
def tXPop (P : Program) (w : World) (K : PySem.W.Frag) (td ty : TE) : TE := fun σ H Q => td σ H fun x H1 => ∃ d, x = .ref d ∧ (∃ kvs, DR P w K H1 d kvs) ∧ ty σ H1 fun y H2 => ∃ kvs k v, DAt P w K H2 d kvs ∧ KeyR K H2 y k ∧ valV kvs k = some v ∧ DWr P w K H2 d (dropK kvs k) (Q v)
theorem pe_xpop (hu : X.A.units + 9 < cLine) (ho : PE X o td) (he : PE X e ty) (m : M1 X o "pop" apos e cpos) : PE X (.Call (.Attribute o "pop" apos) [e] [] cpos) (tXPop X.prog X.w X.K td ty) := by
  refine ⟨fun pins s σ H Q I h => ?_⟩
  refine wpAny_Call_method m.base m.few m.line PySem.F.plainAttrs_dict PySem.F.slot_dict_pop PySem.F.type_dict_pop (thn (ho.run pins s σ H _ I h) fun u s1 ⟨x, H1, I1, rx, d, ex, ⟨kvs1, xs1, _, e1, ko1⟩, q1⟩ => ?_)
  subst ex
  obtain rfl : u = Value.ref d := rx
  obtain ⟨t1, t2⟩ := dict_type I1 e1 ko1
  refine ⟨t1, t2, ?_⟩
  rw [m.trees]
  refine Calls.callWith_builtin rfl (Calls.evalArgs_plain (Calls.spliced_cons (thn (he.run pins s1 σ H1 _ I1 q1) fun iv s2 ⟨y, H2, I2, ry, kvs, k, v, ⟨xs, ek, e, ko⟩, ⟨a, ey, hk, hdp⟩, l, q2⟩ => Calls.spliced_nil ?_)))
  subst ey ek
  obtain rfl : iv = Value.ref a := ry
  refine x_pop hu I2 e ko hk hdp l fun w' s3 I3 rw' => ⟨v, _, I3, rw', q2 _ ⟨dropE xs k, kvE_drop xs k, upd_same, ?_⟩⟩
  exact (keysOk_drop ko).mono (Tups.upd (noTup_do e))
def tXGet2 (P : Program) (w : World) (K : PySem.W.Frag) (td ty tx : TE) : TE := fun σ H Q => td σ H fun x H1 => ∃ d, x = .ref d ∧ (∃ kvs, DR P w K H1 d kvs) ∧ ty σ H1 fun y H2 => tx σ H2 fun z H3 => ∃ kvs k, DR P w K H3 d kvs ∧ KeyR K H3 y k ∧ Q ((valV kvs k).getD z) H3
theorem pe_xget2 (hu : X.A.units + 9 < cLine) (ho : PE X o td) (he : PE X e ty) (hf : PE X f tx) (m : M2 X o "get" apos e f cpos) : PE X (.Call (.Attribute o "get" apos) [e, f] [] cpos) (tXGet2 X.prog X.w X.K td ty tx) := by
  refine ⟨fun pins s σ H Q I h => ?_⟩
  refine wpAny_Call_method m.base m.few m.line PySem.F.plainAttrs_dict PySem.F.slot_dict_get PySem.F.type_dict_get (thn (ho.run pins s σ H _ I h) fun u s1 ⟨x, H1, I1, rx, d, ex, ⟨kvs1, xs1, _, e1, ko1⟩, q1⟩ => ?_)
  subst ex
  obtain rfl : u = Value.ref d := rx
  obtain ⟨t1, t2⟩ := dict_type I1 e1 ko1
  refine ⟨t1, t2, ?_⟩
  rw [m.trees]
  refine Calls.callWith_builtin rfl (Calls.evalArgs_plain (Calls.spliced_cons (thn (he.run pins s1 σ H1 _ I1 q1) fun iv s2 ⟨y, H2, I2, ry, q2⟩ =>
    Calls.spliced_cons (thn (hf.run pins s2 σ H2 _ I2 q2) fun fv s3 ⟨z, H3, I3, rz, kvs, k, ⟨xs, ek, e, ko⟩, ⟨a, ey, hk, hdp⟩, q3⟩ => Calls.spliced_nil ?_))))
  subst ey ek
  obtain rfl : iv = Value.ref a := ry
  exact x_get2 hu I3 e ko hk hdp rz fun w' s4 I4 rw' => ⟨_, H3, I4, rw', q3⟩
/-- {} -/
def tXNew (P : Program) (w : World) (K : PySem.W.Frag) : TE := fun _ H Q => ∀ p φ, H p = none → DAt P w K (upd H p (.ext φ)) p [] → Q (.ref p) (upd H p (.ext φ))
theorem do_nil {P : Program} {w : World} {H : Hp} (h : Heap) (hb : sysModules < h.objs.size) : ObjOk P w H (h.push { cls := .type "dict", data := .dict #[] }) h.objs.size (DO P w h.objs.size []) :=
  do_ok ⟨Nat.zero_le _, beq_eq_false_iff_ne.mpr (Ne.symm (Nat.ne_of_lt hb)), [], .nil, _, #[], 0, Heap.get?_push_size _ rfl, ⟨rfl, rfl, rfl⟩, rfl, rfl, List.nodup_nil⟩
theorem pe_xnew : PE X (.Dict [] [] pos) (tXNew X.prog X.w X.K) := ⟨fun pins s σ H Q I h =>
  wpAny_Dict_empty ⟨.ref s.heap.objs.size, _, I.laid (a := s.heap.objs.size) (o := DO X.prog X.w s.heap.objs.size []) (t' := s.toks) (fun _ _ q => Heap.get?_push_of_some _ q) (Nat.le_refl _) (do_nil s.heap I.big), rfl,
    h _ _ (I.hok.fresh (Nat.le_refl _)) ⟨[], rfl, upd_same, fun _ z => nomatch z⟩⟩⟩
end
end FS
set_option Elab.async false
set_option linter.all false
set_option maxRecDepth 100000
set_option maxHeartbeats 4000000
namespace FS
open PySem PySem.Spec PyProof.Rows L2
section
variable {X : Cx} {pins : List (Addr × Obj)} {σ : L2.St} {H : Hp} {s : Shared} {d : Addr} {o : Obj} {xs : List Ent}
/-- what a readable dict's object is -/
theorem raw_of (I : Inv X pins σ H s) (h : Rd H d (DO X.prog X.w d xs)) : (d == sysModules) = false ∧ ∃ es ep, s.heap.DictRaw d es ep ∧ es.size = xs.length ∧
    ∀ (i : Nat) (hi : i < es.size) k a v, xs[i]? = some (k, a, v) → es[i].key = .ref a ∧ RelV v es[i].val := by
  obtain ⟨⟨z, y, ys, r, ob, es, ep, a1, a2, a3, a4, _⟩, _, _⟩ := (show ObjOk X.prog X.w H s.heap d (DO X.prog X.w d xs) from h.ok I.hok)
  have l1 := size_of_entries a4
  have l2 : xs.length = ys.length := Paired.length r
  refine ⟨y, es, ep, ⟨ob, a1, a2, a3⟩, by omega, fun i hi k a v e => ?_⟩
  obtain ⟨q, hq, c1, c2, c3⟩ := paired_get r e
  have g := entry_at a4 i
  rw [hq, Array.getElem?_eq_getElem hi] at g
  have g2 := Option.some.inj g
  rw [g2]
  exact ⟨by show Value.ref q.2.1 = _; rw [← c2], c3⟩
/-- .. locked: the object itself -/
theorem raw_frz (I : Inv X pins σ H s) (h : H d = some (.frz o (DO X.prog X.w d xs))) {es : Array DictEntry} {ep : Nat} (hod : o.data = .dict es ep) : s.heap.DictRaw d es ep ∧ es.size = xs.length ∧
    ∀ (i : Nat) (hi : i < es.size) k a v, xs[i]? = some (k, a, v) → es[i].key = .ref a ∧ RelV v es[i].val := by
  obtain ⟨_, es', ep', ⟨ob, g1, g2, g3⟩, r⟩ := raw_of I (.inr ⟨o, h⟩)
  obtain ⟨hd, _⟩ := (show ObjOk X.prog X.w H s.heap d (.frz o (DO X.prog X.w d xs)) from I.hok d _ h)
  rw [hd] at g1
  cases g1
  rw [hod] at g3
  cases g3
  exact ⟨⟨_, hd, g2, hod⟩, r⟩
end
/-- the pairs of a locked dict, each a new tuple -/
def Itx (P : Program) (w : World) (d : Addr) (o : Obj) (xs : List Ent) : It :=
  ⟨fun i H => H d = some (.frz o (DO P w d xs)) ∧ i < xs.length, fun i H x H' => ∃ T k a v, xs[i]? = some (k, a, v) ∧ x = .ref T ∧ H T = none ∧ H' = upd H T (.tup [.ref a, v]), fun i H => H d = some (.frz o (DO P w d xs)) ∧ xs.length ≤ i⟩
/-- its keys -/
def Itxk (P : Program) (w : World) (d : Addr) (o : Obj) (xs : List Ent) : It :=
  ⟨fun i H => H d = some (.frz o (DO P w d xs)) ∧ i < xs.length, fun i H x H' => H' = H ∧ ∃ k a v, xs[i]? = some (k, a, v) ∧ x = .ref a, fun i H => H d = some (.frz o (DO P w d xs)) ∧ xs.length ≤ i⟩
section
variable {P : Program} {w : World} {K : PySem.W.Frag} {tg : Expr} {d : Addr} {o : Obj} {es : Array DictEntry} {ep : Nat} {xs : List Ent}
theorem turn_xitems {elts : List Expr} {kk : Nat} {tpos : Pos} (it : Addr) (hod : o.data = .dict es ep) : Turn P w K (.Tuple elts kk tpos) (Itx P w d o xs) [it] it (fun i h => ∃ ok ov, IsItemIter h it d i es.size ep ok ov) where
  mem := List.mem_singleton.mpr rfl
  obj := fun i h st b hb => by
    rw [List.mem_singleton.mp hb]
    obtain ⟨ok, ov, e⟩ := st
    exact ⟨_, e, fun v z => nomatch z⟩
  keep := fun i h h' st k => let ⟨ok, ov, e⟩ := st; ⟨ok, ov, k it (List.mem_singleton.mpr rfl) _ e⟩
  item := by
    intro X hP hw hK hc i pins s σ H E I hf st hg
    subst hP hw hK
    obtain ⟨hd, hi⟩ := hg
    obtain ⟨hr, hsz, ent⟩ := raw_frz I hd hod
    obtain ⟨ok, ov, he⟩ := st
    have hlt : it < s.heap.objs.size := Heap.lt_size he
    have hi' : i < es.size := by omega
    obtain ⟨⟨k, a, v⟩, hkv⟩ : ∃ p, xs[i]? = some p := ⟨xs[i], List.getElem?_eq_getElem hi⟩
    obtain ⟨ek, rv⟩ := ent i hi' k a v hkv
    refine wpAny_pyNext_items_item_raw he hr hi' fun h' ho hT hz hk => ?_
    refine ⟨_, rfl, wpAny_letOwnedTupleGo_items (s := { s with heap := h' }) ho fun h'' he' sb => ?_⟩
    have hT2 : h''.get? s.heap.objs.size = some { cls := .type "tuple", data := .seq #[es[i].key, es[i].val] } := (sb.2 _ (Nat.ne_of_gt hlt)).trans hT
    have new : ObjOk X.prog X.w (upd H s.heap.objs.size (.tup [.ref a, v])) h'' s.heap.objs.size (.tup [.ref a, v]) :=
      ⟨by show 2 ≤ sizeLine; decide, [es[i].key, es[i].val], .cons (by rw [ek]; rfl) (.cons rv .nil), ⟨_, hT2, rfl, _, rfl⟩⟩
    have I1 : Inv X pins σ (upd H s.heap.objs.size (.tup [.ref a, v])) { s with heap := h'' } :=
      I.turnedNew (t' := s.toks) (ch := [it]) (fun b ob hb e => (sb.2 b (fun z => hb (List.mem_singleton.mpr z))).trans (hk b ob (fun z => hb (List.mem_singleton.mpr z)) e)) hf (Nat.le_refl _) new
    refine ⟨.ref s.heap.objs.size, _, I1, rfl, ⟨_, k, a, v, hkv, rfl, I.hok.fresh (Nat.le_refl _), rfl⟩, ⟨_, _, he'⟩, fun b hb => ?_⟩
    rw [List.mem_singleton.mp hb, upd_ne (Nat.ne_of_lt hlt)]
    exact (hf it (List.mem_singleton.mpr rfl)).1
  done := by
    intro X hP hw hK hc i pins s σ H E I hf st hg
    subst hP hw hK
    obtain ⟨hd, hi⟩ := hg
    obtain ⟨f0, f1, f2, f3, f4, f5⟩ := hf it (List.mem_singleton.mpr rfl)
    obtain ⟨hr, hsz, ent⟩ := raw_frz I hd hod
    obtain ⟨ok, ov, he⟩ := st
    exact wpAny_pyNext_items_end_raw (I.ok.hd hc) he hr (by omega) fun h' eb => ⟨rfl, I.turned (t' := s.toks) (fun b ob hb e => eb b ob hb e) f0 f1 f3 f4 f5⟩
  self := fun A i s Q E st h => let ⟨_, _, e⟩ := st; PySem.W.kcp_self e h
theorem turn_xkeys (it : Addr) (hod : o.data = .dict es ep) : Turn P w K tg (Itxk P w d o xs) [it] it (fun i h => h.IsKeyIter it d i es.size ep) where
  mem := List.mem_singleton.mpr rfl
  obj := fun i h st b hb => by
    rw [List.mem_singleton.mp hb]
    obtain ⟨oi, e, c, dd⟩ := st
    exact ⟨oi, e, fun v z => by rw [dd] at z; cases z⟩
  keep := fun i h h' st k => st.at fun oi e => k it (List.mem_singleton.mpr rfl) oi e
  item := by
    intro X hP hw hK hc i pins s σ H E I hf st hg
    subst hP hw hK
    obtain ⟨hd, hi⟩ := hg
    obtain ⟨f0, f1, f2, f3, f4, f5⟩ := hf it (List.mem_singleton.mpr rfl)
    obtain ⟨hr, hsz, ent⟩ := raw_frz I hd hod
    have hi' : i < es.size := by omega
    obtain ⟨⟨k, a, v⟩, hkv⟩ : ∃ p, xs[i]? = some p := ⟨xs[i], List.getElem?_eq_getElem hi⟩
    obtain ⟨ek, rv⟩ := ent i hi' k a v hkv
    refine wpAny_pyNext_keys_item_raw st hr hi' fun h' st' sb => ?_
    have I1 : Inv X pins σ H { s with heap := h' } := I.turned (t' := s.toks) (fun b ob hb e => (sb.2 b hb).trans e) f0 f1 f3 f4 f5
    obtain ⟨oi, e, c, dd⟩ := id st'
    refine ⟨_, rfl, go_of (s := { s with heap := h' }) e c dd (by decide) ⟨.ref a, H, I1, by rw [ek]; rfl, ⟨rfl, k, a, v, hkv, rfl⟩, st', fun b hb => (hf b hb).1⟩⟩
  done := by
    intro X hP hw hK hc i pins s σ H E I hf st hg
    subst hP hw hK
    obtain ⟨hd, hi⟩ := hg
    obtain ⟨f0, f1, f2, f3, f4, f5⟩ := hf it (List.mem_singleton.mpr rfl)
    obtain ⟨hr, hsz, ent⟩ := raw_frz I hd hod
    exact wpAny_pyNext_keys_end_raw (I.ok.hd hc) st hr (by omega) fun h' eb => ⟨rfl, I.turned (t' := s.toks) (fun b ob hb e => eb b ob hb e) f0 f1 f3 f4 f5⟩
  self := fun A i s Q E st h => wpAny_pyIter_keyiter st h
end
/-- d.items() of a locked dict -/
def iXItems (P : Program) (w : World) (td : TE) : TI := fun σ H R => td σ H fun x H1 => ∃ d o xs, x = .ref d ∧ H1 d = some (.frz o (DO P w d xs)) ∧ R (Itx P w d o xs) H1
/-- a locked dict itself -/
def iXKeys (P : Program) (w : World) (td : TE) : TI := fun σ H R => td σ H fun x H1 => ∃ d o xs, x = .ref d ∧ H1 d = some (.frz o (DO P w d xs)) ∧ R (Itxk P w d o xs) H1
section
variable {X : Cx} {tg e : Expr} {td : TE} {apos cpos : Pos}
theorem pi_xitems {elts : List Expr} {kk : Nat} {tpos : Pos} (he : PE X e td) (hbase : attributeBase e "items" X.env (eval e X.env) = eval e X.env := by rfl) (hline : (apos.endLine == cpos.line) = true := by rfl) :
    PI X (.Tuple elts kk tpos) (.Call (.Attribute e "items" apos) [] [] cpos) (iXItems X.prog X.w td) := by
  refine ⟨fun pins s σ H R I h => ?_⟩
  refine wpAny_Call_method (T := "dict") (id := "dict.items") hbase rfl hline F.plainAttrs_dict F.slot_dict_items F.type_dict_items (thn (he.run pins s σ H _ I h) fun u s1 ⟨x, H1, I1, rx, d, o, xs, ex, hd, q⟩ => ?_)
  subst ex
  obtain rfl : u = Value.ref d := rx
  obtain ⟨hs, es, ep, hr, hsz, ent⟩ := raw_of I1 (.inr ⟨o, hd⟩)
  obtain ⟨ob, g1, g2, g3⟩ := id hr
  have hod : o = ob := by
    obtain ⟨hd2, _⟩ := (show ObjOk X.prog X.w H1 s1.heap d (.frz o (DO X.prog X.w d xs)) from I1.hok d _ hd)
    exact Option.some.inj (hd2.symm.trans g1)
  subst hod
  have I2 : Inv X pins σ H1 { s1 with heap := s1.heap.push { cls := .type "dict_items", data := .fields #[.ref d] } } := I1.kept (t' := s1.toks) fun b ob q => Heap.get?_push_of_some _ q
  refine ⟨hr.typeIs, fun b q => by cases q; exact ⟨o, g1, g2.2.1⟩, ?_⟩
  have fin : wpAny (model X.prog X.w) X.A (pyIter (.ref s1.heap.objs.size)) (PIE X pins σ (.Tuple elts kk tpos) R) X.xe { s1 with heap := s1.heap.push { cls := .type "dict_items", data := .fields #[.ref d] } } := by
    refine wpAny_pyIter_items_raw (d := d) ⟨_, Heap.get?_push_size _ rfl, rfl, rfl⟩ (hr.push _) (pi_one (tk := s1.toks) I2 _ (turn_xitems _ g3) ⟨.none, .none, ?_⟩ q)
    exact Heap.get?_push_size _ rfl
  show wpAny _ _ (callWith cpos (.builtin "dict.items") [.ref d] [] []) _ X.xe s1
  exact method_meetsIn F.slot_dict_items F.entry_dict_items rfl (PySem.evalArgs_none ⟨rfl, hr.typeIs, F.args_dict_items_1 _, _, meets_dict_items_raw d hs, ⟨es, ep, hr⟩, fin⟩)
theorem pi_xkeys (he : PE X e td) : PI X tg e (iXKeys X.prog X.w td) := by
  refine ⟨fun pins s σ H R I h => ?_⟩
  refine thn (he.run pins s σ H _ I h) fun u s1 ⟨x, H1, I1, rx, d, o, xs, ex, hd, q⟩ => ?_
  subst ex
  obtain rfl : u = Value.ref d := rx
  obtain ⟨hs, es, ep, hr, hsz, ent⟩ := raw_of I1 (.inr ⟨o, hd⟩)
  obtain ⟨ob, g1, g2, g3⟩ := id hr
  have hod : o = ob := by
    obtain ⟨hd2, _⟩ := (show ObjOk X.prog X.w H1 s1.heap d (.frz o (DO X.prog X.w d xs)) from I1.hok d _ hd)
    exact Option.some.inj (hd2.symm.trans g1)
  subst hod
  exact wpAny_pyIter_dict_raw hs hr (pi_one (tk := s1.toks) I1 _ (turn_xkeys _ g3) ⟨_, Heap.get?_push_size _ rfl, rfl, rfl⟩ q)
end
/-! ### walks -/
section
variable {P : Program} {w : World} {K : PySem.W.Frag} {d : Addr} {o : Obj} {xs : List Ent}
theorem walk_xitems : Walk (Itx P w d o xs) xs.length (fun H => H d = some (.frz o (DO P w d xs))) (fun i H x H' => ∃ T k a v, xs[i]? = some (k, a, v) ∧ x = .ref T ∧ H T = none ∧ H' = upd H T (.tup [.ref a, v])) :=
  ⟨fun i H hi h => ⟨h, hi⟩, fun H h => ⟨h, Nat.le_refl _⟩, fun i H x H' _ _ y => y⟩
theorem walk_xkeys : Walk (Itxk P w d o xs) xs.length (fun H => H d = some (.frz o (DO P w d xs))) (fun i H x H' => H' = H ∧ ∃ k a v, xs[i]? = some (k, a, v) ∧ x = .ref a) :=
  ⟨fun i H hi h => ⟨h, hi⟩, fun H h => ⟨h, Nat.le_refl _⟩, fun i H x H' _ _ y => y⟩
end
/-! ### == and != of a dict and an empty one -/
section
variable {prog : Program} {w : World} {A : Around} {E : Value → Shared → Prop} {s : Shared}
theorem ne_empty {a b : Addr} {es es' : Array DictEntry} {ep ep' : Nat} {Q : Value → Shared → Prop} (ha : (a == sysModules) = false) (hb : (b == sysModules) = false) (da : s.heap.DictRaw a es ep) (db : s.heap.DictRaw b es' ep') (he : es'.size = 0)
    (hu : A.units < cLine) (h : Q (.bool (es.size != 0)) s) : wpAny (model prog w) A (compareOp .NotEq (.ref a) (.ref b)) Q E s := by
  obtain ⟨oa, hoa, _, hda⟩ := id da
  obtain ⟨ob, hob, _, hdb⟩ := id db
  refine wpAny_richCompare_same_room (op := .NotEq) da.typeIs db.typeIs PySem.F.slot_dict_ne (wpAny_call_entry PySem.F.slot_dict_ne da.typeIs PySem.F.entry_dict_ne ?_ (PySem.F.args_dict_ne_2 _ _)) hu
  show wpAny _ _ (Builtin.Dict.dictSlotArgs "__ne__" ⟨[.ref a, .ref b], []⟩ >>= _) _ _ s
  refine wpAny_bind ?_
  unfold Builtin.Dict.dictSlotArgs
  refine wpAny_bind (wpAny_notOrdered_dict da.typeIs (wpAny_pure ?_))
  refine wpAny_bind (wpAny_isInstance (T := "dict") db.typeIs PySem.F.sub_dict_dict ?_)
  simp only [Bool.not_true, Bool.false_eq_true, if_false]
  refine wpAny_bind (wpAny_pure (wpAny_bind (wpAny_pure ?_)))
  refine wpAny_bind (m := Builtin.Dict.samePairs _ a b) ?_
  have fin : ∀ r : Bool, r = (es.size == 0) → wpAny (model prog w) A.in1 (ret (.bool (r == false))) (fun fin s' => ∃ v, fin = .done (.ret v) ∧ (v ≠ .notImplemented ∧ Q v s')) (fun e s' => E e s') s := by
    intro r hr
    have e : (r == false) = (es.size != 0) := by
      rw [hr]
      cases q : (es.size == 0) <;> simp [bne, q]
    have h2 : Q (.bool (r == false)) s := by
      rw [e]
      exact h
    have h3 : Value.bool (r == false) ≠ .notImplemented := by
      intro z
      cases z
    exact wpAny_pure ⟨_, rfl, h3, h2⟩
  unfold Builtin.Dict.samePairs Builtin.Dict.showsAll
  rw [if_neg (show ¬ (a == sysModules) = true by rw [ha]; exact Bool.false_ne_true), if_neg (show ¬ (b == sysModules) = true by rw [hb]; exact Bool.false_ne_true)]
  refine wpAny_bind (wpAny_pure (wpAny_bind (wpAny_pure (wpAny_bind (wpAny_dictEntries hoa hda ?_)))))
  dsimp only
  refine wpAny_bind (wpAny_dictEntries hob hdb ?_)
  by_cases hsz : es.size = 0
  · rw [if_neg (by rw [hsz, he]; simp)]
    refine wpAny_bind (wpAny_dictEpoch hoa hda ?_)
    refine wpAny_bind ?_
    rw [Std.Legacy.Range.forIn_eq_forIn_range']
    simp only [Std.Legacy.Range.size, Nat.sub_zero, Nat.add_sub_cancel, Nat.div_one, hsz]
    simp only [List.range'_zero, List.forIn_nil]
    refine wpAny_pure ?_
    exact wpAny_pure (fin true (by simp [hsz]))
  · rw [if_pos (by rw [he]; simpa using hsz)]
    exact wpAny_bind (wpAny_rule (wpAny_pure (fin false (by simpa using hsz))))
end
end FS
set_option Elab.async false
set_option linter.all false
set_option maxRecDepth 100000
set_option maxHeartbeats 4000000
namespace FS
open PySem PySem.Spec PyProof.Rows L2
section
variable {X : Cx} {pins : List (Addr × Obj)} {σ : L2.St} {H : Hp} {s : Shared} {d : Addr} {xs : List Ent} {A : Around} {E : Value → Shared → Prop}
/-- no two keys hash alike -/
def Apart (w : World) (ks : List NK) : Prop := (ks.map fun k => k.hash w).Nodup
theorem ep_keys {xs : List Ent} {ys : List (NK × Addr × Value)} (r : EP xs ys) : xs.map (·.1) = ys.map (·.1) := by
  induction r with
  | nil => rfl
  | cons h _ ih => rw [List.map_cons, List.map_cons, h.1, ih]
theorem ep_map_fst {α : Type} (f : NK → α) {xs : List Ent} {ys : List (NK × Addr × Value)} (r : EP xs ys) : (ys.map fun y => f y.1) = xs.map fun e => f e.1 := by
  induction r with
  | nil => rfl
  | cons h _ ih => rw [List.map_cons, List.map_cons, h.1, ih]
theorem x_copyOf {Q : Value → Shared → Prop} (hu : A.units + 19 < cLine) (I : Inv X pins σ H s) (e : Rd H d (DO X.prog X.w d xs)) (ko : KeysOk X.K H xs) (hap : Apart X.w (xs.map (·.1)))
    (h : ∀ p s', H p = none → Inv X pins σ (upd H p (DO X.prog X.w p xs)) s' → Q (.ref p) s') : wpAny (model X.prog X.w) A (call (.type "dict") [.ref d]) Q E s := by
  obtain ⟨z, hd, ys, rel, dd⟩ := dict_of I e ko
  have hz : ys.length ≤ sizeLine := by rw [← Paired.length rel]; exact z
  refine callType_codes (Q₁ := fun obj s₁ => obj = .ref s.heap.objs.size ∧ s₁ = { s with heap := s.heap.push { cls := .type "dict", data := .dict #[] } }) F.kt_called_dict (F.kt_typeCall_dict_1 _) F.entry_dict_init (kt_code_dict_new _ ⟨rfl, rfl⟩) ?_
  rintro obj s₁ ⟨rfl, rfl⟩
  have hnew : (s.heap.push { cls := .type "dict", data := .dict #[] }).DictOfH (nestedKind X.prog X.w) s.heap.objs.size [] := Heap.DictOfH.new s.heap
  have st := nestedKind_stays (prog := X.prog) (w := X.w)
  have dd' : (s.heap.push { cls := .type "dict", data := .dict #[] }).DictOfH (nestedKind X.prog X.w) d ys := by
    obtain ⟨o, es, ep, a1, a2, a3, a4, a5, a6⟩ := dd
    exact ⟨o, es, ep, Heap.get?_push_of_some _ a1, a2, a3, a4, fun x hx => st.stays (fun b o _ _ q _ => Heap.get?_push_of_some _ q) (a5 x hx), a6⟩
  have hdo : s.heap.objs.size ≠ d := by
    obtain ⟨_, _, _, hg, _⟩ := dd
    exact Nat.ne_of_gt (Heap.lt_size hg)
  have apart : ([] : List (NK × Addr × Value)) ≠ [] ∨ ((∀ x ∈ ys, Shared.TypeIs { s with heap := s.heap.push { cls := .type "dict", data := .dict #[] } } (.ref x.2.1) "tuple") ∧ (ys.map fun x => (nestedKind X.prog X.w).hash x.1).Nodup) := by
    refine .inr ⟨fun x hx => ?_, ?_⟩
    · obtain ⟨_, _, _, _, _, _, _, a5, _⟩ := dd'
      exact st.tuple (a5 x hx)
    · have := ep_map_fst (fun k => k.hash X.w) rel
      show (ys.map fun x => x.1.hash X.w).Nodup
      rw [this]
      unfold Apart at hap
      rw [List.map_map] at hap
      exact hap
  refine ⟨hnew.typeIs, F.args_dict_init_2 _ _, ?_⟩
  unfold Builtin.«dict.__init__»
  refine wpAny_bind ?_
  unfold Builtin.Dict.selfAndRest
  refine wpAny_bind (wpAny_notOrdered_dict hnew.typeIs ?_)
  show wpAny _ _ (pure (s.heap.objs.size, [Value.ref d])) _ _ _
  refine wpAny_pure ?_
  show wpAny _ _ (Builtin.Dict.updateFrom "dict.__init__" s.heap.objs.size (.ref d) [] .none) _ _ _
  unfold Builtin.Dict.updateFrom
  refine wpAny_bind (wpAny_typeOf dd'.typeIs ?_)
  rw [if_neg (by decide)]
  refine wpAny_bind ?_
  unfold Builtin.Dict.merge
  refine wpAny_bind ?_
  unfold Builtin.Dict.readDirectly
  refine wpAny_bind (wpAny_isInstance dd'.typeIs isSubtype_dict_dict ?_)
  simp only [Bool.not_true, Bool.false_eq_true, if_false]
  refine wpAny_bind (wpAny_specialOf dd'.typeIs F.slot_dict_iter.lookup (wpAny_pure ?_))
  simp only [beq_self_eq_true, if_true]
  refine wpAny_bind (wpAny_pure ?_)
  refine wpAny_mergeDict_heap (knd := nestedKind X.prog X.w) (hsz := by simpa using hz) ?_ hdo hd hnew dd' apart fun h' hd' _ hs' => ?_
  · first
      | (show A.in1.units + 8 < cLine; show A.units + 1 + 8 < cLine; omega)
      | (show A.in1.in1.units + 8 < cLine; show A.units + 1 + 1 + 8 < cLine; omega)
  show wpAny _ _ (Builtin.Dict.addKeywords s.heap.objs.size [] >>= _) _ _ _
  rw [storedAllH_nil_of_nodup ys dd.nodup] at hd'
  obtain ⟨o, es, ep, a1, a2, a3, a4, a5, a6⟩ := hd'
  have I1 : Inv X pins σ (upd H s.heap.objs.size (DO X.prog X.w s.heap.objs.size xs)) { s with heap := h' } := by
    refine I.laid (a := s.heap.objs.size) (o := DO X.prog X.w s.heap.objs.size xs) (t' := s.toks) (fun b q hq => ?_) (Nat.le_refl _) (do_ok ⟨z, beq_eq_false_iff_ne.mpr (Ne.symm (Nat.ne_of_lt I.big)), ys, rel, o, es, ep, a1, a2, a3, a4, a6⟩)
    exact (hs'.2 b (Nat.ne_of_lt (Heap.lt_size hq))).trans (Heap.get?_push_of_some _ hq)
  exact wpAny_bind (wpAny_pure (wpAny_pure ⟨rfl, h _ _ (I.hok.fresh (Nat.le_refl _)) I1⟩))
end
/-- dict(d) -/
def rXCopy (P : Program) (w : World) (K : PySem.W.Frag) : List V → Hp → VK → Prop := fun vs H Q => ∃ d kvs, vs = [.ref d] ∧ DR P w K H d kvs ∧ Apart w (kvs.map (·.1)) ∧ ∀ p φ, H p = none → DAt P w K (upd H p (.ext φ)) p kvs → Q (.ref p) (upd H p (.ext φ))
theorem kvE_keys (xs : List Ent) : (kvE xs).map (·.1) = xs.map (·.1) := by
  unfold kvE
  rw [List.map_map]
  rfl
section
variable {X : Cx} {e : Expr} {tk tv : TE} {k v : Expr} {pos : Pos}
theorem call_xcopy (hu : X.A.units + 19 < cLine) : CallR X (.type "dict") (rXCopy X.prog X.w X.K) := by
  intro pins s σ H vs us Q I r h
  obtain ⟨d, kvs, rfl, ⟨xs, ek, e, ko⟩, ap, q⟩ := h
  subst ek
  obtain ⟨u, rfl, ru⟩ := vals1 r
  obtain rfl : u = Value.ref d := ru
  rw [kvE_keys] at ap
  refine x_copyOf hu I e ko ap fun p s' hp I' => ⟨.ref p, _, I', rfl, q p _ hp ⟨xs, rfl, upd_same, ko.mono (Tups.upd (noTup_none hp))⟩⟩
/-- dict(pairs): the pairs' keys are all unlike -/
def rXPairs (P : Program) (w : World) (K : PySem.W.Frag) : List V → Hp → VK → Prop := fun vs H Q => ∃ a ps kvs, vs = [.ref a] ∧ SqL K H a (ps.map V.ref) ∧ Paired (fun p (kv : NK × V) => ∃ y, SqT K H p [y, kv.2] ∧ KeyR K H y kv.1) ps kvs ∧ (kvs.map (·.1)).Nodup ∧
  ∀ p φ, H p = none → DAt P w K (upd H p (.ext φ)) p kvs → Q (.ref p) (upd H p (.ext φ))
end
theorem paired_len {α β : Type} {F : α → β → Prop} {l : List α} {m : List β} (h : Paired F l m) : l.length = m.length := Paired.length h
theorem refs_vals : ∀ {ps : List Addr} {us : List Value}, Vals (ps.map V.ref) us → us = ps.map Value.ref
  | [], _, r => by cases r; rfl
  | p :: ps, _, r => by
    cases r with
    | cons a b =>
      rw [refs_vals b]
      have : _ = Value.ref p := a
      rw [this]
      rfl
section
variable {X : Cx}
/-- the pairs as the library tells them -/
theorem pairs_lib {pins : List (Addr × Obj)} {σ : L2.St} {H : Hp} {s : Shared} (I : Inv X pins σ H s) : ∀ {ps : List Addr} {kvs : List (NK × V)}, Paired (fun p (kv : NK × V) => ∃ y, SqT X.K H p [y, kv.2] ∧ KeyR X.K H y kv.1) ps kvs →
    ∃ (xs : List Ent) (ys : List (NK × Addr × Value)), kvE xs = kvs ∧ EP xs ys ∧ KeysOk X.K H xs ∧ (∀ x ∈ ys, (nestedKind X.prog X.w).is s.heap x.1 x.2.1) ∧ ys.length = ps.length ∧
      ∀ j (hj : j < ps.length), ∃ y, ys[j]? = some y ∧ s.heap.IsTuple ps[j] #[.ref y.2.1, y.2.2]
  | [], _, .nil => by
    refine ⟨[], [], rfl, .nil, ?_, ?_, rfl, fun j hj => absurd hj (Nat.not_lt_zero _)⟩
    · intro x z
      cases z
    · intro x z
      cases z
  | p :: ps, kv :: kvs, .cons h t => by
    obtain ⟨xs, ys, e1, e2, e3, e4, e5, e6⟩ := pairs_lib I t
    obtain ⟨y, hq, a, ea, hk, hdp⟩ := h
    subst ea
    obtain ⟨its, rv, tp, _⟩ := I.tuple hq
    cases rv with
    | cons r1 r2 =>
      cases r2 with
      | @cons _ u2 _ _ r2 r3 =>
        cases r3
        cases r1
        refine ⟨(kv.1, a, kv.2) :: xs, (kv.1, a, u2) :: ys, ?_, .cons ⟨rfl, rfl, r2⟩ e2, ?_, ?_, by rw [List.length_cons, List.length_cons, e5], ?_⟩
        · show (kv.1, kv.2) :: kvE xs = kv :: kvs
          rw [e1]
        · intro e he
          rcases List.mem_cons.mp he with z | z
          · rw [z]; exact ⟨hk, hdp⟩
          · exact e3 e z
        · intro x hx
          rcases List.mem_cons.mp hx with z | z
          · rw [z]; exact key_is I hk hdp
          · exact e4 x z
        · intro j hj
          cases j with
          | zero => exact ⟨_, rfl, tp⟩
          | succ j =>
            obtain ⟨y, f1, f2⟩ := e6 j (by simpa using hj)
            exact ⟨y, f1, f2⟩
theorem call_xpairs (hc : X.calm = true) (hu : X.A.units + 19 < cLine) : CallR X (.type "dict") (rXPairs X.prog X.w X.K) := by
  intro pins s σ H vs us Q I r h
  obtain ⟨a, ps, kvs, rfl, hs, hp, nd, q⟩ := h
  obtain ⟨u, rfl, ru⟩ := vals1 r
  obtain rfl : u = Value.ref a := ru
  obtain ⟨xs, ys, e1, e2, e3, e4, e5, e6⟩ := pairs_lib I hp
  obtain ⟨its, rv, ⟨ol, n, hl, hcl, hdl, hdat⟩, hz⟩ := I.list hs
  rw [refs_vals rv] at hdat
  rw [List.length_map] at hz
  have nd' : (ys.map (·.1)).Nodup := by rw [← ep_keys e2, ← kvE_keys, e1]; exact nd
  have hlen : ys.length = (ys.map fun y => (Value.ref y.2.1, y.2.2)).length := by rw [List.length_map]
  refine call_dict_pairsH (knd := nestedKind X.prog X.w) (ps := ys) (PairArg.list a (ps.map Value.ref).toArray (fun j => ps.getD j 0) (ys.map fun y => (Value.ref y.2.1, y.2.2))) (I.ok.hd hc) (by show X.A.units + 1 + 1 + 8 < cLine; omega)
    ⟨⟨ol, n, hl, hcl, hdl, hdat⟩, by rw [List.size_toArray, List.length_map, List.length_map, e5], fun j k v hj => ?_⟩ ⟨hlen, fun i key v hi => ?_⟩ (fun h' hk x hx => ?_) (by rw [← hlen, e5]; exact hz) fun h' tk dd hk => ?_
  · rw [List.getElem?_map] at hj
    cases q1 : ys[j]? with
    | none => rw [q1] at hj; cases hj
    | some y =>
      rw [q1] at hj
      cases hj
      have hj' : j < ps.length := by rw [← e5]; exact (List.getElem?_eq_some_iff.mp q1).1
      obtain ⟨y', f1, f2⟩ := e6 j hj'
      rw [q1] at f1
      cases f1
      refine ⟨?_, ?_⟩
      · simp [List.getElem?_eq_getElem hj', List.getD_eq_getElem?_getD]
      · have : ps.getD j 0 = ps[j] := by simp [List.getD_eq_getElem?_getD, List.getElem?_eq_getElem hj']
        show PairAt s.heap (ps.getD j 0) _ _
        rw [this]
        exact .inl f2
  · rw [show ys.map (fun y => (Value.ref y.2.1, y.2.2)) = _ from rfl] at hi
    have hi2 : (ys.map fun y => (Value.ref y.2.1, y.2.2))[i]? = some (key, v) := hi
    rw [List.getElem?_map] at hi2
    cases q1 : ys[i]? with
    | none => rw [q1] at hi2; cases hi2
    | some y =>
      rw [q1] at hi2
      cases hi2
      exact ⟨y.1, y.2.1, rfl, rfl⟩
  · refine nestedKind_stays.stays (fun b o vs m e _ => hk b o (Nat.ne_of_lt (Heap.lt_size e)) (fun z => nomatch z) e) (e4 x hx)
  · rw [storedAllH_nil_of_nodup ys nd'] at dd
    obtain ⟨o, es, ep, a1, a2, a3, a4, a5, a6⟩ := dd
    have hn := I.hok.fresh (Nat.le_refl s.heap.objs.size)
    have zl : xs.length ≤ sizeLine := by rw [Paired.length e2, e5]; exact hz
    have I1 : Inv X pins σ (upd H s.heap.objs.size (DO X.prog X.w s.heap.objs.size xs)) { s with heap := h', toks := tk } :=
      I.laid (a := s.heap.objs.size) (o := DO X.prog X.w s.heap.objs.size xs) (t' := tk) (fun b q hq => hk b q (fun z => nomatch z) hq) (Nat.le_refl _) (do_ok ⟨zl, beq_eq_false_iff_ne.mpr (Ne.symm (Nat.ne_of_lt I.big)), ys, e2, o, es, ep, a1, a2, a3, a4, a6⟩)
    exact ⟨.ref s.heap.objs.size, _, I1, rfl, q _ _ hn ⟨xs, e1, upd_same, e3.mono (Tups.upd (noTup_none hn))⟩⟩
end
section
variable {X : Cx} {e : Expr} {tk tv : TE} {k v : Expr} {pos : Pos}
theorem dict_disp {prog : Program} {w : World} {K : Type} [DecidableEq K] {knd : HeapKind prog w K} {A : Around} {E : Value → Shared → Prop} {s : Shared} {env : Env} {keys : List (Option Expr)} {values : List Expr} {pos : Pos} {pairs : List (Sem Value × Sem Value)} {Q : Value → Shared → Prop} (hu : knd.room A)
    (hshape : (evalEachOpt keys env).zip ((evalEach values env).map fun v => do let x ← v; standAt pos; pure x) = pairs.map fun p => (some p.1, p.2)) (h0 : pairs ≠ []) (hlen : pairs.length ≤ 15)
    (h : wpAny (model prog w) A (evalPairs pairs) (fun vs s₁ => ∃ ps, CarriesH knd s₁.heap vs ps ∧ s₁.heap.DictOfH knd s.heap.objs.size [] ∧
      ∀ h' tk, h'.DictOfH knd s.heap.objs.size (storedAllH [] ps) → Heap.SameBut s.heap.objs.size s₁.heap h' → Q (.ref s.heap.objs.size) { s₁ with heap := h', toks := tk }) E
      { s with heap := s.heap.push { cls := .type "dict", data := .dict #[] } }) :
    wpAny (model prog w) A (eval (.Dict keys values pos) env) Q E s := by
  rw [arm_eval_Dict, hshape, dictDisplay_pairs pairs h0 (by omega)]
  refine wpAny_bind (wpAny_standAt (wpAny_bind (wpAny_subDictH (knd := knd) (Q := fun d s' => wpAny (model prog w) A (pure (Value.ref d)) Q E s') hu hlen ?_)))
  refine wpAny_mono h (fun vs s₁ h₁ => ?_) fun _ _ e => e
  obtain ⟨ps, hc, hm, hq⟩ := h₁
  exact ⟨ps, hc, hm, fun h' tk a b => wpAny_pure (hq h' tk a b)⟩
/-- {k: v}, one pair -/
def tXOne (P : Program) (w : World) (K : PySem.W.Frag) (tk tv : TE) : TE := fun σ H Q => ∀ p φ, H p = none → DAt P w K (upd H p (.ext φ)) p [] → tk σ (upd H p (.ext φ)) fun x H1 => tv σ H1 fun y H2 => ∃ k, DAt P w K H2 p [] ∧ KeyR K H2 x k ∧ DWr P w K H2 p [(k, y)] (Q (.ref p))
theorem kvE_nil {xs : List Ent} (h : kvE xs = []) : xs = [] := List.map_eq_nil_iff.mp h
theorem pe_xone (hu : X.A.units + 9 < cLine) (hk : PE X k tk) (hv : PE X v tv) : PE X (.Dict [some k] [v] pos) (tXOne X.prog X.w X.K tk tv) := by
  refine ⟨fun pins s σ H Q I q => ?_⟩
  have hn := I.hok.fresh (Nat.le_refl s.heap.objs.size)
  have I1 := I.laid (a := s.heap.objs.size) (o := DO X.prog X.w s.heap.objs.size []) (h' := s.heap.push { cls := .type "dict", data := .dict #[] }) (t' := s.toks) (fun _ _ q => Heap.get?_push_of_some _ q) (Nat.le_refl _) (do_nil s.heap I.big)
  have q0 := q s.heap.objs.size (DPhi X.prog X.w s.heap.objs.size []) hn ⟨[], rfl, upd_same, fun _ z => nomatch z⟩
  have hp : PPs X pos [some k] [v] [(tk, tv)] := pps_cons hk hv pps_nil
  refine dict_disp (knd := nestedKind X.prog X.w) (pairs := pairTrees [some k] [v] X.env pos) (by show X.A.units + 8 < cLine; omega) (zip_pairTrees [some k] [v] X.env pos rfl rfl) (fun z => nomatch z) (by show 1 ≤ 15; decide) ?_
  refine thn (hp.run pins _ σ _ (fun ps H2 => ∃ x y k, ps = [(x, y)] ∧ DAt X.prog X.w X.K H2 s.heap.objs.size [] ∧ KeyR X.K H2 x k ∧ DWr X.prog X.w X.K H2 s.heap.objs.size [(k, y)] (Q (.ref s.heap.objs.size))) I1 ?_) fun ws s2 ⟨ps, H2, I2, rel, x, y, kk, eps, ⟨xs, ex, e, ko⟩, ⟨a, ea, hkk, hdp⟩, q2⟩ => ?_
  · show tk σ _ fun x H1 => tv σ H1 fun y H2 => _
    have mono : ∀ {x H1}, (tv σ H1 fun y H2 => ∃ kk, DAt X.prog X.w X.K H2 s.heap.objs.size [] ∧ KeyR X.K H2 x kk ∧ DWr X.prog X.w X.K H2 s.heap.objs.size [(kk, y)] (Q (.ref s.heap.objs.size))) = (tv σ H1 fun y H2 => ∃ x' y' kk, [(x, y)] = [(x', y')] ∧ DAt X.prog X.w X.K H2 s.heap.objs.size [] ∧ KeyR X.K H2 x' kk ∧ DWr X.prog X.w X.K H2 s.heap.objs.size [(kk, y')] (Q (.ref s.heap.objs.size))) := by
      intro x H1
      congr 1
      funext y H2
      refine propext ⟨fun ⟨kk, h⟩ => ⟨x, y, kk, rfl, h⟩, fun ⟨x', y', kk, e, h⟩ => ?_⟩
      cases e
      exact ⟨kk, h⟩
    have e2 : (fun (x : V) (H1 : Hp) => tv σ H1 fun y H2 => ∃ kk, DAt X.prog X.w X.K H2 s.heap.objs.size [] ∧ KeyR X.K H2 x kk ∧ DWr X.prog X.w X.K H2 s.heap.objs.size [(kk, y)] (Q (.ref s.heap.objs.size))) = _ := funext fun x => funext fun H1 => mono (x := x) (H1 := H1)
    have q1 : tk σ (upd H s.heap.objs.size (DO X.prog X.w s.heap.objs.size [])) (fun (x : V) (H1 : Hp) => tv σ H1 fun y H2 => ∃ kk, DAt X.prog X.w X.K H2 s.heap.objs.size [] ∧ KeyR X.K H2 x kk ∧ DWr X.prog X.w X.K H2 s.heap.objs.size [(kk, y)] (Q (.ref s.heap.objs.size))) := q0
    rw [e2] at q1
    exact q1
  · subst eps ea
    cases kvE_nil ex
    cases rel with
    | @cons _ b _ _ hr ht =>
      cases ht
      obtain ⟨b1, b2⟩ := b
      obtain rfl : b1 = Value.ref a := hr.1
      obtain ⟨z, hd, ys, rel2, dd⟩ := dict_of I2 (.inl e) ko
      cases rel2
      refine ⟨[(kk, a, b2)], ⟨rfl, rfl, key_is I2 hkk hdp, True.intro⟩, dd, fun h' tkk dk hs => ?_⟩
      refine ⟨.ref s.heap.objs.size, _, dict_wr (xs' := [(kk, a, y)]) (t' := tkk) I2 e hs (by show 1 ≤ sizeLine; decide) hd (.cons ⟨rfl, rfl, hr.2⟩ .nil) dk, rfl, q2 _ ⟨[(kk, a, y)], rfl, upd_same, ?_⟩⟩
      intro en hen
      rw [List.mem_singleton.mp hen]
      exact ⟨hkk.mono (Tups.upd (noTup_do e)), hdp⟩
end
end FS
set_option Elab.async false
set_option linter.all false
set_option maxRecDepth 100000
set_option maxHeartbeats 4000000
/-! max(d.keys(), key=f), sorted(l, key=f), where f is a def or a lambda that makes new tuples -/
namespace FS
open PySem PySem.Spec PyProof.Rows L2
/-! ### deep data stay -/
mutual
theorem dp_ext {K : PySem.W.Frag} {H H' : Hp} (e : Ext H H') : ∀ {v : V} {d : PyData}, Dp K H v d → Dp K H' v d
  | _, _, .non => .non
  | _, _, .bl b => .bl b
  | _, _, .int i => .int i
  | _, _, .str x => .str x
  | _, _, .lst h r => .lst (h.ext e) (dpAll_ext e r)
  | _, _, .tup h r => .tup (h.ext e) (dpAll_ext e r)
theorem dpAll_ext {K : PySem.W.Frag} {H H' : Hp} (e : Ext H H') : ∀ {vs : List V} {ds : List PyData}, DpAll K H vs ds → DpAll K H' vs ds
  | _, _, .nil => .nil
  | _, _, .cons h r => .cons (dp_ext e h) (dpAll_ext e r)
end
/-- f, called somewhere below X with a value that D tells of, makes the key d and nothing else -/
def KeyFn (X : Cx) (pl : List (Addr × Obj)) (n : Nat) (f : Value) (D : V → PyData → Hp → Prop) : Prop :=
  ∀ (B : Around) (pins : List (Addr × Obj)) (s : Shared) (σ : L2.St) (H : Hp) (x : V) (u : Value) (d : PyData), Sub X n B → (∀ p ∈ pl, p ∈ pins) → Inv X pins σ H s → RelV x u → D x d H →
    wpAny (model X.prog X.w) B (call f [u]) (fun v s' => CE X.stack X.prog X.w H s (fun k H' => Dp X.K H' k d ∧ Ext H H') v s') (fun _ _ => False) s
theorem keyFn_def {X : Cx} {CXt : CXT} {n : Nat} {f : Addr} {fd : FuncData} {p : Str} {sp : Sp} {E0 : XK} {D : V → PyData → Hp → Prop} (F : FnOk X.prog X.w X.K X.mg X.base CXt n f fd [p] sp) (hb : Binds X.K fd [p] [])
    (hx : ∀ o H s E e s', CXt o H s E e s' → False) (hsp : ∀ x d H, D x d H → sp [x] H (fun k H' => Dp X.K H' k d ∧ Ext H H') E0) : KeyFn X [] n (.ref f) D := by
  intro B pins s σ H x u d sb _ I rx hd
  have e0 : Env0 X.prog X.w X.K X.mg X.base B X.stack s H := by
    obtain ⟨a1, a2, a3, a4, a5, a6, a7, a8⟩ := I.env0
    exact ⟨sb.fr.trans a1, a2, a3, a4, a5, a6, a7, a8⟩
  have h := hsp x d H hd
  have bt : BindsTo s fd ⟨[u], []⟩ ([p].zip [u]) := by
    have q := hb s [u] I.kIn rfl
    rw [List.append_nil] at q
    exact q
  refine wpAny_call (codeAny_mono (F.run B X.stack s H ⟨[u], []⟩ [u] [x] _ E0 sb.room e0 bt (.cons rx .nil) h) fun r s' hq => ?_)
  cases r with
  | error e => exact hx _ _ _ _ _ _ hq
  | ok fl =>
    cases fl with
    | ret w' => exact hq
    | next => exact hq
    | brk => exact hq
    | cont => exact hq
section
variable {X : Cx} {pins : List (Addr × Obj)} {σ : L2.St}
/-- an untracked record of the call is as it was -/
theorem fp_kept {H H' : Hp} {s s' : Shared} {b : Addr} {o : Obj} {Q : VK} {v : Value} (I : Inv X pins σ H s) (h : CE X.stack X.prog X.w H s Q v s') (f : FpOk X pins H b) (e : s.heap.get? b = some o) :
    s'.heap.get? b = some o := by
  obtain ⟨_, _, _, _, un, _⟩ := h
  exact un.keep b o e f.1 (fun z => (List.mem_cons.mp (I.stkSub b z)).elim f.2.1 f.2.2.1) (by simp)
theorem fp_upd {H H' : Hp} {b : Addr} (f : FpOk X pins H b) (h : H' b = none) : FpOk X pins H' b := ⟨h, f.2⟩
/-- behind the key function -/
theorem key_after {H : Hp} {s s' : Shared} {v : Value} {d : PyData} (I : Inv X pins σ H s) (h : CE X.stack X.prog X.w H s (fun k H' => Dp X.K H' k d ∧ Ext H H') v s') :
    ∃ kv H', Inv X pins σ H' s' ∧ RelV kv v ∧ Dp X.K H' kv d ∧ Ext H H' ∧ ∀ b o, s.heap.get? b = some o → H b = none → H' b = none := by
  obtain ⟨k, H', os, bare, un, hok, r, dp, ex⟩ := h
  obtain ⟨hh, g, dr, t, os'⟩ := s'
  obtain rfl : os' = s.os := os
  exact ⟨k, H', I.call (h' := hh) (g' := g) (d' := dr) (t' := t) (ch := []) un hok bare (fun b z => absurd z (by simp)), r, dp, ex, fun b o e n => un.free b o e n (by simp)⟩
end
/-! ### max -/
section
variable {X : Cx} {n : Nat} {q : Addr} {D : V → PyData → Hp → Prop} {pins : List (Addr × Obj)} {σ : L2.St} {H0 : Hp} {d : Addr} {o : Obj} {xs : List Ent} {es : Array DictEntry} {ep : Nat} {it S : Addr} {R : Result → Shared → Prop}
/-- what is asked of the entries: alike keys, their order by a rank -/
structure Ranked (D : V → PyData → Hp → Prop) (H0 : Hp) (xs : List Ent) (kd : Ent → PyData) (rk : Ent → Nat) : Prop where
  al : ∀ a ∈ xs, ∀ b ∈ xs, PySem.W.alike (kd a) (kd b) = true
  lt : ∀ a ∈ xs, ∀ b ∈ xs, PySem.W.dataLt (kd a) (kd b) = decide (rk a < rk b)
  dep : ∀ a ∈ xs, kd a ≠ .none ∧ (kd a).depth ≤ 8
  dom : ∀ a ∈ xs, ∀ H', Ext H0 H' → D (.ref a.2.1) (kd a) H'
variable {kd : Ent → PyData} {rk : Ent → Nat}
/-- the head of max's loop, j entries seen -/
structure MaxAt (X : Cx) (pins : List (Addr × Obj)) (σ : L2.St) (H0 : Hp) (d it S : Addr) (ez ep j : Nat) (H : Hp) (s : Shared) : Prop where
  inv : Inv X pins σ H s
  ext : Ext H0 H
  fI : FpOk X pins H it
  fS : FpOk X pins H S
  iter : s.heap.IsKeyIter it d j ez ep
theorem max_step (kf : KeyFn X [] n (.ref q) D) (hr : Room (n + 1) X.A) (hod : o.data = .dict es ep) (hd : H0 d = some (.frz o (DO X.prog X.w d xs))) (G : Ranked D H0 xs kd rk) (hne : it ≠ S)
    {j : Nat} {H : Hp} {s : Shared} {oS : Obj} (M : MaxAt X pins σ H0 d it S es.size ep j H s) (hS : s.heap.get? S = some oS) {e : Ent} (he : xs[j]? = some e) {Q : Option Value → Shared → Prop} {E : Value → Shared → Prop}
    (h : ∀ H1 s1, MaxAt X pins σ H0 d it S es.size ep (j + 1) H1 s1 → Ext H H1 → s1.heap.get? S = some oS → Q (some (.ref e.2.1)) s1) : wpAny (model X.prog X.w) X.A.in1 (pyNext (.ref it)) Q E s := by
  obtain ⟨I, ex, fI, fS, st⟩ := M
  obtain ⟨hrw, hsz, ent⟩ := raw_frz I (ex _ _ hd) hod
  have hj : j < xs.length := (List.getElem?_eq_some_iff.mp he).1
  have hj' : j < es.size := by omega
  obtain ⟨k0, a0, v0⟩ := e
  obtain ⟨ek, _⟩ := ent j hj' k0 a0 v0 he
  refine wpAny_pyNext_keys_item_raw st hrw hj' fun h' st' sb => ?_
  rw [ek]
  have I1 : Inv X pins σ H { s with heap := h' } := I.turned (t' := s.toks) (fun b ob hb z => (sb.2 b hb).trans z) fI.1 fI.2.1 fI.2.2.2.1 fI.2.2.2.2.1 fI.2.2.2.2.2
  exact h H _ ⟨I1, ex, fI, fS, st'⟩ Ext.rfl' ((sb.2 S (Ne.symm hne)).trans hS)
/-- the key of one entry -/
theorem max_key (kf : KeyFn X [] n (.ref q) D) (hr : Room (n + 1) X.A) (G : Ranked D H0 xs kd rk) {j : Nat} {H : Hp} {s : Shared} {oS : Obj} {ez : Nat} (M : MaxAt X pins σ H0 d it S ez ep j H s) (hS : s.heap.get? S = some oS) {e : Ent} (he : e ∈ xs) {Q : Value → Shared → Prop}
    (h : ∀ kv k H1 s1, MaxAt X pins σ H0 d it S ez ep j H1 s1 → Ext H H1 → s1.heap.get? S = some oS → RelV kv k → Dp X.K H1 kv (kd e) → Q k s1) : wpAny (model X.prog X.w) X.A.in1 (call (.ref q) [.ref e.2.1]) Q (fun _ _ => False) s := by
  obtain ⟨I, ex, fI, fS, st⟩ := M
  refine wpAny_mono (kf X.A.in1 pins s σ H (.ref e.2.1) (.ref e.2.1) (kd e) ⟨hr.in1, rfl⟩ (fun _ z => nomatch z) I rfl (G.dom e he H ex)) (fun k s1 hq => ?_) fun _ _ z => z
  obtain ⟨kv, H1, I1, rk1, dp, e1, fr⟩ := key_after I hq
  obtain ⟨oi, hi, ci, di⟩ := id st
  refine h kv k H1 s1 ⟨I1, ex.trans e1, fp_upd fI (fr it oi hi fI.1), fp_upd fS (fr S oS hS fS.1), ⟨oi, fp_kept (H' := H1) I hq fI hi, ci, di⟩⟩ e1 (fp_kept (H' := H1) I hq fS hS) rk1 dp
/-- the best so far is written -/
theorem max_put {j ez : Nat} {H : Hp} {s : Shared} {cn : Nat} {its its' : Array Value} (M : MaxAt X pins σ H0 d it S ez ep j H s) (hS : s.heap.get? S = some (seqObj "list" its cn)) (hne : it ≠ S) :
    MaxAt X pins σ H0 d it S ez ep j H { s with heap := s.heap.update S (Obj.mapSeq fun _ => its') } ∧ ∃ c, (s.heap.update S (Obj.mapSeq fun _ => its')).get? S = some (seqObj "list" its' c) := by
  obtain ⟨I, ex, fI, fS, st⟩ := M
  have sb := Heap.SameBut.update s.heap S (Obj.mapSeq fun _ => its')
  obtain ⟨oi, hi, ci, di⟩ := id st
  refine ⟨⟨I.turned (t' := s.toks) (fun b ob hb z => (sb.2 b hb).trans z) fS.1 fS.2.1 fS.2.2.2.1 fS.2.2.2.2.1 fS.2.2.2.2.2, ex, fI, fS, ⟨oi, (sb.2 it hne).trans hi, ci, di⟩⟩, ⟨_, get?_update_seq hS fun _ => its'⟩⟩
theorem max_loop (kf : KeyFn X [] n (.ref q) D) (hr : Room (n + 1) X.A) (hod : o.data = .dict es ep) (hsz : es.size = xs.length) (hd : H0 d = some (.frz o (DO X.prog X.w d xs))) (G : Ranked D H0 xs kd rk) (hne : it ≠ S)
    (hR : ∀ H1 s1 b, Inv X pins σ H1 s1 → Ext H0 H1 → b ∈ xs → (∀ e ∈ xs, rk e ≤ rk b) → R (.ok (.ret (.ref b.2.1))) s1) :
    ∀ (r j : Nat) (b : Ent) (H : Hp) (s : Shared) (kb : Value) (kv : V) (c : Nat), xs.length - j = r → 0 < j → j ≤ xs.length → MaxAt X pins σ H0 d it S es.size ep j H s → s.heap.get? S = some (seqObj "list" #[.ref b.2.1, kb] c) → RelV kv kb → Dp X.K H kv (kd b) →
      b ∈ xs → (∀ e ∈ xs.take j, rk e ≤ rk b) → codeAny (model X.prog X.w) X.A (.builtin "max.loop" ⟨[.ref it, .ref q, .ref S], []⟩) R s := by
  have nm : (toString "max" ++ toString ".loop" : String) = "max.loop" := by decide
  intro r
  induction r with
  | zero =>
    intro j b H s kb kv c hrr h0 hj M hS rb dp hb best
    obtain ⟨I, ex, fI, fS, st⟩ := id M
    obtain ⟨hrw, _, _⟩ := raw_frz I (ex _ _ hd) hod
    refine codeAny_builtin (PySem.F.entry_max_loop) ?_
    rw [Around.under_plainId (PySem.F.plain_max_loop) _]
    show wpAny _ X.A.in1 (seqItems? (.ref S) >>= _) _ _ s
    refine wpAny_bind (wpAny_seqItems (hS) rfl ?_)
    show wpAny _ X.A.in1 (tryCatch (pyNext (.ref it)) _ >>= _) _ _ s
    refine wpAny_bind (wpAny_tryCatch (wpAny_pyNext_keys_end_raw (A := X.A.in1) hr.hd st hrw (by omega) fun h' eb => ?_))
    have I1 : Inv X pins σ H { s with heap := h' } := I.turned (t' := s.toks) (fun b ob hb z => eb b ob hb z) fI.1 fI.2.1 fI.2.2.2.1 fI.2.2.2.2.1 fI.2.2.2.2.2
    have hS' := eb S _ (Ne.symm hne) hS
    show wpAny _ X.A.in1 (updateSeq S (fun _ => #[]) >>= _) _ _ _
    refine wpAny_bind ?_
    refine wpAny_updateSeq (hS') rfl (wpAny_bind (wpAny_letGo (wpAny_pure (?_))))
    have sb := Heap.SameBut.update h' S (Obj.mapSeq fun _ => (#[] : Array Value))
    refine hR H _ b (I1.turned (t' := s.toks) (fun b ob hb z => (sb.2 b hb).trans z) fS.1 fS.2.1 fS.2.2.2.1 fS.2.2.2.2.1 fS.2.2.2.2.2) ex hb fun e he => best e ?_
    rw [List.take_of_length_le (by omega)]
    exact he
  | succ r ih =>
    intro j b H s kb kv c hrr h0 hj M hS rb dp hb best
    have hlt : j < xs.length := by omega
    obtain ⟨e, he⟩ : ∃ e, xs[j]? = some e := ⟨_, List.getElem?_eq_getElem hlt⟩
    have hem : e ∈ xs := List.mem_of_getElem? he
    refine codeAny_builtin (PySem.F.entry_max_loop) ?_
    rw [Around.under_plainId (PySem.F.plain_max_loop) _]
    show wpAny _ X.A.in1 (seqItems? (.ref S) >>= _) _ _ s
    refine wpAny_bind (wpAny_seqItems (hS) rfl ?_)
    show wpAny _ X.A.in1 (tryCatch (pyNext (.ref it)) _ >>= _) _ _ s
    refine wpAny_bind (wpAny_tryCatch (max_step kf hr hod hd G hne M hS he fun H1 s1 M1 e1 hS1 => ?_))
    show wpAny _ X.A.in1 (tryCatch (holding [.ref e.2.1] (call (.ref q) [.ref e.2.1])) _ >>= _) _ _ _
    refine wpAny_bind (wpAny_tryCatch (wpAny_holding (wpAny_mono (max_key kf hr G M1 hS1 hem (Q := fun k s2 => ∃ kv2 H2, MaxAt X pins σ H0 d it S es.size ep (j + 1) H2 s2 ∧ Ext H1 H2 ∧ s2.heap.get? S = some (seqObj "list" #[.ref b.2.1, kb] c) ∧ RelV kv2 k ∧ Dp X.K H2 kv2 (kd e))
      fun kv2 k2 H2 s2 M2 e2 hS2 r2 d2 => ⟨kv2, H2, M2, e2, hS2, r2, d2⟩) (fun k s2 hq => ?_) fun _ _ z => z.elim)))
    obtain ⟨kv2, H2, M2, e2, hS2, r2, d2⟩ := hq
    have dpb : Dp X.K H2 kv (kd b) := dp_ext (e1.trans e2) dp
    obtain ⟨as, ra⟩ := Dp.reads M2.inv (kd e) kv2 k d2 r2
    obtain ⟨bs, rb'⟩ := Dp.reads M2.inv (kd b) kv kb dpb rb
    have hu : X.A.in1.units + min (kd e).depth (kd b).depth < cLine := by
      have h1 := hr.un
      have h2 := (G.dep e hem).2
      have h3 : X.A.in1.units = X.A.units + 1 := rfl
      have h4 := Nat.min_le_left (kd e).depth (kd b).depth
      omega
    show wpAny _ X.A.in1 (tryCatch (holding [.ref e.2.1, k] (richCompare .Gt k kb >>= _)) _ >>= _) _ _ _
    refine wpAny_bind (wpAny_tryCatch (wpAny_holding (wpAny_bind (PySem.W.rcGt_alike (kd e) (kd b) X.A.in1 s2 k kb as bs ra rb' (G.al e hem b hb) (G.dep e hem).1 hu _ _ _ _ ?_))))
    refine wpAny_bind (wpAny_holding (wpAny_truthy_bool (?_)))
    refine wpAny_bind (wpAny_letGo (wpAny_pure (?_)))
    rw [G.lt b hb e hem]
    have tk : xs.take (j + 1) = xs.take j ++ [e] := by rw [List.take_add_one, he]; rfl
    by_cases hlt2 : rk b < rk e
    · simp only [hlt2, decide_true, if_true]
      refine wpAny_bind ?_
      refine wpAny_updateSeq (hS2) rfl (wpAny_bind (wpAny_letGo (?_)))
      rw [nm]
      obtain ⟨M3, c3, hS3⟩ := max_put (its' := #[.ref e.2.1, k]) M2 hS2 hne
      refine wpAny_pure ⟨plainId_quiet (PySem.F.plain_max_loop) _, ih (j + 1) e H2 _ k kv2 c3 (by omega) (by omega) hlt M3 hS3 r2 d2 hem fun e' he' => ?_⟩
      rw [tk] at he'
      rcases List.mem_append.mp he' with z | z
      · have := best e' z
        omega
      · rw [List.mem_singleton.mp z]
        exact Nat.le_refl _
    · simp only [hlt2, decide_false, Bool.false_eq_true, if_false]
      refine wpAny_bind (wpAny_letGo (?_))
      rw [nm]
      refine wpAny_pure ⟨plainId_quiet (PySem.F.plain_max_loop) _, ih (j + 1) b H2 s2 kb kv c (by omega) (by omega) hlt M2 hS2 rb dpb hb fun e' he' => ?_⟩
      rw [tk] at he'
      rcases List.mem_append.mp he' with z | z
      · exact best e' z
      · rw [List.mem_singleton.mp z]
        omega
/-- a view of a dict's keys -/
def ViewO (v d : Addr) : HO := .ext fun h => PySem.W.KdlKeysView h v d
/-- max(view, key=f) -/
def rXMax (P : Program) (w : World) (D : V → PyData → Hp → Prop) (q : Addr) : List V → List V → Hp → VK → Prop := fun vs zs H Q => ∃ v d o xs kd rk, vs = [V.ref v] ∧ zs = [V.ref q] ∧ H v = some (ViewO v d) ∧ H d = some (.frz o (DO P w d xs)) ∧ 0 < xs.length ∧ Ranked D H xs kd rk ∧
  ∀ H' b, Ext H H' → b ∈ xs → (∀ e ∈ xs, rk e ≤ rk b) → Q (.ref b.2.1) H'
theorem cr_xmax (kf : KeyFn X [] n (.ref q) D) (hr : Room (n + 1) X.A) : CallRK X (.builtin "max") [Str.ofString "key"] (rXMax X.prog X.w D q) := by
  have nm : (toString "max" ++ toString ".loop" : String) = "max.loop" := by decide
  intro pins s σ H vs zs us ws Q I r rz h
  obtain ⟨v, d, o, xs, kd, rk, rfl, rfl, hv, hd, h0, G, hq⟩ := h
  obtain rfl := Vals.ref1 r
  obtain rfl := Vals.ref1 rz
  obtain ⟨_, es, ep, hrw, hsz, _⟩ := raw_of I (.inr ⟨o, hd⟩)
  obtain ⟨ob, g1, g2, hod⟩ := id hrw
  have eo : o = ob := by
    obtain ⟨hd2, _⟩ := (show ObjOk X.prog X.w H s.heap d (.frz o (DO X.prog X.w d xs)) from I.hok d _ hd)
    exact Option.some.inj (hd2.symm.trans g1)
  subst eo
  have hview : PySem.W.KdlKeysView s.heap v d := (show ObjOk X.prog X.w H s.heap v (ViewO v d) from I.hok v _ hv).1
  refine kmk_tree (PySem.F.kind_max) (PySem.F.plain_max) (PySem.F.entry_max) (kmk_max_key (.ref v) (.ref q)) ?_
  show wpAny _ X.A.in1 (Builtin.Builtins.bindParams "max" ["key", "default"] 0 ⟨[], [(Str.ofString "key", Value.ref q)]⟩ >>= _) _ _ s
  refine wpAny_bind (wpAny_of_eq (show Builtin.Builtins.bindParams "max" ["key", "default"] 0 ⟨[], [(Str.ofString "key", Value.ref q)]⟩ = pure [some (Value.ref q), none] from rfl) ?_)
  refine wpAny_bind (wpAny_pure (?_))
  refine wpAny_bind (wpAny_pyIter_keys_raw hview hrw ?_)
  refine wpAny_bind (wpAny_newList ?_ (Nat.zero_le _))
  rw [nm]
  obtain ⟨it, hit⟩ : ∃ it, it = s.heap.objs.size := ⟨_, rfl⟩
  let h1 := s.heap.push { cls := .type "dict_keyiterator", data := .fields #[.ref d, .int 0 0, .int es.size 0, .int ep 0] }
  have e1 : h1.objs.size = s.heap.objs.size + 1 := size_push' _ _
  have I2 : Inv X pins σ H { s with heap := h1.push (seqObj "list" #[] 0) } := I.kept (t' := s.toks) fun b ob z => Heap.get?_push_of_some _ (Heap.get?_push_of_some _ z)
  have M0 : MaxAt X pins σ H d s.heap.objs.size h1.objs.size es.size ep 0 H { s with heap := h1.push (seqObj "list" #[] 0) } :=
    ⟨I2, Ext.rfl', I.fpOk (Nat.le_refl _) (I.hok.fresh (Nat.le_refl _)), I.fpOk (by rw [e1]; exact Nat.le_succ _) (I.hok.fresh (by rw [e1]; exact Nat.le_succ _)), ⟨_, Heap.get?_push_of_some _ (Heap.get?_push_size _ rfl), rfl, rfl⟩⟩
  have hS0 : (h1.push (seqObj "list" #[] 0)).get? h1.objs.size = some (seqObj "list" #[] 0) := Heap.get?_push_size _ rfl
  have hne : s.heap.objs.size ≠ h1.objs.size := by rw [e1]; exact Nat.ne_of_lt (Nat.lt_succ_self _)
  obtain ⟨e, he⟩ : ∃ e, xs[0]? = some e := ⟨_, List.getElem?_eq_getElem h0⟩
  have hem : e ∈ xs := List.mem_of_getElem? he
  refine wpAny_pure ⟨plainId_quiet (PySem.F.plain_max_loop) _, ?_⟩
  refine codeAny_builtin (PySem.F.entry_max_loop) ?_
  rw [Around.under_plainId (PySem.F.plain_max_loop) _]
  show wpAny _ X.A.in1 (seqItems? (.ref h1.objs.size) >>= _) _ _ _
  refine wpAny_bind (wpAny_seqItems (hS0) rfl ?_)
  show wpAny _ X.A.in1 (tryCatch (pyNext (.ref s.heap.objs.size)) _ >>= _) _ _ _
  refine wpAny_bind (wpAny_tryCatch (max_step kf hr hod hd G hne M0 hS0 he fun H1 s1 M1 e1 hS1 => ?_))
  show wpAny _ X.A.in1 (tryCatch (holding [.ref e.2.1] (call (.ref q) [.ref e.2.1])) _ >>= _) _ _ _
  refine wpAny_bind (wpAny_tryCatch (wpAny_holding (wpAny_mono (max_key kf hr G M1 hS1 hem (Q := fun k s2 => ∃ kv2 H2, MaxAt X pins σ H d s.heap.objs.size h1.objs.size es.size ep (0 + 1) H2 s2 ∧ Ext H1 H2 ∧ s2.heap.get? h1.objs.size = some (seqObj "list" #[] 0) ∧ RelV kv2 k ∧ Dp X.K H2 kv2 (kd e))
    fun kv2 k2 H2 s2 M2 e2 hS2 r2 d2 => ⟨kv2, H2, M2, e2, hS2, r2, d2⟩) (fun k s2 hq2 => ?_) fun _ _ z => z.elim)))
  obtain ⟨kv2, H2, M2, e2, hS2, r2, d2⟩ := hq2
  show wpAny _ X.A.in1 (updateSeq h1.objs.size (fun _ => #[.ref e.2.1, k]) >>= _) _ _ _
  refine wpAny_bind ?_
  refine wpAny_updateSeq (hS2) rfl ?_
  rw [nm]
  obtain ⟨M3, c3, hS3⟩ := max_put (its' := #[.ref e.2.1, k]) M2 hS2 hne
  refine wpAny_pure ⟨plainId_quiet (PySem.F.plain_max_loop) _, max_loop kf hr hod hsz hd G hne (fun H5 s5 b I5 x5 hb best => ?_) _ 1 e H2 _ k kv2 c3 rfl (by omega) h0 M3 hS3 r2 d2 hem fun e' he' => ?_⟩
  · exact ⟨.ref b.2.1, H5, I5, rfl, hq H5 b x5 hb best⟩
  · have : xs.take 1 = [e] := by
      cases xs with
      | nil => exact absurd h0 (by simp)
      | cons y ys => simp at he; simp [he]
    rw [this] at he'
    rw [List.mem_singleton.mp he']
    exact Nat.le_refl _
end
end FS
set_option Elab.async false
set_option linter.all false
set_option maxRecDepth 100000
set_option maxHeartbeats 4000000
namespace FS
open PySem PySem.Spec PyProof.Rows L2 PySem.W
section
variable {X : Cx} {pins : List (Addr × Obj)} {σ : L2.St}
/-! ### d.keys() as a value; d != {} -/
def tXKeys (P : Program) (w : World) (td : TE) : TE := fun σ H Q => td σ H fun x H1 => ∃ d xs, x = .ref d ∧ Rd H1 d (DO P w d xs) ∧ ∀ p, H1 p = none → Q (.ref p) (upd H1 p (ViewO p d))
theorem pe_xkeys {e : Expr} {td : TE} {apos cpos : Pos} (he : PE X e td) (hbase : attributeBase e "keys" X.env (eval e X.env) = eval e X.env := by rfl) (hline : (apos.endLine == cpos.line) = true := by rfl) :
    PE X (.Call (.Attribute e "keys" apos) [] [] cpos) (tXKeys X.prog X.w td) := by
  refine ⟨fun pins s σ H Q I h => ?_⟩
  refine wpAny_Call_method (T := "dict") (id := "dict.keys") hbase rfl hline PySem.F.plainAttrs_dict PySem.F.slot_dict_keys PySem.F.type_dict_keys (thn (he.run pins s σ H _ I h) fun u s1 ⟨x, H1, I1, rx, d, xs, ex, hd, q⟩ => ?_)
  subst ex
  obtain rfl : u = Value.ref d := rx
  obtain ⟨hs, es, ep, hr, hsz, ent⟩ := raw_of I1 hd
  obtain ⟨ob, g1, g2, g3⟩ := id hr
  refine ⟨hr.typeIs, fun b q => by cases q; exact ⟨ob, g1, g2.2.1⟩, ?_⟩
  have hv : KdlKeysView (s1.heap.push { cls := .type "dict_keys", data := .fields #[.ref d] }) s1.heap.objs.size d := ⟨_, Heap.get?_push_size _ rfl, rfl, rfl⟩
  have fin : L2.EP X pins σ Q (.ref s1.heap.objs.size) { s1 with heap := s1.heap.push { cls := .type "dict_keys", data := .fields #[.ref d] } } := by
    refine ⟨.ref s1.heap.objs.size, upd H1 s1.heap.objs.size (ViewO s1.heap.objs.size d), I1.laid (t' := s1.toks) (fun b u e => Heap.get?_push_of_some _ e) (Nat.le_refl _) ⟨hv, ?_, fun h1 h2 x k => ?_⟩, rfl, q _ (I1.hok.fresh (Nat.le_refl _))⟩
    · obtain ⟨o, a, _⟩ := hv
      exact ⟨o, a⟩
    · obtain ⟨o, a, b⟩ := x
      exact ⟨o, k _ a, b⟩
  show wpAny _ _ (callWith cpos (.builtin "dict.keys") [.ref d] [] []) _ X.xe s1
  exact method_meetsIn PySem.F.slot_dict_keys PySem.F.entry_dict_keys rfl (PySem.evalArgs_none ⟨rfl, hr.typeIs, PySem.F.args_dict_keys_1 _, _, meets_dict_keys_raw d hs, ⟨es, ep, hr⟩, fin⟩)
def rXNe (P : Program) (w : World) (K : PySem.W.Frag) : R2 := fun x y H Q => ∃ a b kvs, x = .ref a ∧ y = .ref b ∧ DR P w K H a kvs ∧ DR P w K H b [] ∧ Q (.bl (!kvs.isEmpty)) H
theorem op_xne (hu : X.A.units < cLine) : OpR X (compareOp .NotEq) (rXNe X.prog X.w X.K) := by
  intro pins s σ H x y v u Q I rx ry h
  obtain ⟨a, b, kvs, rfl, rfl, ⟨xs, ek, da, _⟩, ⟨ys, ek', db, _⟩, q⟩ := h
  obtain rfl : v = Value.ref a := rx
  obtain rfl : u = Value.ref b := ry
  obtain ⟨sa, es, ep, hra, hza, _⟩ := raw_of I da
  obtain ⟨sb, es', ep', hrb, hzb, _⟩ := raw_of I db
  have e0 : ys = [] := by
    cases ys with
    | nil => rfl
    | cons y r => exact absurd ek' (by simp [kvE])
  refine ne_empty sa sb hra hrb (by rw [hzb, e0]; rfl) hu ⟨.bl _, H, I, ?_, q⟩
  subst ek
  have : (es.size != 0) = !(kvE xs).isEmpty := by
    rw [hza]
    cases xs <;> simp [kvE]
  rw [this]
  rfl
end
/-! ### sorted by a key -/
section
variable {X : Cx} {n : Nat} {q : Addr} {D : V → PyData → Hp → Prop} {pins : List (Addr × Obj)} {σ : L2.St} {H0 : Hp} {l : Addr} {xs : List V}
/-- while the keys are made: the new list at a is empty, the keys so far are at kS -/
structure KeysAt (X : Cx) (pins : List (Addr × Obj)) (σ : L2.St) (H0 : Hp) (a kS : Addr) (e1 : Nat) (kz : List PyData) (s : Shared) : Prop where
  ex : ∃ (H : Hp) (kA : Array Value) (e : Nat), Inv X pins σ H s ∧ Ext H0 H ∧ FpOk X pins H a ∧ FpOk X pins H kS ∧ s.heap.get? a = some (seqObj "list" #[] e1) ∧ s.heap.get? kS = some (seqObj "list" kA e) ∧
    EachIs (fun v d => ∃ kv, RelV kv v ∧ Dp X.K H kv d) kA.toList kz
def rXSorted (K : PySem.W.Frag) (D : V → PyData → Hp → Prop) (q : Addr) : List V → List V → Hp → VK → Prop := fun vs zs H Q => ∃ (l : Addr) (xs : List V) (kd : V → PyData), vs = [V.ref l] ∧ zs = [V.ref q] ∧ SqL K H l xs ∧ (∀ a ∈ xs, ∀ b ∈ xs, alike (kd a) (kd b) = true) ∧ (∀ a ∈ xs, ∃ x r, kd a = .tuple (x :: r)) ∧
  (∀ a ∈ xs, (kd a).depth ≤ 8) ∧ (∀ a ∈ xs, ∀ H', Ext H H' → D a (kd a) H') ∧ ∀ H' p ys, Ext H H' → H p = none → H' p = some (.lst ys) → ys.Perm xs → Q (.ref p) H'
theorem vals_each {vs : List V} {us : List Value} (r : Vals vs us) : EachIs (fun u v => RelV v u) us vs := by
  induction r with
  | nil => exact .nil
  | cons h t ih => exact .cons h ih
theorem each_vals {vs : List V} {us : List Value} (r : EachIs (fun u v => RelV v u) us vs) : Vals vs us := by
  induction r with
  | nil => exact .nil
  | cons h t ih => exact .cons h ih
theorem sorted_runK {pl : List (Addr × Obj)} (kf : KeyFn X pl n (.ref q) D) (hr : Room (n + 2) X.A) {s : Shared} {H : Hp} {Q : VK} {kd : V → PyData} (hp : ∀ p ∈ pl, p ∈ pins) (I : Inv X pins σ H s) (hl : SqL X.K H l xs)
    (hal : ∀ a ∈ xs, ∀ b ∈ xs, alike (kd a) (kd b) = true) (hso : ∀ a ∈ xs, ∃ x r, kd a = .tuple (x :: r)) (hdp : ∀ a ∈ xs, (kd a).depth ≤ 8) (hD : ∀ a ∈ xs, ∀ H', Ext H H' → D a (kd a) H')
    (hq : ∀ H' p ys, Ext H H' → H p = none → H' p = some (.lst ys) → ys.Perm xs → Q (.ref p) H') : wpAny (model X.prog X.w) X.A (call (.builtin "sorted") [.ref l] [(Str.ofString "key", .ref q)]) (L2.EP X pins σ Q) X.xe s := by
  obtain ⟨vs, rv, hpl, hz⟩ := I.list hl
  have hvl : vs.length = xs.length := rv.length.symm
  have ev := vals_each rv
  have hL : vs.length ≤ sizeLine := by rw [hvl]; exact hz
  refine sorted_of_sort hpl.isList hL (ksk_s1 _ _) (fun _ => ksk_l1 _ _) fun E' => ?_
  show wpAny _ _ (Builtin.«list.sort» ⟨[.ref (s.heap.objs.size + 1)], [(Str.ofString "key", .ref q)]⟩) _ _ _
  rw [ksk_t1]
  obtain ⟨a, ha⟩ : ∃ a, a = s.heap.objs.size + 1 := ⟨_, rfl⟩
  rw [← ha]
  have ho : (copyHeap s.heap vs).get? a = some (seqObj "list" vs.toArray 0) := by rw [ha]; exact copyHeap_at s.heap vs
  have a_le : s.heap.objs.size ≤ a := by
    rw [ha]
    exact Nat.le_succ _
  have a_lt := Heap.lt_size ho
  obtain ⟨e1, ho1⟩ : ∃ e1, ((copyHeap s.heap vs).update a (Obj.mapSeq fun _ => (#[] : Array Value))).get? a = some (seqObj "list" #[] e1) := ⟨_, get?_update_seq ho fun _ => #[]⟩
  unfold ksk_tree
  refine wpAny_bind (listItems_at ho rfl ?_)
  refine wpAny_bind (listUpdate_at ho rfl ?_ (by rw [List.size_toArray]; exact hL) (Nat.zero_le _))
  refine wpAny_bind (seqEpoch_at ho1 rfl ?_)
  refine wpAny_bind (wpAny_newTuple ?_ (by show vs.length ≤ _; exact hL))
  refine wpAny_bind (wpAny_newList ?_ (Nat.zero_le _))
  refine wpAny_holding (?_)
  have kS_eq : (((copyHeap s.heap vs).update a (Obj.mapSeq fun _ => (#[] : Array Value))).push (seqObj "tuple" vs.toArray 0)).objs.size = (copyHeap s.heap vs).objs.size + 1 := by rw [size_push', Heap.size_update]
  obtain ⟨kS, hk⟩ : ∃ kS, kS = (((copyHeap s.heap vs).update a (Obj.mapSeq fun _ => (#[] : Array Value))).push (seqObj "tuple" vs.toArray 0)).objs.size := ⟨_, rfl⟩
  have kS_gt : a < kS := by
    rw [hk, kS_eq]
    exact Nat.lt_succ_of_lt a_lt
  have hka : kS ≠ a := Nat.ne_of_gt kS_gt
  have kS_le : s.heap.objs.size ≤ kS := Nat.le_of_lt (Nat.lt_of_le_of_lt a_le kS_gt)
  have old : ∀ b o, s.heap.get? b = some o → ((((copyHeap s.heap vs).update a (Obj.mapSeq fun _ => (#[] : Array Value))).push (seqObj "tuple" vs.toArray 0)).push (seqObj "list" #[] 0)).get? b = some o := fun b o z =>
    Heap.get?_push_of_some _ (Heap.get?_push_of_some _ (((Heap.SameBut.update (copyHeap s.heap vs) a (Obj.mapSeq fun _ => (#[] : Array Value))).2 b (Nat.ne_of_lt (Nat.lt_of_lt_of_le (Heap.lt_size z) a_le))).trans (copyHeap_old z)))
  have K0 : KeysAt X pins σ H a kS e1 [] { s with heap := (((copyHeap s.heap vs).update a (Obj.mapSeq fun _ => (#[] : Array Value))).push (seqObj "tuple" vs.toArray 0)).push (seqObj "list" #[] 0) } :=
    ⟨H, #[], 0, I.kept (t' := s.toks) old, Ext.rfl', I.fpOk a_le (I.hok.fresh a_le), I.fpOk kS_le (I.hok.fresh kS_le), Heap.get?_push_of_some _ (Heap.get?_push_of_some _ ho1), by rw [hk]; exact Heap.get?_push_size _ rfl, .nil⟩
  show wpAny _ _ (ksk_rest a (.ref q) false vs.toArray e1 (.ref (((copyHeap s.heap vs).update a (Obj.mapSeq fun _ => (#[] : Array Value))).push (seqObj "tuple" vs.toArray 0)).objs.size)) _ _ _
  rw [← hk]
  unfold ksk_rest
  refine wpAny_bind (wpAny_rule (?_))
  rw [List.forIn_toArray]
  refine wpAny_bind (ksk_fold (fun i s' => KeysAt X pins σ H a kS e1 ((xs.map kd).take i) s') vs 0 _ (by rw [List.take_zero]; exact K0) ?step ?done)
  case step =>
    intro j v s' hv K1
    rw [Nat.zero_add] at K1 ⊢
    obtain ⟨H1, kA, e, I1, x1, fa, fk, na, nk, hks⟩ := K1
    have hj : j < vs.length := (List.getElem?_eq_some_iff.mp hv).1
    obtain ⟨x, hx⟩ : ∃ x, xs[j]? = some x := ⟨_, List.getElem?_eq_getElem (by omega)⟩
    have hxm : x ∈ xs := List.mem_of_getElem? hx
    obtain ⟨v', hv', rx⟩ := rv.get hx
    rw [hv] at hv'
    cases hv'
    refine wpAny_bind (wpAny_attempt (wpAny_mono (kf X.A.in1.in1 pins s' σ H1 x v (kd x) ⟨hr.in1.in1, rfl⟩ hp I1 rx (hD x hxm H1 x1)) (fun k s2 hq2 => ?_) fun _ _ z => z.elim))
    obtain ⟨kv, H2, I2, rk, dp, x2, fr⟩ := key_after I1 hq2
    have na2 := fp_kept (H' := H2) I1 hq2 fa na
    have nk2 := fp_kept (H' := H2) I1 hq2 fk nk
    have fa2 := fp_upd fa (fr a _ na fa.1)
    have fk2 := fp_upd fk (fr kS _ nk fk.1)
    have hzk : kA.size ≤ vs.length := by
      have h1 := hks.length
      rw [Array.length_toList, List.length_take] at h1
      omega
    have sb := Heap.SameBut.update s2.heap kS (Obj.mapSeq (·.push k))
    obtain ⟨c2, hc2⟩ : ∃ c2, (s2.heap.update kS (Obj.mapSeq (·.push k))).get? kS = some (seqObj "list" (kA.push k) c2) := ⟨_, get?_update_seq nk2 (·.push k)⟩
    refine wpAny_bind (listUpdate_at nk2 rfl ?_ (Nat.le_trans hzk hL) (Nat.le_trans (Nat.le_of_eq (Array.size_push ..)) (Nat.succ_le_succ (Nat.le_trans hzk hL))))
    have ek : (xs.map kd).take (j + 1) = (xs.map kd).take j ++ [kd x] := by rw [List.take_add_one, List.getElem?_map, hx]; rfl
    refine wpAny_pure ⟨rfl, ⟨H2, kA.push k, c2, I2.turned (t' := s2.toks) (fun b ob hb z => (sb.2 b hb).trans z) fk2.1 fk2.2.1 fk2.2.2.2.1 fk2.2.2.2.2.1 fk2.2.2.2.2.2, x1.trans x2, fa2, fk2, (sb.2 a hka.symm).trans na2, hc2, ?_⟩⟩
    rw [ek, Array.toList_push]
    exact each_snoc ⟨kv, rk, dp⟩ (hks.mono fun u d ⟨kv', r', p'⟩ => ⟨kv', r', dp_ext x2 p'⟩)
  case done =>
    intro s' K1
    obtain ⟨H1, kA, e, I1, x1, fa, fk, na, nk, hks⟩ := K1
    rw [Nat.zero_add, List.take_of_length_le (by rw [List.length_map]; omega)] at hks
    have hks2 : EachIs (fun v d => ∃ as, Reads s'.heap v d as) kA.toList (xs.map kd) := hks.mono fun v d ⟨kv, r', p'⟩ => Dp.reads I1 d kv v p' r'
    have hsz : kA.size = vs.length := by
      have h1 := hks2.length
      rw [Array.length_toList, List.length_map] at h1
      omega
    have AL : AllAlike (xs.map kd) := by
      intro d hd d' hd'
      obtain ⟨x, hx, rfl⟩ := List.mem_map.mp hd
      obtain ⟨y, hy, rfl⟩ := List.mem_map.mp hd'
      exact hal x hx y hy
    have SO : Sortable (xs.map kd) := .inl fun d hd => by
      obtain ⟨x, hx, rfl⟩ := List.mem_map.mp hd
      exact hso x hx
    refine wpAny_bind (listItems_at nk rfl ?_)
    refine keyH_end (κ := dataKind s'.heap (xs.map kd)) (h₁ := hideAll s'.heap [kS]) (fun b o _ z => of_hideAll [kS] z) (hideAll_none [kS] (by simp)) nk na hka (SortsAt.data (s := s') hks2 AL SO fun d hd => ?_) hsz hL fun h3 tk3 c k3 n3 => ⟨rfl, ?_⟩
    · obtain ⟨x, hx, rfl⟩ := List.mem_map.mp hd
      have h1 := hr.un
      have h2 := hdp x hx
      have h3 : X.A.in1.in1.units = X.A.units + 2 := rfl
      omega
    · have eo : EachIs (fun u v => RelV v u) (sortVals (dataKind s'.heap (xs.map kd)) false kA.toList vs) (xs.mergeSort (dataLe false kd)) :=
        keyedOut_each kd ⟨s'.heap, kA.toList, AL, rfl, hks2⟩ ev
      have ro := each_vals eo
      have pm : (xs.mergeSort (dataLe false kd)).Perm xs := List.mergeSort_perm xs (dataLe false kd)
      have IG : Inv X pins σ H1 { s' with heap := hideAll s'.heap [a, kS] } := I1.turnedL (t' := s'.toks) (ch := [a, kS]) (fun b o hb z => hideAll_get [a, kS] z hb) fun b hb => by
        rcases List.mem_cons.mp hb with z | z
        · rw [z]; exact fa
        · rw [List.mem_singleton.mp z]; exact fk
      have keep : ∀ b o, (hideAll s'.heap [a, kS]).get? b = some o → h3.get? b = some o := fun b o z => by
        have nb : b ∉ [a, kS] := fun m => by
          rw [hideAll_none [a, kS] m] at z
          cases z
        have z1 := of_hideAll [a, kS] z
        refine k3 b o (fun m => nb (by simp [m])) (hideAll_get [kS] z1 fun m => nb (by simp [List.mem_singleton.mp m]))
      have Hf : H a = none := I.hok.fresh a_le
      refine ⟨.ref a, upd H1 a (.lst (xs.mergeSort (dataLe false kd))), IG.laidN (t' := tk3) keep (hideAll_none [a, kS] (by simp)) fa.1 ⟨by rw [pm.length_eq]; exact hz, _, c, ro, n3⟩, rfl, ?_⟩
      exact hq _ a _ (fun b o z => by rw [upd_ne (ne_of_none z Hf)]; exact x1 b o z) Hf upd_same pm
theorem cr_xsorted (kf : KeyFn X [] n (.ref q) D) (hr : Room (n + 2) X.A) : CallRK X (.builtin "sorted") [Str.ofString "key"] (rXSorted X.K D q) := by
  intro pins s σ H vs0 zs us ws Q I r rz h
  obtain ⟨l, xs, kd, rfl, rfl, hl, hal, hso, hdp, hD, hq⟩ := h
  obtain rfl := Vals.ref1 r
  obtain rfl := Vals.ref1 rz
  exact sorted_runK kf hr (fun _ z => nomatch z) I hl hal hso hdp hD hq
end
end FS
set_option Elab.async false
set_option linter.all false
set_option maxRecDepth 100000
set_option maxHeartbeats 4000000
/-! sorted(l, key=lambda row: ..): the lambda has a parameter and captures nothing -/
namespace FS
open PySem PySem.Spec PyProof.Rows L2 PySem.W
/-- p is new in H (or a table's place) -/
def NewIn (H : Hp) (p : Addr) : Prop := ∀ o, H p = some o → ∃ ps, o = .tbl ps
theorem NewIn.of {H : Hp} {p : Addr} (h : H p = none) : NewIn H p := fun o e => by rw [h] at e; cases e
theorem NewIn.ne {H : Hp} {p b : Addr} {o : HO} (h : NewIn H p) (e : H b = some o) (nt : ∀ ps, o ≠ .tbl ps) : b ≠ p := fun z => by
  rw [z] at e
  obtain ⟨ps, q⟩ := h o e
  exact nt ps q
section
variable {X : Cx} {pins : List (Addr × Obj)} {σ : L2.St} {H : Hp} {s : Shared}
/-- a function's object is no frame -/
theorem fn_not_frame (I : Inv X pins σ H s) {f : Addr} {cl : Value} {fd : FuncData} (hf : s.heap.get? f = some { cls := cl, data := .func fd }) (hs : f ∉ frs X.stack) : f ≠ X.env.locals ∧ f ∉ X.fs := by
  constructor
  · intro z
    obtain ⟨m, ⟨o, es, ep, ho, hd, _⟩, _⟩ := I.loc
    rw [← z, hf] at ho
    cases ho
    cases hd
  · intro z
    refine hs ?_
    rcases I.ok.stk with e | ⟨e, h⟩
    · rw [e]
      exact z
    · rw [e]
      unfold frs
      rw [List.filterMap_cons, h]
      exact List.mem_cons_of_mem _ z
abbrev lamPin (f c' : Addr) (qual : Str) (params : Arguments) (body : Expr) (scope : Scope) (pm ctv : Value) : Addr × Obj := (f, kla_obj "<lambda>" qual params body scope [] pm c' ctv)
theorem keyFn_lam {n : Nat} {f c' : Addr} {qual p : Str} {params : Arguments} {body : Expr} {scope : Scope} {pm ctv : Value} {D : V → PyData → Hp → Prop} (S : FnScope [p] [p] scope)
    (hbind : ∀ u, bindArgs (kla_fn "<lambda>" qual params body scope [] pm (.ref c') ctv) ⟨[u], []⟩ = pure [(p, u)])
    (hbody : ∀ (B : Around) (s : Shared) (H : Hp) (x : V) (d : PyData), Room n (B.deeper (envOfC qual scope s.heap.objs.size f (.ref c'))) → D x d H →
      ∃ t, PE (cxOf (fun _ _ _ _ _ _ => False) X.prog X.w X.K X.mg X.base [p] qual scope f (.ref c') B X.stack s H (fun _ _ _ => False)) body t ∧ t [some x] H (fun k H' => Dp X.K H' k d ∧ Ext H H')) :
    KeyFn X [lamPin f c' qual params body scope pm ctv] (n + 1) (.ref f) (fun x d H => H c' = some (LamX.CodeO c' qual) ∧ D x d H) := by
  intro B pins s σ H x u d sb hp I rx ⟨hc, hd⟩
  have pin := hp _ List.mem_cons_self
  have hf := (I.pin _ (List.mem_append_right _ pin)).1
  have e0 : Env0 X.prog X.w X.K X.mg X.base B X.stack s H := by
    obtain ⟨a1, a2, a3, a4, a5, a6, a7, a8⟩ := I.env0
    exact ⟨sb.fr.trans a1, a2, a3, a4, a5, a6, a7, a8⟩
  obtain ⟨⟨oc, cvs, ct, hoc, hdc, hvc⟩, _, _⟩ := (show ObjOk X.prog X.w H s.heap c' (LamX.CodeO c' qual) from I.hok c' _ hc)
  have hkind : ∀ y ∈ [p].zip [u], scope.names.lookup y.1 = some .local ∨ (scope.names.lookup y.1 = some .cell ∧ ((cellsFrom (s.heap.objs.size + 1) scope.names []).lookup y.1).isSome = true) := fun ⟨n, v⟩ hy => by
    rcases S.par n (List.of_mem_zip hy).1 with q | q
    · exact .inl q
    · exact .inr ⟨q, cellsFrom_some _ _ _ (.inl q)⟩
  have rc : codeAny (model X.prog X.w) B (.call (.ref f) ⟨[u], []⟩) (CR (fun _ _ _ _ _ _ => False) X.stack X.prog X.w H s (fun k H' => Dp X.K H' k d ∧ Ext H H') (fun _ _ _ => False)) s := by
    refine kla_callFunE sb.room.depth hf rfl S.co S.gen rfl ⟨c', oc, cvs, ct, rfl, hoc, hdc, hvc⟩ ?_
    rw [hbind]
    refine wpAny_pure (wpAny_newFunctionEnv_cells S.kind hkind fun env he s1 x1 => ?_)
    subst he
    refine ⟨I.nolimit.keeps x1.toInCall.keep, ?_⟩
    obtain ⟨t, ht, hq⟩ := hbody B s H x d (sb.room.deeper _) hd
    have J : Inv (cxOf (fun _ _ _ _ _ _ => False) X.prog X.w X.K X.mg X.base [p] qual scope f (.ref c') B X.stack s H (fun _ _ _ => False)) [] (L2.start [p] [x]) H s1 := inv_start S sb.room.hd e0 rfl (.cons rx .nil) x1
    refine kla_codeExpr (wpAny_mono (ht.run [] s1 (L2.start [p] [x]) H _ J hq) (fun v s' z => ?_) fun e s' z => z)
    obtain ⟨k, H', J', rv, q⟩ := z
    exact ⟨k, H', J'.os, J'.bare, J'.base, J'.hok, rv, q⟩
  refine wpAny_call (codeAny_mono rc fun r s' hq => ?_)
  cases r with
  | error e => exact hq
  | ok fl =>
    cases fl with
    | ret w' => exact hq
    | next => exact hq
    | brk => exact hq
    | cont => exact hq
end
/-- sorted(l, key=lambda p: ..) -/
def tXSortLam (K : PySem.W.Frag) (T : List (Addr × Str)) (D : V → PyData → Hp → Prop) (ta : TA) : TE := fun σ H Q => ta σ H fun vs H1 => ∃ (l : Addr) (xs : List V) (kd : V → PyData), vs = [V.ref l] ∧ LamX.Tabs T H1 ∧ SqL K H1 l xs ∧
  (∀ a ∈ xs, ∀ b ∈ xs, alike (kd a) (kd b) = true) ∧ (∀ a ∈ xs, ∃ y r, kd a = .tuple (y :: r)) ∧ (∀ a ∈ xs, (kd a).depth ≤ 8) ∧ (∀ a ∈ xs, ∀ H', LamX.ExtN H1 H' → D a (kd a) H') ∧
  ∀ H' p ys, LamX.ExtN H1 H' → LamX.Tabs T H' → NewIn H1 p → H' p = some (.lst ys) → ys.Perm xs → Q (.ref p) H'
theorem clo_none {cells : List (Str × Addr)} : ∀ {l : List (Str × NameKind)} {acc : List (Str × Addr)}, (∀ y ∈ l, y.2 ≠ .free) → cloFrom cells l acc = acc
  | [], _, _ => rfl
  | y :: l, acc, h => by
    have e : (y.2 == NameKind.free) = false := by
      have := h y List.mem_cons_self
      cases q : y.2 <;> first | rfl | exact absurd q this
    unfold cloFrom
    simp [e]
    exact clo_none fun z hz => h z (List.mem_cons_of_mem _ hz)
theorem sql_extN {K : PySem.W.Frag} {H H' : Hp} {a : Addr} {xs : List V} (h : SqL K H a xs) (e : LamX.ExtN H H') : SqL K H' a xs :=
  h.elim (fun h => .inl (h.elim (fun h => .inl (e _ _ h (fun _ z => by cases z))) fun ⟨o, h⟩ => .inr ⟨o, e _ _ h (fun _ z => by cases z)⟩)) fun h => .inr h
section
variable {X : Cx} {n : Nat} {p : Str} {e : Expr} {params : Arguments} {body : Expr} {scope : Scope} {lpos pos kpos np : Pos} {c P : Addr} {T : List (Addr × Str)} {ta : TA} {D : V → PyData → Hp → Prop}
theorem pe_sortLam (TB : LamX.TabB X.base X.mg c P) (hcode : X.env.code = .ref c) (hm : (P, X.env.qual ++ "<lambda>") ∈ T) (hu : ∀ q ∈ T, q.1 = P → q.2 = X.env.qual ++ "<lambda>") (S : FnScope [p] [p] scope) (hdef : defaultsOf params X.env = ([], []))
    (hclo : ∀ y ∈ scope.names, y.2 ≠ .free) (hbind : ∀ (c' : Addr) (pm ctv u : Value), bindArgs (kla_fn "<lambda>" (X.env.qual ++ "<lambda>") params body scope [] pm (.ref c') ctv) ⟨[u], []⟩ = pure [(p, u)])
    (hbody : ∀ (f c' : Addr) (B : Around) (s : Shared) (H : Hp) (x : V) (d : PyData), Room n (B.deeper (envOfC (X.env.qual ++ "<lambda>") scope s.heap.objs.size f (.ref c'))) → D x d H →
      ∃ t, PE (cxOf (fun _ _ _ _ _ _ => False) X.prog X.w X.K X.mg X.base [p] (X.env.qual ++ "<lambda>") scope f (.ref c') B X.stack s H (fun _ _ _ => False)) body t ∧ t [some x] H (fun k H' => Dp X.K H' k d ∧ Ext H H'))
    (hr : Room (n + 3) X.A) (hg : Gl X "sorted") (hmx : X.mg "sorted" = none) (ha : PA X [e] ta)
    (h1 : backTo pos (starEach [e] X.env) = (false, eval e X.env) :: backTo pos (starEach [] X.env) := by rfl) (h2 : (backTo pos (starEach [e] X.env)).any (·.1) = false := by rfl)
    (h3 : backToKw pos (keywordEach [⟨some (Str.ofString "key"), .Lambda params body scope lpos, kpos⟩] X.env) = [(some (Str.ofString "key"), do let v ← eval (.Lambda params body scope lpos) X.env; standAt pos; pure v)] := by rfl) :
    PE X (.Call (.Name "sorted" np) [e] [⟨some (Str.ofString "key"), .Lambda params body scope lpos, kpos⟩] pos) (tXSortLam X.K T D ta) := by
  refine ⟨fun pins s σ H Q I h => ?_⟩
  refine wpAny_Call_Name_kw (ld_blt I hg hmx (by decide +kernel : bootBuiltins "sorted" = some (.builtin "sorted")) ?_ (by decide) (by decide))
  refine PyProof.Rows.callWith_kw (thn (ha.run pos pins s σ H _ I h) fun us s1 ⟨vs, H1, I1, r1, l, xs, kd, ev, hT, hl, hal, hso, hdp, hD, hq⟩ => ?_) h1 h2 (by rw [h3]; rfl) (by rw [h3]; rfl)
  subst ev
  obtain rfl := Vals.ref1 r1
  rw [h3]
  show wpAny _ _ (evalAll [do let v ← eval (.Lambda params body scope lpos) X.env; standAt pos; pure v]) _ _ s1
  refine wpAny_evalAll_cons (wpAny_bind (LamX.lam_make2 I1 TB hcode hm hu hT hdef (fun y hy z => absurd z (hclo y hy)) fun f c' pm ctv H2 s2 I2 ex2 T2 hf nf nfr hc => wpAny_bind (wpAny_standAt (wpAny_pure ?_))))
  refine wpAny_evalAll_nil ?_
  rw [clo_none hclo] at hf
  obtain ⟨nL, nF⟩ := fn_not_frame I2 hf nfr
  have I3 : Inv X (lamPin f c' (X.env.qual ++ "<lambda>") params body scope pm ctv :: pins) σ H2 s2 := I2.pins_of fun q hq => by
    rcases List.mem_cons.mp hq with z | z
    · rw [z]
      exact ⟨hf, nf, nL, nF, fun v z => by cases z⟩
    · exact I2.pin q (List.mem_append_right _ z)
  refine wpAny_mono (sorted_runK (keyFn_lam S (hbind c' pm ctv) (hbody f c')) hr (fun q hq => by rw [List.mem_singleton.mp hq]; exact List.mem_cons_self) I3 (sql_extN hl ex2) hal hso hdp (fun a ha H' z => ⟨z _ _ hc, hD a ha H' (ex2.trans (LamX.ExtN.of z))⟩)
    fun H' p ys z hp hy pm => hq H' p ys (ex2.trans (LamX.ExtN.of z)) (T2.ext z) (fun o eo => ?_) hy pm) (fun v s' z => ?_) fun _ _ z => z
  · refine Classical.byContradiction fun nt => ?_
    have := ex2 p o eo fun ps q => nt ⟨ps, q⟩
    rw [hp] at this
    cases this
  · obtain ⟨v', H', J, rv, q⟩ := z
    exact ⟨v', H', J.pins_of fun q hq => J.pin q (List.mem_append_right _ (List.mem_cons_of_mem _ hq)), rv, q⟩
end
end FS
set_option Elab.async false
set_option linter.all false
set_option maxRecDepth 100000
set_option maxHeartbeats 4000000
namespace FS
open PySem PySem.Spec PyProof.Rows L2 PySem.W
section
variable {X : Cx}
/-- set(t) of a tuple of whole numbers -/
def rSetTup (K : PySem.W.Frag) (w : World) : List V → Hp → VK → Prop := fun vs H Q => ∃ (a : Addr) (ns : List Int), vs = [V.ref a] ∧ SqT K H a (ns.map V.int) ∧ ns.length ≤ 1000 ∧
  ∀ p c, H p = none → c ≤ ns.length → Q (.ref p) (upd H p (SetO w p (fun j => decide (j ∈ ns)) c))
theorem cr_setTup (hc : X.calm = true) : CallR X (.type "set") (rSetTup X.K X.w) := by
  intro pins s σ H vs us Q I r h
  obtain ⟨a, ns, rfl, hs, hl, q⟩ := h
  obtain rfl := Vals.ref1 r
  obtain ⟨its, rv, tp, hz⟩ := I.tuple hs
  refine call_set_tupI ns (I.ok.hd hc) tp (by simpa using rv.ints) (by have : (1002 : Nat) < scanBound := by decide
                                                                       omega) fun h' tk c SR hcn keep => ?_
  exact ⟨.ref s.heap.objs.size, _, I.laid (t' := tk) keep (Nat.le_refl _) (setO_new SR), rfl, q _ c (I.hok.fresh (Nat.le_refl _)) hcn⟩
/-- max(l, default=d) of whole numbers -/
def rMaxDef (K : PySem.W.Frag) : List V → List V → Hp → VK → Prop := fun vs zs H Q => ∃ (a : Addr) (ns : List Int) (d : Int), vs = [V.ref a] ∧ zs = [V.int d] ∧ SqL K H a (ns.map V.int) ∧ (ns = [] → Q (.int d) H) ∧ ∀ m, m ∈ ns → (∀ y, y ∈ ns → y ≤ m) → Q (.int m) H
theorem cr_maxDef (hc : X.calm = true) : CallRK X (.builtin "max") [Str.ofString "default"] (rMaxDef X.K) := by
  intro pins s σ H vs zs us ws Q I r rz h
  obtain ⟨a, ns, d, rfl, rfl, hs, q0, q1⟩ := h
  obtain rfl := Vals.ref1 r
  obtain ⟨dv, rfl, rd⟩ := vals1 rz
  obtain ⟨its, rv, hl, hz⟩ := I.list hs
  have hi : IntsAre its ns := rv.ints
  have hlen := hi.length
  obtain ⟨xs, e⟩ := hi.allInts.items
  have hn : numsOf (intItems xs).toList = ns := by rw [← e]; exact hi.numsOf
  have hl2 := hl.isList
  show wpAny _ _ (call (.builtin "max") [.ref a] [(Str.ofString "default", dv)]) _ _ s
  rw [nums_intItems] at hn
  rw [e] at hl2
  have hxs : xs.size = ns.length := by rw [← hn]; simp
  refine call_max_walkD (iter_intList hl2 fun s₂ es st hfp hlI => ?_)
  subst es
  refine ⟨_, _, _, _, _, _, _, s.heap, _, rfl, (Walks.list (A := X.A.in1) (I.ok.hd hc) _ a hlI (intItems xs)).toS, st, hfp, fun b o z hb => ?_, fun b o z => Heap.get?_push_of_some _ z, fun h0 s' hm => ?_, fun h0 => ⟨fun i j vi vj s1 Q1 E1 _ => CmpOf.ints_gt (prog := X.prog) (w := X.w) (A := X.A.in1) (numAt xs) (fun _ _ => intItems_at) i j vi vj s1 Q1 E1, fun v s' hP hm => ?_⟩⟩
  · rw [List.mem_singleton.mp hb] at z
    exact Nat.lt_irrefl _ (Heap.lt_size z)
  · obtain ⟨hh, g, dr, t, os⟩ := s'
    obtain ⟨m1, m2, m3, m4, m5⟩ := hm
    cases m2
    cases m3
    cases m4
    refine ⟨.int d, H, I.kept (t' := t) (old_kept m1), rd, q0 ?_⟩
    have : (intItems xs).size = 0 := h0
    have : xs.size = 0 := by simpa [intItems] using this
    exact List.length_eq_zero_iff.mp (by omega)
  · obtain ⟨hh, g, dr, t, os⟩ := s'
    obtain ⟨m1, m2, m3, m4, m5⟩ := hm
    cases m2
    cases m3
    cases m4
    have hsz : (intItems xs).size = xs.size := by simp [intItems]
    have hP' : (intItems xs)[argBest (fun i j => decide (numAt xs i > numAt xs j)) (xs.size - 1)]? = some v := by simpa [hsz] using hP
    obtain ⟨t', rfl⟩ := intItems_at hP'
    obtain ⟨h1, h2⟩ := argBest_gt (numAt xs) (xs.size - 1)
    have h0' : 0 < xs.size := by
      have : 0 < (intItems xs).size := h0
      omega
    subst hn
    refine ⟨.int _, H, I.kept (t' := t) (old_kept m1), ⟨t', rfl⟩, q1 _ ?_ fun y hy => ?_⟩
    · rw [numAt_eq]
      exact PySem.getD_mem (by rw [List.length_map, Array.length_toList]; omega)
    · obtain ⟨j, hj, rfl⟩ := mem_getD hy
      rw [List.length_map, Array.length_toList] at hj
      rw [← numAt_eq]
      exact h2 j (by omega)
end
end FS
set_option Elab.async false
set_option linter.all false
set_option maxRecDepth 100000
set_option maxHeartbeats 4000000
namespace FS
open PySem PySem.Spec PyProof.Rows L2
/-- what the text's top leaves -/
structure Tx (K : PySem.W.Frag) (mg : PySem.Str → Option Value) : Prop where
  says : He.SaysD fa fn K
  more : more K = true
  kin : ∃ h : Heap, K.In h ∧ h.Ns mainGlobals mg
section
variable {K : PySem.W.Frag} {mg : PySem.Str → Option Value}
theorem Tx.glo (T : Tx K mg) {x : PySem.Str} (c : (He.Fa.glo x).ok K = true) : mg x = some (.ref (He.ga K x)) := let ⟨_, X, G⟩ := T.kin; He.glo_ok X G c
theorem Tx.free (T : Tx K mg) {x : PySem.Str} (c : (He.Fa.free x).ok K = true) : mg x = none := let ⟨_, X, G⟩ := T.kin; He.free_ok X G c
theorem Tx.int (T : Tx K mg) {x : PySem.Str} {i : Int} (c : (He.Fa.int x i).ok K = true) : ∃ u, mg x = some u ∧ RelV (.int i) u := let ⟨_, X, G⟩ := T.kin; let ⟨t, e⟩ := He.int_ok X G c; ⟨_, e, ⟨t, rfl⟩⟩

theorem Tx.F_is_whole (T : Tx K mg) : ∃ fd, FunD K "is_whole" "is_whole" (defArgs s_is_whole) (defBody s_is_whole) (defScope s_is_whole) [] [] (He.ga K "is_whole") fd := T.says.def_ 0 (d := d_is_whole) rfl
theorem Tx.F_is_prime (T : Tx K mg) : ∃ fd, FunD K "is_prime" "is_prime" (defArgs s_is_prime) (defBody s_is_prime) (defScope s_is_prime) [] [] (He.ga K "is_prime") fd := T.says.def_ 1 (d := d_is_prime) rfl
theorem Tx.F_lowest (T : Tx K mg) : ∃ fd, FunD K "lowest" "lowest" (defArgs s_lowest) (defBody s_lowest) (defScope s_lowest) [] [] (He.ga K "lowest") fd := T.says.def_ 2 (d := d_lowest) rfl
theorem Tx.F_Field_init (T : Tx K mg) : ∃ fd, FunD K "__init__" "Field.__init__" (defArgs s_Field_init) (defBody s_Field_init) (defScope s_Field_init) [.int 0] [] (He.ma K (He.ga K "Field") "__init__") fd := T.says.def_ 3 (d := d_Field_init) rfl
theorem Tx.F_Field_eq (T : Tx K mg) : ∃ fd, FunD K "__eq__" "Field.__eq__" (defArgs s_Field_eq) (defBody s_Field_eq) (defScope s_Field_eq) [] [] (He.ma K (He.ga K "Field") "__eq__") fd := T.says.def_ 4 (d := d_Field_eq) rfl
theorem Tx.F_Field_prime (T : Tx K mg) : ∃ fd, FunD K "prime" "Field.prime" (defArgs s_Field_prime) (defBody s_Field_prime) (defScope s_Field_prime) [] [] (He.ma K (He.ga K "Field") "prime") fd := T.says.def_ 5 (d := d_Field_prime) rfl
theorem Tx.F_Field_made (T : Tx K mg) : ∃ fd, FunD K "made" "Field.made" (defArgs s_Field_made) (defBody s_Field_made) (defScope s_Field_made) [.int 1] [] (He.ma K (He.ga K "Field") "made") fd := T.says.def_ 6 (d := d_Field_made) rfl
theorem Tx.F_Field_plus (T : Tx K mg) : ∃ fd, FunD K "plus" "Field.plus" (defArgs s_Field_plus) (defBody s_Field_plus) (defScope s_Field_plus) [] [] (He.ma K (He.ga K "Field") "plus") fd := T.says.def_ 7 (d := d_Field_plus) rfl
theorem Tx.F_Field_minus (T : Tx K mg) : ∃ fd, FunD K "minus" "Field.minus" (defArgs s_Field_minus) (defBody s_Field_minus) (defScope s_Field_minus) [] [] (He.ma K (He.ga K "Field") "minus") fd := T.says.def_ 8 (d := d_Field_minus) rfl
theorem Tx.F_Field_times (T : Tx K mg) : ∃ fd, FunD K "times" "Field.times" (defArgs s_Field_times) (defBody s_Field_times) (defScope s_Field_times) [] [] (He.ma K (He.ga K "Field") "times") fd := T.says.def_ 9 (d := d_Field_times) rfl
theorem Tx.F_Field_over (T : Tx K mg) : ∃ fd, FunD K "over" "Field.over" (defArgs s_Field_over) (defBody s_Field_over) (defScope s_Field_over) [] [] (He.ma K (He.ga K "Field") "over") fd := T.says.def_ 10 (d := d_Field_over) rfl
theorem Tx.F_Field_is_number (T : Tx K mg) : ∃ fd, FunD K "is_number" "Field.is_number" (defArgs s_Field_is_number) (defBody s_Field_is_number) (defScope s_Field_is_number) [] [] (He.ma K (He.ga K "Field") "is_number") fd := T.says.def_ 11 (d := d_Field_is_number) rfl
theorem Tx.F_is_place (T : Tx K mg) : ∃ fd, FunD K "is_place" "is_place" (defArgs s_is_place) (defBody s_is_place) (defScope s_is_place) [] [] (He.ga K "is_place") fd := T.says.def_ 12 (d := d_is_place) rfl
theorem Tx.F_is_product (T : Tx K mg) : ∃ fd, FunD K "is_product" "is_product" (defArgs s_is_product) (defBody s_is_product) (defScope s_is_product) [] [] (He.ga K "is_product") fd := T.says.def_ 13 (d := d_is_product) rfl
theorem Tx.F_joined_product (T : Tx K mg) : ∃ fd, FunD K "joined_product" "joined_product" (defArgs s_joined_product) (defBody s_joined_product) (defScope s_joined_product) [] [] (He.ga K "joined_product") fd := T.says.def_ 14 (d := d_joined_product) rfl
theorem Tx.F_look_at_terms (T : Tx K mg) : ∃ fd, FunD K "look_at_terms" "look_at_terms" (defArgs s_look_at_terms) (defBody s_look_at_terms) (defScope s_look_at_terms) [] [] (He.ga K "look_at_terms") fd := T.says.def_ 15 (d := d_look_at_terms) rfl
theorem Tx.F_gathered (T : Tx K mg) : ∃ fd, FunD K "gathered" "gathered" (defArgs s_gathered) (defBody s_gathered) (defScope s_gathered) [] [] (He.ga K "gathered") fd := T.says.def_ 16 (d := d_gathered) rfl
theorem Tx.F_Sum_init (T : Tx K mg) : ∃ fd, FunD K "__init__" "Sum.__init__" (defArgs s_Sum_init) (defBody s_Sum_init) (defScope s_Sum_init) [.non] [] (He.ma K (He.ga K "Sum") "__init__") fd := T.says.def_ 17 (d := d_Sum_init) rfl
theorem Tx.F_Sum_field (T : Tx K mg) : ∃ fd, FunD K "field" "Sum.field" (defArgs s_Sum_field) (defBody s_Sum_field) (defScope s_Sum_field) [] [] (He.ma K (He.ga K "Sum") "field") fd := T.says.def_ 18 (d := d_Sum_field) rfl
theorem Tx.F_Sum_terms (T : Tx K mg) : ∃ fd, FunD K "terms" "Sum.terms" (defArgs s_Sum_terms) (defBody s_Sum_terms) (defScope s_Sum_terms) [] [] (He.ma K (He.ga K "Sum") "terms") fd := T.says.def_ 19 (d := d_Sum_terms) rfl
theorem Tx.F_Sum_degree (T : Tx K mg) : ∃ fd, FunD K "degree" "Sum.degree" (defArgs s_Sum_degree) (defBody s_Sum_degree) (defScope s_Sum_degree) [] [] (He.ma K (He.ga K "Sum") "degree") fd := T.says.def_ 20 (d := d_Sum_degree) rfl
theorem Tx.F_Sum_reach (T : Tx K mg) : ∃ fd, FunD K "reach" "Sum.reach" (defArgs s_Sum_reach) (defBody s_Sum_reach) (defScope s_Sum_reach) [] [] (He.ma K (He.ga K "Sum") "reach") fd := T.says.def_ 21 (d := d_Sum_reach) rfl
theorem Tx.F_Sum_renamed (T : Tx K mg) : ∃ fd, FunD K "renamed" "Sum.renamed" (defArgs s_Sum_renamed) (defBody s_Sum_renamed) (defScope s_Sum_renamed) [] [] (He.ma K (He.ga K "Sum") "renamed") fd := T.says.def_ 22 (d := d_Sum_renamed) rfl
theorem Tx.F_Sum_worth (T : Tx K mg) : ∃ fd, FunD K "worth" "Sum.worth" (defArgs s_Sum_worth) (defBody s_Sum_worth) (defScope s_Sum_worth) [] [] (He.ma K (He.ga K "Sum") "worth") fd := T.says.def_ 23 (d := d_Sum_worth) rfl
theorem Tx.F_is_wish (T : Tx K mg) : ∃ fd, FunD K "is_wish" "is_wish" (defArgs s_is_wish) (defBody s_is_wish) (defScope s_is_wish) [] [] (He.ga K "is_wish") fd := T.says.def_ 24 (d := d_is_wish) rfl
theorem Tx.F_look_at_wishes (T : Tx K mg) : ∃ fd, FunD K "look_at_wishes" "look_at_wishes" (defArgs s_look_at_wishes) (defBody s_look_at_wishes) (defScope s_look_at_wishes) [] [] (He.ga K "look_at_wishes") fd := T.says.def_ 25 (d := d_look_at_wishes) rfl
theorem Tx.F_is_order (T : Tx K mg) : ∃ fd, FunD K "is_order" "is_order" (defArgs s_is_order) (defBody s_is_order) (defScope s_is_order) [] [] (He.ga K "is_order") fd := T.says.def_ 26 (d := d_is_order) rfl
theorem Tx.F_System_init (T : Tx K mg) : ∃ fd, FunD K "__init__" "System.__init__" (defArgs s_System_init) (defBody s_System_init) (defScope s_System_init) [.non] [] (He.ma K (He.ga K "System") "__init__") fd := T.says.def_ 27 (d := d_System_init) rfl
theorem Tx.F_System_field (T : Tx K mg) : ∃ fd, FunD K "field" "System.field" (defArgs s_System_field) (defBody s_System_field) (defScope s_System_field) [] [] (He.ma K (He.ga K "System") "field") fd := T.says.def_ 28 (d := d_System_field) rfl
theorem Tx.F_System_places (T : Tx K mg) : ∃ fd, FunD K "places" "System.places" (defArgs s_System_places) (defBody s_System_places) (defScope s_System_places) [] [] (He.ma K (He.ga K "System") "places") fd := T.says.def_ 29 (d := d_System_places) rfl
theorem Tx.F_System_noughts (T : Tx K mg) : ∃ fd, FunD K "noughts" "System.noughts" (defArgs s_System_noughts) (defBody s_System_noughts) (defScope s_System_noughts) [] [] (He.ma K (He.ga K "System") "noughts") fd := T.says.def_ 30 (d := d_System_noughts) rfl
theorem Tx.F_System_uppers (T : Tx K mg) : ∃ fd, FunD K "uppers" "System.uppers" (defArgs s_System_uppers) (defBody s_System_uppers) (defScope s_System_uppers) [] [] (He.ma K (He.ga K "System") "uppers") fd := T.says.def_ 31 (d := d_System_uppers) rfl
theorem Tx.F_System_top (T : Tx K mg) : ∃ fd, FunD K "top" "System.top" (defArgs s_System_top) (defBody s_System_top) (defScope s_System_top) [] [] (He.ma K (He.ga K "System") "top") fd := T.says.def_ 32 (d := d_System_top) rfl
theorem Tx.F_System_renamed (T : Tx K mg) : ∃ fd, FunD K "renamed" "System.renamed" (defArgs s_System_renamed) (defBody s_System_renamed) (defScope s_System_renamed) [] [] (He.ma K (He.ga K "System") "renamed") fd := T.says.def_ 33 (d := d_System_renamed) rfl
theorem Tx.F_is_row (T : Tx K mg) : ∃ fd, FunD K "is_row" "is_row" (defArgs s_is_row) (defBody s_is_row) (defScope s_is_row) [] [] (He.ga K "is_row") fd := T.says.def_ 34 (d := d_is_row) rfl
theorem Tx.F_grants (T : Tx K mg) : ∃ fd, FunD K "grants" "grants" (defArgs s_grants) (defBody s_grants) (defScope s_grants) [] [] (He.ga K "grants") fd := T.says.def_ 35 (d := d_grants) rfl
theorem Tx.F_is_filling (T : Tx K mg) : ∃ fd, FunD K "is_filling" "is_filling" (defArgs s_is_filling) (defBody s_is_filling) (defScope s_is_filling) [.bl false] [] (He.ga K "is_filling") fd := T.says.def_ 36 (d := d_is_filling) rfl
theorem Tx.F_rows_of (T : Tx K mg) : ∃ fd, FunD K "rows_of" "rows_of" (defArgs s_rows_of) (defBody s_rows_of) (defScope s_rows_of) [] [] (He.ga K "rows_of") fd := T.says.def_ 37 (d := d_rows_of) rfl
theorem Tx.F_fillings (T : Tx K mg) : ∃ fd, FunD K "fillings" "fillings" (defArgs s_fillings) (defBody s_fillings) (defScope s_fillings) [.bl false] [] (He.ga K "fillings") fd := T.says.def_ 38 (d := d_fillings) rfl
theorem Tx.F_order_of (T : Tx K mg) : ∃ fd, FunD K "order_of" "order_of" (defArgs s_order_of) (defBody s_order_of) (defScope s_order_of) [] [] (He.ga K "order_of") fd := T.says.def_ 39 (d := d_order_of) rfl
theorem Tx.F_Lines_init (T : Tx K mg) : ∃ fd, FunD K "__init__" "Lines.__init__" (defArgs s_Lines_init) (defBody s_Lines_init) (defScope s_Lines_init) [] [] (He.ma K (He.ga K "Lines") "__init__") fd := T.says.def_ 40 (d := d_Lines_init) rfl
theorem Tx.F_Lines_less (T : Tx K mg) : ∃ fd, FunD K "less" "Lines.less" (defArgs s_Lines_less) (defBody s_Lines_less) (defScope s_Lines_less) [] [] (He.ma K (He.ga K "Lines") "less") fd := T.says.def_ 41 (d := d_Lines_less) rfl
theorem Tx.F_Lines_put (T : Tx K mg) : ∃ fd, FunD K "put" "Lines.put" (defArgs s_Lines_put) (defBody s_Lines_put) (defScope s_Lines_put) [] [] (He.ma K (He.ga K "Lines") "put") fd := T.says.def_ 42 (d := d_Lines_put) rfl
theorem Tx.F_Lines_made_of (T : Tx K mg) : ∃ fd, FunD K "made_of" "Lines.made_of" (defArgs s_Lines_made_of) (defBody s_Lines_made_of) (defScope s_Lines_made_of) [] [] (He.ma K (He.ga K "Lines") "made_of") fd := T.says.def_ 43 (d := d_Lines_made_of) rfl
theorem Tx.F_Lines_nought_on_all (T : Tx K mg) : ∃ fd, FunD K "nought_on_all" "Lines.nought_on_all" (defArgs s_Lines_nought_on_all) (defBody s_Lines_nought_on_all) (defScope s_Lines_nought_on_all) [] [] (He.ma K (He.ga K "Lines") "nought_on_all") fd := T.says.def_ 44 (d := d_Lines_nought_on_all) rfl
theorem Tx.F_look_at_degree (T : Tx K mg) : ∃ fd, FunD K "look_at_degree" "look_at_degree" (defArgs s_look_at_degree) (defBody s_look_at_degree) (defScope s_look_at_degree) [] [] (He.ga K "look_at_degree") fd := T.says.def_ 45 (d := d_look_at_degree) rfl
theorem Tx.F_products_many (T : Tx K mg) : ∃ fd, FunD K "products_many" "products_many" (defArgs s_products_many) (defBody s_products_many) (defScope s_products_many) [] [] (He.ga K "products_many") fd := T.says.def_ 46 (d := d_products_many) rfl
theorem Tx.F_products_of (T : Tx K mg) : ∃ fd, FunD K "products_of" "products_of" (defArgs s_products_of) (defBody s_products_of) (defScope s_products_of) [] [] (He.ga K "products_of") fd := T.says.def_ 47 (d := d_products_of) rfl
theorem Tx.F_pairs_of (T : Tx K mg) : ∃ fd, FunD K "pairs_of" "pairs_of" (defArgs s_pairs_of) (defBody s_pairs_of) (defScope s_pairs_of) [] [] (He.ga K "pairs_of") fd := T.says.def_ 48 (d := d_pairs_of) rfl
theorem Tx.F_look_at_many (T : Tx K mg) : ∃ fd, FunD K "look_at_many" "look_at_many" (defArgs s_look_at_many) (defBody s_look_at_many) (defScope s_look_at_many) [] [] (He.ga K "look_at_many") fd := T.says.def_ 49 (d := d_look_at_many) rfl
theorem Tx.F_beside (T : Tx K mg) : ∃ fd, FunD K "beside" "beside" (defArgs s_beside) (defBody s_beside) (defScope s_beside) [] [] (He.ga K "beside") fd := T.says.def_ 50 (d := d_beside) rfl
theorem Tx.F_lines_of (T : Tx K mg) : ∃ fd, FunD K "lines_of" "lines_of" (defArgs s_lines_of) (defBody s_lines_of) (defScope s_lines_of) [] [] (He.ga K "lines_of") fd := T.says.def_ 51 (d := d_lines_of) rfl
theorem Tx.F_showing_by (T : Tx K mg) : ∃ fd, FunD K "showing_by" "showing_by" (defArgs s_showing_by) (defBody s_showing_by) (defScope s_showing_by) [] [] (He.ga K "showing_by") fd := T.says.def_ 52 (d := d_showing_by) rfl
theorem Tx.F_told (T : Tx K mg) : ∃ fd, FunD K "told" "told" (defArgs s_told) (defBody s_told) (defScope s_told) [] [] (He.ga K "told") fd := T.says.def_ 53 (d := d_told) rfl
theorem Tx.F_least (T : Tx K mg) : ∃ fd, FunD K "least" "least" (defArgs s_least) (defBody s_least) (defScope s_least) [] [] (He.ga K "least") fd := T.says.def_ 54 (d := d_least) rfl
theorem Tx.F_law_pool (T : Tx K mg) : ∃ fd, FunD K "_law_pool" "_law_pool" (defArgs s_law_pool) (defBody s_law_pool) (defScope s_law_pool) [] [] (He.ga K "_law_pool") fd := T.says.def_ 55 (d := d_law_pool) rfl
theorem Tx.F_law_take (T : Tx K mg) : ∃ fd, FunD K "_law_take" "_law_take" (defArgs s_law_take) (defBody s_law_take) (defScope s_law_take) [] [] (He.ga K "_law_take") fd := T.says.def_ 56 (d := d_law_take) rfl
theorem Tx.F_law_low (T : Tx K mg) : ∃ fd, FunD K "_law_low" "_law_low" (defArgs s_law_low) (defBody s_law_low) (defScope s_law_low) [] [] (He.ga K "_law_low") fd := T.says.def_ 57 (d := d_law_low) rfl
theorem Tx.F_law_made (T : Tx K mg) : ∃ fd, FunD K "_law_made" "_law_made" (defArgs s_law_made) (defBody s_law_made) (defScope s_law_made) [] [] (He.ga K "_law_made") fd := T.says.def_ 58 (d := d_law_made) rfl
theorem Tx.F_law_plus (T : Tx K mg) : ∃ fd, FunD K "_law_plus" "_law_plus" (defArgs s_law_plus) (defBody s_law_plus) (defScope s_law_plus) [] [] (He.ga K "_law_plus") fd := T.says.def_ 59 (d := d_law_plus) rfl
theorem Tx.F_law_times (T : Tx K mg) : ∃ fd, FunD K "_law_times" "_law_times" (defArgs s_law_times) (defBody s_law_times) (defScope s_law_times) [] [] (He.ga K "_law_times") fd := T.says.def_ 60 (d := d_law_times) rfl
theorem Tx.F_law_row_key (T : Tx K mg) : ∃ fd, FunD K "_law_row_key" "_law_row_key" (defArgs s_law_row_key) (defBody s_law_row_key) (defScope s_law_row_key) [] [] (He.ga K "_law_row_key") fd := T.says.def_ 61 (d := d_law_row_key) rfl
theorem Tx.F_law_gathered (T : Tx K mg) : ∃ fd, FunD K "_law_gathered" "_law_gathered" (defArgs s_law_gathered) (defBody s_law_gathered) (defScope s_law_gathered) [] [] (He.ga K "_law_gathered") fd := T.says.def_ 62 (d := d_law_gathered) rfl
theorem Tx.F_law_added (T : Tx K mg) : ∃ fd, FunD K "_law_added" "_law_added" (defArgs s_law_added) (defBody s_law_added) (defScope s_law_added) [] [] (He.ga K "_law_added") fd := T.says.def_ 63 (d := d_law_added) rfl
theorem Tx.F_law_multiplied (T : Tx K mg) : ∃ fd, FunD K "_law_multiplied" "_law_multiplied" (defArgs s_law_multiplied) (defBody s_law_multiplied) (defScope s_law_multiplied) [] [] (He.ga K "_law_multiplied") fd := T.says.def_ 64 (d := d_law_multiplied) rfl
theorem Tx.F_law_prime (T : Tx K mg) : ∃ fd, FunD K "_law_prime" "_law_prime" (defArgs s_law_prime) (defBody s_law_prime) (defScope s_law_prime) [] [] (He.ga K "_law_prime") fd := T.says.def_ 65 (d := d_law_prime) rfl
theorem Tx.F_law_number (T : Tx K mg) : ∃ fd, FunD K "_law_number" "_law_number" (defArgs s_law_number) (defBody s_law_number) (defScope s_law_number) [] [] (He.ga K "_law_number") fd := T.says.def_ 66 (d := d_law_number) rfl
theorem Tx.F_law_product (T : Tx K mg) : ∃ fd, FunD K "_law_product" "_law_product" (defArgs s_law_product) (defBody s_law_product) (defScope s_law_product) [] [] (He.ga K "_law_product") fd := T.says.def_ 67 (d := d_law_product) rfl
theorem Tx.F_law_terms (T : Tx K mg) : ∃ fd, FunD K "_law_terms" "_law_terms" (defArgs s_law_terms) (defBody s_law_terms) (defScope s_law_terms) [] [] (He.ga K "_law_terms") fd := T.says.def_ 68 (d := d_law_terms) rfl
theorem Tx.F_law_system (T : Tx K mg) : ∃ fd, FunD K "_law_system" "_law_system" (defArgs s_law_system) (defBody s_law_system) (defScope s_law_system) [] [] (He.ga K "_law_system") fd := T.says.def_ 69 (d := d_law_system) rfl
theorem Tx.F_law_worth (T : Tx K mg) : ∃ fd, FunD K "_law_worth" "_law_worth" (defArgs s_law_worth) (defBody s_law_worth) (defScope s_law_worth) [] [] (He.ga K "_law_worth") fd := T.says.def_ 70 (d := d_law_worth) rfl
theorem Tx.F_law_planted (T : Tx K mg) : ∃ fd, FunD K "_law_planted" "_law_planted" (defArgs s_law_planted) (defBody s_law_planted) (defScope s_law_planted) [] [] (He.ga K "_law_planted") fd := T.says.def_ 71 (d := d_law_planted) rfl
theorem Tx.F_law_small_wishes (T : Tx K mg) : ∃ fd, FunD K "_law_small_wishes" "_law_small_wishes" (defArgs s_law_small_wishes) (defBody s_law_small_wishes) (defScope s_law_small_wishes) [] [] (He.ga K "_law_small_wishes") fd := T.says.def_ 72 (d := d_law_small_wishes) rfl
theorem Tx.F_law_least_of (T : Tx K mg) : ∃ fd, FunD K "_law_least_of" "_law_least_of" (defArgs s_law_least_of) (defBody s_law_least_of) (defScope s_law_least_of) [] [] (He.ga K "_law_least_of") fd := T.says.def_ 73 (d := d_law_least_of) rfl
theorem Tx.F_law_ends (T : Tx K mg) : ∃ fd, FunD K "_law_ends" "_law_ends" (defArgs s_law_ends) (defBody s_law_ends) (defScope s_law_ends) [] [] (He.ga K "_law_ends") fd := T.says.def_ 74 (d := d_law_ends) rfl
theorem Tx.F_law_led_right (T : Tx K mg) : ∃ fd, FunD K "_law_led_right" "_law_led_right" (defArgs s_law_led_right) (defBody s_law_led_right) (defScope s_law_led_right) [] [] (He.ga K "_law_led_right") fd := T.says.def_ 75 (d := d_law_led_right) rfl
theorem Tx.F_law (T : Tx K mg) : ∃ fd, FunD K "law" "law" (defArgs s_law) (defBody s_law) (defScope s_law) [] [] (He.ga K "law") fd := T.says.def_ 76 (d := d_law) rfl
theorem Tx.m_is_whole (T : Tx K mg) : mg "is_whole" = some (.ref (He.ga K "is_whole")) := T.glo (T.says.fact 0 (f := .glo "is_whole") rfl)
theorem Tx.m_is_prime (T : Tx K mg) : mg "is_prime" = some (.ref (He.ga K "is_prime")) := T.glo (T.says.fact 1 (f := .glo "is_prime") rfl)
theorem Tx.m_lowest (T : Tx K mg) : mg "lowest" = some (.ref (He.ga K "lowest")) := T.glo (T.says.fact 2 (f := .glo "lowest") rfl)
theorem Tx.me_Field_eq (T : Tx K mg) : Meth K (He.ga K "Field") "__eq__" (He.ma K (He.ga K "Field") "__eq__") := He.meth_ok (T.says.fact 3 (f := .meth "Field" "__eq__") rfl)
theorem Tx.me_Field_prime (T : Tx K mg) : Meth K (He.ga K "Field") "prime" (He.ma K (He.ga K "Field") "prime") := He.meth_ok (T.says.fact 4 (f := .meth "Field" "prime") rfl)
theorem Tx.me_Field_made (T : Tx K mg) : Meth K (He.ga K "Field") "made" (He.ma K (He.ga K "Field") "made") := He.meth_ok (T.says.fact 5 (f := .meth "Field" "made") rfl)
theorem Tx.me_Field_plus (T : Tx K mg) : Meth K (He.ga K "Field") "plus" (He.ma K (He.ga K "Field") "plus") := He.meth_ok (T.says.fact 6 (f := .meth "Field" "plus") rfl)
theorem Tx.me_Field_minus (T : Tx K mg) : Meth K (He.ga K "Field") "minus" (He.ma K (He.ga K "Field") "minus") := He.meth_ok (T.says.fact 7 (f := .meth "Field" "minus") rfl)
theorem Tx.me_Field_times (T : Tx K mg) : Meth K (He.ga K "Field") "times" (He.ma K (He.ga K "Field") "times") := He.meth_ok (T.says.fact 8 (f := .meth "Field" "times") rfl)
theorem Tx.me_Field_over (T : Tx K mg) : Meth K (He.ga K "Field") "over" (He.ma K (He.ga K "Field") "over") := He.meth_ok (T.says.fact 9 (f := .meth "Field" "over") rfl)
theorem Tx.me_Field_is_number (T : Tx K mg) : Meth K (He.ga K "Field") "is_number" (He.ma K (He.ga K "Field") "is_number") := He.meth_ok (T.says.fact 10 (f := .meth "Field" "is_number") rfl)
theorem Tx.m_is_place (T : Tx K mg) : mg "is_place" = some (.ref (He.ga K "is_place")) := T.glo (T.says.fact 11 (f := .glo "is_place") rfl)
theorem Tx.m_is_product (T : Tx K mg) : mg "is_product" = some (.ref (He.ga K "is_product")) := T.glo (T.says.fact 12 (f := .glo "is_product") rfl)
theorem Tx.m_joined_product (T : Tx K mg) : mg "joined_product" = some (.ref (He.ga K "joined_product")) := T.glo (T.says.fact 13 (f := .glo "joined_product") rfl)
theorem Tx.m_look_at_terms (T : Tx K mg) : mg "look_at_terms" = some (.ref (He.ga K "look_at_terms")) := T.glo (T.says.fact 14 (f := .glo "look_at_terms") rfl)
theorem Tx.m_gathered (T : Tx K mg) : mg "gathered" = some (.ref (He.ga K "gathered")) := T.glo (T.says.fact 15 (f := .glo "gathered") rfl)
theorem Tx.me_Sum_field (T : Tx K mg) : Meth K (He.ga K "Sum") "field" (He.ma K (He.ga K "Sum") "field") := He.meth_ok (T.says.fact 16 (f := .meth "Sum" "field") rfl)
theorem Tx.me_Sum_terms (T : Tx K mg) : Meth K (He.ga K "Sum") "terms" (He.ma K (He.ga K "Sum") "terms") := He.meth_ok (T.says.fact 17 (f := .meth "Sum" "terms") rfl)
theorem Tx.me_Sum_degree (T : Tx K mg) : Meth K (He.ga K "Sum") "degree" (He.ma K (He.ga K "Sum") "degree") := He.meth_ok (T.says.fact 18 (f := .meth "Sum" "degree") rfl)
theorem Tx.me_Sum_reach (T : Tx K mg) : Meth K (He.ga K "Sum") "reach" (He.ma K (He.ga K "Sum") "reach") := He.meth_ok (T.says.fact 19 (f := .meth "Sum" "reach") rfl)
theorem Tx.me_Sum_renamed (T : Tx K mg) : Meth K (He.ga K "Sum") "renamed" (He.ma K (He.ga K "Sum") "renamed") := He.meth_ok (T.says.fact 20 (f := .meth "Sum" "renamed") rfl)
theorem Tx.me_Sum_worth (T : Tx K mg) : Meth K (He.ga K "Sum") "worth" (He.ma K (He.ga K "Sum") "worth") := He.meth_ok (T.says.fact 21 (f := .meth "Sum" "worth") rfl)
theorem Tx.m_is_wish (T : Tx K mg) : mg "is_wish" = some (.ref (He.ga K "is_wish")) := T.glo (T.says.fact 22 (f := .glo "is_wish") rfl)
theorem Tx.m_look_at_wishes (T : Tx K mg) : mg "look_at_wishes" = some (.ref (He.ga K "look_at_wishes")) := T.glo (T.says.fact 23 (f := .glo "look_at_wishes") rfl)
theorem Tx.m_is_order (T : Tx K mg) : mg "is_order" = some (.ref (He.ga K "is_order")) := T.glo (T.says.fact 24 (f := .glo "is_order") rfl)
theorem Tx.me_System_field (T : Tx K mg) : Meth K (He.ga K "System") "field" (He.ma K (He.ga K "System") "field") := He.meth_ok (T.says.fact 25 (f := .meth "System" "field") rfl)
theorem Tx.me_System_places (T : Tx K mg) : Meth K (He.ga K "System") "places" (He.ma K (He.ga K "System") "places") := He.meth_ok (T.says.fact 26 (f := .meth "System" "places") rfl)
theorem Tx.me_System_noughts (T : Tx K mg) : Meth K (He.ga K "System") "noughts" (He.ma K (He.ga K "System") "noughts") := He.meth_ok (T.says.fact 27 (f := .meth "System" "noughts") rfl)
theorem Tx.me_System_uppers (T : Tx K mg) : Meth K (He.ga K "System") "uppers" (He.ma K (He.ga K "System") "uppers") := He.meth_ok (T.says.fact 28 (f := .meth "System" "uppers") rfl)
theorem Tx.me_System_top (T : Tx K mg) : Meth K (He.ga K "System") "top" (He.ma K (He.ga K "System") "top") := He.meth_ok (T.says.fact 29 (f := .meth "System" "top") rfl)
theorem Tx.me_System_renamed (T : Tx K mg) : Meth K (He.ga K "System") "renamed" (He.ma K (He.ga K "System") "renamed") := He.meth_ok (T.says.fact 30 (f := .meth "System" "renamed") rfl)
theorem Tx.m_is_row (T : Tx K mg) : mg "is_row" = some (.ref (He.ga K "is_row")) := T.glo (T.says.fact 31 (f := .glo "is_row") rfl)
theorem Tx.m_grants (T : Tx K mg) : mg "grants" = some (.ref (He.ga K "grants")) := T.glo (T.says.fact 32 (f := .glo "grants") rfl)
theorem Tx.m_is_filling (T : Tx K mg) : mg "is_filling" = some (.ref (He.ga K "is_filling")) := T.glo (T.says.fact 33 (f := .glo "is_filling") rfl)
theorem Tx.m_rows_of (T : Tx K mg) : mg "rows_of" = some (.ref (He.ga K "rows_of")) := T.glo (T.says.fact 34 (f := .glo "rows_of") rfl)
theorem Tx.m_fillings (T : Tx K mg) : mg "fillings" = some (.ref (He.ga K "fillings")) := T.glo (T.says.fact 35 (f := .glo "fillings") rfl)
theorem Tx.m_order_of (T : Tx K mg) : mg "order_of" = some (.ref (He.ga K "order_of")) := T.glo (T.says.fact 36 (f := .glo "order_of") rfl)
theorem Tx.me_Lines_less (T : Tx K mg) : Meth K (He.ga K "Lines") "less" (He.ma K (He.ga K "Lines") "less") := He.meth_ok (T.says.fact 37 (f := .meth "Lines" "less") rfl)
theorem Tx.me_Lines_put (T : Tx K mg) : Meth K (He.ga K "Lines") "put" (He.ma K (He.ga K "Lines") "put") := He.meth_ok (T.says.fact 38 (f := .meth "Lines" "put") rfl)
theorem Tx.me_Lines_made_of (T : Tx K mg) : Meth K (He.ga K "Lines") "made_of" (He.ma K (He.ga K "Lines") "made_of") := He.meth_ok (T.says.fact 39 (f := .meth "Lines" "made_of") rfl)
theorem Tx.me_Lines_nought_on_all (T : Tx K mg) : Meth K (He.ga K "Lines") "nought_on_all" (He.ma K (He.ga K "Lines") "nought_on_all") := He.meth_ok (T.says.fact 40 (f := .meth "Lines" "nought_on_all") rfl)
theorem Tx.m_look_at_degree (T : Tx K mg) : mg "look_at_degree" = some (.ref (He.ga K "look_at_degree")) := T.glo (T.says.fact 41 (f := .glo "look_at_degree") rfl)
theorem Tx.m_products_many (T : Tx K mg) : mg "products_many" = some (.ref (He.ga K "products_many")) := T.glo (T.says.fact 42 (f := .glo "products_many") rfl)
theorem Tx.m_products_of (T : Tx K mg) : mg "products_of" = some (.ref (He.ga K "products_of")) := T.glo (T.says.fact 43 (f := .glo "products_of") rfl)
theorem Tx.m_pairs_of (T : Tx K mg) : mg "pairs_of" = some (.ref (He.ga K "pairs_of")) := T.glo (T.says.fact 44 (f := .glo "pairs_of") rfl)
theorem Tx.m_look_at_many (T : Tx K mg) : mg "look_at_many" = some (.ref (He.ga K "look_at_many")) := T.glo (T.says.fact 45 (f := .glo "look_at_many") rfl)
theorem Tx.m_beside (T : Tx K mg) : mg "beside" = some (.ref (He.ga K "beside")) := T.glo (T.says.fact 46 (f := .glo "beside") rfl)
theorem Tx.m_lines_of (T : Tx K mg) : mg "lines_of" = some (.ref (He.ga K "lines_of")) := T.glo (T.says.fact 47 (f := .glo "lines_of") rfl)
theorem Tx.m_showing_by (T : Tx K mg) : mg "showing_by" = some (.ref (He.ga K "showing_by")) := T.glo (T.says.fact 48 (f := .glo "showing_by") rfl)
theorem Tx.m_told (T : Tx K mg) : mg "told" = some (.ref (He.ga K "told")) := T.glo (T.says.fact 49 (f := .glo "told") rfl)
theorem Tx.m_least (T : Tx K mg) : mg "least" = some (.ref (He.ga K "least")) := T.glo (T.says.fact 50 (f := .glo "least") rfl)
theorem Tx.m_law_pool (T : Tx K mg) : mg "_law_pool" = some (.ref (He.ga K "_law_pool")) := T.glo (T.says.fact 51 (f := .glo "_law_pool") rfl)
theorem Tx.m_law_take (T : Tx K mg) : mg "_law_take" = some (.ref (He.ga K "_law_take")) := T.glo (T.says.fact 52 (f := .glo "_law_take") rfl)
theorem Tx.m_law_low (T : Tx K mg) : mg "_law_low" = some (.ref (He.ga K "_law_low")) := T.glo (T.says.fact 53 (f := .glo "_law_low") rfl)
theorem Tx.m_law_made (T : Tx K mg) : mg "_law_made" = some (.ref (He.ga K "_law_made")) := T.glo (T.says.fact 54 (f := .glo "_law_made") rfl)
theorem Tx.m_law_plus (T : Tx K mg) : mg "_law_plus" = some (.ref (He.ga K "_law_plus")) := T.glo (T.says.fact 55 (f := .glo "_law_plus") rfl)
theorem Tx.m_law_times (T : Tx K mg) : mg "_law_times" = some (.ref (He.ga K "_law_times")) := T.glo (T.says.fact 56 (f := .glo "_law_times") rfl)
theorem Tx.m_law_row_key (T : Tx K mg) : mg "_law_row_key" = some (.ref (He.ga K "_law_row_key")) := T.glo (T.says.fact 57 (f := .glo "_law_row_key") rfl)
theorem Tx.m_law_gathered (T : Tx K mg) : mg "_law_gathered" = some (.ref (He.ga K "_law_gathered")) := T.glo (T.says.fact 58 (f := .glo "_law_gathered") rfl)
theorem Tx.m_law_added (T : Tx K mg) : mg "_law_added" = some (.ref (He.ga K "_law_added")) := T.glo (T.says.fact 59 (f := .glo "_law_added") rfl)
theorem Tx.m_law_multiplied (T : Tx K mg) : mg "_law_multiplied" = some (.ref (He.ga K "_law_multiplied")) := T.glo (T.says.fact 60 (f := .glo "_law_multiplied") rfl)
theorem Tx.m_law_prime (T : Tx K mg) : mg "_law_prime" = some (.ref (He.ga K "_law_prime")) := T.glo (T.says.fact 61 (f := .glo "_law_prime") rfl)
theorem Tx.m_law_number (T : Tx K mg) : mg "_law_number" = some (.ref (He.ga K "_law_number")) := T.glo (T.says.fact 62 (f := .glo "_law_number") rfl)
theorem Tx.m_law_product (T : Tx K mg) : mg "_law_product" = some (.ref (He.ga K "_law_product")) := T.glo (T.says.fact 63 (f := .glo "_law_product") rfl)
theorem Tx.m_law_terms (T : Tx K mg) : mg "_law_terms" = some (.ref (He.ga K "_law_terms")) := T.glo (T.says.fact 64 (f := .glo "_law_terms") rfl)
theorem Tx.m_law_system (T : Tx K mg) : mg "_law_system" = some (.ref (He.ga K "_law_system")) := T.glo (T.says.fact 65 (f := .glo "_law_system") rfl)
theorem Tx.m_law_worth (T : Tx K mg) : mg "_law_worth" = some (.ref (He.ga K "_law_worth")) := T.glo (T.says.fact 66 (f := .glo "_law_worth") rfl)
theorem Tx.m_law_planted (T : Tx K mg) : mg "_law_planted" = some (.ref (He.ga K "_law_planted")) := T.glo (T.says.fact 67 (f := .glo "_law_planted") rfl)
theorem Tx.m_law_small_wishes (T : Tx K mg) : mg "_law_small_wishes" = some (.ref (He.ga K "_law_small_wishes")) := T.glo (T.says.fact 68 (f := .glo "_law_small_wishes") rfl)
theorem Tx.m_law_least_of (T : Tx K mg) : mg "_law_least_of" = some (.ref (He.ga K "_law_least_of")) := T.glo (T.says.fact 69 (f := .glo "_law_least_of") rfl)
theorem Tx.m_law_ends (T : Tx K mg) : mg "_law_ends" = some (.ref (He.ga K "_law_ends")) := T.glo (T.says.fact 70 (f := .glo "_law_ends") rfl)
theorem Tx.m_law_led_right (T : Tx K mg) : mg "_law_led_right" = some (.ref (He.ga K "_law_led_right")) := T.glo (T.says.fact 71 (f := .glo "_law_led_right") rfl)
theorem Tx.m_law (T : Tx K mg) : mg "law" = some (.ref (He.ga K "law")) := T.glo (T.says.fact 72 (f := .glo "law") rfl)
theorem Tx.m_Field (T : Tx K mg) : mg "Field" = some (.ref (He.ga K "Field")) := T.glo (T.says.fact 73 (f := .glo "Field") rfl)
theorem Tx.c_Field (T : Tx K mg) : Cls K (He.ga K "Field") := He.cls_ok (T.says.fact 74 (f := .cls "Field") rfl)
theorem Tx.k_Field (T : Tx K mg) : Mk K (He.ga K "Field") (He.ma K (He.ga K "Field") "__init__") := He.mkr_ok (T.says.fact 75 (f := .mkr "Field") rfl)
theorem Tx.kp_Field (T : Tx K mg) : PySem.W.keepIn K (.ref (He.ga K "Field")) = true := He.keep_ok (T.says.fact 76 (f := .keep "Field") rfl)
theorem Tx.n_Field_own_prime (T : Tx K mg) : NoAttr K (He.ga K "Field") "own_prime" := He.noat_ok (T.says.fact 77 (f := .noat "Field" "own_prime") rfl)
theorem Tx.m_Sum (T : Tx K mg) : mg "Sum" = some (.ref (He.ga K "Sum")) := T.glo (T.says.fact 78 (f := .glo "Sum") rfl)
theorem Tx.c_Sum (T : Tx K mg) : Cls K (He.ga K "Sum") := He.cls_ok (T.says.fact 79 (f := .cls "Sum") rfl)
theorem Tx.k_Sum (T : Tx K mg) : Mk K (He.ga K "Sum") (He.ma K (He.ga K "Sum") "__init__") := He.mkr_ok (T.says.fact 80 (f := .mkr "Sum") rfl)
theorem Tx.kp_Sum (T : Tx K mg) : PySem.W.keepIn K (.ref (He.ga K "Sum")) = true := He.keep_ok (T.says.fact 81 (f := .keep "Sum") rfl)
theorem Tx.n_Sum_own_field (T : Tx K mg) : NoAttr K (He.ga K "Sum") "own_field" := He.noat_ok (T.says.fact 82 (f := .noat "Sum" "own_field") rfl)
theorem Tx.n_Sum_row (T : Tx K mg) : NoAttr K (He.ga K "Sum") "row" := He.noat_ok (T.says.fact 83 (f := .noat "Sum" "row") rfl)
theorem Tx.m_System (T : Tx K mg) : mg "System" = some (.ref (He.ga K "System")) := T.glo (T.says.fact 84 (f := .glo "System") rfl)
theorem Tx.c_System (T : Tx K mg) : Cls K (He.ga K "System") := He.cls_ok (T.says.fact 85 (f := .cls "System") rfl)
theorem Tx.k_System (T : Tx K mg) : Mk K (He.ga K "System") (He.ma K (He.ga K "System") "__init__") := He.mkr_ok (T.says.fact 86 (f := .mkr "System") rfl)
theorem Tx.kp_System (T : Tx K mg) : PySem.W.keepIn K (.ref (He.ga K "System")) = true := He.keep_ok (T.says.fact 87 (f := .keep "System") rfl)
theorem Tx.n_System_own_field (T : Tx K mg) : NoAttr K (He.ga K "System") "own_field" := He.noat_ok (T.says.fact 88 (f := .noat "System" "own_field") rfl)
theorem Tx.n_System_many_places (T : Tx K mg) : NoAttr K (He.ga K "System") "many_places" := He.noat_ok (T.says.fact 89 (f := .noat "System" "many_places") rfl)
theorem Tx.n_System_nought_sums (T : Tx K mg) : NoAttr K (He.ga K "System") "nought_sums" := He.noat_ok (T.says.fact 90 (f := .noat "System" "nought_sums") rfl)
theorem Tx.n_System_upper_sums (T : Tx K mg) : NoAttr K (He.ga K "System") "upper_sums" := He.noat_ok (T.says.fact 91 (f := .noat "System" "upper_sums") rfl)
theorem Tx.m_Lines (T : Tx K mg) : mg "Lines" = some (.ref (He.ga K "Lines")) := T.glo (T.says.fact 92 (f := .glo "Lines") rfl)
theorem Tx.c_Lines (T : Tx K mg) : Cls K (He.ga K "Lines") := He.cls_ok (T.says.fact 93 (f := .cls "Lines") rfl)
theorem Tx.k_Lines (T : Tx K mg) : Mk K (He.ga K "Lines") (He.ma K (He.ga K "Lines") "__init__") := He.mkr_ok (T.says.fact 94 (f := .mkr "Lines") rfl)
theorem Tx.kp_Lines (T : Tx K mg) : PySem.W.keepIn K (.ref (He.ga K "Lines")) = true := He.keep_ok (T.says.fact 95 (f := .keep "Lines") rfl)
theorem Tx.n_Lines_line_field (T : Tx K mg) : NoAttr K (He.ga K "Lines") "line_field" := He.noat_ok (T.says.fact 96 (f := .noat "Lines" "line_field") rfl)
theorem Tx.n_Lines_by_head (T : Tx K mg) : NoAttr K (He.ga K "Lines") "by_head" := He.noat_ok (T.says.fact 97 (f := .noat "Lines" "by_head") rfl)
theorem Tx.i_MOST_PRIME (T : Tx K mg) : ∃ u, mg "MOST_PRIME" = some u ∧ RelV (.int 97) u := T.int (T.says.fact 98 (f := .int "MOST_PRIME" 97) rfl)
theorem Tx.i_MOST_PLACES_sums (T : Tx K mg) : ∃ u, mg "MOST_PLACES_sums" = some u ∧ RelV (.int 60) u := T.int (T.says.fact 99 (f := .int "MOST_PLACES_sums" 60) rfl)
theorem Tx.i_MOST_WISHES (T : Tx K mg) : ∃ u, mg "MOST_WISHES" = some u ∧ RelV (.int 200) u := T.int (T.says.fact 100 (f := .int "MOST_WISHES" 200) rfl)
theorem Tx.i_MOST_WALKED (T : Tx K mg) : ∃ u, mg "MOST_WALKED" = some u ∧ RelV (.int 12) u := T.int (T.says.fact 101 (f := .int "MOST_WALKED" 12) rfl)
theorem Tx.i_MOST_DEGREE (T : Tx K mg) : ∃ u, mg "MOST_DEGREE" = some u ∧ RelV (.int 300) u := T.int (T.says.fact 102 (f := .int "MOST_DEGREE" 300) rfl)
theorem Tx.i_MOST_PRODUCTS (T : Tx K mg) : ∃ u, mg "MOST_PRODUCTS" = some u ∧ RelV (.int 600) u := T.int (T.says.fact 103 (f := .int "MOST_PRODUCTS" 600) rfl)
theorem Tx.i_MOST_PAIRS (T : Tx K mg) : ∃ u, mg "MOST_PAIRS" = some u ∧ RelV (.int 2000) u := T.int (T.says.fact 104 (f := .int "MOST_PAIRS" 2000) rfl)
theorem Tx.i_MOST_PLACES_leasts (T : Tx K mg) : ∃ u, mg "MOST_PLACES_leasts" = some u ∧ RelV (.int 12) u := T.int (T.says.fact 105 (f := .int "MOST_PLACES_leasts" 12) rfl)
theorem Tx.f_isinstance (T : Tx K mg) : mg "isinstance" = none := T.free (T.says.fact 106 (f := .free "isinstance") rfl)
theorem Tx.f_int (T : Tx K mg) : mg "int" = none := T.free (T.says.fact 107 (f := .free "int") rfl)
theorem Tx.f_bool (T : Tx K mg) : mg "bool" = none := T.free (T.says.fact 108 (f := .free "bool") rfl)
theorem Tx.f_range (T : Tx K mg) : mg "range" = none := T.free (T.says.fact 109 (f := .free "range") rfl)
theorem Tx.f_abs (T : Tx K mg) : mg "abs" = none := T.free (T.says.fact 110 (f := .free "abs") rfl)
theorem Tx.f_list (T : Tx K mg) : mg "list" = none := T.free (T.says.fact 111 (f := .free "list") rfl)
theorem Tx.f_tuple (T : Tx K mg) : mg "tuple" = none := T.free (T.says.fact 112 (f := .free "tuple") rfl)
theorem Tx.f_len (T : Tx K mg) : mg "len" = none := T.free (T.says.fact 113 (f := .free "len") rfl)
theorem Tx.f_enumerate (T : Tx K mg) : mg "enumerate" = none := T.free (T.says.fact 114 (f := .free "enumerate") rfl)
theorem Tx.f_sorted (T : Tx K mg) : mg "sorted" = none := T.free (T.says.fact 115 (f := .free "sorted") rfl)
theorem Tx.f_set (T : Tx K mg) : mg "set" = none := T.free (T.says.fact 116 (f := .free "set") rfl)
theorem Tx.f_max (T : Tx K mg) : mg "max" = none := T.free (T.says.fact 117 (f := .free "max") rfl)
theorem Tx.f_min (T : Tx K mg) : mg "min" = none := T.free (T.says.fact 118 (f := .free "min") rfl)
theorem Tx.f_dict (T : Tx K mg) : mg "dict" = none := T.free (T.says.fact 119 (f := .free "dict") rfl)
theorem Tx.f_all (T : Tx K mg) : mg "all" = none := T.free (T.says.fact 120 (f := .free "all") rfl)
theorem Tx.m_ZERO (T : Tx K mg) : mg "ZERO" = some (.ref (He.ga K "ZERO")) := T.glo (T.says.fact 121 (f := .glo "ZERO") rfl)
theorem Tx.m_ONE (T : Tx K mg) : mg "ONE" = some (.ref (He.ga K "ONE")) := T.glo (T.says.fact 122 (f := .glo "ONE") rfl)
theorem Tx.z0 (T : Tx K mg) (H : Hp) : SqT K H (He.ga K "ZERO") [.int 0, .int 1] := He.tupB_ok (vs := [.int 0, .int 1]) (He.ba T.more).1 H
theorem Tx.z1 (T : Tx K mg) (H : Hp) : SqT K H (He.ga K "ONE") [.int 1, .int 1] := He.tupB_ok (vs := [.int 1, .int 1]) (He.ba (He.ba T.more).2).1 H
theorem own_ty {x : PySem.Str} (h : ownB K x = true) (c : Cls K (He.ga K x)) {H : Hp} {a dx : Addr} {fs : List (PySem.Str × V)} (e : H a = some (.ins (He.ga K x) dx fs)) : TyX K H (.ref a) (.ref (He.ga K x)) := by
  obtain ⟨h1, h2⟩ := He.ba h
  obtain ⟨h3, h4⟩ := He.ba h2
  obtain ⟨h5, h6⟩ := He.ba h4
  exact .base (.ins e c (He.eqO_ok h1) (He.eqO_ok h3) (of_decide_eq_true h5) (of_decide_eq_true h6))
theorem Tx.ty_Field (T : Tx K mg) {H : Hp} {a dx : Addr} {fs : List (PySem.Str × V)} (e : H a = some (.ins (He.ga K "Field") dx fs)) : TyX K H (.ref a) (.ref (He.ga K "Field")) := own_ty (He.ba (He.ba (He.ba T.more).2).2).1 T.c_Field e
theorem Tx.ty_Sum (T : Tx K mg) {H : Hp} {a dx : Addr} {fs : List (PySem.Str × V)} (e : H a = some (.ins (He.ga K "Sum") dx fs)) : TyX K H (.ref a) (.ref (He.ga K "Sum")) := own_ty (He.ba (He.ba (He.ba (He.ba T.more).2).2).2).1 T.c_Sum e
theorem Tx.ty_System (T : Tx K mg) {H : Hp} {a dx : Addr} {fs : List (PySem.Str × V)} (e : H a = some (.ins (He.ga K "System") dx fs)) : TyX K H (.ref a) (.ref (He.ga K "System")) := own_ty (He.ba (He.ba (He.ba (He.ba (He.ba T.more).2).2).2).2).1 T.c_System e
theorem kit_self {v : Value} : PySem.W.kitOne K v v = some true := by
  unfold PySem.W.kitOne
  rw [if_pos (by simp)]
end
/-! ### a def's promise packed -/
section
variable {P : Program} {w : World} {K : PySem.W.Frag} {mg : PySem.Str → Option Value} {base : Heap} {x qual : PySem.Str} {params : Arguments} {body : List Stmt} {scope : Scope} {dvs : List V} {f C : Addr} {N ps : List PySem.Str} {k : Nat} {sp : Sp}
/-- how the arguments bind when n are given of a def with defaults -/
def BindD (x qual : PySem.Str) (params : Arguments) (body : List Stmt) (scope : Scope) (ps : List PySem.Str) (dl n j : Nat) : Prop :=
  ∀ (Ta : Addr) (kV doc pm : Value) (an : Option Addr) (cdv ct : Value) (us its : List Value), us.length = n → its.length = dl →
      ∃ k, bindArgs (PySem.W.fnOf x qual params body scope (.ref Ta) kV doc pm an cdv ct) ⟨us, []⟩ = seqItems? (.ref Ta) >>= k ∧ k (some its.toArray) = pure (ps.zip (us ++ its.drop j))
def BindN (x qual : PySem.Str) (params : Arguments) (body : List Stmt) (scope : Scope) (ps : List PySem.Str) : Prop :=
  ∀ (kV doc pm : Value) (an : Option Addr) (cdv ct : Value) (us : List Value), us.length = ps.length → bindArgs (PySem.W.fnOf x qual params body scope .none kV doc pm an cdv ct) ⟨us, []⟩ = pure (ps.zip us)
/-- the body keeps the promise -/
def Body (P : Program) (w : World) (K : PySem.W.Frag) (mg : PySem.Str → Option Value) (base : Heap) (k : Nat) (qual : PySem.Str) (body : List Stmt) (scope : Scope) (N : List PySem.Str) (sp : Sp) : Prop :=
  ∀ (f : Addr) (cdv : Value) (A : Around) (outer : List Env) (s : Shared) (H : Hp) (vs : List V) (Q : VK) (E : XK), PySem.W.codeIn K cdv qual = true → Room k (A.deeper (envOfC qual scope s.heap.objs.size f cdv)) → sp vs H Q E →
      ∃ t, PSs (cxOf C8.CX0 P w K mg base N qual scope f cdv A outer s H E).nox body t ∧ t { nx := fun _ H' => Q .non H', rt := Q } (start N vs) H
theorem ok_of {fd : FuncData} (F : FunD K x qual params body scope dvs [] f fd) (S : FnScope N ps scope) (len : ∀ vs H Q E, sp vs H Q E → vs.length = ps.length) (hb : Body P w K mg base k qual body scope N sp) : FnOk P w K mg base C8.CX0 (k + 1) f fd ps sp := by
  obtain ⟨oc, od, dV, kV, doc, pm, an, cdv, ct, osl, rfl, lk, hcd, _, _⟩ := F.ex
  refine fn_of lk hcd S len fun A outer s H vs Q E hr hsp => ?_
  obtain ⟨t, h, q⟩ := hb f cdv A outer s H vs Q E hcd hr hsp
  exact ⟨t, h.nox, q⟩
theorem cal_of (F : ∃ fd, FunD K x qual params body scope [] [] f fd) (hm : mg x = some (.ref f)) (S : FnScope N ps scope) (b : BindN x qual params body scope ps) (len : ∀ vs H Q E, sp vs H Q E → vs.length = ps.length) (hb : Body P w K mg base k qual body scope N sp) :
    C8.Cal P w K mg base (k + 1) x sp [] := let ⟨fd, F⟩ := F; ⟨f, fd, ps, [], ok_of F S len hb, hm, F.kp, F.bindsN b, .nil⟩
theorem met_of (F : ∃ fd, FunD K x qual params body scope [] [] f fd) (c : Cls K C) (me : Meth K C x f) (S : FnScope N ps scope) (b : BindN x qual params body scope ps) (len : ∀ vs H Q E, sp vs H Q E → vs.length = ps.length) (hb : Body P w K mg base k qual body scope N sp) :
    C8.Met P w K mg base (k + 1) C x sp [] := let ⟨fd, F⟩ := F; ⟨f, fd, ps, [], c, me, ok_of F S len hb, F.bindsN b, .nil⟩
theorem mak_of {cn : PySem.Str} (F : ∃ fd, FunD K x qual params body scope [] [] f fd) (hm : mg cn = some (.ref C)) (mk : Mk K C f) (S : FnScope N ps scope) (b : BindN x qual params body scope ps) (len : ∀ vs H Q E, sp vs H Q E → vs.length = ps.length) (hb : Body P w K mg base k qual body scope N sp) :
    C8.Mak P w K mg base (k + 1) cn C sp [] := let ⟨fd, F⟩ := F; ⟨f, fd, ps, [], mk, ok_of F S len hb, hm, F.bindsN b, .nil⟩
theorem cal_ofD (n j : Nat) (F : ∃ fd, FunD K x qual params body scope dvs [] f fd) (hd : dvs ≠ []) (hn : n + (dvs.length - j) = ps.length) (hm : mg x = some (.ref f)) (S : FnScope N ps scope) (b : BindD x qual params body scope ps dvs.length n j) (len : ∀ vs H Q E, sp vs H Q E → vs.length = ps.length) (hb : Body P w K mg base k qual body scope N sp) :
    C8.Cal P w K mg base (k + 1) x sp (dvs.drop j) := let ⟨fd, F⟩ := F; let ⟨ds, r, B⟩ := F.binds1 n j hd hn b; ⟨f, fd, ps, ds, ok_of F S len hb, hm, F.kp, B, r⟩
theorem met_ofD (n j : Nat) (F : ∃ fd, FunD K x qual params body scope dvs [] f fd) (hd : dvs ≠ []) (hn : n + (dvs.length - j) = ps.length) (c : Cls K C) (me : Meth K C x f) (S : FnScope N ps scope) (b : BindD x qual params body scope ps dvs.length n j) (len : ∀ vs H Q E, sp vs H Q E → vs.length = ps.length) (hb : Body P w K mg base k qual body scope N sp) :
    C8.Met P w K mg base (k + 1) C x sp (dvs.drop j) := let ⟨fd, F⟩ := F; let ⟨ds, r, B⟩ := F.binds1 n j hd hn b; ⟨f, fd, ps, ds, c, me, ok_of F S len hb, B, r⟩
theorem mak_ofD {cn : PySem.Str} (n j : Nat) (F : ∃ fd, FunD K x qual params body scope dvs [] f fd) (hd : dvs ≠ []) (hn : n + (dvs.length - j) = ps.length) (hm : mg cn = some (.ref C)) (mk : Mk K C f) (S : FnScope N ps scope) (b : BindD x qual params body scope ps dvs.length n j) (len : ∀ vs H Q E, sp vs H Q E → vs.length = ps.length) (hb : Body P w K mg base k qual body scope N sp) :
    C8.Mak P w K mg base (k + 1) cn C sp (dvs.drop j) := let ⟨fd, F⟩ := F; let ⟨ds, r, B⟩ := F.binds1 n j hd hn b; ⟨f, fd, ps, ds, mk, ok_of F S len hb, hm, B, r⟩
end
end FS
set_option Elab.async false
set_option linter.all false
set_option maxRecDepth 100000
set_option maxHeartbeats 1000000
/-! numbers of a field as pairs (top, bottom) -/
namespace FS
/-- the fraction in lowest terms, the bottom above nought -/
def lowM (t b : Int) : Int × Int := (b.sign * t / (Int.gcd b t : Int), (b.natAbs / Int.gcd b t : Nat))
/-- the first k in 1 .. p - 1 with b * k = 1 -/
def invM (p b : Int) : Int := (((List.range (p - 1).toNat).map fun i : Nat => (1 + (i : Int))).filter fun k => decide (b * k % p = 1)).headD 0
def madeM (p t b : Int) : Int × Int := if p = 0 then lowM t b else (t * invM p (b % p) % p, 1)
def Good (p b : Int) : Prop := if p = 0 then b ≠ 0 else b % p ≠ 0
def primes : List Int := [2, 3, 5, 7, 11, 13, 17, 19, 23, 29, 31, 37, 41, 43, 47, 53, 59, 61, 67, 71, 73, 79, 83, 89, 97]
structure Fd : Type 1 where
  car : Type
  fld : Lean.Grind.Field car
  dec : DecidableEq car
  p : Int
  ic : Int → car
  ic_zero : ic 0 = 0
  ic_one : ic 1 = 1
  ic_add : ∀ a b, ic (a + b) = ic a + ic b
  ic_mul : ∀ a b, ic (a * b) = ic a * ic b
  ic_neg : ∀ a, ic (-a) = -ic a
  enc : car → Int × Int
  val : ∀ x, ic (enc x).2 ≠ 0 ∧ ic (enc x).1 / ic (enc x).2 = x
  good : ∀ b, Good p b ↔ ic b ≠ 0
  made : ∀ t b, ic b ≠ 0 → madeM p t b = enc (ic t / ic b)
  prime : p = 0 ∨ p ∈ primes
  canon0 : p = 0 → ∀ x, 0 < (enc x).2 ∧ Int.gcd (enc x).2 (enc x).1 = 1
  canonp : p ≠ 0 → ∀ x, (enc x).2 = 1 ∧ 0 ≤ (enc x).1 ∧ (enc x).1 < p
instance instFld (φ : Fd) : Lean.Grind.Field φ.car := φ.fld
instance instDec (φ : Fd) : DecidableEq φ.car := φ.dec
namespace Fd
variable {φ : Fd}
theorem ic_sub (a b : Int) : φ.ic (a - b) = φ.ic a - φ.ic b := by
  rw [Int.sub_eq_add_neg, φ.ic_add, φ.ic_neg]
  grind
theorem enc_inj {x y : φ.car} (h : φ.enc x = φ.enc y) : x = y := by
  have h1 := (φ.val x).2
  have h2 := (φ.val y).2
  rw [← h1, ← h2, h]
theorem enc_iff {x y : φ.car} : φ.enc x = φ.enc y ↔ x = y := ⟨enc_inj, fun h => by rw [h]⟩
theorem add_made (x y : φ.car) : madeM φ.p ((φ.enc x).1 * (φ.enc y).2 + (φ.enc y).1 * (φ.enc x).2) ((φ.enc x).2 * (φ.enc y).2) = φ.enc (x + y) ∧ φ.ic ((φ.enc x).2 * (φ.enc y).2) ≠ 0 := by
  obtain ⟨a1, a2⟩ := φ.val x
  obtain ⟨b1, b2⟩ := φ.val y
  have hb : φ.ic ((φ.enc x).2 * (φ.enc y).2) ≠ 0 := by
    rw [φ.ic_mul]
    grind
  refine ⟨?_, hb⟩
  rw [φ.made _ _ hb]
  congr 1
  rw [φ.ic_add, φ.ic_mul, φ.ic_mul, φ.ic_mul]
  grind
theorem sub_made (x y : φ.car) : madeM φ.p ((φ.enc x).1 * (φ.enc y).2 - (φ.enc y).1 * (φ.enc x).2) ((φ.enc x).2 * (φ.enc y).2) = φ.enc (x - y) ∧ φ.ic ((φ.enc x).2 * (φ.enc y).2) ≠ 0 := by
  obtain ⟨a1, a2⟩ := φ.val x
  obtain ⟨b1, b2⟩ := φ.val y
  have hb : φ.ic ((φ.enc x).2 * (φ.enc y).2) ≠ 0 := by
    rw [φ.ic_mul]
    grind
  refine ⟨?_, hb⟩
  rw [φ.made _ _ hb]
  congr 1
  rw [ic_sub, φ.ic_mul, φ.ic_mul, φ.ic_mul]
  grind
theorem mul_made (x y : φ.car) : madeM φ.p ((φ.enc x).1 * (φ.enc y).1) ((φ.enc x).2 * (φ.enc y).2) = φ.enc (x * y) ∧ φ.ic ((φ.enc x).2 * (φ.enc y).2) ≠ 0 := by
  obtain ⟨a1, a2⟩ := φ.val x
  obtain ⟨b1, b2⟩ := φ.val y
  have hb : φ.ic ((φ.enc x).2 * (φ.enc y).2) ≠ 0 := by
    rw [φ.ic_mul]
    grind
  refine ⟨?_, hb⟩
  rw [φ.made _ _ hb]
  congr 1
  rw [φ.ic_mul, φ.ic_mul]
  grind
theorem top_ne {y : φ.car} (h : y ≠ 0) : φ.ic (φ.enc y).1 ≠ 0 := by
  obtain ⟨b1, b2⟩ := φ.val y
  intro z
  rw [z] at b2
  apply h
  rw [← b2]
  grind
theorem div_made (x y : φ.car) (h : y ≠ 0) : madeM φ.p ((φ.enc x).1 * (φ.enc y).2) ((φ.enc x).2 * (φ.enc y).1) = φ.enc (x / y) ∧ φ.ic ((φ.enc x).2 * (φ.enc y).1) ≠ 0 := by
  obtain ⟨a1, a2⟩ := φ.val x
  obtain ⟨b1, b2⟩ := φ.val y
  have b3 := top_ne h
  have hb : φ.ic ((φ.enc x).2 * (φ.enc y).1) ≠ 0 := by
    rw [φ.ic_mul]
    grind
  refine ⟨?_, hb⟩
  rw [φ.made _ _ hb]
  congr 1
  rw [φ.ic_mul, φ.ic_mul]
  grind
theorem ic_one_ne : φ.ic 1 ≠ 0 := by
  rw [φ.ic_one]
  have : (0 : φ.car) ≠ 1 := Lean.Grind.Field.zero_ne_one
  exact fun h => this h.symm
theorem enc_int (n : Int) (h : madeM φ.p n 1 = (n, 1)) : φ.enc (φ.ic n) = (n, 1) := by
  have := φ.made n 1 ic_one_ne
  rw [h] at this
  rw [this, φ.ic_one]
  congr 1
  grind
theorem enc_zero : φ.enc 0 = (0, 1) := by
  have h := φ.made 0 1 ic_one_ne
  rw [φ.ic_zero, φ.ic_one] at h
  have e : (0 : φ.car) / 1 = 0 := by grind
  rw [e] at h
  rw [← h]
  unfold madeM lowM
  split
  · rfl
  · simp
theorem p_pos (h : φ.p ≠ 0) : 2 ≤ φ.p ∧ φ.p ≤ 97 := by
  rcases φ.prime with e | e
  · exact absurd e h
  · have all : ∀ q ∈ primes, 2 ≤ q ∧ q ≤ 97 := by decide
    exact all _ e
theorem inv_one {p : Int} (h : p ∈ primes) : invM p 1 = 1 := by
  have all : ∀ q ∈ primes, invM q 1 = 1 := by decide +kernel
  exact all p h
theorem made_one (n : Int) (h : φ.p = 0 ∨ (0 ≤ n ∧ n < φ.p)) : madeM φ.p n 1 = (n, 1) := by
  unfold madeM
  split
  · rename_i e
    unfold lowM
    simp
  · rename_i e
    rcases φ.prime with z | z
    · exact absurd z e
    · have h1 : (1 : Int) % φ.p = 1 := Int.emod_eq_of_lt (by decide) (by have := p_pos e; omega)
      rw [h1, inv_one z, Int.mul_one]
      rcases h with h | h
      · exact absurd h e
      · rw [Int.emod_eq_of_lt h.1 h.2]
theorem enc_one : φ.enc 1 = (1, 1) := by
  have := enc_int (φ := φ) 1 (made_one 1 (by
    by_cases e : φ.p = 0
    · exact .inl e
    · have := p_pos e
      exact .inr (by omega)))
  rw [φ.ic_one] at this
  exact this
theorem top_zero {x : φ.car} : (φ.enc x).1 = 0 ↔ x = 0 := by
  constructor
  · intro h
    have h2 := (φ.val x).2
    rw [h, φ.ic_zero] at h2
    rw [← h2]
    grind
  · intro h
    rw [h, enc_zero]
end Fd
end FS
set_option Elab.async false
set_option linter.all false
set_option maxRecDepth 100000
set_option maxHeartbeats 1000000
/-! the fractions, and the whole numbers by a prime -/
namespace FS
def ratFd : Fd where
  car := Rat
  fld := inferInstance
  dec := inferInstance
  p := 0
  ic n := (n : Rat)
  ic_zero := rfl
  ic_one := rfl
  ic_add := Rat.intCast_add
  ic_mul := Rat.intCast_mul
  ic_neg := Rat.intCast_neg
  enc x := (x.num, (x.den : Int))
  val x := by
    have h : ((x.den : Int) : Rat) ≠ 0 := fun z => by
      have : (x.den : Int) = 0 := Rat.intCast_inj.mp z
      have := x.den_pos
      omega
    refine ⟨h, ?_⟩
    show (x.num : Rat) / ((x.den : Int) : Rat) = x
    rw [← Rat.divInt_eq_div]
    exact Rat.num_divInt_den x
  good b := by
    unfold Good
    rw [if_pos rfl]
    exact ⟨fun h z => h (Rat.intCast_inj.mp z), fun h z => h (by rw [z]; rfl)⟩
  made t b hb := by
    have b0 : b ≠ 0 := fun z => hb (by rw [z]; rfl)
    unfold madeM lowM
    rw [if_pos rfl, ← Rat.divInt_eq_div]
    show (_, _) = ((Rat.divInt t b).num, ((Rat.divInt t b).den : Int))
    rw [Rat.num_divInt, Rat.den_divInt, if_neg b0]
  prime := .inl rfl
  canon0 _ x := by
    refine ⟨?_, ?_⟩
    · have := x.den_pos
      show 0 < (x.den : Int)
      omega
    · have := x.reduced
      show Nat.gcd (x.den : Int).natAbs x.num.natAbs = 1
      rw [Int.natAbs_natCast, Nat.gcd_comm]
      exact this
  canonp h := absurd rfl h
section
variable (n : Nat) [NeZero n]
/-- a whole number by n -/
def zc (z : Int) : Fin n := ⟨(z % (n : Int)).toNat, by
  have h0 : 0 < (n : Int) := by have := NeZero.ne n; omega
  have h1 := Int.emod_nonneg z (Int.ne_of_gt h0)
  have h2 := Int.emod_lt_of_pos z h0
  omega⟩
variable {n}
theorem z_pos : 0 < (n : Int) := by have := NeZero.ne n; omega
theorem zc_val (z : Int) : ((zc n z).val : Int) = z % n := Int.toNat_of_nonneg (Int.emod_nonneg z (Int.ne_of_gt z_pos))
theorem z_ext {x y : Fin n} (h : (x.val : Int) = (y.val : Int)) : x = y := Fin.ext (Int.ofNat.inj h)
theorem z_add (x y : Fin n) : ((x + y).val : Int) = ((x.val : Int) + y.val) % n := by
  rw [Fin.val_add, Int.natCast_emod, Int.natCast_add]
theorem z_mul (x y : Fin n) : ((x * y).val : Int) = ((x.val : Int) * y.val) % n := by
  rw [Fin.val_mul, Int.natCast_emod, Int.natCast_mul]
theorem zc_add (a b : Int) : zc n (a + b) = zc n a + zc n b := z_ext (by
  rw [z_add, zc_val, zc_val, zc_val, ← Int.add_emod])
theorem zc_mul (a b : Int) : zc n (a * b) = zc n a * zc n b := z_ext (by
  rw [z_mul, zc_val, zc_val, zc_val, ← Int.mul_emod])
theorem zc_zero : zc n 0 = 0 := z_ext (by
  rw [zc_val, Int.zero_emod]
  rfl)
theorem zc_of (x : Fin n) : zc n x.val = x := z_ext (by
  rw [zc_val]
  exact Int.emod_eq_of_lt (by omega) (by have := x.isLt; omega))
theorem z_val0 {x : Fin n} : x = 0 ↔ (x.val : Int) = 0 := ⟨fun h => by rw [h]; rfl, fun h => z_ext (by rw [h]; rfl)⟩
def zInv (x : Fin n) : Fin n := if x = 0 then 0 else zc n (invM n x.val)
end
theorem inv_ok : ∀ p ∈ primes, ∀ c, c < p.toNat → c ≠ 0 → (c : Int) * invM p c % p = 1 := by decide +kernel
section
variable {n : Nat} [NeZero n]
theorem zInv_ok (h : (n : Int) ∈ primes) {x : Fin n} (hx : x ≠ 0) : x * zInv x = zc n 1 := by
  refine z_ext ?_
  have h0 : (x.val : Int) ≠ 0 := fun z => hx (z_val0.mpr z)
  have k := inv_ok _ h x.val (by have := x.isLt; omega) (by omega)
  have hb : (2 : Int) ≤ n := by
    have all : ∀ q ∈ primes, (2 : Int) ≤ q := by decide
    exact all _ h
  unfold zInv
  rw [if_neg hx, z_mul, zc_val, zc_val, Int.mul_emod, Int.emod_emod, ← Int.mul_emod, k]
  exact (Int.emod_eq_of_lt (by decide) (by omega)).symm
end
theorem pr2 {n : Nat} (h : (n : Int) ∈ primes) : 2 ≤ n := by
  have all : ∀ q ∈ primes, (2 : Int) ≤ q := by decide
  have := all _ h
  omega
theorem zc_one {n : Nat} [NeZero n] (h : (n : Int) ∈ primes) : zc n 1 = 1 := by
  have h2 := pr2 h
  refine z_ext ?_
  rw [zc_val, Int.emod_eq_of_lt (by decide) (by omega)]
  show (1 : Int) = ((1 % n : Nat) : Int)
  rw [Nat.mod_eq_of_lt (by omega)]
  rfl
/-- powers by whole numbers -/
def zPow {n : Nat} [NeZero n] (x : Fin n) : Int → Fin n
  | .ofNat k => x ^ k
  | .negSucc k => zInv (x ^ (k + 1))
theorem zInv_zero {n : Nat} [NeZero n] : zInv (0 : Fin n) = 0 := if_pos rfl
theorem z01 {n : Nat} [NeZero n] (h : (n : Int) ∈ primes) : (0 : Fin n) ≠ 1 := fun z => by
  have h2 := pr2 h
  have := congrArg Fin.val z
  have e : (0 : Nat) = 1 % n := this
  rw [Nat.mod_eq_of_lt (by omega)] at e
  cases e
theorem zInv_inv {n : Nat} [NeZero n] (h : (n : Int) ∈ primes) (x : Fin n) : zInv (zInv x) = x := by
  by_cases e : x = 0
  · rw [e, zInv_zero, zInv_zero]
  · have a := zInv_ok h e
    rw [zc_one h] at a
    have ne : zInv x ≠ 0 := fun z => by
      rw [z] at a
      exact z01 h (by grind)
    have b := zInv_ok h ne
    rw [zc_one h] at b
    grind
theorem zInv_one {n : Nat} [NeZero n] (h : (n : Int) ∈ primes) : zInv (1 : Fin n) = 1 := by
  have a := zInv_ok h (x := (1 : Fin n)) fun z => z01 h z.symm
  rw [zc_one h] at a
  grind
def zField {n : Nat} [NeZero n] (h : (n : Int) ∈ primes) : Lean.Grind.Field (Fin n) :=
  letI i1 : Inv (Fin n) := ⟨zInv⟩
  letI i2 : Div (Fin n) := ⟨fun x y => x * zInv y⟩
  letI i3 : HPow (Fin n) Int (Fin n) := ⟨zPow⟩
  { toCommRing := inferInstance
    toInv := i1
    toDiv := i2
    zpow := i3
    div_eq_mul_inv := fun _ _ => rfl
    zero_ne_one := z01 h
    inv_zero := zInv_zero
    mul_inv_cancel := fun {a} ha => (zInv_ok h ha).trans (zc_one h)
    zpow_zero := fun a => Lean.Grind.Semiring.pow_zero a
    zpow_succ := fun a k => Lean.Grind.Semiring.pow_succ a k
    zpow_neg := fun a k => by
      show zPow a (-k) = zInv (zPow a k)
      match k with
      | .ofNat 0 =>
        show a ^ 0 = zInv (a ^ 0)
        rw [Lean.Grind.Semiring.pow_zero, zInv_one h]
      | .ofNat (k + 1) => rfl
      | .negSucc k =>
        show a ^ (k + 1) = zInv (zInv (a ^ (k + 1)))
        rw [zInv_inv h] }
def zFd (n : Nat) [NeZero n] (h : (n : Int) ∈ primes) : Fd where
  car := Fin n
  fld := zField h
  dec := inferInstance
  p := n
  ic := zc n
  ic_zero := zc_zero
  ic_one := zc_one h
  ic_add := zc_add
  ic_mul := zc_mul
  ic_neg a := by
    have e : zc n (-a) + zc n a = 0 := by
      rw [← zc_add, Int.add_left_neg, zc_zero]
    show zc n (-a) = -zc n a
    grind
  enc x := (x.val, 1)
  val x := by
    rw [zc_one h]
    refine ⟨fun z => z01 h z.symm, ?_⟩
    show zc n (x.val : Int) * zInv 1 = x
    rw [zInv_one h, zc_of]
    grind
  good b := by
    have h2 := pr2 h
    unfold Good
    rw [if_neg (by omega)]
    constructor
    · intro k z
      have := z_val0.mp z
      rw [zc_val] at this
      exact k this
    · intro k z
      refine k (z_val0.mpr ?_)
      rw [zc_val]
      exact z
  made t b hb := by
    have h2 := pr2 h
    unfold madeM
    rw [if_neg (by omega)]
    show (_, _) = (((zc n t * zInv (zc n b)).val : Int), (1 : Int))
    congr 1
    have e : zInv (zc n b) = zc n (invM n ((zc n b).val : Int)) := if_neg hb
    rw [e, zc_val, ← zc_mul, zc_val]
  prime := .inr h
  canon0 z := by
    have h2 := pr2 h
    omega
  canonp _ x := by
    have := x.isLt
    exact ⟨rfl, by show (0 : Int) ≤ (x.val : Int); omega, by show (x.val : Int) < (n : Int); omega⟩
theorem fd_ex (p : Int) (h : p = 0 ∨ p ∈ primes) : ∃ φ : Fd, φ.p = p := by
  rcases h with e | e
  · exact ⟨ratFd, e.symm⟩
  · have all : ∀ q ∈ primes, (2 : Int) ≤ q := by decide
    have h2 := all _ e
    obtain ⟨n, rfl⟩ : ∃ n : Nat, p = n := ⟨p.toNat, by omega⟩
    have : NeZero n := ⟨by omega⟩
    exact ⟨zFd n e, rfl⟩
end FS
set_option Elab.async false
set_option linter.all false
set_option maxRecDepth 100000
set_option maxHeartbeats 1000000
/-! products of at most three places, by rank: by length, then by places -/
namespace FS
def prd : Nat → List Int
  | 0 => []
  | 1 => [0]
  | 2 => [1]
  | 3 => [2]
  | 4 => [0, 1]
  | 5 => [0, 2]
  | 6 => [1, 2]
  | _ => [0, 1, 2]
def sw : Nat → Nat
  | 3 => 4
  | 4 => 3
  | n => n
/-- the product of two products -/
def jn (a b : Nat) : Nat := sw (sw a ||| sw b)
theorem jn_lt : ∀ a, a < 8 → ∀ b, b < 8 → jn a b < 8 := by decide
theorem jn_mem1 : ∀ a, a < 8 → ∀ b, b < 8 → ∀ k ∈ prd (jn a b), (k ∈ prd a ∨ k ∈ prd b) := by decide
theorem jn_mem2 : ∀ a, a < 8 → ∀ b, b < 8 → ∀ k ∈ prd a, k ∈ prd (jn a b) := by decide
theorem jn_mem3 : ∀ a, a < 8 → ∀ b, b < 8 → ∀ k ∈ prd b, k ∈ prd (jn a b) := by decide
theorem jn_mem (a : Nat) (ha : a < 8) (b : Nat) (hb : b < 8) : (∀ k ∈ prd (jn a b), k ∈ prd a ∨ k ∈ prd b) ∧ (∀ k ∈ prd a, k ∈ prd (jn a b)) ∧ (∀ k ∈ prd b, k ∈ prd (jn a b)) :=
  ⟨jn_mem1 a ha b hb, jn_mem2 a ha b hb, jn_mem3 a ha b hb⟩
theorem prd_sorted : ∀ a, a < 8 → (prd a).Pairwise (· < ·) := by decide
theorem prd_inj : ∀ a, a < 8 → ∀ b, b < 8 → prd a = prd b → a = b := by decide
theorem prd_len : ∀ a, a < 8 → (prd a).length ≤ 3 := by decide
theorem prd_bd : ∀ a, a < 8 → ∀ k ∈ prd a, 0 ≤ k ∧ k < 3 := by decide
theorem jn_comm : ∀ a, a < 8 → ∀ b, b < 8 → jn a b = jn b a := by decide
theorem jn_assoc : ∀ a, a < 8 → ∀ b, b < 8 → ∀ c, c < 8 → jn (jn a b) c = jn a (jn b c) := by decide
theorem jn_self : ∀ a, a < 8 → jn a a = a := by decide
theorem jn_zero : ∀ a, a < 8 → jn 0 a = a := by decide
/-- strictly sorted lists of the same members are the same -/
theorem sorted_eq : ∀ {xs ys : List Int}, xs.Pairwise (· < ·) → ys.Pairwise (· < ·) → (∀ k, k ∈ xs ↔ k ∈ ys) → xs = ys
  | [], [], _, _, _ => rfl
  | [], y :: ys, _, _, h => absurd ((h y).mpr List.mem_cons_self) (by simp)
  | x :: xs, [], _, _, h => absurd ((h x).mp List.mem_cons_self) (by simp)
  | x :: xs, y :: ys, h1, h2, h => by
    obtain ⟨a1, a2⟩ := List.pairwise_cons.mp h1
    obtain ⟨b1, b2⟩ := List.pairwise_cons.mp h2
    have e : x = y := by
      rcases List.mem_cons.mp ((h x).mp List.mem_cons_self) with z | z
      · exact z
      · rcases List.mem_cons.mp ((h y).mpr List.mem_cons_self) with u | u
        · exact u.symm
        · have := b1 x z
          have := a1 y u
          omega
    subst e
    refine congrArg (List.cons x) (sorted_eq a2 b2 fun k => ⟨fun hk => ?_, fun hk => ?_⟩)
    · rcases List.mem_cons.mp ((h k).mp (List.mem_cons_of_mem _ hk)) with z | z
      · have := a1 k hk
        omega
      · exact z
    · rcases List.mem_cons.mp ((h k).mpr (List.mem_cons_of_mem _ hk)) with z | z
      · have := b1 k hk
        omega
      · exact z
theorem jn_sorted {a b : Nat} (ha : a < 8) (hb : b < 8) {ns : List Int} (h : ns.Pairwise (· < ·)) (hm : ∀ k, k ∈ ns ↔ k ∈ prd a ++ prd b) : ns = prd (jn a b) := by
  obtain ⟨m1, m2, m3⟩ := jn_mem a ha b hb
  refine sorted_eq h (prd_sorted _ (jn_lt a ha b hb)) fun k => ?_
  rw [hm k, List.mem_append]
  exact ⟨fun z => z.elim (m2 k) (m3 k), m1 k⟩
/-- within the first P places -/
def inP (P : Nat) (j : Nat) : Bool := (prd j).all fun k => decide (k < P)
end FS
set_option Elab.async false
set_option linter.all false
set_option maxRecDepth 100000
set_option maxHeartbeats 4000000
/-! words for the walks -/
namespace FS
open PySem PySem.Spec PyProof.Rows L2
/-! ### promises by their number of arguments -/
abbrev K1 := V → Hp → VK → Prop
abbrev K2 := V → V → Hp → VK → Prop
abbrev K3 := V → V → V → Hp → VK → Prop
abbrev K4 := V → V → V → V → Hp → VK → Prop
abbrev K5 := V → V → V → V → V → Hp → VK → Prop
def S1 (f : K1) : Sp := fun vs H Q _ => ∃ x, vs = [x] ∧ f x H Q
def S2 (f : K2) : Sp := fun vs H Q _ => ∃ x y, vs = [x, y] ∧ f x y H Q
def S3 (f : K3) : Sp := fun vs H Q _ => ∃ x y z, vs = [x, y, z] ∧ f x y z H Q
def S4 (f : K4) : Sp := fun vs H Q _ => ∃ x y z u, vs = [x, y, z, u] ∧ f x y z u H Q
def S5 (f : K5) : Sp := fun vs H Q _ => ∃ x y z u v, vs = [x, y, z, u, v] ∧ f x y z u v H Q
theorem len1 {f : K1} {a : PySem.Str} : ∀ vs H Q E, S1 f vs H Q E → vs.length = [a].length := fun vs H Q E h => by
  obtain ⟨x, rfl, _⟩ := h
  rfl
theorem len2 {f : K2} {a b : PySem.Str} : ∀ vs H Q E, S2 f vs H Q E → vs.length = [a, b].length := fun vs H Q E h => by
  obtain ⟨x, y, rfl, _⟩ := h
  rfl
theorem len3 {f : K3} {a b c : PySem.Str} : ∀ vs H Q E, S3 f vs H Q E → vs.length = [a, b, c].length := fun vs H Q E h => by
  obtain ⟨x, y, z, rfl, _⟩ := h
  rfl
theorem len4 {f : K4} {a b c d : PySem.Str} : ∀ vs H Q E, S4 f vs H Q E → vs.length = [a, b, c, d].length := fun vs H Q E h => by
  obtain ⟨x, y, z, u, rfl, _⟩ := h
  rfl
theorem len5 {f : K5} {a b c d e : PySem.Str} : ∀ vs H Q E, S5 f vs H Q E → vs.length = [a, b, c, d, e].length := fun vs H Q E h => by
  obtain ⟨x, y, z, u, v, rfl, _⟩ := h
  rfl
/-- a new tuple, a new list, a value: the heap may have grown -/
def RetT (H : Hp) (xs : List V) (Q : VK) : Prop := ∀ H' a, Ext H H' → H a = none → H' a = some (.tup xs) → Q (.ref a) H'
def RetL (H : Hp) (xs : List V) (Q : VK) : Prop := ∀ H' a, Ext H H' → H a = none → H' a = some (.lst xs) → Q (.ref a) H'
def RetV (H : Hp) (v : V) (Q : VK) : Prop := ∀ H', Ext H H' → Q v H'
/-! ### readings by name -/
abbrev rAdd : R2 := rI0 fun i j => .int (i + j)
abbrev rSub : R2 := rI0 fun i j => .int (i - j)
abbrev rMulW : R2 := rI CMulW fun i j => .int (i * j)
abbrev rFdivW : R2 := rI CDivW fun i j => .int (i / j)
abbrev rModN : R2 := rI (fun _ j => j ≠ 0) fun i j => .int (i.fmod j)
abbrev rPow : R2 := rI CPow fun i j => .int (i ^ j.toNat)
abbrev rLt : R2 := rI0 fun i j => .bl (decide (i < j))
abbrev rLe : R2 := rI0 fun i j => .bl (decide (i ≤ j))
abbrev rGtI : R2 := rI0 fun i j => .bl (decide (j < i))
abbrev rGeI : R2 := rI0 fun i j => .bl (decide (j ≤ i))
abbrev rLenS (K : PySem.W.Frag) : List V → Hp → VK → Prop := fun xs H Q => ∃ p ys, xs = [.ref p] ∧ (SqL K H p ys ∨ SqT K H p ys) ∧ Q (.int ys.length) H
abbrev rListS (K : PySem.W.Frag) : List V → Hp → VK → Prop := fun xs H Q => ∃ p ys, xs = [.ref p] ∧ (SqL K H p ys ∨ SqT K H p ys) ∧ ∀ l, H l = none → Q (.ref l) (upd H l (.lst ys))
abbrev rTupOf (K : PySem.W.Frag) : List V → Hp → VK → Prop := fun xs H Q => ∃ p ys, xs = [.ref p] ∧ ((SqL K H p ys ∧ ∀ l, H l = none → Q (.ref l) (upd H l (.tup ys))) ∨ (SqT K H p ys ∧ Q (.ref p) H))
theorem hx_of {A : Around} {k : Nat} (hr : Room k A) : A.units + 9 < cLine := by have := hr.un; omega
theorem hu64 {A : Around} {k : Nat} (hr : Room k A) : A.units + 64 < cLine := by have := hr.un; omega
/-- a whole number's size in a slot -/
def slotI (σ : L2.St) (i : Nat) : Nat := match σ[i]? with
  | some (some (V.int z)) => z.natAbs
  | _ => 0
/-- isinstance of whole numbers -/
theorem kit_int {K : PySem.W.Frag} : PySem.W.kitOne K (.type "int") (.type "int") = some true := kit_self
end FS
set_option Elab.async false
set_option linter.all false
set_option maxRecDepth 100000
set_option maxHeartbeats 4000000
namespace FS
open PySem PySem.Spec PyProof.Rows L2
section
variable {P : Program} {w : World} {K : PySem.W.Frag} {mg : PySem.Str → Option Value} {base : Heap}

def k_is_whole : K1 := fun x H Q => ∃ i, x = .int i ∧ Q (.bl true) H

abbrev N_is_whole : List PySem.Str := ["thing"]
theorem sc_is_whole : FnScope N_is_whole ["thing"] (defScope s_is_whole) := ⟨rfl, rfl, rfl, by decide +kernel, rfl, by decide +kernel, by decide +kernel⟩
theorem b_is_whole (T : Tx K mg) : Body P w K mg base 0 "is_whole" (defBody s_is_whole) (defScope s_is_whole) N_is_whole (S1 k_is_whole) := fun f cdv A outer s H vs Q E hcd hr h => by
  refine ⟨_, (pss_one (ps_ret (pe_and (pe_callB call_isi (by rfl) T.f_isinstance (by decide +kernel) (pa_cons (pv 0) (pa_cons (pe_bltn (v := .ty "int") (by rfl) T.f_int (by decide +kernel) rfl) pa_nil))) (pe_one (pe_not (pe_callB call_isi (by rfl) T.f_isinstance (by decide +kernel) (pa_cons (pv 0) (pa_cons (pe_bltn (v := .ty "bool") (by rfl) T.f_bool (by decide +kernel) rfl) pa_nil)))))))), ?_⟩
  obtain ⟨x, rfl, i, rfl, hQ⟩ := h
  refine ⟨_, rfl, _, _, _, _, true, rfl, .ty "int", .base (.int i), kit_self, true, rfl, ?_⟩
  show (if true = true then _ else _)
  rw [if_pos rfl]
  exact ⟨_, rfl, _, _, _, _, false, rfl, .ty "bool", .base (.int i), kit_ty (by decide +kernel), false, rfl, hQ⟩
theorem c_is_whole (T : Tx K mg) : C8.Cal P w K mg base 1 "is_whole" (S1 k_is_whole) [] := cal_of T.F_is_whole T.m_is_whole sc_is_whole (fun _ _ _ _ _ _ us hl => match us, hl with | [_], _ => rfl) len1 (b_is_whole T)

theorem primes_bd {p : Int} (h : p ∈ primes) : 2 ≤ p ∧ p ≤ 97 := by
  have all : ∀ q ∈ primes, (2 : Int) ≤ q ∧ q ≤ 97 := by decide
  exact all p h
theorem primes_nodiv {p : Int} (h : p ∈ primes) : ∀ i : Nat, i < (p - 2).toNat → p.fmod (2 + i) ≠ 0 := by
  have all : ∀ q ∈ primes, ∀ i : Nat, i < (q - 2).toNat → q.fmod (2 + i) ≠ 0 := by decide +kernel
  exact all p h
def k_is_prime : K1 := fun x H Q => ∃ p, x = .int p ∧ p ∈ primes ∧ RetV H (.bl true) Q

abbrev N_is_prime : List PySem.Str := ["thing", "part"]
theorem sc_is_prime : FnScope N_is_prime ["thing"] (defScope s_is_prime) := ⟨rfl, rfl, rfl, by decide +kernel, rfl, by decide +kernel, by decide +kernel⟩
theorem b_is_prime (T : Tx K mg) : Body P w K mg base 1 "is_prime" (defBody s_is_prime) (defScope s_is_prime) N_is_prime (S1 k_is_prime) := fun f cdv A outer s H vs Q E hcd hr h => by
  refine ⟨_, (pss_cons (ps_if (PW.pt (pw_or (pt_not (pt_val (C8.pe_c (c_is_whole T) hr (by decide) rfl (pa_cons (pv 0) pa_nil)))) (pw_or1 (pt_not (pt_chain op_le op_le pe_int (pv 0) (C8.pe_gc rfl T.i_MOST_PRIME)))))) (pss_one (ps_ret pe_bl)) pss_nil) (pss_one (ps_ret (pe_cmpR (op_eqD (hu64 hr)) (pe_lc (own := [("part", 1)]) (g := (gName 1)) (tt := (tTest (tOp rEq (tOp rModN (tVar 0) (tVar 1)) (tC (.int 0))))) (te := (tVar 1)) rfl sc_is_prime.nd (pi_range2 rfl T.f_range (pa_cons pe_int (pa_cons (pv 0) pa_nil))) (blkOk_by (N := N_is_prime) (sc := defScope s_is_prime) (by decide +kernel)) (fun _ _ _ _ _ => (pg_name (i := 1) sc_is_prime.nd rfl (by first | exact Or.inl rfl | exact Or.inr rfl))) (fun _ _ _ _ _ => (pts_one (pt_cmpR op_eq (pe_op op_modN (pv 0) (pv 1)) pe_int (nomark _)))) (fun _ _ _ _ _ => (pv 1))) (pe_lst pa_nil) (nomark _))))), ?_⟩
  obtain ⟨x, rfl, p, rfl, hp, hQ⟩ := h
  obtain ⟨b1, b2⟩ := primes_bd hp
  refine ⟨_, rfl, _, rfl, p, rfl, _, rfl, iteF ?_⟩
  refine ⟨_, rfl, _, _, rfl, rfl, _, rfl, ?_⟩
  rw [decide_eq_true b1]
  refine iteT ⟨_, _, rfl, rfl, _, rfl, ?_⟩
  rw [decide_eq_true b2]
  refine iteF ?_
  refine ⟨_, rfl, 2, p, rfl, by omega, fun D hD => ?_⟩
  refine lc_range (lo := 2) (n := (p - 2).toNat) (fun i H' => H' = upd H D (.lst [])) rfl (fun i H' hi e => ?_) fun H' e => ?_
  · subst e
    refine ⟨rfl, _, rfl, _, rfl, _, _, rfl, rfl, by omega, rfl, _, rfl, ?_⟩
    have nz := primes_nodiv hp i hi
    have e1 : decide (V.int (p.fmod (2 + (i : Int))) = V.int 0) = false := decide_eq_false fun z => nz (V.int.inj z)
    rw [e1]
    exact iteF rfl
  · subst e
    refine ⟨by show 0 ≤ sizeLine; exact Nat.zero_le _, fun q hq => ?_⟩
    have hne : D ≠ q := fun z => by
      rw [← z, upd_same] at hq
      cases hq
    refine ⟨.list [], .list [], .lst (SqL.of (by rw [upd_ne hne]; exact upd_same)) .nil, .lst (SqL.of upd_same) .nil, rfl, rfl, ?_⟩
    exact hQ _ ((Ext.upd hD).upd' hq)
theorem c_is_prime (T : Tx K mg) : C8.Cal P w K mg base 2 "is_prime" (S1 k_is_prime) [] := cal_of T.F_is_prime T.m_is_prime sc_is_prime (fun _ _ _ _ _ _ us hl => match us, hl with | [_], _ => rfl) len1 (b_is_prime T)

theorem abs_if (i : Int) : (if i < 0 then -i else i) = (i.natAbs : Int) := by
  split <;> omega
theorem sign_div {b : Int} (h : b ≠ 0) : b / (b.natAbs : Int) = b.sign := by
  rcases Int.lt_trichotomy b 0 with z | z | z
  · have e : (b.natAbs : Int) = -b := by omega
    rw [e, Int.sign_eq_neg_one_of_neg z, Int.ediv_neg, Int.ediv_self h]
  · exact absurd z h
  · have e : (b.natAbs : Int) = b := by omega
    rw [e, Int.sign_eq_one_of_pos z, Int.ediv_self h]
theorem fmod_nat (u v : Nat) : (u : Int).fmod (v : Int) = ((u % v : Nat) : Int) := by
  rw [Int.fmod_eq_emod_of_nonneg _ (Int.natCast_nonneg v)]
  exact (Int.natCast_emod u v).symm
def k_lowest : K2 := fun x y H Q => ∃ t b, x = .int t ∧ y = .int b ∧ b ≠ 0 ∧ b.natAbs < 2 ^ 9000 ∧ t.natAbs < 2 ^ 20000 ∧ RetT H [.int (lowM t b).1, .int (lowM t b).2] Q

abbrev N_lowest : List PySem.Str := ["top", "bottom", "sign", "one", "other"]
theorem sc_lowest : FnScope N_lowest ["top", "bottom"] (defScope s_lowest) := ⟨rfl, rfl, rfl, by decide +kernel, rfl, by decide +kernel, by decide +kernel⟩
theorem b_lowest (T : Tx K mg) : Body P w K mg base 0 "lowest" (defBody s_lowest) (defScope s_lowest) N_lowest (S2 k_lowest) := fun f cdv A outer s H vs Q E hcd hr h => by
  refine ⟨_, (pss_cons (ps_try_thru0 (pss_one (ps_set (i := 2) sc_lowest.nd rfl (by first | exact Or.inl rfl | exact Or.inr rfl) (pe_op op_fdivW (pv 1) (pe_callB call_abs (by rfl) T.f_abs (by decide +kernel) (pa_cons (pv 1) pa_nil)))))) (pss_cons (ps_par (i := 3) (j := 4) (by rfl) sc_lowest.nd rfl rfl (by decide) rfl rfl (pa_cons (pe_callB call_abs (by rfl) T.f_abs (by decide +kernel) (pa_cons (pv 0) pa_nil)) (pa_cons (pe_callB call_abs (by rfl) T.f_abs (by decide +kernel) (pa_cons (pv 1) pa_nil)) pa_nil)) (by rfl)) (pss_cons (ps_while PassesOwn.never (pt_cmpR op_ne (pv 4) pe_int (nomark _)) (pss_one (ps_par (i := 3) (j := 4) (by rfl) sc_lowest.nd rfl rfl (by decide) rfl rfl (pa_cons (pv 4) (pa_cons (pe_op op_modN (pv 3) (pv 4)) pa_nil)) (by rfl)))) (pss_one (ps_ret (pe_tup (pa_cons (pe_op op_fdivW (pe_op op_mulW (pv 2) (pv 0)) (pv 3)) (pa_cons (pe_op op_fdivW (pe_callB call_abs (by rfl) T.f_abs (by decide +kernel) (pa_cons (pv 1) pa_nil)) (pv 3)) pa_nil)))))))), ?_⟩
  obtain ⟨x, y, rfl, t, b, rfl, rfl, hb, zb, zt, hQ⟩ := h
  refine ⟨_, rfl, _, rfl, _, rfl, _, _, rfl, rfl, ?_, ?_⟩
  · rw [abs_if]
    exact wide_div (by omega) (by rw [Int.natAbs_natCast]; exact zb) (by decide) (by decide)
  rw [abs_if]
  simp only [sign_div hb]
  refine ⟨_, rfl, _, rfl, _, rfl, _, rfl, _, _, rfl, ?_⟩
  rw [abs_if, abs_if]
  refine while_by (fun σ H' => ∃ u v : Nat, σ = [some (.int t), some (.int b), some (.int b.sign), some (.int u), some (.int v)] ∧ H' = H ∧ Nat.gcd u v = Nat.gcd t.natAbs b.natAbs) (fun σ _ => slotI σ 4) ⟨_, _, rfl, rfl, rfl⟩ (fun σ H' w0 => ?_) (fun σ H' Q1 Q2 hm hq => ?_)
  · obtain ⟨u, v, rfl, rfl, hg⟩ := w0
    refine ⟨_, rfl, rfl, _, rfl, ?_⟩
    by_cases hv : v = 0
    · subst hv
      have e : (!decide (V.int ((0 : Nat) : Int) = V.int 0)) = false := by decide
      rw [e]
      refine iteF ?_
      have hgu : u = Nat.gcd t.natAbs b.natAbs := by rw [← hg, Nat.gcd_zero_right]
      have hpos : 0 < u := by
        rw [hgu]
        exact Nat.gcd_pos_of_pos_right _ (by omega)
      have hle : u ≤ b.natAbs := by
        rw [hgu]
        exact Nat.gcd_le_right _ (by omega)
      have hz : (u : Int).natAbs < 2 ^ 9000 := by
        rw [Int.natAbs_natCast]
        exact Nat.lt_of_le_of_lt hle zb
      have hsg : b.sign.natAbs < 2 ^ 2 := by
        rcases Int.lt_trichotomy b 0 with z | z | z
        · rw [Int.sign_eq_neg_one_of_neg z]
          decide
        · exact absurd z hb
        · rw [Int.sign_eq_one_of_pos z]
          decide
      refine ⟨_, rfl, _, rfl, _, _, rfl, rfl, wide_mul hsg zt (by decide) (by decide) (by decide), _, rfl, _, _, rfl, rfl, wide_div (by omega) hz (by decide) (by decide), ?_⟩
      refine ⟨_, rfl, _, rfl, _, rfl, _, _, rfl, rfl, wide_div (by omega) hz (by decide) (by decide), ?_⟩
      rw [abs_if]
      refine ⟨by show 2 ≤ sizeLine; decide, fun p hp => hQ _ p (Ext.upd hp) hp ?_⟩
      rw [upd_same]
      have e1 : (u : Int) = (Int.gcd b t : Int) := by
        rw [hgu, Nat.gcd_comm]
        rfl
      unfold lowM
      rw [e1]
      rfl
    · have e : (!decide (V.int ((v : Nat) : Int) = V.int 0)) = true := by
        rw [decide_eq_false]
        · rfl
        · intro z
          have := V.int.inj z
          omega
      rw [e]
      refine iteT ?_
      refine ⟨_, rfl, _, rfl, _, rfl, _, _, rfl, rfl, by omega, _, _, rfl, ⟨v, u % v, ?_, rfl, ?_⟩, ?_⟩
      · exact congrArg (fun z => [some (V.int t), some (V.int b), some (V.int b.sign), some (V.int ↑v), some (V.int z)]) (fmod_nat u v)
      · rw [← hg, Nat.gcd_comm v, ← Nat.gcd_rec, Nat.gcd_comm]
      · show ((u : Int).fmod (v : Int)).natAbs < (v : Int).natAbs
        rw [fmod_nat, Int.natAbs_natCast, Int.natAbs_natCast]
        exact Nat.mod_lt _ (by omega)
  · obtain ⟨v0, e1, e2, k, e3, q⟩ := hq
    exact ⟨v0, e1, e2, k, e3, hm _ _ q⟩
theorem c_lowest (T : Tx K mg) : C8.Cal P w K mg base 1 "lowest" (S2 k_lowest) [] := cal_of T.F_lowest T.m_lowest sc_lowest (fun _ _ _ _ _ _ us hl => match us, hl with | [_, _], _ => rfl) len2 (b_lowest T)
end
end FS
set_option Elab.async false
set_option linter.all false
set_option maxRecDepth 100000
set_option maxHeartbeats 4000000
namespace FS
open PySem PySem.Spec PyProof.Rows L2
section
variable {P : Program} {w : World} {K : PySem.W.Frag} {mg : PySem.Str → Option Value} {base : Heap}
/-- a field of the prime p at a -/
def FieldAt (K : PySem.W.Frag) (H : Hp) (a : Addr) (p : Int) : Prop := ∃ dx, H a = some (.ins (He.ga K "Field") dx [("own_prime", .int p)])
theorem FieldAt.ext {H H' : Hp} {a : Addr} {p : Int} (h : FieldAt K H a p) (e : Ext H H') : FieldAt K H' a p := let ⟨dx, h⟩ := h; ⟨dx, e _ _ h⟩
/-- a number -/
def NumV (K : PySem.W.Frag) (φ : Fd) (H : Hp) (v : V) (x : φ.car) : Prop := ∃ a, v = .ref a ∧ SqT K H a [.int (φ.enc x).1, .int (φ.enc x).2]
theorem NumV.ext {φ : Fd} {H H' : Hp} {v : V} {x : φ.car} (h : NumV K φ H v x) (e : Ext H H') : NumV K φ H' v x := let ⟨a, b, c⟩ := h; ⟨a, b, c.ext e⟩
def Small (φ : Fd) (x : φ.car) : Prop := (φ.enc x).1.natAbs < 2 ^ 4400 ∧ (φ.enc x).2.natAbs < 2 ^ 4400
def RetN (K : PySem.W.Frag) (φ : Fd) (H : Hp) (x : φ.car) (Q : VK) : Prop := ∀ H' v, Ext H H' → NumV K φ H' v x → Q v H'

def k_Field_init (K : PySem.W.Frag) : K2 := fun x y H Q => ∃ a dx p, x = .ref a ∧ y = .int p ∧ H a = some (.ins (He.ga K "Field") dx []) ∧ (p = 0 ∨ p ∈ primes) ∧ ∀ H1, Ext H H1 → Q .non (upd H1 a (.ins (He.ga K "Field") dx [("own_prime", .int p)]))

abbrev N_Field_init : List PySem.Str := ["self", "prime"]
theorem sc_Field_init : FnScope N_Field_init ["self", "prime"] (defScope s_Field_init) := ⟨rfl, rfl, rfl, by decide +kernel, rfl, by decide +kernel, by decide +kernel⟩
theorem b_Field_init (T : Tx K mg) : Body P w K mg base 2 "Field.__init__" (defBody s_Field_init) (defScope s_Field_init) N_Field_init (S2 (k_Field_init K)) := fun f cdv A outer s H vs Q E hcd hr h => by
  refine ⟨_, (pss_cons (ps_if (PW.pt (pw_or (pt_not (pt_val (C8.pe_c (c_is_whole T) hr (by decide) rfl (pa_cons (pv 1) pa_nil)))) (pw_or1 (PW.pt (pw_and (pt_cmpR op_ne (pv 1) pe_int (nomark _)) (pw_and1 (pt_not (pt_val (C8.pe_c (c_is_prime T) hr (by decide) rfl (pa_cons (pv 1) pa_nil)))))))))) (pss_one ps_never) pss_nil) (pss_one (ps_fld (pv 0) (pv 1) rfl))), ?_⟩
  obtain ⟨x, y, rfl, a, dx, p, rfl, rfl, ha, hp, hQ⟩ := h
  refine ⟨_, rfl, _, rfl, p, rfl, _, rfl, iteF ?_⟩
  have fin : ∀ H1, Ext H H1 → tNext { nx := sFld K (tVar 0) (tVar 1) "own_prime" { nx := fun x H' => Q V.non H', rt := Q }, rt := Q } (L2.start N_Field_init [V.ref a, V.int p]) H1 := fun H1 e1 =>
    ⟨_, rfl, _, rfl, _, _, _, _, rfl, e1 _ _ ha, T.c_Field, T.n_Field_own_prime, by show (0 : Nat) < 1000; decide, hQ H1 e1⟩
  refine ⟨_, rfl, rfl, _, rfl, ?_⟩
  rcases hp with z | z
  · subst z
    exact fin H Ext.rfl'
  · have e : (!decide (V.int p = V.int 0)) = true := by
      rw [decide_eq_false]
      · rfl
      · intro q
        have := primes_bd z
        have := V.int.inj q
        omega
    rw [e]
    refine iteT ⟨_, rfl, _, rfl, p, rfl, z, fun H1 e1 => ⟨_, rfl, iteF (fin H1 e1)⟩⟩
theorem c_Field_init (T : Tx K mg) : C8.Mak P w K mg base 3 "Field" (He.ga K "Field") (S2 (k_Field_init K)) [] := mak_ofD 2 1 T.F_Field_init (by simp) rfl T.m_Field T.k_Field sc_Field_init (fun Ta kV doc pm an cdv ct us its hl hi => match us, its, hl, hi with | [_, _], [_], _, _ => ⟨_, rfl, rfl⟩) len2 (b_Field_init T)

def k_Field_eq (K : PySem.W.Frag) : Addr → Addr → Hp → Prop := fun a b H => ∃ p, FieldAt K H a p ∧ FieldAt K H b p

abbrev N_Field_eq : List PySem.Str := ["self", "other"]
theorem sc_Field_eq : FnScope N_Field_eq ["self", "other"] (defScope s_Field_eq) := ⟨rfl, rfl, rfl, by decide +kernel, rfl, by decide +kernel, by decide +kernel⟩
theorem b_Field_eq (T : Tx K mg) : Body P w K mg base 0 "Field.__eq__" (defBody s_Field_eq) (defScope s_Field_eq) N_Field_eq (spEq (k_Field_eq K)) := fun f cdv A outer s H vs Q E hcd hr h => by
  refine ⟨_, (pss_one (ps_ret (pe_and (pe_callB call_isi (by rfl) T.f_isinstance (by decide +kernel) (pa_cons (pv 1) (pa_cons (pe_glob (v := .ref (He.ga K "Field")) rfl T.m_Field rfl) pa_nil))) (pe_one (pe_cmpR op_eq (pe_fld (pv 0) rfl) (pe_fld (pv 1) rfl) (nomark _)))))), ?_⟩
  obtain ⟨a, b, rfl, ⟨p, ⟨dx, ha⟩, ⟨dy, hb⟩⟩, hQ⟩ := h
  refine ⟨_, rfl, _, _, _, _, true, rfl, .own _, T.ty_Field hb, kit_self, true, rfl, iteT ?_⟩
  refine ⟨_, rfl, _, _, _, _, _, rfl, ha, T.c_Field, T.n_Field_own_prime, rfl, _, rfl, _, _, _, _, _, rfl, hb, T.c_Field, T.n_Field_own_prime, rfl, rfl, ?_⟩
  rw [decide_eq_true rfl]
  exact hQ H Ext.rfl'
theorem c_Field_eq (T : Tx K mg) : C8.Met P w K mg base 1 (He.ga K "Field") "__eq__" (spEq (k_Field_eq K)) [] := met_of T.F_Field_eq T.c_Field T.me_Field_eq sc_Field_eq (fun _ _ _ _ _ _ us hl => match us, hl with | [_, _], _ => rfl) (fun vs H Q E h => by obtain ⟨a, b, rfl, _⟩ := h; rfl) (b_Field_eq T)

def k_Field_prime (K : PySem.W.Frag) : K1 := fun x H Q => ∃ a p, x = .ref a ∧ FieldAt K H a p ∧ Q (.int p) H

abbrev N_Field_prime : List PySem.Str := ["self"]
theorem sc_Field_prime : FnScope N_Field_prime ["self"] (defScope s_Field_prime) := ⟨rfl, rfl, rfl, by decide +kernel, rfl, by decide +kernel, by decide +kernel⟩
theorem b_Field_prime (T : Tx K mg) : Body P w K mg base 0 "Field.prime" (defBody s_Field_prime) (defScope s_Field_prime) N_Field_prime (S1 (k_Field_prime K)) := fun f cdv A outer s H vs Q E hcd hr h => by
  refine ⟨_, (pss_one (ps_ret (pe_fld (pv 0) rfl))), ?_⟩
  obtain ⟨x, rfl, a, p, rfl, ⟨dx, ha⟩, hQ⟩ := h
  exact ⟨_, rfl, _, _, _, _, _, rfl, ha, T.c_Field, T.n_Field_own_prime, rfl, hQ⟩
theorem c_Field_prime (T : Tx K mg) : C8.Met P w K mg base 1 (He.ga K "Field") "prime" (S1 (k_Field_prime K)) [] := met_of T.F_Field_prime T.c_Field T.me_Field_prime sc_Field_prime (fun _ _ _ _ _ _ us hl => match us, hl with | [_], _ => rfl) len1 (b_Field_prime T)

def invL (p b : Int) (n : Nat) : List Int := ((List.range n).map fun i : Nat => (1 + (i : Int))).filter fun k => decide (b * k % p = 1)
theorem invL_succ (p b : Int) (n : Nat) : invL p b (n + 1) = invL p b n ++ (if b * (1 + (n : Int)) % p = 1 then [1 + (n : Int)] else []) := by
  unfold invL
  rw [List.range_succ, List.map_append, List.filter_append]
  congr 1
  by_cases h : b * (1 + (n : Int)) % p = 1 <;> simp [h]
theorem invL_ne {p : Int} (h : p ∈ primes) : ∀ c : Nat, c < p.toNat → c ≠ 0 → (invL p c (p - 1).toNat).isEmpty = false := by
  have all : ∀ q ∈ primes, ∀ c : Nat, c < q.toNat → c ≠ 0 → (invL q c (q - 1).toNat).isEmpty = false := by decide +kernel
  exact all p h
theorem invL_mem {p b k : Int} {n : Nat} (h : k ∈ invL p b n) : 1 ≤ k ∧ k ≤ n := by
  obtain ⟨h1, _⟩ := List.mem_filter.mp h
  obtain ⟨i, hi, rfl⟩ := List.mem_map.mp h1
  have := List.mem_range.mp hi
  omega
theorem inv_head {p b : Int} (hp : p ∈ primes) (h0 : 0 < b) (h1 : b < p) : ∃ l, invL p b (p - 1).toNat = invM p b :: l ∧ 1 ≤ invM p b ∧ invM p b ≤ 97 := by
  have hne := invL_ne hp b.toNat (by omega) (by omega)
  have e : ((b.toNat : Nat) : Int) = b := by omega
  rw [e] at hne
  cases hL : invL p b (p - 1).toNat with
  | nil => rw [hL] at hne; cases hne
  | cons k l =>
    have hk : invM p b = k := by
      show (invL p b (p - 1).toNat).headD 0 = k
      rw [hL]
      rfl
    rw [hk]
    have hm := invL_mem (p := p) (b := b) (n := (p - 1).toNat) (k := k) (by rw [hL]; exact List.mem_cons_self)
    have := primes_bd hp
    exact ⟨l, rfl, by omega, by omega⟩
def k_Field_made (K : PySem.W.Frag) : K3 := fun x y z H Q => ∃ a p t b, x = .ref a ∧ y = .int t ∧ z = .int b ∧ FieldAt K H a p ∧ (p = 0 ∨ p ∈ primes) ∧ Good p b ∧ b.natAbs < 2 ^ 9000 ∧ t.natAbs < 2 ^ 20000 ∧ RetT H [.int (madeM p t b).1, .int (madeM p t b).2] Q
theorem good0 {b : Int} (h : Good 0 b) : b ≠ 0 := by
  unfold Good at h
  rw [if_pos rfl] at h
  exact h
theorem goodp {p b : Int} (hp : p ≠ 0) (h : Good p b) : b % p ≠ 0 := by
  unfold Good at h
  rw [if_neg hp] at h
  exact h

abbrev N_Field_made : List PySem.Str := ["self", "top", "bottom", "k"]
theorem sc_Field_made : FnScope N_Field_made ["self", "top", "bottom"] (defScope s_Field_made) := ⟨rfl, rfl, rfl, by decide +kernel, rfl, by decide +kernel, by decide +kernel⟩
theorem b_Field_made (T : Tx K mg) : Body P w K mg base 1 "Field.made" (defBody s_Field_made) (defScope s_Field_made) N_Field_made (S3 (k_Field_made K)) := fun f cdv A outer s H vs Q E hcd hr h => by
  refine ⟨_, (pss_cons (ps_if (PW.pt (pw_or (pt_not (pt_val (C8.pe_c (c_is_whole T) hr (by decide) rfl (pa_cons (pv 1) pa_nil)))) (pw_or1 (pt_not (pt_val (C8.pe_c (c_is_whole T) hr (by decide) rfl (pa_cons (pv 2) pa_nil))))))) (pss_one ps_never) pss_nil) (pss_cons (ps_if (pt_cmpR op_eq (pe_fld (pv 0) rfl) pe_int (nomark _)) (pss_one (ps_ret (C8.pe_c (c_lowest T) hr (by decide) rfl (pa_cons (pv 1) (pa_cons (pv 2) pa_nil))))) pss_nil) (pss_cons (ps_aug (i := 2) sc_Field_made.nd rfl (by first | exact Or.inl rfl | exact Or.inr rfl) (pe_fld (pv 0) rfl) iop_mod) (pss_cons (ps_if (pt_cmpR op_eq (pv 2) pe_int (nomark _)) (pss_one ps_never) pss_nil) (pss_cons (ps_if (pt_cmpR op_ne (pv 2) pe_int (nomark _)) (pss_one (ps_aug (i := 1) sc_Field_made.nd rfl (by first | exact Or.inl rfl | exact Or.inr rfl) (pe_ix ix_list (pe_lc (own := [("k", 3)]) (g := (gName 3)) (tt := (tTest (tOp rEq (tOp rModN (tOp rMulW (tVar 2) (tVar 3)) (tFld K (tVar 0) "own_prime")) (tC (.int 1))))) (te := (tVar 3)) rfl sc_Field_made.nd (pi_range2 rfl T.f_range (pa_cons pe_int (pa_cons (pe_fld (pv 0) rfl) pa_nil))) (blkOk_by (N := N_Field_made) (sc := defScope s_Field_made) (by decide +kernel)) (fun _ _ _ _ _ => (pg_name (i := 3) sc_Field_made.nd rfl (by first | exact Or.inl rfl | exact Or.inr rfl))) (fun _ _ _ _ _ => (pts_one (pt_cmpR op_eq (pe_op op_modN (pe_op op_mulW (pv 2) (pv 3)) (pe_fld (pv 0) rfl)) pe_int (nomark _)))) (fun _ _ _ _ _ => (pv 3))) pe_int (fun _ _ => rfl)) iop_mul)) pss_nil) (pss_one (ps_ret (pe_tup (pa_cons (pe_op op_modN (pv 1) (pe_fld (pv 0) rfl)) (pa_cons pe_int pa_nil)))))))))), ?_⟩
  obtain ⟨x, y, z, rfl, a, p, t, b, rfl, rfl, rfl, ⟨dx, ha⟩, hp, hg, zb, zt, hQ⟩ := h
  refine ⟨_, rfl, _, rfl, t, rfl, _, rfl, iteF ?_⟩
  refine ⟨_, rfl, _, rfl, b, rfl, _, rfl, iteF ?_⟩
  refine ⟨_, rfl, _, _, _, _, _, rfl, ha, T.c_Field, T.n_Field_own_prime, rfl, rfl, _, rfl, ?_⟩
  by_cases h0 : p = 0
  · subst h0
    rw [decide_eq_true rfl]
    refine iteT ?_
    exact ⟨_, rfl, _, rfl, _, _, rfl, t, b, rfl, rfl, good0 hg, zb, zt, hQ⟩
  · have hpp : p ∈ primes := hp.resolve_left h0
    have hb := primes_bd hpp
    have e : decide (V.int p = V.int 0) = false := decide_eq_false fun q => h0 (V.int.inj q)
    rw [e]
    refine iteF ?_
    refine ⟨_, rfl, _, rfl, _, _, _, _, _, rfl, ha, T.c_Field, T.n_Field_own_prime, rfl, _, _, rfl, rfl, (by omega), ?_⟩
    have nz := goodp h0 hg
    have c0 : 0 < b % p := by
      have := Int.emod_nonneg b h0
      omega
    have c1 : b % p < p := Int.emod_lt_of_pos b (by omega)
    obtain ⟨l, hl, k1, k2⟩ := inv_head hpp c0 c1
    refine ⟨_, rfl, rfl, _, rfl, ?_⟩
    have e2 : decide (V.int (b % p) = V.int 0) = false := decide_eq_false fun q => nz (V.int.inj q)
    rw [e2]
    refine iteF ?_
    have fin : ∀ H1 t', Ext H H1 → t' % p = t * invM p (b % p) % p → tRet (tTup (tCons (tOp rModN (tVar 1) (tFld K (tVar 0) "own_prime")) (tCons (tC (.int 1)) tNil))) { nx := fun x H' => Q V.non H', rt := Q }
        [some (.ref a), some (.int t'), some (.int (b % p)), none] H1 := fun H1 t' e1 et => by
      refine ⟨_, rfl, _, rfl, _, _, _, _, _, rfl, e1 _ _ ha, T.c_Field, T.n_Field_own_prime, rfl, _, _, rfl, rfl, h0, by show 2 ≤ sizeLine; decide, fun q hq => ?_⟩
      refine hQ _ q (e1.upd' hq) (by
        cases z : H q with
        | none => rfl
        | some o => rw [e1 _ _ z] at hq; cases hq) ?_
      rw [upd_same]
      have e3 : madeM p t b = (t * invM p (b % p) % p, 1) := by
        unfold madeM
        rw [if_neg h0]
      have e4 : t'.fmod p = t * invM p (b % p) % p := by
        rw [Int.fmod_eq_emod_of_nonneg _ (by omega)]
        exact et
      rw [e3]
      show some (HO.tup [V.int (t'.fmod p), V.int 1]) = _
      rw [e4]
    refine ⟨_, rfl, rfl, _, rfl, ?_⟩
    by_cases h1 : b % p = 1
    · have e5 : (!decide (V.int (b % p) = V.int 1)) = false := by rw [h1]; rfl
      rw [e5]
      refine iteF ?_
      refine fin H t Ext.rfl' ?_
      rw [h1, Fd.inv_one hpp, Int.mul_one]
    · have e5 : (!decide (V.int (b % p) = V.int 1)) = true := by
        rw [decide_eq_false fun q => h1 (V.int.inj q)]
        rfl
      rw [e5]
      refine iteT ?_
      refine ⟨_, rfl, _, rfl, _, _, _, _, _, rfl, ha, T.c_Field, T.n_Field_own_prime, rfl, 1, p, rfl, (by omega), fun D hD => ?_⟩
      refine lc_range (lo := 1) (n := (p - 1).toNat) (fun i H' => H' = upd H D (.lst ((invL p (b % p) i).map V.int))) rfl (fun i H' hi e => ?_) fun H' e => ?_
      · subst e
        have ha' : upd H D (.lst ((invL p (b % p) i).map V.int)) a = some (.ins (He.ga K "Field") dx [("own_prime", .int p)]) := by
          rw [upd_ne (ne_of_none ha hD)]
          exact ha
        refine ⟨rfl, _, rfl, _, rfl, _, _, rfl, rfl, wide_mul (a := 64) (b := 64) (by omega) (by omega) (by decide) (by decide) (by decide), _, rfl, _, _, _, _, _, rfl, ha', T.c_Field, T.n_Field_own_prime, rfl, _, _, rfl, rfl, h0, rfl, _, rfl, ?_⟩
        have e6 : ((b % p) * (1 + (i : Int))).fmod p = (b % p) * (1 + (i : Int)) % p := Int.fmod_eq_emod_of_nonneg _ (by omega)
        simp only [e6]
        by_cases h2 : (b % p) * (1 + (i : Int)) % p = 1
        · have es : invL p (b % p) (i + 1) = invL p (b % p) i ++ [1 + (i : Int)] := by rw [invL_succ, if_pos h2]
          rw [h2, decide_eq_true rfl]
          refine iteT ⟨_, rfl, _, upd_same, ?_, ?_⟩
          · have : (invL p (b % p) i).length ≤ i := by
              unfold invL
              exact Nat.le_trans (List.length_filter_le _ _) (by simp)
            rw [List.length_map]
            exact small1000 (by omega)
          · rw [upd_upd, es, List.map_append]
            rfl
        · have es : invL p (b % p) (i + 1) = invL p (b % p) i := by rw [invL_succ, if_neg h2, List.append_nil]
          have e7 : decide (V.int ((b % p) * (1 + (i : Int)) % p) = V.int 1) = false := decide_eq_false fun q => h2 (V.int.inj q)
          rw [e7, es]
          exact iteF rfl
      · subst e
        have hk : (-(2 ^ 64) < invM p (b % p)) ∧ invM p (b % p) < 2 ^ 64 := ⟨by omega, by omega⟩
        refine ⟨_, _, _, V.int (invM p (b % p)), rfl, rfl, SqL.of upd_same, ?_, _, _, rfl, rfl, .inr hk, ?_⟩
        · rw [hl]
          exact atI_nat (j := 0) rfl
        · exact fin _ _ (Ext.upd hD) rfl
theorem c_Field_made (T : Tx K mg) : C8.Met P w K mg base 2 (He.ga K "Field") "made" (S3 (k_Field_made K)) [] := met_ofD 3 1 T.F_Field_made (by simp) rfl T.c_Field T.me_Field_made sc_Field_made (fun Ta kV doc pm an cdv ct us its hl hi => match us, its, hl, hi with | [_, _, _], [_], _, _ => ⟨_, rfl, rfl⟩) len3 (b_Field_made T)

theorem c_Field_made2 (T : Tx K mg) : C8.Met P w K mg base 2 (He.ga K "Field") "made" (S3 (k_Field_made K)) [.int 1] := met_ofD 2 0 T.F_Field_made (by simp) rfl T.c_Field T.me_Field_made sc_Field_made (fun Ta kV doc pm an cdv ct us its hl hi => match us, its, hl, hi with | [_, _], [_], _, _ => ⟨_, rfl, rfl⟩) len3 (b_Field_made T)
end
end FS
set_option Elab.async false
set_option linter.all false
set_option maxRecDepth 100000
set_option maxHeartbeats 4000000
namespace FS
open PySem PySem.Spec PyProof.Rows L2
section
variable {P : Program} {w : World} {K : PySem.W.Frag} {mg : PySem.Str → Option Value} {base : Heap}
theorem mul44 {i j : Int} (h1 : i.natAbs < 2 ^ 4400) (h2 : j.natAbs < 2 ^ 4400) : CMulW i j := wide_mul h1 h2 (by decide) (by decide) (by decide)
theorem bd_mul {i j : Int} (h1 : i.natAbs < 2 ^ 4400) (h2 : j.natAbs < 2 ^ 4400) : (i * j).natAbs < 2 ^ 8800 := wide_lt h1 h2
theorem bd_bot {i j : Int} (h1 : i.natAbs < 2 ^ 4400) (h2 : j.natAbs < 2 ^ 4400) : (i * j).natAbs < 2 ^ 9000 := Nat.lt_of_lt_of_le (bd_mul h1 h2) (Nat.pow_le_pow_right (by decide) (by decide))
theorem bd_top {i j : Int} (h1 : i.natAbs < 2 ^ 4400) (h2 : j.natAbs < 2 ^ 4400) : (i * j).natAbs < 2 ^ 20000 := Nat.lt_of_lt_of_le (bd_mul h1 h2) (Nat.pow_le_pow_right (by decide) (by decide))
theorem pow_step : (2 : Nat) ^ 8800 + 2 ^ 8800 ≤ 2 ^ 20000 := by
  have h : (2 : Nat) ^ 8800 + 2 ^ 8800 = 2 ^ 8801 := by rw [Nat.pow_succ 2 8800]; exact (Nat.mul_two _).symm
  rw [h]
  exact Nat.pow_le_pow_right (by decide) (by decide)
theorem bd_add {i j : Int} (h1 : i.natAbs < 2 ^ 8800) (h2 : j.natAbs < 2 ^ 8800) : (i + j).natAbs < 2 ^ 20000 := Nat.lt_of_lt_of_le (Nat.lt_of_le_of_lt (Int.natAbs_add_le i j) (Nat.add_lt_add h1 h2)) pow_step
theorem bd_sub {i j : Int} (h1 : i.natAbs < 2 ^ 8800) (h2 : j.natAbs < 2 ^ 8800) : (i - j).natAbs < 2 ^ 20000 := by
  rw [Int.sub_eq_add_neg]
  exact bd_add h1 (by rw [Int.natAbs_neg]; exact h2)
theorem fd_prime (φ : Fd) : φ.p = 0 ∨ φ.p ∈ primes := φ.prime
/-- a result by made -/
theorem ret_made {φ : Fd} {t b : Int} {x : φ.car} {H : Hp} {Q : VK} (e : madeM φ.p t b = φ.enc x) (h : RetN K φ H x Q) : RetT H [.int (madeM φ.p t b).1, .int (madeM φ.p t b).2] Q := fun H' a e1 _ h2 => by
  rw [e] at h2
  exact h H' (.ref a) e1 ⟨a, rfl, SqT.of h2⟩

def k_Field_plus (K : PySem.W.Frag) : K3 := fun x y z H Q => ∃ (φ : Fd) (s t : φ.car) (a : Addr), x = .ref a ∧ FieldAt K H a φ.p ∧ NumV K φ H y s ∧ NumV K φ H z t ∧ Small φ s ∧ Small φ t ∧ RetN K φ H (s + t) Q

abbrev N_Field_plus : List PySem.Str := ["self", "one", "other"]
theorem sc_Field_plus : FnScope N_Field_plus ["self", "one", "other"] (defScope s_Field_plus) := ⟨rfl, rfl, rfl, by decide +kernel, rfl, by decide +kernel, by decide +kernel⟩
theorem b_Field_plus (T : Tx K mg) : Body P w K mg base 2 "Field.plus" (defBody s_Field_plus) (defScope s_Field_plus) N_Field_plus (S3 (k_Field_plus K)) := fun f cdv A outer s H vs Q E hcd hr h => by
  refine ⟨_, (pss_one (ps_ret (C8.pe_mt (c_Field_made T) hr (by decide) (pv 0) (pa_cons (pe_op op_add (pe_op op_mulW (pe_ix ix_tup (pv 1) pe_int (fun _ _ => rfl)) (pe_ix ix_tup (pv 2) pe_int (fun _ _ => rfl))) (pe_op op_mulW (pe_ix ix_tup (pv 2) pe_int (fun _ _ => rfl)) (pe_ix ix_tup (pv 1) pe_int (fun _ _ => rfl)))) (pa_cons (pe_op op_mulW (pe_ix ix_tup (pv 1) pe_int (fun _ _ => rfl)) (pe_ix ix_tup (pv 2) pe_int (fun _ _ => rfl))) pa_nil))))), ?_⟩
  obtain ⟨x, y, z, rfl, φ, s, t, a, rfl, ⟨dx, ha⟩, ⟨a1, rfl, h1⟩, ⟨a2, rfl, h2⟩, s1, s2, hQ⟩ := h
  obtain ⟨em, eb⟩ := Fd.add_made s t
  exact ⟨_, rfl, a, dx, _, rfl, ha, rfl, _, rfl, a1, _, _, _, rfl, rfl, h1, atI_nat (j := 0) rfl, _, rfl, a2, _, _, _, rfl, rfl, h2, atI_nat (j := 1) rfl, _, _, rfl, rfl, mul44 s1.1 s2.2, _, rfl, a2, _, _, _, rfl, rfl, h2, atI_nat (j := 0) rfl, _, rfl, a1, _, _, _, rfl, rfl, h1, atI_nat (j := 1) rfl, _, _, rfl, rfl, mul44 s2.1 s1.2, _, _, rfl, rfl, _, rfl, a1, _, _, _, rfl, rfl, h1, atI_nat (j := 1) rfl, _, rfl, a2, _, _, _, rfl, rfl, h2, atI_nat (j := 1) rfl, _, _, rfl, rfl, mul44 s1.2 s2.2, _, _, _, rfl, a, φ.p, _, _, rfl, rfl, rfl, ⟨dx, ha⟩, fd_prime φ, (φ.good _).mpr eb, bd_bot s1.2 s2.2, bd_add (bd_mul s1.1 s2.2) (bd_mul s2.1 s1.2), ret_made em hQ⟩
theorem c_Field_plus (T : Tx K mg) : C8.Met P w K mg base 3 (He.ga K "Field") "plus" (S3 (k_Field_plus K)) [] := met_of T.F_Field_plus T.c_Field T.me_Field_plus sc_Field_plus (fun _ _ _ _ _ _ us hl => match us, hl with | [_, _, _], _ => rfl) len3 (b_Field_plus T)

def k_Field_minus (K : PySem.W.Frag) : K3 := fun x y z H Q => ∃ (φ : Fd) (s t : φ.car) (a : Addr), x = .ref a ∧ FieldAt K H a φ.p ∧ NumV K φ H y s ∧ NumV K φ H z t ∧ Small φ s ∧ Small φ t ∧ RetN K φ H (s - t) Q

abbrev N_Field_minus : List PySem.Str := ["self", "one", "other"]
theorem sc_Field_minus : FnScope N_Field_minus ["self", "one", "other"] (defScope s_Field_minus) := ⟨rfl, rfl, rfl, by decide +kernel, rfl, by decide +kernel, by decide +kernel⟩
theorem b_Field_minus (T : Tx K mg) : Body P w K mg base 2 "Field.minus" (defBody s_Field_minus) (defScope s_Field_minus) N_Field_minus (S3 (k_Field_minus K)) := fun f cdv A outer s H vs Q E hcd hr h => by
  refine ⟨_, (pss_one (ps_ret (C8.pe_mt (c_Field_made T) hr (by decide) (pv 0) (pa_cons (pe_op op_sub (pe_op op_mulW (pe_ix ix_tup (pv 1) pe_int (fun _ _ => rfl)) (pe_ix ix_tup (pv 2) pe_int (fun _ _ => rfl))) (pe_op op_mulW (pe_ix ix_tup (pv 2) pe_int (fun _ _ => rfl)) (pe_ix ix_tup (pv 1) pe_int (fun _ _ => rfl)))) (pa_cons (pe_op op_mulW (pe_ix ix_tup (pv 1) pe_int (fun _ _ => rfl)) (pe_ix ix_tup (pv 2) pe_int (fun _ _ => rfl))) pa_nil))))), ?_⟩
  obtain ⟨x, y, z, rfl, φ, s, t, a, rfl, ⟨dx, ha⟩, ⟨a1, rfl, h1⟩, ⟨a2, rfl, h2⟩, s1, s2, hQ⟩ := h
  obtain ⟨em, eb⟩ := Fd.sub_made s t
  exact ⟨_, rfl, a, dx, _, rfl, ha, rfl, _, rfl, a1, _, _, _, rfl, rfl, h1, atI_nat (j := 0) rfl, _, rfl, a2, _, _, _, rfl, rfl, h2, atI_nat (j := 1) rfl, _, _, rfl, rfl, mul44 s1.1 s2.2, _, rfl, a2, _, _, _, rfl, rfl, h2, atI_nat (j := 0) rfl, _, rfl, a1, _, _, _, rfl, rfl, h1, atI_nat (j := 1) rfl, _, _, rfl, rfl, mul44 s2.1 s1.2, _, _, rfl, rfl, _, rfl, a1, _, _, _, rfl, rfl, h1, atI_nat (j := 1) rfl, _, rfl, a2, _, _, _, rfl, rfl, h2, atI_nat (j := 1) rfl, _, _, rfl, rfl, mul44 s1.2 s2.2, _, _, _, rfl, a, φ.p, _, _, rfl, rfl, rfl, ⟨dx, ha⟩, fd_prime φ, (φ.good _).mpr eb, bd_bot s1.2 s2.2, bd_sub (bd_mul s1.1 s2.2) (bd_mul s2.1 s1.2), ret_made em hQ⟩
theorem c_Field_minus (T : Tx K mg) : C8.Met P w K mg base 3 (He.ga K "Field") "minus" (S3 (k_Field_minus K)) [] := met_of T.F_Field_minus T.c_Field T.me_Field_minus sc_Field_minus (fun _ _ _ _ _ _ us hl => match us, hl with | [_, _, _], _ => rfl) len3 (b_Field_minus T)

def k_Field_times (K : PySem.W.Frag) : K3 := fun x y z H Q => ∃ (φ : Fd) (s t : φ.car) (a : Addr), x = .ref a ∧ FieldAt K H a φ.p ∧ NumV K φ H y s ∧ NumV K φ H z t ∧ Small φ s ∧ Small φ t ∧ RetN K φ H (s * t) Q

abbrev N_Field_times : List PySem.Str := ["self", "one", "other"]
theorem sc_Field_times : FnScope N_Field_times ["self", "one", "other"] (defScope s_Field_times) := ⟨rfl, rfl, rfl, by decide +kernel, rfl, by decide +kernel, by decide +kernel⟩
theorem b_Field_times (T : Tx K mg) : Body P w K mg base 2 "Field.times" (defBody s_Field_times) (defScope s_Field_times) N_Field_times (S3 (k_Field_times K)) := fun f cdv A outer s H vs Q E hcd hr h => by
  refine ⟨_, (pss_one (ps_ret (C8.pe_mt (c_Field_made T) hr (by decide) (pv 0) (pa_cons (pe_op op_mulW (pe_ix ix_tup (pv 1) pe_int (fun _ _ => rfl)) (pe_ix ix_tup (pv 2) pe_int (fun _ _ => rfl))) (pa_cons (pe_op op_mulW (pe_ix ix_tup (pv 1) pe_int (fun _ _ => rfl)) (pe_ix ix_tup (pv 2) pe_int (fun _ _ => rfl))) pa_nil))))), ?_⟩
  obtain ⟨x, y, z, rfl, φ, s, t, a, rfl, ⟨dx, ha⟩, ⟨a1, rfl, h1⟩, ⟨a2, rfl, h2⟩, s1, s2, hQ⟩ := h
  obtain ⟨em, eb⟩ := Fd.mul_made s t
  exact ⟨_, rfl, a, dx, _, rfl, ha, rfl, _, rfl, a1, _, _, _, rfl, rfl, h1, atI_nat (j := 0) rfl, _, rfl, a2, _, _, _, rfl, rfl, h2, atI_nat (j := 0) rfl, _, _, rfl, rfl, mul44 s1.1 s2.1, _, rfl, a1, _, _, _, rfl, rfl, h1, atI_nat (j := 1) rfl, _, rfl, a2, _, _, _, rfl, rfl, h2, atI_nat (j := 1) rfl, _, _, rfl, rfl, mul44 s1.2 s2.2, _, _, _, rfl, a, φ.p, _, _, rfl, rfl, rfl, ⟨dx, ha⟩, fd_prime φ, (φ.good _).mpr eb, bd_bot s1.2 s2.2, bd_top s1.1 s2.1, ret_made em hQ⟩
theorem c_Field_times (T : Tx K mg) : C8.Met P w K mg base 3 (He.ga K "Field") "times" (S3 (k_Field_times K)) [] := met_of T.F_Field_times T.c_Field T.me_Field_times sc_Field_times (fun _ _ _ _ _ _ us hl => match us, hl with | [_, _, _], _ => rfl) len3 (b_Field_times T)

def k_Field_over (K : PySem.W.Frag) : K3 := fun x y z H Q => ∃ (φ : Fd) (s t : φ.car) (a : Addr), x = .ref a ∧ FieldAt K H a φ.p ∧ NumV K φ H y s ∧ NumV K φ H z t ∧ Small φ s ∧ Small φ t ∧ t ≠ 0 ∧ RetN K φ H (s / t) Q

abbrev N_Field_over : List PySem.Str := ["self", "one", "other"]
theorem sc_Field_over : FnScope N_Field_over ["self", "one", "other"] (defScope s_Field_over) := ⟨rfl, rfl, rfl, by decide +kernel, rfl, by decide +kernel, by decide +kernel⟩
theorem b_Field_over (T : Tx K mg) : Body P w K mg base 2 "Field.over" (defBody s_Field_over) (defScope s_Field_over) N_Field_over (S3 (k_Field_over K)) := fun f cdv A outer s H vs Q E hcd hr h => by
  refine ⟨_, (pss_one (ps_ret (C8.pe_mt (c_Field_made T) hr (by decide) (pv 0) (pa_cons (pe_op op_mulW (pe_ix ix_tup (pv 1) pe_int (fun _ _ => rfl)) (pe_ix ix_tup (pv 2) pe_int (fun _ _ => rfl))) (pa_cons (pe_op op_mulW (pe_ix ix_tup (pv 1) pe_int (fun _ _ => rfl)) (pe_ix ix_tup (pv 2) pe_int (fun _ _ => rfl))) pa_nil))))), ?_⟩
  obtain ⟨x, y, z, rfl, φ, s, t, a, rfl, ⟨dx, ha⟩, ⟨a1, rfl, h1⟩, ⟨a2, rfl, h2⟩, s1, s2, nz, hQ⟩ := h
  obtain ⟨em, eb⟩ := Fd.div_made s t nz
  exact ⟨_, rfl, a, dx, _, rfl, ha, rfl, _, rfl, a1, _, _, _, rfl, rfl, h1, atI_nat (j := 0) rfl, _, rfl, a2, _, _, _, rfl, rfl, h2, atI_nat (j := 1) rfl, _, _, rfl, rfl, mul44 s1.1 s2.2, _, rfl, a1, _, _, _, rfl, rfl, h1, atI_nat (j := 1) rfl, _, rfl, a2, _, _, _, rfl, rfl, h2, atI_nat (j := 0) rfl, _, _, rfl, rfl, mul44 s1.2 s2.1, _, _, _, rfl, a, φ.p, _, _, rfl, rfl, rfl, ⟨dx, ha⟩, fd_prime φ, (φ.good _).mpr eb, bd_bot s1.2 s2.1, bd_top s1.1 s2.2, ret_made em hQ⟩
theorem c_Field_over (T : Tx K mg) : C8.Met P w K mg base 3 (He.ga K "Field") "over" (S3 (k_Field_over K)) [] := met_of T.F_Field_over T.c_Field T.me_Field_over sc_Field_over (fun _ _ _ _ _ _ us hl => match us, hl with | [_, _, _], _ => rfl) len3 (b_Field_over T)
end
end FS
set_option Elab.async false
set_option linter.all false
set_option maxRecDepth 100000
set_option maxHeartbeats 4000000
namespace FS
open PySem PySem.Spec PyProof.Rows L2
/-! ### what stays while all but the tables stay -/
abbrev XN := LamX.ExtN
theorem sqt_xn {K : PySem.W.Frag} {H H' : Hp} {a : Addr} {xs : List V} (h : SqT K H a xs) (e : XN H H') : SqT K H' a xs :=
  h.elim (fun h => .inl (h.elim (fun h => .inl (e _ _ h (fun _ z => by cases z))) fun ⟨o, h⟩ => .inr ⟨o, e _ _ h (fun _ z => by cases z)⟩)) fun h => .inr h
theorem XN.ofX {H H' : Hp} (e : Ext H H') : XN H H' := LamX.ExtN.of e
section
variable {P : Program} {w : World} {K : PySem.W.Frag} {mg : PySem.Str → Option Value} {base : Heap}
theorem tyx_tup {H : Hp} {a : Addr} {xs : List V} (h : SqT K H a xs) : TyX K H (.ref a) (.type "tuple") := by
  rcases h with (h | ⟨o, h⟩) | ⟨o, its, n, h1, h2, _⟩
  · exact .base (.tup h)
  · exact .fTuple h
  · exact .kTuple h1 h2
/-- a product, by its rank -/
def PrV (K : PySem.W.Frag) (H : Hp) (v : V) (j : Nat) : Prop := ∃ a, v = .ref a ∧ SqT K H a ((prd j).map V.int)
theorem PrV.xn {H H' : Hp} {v : V} {j : Nat} (h : PrV K H v j) (e : XN H H') : PrV K H' v j := let ⟨a, b, c⟩ := h; ⟨a, b, sqt_xn c e⟩
theorem NumV.xn {φ : Fd} {H H' : Hp} {v : V} {x : φ.car} (h : NumV K φ H v x) (e : XN H H') : NumV K φ H' v x := let ⟨a, b, c⟩ := h; ⟨a, b, sqt_xn c e⟩
theorem FieldAt.xn {H H' : Hp} {a : Addr} {p : Int} (h : FieldAt K H a p) (e : XN H H') : FieldAt K H' a p := let ⟨dx, h⟩ := h; ⟨dx, e _ _ h (fun _ z => by cases z)⟩

theorem low_canon {t b : Int} (hb : 0 < b) (hg : Int.gcd b t = 1) : lowM t b = (t, b) := by
  unfold lowM
  rw [hg, Int.sign_eq_one_of_pos hb]
  show ((1 * t / ((1 : Nat) : Int)), ((b.natAbs / 1 : Nat) : Int)) = (t, b)
  rw [Int.one_mul, Nat.div_one]
  have : ((b.natAbs : Nat) : Int) = b := by omega
  rw [this]
  show (t / 1, b) = (t, b)
  rw [Int.ediv_one]
def k_Field_is_number (K : PySem.W.Frag) : K2 := fun x y H Q => ∃ (φ : Fd) (s : φ.car) (a : Addr), x = .ref a ∧ FieldAt K H a φ.p ∧ NumV K φ H y s ∧ Small φ s ∧ RetV H (.bl true) Q

abbrev N_Field_is_number : List PySem.Str := ["self", "thing"]
theorem sc_Field_is_number : FnScope N_Field_is_number ["self", "thing"] (defScope s_Field_is_number) := ⟨rfl, rfl, rfl, by decide +kernel, rfl, by decide +kernel, by decide +kernel⟩
theorem b_Field_is_number (T : Tx K mg) : Body P w K mg base 2 "Field.is_number" (defBody s_Field_is_number) (defScope s_Field_is_number) N_Field_is_number (S2 (k_Field_is_number K)) := fun f cdv A outer s H vs Q E hcd hr h => by
  refine ⟨_, (pss_cons (ps_if (PW.pt (pw_or (pt_not (pt_val (pe_callB call_isi (by rfl) T.f_isinstance (by decide +kernel) (pa_cons (pv 1) (pa_cons (pe_bltn (v := .ty "tuple") (by rfl) T.f_tuple (by decide +kernel) rfl) pa_nil))))) (pw_or (pt_cmpR op_ne (pe_callB call_len_seq (by rfl) T.f_len PySem.boot_len (pa_cons (pv 1) pa_nil)) pe_int (nomark _)) (pw_or (pt_not (pt_val (C8.pe_c (c_is_whole T) hr (by decide) rfl (pa_cons (pe_ix ix_tup (pv 1) pe_int (fun _ _ => rfl)) pa_nil)))) (pw_or1 (pt_not (pt_val (C8.pe_c (c_is_whole T) hr (by decide) rfl (pa_cons (pe_ix ix_tup (pv 1) pe_int (fun _ _ => rfl)) pa_nil))))))))) (pss_one (ps_ret pe_bl)) pss_nil) (pss_cons (ps_if (pt_cmpR op_ne (pe_fld (pv 0) rfl) pe_int (nomark _)) (pss_one (ps_ret (pe_and (pe_cmpR op_eq (pe_ix ix_tup (pv 1) pe_int (fun _ _ => rfl)) pe_int (nomark _)) (pe_one (pe_chain op_le op_lt pe_int (pe_ix ix_tup (pv 1) pe_int (fun _ _ => rfl)) (pe_fld (pv 0) rfl)))))) pss_nil) (pss_one (ps_ret (pe_and (pe_cmpR op_gt (pe_ix ix_tup (pv 1) pe_int (fun _ _ => rfl)) pe_int (nomark _)) (pe_one (pe_cmpR (op_eqD (hu64 hr)) (C8.pe_c (c_lowest T) hr (by decide) rfl (pa_cons (pe_ix ix_tup (pv 1) pe_int (fun _ _ => rfl)) (pa_cons (pe_ix ix_tup (pv 1) pe_int (fun _ _ => rfl)) pa_nil))) (pv 1) (nomark _)))))))), ?_⟩
  obtain ⟨x, y, rfl, φ, s, a, rfl, ⟨dx, ha⟩, ⟨b, rfl, hb⟩, sm, hQ⟩ := h
  refine ⟨_, rfl, _, _, _, _, true, rfl, .ty "tuple", tyx_tup hb, kit_self, _, rfl, iteF ?_⟩
  refine ⟨_, rfl, _, _, rfl, .inr hb, rfl, _, rfl, ?_⟩
  refine iteF ?_
  refine ⟨_, rfl, b, _, _, _, rfl, rfl, hb, atI_nat (j := 0) rfl, _, rfl, _, rfl, _, rfl, iteF ?_⟩
  refine ⟨_, rfl, b, _, _, _, rfl, rfl, hb, atI_nat (j := 1) rfl, _, rfl, _, rfl, _, rfl, iteF ?_⟩
  refine ⟨_, rfl, _, _, _, _, _, rfl, ha, T.c_Field, T.n_Field_own_prime, rfl, rfl, _, rfl, ?_⟩
  by_cases h0 : φ.p = 0
  · obtain ⟨c1, c2⟩ := φ.canon0 h0 s
    have e : (!decide (V.int φ.p = V.int 0)) = false := by rw [h0]; rfl
    rw [e]
    refine iteF ?_
    refine ⟨_, rfl, b, _, _, _, rfl, rfl, hb, atI_nat (j := 1) rfl, _, _, rfl, rfl, _, rfl, ?_⟩
    rw [decide_eq_true c1]
    refine iteT ?_
    refine ⟨_, rfl, b, _, _, _, rfl, rfl, hb, atI_nat (j := 0) rfl, _, rfl, b, _, _, _, rfl, rfl, hb, atI_nat (j := 1) rfl, _, _, rfl, _, _, rfl, rfl, by omega, Nat.lt_of_lt_of_le sm.2 (Nat.pow_le_pow_right (by decide) (by decide)), Nat.lt_of_lt_of_le sm.1 (Nat.pow_le_pow_right (by decide) (by decide)), fun H' q e1 _ hq => ?_⟩
    rw [low_canon c1 c2] at hq
    refine ⟨_, rfl, .tuple [.int (φ.enc s).1, .int (φ.enc s).2], .tuple [.int (φ.enc s).1, .int (φ.enc s).2], .tup (SqT.of hq) (.cons (.int _) (.cons (.int _) .nil)), .tup (hb.ext e1) (.cons (.int _) (.cons (.int _) .nil)), rfl, rfl, ?_⟩
    rw [SeqAt.eqv_refl]
    · exact hQ H' e1
    · rfl
  · obtain ⟨c1, c2, c3⟩ := φ.canonp h0 s
    have e : (!decide (V.int φ.p = V.int 0)) = true := by
      rw [decide_eq_false fun q => h0 (V.int.inj q)]
      rfl
    rw [e]
    refine iteT ?_
    refine ⟨_, rfl, b, _, _, _, rfl, rfl, hb, atI_nat (j := 1) rfl, rfl, _, rfl, ?_⟩
    rw [decide_eq_true (congrArg V.int c1)]
    refine iteT ?_
    refine ⟨_, rfl, b, _, _, _, rfl, rfl, hb, atI_nat (j := 0) rfl, _, _, rfl, rfl, _, rfl, ?_⟩
    rw [decide_eq_true c2]
    refine iteT ⟨_, rfl, _, _, _, _, _, rfl, ha, T.c_Field, T.n_Field_own_prime, rfl, _, _, rfl, rfl, ?_⟩
    show Q (.bl (decide ((φ.enc s).1 < φ.p))) H
    rw [decide_eq_true c3]
    exact hQ H Ext.rfl'
theorem c_Field_is_number (T : Tx K mg) : C8.Met P w K mg base 3 (He.ga K "Field") "is_number" (S2 (k_Field_is_number K)) [] := met_of T.F_Field_is_number T.c_Field T.me_Field_is_number sc_Field_is_number (fun _ _ _ _ _ _ us hl => match us, hl with | [_, _], _ => rfl) len2 (b_Field_is_number T)

def k_is_place : K1 := fun x H Q => ∃ i : Int, x = .int i ∧ 0 ≤ i ∧ i < 60 ∧ Q (.bl true) H

abbrev N_is_place : List PySem.Str := ["thing"]
theorem sc_is_place : FnScope N_is_place ["thing"] (defScope s_is_place) := ⟨rfl, rfl, rfl, by decide +kernel, rfl, by decide +kernel, by decide +kernel⟩
theorem b_is_place (T : Tx K mg) : Body P w K mg base 1 "is_place" (defBody s_is_place) (defScope s_is_place) N_is_place (S1 k_is_place) := fun f cdv A outer s H vs Q E hcd hr h => by
  refine ⟨_, (pss_one (ps_ret (pe_and (C8.pe_c (c_is_whole T) hr (by decide) rfl (pa_cons (pv 0) pa_nil)) (pe_one (pe_chain op_le op_lt pe_int (pv 0) (C8.pe_gc rfl T.i_MOST_PLACES_sums)))))), ?_⟩
  obtain ⟨x, rfl, i, rfl, h0, h1, hQ⟩ := h
  refine ⟨_, rfl, _, rfl, i, rfl, _, rfl, iteT ?_⟩
  refine ⟨_, rfl, _, _, rfl, rfl, _, rfl, ?_⟩
  rw [decide_eq_true h0]
  refine iteT ⟨_, _, rfl, rfl, ?_⟩
  show Q (.bl (decide (i < 60))) H
  rw [decide_eq_true h1]
  exact hQ
theorem c_is_place (T : Tx K mg) : C8.Cal P w K mg base 2 "is_place" (S1 k_is_place) [] := cal_of T.F_is_place T.m_is_place sc_is_place (fun _ _ _ _ _ _ us hl => match us, hl with | [_], _ => rfl) len1 (b_is_place T)

def lastOf (xs : List Int) (i : Nat) : Int := ((-1) :: xs).getD i 0
theorem prd_steps : ∀ j, j < 8 → ∀ i, i < 3 → ∀ k ∈ (prd j)[i]?, 0 ≤ k ∧ k < 60 ∧ lastOf (prd j) i < k ∧ lastOf (prd j) (i + 1) = k := by decide
def k_is_product (K : PySem.W.Frag) : K1 := fun x H Q => ∃ j, j < 8 ∧ PrV K H x j ∧ Q (.bl true) H

abbrev N_is_product : List PySem.Str := ["thing", "last", "place"]
theorem sc_is_product : FnScope N_is_product ["thing"] (defScope s_is_product) := ⟨rfl, rfl, rfl, by decide +kernel, rfl, by decide +kernel, by decide +kernel⟩
theorem b_is_product (T : Tx K mg) : Body P w K mg base 2 "is_product" (defBody s_is_product) (defScope s_is_product) N_is_product (S1 (k_is_product K)) := fun f cdv A outer s H vs Q E hcd hr h => by
  refine ⟨_, (pss_cons (ps_if (pt_not (pt_val (pe_callB call_isi (by rfl) T.f_isinstance (by decide +kernel) (pa_cons (pv 0) (pa_cons (pe_bltn (v := .ty "tuple") (by rfl) T.f_tuple (by decide +kernel) rfl) pa_nil))))) (pss_one (ps_ret pe_bl)) pss_nil) (pss_cons (ps_set (i := 1) sc_is_product.nd rfl (by first | exact Or.inl rfl | exact Or.inr rfl) (pe_un un_neg pe_int)) (pss_cons (ps_for PassesOwn.never rfl (pi_tup (pv 0)) (pg_name (i := 2) sc_is_product.nd rfl (by first | exact Or.inl rfl | exact Or.inr rfl)) (pss_cons (ps_if (PW.pt (pw_or (pt_not (pt_val (C8.pe_c (c_is_place T) hr (by decide) rfl (pa_cons (pv 2) pa_nil)))) (pw_or1 (pt_cmpR op_le (pv 2) (pv 1) (nomark _))))) (pss_one (ps_ret pe_bl)) pss_nil) (pss_one (ps_set (i := 1) sc_is_product.nd rfl (by first | exact Or.inl rfl | exact Or.inr rfl) (pv 2))))) (pss_one (ps_ret pe_bl))))), ?_⟩
  obtain ⟨x, rfl, j, hj, ⟨a, rfl, ha⟩, hQ⟩ := h
  refine ⟨_, rfl, _, _, _, _, true, rfl, .ty "tuple", tyx_tup ha, kit_self, _, rfl, iteF ?_⟩
  refine ⟨_, rfl, _, rfl, a, rfl, ⟨_, ha⟩, ?_⟩
  refine for_tup (K := K) (xs := (prd j).map V.int) (fun i σ H' => H' = H ∧ ∃ pl, σ = [some (.ref a), some (.int (lastOf (prd j) i)), pl]) ⟨rfl, _, rfl⟩ (fun i σ H' _ z => by rw [z.1]; exact ha) (fun i x σ H' hx z => ?_) fun σ H' z => ?_
  · obtain ⟨rfl, pl, rfl⟩ := z
    rw [List.getElem?_map] at hx
    obtain ⟨k, hk, rfl⟩ := Option.map_eq_some_iff.mp hx
    have hi : i < 3 := Nat.lt_of_lt_of_le (List.getElem?_eq_some_iff.mp hk).1 (prd_len j hj)
    obtain ⟨k0, k1, k2, k3⟩ := prd_steps j hj i hi k hk
    refine ⟨_, rfl, _, rfl, k, rfl, k0, k1, _, rfl, iteF ?_⟩
    refine ⟨_, rfl, _, rfl, _, _, rfl, rfl, _, rfl, ?_⟩
    rw [decide_eq_false (show ¬ (k ≤ lastOf (prd j) i) by omega)]
    refine iteF ⟨_, rfl, rfl, some (.int k), ?_⟩
    rw [k3]
    rfl
  · obtain ⟨rfl, pl, rfl⟩ := z
    exact hQ
theorem c_is_product (T : Tx K mg) : C8.Cal P w K mg base 3 "is_product" (S1 (k_is_product K)) [] := cal_of T.F_is_product T.m_is_product sc_is_product (fun _ _ _ _ _ _ us hl => match us, hl with | [_], _ => rfl) len1 (b_is_product T)

def k_joined_product (K : PySem.W.Frag) : K2 := fun x y H Q => ∃ i j, i < 8 ∧ j < 8 ∧ PrV K H x i ∧ PrV K H y j ∧ ∀ H' v, Ext H H' → PrV K H' v (jn i j) → Q v H'
theorem fresh_of {H H' : Hp} {p : Addr} (e : Ext H H') (h : H' p = none) : H p = none := by
  cases z : H p with
  | none => rfl
  | some o =>
    rw [e _ _ z] at h
    cases h

abbrev N_joined_product : List PySem.Str := ["one", "other"]
theorem sc_joined_product : FnScope N_joined_product ["one", "other"] (defScope s_joined_product) := ⟨rfl, rfl, rfl, by decide +kernel, rfl, by decide +kernel, by decide +kernel⟩
theorem b_joined_product (T : Tx K mg) : Body P w K mg base 0 "joined_product" (defBody s_joined_product) (defScope s_joined_product) N_joined_product (S2 (k_joined_product K)) := fun f cdv A outer s H vs Q E hcd hr h => by
  refine ⟨_, (pss_one (ps_ret (pe_callTy call_tuple_of (by rfl) T.f_tuple (by decide +kernel) (pa_cons (pe_callB (cr_sortedSet rfl) (by rfl) T.f_sorted (by decide +kernel) (pa_cons (pe_callTy (cr_setTup rfl) (by rfl) T.f_set (by decide +kernel) (pa_cons (pe_op op_catA (pv 0) (pv 1)) pa_nil)) pa_nil)) pa_nil)))), ?_⟩
  obtain ⟨x, y, rfl, i, j, hi, hj, ⟨a, rfl, ha⟩, ⟨b, rfl, hb⟩, hQ⟩ := h
  refine ⟨_, rfl, _, rfl, _, _, _, _, rfl, rfl, ha, hb, ?_, ?_⟩
  · rw [List.length_map, List.length_map]
    have h1 := prd_len i hi
    have h2 := prd_len j hj
    exact Nat.le_trans (by omega : _ ≤ 6) (by decide)
  have fin : ∀ (H1 : Hp) (c : Addr), Ext H H1 → SqT K H1 c ((prd i ++ prd j).map V.int) → rSetTup K w [.ref c] H1 (fun x H2 => rSortedSet w [x] H2 fun x H3 => rTupOf K [x] H3 Q) := fun H1 c e1 hc => by
    have hl : (prd i ++ prd j).length ≤ 6 := by
      rw [List.length_append]
      have h1 := prd_len i hi
      have h2 := prd_len j hj
      omega
    refine ⟨c, prd i ++ prd j, rfl, hc, by omega, fun p n hp hn => ?_⟩
    refine ⟨p, _, n, rfl, upd_same, by omega, fun ns q h1 h2 h3 hq => ?_⟩
    have en : ns = prd (jn i j) := jn_sorted hi hj h1 fun k => by rw [h2 k]; exact decide_eq_true_iff
    refine ⟨q, ns.map V.int, rfl, .inl ⟨SqL.of upd_same, fun r hr => ?_⟩⟩
    have e2 := (e1.upd' (o := SetO w p (fun k => decide (k ∈ prd i ++ prd j)) n) hp).upd' (o := .lst (ns.map V.int)) hq
    exact hQ _ _ (e2.upd' hr) ⟨r, rfl, SqT.of (by rw [← en]; exact upd_same)⟩
  refine ⟨fun e => ?_, fun n1 e => ?_, fun n1 n2 p hp => ?_⟩
  · refine fin H b Ext.rfl' ?_
    rw [List.map_append, e]
    exact hb
  · refine fin H a Ext.rfl' ?_
    rw [List.map_append, e, List.append_nil]
    exact ha
  · refine fin _ p (Ext.upd hp) ?_
    rw [List.map_append]
    exact SqT.of upd_same
theorem c_joined_product (T : Tx K mg) : C8.Cal P w K mg base 1 "joined_product" (S2 (k_joined_product K)) [] := cal_of T.F_joined_product T.m_joined_product sc_joined_product (fun _ _ _ _ _ _ us hl => match us, hl with | [_, _], _ => rfl) len2 (b_joined_product T)
end
end FS
set_option Elab.async false
set_option linter.all false
set_option maxRecDepth 100000
set_option maxHeartbeats 4000000
namespace FS
open PySem PySem.Spec PyProof.Rows L2
/-! ### keys -/
def nkP (j : Nat) : NK := .tup ((prd j).map .num)
/-- a mark: the wish's number and the product, as one number 8 n + j -/
def nkM (m : Nat) : NK := .tup [.num ((m / 8 : Nat) : Int), nkP (m % 8)]
theorem nkP_inj {i j : Nat} (hi : i < 8) (hj : j < 8) (h : nkP i = nkP j) : i = j := by
  have : ∀ i, i < 8 → ∀ j, j < 8 → nkP i = nkP j → i = j := by decide
  exact this i hi j hj h
theorem nkM_inj {i j : Nat} (h : nkM i = nkM j) : i = j := by
  unfold nkM at h
  injection h with h
  injection h with h1 h2
  injection h1 with h1
  injection h2 with h2 _
  have e1 : i / 8 = j / 8 := by omega
  have e2 : i % 8 = j % 8 := nkP_inj (Nat.mod_lt _ (by decide)) (Nat.mod_lt _ (by decide)) h2
  omega
theorem nkP_depth : ∀ j, j < 8 → (nkP j).depth ≤ 8 := by decide
theorem nkM_depth (m : Nat) : (nkM m).depth ≤ 8 := by
  have h : ∀ j, j < 8 → (nkP j).depth ≤ 1 := by decide
  have := h (m % 8) (Nat.mod_lt _ (by decide))
  show NestedKey.depthAll [.num ((m / 8 : Nat) : Int), nkP (m % 8)] + 1 ≤ 8
  show max 0 (max (nkP (m % 8)).depth 0) + 1 ≤ 8
  omega
theorem keysV_nums {K : PySem.W.Frag} {H : Hp} : ∀ ns : List Int, KeysV K H (ns.map V.int) (ns.map .num)
  | [] => .nil
  | n :: ns => .cons (.num n) (keysV_nums ns)
theorem keysV_back {K : PySem.W.Frag} {H : Hp} : ∀ {ns : List Int} {xs : List V}, KeysV K H xs (ns.map .num) → xs = ns.map V.int
  | [], _, h => by cases h; rfl
  | n :: ns, _, h => by
    cases h with
    | cons h1 h2 =>
      cases h1
      rw [keysV_back h2]
      rfl
theorem PrV.key {K : PySem.W.Frag} {H : Hp} {v : V} {j : Nat} (hj : j < 8) (h : PrV K H v j) : KeyR K H v (nkP j) := let ⟨a, e, s⟩ := h; ⟨a, e, .tup s (keysV_nums _), nkP_depth j hj⟩
theorem PrV.of_key {K : PySem.W.Frag} {H : Hp} {a : Addr} {j : Nat} (h : KeyV K H (.ref a) (nkP j)) : PrV K H (.ref a) j := by
  unfold nkP at h
  cases h with
  | tup s q =>
    rw [keysV_back q] at s
    exact ⟨a, rfl, s⟩
/-! ### terms -/
section
variable {K : PySem.W.Frag} {φ : Fd} {H H' : Hp}
def TermV (K : PySem.W.Frag) (φ : Fd) (H : Hp) (v : V) (t : Nat × φ.car) : Prop := ∃ a pv nv, v = .ref a ∧ SqT K H a [pv, nv] ∧ t.1 < 8 ∧ PrV K H pv t.1 ∧ NumV K φ H nv t.2
theorem TermV.xn {v : V} {t : Nat × φ.car} (h : TermV K φ H v t) (e : XN H H') : TermV K φ H' v t := let ⟨a, p, n, b, c, d, f, g⟩ := h; ⟨a, p, n, b, sqt_xn c e, d, f.xn e, g.xn e⟩
def Terms (K : PySem.W.Frag) (φ : Fd) (H : Hp) (l : Addr) (ts : List (Nat × φ.car)) : Prop := ∃ xs, SqL K H l xs ∧ Paired (TermV K φ H) xs ts
theorem paired_xn {xs : List V} {ts : List (Nat × φ.car)} (h : Paired (TermV K φ H) xs ts) (e : XN H H') : Paired (TermV K φ H') xs ts := Paired.mapP h fun _ _ q => q.xn e
theorem Terms.xn {l : Addr} {ts : List (Nat × φ.car)} (h : Terms K φ H l ts) (e : XN H H') : Terms K φ H' l ts := let ⟨xs, a, b⟩ := h; ⟨xs, sql_extN a e, paired_xn b e⟩
theorem paired_at {α β : Type} {F : α → β → Prop} {as : List α} {bs : List β} (h : Paired F as bs) {i : Nat} {a : α} (e : as[i]? = some a) : ∃ b, bs[i]? = some b ∧ F a b := by
  induction h generalizing i with
  | nil => simp at e
  | cons r t ih =>
    cases i with
    | zero =>
      simp at e
      subst e
      exact ⟨_, rfl, r⟩
    | succ i =>
      simp at e
      obtain ⟨b, h1, h2⟩ := ih e
      exact ⟨b, by simpa using h1, h2⟩
/-- the sum of the terms at a product -/
def coef {α : Type} [Lean.Grind.Field α] (ts : List (Nat × α)) (j : Nat) : α := ts.foldl (fun acc t => if t.1 = j then acc + t.2 else acc) 0
theorem coef_snoc {α : Type} [Lean.Grind.Field α] (ts : List (Nat × α)) (t : Nat × α) (j : Nat) : coef (ts ++ [t]) j = if t.1 = j then coef ts j + t.2 else coef ts j := by
  unfold coef
  rw [List.foldl_append]
  rfl
theorem tyx_lst {a : Addr} {xs : List V} (h : SqL K H a xs) : TyX K H (.ref a) (.type "list") := by
  rcases h with (h | ⟨o, h⟩) | ⟨o, its, n, h1, h2, _⟩
  · exact .base (.lst h)
  · exact .base (.frz h)
  · exact .kList h1 h2
/-! ### dicts by what they hold -/
/-- the pairs kvs: each key one of nk 0 .. nk (n - 1), its value the number that c tells -/
structure DictV (K : PySem.W.Frag) (φ : Fd) (H : Hp) (nk : Nat → NK) (n : Nat) (kvs : List (NK × V)) (c : Nat → Option φ.car) : Prop where
  nodup : (kvs.map (·.1)).Nodup
  dom : ∀ kv ∈ kvs, ∃ j, j < n ∧ kv.1 = nk j
  val : ∀ j, j < n → match c j with
    | none => valV kvs (nk j) = none
    | some x => ∃ v, valV kvs (nk j) = some v ∧ NumV K φ H v x
variable {nk : Nat → NK} {n : Nat} {kvs : List (NK × V)} {c : Nat → Option φ.car}
theorem DictV.xn (h : DictV K φ H nk n kvs c) (e : XN H H') : DictV K φ H' nk n kvs c := by
  refine ⟨h.nodup, h.dom, fun j hj => ?_⟩
  have q := h.val j hj
  cases z : c j with
  | none => rw [z] at q; exact q
  | some x =>
    rw [z] at q
    obtain ⟨v, q1, q2⟩ := q
    exact ⟨v, q1, q2.xn e⟩
theorem DictV.nil : DictV K φ H nk n [] (fun _ => none) := ⟨List.nodup_nil, (fun _ z => nomatch z), fun j _ => rfl⟩
theorem DictV.get (h : DictV K φ H nk n kvs c) {j : Nat} (hj : j < n) {x : φ.car} (e : c j = some x) : ∃ v, valV kvs (nk j) = some v ∧ NumV K φ H v x := by
  have q := h.val j hj
  rw [e] at q
  exact q
theorem DictV.get0 (h : DictV K φ H nk n kvs c) {j : Nat} (hj : j < n) (e : c j = none) : valV kvs (nk j) = none := by
  have q := h.val j hj
  rw [e] at q
  exact q
def updC {α : Type} (c : Nat → Option α) (j : Nat) (o : Option α) : Nat → Option α := fun i => if i = j then o else c i
theorem keys_put {κ : Type} [DecidableEq κ] (kvs : List (κ × V)) (k : κ) (v : V) : (putK kvs k v).map (·.1) = if kvs.any (fun kv => decide (kv.1 = k)) then kvs.map (·.1) else kvs.map (·.1) ++ [k] := by
  unfold putK
  by_cases h : kvs.any (fun kv => decide (kv.1 = k)) = true
  · rw [if_pos h, if_pos h, List.map_map]
    refine List.map_congr_left fun kv _ => ?_
    by_cases e : kv.1 = k <;> simp [e]
  · rw [if_neg h, if_neg h, List.map_append]
    rfl
theorem DictV.put (h : DictV K φ H nk n kvs c) (hinj : ∀ i j, i < n → j < n → nk i = nk j → i = j) {j : Nat} (hj : j < n) {v : V} {x : φ.car} (hv : NumV K φ H v x) : DictV K φ H nk n (putK kvs (nk j) v) (updC c j (some x)) := by
  refine ⟨?_, fun kv hkv => ?_, fun i hi => ?_⟩
  · rw [keys_put]
    split
    · exact h.nodup
    · rename_i z
      refine List.nodup_append.mpr ⟨h.nodup, by simp, fun a ha b hb => ?_⟩
      rw [List.mem_singleton.mp hb]
      intro e
      obtain ⟨kv, h1, h2⟩ := List.mem_map.mp ha
      exact z (List.any_eq_true.mpr ⟨kv, h1, decide_eq_true (h2.trans e)⟩)
  · have hm : kv.1 ∈ (putK kvs (nk j) v).map (·.1) := List.mem_map_of_mem hkv
    rw [keys_put] at hm
    split at hm
    · obtain ⟨u, h1, h2⟩ := List.mem_map.mp hm
      obtain ⟨i, a, b⟩ := h.dom u h1
      exact ⟨i, a, by rw [← h2, b]⟩
    · rcases List.mem_append.mp hm with hm | hm
      · obtain ⟨u, h1, h2⟩ := List.mem_map.mp hm
        obtain ⟨i, a, b⟩ := h.dom u h1
        exact ⟨i, a, by rw [← h2, b]⟩
      · exact ⟨j, hj, List.mem_singleton.mp hm⟩
  · rw [valV_put]
    unfold updC
    by_cases e : i = j
    · subst e
      rw [if_pos rfl, if_pos rfl]
      exact ⟨v, rfl, hv⟩
    · rw [if_neg e, if_neg fun z => e (hinj i j hi hj z)]
      exact h.val i hi
theorem valV_drop {κ : Type} [DecidableEq κ] (k i : κ) : ∀ kvs : List (κ × V), valV (dropK kvs k) i = if i = k then none else valV kvs i
  | [] => by simp [dropK, valV]
  | p :: r => by
    have ih := valV_drop k i r
    by_cases e : p.1 = k
    · have e1 : dropK (p :: r) k = dropK r k := by simp [dropK, List.filter_cons, e]
      rw [e1, ih]
      by_cases z : i = k
      · rw [if_pos z, if_pos z]
      · rw [if_neg z, if_neg z, valV_neg fun q => z (q.symm.trans e)]
    · have e1 : dropK (p :: r) k = p :: dropK r k := by simp [dropK, List.filter_cons, e]
      rw [e1]
      by_cases q : p.1 = i
      · rw [valV_pos q, valV_pos q, if_neg fun z => e (q.trans z)]
      · rw [valV_neg q, valV_neg q, ih]
theorem DictV.drop (h : DictV K φ H nk n kvs c) (hinj : ∀ i j, i < n → j < n → nk i = nk j → i = j) {j : Nat} (hj : j < n) : DictV K φ H nk n (dropK kvs (nk j)) (updC c j none) := by
  refine ⟨?_, fun kv hkv => h.dom kv (List.mem_filter.mp hkv).1, fun i hi => ?_⟩
  · exact List.Nodup.sublist (List.Sublist.map _ List.filter_sublist) h.nodup
  · rw [valV_drop]
    unfold updC
    by_cases e : i = j
    · subst e
      rw [if_pos rfl, if_pos rfl]
    · rw [if_neg e, if_neg fun z => e (hinj i j hi hj z)]
      exact h.val i hi
theorem valV_mem {κ : Type} [DecidableEq κ] : ∀ {kvs : List (κ × V)}, (kvs.map (·.1)).Nodup → ∀ kv ∈ kvs, valV kvs kv.1 = some kv.2
  | p :: r, hn, kv, hm => by
    obtain ⟨h1, h2⟩ := List.nodup_cons.mp (show (p.1 :: r.map (·.1)).Nodup from hn)
    rcases List.mem_cons.mp hm with e | e
    · rw [e]; exact valV_pos rfl
    · have : ¬ p.1 = kv.1 := fun z => h1 (by rw [z]; exact List.mem_map_of_mem e)
      rw [valV_neg this]
      exact valV_mem h2 kv e
/-- an entry: its key, its number -/
theorem DictV.entry (h : DictV K φ H nk n kvs c) {kv : NK × V} (hm : kv ∈ kvs) : ∃ j x, j < n ∧ kv.1 = nk j ∧ c j = some x ∧ NumV K φ H kv.2 x := by
  obtain ⟨j, hj, e⟩ := h.dom kv hm
  have q := h.val j hj
  have v := valV_mem h.nodup kv hm
  rw [e] at v
  cases z : c j with
  | none => rw [z] at q; rw [q] at v; cases v
  | some x =>
    rw [z] at q
    obtain ⟨u, q1, q2⟩ := q
    rw [v] at q1
    cases q1
    exact ⟨j, x, hj, e, z, q2⟩
theorem nodup_le {ks : List NK} {n : Nat} {nk : Nat → NK} (hn : ks.Nodup) (h : ∀ k ∈ ks, ∃ j, j < n ∧ k = nk j) : ks.length ≤ n := by
  have : ∀ (n : Nat) (ks : List NK), ks.Nodup → (∀ k ∈ ks, ∃ j, j < n ∧ k = nk j) → ks.length ≤ n := by
    intro n
    induction n with
    | zero =>
      intro ks _ h
      cases ks with
      | nil => exact Nat.le_refl _
      | cons k r =>
        obtain ⟨j, hj, _⟩ := h k List.mem_cons_self
        exact absurd hj (Nat.not_lt_zero _)
    | succ n ih =>
      intro ks hn h
      have h1 := ih (ks.filter fun k => decide (k ≠ nk n)) (List.Nodup.sublist List.filter_sublist hn) fun k hk => by
        obtain ⟨hk1, hk2⟩ := List.mem_filter.mp hk
        obtain ⟨j, hj, e⟩ := h k hk1
        refine ⟨j, ?_, e⟩
        have hne : k ≠ nk n := of_decide_eq_true hk2
        rcases Nat.lt_or_ge j n with z | z
        · exact z
        · have : j = n := by omega
          rw [this] at e
          exact absurd e hne
      have h2 : ks.length ≤ (ks.filter fun k => decide (k ≠ nk n)).length + 1 := by
        have cnt : ∀ l : List NK, l.Nodup → l.length ≤ (l.filter fun k => decide (k ≠ nk n)).length + 1 := by
          intro l
          induction l with
          | nil => intro _; simp
          | cons a r ihr =>
            intro hl
            obtain ⟨g1, g2⟩ := List.nodup_cons.mp hl
            by_cases e : a = nk n
            · have : r.filter (fun k => decide (k ≠ nk n)) = r := List.filter_eq_self.mpr fun k hk => decide_eq_true fun z => g1 (by rw [e, ← z]; exact hk)
              rw [List.filter_cons, if_neg (by simp [e]), this]
              exact Nat.le_refl _
            · rw [List.filter_cons, if_pos (by simp [e])]
              have := ihr g2
              simp only [List.length_cons]
              omega
        exact cnt ks hn
      omega
  exact this n ks hn h
theorem DictV.len (h : DictV K φ H nk n kvs c) : kvs.length ≤ n := by
  have := nodup_le (nk := nk) (n := n) h.nodup fun k hk => by
    obtain ⟨kv, h1, h2⟩ := List.mem_map.mp hk
    obtain ⟨j, a, b⟩ := h.dom kv h1
    exact ⟨j, a, by rw [← h2, b]⟩
  rwa [List.length_map] at this
/-- empty: nothing is held -/
theorem DictV.isEmpty (h : DictV K φ H nk n kvs c) : kvs.isEmpty = true ↔ ∀ j, j < n → c j = none := by
  constructor
  · intro e j hj
    have : kvs = [] := List.isEmpty_iff.mp e
    subst this
    have q := h.val j hj
    cases z : c j with
    | none => rfl
    | some x =>
      rw [z] at q
      obtain ⟨v, q1, _⟩ := q
      cases q1
  · intro hc
    cases kvs with
    | nil => rfl
    | cons p r =>
      obtain ⟨j, x, hj, _, e, _⟩ := h.entry (kv := p) List.mem_cons_self
      rw [hc j hj] at e
      cases e
end
end FS
set_option Elab.async false
set_option linter.all false
set_option maxRecDepth 100000
set_option maxHeartbeats 4000000
namespace FS
open PySem PySem.Spec PyProof.Rows L2
section
variable {P : Program} {w : World} {K : PySem.W.Frag} {mg : PySem.Str → Option Value} {base : Heap}

def k_look_at_terms (K : PySem.W.Frag) : K2 := fun x y H Q => ∃ (φ : Fd) (ts : List (Nat × φ.car)) (a l : Addr), x = .ref a ∧ y = .ref l ∧ FieldAt K H a φ.p ∧ Terms K φ H l ts ∧ (∀ t ∈ ts, Small φ t.2) ∧ RetV H .non Q

abbrev N_look_at_terms : List PySem.Str := ["field", "terms", "number", "term"]
theorem sc_look_at_terms : FnScope N_look_at_terms ["field", "terms"] (defScope s_look_at_terms) := ⟨rfl, rfl, rfl, by decide +kernel, rfl, by decide +kernel, by decide +kernel⟩
theorem b_look_at_terms (T : Tx K mg) : Body P w K mg base 3 "look_at_terms" (defBody s_look_at_terms) (defScope s_look_at_terms) N_look_at_terms (S2 (k_look_at_terms K)) := fun f cdv A outer s H vs Q E hcd hr h => by
  refine ⟨_, (pss_cons (ps_if (pt_not (pt_val (pe_callB call_isi (by rfl) T.f_isinstance (by decide +kernel) (pa_cons (pv 1) (pa_cons (pe_bltn (v := .ty "list") (by rfl) T.f_list (by decide +kernel) rfl) pa_nil))))) (pss_one ps_never) pss_nil) (pss_one (ps_for PassesOwn.never rfl (pi_enum rfl T.f_enumerate (pa_cons (pv 1) pa_nil)) (pg_tup rfl (pgs_cons (pg_name (i := 2) sc_look_at_terms.nd rfl (by first | exact Or.inl rfl | exact Or.inr rfl)) (pgs_cons (pg_name (i := 3) sc_look_at_terms.nd rfl (by first | exact Or.inl rfl | exact Or.inr rfl)) pgs_nil))) (pss_cons (ps_if (PW.pt (pw_or (pt_not (pt_val (pe_callB call_isi (by rfl) T.f_isinstance (by decide +kernel) (pa_cons (pv 3) (pa_cons (pe_bltn (v := .ty "tuple") (by rfl) T.f_tuple (by decide +kernel) rfl) pa_nil))))) (pw_or1 (pt_cmpR op_ne (pe_callB call_len_seq (by rfl) T.f_len PySem.boot_len (pa_cons (pv 3) pa_nil)) pe_int (nomark _))))) (pss_one ps_never) pss_nil) (pss_one (ps_if (PW.pt (pw_or (pt_not (pt_val (C8.pe_c (c_is_product T) hr (by decide) rfl (pa_cons (pe_ix ix_tup (pv 3) pe_int (fun _ _ => rfl)) pa_nil)))) (pw_or1 (pt_not (pt_val (C8.pe_mt (c_Field_is_number T) hr (by decide) (pv 0) (pa_cons (pe_ix ix_tup (pv 3) pe_int (fun _ _ => rfl)) pa_nil))))))) (pss_one ps_never) pss_nil)))))), ?_⟩
  obtain ⟨x, y, rfl, φ, ts, a, l, rfl, rfl, ha, ⟨xs, hl, hp⟩, sm, hQ⟩ := h
  refine ⟨_, rfl, _, _, _, _, true, rfl, .ty "list", tyx_lst hl, kit_self, _, rfl, iteF ?_⟩
  refine ⟨_, rfl, l, xs, rfl, hl, ?_⟩
  refine for_it walk_enum (fun i σ H' => Ext H H' ∧ ∃ p q, σ = [some (.ref a), some (.ref l), p, q]) ⟨Ext.rfl', _, _, rfl⟩ (fun i σ H' _ z => SqL.ext hl z.1) (fun i x σ H1 H2 hi z y => ?_) fun σ H' z => ?_
  · obtain ⟨e1, p, q, rfl⟩ := z
    obtain ⟨Tt, k, v, rfl, hT, rfl, ek, ev⟩ := y
    obtain ⟨t, ht, ⟨ta, pv, nv, rfl, h1, h2, h3, h4⟩⟩ := paired_at hp ev
    have e2 : Ext H (upd H1 Tt (.tup [k, .ref ta])) := e1.upd' hT
    have h1' := h1.ext e2
    refine ⟨Tt, _, rfl, SqT.of upd_same, rfl, _, _, rfl, _, _, rfl, rfl, ?_⟩
    refine ⟨_, rfl, _, _, _, _, true, rfl, .ty "tuple", tyx_tup h1', kit_self, _, rfl, iteF ?_⟩
    refine ⟨_, rfl, _, _, rfl, .inr h1', rfl, _, rfl, ?_⟩
    refine iteF ?_
    refine ⟨_, rfl, ta, _, _, _, rfl, rfl, h1', atI_nat (j := 0) rfl, _, rfl, t.1, h2, h3.xn (.ofX e2), _, rfl, iteF ?_⟩
    refine ⟨_, rfl, a, _, _, rfl, e2 _ _ ha.choose_spec, rfl, _, rfl, ta, _, _, _, rfl, rfl, h1', atI_nat (j := 1) rfl, _, _, rfl, φ, t.2, a, rfl, ha.ext e2, h4.ext e2, sm t (List.mem_of_getElem? ht), fun H3 e3 => ?_⟩
    exact ⟨_, rfl, iteF ⟨e2.trans e3, _, _, rfl⟩⟩
  · exact hQ H' z.1
theorem c_look_at_terms (T : Tx K mg) : C8.Cal P w K mg base 4 "look_at_terms" (S2 (k_look_at_terms K)) [] := cal_of T.F_look_at_terms T.m_look_at_terms sc_look_at_terms (fun _ _ _ _ _ _ us hl => match us, hl with | [_, _], _ => rfl) len2 (b_look_at_terms T)
end
end FS
set_option Elab.async false
set_option linter.all false
set_option maxRecDepth 100000
set_option maxHeartbeats 4000000
namespace FS
open PySem PySem.Spec PyProof.Rows L2
/-- the tables of code objects -/
def TbK (K : PySem.W.Frag) : List (Addr × PySem.Str) := [((He.cT K ("gathered", none)).2, (("gathered" : PySem.Str) ++ (".<locals>." : PySem.Str)) ++ ("<lambda>" : PySem.Str))]
def keyD (j : Nat) : PyData := .tuple [.int (prd j).length, .tuple ((prd j).map .int)]
theorem keyD_alike : ∀ i, i < 8 → ∀ j, j < 8 → PySem.W.alike (keyD i) (keyD j) = true := by decide +kernel
theorem keyD_depth : ∀ j, j < 8 → (keyD j).depth ≤ 8 := by decide +kernel
section
variable {P : Program} {w : World} {K : PySem.W.Frag} {mg : PySem.Str → Option Value} {base : Heap}
theorem dpAll_ints {H : Hp} : ∀ ns : List Int, DpAll K H (ns.map V.int) (ns.map .int)
  | [] => .nil
  | n :: ns => .cons (.int n) (dpAll_ints ns)
/-- rows: each product once, no noughts -/
def RowsAt (K : PySem.W.Frag) (φ : Fd) (H : Hp) (l : Addr) (c : Nat → φ.car) : Prop := ∃ ts, Terms K φ H l ts ∧ (ts.map (·.1)).Nodup ∧ (∀ t ∈ ts, t.2 ≠ 0) ∧ ∀ j, j < 8 → coef ts j = c j
theorem RowsAt.xn {φ : Fd} {H H' : Hp} {l : Addr} {c : Nat → φ.car} (h : RowsAt K φ H l c) (e : XN H H') : RowsAt K φ H' l c := let ⟨ts, a, b, d, f⟩ := h; ⟨ts, a.xn e, b, d, f⟩
def RowD (φ : Fd) (K : PySem.W.Frag) : V → PyData → Hp → Prop := fun v d H => ∃ t : Nat × φ.car, TermV K φ H v t ∧ d = keyD t.1
/-- the key of a value among the terms -/
def kdF {φ : Fd} (xs : List V) (ts : List (Nat × φ.car)) (v : V) : PyData := match (xs.zip ts).find? fun p => decide (p.1 = v) with
  | some p => keyD p.2.1
  | none => .none
theorem kdF_ok {φ : Fd} {H : Hp} {xs : List V} {ts : List (Nat × φ.car)} (h : Paired (TermV K φ H) xs ts) {v : V} (hv : v ∈ xs) : ∃ t, kdF xs ts v = keyD t.1 ∧ TermV K φ H v t := by
  unfold kdF
  induction h with
  | nil => cases hv
  | @cons a b as bs r q ih =>
    rw [List.zip_cons_cons, List.find?_cons]
    by_cases e : a = v
    · subst e
      rw [decide_eq_true rfl]
      exact ⟨b, rfl, r⟩
    · have : decide ((a, b).1 = v) = false := decide_eq_false e
      rw [this]
      rcases List.mem_cons.mp hv with z | z
      · exact absurd z.symm e
      · exact ih z
theorem ok_ofC {x qual : PySem.Str} {params : Arguments} {body : List Stmt} {scope : Scope} {at_ : PySem.Str × Option PySem.Str} {N ps : List PySem.Str} {k : Nat} {sp : Sp} {fd : FuncData} (F : FunD K x qual params body scope [] [] (He.fAd K at_) fd) (S : FnScope N ps scope) (len : ∀ vs H Q E, sp vs H Q E → vs.length = ps.length)
    (hb : ∀ (f : Addr) (cdv : Value) (A : Around) (outer : List Env) (s : Shared) (H : Hp) (vs : List V) (Q : VK) (E : XK), cdv = .ref (He.cT K at_).1 → Room k (A.deeper (envOfC qual scope s.heap.objs.size f cdv)) → sp vs H Q E →
      ∃ t, PSs (cxOf C8.CX0 P w K mg base N qual scope f cdv A outer s H E).nox body t ∧ t { nx := fun _ H' => Q .non H', rt := Q } (start N vs) H) : FnOk P w K mg base C8.CX0 (k + 1) (He.fAd K at_) fd ps sp := by
  obtain ⟨oc, od, dV, kV, doc, pm, an, cdv, ct, osl, rfl, lk, hcd, _, _⟩ := F.ex
  obtain ⟨c, ec⟩ := He.codeIn_ref hcd
  have e2 : He.codeOf K at_ = c := He.codeOf_eq lk ec
  refine fn_of lk hcd S len fun A outer s H vs Q E hr hsp => ?_
  obtain ⟨t, h, q⟩ := hb _ cdv A outer s H vs Q E (by rw [ec, ← e2]; rfl) hr hsp
  exact ⟨t, h.nox, q⟩
def k_gathered (P : Program) (w : World) (K : PySem.W.Frag) : K2 := fun x y H Q => ∃ (φ : Fd) (ts : List (Nat × φ.car)) (a l : Addr), x = .ref a ∧ y = .ref l ∧ FieldAt K H a φ.p ∧ Terms K φ H l ts ∧ LamX.Tabs (TbK K) H ∧ (∀ t ∈ ts, Small φ t.2) ∧ (∀ i j, Small φ (coef (ts.take i) j)) ∧
  ∀ H' p, XN H H' → LamX.Tabs (TbK K) H' → NewIn H p → (∃ ys, H' p = some (.lst ys)) → RowsAt K φ H' p (coef ts) → Q (.ref p) H'
theorem eqv_num (a b c d : Int) : PyData.eqv (.tuple [.int a, .int b]) (.tuple [.int c, .int d]) = (a == c && (b == d)) := by
  simp [PyData.eqv, PyData.eqvAll]
end
end FS
set_option Elab.async false
set_option linter.all false
set_option maxRecDepth 100000
set_option maxHeartbeats 4000000
namespace FS
open PySem PySem.Spec PyProof.Rows L2
theorem Tups.ofXN {H H' : Hp} (e : XN H H') : Tups H H' := ⟨fun b xs h => e _ _ h (fun _ z => by cases z), fun b o xs h => e _ _ h (fun _ z => by cases z)⟩
theorem Tups.ofX {H H' : Hp} (e : Ext H H') : Tups H H' := .ofXN (.ofX e)
section
variable {P : Program} {w : World} {K : PySem.W.Frag} {φ : Fd} {H H' : Hp}
theorem NumV.tp {v : V} {x : φ.car} (h : NumV K φ H v x) (e : Tups H H') : NumV K φ H' v x := let ⟨a, b, c⟩ := h; ⟨a, b, e.sqt c⟩
theorem PrV.tp {v : V} {j : Nat} (h : PrV K H v j) (e : Tups H H') : PrV K H' v j := let ⟨a, b, c⟩ := h; ⟨a, b, e.sqt c⟩
theorem TermV.tp {v : V} {t : Nat × φ.car} (h : TermV K φ H v t) (e : Tups H H') : TermV K φ H' v t := let ⟨a, p, n, b, c, d, f, g⟩ := h; ⟨a, p, n, b, e.sqt c, d, f.tp e, g.tp e⟩
theorem paired_tp {xs : List V} {ts : List (Nat × φ.car)} (h : Paired (TermV K φ H) xs ts) (e : Tups H H') : Paired (TermV K φ H') xs ts := Paired.mapP h fun _ _ q => q.tp e
theorem DictV.tp {nk : Nat → NK} {n : Nat} {kvs : List (NK × V)} {c : Nat → Option φ.car} (h : DictV K φ H nk n kvs c) (e : Tups H H') : DictV K φ H' nk n kvs c := by
  refine ⟨h.nodup, h.dom, fun j hj => ?_⟩
  have q := h.val j hj
  cases z : c j with
  | none => rw [z] at q; exact q
  | some x =>
    rw [z] at q
    obtain ⟨v, q1, q2⟩ := q
    exact ⟨v, q1, q2.tp e⟩
theorem DAt.xn {d : Addr} {kvs : List (NK × V)} (h : DAt P w K H d kvs) (e : XN H H') : DAt P w K H' d kvs := let ⟨xs, a, b, c⟩ := h; ⟨xs, a, e _ _ b (fun _ z => by cases z), c.mono (.ofXN e)⟩
theorem DR.xn {d : Addr} {kvs : List (NK × V)} (h : DR P w K H d kvs) (e : XN H H') : DR P w K H' d kvs := by
  obtain ⟨xs, a, b, c⟩ := h
  refine ⟨xs, a, ?_, c.mono (.ofXN e)⟩
  rcases b with b | ⟨o, b⟩
  · exact .inl (e _ _ b (fun _ z => by cases z))
  · exact .inr ⟨o, e _ _ b (fun _ z => by cases z)⟩
theorem KeyR.xn {y : V} {k : NK} (h : KeyR K H y k) (e : XN H H') : KeyR K H' y k := h.mono (.ofXN e)
/-- a write at what was not there at H -/
theorem _root_.L2.Ext.wr {H1 : Hp} {d : Addr} {o : HO} (e : Ext H H1) (hd : H d = none) : Ext H (upd H1 d o) := fun b u z => by
  rw [upd_ne (ne_of_none z hd)]
  exact e _ _ z
theorem XN.wr {H1 : Hp} {d : Addr} {o : HO} (e : XN H H1) (hd : NewIn H d) : XN H (upd H1 d o) := fun b u z nt => by
  rw [upd_ne (hd.ne z nt)]
  exact e _ _ z nt
/-- the i-th entry of a locked dict -/
theorem ent_at {nk : Nat → NK} {n : Nat} {xs : List Ent} {c : Nat → Option φ.car} (hc : DictV K φ H nk n (kvE xs) c) (ko : KeysOk K H xs) {i : Nat} {k : NK} {a : Addr} {v : V} (e : xs[i]? = some (k, a, v)) :
    ∃ j x, j < n ∧ k = nk j ∧ c j = some x ∧ NumV K φ H v x ∧ KeyV K H (.ref a) (nk j) := by
  have hm : (k, a, v) ∈ xs := List.mem_of_getElem? e
  have hm2 : (k, v) ∈ kvE xs := List.mem_map.mpr ⟨_, hm, rfl⟩
  obtain ⟨j, x, hj, ek, ec, nv⟩ := hc.entry hm2
  refine ⟨j, x, hj, ek, ec, nv, ?_⟩
  have := (ko _ hm).1
  rw [show k = nk j from ek] at this
  exact this
end
theorem t_yes {σ : L2.St} {H : Hp} {T F : Hp → Prop} (h : T H) : tYes σ H (fun b H3 => if b = true then T H3 else F H3) := by
  show (if true = true then T H else F H)
  rw [if_pos rfl]
  exact h
/-! ### rows -/
section
variable {α : Type} [Lean.Grind.Field α]
theorem coef_fold (ts : List (Nat × α)) (j : Nat) (a : α) : ts.foldl (fun acc t => if t.1 = j then acc + t.2 else acc) a = a + coef ts j := by
  unfold coef
  induction ts generalizing a with
  | nil =>
    show a = a + 0
    grind
  | cons t r ih =>
    rw [List.foldl_cons, List.foldl_cons, ih, ih (if t.1 = j then 0 + t.2 else 0)]
    by_cases e : t.1 = j
    · rw [if_pos e, if_pos e]
      grind
    · rw [if_neg e, if_neg e]
      grind
theorem coef_cons (t : Nat × α) (ts : List (Nat × α)) (j : Nat) : coef (t :: ts) j = (if t.1 = j then t.2 else 0) + coef ts j := by
  show (t :: ts).foldl _ _ = _
  rw [List.foldl_cons, coef_fold]
  by_cases e : t.1 = j
  · rw [if_pos e, if_pos e]
    grind
  · rw [if_neg e, if_neg e]
theorem coef_nil (j : Nat) : coef ([] : List (Nat × α)) j = 0 := rfl
theorem coef_none : ∀ {ts : List (Nat × α)} {j : Nat}, (∀ t ∈ ts, t.1 ≠ j) → coef ts j = 0
  | [], _, _ => rfl
  | t :: ts, j, h => by
    rw [coef_cons, if_neg (h t List.mem_cons_self), coef_none fun t ht => h t (List.mem_cons_of_mem _ ht)]
    grind
theorem coef_mem : ∀ {ts : List (Nat × α)} {j : Nat} {x : α}, (ts.map (·.1)).Nodup → (j, x) ∈ ts → coef ts j = x
  | t :: ts, j, x, hn, hm => by
    obtain ⟨h1, h2⟩ := List.nodup_cons.mp (show (t.1 :: ts.map (·.1)).Nodup from hn)
    rw [coef_cons]
    rcases List.mem_cons.mp hm with e | e
    · subst e
      rw [if_pos rfl, coef_none fun t ht z => h1 (by
        show j ∈ ts.map (·.1)
        rw [← z]
        exact List.mem_map_of_mem ht)]
      grind
    · have : ¬ t.1 = j := fun z => h1 (by rw [z]; exact List.mem_map.mpr ⟨_, e, rfl⟩)
      rw [if_neg this, coef_mem h2 e]
      grind
/-- rows that are the nonzero values of c -/
theorem coef_rows {ts : List (Nat × α)} {c : Nat → α} (hn : (ts.map (·.1)).Nodup) (h1 : ∀ t ∈ ts, c t.1 = t.2) (h2 : ∀ j, j < 8 → c j ≠ 0 → (j, c j) ∈ ts) : ∀ j, j < 8 → coef ts j = c j := by
  intro j hj
  by_cases e : ∃ t ∈ ts, t.1 = j
  · obtain ⟨t, ht, rfl⟩ := e
    rw [coef_mem hn (x := t.2) ht, h1 t ht]
  · rw [coef_none fun t ht z => e ⟨t, ht, z⟩]
    refine Classical.byContradiction fun z => e ⟨_, h2 j hj (fun q => z q.symm), rfl⟩
end
theorem perm_paired {α β : Type} {F : α → β → Prop} {as as' : List α} {bs : List β} (p : as'.Perm as) (h : Paired F as bs) : ∃ bs', bs'.Perm bs ∧ Paired F as' bs' := by
  have go : ∀ {as as' : List α}, as.Perm as' → ∀ {bs : List β}, Paired F as bs → ∃ bs', bs'.Perm bs ∧ Paired F as' bs' := by
    intro as as' p
    induction p with
    | nil => intro bs h; exact ⟨bs, .refl _, h⟩
    | cons x p ih =>
      intro bs h
      cases h with
      | cons r t =>
        obtain ⟨bs', p1, h1⟩ := ih t
        exact ⟨_ :: bs', p1.cons _, .cons r h1⟩
    | swap x y l =>
      intro bs h
      cases h with
      | cons r t =>
        cases t with
        | cons r2 t2 => exact ⟨_, List.Perm.swap _ _ _, .cons r2 (.cons r t2)⟩
    | trans p q ih1 ih2 =>
      intro bs h
      obtain ⟨b1, p1, h1⟩ := ih1 h
      obtain ⟨b2, p2, h2⟩ := ih2 h1
      exact ⟨b2, p2.trans p1, h2⟩
  exact go p.symm h
theorem Terms.perm {K : PySem.W.Frag} {φ : Fd} {H : Hp} {l : Addr} {xs ys : List V} {ts : List (Nat × φ.car)} (p : ys.Perm xs) (h : Paired (TermV K φ H) xs ts) (hl : SqL K H l ys) : ∃ ts', ts'.Perm ts ∧ Terms K φ H l ts' :=
  let ⟨ts', q, r⟩ := perm_paired p h
  ⟨ts', q, ys, hl, r⟩
end FS
set_option Elab.async false
set_option linter.all false
set_option maxRecDepth 100000
set_option maxHeartbeats 4000000
namespace FS
open PySem PySem.Spec PyProof.Rows L2
section
variable {P : Program} {w : World} {K : PySem.W.Frag} {mg : PySem.Str → Option Value} {base : Heap}

theorem lam_read {φ : Fd} {H1 : Hp} {x : V} {d : PyData} (hd : RowD φ K x d H1) : (tTup (tCons (tCB (rLenS K) (tCons (tOp (rIxT K) (tVar 0) (tC (.int 0))) tNil)) (tCons (tOp (rIxT K) (tVar 0) (tC (.int 0))) tNil))) [some x] H1 (fun k H' => Dp K H' k d ∧ Ext H1 H') := by
  obtain ⟨t, ⟨a, pv, nv, rfl, h1, h2, ⟨b, rfl, h3⟩, h4⟩, rfl⟩ := hd
  refine ⟨_, rfl, a, _, _, _, rfl, rfl, h1, atI_nat (j := 0) rfl, b, _, rfl, .inr h3, _, rfl, a, _, _, _, rfl, rfl, h1, atI_nat (j := 0) rfl, by show 2 ≤ sizeLine; decide, fun q hq => ⟨.tup (SqT.of upd_same) (.cons ?_ (.cons (.tup (h3.ext (Ext.upd hq)) (dpAll_ints _)) .nil)), Ext.upd hq⟩⟩
  rw [List.length_map]
  exact .int _

abbrev N_gathered : List PySem.Str := ["field", "terms", "found", "product", "number", "rows"]
theorem sc_gathered : FnScope N_gathered ["field", "terms"] (defScope s_gathered) := ⟨rfl, rfl, rfl, by decide +kernel, rfl, by decide +kernel, by decide +kernel⟩

/-- what the first i terms leave in the dict -/
def GatI (P : Program) (w : World) (K : PySem.W.Frag) (φ : Fd) (H : Hp) (d : Addr) (ts : List (Nat × φ.car)) (i : Nat) (H' : Hp) : Prop :=
  Ext H H' ∧ ∃ kvs c, DAt P w K H' d kvs ∧ DictV K φ H' nkP 8 kvs c ∧ ∀ j, j < 8 → (c j).getD 0 = coef (ts.take i) j
/-- the rows made of the first i entries -/
def RowI (K : PySem.W.Frag) (φ : Fd) (H H1 : Hp) (d D : Addr) (o : Obj) (u : HO) (xs : List Ent) (c : Nat → Option φ.car) (i : Nat) (H' : Hp) : Prop :=
  Ext H H' ∧ Tups H1 H' ∧ H' d = some (.frz o u) ∧ ∃ acc tsr, H' D = some (.lst acc) ∧ Paired (TermV K φ H') acc tsr ∧ (tsr.map (·.1)).Nodup ∧ (∀ t ∈ tsr, t.2 ≠ 0 ∧ c t.1 = some t.2 ∧ t.1 < 8 ∧ nkP t.1 ∈ (xs.take i).map (·.1)) ∧
    ∀ j x, j < 8 → c j = some x → x ≠ 0 → nkP j ∈ (xs.take i).map (·.1) → (j, x) ∈ tsr
theorem num_ne {φ : Fd} (x : φ.car) : PyData.eqv (.tuple [.int (φ.enc x).1, .int (φ.enc x).2]) (.tuple [.int 0, .int 1]) = decide (x = 0) := by
  rw [eqv_num]
  by_cases h : x = 0
  · rw [h, Fd.enc_zero, decide_eq_true rfl]
    rfl
  · rw [decide_eq_false h]
    have : (φ.enc x).1 ≠ 0 := fun z => h (Fd.top_zero.mp z)
    have e : ((φ.enc x).1 == 0) = false := by simpa using this
    rw [e]
    rfl

theorem b_gathered (T : Tx K mg) (TB : LamX.TabB base mg (He.cT K ("gathered", none)).1 (He.cT K ("gathered", none)).2) (f : Addr) (cdv : Value) (A : Around) (outer : List Env) (s : Shared) (H : Hp) (vs : List V) (Q : VK) (E : XK) (hcode : cdv = .ref (He.cT K ("gathered", none)).1) (hr : Room 3 (A.deeper (envOfC "gathered" (defScope s_gathered) s.heap.objs.size f cdv))) (h : S2 (k_gathered P w K) vs H Q E) :
    ∃ t, PSs (cxOf C8.CX0 P w K mg base N_gathered "gathered" (defScope s_gathered) f cdv A outer s H E).nox (defBody s_gathered) t ∧ t { nx := fun _ H' => Q .non H', rt := Q } (start N_gathered vs) H := by
  have hx := hx_of hr
  obtain ⟨x, y, rfl, φ, ts, a, l, rfl, rfl, ha, ⟨xs, hl, hp⟩, hTb, sm, sc, hQ⟩ := h
  refine ⟨_, (pss_cons (ps_set (i := 2) sc_gathered.nd rfl (by first | exact Or.inl rfl | exact Or.inr rfl) pe_xnew) (pss_cons (ps_for PassesOwn.never rfl (pi_list (pv 1)) (pg_tup rfl (pgs_cons (pg_name (i := 3) sc_gathered.nd rfl (by first | exact Or.inl rfl | exact Or.inr rfl)) (pgs_cons (pg_name (i := 4) sc_gathered.nd rfl (by first | exact Or.inl rfl | exact Or.inr rfl)) pgs_nil))) (pss_one (ps_xput hx (pv 2) (pv 3) (C8.pe_mt (c_Field_plus T) hr (by decide) (pv 0) (pa_cons (pe_xsetd hx (pv 2) (pv 3) (pe_glob (v := .ref (He.ga K "ZERO")) rfl T.m_ZERO rfl) ⟨rfl, rfl, rfl, rfl⟩) (pa_cons (pv 4) pa_nil))) (by rfl)))) (pss_cons (ps_lock (ps_setLc (i := 5) (own := [("product", 3), ("number", 4)]) (g := (gTup K 2 (gCons (gName 3) (gCons (gName 4) gNil)))) (tt := (tTest (tOp (rNeD K) (tVar 4) (tC (.ref (He.ga K "ZERO")))))) (te := (tTup (tCons (tVar 3) (tCons (tVar 4) tNil)))) rfl sc_gathered.nd rfl rfl (sw_true rfl rfl rfl (by decide +kernel)) (pi_xitems (pv 2)) (blkOk_by (N := N_gathered) (sc := defScope s_gathered) (by decide +kernel)) (fun _ _ _ _ _ => (pg_tup rfl (pgs_cons (pg_name (i := 3) sc_gathered.nd rfl (by first | exact Or.inl rfl | exact Or.inr rfl)) (pgs_cons (pg_name (i := 4) sc_gathered.nd rfl (by first | exact Or.inl rfl | exact Or.inr rfl)) pgs_nil)))) (fun _ _ _ _ _ => (pts_one (pt_cmpR (op_neD (hu64 hr)) (pv 4) (pe_glob (v := .ref (He.ga K "ZERO")) rfl T.m_ZERO rfl) (nomark _)))) (fun _ _ _ _ _ => (pe_tup (pa_cons (pv 3) (pa_cons (pv 4) pa_nil)))))) (pss_one (ps_ret (pe_sortLam (n := 0) (p := "row") (c := (He.cT K ("gathered", none)).1) (P := (He.cT K ("gathered", none)).2) (T := TbK K) (D := RowD φ K) TB hcode (List.mem_singleton.mpr rfl) (fun q hq _ => by rw [List.mem_singleton.mp hq]; rfl) ⟨rfl, rfl, rfl, by decide +kernel, rfl, by decide +kernel, by decide +kernel⟩ rfl (by decide +kernel) (fun _ _ _ _ => rfl)
    (fun lf lc B s1 H1 x d hr1 hd => ⟨_, (pe_tup (pa_cons (pe_callB call_len_seq (by rfl) T.f_len PySem.boot_len (pa_cons (pe_ix ix_tup (pv 0) pe_int (fun _ _ => rfl)) pa_nil)) (pa_cons (pe_ix ix_tup (pv 0) pe_int (fun _ _ => rfl)) pa_nil))), lam_read hd⟩) hr (by rfl) T.f_sorted (pa_cons (pv 5) pa_nil))))))), ?_⟩
  intro d ψ hd hD
  have hlen : xs.length = ts.length := Paired.length hp
  refine ⟨_, rfl, l, rfl, ⟨_, SqL.ext hl (Ext.upd hd)⟩, for_list (K := K) (xs := xs) (fun i σ H' => GatI P w K φ H d ts i H' ∧ ∃ p q, σ = [some (.ref a), some (.ref l), some (.ref d), p, q, none]) ⟨⟨Ext.upd hd, [], _, hD, DictV.nil, fun j _ => rfl⟩, _, _, rfl⟩ (fun i σ H' _ z => SqL.ext hl z.1.1) (fun i x σ H' hxi z => ?_) fun σ H' z => ?_⟩
  · obtain ⟨⟨e1, kvs, c, hDA, hDV, hc⟩, p, q, rfl⟩ := z
    obtain ⟨t, ht, ⟨ta, pv, nv, rfl, h1, h2, h3, h4⟩⟩ := paired_at hp hxi
    obtain ⟨b, rfl, h3'⟩ := id h3
    have hi : i < ts.length := (List.getElem?_eq_some_iff.mp ht).1
    have hkey : ∀ {H2 : Hp}, Ext H H2 → KeyR K H2 (.ref b) (nkP t.1) := fun e => PrV.key h2 (h3.xn (.ofX e))
    have tk : ts.take (i + 1) = ts.take i ++ [t] := by rw [List.take_add_one, ht]; rfl
    refine ⟨ta, _, rfl, h1.ext e1, rfl, _, _, rfl, _, _, rfl, rfl, ?_⟩
    have fin : ∀ (H2 : Hp) (v0 : V) (kvs2 : List (NK × V)) (c2 : Nat → Option φ.car), Ext H H2 → DAt P w K H2 d kvs2 → DictV K φ H2 nkP 8 kvs2 c2 → (∀ j, j < 8 → (c2 j).getD 0 = coef (ts.take i) j) → NumV K φ H2 v0 (coef (ts.take i) t.1) →
        S3 (k_Field_plus K) [.ref a, v0, nv] H2 (fun v H3 => (tVar 2) [some (.ref a), some (.ref l), some (.ref d), some (.ref b), some nv, none] H3 fun x H4 => (tVar 3) [some (.ref a), some (.ref l), some (.ref d), some (.ref b), some nv, none] H4 fun y H5 => ∃ d' kvs' k', x = .ref d' ∧ DAt P w K H5 d' kvs' ∧ KeyR K H5 y k' ∧ kvs'.length < sizeLine ∧
          DWr P w K H5 d' (putK kvs' k' v) (fun H6 => GatI P w K φ H d ts (i + 1) H6 ∧ ∃ p q, [some (.ref a), some (.ref l), some (.ref d), some (.ref b), some nv, none] = [some (.ref a), some (.ref l), some (.ref d), p, q, none])) C8.E0 := fun H2 v0 kvs2 c2 e2 hA2 hV2 hc2 hv0 => by
      refine ⟨_, _, _, rfl, φ, _, _, a, rfl, ha.ext e2, hv0, h4.ext e2, sc i t.1, sm t (List.mem_of_getElem? ht), fun H3 v3 e3 hv3 => ?_⟩
      have e23 := e2.trans e3
      refine ⟨_, rfl, _, rfl, d, kvs2, nkP t.1, rfl, hA2.xn (.ofX e3), hkey e23, Nat.lt_of_le_of_lt hV2.len (by decide), fun ψ2 hw => ⟨⟨e23.wr hd, _, updC c2 t.1 (some (coef (ts.take i) t.1 + t.2)), hw, ?_, fun j hj => ?_⟩, _, _, rfl⟩⟩
      · have tp : Tups H3 (upd H3 d (.ext ψ2)) := Tups.upd (hA2.xn (.ofX e3)).noTup
        exact ((hV2.xn (.ofX e3)).tp tp).put (fun i j hi hj => nkP_inj hi hj) h2 (hv3.tp tp)
      · rw [tk, coef_snoc]
        unfold updC
        by_cases e : j = t.1
        · rw [if_pos e, if_pos e.symm, e]
          rfl
        · rw [if_neg e, if_neg fun z => e z.symm]
          exact hc2 j hj
    refine ⟨_, rfl, a, _, _, rfl, e1 _ _ ha.choose_spec, rfl, _, rfl, d, rfl, ⟨kvs, hDA.r⟩, _, rfl, kvs, nkP t.1, hDA, hkey e1, Nat.lt_of_le_of_lt hDV.len (by decide), fun v hv => ?_, fun hn ψ2 hw => ?_⟩
    · refine ⟨_, rfl, fin H' v kvs c e1 hDA hDV hc ?_⟩
      cases z : c t.1 with
      | none =>
        rw [hDV.get0 h2 z] at hv
        cases hv
      | some x0 =>
        obtain ⟨u, g1, g2⟩ := hDV.get h2 z
        rw [g1] at hv
        cases hv
        have := hc t.1 h2
        rw [z] at this
        rw [← this]
        exact g2
    · have hcn : c t.1 = none := by
        cases z : c t.1 with
        | none => rfl
        | some x0 =>
          obtain ⟨u, g1, _⟩ := hDV.get h2 z
          rw [g1] at hn
          cases hn
      have tp : Tups H' (upd H' d (.ext ψ2)) := Tups.upd hDA.noTup
      have z0 : ∀ H2, NumV K φ H2 (.ref (He.ga K "ZERO")) 0 := fun H2 => ⟨_, rfl, by rw [Fd.enc_zero]; exact T.z0 H2⟩
      have c0 : coef (ts.take i) t.1 = 0 := by
        have := hc t.1 h2
        rw [hcn] at this
        exact this.symm
      refine ⟨_, rfl, fin _ _ _ (updC c t.1 (some 0)) (e1.wr hd) hw ((hDV.tp tp).put (fun i j hi hj => nkP_inj hi hj) h2 (z0 _)) (fun j hj => ?_) (by rw [c0]; exact z0 _)⟩
      unfold updC
      by_cases e : j = t.1
      · rw [if_pos e, e, c0]
        rfl
      · rw [if_neg e]
        exact hc j hj
  · obtain ⟨⟨e1, kvs, c, ⟨xsE, ek, hdd, ko⟩, hDV, hc⟩, p, q, rfl⟩ := z
    subst ek
    rw [hlen, List.take_length] at hc
    refine ⟨d, _, hdd, True.intro, fun od => ⟨_, rfl, d, od, xsE, rfl, upd_same, fun D hD2 => ?_⟩⟩
    have eF : Ext H (upd H' d (.frz od (DO P w d xsE))) := e1.wr hd
    have tpF : Tups H' (upd H' d (.frz od (DO P w d xsE))) := Tups.upd (noTup_do hdd)
    have hDV1 := hDV.tp tpF
    have ko1 := ko.mono tpF
    have hdD : d ≠ D := ne_of_none upd_same hD2
    have hD0 : H D = none := fresh_of eF hD2
    refine lc_it walk_xitems (RowI K φ H (upd H' d (.frz od (DO P w d xsE))) d D od (DO P w d xsE) xsE c) ?_ (fun i Hc _ z => z.2.2.1) (fun i x Hc Hc' hi z y => ?_) fun Hc z => ?_
    · refine ⟨eF.wr hD0, Tups.upd (noTup_none hD2), by rw [upd_ne hdD]; exact upd_same, [], [], upd_same, .nil, List.nodup_nil, (fun _ z => nomatch z), fun j x _ _ _ z => ?_⟩
      rw [List.take_zero] at z
      cases z
    · obtain ⟨z1, z2, z3, acc, tsr, z4, z5, z6, z7, z8⟩ := z
      obtain ⟨Tt, k, ka, v, ei, rfl, hT, rfl⟩ := y
      obtain ⟨j, xj, hj, rfl, ecj, nv, kv⟩ := ent_at hDV1 ko1 ei
      have tp2 : Tups Hc (upd Hc Tt (.tup [.ref ka, v])) := Tups.upd (noTup_none hT)
      have tp3 := z2.trans tp2
      obtain ⟨vb, rfl, hvb⟩ := nv.tp tp3
      have hpr := (PrV.of_key kv).tp tp3
      have tk : xsE.take (i + 1) = xsE.take i ++ [(nkP j, ka, .ref vb)] := by rw [List.take_add_one, ei]; rfl
      have hDT : D ≠ Tt := ne_of_none z4 hT
      have hdT : d ≠ Tt := ne_of_none z3 hT
      refine ⟨Tt, _, rfl, SqT.of upd_same, rfl, _, _, rfl, _, _, rfl, rfl, rfl, _, rfl, ?_⟩
      refine ⟨.tuple [.int (φ.enc xj).1, .int (φ.enc xj).2], .tuple [.int 0, .int 1], .tup hvb (.cons (.int _) (.cons (.int _) .nil)), .tup (T.z0 _) (.cons (.int _) (.cons (.int _) .nil)), rfl, rfl, _, rfl, ?_⟩
      rw [num_ne]
      by_cases hx0 : xj = 0
      · rw [decide_eq_true hx0]
        refine iteF ⟨z1.trans (Ext.upd hT), tp3, by rw [upd_ne hdT]; exact z3, acc, tsr, by rw [upd_ne hDT]; exact z4, paired_tp z5 tp2, z6, fun t ht => ?_, fun j' x' hj' ec' hne hm => ?_⟩
        · obtain ⟨g1, g2, g3, g4⟩ := z7 t ht
          refine ⟨g1, g2, g3, ?_⟩
          rw [tk, List.map_append]
          exact List.mem_append_left _ g4
        · rw [tk, List.map_append] at hm
          rcases List.mem_append.mp hm with hm | hm
          · exact z8 j' x' hj' ec' hne hm
          · have : j' = j := nkP_inj hj' hj (List.mem_singleton.mp hm)
            subst this
            rw [ecj] at ec'
            cases ec'
            exact absurd hx0 hne
      · rw [decide_eq_false hx0]
        refine iteT ⟨_, rfl, _, rfl, by show 2 ≤ sizeLine; decide, fun r hr2 => ⟨acc, ?_, ?_, ?_⟩⟩
        · have hDr : D ≠ r := fun z => by
            rw [← z, upd_ne hDT, z4] at hr2
            cases hr2
          rw [upd_ne hDr, upd_ne hDT]
          exact z4
        · have h5 : acc.length = tsr.length := Paired.length z5
          have h6 : tsr.length ≤ 8 := by
            have := nodup_le (ks := tsr.map fun t => nkP t.1) (nk := nkP) (n := 8) ?_ fun k hk => ?_
            · rwa [List.length_map] at this
            · have e : (tsr.map fun t => nkP t.1) = (tsr.map (·.1)).map nkP := by rw [List.map_map]; rfl
              rw [e]
              refine List.pairwise_map.mpr (List.Pairwise.imp_of_mem (fun {u v} hu hv hne z => ?_) z6)
              obtain ⟨t1, m1, rfl⟩ := List.mem_map.mp hu
              obtain ⟨t2, m2, rfl⟩ := List.mem_map.mp hv
              exact hne (nkP_inj (z7 t1 m1).2.2.1 (z7 t2 m2).2.2.1 z)
            · obtain ⟨t1, m1, rfl⟩ := List.mem_map.mp hk
              exact ⟨t1.1, (z7 t1 m1).2.2.1, rfl⟩
          exact Nat.lt_of_le_of_lt (show acc.length ≤ 8 by omega) (by decide)
        · have hrD : D ≠ r := fun z => by
            rw [← z, upd_ne hDT, z4] at hr2
            cases hr2
          have hrd : d ≠ r := fun z => by
            rw [← z, upd_ne hdT, z3] at hr2
            cases hr2
          have hdD' : d ≠ D := hdD
          have tp4 : Tups (upd Hc Tt (.tup [.ref ka, .ref vb])) (upd (upd (upd Hc Tt (.tup [.ref ka, .ref vb])) r (.tup [.ref ka, .ref vb])) D (.lst (acc ++ [.ref r]))) :=
            (Tups.upd (noTup_none hr2)).trans (Tups.upd fun xs => ⟨fun z => (by rw [upd_ne hrD, upd_ne hDT, z4] at z; cases z), fun ob z => (by rw [upd_ne hrD, upd_ne hDT, z4] at z; cases z)⟩)
          refine ⟨((z1.trans (Ext.upd hT)).trans (Ext.upd hr2)).wr hD0, tp3.trans tp4, by rw [upd_ne hdD', upd_ne hrd, upd_ne hdT]; exact z3, acc ++ [.ref r], tsr ++ [(j, xj)], upd_same, ?_, ?_, fun t ht => ?_, fun j' x' hj' ec' hne hm => ?_⟩
          · refine paired_append (paired_tp (paired_tp z5 tp2) tp4) (.cons ⟨r, _, _, rfl, ?_, hj, hpr.tp tp4, ⟨vb, rfl, tp4.sqt hvb⟩⟩ .nil)
            exact SqT.of (by rw [upd_ne (Ne.symm hrD)]; exact upd_same)
          · rw [List.map_append]
            refine List.nodup_append.mpr ⟨z6, by simp, fun u hu v hv e => ?_⟩
            obtain ⟨t1, m1, rfl⟩ := List.mem_map.mp hu
            have hv2 : v = j := by simpa using hv
            rw [hv2] at e
            have g4 := (z7 t1 m1).2.2.2
            rw [e] at g4
            have hnd : (xsE.map (·.1)).Nodup := by
              have := hDV.nodup
              rwa [kvE_keys] at this
            have hsp : xsE = xsE.take i ++ (nkP j, ka, .ref vb) :: xsE.drop (i + 1) := by
              have h1 := (List.getElem?_eq_some_iff.mp ei).1
              have h2 := (List.getElem?_eq_some_iff.mp ei).2
              rw [← h2, List.getElem_cons_drop, List.take_append_drop]
            rw [hsp, List.map_append, List.map_cons] at hnd
            exact (List.nodup_append.mp hnd).2.2 _ g4 _ List.mem_cons_self rfl
          · rcases List.mem_append.mp ht with ht | ht
            · obtain ⟨g1, g2, g3, g4⟩ := z7 t ht
              refine ⟨g1, g2, g3, ?_⟩
              rw [tk, List.map_append]
              exact List.mem_append_left _ g4
            · rw [List.mem_singleton.mp ht]
              refine ⟨hx0, ecj, hj, ?_⟩
              rw [tk, List.map_append]
              exact List.mem_append_right _ (List.mem_singleton.mpr rfl)
          · rw [tk, List.map_append] at hm
            rcases List.mem_append.mp hm with hm | hm
            · exact List.mem_append_left _ (z8 j' x' hj' ec' hne hm)
            · have : j' = j := nkP_inj hj' hj (List.mem_singleton.mp hm)
              subst this
              rw [ecj] at ec'
              cases ec'
              exact List.mem_append_right _ (List.mem_singleton.mpr rfl)
    · obtain ⟨z1, z2, z3, acc, tsr, z4, z5, z6, z7, z8⟩ := z
      rw [List.take_length] at z8
      have hdD' : D ≠ d := Ne.symm hdD
      have tpU : Tups Hc (upd Hc d (DO P w d xsE)) := Tups.upd fun xs => ⟨fun z => (by rw [z3] at z; cases z), fun ob z => (by rw [z3] at z; cases z)⟩
      refine ⟨z3, ?_⟩
      have eU : Ext H (upd Hc d (DO P w d xsE)) := z1.wr hd
      have hal : ∀ v ∈ acc, ∃ t, kdF acc tsr v = keyD t.1 ∧ TermV K φ (upd Hc d (DO P w d xsE)) v t := fun v hv => kdF_ok (paired_tp z5 tpU) hv
      refine ⟨_, rfl, D, acc, kdF acc tsr, rfl, hTb.ext eU, SqL.of (by rw [upd_ne hdD']; exact z4), fun u hu v hv => ?_, fun v hv => ?_, fun v hv => ?_, fun v hv H9 e9 => ?_, fun H9 p ys e9 t9 n9 hp9 pm => ?_⟩
      · obtain ⟨t1, g1, ⟨_, _, _, _, _, k1, _⟩⟩ := hal u hu
        obtain ⟨t2, g2, ⟨_, _, _, _, _, k2, _⟩⟩ := hal v hv
        rw [g1, g2]
        exact keyD_alike _ k1 _ k2
      · obtain ⟨t1, g1, _⟩ := hal v hv
        exact ⟨_, _, g1⟩
      · obtain ⟨t1, g1, ⟨_, _, _, _, _, k1, _⟩⟩ := hal v hv
        rw [g1]
        exact keyD_depth _ k1
      · obtain ⟨t1, g1, g2⟩ := hal v hv
        exact ⟨t1, g2.xn e9, g1⟩
      · have e10 : XN H H9 := (XN.ofX eU).trans e9
        obtain ⟨ts', pt, htr⟩ := Terms.perm pm (paired_xn (paired_tp z5 tpU) e9) (SqL.of hp9)
        refine hQ H9 p e10 t9 (fun o eo => n9 o (eU _ _ eo)) ⟨_, hp9⟩ ⟨ts', htr, (pt.map (·.1)).nodup_iff.mpr z6, fun t ht => (z7 t (pt.mem_iff.mp ht)).1, ?_⟩
        have z7' : ∀ t ∈ ts', c t.1 = some t.2 := fun t ht => (z7 t (pt.mem_iff.mp ht)).2.1
        refine coef_rows ((pt.map (·.1)).nodup_iff.mpr z6) (fun t ht => ?_) fun j hj hne => ?_
        · have g3 := (z7 t (pt.mem_iff.mp ht)).2.2.1
          have := hc t.1 g3
          rw [z7' t ht] at this
          exact this.symm
        · cases ec : c j with
          | none =>
            have := hc j hj
            rw [ec] at this
            exact absurd this.symm hne
          | some xj =>
            have := hc j hj
            rw [ec] at this
            have e5 : coef ts j = xj := this.symm
            rw [e5] at hne ⊢
            refine pt.mem_iff.mpr (z8 j xj hj ec hne ?_)
            obtain ⟨v, g1, _⟩ := hDV.get hj ec
            have g2 : nkP j ∈ (kvE xsE).map (·.1) := by
              cases hf : (kvE xsE).find? (fun kv => decide (kv.1 = nkP j)) with
              | none =>
                unfold valV at g1
                rw [hf] at g1
                cases g1
              | some kv =>
                have m1 := List.mem_of_find?_eq_some hf
                have m2 : kv.1 = nkP j := of_decide_eq_true (List.find?_some (p := fun kv : NK × V => decide (kv.1 = nkP j)) hf)
                rw [← m2]
                exact List.mem_map_of_mem m1
            rwa [kvE_keys] at g2
theorem c_gathered (T : Tx K mg) (TB : LamX.TabB base mg (He.cT K ("gathered", none)).1 (He.cT K ("gathered", none)).2) : C8.Cal P w K mg base 4 "gathered" (S2 (k_gathered P w K)) [] := by
  obtain ⟨fd, F⟩ := T.F_gathered
  exact ⟨_, fd, ["field", "terms"], [], ok_ofC (at_ := ("gathered", none)) F sc_gathered len2 (fun f cdv A outer s H vs Q E hc hr h => b_gathered T TB f cdv A outer s H vs Q E hc hr h), T.m_gathered, F.kp, F.bindsN (fun _ _ _ _ _ _ us hl => match us, hl with | [_, _], _ => rfl), .nil⟩
end
end FS
set_option Elab.async false
set_option linter.all false
set_option maxRecDepth 100000
set_option maxHeartbeats 4000000
namespace FS
open PySem PySem.Spec PyProof.Rows L2
section
variable {P : Program} {w : World} {K : PySem.W.Frag} {mg : PySem.Str → Option Value} {base : Heap}
/-- a sum at a, its rows at l -/
def SumL (K : PySem.W.Frag) (φ : Fd) (H : Hp) (a l : Addr) (c : Nat → φ.car) : Prop := ∃ dx fa, H a = some (.ins (He.ga K "Sum") dx [("own_field", .ref fa), ("row", .ref l)]) ∧ FieldAt K H fa φ.p ∧ RowsAt K φ H l c ∧ ∃ ys, H l = some (.lst ys)
theorem SumL.xn {φ : Fd} {H H' : Hp} {a l : Addr} {c : Nat → φ.car} (h : SumL K φ H a l c) (e : XN H H') : SumL K φ H' a l c := let ⟨dx, fa, h1, h2, h3, ys, h4⟩ := h; ⟨dx, fa, e _ _ h1 (fun _ z => by cases z), h2.xn e, h3.xn e, ys, e _ _ h4 (fun _ z => by cases z)⟩
def TabsK (K : PySem.W.Frag) (H : Hp) : Prop := LamX.Tabs (TbK K) H
theorem TabsK.x {H H' : Hp} (h : TabsK K H) (e : Ext H H') : TabsK K H' := LamX.Tabs.ext h e
/-- a write at an object that is no table -/
theorem TabsK.wr {H : Hp} {a : Addr} {o u : HO} (h : TabsK K H) (ha : H a = some u) (nt : ∀ ps, u ≠ .tbl ps) (nc : ∀ c q, u ≠ LamX.CodeO c q) : TabsK K (upd H a o) := fun p hp => by
  obtain ⟨ps, h1, h2, h3⟩ := h p hp
  refine ⟨ps, ?_, h2, fun pos cv hc => ?_⟩
  · rw [upd_ne fun z => by rw [z, ha] at h1; exact nt ps (Option.some.inj h1)]
    exact h1
  · obtain ⟨c, e1, e2⟩ := h3 pos cv hc
    refine ⟨c, e1, ?_⟩
    rw [upd_ne fun z => by rw [z, ha] at e2; exact nc _ _ (Option.some.inj e2)]
    exact e2
theorem ins_no_code {C dx : Addr} {fs : List (PySem.Str × V)} (c : Addr) (q : PySem.Str) : HO.ins C dx fs ≠ LamX.CodeO c q := fun z => by
  unfold LamX.CodeO at z
  cases z
theorem lst_no_code {xs : List V} (c : Addr) (q : PySem.Str) : HO.lst xs ≠ LamX.CodeO c q := fun z => by
  unfold LamX.CodeO at z
  cases z
def k_Sum_init (K : PySem.W.Frag) : K3 := fun x y z H Q => ∃ (φ : Fd) (ts : List (Nat × φ.car)) (a dx fa l : Addr), x = .ref a ∧ y = .ref fa ∧ z = .ref l ∧ H a = some (.ins (He.ga K "Sum") dx []) ∧ FieldAt K H fa φ.p ∧ Terms K φ H l ts ∧ TabsK K H ∧ (∀ t ∈ ts, Small φ t.2) ∧ (∀ i j, Small φ (coef (ts.take i) j)) ∧
  ∀ H' p, (∀ b o, b ≠ a → H b = some o → (∀ ps, o ≠ .tbl ps) → H' b = some o) → TabsK K H' → NewIn H p → SumL K φ H' a p (coef ts) → Q .non H'

abbrev N_Sum_init : List PySem.Str := ["self", "field", "terms"]
theorem sc_Sum_init : FnScope N_Sum_init ["self", "field", "terms"] (defScope s_Sum_init) := ⟨rfl, rfl, rfl, by decide +kernel, rfl, by decide +kernel, by decide +kernel⟩
theorem b_Sum_init (T : Tx K mg) (TB : LamX.TabB base mg (He.cT K ("gathered", none)).1 (He.cT K ("gathered", none)).2) : Body P w K mg base 4 "Sum.__init__" (defBody s_Sum_init) (defScope s_Sum_init) N_Sum_init (S3 (k_Sum_init K)) := fun f cdv A outer s H vs Q E hcd hr h => by
  refine ⟨_, (pss_cons (ps_if (pt_cmpR op_isN (pv 2) pe_non (nomark _)) (pss_one (ps_set (i := 2) sc_Sum_init.nd rfl (by first | exact Or.inl rfl | exact Or.inr rfl) (pe_lst pa_nil))) pss_nil) (pss_cons (ps_expr (C8.pe_c (c_look_at_terms T) hr (by decide) rfl (pa_cons (pv 1) (pa_cons (pv 2) pa_nil)))) (pss_cons (ps_fld (pv 0) (pv 1) rfl) (pss_one (ps_fld (pv 0) (C8.pe_c (c_gathered T TB) hr (by decide) rfl (pa_cons (pv 1) (pa_cons (pv 2) pa_nil))) rfl))))), ?_⟩
  obtain ⟨x, y, z, rfl, φ, ts, a, dx, fa, l, rfl, rfl, rfl, ha, hf, hT, hTb, sm, sc, hQ⟩ := h
  refine ⟨_, rfl, rfl, _, rfl, iteF ?_⟩
  refine ⟨_, rfl, _, rfl, _, _, rfl, φ, ts, fa, l, rfl, rfl, hf, hT, sm, fun H1 e1 => ?_⟩
  refine ⟨_, rfl, _, rfl, a, _, dx, [], rfl, e1 _ _ ha, T.c_Sum, T.n_Sum_own_field, by show (0 : Nat) < 1000; decide, ?_⟩
  have ha1 : H1 a = some (.ins (He.ga K "Sum") dx []) := e1 _ _ ha
  have hfa : fa ≠ a := fun z => by
    obtain ⟨dy, hf⟩ := hf
    rw [z, ha] at hf
    injection hf with hf
    injection hf with _ _ hf
    cases hf
  have tp : Tups H1 (upd H1 a (.ins (He.ga K "Sum") dx [("own_field", .ref fa)])) := Tups.upd fun xs => ⟨fun z => (by rw [ha1] at z; cases z), fun ob z => (by rw [ha1] at z; cases z)⟩
  have hf2 : FieldAt K (upd H1 a (.ins (He.ga K "Sum") dx [("own_field", .ref fa)])) fa φ.p := by
    obtain ⟨dy, hf⟩ := hf.ext e1
    exact ⟨dy, by rw [upd_ne hfa]; exact hf⟩
  have hT2 : Terms K φ (upd H1 a (.ins (He.ga K "Sum") dx [("own_field", .ref fa)])) l ts := by
    obtain ⟨xs, h1, h2⟩ := hT.xn (.ofX e1)
    refine ⟨xs, ?_, paired_tp h2 tp⟩
    rcases h1 with (h1 | ⟨ob, h1⟩) | h1
    · exact .inl (.inl (by rw [upd_ne fun z => by rw [z, ha1] at h1; cases h1]; exact h1))
    · exact .inl (.inr ⟨ob, by rw [upd_ne fun z => by rw [z, ha1] at h1; cases h1]; exact h1⟩)
    · exact .inr h1
  have hTb2 : TabsK K (upd H1 a (.ins (He.ga K "Sum") dx [("own_field", .ref fa)])) := (hTb.x e1).wr ha1 (fun _ z => by cases z) ins_no_code
  refine ⟨_, rfl, _, rfl, _, _, rfl, φ, ts, fa, l, rfl, rfl, hf2, hT2, hTb2, sm, sc, fun H2 p e2 t2 n2 l2 r2 => ?_⟩
  have ha2 : H2 a = some (.ins (He.ga K "Sum") dx [("own_field", .ref fa)]) := e2 _ _ upd_same (fun _ z => by cases z)
  refine ⟨_, rfl, a, _, dx, _, rfl, ha2, T.c_Sum, T.n_Sum_row, by show (1 : Nat) < 1000; decide, ?_⟩
  have tp2 : Tups H2 (upd H2 a (.ins (He.ga K "Sum") dx [("own_field", .ref fa), ("row", .ref p)])) := Tups.upd fun xs => ⟨fun z => (by rw [ha2] at z; cases z), fun ob z => (by rw [ha2] at z; cases z)⟩
  refine hQ _ p (fun b o hb eb nt => ?_) (TabsK.wr t2 ha2 (fun _ z => by cases z) ins_no_code) (fun o eo => ?_) ⟨dx, fa, upd_same, ?_, ?_, l2.imp fun ys h => by rw [upd_ne fun z => by rw [z, ha2] at h; cases h]; exact h⟩
  · rw [upd_ne hb]
    refine e2 b o ?_ nt
    rw [upd_ne hb]
    exact e1 _ _ eb
  · refine n2 o ?_
    rw [upd_ne]
    · exact e1 _ _ eo
    · intro z
      rw [← z] at n2
      obtain ⟨ps, q⟩ := n2 _ upd_same
      cases q
  · obtain ⟨dy, hf3⟩ := hf2.xn e2
    exact ⟨dy, by rw [upd_ne hfa]; exact hf3⟩
  · obtain ⟨ts', ⟨xs, h1, h2⟩, h3⟩ := r2
    refine ⟨ts', ⟨xs, ?_, paired_tp h2 tp2⟩, h3⟩
    rcases h1 with (h1 | ⟨ob, h1⟩) | h1
    · exact .inl (.inl (by rw [upd_ne fun z => by rw [z, ha2] at h1; cases h1]; exact h1))
    · exact .inl (.inr ⟨ob, by rw [upd_ne fun z => by rw [z, ha2] at h1; cases h1]; exact h1⟩)
    · exact .inr h1
theorem c_Sum_init (T : Tx K mg) (TB : LamX.TabB base mg (He.cT K ("gathered", none)).1 (He.cT K ("gathered", none)).2) : C8.Mak P w K mg base 5 "Sum" (He.ga K "Sum") (S3 (k_Sum_init K)) [] := mak_ofD 3 1 T.F_Sum_init (by simp) rfl T.m_Sum T.k_Sum sc_Sum_init (fun Ta kV doc pm an cdv ct us its hl hi => match us, its, hl, hi with | [_, _, _], [_], _, _ => ⟨_, rfl, rfl⟩) len3 (b_Sum_init T TB)

def k_Sum_field (K : PySem.W.Frag) : K1 := fun x H Q => ∃ (φ : Fd) (a l : Addr) (c : Nat → φ.car), x = .ref a ∧ SumL K φ H a l c ∧ ∀ fa, FieldAt K H fa φ.p → Q (.ref fa) H

abbrev N_Sum_field : List PySem.Str := ["self"]
theorem sc_Sum_field : FnScope N_Sum_field ["self"] (defScope s_Sum_field) := ⟨rfl, rfl, rfl, by decide +kernel, rfl, by decide +kernel, by decide +kernel⟩
theorem b_Sum_field (T : Tx K mg) : Body P w K mg base 0 "Sum.field" (defBody s_Sum_field) (defScope s_Sum_field) N_Sum_field (S1 (k_Sum_field K)) := fun f cdv A outer s H vs Q E hcd hr h => by
  refine ⟨_, (pss_one (ps_ret (pe_fld (pv 0) rfl))), ?_⟩
  obtain ⟨x, rfl, φ, a, l, c, rfl, ⟨dx, fa, ha, hf, hr⟩, hQ⟩ := h
  exact ⟨_, rfl, _, _, _, _, _, rfl, ha, T.c_Sum, T.n_Sum_own_field, rfl, hQ fa hf⟩
theorem c_Sum_field (T : Tx K mg) : C8.Met P w K mg base 1 (He.ga K "Sum") "field" (S1 (k_Sum_field K)) [] := met_of T.F_Sum_field T.c_Sum T.me_Sum_field sc_Sum_field (fun _ _ _ _ _ _ us hl => match us, hl with | [_], _ => rfl) len1 (b_Sum_field T)

def k_Sum_terms (K : PySem.W.Frag) : K1 := fun x H Q => ∃ (φ : Fd) (a l : Addr) (c : Nat → φ.car), x = .ref a ∧ SumL K φ H a l c ∧ ∀ H' p, Ext H H' → H p = none → RowsAt K φ H' p c → Q (.ref p) H'

abbrev N_Sum_terms : List PySem.Str := ["self"]
theorem sc_Sum_terms : FnScope N_Sum_terms ["self"] (defScope s_Sum_terms) := ⟨rfl, rfl, rfl, by decide +kernel, rfl, by decide +kernel, by decide +kernel⟩
theorem b_Sum_terms (T : Tx K mg) : Body P w K mg base 0 "Sum.terms" (defBody s_Sum_terms) (defScope s_Sum_terms) N_Sum_terms (S1 (k_Sum_terms K)) := fun f cdv A outer s H vs Q E hcd hr h => by
  refine ⟨_, (pss_one (ps_ret (pe_callTy call_list_of (by rfl) T.f_list (by decide +kernel) (pa_cons (pe_fld (pv 0) rfl) pa_nil)))), ?_⟩
  obtain ⟨x, rfl, φ, a, l, c, rfl, ⟨dx, fa, ha, hf, ⟨ts, ⟨xs, h1, h2⟩, h3⟩, hlt⟩, hQ⟩ := h
  exact ⟨_, rfl, _, _, _, _, _, rfl, ha, T.c_Sum, T.n_Sum_row, rfl, l, xs, rfl, .inl h1, fun p hp => hQ _ p (Ext.upd hp) hp ⟨ts, ⟨xs, SqL.of upd_same, paired_tp h2 (Tups.upd (noTup_none hp))⟩, h3⟩⟩
theorem c_Sum_terms (T : Tx K mg) : C8.Met P w K mg base 1 (He.ga K "Sum") "terms" (S1 (k_Sum_terms K)) [] := met_of T.F_Sum_terms T.c_Sum T.me_Sum_terms sc_Sum_terms (fun _ _ _ _ _ _ us hl => match us, hl with | [_], _ => rfl) len1 (b_Sum_terms T)

/-- the degree: the greatest length of a product of the sum -/
def degM {α : Type} [Lean.Grind.Field α] [DecidableEq α] (c : Nat → α) : Nat := ((List.range 8).map fun j => if c j = 0 then 0 else (prd j).length).foldl max 0
theorem foldl_max_le : ∀ (l : List Nat) (a m : Nat), a ≤ m → (∀ x ∈ l, x ≤ m) → l.foldl max a ≤ m
  | [], a, m, h, _ => h
  | x :: l, a, m, h, hl => foldl_max_le l _ m (Nat.max_le.mpr ⟨h, hl x List.mem_cons_self⟩) fun y hy => hl y (List.mem_cons_of_mem _ hy)
theorem le_foldl_max : ∀ (l : List Nat) (a x : Nat), x = a ∨ x ∈ l → x ≤ l.foldl max a
  | [], a, x, h => by
    rcases h with h | h
    · exact Nat.le_of_eq h
    · cases h
  | y :: l, a, x, h => by
    rcases h with h | h
    · exact Nat.le_trans (h ▸ Nat.le_max_left a y) (le_foldl_max l _ _ (.inl rfl))
    · rcases List.mem_cons.mp h with h | h
      · exact Nat.le_trans (h ▸ Nat.le_max_right a y) (le_foldl_max l _ _ (.inl rfl))
      · exact le_foldl_max l _ x (.inr h)
theorem deg_ge {α : Type} [Lean.Grind.Field α] [DecidableEq α] {c : Nat → α} {j : Nat} (hj : j < 8) (h : c j ≠ 0) : (prd j).length ≤ degM c :=
  le_foldl_max _ _ _ (.inr (List.mem_map.mpr ⟨j, List.mem_range.mpr hj, if_neg h⟩))
theorem deg_le {α : Type} [Lean.Grind.Field α] [DecidableEq α] {c : Nat → α} {m : Nat} (h : ∀ j, j < 8 → c j ≠ 0 → (prd j).length ≤ m) : degM c ≤ m :=
  foldl_max_le _ _ _ (Nat.zero_le _) fun x hx => by
    obtain ⟨j, hj, rfl⟩ := List.mem_map.mp hx
    by_cases e : c j = 0
    · rw [if_pos e]; exact Nat.zero_le _
    · rw [if_neg e]; exact h j (List.mem_range.mp hj) e
theorem rows_le {φ : Fd} {H : Hp} {xs : List V} {ts : List (Nat × φ.car)} (h : Paired (TermV K φ H) xs ts) (hn : (ts.map (·.1)).Nodup) : xs.length ≤ 8 := by
  have h1 : xs.length = ts.length := Paired.length h
  have all : ∀ t ∈ ts, t.1 < 8 := by
    clear h1 hn
    induction h with
    | nil => intro t z; cases z
    | cons r q ih =>
      intro t ht
      rcases List.mem_cons.mp ht with z | z
      · rw [z]
        obtain ⟨_, _, _, _, _, g, _⟩ := r
        exact g
      · exact ih t z
  have := nodup_le (ks := ts.map fun t => nkP t.1) (nk := nkP) (n := 8) ?_ fun k hk => ?_
  · rw [List.length_map] at this
    omega
  · have e : (ts.map fun t => nkP t.1) = (ts.map (·.1)).map nkP := by rw [List.map_map]; rfl
    rw [e]
    refine List.pairwise_map.mpr (List.Pairwise.imp_of_mem (fun {u v} hu hv hne z => ?_) hn)
    obtain ⟨t1, m1, rfl⟩ := List.mem_map.mp hu
    obtain ⟨t2, m2, rfl⟩ := List.mem_map.mp hv
    exact hne (nkP_inj (all t1 m1) (all t2 m2) z)
  · obtain ⟨t1, m1, rfl⟩ := List.mem_map.mp hk
    exact ⟨t1.1, all t1 m1, rfl⟩
theorem mem_lt {φ : Fd} {H : Hp} {xs : List V} {ts : List (Nat × φ.car)} (h : Paired (TermV K φ H) xs ts) : ∀ t ∈ ts, t.1 < 8 := by
  induction h with
  | nil => intro t z; cases z
  | cons r q ih =>
    intro t ht
    rcases List.mem_cons.mp ht with z | z
    · rw [z]
      obtain ⟨_, _, _, _, _, g, _⟩ := r
      exact g
    · exact ih t z
/-- the rows are the products where c is not nought -/
theorem rows_iff {φ : Fd} {ts : List (Nat × φ.car)} {c : Nat → φ.car} (hn : (ts.map (·.1)).Nodup) (h0 : ∀ t ∈ ts, t.2 ≠ 0) (h8 : ∀ t ∈ ts, t.1 < 8) (hc : ∀ j, j < 8 → coef ts j = c j) : (∀ t ∈ ts, c t.1 = t.2) ∧ ∀ j, j < 8 → c j ≠ 0 → (j, c j) ∈ ts := by
  refine ⟨fun t ht => ?_, fun j hj hne => ?_⟩
  · rw [← hc t.1 (h8 t ht)]
    exact coef_mem hn ht
  · refine Classical.byContradiction fun z => ?_
    refine hne ?_
    rw [← hc j hj]
    refine coef_none fun t ht e => z ?_
    have : c t.1 = t.2 := by
      rw [← hc t.1 (h8 t ht)]
      exact coef_mem hn ht
    rw [← e, this]
    exact ht
def k_Sum_degree (K : PySem.W.Frag) : K1 := fun x H Q => ∃ (φ : Fd) (a l : Addr) (c : Nat → φ.car), x = .ref a ∧ SumL K φ H a l c ∧ ∀ H', Ext H H' → Q (.int (degM c)) H'

abbrev N_Sum_degree : List PySem.Str := ["self", "product", "number"]
theorem sc_Sum_degree : FnScope N_Sum_degree ["self"] (defScope s_Sum_degree) := ⟨rfl, rfl, rfl, by decide +kernel, rfl, by decide +kernel, by decide +kernel⟩
theorem b_Sum_degree (T : Tx K mg) : Body P w K mg base 0 "Sum.degree" (defBody s_Sum_degree) (defScope s_Sum_degree) N_Sum_degree (S1 (k_Sum_degree K)) := fun f cdv A outer s H vs Q E hcd hr h => by
  refine ⟨_, (pss_one (ps_ret (pe_callBK (cr_maxDef rfl) (by rfl) T.f_max (by decide +kernel) (pa_cons (pe_lc (own := [("product", 1), ("number", 2)]) (g := (gTup K 2 (gCons (gName 1) (gCons (gName 2) gNil)))) (tt := tYes) (te := (tCB (rLenS K) (tCons (tVar 1) tNil))) rfl sc_Sum_degree.nd (pi_list (pe_fld (pv 0) rfl)) (blkOk_by (N := N_Sum_degree) (sc := defScope s_Sum_degree) (by decide +kernel)) (fun _ _ _ _ _ => (pg_tup rfl (pgs_cons (pg_name (i := 1) sc_Sum_degree.nd rfl (by first | exact Or.inl rfl | exact Or.inr rfl)) (pgs_cons (pg_name (i := 2) sc_Sum_degree.nd rfl (by first | exact Or.inl rfl | exact Or.inr rfl)) pgs_nil)))) (fun _ _ _ _ _ => pts_nil) (fun _ _ _ _ _ => (pe_callB call_len_seq (by rfl) T.f_len PySem.boot_len (pa_cons (pv 1) pa_nil)))) pa_nil) (pk_cons pe_int pk_nil)))), ?_⟩
  obtain ⟨x, rfl, φ, a, l, c, rfl, ⟨dx, fa, ha, hf, ⟨ts, ⟨xs, h1, h2⟩, hn, h0, hc⟩, hlt⟩, hQ⟩ := h
  have h8 := mem_lt h2
  obtain ⟨c1, c2⟩ := rows_iff hn h0 h8 hc
  refine ⟨_, rfl, _, _, _, _, _, rfl, ha, T.c_Sum, T.n_Sum_row, rfl, l, rfl, ⟨xs, h1⟩, fun D hD => ?_⟩
  have hlx : xs.length = ts.length := Paired.length h2
  refine lc_list (K := K) (xs := xs) (fun i H' => Ext H H' ∧ H' D = some (.lst (((ts.take i).map fun t => ((prd t.1).length : Int)).map V.int))) ⟨Ext.upd hD, upd_same⟩ (fun i H' _ z => SqL.ext h1 z.1) (fun i x H' hx z => ?_) fun H' z => ?_
  · obtain ⟨z1, z2⟩ := z
    obtain ⟨t, ht, ⟨ta, pv, nv, rfl, g1, g2, ⟨b, rfl, g3⟩, g4⟩⟩ := paired_at h2 hx
    have tk : ts.take (i + 1) = ts.take i ++ [t] := by rw [List.take_add_one, ht]; rfl
    refine ⟨ta, _, rfl, g1.ext z1, rfl, _, _, rfl, _, _, rfl, rfl, rfl, ?_⟩
    refine t_yes ?_
    refine ⟨_, rfl, b, _, rfl, .inr (g3.ext z1), _, z2, ?_, z1.wr hD, ?_⟩
    · rw [List.length_map, List.length_map]
      have q1 := rows_le h2 hn
      have q2 : (ts.take i).length ≤ ts.length := by rw [List.length_take]; exact Nat.min_le_right _ _
      exact Nat.lt_of_le_of_lt (show _ ≤ 8 by omega) (by decide)
    · rw [upd_same, tk, List.map_append, List.map_append, List.length_map]
      rfl
  · obtain ⟨z1, z2⟩ := z
    rw [hlx, List.take_length] at z2
    refine ⟨D, ts.map fun t => ((prd t.1).length : Int), 0, rfl, rfl, SqL.of z2, fun e => ?_, fun m hm hmax => ?_⟩
    · have : ts = [] := List.map_eq_nil_iff.mp e
      have e0 : degM c = 0 := Nat.le_zero.mp (deg_le fun j hj hne => by
        have := c2 j hj hne
        rw [‹ts = []›] at this
        cases this)
      have := hQ H' z1
      rw [e0] at this
      exact this
    · obtain ⟨t, ht, rfl⟩ := List.mem_map.mp hm
      have e1 : degM c = (prd t.1).length := by
        refine Nat.le_antisymm (deg_le fun j hj hne => ?_) (deg_ge (h8 t ht) (by rw [c1 t ht]; exact h0 t ht))
        exact Int.ofNat_le.mp (hmax _ (List.mem_map.mpr ⟨_, c2 j hj hne, rfl⟩))
      have := hQ H' z1
      rw [e1] at this
      exact this
theorem c_Sum_degree (T : Tx K mg) : C8.Met P w K mg base 1 (He.ga K "Sum") "degree" (S1 (k_Sum_degree K)) [] := met_of T.F_Sum_degree T.c_Sum T.me_Sum_degree sc_Sum_degree (fun _ _ _ _ _ _ us hl => match us, hl with | [_], _ => rfl) len1 (b_Sum_degree T)
end
end FS
set_option Elab.async false
set_option linter.all false
set_option maxRecDepth 100000
set_option maxHeartbeats 4000000
namespace FS
open PySem PySem.Spec PyProof.Rows L2
section
variable {P : Program} {w : World} {K : PySem.W.Frag} {mg : PySem.Str → Option Value} {base : Heap}
theorem atI_prd : ∀ j, j < 8 → j ≠ 0 → atI ((prd j).map V.int) (-1) = some (.int ((prd j).getLastD 0))
  | 0, _, h => absurd rfl h
  | 1, _, _ => rfl
  | 2, _, _ => rfl
  | 3, _, _ => rfl
  | 4, _, _ => rfl
  | 5, _, _ => rfl
  | 6, _, _ => rfl
  | 7, _, _ => rfl
  | n + 8, h, _ => absurd h (by omega)
theorem last_in : ∀ p, p < 4 → ∀ j, j < 8 → j ≠ 0 → inP p j = true → 0 ≤ (prd j).getLastD 0 ∧ (prd j).getLastD 0 < p := by decide
theorem prd_eqv : ∀ j, j < 8 → PyData.eqv (.tuple ((prd j).map .int)) (.tuple []) = decide (j = 0) := by decide +kernel
/-- within the first p places -/
def Within {α : Type} [Lean.Grind.Field α] (p : Nat) (c : Nat → α) : Prop := ∀ j, j < 8 → c j ≠ 0 → inP p j = true
def k_Sum_reach (K : PySem.W.Frag) : K1 := fun x H Q => ∃ (φ : Fd) (a l : Addr) (c : Nat → φ.car) (p : Nat), x = .ref a ∧ SumL K φ H a l c ∧ p < 4 ∧ Within p c ∧ ∀ H' r, Ext H H' → 0 ≤ r → r ≤ (p : Int) → Q (.int r) H'

abbrev N_Sum_reach : List PySem.Str := ["self", "product", "number"]
theorem sc_Sum_reach : FnScope N_Sum_reach ["self"] (defScope s_Sum_reach) := ⟨rfl, rfl, rfl, by decide +kernel, rfl, by decide +kernel, by decide +kernel⟩
theorem b_Sum_reach (T : Tx K mg) : Body P w K mg base 0 "Sum.reach" (defBody s_Sum_reach) (defScope s_Sum_reach) N_Sum_reach (S1 (k_Sum_reach K)) := fun f cdv A outer s H vs Q E hcd hr h => by
  refine ⟨_, (pss_one (ps_ret (pe_callBK (cr_maxDef rfl) (by rfl) T.f_max (by decide +kernel) (pa_cons (pe_lc (own := [("product", 1), ("number", 2)]) (g := (gTup K 2 (gCons (gName 1) (gCons (gName 2) gNil)))) (tt := (tTest (tOp (rNeD K) (tVar 1) (tTup tNil)))) (te := (tOp rAdd (tOp (rIxT K) (tVar 1) (tUn (rU fun i => .int (-i)) (tC (.int 1)))) (tC (.int 1)))) rfl sc_Sum_reach.nd (pi_list (pe_fld (pv 0) rfl)) (blkOk_by (N := N_Sum_reach) (sc := defScope s_Sum_reach) (by decide +kernel)) (fun _ _ _ _ _ => (pg_tup rfl (pgs_cons (pg_name (i := 1) sc_Sum_reach.nd rfl (by first | exact Or.inl rfl | exact Or.inr rfl)) (pgs_cons (pg_name (i := 2) sc_Sum_reach.nd rfl (by first | exact Or.inl rfl | exact Or.inr rfl)) pgs_nil)))) (fun _ _ _ _ _ => (pts_one (pt_cmpR (op_neD (hu64 hr)) (pv 1) (pe_tup pa_nil) (nomark _)))) (fun _ _ _ _ _ => (pe_op op_add (pe_ix ix_tup (pv 1) (pe_un un_neg pe_int) (fun _ _ => rfl)) pe_int))) pa_nil) (pk_cons pe_int pk_nil)))), ?_⟩
  obtain ⟨x, rfl, φ, a, l, c, p, rfl, ⟨dx, fa, ha, hf, ⟨ts, ⟨xs, h1, h2⟩, hn, h0, hc⟩, hlt⟩, hp, hw, hQ⟩ := h
  have h8 := mem_lt h2
  obtain ⟨c1, c2⟩ := rows_iff hn h0 h8 hc
  refine ⟨_, rfl, _, _, _, _, _, rfl, ha, T.c_Sum, T.n_Sum_row, rfl, l, rfl, ⟨xs, h1⟩, fun D hD => ?_⟩
  have hlx : xs.length = ts.length := Paired.length h2
  refine lc_list (K := K) (xs := xs) (fun i H' => Ext H H' ∧ ∃ ns : List Int, H' D = some (.lst (ns.map V.int)) ∧ ns.length ≤ i ∧ ∀ r ∈ ns, 0 ≤ r ∧ r ≤ (p : Int)) ⟨Ext.upd hD, [], upd_same, Nat.le_refl _, (fun _ z => nomatch z)⟩ (fun i H' _ z => SqL.ext h1 z.1) (fun i x H' hx z => ?_) fun H' z => ?_
  · obtain ⟨z1, ns, z2, z3, z4⟩ := z
    obtain ⟨t, ht, ⟨ta, pv, nv, rfl, g1, g2, ⟨b, rfl, g3⟩, g4⟩⟩ := paired_at h2 hx
    have hi : i < xs.length := (List.getElem?_eq_some_iff.mp hx).1
    refine ⟨ta, _, rfl, g1.ext z1, rfl, _, _, rfl, _, _, rfl, rfl, rfl, _, rfl, by show 0 ≤ sizeLine; exact Nat.zero_le _, fun q hq => ?_⟩
    have hDq : D ≠ q := ne_of_none z2 hq
    have z1' := z1.trans (Ext.upd (o := .tup []) hq)
    refine ⟨.tuple ((prd t.1).map .int), .tuple [], .tup (g3.ext z1') (dpAll_ints _), .tup (SqT.of upd_same) .nil, ?_, rfl, _, rfl, ?_⟩
    · have : ∀ j, j < 8 → SeqAt.shaped (.tuple ((prd j).map .int)) = true := by decide +kernel
      exact this t.1 g2
    rw [prd_eqv t.1 g2]
    by_cases e : t.1 = 0
    · rw [decide_eq_true e]
      refine iteF ⟨z1', ns, ?_, Nat.le_succ_of_le z3, z4⟩
      rw [upd_ne hDq]
      exact z2
    · rw [decide_eq_false e]
      have hl := last_in p hp t.1 g2 e (hw t.1 g2 (by rw [c1 t (List.mem_of_getElem? ht)]; exact h0 t (List.mem_of_getElem? ht)))
      refine iteT ⟨_, rfl, _, rfl, b, _, _, _, rfl, rfl, g3.ext z1', atI_prd t.1 g2 e, _, _, rfl, rfl, _, by rw [upd_ne hDq]; exact z2, ?_, z1'.wr hD, ns ++ [(prd t.1).getLastD 0 + 1], ?_, ?_, fun r hr => ?_⟩
      · rw [List.length_map]
        have q1 := rows_le h2 hn
        exact Nat.lt_of_le_of_lt (show _ ≤ 8 by omega) (by decide)
      · rw [upd_same, List.map_append]
        rfl
      · rw [List.length_append]
        exact Nat.succ_le_succ z3
      · rcases List.mem_append.mp hr with hr | hr
        · exact z4 r hr
        · rw [List.mem_singleton.mp hr]
          omega
  · obtain ⟨z1, ns, z2, z3, z4⟩ := z
    exact ⟨D, ns, 0, rfl, rfl, SqL.of z2, fun _ => hQ H' 0 z1 (Int.le_refl _) (by omega), fun m hm _ => hQ H' m z1 (z4 m hm).1 (z4 m hm).2⟩
theorem c_Sum_reach (T : Tx K mg) : C8.Met P w K mg base 1 (He.ga K "Sum") "reach" (S1 (k_Sum_reach K)) [] := met_of T.F_Sum_reach T.c_Sum T.me_Sum_reach sc_Sum_reach (fun _ _ _ _ _ _ us hl => match us, hl with | [_], _ => rfl) len1 (b_Sum_reach T)

/-! ### places renamed -/
def permsOf : Nat → List (List Int)
  | 1 => [[0]]
  | 2 => [[0, 1], [1, 0]]
  | 3 => [[0, 1, 2], [0, 2, 1], [1, 0, 2], [1, 2, 0], [2, 0, 1], [2, 1, 0]]
  | _ => []
def sendL (ns : List Int) (j : Nat) : List Int := (prd j).map fun k => ns.getD k.toNat 0
/-- the product of the renamed places -/
def rn (ns : List Int) (j : Nat) : Nat := ((List.range 8).find? fun i => (sendL ns j).all (fun k => (prd i).contains k) && (prd i).all fun k => (sendL ns j).contains k).getD 0
theorem rn_ok1 : ∀ p, p < 4 → ∀ ns ∈ permsOf p, ∀ j, j < 8 → inP p j = true → rn ns j < 8 ∧ inP p (rn ns j) = true ∧ (sendL ns j).Nodup := by decide +kernel
theorem rn_ok2 : ∀ p, p < 4 → ∀ ns ∈ permsOf p, ∀ j, j < 8 → inP p j = true → ∀ k ∈ sendL ns j, k ∈ prd (rn ns j) := by decide +kernel
theorem rn_ok3 : ∀ p, p < 4 → ∀ ns ∈ permsOf p, ∀ j, j < 8 → inP p j = true → ∀ k ∈ prd (rn ns j), k ∈ sendL ns j := by decide +kernel
theorem rn_injB : ((List.range 4).all fun p => (permsOf p).all fun ns => (List.range 8).all fun i => (List.range 8).all fun j => !(inP p i && (inP p j && (rn ns i == rn ns j))) || (i == j)) = true := by decide +kernel
theorem rn_inj (p : Nat) (hp : p < 4) (ns : List Int) (hns : ns ∈ permsOf p) (i : Nat) (hi : i < 8) (h1 : inP p i = true) (j : Nat) (hj : j < 8) (h2 : inP p j = true) (e : rn ns i = rn ns j) : i = j := by
  have q1 := List.all_eq_true.mp rn_injB p (List.mem_range.mpr hp)
  have q2 := List.all_eq_true.mp q1 ns hns
  have q3 := List.all_eq_true.mp q2 i (List.mem_range.mpr hi)
  have q4 := List.all_eq_true.mp q3 j (List.mem_range.mpr hj)
  rw [h1, h2, e] at q4
  simpa using q4
theorem perm_bd : ∀ p, p < 4 → ∀ ns ∈ permsOf p, ns.length = p ∧ ns.Nodup ∧ ∀ k ∈ ns, 0 ≤ k ∧ k < 60 := by decide +kernel
theorem perm_at : ∀ p, p < 4 → ∀ ns ∈ permsOf p, ∀ j, j < 8 → inP p j = true → ∀ k ∈ prd j, ns[k.toNat]? = some (ns.getD k.toNat 0) := by decide +kernel
/-- c' is c with the places renamed -/
structure RenOf {α : Type} [Lean.Grind.Field α] (p : Nat) (ns : List Int) (c c' : Nat → α) : Prop where
  at_ : ∀ j, j < 8 → inP p j = true → c' (rn ns j) = c j
  off : ∀ i, i < 8 → c' i ≠ 0 → ∃ j, j < 8 ∧ inP p j = true ∧ i = rn ns j
theorem ren_coef {α : Type} [Lean.Grind.Field α] {p : Nat} {ns : List Int} {ts : List (Nat × α)} {c : Nat → α} (hp : p < 4) (hns : ns ∈ permsOf p) (hn : (ts.map (·.1)).Nodup) (h8 : ∀ t ∈ ts, t.1 < 8 ∧ inP p t.1 = true) (hc : ∀ j, j < 8 → coef ts j = c j) :
    RenOf p ns c (coef (ts.map fun t => (rn ns t.1, t.2))) := by
  have hn2 : ((ts.map fun t => (rn ns t.1, t.2)).map (·.1)).Nodup := by
    have e : ((ts.map fun t => (rn ns t.1, t.2)).map (·.1)) = (ts.map (·.1)).map (rn ns) := by rw [List.map_map, List.map_map]; rfl
    rw [e]
    refine List.pairwise_map.mpr (List.Pairwise.imp_of_mem (fun {u v} hu hv hne z => ?_) hn)
    obtain ⟨t1, m1, rfl⟩ := List.mem_map.mp hu
    obtain ⟨t2, m2, rfl⟩ := List.mem_map.mp hv
    exact hne (rn_inj p hp ns hns _ (h8 t1 m1).1 (h8 t1 m1).2 _ (h8 t2 m2).1 (h8 t2 m2).2 z)
  refine ⟨fun j hj hin => ?_, fun i hi hne => ?_⟩
  · rw [← hc j hj]
    by_cases e : ∃ t ∈ ts, t.1 = j
    · obtain ⟨t, ht, rfl⟩ := e
      rw [coef_mem hn (x := t.2) ht]
      exact coef_mem hn2 (List.mem_map.mpr ⟨t, ht, rfl⟩)
    · rw [coef_none fun t ht z => e ⟨t, ht, z⟩]
      refine coef_none fun u hu z => ?_
      obtain ⟨t, ht, rfl⟩ := List.mem_map.mp hu
      exact e ⟨t, ht, rn_inj p hp ns hns _ (h8 t ht).1 (h8 t ht).2 _ hj hin z⟩
  · refine Classical.byContradiction fun z => hne (coef_none fun u hu q => ?_)
    obtain ⟨t, ht, rfl⟩ := List.mem_map.mp hu
    exact z ⟨t.1, (h8 t ht).1, (h8 t ht).2, q.symm⟩
end
end FS
set_option Elab.async false
set_option linter.all false
set_option maxRecDepth 100000
set_option maxHeartbeats 4000000
namespace FS
open PySem PySem.Spec PyProof.Rows L2
section
variable {P : Program} {w : World} {K : PySem.W.Frag} {mg : PySem.Str → Option Value} {base : Heap}
theorem send_eq {p : Nat} (hp : p < 4) {ns : List Int} (hns : ns ∈ permsOf p) {j : Nat} (hj : j < 8) (hin : inP p j = true) {out : List Int} (h1 : out.Perm (sendL ns j)) (h2 : out.Pairwise (· ≤ ·)) : out = prd (rn ns j) := by
  obtain ⟨g1, g2, g3⟩ := rn_ok1 p hp ns hns j hj hin
  have hnd : out.Nodup := h1.nodup_iff.mpr g3
  have hlt : out.Pairwise (· < ·) := List.Pairwise.imp₂ (fun a b (h : a ≤ b) (h' : a ≠ b) => by omega) h2 hnd
  refine sorted_eq hlt (prd_sorted _ g1) fun k => ?_
  rw [h1.mem_iff]
  exact ⟨rn_ok2 p hp ns hns j hj hin k, rn_ok3 p hp ns hns j hj hin k⟩
theorem coef_take {φ : Fd} {ts : List (Nat × φ.car)} (hn : (ts.map (·.1)).Nodup) (s0 : Small φ 0) (s1 : ∀ t ∈ ts, Small φ t.2) (i j : Nat) : Small φ (coef (ts.take i) j) := by
  have hn2 : ((ts.take i).map (·.1)).Nodup := List.Nodup.sublist ((List.take_sublist i ts).map _) hn
  by_cases e : ∃ t ∈ ts.take i, t.1 = j
  · obtain ⟨t, ht, rfl⟩ := e
    rw [coef_mem hn2 (x := t.2) ht]
    exact s1 t (List.mem_of_mem_take ht)
  · rw [coef_none fun t ht z => e ⟨t, ht, z⟩]
    exact s0
def k_Sum_renamed (K : PySem.W.Frag) : K2 := fun x y H Q => ∃ (φ : Fd) (a l lo : Addr) (c : Nat → φ.car) (p : Nat) (ns : List Int), x = .ref a ∧ y = .ref lo ∧ SumL K φ H a l c ∧ SqL K H lo (ns.map V.int) ∧ p < 4 ∧ ns ∈ permsOf p ∧ Within p c ∧ TabsK K H ∧ Small φ 0 ∧ (∀ j, j < 8 → Small φ (c j)) ∧
  ∀ H' b m c', XN H H' → TabsK K H' → NewIn H b → NewIn H m → SumL K φ H' b m c' → RenOf p ns c c' → Q (.ref b) H'

abbrev N_Sum_renamed : List PySem.Str := ["self", "order", "place", "i", "product", "one"]
theorem sc_Sum_renamed : FnScope N_Sum_renamed ["self", "order"] (defScope s_Sum_renamed) := ⟨rfl, rfl, rfl, by decide +kernel, rfl, by decide +kernel, by decide +kernel⟩
theorem b_Sum_renamed (T : Tx K mg) (TB : LamX.TabB base mg (He.cT K ("gathered", none)).1 (He.cT K ("gathered", none)).2) : Body P w K mg base 6 "Sum.renamed" (defBody s_Sum_renamed) (defScope s_Sum_renamed) N_Sum_renamed (S2 (k_Sum_renamed K)) := fun f cdv A outer s H vs Q E hcd hr h => by
  refine ⟨_, (pss_cons (ps_if (PW.pt (pw_or (pt_not (pt_val (pe_callB call_isi (by rfl) T.f_isinstance (by decide +kernel) (pa_cons (pv 1) (pa_cons (pe_bltn (v := .ty "list") (by rfl) T.f_list (by decide +kernel) rfl) pa_nil))))) (pw_or1 (pt_cmpR op_lt (pe_callB call_len_seq (by rfl) T.f_len PySem.boot_len (pa_cons (pv 1) pa_nil)) (C8.pe_mt0 (c_Sum_reach T) hr (by decide) (pv 0)) (nomark _))))) (pss_one ps_never) pss_nil) (pss_cons (ps_if (PW.pt (pw_or (pt_not (pt_val (pe_callB (cr_all rfl) (by rfl) T.f_all (by decide +kernel) (pa_cons (pe_lc (own := [("place", 2)]) (g := (gName 2)) (tt := tYes) (te := (tCall (S1 k_is_place) [] C8.E0 (tCons (tVar 2) tNil))) rfl sc_Sum_renamed.nd (pi_list (pv 1)) (blkOk_by (N := N_Sum_renamed) (sc := defScope s_Sum_renamed) (by decide +kernel)) (fun _ _ _ _ _ => (pg_name (i := 2) sc_Sum_renamed.nd rfl (by first | exact Or.inl rfl | exact Or.inr rfl))) (fun _ _ _ _ _ => pts_nil) (fun _ _ _ _ _ => (C8.pe_c (c_is_place T) hr (by decide) rfl (pa_cons (pv 2) pa_nil)))) pa_nil)))) (pw_or1 (pt_cmpR op_ne (RZ.pe_lenSetI rfl T.f_len rfl T.f_set (pv 1)) (pe_callB call_len_seq (by rfl) T.f_len PySem.boot_len (pa_cons (pv 1) pa_nil)) (nomark _))))) (pss_one ps_never) pss_nil) (pss_one (ps_ret (C8.pe_mk (c_Sum_init T TB) hr (by decide) rfl (pa_cons (pe_fld (pv 0) rfl) (pa_cons (pe_lc (own := [("product", 4), ("one", 5)]) (g := (gTup K 2 (gCons (gName 4) (gCons (gName 5) gNil)))) (tt := tYes) (te := (tTup (tCons (tCB (rTupOf K) (tCons (tCB (rSorted K) (tCons (tLc (iTup K (tVar 4)) (gName 3) tYes (tOp (rIxL K) (tVar 1) (tVar 3)) [3]) tNil)) tNil)) (tCons (tVar 5) tNil)))) rfl sc_Sum_renamed.nd (pi_list (pe_fld (pv 0) rfl)) (blkOk_by (N := N_Sum_renamed) (sc := defScope s_Sum_renamed) (by decide +kernel)) (fun _ _ _ _ _ => (pg_tup rfl (pgs_cons (pg_name (i := 4) sc_Sum_renamed.nd rfl (by first | exact Or.inl rfl | exact Or.inr rfl)) (pgs_cons (pg_name (i := 5) sc_Sum_renamed.nd rfl (by first | exact Or.inl rfl | exact Or.inr rfl)) pgs_nil)))) (fun _ _ _ _ _ => pts_nil) (fun _ _ _ _ _ => (pe_tup (pa_cons (pe_callTy call_tuple_of (by rfl) T.f_tuple (by decide +kernel) (pa_cons (pe_callB cr_sorted (by rfl) T.f_sorted (by decide +kernel) (pa_cons (pe_lc (own := [("i", 3)]) (g := (gName 3)) (tt := tYes) (te := (tOp (rIxL K) (tVar 1) (tVar 3))) rfl sc_Sum_renamed.nd (pi_tup (pv 4)) (blkOk_by (by kernel_rfl)) (fun _ _ _ _ _ => (pg_name (i := 3) sc_Sum_renamed.nd rfl (by first | exact Or.inl rfl | exact Or.inr rfl))) (fun _ _ _ _ _ => pts_nil) (fun _ _ _ _ _ => (pe_ix ix_list (pv 1) (pv 3) (fun _ _ => rfl)))) pa_nil)) pa_nil)) (pa_cons (pv 5) pa_nil))))) pa_nil))))))), ?_⟩
  obtain ⟨x, y, rfl, φ, a, l, lo, c, p, ns, rfl, rfl, hS, hlo, hp, hns, hw, hTb, s0, sc, hQ⟩ := h
  obtain ⟨dx, fa, ha, hf, ⟨ts, ⟨xs, h1, h2⟩, hn, h0, hc⟩, hlt⟩ := id hS
  have h8 := mem_lt h2
  obtain ⟨c1, c2⟩ := rows_iff hn h0 h8 hc
  obtain ⟨q1, q2, q3⟩ := perm_bd p hp ns hns
  have hin : ∀ t ∈ ts, inP p t.1 = true := fun t ht => hw t.1 (h8 t ht) (by rw [c1 t ht]; exact h0 t ht)
  refine ⟨_, rfl, _, _, _, _, true, rfl, .ty "list", tyx_lst hlo, kit_self, _, rfl, iteF ?_⟩
  refine ⟨_, rfl, _, _, rfl, .inl hlo, _, rfl, a, dx, _, rfl, ha, rfl, _, rfl, φ, a, l, c, p, rfl, hS, hp, hw, fun H1 r e1 r0 r1 => ⟨_, _, rfl, rfl, _, rfl, ?_⟩⟩
  rw [decide_eq_false (show ¬ (((ns.map V.int).length : Int) < r) by rw [List.length_map, q1]; omega)]
  refine iteF ?_
  refine ⟨_, rfl, lo, rfl, ⟨_, hlo.ext e1⟩, fun D hD => ?_⟩
  refine lc_list (K := K) (xs := ns.map V.int) (fun i H' => Ext H1 H' ∧ H' D = some (.lst ((List.replicate i true).map V.bl))) ⟨Ext.upd hD, upd_same⟩ (fun i H' _ z => SqL.ext hlo (e1.trans z.1)) (fun i x H' hx z => ?_) fun H2 z => ?_
  · obtain ⟨z1, z2⟩ := z
    rw [List.getElem?_map] at hx
    obtain ⟨k, hk, rfl⟩ := Option.map_eq_some_iff.mp hx
    have hi : i < ns.length := (List.getElem?_eq_some_iff.mp hk).1
    obtain ⟨k0, k1⟩ := q3 k (List.mem_of_getElem? hk)
    refine ⟨rfl, t_yes ⟨_, rfl, _, rfl, k, rfl, k0, k1, _, z2, ?_, z1.wr (fresh_of Ext.rfl' hD), ?_⟩⟩
    · rw [List.length_map, List.length_replicate]
      exact Nat.lt_of_le_of_lt (show i ≤ 8 by omega) (by decide)
    · rw [upd_same, List.replicate_succ', List.map_append]
      rfl
  obtain ⟨e2, z2⟩ := z
  rw [List.length_map] at z2
  have hall : (List.replicate ns.length true).all id = true := by
    rw [List.all_eq_true]
    intro b hb
    rw [List.eq_of_mem_replicate hb]
    rfl
  refine ⟨D, List.replicate ns.length true, rfl, SqL.of z2, _, rfl, ?_⟩
  rw [hall]
  refine iteF ?_
  have e12 := e1.trans e2
  refine ⟨_, rfl, lo, ns, rfl, hlo.ext e12, q2, by omega, _, rfl, _, _, rfl, .inl (hlo.ext e12), rfl, _, rfl, ?_⟩
  have en : (!decide (V.int ((ns.length : Nat) : Int) = V.int (((ns.map V.int).length : Nat) : Int))) = false := by
    rw [List.length_map, decide_eq_true rfl]
    rfl
  rw [en]
  refine iteF ?_
  refine ⟨_, rfl, _, _, _, _, _, rfl, e12 _ _ ha, T.c_Sum, T.n_Sum_own_field, rfl, ?_⟩
  refine ⟨_, rfl, _, _, _, _, _, rfl, e12 _ _ ha, T.c_Sum, T.n_Sum_row, rfl, l, rfl, ⟨xs, h1.ext e12⟩, fun D2 hD2 => ?_⟩
  have hD20 : H D2 = none := fresh_of e12 hD2
  refine lc_list (K := K) (xs := xs) (fun i H' => Ext H H' ∧ ∃ acc, H' D2 = some (.lst acc) ∧ Paired (TermV K φ H') acc ((ts.take i).map fun t => (rn ns t.1, t.2))) ⟨e12.wr hD20, [], upd_same, .nil⟩ (fun i H' _ z => SqL.ext h1 z.1) (fun i x H3 hx z => ?_) fun H3 z => ?_
  · obtain ⟨z1, acc, z2, z3⟩ := z
    obtain ⟨t, ht, ⟨ta, pv, nv, rfl, g1, g2, ⟨b, rfl, g3⟩, g4⟩⟩ := paired_at h2 hx
    have htm := List.mem_of_getElem? ht
    have hi : i < ts.length := (List.getElem?_eq_some_iff.mp ht).1
    have tk : ts.take (i + 1) = ts.take i ++ [t] := by rw [List.take_add_one, ht]; rfl
    have hj := h8 t htm
    have hji := hin t htm
    have hsl : (sendL ns t.1).length = (prd t.1).length := List.length_map _
    refine ⟨ta, _, rfl, g1.ext z1, rfl, _, _, rfl, _, _, rfl, rfl, rfl, t_yes ?_⟩
    refine ⟨_, rfl, b, rfl, ⟨_, g3.ext z1⟩, fun D3 hD3 => ?_⟩
    have hD32 : D2 ≠ D3 := ne_of_none z2 hD3
    refine lc_it (walk_tup (K := K) (a := b) (xs := (prd t.1).map V.int)) (fun m H' => Ext H3 H' ∧ H' D3 = some (.lst (((sendL ns t.1).take m).map V.int))) ⟨Ext.upd hD3, upd_same⟩ (fun m H' _ z => g3.ext (z1.trans z.1)) (fun m x H4 H5 hm z y => ?_) fun H4 z => ?_
    · obtain ⟨y1, y2⟩ := z
      obtain ⟨rfl, hxm⟩ := y
      rw [List.getElem?_map] at hxm
      obtain ⟨k, hk, rfl⟩ := Option.map_eq_some_iff.mp hxm
      have hkm : k ∈ prd t.1 := List.mem_of_getElem? hk
      have hk0 := prd_bd t.1 hj k hkm
      have hat := perm_at p hp ns hns t.1 hj hji k hkm
      have ek : (k : Int) = ((k.toNat : Nat) : Int) := by omega
      have hsk : (sendL ns t.1)[m]? = some (ns.getD k.toNat 0) := by
        unfold sendL
        rw [List.getElem?_map, hk]
        rfl
      have tks : (sendL ns t.1).take (m + 1) = (sendL ns t.1).take m ++ [ns.getD k.toNat 0] := by rw [List.take_add_one, hsk]; rfl
      refine ⟨rfl, t_yes ⟨_, rfl, _, rfl, lo, _, k, V.int (ns.getD k.toNat 0), rfl, rfl, hlo.ext (z1.trans y1), ?_, _, y2, ?_, y1.wr hD3, ?_⟩⟩
      · rw [ek]
        refine atI_nat ?_
        rw [List.getElem?_map]
        have : ((k.toNat : Nat) : Int).toNat = k.toNat := by omega
        rw [this, hat]
        rfl
      · rw [List.length_map]
        have q4 := prd_len t.1 hj
        have q5 : ((sendL ns t.1).take m).length ≤ (sendL ns t.1).length := by rw [List.length_take]; exact Nat.min_le_right _ _
        exact Nat.lt_of_le_of_lt (show _ ≤ 8 by omega) (by decide)
      · rw [upd_same, tks, List.map_append]
        rfl
    · obtain ⟨y1, y2⟩ := z
      rw [List.length_map, ← hsl, List.take_length] at y2
      refine ⟨D3, sendL ns t.1, rfl, SqL.of y2, ?_, fun out r1 hpm hle hr1 => ?_⟩
      · have q4 := prd_len t.1 hj
        omega
      have eo := send_eq hp hns hj hji hpm hle
      refine ⟨r1, out.map V.int, rfl, .inl ⟨SqL.of upd_same, fun r2 hr2 => ?_⟩⟩
      refine ⟨_, rfl, by show 2 ≤ sizeLine; decide, fun r3 hr3 => ?_⟩
      have e3 := ((y1.upd' (o := .lst (out.map V.int)) hr1).upd' (o := .tup (out.map V.int)) hr2).upd' (o := .tup [.ref r2, nv]) hr3
      have z2' := e3 _ _ z2
      refine ⟨acc, z2', ?_, (z1.trans e3).wr hD20, acc ++ [.ref r3], upd_same, ?_⟩
      · have := Paired.length z3
        rw [List.length_map] at this
        have q4 := rows_le h2 hn
        have q5 : xs.length = ts.length := Paired.length h2
        have q6 : (ts.take i).length ≤ ts.length := by rw [List.length_take]; exact Nat.min_le_right _ _
        exact Nat.lt_of_le_of_lt (show acc.length ≤ 8 by omega) (by decide)
      · have tpD : Tups (upd (upd (upd H4 r1 (.lst (out.map V.int))) r2 (.tup (out.map V.int))) r3 (.tup [.ref r2, nv])) (upd (upd (upd (upd H4 r1 (.lst (out.map V.int))) r2 (.tup (out.map V.int))) r3 (.tup [.ref r2, nv])) D2 (.lst (acc ++ [.ref r3]))) :=
          Tups.upd fun xs => ⟨fun z => (by rw [z2'] at z; cases z), fun ob z => (by rw [z2'] at z; cases z)⟩
        rw [tk, List.map_append]
        refine paired_append (paired_tp (paired_xn z3 (.ofX e3)) tpD) (.cons ⟨r3, .ref r2, nv, rfl, tpD.sqt (SqT.of upd_same), (rn_ok1 p hp ns hns t.1 hj hji).1, ⟨r2, rfl, tpD.sqt (SqT.of ?_)⟩, (g4.xn (.ofX (z1.trans e3))).tp tpD⟩ .nil)
        rw [upd_ne (ne_of_none upd_same hr3), upd_same, eo]
  · obtain ⟨e3, acc, z2, z3⟩ := z
    have hlx : xs.length = ts.length := Paired.length h2
    rw [hlx, List.take_length] at z3
    intro b dy hb hdy hne
    have eN : Ext H3 (upd (upd H3 dy (.own b)) b (.ins (He.ga K "Sum") dy [])) := (Ext.upd hdy).upd' (by rw [upd_ne (Ne.symm hne)]; exact hb)
    have e3N := e3.trans eN
    have zz := paired_xn z3 (XN.ofX eN)
    have hren := ren_coef hp hns hn (fun t ht => ⟨h8 t ht, hin t ht⟩) hc
    obtain ⟨ts2, ets⟩ : ∃ ts2 : List (Nat × φ.car), ts2 = ts.map fun t => (rn ns t.1, t.2) := ⟨_, rfl⟩
    rw [← ets] at zz hren
    refine ⟨_, _, _, rfl, φ, ts2, b, dy, fa, D2, rfl, rfl, rfl, upd_same, hf.ext e3N, ⟨acc, SqL.of (eN _ _ z2), zz⟩, hTb.x e3N, fun t ht => ?_, fun i j => ?_, fun H9 m k9 t9 n9 s9 => ⟨rfl, ?_⟩⟩
    · rw [ets] at ht
      obtain ⟨u, hu, rfl⟩ := List.mem_map.mp ht
      rw [← c1 u hu]
      exact sc u.1 (h8 u hu)
    · rw [ets]
      refine coef_take ?_ s0 (fun t ht => ?_) i j
      · have e : ((ts.map fun t => (rn ns t.1, t.2)).map (·.1)) = (ts.map (·.1)).map (rn ns) := by rw [List.map_map, List.map_map]; rfl
        rw [e]
        refine List.pairwise_map.mpr (List.Pairwise.imp_of_mem (fun {u v} hu hv hne z => ?_) hn)
        obtain ⟨t1, m1, rfl⟩ := List.mem_map.mp hu
        obtain ⟨t2, m2, rfl⟩ := List.mem_map.mp hv
        exact hne (rn_inj p hp ns hns _ (h8 t1 m1) (hin t1 m1) _ (h8 t2 m2) (hin t2 m2) z)
      · obtain ⟨u, hu, rfl⟩ := List.mem_map.mp ht
        rw [← c1 u hu]
        exact sc u.1 (h8 u hu)
    · refine hQ H9 b m _ (fun q u hq nt => k9 q u (fun z => ?_) (e3N _ _ hq) nt) t9 (.of (fresh_of e3 hb)) (fun u hu => n9 u (e3N _ _ hu)) s9 hren
      rw [z] at hq
      have := e3 _ _ hq
      rw [hb] at this
      cases this
theorem c_Sum_renamed (T : Tx K mg) (TB : LamX.TabB base mg (He.cT K ("gathered", none)).1 (He.cT K ("gathered", none)).2) : C8.Met P w K mg base 7 (He.ga K "Sum") "renamed" (S2 (k_Sum_renamed K)) [] := met_of T.F_Sum_renamed T.c_Sum T.me_Sum_renamed sc_Sum_renamed (fun _ _ _ _ _ _ us hl => match us, hl with | [_, _], _ => rfl) len2 (b_Sum_renamed T TB)
end
end FS
set_option Elab.async false
set_option linter.all false
set_option maxRecDepth 100000
set_option maxHeartbeats 4000000
namespace FS
open PySem PySem.Spec PyProof.Rows L2
section
variable {P : Program} {w : World} {K : PySem.W.Frag} {mg : PySem.Str → Option Value} {base : Heap}
/-- a filling of noughts and ones -/
def FillV (K : PySem.W.Frag) (H : Hp) (v : V) (f : List Int) : Prop := ∃ a, v = .ref a ∧ SqT K H a (f.map V.int)
theorem FillV.xn {H H' : Hp} {v : V} {f : List Int} (h : FillV K H v f) (e : XN H H') : FillV K H' v f := let ⟨a, b, c⟩ := h; ⟨a, b, sqt_xn c e⟩
def onB (f : List Int) (j : Nat) : List Bool := (prd j).map fun k => decide (V.int (f.getD k.toNat 0) = V.int 1)
/-- all places of the product are filled by 1 -/
def on (f : List Int) (j : Nat) : Bool := (onB f j).all id
def lsum {α : Type} [Lean.Grind.Field α] (c : Nat → α) (js : List Nat) : α := js.foldl (fun a j => a + c j) 0
theorem lsum_snoc {α : Type} [Lean.Grind.Field α] (c : Nat → α) (js : List Nat) (j : Nat) : lsum c (js ++ [j]) = lsum c js + c j := by
  unfold lsum
  rw [List.foldl_append]
  rfl
/-- all sums of some of the numbers are small -/
def SubSm (φ : Fd) (c : Nat → φ.car) : Prop := ∀ js : List Nat, js.Nodup → (∀ j ∈ js, j < 8) → Small φ (lsum c js)
structure IsFill (p : Nat) (f : List Int) : Prop where
  len : f.length = p
  bit : ∀ b ∈ f, b = 0 ∨ b = 1
/-- which products the rows have, in their order -/
def k_Sum_worth (K : PySem.W.Frag) : K2 := fun x y H Q => ∃ (φ : Fd) (a l : Addr) (c : Nat → φ.car) (p : Nat) (f : List Int), x = .ref a ∧ SumL K φ H a l c ∧ FillV K H y f ∧ IsFill p f ∧ p < 4 ∧ Within p c ∧ SubSm φ c ∧
  ∀ H' v js, Ext H H' → js.Nodup → (∀ j, j ∈ js ↔ (j < 8 ∧ c j ≠ 0 ∧ on f j = true)) → NumV K φ H' v (lsum c js) → Q v H'

abbrev N_Sum_worth : List PySem.Str := ["self", "filling", "one", "found", "product", "number", "place"]
theorem sc_Sum_worth : FnScope N_Sum_worth ["self", "filling"] (defScope s_Sum_worth) := ⟨rfl, rfl, rfl, by decide +kernel, rfl, by decide +kernel, by decide +kernel⟩
theorem b_Sum_worth (T : Tx K mg) : Body P w K mg base 3 "Sum.worth" (defBody s_Sum_worth) (defScope s_Sum_worth) N_Sum_worth (S2 (k_Sum_worth K)) := fun f cdv A outer s H vs Q E hcd hr h => by
  refine ⟨_, (pss_cons (ps_if (PW.pt (pw_or (pt_not (pt_val (pe_callB call_isi (by rfl) T.f_isinstance (by decide +kernel) (pa_cons (pv 1) (pa_cons (pe_bltn (v := .ty "tuple") (by rfl) T.f_tuple (by decide +kernel) rfl) pa_nil))))) (pw_or1 (pt_cmpR op_lt (pe_callB call_len_seq (by rfl) T.f_len PySem.boot_len (pa_cons (pv 1) pa_nil)) (C8.pe_mt0 (c_Sum_reach T) hr (by decide) (pv 0)) (nomark _))))) (pss_one ps_never) pss_nil) (pss_cons (ps_if (pt_not (pt_val (pe_callB (cr_all rfl) (by rfl) T.f_all (by decide +kernel) (pa_cons (pe_lc (own := [("one", 2)]) (g := (gName 2)) (tt := tYes) (te := (tAndV (tCall (S1 k_is_whole) [] C8.E0 (tCons (tVar 2) tNil)) (tChain rLe rLe (tC (.int 0)) (tVar 2) (tC (.int 1))))) rfl sc_Sum_worth.nd (pi_tup (pv 1)) (blkOk_by (N := N_Sum_worth) (sc := defScope s_Sum_worth) (by decide +kernel)) (fun _ _ _ _ _ => (pg_name (i := 2) sc_Sum_worth.nd rfl (by first | exact Or.inl rfl | exact Or.inr rfl))) (fun _ _ _ _ _ => pts_nil) (fun _ _ _ _ _ => (pe_and (C8.pe_c (c_is_whole T) hr (by decide) rfl (pa_cons (pv 2) pa_nil)) (pe_one (pe_chain op_le op_le pe_int (pv 2) pe_int))))) pa_nil)))) (pss_one ps_never) pss_nil) (pss_cons (ps_set (i := 3) sc_Sum_worth.nd rfl (by first | exact Or.inl rfl | exact Or.inr rfl) (pe_glob (v := .ref (He.ga K "ZERO")) rfl T.m_ZERO rfl)) (pss_cons (ps_for PassesOwn.never rfl (pi_list (pe_fld (pv 0) rfl)) (pg_tup rfl (pgs_cons (pg_name (i := 4) sc_Sum_worth.nd rfl (by first | exact Or.inl rfl | exact Or.inr rfl)) (pgs_cons (pg_name (i := 5) sc_Sum_worth.nd rfl (by first | exact Or.inl rfl | exact Or.inr rfl)) pgs_nil))) (pss_one (ps_if (pt_val (pe_callB (cr_all rfl) (by rfl) T.f_all (by decide +kernel) (pa_cons (pe_lc (own := [("place", 6)]) (g := (gName 6)) (tt := tYes) (te := (tOp rEq (tOp (rIxT K) (tVar 1) (tVar 6)) (tC (.int 1)))) rfl sc_Sum_worth.nd (pi_tup (pv 4)) (blkOk_by (N := N_Sum_worth) (sc := defScope s_Sum_worth) (by decide +kernel)) (fun _ _ _ _ _ => (pg_name (i := 6) sc_Sum_worth.nd rfl (by first | exact Or.inl rfl | exact Or.inr rfl))) (fun _ _ _ _ _ => pts_nil) (fun _ _ _ _ _ => (pe_cmpR op_eq (pe_ix ix_tup (pv 1) (pv 6) (fun _ _ => rfl)) pe_int (nomark _)))) pa_nil))) (pss_one (ps_set (i := 3) sc_Sum_worth.nd rfl (by first | exact Or.inl rfl | exact Or.inr rfl) (C8.pe_mt (c_Field_plus T) hr (by decide) (pe_fld (pv 0) rfl) (pa_cons (pv 3) (pa_cons (pv 5) pa_nil))))) pss_nil))) (pss_one (ps_ret (pv 3))))))), ?_⟩
  obtain ⟨x, y, rfl, φ, a, l, c, p, f, rfl, hS, ⟨fl, rfl, hfl⟩, ⟨hlen, hbit⟩, hp, hw, hsm, hQ⟩ := h
  obtain ⟨dx, fa, ha, hf, ⟨ts, ⟨xs, h1, h2⟩, hn, h0, hc⟩, hlt⟩ := id hS
  have h8 := mem_lt h2
  obtain ⟨c1, c2⟩ := rows_iff hn h0 h8 hc
  refine ⟨_, rfl, _, _, _, _, true, rfl, .ty "tuple", tyx_tup hfl, kit_self, _, rfl, iteF ?_⟩
  refine ⟨_, rfl, _, _, rfl, .inr hfl, _, rfl, a, dx, _, rfl, ha, rfl, _, rfl, φ, a, l, c, p, rfl, hS, hp, hw, fun H1 r e1 r0 r1 => ⟨_, _, rfl, rfl, _, rfl, ?_⟩⟩
  rw [decide_eq_false (show ¬ (((f.map V.int).length : Int) < r) by rw [List.length_map, hlen]; omega)]
  refine iteF ?_
  refine ⟨_, rfl, fl, rfl, ⟨_, hfl.ext e1⟩, fun D hD => ?_⟩
  refine lc_it (walk_tup (K := K) (a := fl) (xs := f.map V.int)) (fun i H' => Ext H1 H' ∧ H' D = some (.lst ((List.replicate i true).map V.bl))) ⟨Ext.upd hD, upd_same⟩ (fun i H' _ z => hfl.ext (e1.trans z.1)) (fun i x H' H'' hi z y => ?_) fun H2 z => ?_
  · obtain ⟨z1, z2⟩ := z
    obtain ⟨rfl, hx⟩ := y
    rw [List.getElem?_map] at hx
    obtain ⟨k, hk, rfl⟩ := Option.map_eq_some_iff.mp hx
    rw [List.length_map] at hi
    have hb := hbit k (List.mem_of_getElem? hk)
    refine ⟨rfl, t_yes ⟨_, rfl, _, rfl, k, rfl, _, rfl, iteT ?_⟩⟩
    refine ⟨_, rfl, _, _, rfl, rfl, _, rfl, ?_⟩
    rw [decide_eq_true (show (0 : Int) ≤ k by omega)]
    refine iteT ⟨_, _, rfl, rfl, _, z2, ?_, z1.wr hD, ?_⟩
    · rw [List.length_map, List.length_replicate]
      exact Nat.lt_of_le_of_lt (show i ≤ 8 by omega) (by decide)
    · rw [upd_same, List.replicate_succ', List.map_append]
      show some (HO.lst (_ ++ [V.bl (decide (k ≤ 1))])) = _
      rw [decide_eq_true (show k ≤ 1 by omega)]
      rfl
  obtain ⟨e2, z2⟩ := z
  rw [List.length_map] at z2
  have hall : (List.replicate f.length true).all id = true := by
    rw [List.all_eq_true]
    intro b hb
    rw [List.eq_of_mem_replicate hb]
    rfl
  refine ⟨D, List.replicate f.length true, rfl, SqL.of z2, _, rfl, ?_⟩
  rw [hall]
  refine iteF ?_
  have e12 := e1.trans e2
  refine ⟨_, rfl, _, _, _, _, _, rfl, e12 _ _ ha, T.c_Sum, T.n_Sum_row, rfl, l, rfl, ⟨xs, h1.ext e12⟩, ?_⟩
  have z0 : NumV K φ H2 (.ref (He.ga K "ZERO")) 0 := ⟨_, rfl, by rw [Fd.enc_zero]; exact T.z0 H2⟩
  have hlx : xs.length = ts.length := Paired.length h2
  refine for_list (K := K) (xs := xs) (fun i σ H' => Ext H H' ∧ ∃ fv o1 o2 o3 o4, σ = [some (.ref a), some (.ref fl), o1, some fv, o2, o3, o4] ∧ NumV K φ H' fv (lsum c (((ts.take i).map (·.1)).filter (on f)))) ⟨e12, _, _, _, _, _, rfl, z0⟩ (fun i σ H' _ z => SqL.ext h1 z.1) (fun i x σ H3 hx z => ?_) fun σ H3 z => ?_
  · obtain ⟨e3, fv, o1, o2, o3, o4, rfl, hfv⟩ := z
    obtain ⟨t, ht, ⟨ta, pv, nv, rfl, g1, g2, ⟨b, rfl, g3⟩, g4⟩⟩ := paired_at h2 hx
    have htm := List.mem_of_getElem? ht
    have tk : ts.take (i + 1) = ts.take i ++ [t] := by rw [List.take_add_one, ht]; rfl
    have hj := h8 t htm
    have hsub : ∀ i, ((((ts.take i).map (·.1)).filter (on f)).Nodup ∧ ∀ j ∈ ((ts.take i).map (·.1)).filter (on f), j < 8) := fun i =>
      ⟨List.Nodup.sublist (List.filter_sublist.trans ((List.take_sublist i ts).map _)) hn, fun j hjm => by
        obtain ⟨u, hu, rfl⟩ := List.mem_map.mp (List.mem_filter.mp hjm).1
        exact h8 u (List.mem_of_mem_take hu)⟩
    refine ⟨ta, _, rfl, g1.ext e3, rfl, _, _, rfl, _, _, rfl, rfl, ?_⟩
    refine ⟨_, rfl, b, rfl, ⟨_, g3.ext e3⟩, fun D2 hD2 => ?_⟩
    refine lc_it (walk_tup (K := K) (a := b) (xs := (prd t.1).map V.int)) (fun m H' => Ext H3 H' ∧ H' D2 = some (.lst (((onB f t.1).take m).map V.bl))) ⟨Ext.upd hD2, upd_same⟩ (fun m H' _ z => g3.ext (e3.trans z.1)) (fun m x H4 H5 hm z y => ?_) fun H4 z => ?_
    · obtain ⟨y1, y2⟩ := z
      obtain ⟨rfl, hxm⟩ := y
      rw [List.getElem?_map] at hxm
      obtain ⟨k, hk, rfl⟩ := Option.map_eq_some_iff.mp hxm
      have hkm : k ∈ prd t.1 := List.mem_of_getElem? hk
      have hin := hw t.1 hj (by rw [c1 t htm]; exact h0 t htm)
      have hkp : 0 ≤ k ∧ k < p := ⟨(prd_bd t.1 hj k hkm).1, of_decide_eq_true (List.all_eq_true.mp hin k hkm)⟩
      have ek : (k : Int) = ((k.toNat : Nat) : Int) := by omega
      have hkl : k.toNat < f.length := by omega
      have hat : f[k.toNat]? = some (f.getD k.toNat 0) := by
        rw [List.getElem?_eq_getElem hkl]
        simp [List.getD_eq_getElem?_getD, hkl]
      have hon : (onB f t.1)[m]? = some (decide (V.int (f.getD k.toNat 0) = V.int 1)) := by
        unfold onB
        rw [List.getElem?_map, hk]
        rfl
      have tko : (onB f t.1).take (m + 1) = (onB f t.1).take m ++ [decide (V.int (f.getD k.toNat 0) = V.int 1)] := by rw [List.take_add_one, hon]; rfl
      refine ⟨rfl, t_yes ⟨_, rfl, _, rfl, fl, _, k, V.int (f.getD k.toNat 0), rfl, rfl, hfl.ext (e3.trans y1), ?_, rfl, _, y2, ?_, y1.wr hD2, ?_⟩⟩
      · rw [ek]
        refine atI_nat ?_
        rw [List.getElem?_map]
        have : ((k.toNat : Nat) : Int).toNat = k.toNat := by omega
        rw [this, hat]
        rfl
      · rw [List.length_map]
        have q4 := prd_len t.1 hj
        have q6 : (onB f t.1).length = (prd t.1).length := List.length_map _
        have q5 : ((onB f t.1).take m).length ≤ (onB f t.1).length := by rw [List.length_take]; exact Nat.min_le_right _ _
        exact Nat.lt_of_le_of_lt (show _ ≤ 8 by omega) (by decide)
      · rw [upd_same, tko, List.map_append]
        rfl
    · obtain ⟨y1, y2⟩ := z
      have q6 : (onB f t.1).length = (prd t.1).length := List.length_map _
      rw [List.length_map, ← q6, List.take_length] at y2
      have e4 := e3.trans y1
      refine ⟨D2, onB f t.1, rfl, SqL.of y2, _, rfl, ?_⟩
      show if on f t.1 = true then _ else _
      by_cases hon : on f t.1 = true
      · rw [if_pos hon]
        have fe : ((ts.take (i + 1)).map (·.1)).filter (on f) = ((ts.take i).map (·.1)).filter (on f) ++ [t.1] := by
          rw [tk, List.map_append, List.filter_append]
          congr 1
          show List.filter (on f) [t.1] = [t.1]
          rw [List.filter_cons, if_pos hon]
          rfl
        have ec : c t.1 = t.2 := c1 t htm
        refine ⟨_, rfl, _, _, _, _, _, rfl, e4 _ _ ha, T.c_Sum, T.n_Sum_own_field, rfl, fa, _, _, rfl, (hf.ext e4).choose_spec, rfl, _, rfl, _, rfl, _, _, _, rfl, φ, _, _, fa, rfl, hf.ext e4, hfv.ext y1, g4.ext e4, hsm _ (hsub i).1 (hsub i).2, ?_, fun H5 v5 e5 hv5 => ⟨e4.trans e5, v5, _, _, _, _, rfl, ?_⟩⟩
        · have := hsm [t.1] (by simp) (by simpa using hj)
          have e : lsum c [t.1] = t.2 := by
            show (0 : φ.car) + c t.1 = t.2
            rw [ec]
            grind
          rw [e] at this
          exact this
        · rw [fe, lsum_snoc, ec]
          exact hv5
      · rw [if_neg hon]
        have fe : ((ts.take (i + 1)).map (·.1)).filter (on f) = ((ts.take i).map (·.1)).filter (on f) := by
          rw [tk, List.map_append, List.filter_append]
          have : List.filter (on f) (List.map (·.1) [t]) = [] := by
            show List.filter (on f) [t.1] = []
            rw [List.filter_cons, if_neg hon]
            rfl
          rw [this, List.append_nil]
        refine ⟨e4, fv, _, _, _, _, rfl, ?_⟩
        rw [fe]
        exact hfv.ext y1
  · obtain ⟨e3, fv, o1, o2, o3, o4, rfl, hfv⟩ := z
    rw [hlx, List.take_length] at hfv
    refine ⟨_, rfl, hQ H3 fv _ e3 (List.Nodup.sublist List.filter_sublist hn) (fun j => ?_) hfv⟩
    rw [List.mem_filter]
    constructor
    · rintro ⟨g, hg⟩
      obtain ⟨t, ht, rfl⟩ := List.mem_map.mp g
      exact ⟨h8 t ht, by rw [c1 t ht]; exact h0 t ht, hg⟩
    · rintro ⟨g1, g2, g3⟩
      exact ⟨List.mem_map.mpr ⟨_, c2 j g1 g2, rfl⟩, g3⟩
theorem c_Sum_worth (T : Tx K mg) : C8.Met P w K mg base 4 (He.ga K "Sum") "worth" (S2 (k_Sum_worth K)) [] := met_of T.F_Sum_worth T.c_Sum T.me_Sum_worth sc_Sum_worth (fun _ _ _ _ _ _ us hl => match us, hl with | [_, _], _ => rfl) len2 (b_Sum_worth T)
end
end FS
set_option Elab.async false
set_option linter.all false
set_option maxRecDepth 100000
set_option maxHeartbeats 4000000
namespace FS
open PySem PySem.Spec PyProof.Rows L2
section
variable {P : Program} {w : World} {K : PySem.W.Frag} {mg : PySem.Str → Option Value} {base : Heap}
/-- == of fields by Field's own -/
theorem rc_field {X : Cx} (T : Tx X.K X.mg) : RcG X 1 (DIns (He.ga X.K "Field") (k_Field_eq X.K)) := by
  obtain ⟨f, fd, ps, ds, _, me, F, b, r⟩ := (c_Field_eq (P := X.prog) (w := X.w) (K := X.K) (mg := X.mg) (base := X.base) T).ex
  cases r
  exact rcG_ins (E := C8.E0) F me.at_ me.fn b C8.pass0
theorem FieldAt.din {H : Hp} {a b : Addr} {p : Int} (h1 : FieldAt K H a p) (h2 : FieldAt K H b p) : DIns (He.ga K "Field") (k_Field_eq K) (.ref a) (.ref b) H :=
  let ⟨dx, g1⟩ := h1
  let ⟨dy, g2⟩ := h2
  ⟨a, b, dx, dy, _, _, rfl, rfl, g1, g2, p, h1, h2⟩
/-- wishes: sums within the first p places -/
def WishV (K : PySem.W.Frag) (φ : Fd) (H : Hp) (v : V) (c : Nat → φ.car) : Prop := ∃ a l, v = .ref a ∧ SumL K φ H a l c
theorem WishV.xn {φ : Fd} {H H' : Hp} {v : V} {c : Nat → φ.car} (h : WishV K φ H v c) (e : XN H H') : WishV K φ H' v c := let ⟨a, l, b, d⟩ := h; ⟨a, l, b, d.xn e⟩
def Wishes (K : PySem.W.Frag) (φ : Fd) (H : Hp) (l : Addr) (cs : List (Nat → φ.car)) : Prop := ∃ vs, H l = some (.lst vs) ∧ Paired (WishV K φ H) vs cs
theorem Wishes.xn {φ : Fd} {H H' : Hp} {l : Addr} {cs : List (Nat → φ.car)} (h : Wishes K φ H l cs) (e : XN H H') : Wishes K φ H' l cs := let ⟨vs, a, b⟩ := h; ⟨vs, e _ _ a (fun _ z => by cases z), Paired.mapP b fun _ _ q => q.xn e⟩
def k_is_wish (K : PySem.W.Frag) : K3 := fun x y z H Q => ∃ (φ : Fd) (fa : Addr) (p : Nat) (c : Nat → φ.car), x = .ref fa ∧ y = .int p ∧ WishV K φ H z c ∧ FieldAt K H fa φ.p ∧ p < 4 ∧ Within p c ∧ RetV H (.bl true) Q

abbrev N_is_wish : List PySem.Str := ["field", "places", "thing"]
theorem sc_is_wish : FnScope N_is_wish ["field", "places", "thing"] (defScope s_is_wish) := ⟨rfl, rfl, rfl, by decide +kernel, rfl, by decide +kernel, by decide +kernel⟩
theorem b_is_wish (T : Tx K mg) : Body P w K mg base 2 "is_wish" (defBody s_is_wish) (defScope s_is_wish) N_is_wish (S3 (k_is_wish K)) := fun f cdv A outer s H vs Q E hcd hr h => by
  refine ⟨_, (pss_one (ps_ret (pe_and (pe_callB call_isi (by rfl) T.f_isinstance (by decide +kernel) (pa_cons (pv 2) (pa_cons (pe_glob (v := .ref (He.ga K "Sum")) rfl T.m_Sum rfl) pa_nil))) (pe_and (pe_cmpR (op_eqG (rc_field T) (hr.mono (by decide))) (pe_fld (pv 2) rfl) (pv 0) (nomark _)) (pe_one (pe_cmpR op_le (C8.pe_mt0 (c_Sum_reach T) hr (by decide) (pv 2)) (pv 1) (nomark _))))))), ?_⟩
  obtain ⟨x, y, z, rfl, φ, fa, p, c, rfl, rfl, ⟨a, l, rfl, hS⟩, hf, hp, hw, hQ⟩ := h
  obtain ⟨dx, fb, ha, hfb, hr1⟩ := id hS
  refine ⟨_, rfl, _, _, _, _, true, rfl, .own _, T.ty_Sum ha, kit_self, true, rfl, iteT ?_⟩
  refine ⟨_, rfl, _, _, _, _, _, rfl, ha, T.c_Sum, T.n_Sum_own_field, rfl, _, rfl, hfb.din hf, fun H1 e1 => ⟨true, rfl, iteT ?_⟩⟩
  refine ⟨_, rfl, a, dx, _, rfl, e1 _ _ ha, rfl, _, rfl, φ, a, l, c, p, rfl, hS.xn (.ofX e1), hp, hw, fun H2 r e2 r0 r1 => ⟨_, rfl, _, _, rfl, rfl, ?_⟩⟩
  show Q (.bl (decide (r ≤ (p : Int)))) H2
  rw [decide_eq_true r1]
  exact hQ H2 (e1.trans e2)
theorem c_is_wish (T : Tx K mg) : C8.Cal P w K mg base 3 "is_wish" (S3 (k_is_wish K)) [] := cal_of T.F_is_wish T.m_is_wish sc_is_wish (fun _ _ _ _ _ _ us hl => match us, hl with | [_, _, _], _ => rfl) len3 (b_is_wish T)

def k_look_at_wishes (K : PySem.W.Frag) : K4 := fun x y z u H Q => ∃ (φ : Fd) (fa lw : Addr) (p : Nat) (cs : List (Nat → φ.car)) (part : PySem.Str), x = .ref fa ∧ y = .int p ∧ z = .str part ∧ u = .ref lw ∧ (part = "noughts" ∨ (part = "uppers" ∧ cs = [])) ∧ Wishes K φ H lw cs ∧ FieldAt K H fa φ.p ∧ p < 4 ∧ (∀ c ∈ cs, Within p c) ∧ cs.length ≤ 10 ∧ RetV H .non Q

abbrev N_look_at_wishes : List PySem.Str := ["field", "places", "part", "wishes", "number", "wish"]
theorem sc_look_at_wishes : FnScope N_look_at_wishes ["field", "places", "part", "wishes"] (defScope s_look_at_wishes) := ⟨rfl, rfl, rfl, by decide +kernel, rfl, by decide +kernel, by decide +kernel⟩
theorem b_look_at_wishes (T : Tx K mg) : Body P w K mg base 3 "look_at_wishes" (defBody s_look_at_wishes) (defScope s_look_at_wishes) N_look_at_wishes (S4 (k_look_at_wishes K)) := fun f cdv A outer s H vs Q E hcd hr h => by
  refine ⟨_, (pss_cons (ps_if (PW.pt (pw_or (pt_not (pt_val (pe_callB call_isi (by rfl) T.f_isinstance (by decide +kernel) (pa_cons (pv 3) (pa_cons (pe_bltn (v := .ty "list") (by rfl) T.f_list (by decide +kernel) rfl) pa_nil))))) (pw_or1 (pt_cmpR op_gt (pe_callB call_len_seq (by rfl) T.f_len PySem.boot_len (pa_cons (pv 3) pa_nil)) (C8.pe_gc rfl T.i_MOST_WISHES) (nomark _))))) (pss_one ps_never) pss_nil) (pss_cons (ps_if (PW.pt (pw_and (pt_cmpR op_eq (pv 2) pe_str (nomark _)) (pw_and (pt_cmpR (op_neD (hu64 hr)) (pv 3) (pe_lst pa_nil) (nomark _)) (pw_and1 (pt_cmpR op_ne (C8.pe_mt0 (c_Field_prime T) hr (by decide) (pv 0)) pe_int (nomark _)))))) (pss_one ps_never) pss_nil) (pss_one (ps_for PassesOwn.never rfl (pi_enum rfl T.f_enumerate (pa_cons (pv 3) pa_nil)) (pg_tup rfl (pgs_cons (pg_name (i := 4) sc_look_at_wishes.nd rfl (by first | exact Or.inl rfl | exact Or.inr rfl)) (pgs_cons (pg_name (i := 5) sc_look_at_wishes.nd rfl (by first | exact Or.inl rfl | exact Or.inr rfl)) pgs_nil))) (pss_one (ps_if (pt_not (pt_val (C8.pe_c (c_is_wish T) hr (by decide) rfl (pa_cons (pv 0) (pa_cons (pv 1) (pa_cons (pv 5) pa_nil)))))) (pss_one ps_never) pss_nil)))))), ?_⟩
  obtain ⟨x, y, z, u, rfl, φ, fa, lw, p, cs, part, rfl, rfl, rfl, rfl, hpart, ⟨vs, hl, hpd⟩, hf, hp, hw, hlen, hQ⟩ := h
  have hvl : vs.length = cs.length := Paired.length hpd
  refine ⟨_, rfl, _, _, _, _, true, rfl, .ty "list", .base (.lst hl), kit_self, _, rfl, iteF ?_⟩
  refine ⟨_, rfl, _, _, rfl, .inl (SqL.of hl), _, _, rfl, rfl, _, rfl, ?_⟩
  rw [decide_eq_false (show ¬ ((200 : Int) < (vs.length : Int)) by omega)]
  refine iteF ?_
  have rest : ∀ H1, Ext H H1 → tTest (tOp rNe (tC (.int 0)) (tC (.int 0))) [] H1 (fun _ _ => True) → (iEnum K (tCons (tVar 3) tNil)) [some (.ref fa), some (.int p), some (.str part), some (.ref lw), none, none] H1 (fun J H2 => ∃ W : Nat → Nat → L2.St → Hp → Prop, (∃ m, W 0 m [some (.ref fa), some (.int p), some (.str part), some (.ref lw), none, none] H2) ∧ ∀ i m σ H3, W i m σ H3 →
      (J.stop i H3 ∧ Q .non H3) ∨ (J.go i H3 ∧ ∃ N : L2.St → Hp → Prop, (∀ σ' H', N σ' H' → ∃ m', m' < m ∧ W (i + 1) m' σ' H') ∧ ∀ x H', J.yld i H3 x H' → (gTup K 2 (gCons (gName 4) (gCons (gName 5) gNil))) x σ H' fun σ2 H4 => (tIfS (tNot (tB (tCall (S3 (k_is_wish K)) [] C8.E0 (tCons (tVar 0) (tCons (tVar 1) (tCons (tVar 5) tNil)))))) tNever tNext) { nx := N, rt := Q, ct := N, bk := fun _ H' => Q .non H' } σ2 H4)) := fun H1 e1 _ => by
    refine ⟨_, rfl, lw, vs, rfl, SqL.of (e1 _ _ hl), ?_⟩
    refine for_it walk_enum (D := { nx := fun _ H' => Q .non H', rt := Q }) (fun i σ H' => Ext H H' ∧ ∃ o1 o2, σ = [some (.ref fa), some (.int p), some (.str part), some (.ref lw), o1, o2]) ⟨e1, _, _, rfl⟩ (fun i σ H' _ z => SqL.of (z.1 _ _ hl)) (fun i x σ H2 H3 hi z y => ?_) fun σ H' z => hQ H' z.1
    obtain ⟨e2, o1, o2, rfl⟩ := z
    obtain ⟨Tt, k, v, rfl, hT, rfl, ek, ev⟩ := y
    obtain ⟨c, hc, hv⟩ := paired_at hpd ev
    have e3 := e2.upd' (o := .tup [k, v]) hT
    refine ⟨Tt, _, rfl, SqT.of upd_same, rfl, _, _, rfl, _, _, rfl, rfl, ?_⟩
    refine ⟨_, rfl, _, rfl, _, rfl, _, _, _, rfl, φ, fa, p, c, rfl, rfl, hv.xn (.ofX e3), hf.ext e3, hp, hw c (List.mem_of_getElem? hc), fun H4 e4 => ⟨_, rfl, iteF ⟨e3.trans e4, _, _, rfl⟩⟩⟩
  have triv : ∀ H1, tTest (tOp rNe (tC (.int 0)) (tC (.int 0))) [] H1 (fun _ _ => True) := fun H1 => ⟨rfl, _, rfl, True.intro⟩
  refine ⟨_, rfl, rfl, _, rfl, ?_⟩
  rcases hpart with rfl | ⟨rfl, rfl⟩
  · have e : decide (V.str "noughts" = V.str "uppers") = false := by decide
    rw [e]
    refine iteF ?_
    exact rest H Ext.rfl' (triv H)
  · rw [decide_eq_true rfl]
    refine iteT ?_
    obtain rfl : vs = [] := List.length_eq_zero_iff.mp hvl
    refine ⟨_, rfl, by show 0 ≤ sizeLine; exact Nat.zero_le _, fun q hq => ?_⟩
    have e1 := Ext.upd (o := .lst []) hq
    refine ⟨.list [], .list [], .lst (SqL.of (e1 _ _ hl)) .nil, .lst (SqL.of upd_same) .nil, rfl, rfl, _, rfl, iteF ?_⟩
    exact rest _ e1 (triv _)
theorem c_look_at_wishes (T : Tx K mg) : C8.Cal P w K mg base 4 "look_at_wishes" (S4 (k_look_at_wishes K)) [] := cal_of T.F_look_at_wishes T.m_look_at_wishes sc_look_at_wishes (fun _ _ _ _ _ _ us hl => match us, hl with | [_, _, _, _], _ => rfl) len4 (b_look_at_wishes T)

def fullL (p : Nat) : List Int := (List.range p).map fun i : Nat => (i : Int)
theorem full_ok1 : ∀ p, p < 4 → ∀ ns ∈ permsOf p, ∀ k ∈ ns, k ∈ fullL p := by decide +kernel
theorem full_ok2 : ∀ p, p < 4 → ∀ ns ∈ permsOf p, ∀ k ∈ fullL p, k ∈ ns := by decide +kernel
theorem full_ok3 : ∀ p, p < 4 → (fullL p).Pairwise (· < ·) := by decide +kernel
theorem rg_full (p : Nat) : rgV 0 p = (fullL p).map V.int := by
  unfold rgV fullL
  rw [List.map_map]
  have : ((p : Int) - 0).toNat = p := by omega
  rw [this]
  refine List.map_congr_left fun i _ => ?_
  show V.int (0 + (i : Int)) = V.int (i : Int)
  rw [Int.zero_add]
theorem full_eq {p : Nat} (hp : p < 4) {ns out : List Int} (hns : ns ∈ permsOf p) (h1 : out.Perm ns) (h2 : out.Pairwise (· ≤ ·)) : out = fullL p := by
  have hnd : out.Nodup := h1.nodup_iff.mpr (perm_bd p hp ns hns).2.1
  have hlt : out.Pairwise (· < ·) := List.Pairwise.imp₂ (fun a b (h : a ≤ b) (h' : a ≠ b) => by omega) h2 hnd
  refine sorted_eq hlt (full_ok3 p hp) fun k => ?_
  rw [h1.mem_iff]
  exact ⟨full_ok1 p hp ns hns k, full_ok2 p hp ns hns k⟩
def k_is_order (K : PySem.W.Frag) : K2 := fun x y H Q => ∃ (p : Nat) (lo : Addr) (ns : List Int), x = .int p ∧ y = .ref lo ∧ SqL K H lo (ns.map V.int) ∧ p < 4 ∧ ns ∈ permsOf p ∧ RetV H (.bl true) Q

abbrev N_is_order : List PySem.Str := ["places", "thing", "place"]
theorem sc_is_order : FnScope N_is_order ["places", "thing"] (defScope s_is_order) := ⟨rfl, rfl, rfl, by decide +kernel, rfl, by decide +kernel, by decide +kernel⟩
theorem b_is_order (T : Tx K mg) : Body P w K mg base 1 "is_order" (defBody s_is_order) (defScope s_is_order) N_is_order (S2 (k_is_order K)) := fun f cdv A outer s H vs Q E hcd hr h => by
  refine ⟨_, (pss_cons (ps_if (PW.pt (pw_or (pt_not (pt_val (pe_callB call_isi (by rfl) T.f_isinstance (by decide +kernel) (pa_cons (pv 1) (pa_cons (pe_bltn (v := .ty "list") (by rfl) T.f_list (by decide +kernel) rfl) pa_nil))))) (pw_or1 (pt_not (pt_val (pe_callB (cr_all rfl) (by rfl) T.f_all (by decide +kernel) (pa_cons (pe_lc (own := [("place", 2)]) (g := (gName 2)) (tt := tYes) (te := (tCall (S1 k_is_whole) [] C8.E0 (tCons (tVar 2) tNil))) rfl sc_is_order.nd (pi_list (pv 1)) (blkOk_by (N := N_is_order) (sc := defScope s_is_order) (by decide +kernel)) (fun _ _ _ _ _ => (pg_name (i := 2) sc_is_order.nd rfl (by first | exact Or.inl rfl | exact Or.inr rfl))) (fun _ _ _ _ _ => pts_nil) (fun _ _ _ _ _ => (C8.pe_c (c_is_whole T) hr (by decide) rfl (pa_cons (pv 2) pa_nil)))) pa_nil))))))) (pss_one (ps_ret pe_bl)) pss_nil) (pss_one (ps_ret (pe_cmpR (op_eqD (hu64 hr)) (pe_callB cr_sorted (by rfl) T.f_sorted (by decide +kernel) (pa_cons (pv 1) pa_nil)) (pe_listRg rfl rfl T.f_list (prg_1 rfl T.f_range (pv 0))) (nomark _))))), ?_⟩
  obtain ⟨x, y, rfl, p, lo, ns, rfl, rfl, hlo, hp, hns, hQ⟩ := h
  obtain ⟨q1, q2, q3⟩ := perm_bd p hp ns hns
  refine ⟨_, rfl, _, _, _, _, true, rfl, .ty "list", tyx_lst hlo, kit_self, _, rfl, iteF ?_⟩
  refine ⟨_, rfl, lo, rfl, ⟨_, hlo⟩, fun D hD => ?_⟩
  refine lc_list (K := K) (xs := ns.map V.int) (fun i H' => Ext H H' ∧ H' D = some (.lst ((List.replicate i true).map V.bl))) ⟨Ext.upd hD, upd_same⟩ (fun i H' _ z => SqL.ext hlo z.1) (fun i x H' hx z => ?_) fun H2 z => ?_
  · obtain ⟨z1, z2⟩ := z
    rw [List.getElem?_map] at hx
    obtain ⟨k, hk, rfl⟩ := Option.map_eq_some_iff.mp hx
    have hi : i < ns.length := (List.getElem?_eq_some_iff.mp hk).1
    refine ⟨rfl, t_yes ⟨_, rfl, _, rfl, k, rfl, _, z2, ?_, z1.wr hD, ?_⟩⟩
    · rw [List.length_map, List.length_replicate]
      exact Nat.lt_of_le_of_lt (show i ≤ 8 by omega) (by decide)
    · rw [upd_same, List.replicate_succ', List.map_append]
      rfl
  obtain ⟨e2, z2⟩ := z
  rw [List.length_map] at z2
  have hall : (List.replicate ns.length true).all id = true := by
    rw [List.all_eq_true]
    intro b hb
    rw [List.eq_of_mem_replicate hb]
    rfl
  refine ⟨D, List.replicate ns.length true, rfl, SqL.of z2, _, rfl, ?_⟩
  rw [hall]
  refine iteF ?_
  refine ⟨_, rfl, lo, ns, rfl, hlo.ext e2, by omega, fun out q hpm hle hq => ?_⟩
  refine ⟨_, rfl, p, rfl, RgOk.of_le (by omega) (by omega) (by omega) (by omega), fun r hr1 => ?_⟩
  have e3 := (e2.upd' (o := .lst (out.map V.int)) hq).upd' (o := .lst (rgV 0 p)) hr1
  have eo := full_eq hp hns hpm hle
  refine ⟨.list (out.map .int), .list (out.map .int), .lst (SqL.of (by rw [upd_ne (ne_of_none upd_same hr1)]; exact upd_same)) (dpAll_ints _), .lst (SqL.of (by rw [rg_full, ← eo]; exact upd_same)) (dpAll_ints _), ?_, ?_, ?_⟩
  · rw [eo]
    have : ∀ p, p < 4 → SeqAt.shaped (.list ((fullL p).map .int)) = true := by decide +kernel
    exact this p hp
  · rw [eo]
    have : ∀ p, p < 4 → SeqAt.shaped (.list ((fullL p).map .int)) = true := by decide +kernel
    exact this p hp
  · have : PyData.eqv (.list (out.map .int)) (.list (out.map .int)) = true := by
      rw [eo]
      have : ∀ p, p < 4 → PyData.eqv (.list ((fullL p).map .int)) (.list ((fullL p).map .int)) = true := by decide +kernel
      exact this p hp
    rw [this]
    exact hQ _ e3
theorem c_is_order (T : Tx K mg) : C8.Cal P w K mg base 2 "is_order" (S2 (k_is_order K)) [] := cal_of T.F_is_order T.m_is_order sc_is_order (fun _ _ _ _ _ _ us hl => match us, hl with | [_, _], _ => rfl) len2 (b_is_order T)
end
end FS
set_option Elab.async false
set_option linter.all false
set_option maxRecDepth 100000
set_option maxHeartbeats 4000000
namespace FS
open PySem PySem.Spec PyProof.Rows L2
section
variable {P : Program} {w : World} {K : PySem.W.Frag} {mg : PySem.Str → Option Value} {base : Heap}
/-- a system: its field, places, wishes -/
def SysAt (K : PySem.W.Frag) (φ : Fd) (H : Hp) (a : Addr) (p : Nat) (cs : List (Nat → φ.car)) : Prop := ∃ dx fa ln lu, H a = some (.ins (He.ga K "System") dx [("own_field", .ref fa), ("many_places", .int p), ("nought_sums", .ref ln), ("upper_sums", .ref lu)]) ∧
  FieldAt K H fa φ.p ∧ Wishes K φ H ln cs ∧ H lu = some (.lst [])
theorem SysAt.xn {φ : Fd} {H H' : Hp} {a : Addr} {p : Nat} {cs : List (Nat → φ.car)} (h : SysAt K φ H a p cs) (e : XN H H') : SysAt K φ H' a p cs :=
  let ⟨dx, fa, ln, lu, h1, h2, h3, h4⟩ := h
  ⟨dx, fa, ln, lu, e _ _ h1 (fun _ z => by cases z), h2.xn e, h3.xn e, e _ _ h4 (fun _ z => by cases z)⟩
/-- all but the thing at a stays -/
def ExB (a : Addr) (H H' : Hp) : Prop := ∀ b o, b ≠ a → H b = some o → H' b = some o
theorem ExB.ofX {a : Addr} {H H' : Hp} (e : Ext H H') : ExB a H H' := fun b o _ h => e b o h
theorem ExB.trans {a : Addr} {H H1 H2 : Hp} (x : ExB a H H1) (y : ExB a H1 H2) : ExB a H H2 := fun b o n h => y b o n (x b o n h)
theorem ExB.wr {a : Addr} {H H1 : Hp} {o : HO} (x : ExB a H H1) : ExB a H (upd H1 a o) := fun b u n h => by
  rw [upd_ne n]
  exact x b u n h
/-- what is no table and no code, and stands elsewhere than a -/
theorem ExB.tups {a : Addr} {H H' : Hp} (x : ExB a H H') (n : NoTup (H a)) : Tups H H' := ⟨fun b xs h => x b _ (fun z => by rw [z] at h; exact (n xs).1 h) h, fun b o xs h => x b _ (fun z => by rw [z] at h; exact (n xs).2 o h) h⟩
theorem ins_noTup {H : Hp} {a C dx : Addr} {fs : List (PySem.Str × V)} (h : H a = some (.ins C dx fs)) : NoTup (H a) := fun xs => ⟨fun z => (by rw [h] at z; cases z), fun ob z => (by rw [h] at z; cases z)⟩
theorem RowsAt.exb {φ : Fd} {H H' : Hp} {a l : Addr} {c : Nat → φ.car} (h : RowsAt K φ H l c) (x : ExB a H H') (n : NoTup (H a)) (hl : l ≠ a) : RowsAt K φ H' l c := by
  obtain ⟨ts, ⟨xs, h1, h2⟩, h3⟩ := h
  refine ⟨ts, ⟨xs, ?_, paired_tp h2 (x.tups n)⟩, h3⟩
  rcases h1 with (h1 | ⟨ob, h1⟩) | h1
  · exact .inl (.inl (x _ _ hl h1))
  · exact .inl (.inr ⟨ob, x _ _ hl h1⟩)
  · exact .inr h1
theorem FieldAt.exb {H H' : Hp} {a b : Addr} {p : Int} (h : FieldAt K H b p) (x : ExB a H H') (hb : b ≠ a) : FieldAt K H' b p := let ⟨dx, h⟩ := h; ⟨dx, x _ _ hb h⟩
theorem TabsK.exb {H H' : Hp} {a : Addr} {u : HO} (h : TabsK K H) (x : ExB a H H') (ha : H a = some u) (nt : ∀ ps, u ≠ .tbl ps) (nc : ∀ c q, u ≠ LamX.CodeO c q) : TabsK K H' := fun p hp => by
  obtain ⟨ps, h1, h2, h3⟩ := h p hp
  refine ⟨ps, x _ _ (fun z => ?_) h1, h2, fun pos cv hc => ?_⟩
  · rw [z, ha] at h1
    exact nt ps (Option.some.inj h1)
  · obtain ⟨c, e1, e2⟩ := h3 pos cv hc
    refine ⟨c, e1, x _ _ (fun z => ?_) e2⟩
    rw [z, ha] at e2
    exact nc _ _ (Option.some.inj e2)
/-- a sum whose rows stand elsewhere than D, after a write at the list D -/
theorem SumL.exb {φ : Fd} {H H' : Hp} {D b l : Addr} {c : Nat → φ.car} {xs : List V} (h : SumL K φ H b l c) (x : ExB D H H') (hD : H D = some (.lst xs)) (hl : l ≠ D) : SumL K φ H' b l c := by
  obtain ⟨dx, fa, h1, ⟨dy, h2⟩, h3, ys, h4⟩ := h
  have n : NoTup (H D) := fun ys => ⟨fun z => (by rw [hD] at z; cases z), fun ob z => (by rw [hD] at z; cases z)⟩
  have n1 : b ≠ D := fun z => by rw [z, hD] at h1; cases h1
  have n2 : fa ≠ D := fun z => by rw [z, hD] at h2; cases h2
  exact ⟨dx, fa, x _ _ n1 h1, ⟨dy, x _ _ n2 h2⟩, h3.exb x n hl, ys, x _ _ hl h4⟩
def k_System_init (K : PySem.W.Frag) : K5 := fun x y z u v H Q => ∃ (φ : Fd) (a dx fa lw : Addr) (p : Nat) (cs : List (Nat → φ.car)), x = .ref a ∧ y = .ref fa ∧ z = .int p ∧ u = .ref lw ∧ H a = some (.ins (He.ga K "System") dx []) ∧ FieldAt K H fa φ.p ∧ 1 ≤ p ∧ p < 4 ∧ Wishes K φ H lw cs ∧ (∀ c ∈ cs, Within p c) ∧ cs.length ≤ 10 ∧
  (v = .non ∨ ∃ lu, v = .ref lu ∧ H lu = some (.lst [])) ∧ ∀ H', ExB a H H' → SysAt K φ H' a p cs → Q .non H'

abbrev N_System_init : List PySem.Str := ["self", "field", "places", "noughts", "uppers"]
theorem sc_System_init : FnScope N_System_init ["self", "field", "places", "noughts", "uppers"] (defScope s_System_init) := ⟨rfl, rfl, rfl, by decide +kernel, rfl, by decide +kernel, by decide +kernel⟩
theorem b_System_init (T : Tx K mg) : Body P w K mg base 4 "System.__init__" (defBody s_System_init) (defScope s_System_init) N_System_init (S5 (k_System_init K)) := fun f cdv A outer s H vs Q E hcd hr h => by
  refine ⟨_, (pss_cons (ps_if (pt_not (pt_val (pe_callB call_isi (by rfl) T.f_isinstance (by decide +kernel) (pa_cons (pv 1) (pa_cons (pe_glob (v := .ref (He.ga K "Field")) rfl T.m_Field rfl) pa_nil))))) (pss_one ps_never) pss_nil) (pss_cons (ps_if (PW.pt (pw_or (pt_not (pt_val (C8.pe_c (c_is_whole T) hr (by decide) rfl (pa_cons (pv 2) pa_nil)))) (pw_or1 (pt_not (pt_chain op_le op_le pe_int (pv 2) (C8.pe_gc rfl T.i_MOST_PLACES_sums)))))) (pss_one ps_never) pss_nil) (pss_cons (ps_expr (C8.pe_c (c_look_at_wishes T) hr (by decide) rfl (pa_cons (pv 1) (pa_cons (pv 2) (pa_cons pe_str (pa_cons (pv 3) pa_nil)))))) (pss_cons (ps_if (pt_cmpR op_isN (pv 4) pe_non (nomark _)) (pss_one (ps_set (i := 4) sc_System_init.nd rfl (by first | exact Or.inl rfl | exact Or.inr rfl) (pe_lst pa_nil))) pss_nil) (pss_cons (ps_expr (C8.pe_c (c_look_at_wishes T) hr (by decide) rfl (pa_cons (pv 1) (pa_cons (pv 2) (pa_cons pe_str (pa_cons (pv 4) pa_nil)))))) (pss_cons (ps_fld (pv 0) (pv 1) rfl) (pss_cons (ps_fld (pv 0) (pv 2) rfl) (pss_cons (ps_fld (pv 0) (pe_callTy call_list_of (by rfl) T.f_list (by decide +kernel) (pa_cons (pv 3) pa_nil)) rfl) (pss_one (ps_fld (pv 0) (pe_callTy call_list_of (by rfl) T.f_list (by decide +kernel) (pa_cons (pv 4) pa_nil)) rfl)))))))))), ?_⟩
  obtain ⟨x, y, z, u, v, rfl, φ, a, dx, fa, lw, p, cs, rfl, rfl, rfl, rfl, ha, hf, hp1, hp, hW, hw, hlen, hv, hQ⟩ := h
  obtain ⟨dz, hf'⟩ := id hf
  have hfa : fa ≠ a := fun z => by
    rw [z, ha] at hf'
    injection hf' with hf'
    injection hf' with _ _ hf'
    cases hf'
  refine ⟨_, rfl, _, _, _, _, true, rfl, .own _, T.ty_Field hf', kit_self, _, rfl, iteF ?_⟩
  refine ⟨_, rfl, _, rfl, (p : Int), rfl, _, rfl, iteF ?_⟩
  refine ⟨_, rfl, _, _, rfl, rfl, _, rfl, ?_⟩
  rw [decide_eq_true (show (1 : Int) ≤ (p : Int) by omega)]
  refine iteT ⟨_, _, rfl, rfl, _, rfl, ?_⟩
  rw [decide_eq_true (show (p : Int) ≤ 60 by omega)]
  refine iteF ?_
  refine ⟨_, rfl, _, rfl, _, rfl, _, _, _, _, rfl, φ, fa, lw, p, cs, "noughts", rfl, rfl, rfl, rfl, .inl rfl, hW, hf, hp, hw, hlen, fun H1 e1 => ?_⟩
  have fin : ∀ (H2 : Hp) (lu : Addr), Ext H H2 → H2 lu = some (.lst []) → (tSeq (tDrop (tCall (S4 (k_look_at_wishes K)) [] C8.E0 (tCons (tVar 1) (tCons (tVar 2) (tCons (tC (.str "uppers")) (tCons (tVar 4) tNil)))))) (tSeq (sFld K (tVar 0) (tVar 1) "own_field") (tSeq (sFld K (tVar 0) (tVar 2) "many_places")
      (tSeq (sFld K (tVar 0) (tCB (rListS K) (tCons (tVar 3) tNil)) "nought_sums") (sFld K (tVar 0) (tCB (rListS K) (tCons (tVar 4) tNil)) "upper_sums"))))) { nx := fun _ H' => Q .non H', rt := Q } [some (.ref a), some (.ref fa), some (.int p), some (.ref lw), some (.ref lu)] H2 := fun H2 lu e2 hlu => by
    refine ⟨_, rfl, _, rfl, _, rfl, _, _, _, _, rfl, φ, fa, lu, p, [], "uppers", rfl, rfl, rfl, rfl, .inr ⟨rfl, rfl⟩, ⟨[], hlu, .nil⟩, hf.ext e2, hp, (fun _ z => nomatch z), Nat.zero_le _, fun H3 e3 => ?_⟩
    have e23 := e2.trans e3
    have ha3 := e23 _ _ ha
    refine ⟨_, rfl, _, rfl, a, _, dx, [], rfl, ha3, T.c_System, T.n_System_own_field, by show (0 : Nat) < 1000; decide, ?_⟩
    refine ⟨_, rfl, _, rfl, a, _, dx, _, rfl, upd_same, T.c_System, T.n_System_many_places, by show (1 : Nat) < 1000; decide, ?_⟩
    rw [upd_upd]
    obtain ⟨vs, hlw, hpd⟩ := id hW
    have hlwa : lw ≠ a := fun z => by rw [z, ha] at hlw; cases hlw
    have hlua : lu ≠ a := fun z => by rw [z, e2 _ _ ha] at hlu; cases hlu
    have x3 : ExB a H (upd H3 a (.ins (He.ga K "System") dx [("own_field", .ref fa), ("many_places", .int p)])) := (ExB.ofX e23).wr
    refine ⟨_, rfl, lw, vs, rfl, .inl (SqL.of (x3 _ _ hlwa hlw)), fun q hq => ?_⟩
    have hqa : a ≠ q := ne_of_none upd_same hq
    refine ⟨_, rfl, a, _, dx, _, rfl, by rw [upd_ne hqa]; exact upd_same, T.c_System, T.n_System_nought_sums, by show (2 : Nat) < 1000; decide, ?_⟩
    have x4 : ExB a H (upd (upd (upd H3 a (.ins (He.ga K "System") dx [("own_field", .ref fa), ("many_places", .int p)])) q (.lst vs)) a (.ins (He.ga K "System") dx [("own_field", .ref fa), ("many_places", .int p), ("nought_sums", .ref q)])) :=
      ExB.wr (x3.trans (ExB.ofX (Ext.upd hq)))
    have hlu4 : upd (upd (upd H3 a (.ins (He.ga K "System") dx [("own_field", .ref fa), ("many_places", .int p)])) q (.lst vs)) a (.ins (He.ga K "System") dx [("own_field", .ref fa), ("many_places", .int p), ("nought_sums", .ref q)]) lu = some (.lst []) := by
      have g : upd H3 a (.ins (He.ga K "System") dx [("own_field", .ref fa), ("many_places", .int p)]) lu = some (.lst []) := by
        rw [upd_ne hlua]
        exact e3 _ _ hlu
      rw [upd_ne hlua, upd_ne (ne_of_none g hq)]
      exact g
    refine ⟨_, rfl, lu, [], rfl, .inl (SqL.of hlu4), fun r hr1 => ?_⟩
    have hra : a ≠ r := ne_of_none upd_same hr1
    refine ⟨_, rfl, a, _, dx, _, rfl, by rw [upd_ne hra]; exact upd_same, T.c_System, T.n_System_upper_sums, by show (3 : Nat) < 1000; decide, ?_⟩
    have x5 := (x4.trans (ExB.ofX (Ext.upd (o := .lst []) hr1))).wr (o := .ins (He.ga K "System") dx [("own_field", .ref fa), ("many_places", .int p), ("nought_sums", .ref q), ("upper_sums", .ref r)])
    have hqr : q ≠ r := ne_of_none (o := .lst vs) (by rw [upd_ne (Ne.symm hqa)]; exact upd_same) hr1
    refine hQ _ x5 ⟨dx, fa, q, r, upd_same, hf.exb x5 hfa, ⟨vs, ?_, ?_⟩, ?_⟩
    · rw [upd_ne (Ne.symm hqa), upd_ne hqr, upd_ne (Ne.symm hqa)]
      exact upd_same
    · have nt := ins_noTup ha
      have go : ∀ (H9 : Hp), ExB a H H9 → ∀ (us : List V) (ds : List (Nat → φ.car)), Paired (WishV K φ H) us ds → Paired (WishV K φ H9) us ds := by
        intro H9 x5 us ds hpd'
        induction hpd' with
        | nil => exact .nil
        | @cons v c us ds r q ih =>
          refine .cons ?_ ih
          obtain ⟨b, l, rfl, hS⟩ := r
          obtain ⟨dy, fb, h1, h2, h3, ys, h4⟩ := hS
          have nb : b ≠ a := fun z => by
            rw [z, ha] at h1
            injection h1 with h1
            injection h1 with _ _ h1
            cases h1
          have n2 : fb ≠ a := fun z => by
            obtain ⟨dw, h2⟩ := h2
            rw [z, ha] at h2
            injection h2 with h2
            injection h2 with _ _ h2
            cases h2
          have n3 : l ≠ a := fun z => by rw [z, ha] at h4; cases h4
          exact ⟨b, l, rfl, dy, fb, x5 _ _ nb h1, h2.exb x5 n2, h3.exb x5 nt n3, ys, x5 _ _ n3 h4⟩
      exact go _ x5 vs cs hpd
    · rw [upd_ne (Ne.symm hra)]
      exact upd_same
  rcases hv with rfl | ⟨lu, rfl, hlu⟩
  · refine ⟨_, rfl, rfl, _, rfl, iteT ?_⟩
    refine ⟨by show 0 ≤ sizeLine; exact Nat.zero_le _, fun q hq => ?_⟩
    exact fin _ q (e1.upd' hq) upd_same
  · refine ⟨_, rfl, rfl, _, rfl, iteF ?_⟩
    exact fin H1 lu e1 (e1 _ _ hlu)
theorem c_System_init (T : Tx K mg) : C8.Mak P w K mg base 5 "System" (He.ga K "System") (S5 (k_System_init K)) [] := mak_ofD 5 1 T.F_System_init (by simp) rfl T.m_System T.k_System sc_System_init (fun Ta kV doc pm an cdv ct us its hl hi => match us, its, hl, hi with | [_, _, _, _, _], [_], _, _ => ⟨_, rfl, rfl⟩) len5 (b_System_init T)

theorem c_System_init4 (T : Tx K mg) : C8.Mak P w K mg base 5 "System" (He.ga K "System") (S5 (k_System_init K)) [.non] := mak_ofD 4 0 T.F_System_init (by simp) rfl T.m_System T.k_System sc_System_init (fun Ta kV doc pm an cdv ct us its hl hi => match us, its, hl, hi with | [_, _, _, _], [_], _, _ => ⟨_, rfl, rfl⟩) len5 (b_System_init T)
end
end FS
set_option Elab.async false
set_option linter.all false
set_option maxRecDepth 100000
set_option maxHeartbeats 4000000
namespace FS
open PySem PySem.Spec PyProof.Rows L2
section
variable {P : Program} {w : World} {K : PySem.W.Frag} {mg : PySem.Str → Option Value} {base : Heap}
def k_System_field (K : PySem.W.Frag) : K1 := fun x H Q => ∃ (φ : Fd) (a : Addr) (p : Nat) (cs : List (Nat → φ.car)), x = .ref a ∧ SysAt K φ H a p cs ∧ ∀ fa, FieldAt K H fa φ.p → Q (.ref fa) H
def k_System_places (K : PySem.W.Frag) : K1 := fun x H Q => ∃ (φ : Fd) (a : Addr) (p : Nat) (cs : List (Nat → φ.car)), x = .ref a ∧ SysAt K φ H a p cs ∧ Q (.int p) H
def k_System_noughts (K : PySem.W.Frag) : K1 := fun x H Q => ∃ (φ : Fd) (a : Addr) (p : Nat) (cs : List (Nat → φ.car)) (H0 : Hp), x = .ref a ∧ SysAt K φ H0 a p cs ∧ Ext H0 H ∧ ∀ H' q vs, Ext H H' → H q = none → H' q = some (.lst vs) → Paired (WishV K φ H0) vs cs → Q (.ref q) H'
def maxDeg {α : Type} [Lean.Grind.Field α] [DecidableEq α] (cs : List (Nat → α)) : Nat := (cs.map degM).foldl max 0
def k_System_top (K : PySem.W.Frag) : K1 := fun x H Q => ∃ (φ : Fd) (a : Addr) (p : Nat) (cs : List (Nat → φ.car)), x = .ref a ∧ SysAt K φ H a p cs ∧ cs.length ≤ 10 ∧ ∀ H', Ext H H' → Q (.int ((p + maxDeg cs : Nat) : Int)) H'
theorem foldl_max_zero {l : List Nat} {m : Nat} (hm : m ∈ l) (h : ∀ x ∈ l, x ≤ m) : l.foldl max 0 = m := Nat.le_antisymm (foldl_max_le l 0 m (Nat.zero_le _) h) (le_foldl_max l 0 m (.inr hm))

abbrev N_System_field : List PySem.Str := ["self"]
theorem sc_System_field : FnScope N_System_field ["self"] (defScope s_System_field) := ⟨rfl, rfl, rfl, by decide +kernel, rfl, by decide +kernel, by decide +kernel⟩
theorem b_System_field (T : Tx K mg) : Body P w K mg base 0 "System.field" (defBody s_System_field) (defScope s_System_field) N_System_field (S1 (k_System_field K)) := fun f cdv A outer s H vs Q E hcd hr h => by
  refine ⟨_, (pss_one (ps_ret (pe_fld (pv 0) rfl))), ?_⟩
  obtain ⟨x, rfl, φ, a, p, cs, rfl, ⟨dx, fa, ln, lu, ha, hf, hW, hu⟩, hQ⟩ := h
  exact ⟨_, rfl, _, _, _, _, _, rfl, ha, T.c_System, T.n_System_own_field, rfl, hQ fa hf⟩
theorem c_System_field (T : Tx K mg) : C8.Met P w K mg base 1 (He.ga K "System") "field" (S1 (k_System_field K)) [] := met_of T.F_System_field T.c_System T.me_System_field sc_System_field (fun _ _ _ _ _ _ us hl => match us, hl with | [_], _ => rfl) len1 (b_System_field T)

abbrev N_System_places : List PySem.Str := ["self"]
theorem sc_System_places : FnScope N_System_places ["self"] (defScope s_System_places) := ⟨rfl, rfl, rfl, by decide +kernel, rfl, by decide +kernel, by decide +kernel⟩
theorem b_System_places (T : Tx K mg) : Body P w K mg base 0 "System.places" (defBody s_System_places) (defScope s_System_places) N_System_places (S1 (k_System_places K)) := fun f cdv A outer s H vs Q E hcd hr h => by
  refine ⟨_, (pss_one (ps_ret (pe_fld (pv 0) rfl))), ?_⟩
  obtain ⟨x, rfl, φ, a, p, cs, rfl, ⟨dx, fa, ln, lu, ha, hf, hW, hu⟩, hQ⟩ := h
  exact ⟨_, rfl, _, _, _, _, _, rfl, ha, T.c_System, T.n_System_many_places, rfl, hQ⟩
theorem c_System_places (T : Tx K mg) : C8.Met P w K mg base 1 (He.ga K "System") "places" (S1 (k_System_places K)) [] := met_of T.F_System_places T.c_System T.me_System_places sc_System_places (fun _ _ _ _ _ _ us hl => match us, hl with | [_], _ => rfl) len1 (b_System_places T)

abbrev N_System_noughts : List PySem.Str := ["self"]
theorem sc_System_noughts : FnScope N_System_noughts ["self"] (defScope s_System_noughts) := ⟨rfl, rfl, rfl, by decide +kernel, rfl, by decide +kernel, by decide +kernel⟩
theorem b_System_noughts (T : Tx K mg) : Body P w K mg base 0 "System.noughts" (defBody s_System_noughts) (defScope s_System_noughts) N_System_noughts (S1 (k_System_noughts K)) := fun f cdv A outer s H vs Q E hcd hr h => by
  refine ⟨_, (pss_one (ps_ret (pe_callTy call_list_of (by rfl) T.f_list (by decide +kernel) (pa_cons (pe_fld (pv 0) rfl) pa_nil)))), ?_⟩
  obtain ⟨x, rfl, φ, a, p, cs, H0, rfl, ⟨dx, fa, ln, lu, ha, hf, ⟨vs, hl, hp⟩, hu⟩, e0, hQ⟩ := h
  exact ⟨_, rfl, _, _, _, _, _, rfl, e0 _ _ ha, T.c_System, T.n_System_nought_sums, rfl, ln, vs, rfl, .inl (SqL.of (e0 _ _ hl)), fun q hq => hQ _ q vs (Ext.upd hq) hq upd_same hp⟩
theorem c_System_noughts (T : Tx K mg) : C8.Met P w K mg base 1 (He.ga K "System") "noughts" (S1 (k_System_noughts K)) [] := met_of T.F_System_noughts T.c_System T.me_System_noughts sc_System_noughts (fun _ _ _ _ _ _ us hl => match us, hl with | [_], _ => rfl) len1 (b_System_noughts T)

abbrev N_System_top : List PySem.Str := ["self", "wish"]
theorem sc_System_top : FnScope N_System_top ["self"] (defScope s_System_top) := ⟨rfl, rfl, rfl, by decide +kernel, rfl, by decide +kernel, by decide +kernel⟩
theorem b_System_top (T : Tx K mg) : Body P w K mg base 1 "System.top" (defBody s_System_top) (defScope s_System_top) N_System_top (S1 (k_System_top K)) := fun f cdv A outer s H vs Q E hcd hr h => by
  refine ⟨_, (pss_one (ps_ret (pe_op op_add (pe_fld (pv 0) rfl) (pe_callBK (cr_maxDef rfl) (by rfl) T.f_max (by decide +kernel) (pa_cons (pe_lc (own := [("wish", 1)]) (g := (gName 1)) (tt := tYes) (te := (tMeth (He.ga K "Sum") "degree" (S1 (k_Sum_degree K)) [] C8.E0 (tVar 1) tNil)) rfl sc_System_top.nd (pi_list (pe_op op_cat (pe_fld (pv 0) rfl) (pe_fld (pv 0) rfl))) (blkOk_by (N := N_System_top) (sc := defScope s_System_top) (by decide +kernel)) (fun _ _ _ _ _ => (pg_name (i := 1) sc_System_top.nd rfl (by first | exact Or.inl rfl | exact Or.inr rfl))) (fun _ _ _ _ _ => pts_nil) (fun _ _ _ _ _ => (C8.pe_mt0 (c_Sum_degree T) hr (by decide) (pv 1)))) pa_nil) (pk_cons pe_int pk_nil))))), ?_⟩
  obtain ⟨x, rfl, φ, a, p, cs, rfl, ⟨dx, fa, ln, lu, ha, hf, ⟨vs, hl, hpd⟩, hu⟩, hlen, hQ⟩ := h
  have hvl : vs.length = cs.length := Paired.length hpd
  refine ⟨_, rfl, _, _, _, _, _, rfl, ha, T.c_System, T.n_System_many_places, rfl, ?_⟩
  refine ⟨_, rfl, _, _, _, _, _, rfl, ha, T.c_System, T.n_System_nought_sums, rfl, _, rfl, _, _, _, _, _, rfl, ha, T.c_System, T.n_System_upper_sums, rfl, ln, lu, vs, [], rfl, rfl, hl, hu, ?_, fun q hq => ?_⟩
  · show vs.length + 0 ≤ sizeLine
    exact Nat.le_trans (show _ ≤ 10 by omega) (by decide)
  rw [List.append_nil]
  refine ⟨q, rfl, ⟨vs, SqL.of upd_same⟩, fun D hD => ?_⟩
  have e0 := Ext.upd (o := .lst vs) hq
  refine lc_list (K := K) (xs := vs) (fun i H' => Ext (upd H q (.lst vs)) H' ∧ H' D = some (.lst (((cs.take i).map fun c => ((degM c : Nat) : Int)).map V.int))) ⟨Ext.upd hD, upd_same⟩ (fun i H' _ z => SqL.of (z.1 _ _ upd_same)) (fun i x H' hx z => ?_) fun H' z => ?_
  · obtain ⟨z1, z2⟩ := z
    obtain ⟨c, hc, ⟨b, l, rfl, hS⟩⟩ := paired_at hpd hx
    have tk : cs.take (i + 1) = cs.take i ++ [c] := by rw [List.take_add_one, hc]; rfl
    have hS2 := hS.xn (.ofX (e0.trans z1))
    obtain ⟨dy, fb, hb, _⟩ := id hS2
    refine ⟨rfl, t_yes ⟨_, rfl, b, dy, _, rfl, hb, rfl, _, rfl, φ, b, l, c, rfl, hS2, fun H2 e2 => ⟨_, e2 _ _ z2, ?_, (z1.trans e2).wr hD, ?_⟩⟩⟩
    · rw [List.length_map, List.length_map]
      have q2 : (cs.take i).length ≤ cs.length := by rw [List.length_take]; exact Nat.min_le_right _ _
      exact Nat.lt_of_le_of_lt (show _ ≤ 10 by omega) (by decide)
    · rw [upd_same, tk, List.map_append, List.map_append]
      rfl
  · obtain ⟨z1, z2⟩ := z
    rw [hvl, List.take_length] at z2
    have eZ := e0.trans z1
    refine ⟨D, cs.map fun c => ((degM c : Nat) : Int), 0, rfl, rfl, SqL.of z2, fun e => ?_, fun m hm hmax => ?_⟩
    · have : cs = [] := List.map_eq_nil_iff.mp e
      refine ⟨_, _, rfl, rfl, ?_⟩
      have h9 := hQ H' eZ
      rw [this] at h9
      exact h9
    · refine ⟨_, _, rfl, rfl, ?_⟩
      obtain ⟨c, hc, rfl⟩ := List.mem_map.mp hm
      have e1 : maxDeg cs = degM c := foldl_max_zero (List.mem_map.mpr ⟨c, hc, rfl⟩) fun y hy => by
        obtain ⟨d, hd, rfl⟩ := List.mem_map.mp hy
        exact Int.ofNat_le.mp (hmax _ (List.mem_map.mpr ⟨d, hd, rfl⟩))
      have h9 := hQ H' eZ
      rw [e1] at h9
      have e2 : (p : Int) + ((degM c : Nat) : Int) = ((p + degM c : Nat) : Int) := by omega
      show Q (.int ((p : Int) + ((degM c : Nat) : Int))) H'
      rw [e2]
      exact h9
theorem c_System_top (T : Tx K mg) : C8.Met P w K mg base 2 (He.ga K "System") "top" (S1 (k_System_top K)) [] := met_of T.F_System_top T.c_System T.me_System_top sc_System_top (fun _ _ _ _ _ _ us hl => match us, hl with | [_], _ => rfl) len1 (b_System_top T)

def k_System_renamed (K : PySem.W.Frag) : K2 := fun x y H Q => ∃ (φ : Fd) (a lo : Addr) (p : Nat) (cs : List (Nat → φ.car)) (ns : List Int), x = .ref a ∧ y = .ref lo ∧ SysAt K φ H a p cs ∧ SqL K H lo (ns.map V.int) ∧ ns ∈ permsOf p ∧ 1 ≤ p ∧ p < 4 ∧ cs.length ≤ 10 ∧ (∀ c ∈ cs, Within p c) ∧ TabsK K H ∧
  Small φ 0 ∧ (∀ c ∈ cs, ∀ j, j < 8 → Small φ (c j)) ∧ ∀ H' b cs', XN H H' → TabsK K H' → NewIn H b → SysAt K φ H' b p cs' → Paired (RenOf p ns) cs cs' → Q (.ref b) H'
theorem ren_within {α : Type} [Lean.Grind.Field α] {p : Nat} (hp : p < 4) {ns : List Int} (hns : ns ∈ permsOf p) {c c' : Nat → α} (h : RenOf p ns c c') : Within p c' := fun i hi hne => by
  obtain ⟨j, hj, hin, rfl⟩ := h.off i hi hne
  exact (rn_ok1 p hp ns hns j hj hin).2.1
/-- new wishes, none of their rows at D -/
def WishD (K : PySem.W.Frag) (φ : Fd) (H : Hp) (D : Addr) (v : V) (c : Nat → φ.car) : Prop := ∃ a l, v = .ref a ∧ SumL K φ H a l c ∧ l ≠ D
theorem WishD.xn {φ : Fd} {H H' : Hp} {D : Addr} {v : V} {c : Nat → φ.car} (h : WishD K φ H D v c) (e : XN H H') : WishD K φ H' D v c := let ⟨a, l, b, d, n⟩ := h; ⟨a, l, b, d.xn e, n⟩
theorem WishD.wr {φ : Fd} {H H' : Hp} {D : Addr} {v : V} {c : Nat → φ.car} {xs : List V} (h : WishD K φ H D v c) (x : ExB D H H') (hD : H D = some (.lst xs)) : WishD K φ H' D v c := let ⟨a, l, b, d, n⟩ := h; ⟨a, l, b, d.exb x hD n, n⟩
theorem WishD.ww {φ : Fd} {H : Hp} {D : Addr} {v : V} {c : Nat → φ.car} (h : WishD K φ H D v c) : WishV K φ H v c := let ⟨a, l, b, d, n⟩ := h; ⟨a, l, b, d⟩
theorem lst_noTup {H : Hp} {a : Addr} {xs : List V} (h : H a = some (.lst xs)) : NoTup (H a) := fun ys => ⟨fun z => (by rw [h] at z; cases z), fun ob z => (by rw [h] at z; cases z)⟩

abbrev N_System_renamed : List PySem.Str := ["self", "order", "noughts", "wish"]
theorem sc_System_renamed : FnScope N_System_renamed ["self", "order"] (defScope s_System_renamed) := ⟨rfl, rfl, rfl, by decide +kernel, rfl, by decide +kernel, by decide +kernel⟩
theorem b_System_renamed (T : Tx K mg) (TB : LamX.TabB base mg (He.cT K ("gathered", none)).1 (He.cT K ("gathered", none)).2) : Body P w K mg base 7 "System.renamed" (defBody s_System_renamed) (defScope s_System_renamed) N_System_renamed (S2 (k_System_renamed K)) := fun f cdv A outer s H vs Q E hcd hr h => by
  have nt_ins : ∀ {H0 : Hp} {b q : Addr} {u : HO}, NewIn H0 b → H0 q = some u → (∀ ps, u ≠ .tbl ps) → q = b → False := fun n hq nt z => by
    rw [z] at hq
    obtain ⟨ps, e⟩ := n _ hq
    exact nt ps e
  refine ⟨_, (pss_cons (ps_if (pt_not (pt_val (C8.pe_c (c_is_order T) hr (by decide) rfl (pa_cons (pe_fld (pv 0) rfl) (pa_cons (pv 1) pa_nil))))) (pss_one ps_never) pss_nil) (pss_cons (ps_setLc (i := 2) (own := [("wish", 3)]) (g := (gName 3)) (tt := tYes) (te := (tMeth (He.ga K "Sum") "renamed" (S2 (k_Sum_renamed K)) [] C8.E0 (tVar 3) (tCons (tVar 1) tNil))) rfl sc_System_renamed.nd rfl rfl (sw_true rfl rfl rfl (by decide +kernel)) (pi_list (pe_fld (pv 0) rfl)) (blkOk_by (N := N_System_renamed) (sc := defScope s_System_renamed) (by decide +kernel)) (fun _ _ _ _ _ => (pg_name (i := 3) sc_System_renamed.nd rfl (by first | exact Or.inl rfl | exact Or.inr rfl))) (fun _ _ _ _ _ => pts_nil) (fun _ _ _ _ _ => (C8.pe_mt (c_Sum_renamed T TB) hr (by decide) (pv 3) (pa_cons (pv 1) pa_nil)))) (pss_one (ps_ret (C8.pe_mk (c_System_init T) hr (by decide) rfl (pa_cons (pe_fld (pv 0) rfl) (pa_cons (pe_fld (pv 0) rfl) (pa_cons (pv 2) (pa_cons (pe_lc (own := [("wish", 3)]) (g := (gName 3)) (tt := tYes) (te := (tMeth (He.ga K "Sum") "renamed" (S2 (k_Sum_renamed K)) [] C8.E0 (tVar 3) (tCons (tVar 1) tNil))) rfl sc_System_renamed.nd (pi_list (pe_fld (pv 0) rfl)) (blkOk_by (N := N_System_renamed) (sc := defScope s_System_renamed) (by decide +kernel)) (fun _ _ _ _ _ => (pg_name (i := 3) sc_System_renamed.nd rfl (by first | exact Or.inl rfl | exact Or.inr rfl))) (fun _ _ _ _ _ => pts_nil) (fun _ _ _ _ _ => (C8.pe_mt (c_Sum_renamed T TB) hr (by decide) (pv 3) (pa_cons (pv 1) pa_nil)))) pa_nil))))))))), ?_⟩
  obtain ⟨x, y, rfl, φ, a, lo, p, cs, ns, rfl, rfl, hS, hlo, hns, hp1, hp, hlen, hw, hTb, s0, sc, hQ⟩ := h
  obtain ⟨dx, fa, ln, lu, ha, hf, ⟨vs, hl, hpd⟩, hu⟩ := id hS
  have hvl : vs.length = cs.length := Paired.length hpd
  refine ⟨_, rfl, _, _, _, _, _, rfl, ha, T.c_System, T.n_System_many_places, rfl, _, rfl, _, _, rfl, p, lo, ns, rfl, rfl, hlo, hp, hns, fun H1 e1 => ⟨_, rfl, iteF ?_⟩⟩
  refine ⟨_, rfl, _, _, _, _, _, rfl, e1 _ _ ha, T.c_System, T.n_System_nought_sums, rfl, ln, rfl, ⟨vs, SqL.of (e1 _ _ hl)⟩, fun D hD => ?_⟩
  have hD0 : H D = none := fresh_of e1 hD
  refine lc_list (K := K) (xs := vs) (fun i H' => XN H H' ∧ TabsK K H' ∧ ∃ acc cs', H' D = some (.lst acc) ∧ Paired (WishD K φ H' D) acc cs' ∧ Paired (RenOf p ns) (cs.take i) cs') ⟨(XN.ofX (e1.trans (Ext.upd hD))), hTb.x (e1.trans (Ext.upd hD)), [], [], upd_same, .nil, .nil⟩ (fun i H' _ z => SqL.of (z.1 _ _ hl (fun _ z => by cases z))) (fun i x H2 hx z => ?_) fun H2 z => ?_
  · obtain ⟨z1, z2, acc, cs', z3, z4, z5⟩ := z
    obtain ⟨c, hc, ⟨b, l, rfl, hSb⟩⟩ := paired_at hpd hx
    have hcm := List.mem_of_getElem? hc
    have tk : cs.take (i + 1) = cs.take i ++ [c] := by rw [List.take_add_one, hc]; rfl
    have hS2 := hSb.xn z1
    obtain ⟨dy, fb, hb, _⟩ := id hS2
    have hlo2 : SqL K H2 lo (ns.map V.int) := sql_extN hlo z1
    refine ⟨rfl, t_yes ⟨_, rfl, b, dy, _, rfl, hb, rfl, _, rfl, _, _, rfl, φ, b, l, lo, c, p, ns, rfl, rfl, hS2, hlo2, hp, hns, hw c hcm, z2, s0, sc c hcm, fun H3 d m c' x3 t3 n3 m3 s3 r3 => ?_⟩⟩
    have z3' := x3 _ _ z3 (fun _ z => by cases z)
    have xb : ExB D H3 (upd H3 D (.lst (acc ++ [.ref d]))) := fun q u nq hq => by
      rw [upd_ne nq]
      exact hq
    refine ⟨acc, z3', ?_, XN.wr (z1.trans x3) (.of hD0), t3.wr z3' (fun _ z => by cases z) lst_no_code, acc ++ [.ref d], cs' ++ [c'], upd_same, ?_, ?_⟩
    · have q2 : acc.length = cs'.length := Paired.length z4
      have q3 : (cs.take i).length = cs'.length := Paired.length z5
      have q4 : (cs.take i).length ≤ cs.length := by rw [List.length_take]; exact Nat.min_le_right _ _
      exact Nat.lt_of_le_of_lt (show acc.length ≤ 10 by omega) (by decide)
    · exact paired_append (Paired.mapP z4 fun _ _ q => (q.xn x3).wr xb z3') (.cons ⟨d, m, rfl, s3.exb xb z3' (fun z => m3.ne z3 (fun _ z => by cases z) z.symm), fun z => m3.ne z3 (fun _ z => by cases z) z.symm⟩ .nil)
    · rw [tk]
      exact paired_append z5 (.cons r3 .nil)
  · obtain ⟨x2, t2, acc, cs', z3, z4, z5⟩ := z
    rw [hvl, List.take_length] at z5
    have ha2 := x2 _ _ ha (fun _ z => by cases z)
    refine ⟨_, rfl, _, _, _, _, _, rfl, ha2, T.c_System, T.n_System_own_field, rfl, ?_⟩
    refine ⟨_, rfl, _, _, _, _, _, rfl, ha2, T.c_System, T.n_System_many_places, rfl, _, rfl, ?_⟩
    refine ⟨_, rfl, _, _, _, _, _, rfl, ha2, T.c_System, T.n_System_upper_sums, rfl, lu, rfl, ⟨[], SqL.of (x2 _ _ hu (fun _ z => by cases z))⟩, fun D2 hD2 => ?_⟩
    refine lc_list (K := K) (xs := []) (fun i H' => H' = upd H2 D2 (.lst [])) rfl (fun i H' _ z => SqL.of (by rw [z, upd_ne (ne_of_none (x2 _ _ hu (fun _ z => by cases z)) hD2)]; exact x2 _ _ hu (fun _ z => by cases z))) (fun i x H3 hx z => by cases hx) fun H3 z => ?_
    subst z
    intro b dy hb hdy hne
    have eN : Ext H2 (upd (upd (upd H2 D2 (.lst [])) dy (.own b)) b (.ins (He.ga K "System") dy [])) := ((Ext.upd hD2).upd' hdy).upd' (by rw [upd_ne (Ne.symm hne)]; exact hb)
    have x3 := x2.trans (XN.ofX eN)
    have hb2 : H2 b = none := fresh_of (Ext.upd hD2) hb
    have nlu : D2 ≠ b := ne_of_none upd_same hb
    have ndy : D2 ≠ dy := ne_of_none upd_same hdy
    refine ⟨_, _, _, _, _, rfl, φ, b, dy, fa, D, p, cs', rfl, rfl, rfl, rfl, upd_same, hf.xn x3, hp1, hp, ⟨acc, eN _ _ z3, Paired.mapP z4 fun _ _ q => (q.xn (.ofX eN)).ww⟩, fun c' hc' => ?_, ?_, .inr ⟨D2, rfl, by rw [upd_ne nlu, upd_ne ndy]; exact upd_same⟩, fun H9 x9 s9 => ⟨rfl, ?_⟩⟩
    · have go : ∀ {us ds : List (Nat → φ.car)}, Paired (RenOf p ns) us ds → ∀ d ∈ ds, Within p d := by
        intro us ds hh
        induction hh with
        | nil => intro d hd; cases hd
        | cons r q ih =>
          intro d hd
          rcases List.mem_cons.mp hd with z | z
          · rw [z]; exact ren_within hp hns r
          · exact ih d z
      exact go z5 c' hc'
    · have : cs.length = cs'.length := Paired.length z5
      omega
    · have nb : NewIn H b := fun o eo => by
        refine Classical.byContradiction fun nt => ?_
        have := x2 _ _ eo fun ps q => nt ⟨ps, q⟩
        rw [hb2] at this
        cases this
      have x9' : XN H H9 := fun q u hq nt => x9 q u (fun z => nt_ins nb hq nt z) (x3 q u hq nt)
      exact hQ H9 b cs' x9' (((t2.x eN)).exb x9 upd_same (fun _ z => by cases z) ins_no_code) nb s9 z5
theorem c_System_renamed (T : Tx K mg) (TB : LamX.TabB base mg (He.cT K ("gathered", none)).1 (He.cT K ("gathered", none)).2) : C8.Met P w K mg base 8 (He.ga K "System") "renamed" (S2 (k_System_renamed K)) [] := met_of T.F_System_renamed T.c_System T.me_System_renamed sc_System_renamed (fun _ _ _ _ _ _ us hl => match us, hl with | [_, _], _ => rfl) len2 (b_System_renamed T TB)
end
end FS
set_option Elab.async false
set_option linter.all false
set_option maxRecDepth 100000
set_option maxHeartbeats 4000000
namespace FS
open PySem PySem.Spec PyProof.Rows L2
section
variable {P : Program} {w : World} {K : PySem.W.Frag} {mg : PySem.Str → Option Value} {base : Heap}
/-- an expression that is not reached -/
theorem pe_nev {X : Cx} {e : Expr} : PE X e (fun _ _ _ => False) := ⟨fun _ _ _ _ _ _ h => h.elim⟩
theorem lsum_fold {α : Type} [Lean.Grind.Field α] (c : Nat → α) (js : List Nat) (a : α) : js.foldl (fun a j => a + c j) a = a + lsum c js := by
  unfold lsum
  induction js generalizing a with
  | nil => show a = a + 0; grind
  | cons j r ih =>
    rw [List.foldl_cons, List.foldl_cons, ih, ih (0 + c j)]
    grind
theorem lsum_cons {α : Type} [Lean.Grind.Field α] (c : Nat → α) (j : Nat) (js : List Nat) : lsum c (j :: js) = c j + lsum c js := by
  show (j :: js).foldl _ _ = _
  rw [List.foldl_cons, lsum_fold]
  grind
theorem lsum_perm {α : Type} [Lean.Grind.Field α] (c : Nat → α) {js ks : List Nat} (p : js.Perm ks) : lsum c js = lsum c ks := by
  induction p with
  | nil => rfl
  | cons x p ih => rw [lsum_cons, lsum_cons, ih]
  | swap x y l =>
    rw [lsum_cons, lsum_cons, lsum_cons, lsum_cons]
    grind
  | trans p q ih1 ih2 => exact ih1.trans ih2
/-- the worth of a sum at a filling -/
def evalC {α : Type} [Lean.Grind.Field α] [DecidableEq α] (c : Nat → α) (f : List Int) : α := lsum c ((List.range 8).filter fun j => decide (c j ≠ 0) && on f j)
theorem eval_js {α : Type} [Lean.Grind.Field α] [DecidableEq α] {c : Nat → α} {f : List Int} {js : List Nat} (hn : js.Nodup) (h : ∀ j, j ∈ js ↔ (j < 8 ∧ c j ≠ 0 ∧ on f j = true)) : lsum c js = evalC c f := by
  refine lsum_perm c ((List.perm_ext_iff_of_nodup hn (List.Nodup.sublist List.filter_sublist List.nodup_range)).mpr fun j => ?_)
  rw [h j, List.mem_filter, List.mem_range, Bool.and_eq_true, decide_eq_true_iff]
def grantsM {α : Type} [Lean.Grind.Field α] [DecidableEq α] (cs : List (Nat → α)) (f : List Int) : Bool := cs.all fun c => decide (evalC c f = 0)
def k_is_row (K : PySem.W.Frag) : K2 := fun x y H Q => ∃ (p : Nat) (f : List Int), x = .int p ∧ FillV K H y f ∧ IsFill p f ∧ p < 4 ∧ RetV H (.bl true) Q

abbrev N_is_row : List PySem.Str := ["places", "thing", "one"]
theorem sc_is_row : FnScope N_is_row ["places", "thing"] (defScope s_is_row) := ⟨rfl, rfl, rfl, by decide +kernel, rfl, by decide +kernel, by decide +kernel⟩
theorem b_is_row (T : Tx K mg) : Body P w K mg base 1 "is_row" (defBody s_is_row) (defScope s_is_row) N_is_row (S2 (k_is_row K)) := fun f cdv A outer s H vs Q E hcd hr h => by
  refine ⟨_, (pss_cons (ps_if (PW.pt (pw_or (pt_not (pt_val (pe_callB call_isi (by rfl) T.f_isinstance (by decide +kernel) (pa_cons (pv 1) (pa_cons (pe_bltn (v := .ty "tuple") (by rfl) T.f_tuple (by decide +kernel) rfl) pa_nil))))) (pw_or1 (pt_cmpR op_ne (pe_callB call_len_seq (by rfl) T.f_len PySem.boot_len (pa_cons (pv 1) pa_nil)) (pv 0) (nomark _))))) (pss_one (ps_ret pe_bl)) pss_nil) (pss_one (ps_ret (pe_callB (cr_all rfl) (by rfl) T.f_all (by decide +kernel) (pa_cons (pe_lc (own := [("one", 2)]) (g := (gName 2)) (tt := tYes) (te := (tAndV (tCall (S1 k_is_whole) [] C8.E0 (tCons (tVar 2) tNil)) (tChain rLe rLe (tC (.int 0)) (tVar 2) (tC (.int 1))))) rfl sc_is_row.nd (pi_tup (pv 1)) (blkOk_by (N := N_is_row) (sc := defScope s_is_row) (by decide +kernel)) (fun _ _ _ _ _ => (pg_name (i := 2) sc_is_row.nd rfl (by first | exact Or.inl rfl | exact Or.inr rfl))) (fun _ _ _ _ _ => pts_nil) (fun _ _ _ _ _ => (pe_and (C8.pe_c (c_is_whole T) hr (by decide) rfl (pa_cons (pv 2) pa_nil)) (pe_one (pe_chain op_le op_le pe_int (pv 2) pe_int))))) pa_nil))))), ?_⟩
  obtain ⟨x, y, rfl, p, f, rfl, ⟨fl, rfl, hfl⟩, ⟨hlen, hbit⟩, hp, hQ⟩ := h
  refine ⟨_, rfl, _, _, _, _, true, rfl, .ty "tuple", tyx_tup hfl, kit_self, _, rfl, iteF ?_⟩
  refine ⟨_, rfl, _, _, rfl, .inr hfl, _, rfl, rfl, _, rfl, ?_⟩
  have en : (!decide (V.int (((f.map V.int).length : Nat) : Int) = V.int ((p : Nat) : Int))) = false := by
    rw [List.length_map, hlen, decide_eq_true rfl]
    rfl
  rw [en]
  refine iteF ?_
  refine ⟨_, rfl, fl, rfl, ⟨_, hfl⟩, fun D hD => ?_⟩
  refine lc_it (walk_tup (K := K) (a := fl) (xs := f.map V.int)) (fun i H' => Ext H H' ∧ H' D = some (.lst ((List.replicate i true).map V.bl))) ⟨Ext.upd hD, upd_same⟩ (fun i H' _ z => hfl.ext z.1) (fun i x H' H'' hi z y => ?_) fun H2 z => ?_
  · obtain ⟨z1, z2⟩ := z
    obtain ⟨rfl, hx⟩ := y
    rw [List.getElem?_map] at hx
    obtain ⟨k, hk, rfl⟩ := Option.map_eq_some_iff.mp hx
    rw [List.length_map] at hi
    have hb := hbit k (List.mem_of_getElem? hk)
    refine ⟨rfl, t_yes ⟨_, rfl, _, rfl, k, rfl, _, rfl, iteT ?_⟩⟩
    refine ⟨_, rfl, _, _, rfl, rfl, _, rfl, ?_⟩
    rw [decide_eq_true (show (0 : Int) ≤ k by omega)]
    refine iteT ⟨_, _, rfl, rfl, _, z2, ?_, z1.wr hD, ?_⟩
    · rw [List.length_map, List.length_replicate]
      exact Nat.lt_of_le_of_lt (show i ≤ 8 by omega) (by decide)
    · rw [upd_same, List.replicate_succ', List.map_append]
      show some (HO.lst (_ ++ [V.bl (decide (k ≤ 1))])) = _
      rw [decide_eq_true (show k ≤ 1 by omega)]
      rfl
  obtain ⟨e2, z2⟩ := z
  rw [List.length_map] at z2
  have hall : (List.replicate f.length true).all id = true := by
    rw [List.all_eq_true]
    intro b hb
    rw [List.eq_of_mem_replicate hb]
    rfl
  refine ⟨D, List.replicate f.length true, rfl, SqL.of z2, ?_⟩
  rw [hall]
  exact hQ H2 e2
theorem c_is_row (T : Tx K mg) : C8.Cal P w K mg base 2 "is_row" (S2 (k_is_row K)) [] := cal_of T.F_is_row T.m_is_row sc_is_row (fun _ _ _ _ _ _ us hl => match us, hl with | [_, _], _ => rfl) len2 (b_is_row T)

def k_grants (K : PySem.W.Frag) : K3 := fun x y z H Q => ∃ (φ : Fd) (a : Addr) (p : Nat) (cs : List (Nat → φ.car)) (f : List Int), x = .ref a ∧ z = .bl false ∧ SysAt K φ H a p cs ∧ FillV K H y f ∧ IsFill p f ∧ p < 4 ∧ cs.length ≤ 10 ∧ (∀ c ∈ cs, Within p c ∧ SubSm φ c) ∧ RetV H (.bl (grantsM cs f)) Q

abbrev N_grants : List PySem.Str := ["system", "row", "sided", "wish"]
theorem sc_grants : FnScope N_grants ["system", "row", "sided"] (defScope s_grants) := ⟨rfl, rfl, rfl, by decide +kernel, rfl, by decide +kernel, by decide +kernel⟩
theorem b_grants (T : Tx K mg) : Body P w K mg base 4 "grants" (defBody s_grants) (defScope s_grants) N_grants (S3 (k_grants K)) := fun f cdv A outer s H vs Q E hcd hr h => by
  refine ⟨_, (pss_cons (ps_if (pt_not (pt_val (pe_callB (cr_all rfl) (by rfl) T.f_all (by decide +kernel) (pa_cons (pe_lc (own := [("wish", 3)]) (g := (gName 3)) (tt := tYes) (te := (tOp (rEqD K) (tMeth (He.ga K "Sum") "worth" (S2 (k_Sum_worth K)) [] C8.E0 (tVar 3) (tCons (tVar 1) tNil)) (tC (.ref (He.ga K "ZERO"))))) rfl sc_grants.nd (pi_list (C8.pe_mt0 (c_System_noughts T) hr (by decide) (pv 0))) (blkOk_by (N := N_grants) (sc := defScope s_grants) (by decide +kernel)) (fun _ _ _ _ _ => (pg_name (i := 3) sc_grants.nd rfl (by first | exact Or.inl rfl | exact Or.inr rfl))) (fun _ _ _ _ _ => pts_nil) (fun _ _ _ _ _ => (pe_cmpR (op_eqD (hu64 hr)) (C8.pe_mt (c_Sum_worth T) hr (by decide) (pv 3) (pa_cons (pv 1) pa_nil)) (pe_glob (v := .ref (He.ga K "ZERO")) rfl T.m_ZERO rfl) (nomark _)))) pa_nil)))) (pss_one (ps_ret pe_bl)) pss_nil) (pss_one (ps_ret (pe_or (pe_not (pv 2)) (pe_one pe_nev))))), ?_⟩
  obtain ⟨x, y, z, rfl, φ, a, p, cs, f, rfl, rfl, hS, ⟨fl, rfl, hfl⟩, hf, hp, hlen, hw, hQ⟩ := h
  obtain ⟨dx, fa, ln, lu, ha, _⟩ := id hS
  refine ⟨_, rfl, a, dx, _, rfl, ha, rfl, _, rfl, φ, a, p, cs, H, rfl, hS, Ext.rfl', fun H1 q vs e1 hq hl hpd => ?_⟩
  have hvl : vs.length = cs.length := Paired.length hpd
  refine ⟨q, rfl, ⟨vs, SqL.of hl⟩, fun D hD => ?_⟩
  refine lc_list (K := K) (xs := vs) (fun i H' => Ext H1 H' ∧ H' D = some (.lst (((cs.take i).map fun c => decide (evalC c f = 0)).map V.bl))) ⟨Ext.upd hD, upd_same⟩ (fun i H' _ z => SqL.of (z.1 _ _ hl)) (fun i x H2 hx z => ?_) fun H2 z => ?_
  · obtain ⟨z1, z2⟩ := z
    obtain ⟨c, hc, ⟨b, l, rfl, hSb⟩⟩ := paired_at hpd hx
    have hcm := List.mem_of_getElem? hc
    have tk : cs.take (i + 1) = cs.take i ++ [c] := by rw [List.take_add_one, hc]; rfl
    have hS2 := hSb.xn (.ofX (e1.trans z1))
    obtain ⟨dy, fb, hb, _⟩ := id hS2
    refine ⟨rfl, t_yes ⟨_, rfl, b, dy, _, rfl, hb, rfl, _, rfl, _, _, rfl, φ, b, l, c, p, f, rfl, hS2, ⟨fl, rfl, hfl.ext (e1.trans z1)⟩, hf, hp, (hw c hcm).1, (hw c hcm).2, fun H3 v js e3 hn hj hv => ?_⟩⟩
    rw [eval_js hn hj] at hv
    obtain ⟨vb, rfl, hvb⟩ := hv
    refine ⟨.tuple [.int (φ.enc (evalC c f)).1, .int (φ.enc (evalC c f)).2], .tuple [.int 0, .int 1], .tup hvb (.cons (.int _) (.cons (.int _) .nil)), .tup (T.z0 _) (.cons (.int _) (.cons (.int _) .nil)), rfl, rfl, ?_⟩
    rw [num_ne]
    refine ⟨_, e3 _ _ z2, ?_, (z1.trans e3).wr hD, ?_⟩
    · rw [List.length_map, List.length_map]
      have q2 : (cs.take i).length ≤ cs.length := by rw [List.length_take]; exact Nat.min_le_right _ _
      exact Nat.lt_of_le_of_lt (show _ ≤ 10 by omega) (by decide)
    · rw [upd_same, tk, List.map_append, List.map_append]
      rfl
  · obtain ⟨e2, z2⟩ := z
    rw [hvl, List.take_length] at z2
    refine ⟨D, cs.map fun c => decide (evalC c f = 0), rfl, SqL.of z2, _, rfl, ?_⟩
    have eg : (cs.map fun c => decide (evalC c f = 0)).all id = grantsM cs f := by
      unfold grantsM
      rw [List.all_map]
      rfl
    rw [eg]
    cases hg : grantsM cs f with
    | false =>
      rw [hg] at hQ
      exact iteT (hQ H2 (e1.trans e2))
    | true =>
      rw [hg] at hQ
      exact iteF ⟨_, rfl, _, rfl, _, rfl, iteT (hQ H2 (e1.trans e2))⟩
theorem c_grants (T : Tx K mg) : C8.Cal P w K mg base 5 "grants" (S3 (k_grants K)) [] := cal_of T.F_grants T.m_grants sc_grants (fun _ _ _ _ _ _ us hl => match us, hl with | [_, _, _], _ => rfl) len3 (b_grants T)

def k_is_filling (K : PySem.W.Frag) : K3 := fun x y z H Q => ∃ (φ : Fd) (a : Addr) (p : Nat) (cs : List (Nat → φ.car)) (f : List Int), x = .ref a ∧ z = .bl false ∧ SysAt K φ H a p cs ∧ FillV K H y f ∧ IsFill p f ∧ p < 4 ∧ cs.length ≤ 10 ∧ (∀ c ∈ cs, Within p c ∧ SubSm φ c) ∧ RetV H (.bl (grantsM cs f)) Q

abbrev N_is_filling : List PySem.Str := ["system", "thing", "sided"]
theorem sc_is_filling : FnScope N_is_filling ["system", "thing", "sided"] (defScope s_is_filling) := ⟨rfl, rfl, rfl, by decide +kernel, rfl, by decide +kernel, by decide +kernel⟩
theorem b_is_filling (T : Tx K mg) : Body P w K mg base 5 "is_filling" (defBody s_is_filling) (defScope s_is_filling) N_is_filling (S3 (k_is_filling K)) := fun f cdv A outer s H vs Q E hcd hr h => by
  refine ⟨_, (pss_one (ps_ret (pe_and (C8.pe_c (c_is_row T) hr (by decide) rfl (pa_cons (C8.pe_mt0 (c_System_places T) hr (by decide) (pv 0)) (pa_cons (pv 1) pa_nil))) (pe_one (C8.pe_c (c_grants T) hr (by decide) rfl (pa_cons (pv 0) (pa_cons (pv 1) (pa_cons (pv 2) pa_nil)))))))), ?_⟩
  obtain ⟨x, y, z, rfl, φ, a, p, cs, f, rfl, rfl, hS, hfl, hf, hp, hlen, hw, hQ⟩ := h
  obtain ⟨dx, fa, ln, lu, ha, _⟩ := id hS
  refine ⟨_, rfl, a, dx, _, rfl, ha, rfl, _, rfl, φ, a, p, cs, rfl, hS, _, rfl, _, _, rfl, p, f, rfl, hfl, hf, hp, fun H1 e1 => ⟨_, rfl, iteT ?_⟩⟩
  exact ⟨_, rfl, _, rfl, _, rfl, _, _, _, rfl, φ, a, p, cs, f, rfl, rfl, hS.xn (.ofX e1), hfl.xn (.ofX e1), hf, hp, hlen, hw, fun H2 e2 => hQ H2 (e1.trans e2)⟩
theorem c_is_filling2 (T : Tx K mg) : C8.Cal P w K mg base 6 "is_filling" (S3 (k_is_filling K)) [.bl false] := cal_ofD 2 0 T.F_is_filling (by simp) rfl T.m_is_filling sc_is_filling (fun Ta kV doc pm an cdv ct us its hl hi => match us, its, hl, hi with | [_, _], [_], _, _ => ⟨_, rfl, rfl⟩) len3 (b_is_filling T)

def rowsM : Nat → List (List Int)
  | 0 => [[]]
  | n + 1 => (rowsM n).flatMap fun r => [r ++ [0], r ++ [1]]
theorem rowsM_len : ∀ p, p < 4 → (rowsM p).length ≤ 8 := by decide
theorem rowsM_fill : ∀ p, p < 4 → ∀ f ∈ rowsM p, f.length = p ∧ ∀ b ∈ f, b = 0 ∨ b = 1 := by decide
theorem rowsM_short : ∀ p, p < 4 → ∀ f ∈ rowsM p, f.length ≤ 3 := by decide
/-- a list of fillings -/
def Fills (K : PySem.W.Frag) (H : Hp) (l : Addr) (fs : List (List Int)) : Prop := ∃ vs, H l = some (.lst vs) ∧ Paired (FillV K H) vs fs
def k_rows_of (K : PySem.W.Frag) : K1 := fun x H Q => ∃ p : Nat, x = .int p ∧ p < 4 ∧ ∀ H' q, Ext H H' → H q = none → Fills K H' q (rowsM p) → Q (.ref q) H'
theorem flat_take {α β : Type} {l : List α} {f : α → List β} {i : Nat} {x : α} (h : l[i]? = some x) : (l.take (i + 1)).flatMap f = (l.take i).flatMap f ++ f x := by
  rw [List.take_add_one, h, List.flatMap_append]
  simp
theorem fill_tp {H H' : Hp} {vs : List V} {fs : List (List Int)} (h : Paired (FillV K H) vs fs) (e : Tups H H') : Paired (FillV K H') vs fs := Paired.mapP h fun _ _ ⟨a, b, c⟩ => ⟨a, b, e.sqt c⟩

abbrev N_rows_of : List PySem.Str := ["places", "found", "place", "wider", "row"]
theorem sc_rows_of : FnScope N_rows_of ["places"] (defScope s_rows_of) := ⟨rfl, rfl, rfl, by decide +kernel, rfl, by decide +kernel, by decide +kernel⟩
theorem b_rows_of (T : Tx K mg) : Body P w K mg base 0 "rows_of" (defBody s_rows_of) (defScope s_rows_of) N_rows_of (S1 (k_rows_of K)) := fun f cdv A outer s H vs Q E hcd hr h => by
  refine ⟨_, (pss_cons (ps_set (i := 1) sc_rows_of.nd rfl (by first | exact Or.inl rfl | exact Or.inr rfl) (pe_lst (pa_cons (pe_tup pa_nil) pa_nil))) (pss_cons (ps_for PassesOwn.never rfl (pi_range1 rfl T.f_range (pa_cons (pv 0) pa_nil)) (pg_name (i := 2) sc_rows_of.nd rfl (by first | exact Or.inl rfl | exact Or.inr rfl)) (pss_cons (ps_set (i := 3) sc_rows_of.nd rfl (by first | exact Or.inl rfl | exact Or.inr rfl) (pe_lst pa_nil)) (pss_cons (ps_for PassesOwn.never rfl (pi_list (pv 1)) (pg_name (i := 4) sc_rows_of.nd rfl (by first | exact Or.inl rfl | exact Or.inr rfl)) (pss_one (ps_expr (pe_bm PySem.F.plainAttrs_list PySem.F.slot_list_extend PySem.F.type_list_extend mt_extend (pv 3) (pa_cons (pe_lst (pa_cons (pe_op op_catA (pv 4) (pe_tup (pa_cons pe_int pa_nil))) (pa_cons (pe_op op_catA (pv 4) (pe_tup (pa_cons pe_int pa_nil))) pa_nil))) pa_nil))))) (pss_one (ps_set (i := 1) sc_rows_of.nd rfl (by first | exact Or.inl rfl | exact Or.inr rfl) (pv 3)))))) (pss_one (ps_ret (pv 1))))), ?_⟩
  obtain ⟨x, rfl, p, rfl, hp, hQ⟩ := h
  refine ⟨by show 0 ≤ sizeLine; exact Nat.zero_le _, fun t ht => ⟨by show 1 ≤ sizeLine; decide, fun d hd => ?_⟩⟩
  have e0 : Ext H (upd (upd H t (.tup [])) d (.lst [.ref t])) := (Ext.upd ht).upd' hd
  have hd0 : H d = none := fresh_of (Ext.upd ht) hd
  refine ⟨_, rfl, p, rfl, by omega, by omega, ?_⟩
  refine for_range (lo := 0) (n := p) (fun i σ H' => Ext H H' ∧ ∃ q vs o1 o2 o3, σ = [some (.int p), some (.ref q), o1, o2, o3] ∧ H q = none ∧ H' q = some (.lst vs) ∧ Paired (FillV K H') vs (rowsM i)) ⟨e0, d, [.ref t], _, _, _, rfl, hd0, upd_same, .cons ⟨t, rfl, SqT.of (by rw [upd_ne (ne_of_none upd_same hd)]; exact upd_same)⟩ .nil⟩ (fun i σ H1 hi z => ?_) fun σ H1 z => ?_
  · obtain ⟨e1, q, vs, o1, o2, o3, rfl, hq0, hq, hpd⟩ := z
    have hvl : vs.length = (rowsM i).length := Paired.length hpd
    have hm8 := rowsM_len i (by omega)
    have hm9 := rowsM_len (i + 1) (by omega)
    refine ⟨by show 0 ≤ sizeLine; exact Nat.zero_le _, fun W hW => ?_⟩
    have hW0 : H W = none := fresh_of e1 hW
    have hqW : q ≠ W := ne_of_none hq hW
    refine ⟨_, rfl, q, rfl, ⟨vs, SqL.of (by rw [upd_ne hqW]; exact hq)⟩, ?_⟩
    refine for_list (K := K) (xs := vs) (fun k σ H' => Ext H H' ∧ H' q = some (.lst vs) ∧ Tups H1 H' ∧ ∃ us o3, σ = [some (.int p), some (.ref q), some (.int (0 + (i : Int))), some (.ref W), o3] ∧ H' W = some (.lst us) ∧ Paired (FillV K H') us (((rowsM i).take k).flatMap fun r => [r ++ [0], r ++ [1]])) ⟨e1.wr hW0, by rw [upd_ne hqW]; exact hq, Tups.upd (noTup_none hW), [], _, rfl, upd_same, .nil⟩ (fun k σ H' _ z => SqL.of z.2.1) (fun k x σ H2 hx z => ?_) fun σ H2 z => ?_
    · obtain ⟨e2, hq2, t2, us, o3, rfl, hus, hup⟩ := z
      obtain ⟨r, hr1, ⟨ra, rfl, hra⟩⟩ := paired_at hpd hx
      have hra2 := t2.sqt hra
      have hrm := List.mem_of_getElem? hr1
      have hrl : r.length ≤ 3 := rowsM_short i (by omega) r hrm
      have hlu : us.length ≤ 8 := by
        have g1 : us.length = _ := Paired.length hup
        have g2 : (((rowsM i).take k).flatMap fun r => [r ++ [0], r ++ [1]]).length ≤ (rowsM (i + 1)).length := by
          have : ∀ (l : List (List Int)) (k : Nat), ((l.take k).flatMap fun r => [r ++ [0], r ++ [1]]).length ≤ (l.flatMap fun r => [r ++ [0], r ++ [1]]).length := by
            intro l
            induction l with
            | nil => intro k; simp
            | cons a l ih =>
              intro k
              cases k with
              | zero => simp
              | succ k =>
                rw [List.take_succ_cons, List.flatMap_cons, List.flatMap_cons, List.length_append, List.length_append]
                exact Nat.add_le_add_left (ih k) _
          exact this (rowsM i) k
        omega
      have nW : NoTup (H2 W) := lst_noTup hus
      -- wider.extend([row + (0,), row + (1,)])
      refine ⟨_, rfl, .inl ⟨rfl, _, SqL.of hus⟩, ?_⟩
      refine ⟨_, rfl, by show 1 ≤ sizeLine; decide, fun a0 ha0 => ?_⟩
      have x0 := Ext.upd (o := .tup [.int 0]) ha0
      have cat : ∀ (H3 : Hp) (b : Int) (tb : Addr) (Q3 : VK), SqT K H3 ra (r.map V.int) → SqT K H3 tb [.int b] → (∀ H4 v, Ext H3 H4 → FillV K H4 v (r ++ [b]) → Q3 v H4) → rCatA K (.ref ra) (.ref tb) H3 Q3 := fun H3 b tb Q3 g1 g2 g3 => by
        refine ⟨_, _, _, _, rfl, rfl, g1, g2, ?_, fun e => ?_, fun _ e => (by cases e), fun _ _ c hc => ?_⟩
        · rw [List.length_map]
          exact Nat.le_trans (show _ ≤ 4 by simp; omega) (by decide)
        · refine g3 H3 _ Ext.rfl' ⟨tb, rfl, ?_⟩
          have : r = [] := List.map_eq_nil_iff.mp e
          rw [this]
          exact g2
        · refine g3 _ _ (Ext.upd hc) ⟨c, rfl, SqT.of ?_⟩
          rw [upd_same, List.map_append]
          rfl
      refine cat _ 0 a0 _ (hra2.ext x0) (SqT.of upd_same) fun H3 v0 x1 hv0 => ?_
      refine ⟨_, rfl, by show 1 ≤ sizeLine; decide, fun a1 ha1 => ?_⟩
      have x2 := Ext.upd (o := .tup [.int 1]) ha1
      have x02 := (x0.trans x1).trans x2
      refine cat _ 1 a1 _ (hra2.ext x02) (SqT.of upd_same) fun H4 v1 x3 hv1 => ?_
      refine ⟨by show 2 ≤ sizeLine; decide, fun L hL => ?_⟩
      have x4 := Ext.upd (o := .lst [v0, v1]) hL
      have x34 := x3.trans x4
      have xA := x02.trans x34
      have hWL : W ≠ L := ne_of_none ((x02.trans x3) _ _ hus) hL
      have hv0' := hv0.xn (.ofX (x2.trans x34))
      have hv1' := hv1.xn (.ofX x4)
      have nWA : NoTup (upd H4 L (.lst [v0, v1]) W) := lst_noTup (xA _ _ hus)
      have tpE := Tups.upd (o := .lst (us ++ [v0, v1])) nWA
      refine ⟨W, L, us, [v0, v1], rfl, rfl, xA _ _ hus, upd_same, ?_, (e2.trans xA).wr hW0, ?_, (t2.trans (.ofX xA)).trans tpE, us ++ [v0, v1], _, rfl, upd_same, ?_⟩
      · exact Nat.le_trans (show us.length + 2 ≤ 10 by omega) (by decide)
      · rw [upd_ne hqW]
        exact xA _ _ hq2
      · rw [flat_take hr1]
        refine paired_append (fill_tp (fill_tp hup (.ofX xA)) tpE) (fill_tp (.cons hv0' (.cons hv1' .nil)) tpE)
    · obtain ⟨e2, hq2, t2, us, o3, rfl, hus, hup⟩ := z
      rw [hvl, List.take_length] at hup
      exact ⟨_, rfl, e2, W, us, _, _, _, rfl, hW0, hus, hup⟩
  · obtain ⟨e1, q, vs, o1, o2, o3, rfl, hq0, hq, hpd⟩ := z
    exact ⟨_, rfl, hQ H1 q e1 hq0 ⟨vs, hq, hpd⟩⟩
theorem c_rows_of (T : Tx K mg) : C8.Cal P w K mg base 1 "rows_of" (S1 (k_rows_of K)) [] := cal_of T.F_rows_of T.m_rows_of sc_rows_of (fun _ _ _ _ _ _ us hl => match us, hl with | [_], _ => rfl) len1 (b_rows_of T)

def k_fillings (K : PySem.W.Frag) : K2 := fun x y H Q => ∃ (φ : Fd) (a : Addr) (p : Nat) (cs : List (Nat → φ.car)), x = .ref a ∧ y = .bl false ∧ SysAt K φ H a p cs ∧ p < 4 ∧ cs.length ≤ 10 ∧ (∀ c ∈ cs, Within p c ∧ SubSm φ c) ∧ ∀ H' q, Ext H H' → H q = none → Fills K H' q ((rowsM p).filter (grantsM cs)) → Q (.ref q) H'
theorem filt_take {α : Type} {l : List α} {g : α → Bool} {i : Nat} {x : α} (h : l[i]? = some x) : (l.take (i + 1)).filter g = if g x = true then (l.take i).filter g ++ [x] else (l.take i).filter g := by
  rw [List.take_add_one, h]
  show List.filter g (l.take i ++ [x]) = _
  rw [List.filter_append, List.filter_cons]
  by_cases e : g x = true
  · rw [if_pos e, if_pos e]
    rfl
  · rw [if_neg e, if_neg e]
    simp

abbrev N_fillings : List PySem.Str := ["system", "sided", "row"]
theorem sc_fillings : FnScope N_fillings ["system", "sided"] (defScope s_fillings) := ⟨rfl, rfl, rfl, by decide +kernel, rfl, by decide +kernel, by decide +kernel⟩
theorem b_fillings (T : Tx K mg) : Body P w K mg base 5 "fillings" (defBody s_fillings) (defScope s_fillings) N_fillings (S2 (k_fillings K)) := fun f cdv A outer s H vs Q E hcd hr h => by
  refine ⟨_, (pss_cons (ps_if (pt_cmpR op_gt (C8.pe_mt0 (c_System_places T) hr (by decide) (pv 0)) (C8.pe_gc rfl T.i_MOST_WALKED) (nomark _)) (pss_one ps_never) pss_nil) (pss_one (ps_ret (pe_lc (own := [("row", 2)]) (g := (gName 2)) (tt := (tB (tCall (S3 (k_grants K)) [] C8.E0 (tCons (tVar 0) (tCons (tVar 2) (tCons (tVar 1) tNil)))))) (te := (tVar 2)) rfl sc_fillings.nd (pi_list (C8.pe_c (c_rows_of T) hr (by decide) rfl (pa_cons (C8.pe_mt0 (c_System_places T) hr (by decide) (pv 0)) pa_nil))) (blkOk_by (N := N_fillings) (sc := defScope s_fillings) (by decide +kernel)) (fun _ _ _ _ _ => (pg_name (i := 2) sc_fillings.nd rfl (by first | exact Or.inl rfl | exact Or.inr rfl))) (fun _ _ _ _ _ => (pts_one (pt_val (C8.pe_c (c_grants T) hr (by decide) rfl (pa_cons (pv 0) (pa_cons (pv 2) (pa_cons (pv 1) pa_nil))))))) (fun _ _ _ _ _ => (pv 2)))))), ?_⟩
  obtain ⟨x, y, rfl, φ, a, p, cs, rfl, rfl, hS, hp, hlen, hw, hQ⟩ := h
  obtain ⟨dx, fa, ln, lu, ha, _⟩ := id hS
  refine ⟨_, rfl, a, dx, _, rfl, ha, rfl, _, rfl, φ, a, p, cs, rfl, hS, _, _, rfl, rfl, _, rfl, ?_⟩
  rw [decide_eq_false (show ¬ ((12 : Int) < (p : Int)) by omega)]
  refine iteF ?_
  refine ⟨_, rfl, a, dx, _, rfl, ha, rfl, _, rfl, φ, a, p, cs, rfl, hS, _, rfl, p, rfl, hp, fun H1 q e1 hq ⟨vs, hl, hpd⟩ => ?_⟩
  have hvl : vs.length = (rowsM p).length := Paired.length hpd
  refine ⟨q, rfl, ⟨vs, SqL.of hl⟩, fun D hD => ?_⟩
  have hD0 : H D = none := fresh_of e1 hD
  have hm8 := rowsM_len p hp
  refine lc_list (K := K) (xs := vs) (fun i H' => Ext H1 H' ∧ ∃ us, H' D = some (.lst us) ∧ Paired (FillV K H') us (((rowsM p).take i).filter (grantsM cs))) ⟨Ext.upd hD, [], upd_same, .nil⟩ (fun i H' _ z => SqL.of (z.1 _ _ hl)) (fun i x H2 hx z => ?_) fun H2 z => ?_
  · obtain ⟨z1, us, z2, z3⟩ := z
    obtain ⟨r, hr1, ⟨ra, rfl, hra⟩⟩ := paired_at hpd hx
    have hrm := List.mem_of_getElem? hr1
    obtain ⟨f1, f2⟩ := rowsM_fill p hp r hrm
    have e2 := e1.trans z1
    refine ⟨rfl, _, rfl, _, rfl, _, rfl, _, _, _, rfl, φ, a, p, cs, r, rfl, rfl, hS.xn (.ofX e2), ⟨ra, rfl, hra.ext z1⟩, ⟨f1, f2⟩, hp, hlen, hw, fun H3 e3 => ⟨_, rfl, ?_⟩⟩
    have hus : us.length ≤ 8 := by
      have g1 : us.length = _ := Paired.length z3
      have g2 := List.length_filter_le (grantsM cs) ((rowsM p).take i)
      have g3 : ((rowsM p).take i).length ≤ (rowsM p).length := by rw [List.length_take]; exact Nat.min_le_right _ _
      omega
    have z2' := e3 _ _ z2
    have ft := filt_take (g := grantsM cs) hr1
    cases hg : grantsM cs r with
    | false =>
      rw [if_neg (by rw [hg]; exact Bool.false_ne_true)] at ft
      refine iteF ⟨z1.trans e3, us, z2', ?_⟩
      rw [ft]
      exact fill_tp z3 (.ofX e3)
    | true =>
      rw [if_pos hg] at ft
      have tpE := Tups.upd (o := .lst (us ++ [.ref ra])) (lst_noTup z2')
      refine iteT ⟨_, rfl, us, z2', Nat.lt_of_le_of_lt hus (by decide), (z1.trans e3).wr hD, us ++ [.ref ra], upd_same, ?_⟩
      rw [ft]
      exact paired_append (fill_tp (fill_tp z3 (.ofX e3)) tpE) (.cons ⟨ra, rfl, tpE.sqt (hra.ext (z1.trans e3))⟩ .nil)
  · obtain ⟨z1, us, z2, z3⟩ := z
    rw [hvl, List.take_length] at z3
    exact hQ H2 D (e1.trans z1) hD0 ⟨us, z2, z3⟩
theorem c_fillings1 (T : Tx K mg) : C8.Cal P w K mg base 6 "fillings" (S2 (k_fillings K)) [.bl false] := cal_ofD 1 0 T.F_fillings (by simp) rfl T.m_fillings sc_fillings (fun Ta kV doc pm an cdv ct us its hl hi => match us, its, hl, hi with | [_], [_], _, _ => ⟨_, rfl, rfl⟩) len2 (b_fillings T)
end
end FS
set_option Elab.async false
set_option linter.all false
set_option maxRecDepth 100000
set_option maxHeartbeats 4000000
namespace FS
open PySem PySem.Spec PyProof.Rows L2
section
variable {P : Program} {w : World} {K : PySem.W.Frag} {mg : PySem.Str → Option Value} {base : Heap}
def k_look_at_degree : K1 := fun x H Q => ∃ d : Nat, x = .int d ∧ d ≤ 300 ∧ Q .non H

abbrev N_look_at_degree : List PySem.Str := ["degree"]
theorem sc_look_at_degree : FnScope N_look_at_degree ["degree"] (defScope s_look_at_degree) := ⟨rfl, rfl, rfl, by decide +kernel, rfl, by decide +kernel, by decide +kernel⟩
theorem b_look_at_degree (T : Tx K mg) : Body P w K mg base 1 "look_at_degree" (defBody s_look_at_degree) (defScope s_look_at_degree) N_look_at_degree (S1 k_look_at_degree) := fun f cdv A outer s H vs Q E hcd hr h => by
  refine ⟨_, (pss_one (ps_if (PW.pt (pw_or (pt_not (pt_val (C8.pe_c (c_is_whole T) hr (by decide) rfl (pa_cons (pv 0) pa_nil)))) (pw_or1 (pt_not (pt_chain op_le op_le pe_int (pv 0) (C8.pe_gc rfl T.i_MOST_DEGREE)))))) (pss_one ps_never) pss_nil)), ?_⟩
  obtain ⟨x, rfl, d, rfl, hd, hQ⟩ := h
  refine ⟨_, rfl, _, rfl, (d : Int), rfl, _, rfl, iteF ?_⟩
  refine ⟨_, rfl, _, _, rfl, rfl, _, rfl, ?_⟩
  rw [decide_eq_true (show (0 : Int) ≤ (d : Int) by omega)]
  refine iteT ⟨_, _, rfl, rfl, _, rfl, ?_⟩
  rw [decide_eq_true (show (d : Int) ≤ 300 by omega)]
  exact iteF hQ
theorem c_look_at_degree (T : Tx K mg) : C8.Cal P w K mg base 2 "look_at_degree" (S1 k_look_at_degree) [] := cal_of T.F_look_at_degree T.m_look_at_degree sc_look_at_degree (fun _ _ _ _ _ _ us hl => match us, hl with | [_], _ => rfl) len1 (b_look_at_degree T)

def mM (p : Int) : Nat → Int
  | 0 => 1
  | i + 1 => mM p i * (p - i) / (i + 1)
def fM (p : Int) : Nat → Int
  | 0 => 0
  | i + 1 => fM p i + mM p i
theorem mf_bd : ∀ p : Nat, p < 4 → ∀ i, i < 5 → 0 ≤ mM p i ∧ mM p i < 100 ∧ 0 ≤ fM p i ∧ fM p i ≤ 8 := by decide +kernel
def k_products_many : K2 := fun x y H Q => ∃ p m : Nat, x = .int p ∧ y = .int m ∧ p < 4 ∧ ∀ n, 0 ≤ n → n ≤ 8 → Q (.int n) H

abbrev N_products_many : List PySem.Str := ["places", "most", "found", "many", "size"]
theorem sc_products_many : FnScope N_products_many ["places", "most"] (defScope s_products_many) := ⟨rfl, rfl, rfl, by decide +kernel, rfl, by decide +kernel, by decide +kernel⟩
theorem b_products_many (T : Tx K mg) : Body P w K mg base 0 "products_many" (defBody s_products_many) (defScope s_products_many) N_products_many (S2 k_products_many) := fun f cdv A outer s H vs Q E hcd hr h => by
  refine ⟨_, (pss_cons (ps_set (i := 2) sc_products_many.nd rfl (by first | exact Or.inl rfl | exact Or.inr rfl) pe_int) (pss_cons (ps_set (i := 3) sc_products_many.nd rfl (by first | exact Or.inl rfl | exact Or.inr rfl) pe_int) (pss_cons (ps_for PassesOwn.never rfl (pi_range1 rfl T.f_range (pa_cons (pe_op op_add (pe_callB (call_min2 rfl) (by rfl) T.f_min (by decide +kernel) (pa_cons (pv 1) (pa_cons (pv 0) pa_nil))) pe_int) pa_nil)) (pg_name (i := 4) sc_products_many.nd rfl (by first | exact Or.inl rfl | exact Or.inr rfl)) (pss_cons (ps_aug (i := 2) sc_products_many.nd rfl (by first | exact Or.inl rfl | exact Or.inr rfl) (pv 3) ip_add) (pss_one (ps_set (i := 3) sc_products_many.nd rfl (by first | exact Or.inl rfl | exact Or.inr rfl) (pe_op op_fdivW (pe_op op_mulW (pv 3) (pe_op op_sub (pv 0) (pv 4))) (pe_op op_add (pv 4) pe_int)))))) (pss_one (ps_ret (pv 2)))))), ?_⟩
  obtain ⟨x, y, rfl, p, m, rfl, rfl, hp, hQ⟩ := h
  refine ⟨_, rfl, _, rfl, _, _, rfl, _, _, rfl, rfl, ?_⟩
  have hmin : ∃ k : Nat, (if (p : Int) < (m : Int) then (p : Int) else (m : Int)) + 1 = (k : Int) ∧ k ≤ p + 1 := by
    by_cases h : (p : Int) < (m : Int)
    · rw [if_pos h]
      exact ⟨p + 1, by omega, Nat.le_refl _⟩
    · rw [if_neg h]
      exact ⟨m + 1, by omega, by omega⟩
  obtain ⟨k, ek, hk⟩ := hmin
  refine ⟨(k : Int), congrArg (fun z => [V.int z]) ek, by omega, by omega, ?_⟩
  refine for_range (lo := 0) (n := (k : Int).toNat) (fun i σ H' => H' = H ∧ ∃ o, σ = [some (.int p), some (.int m), some (.int (fM p i)), some (.int (mM p i)), o]) ⟨rfl, _, rfl⟩ (fun i σ H1 hi z => ?_) fun σ H1 z => ?_
  · obtain ⟨rfl, o, rfl⟩ := z
    obtain ⟨b1, b2, b3, b4⟩ := mf_bd p hp i (by omega)
    refine ⟨_, rfl, _, rfl, _, _, rfl, rfl, ?_⟩
    refine ⟨_, rfl, _, rfl, _, rfl, _, _, rfl, rfl, _, _, rfl, rfl, wide_mul (a := 64) (b := 64) (by omega) (by omega) (by decide) (by decide) (by decide), _, rfl, _, _, rfl, rfl, _, _, rfl, rfl, wide_div (b := 64) (by omega) (by omega) (by decide) (by decide), rfl, some (.int (0 + (i : Int))), ?_⟩
    have e : (0 : Int) + (i : Int) = (i : Int) := Int.zero_add _
    show [some (V.int (p : Int)), some (V.int (m : Int)), some (V.int (fM p i + mM p i)), some (V.int (mM p i * ((p : Int) - (0 + (i : Int))) / (0 + (i : Int) + 1))), some (V.int (0 + (i : Int)))] = _
    rw [e]
    rfl
  · obtain ⟨rfl, o, rfl⟩ := z
    obtain ⟨b1, b2, b3, b4⟩ := mf_bd p hp (k : Int).toNat (by omega)
    exact ⟨_, rfl, hQ _ b3 b4⟩
theorem c_products_many (T : Tx K mg) : C8.Cal P w K mg base 1 "products_many" (S2 k_products_many) [] := cal_of T.F_products_many T.m_products_many sc_products_many (fun _ _ _ _ _ _ us hl => match us, hl with | [_, _], _ => rfl) len2 (b_products_many T)

/-- the product with one place more behind -/
def appR (j : Nat) (k : Int) : Nat := ((List.range 8).find? fun i => prd i == prd j ++ [k]).getD 0
def loR (j : Nat) : Int := if j = 0 then 0 else (prd j).getLastD 0 + 1
def extR (p j : Nat) : List Nat := (List.range ((p : Int) - loR j).toNat).map fun i : Nat => appR j (loR j + (i : Int))
def appOkB : Bool := (List.range 4).all fun p => (List.range 8).all fun j => !(inP p j) || (List.range ((p : Int) - loR j).toNat).all fun i => (decide (appR j (loR j + (i : Int)) < 8) && inP p (appR j (loR j + (i : Int)))) && decide (prd (appR j (loR j + (i : Int))) = prd j ++ [loR j + (i : Int)])
theorem appOkB_t : appOkB = true := by decide +kernel
theorem app_ok (p : Nat) (hp : p < 4) (j : Nat) (hj : j < 8) (hi : inP p j = true) (i : Nat) (h : i < ((p : Int) - loR j).toNat) : appR j (loR j + (i : Int)) < 8 ∧ inP p (appR j (loR j + (i : Int))) = true ∧ prd (appR j (loR j + (i : Int))) = prd j ++ [loR j + (i : Int)] := by
  have a := List.all_eq_true.1 appOkB_t p (List.mem_range.2 hp)
  have b := List.all_eq_true.1 a j (List.mem_range.2 hj)
  rw [hi] at b
  have c := List.all_eq_true.1 b i (List.mem_range.2 h)
  have d := Bool.and_eq_true_iff.1 c
  have e := Bool.and_eq_true_iff.1 d.1
  exact ⟨of_decide_eq_true e.1, e.2, of_decide_eq_true d.2⟩
theorem lo_bd : ∀ j, j < 8 → 0 ≤ loR j ∧ loR j ≤ 3 := by decide
/-- the products of so many places -/
def lvl (p : Nat) : Nat → List Nat
  | 0 => [0]
  | s + 1 => (lvl p s).flatMap (extR p)
def prodsM (p : Nat) : Nat → List Nat
  | 0 => [0]
  | s + 1 => prodsM p s ++ lvl p (s + 1)
theorem lvl_ok : ∀ p, p < 4 → ∀ s, s < 5 → ∀ j ∈ lvl p s, j < 8 ∧ inP p j = true := by decide +kernel
theorem lvl_len : ∀ p, p < 4 → ∀ s, s < 5 → (lvl p s).length ≤ 8 ∧ (prodsM p s).length ≤ 8 := by decide +kernel
theorem prods_ok : ∀ p, p < 4 → ∀ s, s < 5 → ∀ j ∈ prodsM p s, j < 8 ∧ inP p j = true := by decide +kernel
/-- a list of products -/
def Prods (K : PySem.W.Frag) (H : Hp) (l : Addr) (js : List Nat) : Prop := ∃ vs, H l = some (.lst vs) ∧ Paired (PrV K H) vs js
theorem pr_tp {H H' : Hp} {vs : List V} {js : List Nat} (h : Paired (PrV K H) vs js) (e : Tups H H') : Paired (PrV K H') vs js := Paired.mapP h fun _ _ q => q.tp e
def k_products_of (K : PySem.W.Frag) : K2 := fun x y H Q => ∃ p m : Nat, x = .int p ∧ y = .int m ∧ p < 4 ∧ ∀ H' q, Ext H H' → H q = none → Prods K H' q (prodsM p (min m p)) → Q (.ref q) H'
theorem flat_le {α β : Type} (g : α → List β) : ∀ (l : List α) (k : Nat), ((l.take k).flatMap g).length ≤ (l.flatMap g).length
  | [], k => by simp
  | a :: l, 0 => by simp
  | a :: l, k + 1 => by
    rw [List.take_succ_cons, List.flatMap_cons, List.flatMap_cons, List.length_append, List.length_append]
    exact Nat.add_le_add_left (flat_le g l k) _
theorem ext_len : ∀ p, p < 4 → ∀ j, j < 8 → inP p j = true → (extR p j).length ≤ 3 := by decide +kernel

abbrev N_products_of : List PySem.Str := ["places", "most", "found", "last", "size", "wider", "product", "place"]
theorem sc_products_of : FnScope N_products_of ["places", "most"] (defScope s_products_of) := ⟨rfl, rfl, rfl, by decide +kernel, rfl, by decide +kernel, by decide +kernel⟩
theorem b_products_of (T : Tx K mg) : Body P w K mg base 0 "products_of" (defBody s_products_of) (defScope s_products_of) N_products_of (S2 (k_products_of K)) := fun f cdv A outer s H vs Q E hcd hr h => by
  refine ⟨_, (pss_cons (ps_set (i := 2) sc_products_of.nd rfl (by first | exact Or.inl rfl | exact Or.inr rfl) (pe_lst (pa_cons (pe_tup pa_nil) pa_nil))) (pss_cons (ps_set (i := 3) sc_products_of.nd rfl (by first | exact Or.inl rfl | exact Or.inr rfl) (pe_lst (pa_cons (pe_tup pa_nil) pa_nil))) (pss_cons (ps_for PassesOwn.never rfl (pi_range1 rfl T.f_range (pa_cons (pe_callB (call_min2 rfl) (by rfl) T.f_min (by decide +kernel) (pa_cons (pv 1) (pa_cons (pv 0) pa_nil))) pa_nil)) (pg_name (i := 4) sc_products_of.nd rfl (by first | exact Or.inl rfl | exact Or.inr rfl)) (pss_cons (ps_set (i := 5) sc_products_of.nd rfl (by first | exact Or.inl rfl | exact Or.inr rfl) (pe_lst pa_nil)) (pss_cons (ps_for PassesOwn.never rfl (pi_list (pv 3)) (pg_name (i := 6) sc_products_of.nd rfl (by first | exact Or.inl rfl | exact Or.inr rfl)) (pss_one (ps_expr (pe_bm PySem.F.plainAttrs_list PySem.F.slot_list_extend PySem.F.type_list_extend mt_extend (pv 5) (pa_cons (pe_lc (own := [("place", 7)]) (g := (gName 7)) (tt := tYes) (te := (tOp (rCatA K) (tVar 6) (tTup (tCons (tVar 7) tNil)))) rfl sc_products_of.nd (pi_range2 rfl T.f_range (pa_cons (pe_op op_add (pe_ix ix_tup (pe_orT (pv 6) (pe_one (pe_tup (pa_cons (pe_un un_neg pe_int) pa_nil)))) (pe_un un_neg pe_int) (fun _ _ => rfl)) pe_int) (pa_cons (pv 0) pa_nil))) (blkOk_by (N := N_products_of) (sc := defScope s_products_of) (by decide +kernel)) (fun _ _ _ _ _ => (pg_name (i := 7) sc_products_of.nd rfl (by first | exact Or.inl rfl | exact Or.inr rfl))) (fun _ _ _ _ _ => pts_nil) (fun _ _ _ _ _ => (pe_op op_catA (pv 6) (pe_tup (pa_cons (pv 7) pa_nil))))) pa_nil))))) (pss_cons (ps_expr (pe_bm PySem.F.plainAttrs_list PySem.F.slot_list_extend PySem.F.type_list_extend mt_extend (pv 2) (pa_cons (pv 5) pa_nil))) (pss_one (ps_set (i := 3) sc_products_of.nd rfl (by first | exact Or.inl rfl | exact Or.inr rfl) (pv 5))))))) (pss_one (ps_ret (pv 2)))))), ?_⟩
  obtain ⟨x, y, rfl, p, m, rfl, rfl, hp, hQ⟩ := h
  refine ⟨by show 0 ≤ sizeLine; exact Nat.zero_le _, fun t ht => ⟨by show 1 ≤ sizeLine; decide, fun F hF => ?_⟩⟩
  refine ⟨by show 0 ≤ sizeLine; exact Nat.zero_le _, fun t2 ht2 => ⟨by show 1 ≤ sizeLine; decide, fun L hL => ?_⟩⟩
  have eA := (Ext.upd (o := .tup []) ht).upd' (o := .lst [.ref t]) hF
  have eB := eA.upd' (o := .tup []) ht2
  have eC := eB.upd' (o := .lst [.ref t2]) hL
  have hF0 : H F = none := fresh_of (Ext.upd ht) hF
  have hL0 : H L = none := fresh_of eB hL
  have hFt2 : F ≠ t2 := ne_of_none upd_same ht2
  have hFL : F ≠ L := ne_of_none (o := .lst [.ref t]) (by rw [upd_ne hFt2]; exact upd_same) hL
  have hFat : upd (upd (upd (upd H t (.tup [])) F (.lst [.ref t])) t2 (.tup [])) L (.lst [.ref t2]) F = some (.lst [.ref t]) := by rw [upd_ne hFL, upd_ne hFt2]; exact upd_same
  have htt : upd (upd (upd (upd H t (.tup [])) F (.lst [.ref t])) t2 (.tup [])) L (.lst [.ref t2]) t = some (.tup []) := by
    have g1 : upd (upd H t (.tup [])) F (.lst [.ref t]) t = some (.tup []) := by rw [upd_ne (ne_of_none upd_same hF)]; exact upd_same
    have g2 := (Ext.upd (o := .tup []) ht2) _ _ g1
    exact (Ext.upd (o := .lst [.ref t2]) hL) _ _ g2
  have ht2t : upd (upd (upd (upd H t (.tup [])) F (.lst [.ref t])) t2 (.tup [])) L (.lst [.ref t2]) t2 = some (.tup []) := (Ext.upd (o := .lst [.ref t2]) hL) _ _ upd_same
  have hmin : (if (p : Int) < (m : Int) then (p : Int) else (m : Int)) = ((min m p : Nat) : Int) := by
    by_cases h : (p : Int) < (m : Int)
    · rw [if_pos h]; omega
    · rw [if_neg h]; omega
  refine ⟨_, rfl, _, rfl, _, _, rfl, ((min m p : Nat) : Int), congrArg (fun z => [V.int z]) hmin, by omega, by omega, ?_⟩
  refine for_range (lo := 0) (n := (((min m p : Nat) : Int)).toNat) (fun i σ H' => Ext H H' ∧ ∃ l vs us o1 o2 o3 o4, σ = [some (.int p), some (.int m), some (.ref F), some (.ref l), o1, o2, o3, o4] ∧ H l = none ∧ l ≠ F ∧ H' F = some (.lst vs) ∧ H' l = some (.lst us) ∧ Paired (PrV K H') vs (prodsM p i) ∧ Paired (PrV K H') us (lvl p i))
    ⟨eC, L, [.ref t], [.ref t2], _, _, _, _, rfl, hL0, Ne.symm hFL, hFat, upd_same, .cons ⟨t, rfl, SqT.of htt⟩ .nil, .cons ⟨t2, rfl, SqT.of ht2t⟩ .nil⟩ (fun i σ H1 hi z => ?_) fun σ H1 z => ?_
  · obtain ⟨e1, l, vs, us, o1, o2, o3, o4, rfl, hl0, hlF, hFv, hlu, hpv, hpu⟩ := z
    have hi4 : i + 1 < 5 := by omega
    have hul : us.length = (lvl p i).length := Paired.length hpu
    have hvl : vs.length = (prodsM p i).length := Paired.length hpv
    obtain ⟨n1, n2⟩ := lvl_len p hp i (by omega)
    obtain ⟨n3, n4⟩ := lvl_len p hp (i + 1) hi4
    refine ⟨by show 0 ≤ sizeLine; exact Nat.zero_le _, fun W hW => ?_⟩
    have hW0 : H W = none := fresh_of e1 hW
    have hlW : l ≠ W := ne_of_none hlu hW
    have hFW : F ≠ W := ne_of_none hFv hW
    refine ⟨_, rfl, l, rfl, ⟨us, SqL.of (by rw [upd_ne hlW]; exact hlu)⟩, ?_⟩
    refine for_list (K := K) (xs := us) (fun k σ H' => Ext H H' ∧ H' F = some (.lst vs) ∧ H' l = some (.lst us) ∧ Tups H1 H' ∧ ∃ ws o3 o4, σ = [some (.int p), some (.int m), some (.ref F), some (.ref l), some (.int (0 + (i : Int))), some (.ref W), o3, o4] ∧ H' W = some (.lst ws) ∧ Paired (PrV K H') ws (((lvl p i).take k).flatMap (extR p)))
      ⟨e1.wr hW0, by rw [upd_ne hFW]; exact hFv, by rw [upd_ne hlW]; exact hlu, Tups.upd (noTup_none hW), [], _, _, rfl, upd_same, .nil⟩ (fun k σ H' _ z => SqL.of z.2.2.1) (fun k x σ H2 hx z => ?_) fun σ H2 z => ?_
    · obtain ⟨e2, hF2, hl2, tp2, ws, o3, o4, rfl, hws, hpw⟩ := z
      obtain ⟨j, hj1, ⟨ja, rfl, hja⟩⟩ := paired_at hpu hx
      obtain ⟨hj8, hjp⟩ := lvl_ok p hp i (by omega) j (List.mem_of_getElem? hj1)
      have hja2 := tp2.sqt hja
      obtain ⟨l0, l3⟩ := lo_bd j hj8
      have hwl : ws.length ≤ 8 := by
        have g1 : ws.length = _ := Paired.length hpw
        have g2 : (((lvl p i).take k).flatMap (extR p)).length ≤ (lvl p (i + 1)).length := flat_le (extR p) (lvl p i) k
        omega
      refine ⟨_, rfl, .inl ⟨rfl, _, SqL.of hws⟩, ?_⟩
      -- the comprehension, from any heap that has grown
      have comp : ∀ H3, Ext H2 H3 → (tLc (iRng2 (tCons (tC (.int (loR j))) (tCons (tVar 0) tNil))) (gName 7) tYes (tOp (rCatA K) (tVar 6) (tTup (tCons (tVar 7) tNil))) [7]) [some (.int p), some (.int m), some (.ref F), some (.ref l), some (.int (0 + (i : Int))), some (.ref W), some (.ref ja), o4] H3
          (fun y H4 => ∃ l' b xs zs, V.ref W = .ref l' ∧ [y] = [.ref b] ∧ H4 l' = some (.lst xs) ∧ H4 b = some (.lst zs) ∧ xs.length + zs.length ≤ sizeLine ∧ (fun v H5 => Ext H H5 ∧ H5 F = some (.lst vs) ∧ H5 l = some (.lst us) ∧ Tups H1 H5 ∧ ∃ ws o3' o4', [some (.int p), some (.int m), some (.ref F), some (.ref l), some (.int (0 + (i : Int))), some (.ref W), some (.ref ja), o4] = [some (.int p), some (.int m), some (.ref F), some (.ref l), some (.int (0 + (i : Int))), some (.ref W), o3', o4'] ∧ H5 W = some (.lst ws) ∧ Paired (PrV K H5) ws (((lvl p i).take (k + 1)).flatMap (extR p))) V.non (upd H4 l' (.lst (xs ++ zs)))) := fun H3 e3 => by
        refine ⟨_, rfl, loR j, p, rfl, by omega, fun D hD => ?_⟩
        refine lc_range (lo := loR j) (n := ((p : Int) - loR j).toNat) (fun n H' => Ext H3 H' ∧ ∃ ys, H' D = some (.lst ys) ∧ Paired (PrV K H') ys ((extR p j).take n)) ⟨Ext.upd hD, [], upd_same, .nil⟩ (fun n H4 hn z => ?_) fun H4 z => ?_
        · obtain ⟨z1, ys, z2, z3⟩ := z
          obtain ⟨a1, a2, a3⟩ := app_ok p hp j hj8 hjp n hn
          have hen : (extR p j)[n]? = some (appR j (loR j + (n : Int))) := by
            unfold extR
            rw [List.getElem?_map, List.getElem?_range hn]
            rfl
          have tk : (extR p j).take (n + 1) = (extR p j).take n ++ [appR j (loR j + (n : Int))] := by rw [List.take_add_one, hen]; rfl
          refine ⟨rfl, t_yes ⟨_, rfl, _, rfl, by show 1 ≤ sizeLine; decide, fun q hq => ?_⟩⟩
          have z1q := z1.trans (Ext.upd (o := .tup [.int (loR j + (n : Int))]) hq)
          have hDq : D ≠ q := ne_of_none z2 hq
          have hyl : ys.length ≤ 3 := by
            have g1 : ys.length = _ := Paired.length z3
            have g2 : ((extR p j).take n).length ≤ (extR p j).length := by rw [List.length_take]; exact Nat.min_le_right _ _
            have g3 := ext_len p hp j hj8 hjp
            omega
          have fin : ∀ (H5 : Hp) (c : Addr), Ext H3 H5 → Tups H4 H5 → H5 D = some (.lst ys) → SqT K H5 c ((prd (appR j (loR j + (n : Int)))).map V.int) → ∃ acc, H5 D = some (.lst acc) ∧ acc.length < sizeLine ∧ (Ext H3 (upd H5 D (.lst (acc ++ [.ref c]))) ∧ ∃ ys', upd H5 D (.lst (acc ++ [.ref c])) D = some (.lst ys') ∧ Paired (PrV K (upd H5 D (.lst (acc ++ [.ref c])))) ys' ((extR p j).take (n + 1))) := fun H5 c x5 t5 d5 s5 => by
            have tpD := Tups.upd (o := .lst (ys ++ [.ref c])) (lst_noTup d5)
            refine ⟨ys, d5, Nat.lt_of_le_of_lt hyl (by decide), x5.wr hD, ys ++ [.ref c], upd_same, ?_⟩
            rw [tk]
            exact paired_append (pr_tp (pr_tp z3 t5) tpD) (.cons ⟨c, rfl, tpD.sqt s5⟩ .nil)
          have hjaq : SqT K (upd H4 q (.tup [.int (loR j + (n : Int))])) ja ((prd j).map V.int) := hja2.ext (e3.trans z1q)
          refine ⟨ja, q, _, _, rfl, rfl, hjaq, SqT.of upd_same, ?_, fun e => ?_, fun _ e => (by cases e), fun _ _ c hc => ?_⟩
          · rw [List.length_map]
            have := prd_len j hj8
            exact Nat.le_trans (show _ ≤ 4 by simp; omega) (by decide)
          · refine fin _ q z1q (Tups.upd (noTup_none hq)) (by rw [upd_ne hDq]; exact z2) (SqT.of ?_)
            rw [upd_same, a3, List.map_append, e]
            rfl
          · have hDc : D ≠ c := ne_of_none (o := .lst ys) (by rw [upd_ne hDq]; exact z2) hc
            refine fin _ c (z1q.upd' hc) ((Tups.upd (noTup_none hq)).trans (Tups.upd (noTup_none hc))) (by rw [upd_ne hDc, upd_ne hDq]; exact z2) (SqT.of ?_)
            rw [upd_same, a3, List.map_append]
            rfl
        · obtain ⟨z1, ys, z2, z3⟩ := z
          have hxl : (extR p j).length = ((p : Int) - loR j).toNat := by
            unfold extR
            rw [List.length_map, List.length_range]
          rw [← hxl, List.take_length] at z3
          have xA := e3.trans z1
          have hyl : ys.length ≤ 3 := by
            have g1 : ys.length = _ := Paired.length z3
            have g3 := ext_len p hp j hj8 hjp
            omega
          have nW := lst_noTup (xA _ _ hws)
          have tpE := Tups.upd (o := .lst (ws ++ ys)) nW
          refine ⟨W, D, ws, ys, rfl, rfl, xA _ _ hws, z2, Nat.le_trans (show ws.length + ys.length ≤ 11 by omega) (by decide), (e2.trans xA).wr hW0, by rw [upd_ne hFW]; exact xA _ _ hF2, by rw [upd_ne hlW]; exact xA _ _ hl2, (tp2.trans (.ofX xA)).trans tpE, ws ++ ys, _, _, rfl, upd_same, ?_⟩
          rw [flat_take hj1]
          exact paired_append (pr_tp (pr_tp hpw (.ofX xA)) tpE) (pr_tp z3 tpE)
      by_cases hj0 : j = 0
      · subst hj0
        refine ⟨_, rfl, false, .inr (.inl ⟨_, hja2, rfl⟩), iteF ?_⟩
        refine ⟨_, rfl, by show 1 ≤ sizeLine; decide, fun q hq => ?_⟩
        refine ⟨_, rfl, q, _, _, .int (-1), rfl, rfl, SqT.of upd_same, rfl, _, _, rfl, rfl, ?_⟩
        exact comp _ (Ext.upd hq)
      · have hne : (!(((prd j).map V.int).isEmpty)) = true := by
          have : ∀ j, j < 8 → j ≠ 0 → (!(((prd j).map V.int).isEmpty)) = true := by decide
          exact this j hj8 hj0
        refine ⟨_, rfl, true, .inr (.inl ⟨_, hja2, hne.symm⟩), iteT ?_⟩
        refine ⟨_, rfl, ja, _, _, _, rfl, rfl, hja2, atI_prd j hj8 hj0, _, _, rfl, rfl, ?_⟩
        have := comp H2 Ext.rfl'
        unfold loR at this
        rw [if_neg hj0] at this
        exact this
    · obtain ⟨e2, hF2, hl2, tp2, ws, o3, o4, rfl, hws, hpw⟩ := z
      rw [hul, List.take_length] at hpw
      have hwl : ws.length = (lvl p (i + 1)).length := Paired.length hpw
      refine ⟨_, rfl, .inl ⟨rfl, _, SqL.of hF2⟩, _, rfl, F, W, vs, ws, rfl, rfl, hF2, hws, Nat.le_trans (show vs.length + ws.length ≤ 16 by omega) (by decide), _, rfl, ?_⟩
      have tpE := Tups.upd (o := .lst (vs ++ ws)) (lst_noTup hF2)
      have hWF : W ≠ F := Ne.symm hFW
      refine ⟨e2.wr hF0, W, vs ++ ws, ws, _, _, _, _, rfl, hW0, hWF, upd_same, by rw [upd_ne hWF]; exact hws, paired_append (pr_tp (pr_tp hpv tp2) tpE) (pr_tp hpw tpE), pr_tp hpw tpE⟩
  · obtain ⟨e1, l, vs, us, o1, o2, o3, o4, rfl, hl0, hlF, hFv, hlu, hpv, hpu⟩ := z
    have e : (((min m p : Nat) : Int)).toNat = min m p := by omega
    rw [e] at hpv
    exact ⟨_, rfl, hQ H1 F e1 hF0 ⟨vs, hFv, hpv⟩⟩
theorem c_products_of (T : Tx K mg) : C8.Cal P w K mg base 1 "products_of" (S2 (k_products_of K)) [] := cal_of T.F_products_of T.m_products_of sc_products_of (fun _ _ _ _ _ _ us hl => match us, hl with | [_, _], _ => rfl) len2 (b_products_of T)
end
end FS
set_option Elab.async false
set_option linter.all false
set_option maxRecDepth 100000
set_option maxHeartbeats 4000000
namespace FS
open PySem PySem.Spec PyProof.Rows L2
section
variable {P : Program} {w : World} {K : PySem.W.Frag} {mg : PySem.Str → Option Value} {base : Heap}
/-- a mark: (the wish's number, the product) -/
def MarkV (K : PySem.W.Frag) (H : Hp) (v : V) (m : Nat) : Prop := ∃ a pv, v = .ref a ∧ SqT K H a [.int ((m / 8 : Nat) : Int), pv] ∧ PrV K H pv (m % 8)
theorem MarkV.tp {H H' : Hp} {v : V} {m : Nat} (h : MarkV K H v m) (e : Tups H H') : MarkV K H' v m := let ⟨a, p, b, c, d⟩ := h; ⟨a, p, b, e.sqt c, d.tp e⟩
theorem MarkV.key {H : Hp} {v : V} {m : Nat} (h : MarkV K H v m) : KeyR K H v (nkM m) := by
  obtain ⟨a, pv, rfl, h1, ⟨b, rfl, h2⟩⟩ := h
  exact ⟨a, rfl, .tup h1 (.cons (.num _) (.cons (.tup h2 (keysV_nums _)) .nil)), nkM_depth m⟩
/-- a list of marks -/
def Marks (K : PySem.W.Frag) (H : Hp) (l : Addr) (ms : List Nat) : Prop := ∃ vs, H l = some (.lst vs) ∧ Paired (MarkV K H) vs ms
theorem marks_tp {H H' : Hp} {vs : List V} {ms : List Nat} (h : Paired (MarkV K H) vs ms) (e : Tups H H') : Paired (MarkV K H') vs ms := Paired.mapP h fun _ _ q => q.tp e
section
variable {α : Type} [Lean.Grind.Field α] [DecidableEq α]
def pairs1 (p d : Nat) (cs : List (Nat → α)) (n : Nat) : List Nat := match cs[n]? with
  | none => []
  | some c => if degM c ≤ d then (prodsM p (min (d - degM c) p)).map fun q => 8 * n + q else []
def pairsM (p d : Nat) (cs : List (Nat → α)) : List Nat := (List.range cs.length).flatMap (pairs1 p d cs)
theorem pairs1_len {p : Nat} (hp : p < 4) (d : Nat) (cs : List (Nat → α)) (n : Nat) : (pairs1 p d cs n).length ≤ 8 := by
  unfold pairs1
  split
  · exact Nat.zero_le _
  · split
    · rw [List.length_map]
      exact (lvl_len p hp _ (by omega)).2
    · exact Nat.zero_le _
theorem pairs_len {p : Nat} (hp : p < 4) (d : Nat) (cs : List (Nat → α)) : ∀ n, ((List.range n).flatMap (pairs1 p d cs)).length ≤ 8 * n
  | 0 => Nat.zero_le _
  | n + 1 => by
    rw [List.range_succ, List.flatMap_append, List.length_append]
    have h1 := pairs_len hp d cs n
    have h2 := pairs1_len hp d cs n
    have h3 : [n].flatMap (pairs1 p d cs) = pairs1 p d cs n := by simp
    rw [h3]
    omega
end
theorem range_flat {β : Type} (g : Nat → List β) (n : Nat) : (List.range (n + 1)).flatMap g = (List.range n).flatMap g ++ g n := by
  rw [List.range_succ, List.flatMap_append]
  simp
def k_pairs_of (K : PySem.W.Frag) : K2 := fun x y H Q => ∃ (φ : Fd) (a : Addr) (p : Nat) (cs : List (Nat → φ.car)) (d : Nat), x = .ref a ∧ y = .int d ∧ SysAt K φ H a p cs ∧ p < 4 ∧ cs.length ≤ 10 ∧ ∀ H' q, Ext H H' → H q = none → Marks K H' q (pairsM p d cs) → Q (.ref q) H'

abbrev N_pairs_of : List PySem.Str := ["system", "degree", "found", "number", "wish", "product"]
theorem sc_pairs_of : FnScope N_pairs_of ["system", "degree"] (defScope s_pairs_of) := ⟨rfl, rfl, rfl, by decide +kernel, rfl, by decide +kernel, by decide +kernel⟩
theorem b_pairs_of (T : Tx K mg) : Body P w K mg base 1 "pairs_of" (defBody s_pairs_of) (defScope s_pairs_of) N_pairs_of (S2 (k_pairs_of K)) := fun f cdv A outer s H vs Q E hcd hr h => by
  refine ⟨_, (pss_cons (ps_set (i := 2) sc_pairs_of.nd rfl (by first | exact Or.inl rfl | exact Or.inr rfl) (pe_lst pa_nil)) (pss_cons (ps_for PassesOwn.never rfl (pi_enum rfl T.f_enumerate (pa_cons (C8.pe_mt0 (c_System_noughts T) hr (by decide) (pv 0)) pa_nil)) (pg_tup rfl (pgs_cons (pg_name (i := 3) sc_pairs_of.nd rfl (by first | exact Or.inl rfl | exact Or.inr rfl)) (pgs_cons (pg_name (i := 4) sc_pairs_of.nd rfl (by first | exact Or.inl rfl | exact Or.inr rfl)) pgs_nil))) (pss_one (ps_if (pt_cmpR op_le (C8.pe_mt0 (c_Sum_degree T) hr (by decide) (pv 4)) (pv 1) (nomark _)) (pss_one (ps_expr (pe_bm PySem.F.plainAttrs_list PySem.F.slot_list_extend PySem.F.type_list_extend mt_extend (pv 2) (pa_cons (pe_lc (own := [("product", 5)]) (g := (gName 5)) (tt := tYes) (te := (tTup (tCons (tVar 3) (tCons (tVar 5) tNil)))) rfl sc_pairs_of.nd (pi_list (C8.pe_c (c_products_of T) hr (by decide) rfl (pa_cons (C8.pe_mt0 (c_System_places T) hr (by decide) (pv 0)) (pa_cons (pe_op op_sub (pv 1) (C8.pe_mt0 (c_Sum_degree T) hr (by decide) (pv 4))) pa_nil)))) (blkOk_by (N := N_pairs_of) (sc := defScope s_pairs_of) (by decide +kernel)) (fun _ _ _ _ _ => (pg_name (i := 5) sc_pairs_of.nd rfl (by first | exact Or.inl rfl | exact Or.inr rfl))) (fun _ _ _ _ _ => pts_nil) (fun _ _ _ _ _ => (pe_tup (pa_cons (pv 3) (pa_cons (pv 5) pa_nil))))) pa_nil)))) pss_nil))) (pss_one (ps_ret (pv 2))))), ?_⟩
  obtain ⟨x, y, rfl, φ, a, p, cs, d, rfl, rfl, hS, hp, hlen, hQ⟩ := h
  obtain ⟨dx, fa, ln, lu, ha, _⟩ := id hS
  refine ⟨by show 0 ≤ sizeLine; exact Nat.zero_le _, fun F hF => ?_⟩
  have eF := Ext.upd (o := .lst []) hF
  refine ⟨_, rfl, a, dx, _, rfl, eF _ _ ha, rfl, _, rfl, φ, a, p, cs, H, rfl, hS, eF, fun H1 q vs e1 hq hl hpd => ?_⟩
  have hvl : vs.length = cs.length := Paired.length hpd
  refine ⟨q, vs, rfl, SqL.of hl, ?_⟩
  have eF1 := eF.trans e1
  have hqF : q ≠ F := (ne_of_none (upd_same (H := H) (o := .lst [])) hq).symm
  refine for_it walk_enum (fun i σ H' => Ext H H' ∧ H' q = some (.lst vs) ∧ ∃ us o1 o2 o3, σ = [some (.ref a), some (.int d), some (.ref F), o1, o2, o3] ∧ H' F = some (.lst us) ∧ Paired (MarkV K H') us ((List.range i).flatMap (pairs1 p d cs))) ⟨eF1, hl, [], _, _, _, rfl, e1 _ _ upd_same, .nil⟩ (fun i σ H' _ z => SqL.of z.2.1) (fun i x σ H2 H3 hi z y => ?_) fun σ H2 z => ?_
  · obtain ⟨e2, hq2, us, o1, o2, o3, rfl, hF2, hup⟩ := z
    obtain ⟨Tt, k, v, rfl, hT, rfl, ek, ev⟩ := y
    cases Option.some.inj ek
    obtain ⟨c, hc, ⟨b, l, rfl, hSb⟩⟩ := paired_at hpd ev
    have eT := Ext.upd (o := .tup [.int (i : Nat), .ref b]) hT
    have e3 := e2.trans eT
    obtain ⟨dy, fb, hb, _⟩ := id hSb
    have p1 : pairs1 p d cs i = if degM c ≤ d then (prodsM p (min (d - degM c) p)).map fun q => 8 * i + q else [] := by
      unfold pairs1
      rw [hc]
    have hul : us.length ≤ 80 := by
      have g1 : us.length = _ := Paired.length hup
      have g2 := pairs_len hp d cs i
      omega
    refine ⟨Tt, _, rfl, SqT.of upd_same, rfl, _, _, rfl, _, _, rfl, rfl, ?_⟩
    refine ⟨_, rfl, b, dy, _, rfl, e3 _ _ hb, rfl, _, rfl, φ, b, l, c, rfl, hSb.xn (.ofX e3), fun H4 e4 => ?_⟩
    refine ⟨_, rfl, _, _, rfl, rfl, _, rfl, ?_⟩
    have e34 := e3.trans e4
    have hF4 := e4 _ _ (eT _ _ hF2)
    have hq4 := e4 _ _ (eT _ _ hq2)
    have tp24 := (Tups.ofX eT).trans (.ofX e4)
    by_cases hdeg : degM c ≤ d
    · rw [decide_eq_true (show ((degM c : Nat) : Int) ≤ (d : Int) by omega)]
      rw [if_pos hdeg] at p1
      refine iteT ⟨_, rfl, .inl ⟨rfl, _, SqL.of hF4⟩, ?_⟩
      refine ⟨_, rfl, a, dx, _, rfl, e34 _ _ ha, rfl, _, rfl, φ, a, p, cs, rfl, hS.xn (.ofX e34), _, rfl, _, rfl, b, dy, _, rfl, e34 _ _ hb, rfl, _, rfl, φ, b, l, c, rfl, hSb.xn (.ofX e34), fun H5 e5 => ?_⟩
      refine ⟨_, _, rfl, rfl, _, _, rfl, p, d - degM c, rfl, congrArg V.int (by omega), hp, fun H6 lp e6 hlp ⟨ws, hws, hwp⟩ => ?_⟩
      refine ⟨lp, rfl, ⟨ws, SqL.of hws⟩, fun D hD => ?_⟩
      have e46 := e5.trans e6
      have hwl : ws.length ≤ 8 := by
        have g1 : ws.length = _ := Paired.length hwp
        have g2 := (lvl_len p hp (min (d - degM c) p) (by omega)).2
        omega
      refine lc_list (K := K) (xs := ws) (fun n H' => Ext H6 H' ∧ ∃ ys, H' D = some (.lst ys) ∧ Paired (MarkV K H') ys (((prodsM p (min (d - degM c) p)).take n).map fun q => 8 * i + q)) ⟨Ext.upd hD, [], upd_same, .nil⟩ (fun n H' _ z => SqL.of (z.1 _ _ hws)) (fun n x H7 hx z => ?_) fun H7 z => ?_
      · obtain ⟨z1, ys, z2, z3⟩ := z
        obtain ⟨j, hj, hpr⟩ := paired_at hwp hx
        have hj8 := (prods_ok p hp _ (by omega) j (List.mem_of_getElem? hj)).1
        refine ⟨rfl, t_yes ⟨_, rfl, _, rfl, by show 2 ≤ sizeLine; decide, fun m hm => ?_⟩⟩
        have hDm : D ≠ m := ne_of_none z2 hm
        have tpm := Tups.upd (o := .tup [.int (i : Nat), x]) (noTup_none hm)
        have tpD := Tups.upd (o := .lst (ys ++ [.ref m])) (lst_noTup (H := upd H7 m (.tup [.int (i : Nat), x])) (by rw [upd_ne hDm]; exact z2))
        have tk : (prodsM p (min (d - degM c) p)).take (n + 1) = (prodsM p (min (d - degM c) p)).take n ++ [j] := by rw [List.take_add_one, hj]; rfl
        have hyl : ys.length ≤ 8 := by
          have g1 : ys.length = _ := Paired.length z3
          have g2 := (lvl_len p hp (min (d - degM c) p) (by omega)).2
          rw [List.length_map, List.length_take] at g1
          omega
        refine ⟨ys, by rw [upd_ne hDm]; exact z2, Nat.lt_of_le_of_lt hyl (by decide), (z1.trans (Ext.upd hm)).wr hD, ys ++ [.ref m], upd_same, ?_⟩
        rw [tk, List.map_append]
        have q1 : (8 * i + j) / 8 = i := by omega
        have q2 : (8 * i + j) % 8 = j := by omega
        refine paired_append (marks_tp (marks_tp z3 tpm) tpD) (.cons ⟨m, x, rfl, tpD.sqt (SqT.of ?_), ?_⟩ .nil)
        · rw [upd_same, q1]
        · rw [q2]
          exact ((hpr.tp (.ofX z1)).tp tpm).tp tpD
      · obtain ⟨z1, ys, z2, z3⟩ := z
        have hwl' : ws.length = (prodsM p (min (d - degM c) p)).length := Paired.length hwp
        rw [hwl', List.take_length] at z3
        have e47 := e46.trans z1
        have hF7 := e47 _ _ hF4
        have hq7 := e47 _ _ hq4
        have hyl : ys.length ≤ 8 := by
          have g1 : ys.length = _ := Paired.length z3
          rw [List.length_map] at g1
          omega
        have tpE := Tups.upd (o := .lst (us ++ ys)) (lst_noTup hF7)
        refine ⟨F, D, us, ys, rfl, rfl, hF7, z2, Nat.le_trans (show us.length + ys.length ≤ 88 by omega) (by decide), (e34.trans e47).wr hF, by rw [upd_ne hqF]; exact hq7, us ++ ys, _, _, _, rfl, upd_same, ?_⟩
        rw [range_flat, p1]
        exact paired_append (marks_tp (marks_tp hup (tp24.trans (.ofX e47))) tpE) (marks_tp z3 tpE)
    · rw [decide_eq_false (show ¬ ((degM c : Nat) : Int) ≤ (d : Int) by omega)]
      rw [if_neg hdeg] at p1
      refine iteF ⟨e34, hq4, us, _, _, _, rfl, hF4, ?_⟩
      rw [range_flat, p1, List.append_nil]
      exact marks_tp hup tp24
  · obtain ⟨e2, hq2, us, o1, o2, o3, rfl, hF2, hup⟩ := z
    rw [hvl] at hup
    exact ⟨_, rfl, hQ H2 F e2 hF ⟨us, hF2, hup⟩⟩
theorem c_pairs_of (T : Tx K mg) : C8.Cal P w K mg base 2 "pairs_of" (S2 (k_pairs_of K)) [] := cal_of T.F_pairs_of T.m_pairs_of sc_pairs_of (fun _ _ _ _ _ _ us hl => match us, hl with | [_, _], _ => rfl) len2 (b_pairs_of T)

def k_look_at_many (K : PySem.W.Frag) : K2 := fun x y H Q => ∃ (φ : Fd) (a : Addr) (p : Nat) (cs : List (Nat → φ.car)) (d : Nat), x = .ref a ∧ y = .int d ∧ SysAt K φ H a p cs ∧ p < 4 ∧ cs.length ≤ 10 ∧ RetV H .non Q

abbrev N_look_at_many : List PySem.Str := ["system", "degree", "pairs", "wish"]
theorem sc_look_at_many : FnScope N_look_at_many ["system", "degree"] (defScope s_look_at_many) := ⟨rfl, rfl, rfl, by decide +kernel, rfl, by decide +kernel, by decide +kernel⟩
theorem b_look_at_many (T : Tx K mg) : Body P w K mg base 1 "look_at_many" (defBody s_look_at_many) (defScope s_look_at_many) N_look_at_many (S2 (k_look_at_many K)) := fun f cdv A outer s H vs Q E hcd hr h => by
  refine ⟨_, (pss_cons (ps_if (pt_cmpR op_gt (C8.pe_c (c_products_many T) hr (by decide) rfl (pa_cons (C8.pe_mt0 (c_System_places T) hr (by decide) (pv 0)) (pa_cons (pv 1) pa_nil))) (C8.pe_gc rfl T.i_MOST_PRODUCTS) (nomark _)) (pss_one ps_never) pss_nil) (pss_cons (ps_set (i := 2) sc_look_at_many.nd rfl (by first | exact Or.inl rfl | exact Or.inr rfl) pe_int) (pss_cons (ps_for PassesOwn.never rfl (pi_list (C8.pe_mt0 (c_System_noughts T) hr (by decide) (pv 0))) (pg_name (i := 3) sc_look_at_many.nd rfl (by first | exact Or.inl rfl | exact Or.inr rfl)) (pss_one (ps_if (pt_cmpR op_le (C8.pe_mt0 (c_Sum_degree T) hr (by decide) (pv 3)) (pv 1) (nomark _)) (pss_one (ps_aug (i := 2) sc_look_at_many.nd rfl (by first | exact Or.inl rfl | exact Or.inr rfl) (C8.pe_c (c_products_many T) hr (by decide) rfl (pa_cons (C8.pe_mt0 (c_System_places T) hr (by decide) (pv 0)) (pa_cons (pe_op op_sub (pv 1) (C8.pe_mt0 (c_Sum_degree T) hr (by decide) (pv 3))) pa_nil))) ip_add)) pss_nil))) (pss_one (ps_if (pt_cmpR op_gt (pv 2) (C8.pe_gc rfl T.i_MOST_PAIRS) (nomark _)) (pss_one ps_never) pss_nil))))), ?_⟩
  obtain ⟨x, y, rfl, φ, a, p, cs, d, rfl, rfl, hS, hp, hlen, hQ⟩ := h
  obtain ⟨dx, fa, ln, lu, ha, _⟩ := id hS
  refine ⟨_, rfl, a, dx, _, rfl, ha, rfl, _, rfl, φ, a, p, cs, rfl, hS, _, rfl, _, _, rfl, p, d, rfl, rfl, hp, fun n n0 n8 => ?_⟩
  refine ⟨_, _, rfl, rfl, _, rfl, ?_⟩
  rw [decide_eq_false (show ¬ ((600 : Int) < n) by omega)]
  refine iteF ?_
  refine ⟨_, rfl, a, dx, _, rfl, ha, rfl, _, rfl, φ, a, p, cs, H, rfl, hS, Ext.rfl', fun H1 q vs e1 hq hl hpd => ?_⟩
  have hvl : vs.length = cs.length := Paired.length hpd
  refine ⟨q, rfl, ⟨vs, SqL.of hl⟩, ?_⟩
  refine for_list (K := K) (xs := vs) (fun i σ H' => Ext H1 H' ∧ ∃ m o1, σ = [some (.ref a), some (.int d), some (.int m), o1] ∧ 0 ≤ m ∧ m ≤ 8 * i) ⟨Ext.rfl', 0, _, rfl, by omega, by omega⟩ (fun i σ H' _ z => SqL.of (z.1 _ _ hl)) (fun i x σ H2 hx z => ?_) fun σ H2 z => ?_
  · obtain ⟨e2, m, o1, rfl, m0, m8⟩ := z
    obtain ⟨c, hc, ⟨b, l, rfl, hSb⟩⟩ := paired_at hpd hx
    obtain ⟨dy, fb, hb, _⟩ := id hSb
    have hi : i < cs.length := (List.getElem?_eq_some_iff.mp hc).1
    have e12 := e1.trans e2
    refine ⟨_, rfl, b, dy, _, rfl, e12 _ _ hb, rfl, _, rfl, φ, b, l, c, rfl, hSb.xn (.ofX e12), fun H4 e4 => ?_⟩
    refine ⟨_, rfl, _, _, rfl, rfl, _, rfl, ?_⟩
    have e34 := e12.trans e4
    by_cases hdeg : degM c ≤ d
    · rw [decide_eq_true (show ((degM c : Nat) : Int) ≤ (d : Int) by omega)]
      refine iteT ⟨_, rfl, _, rfl, a, dx, _, rfl, e34 _ _ ha, rfl, _, rfl, φ, a, p, cs, rfl, hS.xn (.ofX e34), _, rfl, _, rfl, b, dy, _, rfl, e34 _ _ hb, rfl, _, rfl, φ, b, l, c, rfl, hSb.xn (.ofX e34), fun H5 e5 => ?_⟩
      refine ⟨_, _, rfl, rfl, _, _, rfl, p, d - degM c, rfl, congrArg V.int (by omega), hp, fun n n0 n8 => ?_⟩
      exact ⟨_, _, rfl, rfl, (e2.trans e4).trans e5, m + n, _, rfl, by omega, by omega⟩
    · rw [decide_eq_false (show ¬ ((degM c : Nat) : Int) ≤ (d : Int) by omega)]
      exact iteF ⟨e2.trans e4, _, _, rfl, by omega, by omega⟩
  · obtain ⟨e2, m, o1, rfl, m0, m8⟩ := z
    refine ⟨_, rfl, _, _, rfl, rfl, _, rfl, ?_⟩
    rw [decide_eq_false (show ¬ ((2000 : Int) < m) by omega)]
    exact iteF (hQ H2 (e1.trans e2))
theorem c_look_at_many (T : Tx K mg) : C8.Cal P w K mg base 2 "look_at_many" (S2 (k_look_at_many K)) [] := cal_of T.F_look_at_many T.m_look_at_many sc_look_at_many (fun _ _ _ _ _ _ us hl => match us, hl with | [_, _], _ => rfl) len2 (b_look_at_many T)
end
end FS
set_option Elab.async false
set_option linter.all false
set_option maxRecDepth 100000
set_option maxHeartbeats 4000000
namespace FS
open PySem PySem.Spec PyProof.Rows L2
section
variable {α : Type} [Lean.Grind.Field α] [DecidableEq α]
/-- a sum, multiplied by a product -/
def mulC (q : Nat) (c : Nat → α) (k : Nat) : α := lsum c ((List.range 8).filter fun j => decide (jn j q = k))
/-- the dict that holds what is no nought -/
def nz (v : Nat → α) : Nat → Option α := fun k => if v k = 0 then none else some (v k)
theorem coef_map {c : Nat → α} {q : Nat} (k : Nat) : ∀ {ts : List (Nat × α)}, (∀ t ∈ ts, c t.1 = t.2) → coef (ts.map fun t => (jn t.1 q, t.2)) k = lsum c ((ts.map (·.1)).filter fun j => decide (jn j q = k))
  | [], _ => rfl
  | t :: ts, h => by
    have ih := coef_map (q := q) k (ts := ts) fun t ht => h t (List.mem_cons_of_mem _ ht)
    rw [List.map_cons, List.map_cons, coef_cons, List.filter_cons, ih]
    show (if jn t.1 q = k then t.2 else 0) + _ = _
    by_cases e : jn t.1 q = k
    · rw [if_pos e, if_pos (decide_eq_true e), lsum_cons, h t List.mem_cons_self]
    · rw [if_neg e, if_neg (by rw [decide_eq_false e]; exact Bool.false_ne_true)]
      grind
theorem lsum_nz (c : Nat → α) : ∀ js : List Nat, lsum c (js.filter fun j => decide (c j ≠ 0)) = lsum c js
  | [] => rfl
  | j :: js => by
    rw [List.filter_cons, lsum_cons]
    by_cases e : c j = 0
    · rw [if_neg (by simp [e]), lsum_nz c js, e]
      grind
    · rw [if_pos (by simp [e]), lsum_cons, lsum_nz c js]
theorem mul_rows {ts : List (Nat × α)} {c : Nat → α} (hn : (ts.map (·.1)).Nodup) (h0 : ∀ t ∈ ts, t.2 ≠ 0) (h8 : ∀ t ∈ ts, t.1 < 8) (h1 : ∀ t ∈ ts, c t.1 = t.2) (h2 : ∀ j, j < 8 → c j ≠ 0 → (j, c j) ∈ ts) (q k : Nat) : coef (ts.map fun t => (jn t.1 q, t.2)) k = mulC q c k := by
  rw [coef_map k h1]
  unfold mulC
  rw [← lsum_nz c ((List.range 8).filter _)]
  refine lsum_perm c ((List.perm_ext_iff_of_nodup (List.Nodup.sublist List.filter_sublist hn) (List.Nodup.sublist (List.filter_sublist.trans List.filter_sublist) List.nodup_range)).mpr fun j => ?_)
  rw [List.mem_filter, List.mem_filter, List.mem_filter, List.mem_range]
  constructor
  · rintro ⟨a, b⟩
    obtain ⟨t, ht, rfl⟩ := List.mem_map.mp a
    exact ⟨⟨h8 t ht, b⟩, decide_eq_true (by rw [h1 t ht]; exact h0 t ht)⟩
  · rintro ⟨⟨a, b⟩, d⟩
    exact ⟨List.mem_map.mpr ⟨_, h2 j a (of_decide_eq_true d), rfl⟩, b⟩
/-- the keys whose number is no nought -/
def keepK (c : Nat → Option α) (k : NK) : Bool := (List.range 8).any fun j => decide (k = nkP j) && decide ((c j).getD 0 ≠ 0)
theorem keepK_at (c : Nat → Option α) {j : Nat} (hj : j < 8) : keepK c (nkP j) = decide ((c j).getD 0 ≠ 0) := by
  unfold keepK
  cases e : decide ((c j).getD 0 ≠ 0) with
  | true => exact List.any_eq_true.mpr ⟨j, List.mem_range.mpr hj, by rw [decide_eq_true rfl, e]; rfl⟩
  | false =>
    rw [List.any_eq_false]
    intro i hi z
    obtain ⟨a, b⟩ := Bool.and_eq_true_iff.mp z
    have := nkP_inj hj (List.mem_range.mp hi) (of_decide_eq_true a)
    subst this
    rw [e] at b
    cases b
end
theorem valV_filter {κ : Type} [DecidableEq κ] (g : κ → Bool) (k : κ) : ∀ kvs : List (κ × V), valV (kvs.filter fun kv => g kv.1) k = if g k = true then valV kvs k else none
  | [] => by simp [valV]
  | p :: r => by
    have ih := valV_filter g k r
    rw [List.filter_cons]
    by_cases e : g p.1 = true
    · rw [if_pos e]
      by_cases z : p.1 = k
      · rw [valV_pos z, valV_pos z, if_pos (z ▸ e)]
      · rw [valV_neg z, valV_neg z, ih]
    · rw [if_neg e, ih]
      by_cases z : p.1 = k
      · rw [if_neg (z ▸ e), if_neg (z ▸ e)]
      · rw [valV_neg z]
section
variable {P : Program} {w : World} {K : PySem.W.Frag} {φ : Fd} {H H' : Hp}
theorem DictV.congr {nk : Nat → NK} {n : Nat} {kvs : List (NK × V)} {c c' : Nat → Option φ.car} (h : DictV K φ H nk n kvs c) (e : ∀ j, j < n → c j = c' j) : DictV K φ H nk n kvs c' := ⟨h.nodup, h.dom, fun j hj => by rw [← e j hj]; exact h.val j hj⟩
theorem DictV.keep {kvs : List (NK × V)} {c : Nat → Option φ.car} (h : DictV K φ H nkP 8 kvs c) {v : Nat → φ.car} (hv : ∀ j, j < 8 → (c j).getD 0 = v j) : DictV K φ H nkP 8 (kvs.filter fun kv => keepK c kv.1) (nz v) := by
  refine ⟨List.Nodup.sublist (List.Sublist.map _ List.filter_sublist) h.nodup, fun kv hkv => h.dom kv (List.mem_filter.mp hkv).1, fun j hj => ?_⟩
  rw [valV_filter, keepK_at c hj]
  unfold nz
  rw [← hv j hj]
  by_cases e : (c j).getD 0 = 0
  · rw [if_pos e]
    have : decide ((c j).getD 0 ≠ 0) = false := decide_eq_false fun z => z e
    rw [this]
    rfl
  · rw [if_neg e]
    have : decide ((c j).getD 0 ≠ 0) = true := decide_eq_true e
    rw [this]
    cases z : c j with
    | none => rw [z] at e; exact absurd rfl e
    | some x =>
      have := h.val j hj
      rw [z] at this
      exact this
/-- a dict that holds a vector: what is no nought -/
def VecD (P : Program) (w : World) (K : PySem.W.Frag) (φ : Fd) (H : Hp) (d : Addr) (v : Nat → φ.car) : Prop := ∃ kvs, DAt P w K H d kvs ∧ DictV K φ H nkP 8 kvs (nz v)
theorem VecD.xn {d : Addr} {v : Nat → φ.car} (h : VecD P w K φ H d v) (e : XN H H') : VecD P w K φ H' d v := let ⟨kvs, a, b⟩ := h; ⟨kvs, a.xn e, b.xn e⟩
theorem sql_exb {a l : Addr} {xs : List V} (h1 : SqL K H l xs) (x : ExB a H H') (hl : l ≠ a) : SqL K H' l xs := by
  rcases h1 with (h1 | ⟨ob, h1⟩) | h1
  · exact .inl (.inl (x _ _ hl h1))
  · exact .inl (.inr ⟨ob, x _ _ hl h1⟩)
  · exact .inr h1
theorem ext_exb {d : Addr} {H1 : Hp} (e : Ext H H1) (hd : H d = none) (x : ExB d H1 H') : Ext H H' := fun b o h => x b o (fun z => by rw [z, hd] at h; cases h) (e b o h)
theorem setd_both {d : Addr} {kvs : List (NK × V)} {k : NK} {z : V} {Q : VK} (C : V → Hp → Prop) (h : ∀ v H5, C v H5 → Q v H5) (a : ∀ v, valV kvs k = some v → C v H) (b : valV kvs k = none → DWr P w K H d (putK kvs k z) (C z)) : (∀ v, valV kvs k = some v → Q v H) ∧ (valV kvs k = none → DWr P w K H d (putK kvs k z) (Q z)) :=
  ⟨fun v hv => h _ _ (a v hv), fun hn ψ hw => h _ _ (b hn ψ hw)⟩
end
end FS
set_option Elab.async false
set_option linter.all false
set_option maxRecDepth 100000
set_option maxHeartbeats 4000000
namespace FS
open PySem PySem.Spec PyProof.Rows L2
section
variable {P : Program} {w : World} {K : PySem.W.Frag} {mg : PySem.Str → Option Value} {base : Heap}
def k_beside (P : Program) (w : World) (K : PySem.W.Frag) : K2 := fun x y H Q => ∃ (φ : Fd) (a l : Addr) (c : Nat → φ.car) (q : Nat), x = .ref a ∧ SumL K φ H a l c ∧ PrV K H y q ∧ q < 8 ∧ SubSm φ c ∧ ∀ H' d, Ext H H' → H d = none → VecD P w K φ H' d (mulC q c) → Q (.ref d) H'
theorem good_one (φ : Fd) : Good φ.p 1 := (φ.good 1).mpr (by rw [φ.ic_one]; exact fun z => Lean.Grind.Field.zero_ne_one z.symm)
theorem made_zero (φ : Fd) : madeM φ.p 0 1 = (0, 1) := Fd.made_one 0 (by
  by_cases h : φ.p = 0
  · exact .inl h
  · have := Fd.p_pos h
    exact .inr ⟨by omega, by omega⟩)
theorem made_unit (φ : Fd) : madeM φ.p 1 1 = (1, 1) := Fd.made_one 1 (by
  by_cases h : φ.p = 0
  · exact .inl h
  · have := Fd.p_pos h
    exact .inr ⟨by omega, by omega⟩)
/-- the pairs made of the first i entries -/
def PairI (P : Program) (w : World) (K : PySem.W.Frag) (φ : Fd) (H H1 : Hp) (d D : Addr) (o : Obj) (xs : List Ent) (c : Nat → Option φ.car) (i : Nat) (H' : Hp) : Prop :=
  Ext H H' ∧ Tups H1 H' ∧ H' d = some (.frz o (DO P w d xs)) ∧ ∃ ps : List Addr, H' D = some (.lst (ps.map V.ref)) ∧ Paired (fun p (kv : NK × V) => ∃ y, SqT K H' p [y, kv.2] ∧ KeyR K H' y kv.1) ps ((kvE (xs.take i)).filter fun kv => keepK c kv.1)
/-- what the first i terms leave in the dict -/
def BesI (P : Program) (w : World) (K : PySem.W.Frag) (φ : Fd) (H1 : Hp) (d : Addr) (ts : List (Nat × φ.car)) (i : Nat) (H' : Hp) : Prop :=
  ExB d H1 H' ∧ ∃ kvs c, DAt P w K H' d kvs ∧ DictV K φ H' nkP 8 kvs c ∧ ∀ j, j < 8 → (c j).getD 0 = coef (ts.take i) j

abbrev N_beside : List PySem.Str := ["wish", "product", "field", "found", "own", "number", "key"]
theorem sc_beside : FnScope N_beside ["wish", "product"] (defScope s_beside) := ⟨rfl, rfl, rfl, by decide +kernel, rfl, by decide +kernel, by decide +kernel⟩
theorem b_beside (T : Tx K mg) : Body P w K mg base 3 "beside" (defBody s_beside) (defScope s_beside) N_beside (S2 (k_beside P w K)) := fun f cdv A outer s H vs Q E hcd hr h => by
  have hx := hx_of hr
  refine ⟨_, (pss_cons (ps_set (i := 2) sc_beside.nd rfl (by first | exact Or.inl rfl | exact Or.inr rfl) (C8.pe_mt0 (c_Sum_field T) hr (by decide) (pv 0))) (pss_cons (ps_set (i := 3) sc_beside.nd rfl (by first | exact Or.inl rfl | exact Or.inr rfl) pe_xnew) (pss_cons (ps_for PassesOwn.never rfl (pi_list (C8.pe_mt0 (c_Sum_terms T) hr (by decide) (pv 0))) (pg_tup rfl (pgs_cons (pg_name (i := 4) sc_beside.nd rfl (by first | exact Or.inl rfl | exact Or.inr rfl)) (pgs_cons (pg_name (i := 5) sc_beside.nd rfl (by first | exact Or.inl rfl | exact Or.inr rfl)) pgs_nil))) (pss_cons (ps_set (i := 6) sc_beside.nd rfl (by first | exact Or.inl rfl | exact Or.inr rfl) (C8.pe_c (c_joined_product T) hr (by decide) rfl (pa_cons (pv 4) (pa_cons (pv 1) pa_nil)))) (pss_one (ps_xput hx (pv 3) (pv 6) (C8.pe_mt (c_Field_plus T) hr (by decide) (pv 2) (pa_cons (pe_xsetd hx (pv 3) (pv 6) (C8.pe_mt (c_Field_made2 T) hr (by decide) (pv 2) (pa_cons pe_int pa_nil)) ⟨rfl, rfl, rfl, rfl⟩) (pa_cons (pv 5) pa_nil))) (by rfl))))) (pss_one (ps_ret (pe_callTy (call_xpairs rfl (Nat.lt_of_le_of_lt (Nat.add_le_add_left (by decide : 19 ≤ 64) _) (hu64 hr))) (by rfl) T.f_dict (by decide +kernel) (pa_cons (pe_lock (pe_lc (own := [("key", 6), ("number", 5)]) (g := (gTup K 2 (gCons (gName 6) (gCons (gName 5) gNil)))) (tt := (tTest (tOp rNe (tOp (rIxT K) (tVar 5) (tC (.int 0))) (tC (.int 0))))) (te := (tTup (tCons (tVar 6) (tCons (tVar 5) tNil)))) rfl sc_beside.nd (pi_xitems (pv 3)) (blkOk_by (N := N_beside) (sc := defScope s_beside) (by decide +kernel)) (fun _ _ _ _ _ => (pg_tup rfl (pgs_cons (pg_name (i := 6) sc_beside.nd rfl (by first | exact Or.inl rfl | exact Or.inr rfl)) (pgs_cons (pg_name (i := 5) sc_beside.nd rfl (by first | exact Or.inl rfl | exact Or.inr rfl)) pgs_nil)))) (fun _ _ _ _ _ => (pts_one (pt_cmpR op_ne (pe_ix ix_tup (pv 5) pe_int (fun _ _ => rfl)) pe_int (nomark _)))) (fun _ _ _ _ _ => (pe_tup (pa_cons (pv 6) (pa_cons (pv 5) pa_nil)))))) pa_nil))))))), ?_⟩
  obtain ⟨x, y, rfl, φ, a, l, c, q, rfl, hS, ⟨qa, rfl, hqa⟩, hq, hsm, hQ⟩ := h
  obtain ⟨dx, fa0, ha, _⟩ := id hS
  refine ⟨_, rfl, a, dx, _, rfl, ha, rfl, _, rfl, φ, a, l, c, rfl, hS, fun fa hfa => ?_⟩
  intro d ψ hd hD
  have e0 : Ext H (upd H d (.ext ψ)) := Ext.upd hd
  refine ⟨_, rfl, a, dx, _, rfl, e0 _ _ ha, rfl, _, rfl, φ, a, l, c, rfl, hS.xn (.ofX e0), fun H1 pl e1 hpl ⟨ts, ⟨xs, h1, h2⟩, hn, h0, hc⟩ => ?_⟩
  have e01 := e0.trans e1
  have hpd : pl ≠ d := fun z => by rw [z, upd_same] at hpl; cases hpl
  have h8 := mem_lt h2
  obtain ⟨c1, c2⟩ := rows_iff hn h0 h8 hc
  have hlx : xs.length = ts.length := Paired.length h2
  have hD1 : DAt P w K H1 d [] := hD.xn (.ofX e1)
  have sc : ∀ i k, Small φ (coef ((ts.take i).map fun t => (jn t.1 q, t.2)) k) := fun i k => by
    rw [coef_map k fun t ht => c1 t (List.mem_of_mem_take ht)]
    refine hsm _ (List.Nodup.sublist (List.filter_sublist.trans ((List.take_sublist i ts).map _)) hn) fun j hj => ?_
    obtain ⟨u, hu, rfl⟩ := List.mem_map.mp (List.mem_filter.mp hj).1
    exact h8 u (List.mem_of_mem_take hu)
  refine ⟨pl, rfl, ⟨xs, h1⟩, ?_⟩
  refine for_list (K := K) (xs := xs) (fun i σ H' => BesI P w K φ H1 d (ts.map fun t => (jn t.1 q, t.2)) i H' ∧ ∃ o1 o2 o3, σ = [some (.ref a), some (.ref qa), some (.ref fa), some (.ref d), o1, o2, o3]) ⟨⟨fun _ _ _ z => z, [], _, hD1, DictV.nil, fun j _ => rfl⟩, _, _, _, rfl⟩ (fun i σ H' _ z => sql_exb h1 z.1.1 hpd) (fun i x σ H2 hxi z => ?_) fun σ H2 z => ?_
  · obtain ⟨⟨x2, kvs, c', hDA, hDV, hcc⟩, o1, o2, o3, rfl⟩ := z
    obtain ⟨t, ht, ⟨ta, pv, nv, rfl, g1, g2, g3, g4⟩⟩ := paired_at h2 hxi
    have htm := List.mem_of_getElem? ht
    have tp12 : Tups H1 H2 := x2.tups hD1.noTup
    have e2 : Ext H H2 := ext_exb e01 hd x2
    have hkq : jn t.1 q < 8 := jn_lt t.1 g2 q hq
    have tk : (ts.map fun t => (jn t.1 q, t.2)).take (i + 1) = (ts.map fun t => (jn t.1 q, t.2)).take i ++ [(jn t.1 q, t.2)] := by rw [List.take_add_one, List.getElem?_map, ht]; rfl
    have sti : Small φ (coef ((ts.map fun t => (jn t.1 q, t.2)).take i) (jn t.1 q)) := by
      rw [← List.map_take]
      exact sc i _
    have stt : Small φ t.2 := by
      have := hsm [t.1] (by simp) (fun j hj => by rw [List.mem_singleton.mp hj]; exact g2)
      have e : lsum c [t.1] = t.2 := by
        rw [lsum_cons, c1 t htm]
        show t.2 + 0 = t.2
        grind
      rw [e] at this
      exact this
    refine ⟨ta, _, rfl, tp12.sqt g1, rfl, _, _, rfl, _, _, rfl, rfl, ?_⟩
    refine ⟨_, rfl, _, rfl, _, _, rfl, t.1, q, g2, hq, g3.tp tp12, ⟨qa, rfl, hqa.ext e2⟩, fun H3 kv e3 hkv => ?_⟩
    have e23 := e2.trans e3
    refine ⟨_, rfl, fa, _, _, rfl, e23 _ _ hfa.choose_spec, rfl, _, rfl, d, rfl, ⟨kvs, (hDA.xn (.ofX e3)).r⟩, _, rfl, _, rfl, fa, _, _, rfl, e23 _ _ hfa.choose_spec, rfl, _, _, _, rfl, fa, φ.p, 0, 1, rfl, rfl, rfl, hfa.ext e23, φ.prime, good_one φ, by decide, by decide, fun H4 za e4 hza hz => ?_⟩
    rw [made_zero] at hz
    have e34 := e3.trans e4
    have e24 := e23.trans e4
    have hDA4 := hDA.xn (.ofX e34)
    have hDV4 := hDV.xn (.ofX e34)
    have hkv4 : PrV K H4 kv (jn t.1 q) := hkv.xn (.ofX e4)
    refine ⟨kvs, nkP (jn t.1 q), hDA4, hkv4.key hkq, Nat.lt_of_le_of_lt hDV.len (by decide), ?_⟩
    have inv : ∀ (H5 H6 : Hp) (kvs2 : List (NK × V)) (c2 : Nat → Option φ.car) (v3 : V) (ψ3 : Heap → Prop), ExB d H4 H5 → Ext H5 H6 → DAt P w K H5 d kvs2 → DictV K φ H5 nkP 8 kvs2 c2 → (∀ j, j < 8 → (c2 j).getD 0 = coef ((ts.map fun t => (jn t.1 q, t.2)).take i) j) → NumV K φ H6 v3 (coef ((ts.map fun t => (jn t.1 q, t.2)).take i) (jn t.1 q) + t.2) → DAt P w K (upd H6 d (.ext ψ3)) d (putK kvs2 (nkP (jn t.1 q)) v3) →
        BesI P w K φ H1 d (ts.map fun t => (jn t.1 q, t.2)) (i + 1) (upd H6 d (.ext ψ3)) := fun H5 H6 kvs2 c2 v3 ψ3 x5 e6 hA2 hV2 hc2 hv3 hw => by
      refine ⟨(((x2.trans (.ofX e34)).trans x5).trans (.ofX e6)).wr, _, updC c2 (jn t.1 q) (some (coef ((ts.map fun t => (jn t.1 q, t.2)).take i) (jn t.1 q) + t.2)), hw, ?_, fun j hj => ?_⟩
      · have tp : Tups H6 (upd H6 d (.ext ψ3)) := Tups.upd (hA2.xn (.ofX e6)).noTup
        exact ((hV2.xn (.ofX e6)).tp tp).put (fun i j hi hj => nkP_inj hi hj) hkq (hv3.tp tp)
      · rw [tk, coef_snoc]
        unfold updC
        by_cases e : j = jn t.1 q
        · rw [if_pos e, if_pos e.symm, e]
          rfl
        · rw [if_neg e, if_neg fun z => e z.symm]
          exact hc2 j hj
    refine ⟨fun v hv => ?_, fun hnn ψ2 hw => ?_⟩
    · have hv0 : NumV K φ H4 v (coef ((ts.map fun t => (jn t.1 q, t.2)).take i) (jn t.1 q)) := by
        cases z : c' (jn t.1 q) with
        | none =>
          rw [hDV4.get0 hkq z] at hv
          cases hv
        | some x0 =>
          obtain ⟨u, k1, k2⟩ := hDV4.get hkq z
          rw [k1] at hv
          cases hv
          have := hcc _ hkq
          rw [z] at this
          rw [← this]
          exact k2
      refine ⟨_, rfl, _, _, _, rfl, φ, _, _, fa, rfl, hfa.ext e24, hv0, ((g4.tp tp12).xn (.ofX e34)), sti, stt, fun H6 v3 e6 hv3 => ?_⟩
      exact ⟨_, rfl, _, rfl, d, kvs, nkP (jn t.1 q), rfl, hDA4.xn (.ofX e6), (hkv4.xn (.ofX e6)).key hkq, Nat.lt_of_le_of_lt hDV4.len (by decide), fun ψ3 hw => ⟨inv H4 H6 kvs c' v3 ψ3 (fun _ _ _ z => z) e6 hDA4 hDV4 hcc hv3 hw, _, _, _, rfl⟩⟩
    · have hcn : c' (jn t.1 q) = none := by
        cases z : c' (jn t.1 q) with
        | none => rfl
        | some x0 =>
          obtain ⟨u, k1, _⟩ := hDV4.get hkq z
          rw [k1] at hnn
          cases hnn
      have tp : Tups H4 (upd H4 d (.ext ψ2)) := Tups.upd hDA4.noTup
      have c0 : coef ((ts.map fun t => (jn t.1 q, t.2)).take i) (jn t.1 q) = 0 := by
        have := hcc _ hkq
        rw [hcn] at this
        exact this.symm
      have z0 : NumV K φ H4 (.ref za) 0 := ⟨_, rfl, by rw [Fd.enc_zero]; exact SqT.of hz⟩
      have hV2 := (hDV4.tp tp).put (fun i j hi hj => nkP_inj hi hj) hkq (z0.tp tp)
      have hcc2 : ∀ j, j < 8 → (updC c' (jn t.1 q) (some 0) j).getD 0 = coef ((ts.map fun t => (jn t.1 q, t.2)).take i) j := fun j hj => by
        unfold updC
        by_cases e : j = jn t.1 q
        · rw [if_pos e, e, c0]
          rfl
        · rw [if_neg e]
          exact hcc j hj
      refine ⟨_, rfl, _, _, _, rfl, φ, _, _, fa, rfl, hfa.ext (e24.wr hd), by rw [c0]; exact z0.tp tp, (((g4.tp tp12).xn (.ofX e34)).tp tp), sti, stt, fun H6 v3 e6 hv3 => ?_⟩
      exact ⟨_, rfl, _, rfl, d, _, nkP (jn t.1 q), rfl, hw.xn (.ofX e6), ((hkv4.tp tp).xn (.ofX e6)).key hkq, Nat.lt_of_le_of_lt hV2.len (by decide), fun ψ3 hw3 => ⟨inv (upd H4 d (.ext ψ2)) H6 _ _ v3 ψ3 ((show ExB d H4 H4 from fun _ _ _ z => z).wr) e6 hw hV2 hcc2 hv3 hw3, _, _, _, rfl⟩⟩
  · obtain ⟨⟨x2, kvs, c', ⟨xsE, ek, hdd, ko⟩, hDV, hcc⟩, o1, o2, o3, rfl⟩ := z
    subst ek
    have hmm : ∀ j, j < 8 → (c' j).getD 0 = mulC q c j := fun j hj => by
      rw [hcc j hj, hlx, ← List.length_map (f := fun t : Nat × φ.car => (jn t.1 q, t.2)), List.take_length]
      exact mul_rows hn h0 h8 c1 c2 q j
    have e2 : Ext H H2 := ext_exb e01 hd x2
    refine ⟨d, _, hdd, True.intro, fun od => ⟨_, rfl, d, od, xsE, rfl, upd_same, fun D hD2 => ?_⟩⟩
    have eF : Ext H (upd H2 d (.frz od (DO P w d xsE))) := e2.wr hd
    have tpF : Tups H2 (upd H2 d (.frz od (DO P w d xsE))) := Tups.upd (noTup_do hdd)
    have hDV1 := hDV.tp tpF
    have ko1 := ko.mono tpF
    have hdD : d ≠ D := ne_of_none upd_same hD2
    have hD0 : H D = none := fresh_of eF hD2
    refine lc_it walk_xitems (PairI P w K φ H (upd H2 d (.frz od (DO P w d xsE))) d D od xsE c') ?_ (fun i Hc _ z => z.2.2.1) (fun i x Hc Hc' hi z y => ?_) fun Hc z => ?_
    · exact ⟨eF.wr hD0, Tups.upd (noTup_none hD2), by rw [upd_ne hdD]; exact upd_same, [], upd_same, .nil⟩
    · obtain ⟨z1, z2, z3, ps, z4, z5⟩ := z
      obtain ⟨Tt, k, ka, v, ei, rfl, hT, rfl⟩ := y
      obtain ⟨j, xj, hj, rfl, ecj, nv, kv⟩ := ent_at hDV1 ko1 ei
      have tp2 : Tups Hc (upd Hc Tt (.tup [.ref ka, v])) := Tups.upd (noTup_none hT)
      have tp3 := z2.trans tp2
      obtain ⟨vb, rfl, hvb⟩ := nv.tp tp3
      have hkd : (nkP j).depth ≤ 8 := nkP_depth j hj
      have hDT : D ≠ Tt := ne_of_none z4 hT
      have hdT : d ≠ Tt := ne_of_none z3 hT
      have fk : (kvE (xsE.take (i + 1))).filter (fun kv => keepK c' kv.1) = if xj = 0 then (kvE (xsE.take i)).filter (fun kv => keepK c' kv.1) else (kvE (xsE.take i)).filter (fun kv => keepK c' kv.1) ++ [(nkP j, .ref vb)] := by
        have tk : xsE.take (i + 1) = xsE.take i ++ [(nkP j, ka, .ref vb)] := by rw [List.take_add_one, ei]; rfl
        rw [tk]
        unfold kvE
        rw [List.map_append, List.filter_append]
        have g : keepK c' (nkP j) = decide (xj ≠ 0) := by rw [keepK_at c' hj, ecj]; rfl
        show _ ++ List.filter (fun kv : NK × V => keepK c' kv.1) [(nkP j, V.ref vb)] = _
        rw [List.filter_cons]
        show _ ++ (if keepK c' (nkP j) = true then _ else _) = _
        rw [g]
        by_cases e : xj = 0
        · rw [if_pos e, if_neg (by simp [e])]
          simp
        · rw [if_neg e, if_pos (by simp [e])]
          rfl
      have pm : ∀ {Ha Hb : Hp} {ps : List Addr} {kvs : List (NK × V)}, Tups Ha Hb → Paired (fun p (kv : NK × V) => ∃ y, SqT K Ha p [y, kv.2] ∧ KeyR K Ha y kv.1) ps kvs → Paired (fun p (kv : NK × V) => ∃ y, SqT K Hb p [y, kv.2] ∧ KeyR K Hb y kv.1) ps kvs := fun tp h => Paired.mapP h fun _ _ ⟨y, a, b⟩ => ⟨y, tp.sqt a, b.mono tp⟩
      refine ⟨Tt, _, rfl, SqT.of upd_same, rfl, _, _, rfl, _, _, rfl, rfl, rfl, _, rfl, vb, _, _, _, rfl, rfl, hvb, atI_nat (j := 0) rfl, rfl, _, rfl, ?_⟩
      show if (!decide (V.int (φ.enc xj).1 = V.int 0)) = true then _ else _
      by_cases hx0 : xj = 0
      · have en : decide (V.int (φ.enc xj).1 = V.int 0) = true := decide_eq_true (by rw [Fd.top_zero.mpr hx0])
        rw [en]
        refine iteF ⟨z1.trans (Ext.upd hT), tp3, by rw [upd_ne hdT]; exact z3, ps, by rw [upd_ne hDT]; exact z4, ?_⟩
        rw [fk, if_pos hx0]
        exact pm tp2 z5
      · have en : decide (V.int (φ.enc xj).1 = V.int 0) = false := decide_eq_false fun z => hx0 (Fd.top_zero.mp (V.int.inj z))
        rw [en]
        have hDrF : ∀ r, upd Hc Tt (.tup [.ref ka, .ref vb]) r = none → D ≠ r := fun r hr2 z => by
          rw [← z, upd_ne hDT, z4] at hr2
          cases hr2
        refine iteT ⟨_, rfl, _, rfl, by show 2 ≤ sizeLine; decide, fun r hr2 => ⟨ps.map V.ref, ?_, ?_, ?_⟩⟩
        · have hDr := hDrF r hr2
          rw [upd_ne hDr, upd_ne hDT]
          exact z4
        · have g5 : ps.length = _ := Paired.length z5
          have g6 := List.length_filter_le (fun kv : NK × V => keepK c' kv.1) (kvE (xsE.take i))
          have g7 := hDV.len
          unfold kvE at g6 g7
          rw [List.length_map, List.length_take] at g6
          rw [List.length_map] at g7
          unfold kvE at g5
          rw [List.length_map]
          exact Nat.lt_of_le_of_lt (show ps.length ≤ 8 by omega) (by decide)
        · have hDr := hDrF r hr2
          have hrd : d ≠ r := fun z => by
            rw [← z, upd_ne hdT, z3] at hr2
            cases hr2
          have tp4 : Tups (upd Hc Tt (.tup [.ref ka, .ref vb])) (upd (upd (upd Hc Tt (.tup [.ref ka, .ref vb])) r (.tup [.ref ka, .ref vb])) D (.lst (ps.map V.ref ++ [.ref r]))) :=
            (Tups.upd (noTup_none hr2)).trans (Tups.upd fun xs => ⟨fun z => (by rw [upd_ne hDr, upd_ne hDT, z4] at z; cases z), fun ob z => (by rw [upd_ne hDr, upd_ne hDT, z4] at z; cases z)⟩)
          refine ⟨((z1.trans (Ext.upd hT)).trans (Ext.upd hr2)).wr hD0, tp3.trans tp4, by rw [upd_ne hdD, upd_ne hrd, upd_ne hdT]; exact z3, ps ++ [r], by rw [upd_same, List.map_append]; rfl, ?_⟩
          rw [fk, if_neg hx0]
          refine paired_append (pm tp4 (pm tp2 z5)) (.cons ⟨.ref ka, ?_, ?_⟩ .nil)
          · exact SqT.of (by rw [upd_ne (Ne.symm hDr)]; exact upd_same)
          · exact ⟨ka, rfl, kv.mono (tp3.trans tp4), hkd⟩
    · obtain ⟨z1, z2, z3, ps, z4, z5⟩ := z
      rw [List.take_length] at z5
      have hDd : D ≠ d := Ne.symm hdD
      have tpU : Tups Hc (upd Hc d (DO P w d xsE)) := Tups.upd fun xs => ⟨fun z => (by rw [z3] at z; cases z), fun ob z => (by rw [z3] at z; cases z)⟩
      refine ⟨z3, ?_⟩
      have eU : Ext H (upd Hc d (DO P w d xsE)) := z1.wr hd
      have hkeep := (hDV1.tp (z2.trans tpU)).keep hmm
      refine ⟨D, ps, _, rfl, SqL.of (by rw [upd_ne hDd]; exact z4), Paired.mapP z5 fun _ _ ⟨y, a, b⟩ => ⟨y, tpU.sqt a, b.mono tpU⟩, hkeep.nodup, fun p ψ9 hp9 hA9 => ?_⟩
      have eP := Ext.upd (o := .ext ψ9) hp9
      exact hQ _ p (eU.trans eP) (fresh_of eU hp9) ⟨_, hA9, hkeep.xn (.ofX eP)⟩
theorem c_beside (T : Tx K mg) : C8.Cal P w K mg base 4 "beside" (S2 (k_beside P w K)) [] := cal_of T.F_beside T.m_beside sc_beside (fun _ _ _ _ _ _ us hl => match us, hl with | [_, _], _ => rfl) len2 (b_beside T)
end
end FS
set_option Elab.async false
set_option linter.all false
set_option maxRecDepth 100000
set_option maxHeartbeats 4000000
namespace FS
open PySem PySem.Spec PyProof.Rows L2
/-! ### keys that hash apart -/
theorem hashP (w : World) : ((List.range 8).map fun j => (nkP j).hash w).Nodup := of_decide_eq_true (by kernel_rfl)
theorem hashM (w : World) : ((List.range 80).map fun j => (nkM j).hash w).Nodup := of_decide_eq_true (by kernel_rfl)
/-- a family of keys -/
structure Nks (w : World) (nk : Nat → NK) (n : Nat) : Prop where
  inj : ∀ i j, i < n → j < n → nk i = nk j → i = j
  dep : ∀ j, j < n → (nk j).depth ≤ 8
  hash : ((List.range n).map fun j => (nk j).hash w).Nodup
  few : n ≤ 80
theorem nksP (w : World) : Nks w nkP 8 := ⟨fun i j hi hj => nkP_inj hi hj, nkP_depth, hashP w, by decide⟩
theorem nksM (w : World) : Nks w nkM 80 := ⟨fun i j _ _ => nkM_inj, fun j _ => nkM_depth j, hashM w, by decide⟩
theorem Nks.apart {w : World} {nk : Nat → NK} {n : Nat} (N : Nks w nk n) {ks : List NK} (hn : ks.Nodup) (h : ∀ k ∈ ks, ∃ j, j < n ∧ k = nk j) : Apart w ks := by
  unfold Apart
  refine List.pairwise_map.mpr (List.Pairwise.imp_of_mem (fun {a b} ha hb hne e => ?_) hn)
  obtain ⟨i, hi, rfl⟩ := h a ha
  obtain ⟨j, hj, rfl⟩ := h b hb
  refine hne (congrArg nk ?_)
  have q := (List.pairwise_map.mp N.hash : (List.range n).Pairwise fun i j => (nk i).hash w ≠ (nk j).hash w)
  rcases Nat.lt_trichotomy i j with z | z | z
  · have := List.pairwise_iff_getElem.mp q i j (by simpa using hi) (by simpa using hj) z
    simp at this
    exact absurd e this
  · exact z
  · have := List.pairwise_iff_getElem.mp q j i (by simpa using hj) (by simpa using hi) z
    simp at this
    exact absurd e.symm this
section
variable {P : Program} {w : World} {K : PySem.W.Frag} {φ : Fd} {H H' : Hp}
/-- a dict that holds the vector v over the keys nk -/
def VecG (P : Program) (w : World) (K : PySem.W.Frag) (φ : Fd) (H : Hp) (nk : Nat → NK) (n : Nat) (d : Addr) (v : Nat → φ.car) : Prop := ∃ kvs, DAt P w K H d kvs ∧ DictV K φ H nk n kvs (nz v)
theorem VecG.xn {nk : Nat → NK} {n : Nat} {d : Addr} {v : Nat → φ.car} (h : VecG P w K φ H nk n d v) (e : XN H H') : VecG P w K φ H' nk n d v := let ⟨kvs, a, b⟩ := h; ⟨kvs, a.xn e, b.xn e⟩
theorem VecG.congr {nk : Nat → NK} {n : Nat} {d : Addr} {v u : Nat → φ.car} (h : VecG P w K φ H nk n d v) (e : ∀ j, j < n → v j = u j) : VecG P w K φ H nk n d u := let ⟨kvs, a, b⟩ := h; ⟨kvs, a, b.congr fun j hj => by unfold nz; rw [e j hj]⟩
theorem DAt.exb {d b : Addr} {kvs : List (NK × V)} (h : DAt P w K H d kvs) (x : ExB b H H') (n : NoTup (H b)) (hd : d ≠ b) : DAt P w K H' d kvs := let ⟨xs, a, e, c⟩ := h; ⟨xs, a, x _ _ hd e, c.mono (x.tups n)⟩
theorem VecG.exb {nk : Nat → NK} {n : Nat} {d b : Addr} {v : Nat → φ.car} (h : VecG P w K φ H nk n d v) (x : ExB b H H') (nt : NoTup (H b)) (hd : d ≠ b) : VecG P w K φ H' nk n d v := let ⟨kvs, a, c⟩ := h; ⟨kvs, a.exb x nt hd, c.tp (x.tups nt)⟩
/-! ### the heads -/
/-- what stands at a head: the row, the marks; neither at b -/
def HeadV (P : Program) (w : World) (K : PySem.W.Frag) (φ : Fd) (H : Hp) (b : Addr) (v : V) (x : (Nat → φ.car) × (Nat → φ.car)) : Prop := ∃ t r m, v = .ref t ∧ SqT K H t [.ref r, .ref m] ∧ VecG P w K φ H nkP 8 r x.1 ∧ VecG P w K φ H nkM 80 m x.2 ∧ r ≠ b ∧ m ≠ b
theorem HeadV.xn {b : Addr} {v : V} {x : (Nat → φ.car) × (Nat → φ.car)} (h : HeadV P w K φ H b v x) (e : XN H H') : HeadV P w K φ H' b v x := let ⟨t, r, m, a, c, d, f, g⟩ := h; ⟨t, r, m, a, sqt_xn c e, d.xn e, f.xn e, g⟩
theorem HeadV.exb {b : Addr} {v : V} {x : (Nat → φ.car) × (Nat → φ.car)} (h : HeadV P w K φ H b v x) (e : ExB b H H') (n : NoTup (H b)) : HeadV P w K φ H' b v x := let ⟨t, r, m, a, c, d, f, g1, g2⟩ := h; ⟨t, r, m, a, (e.tups n).sqt c, d.exb e n g1, f.exb e n g2, g1, g2⟩
/-- the lines so far: at each head what stands there -/
abbrev LSt (φ : Fd) := Nat → Option ((Nat → φ.car) × (Nat → φ.car))
structure HeadsD (P : Program) (w : World) (K : PySem.W.Frag) (φ : Fd) (H : Hp) (b : Addr) (kvs : List (NK × V)) (st : LSt φ) : Prop where
  nodup : (kvs.map (·.1)).Nodup
  dom : ∀ kv ∈ kvs, ∃ j, j < 8 ∧ kv.1 = nkP j
  val : ∀ j, j < 8 → match st j with
    | none => valV kvs (nkP j) = none
    | some x => ∃ v, valV kvs (nkP j) = some v ∧ HeadV P w K φ H b v x
theorem HeadsD.mono {b : Addr} {kvs : List (NK × V)} {st : LSt φ} (h : HeadsD P w K φ H b kvs st) (f : ∀ v x, HeadV P w K φ H b v x → HeadV P w K φ H' b v x) : HeadsD P w K φ H' b kvs st := by
  refine ⟨h.nodup, h.dom, fun j hj => ?_⟩
  have q := h.val j hj
  cases z : st j with
  | none => rw [z] at q; exact q
  | some x =>
    rw [z] at q
    obtain ⟨v, q1, q2⟩ := q
    exact ⟨v, q1, f _ _ q2⟩
theorem HeadsD.nil {b : Addr} : HeadsD P w K φ H b [] (fun _ => none) := ⟨List.nodup_nil, (fun _ z => nomatch z), fun j _ => rfl⟩
theorem HeadsD.get {b : Addr} {kvs : List (NK × V)} {st : LSt φ} (h : HeadsD P w K φ H b kvs st) {j : Nat} (hj : j < 8) {x : (Nat → φ.car) × (Nat → φ.car)} (e : st j = some x) : ∃ v, valV kvs (nkP j) = some v ∧ HeadV P w K φ H b v x := by
  have q := h.val j hj
  rw [e] at q
  exact q
theorem HeadsD.get0 {b : Addr} {kvs : List (NK × V)} {st : LSt φ} (h : HeadsD P w K φ H b kvs st) {j : Nat} (hj : j < 8) (e : st j = none) : valV kvs (nkP j) = none := by
  have q := h.val j hj
  rw [e] at q
  exact q
theorem HeadsD.len {b : Addr} {kvs : List (NK × V)} {st : LSt φ} (h : HeadsD P w K φ H b kvs st) : kvs.length ≤ 8 := by
  have := nodup_le (nk := nkP) (n := 8) h.nodup fun k hk => by
    obtain ⟨kv, h1, h2⟩ := List.mem_map.mp hk
    obtain ⟨j, a, c⟩ := h.dom kv h1
    exact ⟨j, a, by rw [← h2, c]⟩
  rwa [List.length_map] at this
def updS {β : Type} (c : Nat → Option β) (j : Nat) (o : Option β) : Nat → Option β := fun i => if i = j then o else c i
theorem HeadsD.put {b : Addr} {kvs : List (NK × V)} {st : LSt φ} (h : HeadsD P w K φ H b kvs st) {j : Nat} (hj : j < 8) {v : V} {x : (Nat → φ.car) × (Nat → φ.car)} (hv : HeadV P w K φ H b v x) : HeadsD P w K φ H b (putK kvs (nkP j) v) (updS st j (some x)) := by
  refine ⟨?_, fun kv hkv => ?_, fun i hi => ?_⟩
  · rw [keys_put]
    split
    · exact h.nodup
    · rename_i z
      refine List.nodup_append.mpr ⟨h.nodup, by simp, fun a ha c hc => ?_⟩
      rw [List.mem_singleton.mp hc]
      intro e
      obtain ⟨kv, h1, h2⟩ := List.mem_map.mp ha
      exact z (List.any_eq_true.mpr ⟨kv, h1, decide_eq_true (h2.trans e)⟩)
  · have hm : kv.1 ∈ (putK kvs (nkP j) v).map (·.1) := List.mem_map_of_mem hkv
    rw [keys_put] at hm
    split at hm
    · obtain ⟨u, h1, h2⟩ := List.mem_map.mp hm
      obtain ⟨i, a, c⟩ := h.dom u h1
      exact ⟨i, a, by rw [← h2, c]⟩
    · rcases List.mem_append.mp hm with hm | hm
      · obtain ⟨u, h1, h2⟩ := List.mem_map.mp hm
        obtain ⟨i, a, c⟩ := h.dom u h1
        exact ⟨i, a, by rw [← h2, c]⟩
      · exact ⟨j, hj, List.mem_singleton.mp hm⟩
  · rw [valV_put]
    unfold updS
    by_cases e : i = j
    · subst e
      rw [if_pos rfl, if_pos rfl]
      exact ⟨v, rfl, hv⟩
    · rw [if_neg e, if_neg fun z => e (nkP_inj hi hj z)]
      exact h.val i hi
/-- the lines at a: the field at fa, the dict of heads at b -/
def LinesAt (P : Program) (w : World) (K : PySem.W.Frag) (φ : Fd) (H : Hp) (a fa b : Addr) (st : LSt φ) : Prop := ∃ dx kvs, H a = some (.ins (He.ga K "Lines") dx [("line_field", .ref fa), ("by_head", .ref b)]) ∧ FieldAt K H fa φ.p ∧ DAt P w K H b kvs ∧ HeadsD P w K φ H b kvs st
theorem LinesAt.xn {a fa b : Addr} {st : LSt φ} (h : LinesAt P w K φ H a fa b st) (e : XN H H') : LinesAt P w K φ H' a fa b st := let ⟨dx, kvs, h1, h2, h3, h4⟩ := h; ⟨dx, kvs, e _ _ h1 (fun _ z => by cases z), h2.xn e, h3.xn e, h4.mono fun _ _ q => q.xn e⟩
end
end FS
set_option Elab.async false
set_option linter.all false
set_option maxRecDepth 100000
set_option maxHeartbeats 4000000
namespace FS
open PySem PySem.Spec PyProof.Rows L2
section
variable {P : Program} {w : World} {K : PySem.W.Frag} {mg : PySem.Str → Option Value} {base : Heap}
def k_order_of (K : PySem.W.Frag) : K1 := fun x H Q => ∃ j, j < 8 ∧ PrV K H x j ∧ ∀ H' v, Ext H H' → Dp K H' v (keyD j) → Q v H'

abbrev N_order_of : List PySem.Str := ["product"]
theorem sc_order_of : FnScope N_order_of ["product"] (defScope s_order_of) := ⟨rfl, rfl, rfl, by decide +kernel, rfl, by decide +kernel, by decide +kernel⟩
theorem b_order_of (T : Tx K mg) : Body P w K mg base 0 "order_of" (defBody s_order_of) (defScope s_order_of) N_order_of (S1 (k_order_of K)) := fun f cdv A outer s H vs Q E hcd hr h => by
  refine ⟨_, (pss_one (ps_ret (pe_tup (pa_cons (pe_callB call_len_seq (by rfl) T.f_len PySem.boot_len (pa_cons (pv 0) pa_nil)) (pa_cons (pv 0) pa_nil))))), ?_⟩
  obtain ⟨x, rfl, j, hj, ⟨b, rfl, h3⟩, hQ⟩ := h
  refine ⟨_, rfl, b, _, rfl, .inr h3, _, rfl, by show 2 ≤ sizeLine; decide, fun q hq => hQ _ _ (Ext.upd hq) (.tup (SqT.of upd_same) (.cons ?_ (.cons (.tup (h3.ext (Ext.upd hq)) (dpAll_ints _)) .nil)))⟩
  rw [List.length_map]
  exact .int _
theorem c_order_of (T : Tx K mg) : C8.Cal P w K mg base 1 "order_of" (S1 (k_order_of K)) [] := cal_of T.F_order_of T.m_order_of sc_order_of (fun _ _ _ _ _ _ us hl => match us, hl with | [_], _ => rfl) len1 (b_order_of T)

def k_Lines_init (P : Program) (w : World) (K : PySem.W.Frag) : K2 := fun x y H Q => ∃ (φ : Fd) (a dx fa : Addr), x = .ref a ∧ y = .ref fa ∧ H a = some (.ins (He.ga K "Lines") dx []) ∧ FieldAt K H fa φ.p ∧ ∀ H' b, ExB a H H' → H b = none → LinesAt P w K φ H' a fa b (fun _ => none) → Q .non H'

abbrev N_Lines_init : List PySem.Str := ["self", "field"]
theorem sc_Lines_init : FnScope N_Lines_init ["self", "field"] (defScope s_Lines_init) := ⟨rfl, rfl, rfl, by decide +kernel, rfl, by decide +kernel, by decide +kernel⟩
theorem b_Lines_init (T : Tx K mg) : Body P w K mg base 0 "Lines.__init__" (defBody s_Lines_init) (defScope s_Lines_init) N_Lines_init (S2 (k_Lines_init P w K)) := fun f cdv A outer s H vs Q E hcd hr h => by
  refine ⟨_, (pss_cons (ps_fld (pv 0) (pv 1) rfl) (pss_one (ps_fld (pv 0) pe_xnew rfl))), ?_⟩
  obtain ⟨x, y, rfl, φ, a, dx, fa, rfl, rfl, ha, hf, hQ⟩ := h
  have hfa : fa ≠ a := fun z => by
    obtain ⟨dz, hf'⟩ := hf
    rw [z, ha] at hf'
    injection hf' with hf'
    injection hf' with _ _ hf'
    cases hf'
  refine ⟨_, rfl, _, rfl, a, _, dx, [], rfl, ha, T.c_Lines, T.n_Lines_line_field, by show (0 : Nat) < 1000; decide, ?_⟩
  intro b ψ hb hB
  have hab : a ≠ b := ne_of_none upd_same hb
  have x1 : ExB a H (upd H a (.ins (He.ga K "Lines") dx [("line_field", .ref fa)])) := (show ExB a H H from fun _ _ _ z => z).wr
  have x2 := x1.trans (ExB.ofX (Ext.upd (o := .ext ψ) hb))
  have ha2 : upd (upd H a (.ins (He.ga K "Lines") dx [("line_field", .ref fa)])) b (.ext ψ) a = some (.ins (He.ga K "Lines") dx [("line_field", .ref fa)]) := by rw [upd_ne hab]; exact upd_same
  refine ⟨_, rfl, a, _, dx, _, rfl, ha2, T.c_Lines, T.n_Lines_by_head, by show (1 : Nat) < 1000; decide, ?_⟩
  have x3 := x2.wr (o := .ins (He.ga K "Lines") dx [("line_field", .ref fa), ("by_head", .ref b)])
  have hb0 : H b = none := by
    rw [upd_ne (Ne.symm hab)] at hb
    exact hb
  exact hQ _ b x3 hb0 ⟨dx, [], upd_same, hf.exb x3 hfa, hB.exb ((show ExB a _ _ from fun _ _ _ z => z).wr) (ins_noTup ha2) (Ne.symm hab), HeadsD.nil⟩
theorem c_Lines_init (T : Tx K mg) : C8.Mak P w K mg base 1 "Lines" (He.ga K "Lines") (S2 (k_Lines_init P w K)) [] := mak_of T.F_Lines_init T.m_Lines T.k_Lines sc_Lines_init (fun _ _ _ _ _ _ us hl => match us, hl with | [_, _], _ => rfl) len2 (b_Lines_init T)

theorem small_zero (φ : Fd) : Small φ 0 := by
  unfold Small
  rw [Fd.enc_zero]
  exact ⟨Nat.two_pow_pos _, Nat.one_lt_two_pow (by decide)⟩
theorem small_one (φ : Fd) : Small φ 1 := by
  unfold Small
  rw [Fd.enc_one]
  exact ⟨Nat.one_lt_two_pow (by decide), Nat.one_lt_two_pow (by decide)⟩
def k_Lines_less (P : Program) (w : World) (K : PySem.W.Frag) : K4 := fun x y z t H Q => ∃ (φ : Fd) (nk : Nat → NK) (n : Nat) (v u : Nat → φ.car) (s : φ.car) (a dx fa b r o : Addr), x = .ref a ∧ y = .ref r ∧ z = .ref o ∧
  H a = some (.ins (He.ga K "Lines") dx [("line_field", .ref fa), ("by_head", .ref b)]) ∧ FieldAt K H fa φ.p ∧ Nks w nk n ∧ VecG P w K φ H nk n r v ∧ VecG P w K φ H nk n o u ∧ NumV K φ H t s ∧ Small φ s ∧ (∀ j, j < n → Small φ (v j) ∧ Small φ (u j) ∧ Small φ (u j * s)) ∧
  ∀ H' d, Ext H H' → H d = none → VecG P w K φ H' nk n d (fun j => v j - u j * s) → Q (.ref d) H'
/-- what the first i entries leave -/
def lessC {φ : Fd} (nk : Nat → NK) (xs : List Ent) (v u : Nat → φ.car) (s : φ.car) (i : Nat) : Nat → φ.car := fun j => if nk j ∈ (xs.take i).map (·.1) then v j - u j * s else v j
theorem keys_fresh {xs : List Ent} {i : Nat} {k : NK} {a : Addr} {v : V} (hn : (xs.map (·.1)).Nodup) (ei : xs[i]? = some (k, a, v)) : ¬ k ∈ (xs.take i).map (·.1) := fun g4 => by
  have hsp : xs = xs.take i ++ (k, a, v) :: xs.drop (i + 1) := by
    have h1 := (List.getElem?_eq_some_iff.mp ei).1
    have h2 := (List.getElem?_eq_some_iff.mp ei).2
    rw [← h2, List.getElem_cons_drop, List.take_append_drop]
  rw [hsp, List.map_append, List.map_cons] at hn
  exact (List.nodup_append.mp hn).2.2 _ g4 _ List.mem_cons_self rfl
theorem lessC_step {w : World} {φ : Fd} {nk : Nat → NK} {n : Nat} (N : Nks w nk n) {xs : List Ent} {v u : Nat → φ.car} {s : φ.car} {i j : Nat} {a : Addr} {y : V} (hj : j < n) (ei : xs[i]? = some (nk j, a, y)) : ∀ k, k < n → lessC nk xs v u s (i + 1) k = if k = j then v j - u j * s else lessC nk xs v u s i k := fun k hk => by
  unfold lessC
  have tk : xs.take (i + 1) = xs.take i ++ [(nk j, a, y)] := by rw [List.take_add_one, ei]; rfl
  by_cases e : k = j
  · subst e
    rw [if_pos rfl, if_pos]
    rw [tk, List.map_append]
    exact List.mem_append_right _ (List.mem_singleton.mpr rfl)
  · rw [if_neg e]
    have : nk k ∈ (xs.take (i + 1)).map (·.1) ↔ nk k ∈ (xs.take i).map (·.1) := by
      rw [tk, List.map_append, List.mem_append]
      constructor
      · rintro (h | h)
        · exact h
        · exact absurd (N.inj k j hk hj (List.mem_singleton.mp h)) e
      · exact .inl
    simp only [this]
theorem valV_absent {κ : Type} [DecidableEq κ] {k : κ} : ∀ {kvs : List (κ × V)}, ¬ k ∈ kvs.map (·.1) → valV kvs k = none
  | [], _ => rfl
  | p :: r, h => by
    rw [valV_neg fun z => h (by rw [← z]; exact List.mem_cons_self), valV_absent fun z => h (List.mem_cons_of_mem _ z)]
def LesI (P : Program) (w : World) (K : PySem.W.Frag) (φ : Fd) (HB : Hp) (nk : Nat → NK) (n : Nat) (o d : Addr) (od : Obj) (xs : List Ent) (v u : Nat → φ.car) (s : φ.car) (i : Nat) (H' : Hp) : Prop :=
  Ext HB H' ∧ VecG P w K φ H' nk n d (lessC nk xs v u s i)

abbrev N_Lines_less : List PySem.Str := ["self", "row", "other", "share", "field", "found", "key", "number", "here"]
theorem sc_Lines_less : FnScope N_Lines_less ["self", "row", "other", "share"] (defScope s_Lines_less) := ⟨rfl, rfl, rfl, by decide +kernel, rfl, by decide +kernel, by decide +kernel⟩
theorem b_Lines_less (T : Tx K mg) : Body P w K mg base 3 "Lines.less" (defBody s_Lines_less) (defScope s_Lines_less) N_Lines_less (S4 (k_Lines_less P w K)) := fun f cdv A outer s H vs Q E hcd hr h => by
  have hx := hx_of hr
  refine ⟨_, (pss_cons (ps_set (i := 4) sc_Lines_less.nd rfl (by first | exact Or.inl rfl | exact Or.inr rfl) (pe_fld (pv 0) rfl)) (pss_cons (ps_set (i := 5) sc_Lines_less.nd rfl (by first | exact Or.inl rfl | exact Or.inr rfl) (pe_callTy (call_xcopy (Nat.lt_of_le_of_lt (Nat.add_le_add_left (by decide : 19 ≤ 64) _) (hu64 hr))) (by rfl) T.f_dict (by decide +kernel) (pa_cons (pv 1) pa_nil))) (pss_cons (ps_lock (ps_for PassesOwn.never rfl (pi_xitems (pv 2)) (pg_tup rfl (pgs_cons (pg_name (i := 6) sc_Lines_less.nd rfl (by first | exact Or.inl rfl | exact Or.inr rfl)) (pgs_cons (pg_name (i := 7) sc_Lines_less.nd rfl (by first | exact Or.inl rfl | exact Or.inr rfl)) pgs_nil))) (pss_cons (ps_set (i := 8) sc_Lines_less.nd rfl (by first | exact Or.inl rfl | exact Or.inr rfl) (C8.pe_mt (c_Field_minus T) hr (by decide) (pv 4) (pa_cons (pe_xsetd hx (pv 5) (pv 6) (pe_glob (v := .ref (He.ga K "ZERO")) rfl T.m_ZERO rfl) ⟨rfl, rfl, rfl, rfl⟩) (pa_cons (C8.pe_mt (c_Field_times T) hr (by decide) (pv 4) (pa_cons (pv 7) (pa_cons (pv 3) pa_nil))) pa_nil)))) (pss_one (ps_if (pt_cmpR (op_eqD (hu64 hr)) (pv 8) (pe_glob (v := .ref (He.ga K "ZERO")) rfl T.m_ZERO rfl) (nomark _)) (pss_one (ps_expr (pe_xpop hx (pv 5) (pv 6) ⟨rfl, rfl, rfl, rfl⟩))) (pss_one (ps_xput hx (pv 5) (pv 6) (pv 8) (by rfl)))))))) (pss_one (ps_ret (pv 5)))))), ?_⟩
  obtain ⟨x, y, z, t, rfl, φ, nk, n, v, u, s, a, dx, fa, b, r, o, rfl, rfl, rfl, ha, hfa, N, ⟨kvr, hrA, hrV⟩, ⟨kvo, ⟨xsE, ek, hoo, ko⟩, hoV⟩, hs, hss, hsm, hQ⟩ := h
  subst ek
  refine ⟨_, rfl, _, _, _, _, _, rfl, ha, T.c_Lines, T.n_Lines_line_field, rfl, ?_⟩
  refine ⟨_, rfl, r, kvr, rfl, hrA.r, N.apart hrV.nodup (fun k hk => by
    obtain ⟨kv, h1, h2⟩ := List.mem_map.mp hk
    obtain ⟨j, hj, e⟩ := hrV.dom kv h1
    exact ⟨j, hj, h2.symm.trans e⟩), fun d ψ hd hD => ?_⟩
  have hod : o ≠ d := ne_of_none hoo hd
  have nto : NoTup (H o) := noTup_do hoo
  refine ⟨o, DO P w o xsE, by rw [upd_ne hod]; exact hoo, True.intro, fun od => ?_⟩
  -- the heap without the new dict
  obtain ⟨HB, hHB⟩ : ∃ HB, HB = upd H o (.frz od (DO P w o xsE)) := ⟨_, rfl⟩
  have xB : ExB o H HB := by rw [hHB]; exact (show ExB o H H from fun _ _ _ z => z).wr
  have hBo : HB o = some (.frz od (DO P w o xsE)) := by rw [hHB]; exact upd_same
  have hBd : HB d = none := by rw [hHB, upd_ne (Ne.symm hod)]; exact hd
  have tB : Tups H HB := xB.tups nto
  have hfo : fa ≠ o := fun z => by
    obtain ⟨dz, hf'⟩ := hfa
    rw [z, hoo] at hf'
    cases hf'
  have hfB : FieldAt K HB fa φ.p := hfa.exb xB hfo
  have hsB := hs.tp tB
  have hoB := hoV.tp tB
  have koB := ko.mono tB
  have e0 : Ext HB (upd (upd H d (.ext ψ)) o (.frz od (DO P w o xsE))) := by
    intro c q hc
    by_cases e : c = o
    · subst e
      rw [hBo] at hc
      rw [← hc]
      exact upd_same
    · rw [upd_ne e]
      have hc2 : H c = some q := by rw [hHB, upd_ne e] at hc; exact hc
      rw [upd_ne (ne_of_none hc2 hd)]
      exact hc2
  have ntod : NoTup (upd H d (.ext ψ) o) := by rw [upd_ne hod]; exact nto
  have hD0 : DAt P w K (upd (upd H d (.ext ψ)) o (.frz od (DO P w o xsE))) d kvr := hD.upd_ne (Ne.symm hod) ntod
  have tp0 : Tups H (upd (upd H d (.ext ψ)) o (.frz od (DO P w o xsE))) := tB.trans (.ofX e0)
  have hkn : (xsE.map (·.1)).Nodup := by
    have := hoV.nodup
    rwa [kvE_keys] at this
  refine ⟨_, rfl, o, od, xsE, rfl, upd_same, ?_⟩
  refine for_it walk_xitems (fun i σ H' => LesI P w K φ HB nk n o d od xsE v u s i H' ∧ ∃ o1 o2 o3, σ = [some (.ref a), some (.ref r), some (.ref o), some t, some (.ref fa), some (.ref d), o1, o2, o3]) ⟨⟨e0, kvr, hD0, (hrV.tp tp0).congr fun j hj => ?_⟩, _, _, _, rfl⟩ (fun i σ H' _ z => z.1.1 _ _ hBo) (fun i x σ H1 H2 hi z y => ?_) fun σ H1 z => ?_
  · show nz v j = nz (lessC nk xsE v u s 0) j
    unfold nz lessC
    rw [List.take_zero, List.map_nil, if_neg (List.not_mem_nil)]
  · obtain ⟨⟨e1, kvs, hDA, hDV⟩, o1, o2, o3, rfl⟩ := z
    obtain ⟨Tt, k, ka, yv, ei, rfl, hT, rfl⟩ := y
    obtain ⟨j, xj, hj, rfl, ecj, nv, kvv⟩ := ent_at hoB koB ei
    have hxu : xj = u j := by
      unfold nz at ecj
      split at ecj
      · cases ecj
      · exact (Option.some.inj ecj).symm
    subst hxu
    obtain ⟨s1, s2, s3⟩ := hsm j hj
    have eT := e1.trans (Ext.upd (o := .tup [.ref ka, yv]) hT)
    have hkey : ∀ {H3 : Hp}, Ext HB H3 → KeyR K H3 (.ref ka) (nk j) := fun e => ⟨ka, rfl, kvv.mono (.ofX e), N.dep j hj⟩
    have hfr := keys_fresh hkn ei
    have cij : lessC nk xsE v u s i j = v j := by
      unfold lessC
      rw [if_neg hfr]
    have few : ∀ {H3 : Hp} {kvs2 : List (NK × V)} {c2 : Nat → Option φ.car}, DictV K φ H3 nk n kvs2 c2 → kvs2.length < sizeLine := fun h => Nat.lt_of_le_of_lt (Nat.le_trans h.len N.few) (by decide)
    have hDAT := hDA.xn (.ofX (Ext.upd (o := .tup [.ref ka, yv]) hT))
    have hDVT := hDV.xn (.ofX (Ext.upd (o := .tup [.ref ka, yv]) hT))
    -- behind setdefault
    have fin : ∀ (H3 : Hp) (v0 : V) (kvs3 : List (NK × V)) (c3 : Nat → Option φ.car), Ext HB H3 → DAt P w K H3 d kvs3 → DictV K φ H3 nk n kvs3 c3 → (∀ k, k < n → k ≠ j → c3 k = nz (lessC nk xsE v u s i) k) → valV kvs3 (nk j) = some v0 → NumV K φ H3 v0 (v j) →
        ∀ H6 v6, Ext H3 H6 → NumV K φ H6 v6 (v j - u j * s) → (∀ ψ6, DAt P w K (upd H6 d (.ext ψ6)) d (dropK kvs3 (nk j)) → v j - u j * s = 0 → LesI P w K φ HB nk n o d od xsE v u s (i + 1) (upd H6 d (.ext ψ6))) ∧
          (∀ ψ6, DAt P w K (upd H6 d (.ext ψ6)) d (putK kvs3 (nk j) v6) → v j - u j * s ≠ 0 → LesI P w K φ HB nk n o d od xsE v u s (i + 1) (upd H6 d (.ext ψ6))) := fun H3 v0 kvs3 c3 e3 hA3 hV3 hc3 hv0 hn0 H6 v6 e6 hv6 => by
      have hV6 := hV3.xn (.ofX e6)
      have hA6 := hA3.xn (.ofX e6)
      refine ⟨fun ψ6 hw h0 => ⟨(e3.trans e6).wr hBd, _, hw, ?_⟩, fun ψ6 hw h0 => ⟨(e3.trans e6).wr hBd, _, hw, ?_⟩⟩
      · refine ((hV6.tp (Tups.upd hA6.noTup)).drop N.inj hj).congr fun k hk => ?_
        show updC c3 j none k = nz (lessC nk xsE v u s (i + 1)) k
        unfold nz
        rw [lessC_step N hj ei k hk]
        unfold updC
        by_cases e : k = j
        · rw [if_pos e, if_pos e, if_pos h0]
        · rw [if_neg e, if_neg e]
          exact hc3 k hk e
      · refine ((hV6.tp (Tups.upd hA6.noTup)).put N.inj hj (hv6.tp (Tups.upd hA6.noTup))).congr fun k hk => ?_
        show updC c3 j (some (v j - u j * s)) k = nz (lessC nk xsE v u s (i + 1)) k
        unfold nz
        rw [lessC_step N hj ei k hk]
        unfold updC
        by_cases e : k = j
        · rw [if_pos e, if_pos e, if_neg h0]
        · rw [if_neg e, if_neg e]
          exact hc3 k hk e
    refine ⟨Tt, _, rfl, SqT.of upd_same, rfl, _, _, rfl, _, _, rfl, rfl, ?_⟩
    refine ⟨_, rfl, fa, _, _, rfl, eT _ _ hfB.choose_spec, rfl, _, rfl, d, rfl, ⟨kvs, hDAT.r⟩, _, rfl, kvs, nk j, hDAT, hkey eT, few hDV, fun v0 hv0 => ?_, fun hnn ψ2 hw => ?_⟩
    · have hn0 : NumV K φ (upd H1 Tt (.tup [.ref ka, yv])) v0 (v j) := by
        cases z : nz (lessC nk xsE v u s i) j with
        | none =>
          rw [hDVT.get0 hj z] at hv0
          cases hv0
        | some x0 =>
          obtain ⟨q, k1, k2⟩ := hDVT.get hj z
          rw [k1] at hv0
          cases hv0
          unfold nz at z
          rw [cij] at z
          split at z
          · cases z
          · rw [Option.some.inj z]
            exact k2
      refine ⟨_, rfl, fa, _, _, rfl, eT _ _ hfB.choose_spec, rfl, _, rfl, _, rfl, _, _, _, rfl, φ, u j, s, fa, rfl, hfB.ext eT, nv.xn (.ofX eT), hsB.xn (.ofX eT), s2, hss, fun H5 v5 e5 hv5 => ?_⟩
      have e05 := eT.trans e5
      refine ⟨_, _, _, rfl, φ, v j, u j * s, fa, rfl, hfB.ext e05, hn0.xn (.ofX e5), hv5, s1, s3, fun H6 v6 e6 hv6 => ?_⟩
      obtain ⟨f1, f2⟩ := fin _ v0 kvs _ eT hDAT hDVT (fun k _ _ => rfl) hv0 hn0 H6 v6 (e5.trans e6) hv6
      have hDA6 := hDAT.xn (.ofX (e5.trans e6))
      have hk6 := hkey (e05.trans e6)
      obtain ⟨vb, rfl, hvb⟩ := hv6
      refine ⟨_, rfl, .tuple [.int (φ.enc (v j - u j * s)).1, .int (φ.enc (v j - u j * s)).2], .tuple [.int 0, .int 1], .tup hvb (.cons (.int _) (.cons (.int _) .nil)), .tup (T.z0 _) (.cons (.int _) (.cons (.int _) .nil)), rfl, rfl, _, rfl, ?_⟩
      rw [num_ne]
      by_cases h0 : v j - u j * s = 0
      · rw [decide_eq_true h0]
        exact iteT ⟨_, rfl, d, rfl, ⟨kvs, hDA6.r⟩, _, rfl, kvs, nk j, v0, hDA6, hk6, hv0, fun ψ6 hw6 => ⟨f1 ψ6 hw6 h0, _, _, _, rfl⟩⟩
      · rw [decide_eq_false h0]
        exact iteF ⟨_, rfl, _, rfl, _, rfl, d, kvs, nk j, rfl, hDA6, hk6, few hDV, fun ψ6 hw6 => ⟨f2 ψ6 hw6 h0, _, _, _, rfl⟩⟩
    · have tp2 : Tups (upd H1 Tt (.tup [.ref ka, yv])) (upd (upd H1 Tt (.tup [.ref ka, yv])) d (.ext ψ2)) := Tups.upd hDAT.noTup
      have e2 : Ext HB (upd (upd H1 Tt (.tup [.ref ka, yv])) d (.ext ψ2)) := eT.wr hBd
      have v0 : v j = 0 := by
        cases z : nz (lessC nk xsE v u s i) j with
        | none =>
          unfold nz at z
          rw [cij] at z
          split at z
          · rename_i q; exact q
          · cases z
        | some x0 =>
          obtain ⟨q, k1, k2⟩ := hDVT.get hj z
          rw [k1] at hnn
          cases hnn
      have hn0 : NumV K φ (upd (upd H1 Tt (.tup [.ref ka, yv])) d (.ext ψ2)) (.ref (He.ga K "ZERO")) (v j) := ⟨_, rfl, by rw [v0, Fd.enc_zero]; exact T.z0 _⟩
      have hV2 := (hDVT.tp tp2).put N.inj hj hn0
      refine ⟨_, rfl, fa, _, _, rfl, e2 _ _ hfB.choose_spec, rfl, _, rfl, _, rfl, _, _, _, rfl, φ, u j, s, fa, rfl, hfB.ext e2, nv.xn (.ofX e2), hsB.xn (.ofX e2), s2, hss, fun H5 v5 e5 hv5 => ?_⟩
      have e05 := e2.trans e5
      refine ⟨_, _, _, rfl, φ, v j, u j * s, fa, rfl, hfB.ext e05, hn0.xn (.ofX e5), hv5, s1, s3, fun H6 v6 e6 hv6 => ?_⟩
      have hvv : valV (putK kvs (nk j) (.ref (He.ga K "ZERO"))) (nk j) = some (.ref (He.ga K "ZERO")) := by rw [valV_put, if_pos rfl]
      obtain ⟨f1, f2⟩ := fin _ _ _ _ e2 hw hV2 (fun k _ hne => by unfold updC; rw [if_neg hne]) hvv hn0 H6 v6 (e5.trans e6) hv6
      have hDA6 := hw.xn (.ofX (e5.trans e6))
      have hk6 := hkey (e05.trans e6)
      obtain ⟨vb, rfl, hvb⟩ := hv6
      refine ⟨_, rfl, .tuple [.int (φ.enc (v j - u j * s)).1, .int (φ.enc (v j - u j * s)).2], .tuple [.int 0, .int 1], .tup hvb (.cons (.int _) (.cons (.int _) .nil)), .tup (T.z0 _) (.cons (.int _) (.cons (.int _) .nil)), rfl, rfl, _, rfl, ?_⟩
      rw [num_ne]
      by_cases h0 : v j - u j * s = 0
      · rw [decide_eq_true h0]
        exact iteT ⟨_, rfl, d, rfl, ⟨_, hDA6.r⟩, _, rfl, _, nk j, _, hDA6, hk6, hvv, fun ψ6 hw6 => ⟨f1 ψ6 hw6 h0, _, _, _, rfl⟩⟩
      · rw [decide_eq_false h0]
        exact iteF ⟨_, rfl, _, rfl, _, rfl, d, _, nk j, rfl, hDA6, hk6, few hV2, fun ψ6 hw6 => ⟨f2 ψ6 hw6 h0, _, _, _, rfl⟩⟩
  · obtain ⟨⟨e1, kvs, hDA, hDV⟩, o1, o2, o3, rfl⟩ := z
    rw [show xsE.length = xsE.length from rfl] at hDV
    have h1o := e1 _ _ hBo
    have nt1 : NoTup (H1 o) := fun xs => ⟨fun z => (by rw [h1o] at z; cases z), fun ob z => (by rw [h1o] at z; cases z)⟩
    have tpU : Tups H1 (upd H1 o (DO P w o xsE)) := Tups.upd nt1
    have eE : Ext H (upd H1 o (DO P w o xsE)) := by
      intro c q hc
      by_cases e : c = o
      · subst e
        rw [hoo] at hc
        rw [← hc]
        exact upd_same
      · rw [upd_ne e]
        exact e1 _ _ (xB _ _ e hc)
    refine ⟨h1o, _, rfl, hQ _ d eE hd ⟨kvs, hDA.upd_ne (Ne.symm hod) nt1, (hDV.tp tpU).congr fun j hj => ?_⟩⟩
    show nz (lessC nk xsE v u s xsE.length) j = nz (fun j => v j - u j * s) j
    unfold nz lessC
    rw [List.take_length]
    by_cases e : nk j ∈ xsE.map (·.1)
    · rw [if_pos e]
    · rw [if_neg e]
      have : u j = 0 := by
        cases z : nz u j with
        | none =>
          unfold nz at z
          split at z
          · rename_i q; exact q
          · cases z
        | some x0 =>
          obtain ⟨q, k1, k2⟩ := hoV.get hj z
          have : nk j ∈ (kvE xsE).map (·.1) := by
            refine Classical.byContradiction fun ne => ?_
            have : valV (kvE xsE) (nk j) = none := valV_absent ne
            rw [this] at k1
            cases k1
          rw [kvE_keys] at this
          exact absurd this e
      have e2 : v j - u j * s = v j := by
        rw [this]
        grind
      show (if v j = 0 then none else some (v j)) = if v j - u j * s = 0 then none else some (v j - u j * s)
      rw [e2]
theorem c_Lines_less (T : Tx K mg) : C8.Met P w K mg base 4 (He.ga K "Lines") "less" (S4 (k_Lines_less P w K)) [] := met_of T.F_Lines_less T.c_Lines T.me_Lines_less sc_Lines_less (fun _ _ _ _ _ _ us hl => match us, hl with | [_, _, _, _], _ => rfl) len4 (b_Lines_less T)
end
end FS
set_option Elab.async false
set_option linter.all false
set_option maxRecDepth 100000
set_option maxHeartbeats 4000000
namespace FS
open PySem PySem.Spec PyProof.Rows L2
/-- back from a lock -/
theorem ext_lock {H H' : Hp} {r : Addr} {u f : HO} (hr : H r = some u) (e : Ext (upd H r f) H') : Ext H (upd H' r u) := by
  intro c q hc
  by_cases z : c = r
  · subst z
    rw [hr] at hc
    rw [← hc]
    exact upd_same
  · rw [upd_ne z]
    exact e _ _ (by rw [upd_ne z]; exact hc)
section
variable {α : Type} [Lean.Grind.Field α] [DecidableEq α]
/-- the highest product whose number is no nought -/
def topR (v : Nat → α) : Option Nat := (List.range 8).reverse.find? fun j => decide (v j ≠ 0)
theorem topR_none {v : Nat → α} (h : ∀ j, j < 8 → v j = 0) : topR v = none := by
  unfold topR
  rw [List.find?_eq_none]
  intro j hj
  rw [List.mem_reverse, List.mem_range] at hj
  simp [h j hj]
theorem topR_of_none {v : Nat → α} (h : topR v = none) : ∀ j, j < 8 → v j = 0 := by
  unfold topR at h
  rw [List.find?_eq_none] at h
  intro j hj
  have := h j (List.mem_reverse.mpr (List.mem_range.mpr hj))
  simpa using this
theorem find_last {v : Nat → Bool} : ∀ {n h : Nat}, (List.range n).reverse.find? v = some h → h < n ∧ v h = true ∧ ∀ j, j < n → h < j → v j = false
  | 0, h, e => by simp at e
  | n + 1, h, e => by
    rw [List.range_succ, List.reverse_append] at e
    rw [List.reverse_singleton, List.singleton_append, List.find?_cons] at e
    cases z : v n with
    | true =>
      rw [z] at e
      cases e
      exact ⟨Nat.lt_succ_self _, z, fun j h1 h2 => by omega⟩
    | false =>
      rw [z] at e
      obtain ⟨a, b, c⟩ := find_last e
      refine ⟨by omega, b, fun j h1 h2 => ?_⟩
      rcases Nat.lt_or_ge j n with q | q
      · exact c j q h2
      · have : j = n := by omega
        rw [this]
        exact z
theorem topR_spec {v : Nat → α} {h : Nat} (e : topR v = some h) : h < 8 ∧ v h ≠ 0 ∧ ∀ j, j < 8 → h < j → v j = 0 := by
  obtain ⟨a, b, c⟩ := find_last e
  exact ⟨a, of_decide_eq_true b, fun j h1 h2 => by simpa using c j h1 h2⟩
theorem topR_some {v : Nat → α} {h : Nat} (h8 : h < 8) (hv : v h ≠ 0) (hm : ∀ j, j < 8 → v j ≠ 0 → j ≤ h) : topR v = some h := by
  cases e : topR v with
  | none => exact absurd (topR_of_none e h h8) hv
  | some k =>
    obtain ⟨a, b, c⟩ := topR_spec e
    have h1 := hm k a b
    rcases Nat.lt_or_ge k h with z | z
    · exact absurd (c h h8 z) hv
    · have : k = h := by omega
      rw [this]
def unitM (m : Nat) : Nat → α := fun k => if k = m then 1 else 0
end
/-- the share that is taken back of a new head's row -/
def backOf {φ : Fd} (r : Nat → φ.car) (h : Nat) : φ.car := 1 - 1 / r h
def subM {φ : Fd} (v u : Nat → φ.car) (s : φ.car) : Nat → φ.car := fun j => v j - u j * s
/-- what put makes of the lines -/
def putM {φ : Fd} : Nat → LSt φ → (Nat → φ.car) → (Nat → φ.car) → LSt φ
  | 0, st, _, _ => st
  | n + 1, st, r, m => match topR r with
    | none => st
    | some h => match st h with
      | none => updS st h (some (subM r r (backOf r h), subM m m (backOf r h)))
      | some x => putM n st (subM r x.1 (r h)) (subM m x.2 (r h))
/-- the numbers on the way are small, the way is no longer than n -/
def OkRun (φ : Fd) : Nat → LSt φ → (Nat → φ.car) → (Nat → φ.car) → Prop
  | 0, _, _, _ => False
  | n + 1, st, r, m => match topR r with
    | none => True
    | some h => match st h with
      | none => Small φ (r h) ∧ Small φ (1 / r h) ∧ Small φ (backOf r h) ∧ (∀ j, j < 8 → Small φ (r j) ∧ Small φ (r j * backOf r h)) ∧ (∀ j, j < 80 → Small φ (m j) ∧ Small φ (m j * backOf r h))
      | some x => Small φ (r h) ∧ (∀ j, j < 8 → Small φ (r j) ∧ Small φ (x.1 j) ∧ Small φ (x.1 j * r h)) ∧ (∀ j, j < 80 → Small φ (m j) ∧ Small φ (x.2 j) ∧ Small φ (x.2 j * r h)) ∧ OkRun φ n st (subM r x.1 (r h)) (subM m x.2 (r h))
/-- the product of a key -/
def idxK (k : NK) : Nat := ((List.range 8).find? fun j => decide (nkP j = k)).getD 0
theorem idxK_at : ∀ j, j < 8 → idxK (nkP j) = j := by decide +kernel
theorem keyD_lt : ∀ i, i < 8 → ∀ j, j < 8 → PySem.W.dataLt (keyD i) (keyD j) = decide (i < j) := by decide +kernel
theorem keyD_some : ∀ j, j < 8 → keyD j ≠ .none := fun j _ z => by unfold keyD at z; cases z
/-- how the keys stand among another -/
def RkD (K : PySem.W.Frag) : V → PyData → Hp → Prop := fun v d H => ∃ j, j < 8 ∧ PrV K H v j ∧ d = keyD j
section
variable {P : Program} {w : World} {K : PySem.W.Frag} {mg : PySem.Str → Option Value} {base : Heap} {φ : Fd}
theorem kf_order (T : Tx K mg) {X : Cx} (hp : X.prog = P) (hw : X.w = w) (hK : X.K = K) (hm : X.mg = mg) (hb : X.base = base) : KeyFn X [] 1 (.ref (He.ga K "order_of")) (RkD K) := by
  subst hp hw hm hb
  obtain ⟨fd, F⟩ := T.F_order_of
  have ok := ok_of (P := X.prog) (w := X.w) (mg := X.mg) (base := X.base) F sc_order_of len1 (b_order_of T)
  subst hK
  exact keyFn_def (E0 := C8.E0) ok (F.bindsN (fun _ _ _ _ _ _ us hl => match us, hl with | [_], _ => rfl)) (fun _ _ _ _ _ _ z => z.elim) fun x d H ⟨j, hj, hp, ed⟩ => ⟨x, rfl, j, hj, hp, fun H' v e q => ⟨by rw [ed]; exact q, e⟩⟩
theorem ranked {H : Hp} {xs : List Ent} {v : Nat → φ.car} (hV : DictV K φ H nkP 8 (kvE xs) (nz v)) (ko : KeysOk K H xs) : Ranked (RkD K) H xs (fun e => keyD (idxK e.1)) (fun e => idxK e.1) := by
  have key : ∀ e ∈ xs, ∃ j, j < 8 ∧ e.1 = nkP j := fun e he => hV.dom (e.1, e.2.2) (List.mem_map.mpr ⟨e, he, rfl⟩)
  refine ⟨fun a ha b hb => ?_, fun a ha b hb => ?_, fun a ha => ?_, fun a ha H' e => ?_⟩
  · obtain ⟨i, hi, e1⟩ := key a ha
    obtain ⟨j, hj, e2⟩ := key b hb
    show PySem.W.alike (keyD (idxK a.1)) (keyD (idxK b.1)) = true
    rw [e1, e2, idxK_at i hi, idxK_at j hj]
    exact keyD_alike i hi j hj
  · obtain ⟨i, hi, e1⟩ := key a ha
    obtain ⟨j, hj, e2⟩ := key b hb
    show PySem.W.dataLt (keyD (idxK a.1)) (keyD (idxK b.1)) = decide (idxK a.1 < idxK b.1)
    rw [e1, e2, idxK_at i hi, idxK_at j hj]
    exact keyD_lt i hi j hj
  · obtain ⟨i, hi, e1⟩ := key a ha
    show keyD (idxK a.1) ≠ .none ∧ _
    rw [e1, idxK_at i hi]
    exact ⟨keyD_some i hi, keyD_depth i hi⟩
  · obtain ⟨i, hi, e1⟩ := key a ha
    have := (ko a ha).1
    rw [e1] at this
    refine ⟨i, hi, (PrV.of_key this).xn (.ofX e), ?_⟩
    show keyD (idxK a.1) = _
    rw [e1, idxK_at i hi]
/-- the entry that stands highest -/
theorem best_top {H : Hp} {xs : List Ent} {v : Nat → φ.car} (hV : DictV K φ H nkP 8 (kvE xs) (nz v)) {e : Ent} (he : e ∈ xs) (hb : ∀ e' ∈ xs, idxK e'.1 ≤ idxK e.1) : ∃ h, topR v = some h ∧ h < 8 ∧ v h ≠ 0 ∧ e.1 = nkP h := by
  obtain ⟨h, x, h8, ek, ec, _⟩ := hV.entry (kv := (e.1, e.2.2)) (List.mem_map.mpr ⟨e, he, rfl⟩)
  have ek' : e.1 = nkP h := ek
  have hne : v h ≠ 0 := fun z => by
    unfold nz at ec
    rw [if_pos z] at ec
    cases ec
  refine ⟨h, topR_some h8 hne fun j hj hv => ?_, h8, hne, ek'⟩
  obtain ⟨q, k1, _⟩ := hV.get (j := j) hj (x := v j) (by unfold nz; rw [if_neg hv])
  have hm : nkP j ∈ (kvE xs).map (·.1) := Classical.byContradiction fun ne => by
    rw [valV_absent ne] at k1
    cases k1
  obtain ⟨kv, m1, m2⟩ := List.mem_map.mp hm
  obtain ⟨e', m3, rfl⟩ := List.mem_map.mp m1
  have := hb e' m3
  rw [ek', idxK_at h h8, show e'.1 = nkP j from m2, idxK_at j hj] at this
  exact this
end
end FS
set_option Elab.async false
set_option linter.all false
set_option maxRecDepth 100000
set_option maxHeartbeats 4000000
namespace FS
open PySem PySem.Spec PyProof.Rows L2
section
variable {P : Program} {w : World} {K : PySem.W.Frag} {mg : PySem.Str → Option Value} {base : Heap}
def k_Lines_put (P : Program) (w : World) (K : PySem.W.Frag) : K3 := fun x y z H Q => ∃ (φ : Fd) (a fa b r : Addr) (st : LSt φ) (v : Nat → φ.car) (m : Nat), x = .ref a ∧ y = .ref r ∧ LinesAt P w K φ H a fa b st ∧ VecG P w K φ H nkP 8 r v ∧ MarkV K H z m ∧ m < 80 ∧ OkRun φ 9 st v (unitM m) ∧
  ∀ H' c, ExB b H H' → LinesAt P w K φ H' a fa b (putM 9 st v (unitM m)) → Q (.bl c) H'
/-- the loop of put, n turns at most to go -/
def PutI (P : Program) (w : World) (K : PySem.W.Frag) (φ : Fd) (H : Hp) (a fa : Addr) (z : V) (st fin : LSt φ) (n : Nat) (σ : L2.St) (H' : Hp) : Prop := ∃ (r d : Addr) (v m : Nat → φ.car) (o1 o2 o3 o4 o5 : Option V), σ = [some (.ref a), some (.ref r), some z, some (.ref fa), some (.ref d), o1, o2, o3, o4, o5] ∧ Ext H H' ∧ VecG P w K φ H' nkP 8 r v ∧ VecG P w K φ H' nkM 80 d m ∧ OkRun φ n st v m ∧ putM n st v m = fin
theorem num_one {φ : Fd} {H : Hp} {a : Addr} (h : H a = some (.tup [.int (madeM φ.p 1 1).1, .int (madeM φ.p 1 1).2])) : NumV K φ H (.ref a) 1 := ⟨a, rfl, by rw [made_unit] at h; rw [Fd.enc_one]; exact SqT.of h⟩

abbrev N_Lines_put : List PySem.Str := ["self", "row", "mark", "field", "marks", "head", "share", "back", "other", "others"]
theorem sc_Lines_put : FnScope N_Lines_put ["self", "row", "mark"] (defScope s_Lines_put) := ⟨rfl, rfl, rfl, by decide +kernel, rfl, by decide +kernel, by decide +kernel⟩
theorem b_Lines_put (T : Tx K mg) : Body P w K mg base 4 "Lines.put" (defBody s_Lines_put) (defScope s_Lines_put) N_Lines_put (S3 (k_Lines_put P w K)) := fun f cdv A outer s H vs Q E hcd hr h => by
  have hx := hx_of hr
  refine ⟨_, (pss_cons (ps_set (i := 3) sc_Lines_put.nd rfl (by first | exact Or.inl rfl | exact Or.inr rfl) (pe_fld (pv 0) rfl)) (pss_cons (ps_set (i := 4) sc_Lines_put.nd rfl (by first | exact Or.inl rfl | exact Or.inr rfl) (pe_xone hx (pv 2) (C8.pe_mt (c_Field_made2 T) hr (by decide) (pv 3) (pa_cons pe_int pa_nil)))) (pss_cons (ps_while PassesOwn.never (pt_cmpR (op_xne (Nat.lt_of_le_of_lt (Nat.le_add_right _ 64) (hu64 hr))) (pv 1) pe_xnew (nomark _)) (pss_cons (ps_set (i := 5) sc_Lines_put.nd rfl (by first | exact Or.inl rfl | exact Or.inr rfl) (pe_lock (pe_callBK (cr_xmax (kf_order T rfl rfl rfl rfl rfl) (hr.mono (by decide))) (by rfl) T.f_max (by decide +kernel) (pa_cons (pe_xkeys (pv 1)) pa_nil) (pk_cons (pe_glob (v := .ref (He.ga K "order_of")) rfl T.m_order_of rfl) pk_nil)))) (pss_cons (ps_if (pt_cmp (pc_xnotin hx (pv 5) (pe_fld (pv 0) rfl))) (pss_cons (ps_set (i := 6) sc_Lines_put.nd rfl (by first | exact Or.inl rfl | exact Or.inr rfl) (C8.pe_mt (c_Field_over T) hr (by decide) (pv 3) (pa_cons (C8.pe_mt (c_Field_made2 T) hr (by decide) (pv 3) (pa_cons pe_int pa_nil)) (pa_cons (pe_xget hx (pv 1) (pv 5) (fun _ _ => rfl)) pa_nil)))) (pss_cons (ps_set (i := 7) sc_Lines_put.nd rfl (by first | exact Or.inl rfl | exact Or.inr rfl) (C8.pe_mt (c_Field_minus T) hr (by decide) (pv 3) (pa_cons (C8.pe_mt (c_Field_made2 T) hr (by decide) (pv 3) (pa_cons pe_int pa_nil)) (pa_cons (pv 6) pa_nil)))) (pss_cons (ps_xput hx (pe_fld (pv 0) rfl) (pv 5) (pe_tup (pa_cons (C8.pe_mt (c_Lines_less T) hr (by decide) (pv 0) (pa_cons (pv 1) (pa_cons (pv 1) (pa_cons (pv 7) pa_nil)))) (pa_cons (C8.pe_mt (c_Lines_less T) hr (by decide) (pv 0) (pa_cons (pv 4) (pa_cons (pv 4) (pa_cons (pv 7) pa_nil)))) pa_nil))) (by rfl)) (pss_one (ps_ret pe_bl))))) pss_nil) (pss_cons (ps_asg (pe_xget hx (pe_fld (pv 0) rfl) (pv 5) (fun _ _ => rfl)) (pg_tup rfl (pgs_cons (pg_name (i := 8) sc_Lines_put.nd rfl (by first | exact Or.inl rfl | exact Or.inr rfl)) (pgs_cons (pg_name (i := 9) sc_Lines_put.nd rfl (by first | exact Or.inl rfl | exact Or.inr rfl)) pgs_nil)))) (pss_cons (ps_set (i := 6) sc_Lines_put.nd rfl (by first | exact Or.inl rfl | exact Or.inr rfl) (pe_xget hx (pv 1) (pv 5) (fun _ _ => rfl))) (pss_cons (ps_set (i := 1) sc_Lines_put.nd rfl (by first | exact Or.inl rfl | exact Or.inr rfl) (C8.pe_mt (c_Lines_less T) hr (by decide) (pv 0) (pa_cons (pv 1) (pa_cons (pv 8) (pa_cons (pv 6) pa_nil))))) (pss_one (ps_set (i := 4) sc_Lines_put.nd rfl (by first | exact Or.inl rfl | exact Or.inr rfl) (C8.pe_mt (c_Lines_less T) hr (by decide) (pv 0) (pa_cons (pv 4) (pa_cons (pv 9) (pa_cons (pv 6) pa_nil)))))))))))) (pss_one (ps_ret pe_bl))))), ?_⟩
  obtain ⟨x, y, z, rfl, φ, a, fa, b, r, st, v0, m, rfl, rfl, ⟨dx, kvh, ha, hfa, hbA, hbD⟩, hrV, hm, hm8, hok, hQ⟩ := h
  refine ⟨_, rfl, _, _, _, _, _, rfl, ha, T.c_Lines, T.n_Lines_line_field, rfl, ?_⟩
  intro d ψ hd hD
  have e0 : Ext H (upd H d (.ext ψ)) := Ext.upd hd
  refine ⟨_, rfl, _, rfl, fa, _, _, rfl, hfa.choose_spec |> fun z => (e0) _ _ z, rfl, _, _, _, rfl, fa, φ.p, 1, 1, rfl, rfl, rfl, hfa.ext (e0), φ.prime, good_one φ, by decide, by decide, fun H1 oa e1 hoa ho1 => ?_⟩
  have eD : ExB d H H1 := fun q u n hq => e1 _ _ (e0 _ _ hq)
  have e01 := e0.trans e1
  refine ⟨nkM m, hD.xn (.ofX e1), (hm.tp (.ofX e01)).key, fun ψ1 hw1 => ?_⟩
  have ntd := (hD.xn (.ofX e1)).noTup
  have e02 : Ext H (upd H1 d (.ext ψ1)) := e01.wr hd
  have hmV : VecG P w K φ (upd H1 d (.ext ψ1)) nkM 80 d (unitM m) := by
    refine ⟨_, hw1, (((DictV.nil (H := upd H1 d (.ext ψ1))).put (nksM w).inj hm8 ((num_one ho1).tp (Tups.upd ntd))).congr fun j hj => ?_)⟩
    show updC _ m (some 1) j = nz (unitM m) j
    unfold updC nz unitM
    by_cases e : j = m
    · rw [if_pos e, if_pos e, if_neg]
      exact fun z => Lean.Grind.Field.zero_ne_one z.symm
    · rw [if_neg e, if_neg e, if_pos rfl]
  refine ⟨PutI P w K φ H a fa z st (putM 9 st v0 (unitM m)), ⟨9, r, d, v0, unitM m, _, _, _, _, _, rfl, e02, hrV.xn (.ofX e02), hmV, hok, rfl⟩, fun n σ G wi => ?_⟩
  obtain ⟨r, d, v, mm, o1, o2, o3, o4, o5, rfl, eG, hrG, hdG, hokG, hfin⟩ := wi
  obtain ⟨kvs, ⟨xsE, ek, hrr, ko⟩, hV⟩ := id hrG
  subst ek
  refine ⟨_, rfl, ?_⟩
  intro p ψ2 hp hP
  have eP : Ext G (upd G p (.ext ψ2)) := Ext.upd hp
  refine ⟨r, p, _, rfl, rfl, ((show DAt P w K G r (kvE xsE) from ⟨xsE, rfl, hrr, ko⟩).xn (.ofX eP)).r, hP.r, _, rfl, ?_⟩
  cases n with
  | zero => exact hokG.elim
  | succ n =>
  by_cases hemp : (kvE xsE).isEmpty = true
  · have hz : topR v = none := topR_none fun j hj => by
      have := hV.isEmpty.mp hemp j hj
      unfold nz at this
      split at this
      · rename_i q; exact q
      · cases this
    rw [hemp]
    refine iteF ?_
    have hst : putM (n + 1) st v mm = st := by simp only [putM, hz]
    rw [hst] at hfin
    have eH := eG.trans eP
    exact hQ _ false (.ofX eH) (by rw [← hfin]; exact ⟨dx, kvh, eH _ _ ha, hfa.ext eH, hbA.xn (.ofX eH), hbD.mono fun _ _ q => q.xn (.ofX eH)⟩)
  · have hemp' : (kvE xsE).isEmpty = false := by
      cases z : (kvE xsE).isEmpty with
      | true => exact absurd z hemp
      | false => rfl
    rw [hemp']
    refine iteT ⟨PutI P w K φ H a fa z st (putM 9 st v0 (unitM m)) n, fun σ' H' q => ⟨n, Nat.lt_succ_self _, q⟩, ?_⟩
    refine ⟨r, DO P w r xsE, eP _ _ hrr, True.intro, fun od => ?_⟩
    have tpL : Tups (upd G p (.ext ψ2)) (upd (upd G p (.ext ψ2)) r (.frz od (DO P w r xsE))) := Tups.upd (noTup_do (eP _ _ hrr))
    refine ⟨_, rfl, r, xsE, rfl, .inr ⟨od, upd_same⟩, fun q hq => ?_⟩
    have hrq : r ≠ q := ne_of_none upd_same hq
    have tpQ : Tups G (upd (upd (upd G p (.ext ψ2)) r (.frz od (DO P w r xsE))) q (ViewO q r)) := ((Tups.ofX eP).trans tpL).trans (.ofX (Ext.upd hq))
    have hpos : 0 < xsE.length := by
      cases xsE with
      | nil => cases hemp'
      | cons _ _ => exact Nat.succ_pos _
    refine ⟨q, r, od, xsE, _, _, rfl, rfl, upd_same, by rw [upd_ne hrq]; exact upd_same, hpos, ranked (hV.tp tpQ) (ko.mono tpQ), fun H2 e e2 he best => ?_⟩
    refine ⟨e2 _ _ (by rw [upd_ne hrq]; exact upd_same), ?_⟩
    have eU : Ext G (upd H2 r (DO P w r xsE)) := eP.trans (ext_lock (eP _ _ hrr) ((Ext.upd hq).trans e2))
    obtain ⟨h, ht, h8, hne, ehk⟩ := best_top hV he best
    obtain ⟨G2, hG2⟩ : ∃ G2, G2 = upd H2 r (DO P w r xsE) := ⟨_, rfl⟩
    rw [← hG2]
    rw [← hG2] at eU
    have eH2 : Ext H G2 := eG.trans eU
    have hkey : ∀ {H3 : Hp}, Ext G H3 → KeyR K H3 (.ref e.2.1) (nkP h) := fun x => ⟨e.2.1, rfl, by
      have := (ko e he).1
      rw [ehk] at this
      exact this.mono (.ofX x), nkP_depth h h8⟩
    have hbA2 := hbA.xn (.ofX eH2)
    refine ⟨_, rfl, _, rfl, _, _, _, _, _, rfl, eH2 _ _ ha, T.c_Lines, T.n_Lines_by_head, rfl, b, kvh, nkP h, rfl, hbA2.r, hkey eU, _, rfl, ?_⟩
    cases hs : st h with
    | none =>
      have hvn := hbD.get0 h8 hs
      rw [hvn]
      simp only [OkRun, ht, hs] at hokG
      obtain ⟨s1, s2, s3, s4, s5⟩ := hokG
      refine iteT ?_
      -- share = field.over(field.made(1), row[head])
      obtain ⟨kr, hrA2, hrV2⟩ := hrG.xn (.ofX eU)
      obtain ⟨vh, hvh, hnh⟩ := hrV2.get h8 (x := v h) (by unfold nz; rw [if_neg hne])
      refine ⟨_, rfl, fa, _, _, rfl, (eH2) _ _ hfa.choose_spec, rfl, _, rfl, fa, _, _, rfl, (eH2) _ _ hfa.choose_spec, rfl, _, _, _, rfl, fa, φ.p, 1, 1, rfl, rfl, rfl, hfa.ext (eH2), φ.prime, good_one φ, by decide, by decide, fun H3 oa3 e3 _ hoa3 => ?_⟩
      have e23 := eU.trans e3
      have eH3 := eH2.trans e3
      refine ⟨_, rfl, _, rfl, r, kr, nkP h, vh, rfl, (hrA2.xn (.ofX e3)).r, hkey e23, hvh, _, _, _, rfl, φ, 1, v h, fa, rfl, hfa.ext eH3, num_one hoa3, hnh.xn (.ofX e3), small_one φ, s1, hne, fun H4 v4 e4 hv4 => ?_⟩
      have eH4 := eH3.trans e4
      -- back
      refine ⟨_, rfl, fa, _, _, rfl, (eH4) _ _ hfa.choose_spec, rfl, _, rfl, fa, _, _, rfl, (eH4) _ _ hfa.choose_spec, rfl, _, _, _, rfl, fa, φ.p, 1, 1, rfl, rfl, rfl, hfa.ext (eH4), φ.prime, good_one φ, by decide, by decide, fun H5 oa5 e5 _ hoa5 => ?_⟩
      have eH5 := eH4.trans e5
      refine ⟨_, rfl, _, _, _, rfl, φ, 1, 1 / v h, fa, rfl, hfa.ext eH5, num_one hoa5, hv4.xn (.ofX e5), small_one φ, s2, fun H6 v6 e6 hv6 => ?_⟩
      have e26 := ((e3.trans e4).trans e5).trans e6
      have eH6 := eH2.trans e26
      have eG6 := eU.trans e26
      have hr6 := hrG.xn (.ofX eG6)
      have hd6 := hdG.xn (.ofX eG6)
      refine ⟨_, rfl, a, dx, _, rfl, (eH6) _ _ ha, rfl, _, rfl, _, rfl, _, rfl, _, _, _, _, rfl, φ, nkP, 8, v, v, 1 - 1 / v h, a, dx, fa, b, r, r, rfl, rfl, rfl, eH6 _ _ ha, hfa.ext eH6, nksP w, hr6, hr6, hv6, s3, fun j hj => ⟨(s4 j hj).1, (s4 j hj).1, (s4 j hj).2⟩, fun H7 d1 e7 hd1 hV1 => ?_⟩
      have eH7 := eH6.trans e7
      have hd7 := hd6.xn (.ofX e7)
      refine ⟨_, rfl, a, dx, _, rfl, (eH7) _ _ ha, rfl, _, rfl, _, rfl, _, rfl, _, _, _, _, rfl, φ, nkM, 80, mm, mm, 1 - 1 / v h, a, dx, fa, b, d, d, rfl, rfl, rfl, eH7 _ _ ha, hfa.ext eH7, nksM w, hd7, hd7, hv6.xn (.ofX e7), s3, fun j hj => ⟨(s5 j hj).1, (s5 j hj).1, (s5 j hj).2⟩, fun H8 d2 e8 hd2 hV2 => ?_⟩
      have eH8 := eH7.trans e8
      refine ⟨by show 2 ≤ sizeLine; decide, fun q9 hq9 => ?_⟩
      have e9 := Ext.upd (o := .tup [.ref d1, .ref d2]) hq9
      have eH9 := eH8.trans e9
      have hbA9 := hbA.xn (.ofX eH9)
      have hbH : ∃ u, H b = some u := let ⟨xs, _, q, _⟩ := hbA; ⟨_, q⟩
      obtain ⟨ub, hub⟩ := hbH
      have n1 : d1 ≠ b := fun z => by
        rw [z, eH6 _ _ hub] at hd1
        cases hd1
      have n2 : d2 ≠ b := fun z => by
        rw [z, eH7 _ _ hub] at hd2
        cases hd2
      refine ⟨_, rfl, _, _, _, _, _, rfl, eH9 _ _ ha, T.c_Lines, T.n_Lines_by_head, rfl, _, rfl, b, kvh, nkP h, rfl, hbA9, hkey (((eG6.trans e7).trans e8).trans e9), Nat.lt_of_le_of_lt hbD.len (by decide), fun ψ9 hw9 => ?_⟩
      have x9 : ExB b H (upd (upd H8 q9 (.tup [.ref d1, .ref d2])) b (.ext ψ9)) := (ExB.ofX eH9).wr
      have xb : ExB b (upd H8 q9 (.tup [.ref d1, .ref d2])) (upd (upd H8 q9 (.tup [.ref d1, .ref d2])) b (.ext ψ9)) := (show ExB b _ _ from fun _ _ _ z => z).wr
      have nab : a ≠ b := fun z => by
        rw [z] at ha
        obtain ⟨xs, _, q, _⟩ := hbA
        rw [q] at ha
        cases ha
      have nfb : fa ≠ b := fun z => by
        obtain ⟨dz, hf'⟩ := hfa
        rw [z] at hf'
        obtain ⟨xs, _, q, _⟩ := hbA
        rw [q] at hf'
        cases hf'
      have hst : putM (n + 1) st v mm = updS st h (some (subM v v (backOf v h), subM mm mm (backOf v h))) := by simp only [putM, ht, hs]
      rw [hst] at hfin
      refine hQ _ true x9 (by
        rw [← hfin]
        refine ⟨dx, _, x9 _ _ nab ha, hfa.exb x9 nfb, hw9, HeadsD.put (hbD.mono fun _ _ q => (q.xn (.ofX eH9)).exb xb hbA9.noTup) h8 ?_⟩
        refine HeadV.exb ?_ xb hbA9.noTup
        exact ⟨q9, d1, d2, rfl, SqT.of upd_same, (hV1.xn (.ofX (e8.trans e9))), hV2.xn (.ofX e9), n1, n2⟩)
    | some x =>
      obtain ⟨vt, hvt, t, rr, rm, rfl, ht2, hrr2, hrm2, nr, nm⟩ := hbD.get h8 hs
      rw [hvt]
      simp only [OkRun, ht, hs] at hokG
      obtain ⟨s1, s2, s3, s4⟩ := hokG
      refine iteF ?_
      obtain ⟨kr, hrA2, hrV2⟩ := hrG.xn (.ofX eU)
      obtain ⟨vh, hvh, hnh⟩ := hrV2.get h8 (x := v h) (by unfold nz; rw [if_neg hne])
      have hst : putM (n + 1) st v mm = putM n st (subM v x.1 (v h)) (subM mm x.2 (v h)) := by simp only [putM, ht, hs]
      rw [hst] at hfin
      refine ⟨_, rfl, _, _, _, _, _, rfl, eH2 _ _ ha, T.c_Lines, T.n_Lines_by_head, rfl, _, rfl, b, kvh, nkP h, .ref t, rfl, hbA2.r, hkey eU, hvt, t, _, rfl, ht2.ext eH2, rfl, _, _, rfl, _, _, rfl, rfl, ?_⟩
      refine ⟨_, rfl, _, rfl, r, kr, nkP h, vh, rfl, hrA2.r, hkey eU, hvh, ?_⟩
      refine ⟨_, rfl, a, dx, _, rfl, (eH2) _ _ ha, rfl, _, rfl, _, rfl, _, rfl, _, _, _, _, rfl, φ, nkP, 8, v, x.1, v h, a, dx, fa, b, r, rr, rfl, rfl, rfl, eH2 _ _ ha, hfa.ext eH2, nksP w, ⟨kr, hrA2, hrV2⟩, hrr2.xn (.ofX eH2), hnh, s1, fun j hj => s2 j hj, fun H3 d1 e3 hd1 hV1 => ?_⟩
      have eH3 := eH2.trans e3
      refine ⟨_, rfl, a, dx, _, rfl, (eH3) _ _ ha, rfl, _, rfl, _, rfl, _, rfl, _, _, _, _, rfl, φ, nkM, 80, mm, x.2, v h, a, dx, fa, b, d, rm, rfl, rfl, rfl, eH3 _ _ ha, hfa.ext eH3, nksM w, hdG.xn (.ofX (eU.trans e3)), hrm2.xn (.ofX eH3), hnh.xn (.ofX e3), s1, fun j hj => s3 j hj, fun H4 d2 e4 hd2 hV2 => ?_⟩
      exact ⟨d1, d2, subM v x.1 (v h), subM mm x.2 (v h), _, _, _, _, _, rfl, eH3.trans e4, hV1.xn (.ofX e4), hV2, s4, hfin⟩
theorem c_Lines_put (T : Tx K mg) : C8.Met P w K mg base 5 (He.ga K "Lines") "put" (S3 (k_Lines_put P w K)) [] := met_of T.F_Lines_put T.c_Lines T.me_Lines_put sc_Lines_put (fun _ _ _ _ _ _ us hl => match us, hl with | [_, _, _], _ => rfl) len3 (b_Lines_put T)
end
end FS
set_option Elab.async false
set_option linter.all false
set_option maxRecDepth 100000
set_option maxHeartbeats 4000000
namespace FS
open PySem PySem.Spec PyProof.Rows L2
section
variable {P : Program} {w : World} {K : PySem.W.Frag} {mg : PySem.Str → Option Value} {base : Heap}
def k_Lines_made_of (P : Program) (w : World) (K : PySem.W.Frag) : K2 := fun x y H Q => ∃ (φ : Fd) (a fa b : Addr) (st : LSt φ) (j : Nat), x = .ref a ∧ LinesAt P w K φ H a fa b st ∧ PrV K H y j ∧ j < 8 ∧
  (st j = none → Q .non H) ∧ ∀ x, st j = some x → ∀ H' d, Ext H H' → H d = none → VecG P w K φ H' nkM 80 d x.2 → Q (.ref d) H'

abbrev N_Lines_made_of : List PySem.Str := ["self", "head"]
theorem sc_Lines_made_of : FnScope N_Lines_made_of ["self", "head"] (defScope s_Lines_made_of) := ⟨rfl, rfl, rfl, by decide +kernel, rfl, by decide +kernel, by decide +kernel⟩
theorem b_Lines_made_of (T : Tx K mg) : Body P w K mg base 0 "Lines.made_of" (defBody s_Lines_made_of) (defScope s_Lines_made_of) N_Lines_made_of (S2 (k_Lines_made_of P w K)) := fun f cdv A outer s H vs Q E hcd hr h => by
  have hx := hx_of hr
  refine ⟨_, (pss_cons (ps_if (pt_cmp (pc_xnotin hx (pv 1) (pe_fld (pv 0) rfl))) (pss_one (ps_ret pe_non)) pss_nil) (pss_one (ps_ret (pe_callTy (call_xcopy (Nat.lt_of_le_of_lt (Nat.add_le_add_left (by decide : 19 ≤ 64) _) (hu64 hr))) (by rfl) T.f_dict (by decide +kernel) (pa_cons (pe_ix ix_tup (pe_xget hx (pe_fld (pv 0) rfl) (pv 1) (fun _ _ => rfl)) pe_int (fun _ _ => rfl)) pa_nil))))), ?_⟩
  obtain ⟨x, y, rfl, φ, a, fa, b, st, j, rfl, ⟨dx, kvh, ha, hfa, hbA, hbD⟩, hj, hj8, hn, hs⟩ := h
  refine ⟨_, rfl, _, rfl, _, _, _, _, _, rfl, ha, T.c_Lines, T.n_Lines_by_head, rfl, b, kvh, nkP j, rfl, hbA.r, hj.key hj8, _, rfl, ?_⟩
  cases z : st j with
  | none =>
    rw [hbD.get0 hj8 z]
    exact iteT (hn z)
  | some x =>
    obtain ⟨vt, hvt, t, rr, rm, rfl, ht2, hrr2, ⟨kvm, hmA, hmV⟩, nr, nm⟩ := hbD.get hj8 z
    rw [hvt]
    refine iteF ⟨_, rfl, _, _, _, _, _, rfl, ha, T.c_Lines, T.n_Lines_by_head, rfl, _, rfl, b, kvh, nkP j, _, rfl, hbA.r, hj.key hj8, hvt, t, _, _, _, rfl, rfl, ht2, atI_nat (j := 1) rfl, rm, kvm, rfl, hmA.r, (nksM w).apart hmV.nodup (fun k hk => by
      obtain ⟨kv, h1, h2⟩ := List.mem_map.mp hk
      obtain ⟨i, hi, e⟩ := hmV.dom kv h1
      exact ⟨i, hi, h2.symm.trans e⟩), fun p ψ hp hA => hs x z _ p (Ext.upd hp) hp ⟨kvm, hA, hmV.xn (.ofX (Ext.upd hp))⟩⟩
theorem c_Lines_made_of (T : Tx K mg) : C8.Met P w K mg base 1 (He.ga K "Lines") "made_of" (S2 (k_Lines_made_of P w K)) [] := met_of T.F_Lines_made_of T.c_Lines T.me_Lines_made_of sc_Lines_made_of (fun _ _ _ _ _ _ us hl => match us, hl with | [_, _], _ => rfl) len2 (b_Lines_made_of T)

structure NouOk (φ : Fd) (st : LSt φ) (js : List Nat) (f : Nat → φ.car) : Prop where
  lt : ∀ j ∈ js, j < 8
  nd : js.Nodup
  zero : f 0 = 1
  noHd : ∀ p ∈ js, p ≠ 0 → st p = none → f p = 0
  atHd : ∀ p ∈ js, p ≠ 0 → ∀ x, st p = some x → f p = 0 - lsum (fun k => x.1 k * f k) ((List.range 8).filter fun k => decide (x.1 k ≠ 0) && decide (k ≠ p))
  ord : ∀ i p, js[i]? = some p → p ≠ 0 → ∀ x, st p = some x → ∀ k, k < 8 → x.1 k ≠ 0 → k ≠ p → k ∈ js.take i
  smr : ∀ p ∈ js, ∀ x, st p = some x → ∀ k, k < 8 → Small φ (x.1 k)
  smf : ∀ p ∈ js, Small φ (f p)
  smp : ∀ p ∈ js, ∀ x, st p = some x → ∀ k, k < 8 → k ≠ p → x.1 k ≠ 0 → Small φ (x.1 k * f k)
  sms : ∀ p ∈ js, ∀ x, st p = some x → ∀ l : List Nat, l.Nodup → (∀ k ∈ l, k < 8 ∧ k ≠ p ∧ x.1 k ≠ 0) → Small φ (0 - lsum (fun k => x.1 k * f k) l)
/-- the numbers found so far -/
def fndC {φ : Fd} (f : Nat → φ.car) (js : List Nat) : Nat → Option φ.car := fun k => if k ∈ js then some (f k) else none
def k_Lines_nought_on_all (P : Program) (w : World) (K : PySem.W.Frag) : K2 := fun x y H Q => ∃ (φ : Fd) (a fa b l : Addr) (st : LSt φ) (js : List Nat) (f : Nat → φ.car), x = .ref a ∧ y = .ref l ∧ LinesAt P w K φ H a fa b st ∧ Prods K H l js ∧ NouOk φ st js f ∧ ∀ H' d, Ext H H' → Q (.ref d) H'
theorem prd_shaped : ∀ p, p < 8 → SeqAt.shaped (.tuple ((prd p).map .int)) = true := by decide +kernel
theorem eqv_prd (i j : Nat) (hi : i < 8) (hj : j < 8) : PyData.eqv (.tuple ((prd i).map .int)) (.tuple ((prd j).map .int)) = decide (i = j) := by
  have : ∀ i, i < 8 → ∀ j, j < 8 → PyData.eqv (.tuple ((prd i).map .int)) (.tuple ((prd j).map .int)) = decide (i = j) := by decide +kernel
  exact this i hi j hj

abbrev N_Lines_nought_on_all : List PySem.Str := ["self", "products", "field", "found", "product", "key", "number"]
theorem sc_Lines_nought_on_all : FnScope N_Lines_nought_on_all ["self", "products"] (defScope s_Lines_nought_on_all) := ⟨rfl, rfl, rfl, by decide +kernel, rfl, by decide +kernel, by decide +kernel⟩
theorem b_Lines_nought_on_all (T : Tx K mg) : Body P w K mg base 3 "Lines.nought_on_all" (defBody s_Lines_nought_on_all) (defScope s_Lines_nought_on_all) N_Lines_nought_on_all (S2 (k_Lines_nought_on_all P w K)) := fun f cdv A outer s H vs Q E hcd hr h => by
  have hx := hx_of hr
  refine ⟨_, (pss_cons (ps_set (i := 2) sc_Lines_nought_on_all.nd rfl (by first | exact Or.inl rfl | exact Or.inr rfl) (pe_fld (pv 0) rfl)) (pss_cons (ps_set (i := 3) sc_Lines_nought_on_all.nd rfl (by first | exact Or.inl rfl | exact Or.inr rfl) pe_xnew) (pss_cons (ps_for PassesOwn.never rfl (pi_list (pv 1)) (pg_name (i := 4) sc_Lines_nought_on_all.nd rfl (by first | exact Or.inl rfl | exact Or.inr rfl)) (pss_cons (ps_xput hx (pv 3) (pv 4) (pe_glob (v := .ref (He.ga K "ZERO")) rfl T.m_ZERO rfl) (by rfl)) (pss_one (ps_if (pt_cmpR (op_eqD (hu64 hr)) (pv 4) (pe_tup pa_nil) (nomark _)) (pss_one (ps_xput hx (pv 3) (pv 4) (C8.pe_mt (c_Field_made2 T) hr (by decide) (pv 2) (pa_cons pe_int pa_nil)) (by rfl))) (pss_one (ps_if (pt_cmp (pc_xin hx (pv 4) (pe_fld (pv 0) rfl))) (pss_one (ps_lock (ps_for PassesOwn.never rfl (pi_xitems (pe_ix ix_tup (pe_xget hx (pe_fld (pv 0) rfl) (pv 4) (fun _ _ => rfl)) pe_int (fun _ _ => rfl))) (pg_tup rfl (pgs_cons (pg_name (i := 5) sc_Lines_nought_on_all.nd rfl (by first | exact Or.inl rfl | exact Or.inr rfl)) (pgs_cons (pg_name (i := 6) sc_Lines_nought_on_all.nd rfl (by first | exact Or.inl rfl | exact Or.inr rfl)) pgs_nil))) (pss_one (ps_if (pt_cmpR (op_neD (hu64 hr)) (pv 5) (pv 4) (nomark _)) (pss_one (ps_xput hx (pv 3) (pv 4) (C8.pe_mt (c_Field_minus T) hr (by decide) (pv 2) (pa_cons (pe_xget hx (pv 3) (pv 4) (fun _ _ => rfl)) (pa_cons (C8.pe_mt (c_Field_times T) hr (by decide) (pv 2) (pa_cons (pv 6) (pa_cons (pe_xget hx (pv 3) (pv 5) (fun _ _ => rfl)) pa_nil))) pa_nil))) (by rfl))) pss_nil))))) pss_nil)))))) (pss_one (ps_ret (pv 3)))))), ?_⟩
  obtain ⟨x, y, rfl, φ, a, fa, b, l, st, js, f, rfl, rfl, ⟨dx, kvh, ha, hfa, hbA, hbD⟩, ⟨vs, hl, hps⟩, N, hQ⟩ := h
  refine ⟨_, rfl, _, _, _, _, _, rfl, ha, T.c_Lines, T.n_Lines_line_field, rfl, ?_⟩
  intro d ψ hd hD
  have e0 : Ext H (upd H d (.ext ψ)) := Ext.upd hd
  have hvl : vs.length = js.length := Paired.length hps
  refine ⟨_, rfl, l, rfl, ⟨vs, SqL.of (e0 _ _ hl)⟩, ?_⟩
  refine for_list (K := K) (xs := vs) (fun i σ H' => Ext H H' ∧ (∃ kvs, DAt P w K H' d kvs ∧ DictV K φ H' nkP 8 kvs (fndC f (js.take i))) ∧ ∃ o1 o2 o3, σ = [some (.ref a), some (.ref l), some (.ref fa), some (.ref d), o1, o2, o3]) ⟨e0, ⟨[], hD, DictV.nil.congr fun j _ => ?_⟩, _, _, _, rfl⟩ (fun i σ H' _ z => SqL.of (z.1 _ _ hl)) (fun i x σ H1 hx1 z => ?_) fun σ H1 z => ?_
  · show none = fndC f (js.take 0) j
    unfold fndC
    rw [List.take_zero, if_neg List.not_mem_nil]
  · obtain ⟨e1, ⟨kvs, hDA, hDV⟩, o1, o2, o3, rfl⟩ := z
    obtain ⟨p, hp1, hpr⟩ := paired_at hps hx1
    have hpm := List.mem_of_getElem? hp1
    have hp8 := N.lt p hpm
    obtain ⟨pa, rfl, hpa⟩ := id hpr
    have tk : js.take (i + 1) = js.take i ++ [p] := by rw [List.take_add_one, hp1]; rfl
    have hkey : ∀ {H3 : Hp}, Ext H H3 → KeyR K H3 (.ref pa) (nkP p) := fun x => (hpr.xn (.ofX x)).key hp8
    have few : ∀ {H3 : Hp} {kvs2 : List (NK × V)} {c2 : Nat → Option φ.car}, DictV K φ H3 nkP 8 kvs2 c2 → kvs2.length < sizeLine := fun h => Nat.lt_of_le_of_lt h.len (by decide)
    -- found[product] = ZERO
    refine ⟨_, rfl, _, rfl, d, kvs, nkP p, rfl, hDA, hkey e1, few hDV, fun ψ1 hw1 => ?_⟩
    have e2 : Ext H (upd H1 d (.ext ψ1)) := e1.wr hd
    have tp1 : Tups H1 (upd H1 d (.ext ψ1)) := Tups.upd hDA.noTup
    have z1 : NumV K φ (upd H1 d (.ext ψ1)) (.ref (He.ga K "ZERO")) 0 := ⟨_, rfl, by rw [Fd.enc_zero]; exact T.z0 _⟩
    have hV1 : DictV K φ (upd H1 d (.ext ψ1)) nkP 8 (putK kvs (nkP p) (.ref (He.ga K "ZERO"))) (updC (fndC f (js.take i)) p (some 0)) := (hDV.tp tp1).put (fun i j hi hj => nkP_inj hi hj) hp8 z1
    have nin : ¬ p ∈ js.take i := fun q => by
      have h1 := (List.getElem?_eq_some_iff.mp hp1).1
      have h2 := (List.getElem?_eq_some_iff.mp hp1).2
      have hsp : js = js.take i ++ p :: js.drop (i + 1) := by rw [← h2, List.getElem_cons_drop, List.take_append_drop]
      have := N.nd
      rw [hsp] at this
      exact (List.nodup_append.mp this).2.2 _ q _ List.mem_cons_self rfl
    have nxt : ∀ k, k < 8 → updC (fndC f (js.take i)) p (some (f p)) k = fndC f (js.take (i + 1)) k := fun k hk => by
      unfold updC fndC
      rw [tk]
      by_cases e : k = p
      · subst e
        rw [if_pos rfl, if_pos (List.mem_append_right _ (List.mem_singleton.mpr rfl))]
      · rw [if_neg e]
        by_cases q : k ∈ js.take i
        · rw [if_pos q, if_pos (List.mem_append_left _ q)]
        · rw [if_neg q, if_neg fun z => (List.mem_append.mp z).elim q fun z => e (List.mem_singleton.mp z)]
    refine ⟨_, rfl, by show 0 ≤ sizeLine; exact Nat.zero_le _, fun t0 ht0 => ?_⟩
    have eT := Ext.upd (o := .tup []) ht0
    have e3 := e2.trans eT
    refine ⟨.tuple ((prd p).map .int), .tuple ((prd 0).map .int), .tup (hpa.ext e3) (dpAll_ints _), .tup (SqT.of upd_same) .nil, prd_shaped p hp8, rfl, _, rfl, ?_⟩
    rw [eqv_prd p 0 hp8 (by decide)]
    by_cases h0 : p = 0
    · subst h0
      rw [decide_eq_true rfl]
      refine iteT ⟨_, rfl, fa, _, _, rfl, (e3) _ _ hfa.choose_spec, rfl, _, _, _, rfl, fa, φ.p, 1, 1, rfl, rfl, rfl, hfa.ext (e3), φ.prime, good_one φ, by decide, by decide, fun H4 oa e4 _ hoa => ?_⟩
      have e34 := eT.trans e4
      refine ⟨_, rfl, _, rfl, d, _, nkP 0, rfl, hw1.xn (.ofX e34), hkey (e2.trans e34), few hV1, fun ψ4 hw4 => ?_⟩
      have nt4 := (hw1.xn (.ofX e34)).noTup
      refine ⟨(e2.trans e34).wr hd, ⟨_, hw4, (((hV1.xn (.ofX e34)).tp (Tups.upd nt4)).put (fun i j hi hj => nkP_inj hi hj) (by decide) ((num_one hoa).tp (Tups.upd nt4))).congr fun k hk => ?_⟩, _, _, _, rfl⟩
      rw [← nxt k hk, N.zero]
      unfold updC
      by_cases e : k = 0
      · rw [if_pos e, if_pos e]
      · rw [if_neg e, if_neg e, if_neg e]
    · rw [decide_eq_false h0]
      refine iteF ⟨_, rfl, _, rfl, _, _, _, _, _, rfl, e3 _ _ ha, T.c_Lines, T.n_Lines_by_head, rfl, b, kvh, nkP p, rfl, (hbA.xn (.ofX e3)).r, hkey e3, _, rfl, ?_⟩
      cases hs : st p with
      | none =>
        rw [hbD.get0 hp8 hs]
        refine iteF ⟨e3, ⟨_, hw1.xn (.ofX eT), (hV1.xn (.ofX eT)).congr fun k hk => ?_⟩, _, _, _, rfl⟩
        rw [← nxt k hk, N.noHd p hpm h0 hs]
      | some x =>
        obtain ⟨vt, hvt, t, rr, rm, rfl, ht2, hrr2, hrm2, nr, nm⟩ := hbD.get hp8 hs
        rw [hvt]
        refine iteT ?_
        obtain ⟨kr, ⟨xsE, ek, hrrD, ko⟩, hrV⟩ := hrr2.xn (.ofX e3)
        subst ek
        obtain ⟨G, hG⟩ : ∃ G, G = upd (upd H1 d (.ext ψ1)) t0 (.tup []) := ⟨_, rfl⟩
        rw [← hG]
        rw [← hG] at eT e3 hrrD ko hrV
        refine ⟨rr, DO P w rr xsE, hrrD, True.intro, fun od => ?_⟩
        have ntr : NoTup (G rr) := noTup_do hrrD
        have xL : ExB rr G (upd G rr (.frz od (DO P w rr xsE))) := (show ExB rr G G from fun _ _ _ z => z).wr
        have tpL := xL.tups ntr
        have nar : a ≠ rr := fun z => by
          have := e3 _ _ ha
          rw [z, hrrD] at this
          cases this
        have nfr : fa ≠ rr := fun z => by
          obtain ⟨dz, hf'⟩ := hfa
          have := e3 _ _ hf'
          rw [z, hrrD] at this
          cases this
        have haL := xL _ _ nar (e3 _ _ ha)
        have hfL : FieldAt K (upd G rr (.frz od (DO P w rr xsE))) fa φ.p := (hfa.ext e3).exb xL nfr
        have hbL := (hbA.xn (.ofX e3)).exb xL ntr (Ne.symm nr)
        have hrH : H rr = some (DO P w rr xsE) := by
          obtain ⟨_, ⟨xs2, _, q, _⟩, _⟩ := hrr2
          have := e3 _ _ q
          rw [hrrD] at this
          have e : DO P w rr xsE = DO P w rr xs2 := Option.some.inj this
          rw [q, e]
        have hdr : d ≠ rr := fun z => by
          rw [z, hrH] at hd
          cases hd
        have hdL := (hw1.xn (.ofX eT)).exb xL ntr hdr
        have hVL := (hV1.xn (.ofX eT)).tp tpL
        have hrL := hrV.tp tpL
        have koL := ko.mono tpL
        have hkL : KeyR K (upd G rr (.frz od (DO P w rr xsE))) (.ref pa) (nkP p) := (hkey e3).mono tpL
        have hkn : (xsE.map (·.1)).Nodup := by
          have := hrV.nodup
          rwa [kvE_keys] at this
        obtain ⟨GL, hGL⟩ : ∃ GL, GL = upd G rr (.frz od (DO P w rr xsE)) := ⟨_, rfl⟩
        have hGr : GL rr = some (.frz od (DO P w rr xsE)) := by rw [hGL]; exact upd_same
        rw [← hGL]
        rw [← hGL] at xL tpL haL hfL hbL hdL hVL hrL koL hkL
        refine ⟨_, rfl, _, _, _, _, _, rfl, haL, T.c_Lines, T.n_Lines_by_head, rfl, _, rfl, b, kvh, nkP p, .ref t, rfl, hbL.r, hkL, hvt, t, _, _, _, rfl, rfl, tpL.sqt (ht2.ext e3), atI_nat (j := 0) rfl, rr, od, xsE, rfl, hGr, ?_⟩
        have hbL1 : True := True.intro
        -- the products of the first n entries, all but p itself
        have few2 : ∀ n, ((xsE.take n).map fun e => idxK e.1).Nodup ∧ ∀ k ∈ (xsE.take n).map fun e => idxK e.1, k < 8 ∧ x.1 k ≠ 0 := fun n => by
          refine ⟨?_, fun k hk => ?_⟩
          · have h1 : ((xsE.take n).map (·.1)).Nodup := List.Nodup.sublist ((List.take_sublist n xsE).map _) hkn
            have e : ((xsE.take n).map fun e => idxK e.1) = ((xsE.take n).map (·.1)).map idxK := by rw [List.map_map]; rfl
            rw [e]
            refine List.pairwise_map.mpr (List.Pairwise.imp_of_mem (fun {u v} hu hv hne z => ?_) h1)
            obtain ⟨e1, m1, rfl⟩ := List.mem_map.mp hu
            obtain ⟨e2, m2, rfl⟩ := List.mem_map.mp hv
            obtain ⟨i1, j1, k1⟩ := hrV.dom (e1.1, e1.2.2) (List.mem_map.mpr ⟨e1, List.mem_of_mem_take m1, rfl⟩)
            obtain ⟨i2, j2, k2⟩ := hrV.dom (e2.1, e2.2.2) (List.mem_map.mpr ⟨e2, List.mem_of_mem_take m2, rfl⟩)
            have k1' : e1.1 = nkP i1 := k1
            have k2' : e2.1 = nkP i2 := k2
            rw [k1', k2', idxK_at i1 j1, idxK_at i2 j2] at z
            exact hne (by rw [k1', k2', z])
          · obtain ⟨e1, m1, rfl⟩ := List.mem_map.mp hk
            obtain ⟨i1, y1, j1, k1, c1, _⟩ := hrV.entry (kv := (e1.1, e1.2.2)) (List.mem_map.mpr ⟨e1, List.mem_of_mem_take m1, rfl⟩)
            have k1' : e1.1 = nkP i1 := k1
            rw [k1', idxK_at i1 j1]
            refine ⟨j1, fun z => ?_⟩
            unfold nz at c1
            rw [if_pos z] at c1
            cases c1
        have ksok : ∀ n, (((xsE.take n).map fun e => idxK e.1).filter fun k => decide (k ≠ p)).Nodup ∧ ∀ k ∈ ((xsE.take n).map fun e => idxK e.1).filter fun k => decide (k ≠ p), k < 8 ∧ k ≠ p ∧ x.1 k ≠ 0 := fun n => by
          obtain ⟨g1, g2⟩ := few2 n
          refine ⟨List.Nodup.sublist List.filter_sublist g1, fun k hk => ?_⟩
          obtain ⟨m1, m2⟩ := List.mem_filter.mp hk
          exact ⟨(g2 k m1).1, of_decide_eq_true m2, (g2 k m1).2⟩
        have ntdL : NoTup (GL d) := hdL.noTup
        refine for_it walk_xitems (fun n σ H' => ExB d GL H' ∧ (∃ kvs, DAt P w K H' d kvs ∧ DictV K φ H' nkP 8 kvs (updC (fndC f (js.take i)) p (some (0 - lsum (fun k => x.1 k * f k) (((xsE.take n).map fun e => idxK e.1).filter fun k => decide (k ≠ p)))))) ∧ ∃ o2 o3, σ = [some (.ref a), some (.ref l), some (.ref fa), some (.ref d), some (.ref pa), o2, o3]) ⟨fun _ _ _ z => z, ⟨_, hdL, hVL.congr fun k hk => ?_⟩, _, _, rfl⟩ (fun n σ H' _ z => z.1 _ _ (Ne.symm hdr) hGr) (fun n y σ H3 H4 hn z yy => ?_) fun σ H3 z => ?_
        · show updC (fndC f (js.take i)) p (some 0) k = updC (fndC f (js.take i)) p (some (0 - lsum _ (List.filter _ (List.map _ (xsE.take 0))))) k
          rw [List.take_zero]
          have : (0 : φ.car) - 0 = 0 := by grind
          show _ = updC (fndC f (js.take i)) p (some (0 - 0)) k
          rw [this]
        · obtain ⟨xG, ⟨kvs3, hA3, hV3⟩, o2, o3, rfl⟩ := z
          obtain ⟨Tt, k, ka, yv, ei, rfl, hT, rfl⟩ := yy
          have tp3 := xG.tups ntdL
          obtain ⟨k0, xj, hk8, rfl, ecj, nv, kvv⟩ := ent_at hrL koL ei
          have hxu : xj = x.1 k0 := by
            unfold nz at ecj
            split at ecj
            · cases ecj
            · exact (Option.some.inj ecj).symm
          subst hxu
          have hne0 : x.1 k0 ≠ 0 := fun z => by
            unfold nz at ecj
            rw [if_pos z] at ecj
            cases ecj
          have eT := Ext.upd (o := .tup [.ref ka, yv]) hT
          have tp4 := tp3.trans (.ofX eT)
          have hf4 : FieldAt K (upd H3 Tt (.tup [.ref ka, yv])) fa φ.p := (hfL.exb xG (fun z => by
            obtain ⟨dz, hf'⟩ := hfa
            rw [z, hd] at hf'
            cases hf')).ext eT
          have hA4 := hA3.xn (.ofX eT)
          have hV4 := hV3.xn (.ofX eT)
          have hkp := hkL.mono tp4
          have hpk : PrV K (upd H3 Tt (.tup [.ref ka, yv])) (.ref ka) k0 := (PrV.of_key kvv).tp tp4
          obtain ⟨kb, ekb, hkb⟩ := id hpk
          cases ekb
          obtain ⟨pb, epb, hpb⟩ := (show PrV K (upd H3 Tt (.tup [.ref ka, yv])) (.ref pa) p from (hpr.xn (.ofX e3)).tp (tpL.trans tp4))
          cases epb
          have tkn : ((xsE.take (n + 1)).map fun e => idxK e.1).filter (fun k => decide (k ≠ p)) = if k0 = p then ((xsE.take n).map fun e => idxK e.1).filter (fun k => decide (k ≠ p)) else ((xsE.take n).map fun e => idxK e.1).filter (fun k => decide (k ≠ p)) ++ [k0] := by
            have : xsE.take (n + 1) = xsE.take n ++ [(nkP k0, ka, yv)] := by rw [List.take_add_one, ei]; rfl
            rw [this, List.map_append, List.filter_append]
            show _ ++ List.filter _ [idxK (nkP k0)] = _
            rw [idxK_at k0 hk8, List.filter_cons]
            by_cases e : k0 = p
            · rw [if_pos e, if_neg (by simp [e])]
              simp
            · rw [if_neg e, if_pos (by simp [e])]
              rfl
          refine ⟨Tt, _, rfl, SqT.of upd_same, rfl, _, _, rfl, _, _, rfl, rfl, ?_⟩
          refine ⟨_, rfl, _, rfl, .tuple ((prd k0).map .int), .tuple ((prd p).map .int), .tup hkb (dpAll_ints _), .tup hpb (dpAll_ints _), prd_shaped k0 hk8, prd_shaped p hp8, _, rfl, ?_⟩
          rw [eqv_prd k0 p hk8 hp8]
          by_cases hkp0 : k0 = p
          · rw [decide_eq_true hkp0]
            rw [if_pos hkp0] at tkn
            refine iteF ⟨xG.trans (.ofX eT), ⟨kvs3, hA4, ?_⟩, _, _, rfl⟩
            rw [tkn]
            exact hV4
          · rw [decide_eq_false hkp0]
            rw [if_neg hkp0] at tkn
            have hkin : k0 ∈ js.take i := N.ord i p hp1 h0 x hs k0 hk8 hne0 hkp0
            obtain ⟨v1, hv1, hn1⟩ := hV4.get hp8 (x := 0 - lsum (fun k => x.1 k * f k) (((xsE.take n).map fun e => idxK e.1).filter fun k => decide (k ≠ p))) (by unfold updC; rw [if_pos rfl])
            obtain ⟨v2, hv2, hn2⟩ := hV4.get hk8 (x := f k0) (by unfold updC fndC; rw [if_neg hkp0, if_pos hkin])
            refine iteT ⟨_, rfl, fa, _, _, rfl, hf4.choose_spec, rfl, _, rfl, _, rfl, d, kvs3, nkP p, v1, rfl, hA4.r, hkp, hv1, ?_⟩
            refine ⟨_, rfl, fa, _, _, rfl, hf4.choose_spec, rfl, _, rfl, _, rfl, _, rfl, d, kvs3, nkP k0, v2, rfl, hA4.r, hpk.key hk8, hv2, _, _, _, rfl, φ, x.1 k0, f k0, fa, rfl, hf4, nv.tp tp4, hn2, N.smr p hpm x hs k0 hk8, N.smf k0 (List.mem_of_mem_take hkin), fun H5 v5 e5 hv5 => ?_⟩
            refine ⟨_, _, _, rfl, φ, _, _, fa, rfl, hf4.ext e5, hn1.xn (.ofX e5), hv5, N.sms p hpm x hs _ (ksok n).1 (ksok n).2, N.smp p hpm x hs k0 hk8 hkp0 hne0, fun H6 v6 e6 hv6 => ?_⟩
            have e46 := e5.trans e6
            have hA6 := hA4.xn (.ofX e46)
            refine ⟨_, rfl, _, rfl, d, kvs3, nkP p, rfl, hA6, hkp.xn (.ofX e46), few hV4, fun ψ6 hw6 => ⟨((xG.trans (.ofX (eT.trans e46))).wr), ⟨_, hw6, (((hV4.xn (.ofX e46)).tp (Tups.upd hA6.noTup)).put (fun i j hi hj => nkP_inj hi hj) hp8 (hv6.tp (Tups.upd hA6.noTup))).congr fun k hk => ?_⟩, _, _, rfl⟩⟩
            unfold updC
            by_cases e : k = p
            · rw [if_pos e, if_pos e, tkn, lsum_snoc]
              congr 1
              show (0 - lsum _ _) - x.1 k0 * f k0 = 0 - (lsum _ _ + x.1 k0 * f k0)
              grind
            · rw [if_neg e, if_neg e, if_neg e]
        · obtain ⟨xG, ⟨kvs3, hA3, hV3⟩, o2, o3, rfl⟩ := z
          have h3r := xG _ _ (Ne.symm hdr) hGr
          have nt3 : NoTup (H3 rr) := fun xs => ⟨fun z => (by rw [h3r] at z; cases z), fun ob z => (by rw [h3r] at z; cases z)⟩
          have tpU : Tups H3 (upd H3 rr (DO P w rr xsE)) := Tups.upd nt3
          refine ⟨h3r, ?_, ⟨kvs3, hA3.upd_ne hdr nt3, (hV3.tp tpU).congr fun k hk => ?_⟩, _, _, _, rfl⟩
          · intro c q hc
            by_cases e : c = rr
            · subst e
              rw [hrH] at hc
              rw [← hc]
              exact upd_same
            · rw [upd_ne e]
              exact xG _ _ (fun z => by rw [z, hd] at hc; cases hc) (xL _ _ e (e3 _ _ hc))
          · rw [← nxt k hk, N.atHd p hpm h0 x hs, List.take_length]
            congr 3
            refine lsum_perm _ ((List.perm_ext_iff_of_nodup ?_ (List.Nodup.sublist List.filter_sublist List.nodup_range)).mpr fun k1 => ?_)
            · have := (ksok xsE.length).1
              rwa [List.take_length] at this
            · have g := (few2 xsE.length).2
              rw [List.take_length] at g
              rw [List.mem_filter, List.mem_filter, List.mem_range, Bool.and_eq_true, decide_eq_true_iff, decide_eq_true_iff]
              constructor
              · rintro ⟨q1, q2⟩
                exact ⟨(g k1 q1).1, (g k1 q1).2, q2⟩
              · rintro ⟨q1, q2, q3⟩
                refine ⟨?_, q3⟩
                obtain ⟨q, c1, _⟩ := hrV.get (j := k1) q1 (x := x.1 k1) (by unfold nz; rw [if_neg q2])
                have hm : nkP k1 ∈ (kvE xsE).map (·.1) := Classical.byContradiction fun ne => by
                  rw [valV_absent ne] at c1
                  cases c1
                rw [kvE_keys] at hm
                obtain ⟨e', m1, m2⟩ := List.mem_map.mp hm
                exact List.mem_map.mpr ⟨e', m1, by rw [show e'.1 = nkP k1 from m2, idxK_at k1 q1]⟩
  · obtain ⟨e1, _, o1, o2, o3, rfl⟩ := z
    exact ⟨_, rfl, hQ H1 d e1⟩
theorem c_Lines_nought_on_all (T : Tx K mg) : C8.Met P w K mg base 4 (He.ga K "Lines") "nought_on_all" (S2 (k_Lines_nought_on_all P w K)) [] := met_of T.F_Lines_nought_on_all T.c_Lines T.me_Lines_nought_on_all sc_Lines_nought_on_all (fun _ _ _ _ _ _ us hl => match us, hl with | [_, _], _ => rfl) len2 (b_Lines_nought_on_all T)
end
end FS
set_option Elab.async false
set_option linter.all false
set_option maxRecDepth 100000
set_option maxHeartbeats 4000000
namespace FS
open PySem PySem.Spec PyProof.Rows L2
section
variable {P : Program} {w : World} {K : PySem.W.Frag} {mg : PySem.Str → Option Value} {base : Heap}
def rowOf {φ : Fd} (cs : List (Nat → φ.car)) (m : Nat) : Nat → φ.car := mulC (m % 8) (cs.getD (m / 8) fun _ => 0)
/-- the lines that the marks ms make -/
def runM {φ : Fd} (cs : List (Nat → φ.car)) (ms : List Nat) : LSt φ := ms.foldl (fun st m => putM 9 st (rowOf cs m) (unitM m)) fun _ => none
theorem runM_snoc {φ : Fd} (cs : List (Nat → φ.car)) (ms : List Nat) (m : Nat) : runM cs (ms ++ [m]) = putM 9 (runM cs ms) (rowOf cs m) (unitM m) := by
  unfold runM
  rw [List.foldl_append]
  rfl
def LinOk (φ : Fd) (cs : List (Nat → φ.car)) (ms : List Nat) : Prop := ∀ i m, ms[i]? = some m → OkRun φ 9 (runM cs (ms.take i)) (rowOf cs m) (unitM m)
theorem paired_bt {α β : Type} {F : α → β → Prop} {as : List α} {bs : List β} (h : Paired F as bs) {i : Nat} {b : β} (e : bs[i]? = some b) : ∃ a, as[i]? = some a ∧ F a b := by
  induction h generalizing i with
  | nil => simp at e
  | cons r t ih =>
    cases i with
    | zero =>
      simp at e
      subst e
      exact ⟨_, rfl, r⟩
    | succ i =>
      simp at e
      obtain ⟨a, h1, h2⟩ := ih e
      exact ⟨a, by simpa using h1, h2⟩
theorem pairs_mem {α : Type} [Lean.Grind.Field α] [DecidableEq α] {p d : Nat} (hp : p < 4) {cs : List (Nat → α)} {m : Nat} (h : m ∈ pairsM p d cs) : m / 8 < cs.length ∧ ∃ c, cs[m / 8]? = some c ∧ degM c ≤ d ∧ m % 8 ∈ prodsM p (min (d - degM c) p) := by
  unfold pairsM at h
  obtain ⟨n, hn, h2⟩ := List.mem_flatMap.mp h
  rw [List.mem_range] at hn
  unfold pairs1 at h2
  have hc : cs[n]? = some cs[n] := List.getElem?_eq_getElem hn
  rw [hc] at h2
  have h3 : m ∈ (if degM cs[n] ≤ d then (prodsM p (min (d - degM cs[n]) p)).map fun q => 8 * n + q else []) := h2
  by_cases hd : degM cs[n] ≤ d
  · rw [if_pos hd] at h3
    obtain ⟨q, hq, rfl⟩ := List.mem_map.mp h3
    have hq8 := (prods_ok p hp _ (by omega) q hq).1
    have e1 : (8 * n + q) / 8 = n := by omega
    have e2 : (8 * n + q) % 8 = q := by omega
    rw [e1, e2]
    exact ⟨hn, _, hc, hd, hq⟩
  · rw [if_neg hd] at h3
    cases h3
def k_lines_of (P : Program) (w : World) (K : PySem.W.Frag) : K2 := fun x y H Q => ∃ (φ : Fd) (a : Addr) (p : Nat) (cs : List (Nat → φ.car)) (d : Nat), x = .ref a ∧ y = .int d ∧ SysAt K φ H a p cs ∧ p < 4 ∧ cs.length ≤ 10 ∧ (∀ c ∈ cs, SubSm φ c) ∧ LinOk φ cs (pairsM p d cs) ∧
  ∀ H' f fa b, Ext H H' → LinesAt P w K φ H' f fa b (runM cs (pairsM p d cs)) → Q (.ref f) H'

abbrev N_lines_of : List PySem.Str := ["system", "degree", "found", "number", "product"]
theorem sc_lines_of : FnScope N_lines_of ["system", "degree"] (defScope s_lines_of) := ⟨rfl, rfl, rfl, by decide +kernel, rfl, by decide +kernel, by decide +kernel⟩
theorem b_lines_of (T : Tx K mg) : Body P w K mg base 5 "lines_of" (defBody s_lines_of) (defScope s_lines_of) N_lines_of (S2 (k_lines_of P w K)) := fun f cdv A outer s H vs Q E hcd hr h => by
  refine ⟨_, (pss_cons (ps_set (i := 2) sc_lines_of.nd rfl (by first | exact Or.inl rfl | exact Or.inr rfl) (C8.pe_mk (c_Lines_init T) hr (by decide) rfl (pa_cons (C8.pe_mt0 (c_System_field T) hr (by decide) (pv 0)) pa_nil))) (pss_cons (ps_for PassesOwn.never rfl (pi_list (C8.pe_c (c_pairs_of T) hr (by decide) rfl (pa_cons (pv 0) (pa_cons (pv 1) pa_nil)))) (pg_tup rfl (pgs_cons (pg_name (i := 3) sc_lines_of.nd rfl (by first | exact Or.inl rfl | exact Or.inr rfl)) (pgs_cons (pg_name (i := 4) sc_lines_of.nd rfl (by first | exact Or.inl rfl | exact Or.inr rfl)) pgs_nil))) (pss_one (ps_expr (C8.pe_mt (c_Lines_put T) hr (by decide) (pv 2) (pa_cons (C8.pe_c (c_beside T) hr (by decide) rfl (pa_cons (pe_ix ix_list (C8.pe_mt0 (c_System_noughts T) hr (by decide) (pv 0)) (pv 3) (fun _ _ => rfl)) (pa_cons (pv 4) pa_nil))) (pa_cons (pe_tup (pa_cons (pv 3) (pa_cons (pv 4) pa_nil))) pa_nil)))))) (pss_one (ps_ret (pv 2))))), ?_⟩
  obtain ⟨x, y, rfl, φ, a, p, cs, d, rfl, rfl, hS, hp, hlen, hsm, hok, hQ⟩ := h
  obtain ⟨dx, fa0, ln, lu, ha, _⟩ := id hS
  refine ⟨_, rfl, a, dx, _, rfl, ha, rfl, _, rfl, φ, a, p, cs, rfl, hS, fun fa hfa => ?_⟩
  intro f dy hf hdy hne
  have eN : Ext H (upd (upd H dy (.own f)) f (.ins (He.ga K "Lines") dy [])) := (Ext.upd hdy).upd' (by rw [upd_ne (Ne.symm hne)]; exact hf)
  refine ⟨_, _, rfl, φ, f, dy, fa, rfl, rfl, upd_same, hfa.ext eN, fun H1 b x1 hb hL => ⟨rfl, ?_⟩⟩
  have e1 : Ext H H1 := ext_exb eN hf x1
  have hb0 : H b = none := fresh_of eN hb
  refine ⟨_, rfl, _, rfl, _, _, rfl, φ, a, p, cs, d, rfl, rfl, hS.xn (.ofX e1), hp, hlen, fun H2 lp e2 hlp ⟨vs, hl, hpd⟩ => ?_⟩
  have e12 := e1.trans e2
  have hL2 := hL.xn (.ofX e2)
  have hvl : vs.length = (pairsM p d cs).length := Paired.length hpd
  obtain ⟨dxl, kvl, haf, hff, hbA, hbD⟩ := id hL
  have hbs : ∃ u, H1 b = some u := let ⟨xs, _, q, _⟩ := hbA; ⟨_, q⟩
  obtain ⟨ub, hub⟩ := hbs
  have nlb : lp ≠ b := fun z => by
    rw [z, hub] at hlp
    cases hlp
  have ntb : NoTup (H2 b) := (hbA.xn (.ofX e2)).noTup
  refine ⟨lp, rfl, ⟨vs, SqL.of hl⟩, ?_⟩
  refine for_list (K := K) (xs := vs) (fun i σ H' => ExB b H2 H' ∧ LinesAt P w K φ H' f fa b (runM cs ((pairsM p d cs).take i)) ∧ ∃ o1 o2, σ = [some (.ref a), some (.int d), some (.ref f), o1, o2]) ⟨fun _ _ _ z => z, hL2, _, _, rfl⟩ (fun i σ H' _ z => SqL.of (z.1 _ _ nlb hl)) (fun i x σ H3 hx1 z => ?_) fun σ H3 z => ?_
  · obtain ⟨x3, hL3, o1, o2, rfl⟩ := z
    obtain ⟨m, hm, ⟨ta, pv, rfl, h1, h2⟩⟩ := paired_at hpd hx1
    have hmm := List.mem_of_getElem? hm
    obtain ⟨hmc, c, hc, hdeg, hmq⟩ := pairs_mem hp hmm
    have hq8 : m % 8 < 8 := Nat.mod_lt _ (by decide)
    have tk : (pairsM p d cs).take (i + 1) = (pairsM p d cs).take i ++ [m] := by rw [List.take_add_one, hm]; rfl
    have tp3 := x3.tups ntb
    have e3 : Ext H H3 := ext_exb e12 hb0 x3
    obtain ⟨dxl3, kvl3, haf3, _⟩ := id hL3
    refine ⟨ta, _, rfl, tp3.sqt h1, rfl, _, _, rfl, _, _, rfl, rfl, ?_⟩
    refine ⟨_, rfl, f, dxl3, _, rfl, haf3, rfl, ?_⟩
    refine ⟨_, rfl, a, dx, _, rfl, e3 _ _ ha, rfl, _, rfl, φ, a, p, cs, H, rfl, hS, e3, fun H4 q us e4 hq hlq hpq => ?_⟩
    obtain ⟨wv, hwv, ⟨wa, wl, rfl, hSw⟩⟩ := paired_bt hpq hc
    have e34 := e3.trans e4
    refine ⟨_, rfl, q, us, ((m / 8 : Nat) : Int), .ref wa, rfl, rfl, SqL.of hlq, atI_nat hwv, _, rfl, _, _, rfl, φ, wa, wl, c, m % 8, rfl, hSw.xn (.ofX e34), (h2.tp tp3).xn (.ofX e4), hq8, hsm c (List.mem_of_getElem? hc), fun H5 r e5 hr0 hrV => ?_⟩
    have e35 := e4.trans e5
    refine ⟨_, rfl, _, rfl, by show 2 ≤ sizeLine; decide, fun mk hmk => ?_⟩
    have e6 := Ext.upd (o := .tup [.int ((m / 8 : Nat) : Int), pv]) hmk
    have e36 := e35.trans e6
    have hrow : rowOf cs m = mulC (m % 8) c := by
      unfold rowOf
      rw [List.getD_eq_getElem?_getD, hc]
      rfl
    have hokm := hok i m hm
    rw [hrow] at hokm
    refine ⟨_, _, _, rfl, φ, f, fa, b, r, runM cs ((pairsM p d cs).take i), mulC (m % 8) c, m, rfl, rfl, hL3.xn (.ofX e36), hrV.xn (.ofX e6), ⟨mk, pv, rfl, SqT.of upd_same, ((h2.tp tp3).xn (.ofX e36))⟩, by omega, hokm, fun H7 cb x7 hL7 => ⟨(x3.trans (.ofX e36)).trans x7, ?_, _, _, rfl⟩⟩
    rw [tk, runM_snoc, hrow]
    exact hL7
  · obtain ⟨x3, hL3, o1, o2, rfl⟩ := z
    rw [hvl, List.take_length] at hL3
    exact ⟨_, rfl, hQ H3 f fa b (ext_exb e12 hb0 x3) hL3⟩
theorem c_lines_of (T : Tx K mg) : C8.Cal P w K mg base 6 "lines_of" (S2 (k_lines_of P w K)) [] := cal_of T.F_lines_of T.m_lines_of sc_lines_of (fun _ _ _ _ _ _ us hl => match us, hl with | [_, _], _ => rfl) len2 (b_lines_of T)
end
end FS
set_option Elab.async false
set_option linter.all false
set_option maxRecDepth 100000
set_option maxHeartbeats 4000000
namespace FS
open PySem PySem.Spec PyProof.Rows L2
/-- a value that is locked for good -/
def tFrz (t : TE) : TE := fun σ H Q => t σ H fun x H1 => ∃ d u, x = .ref d ∧ H1 d = some u ∧ Mut (some u) ∧ ∀ od, Q x (upd H1 d (.frz od u))
theorem pe_frz {X : Cx} {e : Expr} {t : TE} (h : PE X e t) : PE X e (tFrz t) := by
  refine ⟨fun pins s σ H Q I hw => thn (h.run pins s σ H _ I hw) fun v s1 ⟨x, H1, I1, rx, d, u, ex, hd, mu, q⟩ => ?_⟩
  obtain ⟨od, I2⟩ := I1.lock hd mu
  exact ⟨x, _, I2, rx, q od⟩
section
variable {P : Program} {w : World} {K : PySem.W.Frag} {mg : PySem.Str → Option Value} {base : Heap}
theorem paired_mapM {α β : Type} {F G : α → β → Prop} {as : List α} {bs : List β} (h : Paired F as bs) (f : ∀ x ∈ as, ∀ y, F x y → G x y) : Paired G as bs := by
  induction h with
  | nil => exact .nil
  | cons r t ih => exact .cons (f _ List.mem_cons_self _ r) (ih fun x hx => f x (List.mem_cons_of_mem _ hx))
theorem MarkV.of_key {H : Hp} {a : Addr} {m : Nat} (h : KeyV K H (.ref a) (nkM m)) : MarkV K H (.ref a) m := by
  unfold nkM at h
  cases h with
  | tup s q =>
    cases q with
    | cons q1 q2 =>
      cases q1
      cases q2 with
      | cons q3 q4 =>
        cases q4
        cases q3 with
        | tup s2 q5 =>
          have := keysV_back q5
          subst this
          exact ⟨a, _, rfl, s, _, rfl, s2⟩
/-- the rows of the marks: at each of the lists ls its terms -/
def RowsL (K : PySem.W.Frag) (φ : Fd) (H : Hp) (ls : List Addr) (tss : List (List (Nat × φ.car))) : Prop := Paired (fun l ts => ∃ xs, H l = some (.lst xs) ∧ Paired (TermV K φ H) xs ts) ls tss
theorem paired_mapg {α β : Type} {F : α → β → Prop} {g : α → β} : ∀ {l : List α}, (∀ a ∈ l, F a (g a)) → Paired F l (l.map g)
  | [], _ => .nil
  | a :: l, h => .cons (h a List.mem_cons_self) (paired_mapg fun b hb => h b (List.mem_cons_of_mem _ hb))
theorem paired_set {α β : Type} {F G : α → β → Prop} {as : List α} {bs : List β} (h : Paired F as bs) : ∀ {n : Nat} {a : α} {b' : β}, as[n]? = some a → as.Nodup → (∀ x ∈ as, x ≠ a → ∀ y, F x y → G x y) → G a b' → Paired G as (bs.set n b') := by
  induction h with
  | nil => intro n a b' e; simp at e
  | @cons a0 b0 as bs r t ih =>
    intro n a b' e hn f g
    obtain ⟨h1, h2⟩ := List.nodup_cons.mp hn
    cases n with
    | zero =>
      have e' : a0 = a := by simpa using e
      subst e'
      exact .cons g (paired_mapM t fun x hx y q => f x (List.mem_cons_of_mem _ hx) (fun z => h1 (z ▸ hx)) y q)
    | succ n =>
      have e' : as[n]? = some a := by simpa using e
      have ha : a ∈ as := List.mem_of_getElem? e'
      exact .cons (f a0 List.mem_cons_self (fun z => h1 (z ▸ ha)) b0 r) (ih e' h2 (fun x hx => f x (List.mem_cons_of_mem _ hx)) g)
theorem coef_sm {φ : Fd} {ts : List (Nat × φ.car)} (hn : (ts.map (·.1)).Nodup) (h : ∀ t ∈ ts, Small φ t.2) (i j : Nat) : Small φ (coef (ts.take i) j) := by
  by_cases e : ∃ t ∈ ts.take i, t.1 = j
  · obtain ⟨t, ht, rfl⟩ := e
    rw [coef_mem (List.Nodup.sublist ((List.take_sublist i ts).map _) hn) (x := t.2) ht]
    exact h t (List.mem_of_mem_take ht)
  · rw [coef_none fun t ht z => e ⟨t, ht, z⟩]
    exact small_zero φ
def k_showing_by (P : Program) (w : World) (K : PySem.W.Frag) : K2 := fun x y H Q => ∃ (φ : Fd) (a f fa b : Addr) (p : Nat) (cs : List (Nat → φ.car)) (st : LSt φ) (z : (Nat → φ.car) × (Nat → φ.car)), x = .ref a ∧ y = .ref f ∧ SysAt K φ H a p cs ∧ LinesAt P w K φ H f fa b st ∧ st 0 = some z ∧ (∀ m, m < 80 → Small φ (z.2 m)) ∧ (∀ m, m < 80 → z.2 m ≠ 0 → m / 8 < cs.length) ∧ cs.length ≤ 10 ∧ TabsK K H ∧
  ∀ H' l, XN H H' → TabsK K H' → Q (.ref l) H'
/-- the lists so far: all unlike, all new -/
def NewLs (H1 : Hp) (R : Addr) (ls : List Addr) (H' : Hp) : Prop := H' R = some (.lst (ls.map V.ref)) ∧ ls.Nodup ∧ ∀ l ∈ ls, H' l = some (.lst []) ∧ H1 l = none ∧ l ≠ R

abbrev N_showing_by : List PySem.Str := ["system", "lines", "rows", "wish", "mark", "share", "some"]
theorem sc_showing_by : FnScope N_showing_by ["system", "lines"] (defScope s_showing_by) := ⟨rfl, rfl, rfl, by decide +kernel, rfl, by decide +kernel, by decide +kernel⟩
theorem b_showing_by (T : Tx K mg) (TB : LamX.TabB base mg (He.cT K ("gathered", none)).1 (He.cT K ("gathered", none)).2) : Body P w K mg base 6 "showing_by" (defBody s_showing_by) (defScope s_showing_by) N_showing_by (S2 (k_showing_by P w K)) := fun f cdv A outer s H vs Q E hcd hr h => by
  refine ⟨_, (pss_cons (ps_setLc (i := 2) (own := [("wish", 3)]) (g := (gName 3)) (tt := tYes) (te := (tLst tNil)) rfl sc_showing_by.nd rfl rfl (sw_true rfl rfl rfl (by decide +kernel)) (pi_list (C8.pe_mt0 (c_System_noughts T) hr (by decide) (pv 0))) (blkOk_by (N := N_showing_by) (sc := defScope s_showing_by) (by decide +kernel)) (fun _ _ _ _ _ => (pg_name (i := 3) sc_showing_by.nd rfl (by first | exact Or.inl rfl | exact Or.inr rfl))) (fun _ _ _ _ _ => pts_nil) (fun _ _ _ _ _ => (pe_lst pa_nil))) (pss_cons (ps_for PassesOwn.never rfl (pi_xitems (pe_frz (C8.pe_mt (c_Lines_made_of T) hr (by decide) (pv 1) (pa_cons (pe_tup pa_nil) pa_nil)))) (pg_tup rfl (pgs_cons (pg_name (i := 4) sc_showing_by.nd rfl (by first | exact Or.inl rfl | exact Or.inr rfl)) (pgs_cons (pg_name (i := 5) sc_showing_by.nd rfl (by first | exact Or.inl rfl | exact Or.inr rfl)) pgs_nil))) (pss_one (ps_expr (pe_bm PySem.F.plainAttrs_list PySem.F.slot_list_append PySem.F.type_list_append mt_append (pe_ix ix_list (pv 2) (pe_ix ix_tup (pv 4) pe_int (fun _ _ => rfl)) (fun _ _ => rfl)) (pa_cons (pe_tup (pa_cons (pe_ix ix_tup (pv 4) pe_int (fun _ _ => rfl)) (pa_cons (pv 5) pa_nil))) pa_nil))))) (pss_one (ps_ret (pe_lc (own := [("some", 6)]) (g := (gName 6)) (tt := tYes) (te := (tMake (He.ga K "Sum") _ _ E0 (tCons (tMeth (He.ga K "System") "field" (S1 (k_System_field K)) [] C8.E0 (tVar 0) tNil) (tCons (tVar 6) tNil)))) rfl sc_showing_by.nd (pi_list (pv 2)) (blkOk_by (N := N_showing_by) (sc := defScope s_showing_by) (by decide +kernel)) (fun _ _ _ _ _ => (pg_name (i := 6) sc_showing_by.nd rfl (by first | exact Or.inl rfl | exact Or.inr rfl))) (fun _ _ _ _ _ => pts_nil) (fun _ _ _ _ _ => (C8.pe_mk (c_Sum_init T TB) hr (by decide) rfl (pa_cons (C8.pe_mt0 (c_System_field T) hr (by decide) (pv 0)) (pa_cons (pv 6) pa_nil))))))))), ?_⟩
  obtain ⟨x, y, rfl, φ, a, f, fa, b, p, cs, st, pz, rfl, rfl, hS, hL, hst, hsm, hin, hlen, hTb, hQ⟩ := h
  obtain ⟨dx, fa0, ln, lu, ha, _⟩ := id hS
  refine ⟨_, rfl, a, dx, _, rfl, ha, rfl, _, rfl, φ, a, p, cs, H, rfl, hS, Ext.rfl', fun H1 q vs e1 hq hl hpd => ?_⟩
  have hvl : vs.length = cs.length := Paired.length hpd
  refine ⟨q, rfl, ⟨vs, SqL.of hl⟩, fun R hR => ?_⟩
  have hR0 : H R = none := fresh_of e1 hR
  refine lc_list (K := K) (xs := vs) (fun i H' => Ext H1 H' ∧ ∃ ls, ls.length = i ∧ NewLs H1 R ls H') ⟨Ext.upd hR, [], rfl, upd_same, List.nodup_nil, (fun _ z => nomatch z)⟩ (fun i H' _ z => SqL.of (z.1 _ _ hl)) (fun i x H2 hx1 z => ?_) fun H2 z => ?_
  · obtain ⟨z1, ls, z2, z3, z4, z5⟩ := z
    refine ⟨rfl, t_yes ⟨by show 0 ≤ sizeLine; exact Nat.zero_le _, fun l hl0 => ?_⟩⟩
    have hRl : R ≠ l := ne_of_none z3 hl0
    have hi : i < vs.length := (List.getElem?_eq_some_iff.mp hx1).1
    refine ⟨ls.map V.ref, by rw [upd_ne hRl]; exact z3, ?_, (z1.trans (Ext.upd hl0)).wr hR, ls ++ [l], by rw [List.length_append, z2]; rfl, by rw [upd_same, List.map_append]; rfl, ?_, fun k hk => ?_⟩
    · rw [List.length_map, z2]
      exact Nat.lt_of_le_of_lt (show i ≤ 10 by omega) (by decide)
    · refine List.nodup_append.mpr ⟨z4, by simp, fun u hu v hv e => ?_⟩
      rw [List.mem_singleton.mp hv] at e
      rw [e] at hu
      have := (z5 l hu).1
      rw [hl0] at this
      cases this
    · rcases List.mem_append.mp hk with g | g
      · obtain ⟨g1, g2, g3⟩ := z5 k g
        refine ⟨?_, g2, g3⟩
        rw [upd_ne g3, upd_ne (ne_of_none g1 hl0)]
        exact g1
      · rw [List.mem_singleton.mp g]
        refine ⟨by rw [upd_ne (Ne.symm hRl)]; exact upd_same, ?_, Ne.symm hRl⟩
        exact fresh_of z1 hl0
  obtain ⟨e2, ls, hls, hRr, hnd, hll⟩ := z
  have e12 := e1.trans e2
  obtain ⟨dxl, kvl, haf, hff, hbA, hbD⟩ := id hL
  -- lines.made_of(())
  refine ⟨_, rfl, f, dxl, _, rfl, e12 _ _ haf, rfl, by show 0 ≤ sizeLine; exact Nat.zero_le _, fun t0 ht0 => ?_⟩
  have eT := Ext.upd (o := .tup []) ht0
  have e13 := e12.trans eT
  refine ⟨_, _, rfl, φ, f, fa, b, st, 0, rfl, hL.xn (.ofX e13), ⟨t0, rfl, SqT.of upd_same⟩, by decide, (fun q => by rw [hst] at q; cases q), fun z' hz' H3 d e3 hd hdV => ?_⟩
  rw [hst] at hz'
  cases hz'
  obtain ⟨kvm, ⟨xsE, ek, hdd, ko⟩, hV⟩ := hdV
  subst ek
  refine ⟨d, DO P w d xsE, rfl, hdd, True.intro, fun od => ⟨d, od, xsE, rfl, upd_same, ?_⟩⟩
  have e03 := e13.trans e3
  have hd0 : H d = none := fresh_of e13 hd
  obtain ⟨HB, hHB⟩ : ∃ HB, HB = upd H3 d (.frz od (DO P w d xsE)) := ⟨_, rfl⟩
  have tpF : Tups H3 HB := by rw [hHB]; exact Tups.upd (noTup_do hdd)
  have eB : Ext H HB := by rw [hHB]; exact e03.wr hd0
  have hVB := hV.tp tpF
  have koB := ko.mono tpF
  have hBd : HB d = some (.frz od (DO P w d xsE)) := by rw [hHB]; exact upd_same
  have nRd : R ≠ d := fun z => by
    rw [← z] at hd
    have := eT _ _ hRr
    rw [hd] at this
    cases this
  have lsB : ∀ l ∈ ls, HB l = some (.lst []) ∧ H l = none ∧ l ≠ d ∧ l ≠ R := fun l hl9 => by
    obtain ⟨g1, g2, g3⟩ := hll l hl9
    have g4 := eT _ _ g1
    have nd : l ≠ d := fun z => by rw [z, hd] at g4; cases g4
    refine ⟨by rw [hHB, upd_ne nd]; exact e3 _ _ g4, fresh_of e1 g2, nd, g3⟩
  have hRB : HB R = some (.lst (ls.map V.ref)) := by
    rw [hHB, upd_ne nRd]
    exact e3 _ _ (eT _ _ hRr)
  rw [← hHB]
  have hkn : (xsE.map (·.1)).Nodup := by
    have := hV.nodup
    rwa [kvE_keys] at this
  refine for_it walk_xitems (fun i σ H' => Ext H H' ∧ Tups HB H' ∧ H' d = some (.frz od (DO P w d xsE)) ∧ H' R = some (.lst (ls.map V.ref)) ∧ (∃ tss, RowsL K φ H' ls tss ∧ ∀ n ts, tss[n]? = some ts → (ts.map (·.1)).Nodup ∧ ∀ t ∈ ts, Small φ t.2 ∧ t.1 < 8 ∧ nkM (8 * n + t.1) ∈ (xsE.take i).map (·.1)) ∧ ∃ o1 o2 o3 o4, σ = [some (.ref a), some (.ref f), some (.ref R), o1, o2, o3, o4]) ?_ (fun i σ H' _ z => z.2.2.1) (fun i y σ H4 H5 hi z yy => ?_) fun σ H4 z => ?_
  · refine ⟨eB, ⟨fun _ _ h => h, fun _ _ _ h => h⟩, hBd, hRB, ⟨ls.map fun _ => [], paired_mapg fun l hl9 => ⟨[], (lsB l hl9).1, .nil⟩, fun n ts hts => ?_⟩, _, _, _, _, rfl⟩
    rw [List.getElem?_map] at hts
    obtain ⟨l, _, rfl⟩ := Option.map_eq_some_iff.mp hts
    exact ⟨List.nodup_nil, (fun _ z => nomatch z)⟩
  · obtain ⟨e4, tp4, h4d, h4R, ⟨tss, hrows, htss⟩, o1, o2, o3, o4, rfl⟩ := z
    obtain ⟨Tt, k, ka, yv, ei, rfl, hT, rfl⟩ := yy
    obtain ⟨m, xm, hm80, rfl, ecm, nv, kvv⟩ := ent_at hVB koB ei
    have hxm : xm = pz.2 m ∧ pz.2 m ≠ 0 := by
      unfold nz at ecm
      split at ecm
      · cases ecm
      · rename_i q
        exact ⟨(Option.some.inj ecm).symm, q⟩
    obtain ⟨rfl, hmne⟩ := hxm
    have hml : m / 8 < ls.length := by
      rw [hls, hvl]
      exact hin m hm80 hmne
    obtain ⟨l, hl8⟩ : ∃ l, ls[m / 8]? = some l := ⟨_, List.getElem?_eq_getElem hml⟩
    have hlm := List.mem_of_getElem? hl8
    obtain ⟨_, hlH, hld, hlR⟩ := lsB l hlm
    obtain ⟨ts, hts, ⟨xs, hxs, hterm⟩⟩ := paired_at hrows hl8
    obtain ⟨hnt, htt⟩ := htss _ _ hts
    have eT4 := Ext.upd (o := .tup [.ref ka, yv]) hT
    have tp5 := tp4.trans (.ofX eT4)
    obtain ⟨ma, pv, ema, hmk, hpv⟩ := (MarkV.of_key kvv).tp tp5
    cases ema
    have h5l := eT4 _ _ hxs
    have h5R := eT4 _ _ h4R
    have h5d := eT4 _ _ h4d
    have tk : (xsE.take (i + 1)).map (·.1) = (xsE.take i).map (·.1) ++ [nkM m] := by
      have : xsE.take (i + 1) = xsE.take i ++ [(nkM m, ka, yv)] := by rw [List.take_add_one, ei]; rfl
      rw [this, List.map_append]
      rfl
    have e8 : 8 * (m / 8) + m % 8 = m := by omega
    refine ⟨Tt, _, rfl, SqT.of upd_same, rfl, _, _, rfl, _, _, rfl, rfl, ?_⟩
    refine ⟨_, rfl, _, rfl, ka, _, _, _, rfl, rfl, hmk, atI_nat (j := 0) rfl, R, ls.map V.ref, ((m / 8 : Nat) : Int), .ref l, rfl, rfl, SqL.of h5R, atI_nat (by rw [List.getElem?_map, hl8]; rfl), .inl ⟨rfl, _, SqL.of h5l⟩, ?_⟩
    refine ⟨_, rfl, ka, _, _, _, rfl, rfl, hmk, atI_nat (j := 1) rfl, _, rfl, by show 2 ≤ sizeLine; decide, fun r hr9 => ?_⟩
    have hlr : l ≠ r := ne_of_none h5l hr9
    have hRr' : R ≠ r := ne_of_none h5R hr9
    have hdr : d ≠ r := ne_of_none h5d hr9
    have eR := Ext.upd (o := .tup [pv, yv]) hr9
    have tpR := Tups.ofX eR
    have h6l := eR _ _ h5l
    have tpW := Tups.upd (o := .lst (xs ++ [.ref r])) (lst_noTup h6l)
    have hx8 := rows_le hterm hnt
    have hxl : xs.length = ts.length := Paired.length hterm
    have tp46 := ((Tups.ofX eT4).trans tpR).trans tpW
    refine ⟨l, xs, .ref r, rfl, rfl, h6l, Nat.lt_of_le_of_lt (show xs.length ≤ 8 by omega) (by decide), ((e4.trans eT4).trans eR).wr hlH, (tp5.trans tpR).trans tpW, by rw [upd_ne (Ne.symm hld)]; exact eR _ _ h5d, by rw [upd_ne (Ne.symm hlR)]; exact eR _ _ h5R, ⟨tss.set (m / 8) (ts ++ [(m % 8, pz.2 m)]), ?_, fun n ts' hts' => ?_⟩, _, _, _, _, rfl⟩
    · refine paired_set hrows hl8 hnd (fun l' hl' hne' us ⟨ys, g1, g2⟩ => ⟨ys, by rw [upd_ne hne']; exact eR _ _ (eT4 _ _ g1), paired_tp g2 tp46⟩) ⟨_, upd_same, paired_append (paired_tp hterm tp46) (.cons ⟨r, pv, yv, rfl, tpW.sqt (SqT.of upd_same), Nat.mod_lt _ (by decide), (hpv.tp tpR).tp tpW, ((nv.tp tp5).tp tpR).tp tpW⟩ .nil)⟩
    · rw [List.getElem?_set] at hts'
      by_cases en : m / 8 = n
      · rw [if_pos en] at hts'
        have hln : m / 8 < tss.length := (List.getElem?_eq_some_iff.mp hts).1
        rw [if_pos (by omega)] at hts'
        cases hts'
        subst en
        refine ⟨?_, fun t ht => ?_⟩
        · rw [List.map_append]
          refine List.nodup_append.mpr ⟨hnt, by simp, fun u hu v hv e => ?_⟩
          obtain ⟨t1, m1, rfl⟩ := List.mem_map.mp hu
          have hv2 : v = m % 8 := by simpa using hv
          have g := (htt t1 m1).2.2
          rw [e, hv2, e8] at g
          exact keys_fresh hkn ei g
        · rw [tk]
          rcases List.mem_append.mp ht with g | g
          · obtain ⟨g1, g2, g3⟩ := htt t g
            exact ⟨g1, g2, List.mem_append_left _ g3⟩
          · rw [List.mem_singleton.mp g]
            refine ⟨hsm m hm80, Nat.mod_lt _ (by decide), List.mem_append_right _ ?_⟩
            show nkM (8 * (m / 8) + m % 8) ∈ _
            rw [e8]
            exact List.mem_singleton.mpr rfl
      · rw [if_neg en] at hts'
        obtain ⟨g1, g2⟩ := htss n ts' hts'
        refine ⟨g1, fun t ht => ?_⟩
        obtain ⟨q1, q2, q3⟩ := g2 t ht
        rw [tk]
        exact ⟨q1, q2, List.mem_append_left _ q3⟩
  · obtain ⟨e4, tp4, h4d, h4R, ⟨tss, hrows, htss⟩, o1, o2, o3, o4, rfl⟩ := z
    refine ⟨_, rfl, R, rfl, ⟨_, SqL.of h4R⟩, fun D hD => ?_⟩
    have hD4 : H D = none := fresh_of e4 hD
    refine lc_list (K := K) (xs := ls.map V.ref) (fun i H' => XN H4 H' ∧ TabsK K H' ∧ ∃ acc, H' D = some (.lst acc) ∧ acc.length = i) ⟨.ofX (Ext.upd hD), (hTb.x e4).x (Ext.upd hD), [], upd_same, rfl⟩ (fun i H' _ z => SqL.of (z.1 _ _ h4R (fun _ z => by cases z))) (fun i x H5 hx1 z => ?_) fun H5 z => ?_
    · obtain ⟨x5, t5, acc, hac, hal⟩ := z
      rw [List.getElem?_map] at hx1
      obtain ⟨l, hl8, rfl⟩ := Option.map_eq_some_iff.mp hx1
      obtain ⟨ts, hts, ⟨xs, hxs, hterm⟩⟩ := paired_at hrows hl8
      obtain ⟨hnt, htt⟩ := htss _ _ hts
      have hi : i < ls.length := (List.getElem?_eq_some_iff.mp hl8).1
      have x45 : XN H H5 := (XN.ofX e4).trans x5
      refine ⟨rfl, t_yes ⟨_, rfl, a, dx, _, rfl, x45 _ _ ha (fun _ z => by cases z), rfl, _, rfl, φ, a, p, cs, rfl, hS.xn x45, fun fa' hfa' => ⟨_, rfl, ?_⟩⟩⟩
      intro bb dy hbb hdy hne
      have eN : Ext H5 (upd (upd H5 dy (.own bb)) bb (.ins (He.ga K "Sum") dy [])) := (Ext.upd hdy).upd' (by rw [upd_ne (Ne.symm hne)]; exact hbb)
      have xN := x5.trans (XN.ofX eN)
      refine ⟨_, _, _, rfl, φ, ts, bb, dy, fa', l, rfl, rfl, rfl, upd_same, hfa'.ext eN, ⟨xs, SqL.of (xN _ _ hxs (fun _ z => by cases z)), paired_xn hterm xN⟩, t5.x eN, fun t ht => (htt t ht).1, coef_sm hnt fun t ht => (htt t ht).1, fun H9 pl x9 t9 n9 s9 => ⟨rfl, ?_⟩⟩
      have x59 : XN H5 H9 := fun q u hq nt => x9 q u (fun z => by rw [z, hbb] at hq; cases hq) (eN _ _ hq) nt
      have hac9 := x59 _ _ hac (fun _ z => by cases z)
      refine ⟨acc, hac9, ?_, XN.wr (x5.trans x59) (.of hD), t9.wr hac9 (fun _ z => by cases z) lst_no_code, acc ++ [.ref bb], upd_same, by rw [List.length_append, hal]; rfl⟩
      rw [hal]
      rw [hls, hvl] at hi
      exact Nat.lt_of_le_of_lt (show i ≤ 10 by omega) (by decide)
    · obtain ⟨x5, t5, acc, hac, hal⟩ := z
      exact hQ H5 D ((XN.ofX e4).trans x5) t5
theorem c_showing_by (T : Tx K mg) (TB : LamX.TabB base mg (He.cT K ("gathered", none)).1 (He.cT K ("gathered", none)).2) : C8.Cal P w K mg base 7 "showing_by" (S2 (k_showing_by P w K)) [] := cal_of T.F_showing_by T.m_showing_by sc_showing_by (fun _ _ _ _ _ _ us hl => match us, hl with | [_, _], _ => rfl) len2 (b_showing_by T TB)
end
end FS
set_option Elab.async false
set_option linter.all false
set_option maxRecDepth 100000
set_option maxHeartbeats 4000000
namespace FS
open PySem PySem.Spec PyProof.Rows L2
/-- the lines at a degree -/
def stM {φ : Fd} (p d : Nat) (cs : List (Nat → φ.car)) : LSt φ := runM cs (pairsM p d cs)
/-- what told needs at a degree -/
structure ToldOk (φ : Fd) (p d : Nat) (cs : List (Nat → φ.car)) : Prop where
  lin : LinOk φ cs (pairsM p d cs)
  show_ : ∀ z, stM p d cs 0 = some z → (∀ m, m < 80 → Small φ (z.2 m)) ∧ ∀ m, m < 80 → z.2 m ≠ 0 → m / 8 < cs.length
  nou : stM p d cs 0 = none → ∃ f, NouOk φ (stM p d cs) (prodsM p (min d p)) f
def wordM {φ : Fd} (p d : Nat) (cs : List (Nat → φ.car)) : PySem.Str := if (stM p d cs 0).isSome then "showing" else "worths"
section
variable {P : Program} {w : World} {K : PySem.W.Frag} {mg : PySem.Str → Option Value} {base : Heap}
def k_told (K : PySem.W.Frag) : K2 := fun x y H Q => ∃ (φ : Fd) (a : Addr) (p : Nat) (cs : List (Nat → φ.car)) (d : Nat), x = .ref a ∧ y = .int d ∧ d ≤ 300 ∧ SysAt K φ H a p cs ∧ p < 4 ∧ cs.length ≤ 10 ∧ (∀ c ∈ cs, SubSm φ c) ∧ TabsK K H ∧ ToldOk φ p d cs ∧
  ∀ H' t v, XN H H' → TabsK K H' → SqT K H' t [.str (wordM p d cs), v] → Q (.ref t) H'

abbrev N_told : List PySem.Str := ["system", "degree", "lines"]
theorem sc_told : FnScope N_told ["system", "degree"] (defScope s_told) := ⟨rfl, rfl, rfl, by decide +kernel, rfl, by decide +kernel, by decide +kernel⟩
theorem b_told (T : Tx K mg) (TB : LamX.TabB base mg (He.cT K ("gathered", none)).1 (He.cT K ("gathered", none)).2) : Body P w K mg base 7 "told" (defBody s_told) (defScope s_told) N_told (S2 (k_told K)) := fun f cdv A outer s H vs Q E hcd hr h => by
  refine ⟨_, (pss_cons (ps_expr (C8.pe_c (c_look_at_degree T) hr (by decide) rfl (pa_cons (pv 1) pa_nil))) (pss_cons (ps_expr (C8.pe_c (c_look_at_many T) hr (by decide) rfl (pa_cons (pv 0) (pa_cons (pv 1) pa_nil)))) (pss_cons (ps_set (i := 2) sc_told.nd rfl (by first | exact Or.inl rfl | exact Or.inr rfl) (C8.pe_c (c_lines_of T) hr (by decide) rfl (pa_cons (pv 0) (pa_cons (pv 1) pa_nil)))) (pss_cons (ps_if (pt_cmpR op_notN (C8.pe_mt (c_Lines_made_of T) hr (by decide) (pv 2) (pa_cons (pe_tup pa_nil) pa_nil)) pe_non (nomark _)) (pss_one (ps_ret (pe_tup (pa_cons pe_str (pa_cons (C8.pe_c (c_showing_by T TB) hr (by decide) rfl (pa_cons (pv 0) (pa_cons (pv 2) pa_nil))) pa_nil))))) pss_nil) (pss_one (ps_ret (pe_tup (pa_cons pe_str (pa_cons (C8.pe_mt (c_Lines_nought_on_all T) hr (by decide) (pv 2) (pa_cons (C8.pe_c (c_products_of T) hr (by decide) rfl (pa_cons (C8.pe_mt0 (c_System_places T) hr (by decide) (pv 0)) (pa_cons (pv 1) pa_nil))) pa_nil)) pa_nil))))))))), ?_⟩
  obtain ⟨x, y, rfl, φ, a, p, cs, d, rfl, rfl, hd, hS, hp, hlen, hsm, hTb, hok, hQ⟩ := h
  obtain ⟨dx, fa0, ln, lu, ha, _⟩ := id hS
  refine ⟨_, rfl, _, rfl, d, rfl, hd, ?_⟩
  refine ⟨_, rfl, _, rfl, _, _, rfl, φ, a, p, cs, d, rfl, rfl, hS, hp, hlen, fun H1 e1 => ?_⟩
  refine ⟨_, rfl, _, rfl, _, _, rfl, φ, a, p, cs, d, rfl, rfl, hS.xn (.ofX e1), hp, hlen, hsm, hok.lin, fun H2 f fa b e2 hL => ?_⟩
  have e12 := e1.trans e2
  obtain ⟨dxl, kvl, haf, _⟩ := id hL
  refine ⟨_, rfl, f, dxl, _, rfl, haf, rfl, by show 0 ≤ sizeLine; exact Nat.zero_le _, fun t0 ht0 => ?_⟩
  have eT := Ext.upd (o := .tup []) ht0
  refine ⟨_, _, rfl, φ, f, fa, b, stM p d cs, 0, rfl, hL.xn (.ofX eT), ⟨t0, rfl, SqT.of upd_same⟩, by decide, fun hn => ?_, fun z hz H3 dd e3 hdd hV => ?_⟩
  · have hw : wordM p d cs = "worths" := by unfold wordM; rw [hn]; rfl
    rw [hw] at hQ
    have e13 := e12.trans eT
    refine ⟨rfl, _, rfl, iteF ?_⟩
    obtain ⟨g, hg⟩ := hok.nou hn
    refine ⟨_, rfl, f, dxl, _, rfl, eT _ _ haf, rfl, ?_⟩
    refine ⟨_, rfl, a, dx, _, rfl, e13 _ _ ha, rfl, _, rfl, φ, a, p, cs, rfl, hS.xn (.ofX e13), _, rfl, _, _, rfl, p, d, rfl, rfl, hp, fun H4 q e4 hq hpr => ?_⟩
    refine ⟨_, _, rfl, φ, f, fa, b, q, stM p d cs, _, g, rfl, rfl, hL.xn (.ofX (eT.trans e4)), hpr, hg, fun H5 dd e5 => ?_⟩
    refine ⟨by show 2 ≤ sizeLine; decide, fun t ht => hQ _ t _ (.ofX (((e13.trans e4).trans e5).trans (Ext.upd ht))) (hTb.x (((e13.trans e4).trans e5).trans (Ext.upd ht))) (SqT.of upd_same)⟩
  · have hw : wordM p d cs = "showing" := by unfold wordM; rw [hz]; rfl
    rw [hw] at hQ
    have e13 := (e12.trans eT).trans e3
    obtain ⟨s1, s2⟩ := hok.show_ z hz
    refine ⟨rfl, _, rfl, iteT ?_⟩
    refine ⟨_, rfl, _, rfl, _, _, rfl, φ, a, f, fa, b, p, cs, stM p d cs, z, rfl, rfl, hS.xn (.ofX e13), hL.xn (.ofX (eT.trans e3)), hz, s1, s2, hlen, hTb.x e13, fun H4 l x4 t4 => ?_⟩
    refine ⟨by show 2 ≤ sizeLine; decide, fun t ht => hQ _ t _ (((XN.ofX e13).trans x4).trans (XN.ofX (Ext.upd ht))) (t4.x (Ext.upd ht)) (SqT.of upd_same)⟩
theorem c_told (T : Tx K mg) (TB : LamX.TabB base mg (He.cT K ("gathered", none)).1 (He.cT K ("gathered", none)).2) : C8.Cal P w K mg base 8 "told" (S2 (k_told K)) [] := cal_of T.F_told T.m_told sc_told (fun _ _ _ _ _ _ us hl => match us, hl with | [_, _], _ => rfl) len2 (b_told T TB)

def fillD (f : List Int) : PyData := .tuple (f.map .int)
theorem lay_ints : ∀ ns : List Int, PyData.canLayAll0 (ns.map .int) = true
  | [] => rfl
  | n :: ns => by
    show (PyData.canLay0 (.int n) && PyData.canLayAll0 (ns.map .int)) = true
    rw [lay_ints ns]
    rfl
theorem dep_ints : ∀ ns : List Int, PyData.depthAll (ns.map .int) = 0
  | [] => rfl
  | n :: ns => by
    show max (PyData.depth (.int n)) (PyData.depthAll (ns.map .int)) = 0
    rw [dep_ints ns]
    rfl
theorem lay_fills : ∀ fs : List (List Int), PyData.canLayAll0 (fs.map fillD) = true
  | [] => rfl
  | f :: fs => by
    show (PyData.canLayAll0 (f.map .int) && PyData.canLayAll0 (fs.map fillD)) = true
    rw [lay_ints f, lay_fills fs]
    rfl
theorem dep_fills : ∀ fs : List (List Int), PyData.depthAll (fs.map fillD) ≤ 1
  | [] => by decide
  | f :: fs => by
    show max (PyData.depth (fillD f)) (PyData.depthAll (fs.map fillD)) ≤ 1
    have h1 : PyData.depth (fillD f) = PyData.depthAll (f.map .int) + 1 := rfl
    have := dep_fills fs
    rw [h1, dep_ints f]
    omega
theorem shaped_fills (fs : List (List Int)) : SeqAt.shaped (.list (fs.map fillD)) = true := by
  unfold SeqAt.shaped
  refine Bool.and_eq_true_iff.mpr ⟨lay_fills fs, decide_eq_true ?_⟩
  have h1 : PyData.depth (.list (fs.map fillD)) = PyData.depthAll (fs.map fillD) + 1 := rfl
  have := dep_fills fs
  omega
theorem dpAll_fills {H : Hp} {vs : List V} {fs : List (List Int)} (h : Paired (FillV K H) vs fs) : DpAll K H vs (fs.map fillD) := by
  induction h with
  | nil => exact .nil
  | cons r _ ih =>
    obtain ⟨a, rfl, s⟩ := r
    exact .cons (.tup s (dpAll_ints _)) ih
theorem eqv_emp (ds : List PyData) : PyData.eqv (.list ds) (.list []) = ds.isEmpty := by
  cases ds <;> simp [PyData.eqv, PyData.eqvAll]
def k_least (K : PySem.W.Frag) : K1 := fun x H Q => ∃ (φ : Fd) (a : Addr) (p : Nat) (cs : List (Nat → φ.car)) (D : Nat), x = .ref a ∧ SysAt K φ H a p cs ∧ p < 4 ∧ cs.length ≤ 10 ∧ (∀ c ∈ cs, Within p c ∧ SubSm φ c) ∧ TabsK K H ∧
  ((rowsM p).filter (grantsM cs) = [] → D ≤ 300 ∧ (∀ d, d ≤ D → ToldOk φ p d cs) ∧ (∀ d, d < D → wordM p d cs = "worths") ∧ wordM p D cs = "showing") ∧
  (∀ f0 fs H' t v, (rowsM p).filter (grantsM cs) = f0 :: fs → XN H H' → TabsK K H' → FillV K H' v f0 → SqT K H' t [.str "filled", v] → Q (.ref t) H') ∧
  ∀ H' t v1 v2, (rowsM p).filter (grantsM cs) = [] → XN H H' → TabsK K H' → SqT K H' t [.str "least", .int D, v1, v2] → Q (.ref t) H'

abbrev N_least : List PySem.Str := ["system", "found", "degree", "worths", "word", "paper"]
theorem sc_least : FnScope N_least ["system"] (defScope s_least) := ⟨rfl, rfl, rfl, by decide +kernel, rfl, by decide +kernel, by decide +kernel⟩
theorem b_least (T : Tx K mg) (TB : LamX.TabB base mg (He.cT K ("gathered", none)).1 (He.cT K ("gathered", none)).2) : Body P w K mg base 8 "least" (defBody s_least) (defScope s_least) N_least (S1 (k_least K)) := fun f cdv A outer s H vs Q E hcd hr h => by
  refine ⟨_, (pss_cons (ps_if (pt_cmpR op_gt (C8.pe_mt0 (c_System_places T) hr (by decide) (pv 0)) (C8.pe_gc rfl T.i_MOST_PLACES_leasts) (nomark _)) (pss_one ps_never) pss_nil) (pss_cons (ps_set (i := 1) sc_least.nd rfl (by first | exact Or.inl rfl | exact Or.inr rfl) (C8.pe_c (c_fillings1 T) hr (by decide) rfl (pa_cons (pv 0) pa_nil))) (pss_cons (ps_if (pt_cmpR (op_neD (hu64 hr)) (pv 1) (pe_lst pa_nil) (nomark _)) (pss_one (ps_ret (pe_tup (pa_cons pe_str (pa_cons (pe_ix ix_list (pv 1) pe_int (fun _ _ => rfl)) pa_nil))))) pss_nil) (pss_cons (ps_set (i := 2) sc_least.nd rfl (by first | exact Or.inl rfl | exact Or.inr rfl) pe_int) (pss_cons (ps_set (i := 3) sc_least.nd rfl (by first | exact Or.inl rfl | exact Or.inr rfl) pe_non) (pss_cons (ps_asg (C8.pe_c (c_told T TB) hr (by decide) rfl (pa_cons (pv 0) (pa_cons (pv 2) pa_nil))) (pg_tup rfl (pgs_cons (pg_name (i := 4) sc_least.nd rfl (by first | exact Or.inl rfl | exact Or.inr rfl)) (pgs_cons (pg_name (i := 5) sc_least.nd rfl (by first | exact Or.inl rfl | exact Or.inr rfl)) pgs_nil)))) (pss_cons (ps_while PassesOwn.never (pt_cmpR op_eq (pv 4) pe_str (nomark _)) (pss_cons (ps_set (i := 3) sc_least.nd rfl (by first | exact Or.inl rfl | exact Or.inr rfl) (pv 5)) (pss_cons (ps_aug (i := 2) sc_least.nd rfl (by first | exact Or.inl rfl | exact Or.inr rfl) pe_int ip_add) (pss_one (ps_asg (C8.pe_c (c_told T TB) hr (by decide) rfl (pa_cons (pv 0) (pa_cons (pv 2) pa_nil))) (pg_tup rfl (pgs_cons (pg_name (i := 4) sc_least.nd rfl (by first | exact Or.inl rfl | exact Or.inr rfl)) (pgs_cons (pg_name (i := 5) sc_least.nd rfl (by first | exact Or.inl rfl | exact Or.inr rfl)) pgs_nil)))))))) (pss_one (ps_ret (pe_tup (pa_cons pe_str (pa_cons (pv 2) (pa_cons (pv 5) (pa_cons (pv 3) pa_nil)))))))))))))), ?_⟩
  obtain ⟨x, rfl, φ, a, p, cs, D, rfl, hS, hp, hlen, hw, hTb, hD, hQ1, hQ2⟩ := h
  obtain ⟨dx, fa0, ln, lu, ha, _⟩ := id hS
  refine ⟨_, rfl, a, dx, _, rfl, ha, rfl, _, rfl, φ, a, p, cs, rfl, hS, _, _, rfl, rfl, _, rfl, ?_⟩
  rw [decide_eq_false (show ¬ ((12 : Int) < (p : Int)) by omega)]
  refine iteF ?_
  refine ⟨_, rfl, _, _, rfl, φ, a, p, cs, rfl, rfl, hS, hp, hlen, hw, fun H1 q e1 hq ⟨vs, hl, hpd⟩ => ?_⟩
  refine ⟨_, rfl, by show 0 ≤ sizeLine; exact Nat.zero_le _, fun l0 hl0 => ?_⟩
  have e0 := Ext.upd (o := .lst []) hl0
  have hpd0 : Paired (FillV K (upd H1 l0 (.lst []))) vs ((rowsM p).filter (grantsM cs)) := Paired.mapP hpd fun _ _ q => q.xn (.ofX e0)
  refine ⟨.list (((rowsM p).filter (grantsM cs)).map fillD), .list [], .lst (SqL.of (e0 _ _ hl)) (dpAll_fills hpd0), .lst (SqL.of upd_same) .nil, shaped_fills _, rfl, _, rfl, ?_⟩
  rw [eqv_emp]
  have e01 := e1.trans e0
  cases hfs : (rowsM p).filter (grantsM cs) with
  | cons f0 fs =>
    rw [hfs] at hpd0
    cases hpd0 with
    | @cons v0 _ vs' _ r _ =>
      refine iteT ⟨_, rfl, q, _, _, _, rfl, rfl, SqL.of (e0 _ _ hl), atI_nat (j := 0) rfl, by show 2 ≤ sizeLine; decide, fun t ht => ?_⟩
      exact hQ1 f0 fs _ t v0 hfs (.ofX (e01.trans (Ext.upd ht))) (hTb.x (e01.trans (Ext.upd ht))) (r.xn (.ofX (Ext.upd ht))) (SqT.of upd_same)
  | nil =>
    obtain ⟨hD3, hok, hlt, hDs⟩ := hD hfs
    refine iteF ?_
    refine ⟨_, rfl, _, rfl, _, _, rfl, φ, a, p, cs, 0, rfl, rfl, by omega, hS.xn (.ofX e01), hp, hlen, fun c hc => (hw c hc).2, hTb.x e01, hok 0 (Nat.zero_le _), fun H2 t v x2 t2 ht => ?_⟩
    refine ⟨t, _, rfl, ht, rfl, _, _, rfl, _, _, rfl, rfl, ?_⟩
    refine ⟨fun n σ H' => XN H H' ∧ TabsK K H' ∧ ∃ d : Nat, d ≤ D ∧ n = D - d ∧ ∃ wv pv, σ = [some (.ref a), some (.ref q), some (.int d), some wv, some (.str (wordM p d cs)), some pv], ⟨D, (XN.ofX e01).trans x2, t2, 0, Nat.zero_le _, by omega, _, _, rfl⟩, fun n σ G wi => ?_⟩
    obtain ⟨xG, tG, d, hdD, hn, wv, pv, rfl⟩ := wi
    refine ⟨_, rfl, rfl, _, rfl, ?_⟩
    by_cases hd : d < D
    · rw [decide_eq_true (show V.str (wordM p d cs) = V.str "worths" by rw [hlt d hd])]
      refine iteT ⟨fun σ' G' => XN H G' ∧ TabsK K G' ∧ ∃ wv pv, σ' = [some (.ref a), some (.ref q), some (.int ((d + 1 : Nat) : Int)), some wv, some (.str (wordM p (d + 1) cs)), some pv], fun σ' G' ⟨g1, g2, g3⟩ => ⟨D - (d + 1), by omega, g1, g2, d + 1, by omega, rfl, g3⟩, ?_⟩
      refine ⟨_, rfl, _, rfl, _, _, rfl, rfl, ?_⟩
      have ed : ((d : Nat) : Int) + 1 = ((d + 1 : Nat) : Int) := by omega
      refine ⟨_, rfl, _, rfl, _, _, rfl, φ, a, p, cs, d + 1, rfl, congrArg V.int ed, by omega, hS.xn xG, hp, hlen, fun c hc => (hw c hc).2, tG, hok (d + 1) (by omega), fun H3 t v x3 t3 ht => ?_⟩
      refine ⟨t, _, rfl, ht, rfl, _, _, rfl, _, _, rfl, rfl, xG.trans x3, t3, pv, v, ?_⟩
      show [some (.ref a), some (.ref q), some (.int (((d : Nat) : Int) + 1)), some pv, some (.str (wordM p (d + 1) cs)), some v] = _
      rw [ed]
    · have hdD' : d = D := by omega
      subst hdD'
      rw [decide_eq_false (show ¬ V.str (wordM p d cs) = V.str "worths" by rw [hDs]; decide)]
      refine iteF ⟨_, rfl, _, rfl, _, rfl, by show 4 ≤ sizeLine; decide, fun t ht => ?_⟩
      exact hQ2 _ t pv wv hfs (xG.trans (XN.ofX (Ext.upd ht))) (tG.x (Ext.upd ht)) (SqT.of upd_same)
theorem c_least (T : Tx K mg) (TB : LamX.TabB base mg (He.cT K ("gathered", none)).1 (He.cT K ("gathered", none)).2) : C8.Cal P w K mg base 9 "least" (S1 (k_least K)) [] := cal_of T.F_least T.m_least sc_least (fun _ _ _ _ _ _ us hl => match us, hl with | [_], _ => rfl) len1 (b_least T TB)
end
end FS
set_option Elab.async false
set_option linter.all false
set_option maxRecDepth 100000
set_option maxHeartbeats 4000000
namespace FS
open PySem PySem.Spec PyProof.Rows L2
section
variable {P : Program} {w : World} {K : PySem.W.Frag} {mg : PySem.Str → Option Value} {base : Heap}
/-- the pool: a cell and a seed -/
def PoolAt (H : Hp) (q : Addr) : Prop := ∃ c s : Int, H q = some (.lst [.int c, .int s]) ∧ 0 ≤ c ∧ 0 ≤ s ∧ s < 2 ^ 40
theorem fm_bd (a : Int) {b : Int} (hb : 0 < b) : 0 ≤ a.fmod b ∧ a.fmod b < b := ⟨Int.fmod_nonneg_of_pos a hb, Int.fmod_lt_of_pos a hb⟩
theorem wide64 {i j : Int} (h1 : i.natAbs < 2 ^ 64) (h2 : j.natAbs < 2 ^ 64) : CMulW i j := wide_mul (a := 64) (b := 64) h1 h2 (by decide) (by decide) (by decide)
def k_law_pool (K : PySem.W.Frag) : K2 := fun x y H Q => ∃ (l : Addr) (ns : List Int) (k : Nat), x = .ref l ∧ y = .int k ∧ SqL K H l (ns.map V.int) ∧ k < 4 ∧ ∀ H' q, Ext H H' → H q = none → PoolAt H' q → Q (.ref q) H'

abbrev N_law_pool : List PySem.Str := ["_law_script", "_law_k", "_law_cell", "_law_seed"]
theorem sc_law_pool : FnScope N_law_pool ["_law_script", "_law_k"] (defScope s_law_pool) := ⟨rfl, rfl, rfl, by decide +kernel, rfl, by decide +kernel, by decide +kernel⟩
theorem b_law_pool (T : Tx K mg) : Body P w K mg base 0 "_law_pool" (defBody s_law_pool) (defScope s_law_pool) N_law_pool (S2 (k_law_pool K)) := fun f cdv A outer s H vs Q E hcd hr h => by
  refine ⟨_, (pss_cons (ps_set (i := 2) sc_law_pool.nd rfl (by first | exact Or.inl rfl | exact Or.inr rfl) pe_int) (pss_cons (ps_if (pt_cmpR op_lt (pv 1) (pe_callB call_len_seq (by rfl) T.f_len PySem.boot_len (pa_cons (pv 0) pa_nil)) (nomark _)) (pss_one (ps_set (i := 2) sc_law_pool.nd rfl (by first | exact Or.inl rfl | exact Or.inr rfl) (pe_ix ix_list (pv 0) (pv 1) (fun _ _ => rfl)))) pss_nil) (pss_cons (ps_set (i := 3) sc_law_pool.nd rfl (by first | exact Or.inl rfl | exact Or.inr rfl) (pe_op op_modN (pe_op op_mulW (pe_op op_add (pe_op op_add (pe_op op_modN (pv 2) pe_int) (pe_op op_mulW (pe_op op_mulW pe_int (pv 1)) (pv 1))) pe_int) pe_int) pe_int)) (pss_cons (ps_if (pt_cmpR op_lt (pv 2) (pe_op op_pow pe_int pe_int) (nomark _)) (pss_one (ps_set (i := 2) sc_law_pool.nd rfl (by first | exact Or.inl rfl | exact Or.inr rfl) pe_int)) pss_nil) (pss_one (ps_ret (pe_lst (pa_cons (pv 2) (pa_cons (pe_op op_add (pe_op op_modN (pe_op op_mulW (pv 3) (pv 3)) pe_int) pe_int) pa_nil))))))))), ?_⟩
  obtain ⟨x, y, rfl, l, ns, k, rfl, rfl, hl, hk, hQ⟩ := h
  have fin : ∀ c : Int, (tSeq (tAsg (tOp rModN (tOp rMulW (tOp rAdd (tOp rAdd (tOp rModN (tVar 2) (tC (.int 2147483629))) (tOp rMulW (tOp rMulW (tC (.int 7919)) (tVar 1)) (tVar 1))) (tC (.int 11))) (tC (.int 48271))) (tC (.int 2147483647))) (gName 3))
      (tSeq (tIfS (tTest (tOp rLt (tVar 2) (tOp rPow (tC (.int 10)) (tC (.int 18))))) (tAsg (tC (.int 0)) (gName 2)) tNext) (tRet (tLst (tCons (tVar 2) (tCons (tOp rAdd (tOp rModN (tOp rMulW (tVar 3) (tVar 3)) (tC (.int 2147483587))) (tC (.int 1))) tNil)))))) { nx := fun _ H' => Q .non H', rt := Q } [some (.ref l), some (.int k), some (.int c), none] H := fun c => by
    obtain ⟨b1, b2⟩ := fm_bd c (b := 2147483629) (by decide)
    have hk1 : (7919 * (k : Int)) ≤ 7919 * 3 := by omega
    have hk2 : (7919 * (k : Int)) * (k : Int) ≤ 7919 * 3 * 3 := Int.mul_le_mul hk1 (by omega) (by omega) (by omega)
    have hk3 : 0 ≤ (7919 * (k : Int)) * (k : Int) := Int.mul_nonneg (by omega) (by omega)
    obtain ⟨d1, d2⟩ := fm_bd ((c.fmod 2147483629 + 7919 * (k : Int) * (k : Int) + 11) * 48271) (b := 2147483647) (by decide)
    refine ⟨_, rfl, _, _, rfl, rfl, (by show (_ : Int) ≠ 0; decide), _, rfl, _, _, rfl, rfl, wide64 (by omega) (by omega), _, rfl, _, _, rfl, rfl, wide64 (by omega) (by omega), _, _, rfl, rfl, _, _, rfl, rfl, _, _, rfl, rfl, wide64 (by show (c.fmod 2147483629 + 7919 * (k : Int) * (k : Int) + 11).natAbs < _; omega) (by omega), _, _, rfl, rfl, (by show (_ : Int) ≠ 0; decide), ?_⟩
    refine ⟨_, rfl, _, _, rfl, rfl, ⟨by decide, by decide, by decide⟩, _, _, rfl, rfl, _, rfl, ?_⟩
    have last : ∀ c' : Int, 0 ≤ c' → (tRet (tLst (tCons (tVar 2) (tCons (tOp rAdd (tOp rModN (tOp rMulW (tVar 3) (tVar 3)) (tC (.int 2147483587))) (tC (.int 1))) tNil)))) { nx := fun _ H' => Q .non H', rt := Q } [some (.ref l), some (.int k), some (.int c'), some (.int (((c.fmod 2147483629 + 7919 * (k : Int) * (k : Int) + 11) * 48271).fmod 2147483647))] H := fun c' hc' => by
      obtain ⟨g1, g2⟩ := fm_bd ((((c.fmod 2147483629 + 7919 * (k : Int) * (k : Int) + 11) * 48271).fmod 2147483647) * (((c.fmod 2147483629 + 7919 * (k : Int) * (k : Int) + 11) * 48271).fmod 2147483647)) (b := 2147483587) (by decide)
      refine ⟨_, rfl, _, rfl, _, rfl, _, _, rfl, rfl, wide64 (by omega) (by omega), _, _, rfl, rfl, (by show (_ : Int) ≠ 0; decide), _, _, rfl, rfl, by show 2 ≤ sizeLine; decide, fun q hq => hQ _ q (Ext.upd hq) hq ⟨c', _, upd_same, hc', ?_, ?_⟩⟩
      · omega
      · omega
    by_cases hc : c < 10 ^ (18 : Int).toNat
    · rw [decide_eq_true hc]
      exact iteT (last 0 (by omega))
    · rw [decide_eq_false hc]
      refine iteF (last c ?_)
      have : (0 : Int) ≤ 10 ^ (18 : Int).toNat := by decide
      omega
  refine ⟨_, rfl, _, rfl, l, _, rfl, .inl hl, _, _, rfl, rfl, _, rfl, ?_⟩
  rw [List.length_map]
  by_cases hlt : (k : Int) < (ns.length : Int)
  · rw [decide_eq_true hlt]
    refine iteT ⟨_, rfl, _, rfl, l, _, (k : Int), .int (ns.getD k 0), rfl, rfl, hl, ?_, fin _⟩
    refine atI_nat ?_
    have hkl : k < ns.length := by omega
    rw [List.getElem?_map, List.getElem?_eq_getElem hkl, List.getD_eq_getElem?_getD, List.getElem?_eq_getElem hkl]
    rfl
  · rw [decide_eq_false hlt]
    exact iteF (fin 0)
theorem c_law_pool (T : Tx K mg) : C8.Cal P w K mg base 1 "_law_pool" (S2 (k_law_pool K)) [] := cal_of T.F_law_pool T.m_law_pool sc_law_pool (fun _ _ _ _ _ _ us hl => match us, hl with | [_, _], _ => rfl) len2 (b_law_pool T)

def k_law_take (K : PySem.W.Frag) : K2 := fun x y H Q => ∃ (q : Addr) (m : Int), x = .ref q ∧ y = .int m ∧ PoolAt H q ∧ 0 < m ∧ m < 2 ^ 40 ∧ ∀ H' r, ExB q H H' → PoolAt H' q → 0 ≤ r → r < m → Q (.int r) H'

abbrev N_law_take : List PySem.Str := ["_law_pool_here", "_law_many", "_law_found"]
theorem sc_law_take : FnScope N_law_take ["_law_pool_here", "_law_many"] (defScope s_law_take) := ⟨rfl, rfl, rfl, by decide +kernel, rfl, by decide +kernel, by decide +kernel⟩
theorem b_law_take (T : Tx K mg) : Body P w K mg base 0 "_law_take" (defBody s_law_take) (defScope s_law_take) N_law_take (S2 (k_law_take K)) := fun f cdv A outer s H vs Q E hcd hr h => by
  refine ⟨_, (pss_cons (ps_if (pt_cmpR op_gt (pe_ix ix_list (pv 0) pe_int (fun _ _ => rfl)) pe_int (nomark _)) (pss_cons (ps_set (i := 2) sc_law_take.nd rfl (by first | exact Or.inl rfl | exact Or.inr rfl) (pe_op op_modN (pe_ix ix_list (pv 0) pe_int (fun _ _ => rfl)) (pv 1))) (pss_cons (ps_asg (pe_op op_fdivW (pe_ix ix_list (pv 0) pe_int (fun _ _ => rfl)) (pv 1)) (pg_sub (pv 0) pe_int set_list)) (pss_one (ps_ret (pv 2))))) pss_nil) (pss_cons (ps_asg (pe_op op_modN (pe_op op_add (pe_op op_mulW (pe_ix ix_list (pv 0) pe_int (fun _ _ => rfl)) pe_int) pe_int) pe_int) (pg_sub (pv 0) pe_int set_list)) (pss_one (ps_ret (pe_op op_modN (pe_op op_fdivW (pe_op op_modN (pe_op op_mulW (pe_ix ix_list (pv 0) pe_int (fun _ _ => rfl)) (pe_ix ix_list (pv 0) pe_int (fun _ _ => rfl))) pe_int) pe_int) (pv 1)))))), ?_⟩
  obtain ⟨x, y, rfl, q, m, rfl, rfl, ⟨c, s0, hq, hc0, hs0, hs1⟩, hm0, hm1, hQ⟩ := h
  have x0 : ∀ u, ExB q H (upd H q u) := fun u => (show ExB q H H from fun _ _ _ z => z).wr
  refine ⟨_, rfl, q, _, _, _, rfl, rfl, SqL.of hq, atI_nat (j := 0) rfl, _, _, rfl, rfl, _, rfl, ?_⟩
  by_cases hc : 0 < c
  · rw [decide_eq_true hc]
    refine iteT ⟨_, rfl, q, _, _, _, rfl, rfl, SqL.of hq, atI_nat (j := 0) rfl, _, rfl, _, _, rfl, rfl, by omega, ?_⟩
    refine ⟨_, rfl, q, _, _, _, rfl, rfl, SqL.of hq, atI_nat (j := 0) rfl, _, rfl, _, _, rfl, rfl, wide_div (b := 64) hm0 (by omega) (by decide) (by decide), _, rfl, q, _, 0, 0, rfl, rfl, hq, rfl, ?_⟩
    obtain ⟨g1, g2⟩ := fm_bd c hm0
    exact ⟨_, rfl, hQ _ _ (x0 _) ⟨c / m, s0, upd_same, Int.ediv_nonneg hc0 (by omega), hs0, hs1⟩ g1 g2⟩
  · rw [decide_eq_false hc]
    obtain ⟨g1, g2⟩ := fm_bd (s0 * 48271 + 12345) (b := 2147483647) (by decide)
    refine iteF ⟨_, rfl, q, _, _, _, rfl, rfl, SqL.of hq, atI_nat (j := 1) rfl, _, _, rfl, rfl, wide64 (by omega) (by omega), _, _, rfl, rfl, _, _, rfl, rfl, (by show (_ : Int) ≠ 0; decide), _, rfl, q, _, 1, 1, rfl, rfl, hq, rfl, ?_⟩
    obtain ⟨g3, g4⟩ := fm_bd (((s0 * 48271 + 12345).fmod 2147483647) * ((s0 * 48271 + 12345).fmod 2147483647)) (b := 2147483629) (by decide)
    obtain ⟨g5, g6⟩ := fm_bd (((((s0 * 48271 + 12345).fmod 2147483647) * ((s0 * 48271 + 12345).fmod 2147483647)).fmod 2147483629) / 64) hm0
    have h2 : upd H q (.lst ([V.int c, V.int s0].set 1 (.int ((s0 * 48271 + 12345).fmod 2147483647)))) q = some (.lst [.int c, .int ((s0 * 48271 + 12345).fmod 2147483647)]) := upd_same
    refine ⟨_, rfl, q, _, _, _, rfl, rfl, SqL.of h2, atI_nat (j := 1) rfl, _, rfl, q, _, _, _, rfl, rfl, SqL.of h2, atI_nat (j := 1) rfl, _, _, rfl, rfl, wide64 (by omega) (by omega), _, _, rfl, rfl, (by show (_ : Int) ≠ 0; decide), _, _, rfl, rfl, wide_div (b := 64) (by decide) (by decide) (by decide) (by decide), _, rfl, _, _, rfl, rfl, by omega, ?_⟩
    exact hQ _ _ (x0 _) ⟨c, _, upd_same, hc0, g1, by omega⟩ g5 g6
theorem c_law_take (T : Tx K mg) : C8.Cal P w K mg base 1 "_law_take" (S2 (k_law_take K)) [] := cal_of T.F_law_take T.m_law_take sc_law_take (fun _ _ _ _ _ _ us hl => match us, hl with | [_, _], _ => rfl) len2 (b_law_take T)

def k_law_low : K2 := fun x y H Q => ∃ t b, x = .int t ∧ y = .int b ∧ 0 < b ∧ b.natAbs < 2 ^ 9000 ∧ RetT H [.int (lowM t b).1, .int (lowM t b).2] Q

abbrev N_law_low : List PySem.Str := ["_law_top", "_law_bottom", "_law_one", "_law_other"]
theorem sc_law_low : FnScope N_law_low ["_law_top", "_law_bottom"] (defScope s_law_low) := ⟨rfl, rfl, rfl, by decide +kernel, rfl, by decide +kernel, by decide +kernel⟩
theorem b_law_low (T : Tx K mg) : Body P w K mg base 0 "_law_low" (defBody s_law_low) (defScope s_law_low) N_law_low (S2 k_law_low) := fun f cdv A outer s H vs Q E hcd hr h => by
  refine ⟨_, (pss_cons (ps_set (i := 2) sc_law_low.nd rfl (by first | exact Or.inl rfl | exact Or.inr rfl) (pe_callB call_abs (by rfl) T.f_abs (by decide +kernel) (pa_cons (pv 0) pa_nil))) (pss_cons (ps_set (i := 3) sc_law_low.nd rfl (by first | exact Or.inl rfl | exact Or.inr rfl) (pe_callB call_abs (by rfl) T.f_abs (by decide +kernel) (pa_cons (pv 1) pa_nil))) (pss_cons (ps_while PassesOwn.never (pt_cmpR op_gt (pv 3) pe_int (nomark _)) (pss_one (ps_par (i := 2) (j := 3) (by rfl) sc_law_low.nd rfl rfl (by decide) rfl rfl (pa_cons (pv 3) (pa_cons (pe_op op_modN (pv 2) (pv 3)) pa_nil)) (by rfl)))) (pss_cons (ps_if (pt_cmpR op_lt (pv 1) pe_int (nomark _)) (pss_one (ps_set (i := 2) sc_law_low.nd rfl (by first | exact Or.inl rfl | exact Or.inr rfl) (pe_op op_sub pe_int (pv 2)))) pss_nil) (pss_one (ps_ret (pe_tup (pa_cons (pe_op op_fdivW (pv 0) (pv 2)) (pa_cons (pe_op op_fdivW (pv 1) (pv 2)) pa_nil))))))))), ?_⟩
  obtain ⟨x, y, rfl, t, b, rfl, rfl, hb, zb, hQ⟩ := h
  refine ⟨_, rfl, _, rfl, ?_⟩
  rw [abs_if]
  refine ⟨_, rfl, _, rfl, ?_⟩
  rw [abs_if]
  refine while_by (fun σ H' => ∃ u v : Nat, σ = [some (.int t), some (.int b), some (.int u), some (.int v)] ∧ H' = H ∧ Nat.gcd u v = Nat.gcd t.natAbs b.natAbs) (fun σ _ => slotI σ 3) ⟨_, _, rfl, rfl, rfl⟩ (fun σ H' w0 => ?_) (fun σ H' Q1 Q2 hm hq => ?_)
  · obtain ⟨u, v, rfl, rfl, hg⟩ := w0
    refine ⟨_, rfl, _, _, rfl, rfl, _, rfl, ?_⟩
    by_cases hv : v = 0
    · subst hv
      rw [decide_eq_false (show ¬ ((0 : Int) < ((0 : Nat) : Int)) by omega)]
      refine iteF ?_
      have hgu : u = Nat.gcd t.natAbs b.natAbs := by rw [← hg, Nat.gcd_zero_right]
      have hpos : 0 < u := by
        rw [hgu]
        exact Nat.gcd_pos_of_pos_right _ (by omega)
      have hle : u ≤ b.natAbs := by
        rw [hgu]
        exact Nat.gcd_le_right _ (by omega)
      have hz : (u : Int).natAbs < 2 ^ 9000 := by
        rw [Int.natAbs_natCast]
        exact Nat.lt_of_le_of_lt hle zb
      refine ⟨_, rfl, _, _, rfl, rfl, _, rfl, ?_⟩
      rw [decide_eq_false (show ¬ (b < (0 : Int)) by omega)]
      refine iteF ⟨_, rfl, _, rfl, _, _, rfl, rfl, wide_div (by omega) hz (by decide) (by decide), _, rfl, _, rfl, _, _, rfl, rfl, wide_div (by omega) hz (by decide) (by decide), ?_⟩
      refine ⟨by show 2 ≤ sizeLine; decide, fun p hp => hQ _ p (Ext.upd hp) hp ?_⟩
      rw [upd_same]
      have e1 : (u : Int) = (Int.gcd b t : Int) := by
        rw [hgu, Nat.gcd_comm]
        rfl
      have e2 : b.sign = 1 := Int.sign_eq_one_of_pos hb
      have e3 : b / (Int.gcd b t : Int) = ((b.natAbs / Int.gcd b t : Nat) : Int) := by
        have : b = (b.natAbs : Int) := by omega
        rw [Int.natCast_ediv, ← this]
      show some (HO.tup [V.int (t / (u : Int)), V.int (b / (u : Int))]) = _
      unfold lowM
      rw [e1, e2, Int.one_mul, e3]
    · rw [decide_eq_true (show ((0 : Int) < ((v : Nat) : Int)) by omega)]
      refine iteT ?_
      refine ⟨_, rfl, _, rfl, _, rfl, _, _, rfl, rfl, by omega, _, _, rfl, ⟨v, u % v, ?_, rfl, ?_⟩, ?_⟩
      · exact congrArg (fun z => [some (V.int t), some (V.int b), some (V.int ↑v), some (V.int z)]) (fmod_nat u v)
      · rw [← hg, Nat.gcd_comm v, ← Nat.gcd_rec, Nat.gcd_comm]
      · show ((u : Int).fmod (v : Int)).natAbs < (v : Int).natAbs
        rw [fmod_nat, Int.natAbs_natCast, Int.natAbs_natCast]
        exact Nat.mod_lt _ (by omega)
  · obtain ⟨v0, e1, i, j, e2, e3, k, e4, q⟩ := hq
    exact ⟨v0, e1, i, j, e2, e3, k, e4, hm _ _ q⟩
theorem c_law_low (T : Tx K mg) : C8.Cal P w K mg base 1 "_law_low" (S2 k_law_low) [] := cal_of T.F_law_low T.m_law_low sc_law_low (fun _ _ _ _ _ _ us hl => match us, hl with | [_, _], _ => rfl) len2 (b_law_low T)
end
end FS
set_option Elab.async false
set_option linter.all false
set_option maxRecDepth 100000
set_option maxHeartbeats 4000000
namespace FS
open PySem PySem.Spec PyProof.Rows L2
section
variable {P : Program} {w : World} {K : PySem.W.Frag} {mg : PySem.Str → Option Value} {base : Heap}
def k_law_made : K3 := fun x y z H Q => ∃ p t b, x = .int p ∧ y = .int t ∧ z = .int b ∧ (p = 0 ∨ p ∈ primes) ∧ Good p b ∧ 0 < b ∧ b.natAbs < 2 ^ 9000 ∧ t.natAbs < 2 ^ 20000 ∧ RetT H [.int (madeM p t b).1, .int (madeM p t b).2] Q
theorem inv_mod (p b : Int) (n : Nat) : invL p b n = invL p (b % p) n := by
  unfold invL
  congr 1
  funext k
  have : b * k % p = b % p * k % p := by rw [Int.mul_emod b k p, Int.mul_emod (b % p) k p, Int.emod_emod_of_dvd b (Int.dvd_refl p)]
  rw [this]

abbrev N_law_made : List PySem.Str := ["_law_prime_here", "_law_top", "_law_bottom", "_law_back", "_law_k"]
theorem sc_law_made : FnScope N_law_made ["_law_prime_here", "_law_top", "_law_bottom"] (defScope s_law_made) := ⟨rfl, rfl, rfl, by decide +kernel, rfl, by decide +kernel, by decide +kernel⟩
theorem b_law_made (T : Tx K mg) : Body P w K mg base 1 "_law_made" (defBody s_law_made) (defScope s_law_made) N_law_made (S3 k_law_made) := fun f cdv A outer s H vs Q E hcd hr h => by
  refine ⟨_, (pss_cons (ps_if (pt_cmpR op_eq (pv 0) pe_int (nomark _)) (pss_one (ps_ret (C8.pe_c (c_law_low T) hr (by decide) rfl (pa_cons (pv 1) (pa_cons (pv 2) pa_nil))))) pss_nil) (pss_cons (ps_set (i := 3) sc_law_made.nd rfl (by first | exact Or.inl rfl | exact Or.inr rfl) (pe_ix ix_list (pe_lc (own := [("_law_k", 4)]) (g := (gName 4)) (tt := (tTest (tOp rEq (tOp rModN (tOp rMulW (tVar 2) (tVar 4)) (tVar 0)) (tC (.int 1))))) (te := (tVar 4)) rfl sc_law_made.nd (pi_range2 rfl T.f_range (pa_cons pe_int (pa_cons (pv 0) pa_nil))) (blkOk_by (N := N_law_made) (sc := defScope s_law_made) (by decide +kernel)) (fun _ _ _ _ _ => (pg_name (i := 4) sc_law_made.nd rfl (by first | exact Or.inl rfl | exact Or.inr rfl))) (fun _ _ _ _ _ => (pts_one (pt_cmpR op_eq (pe_op op_modN (pe_op op_mulW (pv 2) (pv 4)) (pv 0)) pe_int (nomark _)))) (fun _ _ _ _ _ => (pv 4))) pe_int (fun _ _ => rfl))) (pss_one (ps_ret (pe_tup (pa_cons (pe_op op_modN (pe_op op_mulW (pv 1) (pv 3)) (pv 0)) (pa_cons pe_int pa_nil))))))), ?_⟩
  obtain ⟨x, y, z, rfl, p, t, b, rfl, rfl, rfl, hp, hg, hb0, zb, zt, hQ⟩ := h
  refine ⟨_, rfl, rfl, _, rfl, ?_⟩
  by_cases h0 : p = 0
  · subst h0
    rw [decide_eq_true rfl]
    refine iteT ?_
    exact ⟨_, rfl, _, rfl, _, _, rfl, t, b, rfl, rfl, hb0, zb, hQ⟩
  · have hpp : p ∈ primes := hp.resolve_left h0
    have hb := primes_bd hpp
    have e : decide (V.int p = V.int 0) = false := decide_eq_false fun q => h0 (V.int.inj q)
    rw [e]
    refine iteF ?_
    have nz := goodp h0 hg
    have c0 : 0 < b % p := by
      have := Int.emod_nonneg b h0
      omega
    have c1 : b % p < p := Int.emod_lt_of_pos b (by omega)
    obtain ⟨l, hl, k1, k2⟩ := inv_head hpp c0 c1
    rw [← inv_mod] at hl
    refine ⟨_, rfl, 1, p, rfl, (by omega), fun D hD => ?_⟩
    refine lc_range (lo := 1) (n := (p - 1).toNat) (fun i H' => H' = upd H D (.lst ((invL p b i).map V.int))) rfl (fun i H' hi e => ?_) fun H' e => ?_
    · subst e
      refine ⟨rfl, _, rfl, _, rfl, _, _, rfl, rfl, wide_mul (a := 9000) (b := 64) zb (by omega) (by decide) (by decide) (by decide), _, rfl, _, _, rfl, rfl, h0, rfl, _, rfl, ?_⟩
      have e6 : (b * (1 + (i : Int))).fmod p = b * (1 + (i : Int)) % p := Int.fmod_eq_emod_of_nonneg _ (by omega)
      simp only [e6]
      by_cases h2 : b * (1 + (i : Int)) % p = 1
      · have es : invL p b (i + 1) = invL p b i ++ [1 + (i : Int)] := by rw [invL_succ, if_pos h2]
        rw [h2, decide_eq_true rfl]
        refine iteT ⟨_, rfl, _, upd_same, ?_, ?_⟩
        · have : (invL p b i).length ≤ i := by
            unfold invL
            exact Nat.le_trans (List.length_filter_le _ _) (by simp)
          rw [List.length_map]
          exact small1000 (by omega)
        · rw [upd_upd, es, List.map_append]
          rfl
      · have es : invL p b (i + 1) = invL p b i := by rw [invL_succ, if_neg h2, List.append_nil]
        have e7 : decide (V.int (b * (1 + (i : Int)) % p) = V.int 1) = false := decide_eq_false fun q => h2 (V.int.inj q)
        rw [e7, es]
        exact iteF rfl
    · subst e
      refine ⟨_, _, _, V.int (invM p (b % p)), rfl, rfl, SqL.of upd_same, ?_, ?_⟩
      · rw [hl]
        exact atI_nat (j := 0) rfl
      · have hk : (invM p (b % p)).natAbs < 2 ^ 64 := by omega
        refine ⟨_, rfl, _, rfl, _, _, rfl, rfl, wide_mul (a := 20000) (b := 64) zt hk (by decide) (by decide) (by decide), _, rfl, _, _, rfl, rfl, h0, by show 2 ≤ sizeLine; decide, fun q hq => ?_⟩
        refine hQ _ q ((Ext.upd hD).upd' hq) (fresh_of (Ext.upd hD) hq) ?_
        rw [upd_same]
        have e3 : madeM p t b = (t * invM p (b % p) % p, 1) := by
          unfold madeM
          rw [if_neg h0]
        have e4 : (t * invM p (b % p)).fmod p = t * invM p (b % p) % p := Int.fmod_eq_emod_of_nonneg _ (by omega)
        rw [e3]
        show some (HO.tup [V.int ((t * invM p (b % p)).fmod p), V.int 1]) = _
        rw [e4]
theorem c_law_made (T : Tx K mg) : C8.Cal P w K mg base 2 "_law_made" (S3 k_law_made) [] := cal_of T.F_law_made T.m_law_made sc_law_made (fun _ _ _ _ _ _ us hl => match us, hl with | [_, _, _], _ => rfl) len3 (b_law_made T)

theorem bot_pos (φ : Fd) (x : φ.car) : 0 < (φ.enc x).2 := by
  by_cases h : φ.p = 0
  · exact (φ.canon0 h x).1
  · rw [(φ.canonp h x).1]
    decide

def k_law_plus (K : PySem.W.Frag) : K3 := fun x y z H Q => ∃ (φ : Fd) (s t : φ.car), x = .int φ.p ∧ NumV K φ H y s ∧ NumV K φ H z t ∧ Small φ s ∧ Small φ t ∧ RetN K φ H (s + t) Q

abbrev N_law_plus : List PySem.Str := ["_law_prime_here", "_law_one", "_law_other"]
theorem sc_law_plus : FnScope N_law_plus ["_law_prime_here", "_law_one", "_law_other"] (defScope s_law_plus) := ⟨rfl, rfl, rfl, by decide +kernel, rfl, by decide +kernel, by decide +kernel⟩
theorem b_law_plus (T : Tx K mg) : Body P w K mg base 2 "_law_plus" (defBody s_law_plus) (defScope s_law_plus) N_law_plus (S3 (k_law_plus K)) := fun f cdv A outer s H vs Q E hcd hr h => by
  refine ⟨_, (pss_one (ps_ret (C8.pe_c (c_law_made T) hr (by decide) rfl (pa_cons (pv 0) (pa_cons (pe_op op_add (pe_op op_mulW (pe_ix ix_tup (pv 1) pe_int (fun _ _ => rfl)) (pe_ix ix_tup (pv 2) pe_int (fun _ _ => rfl))) (pe_op op_mulW (pe_ix ix_tup (pv 2) pe_int (fun _ _ => rfl)) (pe_ix ix_tup (pv 1) pe_int (fun _ _ => rfl)))) (pa_cons (pe_op op_mulW (pe_ix ix_tup (pv 1) pe_int (fun _ _ => rfl)) (pe_ix ix_tup (pv 2) pe_int (fun _ _ => rfl))) pa_nil)))))), ?_⟩
  obtain ⟨x, y, z, rfl, φ, s, t, rfl, ⟨a1, rfl, h1⟩, ⟨a2, rfl, h2⟩, s1, s2, hQ⟩ := h
  obtain ⟨em, eb⟩ := Fd.add_made s t
  exact ⟨_, rfl, _, rfl, a1, _, _, _, rfl, rfl, h1, atI_nat (j := 0) rfl, _, rfl, a2, _, _, _, rfl, rfl, h2, atI_nat (j := 1) rfl, _, _, rfl, rfl, mul44 s1.1 s2.2, _, rfl, a2, _, _, _, rfl, rfl, h2, atI_nat (j := 0) rfl, _, rfl, a1, _, _, _, rfl, rfl, h1, atI_nat (j := 1) rfl, _, _, rfl, rfl, mul44 s2.1 s1.2, _, _, rfl, rfl, _, rfl, a1, _, _, _, rfl, rfl, h1, atI_nat (j := 1) rfl, _, rfl, a2, _, _, _, rfl, rfl, h2, atI_nat (j := 1) rfl, _, _, rfl, rfl, mul44 s1.2 s2.2, _, _, _, rfl, φ.p, _, _, rfl, rfl, rfl, fd_prime φ, (φ.good _).mpr eb, Int.mul_pos (bot_pos φ s) (bot_pos φ t), bd_bot s1.2 s2.2, bd_add (bd_mul s1.1 s2.2) (bd_mul s2.1 s1.2), ret_made em hQ⟩
theorem c_law_plus (T : Tx K mg) : C8.Cal P w K mg base 3 "_law_plus" (S3 (k_law_plus K)) [] := cal_of T.F_law_plus T.m_law_plus sc_law_plus (fun _ _ _ _ _ _ us hl => match us, hl with | [_, _, _], _ => rfl) len3 (b_law_plus T)

def k_law_times (K : PySem.W.Frag) : K3 := fun x y z H Q => ∃ (φ : Fd) (s t : φ.car), x = .int φ.p ∧ NumV K φ H y s ∧ NumV K φ H z t ∧ Small φ s ∧ Small φ t ∧ RetN K φ H (s * t) Q

abbrev N_law_times : List PySem.Str := ["_law_prime_here", "_law_one", "_law_other"]
theorem sc_law_times : FnScope N_law_times ["_law_prime_here", "_law_one", "_law_other"] (defScope s_law_times) := ⟨rfl, rfl, rfl, by decide +kernel, rfl, by decide +kernel, by decide +kernel⟩
theorem b_law_times (T : Tx K mg) : Body P w K mg base 2 "_law_times" (defBody s_law_times) (defScope s_law_times) N_law_times (S3 (k_law_times K)) := fun f cdv A outer s H vs Q E hcd hr h => by
  refine ⟨_, (pss_one (ps_ret (C8.pe_c (c_law_made T) hr (by decide) rfl (pa_cons (pv 0) (pa_cons (pe_op op_mulW (pe_ix ix_tup (pv 1) pe_int (fun _ _ => rfl)) (pe_ix ix_tup (pv 2) pe_int (fun _ _ => rfl))) (pa_cons (pe_op op_mulW (pe_ix ix_tup (pv 1) pe_int (fun _ _ => rfl)) (pe_ix ix_tup (pv 2) pe_int (fun _ _ => rfl))) pa_nil)))))), ?_⟩
  obtain ⟨x, y, z, rfl, φ, s, t, rfl, ⟨a1, rfl, h1⟩, ⟨a2, rfl, h2⟩, s1, s2, hQ⟩ := h
  obtain ⟨em, eb⟩ := Fd.mul_made s t
  exact ⟨_, rfl, _, rfl, a1, _, _, _, rfl, rfl, h1, atI_nat (j := 0) rfl, _, rfl, a2, _, _, _, rfl, rfl, h2, atI_nat (j := 0) rfl, _, _, rfl, rfl, mul44 s1.1 s2.1, _, rfl, a1, _, _, _, rfl, rfl, h1, atI_nat (j := 1) rfl, _, rfl, a2, _, _, _, rfl, rfl, h2, atI_nat (j := 1) rfl, _, _, rfl, rfl, mul44 s1.2 s2.2, _, _, _, rfl, φ.p, _, _, rfl, rfl, rfl, fd_prime φ, (φ.good _).mpr eb, Int.mul_pos (bot_pos φ s) (bot_pos φ t), bd_bot s1.2 s2.2, bd_top s1.1 s2.1, ret_made em hQ⟩
theorem c_law_times (T : Tx K mg) : C8.Cal P w K mg base 3 "_law_times" (S3 (k_law_times K)) [] := cal_of T.F_law_times T.m_law_times sc_law_times (fun _ _ _ _ _ _ us hl => match us, hl with | [_, _, _], _ => rfl) len3 (b_law_times T)

def k_law_row_key (K : PySem.W.Frag) : K1 := fun x H Q => ∃ (φ : Fd) (t : Nat × φ.car), TermV K φ H x t ∧ ∀ H' v, Ext H H' → Dp K H' v (keyD t.1) → Q v H'

abbrev N_law_row_key : List PySem.Str := ["_law_row"]
theorem sc_law_row_key : FnScope N_law_row_key ["_law_row"] (defScope s_law_row_key) := ⟨rfl, rfl, rfl, by decide +kernel, rfl, by decide +kernel, by decide +kernel⟩
theorem b_law_row_key (T : Tx K mg) : Body P w K mg base 0 "_law_row_key" (defBody s_law_row_key) (defScope s_law_row_key) N_law_row_key (S1 (k_law_row_key K)) := fun f cdv A outer s H vs Q E hcd hr h => by
  refine ⟨_, (pss_one (ps_ret (pe_tup (pa_cons (pe_callB call_len_seq (by rfl) T.f_len PySem.boot_len (pa_cons (pe_ix ix_tup (pv 0) pe_int (fun _ _ => rfl)) pa_nil)) (pa_cons (pe_ix ix_tup (pv 0) pe_int (fun _ _ => rfl)) pa_nil))))), ?_⟩
  obtain ⟨x, rfl, φ, t, ⟨a, pv, nv, rfl, h1, h2, ⟨b, rfl, h3⟩, h4⟩, hQ⟩ := h
  refine ⟨_, rfl, a, _, _, _, rfl, rfl, h1, atI_nat (j := 0) rfl, b, _, rfl, .inr h3, _, rfl, a, _, _, _, rfl, rfl, h1, atI_nat (j := 0) rfl, by show 2 ≤ sizeLine; decide, fun q hq => hQ _ _ (Ext.upd hq) (.tup (SqT.of upd_same) (.cons ?_ (.cons (.tup (h3.ext (Ext.upd hq)) (dpAll_ints _)) .nil)))⟩
  rw [List.length_map]
  exact .int _
theorem c_law_row_key (T : Tx K mg) : C8.Cal P w K mg base 1 "_law_row_key" (S1 (k_law_row_key K)) [] := cal_of T.F_law_row_key T.m_law_row_key sc_law_row_key (fun _ _ _ _ _ _ us hl => match us, hl with | [_], _ => rfl) len1 (b_law_row_key T)
end
end FS
set_option Elab.async false
set_option linter.all false
set_option maxRecDepth 100000
set_option maxHeartbeats 4000000
namespace FS
open PySem PySem.Spec PyProof.Rows L2
/-- how rows stand among another -/
def RkT (K : PySem.W.Frag) : V → PyData → Hp → Prop := fun v d H => ∃ (φ : Fd) (t : Nat × φ.car), TermV K φ H v t ∧ d = keyD t.1
section
variable {P : Program} {w : World} {K : PySem.W.Frag} {mg : PySem.Str → Option Value} {base : Heap}
theorem kf_row (T : Tx K mg) {X : Cx} (hp : X.prog = P) (hw : X.w = w) (hK : X.K = K) (hm : X.mg = mg) (hb : X.base = base) : KeyFn X [] 1 (.ref (He.ga K "_law_row_key")) (RkT K) := by
  subst hp hw hm hb
  obtain ⟨fd, F⟩ := T.F_law_row_key
  have ok := ok_of (P := X.prog) (w := X.w) (mg := X.mg) (base := X.base) F sc_law_row_key len1 (b_law_row_key T)
  subst hK
  exact keyFn_def (E0 := C8.E0) ok (F.bindsN (fun _ _ _ _ _ _ us hl => match us, hl with | [_], _ => rfl)) (fun _ _ _ _ _ _ z => z.elim) fun x d H ⟨φ, t, ht, ed⟩ => ⟨x, rfl, φ, t, ht, fun H' v e q => ⟨by rw [ed]; exact q, e⟩⟩
/-- rows in a list that may be written to -/
def RowsW (K : PySem.W.Frag) (φ : Fd) (H : Hp) (l : Addr) (c : Nat → φ.car) : Prop := ∃ ts xs, H l = some (.lst xs) ∧ Paired (TermV K φ H) xs ts ∧ (ts.map (·.1)).Nodup ∧ (∀ t ∈ ts, t.2 ≠ 0) ∧ ∀ j, j < 8 → coef ts j = c j
theorem RowsW.at {φ : Fd} {H : Hp} {l : Addr} {c : Nat → φ.car} (h : RowsW K φ H l c) : RowsAt K φ H l c := let ⟨ts, xs, a, b, d⟩ := h; ⟨ts, ⟨xs, SqL.of a, b⟩, d⟩
theorem RowsW.xn {φ : Fd} {H H' : Hp} {l : Addr} {c : Nat → φ.car} (h : RowsW K φ H l c) (e : XN H H') : RowsW K φ H' l c := let ⟨ts, xs, a, b, d⟩ := h; ⟨ts, xs, e _ _ a (fun _ z => by cases z), paired_xn b e, d⟩
def k_law_gathered (P : Program) (w : World) (K : PySem.W.Frag) : K2 := fun x y H Q => ∃ (φ : Fd) (ts : List (Nat × φ.car)) (l : Addr), x = .int φ.p ∧ y = .ref l ∧ Terms K φ H l ts ∧ (∀ t ∈ ts, Small φ t.2) ∧ (∀ i j, Small φ (coef (ts.take i) j)) ∧
  ∀ H' q, Ext H H' → H q = none → RowsW K φ H' q (coef ts) → Q (.ref q) H'

abbrev N_law_gathered : List PySem.Str := ["_law_prime_here", "_law_terms_here", "_law_found", "_law_product_here", "_law_number_here"]
theorem sc_law_gathered : FnScope N_law_gathered ["_law_prime_here", "_law_terms_here"] (defScope s_law_gathered) := ⟨rfl, rfl, rfl, by decide +kernel, rfl, by decide +kernel, by decide +kernel⟩
theorem b_law_gathered (T : Tx K mg) : Body P w K mg base 3 "_law_gathered" (defBody s_law_gathered) (defScope s_law_gathered) N_law_gathered (S2 (k_law_gathered P w K)) := fun f cdv A outer s H vs Q E hcd hr h => by
  have hx := hx_of hr
  refine ⟨_, (pss_cons (ps_set (i := 2) sc_law_gathered.nd rfl (by first | exact Or.inl rfl | exact Or.inr rfl) pe_xnew) (pss_cons (ps_for PassesOwn.never rfl (pi_list (pv 1)) (pg_tup rfl (pgs_cons (pg_name (i := 3) sc_law_gathered.nd rfl (by first | exact Or.inl rfl | exact Or.inr rfl)) (pgs_cons (pg_name (i := 4) sc_law_gathered.nd rfl (by first | exact Or.inl rfl | exact Or.inr rfl)) pgs_nil))) (pss_one (ps_xput hx (pv 2) (pv 3) (C8.pe_c (c_law_plus T) hr (by decide) rfl (pa_cons (pv 0) (pa_cons (pe_xget2 hx (pv 2) (pv 3) (pe_tup (pa_cons pe_int (pa_cons pe_int pa_nil))) ⟨rfl, rfl, rfl, rfl⟩) (pa_cons (pv 4) pa_nil)))) (by rfl)))) (pss_one (ps_ret (pe_callBK (cr_xsorted (kf_row T rfl rfl rfl rfl rfl) (hr.mono (by decide))) (by rfl) T.f_sorted (by decide +kernel) (pa_cons (pe_lock (pe_lc (own := [("_law_product_here", 3)]) (g := (gName 3)) (tt := (tTest (tOp rNe (tOp (rIxT K) (tXGet P w K (tVar 2) (tVar 3)) (tC (.int 0))) (tC (.int 0))))) (te := (tTup (tCons (tVar 3) (tCons (tXGet P w K (tVar 2) (tVar 3)) tNil)))) rfl sc_law_gathered.nd (pi_xkeys (pv 2)) (blkOk_by (N := N_law_gathered) (sc := defScope s_law_gathered) (by decide +kernel)) (fun _ _ _ _ _ => (pg_name (i := 3) sc_law_gathered.nd rfl (by first | exact Or.inl rfl | exact Or.inr rfl))) (fun _ _ _ _ _ => (pts_one (pt_cmpR op_ne (pe_ix ix_tup (pe_xget hx (pv 2) (pv 3) (fun _ _ => rfl)) pe_int (fun _ _ => rfl)) pe_int (nomark _)))) (fun _ _ _ _ _ => (pe_tup (pa_cons (pv 3) (pa_cons (pe_xget hx (pv 2) (pv 3) (fun _ _ => rfl)) pa_nil)))))) pa_nil) (pk_cons (pe_glob (v := .ref (He.ga K "_law_row_key")) rfl T.m_law_row_key rfl) pk_nil)))))), ?_⟩
  obtain ⟨x, y, rfl, φ, ts, l, rfl, rfl, ⟨xs, hl, hp⟩, sm, sc, hQ⟩ := h
  intro d ψ hd hD
  have hlen : xs.length = ts.length := Paired.length hp
  refine ⟨_, rfl, l, rfl, ⟨_, SqL.ext hl (Ext.upd hd)⟩, for_list (K := K) (xs := xs) (fun i σ H' => GatI P w K φ H d ts i H' ∧ ∃ p q, σ = [some (.int φ.p), some (.ref l), some (.ref d), p, q]) ⟨⟨Ext.upd hd, [], _, hD, DictV.nil, fun j _ => rfl⟩, _, _, rfl⟩ (fun i σ H' _ z => SqL.ext hl z.1.1) (fun i x σ H' hxi z => ?_) fun σ H' z => ?_⟩
  · obtain ⟨⟨e1, kvs, c, hDA, hDV, hc⟩, p, q, rfl⟩ := z
    obtain ⟨t, ht, ⟨ta, pv, nv, rfl, h1, h2, h3, h4⟩⟩ := paired_at hp hxi
    obtain ⟨b, rfl, h3'⟩ := id h3
    have hkey : ∀ {H2 : Hp}, Ext H H2 → KeyR K H2 (.ref b) (nkP t.1) := fun e => PrV.key h2 (h3.xn (.ofX e))
    have tk : ts.take (i + 1) = ts.take i ++ [t] := by rw [List.take_add_one, ht]; rfl
    refine ⟨ta, _, rfl, h1.ext e1, rfl, _, _, rfl, _, _, rfl, rfl, ?_⟩
    refine ⟨_, rfl, _, rfl, d, rfl, ⟨kvs, hDA.r⟩, _, rfl, by show 2 ≤ sizeLine; decide, fun z hz => ?_⟩
    have eZ := Ext.upd (o := .tup [.int 0, .int 1]) hz
    have hDAz := hDA.xn (.ofX eZ)
    have hDVz := hDV.xn (.ofX eZ)
    have e1z := e1.trans eZ
    have hv0 : NumV K φ (upd H' z (.tup [.int 0, .int 1])) ((valV kvs (nkP t.1)).getD (.ref z)) (coef (ts.take i) t.1) := by
      have hct := hc t.1 h2
      cases zc : c t.1 with
      | none =>
        rw [hDVz.get0 h2 zc]
        rw [zc] at hct
        have : coef (ts.take i) t.1 = 0 := hct.symm
        rw [this]
        exact ⟨z, rfl, by rw [Fd.enc_zero]; exact SqT.of upd_same⟩
      | some x0 =>
        obtain ⟨u, g1, g2⟩ := hDVz.get h2 zc
        rw [g1]
        rw [zc] at hct
        rw [← hct]
        exact g2
    refine ⟨kvs, nkP t.1, hDAz.r, hkey e1z, _, rfl, _, _, _, rfl, φ, _, _, rfl, hv0, h4.ext e1z, sc i t.1, sm t (List.mem_of_getElem? ht), fun H3 v3 e3 hv3 => ?_⟩
    have e23 := e1z.trans e3
    have hDA3 := hDAz.xn (.ofX e3)
    refine ⟨_, rfl, _, rfl, d, kvs, nkP t.1, rfl, hDA3, hkey e23, Nat.lt_of_le_of_lt hDV.len (by decide), fun ψ2 hw => ⟨⟨e23.wr hd, _, updC c t.1 (some (coef (ts.take i) t.1 + t.2)), hw, ?_, fun j hj => ?_⟩, _, _, rfl⟩⟩
    · have tp : Tups H3 (upd H3 d (.ext ψ2)) := Tups.upd hDA3.noTup
      exact ((hDVz.xn (.ofX e3)).tp tp).put (fun i j hi hj => nkP_inj hi hj) h2 (hv3.tp tp)
    · rw [tk, coef_snoc]
      unfold updC
      by_cases e : j = t.1
      · rw [if_pos e, if_pos e.symm, e]
        rfl
      · rw [if_neg e, if_neg fun z => e z.symm]
        exact hc j hj
  · obtain ⟨⟨e1, kvs, c, ⟨xsE, ek, hdd, ko⟩, hDV, hc⟩, p, q, rfl⟩ := z
    subst ek
    rw [hlen, List.take_length] at hc
    refine ⟨d, _, hdd, True.intro, fun od => ⟨_, rfl, d, od, xsE, rfl, upd_same, fun D hD2 => ?_⟩⟩
    have eF : Ext H (upd H' d (.frz od (DO P w d xsE))) := e1.wr hd
    have tpF : Tups H' (upd H' d (.frz od (DO P w d xsE))) := Tups.upd (noTup_do hdd)
    have hDV1 := hDV.tp tpF
    have ko1 := ko.mono tpF
    have hdD : d ≠ D := ne_of_none upd_same hD2
    have hD0 : H D = none := fresh_of eF hD2
    refine lc_it walk_xkeys (RowI K φ H (upd H' d (.frz od (DO P w d xsE))) d D od (DO P w d xsE) xsE c) ?_ (fun i Hc _ z => z.2.2.1) (fun i x Hc Hc' hi z y => ?_) fun Hc z => ?_
    · refine ⟨eF.wr hD0, Tups.upd (noTup_none hD2), by rw [upd_ne hdD]; exact upd_same, [], [], upd_same, .nil, List.nodup_nil, (fun _ z => nomatch z), fun j x _ _ _ z => ?_⟩
      rw [List.take_zero] at z
      cases z
    · obtain ⟨z1, z2, z3, acc, tsr, z4, z5, z6, z7, z8⟩ := z
      obtain ⟨rfl, k, ka, v, ei, rfl⟩ := y
      obtain ⟨j, xj, hj, rfl, ecj, nv, kv⟩ := ent_at hDV1 ko1 ei
      obtain ⟨vb, rfl, hvb⟩ := nv.tp z2
      have hpr := (PrV.of_key kv).tp z2
      have tk : xsE.take (i + 1) = xsE.take i ++ [(nkP j, ka, .ref vb)] := by rw [List.take_add_one, ei]; rfl
      have hDR : DR P w K Hc' d (kvE xsE) := ⟨xsE, rfl, .inr ⟨od, z3⟩, ko1.mono z2⟩
      have hval : valV (kvE xsE) (nkP j) = some (.ref vb) := valV_mem hDV.nodup (nkP j, .ref vb) (List.mem_map.mpr ⟨_, List.mem_of_getElem? ei, rfl⟩)
      refine ⟨rfl, _, rfl, _, rfl, d, _, nkP j, _, rfl, hDR, hpr.key hj, hval, vb, _, _, _, rfl, rfl, hvb, atI_nat (j := 0) rfl, rfl, _, rfl, ?_⟩
      show if (!decide (V.int (φ.enc xj).1 = V.int 0)) = true then _ else _
      by_cases hx0 : xj = 0
      · have en : decide (V.int (φ.enc xj).1 = V.int 0) = true := decide_eq_true (by rw [Fd.top_zero.mpr hx0])
        rw [en]
        refine iteF ⟨z1, z2, z3, acc, tsr, z4, z5, z6, fun t ht => ?_, fun j' x' hj' ec' hne hm => ?_⟩
        · obtain ⟨g1, g2, g3, g4⟩ := z7 t ht
          refine ⟨g1, g2, g3, ?_⟩
          rw [tk, List.map_append]
          exact List.mem_append_left _ g4
        · rw [tk, List.map_append] at hm
          rcases List.mem_append.mp hm with hm | hm
          · exact z8 j' x' hj' ec' hne hm
          · have : j' = j := nkP_inj hj' hj (List.mem_singleton.mp hm)
            subst this
            rw [ecj] at ec'
            cases ec'
            exact absurd hx0 hne
      · have en : decide (V.int (φ.enc xj).1 = V.int 0) = false := decide_eq_false fun z => hx0 (Fd.top_zero.mp (V.int.inj z))
        rw [en]
        refine iteT ⟨_, rfl, _, rfl, _, rfl, d, _, nkP j, _, rfl, hDR, hpr.key hj, hval, by show 2 ≤ sizeLine; decide, fun r hr2 => ⟨acc, ?_, ?_, ?_⟩⟩
        · exact by
            have hDr : D ≠ r := ne_of_none z4 hr2
            rw [upd_ne hDr]
            exact z4
        · have h5 : acc.length = tsr.length := Paired.length z5
          have h6 : tsr.length ≤ 8 := by
            have := nodup_le (ks := tsr.map fun t => nkP t.1) (nk := nkP) (n := 8) ?_ fun k hk => ?_
            · rwa [List.length_map] at this
            · have e : (tsr.map fun t => nkP t.1) = (tsr.map (·.1)).map nkP := by rw [List.map_map]; rfl
              rw [e]
              refine List.pairwise_map.mpr (List.Pairwise.imp_of_mem (fun {u v} hu hv hne z => ?_) z6)
              obtain ⟨t1, m1, rfl⟩ := List.mem_map.mp hu
              obtain ⟨t2, m2, rfl⟩ := List.mem_map.mp hv
              exact hne (nkP_inj (z7 t1 m1).2.2.1 (z7 t2 m2).2.2.1 z)
            · obtain ⟨t1, m1, rfl⟩ := List.mem_map.mp hk
              exact ⟨t1.1, (z7 t1 m1).2.2.1, rfl⟩
          exact Nat.lt_of_le_of_lt (show acc.length ≤ 8 by omega) (by decide)
        · have hrD : D ≠ r := ne_of_none z4 hr2
          have hrd : d ≠ r := ne_of_none z3 hr2
          have tp4 : Tups Hc' (upd (upd Hc' r (.tup [.ref ka, .ref vb])) D (.lst (acc ++ [.ref r]))) :=
            (Tups.upd (noTup_none hr2)).trans (Tups.upd fun xs => ⟨fun z => (by rw [upd_ne hrD, z4] at z; cases z), fun ob z => (by rw [upd_ne hrD, z4] at z; cases z)⟩)
          refine ⟨(z1.trans (Ext.upd hr2)).wr hD0, z2.trans tp4, by rw [upd_ne hdD, upd_ne hrd]; exact z3, acc ++ [.ref r], tsr ++ [(j, xj)], upd_same, ?_, ?_, fun t ht => ?_, fun j' x' hj' ec' hne hm => ?_⟩
          · refine paired_append (paired_tp z5 tp4) (.cons ⟨r, _, _, rfl, ?_, hj, hpr.tp tp4, ⟨vb, rfl, tp4.sqt hvb⟩⟩ .nil)
            exact SqT.of (by rw [upd_ne (Ne.symm hrD)]; exact upd_same)
          · rw [List.map_append]
            refine List.nodup_append.mpr ⟨z6, by simp, fun u hu v hv e => ?_⟩
            obtain ⟨t1, m1, rfl⟩ := List.mem_map.mp hu
            have hv2 : v = j := by simpa using hv
            rw [hv2] at e
            have g4 := (z7 t1 m1).2.2.2
            rw [e] at g4
            have hnd : (xsE.map (·.1)).Nodup := by
              have := hDV.nodup
              rwa [kvE_keys] at this
            exact keys_fresh hnd ei g4
          · rcases List.mem_append.mp ht with ht | ht
            · obtain ⟨g1, g2, g3, g4⟩ := z7 t ht
              refine ⟨g1, g2, g3, ?_⟩
              rw [tk, List.map_append]
              exact List.mem_append_left _ g4
            · rw [List.mem_singleton.mp ht]
              refine ⟨hx0, ecj, hj, ?_⟩
              rw [tk, List.map_append]
              exact List.mem_append_right _ (List.mem_singleton.mpr rfl)
          · rw [tk, List.map_append] at hm
            rcases List.mem_append.mp hm with hm | hm
            · exact List.mem_append_left _ (z8 j' x' hj' ec' hne hm)
            · have : j' = j := nkP_inj hj' hj (List.mem_singleton.mp hm)
              subst this
              rw [ecj] at ec'
              cases ec'
              exact List.mem_append_right _ (List.mem_singleton.mpr rfl)
    · obtain ⟨z1, z2, z3, acc, tsr, z4, z5, z6, z7, z8⟩ := z
      rw [List.take_length] at z8
      have hdD' : D ≠ d := Ne.symm hdD
      have tpU : Tups Hc (upd Hc d (DO P w d xsE)) := Tups.upd fun xs => ⟨fun z => (by rw [z3] at z; cases z), fun ob z => (by rw [z3] at z; cases z)⟩
      refine ⟨z3, ?_⟩
      have eU : Ext H (upd Hc d (DO P w d xsE)) := z1.wr hd
      have hal : ∀ v ∈ acc, ∃ t, kdF acc tsr v = keyD t.1 ∧ TermV K φ (upd Hc d (DO P w d xsE)) v t := fun v hv => kdF_ok (paired_tp z5 tpU) hv
      refine ⟨D, acc, kdF acc tsr, rfl, rfl, SqL.of (by rw [upd_ne hdD']; exact z4), fun u hu v hv => ?_, fun v hv => ?_, fun v hv => ?_, fun v hv H9 e9 => ?_, fun H9 p ys e9 hp0 hp9 pm => ?_⟩
      · obtain ⟨t1, g1, ⟨_, _, _, _, _, k1, _⟩⟩ := hal u hu
        obtain ⟨t2, g2, ⟨_, _, _, _, _, k2, _⟩⟩ := hal v hv
        rw [g1, g2]
        exact keyD_alike _ k1 _ k2
      · obtain ⟨t1, g1, _⟩ := hal v hv
        exact ⟨_, _, g1⟩
      · obtain ⟨t1, g1, ⟨_, _, _, _, _, k1, _⟩⟩ := hal v hv
        rw [g1]
        exact keyD_depth _ k1
      · obtain ⟨t1, g1, g2⟩ := hal v hv
        exact ⟨φ, t1, g2.xn (.ofX e9), g1⟩
      · obtain ⟨ts', pt, htr⟩ := perm_paired pm (paired_xn (paired_tp z5 tpU) (.ofX e9))
        refine hQ H9 p (eU.trans e9) (fresh_of eU hp0) ⟨ts', ys, hp9, htr, (pt.map (·.1)).nodup_iff.mpr z6, fun t ht => (z7 t (pt.mem_iff.mp ht)).1, ?_⟩
        have z7' : ∀ t ∈ ts', c t.1 = some t.2 := fun t ht => (z7 t (pt.mem_iff.mp ht)).2.1
        refine coef_rows ((pt.map (·.1)).nodup_iff.mpr z6) (fun t ht => ?_) fun j hj hne => ?_
        · have g3 := (z7 t (pt.mem_iff.mp ht)).2.2.1
          have := hc t.1 g3
          rw [z7' t ht] at this
          exact this.symm
        · cases ec : c j with
          | none =>
            have := hc j hj
            rw [ec] at this
            exact absurd this.symm hne
          | some xj =>
            have := hc j hj
            rw [ec] at this
            have hx : xj = coef ts j := this
            rw [hx] at ec
            have hm : nkP j ∈ (xsE.map (·.1)) := by
              obtain ⟨u, g1, _⟩ := hDV.get hj ec
              refine Classical.byContradiction fun ne => ?_
              rw [valV_absent (by rw [kvE_keys]; exact ne)] at g1
              cases g1
            exact pt.mem_iff.mpr (z8 j _ hj ec hne hm)
theorem c_law_gathered (T : Tx K mg) : C8.Cal P w K mg base 4 "_law_gathered" (S2 (k_law_gathered P w K)) [] := cal_of T.F_law_gathered T.m_law_gathered sc_law_gathered (fun _ _ _ _ _ _ us hl => match us, hl with | [_, _], _ => rfl) len2 (b_law_gathered T)
end
end FS
set_option Elab.async false
set_option linter.all false
set_option maxRecDepth 100000
set_option maxHeartbeats 4000000
namespace FS
open PySem PySem.Spec PyProof.Rows L2
section
variable {P : Program} {w : World} {K : PySem.W.Frag} {mg : PySem.Str → Option Value} {base : Heap}
/-- a list of terms that may be written to -/
def TermsW (K : PySem.W.Frag) (φ : Fd) (H : Hp) (l : Addr) (ts : List (Nat × φ.car)) : Prop := ∃ xs, H l = some (.lst xs) ∧ Paired (TermV K φ H) xs ts
theorem TermsW.xn {φ : Fd} {H H' : Hp} {l : Addr} {ts : List (Nat × φ.car)} (h : TermsW K φ H l ts) (e : XN H H') : TermsW K φ H' l ts := let ⟨xs, a, b⟩ := h; ⟨xs, e _ _ a (fun _ z => by cases z), paired_xn b e⟩
/-- what is asked of terms that are to be gathered -/
def GatOk (φ : Fd) (ts : List (Nat × φ.car)) : Prop := (∀ t ∈ ts, Small φ t.2) ∧ ∀ i j, Small φ (coef (ts.take i) j)
/-- the rows that a gathering gives -/
def RetR (K : PySem.W.Frag) (φ : Fd) (H : Hp) (c : Nat → φ.car) (Q : VK) : Prop := ∀ H' q, Ext H H' → H q = none → RowsW K φ H' q c → Q (.ref q) H'
def k_law_added (K : PySem.W.Frag) : K3 := fun x y z H Q => ∃ (φ : Fd) (ts us : List (Nat × φ.car)) (l m : Addr), x = .int φ.p ∧ y = .ref l ∧ z = .ref m ∧ TermsW K φ H l ts ∧ TermsW K φ H m us ∧ ts.length + us.length ≤ 1000 ∧ GatOk φ (ts ++ us) ∧ RetR K φ H (coef (ts ++ us)) Q

abbrev N_law_added : List PySem.Str := ["_law_prime_here", "_law_one", "_law_other"]
theorem sc_law_added : FnScope N_law_added ["_law_prime_here", "_law_one", "_law_other"] (defScope s_law_added) := ⟨rfl, rfl, rfl, by decide +kernel, rfl, by decide +kernel, by decide +kernel⟩
theorem b_law_added (T : Tx K mg) : Body P w K mg base 4 "_law_added" (defBody s_law_added) (defScope s_law_added) N_law_added (S3 (k_law_added K)) := fun f cdv A outer s H vs Q E hcd hr h => by
  refine ⟨_, (pss_one (ps_ret (C8.pe_c (c_law_gathered T) hr (by decide) rfl (pa_cons (pv 0) (pa_cons (pe_op op_cat (pv 1) (pv 2)) pa_nil))))), ?_⟩
  obtain ⟨x, y, z, rfl, φ, ts, us, l, m, rfl, rfl, rfl, ⟨xs, hl, hp⟩, ⟨ys, hm, hq⟩, hlen, ⟨g1, g2⟩, hQ⟩ := h
  have e1 : xs.length = ts.length := Paired.length hp
  have e2 : ys.length = us.length := Paired.length hq
  refine ⟨_, rfl, _, rfl, _, rfl, l, m, xs, ys, rfl, rfl, hl, hm, Nat.le_of_lt (small1000 (by omega)), fun q hq0 => ?_⟩
  have eQ := Ext.upd (o := .lst (xs ++ ys)) hq0
  exact ⟨_, _, rfl, φ, ts ++ us, q, rfl, rfl, ⟨xs ++ ys, SqL.of upd_same, paired_append (paired_xn hp (.ofX eQ)) (paired_xn hq (.ofX eQ))⟩, g1, g2, fun H' p e3 hp0 hR => hQ H' p (eQ.trans e3) (fresh_of eQ hp0) hR⟩
theorem c_law_added (T : Tx K mg) : C8.Cal P w K mg base 5 "_law_added" (S3 (k_law_added K)) [] := cal_of T.F_law_added T.m_law_added sc_law_added (fun _ _ _ _ _ _ us hl => match us, hl with | [_, _, _], _ => rfl) len3 (b_law_added T)

theorem joinTup {i j : Nat} (hi : i < 8) (hj : j < 8) {H1 : Hp} {c : Addr} {QQ : VK} (hc : SqT K H1 c ((prd i ++ prd j).map V.int)) (h : ∀ H' r, Ext H1 H' → SqT K H' r ((prd (jn i j)).map V.int) → QQ (.ref r) H') : rSetTup K w [.ref c] H1 (fun x H2 => rSortedSet w [x] H2 fun x H3 => rTupOf K [x] H3 QQ) := by
  have hl : (prd i ++ prd j).length ≤ 6 := by
    rw [List.length_append]
    have h1 := prd_len i hi
    have h2 := prd_len j hj
    omega
  refine ⟨c, prd i ++ prd j, rfl, hc, by omega, fun p n hp hn => ?_⟩
  refine ⟨p, _, n, rfl, upd_same, by omega, fun ns q h1 h2 h3 hq => ?_⟩
  have en : ns = prd (jn i j) := jn_sorted hi hj h1 fun k => by rw [h2 k]; exact decide_eq_true_iff
  refine ⟨q, ns.map V.int, rfl, .inl ⟨SqL.of upd_same, fun r hr => ?_⟩⟩
  have e2 := (Ext.upd (o := SetO w p (fun k => decide (k ∈ prd i ++ prd j)) n) hp).upd' (o := .lst (ns.map V.int)) hq
  exact h _ _ (e2.upd' hr) (SqT.of (by rw [← en]; exact upd_same))
/-- the products of terms -/
def prodTs {φ : Fd} (ts us : List (Nat × φ.car)) : List (Nat × φ.car) := ts.flatMap fun t => us.map fun u => (jn t.1 u.1, t.2 * u.2)
def k_law_multiplied (w : World) (K : PySem.W.Frag) : K3 := fun x y z H Q => ∃ (φ : Fd) (ts us : List (Nat × φ.car)) (l m : Addr), x = .int φ.p ∧ y = .ref l ∧ z = .ref m ∧ TermsW K φ H l ts ∧ TermsW K φ H m us ∧ ts.length ≤ 10 ∧ us.length ≤ 10 ∧ (∀ t ∈ ts, Small φ t.2) ∧ (∀ t ∈ us, Small φ t.2) ∧ GatOk φ (prodTs ts us) ∧ RetR K φ H (coef (prodTs ts us)) Q
theorem prod_len {φ : Fd} (us : List (Nat × φ.car)) : ∀ ts : List (Nat × φ.car), (prodTs ts us).length = ts.length * us.length
  | [] => by simp [prodTs]
  | t :: ts => by
    have ih := prod_len us ts
    unfold prodTs at ih ⊢
    rw [List.flatMap_cons, List.length_append, List.length_map, ih, List.length_cons, Nat.succ_mul, Nat.add_comm]

abbrev N_law_multiplied : List PySem.Str := ["_law_prime_here", "_law_one", "_law_other", "_law_found", "_law_product_here", "_law_number_here", "_law_more", "_law_factor"]
theorem sc_law_multiplied : FnScope N_law_multiplied ["_law_prime_here", "_law_one", "_law_other"] (defScope s_law_multiplied) := ⟨rfl, rfl, rfl, by decide +kernel, rfl, by decide +kernel, by decide +kernel⟩
theorem b_law_multiplied (T : Tx K mg) : Body P w K mg base 4 "_law_multiplied" (defBody s_law_multiplied) (defScope s_law_multiplied) N_law_multiplied (S3 (k_law_multiplied w K)) := fun f cdv A outer s H vs Q E hcd hr h => by
  refine ⟨_, (pss_cons (ps_set (i := 3) sc_law_multiplied.nd rfl (by first | exact Or.inl rfl | exact Or.inr rfl) (pe_lst pa_nil)) (pss_cons (ps_for PassesOwn.never rfl (pi_list (pv 1)) (pg_tup rfl (pgs_cons (pg_name (i := 4) sc_law_multiplied.nd rfl (by first | exact Or.inl rfl | exact Or.inr rfl)) (pgs_cons (pg_name (i := 5) sc_law_multiplied.nd rfl (by first | exact Or.inl rfl | exact Or.inr rfl)) pgs_nil))) (pss_one (ps_for PassesOwn.never rfl (pi_list (pv 2)) (pg_tup rfl (pgs_cons (pg_name (i := 6) sc_law_multiplied.nd rfl (by first | exact Or.inl rfl | exact Or.inr rfl)) (pgs_cons (pg_name (i := 7) sc_law_multiplied.nd rfl (by first | exact Or.inl rfl | exact Or.inr rfl)) pgs_nil))) (pss_one (ps_expr (pe_bm PySem.F.plainAttrs_list PySem.F.slot_list_append PySem.F.type_list_append mt_append (pv 3) (pa_cons (pe_tup (pa_cons (pe_callTy call_tuple_of (by rfl) T.f_tuple (by decide +kernel) (pa_cons (pe_callB (cr_sortedSet rfl) (by rfl) T.f_sorted (by decide +kernel) (pa_cons (pe_callTy (cr_setTup rfl) (by rfl) T.f_set (by decide +kernel) (pa_cons (pe_op op_catA (pv 4) (pv 6)) pa_nil)) pa_nil)) pa_nil)) (pa_cons (C8.pe_c (c_law_times T) hr (by decide) rfl (pa_cons (pv 0) (pa_cons (pv 5) (pa_cons (pv 7) pa_nil)))) pa_nil))) pa_nil))))))) (pss_one (ps_ret (C8.pe_c (c_law_gathered T) hr (by decide) rfl (pa_cons (pv 0) (pa_cons (pv 3) pa_nil))))))), ?_⟩
  obtain ⟨x, y, z, rfl, φ, ts, us, l, m, rfl, rfl, rfl, ⟨xs, hl, hp⟩, ⟨ys, hm, hq⟩, ht10, hu10, st, su, ⟨g1, g2⟩, hQ⟩ := h
  have e1 : xs.length = ts.length := Paired.length hp
  have e2 : ys.length = us.length := Paired.length hq
  refine ⟨by show 0 ≤ sizeLine; exact Nat.zero_le _, fun F hF => ?_⟩
  have eF := Ext.upd (o := .lst []) hF
  have flat_t : ∀ (i : Nat) (t : Nat × φ.car), ts[i]? = some t → prodTs (ts.take (i + 1)) us = prodTs (ts.take i) us ++ us.map fun u => (jn t.1 u.1, t.2 * u.2) := fun i t h => flat_take h
  refine ⟨_, rfl, l, rfl, ⟨xs, SqL.of (eF _ _ hl)⟩, ?_⟩
  refine for_list (K := K) (xs := xs) (fun i σ H' => Ext H H' ∧ (∃ zs, H' F = some (.lst zs) ∧ Paired (TermV K φ H') zs (prodTs (ts.take i) us)) ∧ ∃ o1 o2 o3 o4, σ = [some (.int φ.p), some (.ref l), some (.ref m), some (.ref F), o1, o2, o3, o4]) ⟨eF, ⟨[], upd_same, .nil⟩, _, _, _, _, rfl⟩ (fun i σ H' _ z => SqL.of (z.1 _ _ hl)) (fun i x σ H1 hx1 z => ?_) fun σ H1 z => ?_
  · obtain ⟨eH1, ⟨zs, hz, hzp⟩, o1, o2, o3, o4, rfl⟩ := z
    obtain ⟨t, ht, ⟨ta, pv, nv, rfl, h1, h2, h3, h4⟩⟩ := paired_at hp hx1
    have hi : i < ts.length := (List.getElem?_eq_some_iff.mp ht).1
    refine ⟨ta, _, rfl, h1.ext eH1, rfl, _, _, rfl, _, _, rfl, rfl, ?_⟩
    refine ⟨_, rfl, m, rfl, ⟨ys, SqL.of (eH1 _ _ hm)⟩, ?_⟩
    refine for_list (K := K) (xs := ys) (fun k σ H' => Ext H H' ∧ (∃ zs, H' F = some (.lst zs) ∧ Paired (TermV K φ H') zs (prodTs (ts.take i) us ++ (us.take k).map fun u => (jn t.1 u.1, t.2 * u.2))) ∧ ∃ o3 o4, σ = [some (.int φ.p), some (.ref l), some (.ref m), some (.ref F), some pv, some nv, o3, o4]) ⟨eH1, ⟨zs, hz, ?_⟩, _, _, rfl⟩ (fun k σ H' _ z => SqL.of (z.1 _ _ hm)) (fun k x σ H2 hx2 z => ?_) fun σ H2 z => ?_
    · show Paired _ zs (_ ++ [])
      rw [List.append_nil]
      exact hzp
    · obtain ⟨eH2, ⟨zs2, hz2, hzp2⟩, o3, o4, rfl⟩ := z
      obtain ⟨u, hu, ⟨ua, uv, fv, rfl, k1, k2, k3, k4⟩⟩ := paired_at hq hx2
      have hk : k < us.length := (List.getElem?_eq_some_iff.mp hu).1
      obtain ⟨pa, rfl, hpa⟩ := h3.xn (.ofX eH2)
      obtain ⟨qa, rfl, hqa⟩ := k3.xn (.ofX eH2)
      refine ⟨ua, _, rfl, k1.ext eH2, rfl, _, _, rfl, _, _, rfl, rfl, ?_⟩
      refine ⟨_, rfl, .inl ⟨rfl, _, SqL.of hz2⟩, ?_⟩
      have tail : ∀ (H6 : Hp) (r : Addr), Ext H2 H6 → SqT K H6 r ((prd (jn t.1 u.1)).map V.int) → (tVar 0) [some (.int φ.p), some (.ref l), some (.ref m), some (.ref F), some (.ref pa), some nv, some (.ref qa), some fv] H6 (fun x H7 => (tVar 5) [some (.int φ.p), some (.ref l), some (.ref m), some (.ref F), some (.ref pa), some nv, some (.ref qa), some fv] H7 fun y H8 => (tVar 7) [some (.int φ.p), some (.ref l), some (.ref m), some (.ref F), some (.ref pa), some nv, some (.ref qa), some fv] H8 fun z H9 =>
          S3 (k_law_times K) [x, y, z] H9 (fun v H10 => 2 ≤ sizeLine ∧ ∀ q, H10 q = none → ∃ l' ws y', V.ref F = .ref l' ∧ [V.ref q] = [y'] ∧ (upd H10 q (.tup [.ref r, v])) l' = some (.lst ws) ∧ ws.length < sizeLine ∧
            (fun (v' : V) H11 => Ext H H11 ∧ (∃ zs, H11 F = some (.lst zs) ∧ Paired (TermV K φ H11) zs (prodTs (ts.take i) us ++ (us.take (k + 1)).map fun u => (jn t.1 u.1, t.2 * u.2))) ∧ ∃ o3 o4, [some (V.int φ.p), some (.ref l), some (.ref m), some (.ref F), some (.ref pa), some nv, some (.ref qa), some fv] = [some (.int φ.p), some (.ref l), some (.ref m), some (.ref F), some (.ref pa), some nv, o3, o4]) V.non (upd (upd H10 q (.tup [.ref r, v])) l' (.lst (ws ++ [y'])))) C8.E0) := fun H6 r e6 hr6 => by
        have e06 := eH2.trans e6
        refine ⟨_, rfl, _, rfl, _, rfl, _, _, _, rfl, φ, t.2, u.2, rfl, h4.ext e06, k4.ext e06, st t (List.mem_of_getElem? ht), su u (List.mem_of_getElem? hu), fun H7 v e7 hv => ?_⟩
        refine ⟨by decide, fun q hq7 => ?_⟩
        have eq := Ext.upd (o := .tup [.ref r, v]) hq7
        have e27 := (e6.trans e7).trans eq
        have hzq := e27 _ _ hz2
        have tpE := Tups.upd (o := .lst (zs2 ++ [.ref q])) (lst_noTup hzq)
        have hzl : zs2.length = (prodTs (ts.take i) us ++ (us.take k).map fun u => (jn t.1 u.1, t.2 * u.2)).length := Paired.length hzp2
        have tku : us.take (k + 1) = us.take k ++ [u] := by rw [List.take_add_one, hu]; rfl
        refine ⟨F, zs2, .ref q, rfl, rfl, hzq, ?_, (eH2.trans e27).wr hF, ⟨zs2 ++ [.ref q], upd_same, ?_⟩, _, _, rfl⟩
        · rw [List.length_append, prod_len, List.length_map, List.length_take, List.length_take] at hzl
          have : min i ts.length * us.length ≤ 10 * 10 := Nat.mul_le_mul (by omega) hu10
          exact Nat.lt_of_le_of_lt (show zs2.length ≤ 110 by omega) (by decide)
        · rw [tku, List.map_append, ← List.append_assoc]
          refine paired_append (paired_tp (paired_tp hzp2 (.ofX e27)) tpE) (.cons ⟨q, .ref r, v, rfl, tpE.sqt (SqT.of upd_same), jn_lt t.1 h2 u.1 k2, ⟨r, rfl, tpE.sqt ((hr6.ext e7).ext eq)⟩, (hv.xn (.ofX eq)).tp tpE⟩ .nil)
      refine ⟨_, rfl, _, rfl, pa, qa, _, _, rfl, rfl, hpa, hqa, ?_, ?_⟩
      · rw [List.length_map, List.length_map]
        have h1 := prd_len t.1 h2
        have h2 := prd_len u.1 k2
        exact Nat.le_trans (by omega : _ ≤ 6) (by decide)
      refine ⟨fun e => ?_, fun n1 e => ?_, fun n1 n2 p hp => ?_⟩
      · refine joinTup (QQ := (fun (rv : V) (H6 : Hp) => (tVar 0) [some (.int φ.p), some (.ref l), some (.ref m), some (.ref F), some (.ref pa), some nv, some (.ref qa), some fv] H6 (fun x H7 => (tVar 5) [some (.int φ.p), some (.ref l), some (.ref m), some (.ref F), some (.ref pa), some nv, some (.ref qa), some fv] H7 fun y H8 => (tVar 7) [some (.int φ.p), some (.ref l), some (.ref m), some (.ref F), some (.ref pa), some nv, some (.ref qa), some fv] H8 fun z H9 => S3 (k_law_times K) [x, y, z] H9 (fun v H10 => 2 ≤ sizeLine ∧ ∀ q, H10 q = none → ∃ l' ws y', V.ref F = .ref l' ∧ [V.ref q] = [y'] ∧ (upd H10 q (.tup [rv, v])) l' = some (.lst ws) ∧ ws.length < sizeLine ∧(fun (v' : V) H11 => Ext H H11 ∧ (∃ zs, H11 F = some (.lst zs) ∧ Paired (TermV K φ H11) zs (prodTs (ts.take i) us ++ (us.take (k + 1)).map fun u => (jn t.1 u.1, t.2 * u.2))) ∧ ∃ o3 o4, [some (V.int φ.p), some (.ref l), some (.ref m), some (.ref F), some (.ref pa), some nv, some (.ref qa), some fv] = [some (.int φ.p), some (.ref l), some (.ref m), some (.ref F), some (.ref pa), some nv, o3, o4]) V.non (upd (upd H10 q (.tup [rv, v])) l' (.lst (ws ++ [y'])))) C8.E0))) h2 k2 (c := qa) ?_ ?_
        · rw [List.map_append, e]; exact hqa
        · exact fun H6 r e6 hr6 => tail H6 r e6 hr6
      · refine joinTup (QQ := (fun (rv : V) (H6 : Hp) => (tVar 0) [some (.int φ.p), some (.ref l), some (.ref m), some (.ref F), some (.ref pa), some nv, some (.ref qa), some fv] H6 (fun x H7 => (tVar 5) [some (.int φ.p), some (.ref l), some (.ref m), some (.ref F), some (.ref pa), some nv, some (.ref qa), some fv] H7 fun y H8 => (tVar 7) [some (.int φ.p), some (.ref l), some (.ref m), some (.ref F), some (.ref pa), some nv, some (.ref qa), some fv] H8 fun z H9 => S3 (k_law_times K) [x, y, z] H9 (fun v H10 => 2 ≤ sizeLine ∧ ∀ q, H10 q = none → ∃ l' ws y', V.ref F = .ref l' ∧ [V.ref q] = [y'] ∧ (upd H10 q (.tup [rv, v])) l' = some (.lst ws) ∧ ws.length < sizeLine ∧(fun (v' : V) H11 => Ext H H11 ∧ (∃ zs, H11 F = some (.lst zs) ∧ Paired (TermV K φ H11) zs (prodTs (ts.take i) us ++ (us.take (k + 1)).map fun u => (jn t.1 u.1, t.2 * u.2))) ∧ ∃ o3 o4, [some (V.int φ.p), some (.ref l), some (.ref m), some (.ref F), some (.ref pa), some nv, some (.ref qa), some fv] = [some (.int φ.p), some (.ref l), some (.ref m), some (.ref F), some (.ref pa), some nv, o3, o4]) V.non (upd (upd H10 q (.tup [rv, v])) l' (.lst (ws ++ [y'])))) C8.E0))) h2 k2 (c := pa) ?_ ?_
        · rw [List.map_append, e, List.append_nil]; exact hpa
        · exact fun H6 r e6 hr6 => tail H6 r e6 hr6
      · refine joinTup (QQ := (fun (rv : V) (H6 : Hp) => (tVar 0) [some (.int φ.p), some (.ref l), some (.ref m), some (.ref F), some (.ref pa), some nv, some (.ref qa), some fv] H6 (fun x H7 => (tVar 5) [some (.int φ.p), some (.ref l), some (.ref m), some (.ref F), some (.ref pa), some nv, some (.ref qa), some fv] H7 fun y H8 => (tVar 7) [some (.int φ.p), some (.ref l), some (.ref m), some (.ref F), some (.ref pa), some nv, some (.ref qa), some fv] H8 fun z H9 => S3 (k_law_times K) [x, y, z] H9 (fun v H10 => 2 ≤ sizeLine ∧ ∀ q, H10 q = none → ∃ l' ws y', V.ref F = .ref l' ∧ [V.ref q] = [y'] ∧ (upd H10 q (.tup [rv, v])) l' = some (.lst ws) ∧ ws.length < sizeLine ∧(fun (v' : V) H11 => Ext H H11 ∧ (∃ zs, H11 F = some (.lst zs) ∧ Paired (TermV K φ H11) zs (prodTs (ts.take i) us ++ (us.take (k + 1)).map fun u => (jn t.1 u.1, t.2 * u.2))) ∧ ∃ o3 o4, [some (V.int φ.p), some (.ref l), some (.ref m), some (.ref F), some (.ref pa), some nv, some (.ref qa), some fv] = [some (.int φ.p), some (.ref l), some (.ref m), some (.ref F), some (.ref pa), some nv, o3, o4]) V.non (upd (upd H10 q (.tup [rv, v])) l' (.lst (ws ++ [y'])))) C8.E0))) h2 k2 (c := p) ?_ ?_
        · rw [List.map_append]; exact SqT.of upd_same
        · exact fun H6 r e6 hr6 => tail H6 r ((Ext.upd hp).trans e6) hr6
    · obtain ⟨eH2, ⟨zs2, hz2, hzp2⟩, o3, o4, rfl⟩ := z
      rw [e2, List.take_length] at hzp2
      refine ⟨eH2, ⟨zs2, hz2, ?_⟩, _, _, _, _, rfl⟩
      rw [flat_t i t ht]
      exact hzp2
  · obtain ⟨eH1, ⟨zs, hz, hzp⟩, o1, o2, o3, o4, rfl⟩ := z
    rw [e1, List.take_length] at hzp
    exact ⟨_, rfl, _, rfl, _, _, rfl, φ, prodTs ts us, F, rfl, rfl, ⟨zs, SqL.of hz, hzp⟩, g1, g2, fun H' p e3 hp0 hR => hQ H' p (eH1.trans e3) (fresh_of eH1 hp0) hR⟩
theorem c_law_multiplied (T : Tx K mg) : C8.Cal P w K mg base 5 "_law_multiplied" (S3 (k_law_multiplied w K)) [] := cal_of T.F_law_multiplied T.m_law_multiplied sc_law_multiplied (fun _ _ _ _ _ _ us hl => match us, hl with | [_, _, _], _ => rfl) len3 (b_law_multiplied T)
end
end FS
set_option Elab.async false
set_option linter.all false
set_option maxRecDepth 100000
set_option maxHeartbeats 4000000
namespace FS
open PySem PySem.Spec PyProof.Rows L2
section
variable {P : Program} {w : World} {K : PySem.W.Frag} {mg : PySem.Str → Option Value} {base : Heap}
theorem PoolAt.x {H H' : Hp} {q : Addr} (h : PoolAt H q) (e : Ext H H') : PoolAt H' q := let ⟨c, s, a, b⟩ := h; ⟨c, s, e _ _ a, b⟩
def primesL : List Int := [0, 0, 0, 0, 0, 2, 3, 5, 7, 11, 13, 17, 19, 23, 29, 31, 37, 41, 43, 47, 53, 59, 61, 67, 71, 73, 79, 83, 89, 97]
theorem primesL_ok : ∀ i, i < 30 → ∃ p, primesL[i]? = some p ∧ (p = 0 ∨ p ∈ primes) := by
  have : ∀ i, i < 30 → (match primesL[i]? with | none => false | some p => decide (p = 0 ∨ p ∈ primes)) = true := by decide +kernel
  intro i hi
  have h := this i hi
  cases z : primesL[i]? with
  | none => rw [z] at h; cases h
  | some p => rw [z] at h; exact ⟨p, rfl, of_decide_eq_true h⟩
def k_law_prime (K : PySem.W.Frag) : K1 := fun x H Q => ∃ q, x = .ref q ∧ PoolAt H q ∧ ∀ H' p, ExB q H H' → PoolAt H' q → (p = 0 ∨ p ∈ primes) → Q (.int p) H'
/-- six times the number is a whole number below B -/
def Sz (φ : Fd) (B : Nat) (x : φ.car) : Prop := φ.p = 0 → ∃ a : Int, φ.ic 6 * x = φ.ic a ∧ a.natAbs < B

abbrev N_law_prime : List PySem.Str := ["_law_pool_here", "_law_some"]
theorem sc_law_prime : FnScope N_law_prime ["_law_pool_here"] (defScope s_law_prime) := ⟨rfl, rfl, rfl, by decide +kernel, rfl, by decide +kernel, by decide +kernel⟩
theorem b_law_prime (T : Tx K mg) : Body P w K mg base 1 "_law_prime" (defBody s_law_prime) (defScope s_law_prime) N_law_prime (S1 (k_law_prime K)) := fun f cdv A outer s H vs Q E hcd hr h => by
  refine ⟨_, (pss_cons (ps_set (i := 1) sc_law_prime.nd rfl (by first | exact Or.inl rfl | exact Or.inr rfl) (pe_lst (pa_cons pe_int (pa_cons pe_int (pa_cons pe_int (pa_cons pe_int (pa_cons pe_int (pa_cons pe_int (pa_cons pe_int (pa_cons pe_int (pa_cons pe_int (pa_cons pe_int (pa_cons pe_int (pa_cons pe_int (pa_cons pe_int (pa_cons pe_int (pa_cons pe_int (pa_cons pe_int (pa_cons pe_int (pa_cons pe_int (pa_cons pe_int (pa_cons pe_int (pa_cons pe_int (pa_cons pe_int (pa_cons pe_int (pa_cons pe_int (pa_cons pe_int (pa_cons pe_int (pa_cons pe_int (pa_cons pe_int (pa_cons pe_int pa_nil))))))))))))))))))))))))))))))) (pss_one (ps_ret (pe_ix ix_list (pe_op op_cat (pv 1) (pe_lst (pa_cons pe_int pa_nil))) (C8.pe_c (c_law_take T) hr (by decide) rfl (pa_cons (pv 0) (pa_cons pe_int pa_nil))) (fun _ _ => rfl))))), ?_⟩
  obtain ⟨x, rfl, q, rfl, hP, hQ⟩ := h
  refine ⟨by show 29 ≤ sizeLine; decide, fun l hl => ?_⟩
  have e1 := Ext.upd (o := .lst [.int 0, .int 0, .int 0, .int 0, .int 0, .int 2, .int 3, .int 5, .int 7, .int 11, .int 13, .int 17, .int 19, .int 23, .int 29, .int 31, .int 37, .int 41, .int 43, .int 47, .int 53, .int 59, .int 61, .int 67, .int 71, .int 73, .int 79, .int 83, .int 89]) hl
  refine ⟨_, rfl, by show 1 ≤ sizeLine; decide, fun m hm => ?_⟩
  have e2 := Ext.upd (o := .lst [.int 97]) hm
  refine ⟨l, m, _, _, rfl, rfl, e2 _ _ upd_same, upd_same, by show 30 ≤ sizeLine; decide, fun r hr0 => ?_⟩
  have e3 := Ext.upd (o := .lst (primesL.map V.int)) hr0
  have e13 := (e1.trans e2).trans e3
  have hrq : r ≠ q := fun z => by
    obtain ⟨c, s, a, _⟩ := hP
    rw [z, (e1.trans e2) _ _ a] at hr0
    cases hr0
  refine ⟨_, rfl, _, _, rfl, q, 30, rfl, rfl, hP.x e13, by decide, by decide, fun H5 i x5 p5 i0 i1 => ?_⟩
  obtain ⟨p, hp1, hp2⟩ := primesL_ok i.toNat (by omega)
  refine ⟨r, primesL.map V.int, i, .int p, rfl, rfl, SqL.of (x5 _ _ hrq upd_same), ?_, hQ H5 p ((ExB.ofX e13).trans x5) p5 hp2⟩
  have : i = ((i.toNat : Nat) : Int) := by omega
  rw [this]
  exact atI_nat (by rw [List.getElem?_map, hp1]; rfl)
theorem c_law_prime (T : Tx K mg) : C8.Cal P w K mg base 2 "_law_prime" (S1 (k_law_prime K)) [] := cal_of T.F_law_prime T.m_law_prime sc_law_prime (fun _ _ _ _ _ _ us hl => match us, hl with | [_], _ => rfl) len1 (b_law_prime T)

def k_law_number (K : PySem.W.Frag) : K2 := fun x y H Q => ∃ (φ : Fd) (q : Addr), x = .ref q ∧ y = .int φ.p ∧ PoolAt H q ∧ ∀ H' v (n : φ.car), ExB q H H' → PoolAt H' q → NumV K φ H' v n → Sz φ (2 ^ 46) n → Q v H'
theorem sz_number (φ : Fd) {t b : Int} (hb : b = 1 ∨ b = 2 ∨ b = 3) (hn : φ.ic b ≠ 0) (ht : t.natAbs < 10000000000000) : Sz φ (2 ^ 46) (φ.ic t / φ.ic b) := fun _ => by
  have key : ∀ m : Int, b * m = 6 → φ.ic 6 * (φ.ic t / φ.ic b) = φ.ic (m * t) := fun m hm => by
    rw [← hm, φ.ic_mul, φ.ic_mul]
    generalize φ.ic b = B at hn
    generalize φ.ic m = M
    generalize φ.ic t = T
    grind
  rcases hb with rfl | rfl | rfl
  · exact ⟨6 * t, key 6 (by decide), by omega⟩
  · exact ⟨3 * t, key 3 (by decide), by omega⟩
  · exact ⟨2 * t, key 2 (by decide), by omega⟩
theorem good_small (φ : Fd) {b : Int} (hb : b = 1 ∨ b = 2 ∨ b = 3) (h : ¬ (0 < φ.p ∧ b % φ.p = 0)) : Good φ.p b := by
  unfold Good
  by_cases h0 : φ.p = 0
  · rw [if_pos h0]
    omega
  · rw [if_neg h0]
    have := Fd.p_pos h0
    exact fun z => h ⟨by omega, z⟩

abbrev N_law_number : List PySem.Str := ["_law_pool_here", "_law_prime_here", "_law_top", "_law_bottom"]
theorem sc_law_number : FnScope N_law_number ["_law_pool_here", "_law_prime_here"] (defScope s_law_number) := ⟨rfl, rfl, rfl, by decide +kernel, rfl, by decide +kernel, by decide +kernel⟩
theorem b_law_number (T : Tx K mg) : Body P w K mg base 2 "_law_number" (defBody s_law_number) (defScope s_law_number) N_law_number (S2 (k_law_number K)) := fun f cdv A outer s H vs Q E hcd hr h => by
  refine ⟨_, (pss_cons (ps_set (i := 2) sc_law_number.nd rfl (by first | exact Or.inl rfl | exact Or.inr rfl) (pe_op op_sub (C8.pe_c (c_law_take T) hr (by decide) rfl (pa_cons (pv 0) (pa_cons pe_int pa_nil))) pe_int)) (pss_cons (ps_set (i := 3) sc_law_number.nd rfl (by first | exact Or.inl rfl | exact Or.inr rfl) (pe_ix ix_list (pe_lst (pa_cons pe_int (pa_cons pe_int (pa_cons pe_int (pa_cons pe_int pa_nil))))) (C8.pe_c (c_law_take T) hr (by decide) rfl (pa_cons (pv 0) (pa_cons pe_int pa_nil))) (fun _ _ => rfl))) (pss_cons (ps_if (pt_cmpR op_eq (C8.pe_c (c_law_take T) hr (by decide) rfl (pa_cons (pv 0) (pa_cons pe_int pa_nil))) pe_int (nomark _)) (pss_one (ps_set (i := 2) sc_law_number.nd rfl (by first | exact Or.inl rfl | exact Or.inr rfl) (pe_op op_mulW (pv 2) (pe_op op_add (pe_op op_pow pe_int pe_int) (C8.pe_c (c_law_take T) hr (by decide) rfl (pa_cons (pv 0) (pa_cons pe_int pa_nil))))))) pss_nil) (pss_cons (ps_if (PW.pt (pw_and (pt_cmpR op_gt (pv 1) pe_int (nomark _)) (pw_and1 (pt_cmpR op_eq (pe_op op_modN (pv 3) (pv 1)) pe_int (nomark _))))) (pss_one (ps_set (i := 3) sc_law_number.nd rfl (by first | exact Or.inl rfl | exact Or.inr rfl) pe_int)) pss_nil) (pss_one (ps_ret (C8.pe_c (c_law_made T) hr (by decide) rfl (pa_cons (pv 1) (pa_cons (pv 2) (pa_cons (pv 3) pa_nil)))))))))), ?_⟩
  obtain ⟨x, y, rfl, φ, q, rfl, rfl, hP, hQ⟩ := h
  have fin : ∀ (G : Hp) (t b : Int), ExB q H G → PoolAt G q → t.natAbs < 10000000000000 → (b = 1 ∨ b = 2 ∨ b = 3) → (tSeq (tIfS (tAnd (tTest (tOp rGtI (tVar 1) (tC (.int 0)))) (tTest (tOp rEq (tOp rModN (tVar 3) (tVar 1)) (tC (.int 0))))) (tAsg (tC (.int 1)) (gName 3)) tNext) (tRet (tCall (S3 k_law_made) [] C8.E0 (tCons (tVar 1) (tCons (tVar 2) (tCons (tVar 3) tNil))))))
      { nx := fun _ H' => Q .non H', rt := Q } [some (.ref q), some (.int φ.p), some (.int t), some (.int b)] G := fun G t b xG pG ht hb => by
    have last : ∀ b : Int, (b = 1 ∨ b = 2 ∨ b = 3) → Good φ.p b → (tRet (tCall (S3 k_law_made) [] C8.E0 (tCons (tVar 1) (tCons (tVar 2) (tCons (tVar 3) tNil))))) { nx := fun _ H' => Q .non H', rt := Q } [some (.ref q), some (.int φ.p), some (.int t), some (.int b)] G := fun b hb hg => by
      have hne := (φ.good b).mp hg
      refine ⟨_, rfl, _, rfl, _, rfl, _, _, _, rfl, φ.p, t, b, rfl, rfl, rfl, fd_prime φ, hg, by omega, Nat.lt_of_lt_of_le (show b.natAbs < 2 ^ 2 by omega) (Nat.pow_le_pow_right (by decide) (by decide)), Nat.lt_of_lt_of_le (show t.natAbs < 2 ^ 44 by omega) (Nat.pow_le_pow_right (by decide) (by decide)), fun H9 a e9 h0 h9 => ?_⟩
      rw [φ.made t b hne] at h9
      exact hQ H9 (.ref a) _ (xG.trans (.ofX e9)) (pG.x e9) ⟨a, rfl, SqT.of h9⟩ (sz_number φ hb hne ht)
    refine ⟨_, rfl, _, _, rfl, rfl, _, rfl, ?_⟩
    by_cases hp : 0 < φ.p
    · rw [decide_eq_true hp]
      refine iteT ⟨_, rfl, _, rfl, _, _, rfl, rfl, by omega, rfl, _, rfl, ?_⟩
      have e6 : b.fmod φ.p = b % φ.p := Int.fmod_eq_emod_of_nonneg _ (by omega)
      show if decide (V.int (b.fmod φ.p) = V.int 0) = true then _ else _
      rw [e6]
      by_cases hm : b % φ.p = 0
      · rw [hm, decide_eq_true rfl]
        exact iteT (last 1 (.inl rfl) (good_one φ))
      · rw [decide_eq_false fun z => hm (V.int.inj z)]
        exact iteF (last b hb (good_small φ hb fun z => hm z.2))
    · rw [decide_eq_false hp]
      exact iteF (iteF (last b hb (good_small φ hb fun z => hp z.1)))
  refine ⟨_, rfl, _, _, rfl, q, 19, rfl, rfl, hP, by decide, by decide, fun H1 r1 x1 p1 a1 b1 => ⟨_, _, rfl, rfl, ?_⟩⟩
  refine ⟨by show 4 ≤ sizeLine; decide, fun l hl => ?_⟩
  have eL := Ext.upd (o := .lst [.int 1, .int 1, .int 2, .int 3]) hl
  have hlq : l ≠ q := fun z => by
    obtain ⟨c, s, a, _⟩ := p1
    rw [z, a] at hl
    cases hl
  refine ⟨_, rfl, _, _, rfl, q, 4, rfl, rfl, p1.x eL, by decide, by decide, fun H2 r2 x2 p2 a2 b2 => ?_⟩
  have hat : ∃ b : Int, (b = 1 ∨ b = 2 ∨ b = 3) ∧ atI [V.int 1, V.int 1, V.int 2, V.int 3] r2 = some (.int b) := by
    have : r2 = 0 ∨ r2 = 1 ∨ r2 = 2 ∨ r2 = 3 := by omega
    rcases this with rfl | rfl | rfl | rfl
    · exact ⟨1, .inl rfl, atI_nat (j := 0) rfl⟩
    · exact ⟨1, .inl rfl, atI_nat (j := 1) rfl⟩
    · exact ⟨2, .inr (.inl rfl), atI_nat (j := 2) rfl⟩
    · exact ⟨3, .inr (.inr rfl), atI_nat (j := 3) rfl⟩
  obtain ⟨b, hb, hat⟩ := hat
  refine ⟨l, _, r2, .int b, rfl, rfl, SqL.of (x2 _ _ hlq upd_same), hat, ?_⟩
  have x12 := (x1.trans (.ofX eL)).trans x2
  refine ⟨_, rfl, _, _, rfl, q, 8, rfl, rfl, p2, by decide, by decide, fun H3 r3 x3 p3 a3 b3 => ⟨rfl, _, rfl, ?_⟩⟩
  have x13 := x12.trans x3
  by_cases h3 : r3 = 0
  · subst h3
    rw [decide_eq_true rfl]
    refine iteT ⟨_, rfl, _, _, rfl, rfl, ⟨by decide, by decide, by decide⟩, _, rfl, _, _, rfl, q, 1000, rfl, rfl, p3, by decide, by decide, fun H4 r4 x4 p4 a4 b4 => ?_⟩
    have e12 : (10 : Int) ^ (12 : Int).toNat = 1000000000000 := by decide
    have hlo : -(9 * 1100000000000) ≤ (r1 - 9) * (10 ^ (12 : Int).toNat + r4) ∧ (r1 - 9) * (10 ^ (12 : Int).toNat + r4) ≤ 9 * 1100000000000 := by
      rw [e12]
      have g1 : (r1 - 9) * (1000000000000 + r4) ≤ 9 * (1000000000000 + r4) := Int.mul_le_mul_of_nonneg_right (by omega) (by omega)
      have g2 : (-9) * (1000000000000 + r4) ≤ (r1 - 9) * (1000000000000 + r4) := Int.mul_le_mul_of_nonneg_right (by omega) (by omega)
      exact ⟨by omega, by omega⟩
    refine ⟨_, _, rfl, rfl, _, _, rfl, rfl, wide64 (by omega) (by show (10 ^ (12 : Int).toNat + r4).natAbs < 2 ^ 64; rw [e12]; omega), fin H4 _ b (x13.trans x4) p4 (by omega) hb⟩
  · rw [decide_eq_false fun z => h3 (V.int.inj z)]
    exact iteF (fin H3 (r1 - 9) b x13 p3 (by omega) hb)
theorem c_law_number (T : Tx K mg) : C8.Cal P w K mg base 3 "_law_number" (S2 (k_law_number K)) [] := cal_of T.F_law_number T.m_law_number sc_law_number (fun _ _ _ _ _ _ us hl => match us, hl with | [_, _], _ => rfl) len2 (b_law_number T)
end
end FS
set_option Elab.async false
set_option linter.all false
set_option maxRecDepth 100000
set_option maxHeartbeats 4000000
namespace FS
open PySem PySem.Spec PyProof.Rows L2
section
variable {P : Program} {w : World} {K : PySem.W.Frag} {mg : PySem.Str → Option Value} {base : Heap}
theorem prd_set : ∀ a b c : Bool, ∃ j, j < 8 ∧ prd j = (if a then [0] else []) ++ (if b then [1] else []) ++ (if c then [2] else []) := by decide
/-- places that are sorted: a product -/
theorem prd_of {p : Nat} (hp : p < 4) {ns : List Int} (hs : ns.Pairwise (· < ·)) (hb : ∀ k ∈ ns, 0 ≤ k ∧ k < (p : Int)) : ∃ j, j < 8 ∧ ns = prd j ∧ inP p j = true := by
  obtain ⟨j, hj, ej⟩ := prd_set (decide ((0 : Int) ∈ ns)) (decide ((1 : Int) ∈ ns)) (decide ((2 : Int) ∈ ns))
  have e : ns = prd j := by
    refine sorted_eq hs (prd_sorted j hj) fun k => ?_
    rw [ej, List.mem_append, List.mem_append]
    constructor
    · intro hk
      have h1 := hb k hk
      have : k = 0 ∨ k = 1 ∨ k = 2 := by omega
      rcases this with rfl | rfl | rfl
      · rw [decide_eq_true hk]; simp
      · rw [decide_eq_true hk]; simp
      · rw [decide_eq_true hk]; simp
    · rintro ((h | h) | h)
      · by_cases z : (0 : Int) ∈ ns
        · rw [decide_eq_true z] at h
          have : k = 0 := by simpa using h
          rw [this]; exact z
        · rw [decide_eq_false z] at h; simp at h
      · by_cases z : (1 : Int) ∈ ns
        · rw [decide_eq_true z] at h
          have : k = 1 := by simpa using h
          rw [this]; exact z
        · rw [decide_eq_false z] at h; simp at h
      · by_cases z : (2 : Int) ∈ ns
        · rw [decide_eq_true z] at h
          have : k = 2 := by simpa using h
          rw [this]; exact z
        · rw [decide_eq_false z] at h; simp at h
  refine ⟨j, hj, e, ?_⟩
  unfold inP
  rw [List.all_eq_true]
  intro k hk
  rw [← e] at hk
  exact decide_eq_true (hb k hk).2
theorem inV_int (k : Int) : ∀ ns : List Int, inV (.int k) (ns.map V.int) = decide (k ∈ ns)
  | [] => by simp [inV]
  | n :: ns => by
    have ih := inV_int k ns
    unfold inV at ih ⊢
    rw [List.map_cons, List.any_cons, ih]
    have : eqV (.int n) (.int k) = decide (n = k) := by
      unfold eqV
      first | rfl | simp
    rw [this, Bool.eq_iff_iff]
    simp only [Bool.or_eq_true, decide_eq_true_iff, List.mem_cons]
    constructor
    · rintro (h | h)
      · exact .inl h.symm
      · exact .inr h
    · rintro (h | h)
      · exact .inl h.symm
      · exact .inr h
theorem flat_ints : ∀ ns : List Int, (ns.map V.int).all flatV = true
  | [] => rfl
  | n :: ns => by
    rw [List.map_cons, List.all_cons, flat_ints ns]
    rfl
theorem PoolAt.wr {H : Hp} {q F : Addr} {o : HO} (h : PoolAt H q) (hn : q ≠ F) : PoolAt (upd H F o) q := let ⟨c, s, a, b⟩ := h; ⟨c, s, by rw [upd_ne hn]; exact a, b⟩
theorem ExB.wrN {H H1 : Hp} {q F : Addr} {o : HO} (x : ExB q H H1) (hF : H F = none) : ExB q H (upd H1 F o) := fun b u n h => by
  rw [upd_ne (ne_of_none h hF)]
  exact x b u n h
def k_law_product (K : PySem.W.Frag) : K3 := fun x y z H Q => ∃ (q : Addr) (p m : Nat), x = .ref q ∧ y = .int p ∧ z = .int m ∧ 1 ≤ p ∧ p < 4 ∧ m < 4 ∧ PoolAt H q ∧ ∀ H' v j, ExB q H H' → PoolAt H' q → j < 8 → inP p j = true → PrV K H' v j → Q v H'

abbrev N_law_product : List PySem.Str := ["_law_pool_here", "_law_places", "_law_most", "_law_found", "_law_turn", "_law_place"]
theorem sc_law_product : FnScope N_law_product ["_law_pool_here", "_law_places", "_law_most"] (defScope s_law_product) := ⟨rfl, rfl, rfl, by decide +kernel, rfl, by decide +kernel, by decide +kernel⟩
theorem b_law_product (T : Tx K mg) : Body P w K mg base 1 "_law_product" (defBody s_law_product) (defScope s_law_product) N_law_product (S3 (k_law_product K)) := fun f cdv A outer s H vs Q E hcd hr h => by
  refine ⟨_, (pss_cons (ps_set (i := 3) sc_law_product.nd rfl (by first | exact Or.inl rfl | exact Or.inr rfl) (pe_lst pa_nil)) (pss_cons (ps_for PassesOwn.never rfl (pi_range1 rfl T.f_range (pa_cons (C8.pe_c (c_law_take T) hr (by decide) rfl (pa_cons (pv 0) (pa_cons (pe_op op_add (pv 2) pe_int) pa_nil))) pa_nil)) (pg_name (i := 4) sc_law_product.nd rfl (by first | exact Or.inl rfl | exact Or.inr rfl)) (pss_cons (ps_set (i := 5) sc_law_product.nd rfl (by first | exact Or.inl rfl | exact Or.inr rfl) (C8.pe_c (c_law_take T) hr (by decide) rfl (pa_cons (pv 0) (pa_cons (pv 1) pa_nil)))) (pss_one (ps_if (pt_cmpR op_notIn_seq (pv 5) (pv 3) (by first | exact nobehind _ (by decide) (by decide) | rfl)) (pss_one (ps_expr (pe_bm PySem.F.plainAttrs_list PySem.F.slot_list_append PySem.F.type_list_append mt_append (pv 3) (pa_cons (pv 5) pa_nil)))) pss_nil)))) (pss_one (ps_ret (pe_callTy call_tuple_of (by rfl) T.f_tuple (by decide +kernel) (pa_cons (pe_callB cr_sorted (by rfl) T.f_sorted (by decide +kernel) (pa_cons (pv 3) pa_nil)) pa_nil)))))), ?_⟩
  obtain ⟨x, y, z, rfl, q, p, m, rfl, rfl, rfl, hp1, hp, hm, hP, hQ⟩ := h
  refine ⟨by show 0 ≤ sizeLine; exact Nat.zero_le _, fun F hF => ?_⟩
  have eF := Ext.upd (o := .lst []) hF
  have hqF : q ≠ F := fun z => by
    obtain ⟨c, s, a, _⟩ := hP
    rw [z, hF] at a
    cases a
  refine ⟨_, rfl, _, rfl, _, _, rfl, rfl, _, _, rfl, q, (m : Int) + 1, rfl, rfl, hP.x eF, by omega, by omega, fun H1 r x1 p1 r0 r1 => ?_⟩
  refine ⟨r, rfl, by omega, by omega, ?_⟩
  refine for_range (lo := 0) (n := r.toNat) (fun i σ H' => ExB q H H' ∧ PoolAt H' q ∧ (∃ ns : List Int, H' F = some (.lst (ns.map V.int)) ∧ ns.Nodup ∧ ns.length ≤ i ∧ ∀ k ∈ ns, 0 ≤ k ∧ k < (p : Int)) ∧ ∃ o1 o2, σ = [some (.ref q), some (.int p), some (.int m), some (.ref F), o1, o2]) ⟨(ExB.ofX eF).trans x1, p1, ⟨[], x1 _ _ (Ne.symm hqF) upd_same, List.nodup_nil, Nat.zero_le _, (fun _ z => nomatch z)⟩, _, _, rfl⟩ (fun i σ H2 hi z => ?_) fun σ H2 z => ?_
  · obtain ⟨x2, p2, ⟨ns, hns, hnd, hnl, hnb⟩, o1, o2, rfl⟩ := z
    refine ⟨_, rfl, _, rfl, _, _, rfl, q, (p : Int), rfl, rfl, p2, by omega, by omega, fun H3 k x3 p3 k0 k1 => ?_⟩
    have hns3 := x3 _ _ (Ne.symm hqF) hns
    refine ⟨_, rfl, _, rfl, F, _, rfl, .inl (SqL.of hns3), rfl, flat_ints ns, _, rfl, ?_⟩
    show if (!inV (.int k) (ns.map V.int)) = true then _ else _
    rw [inV_int]
    by_cases hk : k ∈ ns
    · rw [decide_eq_true hk]
      exact iteF ⟨x2.trans x3, p3, ⟨ns, hns3, hnd, by omega, hnb⟩, _, _, rfl⟩
    · rw [decide_eq_false hk]
      refine iteT ⟨_, rfl, .inl ⟨rfl, _, SqL.of hns3⟩, _, rfl, F, _, _, rfl, rfl, hns3, ?_, (x2.trans x3).wrN hF, p3.wr hqF, ⟨ns ++ [k], by rw [upd_same, List.map_append]; rfl, ?_, ?_, fun j hj => ?_⟩, _, _, rfl⟩
      · rw [List.length_map]
        exact small1000 (by omega)
      · exact List.nodup_append.mpr ⟨hnd, by simp, fun u hu v hv e => hk (by rw [← List.mem_singleton.mp hv, ← e]; exact hu)⟩
      · rw [List.length_append]
        show ns.length + 1 ≤ i + 1
        omega
      · rcases List.mem_append.mp hj with g | g
        · exact hnb j g
        · rw [List.mem_singleton.mp g]
          exact ⟨k0, k1⟩
  · obtain ⟨x2, p2, ⟨ns, hns, hnd, hnl, hnb⟩, o1, o2, rfl⟩ := z
    refine ⟨_, rfl, F, ns, rfl, SqL.of hns, by omega, fun ns' a perm pw ha => ?_⟩
    have e3 := Ext.upd (o := .lst (ns'.map V.int)) ha
    refine ⟨a, _, rfl, .inl ⟨SqL.of upd_same, fun t ht => ?_⟩⟩
    have hnd' : ns'.Nodup := perm.nodup_iff.mpr hnd
    have hlt : ns'.Pairwise (· < ·) := (List.pairwise_and_iff.mpr ⟨pw, hnd'⟩).imp fun {a b} h => by
      have h1 := h.1
      have h2 : a ≠ b := h.2
      omega
    obtain ⟨j, hj, ej, hin⟩ := prd_of hp hlt fun k hk => hnb k (perm.mem_iff.mp hk)
    have e4 := e3.trans (Ext.upd (o := .tup (ns'.map V.int)) ht)
    exact hQ _ (.ref t) j (x2.trans (.ofX e4)) (p2.x e4) hj hin ⟨t, rfl, SqT.of (by rw [← ej]; exact upd_same)⟩
theorem c_law_product (T : Tx K mg) : C8.Cal P w K mg base 2 "_law_product" (S3 (k_law_product K)) [] := cal_of T.F_law_product T.m_law_product sc_law_product (fun _ _ _ _ _ _ us hl => match us, hl with | [_, _, _], _ => rfl) len3 (b_law_product T)
end
end FS
set_option Elab.async false
set_option linter.all false
set_option maxRecDepth 100000
set_option maxHeartbeats 4000000
namespace FS
open PySem PySem.Spec PyProof.Rows L2
section
variable {P : Program} {w : World} {K : PySem.W.Frag} {mg : PySem.Str → Option Value} {base : Heap}
theorem Sz.mono {φ : Fd} {B C : Nat} {x : φ.car} (h : Sz φ B x) (l : B ≤ C) : Sz φ C x := fun z => let ⟨a, b, c⟩ := h z; ⟨a, b, Nat.lt_of_lt_of_le c l⟩
theorem Sz.add {φ : Fd} {B C : Nat} {x y : φ.car} (h : Sz φ B x) (k : Sz φ C y) : Sz φ (B + C) (x + y) := fun z => by
  obtain ⟨a, b, c⟩ := h z
  obtain ⟨a', b', c'⟩ := k z
  refine ⟨a + a', ?_, by omega⟩
  rw [φ.ic_add, ← b, ← b']
  grind
theorem Sz.zero {φ : Fd} {B : Nat} (h : 0 < B) : Sz φ B 0 := fun _ => ⟨0, by rw [φ.ic_zero]; grind, h⟩
theorem sz_coef {φ : Fd} {B : Nat} (j : Nat) : ∀ {ts : List (Nat × φ.car)}, (∀ t ∈ ts, Sz φ B t.2) → Sz φ (ts.length * B + 1) (coef ts j)
  | [], _ => Sz.zero (by omega)
  | t :: ts, h => by
    rw [coef_cons]
    have ih := sz_coef j (ts := ts) fun u hu => h u (List.mem_cons_of_mem _ hu)
    have e : (t :: ts).length * B + 1 = B + (ts.length * B + 1) := by
      rw [List.length_cons, Nat.succ_mul]
      omega
    rw [e]
    by_cases z : t.1 = j
    · rw [if_pos z]
      exact (h t List.mem_cons_self).add ih
    · rw [if_neg z]
      have : (0 : φ.car) + coef ts j = coef ts j := by grind
      rw [this]
      exact ih.mono (by omega)
theorem sz_lsum {φ : Fd} {B : Nat} {c : Nat → φ.car} : ∀ {js : List Nat}, (∀ j ∈ js, Sz φ B (c j)) → Sz φ (js.length * B + 1) (lsum c js)
  | [], _ => Sz.zero (by omega)
  | j :: js, h => by
    rw [lsum_cons]
    have ih := sz_lsum (js := js) fun u hu => h u (List.mem_cons_of_mem _ hu)
    have e : (j :: js).length * B + 1 = B + (js.length * B + 1) := by
      rw [List.length_cons, Nat.succ_mul]
      omega
    rw [e]
    exact (h j List.mem_cons_self).add ih
theorem div_abs (a : Int) (g : Nat) : (a / (g : Int)).natAbs ≤ a.natAbs := by
  rcases Nat.eq_zero_or_pos g with h | h
  · subst h
    rw [Int.natCast_zero, Int.ediv_zero]
    exact Nat.zero_le _
  · have h1 : (a / (g : Int)) < (a.natAbs : Int) + 1 := by
      refine (Int.ediv_lt_iff_lt_mul (by omega)).mpr ?_
      have : ((a.natAbs : Int) + 1) * 1 ≤ ((a.natAbs : Int) + 1) * (g : Int) := Int.mul_le_mul_of_nonneg_left (by omega) (by omega)
      omega
    have h2 : -(a.natAbs : Int) ≤ a / (g : Int) := by
      refine (Int.le_ediv_iff_mul_le (by omega)).mpr ?_
      have : (a.natAbs : Int) * 1 ≤ (a.natAbs : Int) * (g : Int) := Int.mul_le_mul_of_nonneg_left (by omega) (by omega)
      rw [Int.neg_mul]
      omega
    omega
theorem sz_small {φ : Fd} {x : φ.car} (h : Sz φ (2 ^ 60) x) : Small φ x := by
  have big : ∀ n : Nat, n < 2 ^ 60 → n < 2 ^ 4400 := fun n hn => Nat.lt_of_lt_of_le hn (Nat.pow_le_pow_right (by decide) (by decide))
  by_cases h0 : φ.p = 0
  · obtain ⟨a, e, b⟩ := h h0
    have h6 : φ.ic 6 ≠ 0 := (φ.good 6).mp (by unfold Good; rw [if_pos h0]; decide)
    have ex : φ.ic a / φ.ic 6 = x := by
      rw [← e]
      generalize φ.ic 6 = s at h6
      grind
    have hm := φ.made a 6 h6
    rw [ex] at hm
    unfold madeM at hm
    rw [if_pos h0] at hm
    unfold Small
    rw [← hm]
    unfold lowM
    refine ⟨big _ ?_, big _ ?_⟩
    · show ((6 : Int).sign * a / ((Int.gcd 6 a : Nat) : Int)).natAbs < _
      have : (6 : Int).sign * a = a := by show 1 * a = a; omega
      rw [this]
      exact Nat.lt_of_le_of_lt (div_abs a _) b
    · show (((6 : Int).natAbs / Int.gcd 6 a : Nat) : Int).natAbs < _
      rw [Int.natAbs_natCast]
      exact Nat.lt_of_le_of_lt (Nat.div_le_self _ _) (by decide)
  · obtain ⟨c1, c2, c3⟩ := φ.canonp h0 x
    have := Fd.p_pos h0
    unfold Small
    rw [c1]
    exact ⟨big _ (by omega), big _ (by decide)⟩
/-- few small terms gather well -/
theorem gat_sz {φ : Fd} {B : Nat} {ts : List (Nat × φ.car)} (h : ∀ t ∈ ts, Sz φ B t.2) (hl : ts.length * B + 1 ≤ 2 ^ 60) (hB : B ≤ 2 ^ 60) : GatOk φ ts := by
  refine ⟨fun t ht => sz_small ((h t ht).mono hB), fun i j => sz_small ?_⟩
  refine (sz_coef j fun t ht => h t (List.mem_of_mem_take ht)).mono (Nat.le_trans ?_ hl)
  have : (ts.take i).length * B ≤ ts.length * B := Nat.mul_le_mul_right _ (by rw [List.length_take]; exact Nat.min_le_right _ _)
  omega
theorem fresh_exb {H H' : Hp} {q l : Addr} (x : ExB q H H') (p : PoolAt H' q) (h : H' l = none) : H l = none := by
  cases z : H l with
  | none => rfl
  | some o =>
    by_cases e : l = q
    · obtain ⟨c, s, a, _⟩ := p
      rw [e, a] at h
      cases h
    · rw [x _ _ e z] at h
      cases h
def k_law_terms (K : PySem.W.Frag) : K5 := fun x y z u v H Q => ∃ (φ : Fd) (q : Addr) (p n m : Nat), x = .ref q ∧ y = .int φ.p ∧ z = .int p ∧ u = .int n ∧ v = .int m ∧ 1 ≤ p ∧ p < 4 ∧ n ≤ 4 ∧ m < 4 ∧ PoolAt H q ∧
  ∀ H' l c, ExB q H H' → PoolAt H' q → H l = none → RowsW K φ H' l c → Within p c → (∀ j, Sz φ (2 ^ 49) (c j)) → Q (.ref l) H'

abbrev N_law_terms : List PySem.Str := ["_law_pool_here", "_law_prime_here", "_law_places", "_law_many", "_law_most", "_law_rows", "_law_k"]
theorem sc_law_terms : FnScope N_law_terms ["_law_pool_here", "_law_prime_here", "_law_places", "_law_many", "_law_most"] (defScope s_law_terms) := ⟨rfl, rfl, rfl, by decide +kernel, rfl, by decide +kernel, by decide +kernel⟩
theorem b_law_terms (T : Tx K mg) : Body P w K mg base 4 "_law_terms" (defBody s_law_terms) (defScope s_law_terms) N_law_terms (S5 (k_law_terms K)) := fun f cdv A outer s H vs Q E hcd hr h => by
  refine ⟨_, (pss_cons (ps_setLc (i := 5) (own := [("_law_k", 6)]) (g := (gName 6)) (tt := tYes) (te := (tTup (tCons (tCall (S3 (k_law_product K)) [] C8.E0 (tCons (tVar 0) (tCons (tVar 2) (tCons (tVar 4) tNil)))) (tCons (tCall (S2 (k_law_number K)) [] C8.E0 (tCons (tVar 0) (tCons (tVar 1) tNil))) tNil)))) rfl sc_law_terms.nd rfl rfl (sw_true rfl rfl rfl (by decide +kernel)) (pi_range1 rfl T.f_range (pa_cons (C8.pe_c (c_law_take T) hr (by decide) rfl (pa_cons (pv 0) (pa_cons (pe_op op_add (pv 3) pe_int) pa_nil))) pa_nil)) (blkOk_by (N := N_law_terms) (sc := defScope s_law_terms) (by decide +kernel)) (fun _ _ _ _ _ => (pg_name (i := 6) sc_law_terms.nd rfl (by first | exact Or.inl rfl | exact Or.inr rfl))) (fun _ _ _ _ _ => pts_nil) (fun _ _ _ _ _ => (pe_tup (pa_cons (C8.pe_c (c_law_product T) hr (by decide) rfl (pa_cons (pv 0) (pa_cons (pv 2) (pa_cons (pv 4) pa_nil)))) (pa_cons (C8.pe_c (c_law_number T) hr (by decide) rfl (pa_cons (pv 0) (pa_cons (pv 1) pa_nil))) pa_nil))))) (pss_one (ps_ret (C8.pe_c (c_law_gathered T) hr (by decide) rfl (pa_cons (pv 1) (pa_cons (pv 5) pa_nil)))))), ?_⟩
  obtain ⟨x, y, z, u, v, rfl, φ, q, p, n, m, rfl, rfl, rfl, rfl, rfl, hp1, hp, hn, hm, hP, hQ⟩ := h
  refine ⟨_, rfl, _, rfl, _, _, rfl, rfl, _, _, rfl, q, (n : Int) + 1, rfl, rfl, hP, by omega, by omega, fun H1 r x1 p1 r0 r1 => ?_⟩
  refine ⟨r, rfl, by omega, by omega, fun D hD => ?_⟩
  have hD0 : H D = none := fresh_exb x1 p1 hD
  have hqD : q ≠ D := fun z => by
    obtain ⟨c, s, a, _⟩ := p1
    rw [z, hD] at a
    cases a
  refine lc_range (lo := 0) (n := r.toNat) (fun i H' => ExB q H H' ∧ PoolAt H' q ∧ ∃ (acc : List V) (ts : List (Nat × φ.car)), H' D = some (.lst acc) ∧ Paired (TermV K φ H') acc ts ∧ ts.length = i ∧ ∀ t ∈ ts, inP p t.1 = true ∧ Sz φ (2 ^ 46) t.2) ⟨x1.wrN hD0, p1.wr hqD, [], [], upd_same, .nil, rfl, (fun _ z => nomatch z)⟩ (fun i H2 hi z => ?_) fun H2 z => ?_
  · obtain ⟨x2, p2, acc, ts, hac, hpa, htl, hts⟩ := z
    refine ⟨rfl, t_yes ⟨_, rfl, _, rfl, _, rfl, _, _, _, rfl, q, p, m, rfl, rfl, rfl, hp1, hp, hm, p2, fun H3 v j x3 p3 hj hin hpr => ?_⟩⟩
    refine ⟨_, rfl, _, rfl, _, _, rfl, φ, q, rfl, rfl, p3, fun H4 nv x x4 p4 hnv hsz => ?_⟩
    refine ⟨by show 2 ≤ sizeLine; decide, fun t ht => ?_⟩
    have hac4 := x4 _ _ (Ne.symm hqD) (x3 _ _ (Ne.symm hqD) hac)
    have hDt : D ≠ t := ne_of_none hac4 ht
    have eT := Ext.upd (o := .tup [v, nv]) ht
    have hacT := eT _ _ hac4
    obtain ⟨c2, s2, a2, _⟩ := id p2
    obtain ⟨c3, s3, a3, _⟩ := id p3
    have tp4 := ((x3.tups (lst_noTup a2)).trans (x4.tups (lst_noTup a3))).trans (.ofX eT)
    have tp34 := (x4.tups (lst_noTup a3)).trans (.ofX eT)
    have tpD := Tups.upd (o := .lst (acc ++ [.ref t])) (lst_noTup hacT)
    have hal : acc.length = ts.length := Paired.length hpa
    refine ⟨acc, hacT, small1000 (by omega), (((x2.trans x3).trans x4).trans (.ofX eT)).wrN hD0, (p4.x eT).wr hqD, acc ++ [.ref t], ts ++ [(j, x)], upd_same, ?_, by rw [List.length_append, htl]; rfl, fun t' ht' => ?_⟩
    · exact paired_append (paired_tp (paired_tp hpa tp4) tpD) (.cons ⟨t, v, nv, rfl, tpD.sqt (SqT.of upd_same), hj, (hpr.tp tp34).tp tpD, ((hnv.xn (.ofX eT)).tp tpD)⟩ .nil)
    · rcases List.mem_append.mp ht' with g | g
      · exact hts t' g
      · rw [List.mem_singleton.mp g]
        exact ⟨hin, hsz⟩
  · obtain ⟨x2, p2, acc, ts, hac, hpa, htl, hts⟩ := z
    have hl4 : ts.length ≤ 4 := by omega
    have hlB : ts.length * 2 ^ 46 + 1 ≤ 2 ^ 49 := by
      have : ts.length * 2 ^ 46 ≤ 4 * 2 ^ 46 := Nat.mul_le_mul_right _ hl4
      exact Nat.le_trans (Nat.succ_le_succ this) (by decide)
    obtain ⟨g1, g2⟩ := gat_sz (fun t ht => (hts t ht).2) (Nat.le_trans hlB (by decide)) (by decide)
    refine ⟨_, rfl, _, rfl, _, _, rfl, φ, ts, D, rfl, rfl, ⟨acc, SqL.of hac, hpa⟩, g1, g2, fun H' l e hl0 hR => ?_⟩
    refine hQ H' l (coef ts) (x2.trans (.ofX e)) (p2.x e) (fresh_exb x2 p2 hl0) hR (fun j hj hne => ?_) fun j => (sz_coef j fun t ht => (hts t ht).2).mono hlB
    refine Classical.byContradiction fun z => hne (coef_none fun t ht e => z ?_)
    rw [← e]
    exact (hts t ht).1
theorem c_law_terms (T : Tx K mg) : C8.Cal P w K mg base 5 "_law_terms" (S5 (k_law_terms K)) [] := cal_of T.F_law_terms T.m_law_terms sc_law_terms (fun _ _ _ _ _ _ us hl => match us, hl with | [_, _, _, _, _], _ => rfl) len5 (b_law_terms T)
end
end FS
set_option Elab.async false
set_option linter.all false
set_option maxRecDepth 100000
set_option maxHeartbeats 4000000
namespace FS
open PySem PySem.Spec PyProof.Rows L2
section
variable {P : Program} {w : World} {K : PySem.W.Frag} {mg : PySem.Str → Option Value} {base : Heap}
/-- rows as a value -/
def RowsV (K : PySem.W.Frag) (φ : Fd) (H : Hp) (v : V) (c : Nat → φ.car) : Prop := ∃ l, v = .ref l ∧ RowsW K φ H l c
theorem RowsV.xn {φ : Fd} {H H' : Hp} {v : V} {c : Nat → φ.car} (h : RowsV K φ H v c) (e : XN H H') : RowsV K φ H' v c := let ⟨l, a, b⟩ := h; ⟨l, a, b.xn e⟩
/-- a list of rows -/
def Ones (K : PySem.W.Frag) (φ : Fd) (H : Hp) (l : Addr) (cs : List (Nat → φ.car)) : Prop := ∃ vs, H l = some (.lst vs) ∧ Paired (RowsV K φ H) vs cs
theorem Ones.xn {φ : Fd} {H H' : Hp} {l : Addr} {cs : List (Nat → φ.car)} (h : Ones K φ H l cs) (e : XN H H') : Ones K φ H' l cs := let ⟨vs, a, b⟩ := h; ⟨vs, e _ _ a (fun _ z => by cases z), Paired.mapP b fun _ _ q => q.xn e⟩
theorem RowsAt.congr {φ : Fd} {H : Hp} {l : Addr} {c c' : Nat → φ.car} (h : RowsAt K φ H l c) (e : ∀ j, j < 8 → c j = c' j) : RowsAt K φ H l c' := let ⟨ts, a, b, d, f⟩ := h; ⟨ts, a, b, d, fun j hj => (f j hj).trans (e j hj)⟩
theorem SumL.congr {φ : Fd} {H : Hp} {a l : Addr} {c c' : Nat → φ.car} (h : SumL K φ H a l c) (e : ∀ j, j < 8 → c j = c' j) : SumL K φ H a l c' := let ⟨dx, fa, a1, a2, a3, a4⟩ := h; ⟨dx, fa, a1, a2, a3.congr e, a4⟩
/-- what the law's sums keep -/
structure Nice (φ : Fd) (p : Nat) (c : Nat → φ.car) : Prop where
  wi : Within p c
  sz : ∀ j, j < 8 → Sz φ (2 ^ 56) (c j)
theorem nodup8 {js : List Nat} (hn : js.Nodup) (h : ∀ j ∈ js, j < 8) : js.length ≤ 8 := by
  have := nodup_le (ks := js.map nkP) (nk := nkP) (n := 8) ?_ fun k hk => ?_
  · rwa [List.length_map] at this
  · exact List.pairwise_map.mpr (List.Pairwise.imp_of_mem (fun {u v} hu hv hne z => hne (nkP_inj (h u hu) (h v hv) z)) hn)
  · obtain ⟨j, hj, rfl⟩ := List.mem_map.mp hk
    exact ⟨j, h j hj, rfl⟩
theorem Nice.sub {φ : Fd} {p : Nat} {c : Nat → φ.car} (h : Nice φ p c) : SubSm φ c := fun js hn h8 => sz_small (by
  refine (sz_lsum fun j hj => h.sz j (h8 j hj)).mono ?_
  have h1 : js.length ≤ 8 := nodup8 hn h8
  have : js.length * 2 ^ 56 ≤ 8 * 2 ^ 56 := Nat.mul_le_mul_right _ h1
  exact Nat.le_trans (Nat.succ_le_succ this) (by decide))
theorem Nice.sm {φ : Fd} {p : Nat} {c : Nat → φ.car} (h : Nice φ p c) {j : Nat} (hj : j < 8) : Small φ (c j) := sz_small ((h.sz j hj).mono (by decide))
def k_law_system (K : PySem.W.Frag) : K4 := fun x y z u H Q => ∃ (φ : Fd) (p : Nat) (cs : List (Nat → φ.car)) (ln lu : Addr), x = .int φ.p ∧ y = .int p ∧ z = .ref ln ∧ u = .ref lu ∧ H lu = some (.lst []) ∧ Ones K φ H ln cs ∧ 1 ≤ p ∧ p < 4 ∧ cs.length ≤ 10 ∧ (∀ c ∈ cs, Nice φ p c) ∧ TabsK K H ∧
  ∀ H' a, XN H H' → TabsK K H' → SysAt K φ H' a p cs → Q (.ref a) H'

abbrev N_law_system : List PySem.Str := ["_law_prime_here", "_law_places", "_law_noughts", "_law_uppers", "_law_field", "_law_sums", "_law_terms_here"]
theorem sc_law_system : FnScope N_law_system ["_law_prime_here", "_law_places", "_law_noughts", "_law_uppers"] (defScope s_law_system) := ⟨rfl, rfl, rfl, by decide +kernel, rfl, by decide +kernel, by decide +kernel⟩
theorem b_law_system (T : Tx K mg) (TB : LamX.TabB base mg (He.cT K ("gathered", none)).1 (He.cT K ("gathered", none)).2) : Body P w K mg base 7 "_law_system" (defBody s_law_system) (defScope s_law_system) N_law_system (S4 (k_law_system K)) := fun f cdv A outer s H vs Q E hcd hr h => by
  refine ⟨_, (pss_cons (ps_set (i := 4) sc_law_system.nd rfl (by first | exact Or.inl rfl | exact Or.inr rfl) (C8.pe_mk (c_Field_init T) hr (by decide) rfl (pa_cons (pv 0) pa_nil))) (pss_cons (ps_setLc (i := 5) (own := [("_law_terms_here", 6)]) (g := (gName 6)) (tt := tYes) (te := (tMake (He.ga K "Sum") _ _ E0 (tCons (tVar 4) (tCons (tCB (rListS K) (tCons (tVar 6) tNil)) tNil)))) rfl sc_law_system.nd rfl rfl (sw_true rfl rfl rfl (by decide +kernel)) (pi_list (pv 2)) (blkOk_by (N := N_law_system) (sc := defScope s_law_system) (by decide +kernel)) (fun _ _ _ _ _ => (pg_name (i := 6) sc_law_system.nd rfl (by first | exact Or.inl rfl | exact Or.inr rfl))) (fun _ _ _ _ _ => pts_nil) (fun _ _ _ _ _ => (C8.pe_mk (c_Sum_init T TB) hr (by decide) rfl (pa_cons (pv 4) (pa_cons (pe_callTy call_list_of (by rfl) T.f_list (by decide +kernel) (pa_cons (pv 6) pa_nil)) pa_nil))))) (pss_cons (ps_if (pt_cmpR (op_eqD (hu64 hr)) (pv 3) (pe_lst pa_nil) (nomark _)) (pss_one (ps_ret (C8.pe_mk (c_System_init4 T) hr (by decide) rfl (pa_cons (pv 4) (pa_cons (pv 1) (pa_cons (pv 5) pa_nil)))))) pss_nil) (pss_one (ps_ret pe_nev))))), ?_⟩
  obtain ⟨x, y, z, u, rfl, φ, p, cs, ln, lu, rfl, rfl, rfl, rfl, hlu, ⟨vs, hln, hpd⟩, hp1, hp, hlen, hnice, hTb, hQ⟩ := h
  have hvl : vs.length = cs.length := Paired.length hpd
  refine ⟨_, rfl, ?_⟩
  intro fa dyf hfa hdyf hnef
  have eN : Ext H (upd (upd H dyf (.own fa)) fa (.ins (He.ga K "Field") dyf [])) := (Ext.upd hdyf).upd' (by rw [upd_ne (Ne.symm hnef)]; exact hfa)
  refine ⟨_, _, rfl, fa, dyf, φ.p, rfl, rfl, upd_same, φ.prime, fun H1 e1 => ⟨rfl, ?_⟩⟩
  have e01 := (eN.trans e1).wr (o := .ins (He.ga K "Field") dyf [("own_prime", .int φ.p)]) hfa
  have hF : FieldAt K (upd H1 fa (.ins (He.ga K "Field") dyf [("own_prime", .int φ.p)])) fa φ.p := ⟨dyf, upd_same⟩
  refine ⟨_, rfl, ln, rfl, ⟨vs, SqL.of (e01 _ _ hln)⟩, fun D hD => ?_⟩
  have hD0 : H D = none := fresh_of e01 hD
  refine lc_list (K := K) (xs := vs) (fun i H' => XN (upd H1 fa (.ins (He.ga K "Field") dyf [("own_prime", .int φ.p)])) H' ∧ TabsK K H' ∧ ∃ acc, H' D = some (.lst acc) ∧ Paired (WishD K φ H' D) acc (cs.take i)) ⟨.ofX (Ext.upd hD), (hTb.x e01).x (Ext.upd hD), [], upd_same, .nil⟩ (fun i H' _ z => SqL.of (z.1 _ _ (e01 _ _ hln) (fun _ z => by cases z))) (fun i x H3 hx1 z => ?_) fun H3 z => ?_
  · obtain ⟨x3, t3, acc, hac, hap⟩ := z
    obtain ⟨c, hc, ⟨l, rfl, ⟨ts, xs, hxs0, hpt, hnd, hnz, hcf⟩⟩⟩ := paired_at hpd hx1
    have hxs : SqL K H l xs := SqL.of hxs0
    have hcm := List.mem_of_getElem? hc
    have tk : cs.take (i + 1) = cs.take i ++ [c] := by rw [List.take_add_one, hc]; rfl
    have x03 : XN H H3 := (XN.ofX e01).trans x3
    have h8 := mem_lt hpt
    obtain ⟨c1, c2⟩ := rows_iff hnd hnz h8 hcf
    have hsm : ∀ t ∈ ts, Small φ t.2 := fun t ht => by
      rw [← c1 t ht]
      exact (hnice c hcm).sm (h8 t ht)
    refine ⟨rfl, t_yes ⟨_, rfl, _, rfl, l, xs, rfl, .inl (sql_extN hxs x03), fun l' hl' => ?_⟩⟩
    have eL := Ext.upd (o := .lst xs) hl'
    intro bb dy hbb hdy hne
    have eB := eL.trans ((Ext.upd (o := .own bb) hdy).upd' (o := .ins (He.ga K "Sum") dy []) (by rw [upd_ne (Ne.symm hne)]; exact hbb))
    have hl'b : l' ≠ bb := ne_of_none upd_same hbb
    have hl'd : l' ≠ dy := ne_of_none upd_same hdy
    refine ⟨_, _, _, rfl, φ, ts, bb, dy, fa, l', rfl, rfl, rfl, upd_same, (hF.xn x3).ext eB, ⟨xs, SqL.of (by rw [upd_ne hl'b, upd_ne hl'd]; exact upd_same), paired_xn hpt (x03.trans (XN.ofX eB))⟩, t3.x eB, hsm, coef_sm hnd hsm, fun H9 pl x9 t9 n9 s9 => ⟨rfl, ?_⟩⟩
    have x59 : XN H3 H9 := fun q u hq nt => x9 q u (fun z => by rw [z] at hq; rw [eL _ _ hq] at hbb; cases hbb) (eB _ _ hq) nt
    have hac9 := x59 _ _ hac (fun _ z => by cases z)
    have hacB := eB _ _ hac
    have nD : pl ≠ D := fun z => by
      obtain ⟨ps, e⟩ := n9 _ (by rw [z]; exact hacB)
      cases e
    have xb : ExB D H9 (upd H9 D (.lst (acc ++ [.ref bb]))) := fun q u nq hq => by
      rw [upd_ne nq]
      exact hq
    have hal : acc.length = (cs.take i).length := Paired.length hap
    have hal2 : (cs.take i).length ≤ cs.length := by rw [List.length_take]; exact Nat.min_le_right _ _
    refine ⟨acc, hac9, small1000 (by omega), XN.wr (x3.trans x59) (.of hD), t9.wr hac9 (fun _ z => by cases z) lst_no_code, acc ++ [.ref bb], upd_same, ?_⟩
    rw [tk]
    exact paired_append (Paired.mapP hap fun _ _ q => (q.xn x59).wr xb hac9) (.cons ⟨bb, pl, rfl, (s9.congr hcf).exb xb hac9 nD, nD⟩ .nil)
  · obtain ⟨x3, t3, acc, hac, hap⟩ := z
    rw [hvl, List.take_length] at hap
    have x03 : XN H H3 := (XN.ofX e01).trans x3
    refine ⟨_, rfl, by show 0 ≤ sizeLine; exact Nat.zero_le _, fun e0 he0 => ?_⟩
    have eE := Ext.upd (o := .lst []) he0
    have hlu3 := eE _ _ (x03 _ _ hlu (fun _ z => by cases z))
    refine ⟨.list [], .list [], .lst (SqL.of hlu3) .nil, .lst (SqL.of upd_same) .nil, rfl, rfl, _, rfl, iteT ?_⟩
    refine ⟨_, rfl, _, rfl, _, rfl, ?_⟩
    intro b dy hb hdy hne
    have eB := eE.trans ((Ext.upd (o := .own b) hdy).upd' (o := .ins (He.ga K "System") dy []) (by rw [upd_ne (Ne.symm hne)]; exact hb))
    refine ⟨_, _, _, _, _, rfl, φ, b, dy, fa, D, p, cs, rfl, rfl, rfl, rfl, upd_same, (hF.xn x3).ext eB, hp1, hp, ⟨acc, eB _ _ hac, Paired.mapP hap fun _ _ q => (q.xn (.ofX eB)).ww⟩, fun c hc => (hnice c hc).wi, hlen, .inl rfl, fun H9 x9 s9 => ⟨rfl, ?_⟩⟩
    have hb3 : H3 b = none := fresh_of eE hb
    have xl : Ext H3 H9 := ext_exb eB hb3 x9
    exact hQ H9 b (x03.trans (XN.ofX xl)) (t3.x xl) s9
theorem c_law_system (T : Tx K mg) (TB : LamX.TabB base mg (He.cT K ("gathered", none)).1 (He.cT K ("gathered", none)).2) : C8.Cal P w K mg base 8 "_law_system" (S4 (k_law_system K)) [] := cal_of T.F_law_system T.m_law_system sc_law_system (fun _ _ _ _ _ _ us hl => match us, hl with | [_, _, _, _], _ => rfl) len4 (b_law_system T TB)
end
end FS
set_option Elab.async false
set_option linter.all false
set_option maxRecDepth 100000
set_option maxHeartbeats 4000000
namespace FS
open PySem PySem.Spec PyProof.Rows L2
/-- what least needs, and what it finds -/
structure LeastOk (φ : Fd) (p : Nat) (cs : List (Nat → φ.car)) (D : Nat) : Prop where
  run : (rowsM p).filter (grantsM cs) = [] → D ≤ 300 ∧ (∀ d, d ≤ D → ToldOk φ p d cs) ∧ (∀ d, d < D → wordM p d cs = "worths") ∧ wordM p D cs = "showing"
  top : (rowsM p).filter (grantsM cs) = [] → D ≤ p + maxDeg cs
  three : (rowsM p).filter (grantsM cs) ≠ [] → ToldOk φ p 3 cs ∧ wordM p 3 cs = "worths"
def leastM {φ : Fd} (p : Nat) (cs : List (Nat → φ.car)) (D : Nat) : Int := if (rowsM p).filter (grantsM cs) = [] then (D : Int) else 1000
section
variable {P : Program} {w : World} {K : PySem.W.Frag} {mg : PySem.Str → Option Value} {base : Heap}
def k_law_least_of (K : PySem.W.Frag) : K1 := fun x H Q => ∃ (φ : Fd) (a : Addr) (p : Nat) (cs : List (Nat → φ.car)) (D : Nat), x = .ref a ∧ SysAt K φ H a p cs ∧ p < 4 ∧ cs.length ≤ 10 ∧ (∀ c ∈ cs, Nice φ p c) ∧ TabsK K H ∧ LeastOk φ p cs D ∧
  ∀ H', XN H H' → TabsK K H' → Q (.int (leastM p cs D)) H'

abbrev N_law_least_of : List PySem.Str := ["_law_system_here", "_law_found"]
theorem sc_law_least_of : FnScope N_law_least_of ["_law_system_here"] (defScope s_law_least_of) := ⟨rfl, rfl, rfl, by decide +kernel, rfl, by decide +kernel, by decide +kernel⟩
theorem b_law_least_of (T : Tx K mg) (TB : LamX.TabB base mg (He.cT K ("gathered", none)).1 (He.cT K ("gathered", none)).2) : Body P w K mg base 9 "_law_least_of" (defBody s_law_least_of) (defScope s_law_least_of) N_law_least_of (S1 (k_law_least_of K)) := fun f cdv A outer s H vs Q E hcd hr h => by
  refine ⟨_, (pss_cons (ps_set (i := 1) sc_law_least_of.nd rfl (by first | exact Or.inl rfl | exact Or.inr rfl) (C8.pe_c (c_least T TB) hr (by decide) rfl (pa_cons (pv 0) pa_nil))) (pss_cons (ps_if (pt_cmpR op_eq (pe_ix ix_tup (pv 1) pe_int (fun _ _ => rfl)) pe_str (nomark _)) (pss_one (ps_ret pe_int)) pss_nil) (pss_one (ps_ret (pe_ix ix_tup (pv 1) pe_int (fun _ _ => rfl)))))), ?_⟩
  obtain ⟨x, rfl, φ, a, p, cs, D, rfl, hS, hp, hlen, hN, hTb, hD, hQ⟩ := h
  refine ⟨_, rfl, _, rfl, φ, a, p, cs, D, rfl, hS, hp, hlen, fun c hc => ⟨(hN c hc).wi, (hN c hc).sub⟩, hTb, hD.run, fun f0 fs H' t v hf x9 t9 hv ht => ?_, fun H' t v1 v2 hf x9 t9 ht => ?_⟩
  · have e : leastM p cs D = 1000 := by unfold leastM; rw [hf]; rfl
    rw [e] at hQ
    refine ⟨_, rfl, t, _, _, _, rfl, rfl, ht, atI_nat (j := 0) rfl, rfl, _, rfl, ?_⟩
    rw [decide_eq_true rfl]
    exact iteT (hQ H' x9 t9)
  · have e : leastM p cs D = (D : Int) := by unfold leastM; rw [hf]; rfl
    rw [e] at hQ
    refine ⟨_, rfl, t, _, _, _, rfl, rfl, ht, atI_nat (j := 0) rfl, rfl, _, rfl, ?_⟩
    rw [decide_eq_false (show ¬ V.str "least" = V.str "filled" by decide)]
    exact iteF ⟨_, rfl, t, _, _, _, rfl, rfl, ht, atI_nat (j := 1) rfl, hQ H' x9 t9⟩
theorem c_law_least_of (T : Tx K mg) (TB : LamX.TabB base mg (He.cT K ("gathered", none)).1 (He.cT K ("gathered", none)).2) : C8.Cal P w K mg base 10 "_law_least_of" (S1 (k_law_least_of K)) [] := cal_of T.F_law_least_of T.m_law_least_of sc_law_least_of (fun _ _ _ _ _ _ us hl => match us, hl with | [_], _ => rfl) len1 (b_law_least_of T TB)

def k_law_ends (K : PySem.W.Frag) : K2 := fun x y H Q => ∃ (φ : Fd) (a : Addr) (p : Nat) (cs : List (Nat → φ.car)) (D : Nat), x = .ref a ∧ y = .int (leastM p cs D) ∧ SysAt K φ H a p cs ∧ p < 4 ∧ cs.length ≤ 10 ∧ (∀ c ∈ cs, Nice φ p c) ∧ TabsK K H ∧ LeastOk φ p cs D ∧
  ∀ H', XN H H' → TabsK K H' → Q (.bl true) H'
theorem fill_of {φ : Fd} {p : Nat} (hp : p < 4) {cs : List (Nat → φ.car)} {f0 : List Int} {fs : List (List Int)} (h : (rowsM p).filter (grantsM cs) = f0 :: fs) : IsFill p f0 ∧ grantsM cs f0 = true := by
  have : f0 ∈ (rowsM p).filter (grantsM cs) := by rw [h]; exact List.mem_cons_self
  obtain ⟨h1, h2⟩ := List.mem_filter.mp this
  obtain ⟨g1, g2⟩ := rowsM_fill p hp f0 h1
  exact ⟨⟨g1, g2⟩, h2⟩

abbrev N_law_ends : List PySem.Str := ["_law_system_here", "_law_degree"]
theorem sc_law_ends : FnScope N_law_ends ["_law_system_here", "_law_degree"] (defScope s_law_ends) := ⟨rfl, rfl, rfl, by decide +kernel, rfl, by decide +kernel, by decide +kernel⟩
theorem b_law_ends (T : Tx K mg) (TB : LamX.TabB base mg (He.cT K ("gathered", none)).1 (He.cT K ("gathered", none)).2) : Body P w K mg base 9 "_law_ends" (defBody s_law_ends) (defScope s_law_ends) N_law_ends (S2 (k_law_ends K)) := fun f cdv A outer s H vs Q E hcd hr h => by
  refine ⟨_, (pss_cons (ps_if (pt_cmpR op_eq (pv 1) pe_int (nomark _)) (pss_one (ps_ret (pe_and (pe_cmpR op_is_bl (C8.pe_c (c_is_filling2 T) hr (by decide) rfl (pa_cons (pv 0) (pa_cons (pe_ix ix_tup (C8.pe_c (c_least T TB) hr (by decide) rfl (pa_cons (pv 0) pa_nil)) pe_int (fun _ _ => rfl)) pa_nil))) pe_bl (nomark _)) (pe_one (pe_cmpR op_eq (pe_ix ix_tup (C8.pe_c (c_told T TB) hr (by decide) rfl (pa_cons (pv 0) (pa_cons pe_int pa_nil))) pe_int (fun _ _ => rfl)) pe_str (nomark _)))))) pss_nil) (pss_cons (ps_if (PW.pt (pw_or (pt_cmpR op_ne (pe_ix ix_tup (C8.pe_c (c_told T TB) hr (by decide) rfl (pa_cons (pv 0) (pa_cons (pv 1) pa_nil))) pe_int (fun _ _ => rfl)) pe_str (nomark _)) (pw_or1 (pt_cmpR op_gt (pv 1) (C8.pe_mt0 (c_System_top T) hr (by decide) (pv 0)) (nomark _))))) (pss_one (ps_ret pe_bl)) pss_nil) (pss_one (ps_ret (pe_or (pe_cmpR op_eq (pv 1) pe_int (nomark _)) (pe_one (pe_cmpR op_eq (pe_ix ix_tup (C8.pe_c (c_told T TB) hr (by decide) rfl (pa_cons (pv 0) (pa_cons (pe_op op_sub (pv 1) pe_int) pa_nil))) pe_int (fun _ _ => rfl)) pe_str (nomark _)))))))), ?_⟩
  obtain ⟨x, y, rfl, φ, a, p, cs, D, rfl, rfl, hS, hp, hlen, hN, hTb, hD, hQ⟩ := h
  obtain ⟨dx, fa0, ln, lu, ha, _⟩ := id hS
  have hws : ∀ c ∈ cs, Within p c ∧ SubSm φ c := fun c hc => ⟨(hN c hc).wi, (hN c hc).sub⟩
  refine ⟨_, rfl, rfl, _, rfl, ?_⟩
  cases hf : (rowsM p).filter (grantsM cs) with
  | cons f0 fs =>
    have e : leastM p cs D = 1000 := by unfold leastM; rw [hf]; rfl
    obtain ⟨k1, k2⟩ := hD.three (by rw [hf]; exact List.cons_ne_nil _ _)
    rw [decide_eq_true (show V.int (leastM p cs D) = V.int 1000 by rw [e])]
    refine iteT ⟨_, rfl, _, rfl, _, rfl, φ, a, p, cs, D, rfl, hS, hp, hlen, hws, hTb, hD.run, fun f1 fs1 H' t v hf1 x9 t9 hv ht => ?_, fun H' t v1 v2 hf1 x9 t9 ht => (by rw [hf] at hf1; cases hf1)⟩
    obtain ⟨g1, g2⟩ := fill_of hp hf1
    refine ⟨t, _, _, _, rfl, rfl, ht, atI_nat (j := 1) rfl, _, _, _, rfl, φ, a, p, cs, f1, rfl, rfl, hS.xn x9, hv, g1, hp, hlen, hws, fun H2 e2 => ?_⟩
    rw [g2]
    have x2 := x9.trans (XN.ofX e2)
    refine ⟨_, _, rfl, rfl, _, rfl, ?_⟩
    show if decide (true = true) = true then _ else _
    rw [decide_eq_true rfl]
    refine iteT ⟨_, rfl, _, _, rfl, φ, a, p, cs, 3, rfl, rfl, by decide, hS.xn x2, hp, hlen, fun c hc => (hws c hc).2, t9.x e2, k1, fun H3 t3 v3 x3 tb3 ht3 => ?_⟩
    refine ⟨t3, _, _, _, rfl, rfl, ht3, atI_nat (j := 0) rfl, rfl, ?_⟩
    rw [decide_eq_true (show V.str (wordM p 3 cs) = V.str "worths" by rw [k2])]
    exact hQ H3 (x2.trans x3) tb3
  | nil =>
    obtain ⟨d3, dok, dlt, dsh⟩ := hD.run hf
    have dtop := hD.top hf
    have e : leastM p cs D = (D : Int) := by unfold leastM; rw [hf]; rfl
    rw [e]
    rw [decide_eq_false (show ¬ V.int (D : Int) = V.int 1000 from fun z => by have := V.int.inj z; omega)]
    refine iteF ⟨_, rfl, _, rfl, _, _, rfl, φ, a, p, cs, D, rfl, rfl, d3, hS, hp, hlen, fun c hc => (hws c hc).2, hTb, dok D (Nat.le_refl _), fun H1 t1 v1 x1 tb1 ht1 => ?_⟩
    refine ⟨t1, _, _, _, rfl, rfl, ht1, atI_nat (j := 0) rfl, rfl, _, rfl, ?_⟩
    rw [decide_eq_true (show V.str (wordM p D cs) = V.str "showing" by rw [dsh])]
    have hS1 := hS.xn x1
    refine iteF ⟨_, rfl, _, rfl, a, dx, _, rfl, x1 _ _ ha (fun _ z => by cases z), rfl, _, rfl, φ, a, p, cs, rfl, hS1, hlen, fun H2 e2 => ⟨_, _, rfl, rfl, _, rfl, ?_⟩⟩
    rw [decide_eq_false (show ¬ (((p + maxDeg cs : Nat) : Int) < (D : Int)) by omega)]
    have x2 := x1.trans (XN.ofX e2)
    refine iteF ⟨_, rfl, rfl, _, rfl, ?_⟩
    by_cases h0 : D = 0
    · rw [decide_eq_true (show V.int (D : Int) = V.int 0 by rw [h0]; rfl)]
      exact iteT (hQ H2 x2 (tb1.x e2))
    · rw [decide_eq_false (show ¬ V.int (D : Int) = V.int 0 from fun z => by have := V.int.inj z; omega)]
      refine iteF ⟨_, rfl, _, rfl, _, _, rfl, rfl, _, _, rfl, φ, a, p, cs, D - 1, rfl, congrArg V.int (by omega), by omega, hS.xn x2, hp, hlen, fun c hc => (hws c hc).2, tb1.x e2, dok (D - 1) (by omega), fun H3 t3 v3 x3 tb3 ht3 => ?_⟩
      refine ⟨t3, _, _, _, rfl, rfl, ht3, atI_nat (j := 0) rfl, rfl, ?_⟩
      rw [decide_eq_true (show V.str (wordM p (D - 1) cs) = V.str "worths" by rw [dlt (D - 1) (by omega)])]
      exact hQ H3 (x2.trans x3) tb3
theorem c_law_ends (T : Tx K mg) (TB : LamX.TabB base mg (He.cT K ("gathered", none)).1 (He.cT K ("gathered", none)).2) : C8.Cal P w K mg base 10 "_law_ends" (S2 (k_law_ends K)) [] := cal_of T.F_law_ends T.m_law_ends sc_law_ends (fun _ _ _ _ _ _ us hl => match us, hl with | [_, _], _ => rfl) len2 (b_law_ends T TB)
end
end FS
set_option Elab.async false
set_option linter.all false
set_option maxRecDepth 100000
set_option maxHeartbeats 4000000
namespace FS
open PySem PySem.Spec PyProof.Rows L2
section
variable {P : Program} {w : World} {K : PySem.W.Frag} {mg : PySem.Str → Option Value} {base : Heap}
theorem shaped_ints (ns : List Int) : SeqAt.shaped (.list (ns.map .int)) = true := by
  unfold SeqAt.shaped
  refine Bool.and_eq_true_iff.mpr ⟨lay_ints ns, decide_eq_true ?_⟩
  have h1 : PyData.depth (.list (ns.map .int)) = PyData.depthAll (ns.map .int) + 1 := rfl
  have := dep_ints ns
  omega
def offB (f : List Int) (k : Int) : Bool := decide (V.int (f.getD k.toNat 0) = V.int 0)
theorem off_on {p : Nat} {f : List Int} (hf : IsFill p f) {j : Nat} (hj : j < 8) (hin : inP p j = true) : (((prd j).filter (offB f)).map PyData.int).isEmpty = on f j := by
  obtain ⟨hlen, hbit⟩ := hf
  have hb : ∀ k ∈ prd j, f.getD k.toNat 0 = 0 ∨ f.getD k.toNat 0 = 1 := fun k hk => by
    have h1 := (prd_bd j hj k hk).1
    have h2 : k < (p : Int) := of_decide_eq_true (List.all_eq_true.mp hin k hk)
    have hkl : k.toNat < f.length := by omega
    rw [List.getD_eq_getElem?_getD, List.getElem?_eq_getElem hkl]
    exact hbit _ (List.getElem_mem hkl)
  rw [Bool.eq_iff_iff, List.isEmpty_iff, List.map_eq_nil_iff, List.filter_eq_nil_iff]
  unfold on onB
  rw [List.all_map, List.all_eq_true]
  constructor
  · intro h k hk
    have h0 := h k hk
    rcases hb k hk with z | z
    · exact absurd (decide_eq_true (by rw [z])) h0
    · exact decide_eq_true (by rw [z])
  · intro h k hk z
    have h1 : V.int (f.getD k.toNat 0) = V.int 1 := of_decide_eq_true (h k hk)
    have h2 : V.int (f.getD k.toNat 0) = V.int 0 := of_decide_eq_true z
    rw [h1] at h2
    cases h2
def k_law_worth (K : PySem.W.Frag) : K3 := fun x y z H Q => ∃ (φ : Fd) (l : Addr) (c : Nat → φ.car) (p : Nat) (f : List Int), x = .int φ.p ∧ y = .ref l ∧ RowsAt K φ H l c ∧ FillV K H z f ∧ IsFill p f ∧ p < 4 ∧ Within p c ∧ SubSm φ c ∧
  ∀ H' v, Ext H H' → NumV K φ H' v (evalC c f) → Q v H'

abbrev N_law_worth : List PySem.Str := ["_law_prime_here", "_law_terms_here", "_law_row", "_law_found", "_law_product_here", "_law_number_here", "_law_place"]
theorem sc_law_worth : FnScope N_law_worth ["_law_prime_here", "_law_terms_here", "_law_row"] (defScope s_law_worth) := ⟨rfl, rfl, rfl, by decide +kernel, rfl, by decide +kernel, by decide +kernel⟩
theorem b_law_worth (T : Tx K mg) : Body P w K mg base 3 "_law_worth" (defBody s_law_worth) (defScope s_law_worth) N_law_worth (S3 (k_law_worth K)) := fun f cdv A outer s H vs Q E hcd hr h => by
  refine ⟨_, (pss_cons (ps_set (i := 3) sc_law_worth.nd rfl (by first | exact Or.inl rfl | exact Or.inr rfl) (pe_tup (pa_cons pe_int (pa_cons pe_int pa_nil)))) (pss_cons (ps_for PassesOwn.never rfl (pi_list (pv 1)) (pg_tup rfl (pgs_cons (pg_name (i := 4) sc_law_worth.nd rfl (by first | exact Or.inl rfl | exact Or.inr rfl)) (pgs_cons (pg_name (i := 5) sc_law_worth.nd rfl (by first | exact Or.inl rfl | exact Or.inr rfl)) pgs_nil))) (pss_one (ps_if (pt_cmpR (op_eqD (hu64 hr)) (pe_lc (own := [("_law_place", 6)]) (g := (gName 6)) (tt := (tTest (tOp rEq (tOp (rIxT K) (tVar 2) (tVar 6)) (tC (.int 0))))) (te := (tVar 6)) rfl sc_law_worth.nd (pi_tup (pv 4)) (blkOk_by (N := N_law_worth) (sc := defScope s_law_worth) (by decide +kernel)) (fun _ _ _ _ _ => (pg_name (i := 6) sc_law_worth.nd rfl (by first | exact Or.inl rfl | exact Or.inr rfl))) (fun _ _ _ _ _ => (pts_one (pt_cmpR op_eq (pe_ix ix_tup (pv 2) (pv 6) (fun _ _ => rfl)) pe_int (nomark _)))) (fun _ _ _ _ _ => (pv 6))) (pe_lst pa_nil) (nomark _)) (pss_one (ps_set (i := 3) sc_law_worth.nd rfl (by first | exact Or.inl rfl | exact Or.inr rfl) (C8.pe_c (c_law_plus T) hr (by decide) rfl (pa_cons (pv 0) (pa_cons (pv 3) (pa_cons (pv 5) pa_nil)))))) pss_nil))) (pss_one (ps_ret (pv 3))))), ?_⟩
  obtain ⟨x, y, z, rfl, φ, l, c, p, f, rfl, rfl, ⟨ts, ⟨xs, h1, h2⟩, hn, h0, hc⟩, ⟨fl, rfl, hfl⟩, hf, hp, hw, hsm, hQ⟩ := h
  have h8 := mem_lt h2
  obtain ⟨c1, c2⟩ := rows_iff hn h0 h8 hc
  have hlx : xs.length = ts.length := Paired.length h2
  refine ⟨by show 2 ≤ sizeLine; decide, fun z0 hz0 => ?_⟩
  have eZ := Ext.upd (o := .tup [.int 0, .int 1]) hz0
  have nz0 : NumV K φ (upd H z0 (.tup [.int 0, .int 1])) (.ref z0) 0 := ⟨z0, rfl, by rw [Fd.enc_zero]; exact SqT.of upd_same⟩
  refine ⟨_, rfl, l, rfl, ⟨xs, h1.ext eZ⟩, ?_⟩
  have hsub : ∀ i, ((((ts.take i).map (·.1)).filter (on f)).Nodup ∧ ∀ j ∈ ((ts.take i).map (·.1)).filter (on f), j < 8) := fun i =>
    ⟨List.Nodup.sublist (List.filter_sublist.trans ((List.take_sublist i ts).map _)) hn, fun j hjm => by
      obtain ⟨u, hu, rfl⟩ := List.mem_map.mp (List.mem_filter.mp hjm).1
      exact h8 u (List.mem_of_mem_take hu)⟩
  refine for_list (K := K) (xs := xs) (fun i σ H' => Ext H H' ∧ ∃ fv o1 o2 o3, σ = [some (.int φ.p), some (.ref l), some (.ref fl), some fv, o1, o2, o3] ∧ NumV K φ H' fv (lsum c (((ts.take i).map (·.1)).filter (on f)))) ⟨eZ, _, _, _, _, rfl, nz0⟩ (fun i σ H' _ z => SqL.ext h1 z.1) (fun i x σ H3 hx z => ?_) fun σ H3 z => ?_
  · obtain ⟨e3, fv, o1, o2, o3, rfl, hfv⟩ := z
    obtain ⟨t, ht, ⟨ta, pv, nv, rfl, g1, g2, ⟨b, rfl, g3⟩, g4⟩⟩ := paired_at h2 hx
    have htm := List.mem_of_getElem? ht
    have tk : ts.take (i + 1) = ts.take i ++ [t] := by rw [List.take_add_one, ht]; rfl
    have hj := h8 t htm
    have hin := hw t.1 hj (by rw [c1 t htm]; exact h0 t htm)
    refine ⟨ta, _, rfl, g1.ext e3, rfl, _, _, rfl, _, _, rfl, rfl, ?_⟩
    refine ⟨_, rfl, b, rfl, ⟨_, g3.ext e3⟩, fun D2 hD2 => ?_⟩
    refine lc_it (walk_tup (K := K) (a := b) (xs := (prd t.1).map V.int)) (fun m H' => Ext H3 H' ∧ H' D2 = some (.lst ((((prd t.1).take m).filter (offB f)).map V.int))) ⟨Ext.upd hD2, upd_same⟩ (fun m H' _ z => g3.ext (e3.trans z.1)) (fun m x H4 H5 hm z y => ?_) fun H4 z => ?_
    · obtain ⟨y1, y2⟩ := z
      obtain ⟨rfl, hxm⟩ := y
      rw [List.getElem?_map] at hxm
      obtain ⟨k, hk, rfl⟩ := Option.map_eq_some_iff.mp hxm
      have hkm : k ∈ prd t.1 := List.mem_of_getElem? hk
      have hkp : 0 ≤ k ∧ k < p := ⟨(prd_bd t.1 hj k hkm).1, of_decide_eq_true (List.all_eq_true.mp hin k hkm)⟩
      have ek : (k : Int) = ((k.toNat : Nat) : Int) := by omega
      have hkl : k.toNat < f.length := by have := hf.1; omega
      have hat : f[k.toNat]? = some (f.getD k.toNat 0) := by
        rw [List.getElem?_eq_getElem hkl]
        simp [List.getD_eq_getElem?_getD, hkl]
      have tko : ((prd t.1).take (m + 1)).filter (offB f) = if offB f k = true then ((prd t.1).take m).filter (offB f) ++ [k] else ((prd t.1).take m).filter (offB f) := filt_take hk
      refine ⟨rfl, _, rfl, _, rfl, fl, _, k, V.int (f.getD k.toNat 0), rfl, rfl, hfl.ext (e3.trans y1), ?_, rfl, _, rfl, ?_⟩
      · rw [ek]
        refine atI_nat ?_
        rw [List.getElem?_map]
        have : ((k.toNat : Nat) : Int).toNat = k.toNat := by omega
        rw [this, hat]
        rfl
      · show if offB f k = true then _ else _
        by_cases hon : offB f k = true
        · rw [if_pos hon] at tko ⊢
          refine ⟨_, rfl, _, y2, ?_, y1.wr hD2, ?_⟩
          · rw [List.length_map]
            have q4 := prd_len t.1 hj
            have q5 := List.length_filter_le (offB f) ((prd t.1).take m)
            rw [List.length_take] at q5
            exact small1000 (by omega)
          · rw [upd_same, tko, List.map_append]
            rfl
        · rw [if_neg hon] at tko ⊢
          exact ⟨y1, by rw [y2, tko]⟩
    · obtain ⟨y1, y2⟩ := z
      rw [List.length_map, List.take_length] at y2
      have e4 := e3.trans y1
      refine ⟨by show 0 ≤ sizeLine; exact Nat.zero_le _, fun n0 hn0 => ?_⟩
      have eN := Ext.upd (o := .lst []) hn0
      have e5 := e4.trans eN
      refine ⟨.list (((prd t.1).filter (offB f)).map .int), .list [], .lst (SqL.of (eN _ _ y2)) (dpAll_ints _), .lst (SqL.of upd_same) .nil, shaped_ints _, rfl, _, rfl, ?_⟩
      rw [eqv_emp, off_on hf hj hin]
      by_cases hon : on f t.1 = true
      · rw [hon]
        have fe : ((ts.take (i + 1)).map (·.1)).filter (on f) = ((ts.take i).map (·.1)).filter (on f) ++ [t.1] := by
          rw [tk, List.map_append, List.filter_append]
          congr 1
          show List.filter (on f) [t.1] = [t.1]
          rw [List.filter_cons, if_pos hon]
          rfl
        have s1 := hsm [t.1] (by simp) (fun j hj9 => by rw [List.mem_singleton.mp hj9]; exact hj)
        have es : lsum c [t.1] = t.2 := by
          rw [lsum_cons, c1 t htm]
          show t.2 + 0 = t.2
          grind
        rw [es] at s1
        refine iteT ⟨_, rfl, _, rfl, _, rfl, _, _, _, rfl, φ, _, t.2, rfl, hfv.xn (.ofX (y1.trans eN)), g4.xn (.ofX e5), hsm _ (hsub i).1 (hsub i).2, s1, fun H6 v6 e6 hv6 => ⟨e5.trans e6, _, _, _, _, rfl, ?_⟩⟩
        rw [fe, lsum_snoc, c1 t htm]
        exact hv6
      · rw [show on f t.1 = false by cases z : on f t.1 with | true => exact absurd z hon | false => rfl]
        have fe : ((ts.take (i + 1)).map (·.1)).filter (on f) = ((ts.take i).map (·.1)).filter (on f) := by
          rw [tk, List.map_append, List.filter_append]
          show _ ++ List.filter (on f) [t.1] = _
          rw [List.filter_cons, if_neg hon]
          simp
        refine iteF ⟨e5, _, _, _, _, rfl, ?_⟩
        rw [fe]
        exact hfv.xn (.ofX (y1.trans eN))
  · obtain ⟨e3, fv, o1, o2, o3, rfl, hfv⟩ := z
    rw [hlx, List.take_length] at hfv
    refine ⟨_, rfl, hQ H3 fv e3 ?_⟩
    rw [← eval_js (hsub ts.length |> fun z => by rw [List.take_length] at z; exact z.1) (fun j => ?_)]
    · exact hfv
    · rw [List.mem_filter]
      constructor
      · rintro ⟨a1, a2⟩
        obtain ⟨t, ht, rfl⟩ := List.mem_map.mp a1
        exact ⟨h8 t ht, by rw [c1 t ht]; exact h0 t ht, a2⟩
      · rintro ⟨a1, a2, a3⟩
        exact ⟨List.mem_map.mpr ⟨_, c2 j a1 a2, rfl⟩, a3⟩
theorem c_law_worth (T : Tx K mg) : C8.Cal P w K mg base 4 "_law_worth" (S3 (k_law_worth K)) [] := cal_of T.F_law_worth T.m_law_worth sc_law_worth (fun _ _ _ _ _ _ us hl => match us, hl with | [_, _, _], _ => rfl) len3 (b_law_worth T)
end
end FS
set_option Elab.async false
set_option linter.all false
set_option maxRecDepth 100000
set_option maxHeartbeats 4000000
namespace FS
open PySem PySem.Spec PyProof.Rows L2
section
variable {P : Program} {w : World} {K : PySem.W.Frag} {mg : PySem.Str → Option Value} {base : Heap}
/-- a sum that the law draws -/
structure Drawn (φ : Fd) (p : Nat) (c : Nat → φ.car) : Prop where
  wi : Within p c
  sz : ∀ j, j < 8 → Sz φ (2 ^ 49) (c j)
/-- a sum that the law plants -/
structure Plant (φ : Fd) (p : Nat) (c : Nat → φ.car) : Prop where
  wi : Within p c
  sz : ∀ j, j < 8 → Sz φ (2 ^ 52 + 2 ^ 50) (c j)
theorem Drawn.plant {φ : Fd} {p : Nat} {c : Nat → φ.car} (h : Drawn φ p c) : Plant φ p c := ⟨h.wi, fun j hj => (h.sz j hj).mono (by decide)⟩
theorem Plant.nice {φ : Fd} {p : Nat} {c : Nat → φ.car} (h : Plant φ p c) : Nice φ p c := ⟨h.wi, fun j hj => (h.sz j hj).mono (by decide)⟩
theorem Sz.neg {φ : Fd} {B : Nat} {x : φ.car} (h : Sz φ B x) : Sz φ B (x * φ.ic (-1)) := fun z => by
  obtain ⟨a, b, c⟩ := h z
  refine ⟨-a, ?_, by omega⟩
  rw [φ.ic_neg, φ.ic_neg, ← b, φ.ic_one]
  grind
theorem made_neg (φ : Fd) : madeM φ.p (-1) 1 = φ.enc (φ.ic (-1)) := by
  have h := φ.made (-1) 1 (by rw [φ.ic_one]; exact fun z => Lean.Grind.Field.zero_ne_one z.symm)
  have e : φ.ic (-1) / φ.ic 1 = φ.ic (-1) := by
    rw [φ.ic_one]
    grind
  rw [e] at h
  exact h
theorem sz_eval {φ : Fd} {p : Nat} {c : Nat → φ.car} (h : Drawn φ p c) (f : List Int) : Sz φ (2 ^ 52 + 1) (evalC c f) := by
  unfold evalC
  have hn : ((List.range 8).filter fun j => decide (c j ≠ 0) && on f j).Nodup := List.Nodup.sublist List.filter_sublist List.nodup_range
  have h8 : ∀ j ∈ (List.range 8).filter fun j => decide (c j ≠ 0) && on f j, j < 8 := fun j hj => List.mem_range.mp (List.mem_filter.mp hj).1
  refine (sz_lsum fun j hj => h.sz j (h8 j hj)).mono ?_
  have h1 := nodup8 hn h8
  have : ((List.range 8).filter fun j => decide (c j ≠ 0) && on f j).length * 2 ^ 49 ≤ 8 * 2 ^ 49 := Nat.mul_le_mul_right _ h1
  exact Nat.le_trans (Nat.succ_le_succ this) (by decide)
def plantM {φ : Fd} (c : Nat → φ.car) (f : List Int) : Nat → φ.car := fun j => c j + (if 0 = j then evalC c f * φ.ic (-1) else 0)
def k_law_planted (K : PySem.W.Frag) : K3 := fun x y z H Q => ∃ (φ : Fd) (l : Addr) (c : Nat → φ.car) (p : Nat) (f : List Int), x = .int φ.p ∧ y = .ref l ∧ RowsW K φ H l c ∧ FillV K H z f ∧ IsFill p f ∧ p < 4 ∧ Drawn φ p c ∧
  ∀ H' m c', Ext H H' → H m = none → RowsW K φ H' m c' → Plant φ p c' → (∀ j, j < 8 → c' j = plantM c f j) → Q (.ref m) H'

abbrev N_law_planted : List PySem.Str := ["_law_prime_here", "_law_terms_here", "_law_row", "_law_here"]
theorem sc_law_planted : FnScope N_law_planted ["_law_prime_here", "_law_terms_here", "_law_row"] (defScope s_law_planted) := ⟨rfl, rfl, rfl, by decide +kernel, rfl, by decide +kernel, by decide +kernel⟩
theorem b_law_planted (T : Tx K mg) : Body P w K mg base 5 "_law_planted" (defBody s_law_planted) (defScope s_law_planted) N_law_planted (S3 (k_law_planted K)) := fun f cdv A outer s H vs Q E hcd hr h => by
  refine ⟨_, (pss_cons (ps_set (i := 3) sc_law_planted.nd rfl (by first | exact Or.inl rfl | exact Or.inr rfl) (C8.pe_c (c_law_worth T) hr (by decide) rfl (pa_cons (pv 0) (pa_cons (pv 1) (pa_cons (pv 2) pa_nil))))) (pss_one (ps_ret (C8.pe_c (c_law_added T) hr (by decide) rfl (pa_cons (pv 0) (pa_cons (pv 1) (pa_cons (pe_lst (pa_cons (pe_tup (pa_cons (pe_tup pa_nil) (pa_cons (C8.pe_c (c_law_times T) hr (by decide) rfl (pa_cons (pv 0) (pa_cons (pv 3) (pa_cons (C8.pe_c (c_law_made T) hr (by decide) rfl (pa_cons (pv 0) (pa_cons (pe_un un_neg pe_int) (pa_cons pe_int pa_nil)))) pa_nil)))) pa_nil))) pa_nil)) pa_nil))))))), ?_⟩
  obtain ⟨x, y, z, rfl, φ, l, c, p, f, rfl, rfl, hR, hz, hf, hp, hD, hQ⟩ := h
  have hN := hD.plant.nice
  refine ⟨_, rfl, _, rfl, _, rfl, _, _, _, rfl, φ, l, c, p, f, rfl, rfl, hR.at, hz, hf, hp, hD.wi, hN.sub, fun H1 v e1 hv => ?_⟩
  refine ⟨_, rfl, _, rfl, by show 0 ≤ sizeLine; exact Nat.zero_le _, fun t0 ht0 => ?_⟩
  have eT := Ext.upd (o := .tup []) ht0
  have e2 := e1.trans eT
  refine ⟨_, rfl, _, rfl, _, rfl, _, rfl, _, _, _, rfl, φ.p, -1, 1, rfl, rfl, rfl, fd_prime φ, good_one φ, by decide, by decide, by decide, fun H2 a e3 h0 h2 => ?_⟩
  rw [made_neg] at h2
  have e23 := e2.trans e3
  have szv := sz_eval hD f
  have sz1 : Sz φ (2 ^ 4) (φ.ic (-1)) := fun _ => ⟨-6, by rw [← φ.ic_mul]; rfl, by decide⟩
  refine ⟨_, _, _, rfl, φ, evalC c f, φ.ic (-1), rfl, hv.xn (.ofX (eT.trans e3)), ⟨a, rfl, SqT.of h2⟩, sz_small (szv.mono (by decide)), sz_small (sz1.mono (by decide)), fun H3 v3 e4 hv3 => ?_⟩
  have e34 := e23.trans e4
  refine ⟨by show 2 ≤ sizeLine; decide, fun t1 ht1 => ⟨by show 1 ≤ sizeLine; decide, fun m hm => ?_⟩⟩
  have eA := Ext.upd (o := .tup [.ref t0, v3]) ht1
  have eB := Ext.upd (o := .lst [.ref t1]) hm
  have eAB := eA.trans eB
  have e5 := e34.trans eAB
  obtain ⟨ts, xs, hxs, hpt, hnd, hnz, hcf⟩ := hR
  have h8 := mem_lt hpt
  obtain ⟨c1, c2⟩ := rows_iff hnd hnz h8 hcf
  have ht0' : SqT K (upd (upd H3 t1 (.tup [.ref t0, v3])) m (.lst [.ref t1])) t0 ((prd 0).map V.int) := SqT.of (eAB _ _ (e4 _ _ (e3 _ _ upd_same)))
  have hlen : ts.length ≤ 8 := by
    have := rows_le hpt hnd
    have e : xs.length = ts.length := Paired.length hpt
    omega
  have hsz : ∀ t ∈ ts ++ [(0, evalC c f * φ.ic (-1))], Sz φ (2 ^ 52 + 1) t.2 := fun t ht => by
    rcases List.mem_append.mp ht with g | g
    · rw [← c1 t g]
      exact (hD.sz _ (h8 t g)).mono (by decide)
    · rw [List.mem_singleton.mp g]
      exact szv.neg
  have hgat : GatOk φ (ts ++ [(0, evalC c f * φ.ic (-1))]) := by
    refine gat_sz hsz ?_ (by decide)
    rw [List.length_append]
    have : (ts.length + 1) * (2 ^ 52 + 1) ≤ 9 * (2 ^ 52 + 1) := Nat.mul_le_mul_right _ (by omega)
    exact Nat.le_trans (Nat.succ_le_succ this) (by decide)
  refine ⟨_, _, _, rfl, φ, ts, [(0, evalC c f * φ.ic (-1))], l, m, rfl, rfl, rfl, ⟨xs, e5 _ _ hxs, paired_xn hpt (.ofX e5)⟩, ⟨[.ref t1], upd_same, .cons ⟨t1, .ref t0, v3, rfl, SqT.of (eB _ _ upd_same), (show 0 < 8 by decide), ⟨t0, rfl, ht0'⟩, hv3.xn (.ofX eAB)⟩ .nil⟩, by show ts.length + 1 ≤ 1000; omega, hgat, fun H' q e6 hq0 hRW => ?_⟩
  have hco : ∀ j, j < 8 → coef (ts ++ [(0, evalC c f * φ.ic (-1))]) j = plantM c f j := fun j hj => by
    rw [coef_snoc, hcf j hj]
    unfold plantM
    by_cases e : 0 = j
    · rw [if_pos e, if_pos e]
    · rw [if_neg e, if_neg e]
      grind
  refine hQ H' q _ (e5.trans e6) (fresh_of e5 hq0) hRW ⟨fun j hj hne => ?_, fun j hj => ?_⟩ hco
  · rw [hco j hj] at hne
    unfold plantM at hne
    by_cases e : 0 = j
    · subst e
      rfl
    · rw [if_neg e] at hne
      refine hD.wi j hj fun z => hne ?_
      rw [z]
      grind
  · rw [hco j hj]
    unfold plantM
    have e : 2 ^ 52 + 2 ^ 50 = 2 ^ 49 + (2 ^ 52 + 2 ^ 49) := by decide
    rw [e]
    refine (hD.sz j hj).add ?_
    by_cases z : 0 = j
    · rw [if_pos z]
      exact szv.neg.mono (by decide)
    · rw [if_neg z]
      exact Sz.zero (by decide)
theorem c_law_planted (T : Tx K mg) : C8.Cal P w K mg base 6 "_law_planted" (S3 (k_law_planted K)) [] := cal_of T.F_law_planted T.m_law_planted sc_law_planted (fun _ _ _ _ _ _ us hl => match us, hl with | [_, _, _], _ => rfl) len3 (b_law_planted T)
end
end FS
set_option Elab.async false
set_option linter.all false
set_option maxRecDepth 100000
set_option maxHeartbeats 4000000
namespace FS
open PySem PySem.Spec PyProof.Rows L2
section
variable {K : PySem.W.Frag} {φ : Fd} {H H' : Hp} {q : Addr}
theorem PoolAt.noTup (h : PoolAt H q) : NoTup (H q) := let ⟨c, s, a, _⟩ := h; lst_noTup a
theorem RowsW.exq {l : Addr} {c : Nat → φ.car} (h : RowsW K φ H l c) (hq : PoolAt H q) (x : ExB q H H') : RowsW K φ H' l c := by
  obtain ⟨ts, xs, a, b, d⟩ := h
  have hl : l ≠ q := fun z => by
    obtain ⟨c0, s0, e, _⟩ := hq
    rw [z, e] at a
    cases a
    cases b with
    | cons r _ =>
      obtain ⟨_, _, _, e1, _⟩ := r
      cases e1
  exact ⟨ts, xs, x _ _ hl a, paired_tp b (x.tups hq.noTup), d⟩
theorem RowsV.exq {v : V} {c : Nat → φ.car} (h : RowsV K φ H v c) (hq : PoolAt H q) (x : ExB q H H') : RowsV K φ H' v c := let ⟨l, a, b⟩ := h; ⟨l, a, b.exq hq x⟩
theorem Ones.exq {l : Addr} {cs : List (Nat → φ.car)} (h : Ones K φ H l cs) (hq : PoolAt H q) (x : ExB q H H') : Ones K φ H' l cs := by
  obtain ⟨vs, a, b⟩ := h
  have hl : l ≠ q := fun z => by
    obtain ⟨c0, s0, e, _⟩ := hq
    rw [z, e] at a
    cases a
    cases b with
    | cons r _ =>
      obtain ⟨_, e1, _⟩ := r
      cases e1
  exact ⟨vs, x _ _ hl a, Paired.mapP b fun _ _ r => r.exq hq x⟩
theorem FieldAt.exq {a : Addr} {p : Int} (h : FieldAt K H a p) (hq : PoolAt H q) (x : ExB q H H') : FieldAt K H' a p := h.exb x fun z => by
  obtain ⟨c0, s0, e, _⟩ := hq
  obtain ⟨dx, h⟩ := h
  rw [z, e] at h
  cases h
/-- rows that may be read: the pool is no list of rows -/
theorem RowsAt.exq {l : Addr} {c : Nat → φ.car} (h : RowsAt K φ H l c) (hq : PoolAt H q) (x : ExB q H H') : RowsAt K φ H' l c := by
  obtain ⟨ts, ⟨xs, h1, h2⟩, h3⟩ := h
  refine ⟨ts, ⟨xs, ?_, paired_tp h2 (x.tups hq.noTup)⟩, h3⟩
  obtain ⟨c0, s0, e, _⟩ := hq
  rcases h1 with (h1 | ⟨ob, h1⟩) | h1
  · refine .inl (.inl (x _ _ (fun z => ?_) h1))
    rw [z, e] at h1
    cases h1
    cases h2 with
    | cons r _ =>
      obtain ⟨_, _, _, e1, _⟩ := r
      cases e1
  · refine .inl (.inr ⟨ob, x _ _ (fun z => ?_) h1⟩)
    rw [z, e] at h1
    cases h1
  · exact .inr h1
theorem SumL.exq {a l : Addr} {c : Nat → φ.car} (h : SumL K φ H a l c) (hq : PoolAt H q) (x : ExB q H H') (hq' : PoolAt H' q) : SumL K φ H' a l c := by
  obtain ⟨dx, fa, h1, h2, h3, ys, h4⟩ := h
  refine ⟨dx, fa, x _ _ (fun z => ?_) h1, h2.exq hq x, h3.exq hq x, ?_⟩
  · obtain ⟨c0, s0, e, _⟩ := hq
    rw [z, e] at h1
    cases h1
  · by_cases z : l = q
    · obtain ⟨c1, s1, e, _⟩ := hq'
      exact ⟨_, by rw [z]; exact e⟩
    · exact ⟨ys, x _ _ z h4⟩
theorem SysAt.exq {a : Addr} {p : Nat} {cs : List (Nat → φ.car)} (h : SysAt K φ H a p cs) (hq : PoolAt H q) (x : ExB q H H') (hq' : PoolAt H' q) : SysAt K φ H' a p cs := by
  obtain ⟨dx, fa, ln, lu, h1, h2, ⟨vs, h3, h4⟩, h5⟩ := h
  obtain ⟨c0, s0, e, _⟩ := id hq
  refine ⟨dx, fa, ln, lu, x _ _ (fun z => ?_) h1, h2.exq hq x, ⟨vs, x _ _ (fun z => ?_) h3, Paired.mapP h4 fun _ _ ⟨a, l, b, d⟩ => ⟨a, l, b, d.exq hq x hq'⟩⟩, x _ _ (fun z => ?_) h5⟩
  · rw [z, e] at h1
    cases h1
  · rw [z, e] at h3
    cases h3
    cases h4 with
    | cons r _ =>
      obtain ⟨_, _, e1, _⟩ := r
      cases e1
  · rw [z, e] at h5
    cases h5
theorem TabsK.exq (h : TabsK K H) (hq : PoolAt H q) (x : ExB q H H') : TabsK K H' := let ⟨_, _, e, _⟩ := hq; h.exb x e (fun _ z => by cases z) lst_no_code
end
end FS
set_option Elab.async false
set_option linter.all false
set_option maxRecDepth 100000
set_option maxHeartbeats 4000000
namespace FS
open PySem PySem.Spec PyProof.Rows L2
section
variable {P : Program} {w : World} {K : PySem.W.Frag} {mg : PySem.Str → Option Value} {base : Heap}
/-- rows that stand elsewhere than D -/
def RowsD (K : PySem.W.Frag) (φ : Fd) (H : Hp) (D : Addr) (v : V) (c : Nat → φ.car) : Prop := ∃ l, v = .ref l ∧ RowsW K φ H l c ∧ l ≠ D
theorem RowsD.xn {φ : Fd} {H H' : Hp} {D : Addr} {v : V} {c : Nat → φ.car} (h : RowsD K φ H D v c) (e : XN H H') : RowsD K φ H' D v c := let ⟨l, a, b, d⟩ := h; ⟨l, a, b.xn e, d⟩
theorem RowsD.exq {φ : Fd} {H H' : Hp} {q D : Addr} {v : V} {c : Nat → φ.car} (h : RowsD K φ H D v c) (hq : PoolAt H q) (x : ExB q H H') : RowsD K φ H' D v c := let ⟨l, a, b, d⟩ := h; ⟨l, a, b.exq hq x, d⟩
theorem RowsW.wrD {φ : Fd} {H : Hp} {D l : Addr} {o : HO} {ys : List V} {c : Nat → φ.car} (h : RowsW K φ H l c) (hD : H D = some (.lst ys)) (n : l ≠ D) : RowsW K φ (upd H D o) l c := let ⟨ts, xs, a, b, d⟩ := h; ⟨ts, xs, by rw [upd_ne n]; exact a, paired_tp b (Tups.upd (lst_noTup hD)), d⟩
theorem RowsD.wr {φ : Fd} {H : Hp} {D : Addr} {o : HO} {ys : List V} {v : V} {c : Nat → φ.car} (h : RowsD K φ H D v c) (hD : H D = some (.lst ys)) : RowsD K φ (upd H D o) D v c := let ⟨l, a, b, n⟩ := h; ⟨l, a, b.wrD hD n, n⟩
theorem RowsD.vv {φ : Fd} {H : Hp} {D : Addr} {v : V} {c : Nat → φ.car} (h : RowsD K φ H D v c) : RowsV K φ H v c := let ⟨l, a, b, _⟩ := h; ⟨l, a, b⟩
def k_law_small (K : PySem.W.Frag) : K2 := fun x y H Q => ∃ q, x = .ref q ∧ y = .int 3 ∧ PoolAt H q ∧ (∀ p : Int, (p = 0 ∨ p ∈ primes) → ∃ φ : Fd, φ.p = p) ∧
  ∀ (φ : Fd) H' t (p : Nat) l cs, ExB q H H' → PoolAt H' q → SqT K H' t [.int φ.p, .int p, .ref l] → 1 ≤ p → p < 4 → Ones K φ H' l cs → cs.length ≤ 4 → (∀ c ∈ cs, Plant φ p c) → Q (.ref t) H'

abbrev N_law_small_wishes : List PySem.Str := ["_law_pool_here", "_law_most", "_law_prime_here", "_law_places", "_law_ones", "_law_turn", "_law_row", "_law_place", "_law_terms_here"]
theorem sc_law_small_wishes : FnScope N_law_small_wishes ["_law_pool_here", "_law_most"] (defScope s_law_small_wishes) := ⟨rfl, rfl, rfl, by decide +kernel, rfl, by decide +kernel, by decide +kernel⟩
theorem b_law_small_wishes (T : Tx K mg) : Body P w K mg base 6 "_law_small_wishes" (defBody s_law_small_wishes) (defScope s_law_small_wishes) N_law_small_wishes (S2 (k_law_small K)) := fun f cdv A outer s H vs Q E hcd hr h => by
  refine ⟨_, (pss_cons (ps_set (i := 2) sc_law_small_wishes.nd rfl (by first | exact Or.inl rfl | exact Or.inr rfl) (C8.pe_c (c_law_prime T) hr (by decide) rfl (pa_cons (pv 0) pa_nil))) (pss_cons (ps_set (i := 3) sc_law_small_wishes.nd rfl (by first | exact Or.inl rfl | exact Or.inr rfl) (pe_op op_add pe_int (C8.pe_c (c_law_take T) hr (by decide) rfl (pa_cons (pv 0) (pa_cons (pv 1) pa_nil))))) (pss_cons (ps_setLc (i := 4) (own := [("_law_turn", 5)]) (g := (gName 5)) (tt := tYes) (te := (tCall (S5 (k_law_terms K)) [] C8.E0 (tCons (tVar 0) (tCons (tVar 2) (tCons (tVar 3) (tCons (tC (.int 4)) (tCons (tC (.int 3)) tNil))))))) rfl sc_law_small_wishes.nd rfl rfl (sw_true rfl rfl rfl (by decide +kernel)) (pi_range1 rfl T.f_range (pa_cons (C8.pe_c (c_law_take T) hr (by decide) rfl (pa_cons (pv 0) (pa_cons pe_int pa_nil))) pa_nil)) (blkOk_by (N := N_law_small_wishes) (sc := defScope s_law_small_wishes) (by decide +kernel)) (fun _ _ _ _ _ => (pg_name (i := 5) sc_law_small_wishes.nd rfl (by first | exact Or.inl rfl | exact Or.inr rfl))) (fun _ _ _ _ _ => pts_nil) (fun _ _ _ _ _ => (C8.pe_c (c_law_terms T) hr (by decide) rfl (pa_cons (pv 0) (pa_cons (pv 2) (pa_cons (pv 3) (pa_cons pe_int (pa_cons pe_int pa_nil)))))))) (pss_cons (ps_if (pt_cmpR op_eq (C8.pe_c (c_law_take T) hr (by decide) rfl (pa_cons (pv 0) (pa_cons pe_int pa_nil))) pe_int (nomark _)) (pss_cons (ps_set (i := 6) sc_law_small_wishes.nd rfl (by first | exact Or.inl rfl | exact Or.inr rfl) (pe_callTy call_tuple_of (by rfl) T.f_tuple (by decide +kernel) (pa_cons (pe_lc (own := [("_law_place", 7)]) (g := (gName 7)) (tt := tYes) (te := (tCall (S2 (k_law_take K)) [] C8.E0 (tCons (tVar 0) (tCons (tC (.int 2)) tNil)))) rfl sc_law_small_wishes.nd (pi_range1 rfl T.f_range (pa_cons (pv 3) pa_nil)) (blkOk_by (N := N_law_small_wishes) (sc := defScope s_law_small_wishes) (by decide +kernel)) (fun _ _ _ _ _ => (pg_name (i := 7) sc_law_small_wishes.nd rfl (by first | exact Or.inl rfl | exact Or.inr rfl))) (fun _ _ _ _ _ => pts_nil) (fun _ _ _ _ _ => (C8.pe_c (c_law_take T) hr (by decide) rfl (pa_cons (pv 0) (pa_cons pe_int pa_nil))))) pa_nil))) (pss_one (ps_setLc (i := 4) (own := [("_law_terms_here", 8)]) (g := (gName 8)) (tt := tYes) (te := (tCall (S3 (k_law_planted K)) [] C8.E0 (tCons (tVar 2) (tCons (tVar 8) (tCons (tVar 6) tNil))))) rfl sc_law_small_wishes.nd rfl rfl (sw_true rfl rfl rfl (by decide +kernel)) (pi_list (pv 4)) (blkOk_by (N := N_law_small_wishes) (sc := defScope s_law_small_wishes) (by decide +kernel)) (fun _ _ _ _ _ => (pg_name (i := 8) sc_law_small_wishes.nd rfl (by first | exact Or.inl rfl | exact Or.inr rfl))) (fun _ _ _ _ _ => pts_nil) (fun _ _ _ _ _ => (C8.pe_c (c_law_planted T) hr (by decide) rfl (pa_cons (pv 2) (pa_cons (pv 8) (pa_cons (pv 6) pa_nil)))))))) pss_nil) (pss_one (ps_ret (pe_tup (pa_cons (pv 2) (pa_cons (pv 3) (pa_cons (pv 4) pa_nil)))))))))), ?_⟩
  obtain ⟨x, y, rfl, q, rfl, rfl, hP, hφ, hQ⟩ := h
  refine ⟨_, rfl, _, rfl, q, rfl, hP, fun H1 p0 x1 p1 hpp => ?_⟩
  obtain ⟨φ, rfl⟩ := hφ p0 hpp
  refine ⟨_, rfl, _, rfl, _, _, rfl, q, 3, rfl, rfl, p1, by decide, by decide, fun H2 r x2 p2 r0 r1 => ⟨_, _, rfl, rfl, ?_⟩⟩
  obtain ⟨p, ep, hp1, hp⟩ : ∃ p : Nat, 1 + r = (p : Int) ∧ 1 ≤ p ∧ p < 4 := ⟨(1 + r).toNat, by omega, by omega, by omega⟩
  have x12 := x1.trans x2
  refine ⟨_, rfl, _, _, rfl, q, 5, rfl, rfl, p2, by decide, by decide, fun H3 m x3 p3 m0 m1 => ?_⟩
  refine ⟨m, rfl, by omega, by omega, fun D hD => ?_⟩
  have x13 := x12.trans x3
  have hD0 : H D = none := fresh_exb x13 p3 hD
  have hqD : q ≠ D := fun z => by
    obtain ⟨c, s, a, _⟩ := p3
    rw [z, hD] at a
    cases a
  refine lc_range (lo := 0) (n := m.toNat) (fun i H' => ExB q H H' ∧ PoolAt H' q ∧ ∃ (acc : List V) (cs : List (Nat → φ.car)), H' D = some (.lst acc) ∧ Paired (RowsD K φ H' D) acc cs ∧ cs.length = i ∧ ∀ c ∈ cs, Drawn φ p c) ⟨x13.wrN hD0, p3.wr hqD, [], [], upd_same, .nil, rfl, (fun _ z => nomatch z)⟩ (fun i H4 hi z => ?_) fun H4 z => ?_
  · obtain ⟨x4, p4, acc, cs, hac, hpa, hcl, hcs⟩ := z
    refine ⟨rfl, t_yes ⟨_, rfl, _, rfl, _, rfl, _, _, _, _, _, rfl, φ, q, p, 4, 3, rfl, rfl, congrArg V.int ep, rfl, rfl, hp1, hp, by decide, by decide, p4, fun H5 l c x5 p5 hl0 hR hw hsz => ?_⟩⟩
    have hac5 := x5 _ _ (Ne.symm hqD) hac
    have hal : acc.length = cs.length := Paired.length hpa
    refine ⟨acc, hac5, small1000 (by omega), (x4.trans x5).wrN hD0, p5.wr hqD, acc ++ [.ref l], cs ++ [c], upd_same, ?_, by rw [List.length_append, hcl]; rfl, fun c' hc' => ?_⟩
    · have nl : l ≠ D := fun z => by rw [z, hac] at hl0; cases hl0
      exact paired_append (Paired.mapP hpa fun _ _ r => (r.exq p4 x5).wr hac5) (.cons ⟨l, rfl, hR.wrD hac5 nl, nl⟩ .nil)
    · rcases List.mem_append.mp hc' with g | g
      · exact hcs c' g
      · rw [List.mem_singleton.mp g]
        exact ⟨hw, fun j _ => hsz j⟩
  · obtain ⟨x4, p4, acc, cs, hac, hpa, hcl, hcs⟩ := z
    have hc4 : cs.length ≤ 4 := by omega
    have hones : Ones K φ H4 D cs := ⟨acc, hac, Paired.mapP hpa fun _ _ r => r.vv⟩
    refine ⟨_, rfl, _, _, rfl, q, 2, rfl, rfl, p4, by decide, by decide, fun H7 k x7 p7 k0 k1 => ⟨rfl, _, rfl, ?_⟩⟩
    have hon7 := hones.exq p4 x7
    have x47 := x4.trans x7
    by_cases hk : k = 0
    · subst hk
      rw [decide_eq_true rfl]
      refine iteT ⟨_, rfl, 1 + r, rfl, by omega, by omega, fun D2 hD2 => ?_⟩
      have hqD2 : q ≠ D2 := fun z => by
        obtain ⟨c, s, a, _⟩ := p7
        rw [z, hD2] at a
        cases a
      refine lc_range (lo := 0) (n := (1 + r).toNat) (fun i H' => ExB q H7 H' ∧ PoolAt H' q ∧ ∃ f : List Int, H' D2 = some (.lst (f.map V.int)) ∧ f.length = i ∧ ∀ b ∈ f, b = 0 ∨ b = 1) ⟨(ExB.ofX (Ext.upd hD2)), p7.wr hqD2, [], upd_same, rfl, (fun _ z => nomatch z)⟩ (fun i H8 hi z => ?_) fun H8 z => ?_
      · obtain ⟨x8, p8, f, hf, hfl, hfb⟩ := z
        refine ⟨rfl, t_yes ⟨_, rfl, _, _, rfl, q, 2, rfl, rfl, p8, by decide, by decide, fun H9 b x9 p9 b0 b1 => ?_⟩⟩
        refine ⟨_, x9 _ _ (Ne.symm hqD2) hf, ?_, (x8.trans x9).wrN hD2, p9.wr hqD2, f ++ [b], by rw [upd_same, List.map_append]; rfl, by rw [List.length_append, hfl]; rfl, fun b' hb' => ?_⟩
        · rw [List.length_map]
          exact small1000 (by omega)
        · rcases List.mem_append.mp hb' with g | g
          · exact hfb b' g
          · rw [List.mem_singleton.mp g]
            omega
      · obtain ⟨x8, p8, f, hf, hfl, hfb⟩ := z
        refine ⟨D2, _, rfl, .inl ⟨SqL.of hf, fun t ht => ?_⟩⟩
        have eT := Ext.upd (o := .tup (f.map V.int)) ht
        obtain ⟨vs, hvs, hvp⟩ := (hon7.exq p7 x8).xn (.ofX eT)
        have hvl : vs.length = cs.length := Paired.length hvp
        have hfill : IsFill p f := ⟨by omega, hfb⟩
        refine ⟨_, rfl, D, rfl, ⟨vs, SqL.of hvs⟩, fun D3 hD3 => ?_⟩
        refine lc_list (K := K) (xs := vs) (fun i H' => Ext (upd H8 t (.tup (f.map V.int))) H' ∧ ∃ (acc : List V) (cs' : List (Nat → φ.car)), H' D3 = some (.lst acc) ∧ Paired (RowsD K φ H' D3) acc cs' ∧ cs'.length = i ∧ ∀ c ∈ cs', Plant φ p c) ⟨Ext.upd hD3, [], [], upd_same, .nil, rfl, (fun _ z => nomatch z)⟩ (fun i H' _ z => SqL.of (z.1 _ _ hvs)) (fun i x H9 hx z => ?_) fun H9 z => ?_
        · obtain ⟨e9, acc', cs', hac', hpa', hcl', hcs'⟩ := z
          obtain ⟨c, hc, ⟨l, rfl, hR⟩⟩ := paired_at hvp hx
          have hi : i < vs.length := (List.getElem?_eq_some_iff.mp hx).1
          refine ⟨rfl, t_yes ⟨_, rfl, _, rfl, _, rfl, _, _, _, rfl, φ, l, c, p, f, rfl, rfl, hR.xn (.ofX e9), ⟨t, rfl, (SqT.of upd_same).ext e9⟩, hfill, hp, hcs c (List.mem_of_getElem? hc), fun H' m' c' e10 hm0 hRm hpl _ => ?_⟩⟩
          have hac10 := e10 _ _ hac'
          have nl : m' ≠ D3 := fun z => by rw [z, hac'] at hm0; cases hm0
          have hal : acc'.length = cs'.length := Paired.length hpa'
          refine ⟨acc', hac10, small1000 (by omega), (e9.trans e10).wr hD3, acc' ++ [.ref m'], cs' ++ [c'], upd_same, paired_append (Paired.mapP hpa' fun _ _ r => (r.xn (.ofX e10)).wr hac10) (.cons ⟨m', rfl, hRm.wrD hac10 nl, nl⟩ .nil), by rw [List.length_append, hcl']; rfl, fun c2 hc2 => ?_⟩
          rcases List.mem_append.mp hc2 with g | g
          · exact hcs' c2 g
          · rw [List.mem_singleton.mp g]
            exact hpl
        · obtain ⟨e9, acc', cs', hac', hpa', hcl', hcs'⟩ := z
          refine ⟨_, rfl, _, rfl, _, rfl, by show 3 ≤ sizeLine; decide, fun u hu => ?_⟩
          have eU := Ext.upd (o := .tup [.int φ.p, .int (1 + r), .ref D3]) hu
          refine hQ φ _ u p D3 cs' ((((x47.trans x8).trans (.ofX eT)).trans (.ofX e9)).trans (.ofX eU)) (((p8.x eT).x e9).x eU) (SqT.of (by rw [← ep]; exact upd_same)) hp1 hp ⟨acc', eU _ _ hac', Paired.mapP hpa' fun _ _ r => (r.xn (.ofX eU)).vv⟩ (by omega) hcs'
    · rw [decide_eq_false fun z => hk (V.int.inj z)]
      refine iteF ⟨_, rfl, _, rfl, _, rfl, by show 3 ≤ sizeLine; decide, fun u hu => ?_⟩
      have eU := Ext.upd (o := .tup [.int φ.p, .int (1 + r), .ref D]) hu
      exact hQ φ _ u p D cs (x47.trans (.ofX eU)) (p7.x eU) (SqT.of (by rw [← ep]; exact upd_same)) hp1 hp (hon7.xn (.ofX eU)) hc4 fun c hc => (hcs c hc).plant
theorem c_law_small_wishes (T : Tx K mg) : C8.Cal P w K mg base 7 "_law_small_wishes" (S2 (k_law_small K)) [] := cal_of T.F_law_small_wishes T.m_law_small_wishes sc_law_small_wishes (fun _ _ _ _ _ _ us hl => match us, hl with | [_, _], _ => rfl) len2 (b_law_small_wishes T)
end
end FS
set_option Elab.async false
set_option linter.all false
set_option maxRecDepth 100000
set_option maxHeartbeats 4000000
namespace FS
open PySem PySem.Spec PyProof.Rows L2
theorem meets_enumerate_newTup (l : Addr) (items : Array Value) :
    Meets (Builtin.«enumerate.__new__» ⟨[.type "enumerate", .ref l], []⟩) (fun _ R s => s.heap.IsTuple l items ∧
      R (.ok (.ret (.ref (s.heap.push { cls := .type "tuple_iterator", data := .fields #[.ref l, .int 0 0] }).objs.size)))
        { s with heap := (s.heap.push { cls := .type "tuple_iterator", data := .fields #[.ref l, .int 0 0] }).push { cls := .type "enumerate", data := .fields #[.none, .bool false, .ref s.heap.objs.size, rawInt 0, .none, .none] } }) :=
  .of_wp fun prog w A R s h => by
    obtain ⟨hp, g, d, tk, os⟩ := s; obtain ⟨hL, h⟩ := h
    have hsub := sub_enumerate
    obtain ⟨o, hl, hc, n, hd⟩ := id hL
    obtain ⟨cl, dct, dt, sl⟩ := o
    replace hc : cl = .type "tuple" := hc
    replace hd : dt = .seq items n := hd
    subst hc hd
    wp_walk using wpAny_loadPart' hl
    refine wpAny_stack_any fun st => wpAny_pure ?_
    split
    · rename_i c _ _ _ _ _
      cases (c == Value.type "enumerate")
      · wp_walk using wpAny_loadPart' hl, wpAny_pyIter_tuple hL
        exact ⟨_, rfl, h⟩
      · wp_walk using wpAny_loadPart' hl, wpAny_pyIter_tuple hL
        exact ⟨_, rfl, h⟩
    · wp_walk using wpAny_loadPart' hl, wpAny_pyIter_tuple hL
      exact ⟨_, rfl, h⟩

theorem call_enumerate_tup {prog : Program} {w : World} {A : Around} {E : Value → Shared → Prop} {s : Shared} {l : Addr} {items : Array Value} {Q : Value → Shared → Prop} (hL : s.heap.IsTuple l items)
    (h : ∀ h', IsEnum h' (s.heap.objs.size + 1) s.heap.objs.size 0 .none → h'.IsTupleIter s.heap.objs.size l 0 → (∀ b o, s.heap.get? b = some o → h'.get? b = some o) → Q (.ref (s.heap.objs.size + 1)) { s with heap := h' }) :
    wpAny (model prog w) A (call (.type "enumerate") [.ref l]) Q E s := by
  refine callType_new F.called_enumerate (by decide) (F.typeCall_enumerate_1 _) (F.newCall_enumerate_1 _) (fun obj => F.args_object_init_2 obj _) F.entry_enumerate_new (meets_enumerate_newTup l items) ⟨hL, ?_⟩
  have hz : (s.heap.push { cls := .type "tuple_iterator", data := .fields #[.ref l, .int 0 0] }).objs.size = s.heap.objs.size + 1 := Heap.size_push ..
  show _ ∧ _
  rw [hz]
  have he : IsEnum ((s.heap.push { cls := .type "tuple_iterator", data := .fields #[.ref l, .int 0 0] }).push { cls := .type "enumerate", data := .fields #[.none, .bool false, .ref s.heap.objs.size, rawInt 0, .none, .none] }) (s.heap.objs.size + 1) s.heap.objs.size 0 .none := by
    have := Heap.get?_push_size (s.heap.push { cls := .type "tuple_iterator", data := .fields #[.ref l, .int 0 0] }) (o := { cls := .type "enumerate", data := .fields #[.none, .bool false, .ref s.heap.objs.size, rawInt 0, .none, .none] }) rfl
    rw [hz] at this; exact this
  exact ⟨⟨_, he, rfl⟩, h _ he ⟨_, Heap.get?_push_of_some _ (Heap.get?_push_size _ rfl), rfl, rfl⟩ fun b o x => Heap.get?_push_of_some _ (Heap.get?_push_of_some _ x)⟩

/-- the tuple at a as it stands at each turn, each item in a new pair -/
def IteT (K : PySem.W.Frag) (a : Addr) : It :=
  ⟨fun i H => ∃ (xs : List V) (x : V), SqT K H a xs ∧ xs[i]? = some x, fun i H v H' => ∃ T x, v = .ref T ∧ H T = none ∧ H' = upd H T (.tup [.int (i : Nat), x]) ∧ ∀ xs, SqT K H a xs → xs[i]? = some x, fun i H => ∃ xs : List V, SqT K H a xs ∧ xs.length = i⟩
theorem enum_apart {h : Heap} {e it a : Addr} {i : Int} {old : Value} {items : Array Value} (he : IsEnum h e it i old) (ht : h.IsTuple a items) : e ≠ a := fun z => by
  obtain ⟨o, h1, h2, _⟩ := ht
  rw [← z] at h1
  have he' : h.get? e = some _ := he
  rw [he'] at h1
  cases h1
  injection h2 with h2
  exact absurd h2 (by decide)
theorem turn_enumT {P : Program} {w : World} {K : PySem.W.Frag} {elts : List Expr} {kk : Nat} {tpos : Pos} (a e it : Addr) (hai : a ≠ it) :
    Turn P w K (.Tuple elts kk tpos) (IteT K a) [e, it] e (fun i h => (∃ old, IsEnum h e it ((i : Nat) : Int) old) ∧ h.IsTupleIter it a i ∧ e ≠ it) where
  mem := by simp
  obj := fun i h st b hb => by
    obtain ⟨⟨old, he⟩, ⟨o, ho, hc, hd⟩, _⟩ := st
    have e' : b = e ∨ b = it := by simpa using hb
    rcases e' with z | z
    · rw [z]; exact ⟨_, he, fun v q => nomatch q⟩
    · rw [z]; exact ⟨o, ho, fun v q => by rw [hd] at q; cases q⟩
  keep := fun i h h' st k => let ⟨⟨old, he⟩, hi, hne⟩ := st; ⟨⟨old, k e (by simp) _ he⟩, hi.at fun o q => k it (by simp) o q, hne⟩
  item := by
    intro X hP hw hK hc i pins s σ H E I hf st hg
    subst hP hw hK
    obtain ⟨⟨old, he⟩, hit, hne⟩ := st
    obtain ⟨xs, x, hq, hx⟩ := hg
    obtain ⟨its, rv, p, hz⟩ := I.tuple hq
    obtain ⟨u, hu, ru⟩ := rv.get hx
    have pT : s.heap.IsTuple a its.toArray := p
    have hel : e < s.heap.objs.size := Heap.lt_size he
    have hil : it < s.heap.objs.size := by obtain ⟨_, q, _⟩ := hit; exact Heap.lt_size q
    have hil2 : i < its.toArray.size := by
      have := (List.getElem?_eq_some_iff.mp hu).1
      simpa using this
    have hea := enum_apart he pT
    refine wpAny_pyNext_enum_itemD (Draws.tuple (show X.A.in1.handled = none from I.ok.hd hc) it a hai its.toArray) he ⟨hit, pT⟩ hil2 hne (by simp [hne, hea]) fun x' h' tk hx' ho hst' hT hsz hk => ?_
    have ex : x' = u := by
      have : its.toArray[i]? = some u := by simpa using hu
      rw [this] at hx'
      exact (Option.some.inj hx').symm
    subst ex
    refine ⟨_, rfl, wpAny_letOwnedTupleGo_enum (s := { s with heap := h', toks := tk + 1 }) ho fun h'' he' sb => ?_⟩
    have hT2 : h''.get? s.heap.objs.size = some { cls := .type "tuple", data := .seq #[.int i tk, x'] } := (sb.2 _ (Nat.ne_of_gt hel)).trans hT
    have new : ObjOk X.prog X.w (upd H s.heap.objs.size (.tup [.int (i : Nat), x])) h'' s.heap.objs.size (.tup [.int (i : Nat), x]) :=
      ⟨by show 2 ≤ sizeLine; decide, [.int i tk, x'], .cons ⟨_, rfl⟩ (.cons ru .nil), ⟨_, hT2, rfl, _, rfl⟩⟩
    have I1 : Inv X pins σ (upd H s.heap.objs.size (.tup [.int (i : Nat), x])) { s with heap := h'', toks := tk + 1 } :=
      I.turnedNew (ch := [e, it]) (fun b ob hb q => (sb.2 b (fun z => hb (by simp [z]))).trans (hk b ob (fun z => hb (by simp [z])) (fun z => hb (by simp [z])) q)) hf (Nat.le_refl _) new
    refine ⟨.ref s.heap.objs.size, _, I1, rfl, ⟨_, x, rfl, I.hok.fresh (Nat.le_refl _), rfl, fun ys hy => by rw [I.tuple_inj hy hq]; exact hx⟩, ⟨⟨x', ?_⟩, hst'.1.at fun o q => (sb.2 it (Ne.symm hne)).trans q, hne⟩, fun b hb => ?_⟩
    · have e1 : ((i + 1 : Nat) : Int) = (i : Int) + 1 := by omega
      rw [e1]; exact he'
    · have hb' : b < s.heap.objs.size := by
        have e' : b = e ∨ b = it := by simpa using hb
        rcases e' with z | z
        · rw [z]; exact hel
        · rw [z]; exact hil
      rw [upd_ne (Nat.ne_of_lt hb')]
      exact (hf b hb).1
  done := by
    intro X hP hw hK hc i pins s σ H E I hf st hg
    subst hP hw hK
    obtain ⟨⟨old, he⟩, hit, hne⟩ := st
    obtain ⟨xs, hq, hx⟩ := hg
    obtain ⟨its, rv, p, hz⟩ := I.tuple hq
    obtain ⟨f0, f1, f2, f3, f4, f5⟩ := hf it (by simp)
    have hl := rv.length
    have hn : i = its.toArray.size := by simp; omega
    have hst : s.heap.IsTupleIter it a its.toArray.size ∧ s.heap.IsTuple a its.toArray := ⟨hn ▸ hit, p⟩
    exact wpAny_pyNext_enum_endD (Draws.tuple (show X.A.in1.handled = none from I.ok.hd hc) it a hai its.toArray) he hst fun h' eb => ⟨rfl, I.turned (t' := s.toks) (fun b o hb q => eb b o hb q) f0 f1 f3 f4 f5⟩
  self := fun A i s Q E st h => let ⟨⟨_, he⟩, _⟩ := st; wpAny_pyIter_enum he h

def iEnumT (K : PySem.W.Frag) (ta : TA) : TI := fun σ H R => ta σ H fun vs H1 => ∃ a xs, vs = [.ref a] ∧ SqT K H1 a xs ∧ R (IteT K a) H1
theorem pi_enumT {X : Cx} {e : Expr} {ta : TA} {p pos tpos : Pos} {elts : List Expr} {kk : Nat} (hg : Gl X "enumerate") (hm : X.mg "enumerate" = none) (ha : PA X [e] ta) (hs : starEach [e] X.env = [(false, eval e X.env)] := by rfl) :
    PI X (.Tuple elts kk tpos) (.Call (.Name "enumerate" p) [e] [] pos) (iEnumT X.K ta) := by
  refine ⟨fun pins s σ H R I h => ?_⟩
  refine Call_ (ld_blt I hg hm boot_enumerate (PyProof.Rows.callWith_type1 (thn (ha.run pos pins s σ H _ I h) fun us s1 ⟨vs, H1, I1, r1, q1⟩ => ?_) hs rfl))
  obtain ⟨a, xs, ex, hq, q⟩ := q1
  subst ex
  cases r1 with
  | cons r rr =>
    cases rr
    cases r
    obtain ⟨its, rv, p', hz⟩ := I1.tuple hq
    have hal : a < s1.heap.objs.size := by obtain ⟨_, g, _⟩ := p'; exact Heap.lt_size g
    refine call_enumerate_tup (items := its.toArray) p' fun h' he hit hk => wpAny_pyIter_enum he ?_
    have I2 : Inv X pins σ H1 { s1 with heap := h' } := I1.kept (t' := s1.toks) hk
    refine ⟨s1.heap.objs.size + 1, [s1.heap.objs.size + 1, s1.heap.objs.size], _, _, H1, rfl, I2, turn_enumT a (s1.heap.objs.size + 1) s1.heap.objs.size (Nat.ne_of_lt hal), ⟨⟨.none, he⟩, hit, Nat.succ_ne_self _⟩, fun b hb => ?_, q⟩
    have e' : b = s1.heap.objs.size + 1 ∨ b = s1.heap.objs.size := by simpa using hb
    have hle : s1.heap.objs.size ≤ b := by
      rcases e' with z | z
      · rw [z]; exact Nat.le_add_right _ _
      · rw [z]; exact Nat.le_refl _
    exact I1.fpOk hle (I1.hok.fresh hle)
theorem walk_enumT {K : PySem.W.Frag} {a : Addr} {xs : List V} : Walk (IteT K a) xs.length (fun H => SqT K H a xs) (YPair (fun i => some (.int (i : Nat))) (fun i => xs[i]?)) := by
  refine ⟨fun i _ hi q => ⟨xs, xs[i], q, by simp [hi]⟩, fun _ q => ⟨xs, q, rfl⟩, fun i H v H' _ q y => ?_⟩
  obtain ⟨T, x, h1, h2, h3, h4⟩ := y
  exact ⟨T, .int (i : Nat), x, h1, h2, h3, rfl, h4 xs q⟩
end FS
set_option Elab.async false
set_option linter.all false
set_option maxRecDepth 100000
set_option maxHeartbeats 4000000
namespace FS
open PySem PySem.Spec PyProof.Rows L2
/-- the row led along the order, i places done -/
def ledI (ns f : List Int) : Nat → List Int
  | 0 => List.replicate ns.length 0
  | i + 1 => (ledI ns f i).set (ns.getD i 0).toNat (f.getD i 0)
def ledM (ns f : List Int) : List Int := ledI ns f f.length
theorem led_len (ns f : List Int) : ∀ i, (ledI ns f i).length = ns.length
  | 0 => List.length_replicate
  | i + 1 => by
    show ((ledI ns f i).set _ _).length = _
    rw [List.length_set, led_len ns f i]
theorem ren_nice {φ : Fd} {p : Nat} (hp : p < 4) {ns : List Int} (hns : ns ∈ permsOf p) {c c' : Nat → φ.car} (h : Nice φ p c) (r : RenOf p ns c c') : Nice φ p c' := by
  refine ⟨ren_within hp hns r, fun i hi => ?_⟩
  by_cases z : c' i = 0
  · rw [z]
    exact Sz.zero (by decide)
  · obtain ⟨j, hj, hin, rfl⟩ := r.off i hi z
    rw [r.at_ j hj hin]
    exact h.sz j hj
theorem perm_lt : ∀ p, p < 4 → ∀ ns ∈ permsOf p, ns.length = p ∧ ∀ i, i < p → ns[i]? = some (ns.getD i 0) ∧ 0 ≤ ns.getD i 0 ∧ ns.getD i 0 < (p : Int) := by decide +kernel
end FS
set_option Elab.async false
set_option linter.all false
set_option maxRecDepth 100000
set_option maxHeartbeats 4000000
namespace FS
open PySem PySem.Spec PyProof.Rows L2
section
variable {P : Program} {w : World} {K : PySem.W.Frag} {mg : PySem.Str → Option Value} {base : Heap}
/-- what the renamed system keeps -/
def RenGood (φ : Fd) (p : Nat) (cs : List (Nat → φ.car)) (ns : List Int) (D : Nat) : Prop := ∀ cs', Paired (RenOf p ns) cs cs' → LeastOk φ p cs' D ∧ leastM p cs' D = leastM p cs D ∧ ∀ f, IsFill p f → grantsM cs f = true → IsFill p (ledM ns f) ∧ grantsM cs' (ledM ns f) = true
def k_law_led (K : PySem.W.Frag) : K3 := fun x y z H Q => ∃ (φ : Fd) (a lo : Addr) (p : Nat) (cs : List (Nat → φ.car)) (D : Nat) (ns : List Int), x = .ref a ∧ y = .ref lo ∧ z = .int (leastM p cs D) ∧ SysAt K φ H a p cs ∧ H lo = some (.lst (ns.map V.int)) ∧ ns ∈ permsOf p ∧ 1 ≤ p ∧ p < 4 ∧ cs.length ≤ 10 ∧ (∀ c ∈ cs, Nice φ p c) ∧ TabsK K H ∧ LeastOk φ p cs D ∧ RenGood φ p cs ns D ∧
  ∀ H', XN H H' → TabsK K H' → Q (.bl true) H'
theorem ren_all {φ : Fd} {p : Nat} (hp : p < 4) {ns : List Int} (hns : ns ∈ permsOf p) {us ds : List (Nat → φ.car)} (h : Paired (RenOf p ns) us ds) : (∀ c ∈ us, Nice φ p c) → ∀ d ∈ ds, Nice φ p d := by
  induction h with
  | nil => intro _ d hd; cases hd
  | cons r q ih =>
    intro hu d hd
    rcases List.mem_cons.mp hd with z | z
    · rw [z]; exact ren_nice hp hns (hu _ List.mem_cons_self) r
    · exact ih (fun c hc => hu c (List.mem_cons_of_mem _ hc)) d z

abbrev N_law_led_right : List PySem.Str := ["_law_system_here", "_law_order", "_law_degree", "_law_other", "_law_row", "_law_led", "_law_place", "_law_one"]
theorem sc_law_led_right : FnScope N_law_led_right ["_law_system_here", "_law_order", "_law_degree"] (defScope s_law_led_right) := ⟨rfl, rfl, rfl, by decide +kernel, rfl, by decide +kernel, by decide +kernel⟩
theorem b_law_led_right (T : Tx K mg) (TB : LamX.TabB base mg (He.cT K ("gathered", none)).1 (He.cT K ("gathered", none)).2) : Body P w K mg base 10 "_law_led_right" (defBody s_law_led_right) (defScope s_law_led_right) N_law_led_right (S3 (k_law_led K)) := fun f cdv A outer s H vs Q E hcd hr h => by
  refine ⟨_, (pss_cons (ps_set (i := 3) sc_law_led_right.nd rfl (by first | exact Or.inl rfl | exact Or.inr rfl) (C8.pe_mt (c_System_renamed T TB) hr (by decide) (pv 0) (pa_cons (pv 1) pa_nil))) (pss_cons (ps_if (pt_cmpR op_ne (C8.pe_c (c_law_least_of T TB) hr (by decide) rfl (pa_cons (pv 3) pa_nil)) (pv 2) (nomark _)) (pss_one (ps_ret pe_bl)) pss_nil) (pss_cons (ps_if (pt_cmpR op_lt (pv 2) pe_int (nomark _)) (pss_one (ps_ret pe_bl)) pss_nil) (pss_cons (ps_set (i := 4) sc_law_led_right.nd rfl (by first | exact Or.inl rfl | exact Or.inr rfl) (pe_ix ix_tup (C8.pe_c (c_least T TB) hr (by decide) rfl (pa_cons (pv 0) pa_nil)) pe_int (fun _ _ => rfl))) (pss_cons (ps_set (i := 5) sc_law_led_right.nd rfl (by first | exact Or.inl rfl | exact Or.inr rfl) (pe_op op_rep (pe_lst (pa_cons pe_int pa_nil)) (pe_callB call_len_seq (by rfl) T.f_len PySem.boot_len (pa_cons (pv 1) pa_nil)))) (pss_cons (ps_for PassesOwn.never rfl (pi_enumT rfl T.f_enumerate (pa_cons (pv 4) pa_nil)) (pg_tup rfl (pgs_cons (pg_name (i := 6) sc_law_led_right.nd rfl (by first | exact Or.inl rfl | exact Or.inr rfl)) (pgs_cons (pg_name (i := 7) sc_law_led_right.nd rfl (by first | exact Or.inl rfl | exact Or.inr rfl)) pgs_nil))) (pss_one (ps_asg (pv 7) (pg_sub (pv 5) (pe_ix ix_list (pv 1) (pv 6) (fun _ _ => rfl)) set_list)))) (pss_one (ps_ret (pe_cmpR op_is_bl (C8.pe_c (c_is_filling2 T) hr (by decide) rfl (pa_cons (pv 3) (pa_cons (pe_callTy call_tuple_of (by rfl) T.f_tuple (by decide +kernel) (pa_cons (pv 5) pa_nil)) pa_nil))) pe_bl (nomark _)))))))))), ?_⟩
  obtain ⟨x, y, z, rfl, φ, a, lo, p, cs, D, ns, rfl, rfl, rfl, hS, hlo, hns, hp1, hp, hlen, hN, hTb, hD, hren, hQ⟩ := h
  obtain ⟨dx, fa0, ln, lu, ha, _⟩ := id hS
  obtain ⟨hnl, hnat⟩ := perm_lt p hp ns hns
  have hws : ∀ c ∈ cs, Within p c ∧ SubSm φ c := fun c hc => ⟨(hN c hc).wi, (hN c hc).sub⟩
  refine ⟨_, rfl, a, dx, _, rfl, ha, rfl, _, rfl, _, _, rfl, φ, a, lo, p, cs, ns, rfl, rfl, hS, SqL.of hlo, hns, hp1, hp, hlen, fun c hc => (hN c hc).wi, hTb, small_zero φ, fun c hc j hj => (hN c hc).sm hj, fun H1 b cs' x1 t1 n1 s1 r1 => ?_⟩
  obtain ⟨k1, k2, k3⟩ := hren cs' r1
  have hN' := ren_all hp hns r1 hN
  have hlen' : cs'.length ≤ 10 := by
    have : cs.length = cs'.length := Paired.length r1
    omega
  have hlo1 := x1 _ _ hlo (fun _ z => by cases z)
  refine ⟨_, rfl, _, rfl, φ, b, p, cs', D, rfl, s1, hp, hlen', hN', t1, k1, fun H2 x2 t2 => ⟨_, rfl, rfl, _, rfl, ?_⟩⟩
  rw [k2, decide_eq_true rfl]
  have x12 := x1.trans x2
  have hlo2 := x2 _ _ hlo1 (fun _ z => by cases z)
  refine iteF ⟨_, rfl, _, _, rfl, rfl, _, rfl, ?_⟩
  cases hf : (rowsM p).filter (grantsM cs) with
  | nil =>
    obtain ⟨d3, _⟩ := hD.run hf
    have e : leastM p cs D = (D : Int) := by unfold leastM; rw [hf]; rfl
    rw [e, decide_eq_true (show ((D : Nat) : Int) < 1000 by omega)]
    exact iteT (hQ H2 x12 t2)
  | cons f0 fs =>
    have e : leastM p cs D = 1000 := by unfold leastM; rw [hf]; rfl
    rw [e, decide_eq_false (show ¬ (1000 : Int) < 1000 by omega)]
    refine iteF ⟨_, rfl, _, rfl, φ, a, p, cs, D, rfl, hS.xn x12, hp, hlen, hws, t2, hD.run, fun f1 fs1 H3 t v hf1 x3 t3 hv ht => ?_, fun H' t v1 v2 hf1 x9 t9 ht => (by rw [hf] at hf1; cases hf1)⟩
    obtain ⟨g1, g2⟩ := fill_of hp hf1
    obtain ⟨l1, l2⟩ := k3 f1 g1 g2
    have hfl : f1.length = p := g1.1
    have hlo3 := x3 _ _ hlo2 (fun _ z => by cases z)
    obtain ⟨fl, rfl, hfv⟩ := hv
    refine ⟨t, _, _, _, rfl, rfl, ht, atI_nat (j := 1) rfl, ?_⟩
    refine ⟨by show 1 ≤ sizeLine; decide, fun l hl => ?_⟩
    have eL := Ext.upd (o := .lst [.int 0]) hl
    have hlo4 := eL _ _ hlo3
    refine ⟨_, rfl, lo, _, rfl, .inl (SqL.of hlo4), l, _, _, rfl, rfl, upd_same, ?_, ?_, ?_, fun q hq => ?_⟩
    · rw [List.length_map]; omega
    · rw [List.length_map]; omega
    · rw [List.length_map]
      exact Nat.le_of_lt (small1000 (show 1 * ((ns.length : Nat) : Int).toNat ≤ 1000 by omega))
    have eQ := eL.trans (Ext.upd (o := .lst (List.replicate (((ns.map V.int).length : Nat) : Int).toNat [V.int 0]).flatten) hq)
    have hrep : (List.replicate (((ns.map V.int).length : Nat) : Int).toNat [V.int 0]).flatten = (ledI ns f1 0).map V.int := by
      have e1 : ∀ n : Nat, (List.replicate n [V.int 0]).flatten = (List.replicate n (0 : Int)).map V.int := fun n => by
        induction n with
        | zero => rfl
        | succ n ih => rw [List.replicate_succ, List.flatten_cons, ih, List.replicate_succ]; rfl
      rw [List.length_map, Int.toNat_natCast, e1]
      rfl
    have hloq := eQ _ _ hlo3
    have hqlo : lo ≠ q := ne_of_none hlo4 hq
    have hq3 : H3 q = none := fresh_of eL hq
    refine ⟨_, rfl, fl, _, rfl, hfv.ext eQ, ?_⟩
    refine for_it walk_enumT (fun i σ H' => Ext H3 H' ∧ H' q = some (.lst ((ledI ns f1 i).map V.int)) ∧ ∃ o1 o2, σ = [some (.ref a), some (.ref lo), some (.int 1000), some (.ref b), some (.ref fl), some (.ref q), o1, o2]) ⟨eQ, by rw [upd_same, hrep], _, _, rfl⟩ (fun i σ H' _ z => hfv.ext z.1) (fun i x σ H4 H5 hi z yy => ?_) fun σ H4 z => ?_
    · obtain ⟨e4, hq4, o1, o2, rfl⟩ := z
      obtain ⟨Tt, k, v, rfl, hT, rfl, ek, ev⟩ := yy
      cases Option.some.inj ek
      rw [List.length_map] at hi
      have ev : (f1.map V.int)[i]? = some v := ev
      rw [List.getElem?_map] at ev
      obtain ⟨fv, hfv1, rfl⟩ := Option.map_eq_some_iff.mp ev
      have eT := Ext.upd (o := .tup [.int (i : Nat), .int fv]) hT
      have e5 := e4.trans eT
      obtain ⟨m1, m2, m3⟩ := hnat i (by omega)
      have hfd : f1.getD i 0 = fv := by rw [List.getD_eq_getElem?_getD, hfv1]; rfl
      refine ⟨Tt, _, rfl, SqT.of upd_same, rfl, _, _, rfl, _, _, rfl, rfl, ?_⟩
      refine ⟨_, rfl, _, rfl, _, rfl, _, rfl, lo, _, ((i : Nat) : Int), .int (ns.getD i 0), rfl, rfl, SqL.of (e5 _ _ hlo3), atI_nat (by rw [List.getElem?_map, m1]; rfl), q, _, ns.getD i 0, (ns.getD i 0).toNat, rfl, rfl, eT _ _ hq4, ?_, e5.wr hq3, ?_, _, _, rfl⟩
      · rw [List.length_map, led_len]
        unfold ixN
        rw [if_pos m2, if_pos (by omega)]
      · rw [upd_same, ← List.map_set]
        show some (HO.lst (((ledI ns f1 i).set (ns.getD i 0).toNat fv).map V.int)) = some (HO.lst (((ledI ns f1 i).set (ns.getD i 0).toNat (f1.getD i 0)).map V.int))
        rw [hfd]
    · obtain ⟨e4, hq4, o1, o2, rfl⟩ := z
      rw [List.length_map] at hq4
      have x4 : XN H2 H4 := x3.trans (XN.ofX e4)
      refine ⟨_, rfl, _, rfl, q, _, rfl, .inl ⟨SqL.of hq4, fun u hu => ?_⟩⟩
      have eU := Ext.upd (o := .tup ((ledI ns f1 f1.length).map V.int)) hu
      refine ⟨_, _, _, rfl, φ, b, p, cs', ledM ns f1, rfl, rfl, s1.xn ((x2.trans x4).trans (XN.ofX eU)), ⟨u, rfl, SqT.of upd_same⟩, l1, hp, hlen', fun c hc => ⟨(hN' c hc).wi, (hN' c hc).sub⟩, fun H6 e6 => ?_⟩
      rw [l2]
      refine ⟨_, _, rfl, rfl, ?_⟩
      rw [decide_eq_true rfl]
      exact hQ H6 (((x12.trans x4).trans (XN.ofX eU)).trans (XN.ofX e6)) (((t3.x e4).x eU).x e6)
theorem c_law_led_right (T : Tx K mg) (TB : LamX.TabB base mg (He.cT K ("gathered", none)).1 (He.cT K ("gathered", none)).2) : C8.Cal P w K mg base 11 "_law_led_right" (S3 (k_law_led K)) [] := cal_of T.F_law_led_right T.m_law_led_right sc_law_led_right (fun _ _ _ _ _ _ us hl => match us, hl with | [_, _, _], _ => rfl) len3 (b_law_led_right T TB)
end
end FS
set_option Elab.async false
set_option linter.all false
set_option maxRecDepth 100000
set_option maxHeartbeats 1000000
/-! whole numbers that solve whole equations: small ones -/
namespace FS
def sumZ : Nat → (Nat → Int) → Int
  | 0, _ => 0
  | n + 1, f => sumZ n f + f n
theorem pigeon : ∀ (M N : Nat) (f : Nat → Nat), (∀ i, i < N → f i < M) → M < N → ∃ i j, i < j ∧ j < N ∧ f i = f j
  | 0, N, f, h, hN => absurd (h 0 hN) (by omega)
  | M + 1, N, f, h, hN => by
    obtain ⟨N, rfl⟩ : ∃ N', N = N' + 1 := ⟨N - 1, by omega⟩
    by_cases e : ∃ i, i < N ∧ f i = f N
    · obtain ⟨i, h1, h2⟩ := e
      exact ⟨i, N, h1, by omega, h2⟩
    · have ne : ∀ i, i < N → f i ≠ f N := fun i hi z => e ⟨i, hi, z⟩
      obtain ⟨i, j, h1, h2, h3⟩ := pigeon M N (fun i => if f i < f N then f i else f i - 1) (fun i hi => by
        have a := h i (by omega)
        have b := h N (by omega)
        have c := ne i hi
        show (if f i < f N then f i else f i - 1) < M
        split <;> omega) (by omega)
      refine ⟨i, j, h1, by omega, ?_⟩
      have a := ne i (by omega)
      have b := ne j h2
      have h3 : (if f i < f N then f i else f i - 1) = (if f j < f N then f j else f j - 1) := h3
      split at h3 <;> split at h3 <;> omega
def encR (R : Nat) : Nat → (Nat → Nat) → Nat
  | 0, _ => 0
  | n + 1, v => encR R n (fun k => v (k + 1)) * R + v 0
theorem encR_lt (R : Nat) : ∀ (n : Nat) (v : Nat → Nat), (∀ k, k < n → v k < R) → encR R n v < R ^ n
  | 0, _, _ => by simp [encR]
  | n + 1, v, h => by
    have a := encR_lt R n (fun k => v (k + 1)) fun k hk => h (k + 1) (by omega)
    have b := h 0 (by omega)
    show encR R n (fun k => v (k + 1)) * R + v 0 < R ^ n * R
    have : (encR R n (fun k => v (k + 1)) + 1) * R ≤ R ^ n * R := Nat.mul_le_mul_right R a
    rw [Nat.add_mul] at this
    omega
theorem encR_inj (R : Nat) : ∀ (n : Nat) (u v : Nat → Nat), (∀ k, k < n → u k < R) → (∀ k, k < n → v k < R) → encR R n u = encR R n v → ∀ k, k < n → u k = v k
  | 0, _, _, _, _, _, k, hk => absurd hk (by omega)
  | n + 1, u, v, hu, hv, e, k, hk => by
    have e : encR R n (fun k => u (k + 1)) * R + u 0 = encR R n (fun k => v (k + 1)) * R + v 0 := e
    have u0 := hu 0 (by omega)
    have v0 := hv 0 (by omega)
    have e0 : u 0 = v 0 := by
      have := congrArg (· % R) e
      simpa [Nat.mod_eq_of_lt u0, Nat.mod_eq_of_lt v0] using this
    have e1 : encR R n (fun k => u (k + 1)) = encR R n (fun k => v (k + 1)) := by
      rw [e0] at e
      exact Nat.eq_of_mul_eq_mul_right (by omega) (Nat.add_right_cancel e)
    cases k with
    | zero => exact e0
    | succ k => exact encR_inj R n _ _ (fun k hk => hu (k + 1) (by omega)) (fun k hk => hv (k + 1) (by omega)) e1 k (by omega)
theorem digs_eq (B : Nat) (hB : 0 < B) : ∀ (n i j : Nat), i < B ^ n → j < B ^ n → (∀ g, g < n → i / B ^ g % B = j / B ^ g % B) → i = j
  | 0, i, j, hi, hj, _ => by
    rw [Nat.pow_zero] at hi hj
    omega
  | n + 1, i, j, hi, hj, h => by
    have h0 := h 0 (by omega)
    rw [Nat.pow_zero, Nat.div_one, Nat.div_one] at h0
    have h1 := digs_eq B hB n (i / B) (j / B) (Nat.div_lt_of_lt_mul (by rw [Nat.mul_comm]; exact hi)) (Nat.div_lt_of_lt_mul (by rw [Nat.mul_comm]; exact hj)) fun g hg => by
      have := h (g + 1) (by omega)
      rwa [Nat.pow_succ, Nat.mul_comm (B ^ g) B, ← Nat.div_div_eq_div_mul, ← Nat.div_div_eq_div_mul] at this
    rw [← Nat.div_add_mod i B, ← Nat.div_add_mod j B, h0, h1]
theorem sumZ_bd {f : Nat → Int} {b : Nat} (h : ∀ g, (f g).natAbs ≤ b) : ∀ n, (sumZ n f).natAbs ≤ n * b
  | 0 => by simp [sumZ]
  | n + 1 => by
    have a := sumZ_bd h n
    have c := h n
    show (sumZ n f + f n).natAbs ≤ (n + 1) * b
    rw [Nat.add_mul, Nat.one_mul]
    exact Nat.le_trans (Int.natAbs_add_le _ _) (Nat.add_le_add a c)
theorem sumZ_sub (f g : Nat → Int) : ∀ n, sumZ n (fun k => f k - g k) = sumZ n f - sumZ n g
  | 0 => rfl
  | n + 1 => by
    show sumZ n (fun k => f k - g k) + (f n - g n) = (sumZ n f + f n) - (sumZ n g + g n)
    rw [sumZ_sub f g n]
    omega
theorem sumZ_congr {f g : Nat → Int} : ∀ n, (∀ k, k < n → f k = g k) → sumZ n f = sumZ n g
  | 0, _ => rfl
  | n + 1, h => by
    show sumZ n f + f n = sumZ n g + g n
    rw [sumZ_congr n fun k hk => h k (by omega), h n (by omega)]
theorem siegel (a : Nat → Nat → Int) (A m : Nat) (h : ∀ k g, (a k g).natAbs ≤ A) :
    ∃ x : Nat → Int, (∃ g, g < m + 1 ∧ x g ≠ 0) ∧ (∀ g, (x g).natAbs ≤ (2 * ((m + 1) * A) + 1) ^ m) ∧ ∀ k, k < m → sumZ (m + 1) (fun g => a k g * x g) = 0 := by
  generalize hC : 2 * ((m + 1) * A) + 1 = C
  generalize hX : C ^ m = X
  have hX1 : 1 ≤ X := by
    rw [← hX]
    exact Nat.pos_of_ne_zero (by
      have : 0 < C ^ m := Nat.pow_pos (by omega)
      omega)
  let dg : Nat → Nat → Nat := fun i g => i / (X + 1) ^ g % (X + 1)
  have hdg : ∀ i g, dg i g ≤ X := fun i g => Nat.le_of_lt_succ (Nat.mod_lt _ (Nat.succ_pos X))
  let L : Nat → Nat → Int := fun k i => sumZ (m + 1) fun g => a k g * (dg i g : Int)
  let S : Nat := (m + 1) * (A * X)
  have hL : ∀ k i, (L k i).natAbs ≤ S := fun k i => sumZ_bd (fun g => by
    rw [Int.natAbs_mul, Int.natAbs_natCast]
    exact Nat.mul_le_mul (h k g) (hdg i g)) (m + 1)
  let val : Nat → Nat → Nat := fun i k => (L k i + (S : Int)).toNat
  have hval : ∀ i k, val i k < 2 * S + 1 := fun i k => by
    have := hL k i
    show (L k i + (S : Int)).toNat < 2 * S + 1
    omega
  have hR : 2 * S + 1 ≤ C * X := by
    have e : 2 * S = 2 * ((m + 1) * A) * X := by
      show 2 * ((m + 1) * (A * X)) = _
      rw [Nat.mul_assoc 2, Nat.mul_assoc (m + 1)]
    rw [← hC, Nat.add_mul, e]
    omega
  have hN : (2 * S + 1) ^ m < (X + 1) ^ (m + 1) := by
    have h1 : (2 * S + 1) ^ m ≤ (C * X) ^ m := Nat.pow_le_pow_left hR m
    rw [Nat.mul_pow, hX] at h1
    have h2 : X * X ^ m ≤ X * (X + 1) ^ m := Nat.mul_le_mul_left X (Nat.pow_le_pow_left (Nat.le_succ X) m)
    have h3 : 0 < (X + 1) ^ m := Nat.pow_pos (Nat.succ_pos X)
    rw [Nat.pow_succ, Nat.mul_add, Nat.mul_one, Nat.mul_comm _ X]
    omega
  obtain ⟨i, j, hij, hj, e⟩ := pigeon _ _ (fun i => encR (2 * S + 1) m (val i)) (fun i _ => encR_lt _ m _ fun k _ => hval i k) hN
  have ev := encR_inj _ m _ _ (fun k _ => hval i k) (fun k _ => hval j k) e
  refine ⟨fun g => (dg i g : Int) - (dg j g : Int), ?_, fun g => ?_, fun k hk => ?_⟩
  · refine Classical.byContradiction fun ne => ?_
    have : i = j := digs_eq (X + 1) (Nat.succ_pos X) (m + 1) i j (by omega) hj fun g hg => by
      refine Classical.byContradiction fun q => ne ⟨g, hg, fun z => q ?_⟩
      have z : ((i / (X + 1) ^ g % (X + 1) : Nat) : Int) - ((j / (X + 1) ^ g % (X + 1) : Nat) : Int) = 0 := z
      omega
    omega
  · have a1 := hdg i g
    have a2 := hdg j g
    show ((dg i g : Int) - (dg j g : Int)).natAbs ≤ X
    omega
  · have hv : (L k i + (S : Int)).toNat = (L k j + (S : Int)).toNat := ev k hk
    have b1 := hL k i
    have b2 := hL k j
    have hLL : L k i = L k j := by omega
    have e2 : sumZ (m + 1) (fun g => a k g * ((dg i g : Int) - (dg j g : Int))) = L k i - L k j := by
      show _ = sumZ (m + 1) _ - sumZ (m + 1) _
      rw [← sumZ_sub]
      exact sumZ_congr _ fun g _ => Int.mul_sub _ _ _
    rw [e2, hLL]
    omega
end FS
set_option Elab.async false
set_option linter.all false
set_option maxRecDepth 100000
set_option maxHeartbeats 1000000
/-! sums over the first n, fractions with bounds -/
namespace FS
/-- a whole number of a kind, where there is one -/
noncomputable def pick (P : Int → Prop) : Int := @dite _ (∃ a, P a) (Classical.propDecidable _) (fun h => Classical.choose h) fun _ => 0
theorem pick_spec {P : Int → Prop} (h : ∃ a, P a) : P (pick P) := by
  unfold pick
  rw [dif_pos h]
  exact Classical.choose_spec h
theorem pick_or (P : Int → Prop) : P (pick P) ∨ pick P = 0 := by
  by_cases h : ∃ a, P a
  · exact .inl (pick_spec h)
  · right
    unfold pick
    rw [dif_neg h]
section
variable {α : Type} [Lean.Grind.Field α] [DecidableEq α]
def sm : Nat → (Nat → α) → α
  | 0, _ => 0
  | n + 1, f => sm n f + f n
theorem sm_congr {f g : Nat → α} : ∀ n, (∀ k, k < n → f k = g k) → sm n f = sm n g
  | 0, _ => rfl
  | n + 1, h => by
    show sm n f + f n = sm n g + g n
    rw [sm_congr n fun k hk => h k (by omega), h n (by omega)]
theorem sm_add (f g : Nat → α) : ∀ n, sm n (fun k => f k + g k) = sm n f + sm n g
  | 0 => by show (0 : α) = 0 + 0; grind
  | n + 1 => by
    show sm n (fun k => f k + g k) + (f n + g n) = (sm n f + f n) + (sm n g + g n)
    rw [sm_add f g n]
    grind
theorem sm_mul (c : α) (f : Nat → α) : ∀ n, sm n (fun k => c * f k) = c * sm n f
  | 0 => by show (0 : α) = c * 0; grind
  | n + 1 => by
    show sm n (fun k => c * f k) + c * f n = c * (sm n f + f n)
    rw [sm_mul c f n]
    grind
theorem sm_zero {f : Nat → α} : ∀ n, (∀ k, k < n → f k = 0) → sm n f = 0
  | 0, _ => rfl
  | n + 1, h => by
    show sm n f + f n = 0
    rw [sm_zero n fun k hk => h k (by omega), h n (by omega)]
    grind
theorem sm_one {f : Nat → α} {i : Nat} : ∀ n, i < n → (∀ k, k < n → k ≠ i → f k = 0) → sm n f = f i
  | 0, hi, _ => absurd hi (by omega)
  | n + 1, hi, h => by
    show sm n f + f n = f i
    by_cases e : i = n
    · subst e
      rw [sm_zero i fun k hk => h k (by omega) (by omega)]
      grind
    · rw [sm_one n (by omega) fun k hk ne => h k (by omega) ne, h n (by omega) (Ne.symm e)]
      grind
theorem sm_swap (f : Nat → Nat → α) (m : Nat) : ∀ n, sm n (fun j => sm m (fun k => f j k)) = sm m (fun k => sm n (fun j => f j k))
  | 0 => by
    show (0 : α) = sm m fun k => 0
    rw [sm_zero m fun k _ => rfl]
  | n + 1 => by
    show sm n (fun j => sm m (fun k => f j k)) + sm m (fun k => f n k) = sm m (fun k => sm n (fun j => f j k) + f n k)
    rw [sm_swap f m n, sm_add]
theorem lsum_app (c : Nat → α) : ∀ xs ys : List Nat, lsum c (xs ++ ys) = lsum c xs + lsum c ys
  | [], ys => by
    show lsum c ys = 0 + lsum c ys
    grind
  | x :: xs, ys => by
    rw [List.cons_append, lsum_cons, lsum_cons, lsum_app c xs ys]
    grind
theorem lsum_sm (c : Nat → α) (P : Nat → Bool) : ∀ n, lsum c ((List.range n).filter P) = sm n fun j => if P j = true then c j else 0
  | 0 => rfl
  | n + 1 => by
    rw [List.range_succ, List.filter_append, lsum_app, lsum_sm c P n]
    show sm n _ + _ = sm n _ + _
    congr 1
    show _ = if P n = true then c n else 0
    by_cases e : P n = true
    · rw [if_pos e, List.filter_cons_of_pos e]
      show (0 : α) + c n = c n
      grind
    · rw [if_neg e, List.filter_cons_of_neg e]
      rfl
theorem mulC_sm (q : Nat) (c : Nat → α) (k : Nat) : mulC q c k = sm 8 fun j => if jn j q = k then c j else 0 := by
  unfold mulC
  rw [lsum_sm]
  refine sm_congr 8 fun j _ => ?_
  by_cases e : jn j q = k
  · rw [if_pos e, if_pos (decide_eq_true e)]
  · rw [if_neg e, if_neg (by rw [decide_eq_false e]; exact Bool.false_ne_true)]
theorem eval_sm (c : Nat → α) (f : List Int) : evalC c f = sm 8 fun j => if on f j = true then c j else 0 := by
  unfold evalC
  rw [lsum_sm]
  refine sm_congr 8 fun j _ => ?_
  by_cases e : c j = 0
  · rw [e]
    split <;> split <;> rfl
  · rw [decide_eq_true e, Bool.true_and]
end
section
variable {φ : Fd}
theorem ic_sumZ (f : Nat → Int) : ∀ n, φ.ic (sumZ n f) = sm n fun g => φ.ic (f g)
  | 0 => φ.ic_zero
  | n + 1 => by
    show φ.ic (sumZ n f + f n) = sm n _ + φ.ic (f n)
    rw [φ.ic_add, ic_sumZ f n]
theorem ic_ne (hp : φ.p = 0) {b : Int} (h : b ≠ 0) : φ.ic b ≠ 0 := (φ.good b).mp (by unfold Good; rw [if_pos hp]; exact h)
theorem ic_inj (hp : φ.p = 0) {a b : Int} (h : φ.ic a = φ.ic b) : a = b := by
  refine Classical.byContradiction fun ne => ?_
  have := ic_ne hp (b := a - b) (by omega)
  rw [Fd.ic_sub, h] at this
  exact this (by grind)
/-- the number is a fraction of whole numbers below 2 ^ N -/
def Fr (φ : Fd) (N : Nat) (x : φ.car) : Prop := φ.p = 0 → ∃ a b : Int, b ≠ 0 ∧ x * φ.ic b = φ.ic a ∧ a.natAbs < 2 ^ N ∧ b.natAbs < 2 ^ N
theorem Fr.mono {N M : Nat} {x : φ.car} (h : Fr φ N x) (l : N ≤ M) : Fr φ M x := fun hp => by
  obtain ⟨a, b, h1, h2, h3, h4⟩ := h hp
  have := Nat.pow_le_pow_right (n := 2) (by decide) l
  exact ⟨a, b, h1, h2, by omega, by omega⟩
theorem Fr.mul {N M : Nat} {x y : φ.car} (h : Fr φ N x) (k : Fr φ M y) : Fr φ (N + M) (x * y) := fun hp => by
  obtain ⟨a, b, h1, h2, h3, h4⟩ := h hp
  obtain ⟨c, d, k1, k2, k3, k4⟩ := k hp
  refine ⟨a * c, b * d, Int.mul_ne_zero h1 k1, ?_, ?_, ?_⟩
  · rw [φ.ic_mul, φ.ic_mul, ← h2, ← k2]
    grind
  · rw [Int.natAbs_mul, Nat.pow_add]
    exact Nat.mul_lt_mul'' h3 k3
  · rw [Int.natAbs_mul, Nat.pow_add]
    exact Nat.mul_lt_mul'' h4 k4
theorem Fr.inv {N : Nat} {x : φ.car} (h : Fr φ N x) (hx : x ≠ 0) : Fr φ N (1 / x) := fun hp => by
  obtain ⟨a, b, h1, h2, h3, h4⟩ := h hp
  refine ⟨b, a, fun z => ?_, ?_, h4, h3⟩
  · rw [z, φ.ic_zero] at h2
    have := ic_ne hp h1
    grind
  · rw [← h2]
    grind
theorem Fr.back {N : Nat} {x : φ.car} (h : Fr φ N x) : Fr φ (N + 1) (1 - x) := fun hp => by
  obtain ⟨a, b, h1, h2, h3, h4⟩ := h hp
  refine ⟨b - a, b, h1, ?_, ?_, ?_⟩
  · rw [Fd.ic_sub, ← h2]
    grind
  · rw [Nat.pow_succ]
    omega
  · rw [Nat.pow_succ]
    omega
theorem gcd_dvd {a b t s : Int} (e : t * b = a * s) (hb : b ≠ 0) (hg : Int.gcd s t = 1) : s.natAbs ≤ b.natAbs ∧ t.natAbs ≤ a.natAbs := by
  have e' : t.natAbs * b.natAbs = a.natAbs * s.natAbs := by
    rw [← Int.natAbs_mul, ← Int.natAbs_mul, e]
  have hg' : Nat.Coprime s.natAbs t.natAbs := hg
  constructor
  · refine Nat.le_of_dvd (by omega) (hg'.dvd_of_dvd_mul_left ⟨a.natAbs, ?_⟩)
    rw [e', Nat.mul_comm]
  · by_cases z : a.natAbs = 0
    · rw [z, Nat.zero_mul] at e'
      rcases Nat.mul_eq_zero.mp e' with q | q
      · omega
      · omega
    · refine Nat.le_of_dvd (by omega) (hg'.symm.dvd_of_dvd_mul_right ⟨b.natAbs, ?_⟩)
      rw [e']
theorem Fr.small {N : Nat} {x : φ.car} (h : Fr φ N x) (l : N ≤ 4400) : Small φ x := by
  by_cases hp : φ.p = 0
  · obtain ⟨a, b, h1, h2, h3, h4⟩ := h hp
    obtain ⟨c1, c2⟩ := φ.canon0 hp x
    obtain ⟨v1, v2⟩ := φ.val x
    have e : (φ.enc x).1 * b = a * (φ.enc x).2 := ic_inj hp (by
      rw [φ.ic_mul, φ.ic_mul, ← h2, ← v2]
      grind)
    obtain ⟨g1, g2⟩ := gcd_dvd e h1 c2
    have := Nat.pow_le_pow_right (n := 2) (by decide) l
    exact ⟨by omega, by omega⟩
  · obtain ⟨c1, c2, c3⟩ := φ.canonp hp x
    have := (Fd.p_pos hp).2
    have big : (100 : Nat) < 2 ^ 4400 := Nat.lt_of_lt_of_le (show (100 : Nat) < 2 ^ 7 by decide) (Nat.pow_le_pow_right (by decide) (by decide))
    exact ⟨by omega, by omega⟩
theorem Fr.zero {N : Nat} : Fr φ (N + 1) 0 := fun _ => ⟨0, 1, by decide, by rw [φ.ic_zero]; grind, Nat.pow_pos (by decide), by
  have : 2 ^ 1 ≤ 2 ^ (N + 1) := Nat.pow_le_pow_right (by decide) (by omega)
  show 1 < 2 ^ (N + 1)
  omega⟩
end
end FS
set_option Elab.async false
set_option linter.all false
set_option maxRecDepth 100000
set_option maxHeartbeats 1000000
/-! the lines that a run leaves: what they are made of, how large their numbers are -/
namespace FS
section
variable {α : Type} [Lean.Grind.Field α] [DecidableEq α]
/-- the span of S, looked at up to eight -/
inductive Sp (S : (Nat → α) → Prop) : (Nat → α) → Prop
  | zero {v : Nat → α} : (∀ j, j < 8 → v j = 0) → Sp S v
  | step {u v w : Nat → α} (c : α) : Sp S u → S w → (∀ j, j < 8 → v j = u j + c * w j) → Sp S v
theorem Sp.congr {S : (Nat → α) → Prop} {v u : Nat → α} (h : Sp S v) (e : ∀ j, j < 8 → v j = u j) : Sp S u := by
  cases h with
  | zero z => exact .zero fun j hj => by rw [← e j hj, z j hj]
  | step c a b z => exact .step c a b fun j hj => by rw [← e j hj, z j hj]
theorem Sp.one {S : (Nat → α) → Prop} {w : Nat → α} (h : S w) : Sp S w := .step (u := fun _ => 0) 1 (.zero fun _ _ => rfl) h fun j _ => by grind
theorem Sp.add {S : (Nat → α) → Prop} {u v : Nat → α} (h : Sp S u) (k : Sp S v) : Sp S fun j => u j + v j := by
  induction k with
  | zero z => exact h.congr fun j hj => by rw [z j hj]; grind
  | @step u' v' w c a b z ih => exact .step c ih b fun j hj => by rw [z j hj]; grind
theorem Sp.smul {S : (Nat → α) → Prop} {v : Nat → α} (c : α) (h : Sp S v) : Sp S fun j => c * v j := by
  induction h with
  | zero z => exact .zero fun j hj => by rw [z j hj]; grind
  | @step u' v' w d a b z ih => exact .step (c * d) ih b fun j hj => by rw [z j hj]; grind
theorem Sp.bind {S T : (Nat → α) → Prop} {v : Nat → α} (h : Sp S v) (f : ∀ w, S w → Sp T w) : Sp T v := by
  induction h with
  | zero z => exact .zero z
  | @step u' v' w d a b z ih => exact (ih.add ((f w b).smul d)).congr fun j hj => (z j hj).symm
theorem Sp.mono {S T : (Nat → α) → Prop} {v : Nat → α} (h : Sp S v) (f : ∀ w, S w → T w) : Sp T v := h.bind fun w hw => .one (f w hw)
theorem sp_sm {S : (Nat → α) → Prop} {f : Nat → Nat → α} : ∀ n, (∀ k, k < n → Sp S (f k)) → Sp S fun j => sm n fun k => f k j
  | 0, _ => .zero fun _ _ => rfl
  | n + 1, h => (sp_sm n fun k hk => h k (by omega)).add (h n (by omega))
end
section
variable {φ : Fd}
def rowL (st : LSt φ) (h j : Nat) : φ.car := match st h with
  | none => 0
  | some x => x.1 j
def mkL (st : LSt φ) (h j : Nat) : φ.car := match st h with
  | none => 0
  | some x => x.2 j
theorem rowL_some {st : LSt φ} {h : Nat} {x : (Nat → φ.car) × (Nat → φ.car)} (e : st h = some x) (j : Nat) : rowL st h j = x.1 j := by unfold rowL; rw [e]
theorem mkL_some {st : LSt φ} {h : Nat} {x : (Nat → φ.car) × (Nat → φ.car)} (e : st h = some x) (j : Nat) : mkL st h j = x.2 j := by unfold mkL; rw [e]
theorem rowL_upd {st : LSt φ} {h0 h : Nat} {o : Option ((Nat → φ.car) × (Nat → φ.car))} (ne : h ≠ h0) (j : Nat) : rowL (updS st h0 o) h j = rowL st h j := by unfold rowL updS; rw [if_neg ne]
theorem mkL_upd {st : LSt φ} {h0 h : Nat} {o : Option ((Nat → φ.car) × (Nat → φ.car))} (ne : h ≠ h0) (j : Nat) : mkL (updS st h0 o) h j = mkL st h j := by unfold mkL updS; rw [if_neg ne]
/-- (v, μ) is (r, m) and lines from where r is nought -/
structure Made (st : LSt φ) (v μ r m l : Nat → φ.car) : Prop where
  row : ∀ j, j < 8 → v j = r j + sm 8 fun h => l h * rowL st h j
  mks : ∀ j, j < 80 → μ j = m j + sm 8 fun h => l h * mkL st h j
  hd : ∀ h, l h ≠ 0 → h < 8 ∧ st h ≠ none ∧ ∀ k, k < 8 → h ≤ k → r k = 0
/-- a line's numbers have one small bottom -/
def LSz (φ : Fd) (x : (Nat → φ.car) × (Nat → φ.car)) : Prop := φ.p = 0 → ∃ n : Int, n ≠ 0 ∧ n.natAbs < 2 ^ 511 ∧ (∀ j, j < 8 → ∃ a : Int, x.1 j * φ.ic n = φ.ic a ∧ a.natAbs < 2 ^ 511) ∧ ∀ j, j < 80 → ∃ a : Int, x.2 j * φ.ic n = φ.ic a ∧ a.natAbs < 2 ^ 511
structure Inv (st : LSt φ) (R : Nat → Nat → φ.car) (ms : List Nat) (U : Nat → Nat) : Prop where
  low : ∀ g x, g < 8 → st g = some x → x.1 g = 1 ∧ ∀ k, k < 8 → g < k → x.1 k = 0
  acc : ∀ g, g < 8 → st g ≠ none → U g ∈ ms ∧ ∃ l : Nat → φ.car, (∀ j, j < 8 → R (U g) j = sm 8 fun h => l h * rowL st h j) ∧ (∀ j, j < 80 → unitM (U g) j = sm 8 fun h => l h * mkL st h j) ∧ ∀ h, l h ≠ 0 → h < 8 ∧ st h ≠ none ∧ g ≤ h
  inj : ∀ g k, g < 8 → k < 8 → st g ≠ none → st k ≠ none → U g = U k → g = k
  inn : ∀ m ∈ ms, ∃ l : Nat → φ.car, (∀ j, j < 8 → R m j = sm 8 fun h => l h * rowL st h j) ∧ ∀ h, l h ≠ 0 → st h ≠ none
  out : ∀ g x, g < 8 → st g = some x → Sp (fun w => ∃ m ∈ ms, w = R m) x.1
  sup : ∀ g x, g < 8 → st g = some x → ∀ m, m < 80 → x.2 m ≠ 0 → m ∈ ms
  sz : ∀ g x, g < 8 → st g = some x → LSz φ x
theorem rbound (hp : φ.p = 0) {st : LSt φ} {R : Nat → Nat → φ.car} {ms : List Nat} {U : Nat → Nat} (inv : Inv st R ms U) (hms : ∀ m ∈ ms, m < 80 ∧ ∀ j, j < 8 → Sz φ (2 ^ 59) (R m j)) {m0 : Nat} (h80 : m0 < 80) (hn : m0 ∉ ms) (hs : ∀ j, j < 8 → Sz φ (2 ^ 59) (R m0 j))
    {r m l : Nat → φ.car} (md : Made st (R m0) (unitM m0) r m l) {t : Nat} (ht : topR r = some t) :
    ∃ (x0 : Int) (Y Z : Nat → Int), x0 ≠ 0 ∧ x0.natAbs ≤ 2 ^ 448 ∧ (∀ j, j < 8 → r j * φ.ic (6 * x0) = φ.ic (Y j) ∧ (Y j).natAbs ≤ 2 ^ 510) ∧ ∀ j, j < 80 → m j * φ.ic x0 = φ.ic (Z j) ∧ (Z j).natAbs ≤ 2 ^ 451 := by
  obtain ⟨t8, rt, rz⟩ := topR_spec ht
  have h6 : φ.ic 6 ≠ 0 := ic_ne hp (by decide)
  let act : Nat → Bool := fun g => decide (g < 8) && (decide (t < g) && (st g).isSome)
  have hact : ∀ g, act g = true ↔ g < 8 ∧ t < g ∧ st g ≠ none := fun g => by
    show (decide (g < 8) && (decide (t < g) && (st g).isSome)) = true ↔ _
    rw [Bool.and_eq_true, Bool.and_eq_true, decide_eq_true_iff, decide_eq_true_iff, Option.isSome_iff_ne_none]
  let use : Nat → Bool := fun g => decide (g = 0) || act g
  let W : Nat → Nat := fun g => if g = 0 then m0 else U g
  let A : Nat → Nat → Int := fun m j => pick fun a => φ.ic 6 * R m j = φ.ic a ∧ a.natAbs < 2 ^ 59
  have hAb : ∀ m j, (A m j).natAbs ≤ 2 ^ 59 := fun m j => by
    rcases pick_or (fun a => φ.ic 6 * R m j = φ.ic a ∧ a.natAbs < 2 ^ 59) with h | h
    · exact Nat.le_of_lt h.2
    · show (pick fun a => φ.ic 6 * R m j = φ.ic a ∧ a.natAbs < 2 ^ 59).natAbs ≤ 2 ^ 59
      rw [h]
      exact Nat.zero_le _
  have hA : ∀ m j, Sz φ (2 ^ 59) (R m j) → φ.ic 6 * R m j = φ.ic (A m j) := fun m j h => (pick_spec (h hp)).1
  have hW : ∀ g, g < 8 → use g = true → ∀ j, j < 8 → φ.ic 6 * R (W g) j = φ.ic (A (W g) j) := fun g hg hu j hj => by
    refine hA _ _ ?_
    show Sz φ (2 ^ 59) (R (if g = 0 then m0 else U g) j)
    by_cases e : g = 0
    · rw [if_pos e]
      exact hs j hj
    · rw [if_neg e]
      rcases (Bool.or_eq_true _ _).mp hu with z | z
      · exact absurd (of_decide_eq_true z) e
      · exact (hms _ (inv.acc g hg ((hact g).mp z).2.2).1).2 j hj
  let a : Nat → Nat → Int := fun k g => if act (k + 1) = true then (if use g = true then A (W g) (k + 1) else 0) else if g = k + 1 then 1 else 0
  obtain ⟨x, ⟨g1, hg1, hx1⟩, hxb, heq⟩ := siegel a (2 ^ 59) 7 (fun k g => by
    show (if act (k + 1) = true then (if use g = true then A (W g) (k + 1) else 0) else if g = k + 1 then 1 else 0).natAbs ≤ 2 ^ 59
    split
    · split
      · exact hAb _ _
      · exact Nat.zero_le _
    · split
      · decide
      · exact Nat.zero_le _)
  have hxb' : ∀ g, (x g).natAbs ≤ 2 ^ 448 := fun g => Nat.le_trans (hxb g) (by decide +kernel)
  have hx0 : ∀ g, g < 8 → use g = false → x g = 0 := fun g hg hu => by
    obtain ⟨u1, u2⟩ := (Bool.or_eq_false_iff).mp hu
    have g0 : g ≠ 0 := of_decide_eq_false u1
    have e := heq (g - 1) (by omega)
    have e1 : g - 1 + 1 = g := by omega
    refine ic_inj hp ?_
    rw [φ.ic_zero, ← φ.ic_zero, ← e, ic_sumZ]
    have e2 : ∀ k, φ.ic (a (g - 1) k * x k) = φ.ic (if k = g then 1 else 0) * φ.ic (x k) := fun k => by
      rw [φ.ic_mul]
      show φ.ic (if act (g - 1 + 1) = true then (if use k = true then A (W k) (g - 1 + 1) else 0) else if k = g - 1 + 1 then 1 else 0) * _ = _
      rw [e1, if_neg (by rw [u2]; exact Bool.false_ne_true)]
    rw [sm_one (i := g) 8 hg fun k _ ne => by rw [e2, if_neg ne, φ.ic_zero]; grind, e2, if_pos rfl, φ.ic_one]
    grind
  -- what the rows are made of
  have hmade : ∀ g, ∃ lg : Nat → φ.car, use g = true → g < 8 → (∀ j, j < 8 → R (W g) j = (if g = 0 then r j else 0) + sm 8 fun h => lg h * rowL st h j) ∧ (∀ j, j < 80 → unitM (W g) j = (if g = 0 then m j else 0) + sm 8 fun h => lg h * mkL st h j) ∧ ∀ h, lg h ≠ 0 → act h = true := fun g => by
    by_cases e : g = 0
    · subst e
      exact ⟨l, fun _ _ => ⟨md.row, md.mks, fun h hh => by
        obtain ⟨a1, a2, a3⟩ := md.hd h hh
        refine (hact h).mpr ⟨a1, ?_, a2⟩
        refine Classical.byContradiction fun z => rt (a3 t t8 (by omega))⟩⟩
    · by_cases z : act g = true
      · obtain ⟨b1, b2, b3⟩ := (hact g).mp z
        obtain ⟨_, lg, c1, c2, c3⟩ := inv.acc g b1 b3
        refine ⟨lg, fun _ _ => ⟨fun j hj => ?_, fun j hj => ?_, fun h hh => ?_⟩⟩
        · show R (if g = 0 then m0 else U g) j = _
          rw [if_neg e, if_neg e, c1 j hj]
          grind
        · show unitM (if g = 0 then m0 else U g) j = _
          rw [if_neg e, if_neg e, c2 j hj]
          grind
        · obtain ⟨d1, d2, d3⟩ := c3 h hh
          exact (hact h).mpr ⟨d1, by omega, d2⟩
      · refine ⟨fun _ => 0, fun hu => ?_⟩
        rcases (Bool.or_eq_true _ _).mp hu with q | q
        · exact absurd (of_decide_eq_true q) e
        · exact absurd q z
  obtain ⟨Lf, hL⟩ := Classical.axiomOfChoice hmade
  let d : Nat → φ.car := fun h => sm 8 fun g => φ.ic (x g) * Lf g h
  have hd : ∀ h, act h = false → d h = 0 := fun h hh => sm_zero 8 fun g hg => by
    cases hu : use g with
    | false => rw [hx0 g hg hu, φ.ic_zero]; grind
    | true =>
      have : Lf g h = 0 := Classical.byContradiction fun z => by
        rw [(hL g hu hg).2.2 h z] at hh
        cases hh
      rw [this]
      grind
  have split : ∀ (F : Nat → φ.car) (f : φ.car) (Ln : Nat → φ.car), (∀ g, g < 8 → use g = true → F g = (if g = 0 then f else 0) + sm 8 fun h => Lf g h * Ln h) → (sm 8 fun g => φ.ic (x g) * F g) = φ.ic (x 0) * f + sm 8 fun h => d h * Ln h := fun F f Ln hF => by
    have e1 : (sm 8 fun g => φ.ic (x g) * F g) = sm 8 fun g => φ.ic (x g) * (if g = 0 then f else 0) + sm 8 fun h => φ.ic (x g) * (Lf g h * Ln h) := sm_congr 8 fun g hg => by
      cases hu : use g with
      | false =>
        rw [sm_mul, hx0 g hg hu, φ.ic_zero]
        grind
      | true =>
        rw [hF g hg hu, sm_mul]
        grind
    have e0 : (sm 8 fun g => φ.ic (x g) * (if g = 0 then f else 0)) = φ.ic (x 0) * f := sm_one (i := 0) (f := fun g => φ.ic (x g) * (if g = 0 then f else 0)) 8 (by decide) fun k _ ne => by
      show φ.ic (x k) * (if k = 0 then f else 0) = 0
      rw [if_neg ne]
      grind
    rw [e1, sm_add, sm_swap, e0]
    congr 1
    refine sm_congr 8 fun h _ => ?_
    show (sm 8 fun g => φ.ic (x g) * (Lf g h * Ln h)) = (sm 8 fun g => φ.ic (x g) * Lf g h) * Ln h
    have : ∀ z : φ.car, z * Ln h = Ln h * z := fun z => by grind
    rw [this, ← sm_mul]
    exact sm_congr 8 fun g _ => by grind
  have yrow : ∀ j, j < 8 → (sm 8 fun g => φ.ic (x g) * R (W g) j) = φ.ic (x 0) * r j + sm 8 fun h => d h * rowL st h j := fun j hj => split _ _ _ fun g hg hu => (hL g hu hg).1 j hj
  have ymk : ∀ j, j < 80 → (sm 8 fun g => φ.ic (x g) * unitM (W g) j) = φ.ic (x 0) * m j + sm 8 fun h => d h * mkL st h j := fun j hj => split _ _ _ fun g hg hu => (hL g hu hg).2.1 j hj
  -- six times the rows are whole
  have y6 : ∀ j, j < 8 → φ.ic 6 * (sm 8 fun g => φ.ic (x g) * R (W g) j) = φ.ic (sumZ 8 fun g => (if use g = true then A (W g) j else 0) * x g) := fun j hj => by
    rw [ic_sumZ, ← sm_mul]
    refine sm_congr 8 fun g hg => ?_
    rw [φ.ic_mul]
    cases hu : use g with
    | false =>
      rw [hx0 g hg hu, φ.ic_zero]
      grind
    | true =>
      rw [if_pos rfl, ← hW g hg hu j hj]
      grind
  have yact : ∀ k, act k = true → (sm 8 fun g => φ.ic (x g) * R (W g) k) = 0 := fun k hk => by
    obtain ⟨b1, b2, b3⟩ := (hact k).mp hk
    have e := heq (k - 1) (by omega)
    have e1 : k - 1 + 1 = k := by omega
    have e2 : sumZ 8 (fun g => (if use g = true then A (W g) k else 0) * x g) = 0 := by
      refine Eq.trans (sumZ_congr 8 fun g _ => ?_) e
      show _ = (if act (k - 1 + 1) = true then (if use g = true then A (W g) (k - 1 + 1) else 0) else if g = k - 1 + 1 then 1 else 0) * x g
      rw [e1, if_pos hk]
    have e3 := y6 k b1
    rw [e2, φ.ic_zero] at e3
    grind
  have dz : ∀ n h, 8 ≤ h + n → d h = 0 := fun n => by
    induction n with
    | zero =>
      intro h h8
      refine hd h ?_
      cases z : act h with
      | false => rfl
      | true =>
        have := ((hact h).mp z).1
        omega
    | succ n ih =>
      intro h h8
      cases z : act h with
      | false => exact hd h z
      | true =>
        obtain ⟨b1, b2, b3⟩ := (hact h).mp z
        have e := yrow h b1
        rw [yact h z, rz h b1 b2, sm_one (i := h) 8 b1 fun k k8 ne => ?_] at e
        · cases q : st h with
          | none => exact absurd q b3
          | some y =>
            rw [rowL_some q, (inv.low h y b1 q).1] at e
            grind
        · rcases Nat.lt_or_ge h k with q | q
          · rw [ih k (by omega)]
            grind
          · have hlt : k < h := by omega
            have : rowL st k h = 0 := by
              cases q2 : st k with
              | none => unfold rowL; rw [q2]
              | some y => rw [rowL_some q2]; exact (inv.low k y k8 q2).2 h b1 hlt
            rw [this]
            grind
  have d0 : ∀ h, d h = 0 := fun h => dz 8 h (by omega)
  have yrow' : ∀ j, j < 8 → (sm 8 fun g => φ.ic (x g) * R (W g) j) = φ.ic (x 0) * r j := fun j hj => by
    rw [yrow j hj, sm_zero 8 fun h _ => by rw [d0 h]; grind]
    grind
  have ymk' : ∀ j, j < 80 → (sm 8 fun g => φ.ic (x g) * unitM (W g) j) = φ.ic (x 0) * m j := fun j hj => by
    rw [ymk j hj, sm_zero 8 fun h _ => by rw [d0 h]; grind]
    grind
  have hx00 : x 0 ≠ 0 := fun z => hx1 (by
    cases hu : use g1 with
    | false => exact hx0 g1 hg1 hu
    | true =>
      rcases (Bool.or_eq_true _ _).mp hu with q | q
      · rw [of_decide_eq_true q]
        exact z
      · obtain ⟨b1, b2, b3⟩ := (hact g1).mp q
        have mem := (inv.acc g1 b1 b3).1
        have e := ymk' (U g1) (hms _ mem).1
        rw [z, φ.ic_zero, sm_one (i := g1) 8 b1 fun k k8 ne => ?_] at e
        · have ew : W g1 = U g1 := if_neg (by omega)
          rw [ew] at e
          have e3 : (unitM (U g1) (U g1) : φ.car) = 1 := if_pos rfl
          rw [e3] at e
          refine ic_inj hp ?_
          rw [φ.ic_zero]
          grind
        · cases hk : use k with
          | false =>
            rw [hx0 k k8 hk, φ.ic_zero]
            grind
          | true =>
            rcases (Bool.or_eq_true _ _).mp hk with q2 | q2
            · rw [of_decide_eq_true q2, z, φ.ic_zero]
              grind
            · obtain ⟨c1, c2, c3⟩ := (hact k).mp q2
              have ew : W k = U k := if_neg (by omega)
              have ne2 : U g1 ≠ U k := fun e2 => ne (inv.inj k g1 c1 b1 c3 b3 e2.symm)
              rw [ew]
              have : (unitM (U k) (U g1) : φ.car) = 0 := if_neg ne2
              rw [this]
              grind)
  refine ⟨x 0, fun j => sumZ 8 fun g => (if use g = true then A (W g) j else 0) * x g, fun j => sumZ 8 fun g => (if j = W g then 1 else 0) * x g, hx00, hxb' 0, fun j hj => ⟨?_, ?_⟩, fun j hj => ⟨?_, ?_⟩⟩
  · rw [← y6 j hj, yrow' j hj, φ.ic_mul]
    grind
  · refine Nat.le_trans (sumZ_bd (b := 2 ^ 59 * 2 ^ 448) (fun g => ?_) 8) (by decide +kernel)
    rw [Int.natAbs_mul]
    refine Nat.mul_le_mul ?_ (hxb' g)
    split
    · exact hAb _ _
    · exact Nat.zero_le _
  · show _ = φ.ic (sumZ 8 fun g => (if j = W g then 1 else 0) * x g)
    have e := ymk' j hj
    rw [ic_sumZ]
    have : (sm 8 fun g => φ.ic ((if j = W g then 1 else 0) * x g)) = sm 8 fun g => φ.ic (x g) * unitM (W g) j := sm_congr 8 fun g _ => by
      rw [φ.ic_mul]
      unfold unitM
      split
      · rw [φ.ic_one]
        grind
      · rw [φ.ic_zero]
        grind
    rw [this, e]
    grind
  · refine Nat.le_trans (sumZ_bd (b := 2 ^ 448) (fun g => ?_) 8) (by decide +kernel)
    rw [Int.natAbs_mul]
    have := hxb' g
    split
    · show 1 * (x g).natAbs ≤ 2 ^ 448
      rw [Nat.one_mul]
      exact this
    · show 0 * (x g).natAbs ≤ 2 ^ 448
      rw [Nat.zero_mul]
      exact Nat.zero_le _
end
end FS
set_option Elab.async false
set_option linter.all false
set_option maxRecDepth 100000
set_option maxHeartbeats 1000000
/-! one row more: the numbers stay small, the lines stay what they are -/
namespace FS
section
variable {φ : Fd}
theorem ok_none {n : Nat} {st : LSt φ} {r m : Nat → φ.car} (h : topR r = none) : OkRun φ (n + 1) st r m := by unfold OkRun; rw [h]; trivial
theorem put_none {n : Nat} {st : LSt φ} {r m : Nat → φ.car} (h : topR r = none) : putM (n + 1) st r m = st := by unfold putM; rw [h]
theorem put_new {n : Nat} {st : LSt φ} {r m : Nat → φ.car} {h : Nat} (ht : topR r = some h) (hs : st h = none) : putM (n + 1) st r m = updS st h (some (subM r r (backOf r h), subM m m (backOf r h))) := by
  unfold putM
  rw [ht]
  show (match st h with | none => _ | some x => _) = _
  rw [hs]
theorem put_old {n : Nat} {st : LSt φ} {r m : Nat → φ.car} {h : Nat} {x : (Nat → φ.car) × (Nat → φ.car)} (ht : topR r = some h) (hs : st h = some x) : putM (n + 1) st r m = putM n st (subM r x.1 (r h)) (subM m x.2 (r h)) := by
  conv => lhs; unfold putM
  rw [ht]
  show (match st h with | none => _ | some x => _) = _
  rw [hs]
theorem ok_new {n : Nat} {st : LSt φ} {r m : Nat → φ.car} {h : Nat} (ht : topR r = some h) (hs : st h = none) (q : Small φ (r h) ∧ Small φ (1 / r h) ∧ Small φ (backOf r h) ∧ (∀ j, j < 8 → Small φ (r j) ∧ Small φ (r j * backOf r h)) ∧ (∀ j, j < 80 → Small φ (m j) ∧ Small φ (m j * backOf r h))) : OkRun φ (n + 1) st r m := by
  unfold OkRun
  rw [ht]
  show (match st h with | none => _ | some x => _)
  rw [hs]
  exact q
theorem ok_old {n : Nat} {st : LSt φ} {r m : Nat → φ.car} {h : Nat} {x : (Nat → φ.car) × (Nat → φ.car)} (ht : topR r = some h) (hs : st h = some x) (q : Small φ (r h) ∧ (∀ j, j < 8 → Small φ (r j) ∧ Small φ (x.1 j) ∧ Small φ (x.1 j * r h)) ∧ (∀ j, j < 80 → Small φ (m j) ∧ Small φ (x.2 j) ∧ Small φ (x.2 j * r h)) ∧ OkRun φ n st (subM r x.1 (r h)) (subM m x.2 (r h))) : OkRun φ (n + 1) st r m := by
  unfold OkRun
  rw [ht]
  show (match st h with | none => _ | some x => _)
  rw [hs]
  exact q
theorem small_p (hp : φ.p ≠ 0) (x : φ.car) : Small φ x := Fr.small (N := 0) (fun z => absurd z hp) (by decide)
theorem LSz.fr {x : (Nat → φ.car) × (Nat → φ.car)} (h : LSz φ x) : (∀ j, j < 8 → Fr φ 511 (x.1 j)) ∧ ∀ j, j < 80 → Fr φ 511 (x.2 j) := by
  refine ⟨fun j hj hp => ?_, fun j hj hp => ?_⟩
  · obtain ⟨n, h1, h2, h3, h4⟩ := h hp
    obtain ⟨a, e, l⟩ := h3 j hj
    exact ⟨a, n, h1, e, l, h2⟩
  · obtain ⟨n, h1, h2, h3, h4⟩ := h hp
    obtain ⟨a, e, l⟩ := h4 j hj
    exact ⟨a, n, h1, e, l, h2⟩
theorem sm_bump (l : Nat → φ.car) (a : φ.car) {h : Nat} (h8 : h < 8) (X : Nat → φ.car) : (sm 8 fun k => (l k + if k = h then a else 0) * X k) = (sm 8 fun k => l k * X k) + a * X h := by
  have ec : (sm 8 fun k => (l k + if k = h then a else 0) * X k) = sm 8 fun k => l k * X k + (if k = h then a else 0) * X k := sm_congr 8 fun k _ => by grind
  have eo : (sm 8 fun k => (if k = h then a else 0) * X k) = (if h = h then a else 0) * X h := sm_one (i := h) (f := fun k => (if k = h then a else 0) * X k) 8 h8 fun k _ ne => by
    show (if k = h then a else 0) * X k = 0
    rw [if_neg ne]
    grind
  rw [ec, sm_add, eo, if_pos rfl]
theorem nat_lt_pow {n a b : Nat} (h : n ≤ 2 ^ a) (l : a < b) : n < 2 ^ b := Nat.lt_of_le_of_lt h (Nat.pow_lt_pow_right (by decide) l)
theorem put_ok {st : LSt φ} {R : Nat → Nat → φ.car} {ms : List Nat} {U : Nat → Nat} (inv : Inv st R ms U) (hms : ∀ m ∈ ms, m < 80 ∧ ∀ j, j < 8 → Sz φ (2 ^ 59) (R m j)) {m0 : Nat} (h80 : m0 < 80) (hn : m0 ∉ ms) (hs : ∀ j, j < 8 → Sz φ (2 ^ 59) (R m0 j)) :
    ∀ n (r m l : Nat → φ.car), Made st (R m0) (unitM m0) r m l → Sp (fun w => ∃ k ∈ ms ++ [m0], w = R k) r → (∀ j, j < 80 → m j ≠ 0 → j ∈ ms ++ [m0]) → 1 ≤ n → (∀ h, topR r = some h → h + 2 ≤ n) →
      OkRun φ n st r m ∧ ∃ U', Inv (putM n st r m) R (ms ++ [m0]) U'
  | 0, _, _, _, _, _, _, h, _ => absurd h (by decide)
  | n + 1, r, m, l, md, hsp, hsup, _, hfu => by
    have sub1 : ∀ k ∈ ms, k ∈ ms ++ [m0] := fun k hk => List.mem_append_left _ hk
    have mem0 : m0 ∈ ms ++ [m0] := List.mem_append_right _ List.mem_cons_self
    cases ht : topR r with
    | none =>
      have r0 := topR_of_none ht
      refine ⟨ok_none ht, U, ?_⟩
      rw [put_none ht]
      refine ⟨inv.low, fun g h1 h2 => ?_, inv.inj, fun k hk => ?_, fun g x h1 h2 => (inv.out g x h1 h2).mono fun w ⟨k, a, b⟩ => ⟨k, sub1 k a, b⟩, fun g x h1 h2 k h3 h4 => sub1 k (inv.sup g x h1 h2 k h3 h4), inv.sz⟩
      · obtain ⟨a, b⟩ := inv.acc g h1 h2
        exact ⟨sub1 _ a, b⟩
      · rcases List.mem_append.mp hk with q | q
        · exact inv.inn k q
        · rw [List.mem_singleton.mp q]
          refine ⟨l, fun j hj => ?_, fun h hh => (md.hd h hh).2.1⟩
          rw [md.row j hj, r0 j hj]
          grind
    | some h =>
      obtain ⟨h8, rh, rz⟩ := topR_spec ht
      have hfu' := hfu h ht
      have frR : (∀ j, j < 8 → Fr φ 511 (r j)) ∧ ∀ j, j < 80 → Fr φ 511 (m j) := by
        refine ⟨fun j hj hp => ?_, fun j hj hp => ?_⟩
        · obtain ⟨x0, Y, Z, hx, xb, hY, hZ⟩ := rbound hp inv hms h80 hn hs md ht
          obtain ⟨a, b⟩ := hY j hj
          exact ⟨Y j, 6 * x0, by omega, a, nat_lt_pow b (by decide), nat_lt_pow (a := 451) (by rw [Int.natAbs_mul]; exact Nat.le_trans (Nat.mul_le_mul (show (6 : Int).natAbs ≤ 8 by decide) xb) (by decide +kernel)) (by decide)⟩
        · obtain ⟨x0, Y, Z, hx, xb, hY, hZ⟩ := rbound hp inv hms h80 hn hs md ht
          obtain ⟨a, b⟩ := hZ j hj
          exact ⟨Z j, x0, hx, a, nat_lt_pow b (by decide), nat_lt_pow xb (by decide)⟩
      cases hst : st h with
      | none =>
        have frb : Fr φ 512 (backOf r h) := (Fr.inv (frR.1 h h8) rh).back
        refine ⟨ok_new ht hst ⟨(frR.1 h h8).small (by decide), (Fr.inv (frR.1 h h8) rh).small (by decide), frb.small (by decide), fun j hj => ⟨(frR.1 j hj).small (by decide), ((frR.1 j hj).mul frb).small (by decide)⟩, fun j hj => ⟨(frR.2 j hj).small (by decide), ((frR.2 j hj).mul frb).small (by decide)⟩⟩, fun g => if g = h then m0 else U g, ?_⟩
        rw [put_new ht hst]
        have e1 : ∀ v : Nat → φ.car, ∀ j, subM v v (backOf r h) j = v j / r h := fun v j => by
          show v j - v j * (1 - 1 / r h) = _
          grind
        have upd_ne' : ∀ {g}, g ≠ h → updS st h (some (subM r r (backOf r h), subM m m (backOf r h))) g = st g := fun ne => if_neg ne
        have upd_eq' : updS st h (some (subM r r (backOf r h), subM m m (backOf r h))) h = some (subM r r (backOf r h), subM m m (backOf r h)) := if_pos rfl
        have keep : ∀ (lg : Nat → φ.car) (j : Nat), (∀ k, lg k ≠ 0 → st k ≠ none) → (sm 8 fun k => lg k * rowL (updS st h (some (subM r r (backOf r h), subM m m (backOf r h)))) k j) = (sm 8 fun k => lg k * rowL st k j) ∧ (sm 8 fun k => lg k * mkL (updS st h (some (subM r r (backOf r h), subM m m (backOf r h)))) k j) = (sm 8 fun k => lg k * mkL st k j) := fun lg j hl => by
          have l0 : lg h = 0 := Classical.byContradiction fun z => hl h z hst
          refine ⟨sm_congr 8 fun k _ => ?_, sm_congr 8 fun k _ => ?_⟩
          · by_cases e : k = h
            · rw [e, l0]; grind
            · rw [rowL_upd e]
          · by_cases e : k = h
            · rw [e, l0]; grind
            · rw [mkL_upd e]
        have lh0 : l h = 0 := Classical.byContradiction fun z => rh ((md.hd h z).2.2 h h8 (Nat.le_refl _))
        have new1 : ∀ j, j < 8 → R m0 j = sm 8 fun k => (l k + if k = h then r h else 0) * rowL (updS st h (some (subM r r (backOf r h), subM m m (backOf r h)))) k j := fun j hj => by
          rw [sm_bump l (r h) h8 fun k => rowL (updS st h (some (subM r r (backOf r h), subM m m (backOf r h)))) k j, (keep l j fun k z => (md.hd k z).2.1).1, rowL_some upd_eq', md.row j hj]
          show r j + _ = _ + r h * subM r r (backOf r h) j
          rw [e1]
          grind
        have new2 : ∀ j, j < 80 → unitM m0 j = sm 8 fun k => (l k + if k = h then r h else 0) * mkL (updS st h (some (subM r r (backOf r h), subM m m (backOf r h)))) k j := fun j hj => by
          rw [sm_bump l (r h) h8 fun k => mkL (updS st h (some (subM r r (backOf r h), subM m m (backOf r h)))) k j, (keep l j fun k z => (md.hd k z).2.1).2, mkL_some upd_eq', md.mks j hj]
          show m j + _ = _ + r h * subM m m (backOf r h) j
          rw [e1]
          grind
        have newhd : ∀ k, (l k + if k = h then r h else 0) ≠ 0 → k < 8 ∧ updS st h (some (subM r r (backOf r h), subM m m (backOf r h))) k ≠ none ∧ h ≤ k := fun k hk => by
          by_cases e : k = h
          · rw [e, upd_eq']
            exact ⟨h8, by simp, Nat.le_refl _⟩
          · rw [if_neg e] at hk
            obtain ⟨a1, a2, a3⟩ := md.hd k (by grind)
            rw [upd_ne' e]
            refine ⟨a1, a2, Classical.byContradiction fun z => rh (a3 h h8 (by omega))⟩
        refine ⟨fun g x g8 hx => ?_, fun g g8 hg => ?_, fun g k g8 k8 hg hk e => ?_, fun k hk => ?_, fun g x g8 hx => ?_, fun g x g8 hx k hk hne => ?_, fun g x g8 hx => ?_⟩
        · by_cases e : g = h
          · rw [e, upd_eq'] at hx
            cases hx
            rw [e]
            refine ⟨?_, fun k k8 hk => ?_⟩
            · show subM r r (backOf r h) h = 1
              rw [e1]; grind
            · show subM r r (backOf r h) k = 0
              rw [e1, rz k k8 hk]; grind
          · rw [upd_ne' e] at hx
            exact inv.low g x g8 hx
        · by_cases e : g = h
          · rw [if_pos e]
            refine ⟨mem0, fun k => l k + if k = h then r h else 0, new1, new2, fun k hk => ?_⟩
            rw [e]
            exact newhd k hk
          · rw [upd_ne' e] at hg
            rw [if_neg e]
            obtain ⟨a, lg, b, c, d⟩ := inv.acc g g8 hg
            refine ⟨sub1 _ a, lg, fun j hj => ?_, fun j hj => ?_, fun k hk => ?_⟩
            · rw [(keep lg j fun k z => (d k z).2.1).1]
              exact b j hj
            · rw [(keep lg j fun k z => (d k z).2.1).2]
              exact c j hj
            · obtain ⟨d1, d2, d3⟩ := d k hk
              refine ⟨d1, ?_, d3⟩
              by_cases e2 : k = h
              · rw [e2, upd_eq']; simp
              · rw [upd_ne' e2]; exact d2
        · have e : (if g = h then m0 else U g) = (if k = h then m0 else U k) := e
          by_cases e1 : g = h <;> by_cases e2 : k = h
          · rw [e1, e2]
          · rw [if_pos e1, if_neg e2] at e
            rw [upd_ne' e2] at hk
            exact absurd (inv.acc k k8 hk).1 (e ▸ hn)
          · rw [if_neg e1, if_pos e2] at e
            rw [upd_ne' e1] at hg
            exact absurd (inv.acc g g8 hg).1 (e ▸ hn)
          · rw [if_neg e1, if_neg e2] at e
            rw [upd_ne' e1] at hg
            rw [upd_ne' e2] at hk
            exact inv.inj g k g8 k8 hg hk e
        · rcases List.mem_append.mp hk with q | q
          · obtain ⟨lg, b, d⟩ := inv.inn k q
            refine ⟨lg, fun j hj => ?_, fun i hi => ?_⟩
            · rw [(keep lg j d).1]
              exact b j hj
            · by_cases e2 : i = h
              · rw [e2, upd_eq']; simp
              · rw [upd_ne' e2]; exact d i hi
          · rw [List.mem_singleton.mp q]
            exact ⟨_, new1, fun k hk => (newhd k hk).2.1⟩
        · by_cases e : g = h
          · rw [e, upd_eq'] at hx
            cases hx
            refine (hsp.smul (1 / r h)).congr fun j _ => ?_
            show _ = subM r r (backOf r h) j
            rw [e1]
            grind
          · rw [upd_ne' e] at hx
            exact (inv.out g x g8 hx).mono fun w ⟨k, a, b⟩ => ⟨k, sub1 k a, b⟩
        · by_cases e : g = h
          · rw [e, upd_eq'] at hx
            cases hx
            refine hsup k hk fun z => hne ?_
            show subM m m (backOf r h) k = 0
            rw [e1, z]
            grind
          · rw [upd_ne' e] at hx
            exact sub1 k (inv.sup g x g8 hx k hk hne)
        · by_cases e : g = h
          · rw [e, upd_eq'] at hx
            cases hx
            intro hp
            obtain ⟨x0, Y, Z, hx, xb, hY, hZ⟩ := rbound hp inv hms h80 hn hs md ht
            have hYh := (hY h h8).1
            have n0 : Y h ≠ 0 := fun z => by
              rw [z, φ.ic_zero] at hYh
              have := ic_ne hp (b := 6 * x0) (by omega)
              grind
            refine ⟨Y h, n0, nat_lt_pow (hY h h8).2 (by decide), fun j hj => ⟨Y j, ?_, nat_lt_pow (hY j hj).2 (by decide)⟩, fun j hj => ⟨6 * Z j, ?_, nat_lt_pow (a := 454) (by rw [Int.natAbs_mul]; exact Nat.le_trans (Nat.mul_le_mul (show (6 : Int).natAbs ≤ 8 by decide) (hZ j hj).2) (by decide +kernel)) (by decide)⟩⟩
            · show subM r r (backOf r h) j * _ = _
              rw [e1, ← hYh, ← (hY j hj).1]
              grind
            · show subM m m (backOf r h) j * _ = _
              rw [e1, ← hYh, φ.ic_mul, φ.ic_mul, ← (hZ j hj).1]
              grind
          · rw [upd_ne' e] at hx
            exact inv.sz g x g8 hx
      | some x =>
        obtain ⟨low1, low2⟩ := inv.low h x h8 hst
        have lh0 : l h = 0 := Classical.byContradiction fun z => rh ((md.hd h z).2.2 h h8 (Nat.le_refl _))
        have rz' : ∀ k, k < 8 → h ≤ k → subM r x.1 (r h) k = 0 := fun k k8 hk => by
          show r k - x.1 k * r h = 0
          by_cases e : k = h
          · rw [e, low1]; grind
          · rw [rz k k8 (by omega), low2 k k8 (by omega)]; grind
        obtain ⟨ok, inv'⟩ := put_ok inv hms h80 hn hs n (subM r x.1 (r h)) (subM m x.2 (r h)) (fun k => l k + if k = h then r h else 0) (by
          refine ⟨fun j hj => ?_, fun j hj => ?_, fun k hk => ?_⟩
          · rw [sm_bump l (r h) h8 fun k => rowL st k j, rowL_some hst, md.row j hj]
            show _ = r j - x.1 j * r h + _
            grind
          · rw [sm_bump l (r h) h8 fun k => mkL st k j, mkL_some hst, md.mks j hj]
            show _ = m j - x.2 j * r h + _
            grind
          · by_cases e : k = h
            · rw [e]
              exact ⟨h8, by rw [hst]; simp, rz'⟩
            · rw [if_neg e] at hk
              obtain ⟨a1, a2, a3⟩ := md.hd k (by grind)
              refine ⟨a1, a2, fun i i8 hi => rz' i i8 ?_⟩
              refine Classical.byContradiction fun z => rh (a3 h h8 ?_)
              refine Classical.byContradiction fun z2 => ?_
              have := a3 i i8 hi
              omega)
          ((hsp.add (((inv.out h x h8 hst).mono fun w ⟨k, a, b⟩ => ⟨k, sub1 k a, b⟩).smul (0 - r h))).congr fun j _ => by
            show _ = r j - x.1 j * r h
            grind)
          (fun j hj hne => by
            by_cases z : m j = 0
            · refine sub1 j (inv.sup h x h8 hst j hj fun z2 => hne ?_)
              show m j - x.2 j * r h = 0
              rw [z, z2]
              grind
            · exact hsup j hj z)
          (by omega)
          (fun k hk => by
            obtain ⟨k8, kne, _⟩ := topR_spec hk
            have : k < h := Classical.byContradiction fun z => kne (rz' k k8 (by omega))
            omega)
        have fx := (inv.sz h x h8 hst).fr
        refine ⟨ok_old ht hst ⟨(frR.1 h h8).small (by decide), fun j hj => ⟨(frR.1 j hj).small (by decide), (fx.1 j hj).small (by decide), ((fx.1 j hj).mul (frR.1 h h8)).small (by decide)⟩, fun j hj => ⟨(frR.2 j hj).small (by decide), (fx.2 j hj).small (by decide), ((fx.2 j hj).mul (frR.1 h h8)).small (by decide)⟩, ok⟩, ?_⟩
        rw [put_old ht hst]
        exact inv'
end
end FS
set_option Elab.async false
set_option linter.all false
set_option maxRecDepth 100000
set_option maxHeartbeats 1000000
/-! a whole run; the numbers that bring all lines to nought -/
namespace FS
section
variable {φ : Fd}
theorem run_ok {cs : List (Nat → φ.car)} {ms : List Nat} (hnd : ms.Nodup) (hms : ∀ m ∈ ms, m < 80 ∧ ∀ j, j < 8 → Sz φ (2 ^ 59) (rowOf cs m j)) : LinOk φ cs ms ∧ ∃ U, Inv (runM cs ms) (rowOf cs) ms U := by
  have key : ∀ n, n ≤ ms.length → (∀ i m, i < n → ms[i]? = some m → OkRun φ 9 (runM cs (ms.take i)) (rowOf cs m) (unitM m)) ∧ ∃ U, Inv (runM cs (ms.take n)) (rowOf cs) (ms.take n) U := by
    intro n
    induction n with
    | zero =>
      intro _
      refine ⟨fun i m hi => absurd hi (by omega), fun _ => 0, ?_⟩
      rw [List.take_zero]
      exact ⟨fun g x _ h => (nomatch h), fun g _ h => absurd rfl h, fun g k _ _ h => absurd rfl h, fun m h => (nomatch h), fun g x _ h => (nomatch h), fun g x _ h => (nomatch h), fun g x _ h => (nomatch h)⟩
    | succ n ih =>
      intro hn
      obtain ⟨h1, U, h2⟩ := ih (by omega)
      have e : ms[n]? = some ms[n] := List.getElem?_eq_getElem (by omega)
      have et : ms.take (n + 1) = ms.take n ++ [ms[n]] := by
        rw [List.take_add_one, e]
        rfl
      have mem : ms[n] ∈ ms := List.getElem_mem _
      have hnew : ms[n] ∉ ms.take n := fun z => by
        have hq : (ms.take n ++ [ms[n]]).Nodup := by
          rw [← et]
          exact List.Nodup.sublist (List.take_sublist _ _) hnd
        exact (List.nodup_append.mp hq).2.2 _ z _ List.mem_cons_self rfl
      obtain ⟨k1, k2⟩ := hms _ mem
      obtain ⟨ok, U', inv'⟩ := put_ok h2 (fun m hm => hms m (List.mem_of_mem_take hm)) k1 hnew k2 9 (rowOf cs ms[n]) (unitM ms[n]) (fun _ => 0)
        ⟨fun j _ => by rw [sm_zero 8 fun h _ => by grind]; grind, fun j _ => by rw [sm_zero 8 fun h _ => by grind]; grind, fun h z => absurd rfl z⟩
        (.one ⟨_, List.mem_append_right _ List.mem_cons_self, rfl⟩)
        (fun j _ hj => by
          by_cases z : j = ms[n]
          · rw [z]
            exact List.mem_append_right _ List.mem_cons_self
          · exact absurd (if_neg z) hj)
        (by decide) (fun h hh => by have := (topR_spec hh).1; omega)
      refine ⟨fun i m hi hm => ?_, U', ?_⟩
      · rcases Nat.lt_or_ge i n with q | q
        · exact h1 i m q hm
        · have : i = n := by omega
          subst this
          rw [e] at hm
          cases hm
          exact ok
      · rw [et, runM_snoc]
        exact inv'
  obtain ⟨h1, U, h2⟩ := key ms.length (Nat.le_refl _)
  rw [List.take_length] at h2
  exact ⟨fun i m hm => h1 i m (List.getElem?_eq_some_iff.mp hm).1 hm, U, h2⟩
/-! ### a number for each product -/
def wT (st : LSt φ) : Nat → Nat → φ.car
  | 0 => fun k => if k = 0 then 1 else 0
  | n + 1 => fun k => if k = n + 1 then (match st (n + 1) with
    | none => 0
    | some x => 0 - sm (n + 1) fun i => x.1 i * wT st n i) else wT st n k
def wM (st : LSt φ) (k : Nat) : φ.car := wT st k k
theorem wT_wM (st : LSt φ) : ∀ n k, k ≤ n → wT st n k = wM st k
  | 0, k, h => by
    have : k = 0 := by omega
    subst this
    rfl
  | n + 1, k, h => by
    by_cases e : k = n + 1
    · subst e
      rfl
    · have := wT_wM st n k (by omega)
      rw [← this]
      exact if_neg e
theorem wM_zero (st : LSt φ) : wM st 0 = 1 := rfl
theorem wM_none {st : LSt φ} {n : Nat} (h : st (n + 1) = none) : wM st (n + 1) = 0 := by
  show (if n + 1 = n + 1 then (match st (n + 1) with | none => 0 | some x => 0 - sm (n + 1) fun i => x.1 i * wT st n i) else wT st n (n + 1)) = 0
  rw [if_pos rfl, h]
theorem wM_some {st : LSt φ} {n : Nat} {x : (Nat → φ.car) × (Nat → φ.car)} (h : st (n + 1) = some x) : wM st (n + 1) = 0 - sm (n + 1) fun i => x.1 i * wM st i := by
  show (if n + 1 = n + 1 then (match st (n + 1) with | none => 0 | some x => 0 - sm (n + 1) fun i => x.1 i * wT st n i) else wT st n (n + 1)) = _
  rw [if_pos rfl, h]
  show 0 - sm (n + 1) (fun i => x.1 i * wT st n i) = _
  congr 1
  exact sm_congr _ fun i hi => by rw [wT_wM st n i (by omega)]
theorem wM_size (hp : φ.p = 0) {st : LSt φ} (hz : ∀ g x, g < 8 → st g = some x → LSz φ x) : ∀ q, q < 8 → ∃ E : Int, E ≠ 0 ∧ E.natAbs ≤ 2 ^ (514 * q) ∧ ∀ k, k ≤ q → ∃ a : Int, wM st k * φ.ic E = φ.ic a ∧ a.natAbs ≤ 2 ^ (514 * q)
  | 0, _ => ⟨1, by decide, by decide, fun k hk => ⟨1, by
    have : k = 0 := by omega
    rw [this, wM_zero]
    grind, by decide⟩⟩
  | q + 1, hq => by
    obtain ⟨E, h1, h2, h3⟩ := wM_size hp hz q (by omega)
    have mono : (2 : Nat) ^ (514 * q) ≤ 2 ^ (514 * (q + 1)) := Nat.pow_le_pow_right (by decide) (by omega)
    have pe : (2 : Nat) ^ (514 * (q + 1)) = 2 ^ 514 * 2 ^ (514 * q) := by
      rw [← Nat.pow_add]
      congr 1
      omega
    cases hs : st (q + 1) with
    | none =>
      refine ⟨E, h1, by omega, fun k hk => ?_⟩
      by_cases e : k = q + 1
      · rw [e, wM_none hs]
        exact ⟨0, by rw [φ.ic_zero]; grind, Nat.zero_le _⟩
      · obtain ⟨a, b, c⟩ := h3 k (by omega)
        exact ⟨a, b, by omega⟩
    | some x =>
      obtain ⟨n, n0, nb, hr, _⟩ := hz (q + 1) x hq hs hp
      have b1 : ∀ a : Int, a.natAbs ≤ 2 ^ (514 * q) → ∀ c : Int, c.natAbs < 2 ^ 511 → (a * c).natAbs ≤ 2 ^ 511 * 2 ^ (514 * q) := fun a ha c hc => by
        rw [Int.natAbs_mul, Nat.mul_comm]
        exact Nat.mul_le_mul (Nat.le_of_lt hc) ha
      have b2 : (2 : Nat) ^ 511 * 2 ^ (514 * q) ≤ 2 ^ (514 * (q + 1)) := by
        rw [pe]
        exact Nat.mul_le_mul_right _ (by decide +kernel)
      refine ⟨E * n, Int.mul_ne_zero h1 n0, Nat.le_trans (b1 E h2 n nb) b2, fun k hk => ?_⟩
      by_cases e : k = q + 1
      · subst e
        let A : Nat → Int := fun i => pick fun a => x.1 i * φ.ic n = φ.ic a ∧ a.natAbs < 2 ^ 511
        let B : Nat → Int := fun i => pick fun a => wM st i * φ.ic E = φ.ic a ∧ a.natAbs ≤ 2 ^ (514 * q)
        have hA : ∀ i, i < 8 → x.1 i * φ.ic n = φ.ic (A i) := fun i hi => (pick_spec (hr i hi)).1
        have hB : ∀ i, i ≤ q → wM st i * φ.ic E = φ.ic (B i) := fun i hi => (pick_spec (h3 i hi)).1
        have bA : ∀ i, (A i).natAbs < 2 ^ 511 := fun i => by
          rcases pick_or (fun a => x.1 i * φ.ic n = φ.ic a ∧ a.natAbs < 2 ^ 511) with h | h
          · exact h.2
          · show (pick fun a => x.1 i * φ.ic n = φ.ic a ∧ a.natAbs < 2 ^ 511).natAbs < 2 ^ 511
            rw [h]
            exact Nat.pow_pos (by decide)
        have bB : ∀ i, (B i).natAbs ≤ 2 ^ (514 * q) := fun i => by
          rcases pick_or (fun a => wM st i * φ.ic E = φ.ic a ∧ a.natAbs ≤ 2 ^ (514 * q)) with h | h
          · exact h.2
          · show (pick fun a => wM st i * φ.ic E = φ.ic a ∧ a.natAbs ≤ 2 ^ (514 * q)).natAbs ≤ _
            rw [h]
            exact Nat.zero_le _
        refine ⟨-(sumZ (q + 1) fun i => B i * A i), ?_, ?_⟩
        · rw [wM_some hs, φ.ic_neg, ic_sumZ, φ.ic_mul]
          have : (sm (q + 1) fun i => φ.ic (B i * A i)) = (φ.ic E * φ.ic n) * sm (q + 1) fun i => x.1 i * wM st i := by
            rw [← sm_mul]
            refine sm_congr _ fun i hi => ?_
            rw [φ.ic_mul, ← hA i (by omega), ← hB i (by omega)]
            grind
          rw [this]
          grind
        · rw [Int.natAbs_neg, pe]
          refine Nat.le_trans (sumZ_bd (b := 2 ^ 511 * 2 ^ (514 * q)) (fun i => b1 _ (bB i) _ (bA i)) (q + 1)) ?_
          rw [← Nat.mul_assoc]
          refine Nat.mul_le_mul_right _ ?_
          exact Nat.le_trans (Nat.mul_le_mul_right _ (show q + 1 ≤ 8 by omega)) (by decide +kernel)
      · obtain ⟨a, b, c⟩ := h3 k (by omega)
        refine ⟨a * n, ?_, Nat.le_trans (b1 a c n nb) b2⟩
        rw [φ.ic_mul, φ.ic_mul, ← b]
        grind
theorem sm_cut {f : Nat → φ.car} {a : Nat} : ∀ n, a ≤ n → (∀ k, a ≤ k → k < n → f k = 0) → sm n f = sm a f
  | 0, h, _ => by
    have : a = 0 := by omega
    subst this
    rfl
  | n + 1, h, z => by
    by_cases e : a = n + 1
    · rw [e]
    · show sm n f + f n = _
      rw [sm_cut n (by omega) fun k h1 h2 => z k h1 (by omega), z n (by omega) (by omega)]
      grind
theorem prods_nd : ∀ p, p < 4 → ∀ s, s ≤ p → (prodsM p s).Nodup := by decide +kernel
theorem prods_mem : ∀ p, p < 4 → ∀ s, s ≤ p → ∀ j, j < 8 → (j ∈ prodsM p s ↔ inP p j = true ∧ (prd j).length ≤ s) := by decide +kernel
theorem prods_lt8 : ∀ p, p < 4 → ∀ s, s ≤ p → ∀ j ∈ prodsM p s, j < 8 := by decide +kernel
theorem prods_ordB : ((List.range 4).all fun p => (List.range 4).all fun s => !(decide (s ≤ p)) || (List.range 8).all fun i => (List.range 8).all fun q => !(decide ((prodsM p s)[i]? = some q)) || (List.range 8).all fun k => !(inP p k && decide (k < q)) || ((prodsM p s).take i).contains k) = true := by decide +kernel
theorem prods_ord {p s i q k : Nat} (hp : p < 4) (hs : s ≤ p) (hi : (prodsM p s)[i]? = some q) (hk : inP p k = true) (hkq : k < q) : k ∈ (prodsM p s).take i := by
  have q8 : q < 8 := prods_lt8 p hp s hs q (List.mem_of_getElem? hi)
  have i8 : i < 8 := by
    have h1 := (List.getElem?_eq_some_iff.mp hi).1
    have : ∀ p, p < 4 → ∀ s, s ≤ p → (prodsM p s).length ≤ 8 := by decide +kernel
    have := this p hp s hs
    omega
  have a := List.all_eq_true.mp prods_ordB p (List.mem_range.mpr hp)
  have a := List.all_eq_true.mp a s (List.mem_range.mpr (by omega))
  rw [decide_eq_true hs] at a
  have a := List.all_eq_true.mp a i (List.mem_range.mpr i8)
  have a := List.all_eq_true.mp a q (List.mem_range.mpr q8)
  rw [decide_eq_true hi] at a
  have a := List.all_eq_true.mp a k (List.mem_range.mpr (by omega))
  rw [hk, decide_eq_true hkq] at a
  exact List.contains_iff_mem.mp a
theorem nou_ok {st : LSt φ} {p s : Nat} (hp : p < 4) (hs : s ≤ p) (low : ∀ g x, g < 8 → st g = some x → x.1 g = 1 ∧ ∀ k, k < 8 → g < k → x.1 k = 0) (hz : ∀ g x, g < 8 → st g = some x → LSz φ x) (hw : ∀ g x, g < 8 → st g = some x → Within p x.1) : NouOk φ st (prodsM p s) (wM st) := by
  have l8 := prods_lt8 p hp s hs
  have frF : ∀ k, k < 8 → Fr φ 3599 (wM st k) := fun k hk hp0 => by
    obtain ⟨E, h1, h2, h3⟩ := wM_size hp0 hz 7 (by decide)
    obtain ⟨a, b, c⟩ := h3 k (by omega)
    exact ⟨a, E, h1, b, nat_lt_pow c (by decide), nat_lt_pow h2 (by decide)⟩
  refine ⟨l8, prods_nd p hp s hs, rfl, fun q hq h0 hn => ?_, fun q hq h0 x hx => ?_, fun i q hi h0 x hx k hk hne hkq => ?_, fun q hq x hx k hk => ((hz q x (l8 q hq) hx).fr.1 k hk).small (by decide), fun q hq => (frF q (l8 q hq)).small (by decide), fun q hq x hx k hk _ _ => (((hz q x (l8 q hq) hx).fr.1 k hk).mul (frF k hk)).small (by decide), fun q hq x hx l hl hk => ?_⟩
  · obtain ⟨n, rfl⟩ : ∃ n, q = n + 1 := ⟨q - 1, by omega⟩
    exact wM_none hn
  · obtain ⟨n, rfl⟩ : ∃ n, q = n + 1 := ⟨q - 1, by omega⟩
    have q8 := l8 _ hq
    rw [wM_some hx, lsum_sm]
    congr 1
    symm
    rw [sm_cut (a := n + 1) 8 (by omega) fun k h1 h2 => ?_]
    · refine sm_congr _ fun k hk => ?_
      by_cases e : x.1 k = 0
      · rw [e]
        split <;> grind
      · rw [if_pos (by rw [decide_eq_true e, decide_eq_true (show k ≠ n + 1 by omega)]; rfl)]
    · by_cases e : k = n + 1
      · rw [if_neg (fun y => absurd e (of_decide_eq_true ((Bool.and_eq_true _ _).mp y).2))]
      · rw [if_neg (fun y => absurd ((low _ x q8 hx).2 k h2 (by omega)) (of_decide_eq_true ((Bool.and_eq_true _ _).mp y).1))]
  · have q8 := l8 q (List.mem_of_getElem? hi)
    refine prods_ord hp hs hi (hw q x q8 hx k hk hne) ?_
    refine Classical.byContradiction fun z => hne ((low q x q8 hx).2 k hk (by omega))
  · refine Fr.small (N := 4200) (fun hp0 => ?_) (by decide)
    obtain ⟨E, h1, h2, h3⟩ := wM_size hp0 hz 7 (by decide)
    obtain ⟨n, n0, nb, hr, _⟩ := hz q x (l8 q hq) hx hp0
    have len := nodup8 hl fun k hh => (hk k hh).1
    have key : ∀ l : List Nat, (∀ k ∈ l, k < 8) → ∃ a : Int, lsum (fun k => x.1 k * wM st k) l * φ.ic (E * n) = φ.ic a ∧ a.natAbs ≤ l.length * (2 ^ (514 * 7) * 2 ^ 511) := by
      intro l
      induction l with
      | nil => exact fun _ => ⟨0, by show (0 : φ.car) * _ = _; rw [φ.ic_zero]; grind, Nat.zero_le _⟩
      | cons k l ih =>
        intro hl
        obtain ⟨a, a1, a2⟩ := ih fun i hi => hl i (List.mem_cons_of_mem _ hi)
        have k8 := hl k List.mem_cons_self
        obtain ⟨b, b1, b2⟩ := h3 k (by omega)
        obtain ⟨c, c1, c2⟩ := hr k k8
        refine ⟨b * c + a, ?_, ?_⟩
        · rw [lsum_cons, φ.ic_add, ← a1, φ.ic_mul, φ.ic_mul, ← b1, ← c1]
          grind
        · have e1 : (b * c).natAbs ≤ 2 ^ (514 * 7) * 2 ^ 511 := by
            rw [Int.natAbs_mul]
            exact Nat.mul_le_mul b2 (Nat.le_of_lt c2)
          have e2 := Int.natAbs_add_le (b * c) a
          rw [List.length_cons, Nat.add_mul, Nat.one_mul]
          omega
    obtain ⟨a, a1, a2⟩ := key l fun k hh => (hk k hh).1
    have pw : 8 * (2 ^ (514 * 7) * 2 ^ 511) < 2 ^ 4200 := by decide +kernel
    refine ⟨-a, E * n, Int.mul_ne_zero h1 n0, ?_, ?_, ?_⟩
    · rw [φ.ic_neg, ← a1]
      grind
    · rw [Int.natAbs_neg]
      exact Nat.lt_of_le_of_lt a2 (Nat.lt_of_le_of_lt (Nat.mul_le_mul_right _ len) pw)
    · rw [Int.natAbs_mul]
      refine Nat.lt_of_le_of_lt (Nat.mul_le_mul h2 (Nat.le_of_lt nb)) (Nat.lt_of_le_of_lt ?_ pw)
      omega
end
end FS
set_option Elab.async false
set_option linter.all false
set_option maxRecDepth 100000
set_option maxHeartbeats 1000000
/-! what told says: whether 1 lies in the span -/
namespace FS
section
variable {α : Type} [Lean.Grind.Field α] [DecidableEq α]
/-- the rows that a degree allows -/
def RowSet (p d : Nat) (cs : List (Nat → α)) (w : Nat → α) : Prop := ∃ c, c ∈ cs ∧ ∃ q, q < 8 ∧ inP p q = true ∧ (prd q).length + degM c ≤ d ∧ w = mulC q c
def Sh (p d : Nat) (cs : List (Nat → α)) : Prop := Sp (RowSet p d cs) (unitM 0)
theorem inP_len : ∀ p, p < 4 → ∀ q, q < 8 → inP p q = true → (prd q).length ≤ p := by decide +kernel
theorem prs_mem {p d m : Nat} {cs : List (Nat → α)} (hp : p < 4) : m ∈ pairsM p d cs ↔ ∃ n c q, cs[n]? = some c ∧ q < 8 ∧ inP p q = true ∧ (prd q).length + degM c ≤ d ∧ m = 8 * n + q := by
  unfold pairsM
  rw [List.mem_flatMap]
  constructor
  · rintro ⟨n, hn, hm⟩
    unfold pairs1 at hm
    cases e : cs[n]? with
    | none => rw [e] at hm; cases hm
    | some c =>
      rw [e] at hm
      have hm : m ∈ (if degM c ≤ d then (prodsM p (min (d - degM c) p)).map fun q => 8 * n + q else []) := hm
      split at hm
      · rename_i hd
        obtain ⟨q, hq, rfl⟩ := List.mem_map.mp hm
        have q8 := prods_lt8 p hp _ (Nat.min_le_right _ _) q hq
        obtain ⟨h1, h2⟩ := (prods_mem p hp _ (Nat.min_le_right _ _) q q8).mp hq
        exact ⟨n, c, q, e, q8, h1, by omega, rfl⟩
      · cases hm
  · rintro ⟨n, c, q, e, q8, h1, h2, rfl⟩
    refine ⟨n, List.mem_range.mpr (List.getElem?_eq_some_iff.mp e).1, ?_⟩
    unfold pairs1
    rw [e]
    show _ ∈ (if degM c ≤ d then (prodsM p (min (d - degM c) p)).map fun q => 8 * n + q else [])
    rw [if_pos (by omega)]
    refine List.mem_map.mpr ⟨q, (prods_mem p hp _ (Nat.min_le_right _ _) q q8).mpr ⟨h1, ?_⟩, rfl⟩
    have := inP_len p hp q q8 h1
    omega
theorem pairs1_mem {p d n m : Nat} {cs : List (Nat → α)} (hp : p < 4) (h : m ∈ pairs1 p d cs n) : m / 8 = n := by
  unfold pairs1 at h
  cases e : cs[n]? with
  | none => rw [e] at h; cases h
  | some c =>
    rw [e] at h
    have h : m ∈ (if degM c ≤ d then (prodsM p (min (d - degM c) p)).map fun q => 8 * n + q else []) := h
    split at h
    · obtain ⟨q, hq, rfl⟩ := List.mem_map.mp h
      have q8 := prods_lt8 p hp _ (Nat.min_le_right _ _) q hq
      omega
    · cases h
theorem pairs_nd {p d : Nat} {cs : List (Nat → α)} (hp : p < 4) : (pairsM p d cs).Nodup := by
  unfold pairsM
  refine List.pairwise_flatMap.mpr ⟨fun n _ => ?_, ?_⟩
  · show (pairs1 p d cs n).Nodup
    unfold pairs1
    cases e : cs[n]? with
    | none => exact List.nodup_nil
    | some c =>
      show (if degM c ≤ d then (prodsM p (min (d - degM c) p)).map fun q => 8 * n + q else []).Nodup
      split
      · refine List.pairwise_map.mpr (List.Pairwise.imp (fun {a b} h e => h (by omega)) (prods_nd p hp _ (Nat.min_le_right _ _)))
      · exact List.nodup_nil
  · refine List.Pairwise.imp (fun {a b} hab x hx y hy e => hab ?_) (List.nodup_range (n := cs.length))
    rw [← pairs1_mem hp hx, ← pairs1_mem hp hy, e]
theorem mul_within {p q : Nat} {c : Nat → α} (hp : p < 4) (q8 : q < 8) (hq : inP p q = true) (hc : Within p c) : Within p (mulC q c) := fun k k8 hk => by
  rw [mulC_sm] at hk
  refine Classical.byContradiction fun z => hk (sm_zero 8 fun j j8 => ?_)
  by_cases e : jn j q = k
  · rw [if_pos e]
    refine Classical.byContradiction fun z2 => z ?_
    rw [← e]
    have all : ∀ p, p < 4 → ∀ j, j < 8 → ∀ q, q < 8 → inP p j = true → inP p q = true → inP p (jn j q) = true := by decide +kernel
    exact all p hp j j8 q q8 (hc j j8 z2) hq
  · rw [if_neg e]
theorem Sp.within {p : Nat} {S : (Nat → α) → Prop} {v : Nat → α} (h : Sp S v) (f : ∀ w, S w → Within p w) : Within p v := by
  induction h with
  | zero z => exact fun j hj hne => absurd (z j hj) hne
  | @step u v w c a b z ih =>
    intro j hj hne
    refine Classical.byContradiction fun q => hne ?_
    have e1 : u j = 0 := Classical.byContradiction fun y => q (ih j hj y)
    have e2 : w j = 0 := Classical.byContradiction fun y => q (f w b j hj y)
    rw [z j hj, e1, e2]
    grind
theorem Sp.van {S : (Nat → α) → Prop} {v : Nat → α} (h : Sp S v) (a : Nat → α) (f : ∀ w, S w → sm 8 (fun k => a k * w k) = 0) : sm 8 (fun k => a k * v k) = 0 := by
  induction h with
  | zero z => exact sm_zero 8 fun k hk => by rw [z k hk]; grind
  | @step u v w c x b z ih =>
    have e : sm 8 (fun k => a k * v k) = sm 8 fun k => a k * u k + c * (a k * w k) := sm_congr 8 fun k hk => by rw [z k hk]; grind
    rw [e, sm_add, sm_mul, ih, f w b]
    grind
/-! ### at a filling -/
theorem on_iff {f : List Int} {j : Nat} : on f j = true ↔ ∀ k ∈ prd j, f.getD k.toNat 0 = 1 := by
  unfold on onB
  rw [List.all_map, List.all_eq_true]
  refine forall_congr' fun k => forall_congr' fun _ => ?_
  show decide (L2.V.int (f.getD k.toNat 0) = L2.V.int 1) = true ↔ _
  rw [decide_eq_true_iff]
  exact ⟨fun h => L2.V.int.inj h, fun h => by rw [h]⟩
theorem on_jn {f : List Int} {a b : Nat} (ha : a < 8) (hb : b < 8) : on f (jn a b) = (on f a && on f b) := by
  obtain ⟨m1, m2, m3⟩ := jn_mem a ha b hb
  rw [Bool.eq_iff_iff, Bool.and_eq_true, on_iff, on_iff, on_iff]
  exact ⟨fun h => ⟨fun k hk => h k (m2 k hk), fun k hk => h k (m3 k hk)⟩, fun ⟨h1, h2⟩ k hk => (m1 k hk).elim (h1 k) (h2 k)⟩
theorem eval_dot (c : Nat → α) (f : List Int) : evalC c f = sm 8 fun k => (if on f k = true then 1 else 0) * c k := by
  rw [eval_sm]
  refine sm_congr 8 fun k _ => ?_
  split <;> grind
theorem eval_mul (f : List Int) {q : Nat} (q8 : q < 8) (c : Nat → α) : evalC (mulC q c) f = if on f q = true then evalC c f else 0 := by
  rw [eval_dot]
  have e1 : (sm 8 fun k => (if on f k = true then 1 else 0) * mulC q c k) = sm 8 fun k => sm 8 fun j => (if on f k = true then 1 else 0) * (if jn j q = k then c j else 0) := sm_congr 8 fun k _ => by
    rw [mulC_sm, sm_mul]
  rw [e1, sm_swap]
  have e2 : ∀ j, j < 8 → (sm 8 fun k => (if on f k = true then 1 else 0) * (if jn j q = k then c j else 0)) = if on f j = true ∧ on f q = true then c j else 0 := fun j j8 => by
    have eo : (sm 8 fun k => (if on f k = true then (1 : α) else 0) * (if jn j q = k then c j else 0)) = (if on f (jn j q) = true then 1 else 0) * (if jn j q = jn j q then c j else 0) := sm_one (i := jn j q) (f := fun k => (if on f k = true then (1 : α) else 0) * (if jn j q = k then c j else 0)) 8 (jn_lt j j8 q q8) fun k _ ne => by
      show (if on f k = true then (1 : α) else 0) * (if jn j q = k then c j else 0) = 0
      rw [if_neg (fun z : jn j q = k => ne z.symm)]
      grind
    rw [eo, if_pos rfl, on_jn j8 q8]
    by_cases z : on f j = true ∧ on f q = true
    · rw [if_pos z, if_pos ((Bool.and_eq_true _ _).mpr z)]
      grind
    · rw [if_neg z, if_neg (fun y => z ((Bool.and_eq_true _ _).mp y))]
      grind
  rw [sm_congr 8 e2]
  by_cases z : on f q = true
  · rw [if_pos z, eval_sm]
    refine sm_congr 8 fun j _ => ?_
    by_cases y : on f j = true
    · rw [if_pos ⟨y, z⟩, if_pos y]
    · rw [if_neg (fun x => y x.1), if_neg y]
  · rw [if_neg z]
    exact sm_zero 8 fun j _ => if_neg fun x => z x.2
theorem on_zero (f : List Int) : on f 0 = true := on_iff.mpr fun k hk => nomatch hk
theorem fill_no_sh {p d : Nat} {cs : List (Nat → α)} {f : List Int} (hf : grantsM cs f = true) : ¬ Sh p d cs := fun h => by
  have := h.van (fun k => if on f k = true then 1 else 0) fun w ⟨c, hc, q, q8, _, _, e⟩ => by
    rw [← eval_dot, e, eval_mul f q8]
    have := of_decide_eq_true (List.all_eq_true.mp hf c hc)
    rw [this]
    split <;> rfl
  rw [sm_one (i := 0) 8 (by decide) fun k _ ne => by
    have : (unitM 0 k : α) = 0 := if_neg ne
    rw [this]
    grind] at this
  rw [on_zero, if_pos rfl] at this
  have e1 : (unitM 0 0 : α) = 1 := if_pos rfl
  rw [e1] at this
  have n1 : (0 : α) ≠ 1 := Lean.Grind.Field.zero_ne_one
  exact n1 (by grind)
end
/-! ### the deltas of the points -/
def dl (p : Nat) (f : List Int) (q : Nat) : Int := if (inP p q && (List.range p).all fun i => f.getD i 0 == 0 || (prd q).contains (i : Int)) = true then (if ((prd q).length + (f.filter fun x => x == 1).length) % 2 = 0 then 1 else -1) else 0
def onZ (f : List Int) (j : Nat) : Bool := (prd j).all fun k => f.getD k.toNat 0 == 1
theorem onZ_on (f : List Int) (j : Nat) : onZ f j = on f j := by
  rw [Bool.eq_iff_iff, on_iff]
  unfold onZ
  rw [List.all_eq_true]
  exact forall_congr' fun k => forall_congr' fun _ => beq_iff_eq
theorem dl_mulB : ((List.range 4).all fun p => (rowsM p).all fun f => (List.range 8).all fun j => !(inP p j) || (List.range 8).all fun k => sumZ 8 (fun q => if jn j q = k then dl p f q else 0) == if onZ f j = true then dl p f k else 0) = true := by decide +kernel
theorem dl_mul {p : Nat} (hp : p < 4) {f : List Int} (hf : f ∈ rowsM p) {j k : Nat} (hj : j < 8) (hi : inP p j = true) (hk : k < 8) : sumZ 8 (fun q => if jn j q = k then dl p f q else 0) = if on f j = true then dl p f k else 0 := by
  have a := List.all_eq_true.mp dl_mulB p (List.mem_range.mpr hp)
  have a := List.all_eq_true.mp a f hf
  have a := List.all_eq_true.mp a j (List.mem_range.mpr hj)
  rw [hi] at a
  have a := List.all_eq_true.mp a k (List.mem_range.mpr hk)
  rw [← onZ_on]
  exact eq_of_beq a
theorem dl_sum : ∀ p, p < 4 → ∀ k, k < 8 → ((rowsM p).map fun f => dl p f k).foldr (· + ·) 0 = if k = 0 then 1 else 0 := by decide +kernel
theorem dl_in {p : Nat} {f : List Int} {q : Nat} (h : dl p f q ≠ 0) : inP p q = true := by
  unfold dl at h
  refine Classical.byContradiction fun z => h (if_neg fun y => z ((Bool.and_eq_true _ _).mp y).1)
section
variable {φ : Fd}
theorem ic_foldr : ∀ l : List Int, φ.ic (l.foldr (· + ·) 0) = (l.map φ.ic).foldr (· + ·) 0
  | [] => φ.ic_zero
  | a :: l => by
    show φ.ic (a + l.foldr (· + ·) 0) = φ.ic a + _
    rw [φ.ic_add, ic_foldr l]
theorem Sp.lst {β : Type} {S : (Nat → φ.car) → Prop} {g : β → Nat → φ.car} : ∀ l : List β, (∀ b ∈ l, Sp S (g b)) → Sp S fun j => (l.map fun b => g b j).foldr (· + ·) 0
  | [], _ => .zero fun _ _ => rfl
  | b :: l, h => (h b List.mem_cons_self).add (Sp.lst l fun b hb => h b (List.mem_cons_of_mem _ hb))
theorem le_maxDeg {cs : List (Nat → φ.car)} {c : Nat → φ.car} (h : c ∈ cs) : degM c ≤ maxDeg cs := le_foldl_max _ 0 _ (.inr (List.mem_map_of_mem h))
theorem deg_le3 (c : Nat → φ.car) : degM c ≤ 3 := by
  unfold degM
  refine foldl_max_le _ 0 3 (by decide) fun x hx => ?_
  obtain ⟨j, hj, rfl⟩ := List.mem_map.mp hx
  split
  · decide
  · exact prd_len j (List.mem_range.mp hj)
theorem maxDeg_le3 (cs : List (Nat → φ.car)) : maxDeg cs ≤ 3 := by
  unfold maxDeg
  refine foldl_max_le _ 0 3 (by decide) fun x hx => ?_
  obtain ⟨c, _, rfl⟩ := List.mem_map.mp hx
  exact deg_le3 c
theorem sh_of_none {p d : Nat} (hp : p < 4) {cs : List (Nat → φ.car)} (hw : ∀ c ∈ cs, Within p c) (hn : (rowsM p).filter (grantsM cs) = []) (hd : p + maxDeg cs ≤ d) : Sh p d cs := by
  have each : ∀ f ∈ rowsM p, Sp (RowSet p d cs) fun k => φ.ic (dl p f k) := fun f hf => by
    have hg : ¬ grantsM cs f = true := List.filter_eq_nil_iff.mp hn f hf
    obtain ⟨c, hc, hne⟩ : ∃ c ∈ cs, evalC c f ≠ 0 := by
      refine Classical.byContradiction fun z => hg (List.all_eq_true.mpr fun c hc => decide_eq_true (Classical.byContradiction fun y => z ⟨c, hc, y⟩))
    have s : Sp (RowSet p d cs) fun k => sm 8 fun q => (φ.ic (dl p f q) / evalC c f) * mulC q c k := sp_sm (f := fun q k => (φ.ic (dl p f q) / evalC c f) * mulC q c k) 8 fun q q8 => by
      by_cases e : dl p f q = 0
      · exact .zero fun j _ => by
          show (φ.ic (dl p f q) / evalC c f) * mulC q c j = 0
          rw [e, φ.ic_zero]
          grind
      · have hin := dl_in e
        have h1 := inP_len p hp q q8 hin
        have h2 := le_maxDeg hc
        exact (Sp.one ⟨c, hc, q, q8, hin, by omega, rfl⟩).smul _
    refine s.congr fun k k8 => ?_
    show (sm 8 fun q => (φ.ic (dl p f q) / evalC c f) * mulC q c k) = φ.ic (dl p f k)
    have e1 : (sm 8 fun q => (φ.ic (dl p f q) / evalC c f) * mulC q c k) = sm 8 fun q => sm 8 fun j => (1 / evalC c f) * (c j * φ.ic (if jn j q = k then dl p f q else 0)) := sm_congr 8 fun q _ => by
      rw [mulC_sm, ← sm_mul]
      refine sm_congr 8 fun j _ => ?_
      split
      · grind
      · rw [φ.ic_zero]
        grind
    rw [e1, sm_swap]
    have e2 : ∀ j, j < 8 → (sm 8 fun q => (1 / evalC c f) * (c j * φ.ic (if jn j q = k then dl p f q else 0))) = (1 / evalC c f * φ.ic (dl p f k)) * if on f j = true then c j else 0 := fun j j8 => by
      rw [sm_mul, sm_mul, ← ic_sumZ]
      by_cases z : c j = 0
      · rw [z]
        split <;> grind
      · rw [dl_mul hp hf j8 (hw c hc j j8 z) k8]
        split
        · grind
        · rw [φ.ic_zero]
          grind
    rw [sm_congr 8 e2, sm_mul, ← eval_sm]
    grind
  refine (Sp.lst (rowsM p) each).congr fun k k8 => ?_
  have e := congrArg φ.ic (dl_sum p hp k k8)
  rw [ic_foldr, List.map_map] at e
  show ((rowsM p).map fun f => φ.ic (dl p f k)).foldr (· + ·) 0 = _
  refine Eq.trans e ?_
  unfold unitM
  split
  · exact φ.ic_one
  · exact φ.ic_zero
/-! ### the rows are small -/
theorem sz_sm {B : Nat} {f : Nat → φ.car} : ∀ n, (∀ k, k < n → Sz φ (B + 1) (f k)) → Sz φ (n * B + 1) (sm n f)
  | 0, _ => fun _ => ⟨0, by show φ.ic 6 * (0 : φ.car) = _; rw [φ.ic_zero]; grind, by simp⟩
  | n + 1, h => fun hp => by
    obtain ⟨a, a1, a2⟩ := sz_sm n (fun k hk => h k (by omega)) hp
    obtain ⟨b, b1, b2⟩ := h n (by omega) hp
    refine ⟨a + b, ?_, ?_⟩
    · rw [φ.ic_add, ← a1, ← b1]
      show φ.ic 6 * (sm n f + f n) = _
      grind
    · have := Int.natAbs_add_le a b
      rw [Nat.add_mul, Nat.one_mul]
      omega
theorem row_sz {p q : Nat} {c : Nat → φ.car} (hc : Nice φ p c) (j : Nat) : Sz φ (2 ^ 59) (mulC q c j) := by
  rw [mulC_sm]
  refine (sz_sm (B := 2 ^ 56 - 1) 8 fun k hk => ?_).mono (by decide)
  split
  · exact (hc.sz k hk).mono (by decide)
  · exact Sz.zero (by decide)
theorem rowOf_at {cs : List (Nat → φ.car)} {n q : Nat} {c : Nat → φ.car} (h : cs[n]? = some c) (q8 : q < 8) : rowOf cs (8 * n + q) = mulC q c := by
  unfold rowOf
  have e1 : (8 * n + q) % 8 = q := by omega
  have e2 : (8 * n + q) / 8 = n := by omega
  rw [e1, e2, List.getD_eq_getElem?_getD, h]
  rfl
theorem row_set {p d : Nat} (hp : p < 4) {cs : List (Nat → φ.car)} {w : Nat → φ.car} : (∃ m ∈ pairsM p d cs, w = rowOf cs m) ↔ RowSet p d cs w := by
  constructor
  · rintro ⟨m, hm, rfl⟩
    obtain ⟨n, c, q, e, q8, h1, h2, rfl⟩ := (prs_mem hp).mp hm
    exact ⟨c, List.mem_of_getElem? e, q, q8, h1, h2, rowOf_at e q8⟩
  · rintro ⟨c, hc, q, q8, h1, h2, rfl⟩
    obtain ⟨n, hn⟩ := List.mem_iff_getElem?.mp hc
    exact ⟨8 * n + q, (prs_mem hp).mpr ⟨n, c, q, hn, q8, h1, h2, rfl⟩, (rowOf_at hn q8).symm⟩
theorem told_ok {p : Nat} (hp : p < 4) {cs : List (Nat → φ.car)} (hlen : cs.length ≤ 10) (hN : ∀ c ∈ cs, Nice φ p c) (d : Nat) : ToldOk φ p d cs ∧ (Sh p d cs → wordM p d cs = "showing") ∧ (¬ Sh p d cs → wordM p d cs = "worths") := by
  have hms : ∀ m ∈ pairsM p d cs, m < 80 ∧ ∀ j, j < 8 → Sz φ (2 ^ 59) (rowOf cs m j) := fun m hm => by
    obtain ⟨n, c, q, e, q8, h1, h2, rfl⟩ := (prs_mem hp).mp hm
    have hn := (List.getElem?_eq_some_iff.mp e).1
    refine ⟨by omega, fun j _ => ?_⟩
    rw [rowOf_at e q8]
    exact row_sz (hN c (List.mem_of_getElem? e)) j
  obtain ⟨lin, U, inv⟩ := run_ok (pairs_nd hp) hms
  have inv : Inv (stM p d cs) (rowOf cs) (pairsM p d cs) U := inv
  have hw : ∀ g x, g < 8 → stM p d cs g = some x → Within p x.1 := fun g x g8 hx => (inv.out g x g8 hx).within fun w hw => by
    obtain ⟨c, hc, q, q8, h1, h2, rfl⟩ := (row_set hp).mp hw
    exact mul_within hp q8 h1 (hN c hc).wi
  refine ⟨⟨lin, fun z hz => ⟨fun m hm => ((inv.sz 0 z (by decide) hz).fr.2 m hm).small (by decide), fun m hm hne => ?_⟩, fun _ => ⟨_, nou_ok hp (Nat.min_le_right _ _) inv.low inv.sz hw⟩⟩, fun hs => ?_, fun hs => ?_⟩
  · obtain ⟨n, c, q, e, q8, h1, h2, rfl⟩ := (prs_mem hp).mp (inv.sup 0 z (by decide) hz m hm hne)
    have hn := (List.getElem?_eq_some_iff.mp e).1
    omega
  · have span : ∀ v, Sp (RowSet p d cs) v → ∃ l : Nat → φ.car, (∀ j, j < 8 → v j = sm 8 fun h => l h * rowL (stM p d cs) h j) ∧ ∀ h, l h ≠ 0 → stM p d cs h ≠ none := fun v hv => by
      induction hv with
      | zero z => exact ⟨fun _ => 0, fun j hj => by rw [z j hj, sm_zero 8 fun h _ => by grind], fun h z => absurd rfl z⟩
      | @step u v w c a b z ih =>
        obtain ⟨l, l1, l2⟩ := ih
        obtain ⟨m, hm, rfl⟩ := (row_set hp).mpr b
        obtain ⟨k, k1, k2⟩ := inv.inn m hm
        refine ⟨fun h => l h + c * k h, fun j hj => ?_, fun h hh => ?_⟩
        · have e : (sm 8 fun h => (l h + c * k h) * rowL (stM p d cs) h j) = sm 8 fun h => l h * rowL (stM p d cs) h j + c * (k h * rowL (stM p d cs) h j) := sm_congr 8 fun h _ => by grind
          rw [e, sm_add, sm_mul, ← l1 j hj, ← k1 j hj, z j hj]
        · by_cases y : l h = 0
          · exact k2 h fun y2 => hh (by show l h + c * k h = 0; rw [y, y2]; grind)
          · exact l2 h y
    obtain ⟨l, l1, l2⟩ := span _ hs
    have down : ∀ n h, 1 ≤ h → h < 8 → 8 ≤ h + n → l h = 0 := fun n => by
      induction n with
      | zero => intro h _ h8 hn; omega
      | succ n ih =>
        intro h h1 h8 hn
        have e := l1 h h8
        rw [sm_one (i := h) 8 h8 fun k k8 ne => ?_] at e
        · refine Classical.byContradiction fun z => ?_
          cases q : stM p d cs h with
          | none => exact l2 h z q
          | some x =>
            rw [rowL_some q, (inv.low h x h8 q).1] at e
            have e0 : (unitM 0 h : φ.car) = 0 := if_neg (by omega)
            rw [e0] at e
            grind
        · rcases Nat.lt_or_ge h k with q | q
          · rw [ih k (by omega) k8 (by omega)]
            grind
          · have : rowL (stM p d cs) k h = 0 := by
              cases q2 : stM p d cs k with
              | none => unfold rowL; rw [q2]
              | some y => rw [rowL_some q2]; exact (inv.low k y k8 q2).2 h h8 (by omega)
            rw [this]
            grind
    have e := l1 0 (by decide)
    rw [sm_one (i := 0) 8 (by decide) fun k k8 ne => by rw [down 8 k (by omega) k8 (by omega)]; grind] at e
    have e0 : (unitM 0 0 : φ.car) = 1 := if_pos rfl
    rw [e0] at e
    have n1 : (0 : φ.car) ≠ 1 := Lean.Grind.Field.zero_ne_one
    unfold wordM
    cases q : stM p d cs 0 with
    | none => exact absurd q (l2 0 fun z => n1 (by rw [z] at e; grind))
    | some x => rfl
  · unfold wordM
    cases q : stM p d cs 0 with
    | none => rfl
    | some x =>
      refine absurd ?_ hs
      obtain ⟨a1, a2⟩ := inv.low 0 x (by decide) q
      refine ((inv.out 0 x (by decide) q).mono fun w hw => (row_set hp).mp hw).congr fun j hj => ?_
      unfold unitM
      by_cases e : j = 0
      · rw [if_pos e, e, a1]
      · rw [if_neg e, a2 j hj (by omega)]
end
end FS
set_option Elab.async false
set_option linter.all false
set_option maxRecDepth 100000
set_option maxHeartbeats 1000000
/-! least degrees beside one another -/
namespace FS
open PySem PySem.Spec PyProof.Rows
theorem least_ex {P : Nat → Prop} (h : ∃ n, P n) : ∃ n, P n ∧ ∀ m, m < n → ¬ P m := by
  obtain ⟨n, hn⟩ := h
  have key : ∀ n, (∃ m, m ≤ n ∧ P m) → ∃ n, P n ∧ ∀ m, m < n → ¬ P m := fun n => by
    induction n with
    | zero =>
      rintro ⟨m, h1, h2⟩
      exact ⟨m, h2, fun k hk => by omega⟩
    | succ n ih =>
      rintro ⟨m, h1, h2⟩
      by_cases e : ∃ m, m ≤ n ∧ P m
      · exact ih e
      · exact ⟨m, h2, fun k hk hp => e ⟨k, by omega, hp⟩⟩
  exact key n ⟨n, Nat.le_refl _, hn⟩
section
variable {φ : Fd}
/-- D is the least degree of a showing, where no filling is -/
def Lst (p : Nat) (cs : List (Nat → φ.car)) (D : Nat) : Prop := (rowsM p).filter (grantsM cs) = [] → Sh p D cs ∧ ∀ d, d < D → ¬ Sh p d cs
theorem lst_ex {p : Nat} (hp : p < 4) {cs : List (Nat → φ.car)} (hw : ∀ c ∈ cs, Within p c) : ∃ D, Lst p cs D := by
  by_cases e : (rowsM p).filter (grantsM cs) = []
  · obtain ⟨D, h1, h2⟩ := least_ex (P := fun d => Sh p d cs) ⟨p + maxDeg cs, sh_of_none hp hw e (Nat.le_refl _)⟩
    exact ⟨D, fun _ => ⟨h1, h2⟩⟩
  · exact ⟨0, fun z => absurd z e⟩
theorem lst_top {p : Nat} (hp : p < 4) {cs : List (Nat → φ.car)} (hw : ∀ c ∈ cs, Within p c) {D : Nat} (h : Lst p cs D) (e : (rowsM p).filter (grantsM cs) = []) : D ≤ p + maxDeg cs := by
  obtain ⟨h1, h2⟩ := h e
  refine Classical.byContradiction fun z => h2 (p + maxDeg cs) (by omega) (sh_of_none hp hw e (Nat.le_refl _))
theorem lst_ok {p : Nat} (hp : p < 4) {cs : List (Nat → φ.car)} (hlen : cs.length ≤ 10) (hN : ∀ c ∈ cs, Nice φ p c) {D : Nat} (h : Lst p cs D) : LeastOk φ p cs D := by
  have hw : ∀ c ∈ cs, Within p c := fun c hc => (hN c hc).wi
  refine ⟨fun e => ?_, fun e => lst_top hp hw h e, fun e => ?_⟩
  · obtain ⟨h1, h2⟩ := h e
    have := lst_top hp hw h e
    have := maxDeg_le3 cs
    exact ⟨by omega, fun d _ => (told_ok hp hlen hN d).1, fun d hd => (told_ok hp hlen hN d).2.2 (h2 d hd), (told_ok hp hlen hN D).2.1 h1⟩
  · refine ⟨(told_ok hp hlen hN 3).1, (told_ok hp hlen hN 3).2.2 ?_⟩
    cases q : (rowsM p).filter (grantsM cs) with
    | nil => exact absurd q e
    | cons f fs => exact fill_no_sh (List.mem_filter.mp (q ▸ List.mem_cons_self : f ∈ (rowsM p).filter (grantsM cs))).2
theorem lst_small {p : Nat} (hp : p < 4) {cs : List (Nat → φ.car)} (hw : ∀ c ∈ cs, Within p c) {D : Nat} (h : Lst p cs D) : leastM p cs D ≤ 1000 := by
  unfold leastM
  split
  · rename_i e
    have := lst_top hp hw h e
    have := maxDeg_le3 cs
    omega
  · omega
theorem lst_le {p : Nat} (hp : p < 4) {cs cs' : List (Nat → φ.car)} (hw' : ∀ c ∈ cs', Within p c) {D D' : Nat} (h : Lst p cs D) (h' : Lst p cs' D') (sub : ∀ c ∈ cs, c ∈ cs') : leastM p cs' D' ≤ leastM p cs D := by
  by_cases e : (rowsM p).filter (grantsM cs) = []
  · have e' : (rowsM p).filter (grantsM cs') = [] := by
      refine List.filter_eq_nil_iff.mpr fun f hf z => List.filter_eq_nil_iff.mp e f hf ?_
      exact List.all_eq_true.mpr fun c hc => List.all_eq_true.mp z c (sub c hc)
    obtain ⟨h1, h2⟩ := h e
    obtain ⟨k1, k2⟩ := h' e'
    have s : Sh p D cs' := h1.mono fun w ⟨c, hc, z⟩ => ⟨c, sub c hc, z⟩
    have : D' ≤ D := Classical.byContradiction fun z => k2 D (by omega) s
    unfold leastM
    rw [if_pos e, if_pos e']
    omega
  · have := lst_small hp hw' h'
    have e2 : leastM p cs D = 1000 := if_neg e
    omega
theorem lst_same {p : Nat} {cs cs' : List (Nat → φ.car)} {D D' : Nat} (h : Lst p cs D) (h' : Lst p cs' D') (e : (rowsM p).filter (grantsM cs) = [] ↔ (rowsM p).filter (grantsM cs') = []) (s : ∀ d, Sh p d cs ↔ Sh p d cs') : leastM p cs' D' = leastM p cs D := by
  unfold leastM
  by_cases z : (rowsM p).filter (grantsM cs) = []
  · rw [if_pos z, if_pos (e.mp z)]
    obtain ⟨h1, h2⟩ := h z
    obtain ⟨k1, k2⟩ := h' (e.mp z)
    have a : D' ≤ D := Classical.byContradiction fun y => k2 D (by omega) ((s D).mp h1)
    have b : D ≤ D' := Classical.byContradiction fun y => h2 D' (by omega) ((s D').mpr k1)
    omega
  · rw [if_neg z, if_neg fun y => z (e.mpr y)]
theorem lst_move {p : Nat} {cs cs' : List (Nat → φ.car)} {D : Nat} (h : Lst p cs D) (e : (rowsM p).filter (grantsM cs) = [] ↔ (rowsM p).filter (grantsM cs') = []) (s : ∀ d, Sh p d cs ↔ Sh p d cs') : Lst p cs' D := fun z => by
  obtain ⟨h1, h2⟩ := h (e.mpr z)
  exact ⟨(s D).mp h1, fun d hd y => h2 d hd ((s d).mpr y)⟩
/-! ### degrees -/
theorem deg_le_iff (c : Nat → φ.car) (d : Nat) : degM c ≤ d ↔ ∀ j, j < 8 → c j ≠ 0 → (prd j).length ≤ d := by
  constructor
  · intro h j hj hne
    refine Nat.le_trans (le_foldl_max _ 0 _ (.inr (List.mem_map.mpr ⟨j, List.mem_range.mpr hj, if_neg hne⟩))) h
  · intro h
    refine foldl_max_le _ 0 d (Nat.zero_le _) fun x hx => ?_
    obtain ⟨j, hj, rfl⟩ := List.mem_map.mp hx
    split
    · exact Nat.zero_le _
    · rename_i z
      exact h j (List.mem_range.mp hj) z
theorem deg_congr {c c' : Nat → φ.car} (h : ∀ j, j < 8 → (c j = 0 ↔ c' j = 0)) : degM c = degM c' := by
  refine Nat.le_antisymm ((deg_le_iff c _).mpr fun j hj hne => (deg_le_iff c' _).mp (Nat.le_refl _) j hj fun z => hne ((h j hj).mpr z)) ((deg_le_iff c' _).mpr fun j hj hne => (deg_le_iff c _).mp (Nat.le_refl _) j hj fun z => hne ((h j hj).mp z))
/-! ### a wish times a number -/
/-- the wishes, one by one, times numbers other than nought -/
def ScOf (c c' : Nat → φ.car) : Prop := ∃ s : φ.car, s ≠ 0 ∧ ∀ j, j < 8 → c' j = s * c j
theorem ScOf.refl (c : Nat → φ.car) : ScOf c c := ⟨1, fun z => (Lean.Grind.Field.zero_ne_one (α := φ.car)) z.symm, fun j _ => by grind⟩
theorem ScOf.symm {c c' : Nat → φ.car} (h : ScOf c c') : ScOf c' c := by
  obtain ⟨s, s0, hs⟩ := h
  refine ⟨1 / s, fun z => ?_, fun j hj => ?_⟩
  · have : s * (1 / s) = 1 := by grind
    rw [z] at this
    have n1 : (0 : φ.car) ≠ 1 := Lean.Grind.Field.zero_ne_one
    exact n1 (by grind)
  · rw [hs j hj]
    grind
theorem scl_sh {p d : Nat} {cs cs' : List (Nat → φ.car)} (h : ∀ c ∈ cs, ∃ c' ∈ cs', ScOf c c') (s : Sh p d cs) : Sh p d cs' := by
  refine s.bind fun w ⟨c, hc, q, q8, h1, h2, e⟩ => ?_
  obtain ⟨c', hc', s, s0, hs⟩ := h c hc
  have dg : degM c = degM c' := deg_congr fun j hj => by
    rw [hs j hj]
    constructor
    · intro z; rw [z]; grind
    · intro z; grind
  refine ((Sp.one (S := RowSet p d cs') ⟨c', hc', q, q8, h1, by omega, rfl⟩).smul (1 / s)).congr fun j hj => ?_
  rw [e, mulC_sm, mulC_sm, ← sm_mul]
  refine sm_congr 8 fun k hk => ?_
  split
  · rw [hs k hk]; grind
  · grind
theorem scl_grants {cs cs' : List (Nat → φ.car)} (h : ∀ c' ∈ cs', ∃ c ∈ cs, ScOf c c') {f : List Int} (g : grantsM cs f = true) : grantsM cs' f = true := by
  refine List.all_eq_true.mpr fun c' hc' => decide_eq_true ?_
  obtain ⟨c, hc, s, s0, hs⟩ := h c' hc'
  have e := of_decide_eq_true (List.all_eq_true.mp g c hc)
  have e2 : evalC c' f = s * evalC c f := by
    rw [eval_sm, eval_sm, ← sm_mul]
    refine sm_congr 8 fun k hk => ?_
    split
    · exact hs k hk
    · grind
  rw [e2, e]
  grind
theorem nil_iff {p : Nat} {cs cs' : List (Nat → φ.car)} (h1 : ∀ f ∈ rowsM p, grantsM cs f = true → ∃ g ∈ rowsM p, grantsM cs' g = true) (h2 : ∀ f ∈ rowsM p, grantsM cs' f = true → ∃ g ∈ rowsM p, grantsM cs g = true) : (rowsM p).filter (grantsM cs) = [] ↔ (rowsM p).filter (grantsM cs') = [] := by
  rw [List.filter_eq_nil_iff, List.filter_eq_nil_iff]
  constructor
  · intro h f hf z
    obtain ⟨g, a, b⟩ := h2 f hf z
    exact h g a b
  · intro h f hf z
    obtain ⟨g, a, b⟩ := h1 f hf z
    exact h g a b
theorem scl_least {p : Nat} {cs cs' : List (Nat → φ.car)} {D D' : Nat} (h : Lst p cs D) (h' : Lst p cs' D') (a : ∀ c ∈ cs, ∃ c' ∈ cs', ScOf c c') (b : ∀ c' ∈ cs', ∃ c ∈ cs, ScOf c c') : leastM p cs' D' = leastM p cs D :=
  have a' : ∀ c ∈ cs, ∃ c' ∈ cs', ScOf c' c := fun c hc => let ⟨c', x, y⟩ := a c hc; ⟨c', x, y.symm⟩
  have b' : ∀ c' ∈ cs', ∃ c ∈ cs, ScOf c' c := fun c hc => let ⟨c', x, y⟩ := b c hc; ⟨c', x, y.symm⟩
  lst_same h h' (nil_iff (fun f hf z => ⟨f, hf, scl_grants b z⟩) fun f hf z => ⟨f, hf, scl_grants a' z⟩) fun d => ⟨scl_sh a, scl_sh b'⟩
/-! ### renamed -/
theorem rn_len : ∀ p, p < 4 → ∀ ns ∈ permsOf p, ∀ j, j < 8 → inP p j = true → (prd (rn ns j)).length = (prd j).length := by decide +kernel
theorem rn_nought : ∀ p, p < 4 → ∀ ns ∈ permsOf p, ∀ j, j < 8 → inP p j = true → (rn ns j = 0 ↔ j = 0) := by decide +kernel
theorem rn_jnB : ((List.range 4).all fun p => (permsOf p).all fun ns => (List.range 8).all fun i => (List.range 8).all fun j => !(inP p i && inP p j) || (rn ns (jn i j) == jn (rn ns i) (rn ns j))) = true := by decide +kernel
theorem rn_jn {p : Nat} (hp : p < 4) {ns : List Int} (hns : ns ∈ permsOf p) {i j : Nat} (hi : i < 8) (hj : j < 8) (h1 : inP p i = true) (h2 : inP p j = true) : rn ns (jn i j) = jn (rn ns i) (rn ns j) := by
  have a := List.all_eq_true.mp rn_jnB p (List.mem_range.mpr hp)
  have a := List.all_eq_true.mp a ns hns
  have a := List.all_eq_true.mp a i (List.mem_range.mpr hi)
  have a := List.all_eq_true.mp a j (List.mem_range.mpr hj)
  rw [h1, h2] at a
  exact eq_of_beq a
theorem rn_invB : ((List.range 4).all fun p => (permsOf p).all fun ns => (permsOf p).any fun ms => (List.range 8).all fun j => !(inP p j) || ((rn ms (rn ns j) == j) && (rn ns (rn ms j) == j))) = true := by decide +kernel
theorem rn_inv {p : Nat} (hp : p < 4) {ns : List Int} (hns : ns ∈ permsOf p) : ∃ ms ∈ permsOf p, ∀ j, j < 8 → inP p j = true → rn ms (rn ns j) = j ∧ rn ns (rn ms j) = j := by
  have a := List.all_eq_true.mp rn_invB p (List.mem_range.mpr hp)
  have a := List.all_eq_true.mp a ns hns
  obtain ⟨ms, hms, b⟩ := List.any_eq_true.mp a
  refine ⟨ms, hms, fun j hj hin => ?_⟩
  have b := List.all_eq_true.mp b j (List.mem_range.mpr hj)
  rw [hin] at b
  obtain ⟨b1, b2⟩ := (Bool.and_eq_true _ _).mp b
  exact ⟨eq_of_beq b1, eq_of_beq b2⟩
theorem jn_in : ∀ p, p < 4 → ∀ j, j < 8 → ∀ q, q < 8 → inP p j = true → inP p q = true → inP p (jn j q) = true := by decide +kernel
theorem led_onB : ((List.range 4).all fun p => (permsOf p).all fun ns => (rowsM p).all fun f => decide (ledM ns f ∈ rowsM p) && (List.range 8).all fun j => !(inP p j) || (onZ (ledM ns f) (rn ns j) == onZ f j)) = true := by decide +kernel
theorem led_on {p : Nat} (hp : p < 4) {ns : List Int} (hns : ns ∈ permsOf p) {f : List Int} (hf : f ∈ rowsM p) : ledM ns f ∈ rowsM p ∧ ∀ j, j < 8 → inP p j = true → on (ledM ns f) (rn ns j) = on f j := by
  have a := List.all_eq_true.mp led_onB p (List.mem_range.mpr hp)
  have a := List.all_eq_true.mp a ns hns
  have a := List.all_eq_true.mp a f hf
  obtain ⟨b1, b2⟩ := (Bool.and_eq_true _ _).mp a
  refine ⟨of_decide_eq_true b1, fun j hj hin => ?_⟩
  have b := List.all_eq_true.mp b2 j (List.mem_range.mpr hj)
  rw [hin] at b
  rw [← onZ_on, ← onZ_on]
  exact eq_of_beq b
theorem fill_mem : ∀ {p : Nat} {f : List Int}, IsFill p f → f ∈ rowsM p
  | 0, f, h => by
    have := List.length_eq_zero_iff.mp h.len
    rw [this]
    exact List.mem_cons_self
  | p + 1, f, h => by
    have hl := h.len
    have hne : f ≠ [] := fun z => by rw [z] at hl; cases hl
    have e := List.dropLast_concat_getLast hne
    have hb := h.bit (f.getLast hne) (List.getLast_mem hne)
    have ih := fill_mem (p := p) (f := f.dropLast) ⟨by rw [List.length_dropLast]; omega, fun b hb => h.bit b (List.dropLast_subset f hb)⟩
    show f ∈ (rowsM p).flatMap fun r => [r ++ [0], r ++ [1]]
    refine List.mem_flatMap.mpr ⟨_, ih, ?_⟩
    rcases hb with z | z
    · rw [z] at e
      rw [e]
      exact List.mem_cons_self
    · rw [z] at e
      rw [e]
      exact List.mem_cons_of_mem _ List.mem_cons_self
section
variable {p : Nat} {ns : List Int} {c c' : Nat → φ.car}
/-- the renamed sum as a sum over the old products -/
theorem ren_sm (hp : p < 4) (hns : ns ∈ permsOf p) (r : RenOf p ns c c') {i : Nat} (hi : i < 8) : c' i = sm 8 fun j => if inP p j = true ∧ rn ns j = i then c j else 0 := by
  by_cases e : ∃ j, j < 8 ∧ inP p j = true ∧ rn ns j = i
  · obtain ⟨j, hj, hin, rfl⟩ := e
    rw [sm_one (i := j) 8 hj fun k hk ne => if_neg fun z => ne (rn_inj p hp ns hns k hk z.1 j hj hin z.2), if_pos ⟨hin, rfl⟩, r.at_ j hj hin]
  · rw [sm_zero 8 fun j hj => if_neg fun z => e ⟨j, hj, z⟩]
    refine Classical.byContradiction fun z => ?_
    obtain ⟨j, hj, hin, h⟩ := r.off i hi z
    exact e ⟨j, hj, hin, h.symm⟩
/-- a sum over the renamed one -/
theorem ren_sum (hp : p < 4) (hns : ns ∈ permsOf p) (r : RenOf p ns c c') (P : Nat → Bool) : (sm 8 fun i => if P i = true then c' i else 0) = sm 8 fun j => if inP p j = true ∧ P (rn ns j) = true then c j else 0 := by
  have e1 : (sm 8 fun i => if P i = true then c' i else 0) = sm 8 fun i => sm 8 fun j => (if P i = true then (1 : φ.car) else 0) * if inP p j = true ∧ rn ns j = i then c j else 0 := sm_congr 8 fun i hi => by
    rw [sm_mul, ← ren_sm hp hns r hi]
    split <;> grind
  rw [e1, sm_swap]
  refine sm_congr 8 fun j hj => ?_
  by_cases hin : inP p j = true
  · have h8 := (rn_ok1 p hp ns hns j hj hin).1
    have eo : (sm 8 fun i => (if P i = true then (1 : φ.car) else 0) * if inP p j = true ∧ rn ns j = i then c j else 0) = (if P (rn ns j) = true then 1 else 0) * if inP p j = true ∧ rn ns j = rn ns j then c j else 0 := sm_one (i := rn ns j) (f := fun i => (if P i = true then (1 : φ.car) else 0) * if inP p j = true ∧ rn ns j = i then c j else 0) 8 h8 fun k _ ne => by
      show (if P k = true then (1 : φ.car) else 0) * (if inP p j = true ∧ rn ns j = k then c j else 0) = 0
      rw [if_neg (fun z : inP p j = true ∧ rn ns j = k => ne z.2.symm)]
      grind
    rw [eo, if_pos (⟨hin, rfl⟩ : inP p j = true ∧ rn ns j = rn ns j)]
    by_cases z : P (rn ns j) = true
    · rw [if_pos z, if_pos ⟨hin, z⟩]; grind
    · rw [if_neg z, if_neg fun y => z y.2]; grind
  · have eo : (sm 8 fun i => (if P i = true then (1 : φ.car) else 0) * if inP p j = true ∧ rn ns j = i then c j else 0) = 0 := sm_zero 8 fun k _ => by
      rw [if_neg (fun z : inP p j = true ∧ rn ns j = k => hin z.1)]
      grind
    rw [eo, if_neg fun z => hin z.1]
theorem ren_deg (hp : p < 4) (hns : ns ∈ permsOf p) (hw : Within p c) (r : RenOf p ns c c') : degM c' = degM c := by
  refine Nat.le_antisymm ((deg_le_iff c' _).mpr fun i hi hne => ?_) ((deg_le_iff c _).mpr fun j hj hne => ?_)
  · obtain ⟨j, hj, hin, rfl⟩ := r.off i hi hne
    rw [rn_len p hp ns hns j hj hin]
    rw [r.at_ j hj hin] at hne
    exact (deg_le_iff c _).mp (Nat.le_refl _) j hj hne
  · have hin := hw j hj hne
    rw [← rn_len p hp ns hns j hj hin]
    refine (deg_le_iff c' _).mp (Nat.le_refl _) _ (rn_ok1 p hp ns hns j hj hin).1 ?_
    rw [r.at_ j hj hin]
    exact hne
theorem ren_eval (hp : p < 4) (hns : ns ∈ permsOf p) (hw : Within p c) (r : RenOf p ns c c') {f : List Int} (hf : f ∈ rowsM p) : evalC c' (ledM ns f) = evalC c f := by
  obtain ⟨_, h⟩ := led_on hp hns hf
  rw [eval_sm, eval_sm, ren_sum hp hns r]
  refine sm_congr 8 fun j hj => ?_
  by_cases z : c j = 0
  · rw [z]
    split <;> split <;> rfl
  · have hin := hw j hj z
    rw [h j hj hin]
    by_cases y : on f j = true
    · rw [if_pos ⟨hin, y⟩, if_pos y]
    · rw [if_neg fun x => y x.2, if_neg y]
theorem ren_back {ms : List Int} (hp : p < 4) (hms : ms ∈ permsOf p) (hns : ns ∈ permsOf p) (hinv : ∀ j, j < 8 → inP p j = true → rn ms (rn ns j) = j ∧ rn ns (rn ms j) = j) (hw : Within p c) (r : RenOf p ns c c') : RenOf p ms c' c := by
  refine ⟨fun i hi hin => ?_, fun j hj hne => ?_⟩
  · obtain ⟨a1, a2, _⟩ := rn_ok1 p hp ms hms i hi hin
    have := r.at_ (rn ms i) a1 a2
    rw [(hinv i hi hin).2] at this
    exact this.symm
  · have hin := hw j hj hne
    obtain ⟨a1, a2, _⟩ := rn_ok1 p hp ns hns j hj hin
    exact ⟨rn ns j, a1, a2, (hinv j hj hin).1.symm⟩
end
theorem paired_mem {α β : Type} {F : α → β → Prop} {as : List α} {bs : List β} (h : Paired F as bs) : ∀ b ∈ bs, ∃ a ∈ as, F a b := by
  induction h with
  | nil => intro b hb; cases hb
  | @cons a b as bs r t ih =>
    intro x hx
    rcases List.mem_cons.mp hx with z | z
    · exact ⟨a, List.mem_cons_self, z ▸ r⟩
    · obtain ⟨y, y1, y2⟩ := ih x z
      exact ⟨y, List.mem_cons_of_mem _ y1, y2⟩
theorem paired_mem' {α β : Type} {F : α → β → Prop} {as : List α} {bs : List β} (h : Paired F as bs) : ∀ a ∈ as, ∃ b ∈ bs, F a b := by
  induction h with
  | nil => intro b hb; cases hb
  | @cons a b as bs r t ih =>
    intro x hx
    rcases List.mem_cons.mp hx with z | z
    · exact ⟨b, List.mem_cons_self, z ▸ r⟩
    · obtain ⟨y, y1, y2⟩ := ih x z
      exact ⟨y, List.mem_cons_of_mem _ y1, y2⟩
theorem ren_sh {p d : Nat} (hp : p < 4) {ns : List Int} (hns : ns ∈ permsOf p) {cs cs' : List (Nat → φ.car)} (hw : ∀ c ∈ cs, Within p c) (h : ∀ c' ∈ cs', ∃ c ∈ cs, RenOf p ns c c') (s : Sh p d cs') : Sh p d cs := by
  obtain ⟨ms, hms, hinv⟩ := rn_inv hp hns
  have key : ∀ v, Sp (RowSet p d cs') v → Sp (RowSet p d cs) fun j => if inP p j = true then v (rn ns j) else 0 := fun v hv => by
    induction hv with
    | zero z =>
      refine .zero fun j hj => ?_
      show (if inP p j = true then _ else (0 : φ.car)) = 0
      split
      · rename_i hin
        exact z _ (rn_ok1 p hp ns hns j hj hin).1
      · rfl
    | @step u v w a x b z ih =>
      obtain ⟨c', hc', q, q8, h1, h2, e⟩ := b
      obtain ⟨c, hc, r⟩ := h c' hc'
      obtain ⟨a1, a2, _⟩ := rn_ok1 p hp ms hms q q8 h1
      have eq : rn ns (rn ms q) = q := (hinv q q8 h1).2
      have hl : (prd (rn ms q)).length = (prd q).length := rn_len p hp ms hms q q8 h1
      have dg := ren_deg hp hns (hw c hc) r
      have row : Sp (RowSet p d cs) (mulC (rn ms q) c) := .one ⟨c, hc, rn ms q, a1, a2, by omega, rfl⟩
      refine (ih.add (row.smul a)).congr fun j hj => ?_
      show (if inP p j = true then u (rn ns j) else 0) + a * mulC (rn ms q) c j = if inP p j = true then v (rn ns j) else 0
      by_cases hin : inP p j = true
      · have r8 := (rn_ok1 p hp ns hns j hj hin).1
        rw [if_pos hin, if_pos hin, z _ r8, e]
        congr 2
        rw [mulC_sm, mulC_sm]
        have e3 := ren_sum hp hns r fun i => decide (jn i q = rn ns j)
        have e4 : (sm 8 fun i => if jn i q = rn ns j then c' i else 0) = sm 8 fun i => if decide (jn i q = rn ns j) = true then c' i else 0 := sm_congr 8 fun i _ => by
          by_cases y : jn i q = rn ns j
          · rw [if_pos y, if_pos (decide_eq_true y)]
          · rw [if_neg y, if_neg fun t => y (of_decide_eq_true t)]
        rw [e4, e3]
        refine sm_congr 8 fun i i8 => ?_
        by_cases y : c i = 0
        · rw [y]
          split <;> split <;> rfl
        · have iin := hw c hc i i8 y
          have ej : (jn i (rn ms q) = j) ↔ (jn (rn ns i) q = rn ns j) := by
            rw [← eq, ← rn_jn hp hns i8 a1 iin a2, eq]
            constructor
            · intro t; rw [t]
            · intro t
              exact rn_inj p hp ns hns _ (jn_lt i i8 _ a1) (jn_in p hp i i8 _ a1 iin a2) j hj hin t
          by_cases t : jn i (rn ms q) = j
          · rw [if_pos t, if_pos ⟨iin, decide_eq_true (ej.mp t)⟩]
          · rw [if_neg t, if_neg fun x => t (ej.mpr (of_decide_eq_true x.2))]
      · have z0 : mulC (rn ms q) c j = 0 := Classical.byContradiction fun y => hin (mul_within hp a1 a2 (hw c hc) j hj y)
        rw [if_neg hin, if_neg hin, z0]
        grind
  refine (key _ s).congr fun j hj => ?_
  show (if inP p j = true then unitM 0 (rn ns j) else 0) = unitM 0 j
  unfold unitM
  by_cases hin : inP p j = true
  · rw [if_pos hin]
    have := rn_nought p hp ns hns j hj hin
    by_cases y : j = 0
    · rw [if_pos y, if_pos (this.mpr y)]
    · rw [if_neg y, if_neg fun t => y (this.mp t)]
  · rw [if_neg hin, if_neg fun y => hin (by rw [y]; rfl)]
theorem ren_grants {p : Nat} (hp : p < 4) {ns : List Int} (hns : ns ∈ permsOf p) {cs cs' : List (Nat → φ.car)} (hw : ∀ c ∈ cs, Within p c) (h : ∀ c' ∈ cs', ∃ c ∈ cs, RenOf p ns c c') {f : List Int} (hf : f ∈ rowsM p) (g : grantsM cs f = true) : grantsM cs' (ledM ns f) = true := by
  refine List.all_eq_true.mpr fun c' hc' => decide_eq_true ?_
  obtain ⟨c, hc, r⟩ := h c' hc'
  rw [ren_eval hp hns (hw c hc) r hf]
  exact of_decide_eq_true (List.all_eq_true.mp g c hc)
theorem ren_good {p : Nat} (hp : p < 4) {ns : List Int} (hns : ns ∈ permsOf p) {cs cs' : List (Nat → φ.car)} (hlen : cs.length ≤ 10) (hN : ∀ c ∈ cs, Nice φ p c) {D : Nat} (hD : Lst p cs D) (r : Paired (RenOf p ns) cs cs') : LeastOk φ p cs' D ∧ leastM p cs' D = leastM p cs D ∧ ∀ f, IsFill p f → grantsM cs f = true → IsFill p (ledM ns f) ∧ grantsM cs' (ledM ns f) = true := by
  obtain ⟨ms, hms, hinv⟩ := rn_inv hp hns
  have hw : ∀ c ∈ cs, Within p c := fun c hc => (hN c hc).wi
  have m1 := paired_mem r
  have hw' : ∀ c' ∈ cs', Within p c' := fun c' hc' => by
    obtain ⟨c, _, q⟩ := m1 c' hc'
    exact ren_within hp hns q
  have hN' : ∀ c' ∈ cs', Nice φ p c' := fun c' hc' => by
    obtain ⟨c, hc, q⟩ := m1 c' hc'
    exact ren_nice hp hns (hN c hc) q
  have m2 : ∀ c ∈ cs, ∃ c' ∈ cs', RenOf p ms c' c := fun c hc => by
    obtain ⟨c', hc', q⟩ := paired_mem' r c hc
    exact ⟨c', hc', ren_back hp hms hns hinv (hw c hc) q⟩
  have hnil := nil_iff (p := p) (cs := cs) (cs' := cs') (fun f hf z => ⟨_, (led_on hp hns hf).1, ren_grants hp hns hw m1 hf z⟩) fun f hf z => ⟨_, (led_on hp hms hf).1, ren_grants hp hms hw' m2 hf z⟩
  have hsh : ∀ d, Sh p d cs ↔ Sh p d cs' := fun d => ⟨ren_sh hp hms hw' m2, ren_sh hp hns hw m1⟩
  have hl : cs'.length ≤ 10 := by
    have : cs.length = cs'.length := Paired.length r
    omega
  have hD' := lst_move hD hnil hsh
  refine ⟨lst_ok hp hl hN' hD', lst_same hD hD' hnil hsh, fun f hf g => ?_⟩
  have hm := fill_mem hf
  obtain ⟨a, b⟩ := rowsM_fill p hp _ (led_on hp hns hm).1
  exact ⟨⟨a, b⟩, ren_grants hp hns hw m1 hm g⟩
end
end FS
set_option Elab.async false
set_option linter.all false
set_option maxRecDepth 100000
set_option maxHeartbeats 4000000
namespace FS
open PySem PySem.Spec PyProof.Rows L2
section
variable {K : PySem.W.Frag} {φ : Fd} {H H' : Hp}
/-! ### rows as data -/
def termD (t : Nat × φ.car) : PyData := .tuple [.tuple ((prd t.1).map .int), .tuple [.int (φ.enc t.2).1, .int (φ.enc t.2).2]]
theorem term_dp {v : V} {t : Nat × φ.car} (h : TermV K φ H v t) : Dp K H v (termD t) := by
  obtain ⟨a, pv, nv, rfl, h1, h2, ⟨b, rfl, h3⟩, ⟨c, rfl, h4⟩⟩ := h
  exact .tup h1 (.cons (.tup h3 (dpAll_ints _)) (.cons (.tup h4 (.cons (.int _) (.cons (.int _) .nil))) .nil))
theorem terms_dp {vs : List V} {ts : List (Nat × φ.car)} (h : Paired (TermV K φ H) vs ts) : DpAll K H vs (ts.map termD) := by
  induction h with
  | nil => exact .nil
  | cons r _ ih => exact .cons (term_dp r) ih
theorem term_lay (t : Nat × φ.car) : PyData.canLay0 (termD t) = true := by
  show (PyData.canLayAll0 ((prd t.1).map .int) && (true && (true && true) && true)) = true
  rw [lay_ints]
  rfl
theorem terms_lay : ∀ ts : List (Nat × φ.car), PyData.canLayAll0 (ts.map termD) = true
  | [] => rfl
  | t :: ts => by
    show (PyData.canLay0 (termD t) && PyData.canLayAll0 (ts.map termD)) = true
    rw [term_lay, terms_lay ts]
    rfl
theorem term_dep (t : Nat × φ.car) : PyData.depth (termD t) ≤ 2 := by
  have h1 : PyData.depth (termD t) = max (PyData.depthAll ((prd t.1).map .int) + 1) (max (PyData.depthAll [.int (φ.enc t.2).1, .int (φ.enc t.2).2] + 1) 0) + 1 := rfl
  have h2 : PyData.depthAll [.int (φ.enc t.2).1, .int (φ.enc t.2).2] = 0 := rfl
  rw [h1, dep_ints, h2]
  decide
theorem terms_dep : ∀ ts : List (Nat × φ.car), PyData.depthAll (ts.map termD) ≤ 2
  | [] => Nat.zero_le 2
  | t :: ts => by
    show max (PyData.depth (termD t)) (PyData.depthAll (ts.map termD)) ≤ 2
    have := term_dep t
    have := terms_dep ts
    omega
/-- a list of rows as data -/
theorem ones_dp {vs : List V} {cs : List (Nat → φ.car)} (h : Paired (RowsV K φ H) vs cs) : ∃ ds : List PyData, DpAll K H vs ds ∧ ds.length = cs.length ∧ PyData.canLayAll0 ds = true ∧ PyData.depthAll ds ≤ 3 := by
  induction h with
  | nil => exact ⟨[], .nil, rfl, rfl, by decide⟩
  | cons r _ ih =>
    obtain ⟨ds, d1, d2, d3, d4⟩ := ih
    obtain ⟨l, rfl, ts, xs, h1, h2, _⟩ := r
    refine ⟨.list (ts.map termD) :: ds, .cons (.lst (SqL.of h1) (terms_dp h2)) d1, congrArg (· + 1) d2, ?_, ?_⟩
    · show (PyData.canLayAll0 (ts.map termD) && PyData.canLayAll0 ds) = true
      rw [terms_lay, d3]
      rfl
    · show max (PyData.depthAll (ts.map termD) + 1) (PyData.depthAll ds) ≤ 3
      have := terms_dep ts
      omega
theorem ones_data {l : Addr} {cs : List (Nat → φ.car)} (h : Ones K φ H l cs) : ∃ ds : List PyData, Dp K H (.ref l) (.list ds) ∧ SeqAt.shaped (.list ds) = true ∧ ds.isEmpty = cs.isEmpty := by
  obtain ⟨vs, h1, h2⟩ := h
  obtain ⟨ds, d1, d2, d3, d4⟩ := ones_dp h2
  refine ⟨ds, .lst (SqL.of h1) d1, ?_, ?_⟩
  · unfold SeqAt.shaped
    refine Bool.and_eq_true_iff.mpr ⟨d3, decide_eq_true ?_⟩
    show PyData.depthAll ds + 1 ≤ 64
    omega
  · cases ds with
    | nil => cases cs with
      | nil => rfl
      | cons _ _ => cases d2
    | cons _ _ => cases cs with
      | nil => cases d2
      | cons _ _ => rfl
/-! ### what stands while the law runs -/
theorem XN.exq {H0 : Hp} {q : Addr} (x : XN H0 H) (n : NewIn H0 q) (e : ExB q H H') : XN H0 H' := fun b o h nt => e b o (n.ne h nt) (x b o h nt)
theorem PoolAt.xn {q : Addr} (h : PoolAt H q) (x : XN H H') : PoolAt H' q := let ⟨c, s, a, b⟩ := h; ⟨c, s, x _ _ a (fun _ z => by cases z), b⟩
theorem Ones.nexq {q l : Addr} {cs : List (Nat → φ.car)} (h : Ones K φ H l cs) (hq : PoolAt H q) : l ≠ q := fun z => by
  obtain ⟨vs, a, b⟩ := h
  obtain ⟨c0, s0, e, _⟩ := hq
  rw [z, e] at a
  cases a
  cases b with
  | cons r _ =>
    obtain ⟨_, e1, _⟩ := r
    cases e1
/-- the law's things: the pool, the tables, the rows, the system -/
structure LW (K : PySem.W.Frag) (φ : Fd) (H0 H : Hp) (q lo a : Addr) (p : Nat) (cs : List (Nat → φ.car)) : Prop where
  pool : PoolAt H q
  tabs : TabsK K H
  ones : Ones K φ H lo cs
  sys : SysAt K φ H a p cs
  xn0 : XN H0 H
  new : NewIn H0 q
variable {H0 : Hp} {q lo a : Addr} {p : Nat} {cs : List (Nat → φ.car)}
theorem LW.xn (h : LW K φ H0 H q lo a p cs) (x : XN H H') (t : TabsK K H') : LW K φ H0 H' q lo a p cs := ⟨h.pool.xn x, t, h.ones.xn x, h.sys.xn x, h.xn0.trans x, h.new⟩
theorem LW.x (h : LW K φ H0 H q lo a p cs) (x : Ext H H') : LW K φ H0 H' q lo a p cs := h.xn (.ofX x) (h.tabs.x x)
theorem LW.exq (h : LW K φ H0 H q lo a p cs) (x : ExB q H H') (hq : PoolAt H' q) : LW K φ H0 H' q lo a p cs := ⟨hq, h.tabs.exq h.pool x, h.ones.exq h.pool x, h.sys.exq h.pool x hq, h.xn0.exq h.new x, h.new⟩
end
/-! ### parts of a list -/
theorem cut_take (xs : List V) (k : Nat) (h : k ≤ xs.length) : cutV xs none (some (k : Int)) = xs.take k := by
  unfold cutV
  rw [HT.sIx_none, HT.sIx_nat, Nat.min_eq_left h, List.drop_zero, Nat.sub_zero]
theorem cut_drop (xs : List V) (k : Nat) (h : k ≤ xs.length) : cutV xs (some (k : Int)) none = xs.drop k := by
  unfold cutV
  rw [HT.sIx_none, HT.sIx_nat, Nat.min_eq_left h, List.take_of_length_le]
  rw [List.length_drop]
  exact Nat.le_refl _
theorem paired_take {α β : Type} {F : α → β → Prop} : ∀ {l : List α} {m : List β} (k : Nat), Paired F l m → Paired F (l.take k) (m.take k)
  | _, _, _, .nil => by rw [List.take_nil, List.take_nil]; exact .nil
  | _, _, 0, .cons _ _ => .nil
  | _, _, k + 1, .cons r q => .cons r (paired_take k q)
theorem paired_drop {α β : Type} {F : α → β → Prop} : ∀ {l : List α} {m : List β} (k : Nat), Paired F l m → Paired F (l.drop k) (m.drop k)
  | _, _, _, .nil => by rw [List.drop_nil, List.drop_nil]; exact .nil
  | _, _, 0, .cons r q => .cons r q
  | _, _, k + 1, .cons _ q => paired_drop k q
theorem split_at {α : Type} : ∀ {l : List α} {k : Nat} {c : α}, l[k]? = some c → l = l.take k ++ c :: l.drop (k + 1)
  | [], _, _, h => by simp at h
  | x :: xs, 0, c, h => by
    simp at h
    rw [h]
    rfl
  | x :: xs, k + 1, c, h => by
    have h : xs[k]? = some c := by simpa using h
    exact congrArg (List.cons x) (split_at h)
section
variable {φ : Fd}
/-! ### a wish times a number, times a place -/
theorem coef_scale (s : φ.car) (j : Nat) : ∀ ts : List (Nat × φ.car), coef (ts.map fun t => (t.1, t.2 * s)) j = coef ts j * s
  | [] => by
    show (0 : φ.car) = 0 * s
    grind
  | t :: ts => by
    rw [List.map_cons, coef_cons, coef_cons, coef_scale s j ts]
    show (if t.1 = j then t.2 * s else 0) + _ = _
    split <;> grind
theorem plant_scale {p : Nat} {c : Nat → φ.car} (h : Plant φ p c) {m : Int} (hm : φ.p = 0 → 0 ≤ m ∧ m ≤ 6) : Nice φ p fun j => c j * φ.ic m := by
  refine ⟨fun j hj hne => h.wi j hj fun z => hne ?_, fun j hj hp => ?_⟩
  · show c j * φ.ic m = 0
    rw [z]
    grind
  · obtain ⟨a, a1, a2⟩ := h.sz j hj hp
    refine ⟨a * m, ?_, ?_⟩
    · rw [φ.ic_mul, ← a1]
      show φ.ic 6 * (c j * φ.ic m) = _
      grind
    · obtain ⟨m1, m2⟩ := hm hp
      rw [Int.natAbs_mul]
      have : a.natAbs * m.natAbs ≤ (2 ^ 52 + 2 ^ 50) * 6 := Nat.mul_le_mul (Nat.le_of_lt a2) (by omega)
      exact Nat.lt_of_le_of_lt this (by decide)
theorem plant_mul {p q : Nat} {c : Nat → φ.car} (hp : p < 4) (q8 : q < 8) (hq : inP p q = true) (h : Plant φ p c) : Nice φ p (mulC q c) := by
  refine ⟨mul_within hp q8 hq h.wi, fun j hj => ?_⟩
  rw [mulC_sm]
  refine (sz_sm (B := 2 ^ 52 + 2 ^ 50 - 1) 8 fun k hk => ?_).mono (by decide)
  split
  · exact (h.sz k hk).mono (by decide)
  · exact Sz.zero (by decide)
theorem ic_small {m : Int} (hm : φ.p = 0 → 0 ≤ m ∧ m ≤ 6) : Small φ (φ.ic m) := sz_small fun hp => by
  obtain ⟨m1, m2⟩ := hm hp
  exact ⟨6 * m, (φ.ic_mul 6 m).symm, by
    rw [Int.natAbs_mul]
    exact Nat.lt_of_le_of_lt (Nat.mul_le_mul (Nat.le_refl _) (show m.natAbs ≤ 6 by omega)) (by decide)⟩
/-- the terms of a wish times a place -/
theorem one_mul_ts (j : Nat) (ts : List (Nat × φ.car)) : prodTs ts [(j, 1)] = ts.map fun t => (jn t.1 j, t.2) := by
  induction ts with
  | nil => rfl
  | cons t ts ih =>
    unfold prodTs at ih ⊢
    rw [List.flatMap_cons, ih, List.map_cons]
    show [(jn t.1 j, t.2 * 1)] ++ _ = _
    have : t.2 * (1 : φ.car) = t.2 := by grind
    rw [this]
    rfl
theorem gat_one {j : Nat} {ts : List (Nat × φ.car)} (hl : ts.length ≤ 8) (h : ∀ t ∈ ts, Sz φ (2 ^ 53) t.2) : GatOk φ (prodTs ts [(j, 1)]) := by
  rw [one_mul_ts]
  have h' : ∀ t ∈ ts.map fun t => (jn t.1 j, t.2), Sz φ (2 ^ 53) t.2 := fun t ht => by
    obtain ⟨u, hu, rfl⟩ := List.mem_map.mp ht
    exact h u hu
  refine ⟨fun t ht => sz_small ((h' t ht).mono (by decide)), fun i k => sz_small ((sz_coef k fun t ht => h' t (List.mem_of_mem_take ht)).mono ?_)⟩
  have e : ((ts.map fun t => (jn t.1 j, t.2)).take i).length ≤ 8 := by
    rw [List.length_take, List.length_map]
    omega
  exact Nat.le_trans (Nat.add_le_add_right (Nat.mul_le_mul_right _ e) 1) (by decide)
end
theorem place_rank : ∀ p, p < 4 → ∀ r, r < p → r + 1 < 8 ∧ inP p (r + 1) = true ∧ prd (r + 1) = [(r : Int)] := by decide
/-! ### drawn orders -/
def permsI : Nat → List (List Int)
  | 0 => [[]]
  | n => permsOf n
theorem perms_ins : ∀ i, i < 3 → ∀ ns ∈ permsI i, ∀ r, r < i + 1 → ns.length = i ∧ (ns.take r ++ [(i : Int)] ++ ns.drop r) ∈ permsI (i + 1) := by decide +kernel
end FS
set_option Elab.async false
set_option linter.all false
set_option maxRecDepth 100000
set_option maxHeartbeats 4000000
namespace FS
open PySem PySem.Spec PyProof.Rows L2
section
variable {P : Program} {w : World} {K : PySem.W.Frag} {mg : PySem.Str → Option Value} {base : Heap}
def k_law (K : PySem.W.Frag) : K1 := fun x H Q => ∃ (l : Addr) (ns : List Int), x = .ref l ∧ SqL K H l (ns.map V.int) ∧ TabsK K H ∧ ∀ H', XN H H' → Q (.bl true) H'

abbrev N_law : List PySem.Str := ["_law_script", "_law_k", "_law_pool_here", "_law_prime_here", "_law_places", "_law_ones", "_law_system_here", "_law_degree", "_law_more", "_law_order", "_law_place", "_law_at", "_law_by", "_law_scaled", "_law_product_here", "_law_number_here", "_law_wider"]
theorem sc_law : FnScope N_law ["_law_script"] (defScope s_law) := ⟨rfl, rfl, rfl, by decide +kernel, rfl, by decide +kernel, by decide +kernel⟩
theorem b_law (T : Tx K mg) (TB : LamX.TabB base mg (He.cT K ("gathered", none)).1 (He.cT K ("gathered", none)).2) : Body P w K mg base 11 "law" (defBody s_law) (defScope s_law) N_law (S1 (k_law K)) := fun f cdv A outer s H vs Q E hcd hr h => by
  refine ⟨_, (pss_cons (ps_for PassesOwn.never rfl (pi_range1 rfl T.f_range (pa_cons (pe_callB (call_max2 rfl) (by rfl) T.f_max (by decide +kernel) (pa_cons pe_int (pa_cons (pe_callB (call_min2 rfl) (by rfl) T.f_min (by decide +kernel) (pa_cons (pe_callB call_len_seq (by rfl) T.f_len PySem.boot_len (pa_cons (pv 0) pa_nil)) (pa_cons pe_int pa_nil))) pa_nil))) pa_nil)) (pg_name (i := 1) sc_law.nd rfl (by first | exact Or.inl rfl | exact Or.inr rfl)) (pss_cons (ps_set (i := 2) sc_law.nd rfl (by first | exact Or.inl rfl | exact Or.inr rfl) (C8.pe_c (c_law_pool T) hr (by decide) rfl (pa_cons (pv 0) (pa_cons (pv 1) pa_nil)))) (pss_cons (ps_asg (C8.pe_c (c_law_small_wishes T) hr (by decide) rfl (pa_cons (pv 2) (pa_cons pe_int pa_nil))) (pg_tup rfl (pgs_cons (pg_name (i := 3) sc_law.nd rfl (by first | exact Or.inl rfl | exact Or.inr rfl)) (pgs_cons (pg_name (i := 4) sc_law.nd rfl (by first | exact Or.inl rfl | exact Or.inr rfl)) (pgs_cons (pg_name (i := 5) sc_law.nd rfl (by first | exact Or.inl rfl | exact Or.inr rfl)) pgs_nil))))) (pss_cons (ps_set (i := 6) sc_law.nd rfl (by first | exact Or.inl rfl | exact Or.inr rfl) (C8.pe_c (c_law_system T TB) hr (by decide) rfl (pa_cons (pv 3) (pa_cons (pv 4) (pa_cons (pv 5) (pa_cons (pe_lst pa_nil) pa_nil)))))) (pss_cons (ps_set (i := 7) sc_law.nd rfl (by first | exact Or.inl rfl | exact Or.inr rfl) (C8.pe_c (c_law_least_of T TB) hr (by decide) rfl (pa_cons (pv 6) pa_nil))) (pss_cons (ps_if (pt_not (pt_val (C8.pe_c (c_law_ends T TB) hr (by decide) rfl (pa_cons (pv 6) (pa_cons (pv 7) pa_nil))))) (pss_one (ps_ret pe_bl)) pss_nil) (pss_cons (ps_set (i := 8) sc_law.nd rfl (by first | exact Or.inl rfl | exact Or.inr rfl) (C8.pe_c (c_law_terms T) hr (by decide) rfl (pa_cons (pv 2) (pa_cons (pv 3) (pa_cons (pv 4) (pa_cons pe_int (pa_cons pe_int pa_nil))))))) (pss_cons (ps_if (pt_cmpR op_gt (C8.pe_c (c_law_least_of T TB) hr (by decide) rfl (pa_cons (C8.pe_c (c_law_system T TB) hr (by decide) rfl (pa_cons (pv 3) (pa_cons (pv 4) (pa_cons (pe_op op_cat (pv 5) (pe_lst (pa_cons (pv 8) pa_nil))) (pa_cons (pe_lst pa_nil) pa_nil))))) pa_nil)) (pv 7) (nomark _)) (pss_one (ps_ret pe_bl)) pss_nil) (pss_cons (ps_set (i := 9) sc_law.nd rfl (by first | exact Or.inl rfl | exact Or.inr rfl) (pe_lst pa_nil)) (pss_cons (ps_for PassesOwn.never rfl (pi_range1 rfl T.f_range (pa_cons (pv 4) pa_nil)) (pg_name (i := 10) sc_law.nd rfl (by first | exact Or.inl rfl | exact Or.inr rfl)) (pss_one (ps_expr (pe_bm PySem.F.plainAttrs_list PySem.F.slot_list_insert PySem.F.type_list_insert mt_insert (pv 9) (pa_cons (C8.pe_c (c_law_take T) hr (by decide) rfl (pa_cons (pv 2) (pa_cons (pe_op op_add (pv 10) pe_int) pa_nil))) (pa_cons (pv 10) pa_nil)))))) (pss_cons (ps_if (pt_not (pt_val (C8.pe_c (c_law_led_right T TB) hr (by decide) rfl (pa_cons (pv 6) (pa_cons (pv 9) (pa_cons (pv 7) pa_nil)))))) (pss_one (ps_ret pe_bl)) pss_nil) (pss_one (ps_if (pt_cmpR (op_neD (hu64 hr)) (pv 5) (pe_lst pa_nil) (nomark _)) (pss_cons (ps_set (i := 11) sc_law.nd rfl (by first | exact Or.inl rfl | exact Or.inr rfl) (C8.pe_c (c_law_take T) hr (by decide) rfl (pa_cons (pv 2) (pa_cons (pe_callB call_len_seq (by rfl) T.f_len PySem.boot_len (pa_cons (pv 5) pa_nil)) pa_nil)))) (pss_cons (ps_set (i := 12) sc_law.nd rfl (by first | exact Or.inl rfl | exact Or.inr rfl) (C8.pe_c (c_law_made T) hr (by decide) rfl (pa_cons (pv 3) (pa_cons (pe_op op_add pe_int (C8.pe_c (c_law_take T) hr (by decide) rfl (pa_cons (pv 2) (pa_cons (pe_ix ix_list (pe_lst (pa_cons pe_int (pa_cons (pe_op op_sub (pv 3) pe_int) pa_nil))) (pe_callTy call_int1 (by rfl) T.f_int (by decide +kernel) (pa_cons (pe_cmpR op_gt (pv 3) pe_int (nomark _)) pa_nil)) (fun _ _ => rfl)) pa_nil)))) (pa_cons pe_int pa_nil))))) (pss_cons (ps_setLc (i := 13) (own := [("_law_product_here", 14), ("_law_number_here", 15)]) (g := (gTup K 2 (gCons (gName 14) (gCons (gName 15) gNil)))) (tt := tYes) (te := (tTup (tCons (tVar 14) (tCons (tCall (S3 (k_law_times K)) [] C8.E0 (tCons (tVar 3) (tCons (tVar 15) (tCons (tVar 12) tNil)))) tNil)))) rfl sc_law.nd rfl rfl (sw_true rfl rfl rfl (by decide +kernel)) (pi_list (pe_ix ix_list (pv 5) (pv 11) (fun _ _ => rfl))) (blkOk_by (N := N_law) (sc := defScope s_law) (by decide +kernel)) (fun _ _ _ _ _ => (pg_tup rfl (pgs_cons (pg_name (i := 14) sc_law.nd rfl (by first | exact Or.inl rfl | exact Or.inr rfl)) (pgs_cons (pg_name (i := 15) sc_law.nd rfl (by first | exact Or.inl rfl | exact Or.inr rfl)) pgs_nil)))) (fun _ _ _ _ _ => pts_nil) (fun _ _ _ _ _ => (pe_tup (pa_cons (pv 14) (pa_cons (C8.pe_c (c_law_times T) hr (by decide) rfl (pa_cons (pv 3) (pa_cons (pv 15) (pa_cons (pv 12) pa_nil)))) pa_nil))))) (pss_cons (ps_if (pt_cmpR op_ne (C8.pe_c (c_law_least_of T TB) hr (by decide) rfl (pa_cons (C8.pe_c (c_law_system T TB) hr (by decide) rfl (pa_cons (pv 3) (pa_cons (pv 4) (pa_cons (pe_op op_cat (pe_op op_cat (pe_slice sl_list (pv 5) po_none (po_some (pv 11))) (pe_lst (pa_cons (pv 13) pa_nil))) (pe_slice sl_list (pv 5) (po_some (pe_op op_add (pv 11) pe_int)) po_none)) (pa_cons (pe_lst pa_nil) pa_nil))))) pa_nil)) (pv 7) (nomark _)) (pss_one (ps_ret pe_bl)) pss_nil) (pss_cons (ps_set (i := 16) sc_law.nd rfl (by first | exact Or.inl rfl | exact Or.inr rfl) (C8.pe_c (c_law_multiplied T) hr (by decide) rfl (pa_cons (pv 3) (pa_cons (pe_ix ix_list (pv 5) (pv 11) (fun _ _ => rfl)) (pa_cons (pe_lst (pa_cons (pe_tup (pa_cons (pe_tup (pa_cons (C8.pe_c (c_law_take T) hr (by decide) rfl (pa_cons (pv 2) (pa_cons (pv 4) pa_nil))) pa_nil)) (pa_cons (pe_tup (pa_cons pe_int (pa_cons pe_int pa_nil))) pa_nil))) pa_nil)) pa_nil))))) (pss_one (ps_if (pt_cmpR op_gt (C8.pe_c (c_law_least_of T TB) hr (by decide) rfl (pa_cons (C8.pe_c (c_law_system T TB) hr (by decide) rfl (pa_cons (pv 3) (pa_cons (pv 4) (pa_cons (pe_op op_cat (pv 5) (pe_lst (pa_cons (pv 16) pa_nil))) (pa_cons (pe_lst pa_nil) pa_nil))))) pa_nil)) (pv 7) (nomark _)) (pss_one (ps_ret pe_bl)) pss_nil))))))) pss_nil))))))))))))) (pss_one (ps_ret pe_bl))), ?_⟩
  obtain ⟨x, rfl, l, ns, rfl, hscr, hTb, hQ⟩ := h
  refine ⟨_, rfl, l, _, rfl, .inl hscr, _, _, rfl, _, _, rfl, ?_⟩
  obtain ⟨N, hN, hN2⟩ : ∃ N : Nat, (if (if (2 : Int) < ((ns.map V.int).length : Int) then 2 else ((ns.map V.int).length : Int)) > 1 then (if (2 : Int) < ((ns.map V.int).length : Int) then 2 else ((ns.map V.int).length : Int)) else 1) = (N : Int) ∧ N ≤ 2 := by
    generalize (ns.map V.int).length = L
    by_cases h1 : (2 : Int) < (L : Int)
    · rw [if_pos h1]; exact ⟨2, rfl, by decide⟩
    · rw [if_neg h1]
      by_cases h2 : (L : Int) > 1
      · rw [if_pos h2]; exact ⟨L, rfl, by omega⟩
      · rw [if_neg h2]; exact ⟨1, rfl, by decide⟩
  refine ⟨(N : Int), congrArg (fun z => [V.int z]) hN, by omega, by omega, ?_⟩
  refine for_range (lo := 0) (n := (N : Int).toNat) (fun i σ H' => XN H H' ∧ TabsK K H' ∧ ∃ o1 o2 o3 o4 o5 o6 o7 o8 o9 o10 o11 o12 o13 o14 o15 o16, σ = [some (.ref l), o1, o2, o3, o4, o5, o6, o7, o8, o9, o10, o11, o12, o13, o14, o15, o16]) ⟨fun _ _ z _ => z, hTb, _, _, _, _, _, _, _, _, _, _, _, _, _, _, _, _, rfl⟩ (fun i σ H1 hi z => ?_) fun σ H1 z => hQ H1 z.1
  obtain ⟨xn1, t1, o1, o2, o3, o4, o5, o6, o7, o8, o9, o10, o11, o12, o13, o14, o15, o16, rfl⟩ := z
  have hscr1 := sql_extN hscr xn1
  refine ⟨_, rfl, _, rfl, _, _, rfl, l, ns, i, rfl, congrArg V.int (by omega), hscr1, by omega, fun H2 q e2 hq0 hP => ?_⟩
  have hnq : NewIn H q := fun o e => by
    refine Classical.byContradiction fun nt => ?_
    have := xn1 q o e fun ps z => nt ⟨ps, z⟩
    rw [hq0] at this
    cases this
  refine ⟨_, rfl, _, _, rfl, q, rfl, rfl, hP, fd_ex, fun φ H3 t p lo cs x3 p3 ht hp1 hp hon hlen hpl => ⟨t, _, rfl, ht, rfl, _, _, rfl, _, _, rfl, _, _, rfl, rfl, ?_⟩⟩
  have hN0 : ∀ c ∈ cs, Nice φ p c := fun c hc => (hpl c hc).nice
  have xn3 : XN H H3 := XN.exq (xn1.trans (XN.ofX e2)) hnq x3
  have t3 : TabsK K H3 := (t1.x e2).exq hP x3
  refine ⟨_, rfl, _, rfl, _, rfl, by show 0 ≤ sizeLine; exact Nat.zero_le _, fun e he => ?_⟩
  have eE := Ext.upd (o := .lst []) he
  refine ⟨_, _, _, _, rfl, φ, p, cs, lo, e, rfl, rfl, rfl, rfl, upd_same, hon.xn (.ofX eE), hp1, hp, by omega, hN0, t3.x eE, fun H4 a x4 t4 s4 => ?_⟩
  have x34 := (XN.ofX eE).trans x4
  have L4 : LW K φ H H4 q lo a p cs := ⟨p3.xn x34, t4, hon.xn x34, s4, xn3.trans x34, hnq⟩
  obtain ⟨D, hD⟩ := lst_ex hp fun c hc => (hN0 c hc).wi
  have lok := lst_ok hp (by omega) hN0 hD
  refine ⟨_, rfl, _, rfl, φ, a, p, cs, D, rfl, L4.sys, hp, by omega, hN0, t4, lok, fun H5 x5 t5 => ?_⟩
  have L5 := L4.xn x5 t5
  refine ⟨_, rfl, _, rfl, _, _, rfl, φ, a, p, cs, D, rfl, rfl, L5.sys, hp, by omega, hN0, t5, lok, fun H6 x6 t6 => ⟨_, rfl, iteF ?_⟩⟩
  have L6 := L5.xn x6 t6
  refine ⟨_, rfl, _, rfl, _, rfl, _, _, _, _, _, rfl, φ, q, p, 4, 3, rfl, rfl, rfl, rfl, rfl, hp1, hp, by decide, by decide, L6.pool, fun H7 lm cm x7 p7 hl0 hR hw hsz => ?_⟩
  have L7 := L6.exq x7 p7
  -- with a wish more
  have hcm : Nice φ p cm := ⟨hw, fun j _ => (hsz j).mono (by decide)⟩
  have hNm : ∀ c ∈ cs ++ [cm], Nice φ p c := fun c hc => by
    rcases List.mem_append.mp hc with z | z
    · exact hN0 c z
    · rw [List.mem_singleton.mp z]; exact hcm
  obtain ⟨vs, hvs, hvp⟩ := id L7.ones
  have hvl : vs.length = cs.length := Paired.length hvp
  obtain ⟨Dm, hDm⟩ := lst_ex hp fun c hc => (hNm c hc).wi
  have lem := lst_le hp (fun c hc => (hNm c hc).wi) hD hDm fun c hc => List.mem_append_left _ hc
  refine ⟨_, rfl, _, rfl, _, rfl, _, rfl, by show 1 ≤ sizeLine; decide, fun b1 hb1 => ?_⟩
  have eb1 := Ext.upd (o := .lst [.ref lm]) hb1
  refine ⟨lo, b1, vs, [.ref lm], rfl, rfl, eb1 _ _ hvs, upd_same, Nat.le_of_lt (small1000 (by show vs.length + 1 ≤ 1000; omega)), fun b2 hb2 => ?_⟩
  have eb2 := Ext.upd (o := .lst (vs ++ [.ref lm])) hb2
  refine ⟨by show 0 ≤ sizeLine; exact Nat.zero_le _, fun b3 hb3 => ?_⟩
  have eb3 := Ext.upd (o := .lst []) hb3
  have eb := (eb1.trans eb2).trans eb3
  have onm : Ones K φ _ b2 (cs ++ [cm]) := ⟨_, eb3 _ _ upd_same, paired_append (Paired.mapP hvp fun _ _ r => r.xn (.ofX eb)) (.cons ⟨lm, rfl, hR.xn (.ofX eb)⟩ .nil)⟩
  refine ⟨_, _, _, _, rfl, φ, p, cs ++ [cm], b2, b3, rfl, rfl, rfl, rfl, upd_same, onm, hp1, hp, by rw [List.length_append]; show _ + 1 ≤ 10; omega, hNm, L7.tabs.x eb, fun H8 am x8 t8 s8 => ?_⟩
  refine ⟨_, rfl, φ, am, p, cs ++ [cm], Dm, rfl, s8, hp, by rw [List.length_append]; show _ + 1 ≤ 10; omega, hNm, t8, lst_ok hp (by rw [List.length_append]; show _ + 1 ≤ 10; omega) hNm hDm, fun H9 x9 t9 => ?_⟩
  have L9 := L7.xn (((XN.ofX eb).trans x8).trans x9) t9
  refine ⟨_, rfl, _, _, rfl, rfl, _, rfl, ?_⟩
  rw [decide_eq_false (show ¬ (leastM p cs D < leastM p (cs ++ [cm]) Dm) by omega)]
  refine iteF ?_
  -- an order
  refine ⟨by show 0 ≤ sizeLine; exact Nat.zero_le _, fun od hod => ?_⟩
  have hqd : q ≠ od := fun z => by
    obtain ⟨c, s, a, _⟩ := L9.pool
    rw [z, hod] at a
    cases a
  refine ⟨_, rfl, _, rfl, by omega, by omega, ?_⟩
  refine for_range (lo := 0) (n := (p : Int).toNat) (fun i' σ H' => ExB q H9 H' ∧ PoolAt H' q ∧ (∃ ms : List Int, H' od = some (.lst (ms.map V.int)) ∧ ms ∈ permsI i') ∧ ∃ o10, σ = [some (.ref l), some (.int (0 + (i : Int))), some (.ref q), some (.int φ.p), some (.int p), some (.ref lo), some (.ref a), some (.int (leastM p cs D)), some (.ref lm), some (.ref od), o10, o11, o12, o13, o14, o15, o16]) ⟨.ofX (Ext.upd hod), L9.pool.wr hqd, ⟨[], upd_same, List.mem_cons_self⟩, _, rfl⟩ (fun i' σ H10 hi' z => ?_) fun σ H10 z => ?_
  · obtain ⟨x10, p10, ⟨ms, hms, hmp⟩, o10', rfl⟩ := z
    have hi3 : i' < 3 := by omega
    refine ⟨_, rfl, .inl ⟨rfl, _, SqL.of hms⟩, ?_⟩
    refine ⟨_, rfl, _, rfl, _, _, rfl, rfl, _, _, rfl, q, _, rfl, rfl, p10, by omega, by omega, fun H11 r x11 p11 r0 r1 => ?_⟩
    have hms11 := x11 _ _ (Ne.symm hqd) hms
    obtain ⟨g1, g2⟩ := perms_ins i' hi3 ms hmp r.toNat (by omega)
    refine ⟨_, rfl, od, _, r, _, rfl, rfl, hms11, by rw [List.length_map]; exact small1000 (by omega), r0, by omega, ?_⟩
    refine ⟨(x10.trans x11).wrN hod, p11.wr hqd, ⟨ms.take r.toNat ++ [(i' : Int)] ++ ms.drop r.toNat, ?_, g2⟩, _, rfl⟩
    rw [upd_same, List.map_append, List.map_append, List.map_take, List.map_drop]
    have e0 : (0 : Int) + (i' : Int) = (i' : Int) := by omega
    rw [e0]
    rfl
  obtain ⟨x10, p10, ⟨ms, hms, hmp⟩, o10', rfl⟩ := z
  have L10 := L9.exq x10 p10
  have hmp' : ms ∈ permsOf p := by
    have e : (p : Int).toNat = p := Int.toNat_natCast p
    rw [e] at hmp
    match p, hp1, hmp with
    | n + 1, _, h => exact h
  refine ⟨_, rfl, _, rfl, _, rfl, _, _, _, rfl, φ, a, od, p, cs, D, ms, rfl, rfl, rfl, L10.sys, hms, hmp', hp1, hp, by omega, hN0, L10.tabs, lok, fun cs' r => ren_good hp hmp' (by omega) hN0 hD r, fun H12 x12 t12 => ⟨_, rfl, iteF ?_⟩⟩
  have L12 := L10.xn x12 t12
  -- are there wishes
  refine ⟨_, rfl, by show 0 ≤ sizeLine; exact Nat.zero_le _, fun b4 hb4 => ?_⟩
  have eb4 := Ext.upd (o := .lst []) hb4
  have L13 := L12.x eb4
  obtain ⟨ds, dd1, dd2, dd3⟩ := ones_data L13.ones
  refine ⟨.list ds, .list [], dd1, .lst (SqL.of upd_same) .nil, dd2, rfl, _, rfl, ?_⟩
  rw [eqv_emp, dd3]
  by_cases hcs : cs = []
  · rw [hcs]
    refine iteF ⟨L13.xn0, L13.tabs, _, _, _, _, _, _, _, _, _, _, _, _, _, _, _, _, rfl⟩
  · have hne : cs.isEmpty = false := by
      cases cs with
      | nil => exact absurd rfl hcs
      | cons _ _ => rfl
    have hpos : 0 < cs.length := by
      cases cs with
      | nil => exact absurd rfl hcs
      | cons _ _ => exact Nat.succ_pos _
    rw [hne]
    refine iteT ?_
    obtain ⟨vs', hvs', hvp'⟩ := id L13.ones
    have hvl' : vs'.length = cs.length := Paired.length hvp'
    refine ⟨_, rfl, _, rfl, lo, vs', rfl, .inl (SqL.of hvs'), _, _, rfl, q, _, rfl, rfl, L13.pool, by omega, by omega, fun H14 at' x14 p14 a0 a1 => ?_⟩
    have L14 := L13.exq x14 p14
    -- a number other than nought
    obtain ⟨mk, hm1, hm2, hm3, hm4, hm5⟩ : ∃ m : Int, atI [V.int 6, V.int (φ.p - 1)] (if decide (0 < φ.p) = true then 1 else 0) = some (.int m) ∧ 0 < m ∧ m < 2 ^ 40 ∧ (φ.p ≠ 0 → m = φ.p - 1) ∧ (φ.p = 0 → m = 6) := by
      by_cases z : φ.p = 0
      · rw [z]
        exact ⟨6, rfl, by decide, by decide, fun q => absurd rfl q, fun _ => rfl⟩
      · have hb := Fd.p_pos z
        rw [decide_eq_true (show 0 < φ.p by omega)]
        exact ⟨φ.p - 1, rfl, by omega, by omega, fun _ => rfl, fun q => absurd q z⟩
    refine ⟨_, rfl, _, rfl, _, rfl, _, _, rfl, rfl, by show 2 ≤ sizeLine; decide, fun b5 hb5 => ?_⟩
    have eb5 := Ext.upd (o := .lst [.int 6, .int (φ.p - 1)]) hb5
    have L15 := L14.x eb5
    refine ⟨_, rfl, _, _, rfl, rfl, .inr ⟨_, rfl, b5, _, _, _, rfl, rfl, SqL.of upd_same, hm1, ?_⟩⟩
    refine ⟨_, _, rfl, q, mk, rfl, rfl, L15.pool, hm2, hm3, fun H16 rb x16 p16 rb0 rb1 => ⟨_, _, rfl, rfl, ?_⟩⟩
    have L16 := L15.exq x16 p16
    have hgood : Good φ.p (1 + rb) := by
      unfold Good
      by_cases z : φ.p = 0
      · rw [if_pos z]; omega
      · rw [if_neg z]
        have := hm4 z
        rw [Int.emod_eq_of_lt (by omega) (by omega)]
        omega
    have hs0 : φ.ic (1 + rb) ≠ 0 := (φ.good _).mp hgood
    have hm6 : φ.p = 0 → 0 ≤ 1 + rb ∧ 1 + rb ≤ 6 := fun z => by
      have := hm5 z
      omega
    have emade : madeM φ.p (1 + rb) 1 = φ.enc (φ.ic (1 + rb)) := by
      rw [φ.made _ _ Fd.ic_one_ne, φ.ic_one]
      congr 1
      grind
    refine ⟨_, _, _, rfl, φ.p, 1 + rb, 1, rfl, rfl, rfl, φ.prime, (φ.good 1).mpr Fd.ic_one_ne, by decide, Nat.lt_of_lt_of_le (show (1 : Int).natAbs < 2 ^ 1 by decide) (Nat.pow_le_pow_right (by decide) (by decide)), Nat.lt_of_lt_of_le (show (1 + rb).natAbs < 2 ^ 41 by omega) (Nat.pow_le_pow_right (by decide) (by decide)), fun H17 by_ e17 hby0 hby => ?_⟩
    have L17 := L16.x e17
    rw [emade] at hby
    have hbyV : NumV K φ H17 (.ref by_) (φ.ic (1 + rb)) := ⟨by_, rfl, SqT.of hby⟩
    -- the rows of the wish
    obtain ⟨wvs, hwvs, hwvp⟩ := id L17.ones
    have hwvl : wvs.length = cs.length := Paired.length hwvp
    obtain ⟨j, rfl⟩ : ∃ j : Nat, at' = (j : Int) := ⟨at'.toNat, by omega⟩
    have hjl : j < wvs.length := by omega
    have hvj : wvs[j]? = some wvs[j] := List.getElem?_eq_getElem hjl
    obtain ⟨c, hc, ⟨la, hla, hrows⟩⟩ := paired_at hwvp hvj
    have hcm' := List.mem_of_getElem? hc
    obtain ⟨ts, xs, hxs, hpt, hnd, hnz, hcf⟩ := id hrows
    have h8 := mem_lt hpt
    obtain ⟨c1, c2⟩ := rows_iff hnd hnz h8 hcf
    have hts8 : ts.length ≤ 8 := by
      have := nodup8 hnd fun k hk => by
        obtain ⟨t, ht, rfl⟩ := List.mem_map.mp hk
        exact h8 t ht
      rwa [List.length_map] at this
    have hxl : xs.length = ts.length := Paired.length hpt
    have hsm : ∀ t ∈ ts, Small φ t.2 := fun t ht => by
      rw [← c1 t ht]
      exact (hN0 c hcm').sm (h8 t ht)
    have hix : ∀ {G : Hp}, XN H17 G → ∀ {QQ : VK}, QQ (.ref la) G → rIxL K (.ref lo) (.int (j : Int)) G QQ := fun x QQ h => ⟨lo, wvs, (j : Int), .ref la, rfl, rfl, SqL.of (x _ _ hwvs (fun _ z => by cases z)), atI_nat (hvj.trans (congrArg some hla)), h⟩
    refine ⟨_, rfl, _, rfl, hix (fun _ _ z _ => z) ⟨la, rfl, ⟨xs, SqL.of hxs⟩, fun D1 hD1 => ?_⟩⟩
    refine lc_list (K := K) (xs := xs) (fun i H' => Ext H17 H' ∧ ∃ acc, H' D1 = some (.lst acc) ∧ Paired (TermV K φ H') acc ((ts.take i).map fun t => (t.1, t.2 * φ.ic (1 + rb)))) ⟨Ext.upd hD1, [], upd_same, .nil⟩ (fun i H' _ z => SqL.of (z.1 _ _ hxs)) (fun i x H18 hx z => ?_) fun H18 z => ?_
    · obtain ⟨z1, acc, z2, z3⟩ := z
      obtain ⟨t, ht, ⟨ta, pv, nv, rfl, g1, g2, g3, g4⟩⟩ := paired_at hpt hx
      have htm := List.mem_of_getElem? ht
      have hi' : i < ts.length := (List.getElem?_eq_some_iff.mp ht).1
      have tk : ts.take (i + 1) = ts.take i ++ [t] := by rw [List.take_add_one, ht]; rfl
      refine ⟨ta, _, rfl, g1.ext z1, rfl, _, _, rfl, _, _, rfl, rfl, rfl, t_yes ?_⟩
      refine ⟨_, rfl, _, rfl, _, rfl, _, rfl, _, _, _, rfl, φ, t.2, φ.ic (1 + rb), rfl, g4.ext z1, hbyV.ext z1, hsm t htm, ic_small hm6, fun H19 v e19 hv => ?_⟩
      refine ⟨by show 2 ≤ sizeLine; decide, fun u hu => ?_⟩
      have eU := Ext.upd (o := .tup [pv, v]) hu
      have hacc := eU _ _ (e19 _ _ z2)
      have tp := Tups.upd (o := .lst (acc ++ [.ref u])) (lst_noTup hacc)
      have hal : acc.length = ((ts.take i).map fun t => (t.1, t.2 * φ.ic (1 + rb))).length := Paired.length z3
      rw [List.length_map, List.length_take] at hal
      refine ⟨acc, hacc, small1000 (by omega), ((z1.trans e19).trans eU).wr hD1, acc ++ [.ref u], upd_same, ?_⟩
      rw [tk, List.map_append]
      refine paired_append (paired_tp (paired_xn z3 (.ofX (e19.trans eU))) tp) (.cons ⟨u, pv, v, rfl, tp.sqt (SqT.of upd_same), g2, (g3.xn (.ofX ((z1.trans e19).trans eU))).tp tp, (hv.xn (.ofX eU)).tp tp⟩ .nil)
    obtain ⟨z1, acc, z2, z3⟩ := z
    rw [hxl, List.take_length] at z3
    have L18 := L17.x z1
    have hRs : RowsW K φ H18 D1 fun j => c j * φ.ic (1 + rb) := by
      refine ⟨_, acc, z2, z3, ?_, fun t ht => ?_, fun k hk => ?_⟩
      · rw [List.map_map]
        exact hnd
      · obtain ⟨u, hu, rfl⟩ := List.mem_map.mp ht
        have := hnz u hu
        show u.2 * φ.ic (1 + rb) ≠ 0
        grind
      · rw [coef_scale, hcf k hk]
    have hNs : Nice φ p fun j => c j * φ.ic (1 + rb) := plant_scale (hpl c hcm') hm6
    -- the system with the multiple
    have hsp := split_at hc
    have hlen1 : (cs.take j ++ [fun k => c k * φ.ic (1 + rb)] ++ cs.drop (j + 1)).length = cs.length := by
      rw [List.length_append, List.length_append, List.length_take, List.length_drop]
      show min j cs.length + 1 + _ = _
      omega
    have hNsc : ∀ u ∈ cs.take j ++ [fun k => c k * φ.ic (1 + rb)] ++ cs.drop (j + 1), Nice φ p u := fun u hu => by
      rcases List.mem_append.mp hu with z | z
      · rcases List.mem_append.mp z with z | z
        · exact hN0 u (List.mem_of_mem_take z)
        · rw [List.mem_singleton.mp z]
          exact hNs
      · exact hN0 u (List.mem_of_mem_drop z)
    obtain ⟨Ds, hDs⟩ := lst_ex hp fun c hc => (hNsc c hc).wi
    have hsc : ScOf c fun k => c k * φ.ic (1 + rb) := ⟨φ.ic (1 + rb), hs0, fun k _ => by grind⟩
    have les : leastM p (cs.take j ++ [fun k => c k * φ.ic (1 + rb)] ++ cs.drop (j + 1)) Ds = leastM p cs D := by
      refine scl_least hD hDs (fun u hu => ?_) fun u hu => ?_
      · rw [hsp] at hu
        rcases List.mem_append.mp hu with z | z
        · exact ⟨u, List.mem_append_left _ (List.mem_append_left _ z), .refl u⟩
        · rcases List.mem_cons.mp z with z | z
          · rw [z]
            exact ⟨_, List.mem_append_left _ (List.mem_append_right _ List.mem_cons_self), hsc⟩
          · exact ⟨u, List.mem_append_right _ z, .refl u⟩
      · rcases List.mem_append.mp hu with z | z
        · rcases List.mem_append.mp z with z | z
          · exact ⟨u, List.mem_of_mem_take z, .refl u⟩
          · rw [List.mem_singleton.mp z]
            exact ⟨c, hcm', hsc⟩
        · exact ⟨u, List.mem_of_mem_drop z, .refl u⟩
    have hones18 : ∀ {G : Hp}, XN H17 G → G lo = some (.lst wvs) ∧ Paired (RowsV K φ G) wvs cs := fun x => ⟨x _ _ hwvs (fun _ z => by cases z), Paired.mapP hwvp fun _ _ r => r.xn x⟩
    have x18 : XN H17 H18 := .of z1
    have hcut1 : cutV wvs none (some (j : Int)) = wvs.take j := cut_take wvs j (by omega)
    have hcut2 : cutV wvs (some ((j : Int) + 1)) none = wvs.drop (j + 1) := by
      have e : (j : Int) + 1 = ((j + 1 : Nat) : Int) := by omega
      rw [e]
      exact cut_drop wvs (j + 1) (by omega)
    refine ⟨_, rfl, _, rfl, _, rfl, _, rfl, _, rfl, lo, wvs, rfl, SqL.of (hones18 x18).1, fun d1 hd1 => ?_⟩
    rw [hcut1]
    have f1 := Ext.upd (o := .lst (wvs.take j)) hd1
    refine ⟨_, rfl, by show 1 ≤ sizeLine; decide, fun d2 hd2 => ?_⟩
    have f2 := Ext.upd (o := .lst [.ref D1]) hd2
    have hlt : (wvs.take j).length ≤ 4 := by
      rw [List.length_take]
      omega
    refine ⟨d1, d2, _, _, rfl, rfl, f2 _ _ upd_same, upd_same, Nat.le_of_lt (small1000 (by show (wvs.take j).length + 1 ≤ 1000; omega)), fun d3 hd3 => ?_⟩
    have f3 := Ext.upd (o := .lst (wvs.take j ++ [.ref D1])) hd3
    have f13 := (f1.trans f2).trans f3
    refine ⟨_, rfl, _, rfl, _, _, rfl, rfl, _, rfl, lo, wvs, rfl, SqL.of (f13 _ _ (hones18 x18).1), fun d4 hd4 => ?_⟩
    rw [hcut2]
    have f4 := Ext.upd (o := .lst (wvs.drop (j + 1))) hd4
    have hld : (wvs.drop (j + 1)).length ≤ 4 := by
      rw [List.length_drop]
      omega
    refine ⟨d3, d4, _, _, rfl, rfl, f4 _ _ upd_same, upd_same, Nat.le_of_lt (small1000 (by rw [List.length_append]; show (wvs.take j).length + 1 + _ ≤ 1000; omega)), fun d5 hd5 => ?_⟩
    have f5 := Ext.upd (o := .lst (wvs.take j ++ [.ref D1] ++ wvs.drop (j + 1))) hd5
    refine ⟨by show 0 ≤ sizeLine; exact Nat.zero_le _, fun d6 hd6 => ?_⟩
    have f6 := Ext.upd (o := .lst []) hd6
    have f16 := ((f13.trans f4).trans f5).trans f6
    have hpw := (hones18 (x18.trans (XN.ofX f16))).2
    have ons : Ones K φ _ d5 (cs.take j ++ [fun k => c k * φ.ic (1 + rb)] ++ cs.drop (j + 1)) := ⟨_, f6 _ _ upd_same, paired_append (paired_append (paired_take j hpw) (.cons ⟨D1, rfl, hRs.xn (.ofX f16)⟩ .nil)) (paired_drop (j + 1) hpw)⟩
    refine ⟨_, _, _, _, rfl, φ, p, _, d5, d6, rfl, rfl, rfl, rfl, upd_same, ons, hp1, hp, by omega, hNsc, L18.tabs.x f16, fun H20 asys x20 t20 s20 => ?_⟩
    refine ⟨_, rfl, φ, asys, p, _, Ds, rfl, s20, hp, by omega, hNsc, t20, lst_ok hp (by omega) hNsc hDs, fun H21 x21 t21 => ?_⟩
    have L21 := L18.xn (((XN.ofX f16).trans x20).trans x21) t21
    have x1721 : XN H17 H21 := x18.trans (((XN.ofX f16).trans x20).trans x21)
    refine ⟨_, rfl, rfl, _, rfl, ?_⟩
    rw [les, decide_eq_true rfl]
    refine iteF ?_
    -- the wish times a place
    refine ⟨_, rfl, _, rfl, _, rfl, hix x1721 ⟨_, rfl, _, rfl, _, _, rfl, q, p, rfl, rfl, L21.pool, by omega, by omega, fun H22 rp x22 p22 rp0 rp1 => ?_⟩⟩
    have L22 := L21.exq x22 p22
    have hR21 : RowsW K φ H21 la c := hrows.xn x1721
    have hR22 : RowsW K φ H22 la c := hR21.exq L21.pool x22
    obtain ⟨rk, rfl⟩ : ∃ rk : Nat, rp = (rk : Int) := ⟨rp.toNat, by omega⟩
    obtain ⟨g8, gin, gpr⟩ := place_rank p hp rk (by omega)
    refine ⟨by show 1 ≤ sizeLine; decide, fun t1 ht1 => ?_⟩
    have k1 := Ext.upd (o := .tup [.int (rk : Int)]) ht1
    refine ⟨by show 2 ≤ sizeLine; decide, fun t2 ht2 => ?_⟩
    have k2 := Ext.upd (o := .tup [.int 1, .int 1]) ht2
    refine ⟨by show 2 ≤ sizeLine; decide, fun t3 ht3 => ?_⟩
    have k3 := Ext.upd (o := .tup [.ref t1, .ref t2]) ht3
    refine ⟨by show 1 ≤ sizeLine; decide, fun t4 ht4 => ?_⟩
    have k4 := Ext.upd (o := .lst [.ref t3]) ht4
    have k14 := ((k1.trans k2).trans k3).trans k4
    obtain ⟨ts', xs', hxs', hpt', hnd', hnz', hcf'⟩ := hR22.xn (XN.ofX k14)
    have h8' := mem_lt hpt'
    obtain ⟨c1', c2'⟩ := rows_iff hnd' hnz' h8' hcf'
    have hts8' : ts'.length ≤ 8 := by
      have := nodup8 hnd' fun k hk => by
        obtain ⟨t, ht, rfl⟩ := List.mem_map.mp hk
        exact h8' t ht
      rwa [List.length_map] at this
    have hszt : ∀ t ∈ ts', Sz φ (2 ^ 53) t.2 := fun t ht => by
      rw [← c1' t ht]
      exact ((hpl c hcm').sz _ (h8' t ht)).mono (by decide)
    have hus : TermsW K φ _ t4 [(rk + 1, (1 : φ.car))] := ⟨[.ref t3], upd_same, .cons ⟨t3, .ref t1, .ref t2, rfl, (SqT.of upd_same).ext k4, g8, ⟨t1, rfl, by
      rw [gpr]
      exact (SqT.of upd_same).ext ((k2.trans k3).trans k4)⟩, ⟨t2, rfl, by
      rw [Fd.enc_one]
      exact (SqT.of upd_same).ext (k3.trans k4)⟩⟩ .nil⟩
    have L23 := L22.x k14
    have esum : ∀ k, coef (prodTs ts' [(rk + 1, (1 : φ.car))]) k = mulC (rk + 1) c k := fun k => by
      rw [one_mul_ts]
      exact mul_rows hnd' hnz' h8' c1' c2' (rk + 1) k
    have efun : coef (prodTs ts' [(rk + 1, (1 : φ.car))]) = mulC (rk + 1) c := funext esum
    refine ⟨_, _, _, rfl, φ, ts', [(rk + 1, 1)], la, t4, rfl, rfl, rfl, ⟨xs', hxs', hpt'⟩, hus, by omega, by show 1 ≤ 10; decide, fun t ht => sz_small ((hszt t ht).mono (by decide)), fun t ht => by
      rw [List.mem_singleton.mp ht]
      have := ic_small (φ := φ) (m := 1) fun _ => ⟨by decide, by decide⟩
      rw [φ.ic_one] at this
      exact this, gat_one hts8' hszt, fun H24 lw e24 hlw hRw => ?_⟩
    rw [efun] at hRw
    have L24 := L23.x e24
    have hNw : Nice φ p (mulC (rk + 1) c) := plant_mul hp g8 gin (hpl c hcm')
    have hNx : ∀ u ∈ cs ++ [mulC (rk + 1) c], Nice φ p u := fun u hu => by
      rcases List.mem_append.mp hu with z | z
      · exact hN0 u z
      · rw [List.mem_singleton.mp z]; exact hNw
    obtain ⟨Dw, hDw⟩ := lst_ex hp fun c hc => (hNx c hc).wi
    have lew := lst_le hp (fun c hc => (hNx c hc).wi) hD hDw fun c hc => List.mem_append_left _ hc
    obtain ⟨uvs, huvs, huvp⟩ := id L24.ones
    have huvl : uvs.length = cs.length := Paired.length huvp
    have hlx : (cs ++ [mulC (rk + 1) c]).length ≤ 10 := by
      rw [List.length_append]
      show cs.length + 1 ≤ 10
      omega
    refine ⟨_, rfl, _, rfl, _, rfl, _, rfl, by show 1 ≤ sizeLine; decide, fun m1 hm1' => ?_⟩
    have q1 := Ext.upd (o := .lst [.ref lw]) hm1'
    refine ⟨lo, m1, uvs, [.ref lw], rfl, rfl, q1 _ _ huvs, upd_same, Nat.le_of_lt (small1000 (by show uvs.length + 1 ≤ 1000; omega)), fun m2 hm2' => ?_⟩
    have q2 := Ext.upd (o := .lst (uvs ++ [.ref lw])) hm2'
    refine ⟨by show 0 ≤ sizeLine; exact Nat.zero_le _, fun m3 hm3' => ?_⟩
    have q3 := Ext.upd (o := .lst []) hm3'
    have q13 := (q1.trans q2).trans q3
    have onw : Ones K φ _ m2 (cs ++ [mulC (rk + 1) c]) := ⟨_, q3 _ _ upd_same, paired_append (Paired.mapP huvp fun _ _ r => r.xn (.ofX q13)) (.cons ⟨lw, rfl, hRw.xn (.ofX q13)⟩ .nil)⟩
    refine ⟨_, _, _, _, rfl, φ, p, _, m2, m3, rfl, rfl, rfl, rfl, upd_same, onw, hp1, hp, hlx, hNx, L24.tabs.x q13, fun H25 aw x25 t25 s25 => ?_⟩
    refine ⟨_, rfl, φ, aw, p, _, Dw, rfl, s25, hp, hlx, hNx, t25, lst_ok hp hlx hNx hDw, fun H26 x26 t26 => ?_⟩
    have L26 := L24.xn (((XN.ofX q13).trans x25).trans x26) t26
    refine ⟨_, rfl, _, _, rfl, rfl, _, rfl, ?_⟩
    rw [decide_eq_false (show ¬ (leastM p cs D < leastM p (cs ++ [mulC (rk + 1) c]) Dw) by omega)]
    exact iteF ⟨L26.xn0, L26.tabs, _, _, _, _, _, _, _, _, _, _, _, _, _, _, _, _, rfl⟩
theorem c_law (T : Tx K mg) (TB : LamX.TabB base mg (He.cT K ("gathered", none)).1 (He.cT K ("gathered", none)).2) : C8.Cal P w K mg base 12 "law" (S1 (k_law K)) [] := cal_of T.F_law T.m_law sc_law (fun _ _ _ _ _ _ us hl => match us, hl with | [_], _ => rfl) len1 (b_law T TB)
end
end FS
set_option Elab.async false
set_option linter.all false
set_option maxRecDepth 100000
set_option maxHeartbeats 0
namespace FS
open PySem PySem.Spec PyProof.Rows L2
abbrev LAW : PySem.W.OpenLaw := PySem.Challenge.rw_falsesums_k39_whole_least_degrees_beside
theorem law_at (w : World) (mg : PySem.Str → Option Value) (fa' : Addr) (h : Heap) (Y : hk.says w h) (G : h.Ns mainGlobals mg) (hmg : mg "law" = some (.ref fa')) :
    ∃ K : PySem.W.Frag, K.In h ∧ LamX.LawAtS LAW w K C8.CX0 12 63 "_law_script" mg fa' h := by
  obtain ⟨K, KX, c⟩ := Y
  have T : Tx K mg := ⟨c.t.d, c.more, h, KX, G⟩
  obtain ⟨fd, F⟩ := T.F_law
  have e := hmg.symm.trans T.m_law
  cases e
  have mem : (("gathered", none) : He.Defn) ∈ tf := List.mem_cons_self
  refine ⟨K, KX, fd, [((He.cT K ("gathered", none)).1, (He.cT K ("gathered", none)).2)], S1 (k_law K), fun p hp => ?_, fun p hp => ?_, fun p hp => ?_, ?_, fun H a ns hl hb hT hS => ?_, fun base hK hG hTB => ?_⟩
  · rw [List.mem_singleton.mp hp]
    exact c.empty _ mem
  · rw [List.mem_singleton.mp hp]
    exact c.out _ mem
  · rw [List.mem_singleton.mp hp]
    exact PySem.W.codeHd_of_K KX (c.hd _ mem)
  · have b := FunD.bindsA (ps := ["_law_script"]) F fun _ _ _ _ _ _ us hl => match us, hl with | [_], _ => rfl
    exact fun s v => b s [v] rfl
  · refine ⟨_, rfl, a, ns, rfl, hS, fun p hp => ?_, fun _ _ => rfl⟩
    rw [List.mem_singleton.mp hp]
    exact LamX.TabS.nil (hT _ List.mem_cons_self)
  · exact ok_of F sc_law len1 (b_law T (hTB _ List.mem_cons_self))
end FS
set_option Elab.async false
set_option linter.all false
set_option maxRecDepth 100000
set_option maxHeartbeats 0
open PySem PySem.W PySem.Calls PyProof.Rows
theorem PySem.Challenge.cw_falsesums_k39_whole_least_degrees_beside_holds : PySem.Challenge.rw_falsesums_k39_whole_least_degrees_beside.Holds := by
  w_on; o_law
  refine HandSHeadRun.head_any (r := OpenLaw.row PySem.Challenge.rw_falsesums_k39_whole_least_degrees_beside) (q := view (OpenLaw.row PySem.Challenge.rw_falsesums_k39_whole_least_degrees_beside).prog [87]) (H := FS.hk) (ob := FS.ob) (M := 12000) (loose := FS.loose) (d := HandSHeadRun.topDef (OpenLaw.row PySem.Challenge.rw_falsesums_k39_whole_least_degrees_beside).prog 87) (kwd := []) FS.ob_eq
    (by kernel_rfl) (fun s => by kernel_rfl) FS.run (by kernel_rfl) (by kernel_rfl) (by kernel_rfl) (by rfl) (by first | assumption | decide +kernel) (by decide +kernel) ⟨rfl, rfl, rfl, rfl, rfl, by decide +kernel⟩ ?hw ?hc
  case hw => w_witness2
  case hc =>
    refine LamX.walk_ofTsE (l := PySem.Challenge.rw_falsesums_k39_whole_least_degrees_beside) (n := 63) (k := 12) (x := "_law_script") (CX := fun _ => C8.CX0) rfl (by decide) (by kernel_rfl) ⟨rfl, by decide, by decide⟩ ?F (fun _ _ _ _ _ z => z)
    intro w mg fa h Y G hmg0
    have hmg : mg ("law" : PySem.Str) = some (.ref fa) := by
      have e : (HandSHeadRun.topDef (OpenLaw.row PySem.Challenge.rw_falsesums_k39_whole_least_degrees_beside).prog 87).name = ("law" : PySem.Str) := by kernel_rfl
      rw [← e]
      exact hmg0
    exact FS.law_at w mg fa h Y G hmg
