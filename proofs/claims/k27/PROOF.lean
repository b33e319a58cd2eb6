import PyProof.Rows.All
import Wide.All
import OpenK.AllK
import Wide.FinOn
import HandS.ForMost
import HandS.Codes
import HandS.Defaults
import HandS.Wide
import HandS.Flow
import HandS.TupAny
import HandS.TupLe
import HandS.Exc
import HandS.IsInst
import HandS.Conv
import HandS.DictTup
import HandS.TupLen
import HandS.Style
import HandS.Strs
import HandS.SetFor
import HandS.Zip
import HandS.Lambda
import HandS.HeadHook1
import HandS.HeadHook2
import PySem.Challenge.RW_falsesums_k27_whole_never_both
import HandS.Head2
import HandS.HeadEnd
import HandS.HeadHook4
import HandS.HeadWalk
import HandS.NestedK
import HandS.SortKw
import KE.KDictWalk
import HandS.Walk
import KE.SortKeyHeap
import HandS.EndTab
import KE.GoesEnumKw
import KE.KEqDict
import KE.KDictPairs
import HandS.HeadHook3
import HandS.Steps
import HandS.NoneIn
set_option Elab.async false
set_option linter.all false
set_option maxRecDepth 100000
set_option maxHeartbeats 1000000
namespace Fs
open PySem PySem.Spec PyProof.Rows L2
/-- what isinstance, == and len ask of a class of the text -/
structure ClsI (K : PySem.W.Frag) (C : Addr) : Prop where
  ca : PySem.W.findIn K (.ref C) "__class__" = some (some (.builtin "object.__class__"))
  cn : PySem.W.specialIn K (.builtin "object.__class__") "__get__" = some (some (.builtin "getset_descriptor.__get__"))
  ct : PySem.W.takesIn K (.builtin "object.__class__") = some true
  cm : PySem.W.mroIn K C (.type "object") = some true
  ne : PySem.W.findIn K (.ref C) "__ne__" = some (some (.builtin "object.__ne__"))
end Fs
namespace Fs
open PySem PySem.Spec PyProof.Rows L2
def topS (i : Nat) : Stmt := PySem.Challenge.pw_falsesums_k27_whole_never_both.main.body.getD i (.Pass ⟨0, 0, 0, 0⟩)
abbrev s_is_whole : Stmt := topS 16
abbrev s_is_prime : Stmt := topS 17
abbrev s_lowest : Stmt := topS 18
abbrev s_Field_mk : Stmt := inClass (topS 19) 0
abbrev s_Field_eq : Stmt := inClass (topS 19) 1
abbrev s_Field_prime : Stmt := inClass (topS 19) 3
abbrev s_Field_made : Stmt := inClass (topS 19) 4
abbrev s_Field_plus : Stmt := inClass (topS 19) 5
abbrev s_Field_times : Stmt := inClass (topS 19) 7
abbrev s_Field_is_number : Stmt := inClass (topS 19) 9
abbrev s_is_place : Stmt := topS 22
abbrev s_is_product : Stmt := topS 23
abbrev s_joined_product : Stmt := topS 24
abbrev s_look_at_terms : Stmt := topS 29
abbrev s_gathered : Stmt := topS 30
abbrev s_Sum_mk : Stmt := inClass (topS 31) 0
abbrev s_Sum_eq : Stmt := inClass (topS 31) 1
abbrev s_Sum_len : Stmt := inClass (topS 31) 2
abbrev s_Sum_field : Stmt := inClass (topS 31) 5
abbrev s_Sum_terms : Stmt := inClass (topS 31) 6
abbrev s_Sum_degree : Stmt := inClass (topS 31) 7
abbrev s_Sum_reach : Stmt := inClass (topS 31) 8
abbrev s_Sum_look_alike : Stmt := inClass (topS 31) 9
abbrev s_Sum_plus : Stmt := inClass (topS 31) 10
abbrev s_Sum_times : Stmt := inClass (topS 31) 11
abbrev s_Sum_renamed : Stmt := inClass (topS 31) 13
abbrev s_Sum_worth : Stmt := inClass (topS 31) 15
abbrev s_is_wish : Stmt := topS 34
abbrev s_look_at_wishes : Stmt := topS 35
abbrev s_is_order : Stmt := topS 36
abbrev s_System_mk : Stmt := inClass (topS 37) 0
abbrev s_System_field : Stmt := inClass (topS 37) 3
abbrev s_System_places : Stmt := inClass (topS 37) 4
abbrev s_System_noughts : Stmt := inClass (topS 37) 5
abbrev s_System_uppers : Stmt := inClass (topS 37) 6
abbrev s_System_renamed : Stmt := inClass (topS 37) 8
abbrev s_is_row : Stmt := topS 39
abbrev s_grants : Stmt := topS 40
abbrev s_is_filling : Stmt := topS 41
abbrev s_look_at_degree : Stmt := topS 45
abbrev s_products_many : Stmt := topS 46
abbrev s_products_of : Stmt := topS 47
abbrev s_comes_to_one : Stmt := topS 48
abbrev s_are_multipliers : Stmt := topS 49
abbrev s_lets_showing : Stmt := topS 50
abbrev s_are_numbers : Stmt := topS 51
abbrev s_worth_beside : Stmt := topS 52
abbrev s_lets_worths : Stmt := topS 53
abbrev s_cut : Stmt := topS 54
abbrev s_worths_of : Stmt := topS 55
abbrev s_l_room : Stmt := topS 57
abbrev s_l_take : Stmt := topS 58
abbrev s_l_lowest : Stmt := topS 59
abbrev s_l_make : Stmt := topS 60
abbrev s_l_plus : Stmt := topS 61
abbrev s_l_times : Stmt := topS 62
abbrev s_l_prime : Stmt := topS 63
abbrev s_l_number : Stmt := topS 64
abbrev s_l_product : Stmt := topS 65
abbrev s_l_terms : Stmt := topS 66
abbrev s_l_gather : Stmt := topS 67
abbrev s_l_worth : Stmt := topS 68
abbrev s_l_filling : Stmt := topS 69
abbrev s_l_wish : Stmt := topS 70
abbrev s_l_mult : Stmt := topS 71
abbrev s_l_all : Stmt := topS 72
abbrev s_l_products : Stmt := topS 73
abbrev s_l_degree : Stmt := topS 74
abbrev s_l_shown_by : Stmt := topS 75
abbrev s_l_row_worths : Stmt := topS 76
abbrev s_l_mixture : Stmt := topS 77
abbrev s_l_no_worths : Stmt := topS 78
abbrev s_l_called : Stmt := topS 79
abbrev s_l_filled_right : Stmt := topS 80
abbrev s_law : Stmt := topS 81
def d_is_whole : He.DefD := ⟨("is_whole", none), "is_whole", "is_whole", defArgs s_is_whole, defBody s_is_whole, defScope s_is_whole, [], []⟩
def d_is_prime : He.DefD := ⟨("is_prime", none), "is_prime", "is_prime", defArgs s_is_prime, defBody s_is_prime, defScope s_is_prime, [], []⟩
def d_lowest : He.DefD := ⟨("lowest", none), "lowest", "lowest", defArgs s_lowest, defBody s_lowest, defScope s_lowest, [], []⟩
def d_Field_mk : He.DefD := ⟨("Field", some "__init__"), "__init__", "Field.__init__", defArgs s_Field_mk, defBody s_Field_mk, defScope s_Field_mk, [.int 0], []⟩
def d_Field_eq : He.DefD := ⟨("Field", some "__eq__"), "__eq__", "Field.__eq__", defArgs s_Field_eq, defBody s_Field_eq, defScope s_Field_eq, [], []⟩
def d_Field_prime : He.DefD := ⟨("Field", some "prime"), "prime", "Field.prime", defArgs s_Field_prime, defBody s_Field_prime, defScope s_Field_prime, [], []⟩
def d_Field_made : He.DefD := ⟨("Field", some "made"), "made", "Field.made", defArgs s_Field_made, defBody s_Field_made, defScope s_Field_made, [.int 1], []⟩
def d_Field_plus : He.DefD := ⟨("Field", some "plus"), "plus", "Field.plus", defArgs s_Field_plus, defBody s_Field_plus, defScope s_Field_plus, [], []⟩
def d_Field_times : He.DefD := ⟨("Field", some "times"), "times", "Field.times", defArgs s_Field_times, defBody s_Field_times, defScope s_Field_times, [], []⟩
def d_Field_is_number : He.DefD := ⟨("Field", some "is_number"), "is_number", "Field.is_number", defArgs s_Field_is_number, defBody s_Field_is_number, defScope s_Field_is_number, [], []⟩
def d_is_place : He.DefD := ⟨("is_place", none), "is_place", "is_place", defArgs s_is_place, defBody s_is_place, defScope s_is_place, [], []⟩
def d_is_product : He.DefD := ⟨("is_product", none), "is_product", "is_product", defArgs s_is_product, defBody s_is_product, defScope s_is_product, [], []⟩
def d_joined_product : He.DefD := ⟨("joined_product", none), "joined_product", "joined_product", defArgs s_joined_product, defBody s_joined_product, defScope s_joined_product, [], []⟩
def d_look_at_terms : He.DefD := ⟨("look_at_terms", none), "look_at_terms", "look_at_terms", defArgs s_look_at_terms, defBody s_look_at_terms, defScope s_look_at_terms, [], []⟩
def d_gathered : He.DefD := ⟨("gathered", none), "gathered", "gathered", defArgs s_gathered, defBody s_gathered, defScope s_gathered, [], []⟩
def d_Sum_mk : He.DefD := ⟨("Sum", some "__init__"), "__init__", "Sum.__init__", defArgs s_Sum_mk, defBody s_Sum_mk, defScope s_Sum_mk, [.non], []⟩
def d_Sum_eq : He.DefD := ⟨("Sum", some "__eq__"), "__eq__", "Sum.__eq__", defArgs s_Sum_eq, defBody s_Sum_eq, defScope s_Sum_eq, [], []⟩
def d_Sum_len : He.DefD := ⟨("Sum", some "__len__"), "__len__", "Sum.__len__", defArgs s_Sum_len, defBody s_Sum_len, defScope s_Sum_len, [], []⟩
def d_Sum_field : He.DefD := ⟨("Sum", some "field"), "field", "Sum.field", defArgs s_Sum_field, defBody s_Sum_field, defScope s_Sum_field, [], []⟩
def d_Sum_terms : He.DefD := ⟨("Sum", some "terms"), "terms", "Sum.terms", defArgs s_Sum_terms, defBody s_Sum_terms, defScope s_Sum_terms, [], []⟩
def d_Sum_degree : He.DefD := ⟨("Sum", some "degree"), "degree", "Sum.degree", defArgs s_Sum_degree, defBody s_Sum_degree, defScope s_Sum_degree, [], []⟩
def d_Sum_reach : He.DefD := ⟨("Sum", some "reach"), "reach", "Sum.reach", defArgs s_Sum_reach, defBody s_Sum_reach, defScope s_Sum_reach, [], []⟩
def d_Sum_look_alike : He.DefD := ⟨("Sum", some "look_alike"), "look_alike", "Sum.look_alike", defArgs s_Sum_look_alike, defBody s_Sum_look_alike, defScope s_Sum_look_alike, [], []⟩
def d_Sum_plus : He.DefD := ⟨("Sum", some "plus"), "plus", "Sum.plus", defArgs s_Sum_plus, defBody s_Sum_plus, defScope s_Sum_plus, [], []⟩
def d_Sum_times : He.DefD := ⟨("Sum", some "times"), "times", "Sum.times", defArgs s_Sum_times, defBody s_Sum_times, defScope s_Sum_times, [], []⟩
def d_Sum_renamed : He.DefD := ⟨("Sum", some "renamed"), "renamed", "Sum.renamed", defArgs s_Sum_renamed, defBody s_Sum_renamed, defScope s_Sum_renamed, [], []⟩
def d_Sum_worth : He.DefD := ⟨("Sum", some "worth"), "worth", "Sum.worth", defArgs s_Sum_worth, defBody s_Sum_worth, defScope s_Sum_worth, [], []⟩
def d_is_wish : He.DefD := ⟨("is_wish", none), "is_wish", "is_wish", defArgs s_is_wish, defBody s_is_wish, defScope s_is_wish, [], []⟩
def d_look_at_wishes : He.DefD := ⟨("look_at_wishes", none), "look_at_wishes", "look_at_wishes", defArgs s_look_at_wishes, defBody s_look_at_wishes, defScope s_look_at_wishes, [], []⟩
def d_is_order : He.DefD := ⟨("is_order", none), "is_order", "is_order", defArgs s_is_order, defBody s_is_order, defScope s_is_order, [], []⟩
def d_System_mk : He.DefD := ⟨("System", some "__init__"), "__init__", "System.__init__", defArgs s_System_mk, defBody s_System_mk, defScope s_System_mk, [.non], []⟩
def d_System_field : He.DefD := ⟨("System", some "field"), "field", "System.field", defArgs s_System_field, defBody s_System_field, defScope s_System_field, [], []⟩
def d_System_places : He.DefD := ⟨("System", some "places"), "places", "System.places", defArgs s_System_places, defBody s_System_places, defScope s_System_places, [], []⟩
def d_System_noughts : He.DefD := ⟨("System", some "noughts"), "noughts", "System.noughts", defArgs s_System_noughts, defBody s_System_noughts, defScope s_System_noughts, [], []⟩
def d_System_uppers : He.DefD := ⟨("System", some "uppers"), "uppers", "System.uppers", defArgs s_System_uppers, defBody s_System_uppers, defScope s_System_uppers, [], []⟩
def d_System_renamed : He.DefD := ⟨("System", some "renamed"), "renamed", "System.renamed", defArgs s_System_renamed, defBody s_System_renamed, defScope s_System_renamed, [], []⟩
def d_is_row : He.DefD := ⟨("is_row", none), "is_row", "is_row", defArgs s_is_row, defBody s_is_row, defScope s_is_row, [], []⟩
def d_grants : He.DefD := ⟨("grants", none), "grants", "grants", defArgs s_grants, defBody s_grants, defScope s_grants, [], []⟩
def d_is_filling : He.DefD := ⟨("is_filling", none), "is_filling", "is_filling", defArgs s_is_filling, defBody s_is_filling, defScope s_is_filling, [.bl false], []⟩
def d_look_at_degree : He.DefD := ⟨("look_at_degree", none), "look_at_degree", "look_at_degree", defArgs s_look_at_degree, defBody s_look_at_degree, defScope s_look_at_degree, [], []⟩
def d_products_many : He.DefD := ⟨("products_many", none), "products_many", "products_many", defArgs s_products_many, defBody s_products_many, defScope s_products_many, [], []⟩
def d_products_of : He.DefD := ⟨("products_of", none), "products_of", "products_of", defArgs s_products_of, defBody s_products_of, defScope s_products_of, [], []⟩
def d_comes_to_one : He.DefD := ⟨("comes_to_one", none), "comes_to_one", "comes_to_one", defArgs s_comes_to_one, defBody s_comes_to_one, defScope s_comes_to_one, [], []⟩
def d_are_multipliers : He.DefD := ⟨("are_multipliers", none), "are_multipliers", "are_multipliers", defArgs s_are_multipliers, defBody s_are_multipliers, defScope s_are_multipliers, [], []⟩
def d_lets_showing : He.DefD := ⟨("lets_showing", none), "lets_showing", "lets_showing", defArgs s_lets_showing, defBody s_lets_showing, defScope s_lets_showing, [], []⟩
def d_are_numbers : He.DefD := ⟨("are_numbers", none), "are_numbers", "are_numbers", defArgs s_are_numbers, defBody s_are_numbers, defScope s_are_numbers, [], []⟩
def d_worth_beside : He.DefD := ⟨("worth_beside", none), "worth_beside", "worth_beside", defArgs s_worth_beside, defBody s_worth_beside, defScope s_worth_beside, [], []⟩
def d_lets_worths : He.DefD := ⟨("lets_worths", none), "lets_worths", "lets_worths", defArgs s_lets_worths, defBody s_lets_worths, defScope s_lets_worths, [], []⟩
def d_cut : He.DefD := ⟨("cut", none), "cut", "cut", defArgs s_cut, defBody s_cut, defScope s_cut, [], []⟩
def d_worths_of : He.DefD := ⟨("worths_of", none), "worths_of", "worths_of", defArgs s_worths_of, defBody s_worths_of, defScope s_worths_of, [], []⟩
def d_l_room : He.DefD := ⟨("_law_room", none), "_law_room", "_law_room", defArgs s_l_room, defBody s_l_room, defScope s_l_room, [], []⟩
def d_l_take : He.DefD := ⟨("_law_take", none), "_law_take", "_law_take", defArgs s_l_take, defBody s_l_take, defScope s_l_take, [], []⟩
def d_l_lowest : He.DefD := ⟨("_law_lowest", none), "_law_lowest", "_law_lowest", defArgs s_l_lowest, defBody s_l_lowest, defScope s_l_lowest, [], []⟩
def d_l_make : He.DefD := ⟨("_law_make", none), "_law_make", "_law_make", defArgs s_l_make, defBody s_l_make, defScope s_l_make, [], []⟩
def d_l_plus : He.DefD := ⟨("_law_plus", none), "_law_plus", "_law_plus", defArgs s_l_plus, defBody s_l_plus, defScope s_l_plus, [], []⟩
def d_l_times : He.DefD := ⟨("_law_times", none), "_law_times", "_law_times", defArgs s_l_times, defBody s_l_times, defScope s_l_times, [], []⟩
def d_l_prime : He.DefD := ⟨("_law_prime", none), "_law_prime", "_law_prime", defArgs s_l_prime, defBody s_l_prime, defScope s_l_prime, [], []⟩
def d_l_number : He.DefD := ⟨("_law_number", none), "_law_number", "_law_number", defArgs s_l_number, defBody s_l_number, defScope s_l_number, [], []⟩
def d_l_product : He.DefD := ⟨("_law_product", none), "_law_product", "_law_product", defArgs s_l_product, defBody s_l_product, defScope s_l_product, [], []⟩
def d_l_terms : He.DefD := ⟨("_law_terms", none), "_law_terms", "_law_terms", defArgs s_l_terms, defBody s_l_terms, defScope s_l_terms, [], []⟩
def d_l_gather : He.DefD := ⟨("_law_gather", none), "_law_gather", "_law_gather", defArgs s_l_gather, defBody s_l_gather, defScope s_l_gather, [], []⟩
def d_l_worth : He.DefD := ⟨("_law_worth", none), "_law_worth", "_law_worth", defArgs s_l_worth, defBody s_l_worth, defScope s_l_worth, [], []⟩
def d_l_filling : He.DefD := ⟨("_law_filling", none), "_law_filling", "_law_filling", defArgs s_l_filling, defBody s_l_filling, defScope s_l_filling, [], []⟩
def d_l_wish : He.DefD := ⟨("_law_wish", none), "_law_wish", "_law_wish", defArgs s_l_wish, defBody s_l_wish, defScope s_l_wish, [], []⟩
def d_l_mult : He.DefD := ⟨("_law_mult", none), "_law_mult", "_law_mult", defArgs s_l_mult, defBody s_l_mult, defScope s_l_mult, [], []⟩
def d_l_all : He.DefD := ⟨("_law_all", none), "_law_all", "_law_all", defArgs s_l_all, defBody s_l_all, defScope s_l_all, [], []⟩
def d_l_products : He.DefD := ⟨("_law_products", none), "_law_products", "_law_products", defArgs s_l_products, defBody s_l_products, defScope s_l_products, [], []⟩
def d_l_degree : He.DefD := ⟨("_law_degree", none), "_law_degree", "_law_degree", defArgs s_l_degree, defBody s_l_degree, defScope s_l_degree, [], []⟩
def d_l_shown_by : He.DefD := ⟨("_law_shown_by", none), "_law_shown_by", "_law_shown_by", defArgs s_l_shown_by, defBody s_l_shown_by, defScope s_l_shown_by, [], []⟩
def d_l_row_worths : He.DefD := ⟨("_law_row_worths", none), "_law_row_worths", "_law_row_worths", defArgs s_l_row_worths, defBody s_l_row_worths, defScope s_l_row_worths, [], []⟩
def d_l_mixture : He.DefD := ⟨("_law_mixture", none), "_law_mixture", "_law_mixture", defArgs s_l_mixture, defBody s_l_mixture, defScope s_l_mixture, [], []⟩
def d_l_no_worths : He.DefD := ⟨("_law_no_worths", none), "_law_no_worths", "_law_no_worths", defArgs s_l_no_worths, defBody s_l_no_worths, defScope s_l_no_worths, [], []⟩
def d_l_called : He.DefD := ⟨("_law_called", none), "_law_called", "_law_called", defArgs s_l_called, defBody s_l_called, defScope s_l_called, [], []⟩
def d_l_filled_right : He.DefD := ⟨("_law_filled_right", none), "_law_filled_right", "_law_filled_right", defArgs s_l_filled_right, defBody s_l_filled_right, defScope s_l_filled_right, [], []⟩
def d_law : He.DefD := ⟨("law", none), "law", "law", defArgs s_law, defBody s_law, defScope s_law, [], []⟩
def fn0 : List He.DefD := [d_is_whole, d_is_prime, d_lowest, d_Field_mk, d_Field_eq, d_Field_prime, d_Field_made, d_Field_plus, d_Field_times, d_Field_is_number, d_is_place, d_is_product, d_joined_product, d_look_at_terms, d_gathered, d_Sum_mk, d_Sum_eq, d_Sum_len, d_Sum_field, d_Sum_terms]
def fn1 : List He.DefD := [d_Sum_degree, d_Sum_reach, d_Sum_look_alike, d_Sum_plus, d_Sum_times, d_Sum_renamed, d_Sum_worth, d_is_wish, d_look_at_wishes, d_is_order, d_System_mk, d_System_field, d_System_places, d_System_noughts, d_System_uppers, d_System_renamed, d_is_row, d_grants, d_is_filling, d_look_at_degree]
def fn2 : List He.DefD := [d_products_many, d_products_of, d_comes_to_one, d_are_multipliers, d_lets_showing, d_are_numbers, d_worth_beside, d_lets_worths, d_cut, d_worths_of, d_l_room, d_l_take, d_l_lowest, d_l_make, d_l_plus, d_l_times, d_l_prime, d_l_number, d_l_product, d_l_terms]
def fn3 : List He.DefD := [d_l_gather, d_l_worth, d_l_filling, d_l_wish, d_l_mult, d_l_all, d_l_products, d_l_degree, d_l_shown_by, d_l_row_worths, d_l_mixture, d_l_no_worths, d_l_called, d_l_filled_right, d_law]
def fn : List He.DefD := fn0 ++ (fn1 ++ (fn2 ++ (fn3)))
end Fs

set_option Elab.async false
set_option linter.all false
set_option maxRecDepth 100000
set_option maxHeartbeats 0
namespace Fs
open PySem PySem.Spec PyProof.Rows L2 C8
/-! ### the head: what it tells -/
def clsIB (K : PySem.W.Frag) (C : Addr) : Bool := He.eqO (PySem.W.findIn K (.ref C) "__class__") (some (some (.builtin "object.__class__"))) && (decide (PySem.W.specialIn K (.builtin "object.__class__") "__get__" = some (some (.builtin "getset_descriptor.__get__"))) && (decide (PySem.W.takesIn K (.builtin "object.__class__") = some true) && (decide (PySem.W.mroIn K C (.type "object") = some true) && He.eqO (PySem.W.findIn K (.ref C) "__ne__") (some (some (.builtin "object.__ne__"))))))
theorem clsI_ok {K : PySem.W.Frag} {C : Addr} (h : clsIB K C = true) : ClsI K C := by
  obtain ⟨h1, h⟩ := He.ba h
  obtain ⟨h2, h⟩ := He.ba h
  obtain ⟨h3, h⟩ := He.ba h
  obtain ⟨h4, h5⟩ := He.ba h
  exact ⟨He.eqO_ok h1, of_decide_eq_true h2, of_decide_eq_true h3, of_decide_eq_true h4, He.eqO_ok h5⟩
def exB (K : PySem.W.Frag) : Bool := He.tupB K "ZERO" [.int 0, .int 1] && (He.tupB K "ONE" [.int 1, .int 1] && (clsIB K (He.ga K "Field") && (clsIB K (He.ga K "Sum") && clsIB K (He.ga K "System"))))
theorem ex_ZERO {K : PySem.W.Frag} (h : exB K = true) : He.tupB K "ZERO" [.int 0, .int 1] = true := (He.ba h).1
theorem ex_ONE {K : PySem.W.Frag} (h : exB K = true) : He.tupB K "ONE" [.int 1, .int 1] = true := (He.ba (He.ba h).2).1
theorem ex_Field {K : PySem.W.Frag} (h : exB K = true) : clsIB K (He.ga K "Field") = true := (He.ba (He.ba (He.ba h).2).2).1
theorem ex_Sum {K : PySem.W.Frag} (h : exB K = true) : clsIB K (He.ga K "Sum") = true := (He.ba (He.ba (He.ba (He.ba h).2).2).2).1
theorem ex_System {K : PySem.W.Frag} (h : exB K = true) : clsIB K (He.ga K "System") = true := (He.ba (He.ba (He.ba (He.ba h).2).2).2).2
def fa0 : List He.Fa := [.glo "is_whole", .glo "is_prime", .glo "lowest", .glo "is_place", .glo "is_product", .glo "joined_product", .glo "look_at_terms", .glo "gathered", .glo "is_wish", .glo "look_at_wishes", .glo "is_order", .glo "is_row", .glo "grants", .glo "is_filling", .glo "look_at_degree", .glo "products_many", .glo "products_of", .glo "comes_to_one", .glo "are_multipliers", .glo "lets_showing", .glo "are_numbers", .glo "worth_beside", .glo "lets_worths", .glo "cut", .glo "worths_of", .glo "_law_room", .glo "_law_take", .glo "_law_lowest", .glo "_law_make", .glo "_law_plus"]
def fa1 : List He.Fa := [.glo "_law_times", .glo "_law_prime", .glo "_law_number", .glo "_law_product", .glo "_law_terms", .glo "_law_gather", .glo "_law_worth", .glo "_law_filling", .glo "_law_wish", .glo "_law_mult", .glo "_law_all", .glo "_law_products", .glo "_law_degree", .glo "_law_shown_by", .glo "_law_row_worths", .glo "_law_mixture", .glo "_law_no_worths", .glo "_law_called", .glo "_law_filled_right", .glo "law", .glo "Field", .glo "Sum", .glo "System", .free "len", .free "isinstance", .free "range", .free "abs", .free "min", .free "max", .free "sorted"]
def fa2 : List He.Fa := [.free "tuple", .free "set", .free "list", .free "dict", .free "int", .free "bool", .free "all", .free "zip", .free "enumerate", .free "ZeroDivisionError", .int "MOST_PRIME" 97, .int "MOST_PLACES" 60, .int "MOST_WISHES" 200, .int "MOST_DEGREE" 300, .int "MOST_WRITTEN" 20000, .glo "ZERO", .glo "ONE", .cls "Field", .mkr "Field", .noat "Field" "own_prime", .meth "Field" "__eq__", .meth "Field" "prime", .meth "Field" "made", .meth "Field" "plus", .meth "Field" "times", .meth "Field" "is_number", .cls "Sum", .mkr "Sum", .noat "Sum" "own_field", .noat "Sum" "row"]
def fa3 : List He.Fa := [.meth "Sum" "__eq__", .meth "Sum" "__len__", .meth "Sum" "field", .meth "Sum" "terms", .meth "Sum" "degree", .meth "Sum" "reach", .meth "Sum" "look_alike", .meth "Sum" "plus", .meth "Sum" "times", .meth "Sum" "renamed", .meth "Sum" "worth", .cls "System", .mkr "System", .noat "System" "own_field", .noat "System" "many_places", .noat "System" "nought_sums", .noat "System" "upper_sums", .meth "System" "field", .meth "System" "places", .meth "System" "noughts", .meth "System" "uppers", .meth "System" "renamed"]
def fa : List He.Fa := (fa0 ++ (fa1 ++ (fa2 ++ fa3)))
def nm0 : List PySem.Str := ["_wall", "FalseError", "NoField", "NoNumber", "Unlike", "NoOrder", "NoFilling", "NoDegree", "TooMany", "NoSum", "NoSystem", "MOST_PRIME", "ZERO", "ONE", "is_whole", "is_prime", "lowest", "Field", "MOST_PLACES", "is_place", "is_product", "joined_product", "number_text", "term_text", "written", "plain_names", "look_at_terms", "gathered", "Sum", "MOST_WISHES"]
def nm1 : List PySem.Str := ["is_wish", "look_at_wishes", "is_order", "System", "is_row", "grants", "is_filling", "MOST_DEGREE", "MOST_WRITTEN", "look_at_degree", "products_many", "products_of", "comes_to_one", "are_multipliers", "lets_showing", "are_numbers", "worth_beside", "lets_worths", "cut", "worths_of", "_law_room", "_law_take", "_law_lowest", "_law_make", "_law_plus", "_law_times", "_law_prime", "_law_number", "_law_product", "_law_terms"]
def nm2 : List PySem.Str := ["_law_gather", "_law_worth", "_law_filling", "_law_wish", "_law_mult", "_law_all", "_law_products", "_law_degree", "_law_shown_by", "_law_row_worths", "_law_mixture", "_law_no_worths", "_law_called", "_law_filled_right"]
def names : List PySem.Str := nm0 ++ nm1 ++ nm2
abbrev tfs : List He.Defn := [("gathered", none)]
end Fs

set_option Elab.async false
set_option linter.all false
set_option maxRecDepth 100000
set_option maxHeartbeats 0
namespace Fs
open PySem PySem.Spec PyProof.Rows L2 C8 PySem.Calls
/-! ### a Hook that looks at layers, not at everything reached: no list is searched for doubles -/
def lay1 (o : Obj) : List Addr := match o.data with
  | .cls cd => [cd.ns]
  | _ => He.refsD o
def lay (g : Addr → Option Obj) (as : List Addr) : List Addr := as.flatMap fun a => match g a with
  | some o => lay1 o
  | none => []
def lays (g : Addr → Option Obj) : Nat → List Addr → List Addr
  | 0, as => as
  | n + 1, as => as ++ lays g n (lay g as)
def frL (g : Addr → Option Obj) : PySem.W.Frag := He.frT g (lays g 4 [mainGlobals])
def obL (ex : PySem.W.Frag → Bool) (fs : List He.Fa) (ds : List He.DefD) (g : Addr → Option Obj) : He.AlX := (He.obsT fs ds [] (frL g), ex (frL g) && He.tabsB g tfs (frL g))
theorem saysL {w : World} {h : Heap} (e : obL exB fa fn h.get? = He.valX fn [] w) : He.SaysX fa fn [] tfs exB w h (frL h.get?) := by
  have both := (Bool.and_eq_true _ _).mp (congrArg Prod.snd e)
  have tab : ∀ p ∈ tfs, _ := fun p hp => He.ba (List.all_eq_true.mp both.2 p hp)
  have at_ : ∀ p ∈ tfs, ∃ o, h.get? (He.cT (frL h.get?) p).2 = some o ∧ He.emptyTab o = true := by
    intro p hp
    have two := (tab p hp).2
    revert two
    cases h.get? (He.cT (frL h.get?) p).2 with
    | none => exact fun z => Bool.noConfusion z
    | some o => exact fun z => ⟨o, rfl, z⟩
  constructor
  · exact congrArg Prod.fst e
  · exact both.1
  · exact fun p hp => (tab p hp).1
  · intro p hp
    obtain ⟨o, ho, hz⟩ := at_ p hp
    exact He.frT_none ho hz
  · intro p hp
    obtain ⟨o, ho, hz⟩ := at_ p hp
    exact ho.trans (congrArg some (He.emptyTab_eq hz))
abbrev RowR : PySem.W.OpenRow := PySem.W.OpenLaw.row PySem.Challenge.rw_falsesums_k27_whole_never_both
abbrev hk : PySem.W.Hook where
  α := He.AlX
  obs := fun s => obL exB fa fn s.heap.get?
  val := He.valX fn []
  says := fun w h => ∃ K : PySem.W.Frag, K.In h ∧ He.SaysX fa fn [] tfs exB w h K
  of := fun _ _ e => ⟨_, He.frT_in, saysL e⟩
  keeps := by
    intro w h h' z k
    obtain ⟨K, inn, c⟩ := z
    refine ⟨K, PySem.W.Frag.In.keeps inn k, c.t, c.more, c.hd, c.out, ?_⟩
    exact fun p hp => k _ _ (c.empty p hp)
def ob (s : PySem.W.SharedT) : He.AlX := obL exB fa fn (HandSHeadRun.getT s)
theorem ob_eq (s : PySem.W.SharedT) : ob s = hk.obs s.abs := by
  have e : HandSHeadRun.getT s = s.abs.heap.get? := funext (HandSHeadRun.getT_eq s)
  show obL exB fa fn (HandSHeadRun.getT s) = obL exB fa fn s.abs.heap.get?
  rw [e]
/-- the state behind the top -/
noncomputable abbrev done (w : World) (os : OsState) : Option PySem.W.SharedT := HandSHeadRun.endF (HandSHeadRun.stepQ (HandSHeadRun.denQ HandSHeadRun.tabQ) RowR.prog w) 20000 RowR.prog w os
/-! the run is looked at thrice, each time at a part: what the kernel keeps of one look is let go before the next -/
theorem run1 (w : World) (os : OsState) : (done w os).map (fun s => (HandSHeadRun.looksF RowR.prog (PySem.W.boot_heap w.params) s.abs, HandSHeadRun.seenQ (PySem.W.view RowR.prog [81]) names (importedModules RowR.prog.main.body) (fun s => PySem.W.xlAt (PySem.W.view RowR.prog [81]) [] s && PySem.W.recOk RowR.toRowW.records s) s.abs)) = some (true, PySem.W.openGood (PySem.W.view RowR.prog [81]) names) := by
  kernel_rfl
theorem run2 (w : World) (os : OsState) : (done w os).map (fun s => obL exB fa [] (HandSHeadRun.getT s)) = some (He.valX [] [] w) := by
  kernel_rfl
theorem run3 (w : World) (os : OsState) : (done w os).map (fun s => obL (fun _ => true) [] fn (HandSHeadRun.getT s)) = some (He.valX fn [] w) := by
  kernel_rfl
theorem ob_join {fs : List He.Fa} {ds : List He.DefD} {g : Addr → Option Obj} {w : World} (h : obL exB fs [] g = He.valX [] [] w) (h' : obL (fun _ => true) [] ds g = He.valX ds [] w) : obL exB fs ds g = He.valX ds [] w := by
  have a1 := congrArg (fun z : He.AlX => z.1.1.1) h
  have a2 := congrArg (fun z : He.AlX => z.2) h
  have b1 := congrArg (fun z : He.AlX => z.1.1) h'
  have c1 : (fs.all fun f => f.ok (frL g)) = true := ((Bool.and_eq_true _ _).mp a1).1
  have c2 : (([] : List He.Fa).all (fun f => f.ok (frL g)) && ds.all fun d => d.ok (frL g)) = true := congrArg Prod.fst b1
  have c3 : (ds.all fun d => d.ok (frL g)) = true := ((Bool.and_eq_true _ _).mp c2).2
  have c4 := congrArg Prod.snd b1
  show ((((fs.all fun f => f.ok (frL g)) && ds.all fun d => d.ok (frL g), _), _), _) = (((true, _), _), true)
  rw [c1, c3]
  exact Prod.ext (Prod.ext (Prod.ext rfl c4) rfl) a2
theorem run (w : World) : HandSHeadRun.RunEq RowR (PySem.W.view RowR.prog [81]) hk ob 20000 names w := by
  intro os
  have r1 := run1 w os
  have r2 := run2 w os
  have r3 := run3 w os
  show (done w os).map _ = _
  generalize done w os = x at r1 r2 r3 ⊢
  cases x with
  | none => cases r1
  | some s =>
    have s1 := Option.some.inj r1
    have s2 := ob_join (Option.some.inj r2) (Option.some.inj r3)
    have p1 := congrArg Prod.fst s1
    have p2 := congrArg Prod.snd s1
    exact congrArg some (Prod.ext p1 (Prod.ext p2 s2))
end Fs

set_option Elab.async false
set_option linter.all false
set_option maxRecDepth 100000
set_option maxHeartbeats 1000000
namespace Fs
open PySem PySem.Spec PyProof.Rows L2

/-! ### worlds -/
def RoomAt (H : Hp) (a : Addr) : Prop := ∃ x y : Int, H a = some (.lst [.int x, .int y]) ∧ 0 ≤ x ∧ 0 ≤ y ∧ y < 2147483647
/-- no tuple, no table of code -/
def NT (o : HO) : Prop := ∀ xs, o ≠ .tup xs
def NB (o : HO) : Prop := ∀ ps, o ≠ .tbl ps
/-- a thing that can be a local one -/
def NL (o : HO) : Prop := NT o ∧ NB o ∧ ∀ φ, o ≠ .ext φ
structure Wd where
  B : Hp
  H : Hp
  r : Option Addr
  T : List (Addr × Str)
  ex : Same B H
  room : ∀ a, r = some a → B a = none ∧ RoomAt H a
  nb : ∀ b o, B b = some o → NB o
  tb : LamX.Tabs T H
theorem nl_lst {xs : List V} : NL (.lst xs) := ⟨(fun _ z => nomatch z), (fun _ z => nomatch z), (fun _ z => nomatch z)⟩
theorem nl_dT {xs : List (List L2.Key × V)} : NL (.dT xs) := ⟨(fun _ z => nomatch z), (fun _ z => nomatch z), (fun _ z => nomatch z)⟩
theorem nl_frz {od : Obj} {u : HO} : NL (.frz od u) := ⟨(fun _ z => nomatch z), (fun _ z => nomatch z), (fun _ z => nomatch z)⟩
theorem nl_ins {C dx : Addr} {fs : List (Str × V)} : NL (.ins C dx fs) := ⟨(fun _ z => nomatch z), (fun _ z => nomatch z), (fun _ z => nomatch z)⟩
structure Le (W W' : Wd) : Prop where
  b : Same W.B W'.B
  h : ∀ b o, W.r ≠ some b → W.H b = some o → NB o → W'.H b = some o
  n : ∀ b o, W.B b = none → W.H b = some o → NT o → NB o → W'.B b = none
  r : W'.r = W.r
  t : W'.T = W.T
theorem Le.refl (W : Wd) : Le W W := ⟨Same.refl _, fun _ _ _ h _ => h, fun _ _ h _ _ _ => h, rfl, rfl⟩
theorem Le.trans {W W1 W2 : Wd} (a : Le W W1) (b : Le W1 W2) : Le W W2 :=
  ⟨a.b.trans b.b, fun c o n h t => b.h c o (by rw [a.r]; exact n) (a.h c o n h t) t, fun c o h n t u => by
    by_cases e : W.r = some c
    · exact (W2.room c (by rw [b.r, a.r]; exact e)).1
    · exact b.n c o (a.n c o h n t u) (a.h c o e n u) t u, b.r.trans a.r, b.t.trans a.t⟩
/-- nothing but a table of code stands there -/
def Fre (W : Wd) (p : Addr) : Prop := ∀ o, W.H p = some o → ¬ NB o
theorem Wd.fre {W : Wd} {p : Addr} (h : W.H p = none) : Fre W p := fun o e => by rw [h] at e; cases e
theorem Fre.ne {W : Wd} {p b : Addr} {o : HO} (f : Fre W p) (h : W.H b = some o) (n : NB o) : b ≠ p := fun z => by
  subst z; exact f o h n
theorem Fre.b {W : Wd} {p : Addr} (f : Fre W p) : W.B p = none := by
  cases q : W.B p with
  | none => rfl
  | some o => exact absurd (W.nb _ _ q) (f o (W.ex _ _ q))
theorem nb_lst {xs : List V} : NB (.lst xs) := fun _ z => nomatch z
theorem Fre.nr {W : Wd} {p : Addr} (f : Fre W p) : W.r ≠ some p := fun e => by
  obtain ⟨_, x, y, q, _⟩ := W.room p e
  exact f _ q nb_lst
theorem Le.free {W W' : Wd} (l : Le W W') {p : Addr} (h : Fre W' p) : Fre W p := fun o e n => by
  by_cases z : W.r = some p
  · obtain ⟨_, x, y, q, _⟩ := W'.room p (by rw [l.r]; exact z)
    exact h _ q nb_lst
  · exact h o (l.h p o z e n) n
theorem Wd.bfree (W : Wd) {p : Addr} (h : W.H p = none) : W.B p = none := W.ex.free h
/-- a new object that stays -/
def Wd.mk' (W : Wd) (p : Addr) (o : HO) (h : W.H p = none) (t : NB o := by exact fun _ z => nomatch z) : Wd where
  B := upd W.B p o
  H := upd W.H p o
  r := W.r
  T := W.T
  ex := fun b u e => by
    by_cases q : b = p
    · subst q; rw [upd_same] at e ⊢; exact e
    · rw [upd_ne q] at e ⊢; exact W.ex b u e
  room := fun a e => by
    obtain ⟨h1, x, y, h2, h3⟩ := W.room a e
    have n : a ≠ p := ne_of_none h2 h
    exact ⟨by rw [upd_ne n]; exact h1, x, y, by rw [upd_ne n]; exact h2, h3⟩
  nb := fun b u e => by
    by_cases q : b = p
    · subst q; rw [upd_same] at e; cases e; exact t
    · rw [upd_ne q] at e; exact W.nb b u e
  tb := W.tb.ext fun b u e => by rw [upd_ne (ne_of_none e h)]; exact e
theorem Wd.mk_le (W : Wd) {p : Addr} {o : HO} (h : W.H p = none) (t : NB o := by exact fun _ z => nomatch z) : Le W (W.mk' p o h t) :=
  ⟨fun b u e => by
      have n : b ≠ p := ne_of_none (W.ex _ _ e) h
      show upd W.B p o b = some u
      rw [upd_ne n]; exact e,
   fun b u _ e _ => by
      show upd W.H p o b = some u
      rw [upd_ne (ne_of_none e h)]; exact e,
   fun b u e n _ _ => by
      have q : b ≠ p := ne_of_none n h
      show upd W.B p o b = none
      rw [upd_ne q]; exact e, rfl, rfl⟩
/-- a new object that will change -/
def Wd.loc (W : Wd) (p : Addr) (o : HO) (h : W.H p = none) : Wd where
  B := W.B
  H := upd W.H p o
  r := W.r
  T := W.T
  ex := fun b u e => by rw [upd_ne (ne_of_none (W.ex _ _ e) h)]; exact W.ex b u e
  room := fun a e => by
    obtain ⟨h1, x, y, h2, h3⟩ := W.room a e
    exact ⟨h1, x, y, by rw [upd_ne (ne_of_none h2 h)]; exact h2, h3⟩
  nb := W.nb
  tb := W.tb.ext fun b u e => by rw [upd_ne (ne_of_none e h)]; exact e
theorem Wd.loc_le (W : Wd) {p : Addr} {o : HO} (h : W.H p = none) : Le W (W.loc p o h) :=
  ⟨Same.refl _, fun b u _ e _ => by
      show upd W.H p o b = some u
      rw [upd_ne (ne_of_none e h)]; exact e, fun _ _ e _ _ _ => e, rfl, rfl⟩
theorem tabs_upd {T : List (Addr × Str)} {H : Hp} {p : Addr} {o u : HO} (t : LamX.Tabs T H) (h : H p = some u) (n : NB u) (x : ∀ φ, u ≠ .ext φ) : LamX.Tabs T (upd H p o) := fun q hq => by
  obtain ⟨ps, h1, h2, h3⟩ := t q hq
  have n1 : q.1 ≠ p := fun z => by
    rw [z, h] at h1
    exact n ps (Option.some.inj h1)
  refine ⟨ps, by rw [upd_ne n1]; exact h1, h2, fun pos cv hc => ?_⟩
  obtain ⟨c, e1, e2⟩ := h3 pos cv hc
  have n2 : c ≠ p := fun z => by
    rw [z, h] at e2
    exact x _ (Option.some.inj e2)
  exact ⟨c, e1, by rw [upd_ne n2]; exact e2⟩
/-- one that changes, changed -/
def Wd.mut (W : Wd) (p : Addr) (o : HO) (h : W.B p = none) (n : W.r ≠ some p) (m : ∃ u, W.H p = some u ∧ NL u) : Wd where
  B := W.B
  H := upd W.H p o
  r := W.r
  T := W.T
  ex := fun b u e => by rw [upd_ne (ne_of_none e h)]; exact W.ex b u e
  room := fun a e => by
    obtain ⟨h1, x, y, h2, h3⟩ := W.room a e
    have q : a ≠ p := fun z => n (by rw [← z]; exact e)
    exact ⟨h1, x, y, by rw [upd_ne q]; exact h2, h3⟩
  nb := W.nb
  tb := let ⟨_, h1, h2⟩ := m; tabs_upd W.tb h1 h2.2.1 h2.2.2
theorem Wd.mut_le {W0 W : Wd} (l : Le W0 W) {p : Addr} {o : HO} (h : W.B p = none) (n : W.r ≠ some p) (m : ∃ u, W.H p = some u ∧ NL u) (h0 : Fre W0 p) : Le W0 (W.mut p o h n m) :=
  ⟨l.b, fun b u q e t => by
      show upd W.H p o b = some u
      rw [upd_ne (h0.ne e t)]; exact l.h b u q e t, l.n, l.r, l.t⟩
/-- one that changed, from now on it stays -/
def Wd.frz (W : Wd) (p : Addr) (o : HO) (h : W.H p = some o) (n : W.r ≠ some p) (t : NB o := by exact fun _ z => nomatch z) : Wd where
  B := upd W.B p o
  H := W.H
  r := W.r
  T := W.T
  ex := fun b u e => by
    by_cases q : b = p
    · subst q; rw [upd_same] at e; rw [← e]; exact h
    · rw [upd_ne q] at e; exact W.ex b u e
  room := fun a e => by
    obtain ⟨h1, z⟩ := W.room a e
    have q : a ≠ p := fun z => n (by rw [← z]; exact e)
    exact ⟨by rw [upd_ne q]; exact h1, z⟩
  nb := fun b u e => by
    by_cases q : b = p
    · subst q; rw [upd_same] at e; cases e; exact t
    · rw [upd_ne q] at e; exact W.nb b u e
  tb := W.tb
theorem Wd.frz_le {W0 W : Wd} (l : Le W0 W) {p : Addr} {o : HO} (h : W.H p = some o) (n : W.r ≠ some p) (h0 : Fre W0 p) (t : NB o := by exact fun _ z => nomatch z) : Le W0 (W.frz p o h n t) :=
  ⟨fun b u e => by
      show upd W.B p o b = some u
      rw [upd_ne (ne_of_none e h0.b)]; exact l.b _ _ e, l.h,
   fun b u e q t v => by
      have z : b ≠ p := h0.ne q v
      show upd W.B p o b = none
      rw [upd_ne z]; exact l.n b u e q t v, l.r, l.t⟩
theorem nb_tup {xs : List V} : NB (.tup xs) := fun _ z => nomatch z
/-- a tuple that stands there stays -/
theorem Wd.see_le (W : Wd) {p : Addr} {xs : List V} (h : W.H p = some (.tup xs)) (n : W.r ≠ some p) : Le W (W.frz p _ h n nb_tup) :=
  ⟨fun b u e => by
      show upd W.B p (.tup xs) b = some u
      by_cases q : b = p
      · subst q
        rw [upd_same]
        exact h.symm.trans (W.ex _ _ e)
      · rw [upd_ne q]; exact e, fun _ _ _ q _ => q,
   fun b u e q t _ => by
      have z : b ≠ p := fun z => by
        subst z
        rw [h] at q
        exact t xs (Option.some.inj q).symm
      show upd W.B p (.tup xs) b = none
      rw [upd_ne z]; exact e, rfl, rfl⟩
theorem Wd.see (W : Wd) {p : Addr} {xs : List V} (h : W.H p = some (.tup xs)) : ∃ W' : Wd, W'.H = W.H ∧ Le W W' ∧ W'.B p = some (.tup xs) := by
  have n : W.r ≠ some p := fun e => by
    obtain ⟨_, x, y, q, _⟩ := W.room p e
    rw [h] at q; cases q
  exact ⟨W.frz p _ h n nb_tup, rfl, W.see_le h n, upd_same⟩
theorem Wd.frz_b {W : Wd} {p : Addr} {o : HO} (h : W.H p = some o) (n : W.r ≠ some p) (hb : W.B p = none) (t : NB o := by exact fun _ z => nomatch z) : Same W.B (W.frz p o h n t).B := fun b u e => by
  show upd W.B p o b = some u
  rw [upd_ne (ne_of_none e hb)]; exact e
/-- the room drawn from -/
def Wd.drw (W : Wd) (a : Addr) (x y : Int) (h : W.r = some a) (hx : 0 ≤ x) (hy : 0 ≤ y) (hy' : y < 2147483647) : Wd where
  B := W.B
  H := upd W.H a (.lst [.int x, .int y])
  r := W.r
  T := W.T
  ex := fun b u e => by rw [upd_ne (ne_of_none e (W.room a h).1)]; exact W.ex b u e
  room := fun b e => by
    have q : b = a := Option.some.inj (e.symm.trans h)
    subst q
    exact ⟨(W.room b h).1, x, y, upd_same, hx, hy, hy'⟩
  nb := W.nb
  tb := by
    obtain ⟨_, x, y, q, _⟩ := W.room a h
    exact tabs_upd W.tb q nb_lst fun _ z => nomatch z
theorem Wd.drw_le (W : Wd) {a : Addr} {x y : Int} (h : W.r = some a) (hx : 0 ≤ x) (hy : 0 ≤ y) (hy' : y < 2147483647) : Le W (W.drw a x y h hx hy hy') :=
  ⟨Same.refl _, fun b u n e _ => by
      have q : b ≠ a := fun z => n (by rw [z]; exact h)
      show upd W.H a _ b = some u
      rw [upd_ne q]; exact e, fun _ _ e _ _ _ => e, rfl, rfl⟩
/-- a table of code has grown -/
def Wd.tab (W : Wd) (H1 : Hp) (e : LamX.ExtN W.H H1) (t : LamX.Tabs W.T H1) : Wd where
  B := W.B
  H := H1
  r := W.r
  T := W.T
  ex := fun b u q => e b u (W.ex b u q) (W.nb b u q)
  room := fun b q => by
    obtain ⟨h1, x, y, h2, h3⟩ := W.room b q
    exact ⟨h1, x, y, e _ _ h2 nb_lst, h3⟩
  nb := W.nb
  tb := t
theorem Wd.tab_le (W : Wd) {H1 : Hp} (e : LamX.ExtN W.H H1) (t : LamX.Tabs W.T H1) : Le W (W.tab H1 e t) :=
  ⟨Same.refl _, fun b u _ q n => e b u q n, fun _ _ q _ _ _ => q, rfl, rfl⟩

/-! ### what stands for what -/
structure Rp where
  p : Hp → V → Prop
  mono : ∀ {H H' : Hp} {v : V}, Same H H' → p H v → p H' v
theorem sqt_mono {K : PySem.W.Frag} {H H' : Hp} {a : Addr} {xs : List V} (e : Same H H') (h : SqT K H a xs) : SqT K H' a xs := by
  rcases h with (h | ⟨o, h⟩) | h
  · exact .inl (.inl (e _ _ h))
  · exact .inl (.inr ⟨o, e _ _ h⟩)
  · exact .inr h
def RpA : List Rp → Hp → List V → Prop
  | [], _, [] => True
  | r :: rs, H, v :: vs => r.p H v ∧ RpA rs H vs
  | [], _, _ :: _ => False
  | _ :: _, _, [] => False
theorem RpA.mono : ∀ {rs : List Rp} {H H' : Hp} {vs : List V}, Same H H' → RpA rs H vs → RpA rs H' vs
  | [], _, _, [], _, _ => True.intro
  | r :: rs, _, _, v :: vs, e, h => ⟨r.mono e h.1, RpA.mono e h.2⟩
  | [], _, _, _ :: _, _, h => h
  | _ :: _, _, _, [], _, h => h
theorem RpA.len : ∀ {rs : List Rp} {H : Hp} {vs : List V}, RpA rs H vs → vs.length = rs.length
  | [], _, [], _ => rfl
  | r :: rs, _, v :: vs, h => by rw [List.length_cons, List.length_cons, RpA.len h.2]
  | [], _, _ :: _, h => h.elim
  | _ :: _, _, [], h => h.elim
theorem RpA.nil {H : Hp} {vs : List V} (h : RpA [] H vs) : vs = [] := by
  cases vs with
  | nil => rfl
  | cons => exact h.elim
theorem RpA.one {r : Rp} {H : Hp} {vs : List V} (h : RpA [r] H vs) : ∃ v, vs = [v] ∧ r.p H v := by
  match vs, h with
  | [v], h => exact ⟨v, rfl, h.1⟩
theorem RpA.two {r s : Rp} {H : Hp} {vs : List V} (h : RpA [r, s] H vs) : ∃ v u, vs = [v, u] ∧ r.p H v ∧ s.p H u := by
  match vs, h with
  | [v, u], h => exact ⟨v, u, rfl, h.1, h.2.1⟩
theorem RpA.three {r s t : Rp} {H : Hp} {vs : List V} (h : RpA [r, s, t] H vs) : ∃ v u x, vs = [v, u, x] ∧ r.p H v ∧ s.p H u ∧ t.p H x := by
  match vs, h with
  | [v, u, x], h => exact ⟨v, u, x, rfl, h.1, h.2.1, h.2.2.1⟩
theorem RpA.four {r s t q : Rp} {H : Hp} {vs : List V} (h : RpA [r, s, t, q] H vs) : ∃ v u x y, vs = [v, u, x, y] ∧ r.p H v ∧ s.p H u ∧ t.p H x ∧ q.p H y := by
  match vs, h with
  | [v, u, x, y], h => exact ⟨v, u, x, y, rfl, h.1, h.2.1, h.2.2.1, h.2.2.2.1⟩
theorem RpA.five {r s t q z : Rp} {H : Hp} {vs : List V} (h : RpA [r, s, t, q, z] H vs) : ∃ v u x y w, vs = [v, u, x, y, w] ∧ r.p H v ∧ s.p H u ∧ t.p H x ∧ q.p H y ∧ z.p H w := by
  match vs, h with
  | [v, u, x, y, w], h => exact ⟨v, u, x, y, w, rfl, h.1, h.2.1, h.2.2.1, h.2.2.2.1, h.2.2.2.2.1⟩
theorem RpA.get : ∀ {rs : List Rp} {H : Hp} {vs : List V} {i : Nat} {v : V}, RpA rs H vs → vs[i]? = some v → ∃ r, rs[i]? = some r ∧ r.p H v
  | [], _, [], _, _, _, e => by simp at e
  | r :: rs, _, v :: vs, 0, u, h, e => ⟨r, rfl, by rw [← Option.some.inj (show some v = some u from e)]; exact h.1⟩
  | r :: rs, _, v :: vs, i + 1, u, h, e => by
    obtain ⟨r', h1, h2⟩ := RpA.get (i := i) (v := u) h.2 (by simpa using e)
    exact ⟨r', by simpa using h1, h2⟩
  | [], _, _ :: _, _, _, h, _ => h.elim
  | _ :: _, _, [], _, _, h, _ => h.elim
theorem RpA.at : ∀ {rs : List Rp} {H : Hp} {vs : List V} {i : Nat} {r : Rp}, RpA rs H vs → rs[i]? = some r → ∃ v, vs[i]? = some v ∧ r.p H v
  | [], _, [], _, _, _, e => by simp at e
  | r :: rs, _, v :: vs, 0, u, h, e => ⟨v, rfl, by rw [← Option.some.inj (show some r = some u from e)]; exact h.1⟩
  | r :: rs, _, v :: vs, i + 1, u, h, e => by
    obtain ⟨r', h1, h2⟩ := RpA.at (i := i) (r := u) h.2 (by simpa using e)
    exact ⟨r', by simpa using h1, h2⟩
  | [], _, _ :: _, _, _, h, _ => h.elim
  | _ :: _, _, [], _, _, h, _ => h.elim
theorem RpA.app : ∀ {rs ss : List Rp} {H : Hp} {vs us : List V}, RpA rs H vs → RpA ss H us → RpA (rs ++ ss) H (vs ++ us)
  | [], _, _, [], _, _, h => h
  | r :: rs, _, _, v :: vs, _, h, g => ⟨h.1, RpA.app h.2 g⟩
  | [], _, _, _ :: _, _, h, _ => h.elim
  | _ :: _, _, _, [], _, h, _ => h.elim
theorem RpA.snoc {rs : List Rp} {r : Rp} {H : Hp} {vs : List V} {v : V} (h : RpA rs H vs) (g : r.p H v) : RpA (rs ++ [r]) H (vs ++ [v]) := h.app ⟨g, True.intro⟩
def is (u : V) : Rp := ⟨fun _ v => v = u, fun _ h => h⟩
abbrev int (i : Int) : Rp := is (.int i)
abbrev bl (b : Bool) : Rp := is (.bl b)
def tupR (K : PySem.W.Frag) (rs : List Rp) : Rp := ⟨fun H v => ∃ a vs, v = .ref a ∧ SqT K H a vs ∧ RpA rs H vs, fun e ⟨a, vs, h1, h2, h3⟩ => ⟨a, vs, h1, sqt_mono e h2, h3.mono e⟩⟩
def lstR (K : PySem.W.Frag) (rs : List Rp) : Rp := ⟨fun H v => ∃ a vs, v = .ref a ∧ H a = some (.lst vs) ∧ RpA rs H vs, fun e ⟨a, vs, h1, h2, h3⟩ => ⟨a, vs, h1, e _ _ h2, h3.mono e⟩⟩
theorem lsq {K : PySem.W.Frag} {H : Hp} {a : Addr} {vs : List V} (h : H a = some (.lst vs)) : SqL K H a vs := .inl (.inl h)
def anyR {α : Type} (P : α → Prop) (f : α → Rp) : Rp := ⟨fun H v => ∃ x, P x ∧ (f x).p H v, fun e ⟨x, h1, h2⟩ => ⟨x, h1, (f x).mono e h2⟩⟩
/-- a place that changes (its list stands in H, not in B) -/
structure LocL (W : Wd) (l : Addr) (rs : List Rp) : Prop where
  b : W.B l = none
  r : W.r ≠ some l
  h : ∃ vs, W.H l = some (.lst vs) ∧ RpA rs W.B vs
theorem LocL.le {W W' : Wd} {l : Addr} {rs : List Rp} (h : LocL W l rs) (e : Le W W') : LocL W' l rs := by
  obtain ⟨b, r, vs, h1, h2⟩ := h
  exact ⟨e.n l _ b h1 nl_lst.1 nl_lst.2.1, by rw [e.r]; exact r, vs, e.h _ _ r h1 nb_lst, h2.mono e.b⟩

/-! ### what evaluates to what -/
def Ev (te : TE) (σ : L2.St) (W : Wd) (R : Rp) : Prop := ∀ W1, Le W W1 → ∀ Q : VK, (∀ v W2, Le W1 W2 → R.p W2.B v → Q v W2.H) → te σ W1.H Q
def EvA (ta : TA) (σ : L2.St) (W : Wd) (rs : List Rp) : Prop := ∀ W1, Le W W1 → ∀ Q : List V → Hp → Prop, (∀ vs W2, Le W1 W2 → RpA rs W2.B vs → Q vs W2.H) → ta σ W1.H Q
def EvB (tt : TT) (σ : L2.St) (W : Wd) (P : Bool → Prop) : Prop := ∀ W1, Le W W1 → ∀ Q : Bool → Hp → Prop, (∀ b W2, Le W1 W2 → P b → Q b W2.H) → tt σ W1.H Q
def RV (r : R2) (x y : V) (W : Wd) (R : Rp) : Prop := ∀ W1, Le W W1 → ∀ Q : VK, (∀ v W2, Le W1 W2 → R.p W2.B v → Q v W2.H) → r x y W1.H Q
def RC (r : List V → Hp → VK → Prop) (vs : List V) (W : Wd) (R : Rp) : Prop := ∀ W1, Le W W1 → ∀ Q : VK, (∀ v W2, Le W1 W2 → R.p W2.B v → Q v W2.H) → r vs W1.H Q
abbrev Bo (b : Bool) : Bool → Prop := fun c => c = b
section
variable {K : PySem.W.Frag} {σ : L2.St} {W W' : Wd} {ta tb tc te : TE} {t u : TT} {R RA RB RC' : Rp} {rs : List Rp} {r : R2}
theorem Ev.le (e : Le W W') (h : Ev te σ W R) : Ev te σ W' R := fun W1 l => h W1 (e.trans l)
theorem EvB.le {P : Bool → Prop} (e : Le W W') (h : EvB t σ W P) : EvB t σ W' P := fun W1 l => h W1 (e.trans l)
theorem EvA.le {t : TA} (e : Le W W') (h : EvA t σ W rs) : EvA t σ W' rs := fun W1 l => h W1 (e.trans l)
theorem Ev.imp (h : Ev te σ W R) (g : ∀ (W1 : Wd) v, Le W W1 → R.p W1.B v → RA.p W1.B v) : Ev te σ W RA := fun W1 l Q q => h W1 l Q fun v W2 l2 hv => q v W2 l2 (g W2 v (l.trans l2) hv)
theorem ev_var {i : Nat} {v : V} (h : σ[i]? = some (some v)) (hr : R.p W.B v) : Ev (tVar i) σ W R := fun W1 le Q q => ⟨v, h, q v W1 (Le.refl _) (R.mono le.b hr)⟩
theorem ev_vi {i : Nat} {v : V} (h : σ[i]? = some (some v)) : Ev (tVar i) σ W (is v) := ev_var h rfl
theorem ev_c {v : V} (hr : R.p W.B v) : Ev (tC v) σ W R := fun W1 le Q q => q v W1 (Le.refl _) (R.mono le.b hr)
theorem ev_ci {v : V} : Ev (tC v) σ W (is v) := ev_c rfl
theorem ev_op (ha : Ev ta σ W RA) (hb : Ev tb σ W RB) (hr : ∀ x y W1, Le W W1 → RA.p W1.B x → RB.p W1.B y → RV r x y W1 R) : Ev (tOp r ta tb) σ W R := fun W1 l Q q =>
  ha W1 l _ fun x W2 l2 hx => hb W2 (l.trans l2) _ fun y W3 l3 hy => hr x y W3 ((l.trans l2).trans l3) (RA.mono l3.b hx) hy W3 (Le.refl _) Q fun v W4 l4 hv => q v W4 ((l2.trans l3).trans l4) hv
theorem ev_I0 {g : Int → Int → V} {i j : Int} (ha : Ev ta σ W (int i)) (hb : Ev tb σ W (int j)) : Ev (tOp (rI0 g) ta tb) σ W (is (g i j)) :=
  ev_op ha hb fun x y W1 _ hx hy W2 _ Q q => ⟨i, j, hx, hy, q _ W2 (Le.refl _) rfl⟩
theorem ev_I {C : Int → Int → Prop} {g : Int → Int → V} {i j : Int} (ha : Ev ta σ W (int i)) (hb : Ev tb σ W (int j)) (hc : C i j) : Ev (tOp (rI C g) ta tb) σ W (is (g i j)) :=
  ev_op ha hb fun x y W1 _ hx hy W2 _ Q q => ⟨i, j, hx, hy, hc, q _ W2 (Le.refl _) rfl⟩
theorem ev_eq {x y : V} (ha : Ev ta σ W (is x)) (hb : Ev tb σ W (is y)) (h : scal x y = true) : Ev (tOp rEq ta tb) σ W (bl (decide (x = y))) :=
  ev_op ha hb fun x' y' W1 _ hx hy W2 _ Q q => by cases hx; cases hy; exact ⟨h, q _ W2 (Le.refl _) rfl⟩
theorem ev_ne {x y : V} (ha : Ev ta σ W (is x)) (hb : Ev tb σ W (is y)) (h : scal x y = true) : Ev (tOp rNe ta tb) σ W (bl (!decide (x = y))) :=
  ev_op ha hb fun x' y' W1 _ hx hy W2 _ Q q => by cases hx; cases hy; exact ⟨h, q _ W2 (Le.refl _) rfl⟩
theorem ev_is {v w : V} (h : Ev te σ W (is v)) (e : v = w) : Ev te σ W (is w) := by rw [← e]; exact h
theorem ev_andV {a b : Bool} (h1 : Ev ta σ W (bl a)) (h2 : a = true → Ev tb σ W (bl b)) (h3 : a = false → b = false) : Ev (tAndV ta tb) σ W (bl b) := fun W1 l Q q => h1 W1 l _ fun x W2 l2 hx => ⟨a, hx, by
  cases a with
  | true =>
    show tb σ W2.H Q
    exact h2 rfl W2 (l.trans l2) Q fun v W3 l3 hv => q v W3 (l2.trans l3) hv
  | false =>
    show Q (.bl false) W2.H
    have e := h3 rfl
    subst e
    exact q _ W2 l2 rfl⟩
theorem ev_orV {a b : Bool} (h1 : Ev ta σ W (bl a)) (h2 : a = false → Ev tb σ W (bl b)) (h3 : a = true → b = true) : Ev (tOrV ta tb) σ W (bl b) := fun W1 l Q q => h1 W1 l _ fun x W2 l2 hx => ⟨a, hx, by
  cases a with
  | false =>
    show tb σ W2.H Q
    exact h2 rfl W2 (l.trans l2) Q fun v W3 l3 hv => q v W3 (l2.trans l3) hv
  | true =>
    show Q (.bl true) W2.H
    have e := h3 rfl
    subst e
    exact q _ W2 l2 rfl⟩
theorem ev_notV {a : Bool} (h1 : Ev ta σ W (bl a)) : Ev (tNotV ta) σ W (bl (!a)) := fun W1 l Q q => h1 W1 l _ fun x W2 l2 hx => ⟨a, hx, q _ W2 l2 rfl⟩
theorem ev_if {P : Bool → Prop} (h : EvB t σ W P) (h1 : P true → Ev ta σ W R) (h2 : P false → Ev tb σ W R) : Ev (tIf t ta tb) σ W R := fun W1 l Q q => h W1 l _ fun b W2 l2 hb => by
  cases b with
  | true =>
    show ta σ W2.H Q
    exact h1 hb W2 (l.trans l2) Q fun v W3 l3 hv => q v W3 (l2.trans l3) hv
  | false =>
    show tb σ W2.H Q
    exact h2 hb W2 (l.trans l2) Q fun v W3 l3 hv => q v W3 (l2.trans l3) hv
theorem eb_test {b : Bool} (h : Ev te σ W (bl b)) : EvB (tTest te) σ W (Bo b) := fun W1 l Q q => h W1 l _ fun x W2 l2 hx => ⟨b, hx, q b W2 l2 rfl⟩
theorem eb_B {b : Bool} (h : Ev te σ W (bl b)) : EvB (tB te) σ W (Bo b) := fun W1 l Q q => h W1 l _ fun x W2 l2 hx => ⟨b, hx, q b W2 l2 rfl⟩
theorem eb_testP {P : Bool → Prop} (h : Ev te σ W (anyR P bl)) : EvB (tTest te) σ W P := fun W1 l Q q => h W1 l _ fun x W2 l2 ⟨b, hb, hx⟩ => ⟨b, hx, q b W2 l2 hb⟩
theorem eb_BP {P : Bool → Prop} (h : Ev te σ W (anyR P bl)) : EvB (tB te) σ W P := fun W1 l Q q => h W1 l _ fun x W2 l2 ⟨b, hb, hx⟩ => ⟨b, hx, q b W2 l2 hb⟩
theorem eb_imp {P P' : Bool → Prop} (h : EvB t σ W P) (g : ∀ b, P b → P' b) : EvB t σ W P' := fun W1 l Q q => h W1 l Q fun b W2 l2 hb => q b W2 l2 (g b hb)
theorem eb_is {a b : Bool} (h : EvB t σ W (Bo a)) (e : a = b) : EvB t σ W (Bo b) := by rw [← e]; exact h
theorem eb_and {a b : Bool} (h1 : EvB t σ W (Bo a)) (h2 : a = true → EvB u σ W (Bo b)) (h3 : a = false → b = false) : EvB (tAnd t u) σ W (Bo b) := fun W1 l Q q => h1 W1 l _ fun x W2 l2 hx => by
  cases hx
  cases a with
  | true =>
    show u σ W2.H Q
    exact h2 rfl W2 (l.trans l2) Q fun c W3 l3 hc => q c W3 (l2.trans l3) hc
  | false =>
    show Q false W2.H
    exact q false W2 l2 (h3 rfl).symm
theorem eb_or {a b : Bool} (h1 : EvB t σ W (Bo a)) (h2 : a = false → EvB u σ W (Bo b)) (h3 : a = true → b = true) : EvB (tOr t u) σ W (Bo b) := fun W1 l Q q => h1 W1 l _ fun x W2 l2 hx => by
  cases hx
  cases a with
  | false =>
    show u σ W2.H Q
    exact h2 rfl W2 (l.trans l2) Q fun c W3 l3 hc => q c W3 (l2.trans l3) hc
  | true =>
    show Q true W2.H
    exact q true W2 l2 (h3 rfl).symm
theorem eb_not {a : Bool} (h : EvB t σ W (Bo a)) : EvB (tNot t) σ W (Bo (!a)) := fun W1 l Q q => h W1 l _ fun x W2 l2 hx => by cases hx; exact q _ W2 l2 rfl
theorem ea_nil : EvA tNil σ W [] := fun W1 l Q q => q [] W1 (Le.refl _) True.intro
theorem ea_cons {tr : TA} (h : Ev ta σ W R) (hr : EvA tr σ W rs) : EvA (tCons ta tr) σ W (R :: rs) := fun W1 l Q q =>
  h W1 l _ fun x W2 l2 hx => hr W2 (l.trans l2) _ fun xs W3 l3 hxs => q (x :: xs) W3 (l2.trans l3) ⟨R.mono l3.b hx, hxs⟩
theorem ev_tup {ta : TA} (h : EvA ta σ W rs) (hl : rs.length ≤ 100000 := by exact Nat.le_of_ble_eq_true rfl) : Ev (tTup ta) σ W (tupR K rs) := fun W1 l Q q =>
  h W1 l _ fun vs W2 l2 hvs => ⟨by rw [hvs.len]; exact Nat.le_trans hl (by decide), fun p hp => q (.ref p) (W2.mk' p (.tup vs) hp nb_tup) (l2.trans (W2.mk_le hp)) ⟨p, vs, rfl, .inl (.inl upd_same), hvs.mono (W2.mk_le (o := .tup vs) hp).b⟩⟩
theorem ev_lst {ta : TA} (h : EvA ta σ W rs) (hl : rs.length ≤ 100000 := by exact Nat.le_of_ble_eq_true rfl) : Ev (tLst ta) σ W (lstR K rs) := fun W1 l Q q =>
  h W1 l _ fun vs W2 l2 hvs => ⟨by rw [hvs.len]; exact Nat.le_trans hl (by decide), fun p hp => q (.ref p) (W2.mk' p (.lst vs) hp) (l2.trans (W2.mk_le hp)) ⟨p, vs, rfl, upd_same, hvs.mono (W2.mk_le (o := .lst vs) hp).b⟩⟩
theorem ev_cb {ta : TA} {rc : List V → Hp → VK → Prop} (h : EvA ta σ W rs) (hr : ∀ vs W1, Le W W1 → RpA rs W1.B vs → RC rc vs W1 R) : Ev (tCB rc ta) σ W R := fun W1 l Q q =>
  h W1 l _ fun vs W2 l2 hvs => hr vs W2 (l.trans l2) hvs W2 (Le.refl _) Q fun v W3 l3 hv => q v W3 (l2.trans l3) hv
theorem ev_ixT {i : Int} (ha : Ev ta σ W (tupR K rs)) (hb : Ev tb σ W (int i)) {j : Nat} (hi : ixN rs.length i = some j) (hj : rs[j]? = some R) : Ev (tOp (rIxT K) ta tb) σ W R :=
  ev_op ha hb fun x y W1 _ hx hy W2 l2 Q q => by
    obtain ⟨a, vs, rfl, h1, h2⟩ := hx
    cases hy
    obtain ⟨v, h3, h4⟩ := h2.at hj
    exact ⟨a, vs, i, v, rfl, rfl, sqt_mono l2.b h1 |> sqt_mono W2.ex, by unfold atI; rw [h2.len, hi]; exact h3, q v W2 (Le.refl _) (R.mono l2.b h4)⟩
theorem ev_ixL {i : Int} (ha : Ev ta σ W (lstR K rs)) (hb : Ev tb σ W (int i)) {j : Nat} (hi : ixN rs.length i = some j) (hj : rs[j]? = some R) : Ev (tOp (rIxL K) ta tb) σ W R :=
  ev_op ha hb fun x y W1 _ hx hy W2 l2 Q q => by
    obtain ⟨a, vs, rfl, h1, h2⟩ := hx
    cases hy
    obtain ⟨v, h3, h4⟩ := h2.at hj
    exact ⟨a, vs, i, v, rfl, rfl, lsq (W2.ex _ _ (l2.b _ _ h1)), by unfold atI; rw [h2.len, hi]; exact h3, q v W2 (Le.refl _) (R.mono l2.b h4)⟩
/-- a comparison chain, x op y op' z -/
theorem ev_chain {r' : R2} {a b : Bool} (ha : Ev ta σ W RA) (hb : Ev tb σ W RB) (hc : Ev tc σ W RC') (h1 : ∀ x y W1, Le W W1 → RA.p W1.B x → RB.p W1.B y → RV r x y W1 (bl a)) (h2 : a = true → ∀ x y W1, Le W W1 → RB.p W1.B x → RC'.p W1.B y → RV r' x y W1 (bl b)) (h3 : a = false → b = false) : Ev (tChain r r' ta tb tc) σ W (bl b) := fun W1 l Q q =>
  ha W1 l _ fun x W2 l2 hx => hb W2 (l.trans l2) _ fun y W3 l3 hy => h1 x y W3 ((l.trans l2).trans l3) (RA.mono l3.b hx) hy W3 (Le.refl _) _ fun v W4 l4 hv => ⟨a, hv, by
    cases a with
    | true =>
      show tc σ W4.H _
      have l5 := ((l.trans l2).trans l3).trans l4
      exact hc W4 l5 _ fun z W5 l6 hz => h2 rfl y z W5 (l5.trans l6) (RB.mono (l4.trans l6).b hy) hz W5 (Le.refl _) Q fun v W6 l7 hv => q v W6 (((l2.trans l3).trans l4).trans (l6.trans l7)) hv
    | false =>
      show Q (.bl false) W4.H
      have e := h3 rfl
      subst e
      exact q _ W4 ((l2.trans l3).trans l4) rfl⟩
theorem rv_I0 {g : Int → Int → V} {i j : Int} {x y : V} (hx : x = .int i) (hy : y = .int j) : RV (rI0 g) x y W (is (g i j)) := fun W1 _ Q q => ⟨i, j, hx, hy, q _ W1 (Le.refl _) rfl⟩

theorem ev_chainI {f g : Int → Int → Bool} {i j k : Int} (ha : Ev ta σ W (int i)) (hb : Ev tb σ W (int j)) (hc : Ev tc σ W (int k)) : Ev (tChain (rI0 fun i j => .bl (f i j)) (rI0 fun i j => .bl (g i j)) ta tb tc) σ W (bl (f i j && g j k)) :=
  ev_chain (a := f i j) ha hb hc (fun x y W1 _ hx hy W2 _ Q q => ⟨i, j, hx, hy, q _ W2 (Le.refl _) rfl⟩) (fun e x y W1 _ hx hy W2 _ Q q => ⟨j, k, hx, hy, q _ W2 (Le.refl _) (by rw [e, Bool.true_and]; rfl)⟩) (fun e => by rw [e]; rfl)

/-! ### statements -/
variable {D : Ends} {tu tw tz : TS} {g : TG}
theorem s_ret (h : Ev te σ W R) (k : ∀ v W1, Le W W1 → R.p W1.B v → D.rt v W1.H) : tRet te D σ W.H := h W (Le.refl _) _ fun v W1 l hv => k v W1 l hv
theorem s_asg {i : Nat} (h : Ev te σ W R) (k : ∀ v W1, Le W W1 → R.p W1.B v → D.nx (σ.set i (some v)) W1.H) : tAsg te (gName i) D σ W.H := h W (Le.refl _) _ fun v W1 l hv => k v W1 l hv
theorem q_asg {i : Nat} (h : Ev te σ W R) (k : ∀ v W1, Le W W1 → R.p W1.B v → tz D (σ.set i (some v)) W1.H) : tSeq (tAsg te (gName i)) tz D σ W.H := s_asg (D := { D with nx := tz D }) h k
theorem s_drop (h : Ev te σ W R) (k : ∀ v W1, Le W W1 → R.p W1.B v → D.nx σ W1.H) : tDrop te D σ W.H := h W (Le.refl _) _ fun v W1 l hv => k v W1 l hv
theorem q_drop (h : Ev te σ W R) (k : ∀ v W1, Le W W1 → R.p W1.B v → tz D σ W1.H) : tSeq (tDrop te) tz D σ W.H := s_drop (D := { D with nx := tz D }) h k
theorem s_if {P : Bool → Prop} (h : EvB t σ W P) (h1 : P true → ∀ W1, Le W W1 → tu D σ W1.H) (h2 : P false → ∀ W1, Le W W1 → tw D σ W1.H) : tIfS t tu tw D σ W.H := h W (Le.refl _) _ fun b W1 l hb => by
  cases b with
  | true => exact h1 hb W1 l
  | false => exact h2 hb W1 l
theorem q_if {P : Bool → Prop} (h : EvB t σ W P) (h1 : P true → ∀ W1, Le W W1 → tu { D with nx := tz D } σ W1.H) (h2 : P false → ∀ W1, Le W W1 → tw { D with nx := tz D } σ W1.H) : tSeq (tIfS t tu tw) tz D σ W.H := s_if (D := { D with nx := tz D }) h h1 h2
/-- an if without else -/
theorem q_when {P : Bool → Prop} (h : EvB t σ W P) (h1 : P true → ∀ W1, Le W W1 → tu { D with nx := tz D } σ W1.H) (h2 : P false → ∀ W1, Le W W1 → tz D σ W1.H) : tSeq (tIfS t tu tNext) tz D σ W.H := s_if (D := { D with nx := tz D }) h h1 h2
theorem s_when {P : Bool → Prop} (h : EvB t σ W P) (h1 : P true → ∀ W1, Le W W1 → tu D σ W1.H) (h2 : P false → ∀ W1, Le W W1 → D.nx σ W1.H) : tIfS t tu tNext D σ W.H := s_if h h1 h2
/-- an if that is not entered -/
theorem q_skip (h : EvB t σ W (Bo false)) (k : ∀ W1, Le W W1 → tz D σ W1.H) : tSeq (tIfS t tu tNext) tz D σ W.H := q_when h (fun e => nomatch e) fun _ => k
theorem s_skip (h : EvB t σ W (Bo false)) (k : ∀ W1, Le W W1 → D.nx σ W1.H) : tIfS t tu tNext D σ W.H := s_when h (fun e => nomatch e) fun _ => k
theorem s_par {i j : Nat} {ta : TA} (h : EvA ta σ W [RA, RB]) (k : ∀ v u W1, Le W W1 → RA.p W1.B v → RB.p W1.B u → D.nx ((σ.set i (some v)).set j (some u)) W1.H) : tPar i j ta D σ W.H := h W (Le.refl _) _ fun vs W1 l hvs => by
  obtain ⟨v, u, e, h1, h2⟩ := hvs.two
  exact ⟨v, u, e, k v u W1 l h1 h2⟩
theorem q_par {i j : Nat} {ta : TA} (h : EvA ta σ W [RA, RB]) (k : ∀ v u W1, Le W W1 → RA.p W1.B v → RB.p W1.B u → tz D ((σ.set i (some v)).set j (some u)) W1.H) : tSeq (tPar i j ta) tz D σ W.H := s_par (D := { D with nx := tz D }) h k
theorem s_augI {i : Nat} {f : Int → Int → Int} {a b : Int} (hx : σ[i]? = some (some (.int a))) (h : Ev te σ W (int b)) (k : ∀ W1, Le W W1 → D.nx (σ.set i (some (.int (f a b)))) W1.H) : tAug i te (ipI f) D σ W.H :=
  ⟨_, hx, h W (Le.refl _) _ fun v W1 l hv => ⟨a, b, rfl, hv, k W1 l⟩⟩
theorem q_augI {i : Nat} {f : Int → Int → Int} {a b : Int} (hx : σ[i]? = some (some (.int a))) (h : Ev te σ W (int b)) (k : ∀ W1, Le W W1 → tz D (σ.set i (some (.int (f a b)))) W1.H) : tSeq (tAug i te (ipI f)) tz D σ W.H := s_augI (D := { D with nx := tz D }) hx h k

theorem s_augR {i : Nat} {ti : TIp} {a : V} (hx : σ[i]? = some (some a)) (h : Ev te σ W RA) (hr : ∀ y W1, RA.p W1.B y → RV ti a y W1 R) (k : ∀ v W1, Le W W1 → R.p W1.B v → D.nx (σ.set i (some v)) W1.H) : tAug i te ti D σ W.H :=
  ⟨a, hx, h W (Le.refl _) _ fun y W1 l hy => hr y W1 hy W1 (Le.refl _) _ fun v W2 l2 hv => k v W2 (l.trans l2) hv⟩
theorem q_augR {i : Nat} {ti : TIp} {a : V} (hx : σ[i]? = some (some a)) (h : Ev te σ W RA) (hr : ∀ y W1, RA.p W1.B y → RV ti a y W1 R) (k : ∀ v W1, Le W W1 → R.p W1.B v → tz D (σ.set i (some v)) W1.H) : tSeq (tAug i te ti) tz D σ W.H := s_augR (D := { D with nx := tz D }) hx h hr k

/-! ### loops -/
theorem s_forL {tl : TE} (h : Ev tl σ W (lstR K rs)) (Pv : Nat → L2.St → Wd → Prop) (h0 : ∀ W1, Le W W1 → Pv 0 σ W1)
    (hs : ∀ (W0 : Wd) (i : Nat) (r : Rp) (x : V) σ' W', Le W W0 → rs[i]? = some r → Same W0.B W'.B → r.p W'.B x → Pv i σ' W' → g x σ' W'.H fun σ2 H2 => tu { D with nx := fun σ3 H3 => ∃ W3 : Wd, W3.H = H3 ∧ Same W0.B W3.B ∧ Pv (i + 1) σ3 W3, ct := fun σ3 H3 => ∃ W3 : Wd, W3.H = H3 ∧ Same W0.B W3.B ∧ Pv (i + 1) σ3 W3, bk := D.nx } σ2 H2)
    (hd : ∀ σ' W', Same W.B W'.B → Pv rs.length σ' W' → D.nx σ' W'.H) : tFor (iList K tl) g tu D σ W.H := h W (Le.refl _) _ fun x W0 l0 hx => by
  obtain ⟨a, vs, rfl, h1, h2⟩ := hx
  refine ⟨a, rfl, ⟨vs, lsq (W0.ex _ _ h1)⟩, for_list (K := K) (a := a) (xs := vs) (fun i σ' H' => ∃ W' : Wd, W'.H = H' ∧ Same W0.B W'.B ∧ Pv i σ' W') ⟨W0, rfl, Same.refl _, h0 W0 l0⟩ (fun i σ' H' _ ⟨W', e, s, _⟩ => by rw [← e]; exact lsq (W'.ex _ _ (s _ _ h1))) ?_ ?_⟩
  · rintro i x σ' H' hi ⟨W', rfl, s, p⟩
    obtain ⟨r, h3, h4⟩ := h2.get hi
    exact hs W0 i r x σ' W' l0 h3 s (r.mono s h4) p
  · rintro σ' H' ⟨W', rfl, s, p⟩
    rw [h2.len] at p
    exact hd σ' W' (l0.b.trans s) p
theorem q_forL {tl : TE} (h : Ev tl σ W (lstR K rs)) (Pv : Nat → L2.St → Wd → Prop) (h0 : ∀ W1, Le W W1 → Pv 0 σ W1)
    (hs : ∀ (W0 : Wd) (i : Nat) (r : Rp) (x : V) σ' W', Le W W0 → rs[i]? = some r → Same W0.B W'.B → r.p W'.B x → Pv i σ' W' → g x σ' W'.H fun σ2 H2 => tu { D with nx := fun σ3 H3 => ∃ W3 : Wd, W3.H = H3 ∧ Same W0.B W3.B ∧ Pv (i + 1) σ3 W3, ct := fun σ3 H3 => ∃ W3 : Wd, W3.H = H3 ∧ Same W0.B W3.B ∧ Pv (i + 1) σ3 W3, bk := tz D } σ2 H2)
    (hd : ∀ σ' W', Same W.B W'.B → Pv rs.length σ' W' → tz D σ' W'.H) : tSeq (tFor (iList K tl) g tu) tz D σ W.H := s_forL (D := { D with nx := tz D }) h Pv h0 hs hd
theorem s_forR {ta : TA} {j : Nat} {n : Int} (h : EvA ta σ W [int n]) (hn : 0 ≤ n ∧ n ≤ 100000) (Pv : Nat → L2.St → Wd → Prop) (h0 : ∀ W1, Le W W1 → Pv 0 σ W1)
    (hs : ∀ (i : Nat) σ' W', (i : Int) < n → Pv i σ' W' → tu { D with nx := fun σ3 H3 => ∃ W3 : Wd, W3.H = H3 ∧ Pv (i + 1) σ3 W3, ct := fun σ3 H3 => ∃ W3 : Wd, W3.H = H3 ∧ Pv (i + 1) σ3 W3, bk := D.nx } (σ'.set j (some (.int (i : Int)))) W'.H)
    (hd : ∀ σ' W', Pv n.toNat σ' W' → D.nx σ' W'.H) : tFor (iRng1 ta) (gName j) tu D σ W.H := h W (Le.refl _) _ fun vs W0 l0 hvs => by
  obtain ⟨v, rfl, rfl⟩ := hvs.one
  refine ⟨n, rfl, by omega, by omega, for_range (lo := 0) (n := n.toNat) (fun i σ' H' => ∃ W' : Wd, W'.H = H' ∧ Pv i σ' W') ⟨W0, rfl, h0 W0 l0⟩ ?_ ?_⟩
  · rintro i σ' H' hi ⟨W', rfl, p⟩
    have e0 : (0 : Int) + (i : Int) = (i : Int) := Int.zero_add _
    show tu _ (σ'.set j (some (.int ((0 : Int) + (i : Int))))) W'.H
    rw [e0]
    exact hs i σ' W' (by omega) p
  · rintro σ' H' ⟨W', rfl, p⟩
    exact hd σ' W' p
theorem q_forR {ta : TA} {j : Nat} {n : Int} (h : EvA ta σ W [int n]) (hn : 0 ≤ n ∧ n ≤ 100000) (Pv : Nat → L2.St → Wd → Prop) (h0 : ∀ W1, Le W W1 → Pv 0 σ W1)
    (hs : ∀ (i : Nat) σ' W', (i : Int) < n → Pv i σ' W' → tu { D with nx := fun σ3 H3 => ∃ W3 : Wd, W3.H = H3 ∧ Pv (i + 1) σ3 W3, ct := fun σ3 H3 => ∃ W3 : Wd, W3.H = H3 ∧ Pv (i + 1) σ3 W3, bk := tz D } (σ'.set j (some (.int (i : Int)))) W'.H)
    (hd : ∀ σ' W', Pv n.toNat σ' W' → tz D σ' W'.H) : tSeq (tFor (iRng1 ta) (gName j) tu) tz D σ W.H := s_forR (D := { D with nx := tz D }) h hn Pv h0 hs hd
theorem s_while {tb : TS} {tc : TT} {c : L2.St → Wd → Bool} (Pv : L2.St → Wd → Prop) (μ : L2.St → Wd → Nat) (h0 : Pv σ W) (hc : ∀ σ' W', Pv σ' W' → EvB tc σ' W' (Bo (c σ' W')))
    (hs : ∀ σ' W' W1, Pv σ' W' → c σ' W' = true → Le W' W1 → tb { D with nx := fun σ3 H3 => ∃ W3 : Wd, W3.H = H3 ∧ Pv σ3 W3 ∧ μ σ3 W3 < μ σ' W', ct := fun σ3 H3 => ∃ W3 : Wd, W3.H = H3 ∧ Pv σ3 W3 ∧ μ σ3 W3 < μ σ' W', bk := D.nx } σ' W1.H)
    (hd : ∀ σ' W' W1, Pv σ' W' → c σ' W' = false → Le W' W1 → D.nx σ' W1.H) : tWhile tc tb D σ W.H := by
  refine ⟨fun m σ' H' => ∃ W' : Wd, W'.H = H' ∧ Pv σ' W' ∧ μ σ' W' = m, ⟨_, W, rfl, h0, rfl⟩, ?_⟩
  rintro m σ' H' ⟨W', rfl, p, e⟩
  refine hc σ' W' p W' (Le.refl _) _ fun b W1 l hb => ?_
  cases b with
  | true =>
    refine ⟨_, ?_, hs σ' W' W1 p hb.symm l⟩
    rintro σ3 H3 ⟨W3, rfl, p3, h3⟩
    exact ⟨_, by rw [← e]; exact h3, W3, rfl, p3, rfl⟩
  | false => exact hd σ' W' W1 p hb.symm l
theorem q_while {tb : TS} {tc : TT} {c : L2.St → Wd → Bool} (Pv : L2.St → Wd → Prop) (μ : L2.St → Wd → Nat) (h0 : Pv σ W) (hc : ∀ σ' W', Pv σ' W' → EvB tc σ' W' (Bo (c σ' W')))
    (hs : ∀ σ' W' W1, Pv σ' W' → c σ' W' = true → Le W' W1 → tb { D with nx := fun σ3 H3 => ∃ W3 : Wd, W3.H = H3 ∧ Pv σ3 W3 ∧ μ σ3 W3 < μ σ' W', ct := fun σ3 H3 => ∃ W3 : Wd, W3.H = H3 ∧ Pv σ3 W3 ∧ μ σ3 W3 < μ σ' W', bk := tz D } σ' W1.H)
    (hd : ∀ σ' W' W1, Pv σ' W' → c σ' W' = false → Le W' W1 → tz D σ' W1.H) : tSeq (tWhile tc tb) tz D σ W.H := s_while (D := { D with nx := tz D }) Pv μ h0 hc hs hd

/-! ### promises -/
def spG {ι : Type} (args : ι → List Rp) (pre : Wd → ι → Prop) (res : ι → Rp) : Sp := fun vs H Q _ => ∃ (W : Wd) (x : ι), W.H = H ∧ RpA (args x) W.B vs ∧ pre W x ∧ ∀ v W', Le W W' → (res x).p W'.B v → Q v W'.H
theorem spG_len {ι : Type} {args : ι → List Rp} {pre : Wd → ι → Prop} {res : ι → Rp} {n : Nat} (h : ∀ x, (args x).length = n) : ∀ vs H Q E, spG args pre res vs H Q E → vs.length = n := fun vs H Q E ⟨W, x, _, a, _⟩ => by rw [a.len, h x]
theorem ev_call {ι : Type} {args : ι → List Rp} {pre : Wd → ι → Prop} {res : ι → Rp} {t : TA} {E : XK} {as : List Rp} (h : EvA t σ W as) (x : ι) (ha : args x = as) (hp : ∀ W1, Le W W1 → pre W1 x) : Ev (tCall (spG args pre res) [] E t) σ W (res x) := fun W1 l Q q =>
  h W1 l _ fun vs W2 l2 hvs => ⟨W2, x, rfl, by rw [List.append_nil, ha]; exact hvs, hp W2 (l.trans l2), fun v W3 l3 hv => q v W3 (l2.trans l3) hv⟩
theorem ev_callD {ι : Type} {args : ι → List Rp} {pre : Wd → ι → Prop} {res : ι → Rp} {t : TA} {E : XK} {dvs : List V} {as : List Rp} (h : EvA t σ W as) (x : ι) (ha : args x = as ++ dvs.map is) (hp : ∀ W1, Le W W1 → pre W1 x) : Ev (tCall (spG args pre res) dvs E t) σ W (res x) := fun W1 l Q q =>
  h W1 l _ fun vs W2 l2 hvs => ⟨W2, x, rfl, by
    rw [ha]
    refine hvs.app ?_
    clear ha
    induction dvs with
    | nil => exact True.intro
    | cons v r ih => exact ⟨rfl, ih⟩, hp W2 (l.trans l2), fun v W3 l3 hv => q v W3 (l2.trans l3) hv⟩
/-- an instance of the class at C stands there -/
def InsP (C : Addr) (m : Str) (r : Rp) : Prop := ∀ (H : Hp) (v : V), r.p H v → ∃ a dx fs, v = .ref a ∧ H a = some (.ins C dx fs) ∧ fs.lookup m = none
theorem ev_meth {ι : Type} {args : ι → List Rp} {pre : Wd → ι → Prop} {res : ι → Rp} {t : TA} {E : XK} {C : Addr} {m : Str} {as : List Rp} (h0 : Ev te σ W R) (hi : InsP C m R) (h : EvA t σ W as) (x : ι) (ha : args x = R :: as) (hp : ∀ W1, Le W W1 → pre W1 x) : Ev (tMeth C m (spG args pre res) [] E te t) σ W (res x) := fun W1 l Q q =>
  h0 W1 l _ fun y W2 l2 hy => by
    obtain ⟨a, dx, fs, h1, h2, h3⟩ := hi _ _ hy
    refine ⟨a, dx, fs, h1, W2.ex _ _ h2, h3, ?_⟩
    exact h W2 (l.trans l2) _ fun vs W3 l3 hvs => ⟨W3, x, rfl, by rw [List.append_nil, ha]; exact ⟨R.mono l3.b hy, hvs⟩, hp W3 ((l.trans l2).trans l3), fun v W4 l4 hv => q v W4 ((l2.trans l3).trans l4) hv⟩
/-- a new instance: its __init__, from the world ahead of it -/
def spI {ι : Type} (C : Addr) (args : ι → List Rp) (pre : Wd → ι → Prop) (res : ι → Rp) : Sp := fun vs H Q _ => ∃ (W : Wd) (y : ι) (x dx : Addr) (us : List V), vs = .ref x :: us ∧ W.H x = none ∧ W.H dx = none ∧ dx ≠ x ∧ H = upd (upd W.H dx (.own x)) x (.ins C dx []) ∧ RpA (args y) W.B us ∧ pre W y ∧ ∀ W', Le W W' → (res y).p W'.B (.ref x) → Q .non W'.H
theorem spI_len {ι : Type} {C : Addr} {args : ι → List Rp} {pre : Wd → ι → Prop} {res : ι → Rp} {n : Nat} (h : ∀ x, (args x).length + 1 = n) : ∀ vs H Q E, spI C args pre res vs H Q E → vs.length = n := fun vs H Q E ⟨W, y, x, dx, us, e, _, _, _, _, a, _⟩ => by rw [e, List.length_cons, a.len, h y]
theorem ev_make {ι : Type} {args : ι → List Rp} {pre : Wd → ι → Prop} {res : ι → Rp} {t : TA} {E : XK} {C : Addr} {dvs : List V} {as : List Rp} (h : EvA t σ W as) (x : ι) (ha : args x = as ++ dvs.map is) (hp : ∀ W1, Le W W1 → pre W1 x) : Ev (tMake C (spI C args pre res) dvs E t) σ W (res x) := fun W1 l Q q =>
  h W1 l _ fun vs W2 l2 hvs y dx hy hdx hne => ⟨W2, x, y, dx, vs ++ dvs, rfl, hy, hdx, hne, rfl, by
    rw [ha]
    refine hvs.app ?_
    clear ha
    induction dvs with
    | nil => exact True.intro
    | cons v r ih => exact ⟨rfl, ih⟩, hp W2 (l.trans l2), fun W3 l3 hv => ⟨rfl, q _ W3 (l2.trans l3) hv⟩⟩
end
end Fs

set_option Elab.async false
set_option linter.all false
set_option maxRecDepth 100000
set_option maxHeartbeats 1000000
namespace Fs
open PySem PySem.Spec PyProof.Rows L2
/-- what stands behind the top -/
structure Tx (K : PySem.W.Frag) (mg : Str → Option Value) : Prop where
  d_is_whole : ∃ fd, FunD K "is_whole" "is_whole" (defArgs s_is_whole) (defBody s_is_whole) (defScope s_is_whole) [] [] (He.fAd K ("is_whole", none)) fd
  d_is_prime : ∃ fd, FunD K "is_prime" "is_prime" (defArgs s_is_prime) (defBody s_is_prime) (defScope s_is_prime) [] [] (He.fAd K ("is_prime", none)) fd
  d_lowest : ∃ fd, FunD K "lowest" "lowest" (defArgs s_lowest) (defBody s_lowest) (defScope s_lowest) [] [] (He.fAd K ("lowest", none)) fd
  d_Field_mk : ∃ fd, FunD K "__init__" "Field.__init__" (defArgs s_Field_mk) (defBody s_Field_mk) (defScope s_Field_mk) [V.int 0] [] (He.fAd K ("Field", some "__init__")) fd
  d_Field_eq : ∃ fd, FunD K "__eq__" "Field.__eq__" (defArgs s_Field_eq) (defBody s_Field_eq) (defScope s_Field_eq) [] [] (He.fAd K ("Field", some "__eq__")) fd
  d_Field_prime : ∃ fd, FunD K "prime" "Field.prime" (defArgs s_Field_prime) (defBody s_Field_prime) (defScope s_Field_prime) [] [] (He.fAd K ("Field", some "prime")) fd
  d_Field_made : ∃ fd, FunD K "made" "Field.made" (defArgs s_Field_made) (defBody s_Field_made) (defScope s_Field_made) [V.int 1] [] (He.fAd K ("Field", some "made")) fd
  d_Field_plus : ∃ fd, FunD K "plus" "Field.plus" (defArgs s_Field_plus) (defBody s_Field_plus) (defScope s_Field_plus) [] [] (He.fAd K ("Field", some "plus")) fd
  d_Field_times : ∃ fd, FunD K "times" "Field.times" (defArgs s_Field_times) (defBody s_Field_times) (defScope s_Field_times) [] [] (He.fAd K ("Field", some "times")) fd
  d_Field_is_number : ∃ fd, FunD K "is_number" "Field.is_number" (defArgs s_Field_is_number) (defBody s_Field_is_number) (defScope s_Field_is_number) [] [] (He.fAd K ("Field", some "is_number")) fd
  d_is_place : ∃ fd, FunD K "is_place" "is_place" (defArgs s_is_place) (defBody s_is_place) (defScope s_is_place) [] [] (He.fAd K ("is_place", none)) fd
  d_is_product : ∃ fd, FunD K "is_product" "is_product" (defArgs s_is_product) (defBody s_is_product) (defScope s_is_product) [] [] (He.fAd K ("is_product", none)) fd
  d_joined_product : ∃ fd, FunD K "joined_product" "joined_product" (defArgs s_joined_product) (defBody s_joined_product) (defScope s_joined_product) [] [] (He.fAd K ("joined_product", none)) fd
  d_look_at_terms : ∃ fd, FunD K "look_at_terms" "look_at_terms" (defArgs s_look_at_terms) (defBody s_look_at_terms) (defScope s_look_at_terms) [] [] (He.fAd K ("look_at_terms", none)) fd
  d_gathered : ∃ fd, FunD K "gathered" "gathered" (defArgs s_gathered) (defBody s_gathered) (defScope s_gathered) [] [] (He.fAd K ("gathered", none)) fd
  d_Sum_mk : ∃ fd, FunD K "__init__" "Sum.__init__" (defArgs s_Sum_mk) (defBody s_Sum_mk) (defScope s_Sum_mk) [V.non] [] (He.fAd K ("Sum", some "__init__")) fd
  d_Sum_eq : ∃ fd, FunD K "__eq__" "Sum.__eq__" (defArgs s_Sum_eq) (defBody s_Sum_eq) (defScope s_Sum_eq) [] [] (He.fAd K ("Sum", some "__eq__")) fd
  d_Sum_len : ∃ fd, FunD K "__len__" "Sum.__len__" (defArgs s_Sum_len) (defBody s_Sum_len) (defScope s_Sum_len) [] [] (He.fAd K ("Sum", some "__len__")) fd
  d_Sum_field : ∃ fd, FunD K "field" "Sum.field" (defArgs s_Sum_field) (defBody s_Sum_field) (defScope s_Sum_field) [] [] (He.fAd K ("Sum", some "field")) fd
  d_Sum_terms : ∃ fd, FunD K "terms" "Sum.terms" (defArgs s_Sum_terms) (defBody s_Sum_terms) (defScope s_Sum_terms) [] [] (He.fAd K ("Sum", some "terms")) fd
  d_Sum_degree : ∃ fd, FunD K "degree" "Sum.degree" (defArgs s_Sum_degree) (defBody s_Sum_degree) (defScope s_Sum_degree) [] [] (He.fAd K ("Sum", some "degree")) fd
  d_Sum_reach : ∃ fd, FunD K "reach" "Sum.reach" (defArgs s_Sum_reach) (defBody s_Sum_reach) (defScope s_Sum_reach) [] [] (He.fAd K ("Sum", some "reach")) fd
  d_Sum_look_alike : ∃ fd, FunD K "look_alike" "Sum.look_alike" (defArgs s_Sum_look_alike) (defBody s_Sum_look_alike) (defScope s_Sum_look_alike) [] [] (He.fAd K ("Sum", some "look_alike")) fd
  d_Sum_plus : ∃ fd, FunD K "plus" "Sum.plus" (defArgs s_Sum_plus) (defBody s_Sum_plus) (defScope s_Sum_plus) [] [] (He.fAd K ("Sum", some "plus")) fd
  d_Sum_times : ∃ fd, FunD K "times" "Sum.times" (defArgs s_Sum_times) (defBody s_Sum_times) (defScope s_Sum_times) [] [] (He.fAd K ("Sum", some "times")) fd
  d_Sum_renamed : ∃ fd, FunD K "renamed" "Sum.renamed" (defArgs s_Sum_renamed) (defBody s_Sum_renamed) (defScope s_Sum_renamed) [] [] (He.fAd K ("Sum", some "renamed")) fd
  d_Sum_worth : ∃ fd, FunD K "worth" "Sum.worth" (defArgs s_Sum_worth) (defBody s_Sum_worth) (defScope s_Sum_worth) [] [] (He.fAd K ("Sum", some "worth")) fd
  d_is_wish : ∃ fd, FunD K "is_wish" "is_wish" (defArgs s_is_wish) (defBody s_is_wish) (defScope s_is_wish) [] [] (He.fAd K ("is_wish", none)) fd
  d_look_at_wishes : ∃ fd, FunD K "look_at_wishes" "look_at_wishes" (defArgs s_look_at_wishes) (defBody s_look_at_wishes) (defScope s_look_at_wishes) [] [] (He.fAd K ("look_at_wishes", none)) fd
  d_is_order : ∃ fd, FunD K "is_order" "is_order" (defArgs s_is_order) (defBody s_is_order) (defScope s_is_order) [] [] (He.fAd K ("is_order", none)) fd
  d_System_mk : ∃ fd, FunD K "__init__" "System.__init__" (defArgs s_System_mk) (defBody s_System_mk) (defScope s_System_mk) [V.non] [] (He.fAd K ("System", some "__init__")) fd
  d_System_field : ∃ fd, FunD K "field" "System.field" (defArgs s_System_field) (defBody s_System_field) (defScope s_System_field) [] [] (He.fAd K ("System", some "field")) fd
  d_System_places : ∃ fd, FunD K "places" "System.places" (defArgs s_System_places) (defBody s_System_places) (defScope s_System_places) [] [] (He.fAd K ("System", some "places")) fd
  d_System_noughts : ∃ fd, FunD K "noughts" "System.noughts" (defArgs s_System_noughts) (defBody s_System_noughts) (defScope s_System_noughts) [] [] (He.fAd K ("System", some "noughts")) fd
  d_System_uppers : ∃ fd, FunD K "uppers" "System.uppers" (defArgs s_System_uppers) (defBody s_System_uppers) (defScope s_System_uppers) [] [] (He.fAd K ("System", some "uppers")) fd
  d_System_renamed : ∃ fd, FunD K "renamed" "System.renamed" (defArgs s_System_renamed) (defBody s_System_renamed) (defScope s_System_renamed) [] [] (He.fAd K ("System", some "renamed")) fd
  d_is_row : ∃ fd, FunD K "is_row" "is_row" (defArgs s_is_row) (defBody s_is_row) (defScope s_is_row) [] [] (He.fAd K ("is_row", none)) fd
  d_grants : ∃ fd, FunD K "grants" "grants" (defArgs s_grants) (defBody s_grants) (defScope s_grants) [] [] (He.fAd K ("grants", none)) fd
  d_is_filling : ∃ fd, FunD K "is_filling" "is_filling" (defArgs s_is_filling) (defBody s_is_filling) (defScope s_is_filling) [V.bl false] [] (He.fAd K ("is_filling", none)) fd
  d_look_at_degree : ∃ fd, FunD K "look_at_degree" "look_at_degree" (defArgs s_look_at_degree) (defBody s_look_at_degree) (defScope s_look_at_degree) [] [] (He.fAd K ("look_at_degree", none)) fd
  d_products_many : ∃ fd, FunD K "products_many" "products_many" (defArgs s_products_many) (defBody s_products_many) (defScope s_products_many) [] [] (He.fAd K ("products_many", none)) fd
  d_products_of : ∃ fd, FunD K "products_of" "products_of" (defArgs s_products_of) (defBody s_products_of) (defScope s_products_of) [] [] (He.fAd K ("products_of", none)) fd
  d_comes_to_one : ∃ fd, FunD K "comes_to_one" "comes_to_one" (defArgs s_comes_to_one) (defBody s_comes_to_one) (defScope s_comes_to_one) [] [] (He.fAd K ("comes_to_one", none)) fd
  d_are_multipliers : ∃ fd, FunD K "are_multipliers" "are_multipliers" (defArgs s_are_multipliers) (defBody s_are_multipliers) (defScope s_are_multipliers) [] [] (He.fAd K ("are_multipliers", none)) fd
  d_lets_showing : ∃ fd, FunD K "lets_showing" "lets_showing" (defArgs s_lets_showing) (defBody s_lets_showing) (defScope s_lets_showing) [] [] (He.fAd K ("lets_showing", none)) fd
  d_are_numbers : ∃ fd, FunD K "are_numbers" "are_numbers" (defArgs s_are_numbers) (defBody s_are_numbers) (defScope s_are_numbers) [] [] (He.fAd K ("are_numbers", none)) fd
  d_worth_beside : ∃ fd, FunD K "worth_beside" "worth_beside" (defArgs s_worth_beside) (defBody s_worth_beside) (defScope s_worth_beside) [] [] (He.fAd K ("worth_beside", none)) fd
  d_lets_worths : ∃ fd, FunD K "lets_worths" "lets_worths" (defArgs s_lets_worths) (defBody s_lets_worths) (defScope s_lets_worths) [] [] (He.fAd K ("lets_worths", none)) fd
  d_cut : ∃ fd, FunD K "cut" "cut" (defArgs s_cut) (defBody s_cut) (defScope s_cut) [] [] (He.fAd K ("cut", none)) fd
  d_worths_of : ∃ fd, FunD K "worths_of" "worths_of" (defArgs s_worths_of) (defBody s_worths_of) (defScope s_worths_of) [] [] (He.fAd K ("worths_of", none)) fd
  d_l_room : ∃ fd, FunD K "_law_room" "_law_room" (defArgs s_l_room) (defBody s_l_room) (defScope s_l_room) [] [] (He.fAd K ("_law_room", none)) fd
  d_l_take : ∃ fd, FunD K "_law_take" "_law_take" (defArgs s_l_take) (defBody s_l_take) (defScope s_l_take) [] [] (He.fAd K ("_law_take", none)) fd
  d_l_lowest : ∃ fd, FunD K "_law_lowest" "_law_lowest" (defArgs s_l_lowest) (defBody s_l_lowest) (defScope s_l_lowest) [] [] (He.fAd K ("_law_lowest", none)) fd
  d_l_make : ∃ fd, FunD K "_law_make" "_law_make" (defArgs s_l_make) (defBody s_l_make) (defScope s_l_make) [] [] (He.fAd K ("_law_make", none)) fd
  d_l_plus : ∃ fd, FunD K "_law_plus" "_law_plus" (defArgs s_l_plus) (defBody s_l_plus) (defScope s_l_plus) [] [] (He.fAd K ("_law_plus", none)) fd
  d_l_times : ∃ fd, FunD K "_law_times" "_law_times" (defArgs s_l_times) (defBody s_l_times) (defScope s_l_times) [] [] (He.fAd K ("_law_times", none)) fd
  d_l_prime : ∃ fd, FunD K "_law_prime" "_law_prime" (defArgs s_l_prime) (defBody s_l_prime) (defScope s_l_prime) [] [] (He.fAd K ("_law_prime", none)) fd
  d_l_number : ∃ fd, FunD K "_law_number" "_law_number" (defArgs s_l_number) (defBody s_l_number) (defScope s_l_number) [] [] (He.fAd K ("_law_number", none)) fd
  d_l_product : ∃ fd, FunD K "_law_product" "_law_product" (defArgs s_l_product) (defBody s_l_product) (defScope s_l_product) [] [] (He.fAd K ("_law_product", none)) fd
  d_l_terms : ∃ fd, FunD K "_law_terms" "_law_terms" (defArgs s_l_terms) (defBody s_l_terms) (defScope s_l_terms) [] [] (He.fAd K ("_law_terms", none)) fd
  d_l_gather : ∃ fd, FunD K "_law_gather" "_law_gather" (defArgs s_l_gather) (defBody s_l_gather) (defScope s_l_gather) [] [] (He.fAd K ("_law_gather", none)) fd
  d_l_worth : ∃ fd, FunD K "_law_worth" "_law_worth" (defArgs s_l_worth) (defBody s_l_worth) (defScope s_l_worth) [] [] (He.fAd K ("_law_worth", none)) fd
  d_l_filling : ∃ fd, FunD K "_law_filling" "_law_filling" (defArgs s_l_filling) (defBody s_l_filling) (defScope s_l_filling) [] [] (He.fAd K ("_law_filling", none)) fd
  d_l_wish : ∃ fd, FunD K "_law_wish" "_law_wish" (defArgs s_l_wish) (defBody s_l_wish) (defScope s_l_wish) [] [] (He.fAd K ("_law_wish", none)) fd
  d_l_mult : ∃ fd, FunD K "_law_mult" "_law_mult" (defArgs s_l_mult) (defBody s_l_mult) (defScope s_l_mult) [] [] (He.fAd K ("_law_mult", none)) fd
  d_l_all : ∃ fd, FunD K "_law_all" "_law_all" (defArgs s_l_all) (defBody s_l_all) (defScope s_l_all) [] [] (He.fAd K ("_law_all", none)) fd
  d_l_products : ∃ fd, FunD K "_law_products" "_law_products" (defArgs s_l_products) (defBody s_l_products) (defScope s_l_products) [] [] (He.fAd K ("_law_products", none)) fd
  d_l_degree : ∃ fd, FunD K "_law_degree" "_law_degree" (defArgs s_l_degree) (defBody s_l_degree) (defScope s_l_degree) [] [] (He.fAd K ("_law_degree", none)) fd
  d_l_shown_by : ∃ fd, FunD K "_law_shown_by" "_law_shown_by" (defArgs s_l_shown_by) (defBody s_l_shown_by) (defScope s_l_shown_by) [] [] (He.fAd K ("_law_shown_by", none)) fd
  d_l_row_worths : ∃ fd, FunD K "_law_row_worths" "_law_row_worths" (defArgs s_l_row_worths) (defBody s_l_row_worths) (defScope s_l_row_worths) [] [] (He.fAd K ("_law_row_worths", none)) fd
  d_l_mixture : ∃ fd, FunD K "_law_mixture" "_law_mixture" (defArgs s_l_mixture) (defBody s_l_mixture) (defScope s_l_mixture) [] [] (He.fAd K ("_law_mixture", none)) fd
  d_l_no_worths : ∃ fd, FunD K "_law_no_worths" "_law_no_worths" (defArgs s_l_no_worths) (defBody s_l_no_worths) (defScope s_l_no_worths) [] [] (He.fAd K ("_law_no_worths", none)) fd
  d_l_called : ∃ fd, FunD K "_law_called" "_law_called" (defArgs s_l_called) (defBody s_l_called) (defScope s_l_called) [] [] (He.fAd K ("_law_called", none)) fd
  d_l_filled_right : ∃ fd, FunD K "_law_filled_right" "_law_filled_right" (defArgs s_l_filled_right) (defBody s_l_filled_right) (defScope s_l_filled_right) [] [] (He.fAd K ("_law_filled_right", none)) fd
  d_law : ∃ fd, FunD K "law" "law" (defArgs s_law) (defBody s_law) (defScope s_law) [] [] (He.fAd K ("law", none)) fd
  g_is_whole : mg "is_whole" = some (.ref (He.ga K "is_whole"))
  g_is_prime : mg "is_prime" = some (.ref (He.ga K "is_prime"))
  g_lowest : mg "lowest" = some (.ref (He.ga K "lowest"))
  g_is_place : mg "is_place" = some (.ref (He.ga K "is_place"))
  g_is_product : mg "is_product" = some (.ref (He.ga K "is_product"))
  g_joined_product : mg "joined_product" = some (.ref (He.ga K "joined_product"))
  g_look_at_terms : mg "look_at_terms" = some (.ref (He.ga K "look_at_terms"))
  g_gathered : mg "gathered" = some (.ref (He.ga K "gathered"))
  g_is_wish : mg "is_wish" = some (.ref (He.ga K "is_wish"))
  g_look_at_wishes : mg "look_at_wishes" = some (.ref (He.ga K "look_at_wishes"))
  g_is_order : mg "is_order" = some (.ref (He.ga K "is_order"))
  g_is_row : mg "is_row" = some (.ref (He.ga K "is_row"))
  g_grants : mg "grants" = some (.ref (He.ga K "grants"))
  g_is_filling : mg "is_filling" = some (.ref (He.ga K "is_filling"))
  g_look_at_degree : mg "look_at_degree" = some (.ref (He.ga K "look_at_degree"))
  g_products_many : mg "products_many" = some (.ref (He.ga K "products_many"))
  g_products_of : mg "products_of" = some (.ref (He.ga K "products_of"))
  g_comes_to_one : mg "comes_to_one" = some (.ref (He.ga K "comes_to_one"))
  g_are_multipliers : mg "are_multipliers" = some (.ref (He.ga K "are_multipliers"))
  g_lets_showing : mg "lets_showing" = some (.ref (He.ga K "lets_showing"))
  g_are_numbers : mg "are_numbers" = some (.ref (He.ga K "are_numbers"))
  g_worth_beside : mg "worth_beside" = some (.ref (He.ga K "worth_beside"))
  g_lets_worths : mg "lets_worths" = some (.ref (He.ga K "lets_worths"))
  g_cut : mg "cut" = some (.ref (He.ga K "cut"))
  g_worths_of : mg "worths_of" = some (.ref (He.ga K "worths_of"))
  g_l_room : mg "_law_room" = some (.ref (He.ga K "_law_room"))
  g_l_take : mg "_law_take" = some (.ref (He.ga K "_law_take"))
  g_l_lowest : mg "_law_lowest" = some (.ref (He.ga K "_law_lowest"))
  g_l_make : mg "_law_make" = some (.ref (He.ga K "_law_make"))
  g_l_plus : mg "_law_plus" = some (.ref (He.ga K "_law_plus"))
  g_l_times : mg "_law_times" = some (.ref (He.ga K "_law_times"))
  g_l_prime : mg "_law_prime" = some (.ref (He.ga K "_law_prime"))
  g_l_number : mg "_law_number" = some (.ref (He.ga K "_law_number"))
  g_l_product : mg "_law_product" = some (.ref (He.ga K "_law_product"))
  g_l_terms : mg "_law_terms" = some (.ref (He.ga K "_law_terms"))
  g_l_gather : mg "_law_gather" = some (.ref (He.ga K "_law_gather"))
  g_l_worth : mg "_law_worth" = some (.ref (He.ga K "_law_worth"))
  g_l_filling : mg "_law_filling" = some (.ref (He.ga K "_law_filling"))
  g_l_wish : mg "_law_wish" = some (.ref (He.ga K "_law_wish"))
  g_l_mult : mg "_law_mult" = some (.ref (He.ga K "_law_mult"))
  g_l_all : mg "_law_all" = some (.ref (He.ga K "_law_all"))
  g_l_products : mg "_law_products" = some (.ref (He.ga K "_law_products"))
  g_l_degree : mg "_law_degree" = some (.ref (He.ga K "_law_degree"))
  g_l_shown_by : mg "_law_shown_by" = some (.ref (He.ga K "_law_shown_by"))
  g_l_row_worths : mg "_law_row_worths" = some (.ref (He.ga K "_law_row_worths"))
  g_l_mixture : mg "_law_mixture" = some (.ref (He.ga K "_law_mixture"))
  g_l_no_worths : mg "_law_no_worths" = some (.ref (He.ga K "_law_no_worths"))
  g_l_called : mg "_law_called" = some (.ref (He.ga K "_law_called"))
  g_l_filled_right : mg "_law_filled_right" = some (.ref (He.ga K "_law_filled_right"))
  g_law : mg "law" = some (.ref (He.ga K "law"))
  g_Field : mg "Field" = some (.ref (He.ga K "Field"))
  g_Sum : mg "Sum" = some (.ref (He.ga K "Sum"))
  g_System : mg "System" = some (.ref (He.ga K "System"))
  b_len : mg "len" = none
  b_isinstance : mg "isinstance" = none
  b_range : mg "range" = none
  b_abs : mg "abs" = none
  b_min : mg "min" = none
  b_max : mg "max" = none
  b_sorted : mg "sorted" = none
  b_tuple : mg "tuple" = none
  b_set : mg "set" = none
  b_list : mg "list" = none
  b_dict : mg "dict" = none
  b_int : mg "int" = none
  b_bool : mg "bool" = none
  b_all : mg "all" = none
  b_zip : mg "zip" = none
  b_enumerate : mg "enumerate" = none
  b_ZeroDivisionError : mg "ZeroDivisionError" = none
  c_MOST_PRIME : ∃ u, mg "MOST_PRIME" = some u ∧ RelV (.int 97) u
  c_MOST_PLACES : ∃ u, mg "MOST_PLACES" = some u ∧ RelV (.int 60) u
  c_MOST_WISHES : ∃ u, mg "MOST_WISHES" = some u ∧ RelV (.int 200) u
  c_MOST_DEGREE : ∃ u, mg "MOST_DEGREE" = some u ∧ RelV (.int 300) u
  c_MOST_WRITTEN : ∃ u, mg "MOST_WRITTEN" = some u ∧ RelV (.int 20000) u
  c_ZERO : mg "ZERO" = some (.ref (He.ga K "ZERO"))
  t_ZERO : ∀ H : Hp, SqT K H (He.ga K "ZERO") [.int 0, .int 1]
  c_ONE : mg "ONE" = some (.ref (He.ga K "ONE"))
  t_ONE : ∀ H : Hp, SqT K H (He.ga K "ONE") [.int 1, .int 1]
  k_Field : Cls K (He.ga K "Field")
  m_Field : Mk K (He.ga K "Field") (He.ma K (He.ga K "Field") "__init__")
  n_Field_own_prime : NoAttr K (He.ga K "Field") "own_prime"
  h_Field_eq : Meth K (He.ga K "Field") "__eq__" (He.ma K (He.ga K "Field") "__eq__")
  h_Field_prime : Meth K (He.ga K "Field") "prime" (He.ma K (He.ga K "Field") "prime")
  h_Field_made : Meth K (He.ga K "Field") "made" (He.ma K (He.ga K "Field") "made")
  h_Field_plus : Meth K (He.ga K "Field") "plus" (He.ma K (He.ga K "Field") "plus")
  h_Field_times : Meth K (He.ga K "Field") "times" (He.ma K (He.ga K "Field") "times")
  h_Field_is_number : Meth K (He.ga K "Field") "is_number" (He.ma K (He.ga K "Field") "is_number")
  i_Field : ClsI K (He.ga K "Field")
  k_Sum : Cls K (He.ga K "Sum")
  m_Sum : Mk K (He.ga K "Sum") (He.ma K (He.ga K "Sum") "__init__")
  n_Sum_own_field : NoAttr K (He.ga K "Sum") "own_field"
  n_Sum_row : NoAttr K (He.ga K "Sum") "row"
  h_Sum_eq : Meth K (He.ga K "Sum") "__eq__" (He.ma K (He.ga K "Sum") "__eq__")
  h_Sum_len : Meth K (He.ga K "Sum") "__len__" (He.ma K (He.ga K "Sum") "__len__")
  h_Sum_field : Meth K (He.ga K "Sum") "field" (He.ma K (He.ga K "Sum") "field")
  h_Sum_terms : Meth K (He.ga K "Sum") "terms" (He.ma K (He.ga K "Sum") "terms")
  h_Sum_degree : Meth K (He.ga K "Sum") "degree" (He.ma K (He.ga K "Sum") "degree")
  h_Sum_reach : Meth K (He.ga K "Sum") "reach" (He.ma K (He.ga K "Sum") "reach")
  h_Sum_look_alike : Meth K (He.ga K "Sum") "look_alike" (He.ma K (He.ga K "Sum") "look_alike")
  h_Sum_plus : Meth K (He.ga K "Sum") "plus" (He.ma K (He.ga K "Sum") "plus")
  h_Sum_times : Meth K (He.ga K "Sum") "times" (He.ma K (He.ga K "Sum") "times")
  h_Sum_renamed : Meth K (He.ga K "Sum") "renamed" (He.ma K (He.ga K "Sum") "renamed")
  h_Sum_worth : Meth K (He.ga K "Sum") "worth" (He.ma K (He.ga K "Sum") "worth")
  i_Sum : ClsI K (He.ga K "Sum")
  k_System : Cls K (He.ga K "System")
  m_System : Mk K (He.ga K "System") (He.ma K (He.ga K "System") "__init__")
  n_System_own_field : NoAttr K (He.ga K "System") "own_field"
  n_System_many_places : NoAttr K (He.ga K "System") "many_places"
  n_System_nought_sums : NoAttr K (He.ga K "System") "nought_sums"
  n_System_upper_sums : NoAttr K (He.ga K "System") "upper_sums"
  h_System_field : Meth K (He.ga K "System") "field" (He.ma K (He.ga K "System") "field")
  h_System_places : Meth K (He.ga K "System") "places" (He.ma K (He.ga K "System") "places")
  h_System_noughts : Meth K (He.ga K "System") "noughts" (He.ma K (He.ga K "System") "noughts")
  h_System_uppers : Meth K (He.ga K "System") "uppers" (He.ma K (He.ga K "System") "uppers")
  h_System_renamed : Meth K (He.ga K "System") "renamed" (He.ma K (He.ga K "System") "renamed")
  i_System : ClsI K (He.ga K "System")
theorem sc_is_whole : FnScope ["thing"] ["thing"] (defScope s_is_whole) := ⟨rfl, rfl, rfl, by decide +kernel, rfl, by decide +kernel, by decide +kernel⟩
theorem sc_is_prime : FnScope ["thing", "part"] ["thing"] (defScope s_is_prime) := ⟨rfl, rfl, rfl, by decide +kernel, rfl, by decide +kernel, by decide +kernel⟩
theorem sc_lowest : FnScope ["top", "bottom", "sign", "e", "one", "other"] ["top", "bottom"] (defScope s_lowest) := ⟨rfl, rfl, rfl, by decide +kernel, rfl, by decide +kernel, by decide +kernel⟩
theorem sc_Field_mk : FnScope ["self", "prime"] ["self", "prime"] (defScope s_Field_mk) := ⟨rfl, rfl, rfl, by decide +kernel, rfl, by decide +kernel, by decide +kernel⟩
theorem sc_Field_eq : FnScope ["self", "other"] ["self", "other"] (defScope s_Field_eq) := ⟨rfl, rfl, rfl, by decide +kernel, rfl, by decide +kernel, by decide +kernel⟩
theorem sc_Field_prime : FnScope ["self"] ["self"] (defScope s_Field_prime) := ⟨rfl, rfl, rfl, by decide +kernel, rfl, by decide +kernel, by decide +kernel⟩
theorem sc_Field_made : FnScope ["self", "top", "bottom", "k"] ["self", "top", "bottom"] (defScope s_Field_made) := ⟨rfl, rfl, rfl, by decide +kernel, rfl, by decide +kernel, by decide +kernel⟩
theorem sc_Field_plus : FnScope ["self", "one", "other"] ["self", "one", "other"] (defScope s_Field_plus) := ⟨rfl, rfl, rfl, by decide +kernel, rfl, by decide +kernel, by decide +kernel⟩
theorem sc_Field_times : FnScope ["self", "one", "other"] ["self", "one", "other"] (defScope s_Field_times) := ⟨rfl, rfl, rfl, by decide +kernel, rfl, by decide +kernel, by decide +kernel⟩
theorem sc_Field_is_number : FnScope ["self", "thing"] ["self", "thing"] (defScope s_Field_is_number) := ⟨rfl, rfl, rfl, by decide +kernel, rfl, by decide +kernel, by decide +kernel⟩
theorem sc_is_place : FnScope ["thing"] ["thing"] (defScope s_is_place) := ⟨rfl, rfl, rfl, by decide +kernel, rfl, by decide +kernel, by decide +kernel⟩
theorem sc_is_product : FnScope ["thing", "last", "place"] ["thing"] (defScope s_is_product) := ⟨rfl, rfl, rfl, by decide +kernel, rfl, by decide +kernel, by decide +kernel⟩
theorem sc_joined_product : FnScope ["one", "other"] ["one", "other"] (defScope s_joined_product) := ⟨rfl, rfl, rfl, by decide +kernel, rfl, by decide +kernel, by decide +kernel⟩
theorem sc_look_at_terms : FnScope ["field", "terms", "number", "term"] ["field", "terms"] (defScope s_look_at_terms) := ⟨rfl, rfl, rfl, by decide +kernel, rfl, by decide +kernel, by decide +kernel⟩
theorem sc_gathered : FnScope ["field", "terms", "found", "product", "number", "rows"] ["field", "terms"] (defScope s_gathered) := ⟨rfl, rfl, rfl, by decide +kernel, rfl, by decide +kernel, by decide +kernel⟩
theorem sc_Sum_mk : FnScope ["self", "field", "terms"] ["self", "field", "terms"] (defScope s_Sum_mk) := ⟨rfl, rfl, rfl, by decide +kernel, rfl, by decide +kernel, by decide +kernel⟩
theorem sc_Sum_eq : FnScope ["self", "other"] ["self", "other"] (defScope s_Sum_eq) := ⟨rfl, rfl, rfl, by decide +kernel, rfl, by decide +kernel, by decide +kernel⟩
theorem sc_Sum_len : FnScope ["self"] ["self"] (defScope s_Sum_len) := ⟨rfl, rfl, rfl, by decide +kernel, rfl, by decide +kernel, by decide +kernel⟩
theorem sc_Sum_field : FnScope ["self"] ["self"] (defScope s_Sum_field) := ⟨rfl, rfl, rfl, by decide +kernel, rfl, by decide +kernel, by decide +kernel⟩
theorem sc_Sum_terms : FnScope ["self"] ["self"] (defScope s_Sum_terms) := ⟨rfl, rfl, rfl, by decide +kernel, rfl, by decide +kernel, by decide +kernel⟩
theorem sc_Sum_degree : FnScope ["self", "product", "number"] ["self"] (defScope s_Sum_degree) := ⟨rfl, rfl, rfl, by decide +kernel, rfl, by decide +kernel, by decide +kernel⟩
theorem sc_Sum_reach : FnScope ["self", "product", "number"] ["self"] (defScope s_Sum_reach) := ⟨rfl, rfl, rfl, by decide +kernel, rfl, by decide +kernel, by decide +kernel⟩
theorem sc_Sum_look_alike : FnScope ["self", "other"] ["self", "other"] (defScope s_Sum_look_alike) := ⟨rfl, rfl, rfl, by decide +kernel, rfl, by decide +kernel, by decide +kernel⟩
theorem sc_Sum_plus : FnScope ["self", "other"] ["self", "other"] (defScope s_Sum_plus) := ⟨rfl, rfl, rfl, by decide +kernel, rfl, by decide +kernel, by decide +kernel⟩
theorem sc_Sum_times : FnScope ["self", "other", "found", "product", "number", "more", "factor"] ["self", "other"] (defScope s_Sum_times) := ⟨rfl, rfl, rfl, by decide +kernel, rfl, by decide +kernel, by decide +kernel⟩
theorem sc_Sum_renamed : FnScope ["self", "order", "place", "i", "product", "one"] ["self", "order"] (defScope s_Sum_renamed) := ⟨rfl, rfl, rfl, by decide +kernel, rfl, by decide +kernel, by decide +kernel⟩
theorem sc_Sum_worth : FnScope ["self", "filling", "one", "found", "product", "number", "place"] ["self", "filling"] (defScope s_Sum_worth) := ⟨rfl, rfl, rfl, by decide +kernel, rfl, by decide +kernel, by decide +kernel⟩
theorem sc_is_wish : FnScope ["field", "places", "thing"] ["field", "places", "thing"] (defScope s_is_wish) := ⟨rfl, rfl, rfl, by decide +kernel, rfl, by decide +kernel, by decide +kernel⟩
theorem sc_look_at_wishes : FnScope ["field", "places", "part", "wishes", "number", "wish"] ["field", "places", "part", "wishes"] (defScope s_look_at_wishes) := ⟨rfl, rfl, rfl, by decide +kernel, rfl, by decide +kernel, by decide +kernel⟩
theorem sc_is_order : FnScope ["places", "thing", "place"] ["places", "thing"] (defScope s_is_order) := ⟨rfl, rfl, rfl, by decide +kernel, rfl, by decide +kernel, by decide +kernel⟩
theorem sc_System_mk : FnScope ["self", "field", "places", "noughts", "uppers"] ["self", "field", "places", "noughts", "uppers"] (defScope s_System_mk) := ⟨rfl, rfl, rfl, by decide +kernel, rfl, by decide +kernel, by decide +kernel⟩
theorem sc_System_field : FnScope ["self"] ["self"] (defScope s_System_field) := ⟨rfl, rfl, rfl, by decide +kernel, rfl, by decide +kernel, by decide +kernel⟩
theorem sc_System_places : FnScope ["self"] ["self"] (defScope s_System_places) := ⟨rfl, rfl, rfl, by decide +kernel, rfl, by decide +kernel, by decide +kernel⟩
theorem sc_System_noughts : FnScope ["self"] ["self"] (defScope s_System_noughts) := ⟨rfl, rfl, rfl, by decide +kernel, rfl, by decide +kernel, by decide +kernel⟩
theorem sc_System_uppers : FnScope ["self"] ["self"] (defScope s_System_uppers) := ⟨rfl, rfl, rfl, by decide +kernel, rfl, by decide +kernel, by decide +kernel⟩
theorem sc_System_renamed : FnScope ["self", "order", "noughts", "wish"] ["self", "order"] (defScope s_System_renamed) := ⟨rfl, rfl, rfl, by decide +kernel, rfl, by decide +kernel, by decide +kernel⟩
theorem sc_is_row : FnScope ["places", "thing", "one"] ["places", "thing"] (defScope s_is_row) := ⟨rfl, rfl, rfl, by decide +kernel, rfl, by decide +kernel, by decide +kernel⟩
theorem sc_grants : FnScope ["system", "row", "sided", "wish"] ["system", "row", "sided"] (defScope s_grants) := ⟨rfl, rfl, rfl, by decide +kernel, rfl, by decide +kernel, by decide +kernel⟩
theorem sc_is_filling : FnScope ["system", "thing", "sided"] ["system", "thing", "sided"] (defScope s_is_filling) := ⟨rfl, rfl, rfl, by decide +kernel, rfl, by decide +kernel, by decide +kernel⟩
theorem sc_look_at_degree : FnScope ["degree"] ["degree"] (defScope s_look_at_degree) := ⟨rfl, rfl, rfl, by decide +kernel, rfl, by decide +kernel, by decide +kernel⟩
theorem sc_products_many : FnScope ["places", "most", "found", "many", "size"] ["places", "most"] (defScope s_products_many) := ⟨rfl, rfl, rfl, by decide +kernel, rfl, by decide +kernel, by decide +kernel⟩
theorem sc_products_of : FnScope ["places", "most", "found", "last", "size", "wider", "product", "place"] ["places", "most"] (defScope s_products_of) := ⟨rfl, rfl, rfl, by decide +kernel, rfl, by decide +kernel, by decide +kernel⟩
theorem sc_comes_to_one : FnScope ["system", "showing", "total", "wish", "one"] ["system", "showing"] (defScope s_comes_to_one) := ⟨rfl, rfl, rfl, by decide +kernel, rfl, by decide +kernel, by decide +kernel⟩
theorem sc_are_multipliers : FnScope ["system", "degree", "thing", "wish", "one"] ["system", "degree", "thing"] (defScope s_are_multipliers) := ⟨rfl, rfl, rfl, by decide +kernel, rfl, by decide +kernel, by decide +kernel⟩
theorem sc_lets_showing : FnScope ["system", "degree", "thing"] ["system", "degree", "thing"] (defScope s_lets_showing) := ⟨rfl, rfl, rfl, by decide +kernel, rfl, by decide +kernel, by decide +kernel⟩
theorem sc_are_numbers : FnScope ["system", "degree", "thing", "product", "number"] ["system", "degree", "thing"] (defScope s_are_numbers) := ⟨rfl, rfl, rfl, by decide +kernel, rfl, by decide +kernel, by decide +kernel⟩
theorem sc_worth_beside : FnScope ["worths", "one", "product", "found", "own", "number"] ["worths", "one", "product"] (defScope s_worth_beside) := ⟨rfl, rfl, rfl, by decide +kernel, rfl, by decide +kernel, by decide +kernel⟩
theorem sc_lets_worths : FnScope ["system", "degree", "thing", "wish", "product"] ["system", "degree", "thing"] (defScope s_lets_worths) := ⟨rfl, rfl, rfl, by decide +kernel, rfl, by decide +kernel, by decide +kernel⟩
theorem sc_cut : FnScope ["worths", "degree", "product", "number"] ["worths", "degree"] (defScope s_cut) := ⟨rfl, rfl, rfl, by decide +kernel, rfl, by decide +kernel, by decide +kernel⟩
theorem sc_worths_of : FnScope ["system", "degree", "filling", "found", "product", "place"] ["system", "degree", "filling"] (defScope s_worths_of) := ⟨rfl, rfl, rfl, by decide +kernel, rfl, by decide +kernel, by decide +kernel⟩
theorem sc_l_room : FnScope ["_law_script", "_law_k", "_law_cell", "_law_left"] ["_law_script", "_law_k"] (defScope s_l_room) := ⟨rfl, rfl, rfl, by decide +kernel, rfl, by decide +kernel, by decide +kernel⟩
theorem sc_l_take : FnScope ["_law_room_here", "_law_many", "_law_found"] ["_law_room_here", "_law_many"] (defScope s_l_take) := ⟨rfl, rfl, rfl, by decide +kernel, rfl, by decide +kernel, by decide +kernel⟩
theorem sc_l_lowest : FnScope ["_law_top", "_law_base", "_law_one", "_law_other", "_law_sign"] ["_law_top", "_law_base"] (defScope s_l_lowest) := ⟨rfl, rfl, rfl, by decide +kernel, rfl, by decide +kernel, by decide +kernel⟩
theorem sc_l_make : FnScope ["_law_prime_here", "_law_top", "_law_base", "_law_k"] ["_law_prime_here", "_law_top", "_law_base"] (defScope s_l_make) := ⟨rfl, rfl, rfl, by decide +kernel, rfl, by decide +kernel, by decide +kernel⟩
theorem sc_l_plus : FnScope ["_law_prime_here", "_law_one", "_law_other"] ["_law_prime_here", "_law_one", "_law_other"] (defScope s_l_plus) := ⟨rfl, rfl, rfl, by decide +kernel, rfl, by decide +kernel, by decide +kernel⟩
theorem sc_l_times : FnScope ["_law_prime_here", "_law_one", "_law_other"] ["_law_prime_here", "_law_one", "_law_other"] (defScope s_l_times) := ⟨rfl, rfl, rfl, by decide +kernel, rfl, by decide +kernel, by decide +kernel⟩
theorem sc_l_prime : FnScope ["_law_room_here", "_law_at", "_law_some"] ["_law_room_here"] (defScope s_l_prime) := ⟨rfl, rfl, rfl, by decide +kernel, rfl, by decide +kernel, by decide +kernel⟩
theorem sc_l_number : FnScope ["_law_room_here", "_law_prime_here"] ["_law_room_here", "_law_prime_here"] (defScope s_l_number) := ⟨rfl, rfl, rfl, by decide +kernel, rfl, by decide +kernel, by decide +kernel⟩
theorem sc_l_product : FnScope ["_law_room_here", "_law_many", "_law_share", "_law_place"] ["_law_room_here", "_law_many", "_law_share"] (defScope s_l_product) := ⟨rfl, rfl, rfl, by decide +kernel, rfl, by decide +kernel, by decide +kernel⟩
theorem sc_l_terms : FnScope ["_law_room_here", "_law_prime_here", "_law_many", "_law_most", "_law_found", "_law_k", "_law_product_here"] ["_law_room_here", "_law_prime_here", "_law_many", "_law_most"] (defScope s_l_terms) := ⟨rfl, rfl, rfl, by decide +kernel, rfl, by decide +kernel, by decide +kernel⟩
theorem sc_l_gather : FnScope ["_law_prime_here", "_law_terms_here", "_law_found", "_law_product_here", "_law_number_here", "_law_rows", "_law_many"] ["_law_prime_here", "_law_terms_here"] (defScope s_l_gather) := ⟨rfl, rfl, rfl, by decide +kernel, rfl, by decide +kernel, by decide +kernel⟩
theorem sc_l_worth : FnScope ["_law_prime_here", "_law_terms_here", "_law_filling_here", "_law_found", "_law_product_here", "_law_number_here", "_law_place"] ["_law_prime_here", "_law_terms_here", "_law_filling_here"] (defScope s_l_worth) := ⟨rfl, rfl, rfl, by decide +kernel, rfl, by decide +kernel, by decide +kernel⟩
theorem sc_l_filling : FnScope ["_law_room_here", "_law_many", "_law_place"] ["_law_room_here", "_law_many"] (defScope s_l_filling) := ⟨rfl, rfl, rfl, by decide +kernel, rfl, by decide +kernel, by decide +kernel⟩
theorem sc_l_wish : FnScope ["_law_room_here", "_law_prime_here", "_law_many", "_law_most", "_law_planted", "_law_rows", "_law_here"] ["_law_room_here", "_law_prime_here", "_law_many", "_law_most", "_law_planted"] (defScope s_l_wish) := ⟨rfl, rfl, rfl, by decide +kernel, rfl, by decide +kernel, by decide +kernel⟩
theorem sc_l_mult : FnScope ["_law_prime_here", "_law_one", "_law_other", "_law_found", "_law_product_here", "_law_number_here", "_law_more", "_law_factor", "_law_both"] ["_law_prime_here", "_law_one", "_law_other"] (defScope s_l_mult) := ⟨rfl, rfl, rfl, by decide +kernel, rfl, by decide +kernel, by decide +kernel⟩
theorem sc_l_all : FnScope ["_law_many", "_law_found", "_law_place", "_law_wider", "_law_row"] ["_law_many"] (defScope s_l_all) := ⟨rfl, rfl, rfl, by decide +kernel, rfl, by decide +kernel, by decide +kernel⟩
theorem sc_l_products : FnScope ["_law_many", "_law_most", "_law_found", "_law_place", "_law_product_here"] ["_law_many", "_law_most"] (defScope s_l_products) := ⟨rfl, rfl, rfl, by decide +kernel, rfl, by decide +kernel, by decide +kernel⟩
theorem sc_l_degree : FnScope ["_law_rows", "_law_product_here", "_law_number_here"] ["_law_rows"] (defScope s_l_degree) := ⟨rfl, rfl, rfl, by decide +kernel, rfl, by decide +kernel, by decide +kernel⟩
theorem sc_l_shown_by : FnScope ["_law_room_here", "_law_prime_here", "_law_many", "_law_most", "_law_wishes", "_law_sums", "_law_total", "_law_k", "_law_rest", "_law_product_here", "_law_number_here", "_law_at"] ["_law_room_here", "_law_prime_here", "_law_many", "_law_most"] (defScope s_l_shown_by) := ⟨rfl, rfl, rfl, by decide +kernel, rfl, by decide +kernel, by decide +kernel⟩
theorem sc_l_row_worths : FnScope ["_law_many", "_law_degree_here", "_law_row", "_law_found", "_law_product_here", "_law_place"] ["_law_many", "_law_degree_here", "_law_row"] (defScope s_l_row_worths) := ⟨rfl, rfl, rfl, by decide +kernel, rfl, by decide +kernel, by decide +kernel⟩
theorem sc_l_mixture : FnScope ["_law_prime_here", "_law_share", "_law_one", "_law_other", "_law_rest", "_law_found", "_law_product_here", "_law_here"] ["_law_prime_here", "_law_share", "_law_one", "_law_other"] (defScope s_l_mixture) := ⟨rfl, rfl, rfl, by decide +kernel, rfl, by decide +kernel, by decide +kernel⟩
theorem sc_l_no_worths : FnScope ["_law_room_here", "_law_system", "_law_prime_here", "_law_many", "_law_degree_here", "_law_rows", "_law_row", "_law_k", "_law_one", "_law_other", "_law_turn", "_law_some", "_law_product_here"] ["_law_room_here", "_law_system", "_law_prime_here", "_law_many", "_law_degree_here"] (defScope s_l_no_worths) := ⟨rfl, rfl, rfl, by decide +kernel, rfl, by decide +kernel, by decide +kernel⟩
theorem sc_l_called : FnScope ["_law_worths", "_law_order", "_law_found", "_law_product_here", "_law_place"] ["_law_worths", "_law_order"] (defScope s_l_called) := ⟨rfl, rfl, rfl, by decide +kernel, rfl, by decide +kernel, by decide +kernel⟩
theorem sc_l_filled_right : FnScope ["_law_room_here", "_law_prime_here", "_law_many", "_law_order", "_law_planted", "_law_field", "_law_wishes", "_law_k", "_law_system", "_law_rows", "_law_sums", "_law_degree_here", "_law_worths"] ["_law_room_here", "_law_prime_here", "_law_many", "_law_order"] (defScope s_l_filled_right) := ⟨rfl, rfl, rfl, by decide +kernel, rfl, by decide +kernel, by decide +kernel⟩
theorem sc_law : FnScope ["_law_script", "_law_k", "_law_room_here", "_law_prime_here", "_law_field", "_law_many", "_law_left", "_law_order", "_law_place", "_law_noughts", "_law_rows", "_law_system", "_law_wish_here", "_law_sums", "_law_row", "_law_degree_here", "_law_one", "_law_two"] ["_law_script"] (defScope s_law) := ⟨rfl, rfl, rfl, by decide +kernel, rfl, by decide +kernel, by decide +kernel⟩
end Fs

set_option Elab.async false
set_option linter.all false
set_option maxHeartbeats 1000000
namespace Fs
/-! ### numbers: plain mirrors -/
def pw2 (k : Nat) : Nat := 2 ^ k
abbrev Num := Int × Int
def low (t b : Int) : Num := (t / ((Int.gcd t b : Nat) : Int), b / ((Int.gcd t b : Nat) : Int))
def made (p t b : Int) : Num := if p = 0 then low t b else (t % p, 1)
def nplus (p : Int) (a b : Num) : Num := made p (a.1 * b.2 + b.1 * a.2) (a.2 * b.2)
def ntimes (p : Int) (a b : Num) : Num := made p (a.1 * b.1) (a.2 * b.2)
def PrOk (p : Int) : Prop := p = 0 ∨ 2 ≤ p ∧ p ≤ 97
/-- a number of the field -/
def NumOk (p : Int) (n : Num) : Prop := (p = 0 ∧ 0 < n.2 ∧ Int.gcd n.1 n.2 = 1) ∨ (p ≠ 0 ∧ n.2 = 1 ∧ 0 ≤ n.1 ∧ n.1 < p)
/-- not too great to be reckoned with -/
def Sz (n : Num) : Prop := n.1.natAbs < pw2 4000 ∧ n.2.natAbs < pw2 4000
/-- what made takes -/
def MadeOk (p t b : Int) : Prop := t.natAbs < pw2 8100 ∧ b.natAbs < pw2 8100 ∧ ((p = 0 ∧ 0 < b) ∨ (2 ≤ p ∧ p ≤ 97 ∧ b = 1))
theorem low_id {n : Num} (h : Int.gcd n.1 n.2 = 1) : low n.1 n.2 = n := by
  unfold low
  rw [h]
  simp
theorem NumOk.pos {p : Int} {n : Num} (h : NumOk p n) : 0 < n.2 := by
  rcases h with ⟨_, h, _⟩ | ⟨_, h, _⟩ <;> omega
theorem natAbs_mul_lt {a b : Int} {m k : Nat} (h : a.natAbs < pw2 m) (g : b.natAbs < pw2 k) : (a * b).natAbs < pw2 (m + k) := by
  unfold pw2 at *
  rw [Int.natAbs_mul, Nat.pow_add]
  exact Nat.mul_lt_mul'' h g
theorem natAbs_add_lt {a b : Int} {m : Nat} (h : a.natAbs < pw2 m) (g : b.natAbs < pw2 m) : (a + b).natAbs < pw2 (m + 1) := by
  have := Int.natAbs_add_le a b
  unfold pw2 at *
  rw [Nat.pow_succ]
  omega
theorem pow_le {a b : Nat} (h : a ≤ b) : pw2 a ≤ pw2 b := Nat.pow_le_pow_right (by decide) h
theorem plus_madeOk {p : Int} {a b : Num} (hp : PrOk p) (ha : NumOk p a) (hb : NumOk p b) (sa : Sz a) (sb : Sz b) : MadeOk p (a.1 * b.2 + b.1 * a.2) (a.2 * b.2) := by
  refine ⟨Nat.lt_of_lt_of_le (natAbs_add_lt (natAbs_mul_lt sa.1 sb.2) (natAbs_mul_lt sb.1 sa.2)) (pow_le (by decide)), Nat.lt_of_lt_of_le (natAbs_mul_lt sa.2 sb.2) (pow_le (by decide)), ?_⟩
  rcases hp with h | ⟨h, h'⟩
  · exact .inl ⟨h, Int.mul_pos ha.pos hb.pos⟩
  · refine .inr ⟨h, h', ?_⟩
    rcases ha with ⟨e, _⟩ | ⟨_, e, _⟩
    · omega
    rcases hb with ⟨e', _⟩ | ⟨_, e', _⟩
    · omega
    rw [e, e']; decide
theorem times_madeOk {p : Int} {a b : Num} (hp : PrOk p) (ha : NumOk p a) (hb : NumOk p b) (sa : Sz a) (sb : Sz b) : MadeOk p (a.1 * b.1) (a.2 * b.2) := by
  obtain ⟨_, h2, h3⟩ := plus_madeOk hp ha hb sa sb
  exact ⟨Nat.lt_of_lt_of_le (natAbs_mul_lt sa.1 sb.1) (pow_le (by decide)), h2, h3⟩
theorem gcd_step (a b : Int) (ha : 0 ≤ a) (hb : 0 < b) : Int.gcd b (a % b) = Int.gcd a b := by
  obtain ⟨m, rfl⟩ := Int.eq_ofNat_of_zero_le ha
  obtain ⟨n, rfl⟩ := Int.eq_ofNat_of_zero_le (Int.le_of_lt hb)
  rw [← Int.natCast_emod]
  show Nat.gcd n (m % n) = Nat.gcd m n
  rw [Nat.gcd_comm n, ← Nat.gcd_rec, Nat.gcd_comm]
theorem gcd_nat {a : Int} (h : 0 ≤ a) : ((Int.gcd a 0 : Nat) : Int) = a := by
  rw [Int.gcd_zero_right]; omega
theorem gcd_abs (a b : Int) : Int.gcd (if a < 0 then -a else a) (if b < 0 then -b else b) = Int.gcd a b := by
  split <;> split <;> simp
theorem gcd_pos (a b : Int) (h : 0 < b) : 0 < Int.gcd a b := Int.gcd_pos_of_ne_zero_right _ (by omega)
theorem gcd_lt {a b : Int} {k : Nat} (h : 0 < b) (hb : b.natAbs < pw2 k) : ((Int.gcd a b : Nat) : Int).natAbs < pw2 k := by
  have : Int.gcd a b ≤ b.natAbs := Nat.le_of_dvd (by omega) (Int.gcd_dvd_natAbs_right a b)
  omega
end Fs

set_option Elab.async false
set_option linter.all false
set_option maxRecDepth 100000
set_option maxHeartbeats 2000000
namespace Fs
open PySem PySem.Spec PyProof.Rows L2 C8

/-! ### instances -/
def ix (f : Str) : List Str → Option Nat
  | [] => none
  | n :: ns => if f = n then some 0 else (ix f ns).map (· + 1)
theorem ix_look {f : Str} : ∀ {ns : List Str} {vs : List V}, ns.length = vs.length → (ns.zip vs).lookup f = (ix f ns).bind fun i => vs[i]?
  | [], _, _ => rfl
  | n :: ns, [], h => nomatch h
  | n :: ns, v :: vs, h => by
    show List.lookup f ((n, v) :: ns.zip vs) = _
    rw [List.lookup_cons]
    unfold ix
    by_cases e : f = n
    · subst e; rw [if_pos rfl]; simp
    · rw [if_neg e]
      have e' : (f == n) = false := by simpa using e
      rw [e']
      show List.lookup f (ns.zip vs) = _
      rw [ix_look (by simpa using h)]
      cases ix f ns <;> rfl
theorem ix_put {f : Str} {v : V} : ∀ {ns : List Str} {vs : List V}, ns.length = vs.length → ix f ns = none → putF f v (ns.zip vs) = (ns ++ [f]).zip (vs ++ [v])
  | [], [], _, _ => rfl
  | [], _ :: _, h, _ => nomatch h
  | n :: ns, [], h, _ => nomatch h
  | n :: ns, u :: vs, h, e => by
    unfold ix at e
    by_cases q : f = n
    · rw [if_pos q] at e; cases e
    · rw [if_neg q] at e
      have e' : ix f ns = none := by
        cases z : ix f ns with
        | none => rfl
        | some i => rw [z] at e; cases e
      show (if n = f then _ else (n, u) :: putF f v (ns.zip vs)) = _
      rw [if_neg (fun z => q z.symm), ix_put (by simpa using h) e']
      rfl
def insR (C : Addr) (ns : List Str) (rs : List Rp) : Rp := ⟨fun H v => ∃ a dx vs, v = .ref a ∧ H a = some (.ins C dx (ns.zip vs)) ∧ RpA rs H vs, fun e ⟨a, dx, vs, h1, h2, h3⟩ => ⟨a, dx, vs, h1, e _ _ h2, h3.mono e⟩⟩
section
variable {K : PySem.W.Frag} {σ : L2.St} {W W' W0 : Wd} {ta tb tc te tv : TE} {t u : TT} {R RA RB RC' : Rp} {rs : List Rp} {r : R2} {C dx a : Addr} {ns : List Str} {f : Str}
theorem ev_fld {i : Nat} (h : Ev te σ W (insR C ns rs)) (c : Cls K C) (n : NoAttr K C f) (hl : ns.length = rs.length) (hi : ix f ns = some i) (hr : rs[i]? = some R) : Ev (tFld K te f) σ W R := fun W1 l Q q =>
  h W1 l _ fun v W2 l2 ⟨a, dx, vs, h1, h2, h3⟩ => by
    obtain ⟨u, h4, h5⟩ := h3.at hr
    exact ⟨a, C, dx, _, u, h1, W2.ex _ _ h2, c, n, by rw [ix_look (by rw [hl, h3.len]), hi]; exact h4, q u W2 l2 h5⟩
theorem ins_p {m : Str} (hl : ns.length = rs.length) (h : ix m ns = none) : InsP C m (insR C ns rs) := fun H v ⟨a, dx, vs, h1, h2, h3⟩ => ⟨a, dx, _, h1, h2, by rw [ix_look (by rw [hl, h3.len]), h]; rfl⟩
theorem ev_isi {tt tc' : Value} {c : V} {b : Bool} (h : Ev te σ W R) (ty : ∀ (W1 : Wd) v, R.p W1.B v → TyX K W1.H v tt) (k : ClsV c tc') (e : PySem.W.kitOne K tt tc' = some b) : Ev (tCB (rIsi K) (tCons te (tCons (tC c) tNil))) σ W (bl b) := fun W1 l Q q =>
  h W1 l _ fun v W2 l2 hv => ⟨v, c, tt, tc', b, rfl, k, ty W2 v hv, e, q _ W2 l2 rfl⟩
theorem ty_int {i : Int} (W1 : Wd) (v : V) (h : (int i).p W1.B v) : TyX K W1.H v (.type "int") := by
  cases h; exact .base (.int i)
theorem ty_sqt {H : Hp} {a : Addr} {xs : List V} (h : SqT K H a xs) : TyX K H (.ref a) (.type "tuple") := by
  rcases h with (h | ⟨o, h⟩) | ⟨o, its, n, h1, h2, _⟩
  · exact .base (.tup h)
  · exact .fTuple h
  · exact .kTuple h1 h2
theorem ty_sql {H : Hp} {a : Addr} {xs : List V} (h : SqL K H a xs) : TyX K H (.ref a) (.type "list") := by
  rcases h with (h | ⟨o, h⟩) | ⟨o, its, n, h1, h2, _⟩
  · exact .base (.lst h)
  · exact .base (.frz h)
  · exact .kList h1 h2
theorem ty_tup (W1 : Wd) (v : V) (h : (tupR K rs).p W1.B v) : TyX K W1.H v (.type "tuple") := by
  obtain ⟨a, vs, rfl, h1, _⟩ := h
  exact ty_sqt (sqt_mono W1.ex h1)
theorem ty_lst (W1 : Wd) (v : V) (h : (lstR K rs).p W1.B v) : TyX K W1.H v (.type "list") := by
  obtain ⟨a, vs, rfl, h1, _⟩ := h
  exact ty_sql (lsq (W1.ex _ _ h1))
theorem ty_ins (c : Cls K C) (i : ClsI K C) (W1 : Wd) (v : V) (h : (insR C ns rs).p W1.B v) : TyX K W1.H v (.ref C) := by
  obtain ⟨a, dx, vs, rfl, h1, _⟩ := h
  exact .base (.ins (W1.ex _ _ h1) c i.ca i.cn i.ct i.cm)
theorem kit_own : PySem.W.kitOne K (.ref C) (.ref C) = some true := by
  unfold PySem.W.kitOne; simp
/-- an instance that is being made -/
structure LocI (W : Wd) (a C dx : Addr) (ns : List Str) (rs : List Rp) : Prop where
  b : W.B a = none
  r : W.r ≠ some a
  h : ∃ vs, W.H a = some (.ins C dx (ns.zip vs)) ∧ RpA rs W.B vs
theorem LocI.le (h : LocI W a C dx ns rs) (e : Le W W') : LocI W' a C dx ns rs := by
  obtain ⟨b, r, vs, h1, h2⟩ := h
  exact ⟨e.n a _ b h1 nl_ins.1 nl_ins.2.1, by rw [e.r]; exact r, vs, e.h _ _ r h1 nl_ins.2.1, h2.mono e.b⟩
variable {D : Ends} {tz : TS}
theorem s_fld {i : Nat} (h : Ev tv σ W R) (hv : σ[i]? = some (some (.ref a))) (L : LocI W a C dx ns rs) (hl : ns.length = rs.length) (hn : ix f ns = none) (hs : ns.length < 1000) (c : Cls K C) (n : NoAttr K C f) (l0 : Le W0 W) (h0 : Fre W0 a)
    (k : ∀ W1, Same W.B W1.B → Le W0 W1 → LocI W1 a C dx (ns ++ [f]) (rs ++ [R]) → D.nx σ W1.H) : sFld K (tVar i) tv f D σ W.H := h W (Le.refl _) _ fun v W1 l1 hv1 => by
  obtain ⟨b, r, vs, h1, h2⟩ := L.le l1
  refine ⟨.ref a, hv, a, C, dx, _, rfl, h1, c, n, ?_, ?_⟩
  · rw [List.length_zip, h2.len, ← hl, Nat.min_self]; exact hs
  · rw [ix_put (by rw [h2.len, hl]) hn]
    exact k (W1.mut a (.ins C dx ((ns ++ [f]).zip (vs ++ [v]))) b r ⟨_, h1, nl_ins⟩) l1.b (Wd.mut_le (l0.trans l1) b r ⟨_, h1, nl_ins⟩ h0) ⟨b, r, _, upd_same, h2.snoc hv1⟩
theorem q_fld {i : Nat} (h : Ev tv σ W R) (hv : σ[i]? = some (some (.ref a))) (L : LocI W a C dx ns rs) (hl : ns.length = rs.length) (hn : ix f ns = none) (hs : ns.length < 1000) (c : Cls K C) (n : NoAttr K C f) (l0 : Le W0 W) (h0 : Fre W0 a)
    (k : ∀ W1, Same W.B W1.B → Le W0 W1 → LocI W1 a C dx (ns ++ [f]) (rs ++ [R]) → tz D σ W1.H) : tSeq (sFld K (tVar i) tv f) tz D σ W.H := s_fld (D := { D with nx := tz D }) h hv L hl hn hs c n l0 h0 k
/-- the world ahead of __init__, with the new instance -/
theorem init_w {x : Addr} (W : Wd) (hx : W.H x = none) (hdx : W.H dx = none) (hne : dx ≠ x) : ∃ W1 : Wd, W1.H = upd (upd W.H dx (.own x)) x (.ins C dx []) ∧ Le W W1 ∧ LocI W1 x C dx [] [] := by
  have h2 : (W.loc dx (.own x) hdx).H x = none := by
    show upd W.H dx (.own x) x = none
    rw [upd_ne hne.symm]; exact hx
  refine ⟨(W.loc dx (.own x) hdx).loc x (.ins C dx []) h2, rfl, (W.loc_le hdx).trans (Wd.loc_le _ h2), W.bfree hx, fun e => ?_, [], upd_same, True.intro⟩
  obtain ⟨_, y, z, h3, _⟩ := W.room x e
  rw [h3] at hx; cases hx
theorem init_end {x : Addr} (L : LocI W x C dx ns rs) (l0 : Le W0 W) (h0 : Fre W0 x) : ∃ W1 : Wd, W1.H = W.H ∧ Le W0 W1 ∧ (insR C ns rs).p W1.B (.ref x) := by
  obtain ⟨b, r, vs, h1, h2⟩ := L
  exact ⟨W.frz x _ h1 r, rfl, Wd.frz_le l0 h1 r h0, x, dx, vs, rfl, upd_same, h2.mono (Wd.frz_b h1 r b)⟩
end
/-! ### the data of the text -/
section
variable (K : PySem.W.Frag)
def num (n : Num) : Rp := tupR K [int n.1, int n.2]
def fld (p : Int) : Rp := insR (He.ga K "Field") ["own_prime"] [int p]
end
/-- a product of places: a tuple that is tracked -/
def prod (ps : List Int) : Rp := ⟨fun H v => ∃ a, v = .ref a ∧ H a = some (.tup (ps.map V.int)), fun e ⟨a, h1, h2⟩ => ⟨a, h1, e _ _ h2⟩⟩
theorem rpa_ints {H : Hp} : ∀ {ps : List Int}, RpA (ps.map int) H (ps.map V.int)
  | [] => True.intro
  | _ :: _ => ⟨rfl, rpa_ints⟩
theorem rpa_ints_eq {H : Hp} : ∀ {ps : List Int} {vs : List V}, RpA (ps.map int) H vs → vs = ps.map V.int
  | [], [], _ => rfl
  | p :: ps, v :: vs, h => by
    rw [rpa_ints_eq (show RpA (ps.map int) H vs from h.2), show v = V.int p from h.1]; rfl
  | [], _ :: _, h => h.elim
  | _ :: _, [], h => h.elim

local macro_rules | `(tactic| walk_at "up") => `(tactic| first
  | assumption
  | ((refine Rp.mono _ (by assumption : Same _ _) ?_); walk_at "up")
  | ((refine Rp.mono _ (Le.b (by assumption)) ?_); walk_at "up"))
local macro_rules | `(tactic| walk_at "ev") => `(tactic| first
  | ((with_reducible refine' ev_var ?h1 ?h2); (case h1 => rfl); (case h2 => walk_at "up"))
  | ((with_reducible refine' ev_vi ?h1); (case h1 => rfl))
  | with_reducible exact ev_ci
  | ((with_reducible refine' ev_I0 ?ea ?eb); (case ea => walk_at "ev"); (case eb => walk_at "ev"))
  | ((with_reducible refine' ev_notV ?ea); (case ea => walk_at "ev"))
  | ((with_reducible refine' eb_test ?ea); (case ea => walk_at "ev"))
  | ((with_reducible refine' eb_B ?ea); (case ea => walk_at "ev"))
  | ((with_reducible refine' eb_not ?ea); (case ea => walk_at "ev"))
  | ((with_reducible refine' ev_eq ?ea ?eb ?ec); (case ea => walk_at "ev"); (case eb => walk_at "ev"); (case ec => rfl))
  | ((with_reducible refine' ev_ne ?ea ?eb ?ec); (case ea => walk_at "ev"); (case eb => walk_at "ev"); (case ec => rfl))
  | ((with_reducible refine' ev_chainI ?ea ?eb ?ec); (case ea => walk_at "ev"); (case eb => walk_at "ev"); (case ec => walk_at "ev"))
  | with_reducible exact ea_nil
  | ((with_reducible refine' ea_cons ?ea ?eb); (case ea => walk_at "ev"); (case eb => walk_at "ev")))

section
variable {P : Program} {w : World} {K : PySem.W.Frag} {mg : Str → Option Value} {base : Heap}
theorem cxK {CX : CXT} {N : List Str} {q : Str} {sc : Scope} {f : Addr} {cdv : Value} {A : Around} {outer : List Env} {s : Shared} {H : Hp} {E : XK} : (cxOf CX P w K mg base N q sc f cdv A outer s H E).K = K := rfl
theorem cxW {CX : CXT} {N : List Str} {q : Str} {sc : Scope} {f : Addr} {cdv : Value} {A : Around} {outer : List Env} {s : Shared} {H : Hp} {E : XK} : (cxOf CX P w K mg base N q sc f cdv A outer s H E).w = w := rfl
theorem cxP {CX : CXT} {N : List Str} {q : Str} {sc : Scope} {f : Addr} {cdv : Value} {A : Around} {outer : List Env} {s : Shared} {H : Hp} {E : XK} : (cxOf CX P w K mg base N q sc f cdv A outer s H E).prog = P := rfl
def sp_is_whole : Sp := spG (ι := Int) (fun i => [int i]) (fun _ _ => True) fun _ => bl true
theorem ok_is_whole (T : Tx K mg) : Cal P w K mg base 1 "is_whole" sp_is_whole [] := by
  obtain ⟨fd, F⟩ := T.d_is_whole
  refine ⟨_, fd, ["thing"], [], F.ok sc_is_whole (spG_len fun _ => rfl) (fun cdv A outer s H vs Q E hr h => ?_), T.g_is_whole, F.kp, F.bindsN (fun _ _ _ _ _ _ us hl => match us, hl with | [_], _ => rfl), .nil⟩
  obtain ⟨W, i, rfl, ha, _, k⟩ := h
  obtain ⟨v0, rfl, rfl⟩ := ha.one
  refine ⟨_, PSs.nox (pss_one (ps_ret (pe_and (pe_callB call_isi (by rfl) T.b_isinstance (by decide +kernel) (pa_cons (pv 0) (pa_cons (pe_bltn (v := .ty "int") (by rfl) T.b_int (by decide +kernel) rfl) pa_nil))) (pe_one (pe_not (pe_callB call_isi (by rfl) T.b_isinstance (by decide +kernel) (pa_cons (pv 0) (pa_cons (pe_bltn (v := .ty "bool") (by rfl) T.b_bool (by decide +kernel) rfl) pa_nil)))))))), ?_⟩
  simp only [cxK, cxW, cxP]
  have z : Ev (tVar 0) (L2.start [Str.ofString "thing"] [V.int i]) W (int i) := by
    with_reducible refine ev_var (v := V.int i) ?_ ?_
    · rfl
    · exact (rfl : (is _).p _ _)
  refine s_ret (ev_andV (ev_isi (by walk_at "ev") ty_int (.ty _) (kit_ty (r := true) (by decide +kernel))) (fun _ => ev_notV (ev_isi (by walk_at "ev") ty_int (.ty _) (kit_ty (r := false) (by decide +kernel)))) (fun h => nomatch h)) k
end
end Fs

set_option Elab.async false
set_option linter.all false
set_option maxRecDepth 100000
set_option maxHeartbeats 2000000
namespace Fs
open PySem PySem.Spec PyProof.Rows L2 C8
/-! ### comprehensions -/
section
variable {K : PySem.W.Frag} {σ : L2.St} {W W' W0 : Wd} {ta tb tc te tl : TE} {t u : TT} {R RA RB : Rp} {rs : List Rp} {vs : List Nat} {g : TG}
/-- what the new list holds so far -/
def Cw (W1 : Wd) (D : Addr) (Pv : Nat → List Rp → Prop) (i : Nat) (H' : Hp) : Prop := ∃ (W' : Wd) (rs : List Rp), W'.H = H' ∧ Le W1 W' ∧ LocL W' D rs ∧ Pv i rs ∧ rs.length ≤ i
/-- one turn behind the target's assignment -/
def Turn1 (t : TT) (te : TE) (Pv : Nat → List Rp → Prop) (i : Nat) (σ2 : L2.St) (W : Wd) (acc : List Rp) : Prop := ∃ (P : Bool → Prop) (R : Rp), EvB t σ2 W P ∧ (P true → Ev te σ2 W R ∧ Pv (i + 1) (acc ++ [R])) ∧ (P false → Pv (i + 1) acc)
theorem cw_turn {W1 W2 : Wd} {D : Addr} {Pv : Nat → List Rp → Prop} {i : Nat} {σ2 : L2.St} {acc : List Rp} (h0 : W1.H D = none) (l : Le W1 W2) (L : LocL W2 D acc) (ha : acc.length ≤ i) (hi : i < 100000) (h : Turn1 t te Pv i σ2 W2 acc) :
    t σ2 W2.H fun b H3 => if b = true then te σ2 H3 fun y H4 => ∃ ac, H4 D = some (.lst ac) ∧ ac.length < sizeLine ∧ Cw W1 D Pv (i + 1) (upd H4 D (.lst (ac ++ [y]))) else Cw W1 D Pv (i + 1) H3 := by
  obtain ⟨P, R, ht, hy, hn⟩ := h
  refine ht W2 (Le.refl _) _ fun b W3 l3 hb => ?_
  cases b with
  | true =>
    show te σ2 W3.H _
    obtain ⟨he, hp⟩ := hy hb
    refine he W3 l3 _ fun y W4 l4 hy4 => ?_
    obtain ⟨b4, r4, ac, h4, ha4⟩ := L.le (l3.trans l4)
    exact ⟨ac, h4, by rw [ha4.len]; exact Nat.lt_of_le_of_lt ha (Nat.lt_trans hi (by decide)), W4.mut D (.lst (ac ++ [y])) b4 r4 ⟨_, h4, nl_lst⟩, acc ++ [R], rfl, Wd.mut_le ((l.trans l3).trans l4) b4 r4 ⟨_, h4, nl_lst⟩ (Wd.fre h0), ⟨b4, r4, _, upd_same, ha4.snoc hy4⟩, hp, by rw [List.length_append, List.length_singleton]; omega⟩
  | false =>
    show Cw W1 D Pv (i + 1) W3.H
    exact ⟨W3, acc, rfl, l.trans l3, L.le l3, hn hb, by omega⟩
theorem cw_start {W1 : Wd} {D : Addr} {Pv : Nat → List Rp → Prop} (h0 : W1.H D = none) (hp : Pv 0 []) : Cw W1 D Pv 0 (upd W1.H D (.lst [])) :=
  ⟨W1.loc D (.lst []) h0, [], rfl, W1.loc_le h0, ⟨W1.bfree h0, (fun e => by
    obtain ⟨_, x, y, q, _⟩ := W1.room D e
    rw [q] at h0; cases h0), [], upd_same, True.intro⟩, hp, Nat.le_refl _⟩
theorem cw_end {W1 : Wd} {D : Addr} {Pv : Nat → List Rp → Prop} {n : Nat} {H' : Hp} (h0 : W1.H D = none) (h : Cw W1 D Pv n H') : ∃ W2 : Wd, W2.H = H' ∧ Le W1 W2 ∧ (anyR (Pv n) (lstR K)).p W2.B (.ref D) := by
  obtain ⟨W', rs, rfl, l, ⟨b, r, ac, h1, h2⟩, hp, _⟩ := h
  exact ⟨W'.frz D _ h1 r, rfl, Wd.frz_le l h1 r (Wd.fre h0), rs, hp, D, ac, rfl, upd_same, h2.mono (Wd.frz_b h1 r b)⟩
theorem ev_lcL (Pv : Nat → List Rp → Prop) (h : Ev tl σ W (lstR K rs)) (hz : rs.length ≤ 100000) (h0 : Pv 0 [])
    (hs : ∀ (i : Nat) (r : Rp) (x : V) (W1 : Wd) (acc : List Rp), rs[i]? = some r → Le W W1 → r.p W1.B x → Pv i acc → ∀ Q : L2.St → Hp → Prop, (∀ σ2, wipe σ2 vs = wipe σ vs → Turn1 t te Pv i σ2 W1 acc → Q σ2 W1.H) → g x (wipe σ vs) W1.H Q) :
    Ev (tLc (iList K tl) g t te vs) σ W (anyR (Pv rs.length) (lstR K)) := fun W0 l0 Q q => h W0 l0 _ fun x W1 l1 ⟨a, us, e1, h1, h2⟩ => ⟨a, e1, ⟨us, lsq (W1.ex _ _ h1)⟩, fun D hD =>
  lc_list (xs := us) (Cw W1 D Pv) (cw_start hD h0) (fun i H' _ ⟨W', _, e, l, _⟩ => by rw [← e]; exact lsq (W'.ex _ _ (l.b _ _ h1))) (fun i x H' hi ⟨W', acc, e, l, L, hp, hl⟩ => by
    subst e
    obtain ⟨r, h3, h4⟩ := h2.get hi
    refine hs i r x W' acc h3 ((l0.trans l1).trans l) (r.mono l.b h4) hp _ fun σ2 hw ht => ⟨hw, ?_⟩
    have := (List.getElem?_eq_some_iff.mp h3).1
    exact cw_turn hD l L hl (by omega) ht)
    (fun H' p => by
      rw [h2.len] at p
      obtain ⟨W2, e, l2, hr⟩ := cw_end (K := K) hD p
      rw [← e]
      exact q _ W2 (l1.trans l2) hr)⟩
theorem ev_lcT (Pv : Nat → List Rp → Prop) (h : Ev tl σ W (tupR K rs)) (hz : rs.length ≤ 100000) (h0 : Pv 0 [])
    (hs : ∀ (i : Nat) (r : Rp) (x : V) (W1 : Wd) (acc : List Rp), rs[i]? = some r → Le W W1 → r.p W1.B x → Pv i acc → ∀ Q : L2.St → Hp → Prop, (∀ σ2, wipe σ2 vs = wipe σ vs → Turn1 t te Pv i σ2 W1 acc → Q σ2 W1.H) → g x (wipe σ vs) W1.H Q) :
    Ev (tLc (iTup K tl) g t te vs) σ W (anyR (Pv rs.length) (lstR K)) := fun W0 l0 Q q => h W0 l0 _ fun x W1 l1 ⟨a, us, e1, h1, h2⟩ => ⟨a, e1, ⟨us, sqt_mono W1.ex h1⟩, fun D hD =>
  lc_tup (xs := us) (Cw W1 D Pv) (cw_start hD h0) (fun i H' _ ⟨W', _, e, l, _⟩ => by rw [← e]; exact sqt_mono W'.ex (sqt_mono l.b h1)) (fun i x H' hi ⟨W', acc, e, l, L, hp, hl⟩ => by
    subst e
    obtain ⟨r, h3, h4⟩ := h2.get hi
    refine hs i r x W' acc h3 ((l0.trans l1).trans l) (r.mono l.b h4) hp _ fun σ2 hw ht => ⟨hw, ?_⟩
    have := (List.getElem?_eq_some_iff.mp h3).1
    exact cw_turn hD l L hl (by omega) ht)
    (fun H' p => by
      rw [h2.len] at p
      obtain ⟨W2, e, l2, hr⟩ := cw_end (K := K) hD p
      rw [← e]
      exact q _ W2 (l1.trans l2) hr)⟩
theorem ev_lcR2 {ta : TA} {lo hi : Int} (Pv : Nat → List Rp → Prop) (h : EvA ta σ W [int lo, int hi]) (hb : -100000 ≤ lo ∧ lo ≤ 100000 ∧ -100000 ≤ hi ∧ hi ≤ 100000) (hz : (hi - lo).toNat ≤ 100000) (h0 : Pv 0 [])
    (hs : ∀ (i : Nat) (W1 : Wd) (acc : List Rp), i < (hi - lo).toNat → Le W W1 → Pv i acc → ∀ Q : L2.St → Hp → Prop, (∀ σ2, wipe σ2 vs = wipe σ vs → Turn1 t te Pv i σ2 W1 acc → Q σ2 W1.H) → g (.int (lo + (i : Int))) (wipe σ vs) W1.H Q) :
    Ev (tLc (iRng2 ta) g t te vs) σ W (anyR (Pv (hi - lo).toNat) (lstR K)) := fun W0 l0 Q q => h W0 l0 _ fun us W1 l1 hus => by
  obtain ⟨x, y, rfl, ex, ey⟩ := hus.two
  cases ex; cases ey
  refine ⟨lo, hi, rfl, ⟨by omega, by omega, by omega, by omega⟩, fun D hD => ?_⟩
  refine lc_range (lo := lo) (n := (hi - lo).toNat) (Cw W1 D Pv) (cw_start hD h0) (fun i H' hi' ⟨W', acc, e, l, L, hp, hl⟩ => by
    subst e
    exact hs i W' acc hi' ((l0.trans l1).trans l) hp _ fun σ2 hw ht => ⟨hw, cw_turn hD l L hl (by omega) ht⟩)
    (fun H' p => by
      obtain ⟨W2, e, l2, hr⟩ := cw_end (K := K) hD p
      rw [← e]
      exact q _ W2 (l1.trans l2) hr)
theorem ev_lcR1 {ta : TA} {n : Int} (Pv : Nat → List Rp → Prop) (h : EvA ta σ W [int n]) (hb : -100000 ≤ n ∧ n ≤ 100000) (h0 : Pv 0 [])
    (hs : ∀ (i : Nat) (W1 : Wd) (acc : List Rp), i < n.toNat → Le W W1 → Pv i acc → ∀ Q : L2.St → Hp → Prop, (∀ σ2, wipe σ2 vs = wipe σ vs → Turn1 t te Pv i σ2 W1 acc → Q σ2 W1.H) → g (.int (i : Int)) (wipe σ vs) W1.H Q) :
    Ev (tLc (iRng1 ta) g t te vs) σ W (anyR (Pv n.toNat) (lstR K)) := fun W0 l0 Q q => h W0 l0 _ fun us W1 l1 hus => by
  obtain ⟨x, rfl, ex⟩ := hus.one
  cases ex
  refine ⟨n, rfl, by omega, by omega, fun D hD => ?_⟩
  refine lc_range (lo := 0) (n := n.toNat) (Cw W1 D Pv) (cw_start hD h0) (fun i H' hi' ⟨W', acc, e, l, L, hp, hl⟩ => by
    subst e
    have e0 : (0 : Int) + (i : Int) = (i : Int) := Int.zero_add _
    show g (.int ((0 : Int) + (i : Int))) (wipe σ vs) W'.H _
    rw [e0]
    exact hs i W' acc hi' ((l0.trans l1).trans l) hp _ fun σ2 hw ht => ⟨hw, cw_turn hD l L hl (by omega) ht⟩)
    (fun H' p => by
      obtain ⟨W2, e, l2, hr⟩ := cw_end (K := K) hD p
      rw [← e]
      exact q _ W2 (l1.trans l2) hr)
theorem g_name {j : Nat} {x : V} {H : Hp} {Q : L2.St → Hp → Prop} (k : Q (σ.set j (some x)) H) : gName j x σ H Q := k
theorem g_pair {i j : Nat} {v : V} {Q : L2.St → Hp → Prop} (h : (tupR K [RA, RB]).p W.B v) (k : ∀ x y, RA.p W.B x → RB.p W.B y → Q ((σ.set i (some x)).set j (some y)) W.H) : gTup K 2 (gCons (gName i) (gCons (gName j) gNil)) v σ W.H Q := by
  obtain ⟨a, us, rfl, h1, h2⟩ := h
  obtain ⟨x, y, rfl, hx, hy⟩ := h2.two
  exact ⟨a, [x, y], rfl, sqt_mono W.ex h1, rfl, x, [y], rfl, y, [], rfl, rfl, k x y hx hy⟩
theorem g_triple {i j m : Nat} {v : V} {RC' : Rp} {Q : L2.St → Hp → Prop} (h : (tupR K [RA, RB, RC']).p W.B v) (k : ∀ x y z, RA.p W.B x → RB.p W.B y → RC'.p W.B z → Q (((σ.set i (some x)).set j (some y)).set m (some z)) W.H) : gTup K 3 (gCons (gName i) (gCons (gName j) (gCons (gName m) gNil))) v σ W.H Q := by
  obtain ⟨a, us, rfl, h1, h2⟩ := h
  obtain ⟨x, y, z, rfl, hx, hy, hz⟩ := h2.three
  exact ⟨a, [x, y, z], rfl, sqt_mono W.ex h1, rfl, x, [y, z], rfl, y, [z], rfl, z, [], rfl, rfl, k x y z hx hy hz⟩
theorem eb_yes : EvB tYes σ W (Bo true) := fun W1 l Q q => q true W1 (Le.refl _) rfl
/-- a turn without a test -/
theorem turn_yes {Pv : Nat → List Rp → Prop} {i : Nat} {acc : List Rp} (he : Ev te σ W R) (hp : Pv (i + 1) (acc ++ [R])) : Turn1 tYes te Pv i σ W acc := ⟨Bo true, R, eb_yes, fun _ => ⟨he, hp⟩, fun e => nomatch e⟩
theorem turn_no {Pv : Nat → List Rp → Prop} {i : Nat} {acc : List Rp} (h : EvB t σ W (Bo false)) (hp : Pv (i + 1) acc) : Turn1 t te Pv i σ W acc := ⟨Bo false, int 0, h, fun e => (by cases (show true = false from e)), fun _ => hp⟩
theorem take_snoc {α β : Type} {f : α → β} {xs : List α} {i : Nat} {r : β} (h : (xs.map f)[i]? = some r) : (xs.take (i + 1)).map f = (xs.take i).map f ++ [r] ∧ ∃ x, xs[i]? = some x ∧ r = f x ∧ x ∈ xs := by
  rw [List.getElem?_map] at h
  cases e : xs[i]? with
  | none => rw [e] at h; cases h
  | some x =>
    rw [e] at h
    have h' : f x = r := Option.some.inj h
    refine ⟨?_, x, rfl, h'.symm, List.mem_of_getElem? e⟩
    rw [List.take_add_one, e, List.map_append, ← h']; rfl
/-- [e for x in xs], each e determined -/
theorem ev_mapL {α : Type} {xs : List α} {F G : α → Rp} (h : Ev tl σ W (lstR K (xs.map F))) (hz : xs.length ≤ 100000)
    (hs : ∀ (a : α) (x : V) (W1 : Wd), a ∈ xs → Le W W1 → (F a).p W1.B x → ∀ Q : L2.St → Hp → Prop, (∀ σ2, wipe σ2 vs = wipe σ vs → Ev te σ2 W1 (G a) → Q σ2 W1.H) → g x (wipe σ vs) W1.H Q) :
    Ev (tLc (iList K tl) g tYes te vs) σ W (lstR K (xs.map G)) := by
  refine Ev.imp (ev_lcL (fun i acc => acc = (xs.take i).map G) h (by rw [List.length_map]; exact hz) rfl ?_) ?_
  · rintro i r x W1 acc hi l hx rfl Q q
    obtain ⟨_, a, ha, rfl, hm⟩ := take_snoc hi
    refine hs a x W1 hm l hx Q fun σ2 hw he => q σ2 hw (turn_yes he ?_)
    exact (take_snoc (f := G) (by rw [List.getElem?_map, ha]; rfl)).1.symm
  · rintro W1 v _ ⟨acc, e, hv⟩
    rw [List.length_map, List.take_of_length_le (Nat.le_refl _)] at e
    rw [← e]; exact hv
/-- [e for x in xs if t] -/
theorem ev_filL {α : Type} {xs : List α} {F G : α → Rp} {p : α → Bool} (h : Ev tl σ W (lstR K (xs.map F))) (hz : xs.length ≤ 100000)
    (hs : ∀ (a : α) (x : V) (W1 : Wd), a ∈ xs → Le W W1 → (F a).p W1.B x → ∀ Q : L2.St → Hp → Prop, (∀ σ2, wipe σ2 vs = wipe σ vs → EvB t σ2 W1 (Bo (p a)) → (p a = true → Ev te σ2 W1 (G a)) → Q σ2 W1.H) → g x (wipe σ vs) W1.H Q) :
    Ev (tLc (iList K tl) g t te vs) σ W (lstR K ((xs.filter p).map G)) := by
  refine Ev.imp (ev_lcL (fun i acc => acc = ((xs.take i).filter p).map G) h (by rw [List.length_map]; exact hz) rfl ?_) ?_
  · rintro i r x W1 acc hi l hx rfl Q q
    obtain ⟨_, a, ha, rfl, hm⟩ := take_snoc hi
    have ht : xs.take (i + 1) = xs.take i ++ [a] := by rw [List.take_add_one, ha]; rfl
    refine hs a x W1 hm l hx Q fun σ2 hw hb he => q σ2 hw ⟨Bo (p a), G a, hb, fun hp => ⟨he hp.symm, ?_⟩, fun hp => ?_⟩
    · show _ = ((xs.take (i + 1)).filter p).map G
      rw [ht, List.filter_append, List.map_append, List.filter_cons, if_pos hp.symm]; rfl
    · show _ = ((xs.take (i + 1)).filter p).map G
      rw [ht, List.filter_append, List.map_append, List.filter_cons, if_neg (by rw [← hp]; decide)]
      simp
  · rintro W1 v _ ⟨acc, e, hv⟩
    rw [List.length_map, List.take_of_length_le (Nat.le_refl _)] at e
    rw [← e]; exact hv
end
end Fs

set_option Elab.async false
set_option linter.all false
set_option maxRecDepth 100000
set_option maxHeartbeats 2000000
namespace Fs
open PySem PySem.Spec PyProof.Rows L2 C8
/-! ### plain data, compared -/
def Dt (K : PySem.W.Frag) (n : Nat) (r : Rp) (d : PyData) : Prop := (∀ H v, r.p H v → Dp K H v d) ∧ d.canLay0 = true ∧ d.depth ≤ n
def DtA (K : PySem.W.Frag) (n : Nat) : List Rp → List PyData → Prop
  | [], [] => True
  | r :: rs, d :: ds => Dt K n r d ∧ DtA K n rs ds
  | _, _ => False
section
variable {K : PySem.W.Frag} {σ : L2.St} {W : Wd} {ta tb : TE} {R RA RB : Rp} {rs : List Rp} {n m : Nat} {d e : PyData} {ds : List PyData}
theorem dpall_mono {H H' : Hp} (s : Same H H') : ∀ {vs : List V} {ds : List PyData}, (∀ v d, d ∈ ds → Dp K H v d → Dp K H' v d) → DpAll K H vs ds → DpAll K H' vs ds
  | [], [], _, _ => .nil
  | _ :: _, _ :: _, f, .cons h t => .cons (f _ _ (List.mem_cons_self ..) h) (dpall_mono s (fun v d hd => f v d (List.mem_cons_of_mem _ hd)) t)
theorem dta_all {n : Nat} : ∀ {rs : List Rp} {ds : List PyData} {H : Hp} {vs : List V}, DtA K n rs ds → RpA rs H vs → DpAll K H vs ds ∧ PyData.canLayAll0 ds = true ∧ PyData.depthAll ds ≤ n
  | [], [], _, [], _, _ => ⟨.nil, rfl, Nat.zero_le _⟩
  | r :: rs, d :: ds, H, v :: vs, h, g => by
    obtain ⟨h1, h2, h3⟩ := dta_all h.2 g.2
    refine ⟨.cons (h.1.1 _ _ g.1) h1, ?_, ?_⟩
    · simp only [PyData.canLayAll0, h.1.2.1, h2, Bool.and_self]
    · simp only [PyData.depthAll]
      exact Nat.max_le.mpr ⟨h.1.2.2, h3⟩
theorem dta_ok {n : Nat} : ∀ {rs : List Rp} {ds : List PyData}, DtA K n rs ds → PyData.canLayAll0 ds = true ∧ PyData.depthAll ds ≤ n
  | [], [], _ => ⟨rfl, Nat.zero_le _⟩
  | r :: rs, d :: ds, h => by
    obtain ⟨h2, h3⟩ := dta_ok h.2
    refine ⟨?_, ?_⟩
    · simp only [PyData.canLayAll0, h.1.2.1, h2, Bool.and_self]
    · simp only [PyData.depthAll]
      exact Nat.max_le.mpr ⟨h.1.2.2, h3⟩
theorem Dt.mono (h : Dt K n R d) (l : n ≤ m) : Dt K m R d := ⟨h.1, h.2.1, Nat.le_trans h.2.2 l⟩
theorem dt_int {i : Int} : Dt K n (int i) (.int i) := ⟨fun H v h => by cases h; exact .int i, rfl, Nat.zero_le _⟩
theorem dt_tup (h : DtA K n rs ds) : Dt K (n + 1) (tupR K rs) (.tuple ds) := ⟨fun H v ⟨a, vs, e, h1, h2⟩ => by
    rw [e]; exact .tup h1 (dta_all h h2).1, by simp only [PyData.canLay0]; exact (dta_ok h).1, by simp only [PyData.depth]; exact Nat.succ_le_succ (dta_ok h).2⟩
theorem dt_lst (h : DtA K n rs ds) : Dt K (n + 1) (lstR K rs) (.list ds) := ⟨fun H v ⟨a, vs, e, h1, h2⟩ => by
    rw [e]; exact .lst (lsq h1) (dta_all h h2).1, by simp only [PyData.canLay0]; exact (dta_ok h).1, by simp only [PyData.depth]; exact Nat.succ_le_succ (dta_ok h).2⟩
theorem dta_map {α : Type} {F : α → Rp} {G : α → PyData} (h : ∀ a, Dt K n (F a) (G a)) : ∀ {xs : List α}, DtA K n (xs.map F) (xs.map G)
  | [] => True.intro
  | _ :: _ => ⟨h _, dta_map h⟩
theorem prod_tup {ps : List Int} {H : Hp} {v : V} (h : (prod ps).p H v) : (tupR K (ps.map int)).p H v := by
  obtain ⟨a, rfl, h⟩ := h
  exact ⟨a, _, rfl, .inl (.inl h), rpa_ints⟩
theorem dt_prod {ps : List Int} : Dt K 1 (prod ps) (.tuple (ps.map .int)) := by
  have h := dt_tup (K := K) (n := 0) (dta_map (F := int) (G := PyData.int) (xs := ps) fun a => dt_int)
  exact ⟨fun H v z => h.1 H v (prod_tup z), h.2⟩
theorem shaped_of (h : Dt K n R d) (l : n ≤ 64) : SeqAt.shaped d = true := by
  unfold SeqAt.shaped
  rw [h.2.1, Bool.true_and]
  exact decide_eq_true (Nat.le_trans h.2.2 l)
theorem Dt.at_ (h : Dt K n R d) {W : Wd} {v : V} (z : R.p W.B v) : Dp K W.H v d := h.1 _ _ (R.mono W.ex z)
theorem ev_eqD (ha : Ev ta σ W RA) (hb : Ev tb σ W RB) (da : Dt K n RA d) (db : Dt K m RB e) (hn : n ≤ 64) (hm : m ≤ 64) : Ev (tOp (rEqD K) ta tb) σ W (bl (PyData.eqv d e)) :=
  ev_op ha hb fun x y W1 _ hx hy W2 l Q q => ⟨d, e, da.at_ (RA.mono l.b hx), db.at_ (RB.mono l.b hy), shaped_of da hn, shaped_of db hm, q _ W2 (Le.refl _) rfl⟩
theorem ev_neD (ha : Ev ta σ W RA) (hb : Ev tb σ W RB) (da : Dt K n RA d) (db : Dt K m RB e) (hn : n ≤ 64) (hm : m ≤ 64) : Ev (tOp (rNeD K) ta tb) σ W (bl (!PyData.eqv d e)) :=
  ev_op ha hb fun x y W1 _ hx hy W2 l Q q => ⟨d, e, da.at_ (RA.mono l.b hx), db.at_ (RB.mono l.b hy), shaped_of da hn, shaped_of db hm, q _ W2 (Le.refl _) rfl⟩
end
def dNum (n : Num) : PyData := .tuple [.int n.1, .int n.2]
theorem dt_num {K : PySem.W.Frag} {n : Num} : Dt K 1 (num K n) (dNum n) := dt_tup (n := 0) ⟨dt_int, dt_int, True.intro⟩
theorem eqv_num (a b : Num) : PyData.eqv (dNum a) (dNum b) = decide (a = b) := by
  obtain ⟨a1, a2⟩ := a
  obtain ⟨b1, b2⟩ := b
  simp only [dNum, PyData.eqv, PyData.eqvAll, Bool.and_true]
  by_cases h1 : a1 = b1 <;> by_cases h2 : a2 = b2 <;> simp [h1, h2]
theorem eqv_ints : ∀ (a b : List Int), PyData.eqvAll (a.map .int) (b.map .int) = decide (a = b)
  | [], [] => by simp [PyData.eqvAll]
  | [], _ :: _ => by simp [PyData.eqvAll]
  | _ :: _, [] => by simp [PyData.eqvAll]
  | x :: a, y :: b => by
    simp only [List.map_cons, PyData.eqvAll, PyData.eqv, eqv_ints a b]
    by_cases h1 : x = y <;> by_cases h2 : a = b <;> simp [h1, h2]

local macro_rules | `(tactic| walk_at "up") => `(tactic| first
  | assumption
  | ((refine Rp.mono _ (by assumption : Same _ _) ?_); walk_at "up")
  | ((refine Rp.mono _ (Le.b (by assumption)) ?_); walk_at "up"))
local macro_rules | `(tactic| walk_at "ev") => `(tactic| first
  | ((with_reducible refine' ev_var ?h1 ?h2); (case h1 => rfl); (case h2 => walk_at "up"))
  | ((with_reducible refine' ev_vi ?h1); (case h1 => rfl))
  | with_reducible exact ev_ci
  | ((with_reducible refine' ev_I0 ?ea ?eb); (case ea => walk_at "ev"); (case eb => walk_at "ev"))
  | ((with_reducible refine' ev_notV ?ea); (case ea => walk_at "ev"))
  | ((with_reducible refine' eb_test ?ea); (case ea => walk_at "ev"))
  | ((with_reducible refine' eb_B ?ea); (case ea => walk_at "ev"))
  | ((with_reducible refine' eb_not ?ea); (case ea => walk_at "ev"))
  | ((with_reducible refine' ev_eq ?ea ?eb ?ec); (case ea => walk_at "ev"); (case eb => walk_at "ev"); (case ec => rfl))
  | ((with_reducible refine' ev_ne ?ea ?eb ?ec); (case ea => walk_at "ev"); (case eb => walk_at "ev"); (case ec => rfl))
  | ((with_reducible refine' ev_chainI ?ea ?eb ?ec); (case ea => walk_at "ev"); (case eb => walk_at "ev"); (case ec => walk_at "ev"))
  | with_reducible exact ea_nil
  | ((with_reducible refine' ea_cons ?ea ?eb); (case ea => walk_at "ev"); (case eb => walk_at "ev")))

section
variable {P : Program} {w : World} {K : PySem.W.Frag} {mg : Str → Option Value} {base : Heap}
/-! ### fields -/
theorem ev_whole {σ : L2.St} {W : Wd} {t : TA} {E : XK} {i : Int} (h : EvA t σ W [int i]) : Ev (tCall sp_is_whole [] E t) σ W (bl true) := ev_call h i rfl fun _ _ => True.intro
def IsPr (p : Int) : Prop := 2 ≤ p ∧ p ≤ 97 ∧ ∀ d, 2 ≤ d → d < p → p % d ≠ 0
def sp_is_prime : Sp := spG (ι := Int) (fun i => [int i]) (fun _ p => IsPr p) fun _ => bl true
theorem ok_is_prime (T : Tx K mg) : Cal P w K mg base 2 "is_prime" sp_is_prime [] := by
  have h_is_whole := ok_is_whole (P := P) (w := w) (base := base) T
  obtain ⟨fd, F⟩ := T.d_is_prime
  refine ⟨_, fd, ["thing"], [], F.ok sc_is_prime (spG_len fun _ => rfl) (fun cdv A outer s H vs Q E hr h => ?_), T.g_is_prime, F.kp, F.bindsN (fun _ _ _ _ _ _ us hl => match us, hl with | [_], _ => rfl), .nil⟩
  obtain ⟨W, p, rfl, ha, hp, k⟩ := h
  obtain ⟨v0, rfl, rfl⟩ := ha.one
  refine ⟨_, PSs.nox (pss_cons (ps_if (PW.pt (pw_or (pt_not (pt_val (pe_c h_is_whole hr (by decide) rfl (pa_cons (pv 0) pa_nil)))) (pw_or1 (pt_not (pt_chain op_le op_le pe_int (pv 0) (pe_gc rfl T.c_MOST_PRIME)))))) pss_never pss_nil)
    (pss_one (ps_ret (pe_cmpR (op_eqD hr.units) (pe_lc (own := [("part", 1)]) rfl sc_is_prime.nd (pi_range2 (by rfl) T.b_range (pa_cons pe_int (pa_cons (pv 0) pa_nil))) (blkOk_by (N := ["thing", "part"]) (sc := defScope s_is_prime) (by decide +kernel)) (fun _ _ _ _ _ => (pg_name (i := 1) sc_is_prime.nd rfl (Or.inl rfl))) (fun _ _ _ _ _ => (pts_one (pt_cmpR op_eq (pe_op op_mod (pv 0) (pv 1)) pe_int (nomark _)))) (fun _ _ _ _ _ => (pv 1))) (pe_lst pa_nil) (nomark _))))), ?_⟩
  simp only [cxK, cxW, cxP]
  refine q_skip (eb_or (eb_not (eb_B (ev_whole (by walk_at "ev")))) (fun _ => eb_is (eb_not (eb_test (by walk_at "ev"))) ?_) (fun e => nomatch e)) fun W1 l1 => ?_
  · rw [decide_eq_true hp.1, decide_eq_true hp.2.1]; rfl
  · refine s_ret (ev_is (ev_eqD (RA := lstR K []) ?_ (ev_lst (K := K) ea_nil (by decide)) (dt_lst (n := 0) (ds := []) True.intro) (dt_lst (n := 0) (ds := []) True.intro) (by decide) (by decide)) (by rfl)) fun v W2 l2 hv => k v W2 (l1.trans l2) hv
    refine Ev.imp (ev_lcR2 (K := K) (lo := 2) (hi := p) (fun i acc => acc = []) (by walk_at "ev") ⟨by decide, by decide, by have := hp.1; omega, by have := hp.2.1; omega⟩ (by have := hp.2.1; omega) rfl ?_) ?_
    · rintro i W2 acc hi l2 rfl Q' q'
      refine g_name (q' _ rfl (turn_no (eb_is (eb_test (ev_eq (ev_I (by walk_at "ev") (by walk_at "ev") ?_) (by walk_at "ev") rfl)) ?_) rfl))
      · show (0 : Int) < 2 + (i : Int); omega
      · have := hp.2.2 (2 + (i : Int)) (by omega) (by omega)
        exact decide_eq_false fun e => this (V.int.inj e)
    · rintro W2 v _ ⟨acc, rfl, hv⟩
      exact hv
end
end Fs

set_option Elab.async false
set_option linter.all false
set_option maxRecDepth 100000
set_option maxHeartbeats 2000000
namespace Fs
open PySem PySem.Spec PyProof.Rows L2 C8
section
variable {K : PySem.W.Frag} {σ : L2.St} {W : Wd} {ta tb te : TE} {R RA RB : Rp} {rs : List Rp}
theorem ev_abs {i : Int} (h : Ev ta σ W (int i)) : Ev (tCB (fun xs H Q => ∃ i, xs = [.int i] ∧ Q (.int (if i < 0 then -i else i)) H) (tCons ta tNil)) σ W (int (if i < 0 then -i else i)) := fun W1 l Q q =>
  h W1 l _ fun v W2 l2 hv => ⟨i, by rw [show v = V.int i from hv], q _ W2 l2 rfl⟩
theorem ev_min {i j : Int} (ha : Ev ta σ W (int i)) (hb : Ev tb σ W (int j)) : Ev (tCB (fun xs H Q => ∃ i j, xs = [.int i, .int j] ∧ Q (.int (if j < i then j else i)) H) (tCons ta (tCons tb tNil))) σ W (int (if j < i then j else i)) := fun W1 l Q q =>
  ha W1 l _ fun v W2 l2 hv => hb W2 (l.trans l2) _ fun u W3 l3 hu => ⟨i, j, by rw [show v = V.int i from hv, show u = V.int j from hu], q _ W3 (l2.trans l3) rfl⟩
theorem ev_max {i j : Int} (ha : Ev ta σ W (int i)) (hb : Ev tb σ W (int j)) : Ev (tCB (fun xs H Q => ∃ i j, xs = [.int i, .int j] ∧ Q (.int (if j > i then j else i)) H) (tCons ta (tCons tb tNil))) σ W (int (if j > i then j else i)) := fun W1 l Q q =>
  ha W1 l _ fun v W2 l2 hv => hb W2 (l.trans l2) _ fun u W3 l3 hu => ⟨i, j, by rw [show v = V.int i from hv, show u = V.int j from hu], q _ W3 (l2.trans l3) rfl⟩
theorem ev_lenL (h : Ev ta σ W (lstR K rs)) : Ev (tCB (fun xs H Q => ∃ p ys, xs = [.ref p] ∧ (SqL K H p ys ∨ SqT K H p ys) ∧ Q (.int ys.length) H) (tCons ta tNil)) σ W (int (rs.length : Int)) := fun W1 l Q q =>
  h W1 l _ fun v W2 l2 ⟨a, vs, e, h1, h2⟩ => ⟨a, vs, by rw [e], .inl (lsq (W2.ex _ _ h1)), q _ W2 l2 (by rw [h2.len]; rfl)⟩
theorem ev_lenT (h : Ev ta σ W (tupR K rs)) : Ev (tCB (fun xs H Q => ∃ p ys, xs = [.ref p] ∧ (SqL K H p ys ∨ SqT K H p ys) ∧ Q (.int ys.length) H) (tCons ta tNil)) σ W (int (rs.length : Int)) := fun W1 l Q q =>
  h W1 l _ fun v W2 l2 ⟨a, vs, e, h1, h2⟩ => ⟨a, vs, by rw [e], .inr (sqt_mono W2.ex h1), q _ W2 l2 (by rw [h2.len]; rfl)⟩
theorem ev_intB {b : Bool} (h : Ev ta σ W (bl b)) : Ev (tCB (fun xs H Q => (∃ i, xs = [.int i] ∧ Q (.int i) H) ∨ ∃ k, xs = [.bl k] ∧ Q (.int (if k then 1 else 0)) H) (tCons ta tNil)) σ W (int (if b then 1 else 0)) := fun W1 l Q q =>
  h W1 l _ fun v W2 l2 hv => .inr ⟨b, by rw [show v = V.bl b from hv], q _ W2 l2 rfl⟩
theorem rpa_bools {H : Hp} : ∀ {bs : List Bool} {vs : List V}, RpA (bs.map bl) H vs → vs = bs.map V.bl
  | [], [], _ => rfl
  | b :: bs, v :: vs, h => by
    rw [rpa_bools (show RpA (bs.map bl) H vs from h.2), show v = V.bl b from h.1]; rfl
  | [], _ :: _, h => h.elim
  | _ :: _, [], h => h.elim
theorem ev_all {bs : List Bool} (h : Ev ta σ W (lstR K (bs.map bl))) : Ev (tCB (rAll K) (tCons ta tNil)) σ W (bl (bs.all id)) := fun W1 l Q q =>
  h W1 l _ fun v W2 l2 ⟨a, vs, e, h1, h2⟩ => ⟨a, bs, by rw [e], by rw [← rpa_bools h2]; exact lsq (W2.ex _ _ h1), q _ W2 l2 rfl⟩
theorem ev_neg {i : Int} (h : Ev ta σ W (int i)) : Ev (tUn (rU fun i => .int (-i)) ta) σ W (int (-i)) := fun W1 l Q q =>
  h W1 l _ fun v W2 l2 hv => ⟨i, hv, q _ W2 l2 rfl⟩
theorem ev_prodT {ps : List Int} (h : Ev ta σ W (prod ps)) : Ev ta σ W (tupR K (ps.map int)) := h.imp fun _ _ _ z => prod_tup z
theorem ev_get0 {n : Num} (h : Ev ta σ W (num K n)) : Ev (tOp (rIxT K) ta (tC (.int 0))) σ W (int n.1) := ev_ixT h ev_ci (j := 0) rfl rfl
theorem ev_get1 {n : Num} (h : Ev ta σ W (num K n)) : Ev (tOp (rIxT K) ta (tC (.int 1))) σ W (int n.2) := ev_ixT h ev_ci (j := 1) rfl rfl
theorem ev_mul {i j : Int} (ha : Ev ta σ W (int i)) (hb : Ev tb σ W (int j)) (hc : CMulW i j) : Ev (tOp (rI CMulW fun i j => .int (i * j)) ta tb) σ W (int (i * j)) := ev_I ha hb hc
theorem ev_div {i j : Int} (ha : Ev ta σ W (int i)) (hb : Ev tb σ W (int j)) (hc : CDivW i j) : Ev (tOp (rI CDivW fun i j => .int (i / j)) ta tb) σ W (int (i / j)) := ev_I ha hb hc
theorem ev_mod {i j : Int} (ha : Ev ta σ W (int i)) (hb : Ev tb σ W (int j)) (hc : 0 < j) : Ev (tOp (rI (fun _ j => 0 < j) fun i j => .int (i % j)) ta tb) σ W (int (i % j)) := ev_I ha hb hc
end
theorem cmul_of {i j : Int} (h : i.natAbs < pw2 8200) (g : j.natAbs < pw2 8200) : CMulW i j := wide_mul (a := 8200) (b := 8200) h g (by decide) (by decide) (by decide)
theorem cdiv_of {i j : Int} (h : 0 < j) (g : j.natAbs < pw2 8200) : CDivW i j := wide_div (b := 8200) h g (by decide) (by decide)
theorem pw_le {i : Int} {k : Nat} (h : i.natAbs < pw2 k) (l : k ≤ 8200) : i.natAbs < pw2 8200 := Nat.lt_of_lt_of_le h (pow_le l)
theorem one_pw : (1 : Int).natAbs < pw2 8200 := Nat.lt_of_lt_of_le (by decide : (1 : Int).natAbs < 2) (pow_le (a := 1) (by decide))

local macro_rules | `(tactic| walk_at "up") => `(tactic| first
  | assumption
  | ((refine Rp.mono _ (by assumption : Same _ _) ?_); walk_at "up")
  | ((refine Rp.mono _ (Le.b (by assumption)) ?_); walk_at "up"))
local macro_rules | `(tactic| walk_at "ev") => `(tactic| first
  | ((with_reducible refine' ev_var ?h1 ?h2); (case h1 => rfl); (case h2 => walk_at "up"))
  | ((with_reducible refine' ev_vi ?h1); (case h1 => rfl))
  | with_reducible exact ev_ci
  | ((with_reducible refine' ev_I0 ?ea ?eb); (case ea => walk_at "ev"); (case eb => walk_at "ev"))
  | ((with_reducible refine' ev_notV ?ea); (case ea => walk_at "ev"))
  | ((with_reducible refine' eb_test ?ea); (case ea => walk_at "ev"))
  | ((with_reducible refine' eb_B ?ea); (case ea => walk_at "ev"))
  | ((with_reducible refine' eb_not ?ea); (case ea => walk_at "ev"))
  | ((with_reducible refine' ev_eq ?ea ?eb ?ec); (case ea => walk_at "ev"); (case eb => walk_at "ev"); (case ec => rfl))
  | ((with_reducible refine' ev_ne ?ea ?eb ?ec); (case ea => walk_at "ev"); (case eb => walk_at "ev"); (case ec => rfl))
  | ((with_reducible refine' ev_chainI ?ea ?eb ?ec); (case ea => walk_at "ev"); (case eb => walk_at "ev"); (case ec => walk_at "ev"))
  | with_reducible exact ea_nil
  | ((with_reducible refine' ea_cons ?ea ?eb); (case ea => walk_at "ev"); (case eb => walk_at "ev")))
section
variable {P : Program} {w : World} {K : PySem.W.Frag} {mg : Str → Option Value} {base : Heap}
/-- what lowest takes -/
def LowOk (t b : Int) : Prop := t.natAbs < pw2 8100 ∧ b.natAbs < pw2 8100 ∧ 0 < b
def sp_lowest (K : PySem.W.Frag) : Sp := spG (ι := Int × Int) (fun x => [int x.1, int x.2]) (fun _ x => LowOk x.1 x.2) fun x => num K (low x.1 x.2)
theorem low_end {t b g : Int} (e : g = ((Int.gcd t b : Nat) : Int)) (hb : 0 < b) : low t b = (1 * t / g, (if b < 0 then -b else b) / g) := by
  unfold low
  rw [← e, Int.one_mul, if_neg (by omega)]
/-- the loop of both -/
def LowI (t b : Int) (x y : Int) : Prop := 0 ≤ x ∧ 0 ≤ y ∧ Int.gcd x y = Int.gcd t b
theorem lowI_start (t b : Int) : LowI t b (if t < 0 then -t else t) (if b < 0 then -b else b) := ⟨by split <;> omega, by split <;> omega, gcd_abs t b⟩
theorem lowI_turn {t b x y : Int} (h : LowI t b x y) (hy : y ≠ 0) : LowI t b y (x % y) ∧ (x % y).toNat < y.toNat ∧ 0 < y := by
  obtain ⟨h1, h2, h3⟩ := h
  have hp : 0 < y := by omega
  have := Int.emod_lt_of_pos x hp
  have := Int.emod_nonneg x hy
  exact ⟨⟨h2, this, (gcd_step x y h1 hp).trans h3⟩, by omega, hp⟩
theorem lowI_end {t b x : Int} (h : LowI t b x 0) : x = ((Int.gcd t b : Nat) : Int) := by rw [← h.2.2, gcd_nat h.1]
theorem ok_lowest (T : Tx K mg) : Cal P w K mg base 1 "lowest" (sp_lowest K) [] := by
  obtain ⟨fd, F⟩ := T.d_lowest
  refine ⟨_, fd, ["top", "bottom"], [], F.ok sc_lowest (spG_len fun _ => rfl) (fun cdv A outer s H vs Q E hr h => ?_), T.g_lowest, F.kp, F.bindsN (fun _ _ _ _ _ _ us hl => match us, hl with | [_, _], _ => rfl), .nil⟩
  obtain ⟨W, ⟨t, b⟩, rfl, ha, ⟨ht, hb, hb0⟩, k⟩ := h
  obtain ⟨v0, v1, rfl, rfl, rfl⟩ := ha.two
  refine ⟨_, PSs.nox (pss_cons (ps_try_thru0 (pss_one (ps_set (i := 2) sc_lowest.nd rfl (Or.inl rfl) (pe_op op_fdivW (pv 1) (pe_callB call_abs (by rfl) T.b_abs (by decide +kernel) (pa_cons (pv 1) pa_nil))))))
    (pss_cons (ps_par (i := 4) (j := 5) rfl sc_lowest.nd rfl rfl (by decide) rfl rfl (pa_cons (pe_callB call_abs (by rfl) T.b_abs (by decide +kernel) (pa_cons (pv 0) pa_nil)) (pa_cons (pe_callB call_abs (by rfl) T.b_abs (by decide +kernel) (pa_cons (pv 1) pa_nil)) pa_nil)) (by rfl))
    (pss_cons (ps_while PassesOwn.never (pt_cmpR op_ne (pv 5) pe_int (nomark _)) (pss_one (ps_par (i := 4) (j := 5) rfl sc_lowest.nd rfl rfl (by decide) rfl rfl (pa_cons (pv 5) (pa_cons (pe_op op_mod (pv 4) (pv 5)) pa_nil)) (by rfl))))
    (pss_one (ps_ret (pe_tup (pa_cons (pe_op op_fdivW (pe_op op_mulW (pv 2) (pv 0)) (pv 4)) (pa_cons (pe_op op_fdivW (pe_callB call_abs (by rfl) T.b_abs (by decide +kernel) (pa_cons (pv 1) pa_nil)) (pv 4)) pa_nil)))))))), ?_⟩
  simp only [cxK, cxW, cxP]
  have hb2 : (if b < 0 then -b else b) = b := if_neg (by omega)
  have hsgn : b / b = 1 := Int.ediv_self (by omega)
  refine q_asg (R := int 1) (ev_is (ev_div (by walk_at "ev") (ev_abs (by walk_at "ev")) (by rw [hb2]; exact cdiv_of hb0 (pw_le hb (by decide)))) (by rw [hb2, hsgn])) ?_
  rintro _ W1 l1 rfl
  refine q_par (RA := int (if t < 0 then -t else t)) (RB := int (if b < 0 then -b else b)) (ea_cons (ev_abs (by walk_at "ev")) (ea_cons (ev_abs (by walk_at "ev")) ea_nil)) ?_
  rintro _ _ W2 l2 rfl rfl
  refine q_while (fun σ' W' => ∃ x y, σ' = [some (.int t), some (.int b), some (.int 1), none, some (.int x), some (.int y)] ∧ Le W W' ∧ LowI t b x y) (fun σ' _ => match σ' with | [_, _, _, _, _, some (.int y)] => y.toNat | _ => 0)
    (c := fun σ' _ => match σ' with | [_, _, _, _, _, some (.int y)] => !decide (V.int y = V.int 0) | _ => false) ⟨_, _, rfl, l1.trans l2, lowI_start t b⟩ ?_ ?_ ?_
  · rintro σ' W' ⟨x, y, rfl, l, hI⟩
    walk_at "ev"
  · rintro σ' W' W3 ⟨x, y, rfl, l, hI⟩ hc l3
    have hy : y ≠ 0 := fun e => by rw [e] at hc; simp at hc
    obtain ⟨h1, h2, h3⟩ := lowI_turn hI hy
    refine s_par (RA := int y) (RB := int (x % y)) (ea_cons (by walk_at "ev") (ea_cons (ev_mod (by walk_at "ev") (by walk_at "ev") h3) ea_nil)) ?_
    rintro _ _ W4 l4 rfl rfl
    exact ⟨W4, rfl, ⟨y, x % y, rfl, (l.trans l3).trans l4, h1⟩, h2⟩
  · rintro σ' W' W3 ⟨x, y, rfl, l, hI⟩ hc l3
    have hy : y = 0 := by
      by_cases e : y = 0
      · exact e
      · simp [e] at hc
    subst hy
    have hx := lowI_end hI
    have hx0 : 0 < x := by have := gcd_pos t b hb0; omega
    have hxs : x.natAbs < pw2 8200 := by rw [hx]; exact pw_le (gcd_lt hb0 hb) (by decide)
    refine s_ret (R := num K (low t b)) ?_ fun v W4 l4 hv => k v W4 ((l.trans l3).trans l4) hv
    rw [low_end hx hb0]
    exact ev_tup (ea_cons (ev_div (ev_mul (by walk_at "ev") (by walk_at "ev") (cmul_of one_pw (pw_le ht (by decide)))) (by walk_at "ev") (cdiv_of hx0 hxs)) (ea_cons (ev_div (ev_abs (by walk_at "ev")) (by walk_at "ev") (cdiv_of hx0 hxs)) ea_nil))
end
end Fs

set_option Elab.async false
set_option linter.all false
set_option maxRecDepth 100000
set_option maxHeartbeats 2000000
set_option exponentiation.threshold 10000
namespace Fs
open PySem PySem.Spec PyProof.Rows L2 C8
section
variable {K : PySem.W.Frag} {mg : Str → Option Value} {σ : L2.St} {W : Wd} {te : TE} {p : Int}
theorem ev_prime (T : Tx K mg) (h : Ev te σ W (fld K p)) : Ev (tFld K te "own_prime") σ W (int p) := ev_fld h T.k_Field T.n_Field_own_prime (i := 0) rfl rfl rfl
end
theorem fld_noprime {K : PySem.W.Frag} {p : Int} {m : Str} (h : ¬ m = "own_prime") : InsP (He.ga K "Field") m (fld K p) := ins_p rfl (by unfold ix; rw [if_neg h]; rfl)
theorem sz_pw {n : Num} (h : Sz n) : n.1.natAbs < pw2 8200 ∧ n.2.natAbs < pw2 8200 := ⟨pw_le h.1 (by decide), pw_le h.2 (by decide)⟩
theorem sz_low {n : Num} (h : Sz n) (h0 : 0 < n.2) : LowOk n.1 n.2 := ⟨Nat.lt_of_lt_of_le h.1 (pow_le (by decide)), Nat.lt_of_lt_of_le h.2 (pow_le (by decide)), h0⟩

local macro_rules | `(tactic| walk_at "up") => `(tactic| first
  | assumption
  | ((refine Rp.mono _ (by assumption : Same _ _) ?_); walk_at "up")
  | ((refine Rp.mono _ (Le.b (by assumption)) ?_); walk_at "up"))
local macro_rules | `(tactic| walk_at "ev") => `(tactic| first
  | ((with_reducible refine' ev_var ?h1 ?h2); (case h1 => rfl); (case h2 => walk_at "up"))
  | ((with_reducible refine' ev_vi ?h1); (case h1 => rfl))
  | with_reducible exact ev_ci
  | ((with_reducible refine' ev_get0 ?ea); (case ea => walk_at "ev"))
  | ((with_reducible refine' ev_get1 ?ea); (case ea => walk_at "ev"))
  | ((with_reducible refine' ev_I0 ?ea ?eb); (case ea => walk_at "ev"); (case eb => walk_at "ev"))
  | ((with_reducible refine' ev_notV ?ea); (case ea => walk_at "ev"))
  | ((with_reducible refine' eb_test ?ea); (case ea => walk_at "ev"))
  | ((with_reducible refine' eb_B ?ea); (case ea => walk_at "ev"))
  | ((with_reducible refine' eb_not ?ea); (case ea => walk_at "ev"))
  | ((with_reducible refine' ev_eq ?ea ?eb ?ec); (case ea => walk_at "ev"); (case eb => walk_at "ev"); (case ec => rfl))
  | ((with_reducible refine' ev_ne ?ea ?eb ?ec); (case ea => walk_at "ev"); (case eb => walk_at "ev"); (case ec => rfl))
  | ((with_reducible refine' ev_chainI ?ea ?eb ?ec); (case ea => walk_at "ev"); (case eb => walk_at "ev"); (case ec => walk_at "ev"))
  | with_reducible exact ea_nil
  | ((with_reducible refine' ea_cons ?ea ?eb); (case ea => walk_at "ev"); (case eb => walk_at "ev")))
section
variable {P : Program} {w : World} {K : PySem.W.Frag} {mg : Str → Option Value} {base : Heap}
def PrF (p : Int) : Prop := p = 0 ∨ IsPr p
theorem PrF.ok {p : Int} (h : PrF p) : PrOk p := h.imp id fun h => ⟨h.1, h.2.1⟩
def sp_Field_mk (K : PySem.W.Frag) : Sp := spI (ι := Int) (He.ga K "Field") (fun p => [int p]) (fun _ p => PrF p) fun p => fld K p
theorem ok_Field_mk (T : Tx K mg) : Mak P w K mg base 3 "Field" (He.ga K "Field") (sp_Field_mk K) [] := by
  have h_is_whole := ok_is_whole (P := P) (w := w) (base := base) T
  have h_is_prime := ok_is_prime (P := P) (w := w) (base := base) T
  obtain ⟨fd, F⟩ := T.d_Field_mk
  obtain ⟨ds, hds, hb⟩ := F.binds1 (ps := ["self", "prime"]) 2 1 (fun e => nomatch e) rfl (fun _ _ _ _ _ _ _ us its h1 h2 => match us, its, h1, h2 with | [_, _], [_], _, _ => ⟨_, rfl, rfl⟩)
  refine ⟨_, fd, ["self", "prime"], ds, T.m_Field, F.ok sc_Field_mk (spI_len fun _ => rfl) (fun cdv A outer s H vs Q E hr h => ?_), T.g_Field, hb, hds⟩
  obtain ⟨W0, p, x, dx, us, rfl, hx, hdx, hne, rfl, ha, hp, k⟩ := h
  obtain ⟨v0, rfl, rfl⟩ := ha.one
  obtain ⟨W1, hW1, l1, L1⟩ := init_w (C := He.ga K "Field") W0 hx hdx hne
  refine ⟨_, PSs.nox (pss_cons (ps_if (PW.pt (pw_or (pt_not (pt_val (pe_c h_is_whole hr (by decide) rfl (pa_cons (pv 1) pa_nil)))) (pw_or1 (PW.pt (pw_and (pt_cmpR op_ne (pv 1) pe_int (nomark _)) (pw_and1 (pt_not (pt_val (pe_c h_is_prime hr (by decide) rfl (pa_cons (pv 1) pa_nil)))))))))) (pss_one ps_never) pss_nil)
    (pss_one (ps_fld (pv 0) (pv 1) rfl))), ?_⟩
  simp only [cxK, cxW, cxP]
  rw [← hW1]
  refine q_skip (eb_or (eb_not (eb_B (ev_whole (by walk_at "ev")))) (fun _ => eb_and (by walk_at "ev") (fun e => eb_is (eb_not (eb_B (ev_call (x := p) (by walk_at "ev") rfl fun _ _ => ?_))) rfl) (fun e => rfl)) (fun e => nomatch e)) fun W2 l2 => ?_
  · rcases hp with h | h
    · subst h; cases e
    · exact h
  · refine s_fld (R := int p) (by walk_at "ev") rfl (L1.le l2) rfl rfl (by decide) T.k_Field T.n_Field_own_prime (l1.trans l2) (Wd.fre hx) fun W3 s3 l3 L3 => ?_
    obtain ⟨W4, e4, l4, h4⟩ := init_end L3 l3 (Wd.fre hx)
    rw [← e4]
    exact k W4 l4 h4
def sp_Field_eq (K : PySem.W.Frag) : Sp := spG (ι := Int) (fun p => [fld K p, fld K p]) (fun _ _ => True) fun _ => bl true
theorem ok_Field_eq (T : Tx K mg) : Met P w K mg base 1 (He.ga K "Field") "__eq__" (sp_Field_eq K) [] := by
  obtain ⟨fd, F⟩ := T.d_Field_eq
  refine ⟨_, fd, ["self", "other"], [], T.k_Field, T.h_Field_eq, F.ok sc_Field_eq (spG_len fun _ => rfl) (fun cdv A outer s H vs Q E hr h => ?_), F.bindsN (fun _ _ _ _ _ _ us hl => match us, hl with | [_, _], _ => rfl), .nil⟩
  obtain ⟨W, p, rfl, ha, _, k⟩ := h
  obtain ⟨v0, v1, rfl, h0, h1⟩ := ha.two
  refine ⟨_, PSs.nox (pss_one (ps_ret (pe_and (pe_callB call_isi (by rfl) T.b_isinstance (by decide +kernel) (pa_cons (pv 1) (pa_cons (pe_glob (v := .ref (He.ga K "Field")) rfl T.g_Field rfl) pa_nil))) (pe_one (pe_cmpR op_eq (pe_fld (pv 0) rfl) (pe_fld (pv 1) rfl) (nomark _)))))), ?_⟩
  simp only [cxK, cxW, cxP]
  refine s_ret (ev_andV (ev_isi (R := fld K p) (by walk_at "ev") (ty_ins T.k_Field T.i_Field) (.own _) kit_own) (fun _ => ev_is (ev_eq (ev_prime T (p := p) (by walk_at "ev")) (ev_prime T (p := p) (by walk_at "ev")) rfl) (by rw [decide_eq_true rfl])) (fun e => nomatch e)) k
def sp_Field_made (K : PySem.W.Frag) : Sp := spG (ι := Int × Int × Int) (fun x => [fld K x.1, int x.2.1, int x.2.2]) (fun _ x => MadeOk x.1 x.2.1 x.2.2) fun x => num K (made x.1 x.2.1 x.2.2)
theorem ok_Field_made (T : Tx K mg) : Met P w K mg base 2 (He.ga K "Field") "made" (sp_Field_made K) [] := by
  have h_is_whole := ok_is_whole (P := P) (w := w) (base := base) T
  have h_lowest := ok_lowest (P := P) (w := w) (base := base) T
  obtain ⟨fd, F⟩ := T.d_Field_made
  obtain ⟨ds, hds, hb⟩ := F.binds1 (ps := ["self", "top", "bottom"]) 3 1 (fun e => nomatch e) rfl (fun _ _ _ _ _ _ _ us its h1 h2 => match us, its, h1, h2 with | [_, _, _], [_], _, _ => ⟨_, rfl, rfl⟩)
  refine ⟨_, fd, ["self", "top", "bottom"], ds, T.k_Field, T.h_Field_made, F.ok sc_Field_made (spG_len fun _ => rfl) (fun cdv A outer s H vs Q E hr h => ?_), hb, hds⟩
  obtain ⟨W, ⟨p, t, b⟩, rfl, ha, ⟨ht, hb, hc⟩, k⟩ := h
  obtain ⟨v0, v1, v2, rfl, h0, rfl, rfl⟩ := ha.three
  refine ⟨_, PSs.nox (pss_cons (ps_if (PW.pt (pw_or (pt_not (pt_val (pe_c h_is_whole hr (by decide) rfl (pa_cons (pv 1) pa_nil)))) (pw_or1 (pt_not (pt_val (pe_c h_is_whole hr (by decide) rfl (pa_cons (pv 2) pa_nil))))))) (pss_one ps_never) pss_nil)
    (pss_cons (ps_if (pt_cmpR op_eq (pe_fld (pv 0) rfl) pe_int (nomark _)) (pss_one (ps_ret (pe_c h_lowest hr (by decide) rfl (pa_cons (pv 1) (pa_cons (pv 2) pa_nil))))) pss_nil)
    (pss_cons (ps_aug (i := 2) sc_Field_made.nd rfl (Or.inr rfl) (pe_fld (pv 0) rfl) iop_mod)
    (pss_cons (ps_if (pt_cmpR op_eq (pv 2) pe_int (nomark _)) (pss_one ps_never) pss_nil)
    (pss_cons (ps_if (pt_cmpR op_ne (pv 2) pe_int (nomark _)) pss_never pss_nil)
    (pss_one (ps_ret (pe_tup (pa_cons (pe_op op_mod (pv 1) (pe_fld (pv 0) rfl)) (pa_cons pe_int pa_nil)))))))))), ?_⟩
  simp only [cxK, cxW, cxP]
  refine q_skip (eb_or (eb_not (eb_B (ev_whole (by walk_at "ev")))) (fun _ => eb_is (eb_not (eb_B (ev_whole (by walk_at "ev")))) rfl) (fun e => nomatch e)) fun W1 l1 => ?_
  refine q_when (eb_test (ev_eq (ev_prime T (p := p) (by walk_at "ev")) (by walk_at "ev") rfl)) (fun hp W2 l2 => ?_) (fun hp W2 l2 => ?_)
  · have hp0 : p = 0 := V.int.inj (of_decide_eq_true hp.symm)
    refine s_ret (ev_call (x := (t, b)) (by walk_at "ev") rfl fun _ _ => ⟨ht, hb, ?_⟩) fun v W3 l3 hv => k v W3 ((l1.trans l2).trans l3) ?_
    · rcases hc with ⟨_, h⟩ | ⟨h, _⟩
      · exact h
      · omega
    · show (num K (made p t b)).p W3.B v
      unfold made
      rw [if_pos hp0]; exact hv
  · have hp0 : p ≠ 0 := fun e => by
      have := of_decide_eq_false hp.symm
      exact this (by rw [e])
    obtain ⟨hp2, hp97, rfl⟩ : 2 ≤ p ∧ p ≤ 97 ∧ b = 1 := by
      rcases hc with ⟨h, _⟩ | h
      · exact absurd h hp0
      · exact h
    have h1 : (1 : Int) % p = 1 := Int.emod_eq_of_lt (by decide) (by omega)
    refine q_augR (a := .int 1) (R := int ((1 : Int) % p)) rfl (ev_prime T (p := p) (by walk_at "ev")) (fun y W3 hy W4 l4 Q' q' => ⟨1, p, rfl, hy, by omega, q' _ W4 (Le.refl _) rfl⟩) ?_
    rintro _ W3 l3 rfl
    rw [h1]
    refine q_skip (eb_is (by walk_at "ev") (by decide)) fun W4 l4 => ?_
    refine q_skip (eb_is (by walk_at "ev") (by decide)) fun W5 l5 => ?_
    refine s_ret (R := num K (made p t 1)) ?_ fun v W6 l6 hv => k v W6 (((((l1.trans l2).trans l3).trans l4).trans l5).trans l6) hv
    unfold made
    rw [if_neg hp0]
    exact ev_tup (ea_cons (ev_mod (by walk_at "ev") (ev_prime T (p := p) (by walk_at "ev")) (by omega)) (ea_cons (by walk_at "ev") ea_nil))
def PlusOk (x : Int × Num × Num) : Prop := PrOk x.1 ∧ NumOk x.1 x.2.1 ∧ NumOk x.1 x.2.2 ∧ Sz x.2.1 ∧ Sz x.2.2
def sp_Field_plus (K : PySem.W.Frag) : Sp := spG (ι := Int × Num × Num) (fun x => [fld K x.1, num K x.2.1, num K x.2.2]) (fun _ => PlusOk) fun x => num K (nplus x.1 x.2.1 x.2.2)
def sp_Field_times (K : PySem.W.Frag) : Sp := spG (ι := Int × Num × Num) (fun x => [fld K x.1, num K x.2.1, num K x.2.2]) (fun _ => PlusOk) fun x => num K (ntimes x.1 x.2.1 x.2.2)
theorem ok_Field_plus (T : Tx K mg) : Met P w K mg base 3 (He.ga K "Field") "plus" (sp_Field_plus K) [] := by
  have h_Field_made := ok_Field_made (P := P) (w := w) (base := base) T
  obtain ⟨fd, F⟩ := T.d_Field_plus
  refine ⟨_, fd, ["self", "one", "other"], [], T.k_Field, T.h_Field_plus, F.ok sc_Field_plus (spG_len fun _ => rfl) (fun cdv A outer s H vs Q E hr h => ?_), F.bindsN (fun _ _ _ _ _ _ us hl => match us, hl with | [_, _, _], _ => rfl), .nil⟩
  obtain ⟨W, ⟨p, a, b⟩, rfl, ha, ⟨hp, na, nb, sa, sb⟩, k⟩ := h
  obtain ⟨v0, v1, v2, rfl, h0, h1, h2⟩ := ha.three
  refine ⟨_, PSs.nox (pss_one (ps_ret (pe_mt h_Field_made hr (by decide) (pv 0) (pa_cons (pe_op op_add (pe_op op_mulW (pe_ix ix_tup (pv 1) pe_int (fun _ _ => rfl)) (pe_ix ix_tup (pv 2) pe_int (fun _ _ => rfl))) (pe_op op_mulW (pe_ix ix_tup (pv 2) pe_int (fun _ _ => rfl)) (pe_ix ix_tup (pv 1) pe_int (fun _ _ => rfl)))) (pa_cons (pe_op op_mulW (pe_ix ix_tup (pv 1) pe_int (fun _ _ => rfl)) (pe_ix ix_tup (pv 2) pe_int (fun _ _ => rfl))) pa_nil))))), ?_⟩
  simp only [cxK, cxW, cxP]
  have ea := sz_pw sa
  have eb := sz_pw sb
  refine s_ret (ev_meth (R := fld K p) (by walk_at "ev") (fld_noprime (by decide +kernel)) (ea_cons (ev_I0 (ev_mul (ev_get0 (n := a) (by walk_at "ev")) (ev_get1 (n := b) (by walk_at "ev")) (cmul_of ea.1 eb.2)) (ev_mul (ev_get0 (n := b) (by walk_at "ev")) (ev_get1 (n := a) (by walk_at "ev")) (cmul_of eb.1 ea.2))) (ea_cons (ev_mul (ev_get1 (n := a) (by walk_at "ev")) (ev_get1 (n := b) (by walk_at "ev")) (cmul_of ea.2 eb.2)) ea_nil)) (p, a.1 * b.2 + b.1 * a.2, a.2 * b.2) rfl fun _ _ => plus_madeOk hp na nb sa sb) k
theorem ok_Field_times (T : Tx K mg) : Met P w K mg base 3 (He.ga K "Field") "times" (sp_Field_times K) [] := by
  have h_Field_made := ok_Field_made (P := P) (w := w) (base := base) T
  obtain ⟨fd, F⟩ := T.d_Field_times
  refine ⟨_, fd, ["self", "one", "other"], [], T.k_Field, T.h_Field_times, F.ok sc_Field_times (spG_len fun _ => rfl) (fun cdv A outer s H vs Q E hr h => ?_), F.bindsN (fun _ _ _ _ _ _ us hl => match us, hl with | [_, _, _], _ => rfl), .nil⟩
  obtain ⟨W, ⟨p, a, b⟩, rfl, ha, ⟨hp, na, nb, sa, sb⟩, k⟩ := h
  obtain ⟨v0, v1, v2, rfl, h0, h1, h2⟩ := ha.three
  refine ⟨_, PSs.nox (pss_one (ps_ret (pe_mt h_Field_made hr (by decide) (pv 0) (pa_cons (pe_op op_mulW (pe_ix ix_tup (pv 1) pe_int (fun _ _ => rfl)) (pe_ix ix_tup (pv 2) pe_int (fun _ _ => rfl))) (pa_cons (pe_op op_mulW (pe_ix ix_tup (pv 1) pe_int (fun _ _ => rfl)) (pe_ix ix_tup (pv 2) pe_int (fun _ _ => rfl))) pa_nil))))), ?_⟩
  simp only [cxK, cxW, cxP]
  have ea := sz_pw sa
  have eb := sz_pw sb
  refine s_ret (ev_meth (R := fld K p) (by walk_at "ev") (fld_noprime (by decide +kernel)) (ea_cons (ev_mul (ev_get0 (n := a) (by walk_at "ev")) (ev_get0 (n := b) (by walk_at "ev")) (cmul_of ea.1 eb.1)) (ea_cons (ev_mul (ev_get1 (n := a) (by walk_at "ev")) (ev_get1 (n := b) (by walk_at "ev")) (cmul_of ea.2 eb.2)) ea_nil)) (p, a.1 * b.1, a.2 * b.2) rfl fun _ _ => times_madeOk hp na nb sa sb) k
def sp_Field_is_number (K : PySem.W.Frag) : Sp := spG (ι := Int × Num) (fun x => [fld K x.1, num K x.2]) (fun _ x => PrOk x.1 ∧ NumOk x.1 x.2 ∧ Sz x.2) fun _ => bl true
theorem ok_Field_is_number (T : Tx K mg) : Met P w K mg base 2 (He.ga K "Field") "is_number" (sp_Field_is_number K) [] := by
  have h_is_whole := ok_is_whole (P := P) (w := w) (base := base) T
  have h_lowest := ok_lowest (P := P) (w := w) (base := base) T
  obtain ⟨fd, F⟩ := T.d_Field_is_number
  refine ⟨_, fd, ["self", "thing"], [], T.k_Field, T.h_Field_is_number, F.ok sc_Field_is_number (spG_len fun _ => rfl) (fun cdv A outer s H vs Q E hr h => ?_), F.bindsN (fun _ _ _ _ _ _ us hl => match us, hl with | [_, _], _ => rfl), .nil⟩
  obtain ⟨W, ⟨p, n⟩, rfl, ha, ⟨hp, hn, hs⟩, k⟩ := h
  obtain ⟨v0, v1, rfl, h0, h1⟩ := ha.two
  refine ⟨_, PSs.nox (pss_cons (ps_if (PW.pt (pw_or (pt_not (pt_val (pe_callB call_isi (by rfl) T.b_isinstance (by decide +kernel) (pa_cons (pv 1) (pa_cons (pe_bltn (v := .ty "tuple") (by rfl) T.b_tuple (by decide +kernel) rfl) pa_nil))))) (pw_or (pt_cmpR op_ne (pe_callB call_len_seq (by rfl) T.b_len (by decide +kernel) (pa_cons (pv 1) pa_nil)) pe_int (nomark _)) (pw_or (pt_not (pt_val (pe_c h_is_whole hr (by decide) rfl (pa_cons (pe_ix ix_tup (pv 1) pe_int (fun _ _ => rfl)) pa_nil)))) (pw_or1 (pt_not (pt_val (pe_c h_is_whole hr (by decide) rfl (pa_cons (pe_ix ix_tup (pv 1) pe_int (fun _ _ => rfl)) pa_nil))))))))) (pss_one (ps_ret pe_bl)) pss_nil)
    (pss_cons (ps_if (pt_cmpR op_ne (pe_fld (pv 0) rfl) pe_int (nomark _)) (pss_one (ps_ret (pe_and (pe_cmpR op_eq (pe_ix ix_tup (pv 1) pe_int (fun _ _ => rfl)) pe_int (nomark _)) (pe_one (pe_chain op_le op_lt pe_int (pe_ix ix_tup (pv 1) pe_int (fun _ _ => rfl)) (pe_fld (pv 0) rfl)))))) pss_nil)
    (pss_one (ps_ret (pe_and (pe_cmpR op_gt (pe_ix ix_tup (pv 1) pe_int (fun _ _ => rfl)) pe_int (nomark _)) (pe_one (pe_cmpR (op_eqD hr.units) (pe_c h_lowest hr (by decide) rfl (pa_cons (pe_ix ix_tup (pv 1) pe_int (fun _ _ => rfl)) (pa_cons (pe_ix ix_tup (pv 1) pe_int (fun _ _ => rfl)) pa_nil))) (pv 1) (nomark _)))))))), ?_⟩
  simp only [cxK, cxW, cxP]
  have g0 : ∀ {W' : Wd}, Le W W' → Ev (tOp (rIxT K) (tVar 1) (tC (V.int 0))) (L2.start ["self", "thing"] [v0, v1]) W' (int n.1) := fun l => (ev_get0 (n := n) (ev_var rfl h1)).le l
  have g1 : ∀ {W' : Wd}, Le W W' → Ev (tOp (rIxT K) (tVar 1) (tC (V.int 1))) (L2.start ["self", "thing"] [v0, v1]) W' (int n.2) := fun l => (ev_get1 (n := n) (ev_var rfl h1)).le l
  refine q_skip (eb_or (eb_not (eb_B (ev_isi (R := num K n) (by walk_at "ev") ty_tup (.ty _) (kit_ty (r := true) (by decide +kernel))))) (fun _ => eb_or (a := false) (eb_is (eb_test (ev_ne (ev_lenT (K := K) (rs := [int n.1, int n.2]) (ev_var rfl h1)) ev_ci rfl)) rfl) (fun _ => eb_or (eb_not (eb_B (ev_whole (ea_cons (g0 (Le.refl _)) ea_nil)))) (fun _ => eb_is (eb_not (eb_B (ev_whole (ea_cons (g1 (Le.refl _)) ea_nil)))) rfl) (fun e => nomatch e)) (fun e => nomatch e)) (fun e => nomatch e)) fun W1 l1 => ?_
  refine q_when (eb_test (ev_ne (ev_prime T (p := p) (by walk_at "ev")) (by walk_at "ev") rfl)) (fun hp' W2 l2 => ?_) (fun hp' W2 l2 => ?_)
  · have hp0 : p ≠ 0 := fun e => by rw [e] at hp'; simp at hp'
    obtain ⟨e2, e3, e4⟩ : n.2 = 1 ∧ 0 ≤ n.1 ∧ n.1 < p := by
      rcases hn with ⟨h, _⟩ | ⟨_, h⟩
      · exact absurd h hp0
      · exact h
    refine s_ret (R := bl true) (ev_andV (a := true) (ev_is (ev_eq (g1 (l1.trans l2)) ev_ci rfl) (by rw [e2]; rfl)) (fun _ => ev_is (ev_chainI ev_ci (g0 (l1.trans l2)) (ev_prime T (p := p) (by walk_at "ev"))) ?_) (fun e => nomatch e)) fun v W3 l3 hv => k v W3 ((l1.trans l2).trans l3) hv
    rw [decide_eq_true e3, decide_eq_true e4]; rfl
  · have hp0 : p = 0 := by
      by_cases e : p = 0
      · exact e
      · simp [e] at hp'
    obtain ⟨e2, e3⟩ : 0 < n.2 ∧ Int.gcd n.1 n.2 = 1 := by
      rcases hn with ⟨_, h⟩ | ⟨h, _⟩
      · exact h
      · exact absurd hp0 h
    refine s_ret (R := bl true) (ev_andV (a := true) (ev_is (ev_I0 (g1 (l1.trans l2)) ev_ci) ?_) (fun _ => ev_is (ev_eqD (RB := num K n) (ev_call (x := (n.1, n.2)) (ea_cons (g0 (l1.trans l2)) (ea_cons (g1 (l1.trans l2)) ea_nil)) rfl fun _ _ => sz_low hs e2) (by walk_at "ev") dt_num dt_num (by decide) (by decide)) ?_) (fun e => nomatch e)) fun v W3 l3 hv => k v W3 ((l1.trans l2).trans l3) hv
    · rw [decide_eq_true e2]
    · rw [eqv_num, low_id e3, decide_eq_true rfl]
end
end Fs

set_option Elab.async false
set_option linter.all false
set_option maxRecDepth 100000
set_option maxHeartbeats 2000000
/-! max(xs, default=d) over whole numbers -/
namespace Fm
open PySem PySem.Spec PyProof.Rows
theorem margs (a d : Value) : argsOk "max" ⟨[a], [(Str.ofString "default", d)]⟩ := by unfold argsOk; kernel_rfl
/-- a built-in function called with keywords, whose body may go on by another code -/
theorem tree_kw {prog : Program} {w : World} {A : Around} {E : Value → Shared → Prop} {s : Shared} {nm : String} {body : Builtin} {us : List Value} {ks : List (Str × Value)} {Q : Value → Shared → Prop} (k0 : builtinKind nm = none) (k1 : plainId nm = true)
    (k2 : entryFor table nm = some body) (k3 : argsOk nm ⟨us, ks⟩)
    (run : wpAny (model prog w) A.in1 (body ⟨us, ks⟩) (fun r s2 => match r with
      | .done f => (match (Except.ok f : Result) with | .ok (.ret v) => Q v s2 | .ok _ => False | .error e => E e s2)
      | .again c => c.quiet = true ∧ codeAny (model prog w) A c (fun z s3 => match z with | .ok (.ret v) => Q v s3 | .ok _ => False | .error e => E e s3) s2) E s) :
    wpAny (model prog w) A (call (.builtin nm) us ks) Q E s := by
  refine wpAny_call (codeAny_call_builtin k1 k2 ?_)
  simp only [checkBuiltinCall, k0]
  cases sg : Manifest.signature? nm with
  | none => exact wpAny_pure run
  | some z =>
    have k4 : Bind.checkArgs nm z ⟨us, ks⟩ = pure () := by simpa only [argsOk, sg] using k3
    simp only [k4]
    exact wpAny_pure run
theorem mname : (toString "max" ++ toString ".loop" : String) = "max.loop" := by decide
section
variable {prog : Program} {w : World} {A : Around} {R : Result → Shared → Prop} {it : Addr} {cs ws : List Addr} {n : Nat} {G : Nat → Value → Prop} {St : Nat → Heap → Prop} {d : Value}
abbrev KwD (d : Value) : List (Str × Value) := [(Str.ofString "default", d)]
theorem loop_more (W : Walks prog w A.in1 it cs ws n G St) (bt : Nat → Nat → Bool) (cmp : CmpOf prog w A.in1 .Gt G bt) (B : Addr) (fB : B ∉ cs) :
    ∀ (k j : Nat) (t : Shared) (best : Value) (c : Nat), n - (j + 1) = k → j + 1 ≤ n → St (j + 1) t.heap → G (argBest bt j) best →
    t.heap.get? B = some { cls := .type "list", dict := none, data := .seq #[best, best] c, slots := #[] } →
    (∀ v h2 tk, G (argBest bt (n - 1)) v → (∀ b o, b ∉ ws → b ≠ B → t.heap.get? b = some o → h2.get? b = some o) → R (.ok (.ret v)) { t with heap := h2, toks := tk }) →
    codeAny (model prog w) A (.builtin "max.loop" ⟨[.ref it, .none, .ref B], KwD d⟩) R t := by
  have nB : B ∉ ws := fun h => fB (W.sub _ h)
  intro k
  induction k with
  | zero =>
    intro j t best c hk hj hst gb oB fin
    have last : j + 1 = n := by omega
    refine codeAny_builtin F.entry_max_loop ?_
    rw [Around.under_plainId F.plain_max_loop _]
    show wpAny _ A.in1 (seqItems? (.ref B) >>= _) _ _ t
    refine wpAny_bind (wpAny_seqItems oB rfl ?_)
    show wpAny _ A.in1 (tryCatch (pyNext (.ref it)) _ >>= _) _ _ t
    refine wpAny_bind (wpAny_tryCatch (W.done t _ _ (last ▸ hst) fun h2 tk kp => ?_))
    have oB2 := kp B _ nB oB
    show wpAny _ A.in1 (updateSeq B (fun _ => #[]) >>= _) _ _ _
    refine wpAny_bind ?_
    refine wpAny_updateSeq oB2 rfl (wpAny_bind (wpAny_letGo (wpAny_pure ?_)))
    exact fin best _ tk (by rw [← last]; exact gb) fun b o nb nB' e => (Heap.get?_update_other _ _ (Ne.symm nB')).trans (kp b o nb e)
  | succ k ih =>
    intro j t best c hk hj hst gb oB fin
    have more : j + 1 < n := by omega
    refine codeAny_builtin F.entry_max_loop ?_
    rw [Around.under_plainId F.plain_max_loop _]
    show wpAny _ A.in1 (seqItems? (.ref B) >>= _) _ _ t
    refine wpAny_bind (wpAny_seqItems oB rfl ?_)
    show wpAny _ A.in1 (tryCatch (pyNext (.ref it)) _ >>= _) _ _ t
    refine wpAny_bind (wpAny_tryCatch (W.item (j + 1) t _ _ more hst fun v h2 tk gv st2 kp => ?_))
    have oB2 := kp B _ nB oB
    show wpAny _ A.in1 (tryCatch (holding [v, v] (richCompare .Gt v best >>= _)) _ >>= _) _ _ _
    refine wpAny_bind (wpAny_tryCatch (wpAny_holding (wpAny_bind (cmp (j + 1) (argBest bt j) v best _ _ _ gv gb ?_))))
    refine wpAny_bind (wpAny_holding (wpAny_truthy_bool ?_))
    refine wpAny_bind (wpAny_letGo (wpAny_pure ?_))
    cases hb : bt (j + 1) (argBest bt j) with
    | true =>
      simp only [if_true]
      refine wpAny_bind ?_
      refine wpAny_updateSeq oB2 rfl (wpAny_bind (wpAny_letGo ?_))
      rw [mname]
      refine wpAny_pure ⟨plainId_quiet F.plain_max_loop _, ih (j + 1) _ v _ (by omega) more (W.frame _ _ _ st2 fun b hbf o e => ?_) (by simp only [argBest, hb, if_true]; exact gv) (Heap.get?_update_self _ oB2 rfl)
        fun u h3 tk2 gu kp2 => ?_⟩
      · exact (Heap.get?_update_other _ _ (fun q : B = b => fB (by rw [q]; exact hbf))).trans e
      · exact fin u h3 tk2 gu fun b o nb nB' e => kp2 b o nb nB' ((Heap.get?_update_other _ _ (Ne.symm nB')).trans (kp b o nb e))
    | false =>
      simp only [Bool.false_eq_true, if_false]
      refine wpAny_bind (wpAny_letGo ?_)
      rw [mname]
      refine wpAny_pure ⟨plainId_quiet F.plain_max_loop _, ih (j + 1) _ best c (by omega) more st2 (by simp only [argBest, hb, Bool.false_eq_true, if_false]; exact gb) oB2 fun u h3 tk2 gu kp2 => ?_⟩
      exact fin u h3 tk2 gu fun b o nb nB' e => kp2 b o nb nB' (kp b o nb e)
theorem loop_first (W : Walks prog w A.in1 it cs ws n G St) (bt : Nat → Nat → Bool) (cmp : CmpOf prog w A.in1 .Gt G bt) (B : Addr) (fB : B ∉ cs) {t : Shared} {c : Nat} (hst : St 0 t.heap)
    (oB : t.heap.get? B = some { cls := .type "list", dict := none, data := .seq #[] c, slots := #[] })
    (fin : ∀ v h2 tk, (0 < n ∧ G (argBest bt (n - 1)) v ∨ n = 0 ∧ v = d) → (∀ b o, b ∉ ws → b ≠ B → t.heap.get? b = some o → h2.get? b = some o) → R (.ok (.ret v)) { t with heap := h2, toks := tk }) :
    codeAny (model prog w) A (.builtin "max.loop" ⟨[.ref it, .none, .ref B], KwD d⟩) R t := by
  have nB : B ∉ ws := fun h => fB (W.sub _ h)
  refine codeAny_builtin F.entry_max_loop ?_
  rw [Around.under_plainId F.plain_max_loop _]
  show wpAny _ A.in1 (seqItems? (.ref B) >>= _) _ _ t
  refine wpAny_bind (wpAny_seqItems oB rfl ?_)
  show wpAny _ A.in1 (tryCatch (pyNext (.ref it)) _ >>= _) _ _ t
  rcases Nat.eq_zero_or_pos n with h0 | h0
  · subst h0
    refine wpAny_bind (wpAny_tryCatch (W.done t _ _ hst fun h2 tk kp => ?_))
    show wpAny _ A.in1 (rule _ >>= _) _ _ _
    refine wpAny_bind (wpAny_rule (wpAny_pure ?_))
    exact fin d _ tk (.inr ⟨rfl, rfl⟩) fun b o nb _ e => kp b o nb e
  · refine wpAny_bind (wpAny_tryCatch (W.item 0 t _ _ h0 hst fun v h2 tk gv st2 kp => ?_))
    have oB2 := kp B _ nB oB
    show wpAny _ A.in1 (updateSeq B (fun _ => #[v, v]) >>= _) _ _ _
    refine wpAny_bind ?_
    refine wpAny_updateSeq oB2 rfl ?_
    rw [mname]
    refine wpAny_pure ⟨plainId_quiet F.plain_max_loop _, loop_more W bt cmp B fB _ 0 _ v _ rfl h0 (W.frame _ _ _ st2 fun b hbf o e => ?_) gv (Heap.get?_update_self _ oB2 rfl) fun u h3 tk2 gu kp2 => ?_⟩
    · exact (Heap.get?_update_other _ _ (fun q : B = b => fB (by rw [q]; exact hbf))).trans e
    · exact fin u h3 tk2 (.inl ⟨h0, gu⟩) fun b o nb nB' e => kp2 b o nb nB' ((Heap.get?_update_other _ _ (Ne.symm nB')).trans (kp b o nb e))
end
section
variable {prog : Program} {w : World} {A : Around} {E : Value → Shared → Prop} {s : Shared} {l : Addr} {xs : Array (Int × Tok)} {d : Value}
theorem max_def {Q : Value → Shared → Prop} (hh : A.handled = none) (hl : s.heap.IsList l (intItems xs))
    (fin : ∀ v h2 tk, (0 < xs.size ∧ (intItems xs)[argBest (fun i j => decide (numAt xs i > numAt xs j)) (xs.size - 1)]? = some v ∨ xs.size = 0 ∧ v = d) → (∀ b o, s.heap.get? b = some o → h2.get? b = some o) → Q v { s with heap := h2, toks := tk }) :
    wpAny (model prog w) A (call (.builtin "max") [.ref l] (KwD d)) Q E s := by
  refine tree_kw F.kind_max F.plain_max F.entry_max (margs _ _) ?_
  show wpAny _ A.in1 (Builtin.Builtins.bindParams "max" ["key", "default"] 0 ⟨[], KwD d⟩ >>= _) _ _ s
  refine wpAny_bind (wpAny_of_eq (show Builtin.Builtins.bindParams "max" ["key", "default"] 0 ⟨[], KwD d⟩ = pure [none, some d] from rfl) ?_)
  refine wpAny_bind (wpAny_pure ?_)
  refine wpAny_bind (iter_intList hl fun s2 e st hfp hlI => ?_)
  subst e
  refine wpAny_bind (wpAny_newObj_type ?_)
  have fS := Walks.list (prog := prog) (w := w) (A := A.in1.in1) hh s.heap.objs.size l hlI (intItems xs)
  have hf : (s.heap.push { cls := .type "list_iterator", data := .fields #[.ref l, .int 0 0] }).objs.size ∉ [s.heap.objs.size, l] := fun hm => Nat.lt_irrefl _ (hfp _ hm)
  rw [mname]
  refine wpAny_pure ⟨plainId_quiet F.plain_max_loop _, loop_first (Walks.list (A := A.in1) hh _ l hlI (intItems xs)) _ (CmpOf.ints_gt (numAt xs) (fun _ _ => intItems_at)) _ hf (fS.frame _ _ _ st fun b _ o e => Heap.get?_push_of_some _ e) (Heap.get?_push_size _ rfl) fun v h2 tk gv kp => ?_⟩
  refine fin v h2 tk ?_ (old_kept fun b o nb e => kp b o nb (Nat.ne_of_lt (Heap.lt_size e)) (Heap.get?_push_of_some _ e))
  simpa [intItems] using gv
end
end Fm
namespace Fs
open PySem PySem.Spec PyProof.Rows L2 C8
/-- the greatest of ns, d where there is none -/
def IsMaxD (d : Int) (ns : List Int) (m : Int) : Prop := (ns = [] ∧ m = d) ∨ (m ∈ ns ∧ ∀ a, a ∈ ns → a ≤ m)
def rMaxD (K : PySem.W.Frag) : List V → List V → Hp → VK → Prop := fun vs zs H Q => ∃ (a : Addr) (ns : List Int) (d : Int), vs = [.ref a] ∧ zs = [.int d] ∧ SqL K H a (ns.map V.int) ∧ ∀ m, IsMaxD d ns m → Q (.int m) H
theorem cr_maxDef {X : Cx} (hc : X.calm = true) : CallRK X (.builtin "max") [Str.ofString "default"] (rMaxD X.K) := by
  intro pins s σ H vs zs us ws Q I r rz h
  obtain ⟨a, ns, d, rfl, rfl, hs, q⟩ := h
  obtain ⟨its, rv, hl, _⟩ := I.list hs
  rw [Vals.ref1 r]
  obtain ⟨dv, rfl, t, rfl⟩ := vals1 rz
  have hi : IntsAre its ns := rv.ints
  obtain ⟨xs, e⟩ := hi.allInts.items
  have hns : ns = xs.toList.map (·.1) := by
    rw [← hi.numsOf, ← nums_intItems, ← e]
  have hl2 := hl.isList
  rw [e] at hl2
  refine Fm.max_def (I.ok.hd hc) hl2 fun v h2 tk gv kp => ?_
  rcases gv with ⟨h0, gv⟩ | ⟨h0, rfl⟩
  · obtain ⟨t', rfl⟩ := intItems_at gv
    obtain ⟨h1, h3⟩ := argBest_gt (numAt xs) (xs.size - 1)
    refine ⟨.int _, H, I.kept kp, ⟨_, rfl⟩, q _ (.inr ⟨?_, fun b hb => ?_⟩)⟩
    · rw [hns, numAt_eq]; exact getD_mem (by rw [List.length_map, Array.length_toList]; omega)
    · rw [hns] at hb
      obtain ⟨j, hj, rfl⟩ := mem_getD hb
      rw [List.length_map, Array.length_toList] at hj
      rw [← numAt_eq]; exact h3 j (by omega)
  · refine ⟨.int d, H, I.kept kp, ⟨_, rfl⟩, q _ (.inl ⟨?_, rfl⟩)⟩
    rw [hns]
    have : xs = #[] := Array.eq_empty_of_size_eq_zero h0
    rw [this]; rfl
theorem ev_maxD {K : PySem.W.Frag} {σ : L2.St} {W : Wd} {ta tk : TE} {ns : List Int} {d : Int} (h : Ev ta σ W (lstR K (ns.map int))) (hd : Ev tk σ W (int d)) : Ev (tCKw (rMaxD K) (tCons ta tNil) (tCons tk tNil)) σ W (anyR (IsMaxD d ns) int) := fun W1 l Q q =>
  h W1 l _ fun v W2 l2 ⟨a, vs, e, h1, h2⟩ => hd W2 (l.trans l2) _ fun u W3 l3 hu => ⟨a, ns, d, by rw [e], by rw [show u = V.int d from hu], by rw [← rpa_ints_eq h2]; exact lsq (W3.ex _ _ (l3.b _ _ h1)), fun m hm => q _ W3 (l2.trans l3) ⟨m, hm, rfl⟩⟩
end Fs

set_option Elab.async false
set_option linter.all false
set_option maxRecDepth 100000
set_option maxHeartbeats 2000000
/-! ==, != and len of instances of the text's own classes -/
namespace Fo
open PySem PySem.Spec PyProof.Rows PySem.W
section
variable {M : Model} {prog : Program} {w : World} {A : Around} {E : Value → Shared → Prop} {s : Shared} {K : PySem.W.Frag} {x C f L : Addr} {y : Value} {ox : Obj} {od : Option Obj} {h0 : Heap} {m : Str → Option Value}
theorem bound_ne {args : List Value} {Q : Option Value → Shared → Prop} (X : K.In s.heap) (I : InstAt s.heap x ox C od) (hs : findIn K (.ref C) "__ne__" = some (some (.builtin "object.__ne__")))
    (k : wpAny M A (call (.builtin "object.__ne__") (.ref x :: args)) (fun v => Q (some v)) E s) : wpAny M A (callSpecialIfBound? (.ref x) "__ne__" args) Q E s := by
  simp only [callSpecialIfBound?, bindSpecialIfBound?]
  refine wpAny_holding (wpAny_bind (wpAny_bind (wpAny_bind (I.type.here ((looks_findIn X hs).here ?_)))))
  refine wpAny_bind (wpAny_askSetting (wpAny_ite ?_))
  have last : wpAny M A (call (.builtin "object.__ne__") ([.ref x] ++ args) >>= fun v => pure (some v)) Q E s := wpAny_bind (wpAny_mono k (fun v s2 z => wpAny_pure z) fun _ _ z => z)
  split
  · exact wpAny_bind (wpAny_of_eq (F.cmp_object.ne.bind _) (wpAny_pure (by exact last)))
  · exact wpAny_tryCatch (wpAny_bind (wpAny_of_eq (F.cmp_object.ne.bind _) (wpAny_pure (by exact last))))
theorem body_ne {Q : Fin → Shared → Prop} (hu : A.units < cLine) (X : K.In s.heap) (I : InstAt s.heap x ox C od) (hs : findIn K (.ref C) "__eq__" = some (some (.ref f))) (hf : isFn K (.ref f) = true)
    (k : wpAny (model prog w) A (call (.ref f) [.ref x, y]) (fun v s2 => ∃ b, v = .bool b ∧ Q (.done (.ret (.bool (!b)))) s2) E s) : wpAny (model prog w) A (Builtin.«object.__ne__» ⟨[.ref x, y], []⟩) Q E s := by
  unfold Builtin.«object.__ne__»
  repeat (first
    | with_reducible refine wpAny_cRoomFor hu ?_
    | (refine wpAny_bind (m := callSpecialIfBound? (.ref x) (Str.ofString "__eq__") [y])
        (ifBound_K X I hs hf (wpAny_mono k (fun r s2 hr => by
          obtain ⟨b, rfl, hq⟩ := hr
          repeat (first | exact hq | exact wpAny_pure hq | exact wpAny_truthy_bool hq | (refine wpAny_bind (m := truthy (.bool _)) (wpAny_truthy_bool ?_)) | wp_step)) fun _ _ e => e)))
    | wp_step)
/-- x != y where the class has == alone -/
theorem ne_own {Q : Value → Shared → Prop} (hu : A.units + 1 < cLine) (X : K.In s.heap) (I : InstAt s.heap x ox C od) (hm : mroIn K C (.type "object") = some true) (hb : Looks (model prog w) s.heap (typeOf y) (.ref C))
    (hn : findIn K (.ref C) "__ne__" = some (some (.builtin "object.__ne__"))) (hs : findIn K (.ref C) "__eq__" = some (some (.ref f))) (hf : isFn K (.ref f) = true)
    (k : wpAny (model prog w) A.in1 (call (.ref f) [.ref x, y]) (fun v s2 => ∃ b, v = .bool b ∧ Q (.bool (!b)) s2) E s) : wpAny (model prog w) A (richCompare .NotEq (.ref x) y) Q E s := by
  have one : wpAny (model prog w) A (tryCompare (.ref x) "__ne__" y) (fun r s2 => ∃ b, r = some (.bool b) ∧ Q (.bool b) s2) E s := by
    unfold tryCompare
    refine wpAny_bind (bound_ne X I hn (wpAny_call (codeAny_call_builtin F.cmp_object.ne.plain F.cmpEntry_ne (check_slot F.cmpKind_ne F.cmpSplit_ne (I.type.andThen (looks_mroIn X hm)) (F.cmpArgs_ne _ _) (body_ne (A := A.in1) hu X I hs hf (wpAny_mono k (fun v s2 z => ?_) fun _ _ e => e))))))
    obtain ⟨b, rfl, q⟩ := z
    first | exact ⟨b, rfl, wpAny_pure ⟨_, rfl, q⟩⟩ | exact ⟨b, rfl, wpAny_pure (wpAny_pure ⟨_, rfl, q⟩)⟩
  unfold richCompare
  simp only [oneThing_ref]
  refine wpAny_holding (wpAny_bind (wpAny_cRoomFor (Nat.lt_of_succ_lt hu) ?_))
  refine wpAny_bind (I.type.here (wpAny_bind (hb.here ?_)))
  rw [show (Value.ref C != Value.ref C) = false from by simp]
  simp only [Bool.false_eq_true, if_false]
  refine wpAny_bind (wpAny_pure ?_)
  simp only [Bool.false_eq_true, if_false]
  rw [cmpInfo_NotEq]
  dsimp only
  refine wpAny_bind (wpAny_mono one (fun r s2 z => ?_) fun _ _ e => e)
  obtain ⟨b, rfl, q⟩ := z
  exact wpAny_pure q
end
end Fo
namespace Fs
open PySem PySem.Spec PyProof.Rows L2 C8
section
variable {X : Cx} {k n : Nat} {C : Addr} {sp : Sp}
/-- x op y of two instances of the class at C, by the def's promise -/
def rOwnB (C : Addr) (sp : Sp) (neg : Bool) : R2 := fun x y H Q => ∃ a b dx dy fs gs, x = .ref a ∧ y = .ref b ∧ H a = some (.ins C dx fs) ∧ H b = some (.ins C dy gs) ∧ sp [x, y] H (fun v H2 => ∃ c, v = .bl c ∧ Q (.bl (if neg then !c else c)) H2) C8.E0
theorem call_at {A : Around} {pins : List (Addr × Obj)} {s : Shared} {σ : L2.St} {H : Hp} {ps : List Str} {fd : FuncData} {f : Addr} {us : List Value} {vs : List V} {Q : VK} (F : FnOk X.prog X.w X.K X.mg X.base C8.CX0 n f fd ps sp) (hb : Binds X.K fd ps []) (hr : Room n A) (fr : A.frames = X.A.frames) (I : Inv X pins σ H s) (r : Vals vs us) (h : sp vs H Q C8.E0) :
    wpAny (model X.prog X.w) A (call (.ref f) us) (EP X pins σ Q) X.xe s := by
  have e0 : Env0 X.prog X.w X.K X.mg X.base A X.stack s H := by
    have e := I.env0
    exact ⟨by rw [fr]; exact e.frames, e.mod, e.bs, e.bsz, e.funs, e.frf, e.hok, e.bare⟩
  have hl := F.len _ _ _ _ h
  refine wpAny_call (codeAny_mono (F.run A X.stack s H ⟨us, []⟩ us vs Q C8.E0 hr e0 (by
    have := hb s us I.kIn (by rw [List.append_nil, ← r.length]; exact hl)
    simpa using this) r h) fun z s2 hq => ?_)
  cases z with
  | error e => exact hq.elim
  | ok fl =>
    cases fl with
    | ret u => exact I.after hq
    | next => exact hq.elim
    | brk => exact hq.elim
    | cont => exact hq.elim
theorem op_eqOwn (c : Met X.prog X.w X.K X.mg X.base n C "__eq__" sp []) (hr : Room n X.A) : OpR X (compareOp .Eq) (rOwnB C sp false) := by
  intro pins s σ H x y v u Q I rx ry h
  obtain ⟨a, b, dx, dy, fs, gs, rfl, rfl, ha, hb, q⟩ := h
  cases (show v = Value.ref a from rx)
  cases (show u = Value.ref b from ry)
  obtain ⟨f, fd, ps, ds, hC, hm, F, hbd, hd⟩ := c.ex
  cases hd
  obtain ⟨mA, J, _⟩ := ins_get I.hok ha
  obtain ⟨mB, J', _⟩ := ins_get I.hok hb
  obtain ⟨od, J, _⟩ := J.look
  obtain ⟨od', J', _⟩ := J'.look
  obtain ⟨m, hF⟩ := I.fr
  show wpAny _ _ (richCompare .Eq (.ref a) (.ref b)) _ _ _
  refine PySem.W.cmp_K (op := .Eq) (tb := .ref C) hr.units0 hF I.ok.mod.kin J J'.type (by simp [PySem.W.notFirst]) hm.at_ hm.fn ?_
  refine wpAny_mono (call_at (vs := [.ref a, .ref b]) F hbd hr rfl I (.cons rfl (.cons rfl .nil)) q) (fun r s2 z => ?_) fun _ _ e => e
  obtain ⟨v, H2, I2, rv, c, rfl, hq⟩ := z
  cases (show r = Value.bool c from rv)
  exact ⟨.bl c, H2, I2, rfl, hq⟩
theorem op_neOwn (c : Met X.prog X.w X.K X.mg X.base n C "__eq__" sp []) (hi : ClsI X.K C) (hr : Room (n + 1) X.A) : OpR X (compareOp .NotEq) (rOwnB C sp true) := by
  intro pins s σ H x y v u Q I rx ry h
  obtain ⟨a, b, dx, dy, fs, gs, rfl, rfl, ha, hb, q⟩ := h
  cases (show v = Value.ref a from rx)
  cases (show u = Value.ref b from ry)
  obtain ⟨f, fd, ps, ds, hC, hm, F, hbd, hd⟩ := c.ex
  cases hd
  obtain ⟨mA, J, _⟩ := ins_get I.hok ha
  obtain ⟨mB, J', _⟩ := ins_get I.hok hb
  obtain ⟨od, J, _⟩ := J.look
  obtain ⟨od', J', _⟩ := J'.look
  show wpAny _ _ (richCompare .NotEq (.ref a) (.ref b)) _ _ _
  refine Fo.ne_own (hu_of hr) I.kIn J hi.cm J'.type hi.ne hm.at_ hm.fn ?_
  refine wpAny_mono (call_at (vs := [.ref a, .ref b]) F hbd hr.in1 rfl I (.cons rfl (.cons rfl .nil)) q) (fun r s2 z => ?_) fun _ _ e => e
  obtain ⟨v, H2, I2, rv, c, rfl, hq⟩ := z
  cases (show r = Value.bool c from rv)
  exact ⟨c, rfl, .bl (!c), H2, I2, rfl, hq⟩
/-- len(x) of an instance -/
def rLenOwn (C : Addr) (sp : Sp) : List V → Hp → VK → Prop := fun xs H Q => ∃ a dx fs, xs = [.ref a] ∧ H a = some (.ins C dx fs) ∧ sp xs H (fun v H2 => ∃ i, v = .int i ∧ 0 ≤ i ∧ i < 2 ^ 63 ∧ Q v H2) C8.E0
theorem call_lenOwn (c : Met X.prog X.w X.K X.mg X.base n C "__len__" sp []) (hr : Room (n + 1) X.A) : CallR X (.builtin "len") (rLenOwn C sp) := by
  intro pins s σ H xs us Q I r h
  obtain ⟨a, dx, fs, rfl, ha, q⟩ := h
  rw [Vals.ref1 r]
  obtain ⟨f, fd, ps, ds, hC, hm, F, hbd, hd⟩ := c.ex
  cases hd
  obtain ⟨mA, J, _⟩ := ins_get I.hok ha
  obtain ⟨od, J, _⟩ := J.look
  obtain ⟨m, hF⟩ := I.fr
  refine PySem.W.len_K hF I.ok.mod.kin J hm.at_ hm.fn ?_
  refine wpAny_mono (call_at (vs := [.ref a]) F hbd hr.in1 rfl I (.cons rfl .nil) q) (fun r s2 z => ?_) fun _ _ e => e
  obtain ⟨v, H2, I2, rv, i, rfl, h0, h1, hq⟩ := z
  obtain ⟨t, e⟩ := (show ∃ t, r = Value.int i t from rv)
  subst e
  exact ⟨⟨h0, h1⟩, .int i, H2, I2.tok _, ⟨_, rfl⟩, hq⟩
end
section
variable {K : PySem.W.Frag} {σ : L2.St} {W : Wd} {ta tb te : TE} {R RA RB : Rp} {C : Addr}
/-- an instance, whatever its fields -/
def InsA (C : Addr) (r : Rp) : Prop := ∀ (H : Hp) (v : V), r.p H v → ∃ a dx fs, v = .ref a ∧ H a = some (.ins C dx fs)
theorem ins_a {ns : List Str} {rs : List Rp} : InsA C (insR C ns rs) := fun H v ⟨a, dx, vs, h1, h2, _⟩ => ⟨a, dx, _, h1, h2⟩
theorem ev_own {ι : Type} {args : ι → List Rp} {pre : Wd → ι → Prop} {res : ι → Rp} {neg : Bool} (ha : Ev ta σ W RA) (hb : Ev tb σ W RB) (ia : InsA C RA) (ib : InsA C RB) (x : ι) (hx : args x = [RA, RB]) (hp : ∀ W1, Le W W1 → pre W1 x) {c : Bool} (hr : res x = bl c) : Ev (tOp (rOwnB C (spG args pre res) neg) ta tb) σ W (bl (if neg then !c else c)) :=
  ev_op ha hb fun u v W1 l hu hv W2 l2 Q q => by
    obtain ⟨a, dx, fs, rfl, h1⟩ := ia _ _ (RA.mono l2.b hu)
    obtain ⟨b, dy, gs, rfl, h2⟩ := ib _ _ (RB.mono l2.b hv)
    refine ⟨a, b, dx, dy, fs, gs, rfl, rfl, W2.ex _ _ h1, W2.ex _ _ h2, W2, x, rfl, by rw [hx]; exact ⟨RA.mono l2.b hu, RB.mono l2.b hv, True.intro⟩, hp W2 (l.trans l2), fun v W3 l3 hv3 => ?_⟩
    rw [hr] at hv3
    exact ⟨c, hv3, q _ W3 l3 rfl⟩
theorem ev_lenOwn {ι : Type} {args : ι → List Rp} {pre : Wd → ι → Prop} {res : ι → Rp} (ha : Ev ta σ W RA) (ia : InsA C RA) (x : ι) (hx : args x = [RA]) (hp : ∀ W1, Le W W1 → pre W1 x) {i : Int} (hr : res x = int i) (h0 : 0 ≤ i) (h1 : i < 2 ^ 63) : Ev (tCB (rLenOwn C (spG args pre res)) (tCons ta tNil)) σ W (int i) := fun W1 l Q q =>
  ha W1 l _ fun u W2 l2 hu => by
    obtain ⟨a, dx, fs, rfl, h2⟩ := ia _ _ hu
    refine ⟨a, dx, fs, rfl, W2.ex _ _ h2, W2, x, rfl, by rw [hx]; exact ⟨hu, True.intro⟩, hp W2 (l.trans l2), fun v W3 l3 hv3 => ?_⟩
    rw [hr] at hv3
    exact ⟨i, hv3, h0, h1, q _ W3 (l2.trans l3) hv3⟩
end
end Fs

set_option Elab.async false
set_option linter.all false
set_option maxRecDepth 100000
set_option maxHeartbeats 2000000
namespace Fs
open PySem PySem.Spec PyProof.Rows L2 C8
/-! ### sets of whole numbers, sorted -/
/-- set(t), t a tuple of whole numbers -/
def rSetI (K : PySem.W.Frag) (w : World) : List V → Hp → VK → Prop := fun xs H Q => ∃ (p : Addr) (ns : List Int), xs = [.ref p] ∧ SqT K H p (ns.map V.int) ∧ ns.length ≤ 60 ∧ ∀ q n, H q = none → n ≤ ns.length → Q (.ref q) (upd H q (SetO w q (fun j => decide (j ∈ ns)) n))
theorem cr_setI {X : Cx} (hc : X.calm = true) : CallR X (.type "set") (rSetI X.K X.w) := by
  intro pins s σ H xs us Q I r h
  obtain ⟨p, ns, rfl, hp, hz, q⟩ := h
  rw [Vals.ref1 r]
  obtain ⟨its, rv, pt, _⟩ := I.tuple hp
  have hi : IntsAre its.toArray.toList ns := ints_of_vals rv
  refine call_set_tupI ns (I.ok.hd hc) (show s.heap.IsTuple p its.toArray from pt) hi (by unfold scanBound; omega) fun h2 tk c R hcn k => ?_
  exact ⟨.ref _, _, I.laid (t' := tk) (o := SetO X.w s.heap.objs.size (fun j => decide (j ∈ ns)) c) k (Nat.le_refl _) (setO_new R), rfl, q _ _ (I.hok.fresh (Nat.le_refl _)) hcn⟩
/-- put into a rising list, once -/
def ins1 (x : Int) : List Int → List Int
  | [] => [x]
  | y :: ys => if x < y then x :: y :: ys else if x = y then y :: ys else y :: ins1 x ys
def usort (l : List Int) : List Int := l.foldr ins1 []
theorem mem_ins1 {x k : Int} : ∀ {l : List Int}, k ∈ ins1 x l ↔ k = x ∨ k ∈ l
  | [] => by simp [ins1]
  | y :: ys => by
    unfold ins1
    split
    · simp
    · split
      · rename_i h; subst h; simp
      · simp only [List.mem_cons, mem_ins1 (l := ys)]
        constructor
        · rintro (h | h | h)
          · exact .inr (.inl h)
          · exact .inl h
          · exact .inr (.inr h)
        · rintro (h | h | h)
          · exact .inr (.inl h)
          · exact .inl h
          · exact .inr (.inr h)
theorem ins1_sorted {x : Int} : ∀ {l : List Int}, l.Pairwise (· < ·) → (ins1 x l).Pairwise (· < ·)
  | [], _ => by simp [ins1]
  | y :: ys, h => by
    obtain ⟨h1, h2⟩ := List.pairwise_cons.mp h
    unfold ins1
    split
    · rename_i hx
      exact List.pairwise_cons.mpr ⟨fun a ha => by
        rcases List.mem_cons.mp ha with rfl | ha
        · exact hx
        · exact Int.lt_trans hx (h1 a ha), h⟩
    · split
      · exact h
      · refine List.pairwise_cons.mpr ⟨fun a ha => ?_, ins1_sorted h2⟩
        rcases mem_ins1.mp ha with rfl | ha
        · omega
        · exact h1 a ha
theorem mem_usort {k : Int} : ∀ {l : List Int}, k ∈ usort l ↔ k ∈ l
  | [] => Iff.rfl
  | x :: l => by
    show k ∈ ins1 x (usort l) ↔ _
    rw [mem_ins1, mem_usort (l := l), List.mem_cons]
theorem usort_sorted : ∀ (l : List Int), (usort l).Pairwise (· < ·)
  | [] => .nil
  | x :: l => ins1_sorted (usort_sorted l)
theorem rising_ext : ∀ {l m : List Int}, l.Pairwise (· < ·) → m.Pairwise (· < ·) → (∀ k, k ∈ l ↔ k ∈ m) → l = m
  | [], [], _, _, _ => rfl
  | [], y :: m, _, _, h => absurd ((h y).mpr (List.mem_cons_self ..)) (by simp)
  | x :: l, [], _, _, h => absurd ((h x).mp (List.mem_cons_self ..)) (by simp)
  | x :: l, y :: m, h1, h2, h => by
    obtain ⟨a1, a2⟩ := List.pairwise_cons.mp h1
    obtain ⟨b1, b2⟩ := List.pairwise_cons.mp h2
    have e : x = y := by
      rcases List.mem_cons.mp ((h x).mp (List.mem_cons_self ..)) with e | e
      · exact e
      · rcases List.mem_cons.mp ((h y).mpr (List.mem_cons_self ..)) with e' | e'
        · exact e'.symm
        · have := a1 y e'; have := b1 x e; omega
    subst e
    rw [rising_ext a2 b2 fun k => ?_]
    constructor
    · intro hk
      rcases List.mem_cons.mp ((h k).mp (List.mem_cons_of_mem _ hk)) with e | e
      · have := a1 k hk; omega
      · exact e
    · intro hk
      rcases List.mem_cons.mp ((h k).mpr (List.mem_cons_of_mem _ hk)) with e | e
      · have := b1 k hk; omega
      · exact e
theorem usort_of {l m : List Int} (h : m.Pairwise (· < ·)) (e : ∀ k, k ∈ m ↔ k ∈ l) : m = usort l := rising_ext h (usort_sorted l) fun k => by rw [mem_usort, e]
theorem usort_id {l : List Int} (h : l.Pairwise (· < ·)) : usort l = l := (usort_of h fun _ => Iff.rfl).symm
section
variable {K : PySem.W.Frag} {σ : L2.St} {W : Wd} {ta : TE} {w : World} {ns : List Int}
def setR (w : World) (ns : List Int) : Rp := ⟨fun H v => ∃ a n, v = .ref a ∧ n ≤ ns.length ∧ H a = some (SetO w a (fun j => decide (j ∈ ns)) n), fun e ⟨a, n, h1, h2, h3⟩ => ⟨a, n, h1, h2, e _ _ h3⟩⟩
theorem ev_setI (h : Ev ta σ W (tupR K (ns.map int))) (hz : ns.length ≤ 60) : Ev (tCB (rSetI K w) (tCons ta tNil)) σ W (setR w ns) := fun W1 l Q q =>
  h W1 l _ fun v W2 l2 ⟨a, vs, e, h1, h2⟩ => ⟨a, ns, by rw [e], by rw [← rpa_ints_eq h2]; exact sqt_mono W2.ex h1, hz, fun p n hp hn => q _ (W2.mk' p _ hp) (l2.trans (W2.mk_le hp)) ⟨p, n, rfl, hn, upd_same⟩⟩
theorem ev_sortSet (h : Ev ta σ W (setR w ns)) (hz : ns.length ≤ 60) : Ev (tCB (rSortedSet w) (tCons ta tNil)) σ W (lstR K ((usort ns).map int)) := fun W1 l Q q =>
  h W1 l _ fun v W2 l2 ⟨a, n, e, hn, h1⟩ => ⟨a, _, n, by rw [e], W2.ex _ _ h1, by omega, fun ms p h2 h3 h4 hp => by
    have em : ms = usort ns := usort_of h2 fun k => by rw [h3, decide_eq_true_eq]
    subst em
    exact q _ (W2.mk' p _ hp) (l2.trans (W2.mk_le hp)) ⟨p, _, rfl, upd_same, rpa_ints⟩⟩
/-- tuple(xs), xs a list of whole numbers -/
theorem ev_tupOfI (h : Ev ta σ W (lstR K (ns.map int))) : Ev (tCB (fun xs H Q => ∃ p ys, xs = [.ref p] ∧ ((SqL K H p ys ∧ ∀ l, H l = none → Q (.ref l) (upd H l (.tup ys))) ∨ (SqT K H p ys ∧ Q (.ref p) H))) (tCons ta tNil)) σ W (prod ns) := fun W1 l Q q =>
  h W1 l _ fun v W2 l2 ⟨a, vs, e, h1, h2⟩ => ⟨a, vs, by rw [e], .inl ⟨lsq (W2.ex _ _ h1), fun p hp => q _ (W2.mk' p _ hp) (l2.trans (W2.mk_le hp)) ⟨p, rfl, by rw [rpa_ints_eq h2]; exact upd_same⟩⟩⟩
end
end Fs

set_option Elab.async false
set_option linter.all false
set_option maxRecDepth 100000
set_option maxHeartbeats 2000000
namespace Fs
open PySem PySem.Spec PyProof.Rows L2 C8
/-! ### what is done is locked for good -/
section
variable {X : Cx}
/-- from here on the thing at d is read only -/
def tFrz (t : TS) : TS := fun D σ H => ∃ d u, H d = some u ∧ Mut (some u) ∧ ∀ od, t D σ (upd H d (.frz od u))
theorem ps_frz {st : Stmt} {t : TS} (h : PS X st t) : PS X st (tFrz t) := by
  refine ⟨fun pins s σ H D I hw => ?_⟩
  obtain ⟨d, u, hd, mu, hw⟩ := hw
  obtain ⟨od, I1⟩ := I.lock hd mu
  exact h.run pins s σ _ _ I1 (hw od)
/-- what an expression gives is read only from here on -/
def tFrzE (t : TE) : TE := fun σ H Q => t σ H fun v H1 => ∃ d u, v = .ref d ∧ H1 d = some u ∧ Mut (some u) ∧ ∀ od, Q v (upd H1 d (.frz od u))
theorem pe_frz {e : Expr} {t : TE} (h : PE X e t) : PE X e (tFrzE t) := by
  refine ⟨fun pins s σ H Q I hw => ?_⟩
  refine thn (h.run pins s σ H _ I hw) fun v s1 ⟨x, H1, I1, r, d, u, ex, hd, mu, q⟩ => ?_
  obtain ⟨od, I2⟩ := I1.lock hd mu
  exact ⟨x, _, I2, r, q od⟩
/-! ### dicts with tuple keys -/
/-- d.setdefault(k, v) -/
def rSetdT : V → List V → Hp → VK → Prop := fun x xs H Q => ∃ (a : Addr) (kvs : List (List L2.Key × V)) (k : List L2.Key) (b : Addr) (d : V), x = .ref a ∧ xs = [.ref b, d] ∧ H a = some (.dT kvs) ∧ H b = some (.tup (k.map kV)) ∧ kvs.length < sizeLine ∧
  (∀ v, valV kvs k = some v → Q v H) ∧ (valV kvs k = none → Q d (upd H a (.dT (putK kvs k d))))
theorem mt_setdT (hu : X.A.units + 1 < cLine) : MtR X "dict.setdefault" rSetdT := by
  intro pins s σ H x xs v us Q I rx rxs h
  obtain ⟨a, kvs, k, b, d, rfl, rfl, ha, hb, hl, q1, q2⟩ := h
  cases rx
  obtain ⟨u1, u2, rfl, r1, r2⟩ := vals2 rxs
  cases r1
  obtain ⟨z, hd, xs', rel, dd⟩ := dt_of I.hok ha
  have hz : xs'.length ≤ sizeLine := by rw [← Paired.length rel]; exact z
  refine call_setdefault_heap (knd := tupleKind (mixKind X.prog X.w)) (k := k) (hsz := hz) (tupleKind_room_in1 hu) (key_of I.hok hb) hd dd (fun p hp => ?_) fun hn h2 dd2 hs => ?_
  · have r := rel.val k
    rw [hp] at r
    cases ev : valV kvs k with
    | none => rw [ev] at r; exact (show False from r).elim
    | some v0 => rw [ev] at r; exact ⟨v0, H, I.tok _, r, q1 v0 ev⟩
  · have r := rel.val k
    rw [hn] at r
    have e : valV kvs k = none := by
      cases ev : valV kvs k with
      | none => rfl
      | some v0 => rw [ev] at r; exact (show False from r).elim
    obtain ⟨q, es, ep, hq, e2, e3, e4, _, e5⟩ := dd2
    have hl2 : (putK kvs k d).length ≤ sizeLine := by have := length_putK kvs k d; omega
    have J : ∀ t : Nat, Inv X pins σ (upd H a (.dT (putK kvs k d))) { s with heap := h2, toks := t } := fun t =>
      d_write I (by rw [ha]; exact True.intro) hs ⟨q, hq⟩ ⟨hl2, hd, _, (rel.put k hb r2).keeps (fun c ys ec => (by rw [upd_ne (ne_of ec ha (fun z => nomatch z))]; exact ec)), q, es, ep, hq, e2, e3, e4, e5⟩
    exact ⟨d, _, J _, r2, q2 e⟩
theorem Rd.ins {H : Hp} {a : Addr} {u : HO} (h : Rd H a u) : ∃ o, H a = some o := by
  rcases h with h | ⟨ob, h⟩ <;> exact ⟨_, h⟩
/-- len(d) -/
def rLenF : List V → Hp → VK → Prop := fun xs H Q => ∃ (p : Addr) (kvs : List (List L2.Key × V)), xs = [.ref p] ∧ Rd H p (.dT kvs) ∧ Q (.int ((kvs.length : Nat) : Int)) H
theorem call_lenF : CallR X (.builtin "len") rLenF := by
  intro pins s σ H xs us Q I r h
  obtain ⟨p, kvs, rfl, hp, q⟩ := h
  rw [Vals.ref1 r]
  obtain ⟨z, hd, ys, rel, dd⟩ := dt_rd I.hok hp
  have hl : kvs.length = ys.length := Paired.length rel
  refine call_len_dictH hd dd (by rw [← hl]; rw [sizeLine_eq] at z; omega) ?_
  rw [← hl]
  exact ⟨.int ((kvs.length : Nat) : Int), H, I.tok _, ⟨_, rfl⟩, q⟩
/-- isinstance(d, dict) -/
def rIsiF : List V → Hp → VK → Prop := fun xs H Q => ∃ (p : Addr) (kvs : List (List L2.Key × V)), xs = [.ref p, .ty "dict"] ∧ Rd H p (.dT kvs) ∧ Q (.bl true) H
theorem call_isiF : CallR X (.builtin "isinstance") rIsiF := by
  intro pins s σ H xs us Q I r h
  obtain ⟨p, kvs, rfl, hp, q⟩ := h
  obtain ⟨u1, u2, rfl, r1, r2⟩ := vals2 r
  cases (show u1 = Value.ref p from r1)
  cases (show u2 = Value.type "dict" from r2)
  obtain ⟨z, hd, ys, rel, o, es, ep, ho, hx, _⟩ := dt_rd I.hok hp
  exact PySem.W.kia_one (PySem.W.kitx_dict) I.kIn ⟨o, ho, hx.1⟩ (kit_ty (r := true) (by decide +kernel)) (fun z => nomatch z) fun tk => ⟨.bl true, H, I.tok tk, rfl, q⟩
end
/-- the pairs of the locked dict at d, each a new tuple -/
def ItiT (d : Addr) (o : Obj) (kvs : List (List L2.Key × V)) : It :=
  ⟨fun i H => H d = some (.frz o (.dT kvs)) ∧ i < kvs.length, fun i H x H' => ∃ T q k v, kvs[i]? = some (k, v) ∧ H q = some (.tup (k.map kV)) ∧ x = .ref T ∧ H T = none ∧ H' = upd H T (.tup [.ref q, v]), fun i H => H d = some (.frz o (.dT kvs)) ∧ kvs.length ≤ i⟩
section
variable {P : Program} {w : World} {K : PySem.W.Frag} {d : Addr} {o : Obj} {es : Array DictEntry} {ep : Nat}
theorem frzT2 {X : Cx} {pins : List (Addr × Obj)} {σ : L2.St} {H : Hp} {s : Shared} {kvs : List (List L2.Key × V)} (I : Inv X pins σ H s) (h : H d = some (.frz o (.dT kvs))) :
    (d == sysModules) = false ∧ s.heap.get? d = some o ∧ o.ExactDict ∧ ∃ (es : Array DictEntry) (ep : Nat), o.data = .dict es ep ∧ es.size = kvs.length ∧
      ∀ (i : Nat) (k : List L2.Key) (v : V), kvs[i]? = some (k, v) → ∃ (en : DictEntry) (q : Addr), es[i]? = some en ∧ en.key = .ref q ∧ H q = some (.tup (k.map kV)) ∧ RelV v en.val := by
  obtain ⟨hd, z, hs, xs, pr, o', es, ep, ho, hx, hdt, he, _⟩ := I.hok d _ h
  rw [hd] at ho
  cases ho
  refine ⟨hs, hd, hx, es, ep, hdt, ?_, fun i k v e => ?_⟩
  · have l1 : es.size = xs.length := size_of_entries he
    have l2 : kvs.length = xs.length := Paired.length pr
    omega
  · obtain ⟨b, hb, e1, e2, e3⟩ := paired_get pr e
    have q := entry_at he i
    rw [hb] at q
    exact ⟨_, b.2.1, q, rfl, e2, e3⟩
theorem turn_itemsT {kvs : List (List L2.Key × V)} {elts : List Expr} {kk : Nat} {tpos : Pos} (it : Addr) (hod : o.data = .dict es ep) :
    Turn P w K (.Tuple elts kk tpos) (ItiT d o kvs) [it] it (fun i h => ∃ ok ov, IsItemIter h it d i kvs.length ep ok ov) where
  mem := by simp
  obj := fun i h st b hb => by
    have e : b = it := by simpa using hb
    subst e
    obtain ⟨ok, ov, e⟩ := st
    exact ⟨_, e, fun v z => nomatch z⟩
  keep := fun i h h2 st k => let ⟨ok, ov, e⟩ := st; ⟨ok, ov, k it (by simp) _ e⟩
  item := by
    intro X hP hw hK hc i pins s σ H E I hf st hg
    subst hP hw hK
    obtain ⟨hd, hi⟩ := hg
    obtain ⟨hs, hgd, hx, es', ep', hdt, hsz, ent⟩ := frzT2 I hd
    obtain ⟨rfl, rfl⟩ := dict_ep hod hdt
    obtain ⟨⟨k, v⟩, hkv⟩ : ∃ p, kvs[i]? = some p := ⟨kvs[i], List.getElem?_eq_getElem hi⟩
    obtain ⟨en, q, hen, hkey, hq, hv⟩ := ent i k v hkv
    obtain ⟨ok, ov, he⟩ := st
    rw [← hsz] at he
    have hi2 : i < es'.size := by omega
    have een : es'[i] = en := by
      have := Array.getElem?_eq_getElem hi2
      rw [hen] at this
      exact (Option.some.inj this).symm
    have hlt : it < s.heap.objs.size := Heap.lt_size he
    refine wpAny_pyNext_items_item_raw he ⟨o, hgd, hx, hdt⟩ hi2 fun h2 ho hT hz hk => ?_
    rw [een] at ho hT
    refine ⟨_, rfl, wpAny_letOwnedTupleGo_items (s := { s with heap := h2 }) ho fun h3 he2 sb => ?_⟩
    have hT2 : h3.get? s.heap.objs.size = some { cls := .type "tuple", data := .seq #[en.key, en.val] } := (sb.2 _ (Nat.ne_of_gt hlt)).trans hT
    have new : ObjOk X.prog X.w (upd H s.heap.objs.size (.tup [.ref q, v])) h3 s.heap.objs.size (.tup [.ref q, v]) :=
      ⟨by show 2 ≤ sizeLine; decide, [en.key, en.val], .cons hkey (.cons hv .nil), ⟨_, hT2, rfl, _, rfl⟩⟩
    have I1 : Inv X pins σ (upd H s.heap.objs.size (.tup [.ref q, v])) { s with heap := h3 } :=
      I.turnedNew (t' := s.toks) (ch := [it]) (fun b ob hb e => (sb.2 b (by simpa using hb)).trans (hk b ob (by simpa using hb) e)) hf (Nat.le_refl _) new
    refine ⟨.ref s.heap.objs.size, _, I1, rfl, ⟨_, q, k, v, hkv, hq, rfl, I.hok.fresh (Nat.le_refl _), rfl⟩, ⟨en.key, en.val, ?_⟩, fun b hb => ?_⟩
    · rw [← hsz]; exact he2
    · have e : b = it := by simpa using hb
      rw [e, upd_ne (Nat.ne_of_lt hlt)]
      exact (hf it (by simp)).1
  done := by
    intro X hP hw hK hc i pins s σ H E I hf st hg
    subst hP hw hK
    obtain ⟨hd, hi⟩ := hg
    obtain ⟨f0, f1, f2, f3, f4, f5⟩ := hf it (by simp)
    obtain ⟨hs, hgd, hx, es', ep', hdt, hsz, ent⟩ := frzT2 I hd
    obtain ⟨rfl, rfl⟩ := dict_ep hod hdt
    obtain ⟨ok, ov, he⟩ := st
    rw [← hsz] at he
    exact wpAny_pyNext_items_end_raw (I.ok.hd hc) he ⟨o, hgd, hx, hdt⟩ (by omega) fun h2 eb => ⟨rfl, I.turned (t' := s.toks) (fun b ob hb e => eb b ob hb e) f0 f1 f3 f4 f5⟩
  self := fun A i s Q E st h => let ⟨_, _, e⟩ := st; PySem.W.kcp_self e h
def iItemsT (td : TE) : TI := fun σ H R => td σ H fun x H1 => ∃ d o kvs, x = .ref d ∧ H1 d = some (.frz o (.dT kvs)) ∧ R (ItiT d o kvs) H1
theorem pi_itemsT {X : Cx} {e : Expr} {td : TE} {apos cpos : Pos} {elts : List Expr} {kk : Nat} {tpos : Pos} (he : PE X e td) (hbase : attributeBase e "items" X.env (eval e X.env) = eval e X.env := by rfl) (hline : (apos.endLine == cpos.line) = true := by rfl) :
    PI X (.Tuple elts kk tpos) (.Call (.Attribute e "items" apos) [] [] cpos) (iItemsT td) := by
  refine ⟨fun pins s σ H R I h => ?_⟩
  refine wpAny_Call_method (T := "dict") (id := "dict.items") hbase rfl hline F.plainAttrs_dict F.slot_dict_items F.type_dict_items (thn (he.run pins s σ H _ I h) fun u s1 ⟨x, H1, I1, rx, d, o, kvs, ex, hd, q⟩ => ?_)
  subst ex
  obtain rfl : u = Value.ref d := rx
  obtain ⟨hs, hgd, hx, es, ep, hdt, hsz, ent⟩ := frzT2 I1 hd
  have raw : s1.heap.DictRaw d es ep := ⟨o, hgd, hx, hdt⟩
  refine ⟨raw.typeIs, fun a ea => (by cases ea; exact ⟨o, hgd, hx.2.1⟩), ?_⟩
  have I2 : Inv X pins σ H1 { s1 with heap := s1.heap.push { cls := .type "dict_items", data := .fields #[.ref d] } } := I1.kept (t' := s1.toks) fun b ob q => Heap.get?_push_of_some _ q
  have last : wpAny (model X.prog X.w) X.A (pyIter (.ref s1.heap.objs.size)) (PIE X pins σ (.Tuple elts kk tpos) R) X.xe { s1 with heap := s1.heap.push { cls := .type "dict_items", data := .fields #[.ref d] } } := by
    refine wpAny_pyIter_items_raw (d := d) ⟨_, Heap.get?_push_size _ rfl, rfl, rfl⟩ (raw.at fun ob z => Heap.get?_push_of_some _ z) (pi_one (tk := s1.toks) I2 _ (turn_itemsT _ hdt) ⟨.none, .none, ?_⟩ q)
    rw [← hsz]
    exact Heap.get?_push_size _ rfl
  show wpAny _ _ (callWith cpos (.builtin "dict.items") [.ref d] [] []) _ X.xe s1
  exact method_meetsIn F.slot_dict_items F.entry_dict_items rfl (PySem.evalArgs_none ⟨rfl, raw.typeIs, F.args_dict_items_1 _, _, meets_dict_items_raw d hs, ⟨es, ep, raw⟩, last⟩)
theorem walk_itemsT {kvs : List (List L2.Key × V)} : Walk (ItiT d o kvs) kvs.length (fun H => H d = some (.frz o (.dT kvs))) (fun i H x H' => ∃ T q k v, kvs[i]? = some (k, v) ∧ H q = some (.tup (k.map kV)) ∧ x = .ref T ∧ H T = none ∧ H' = upd H T (.tup [.ref q, v])) :=
  ⟨fun _ _ hi q => ⟨q, hi⟩, fun _ q => ⟨q, Nat.le_refl _⟩, fun i H x H' _ _ y => y⟩
end
end Fs

set_option Elab.async false
set_option linter.all false
set_option maxRecDepth 100000
set_option maxHeartbeats 2000000
namespace Fs
open PySem PySem.Spec PyProof.Rows L2 C8
/-! ### one local thing has changed -/
structure Up (l : Addr) (W W' : Wd) : Prop where
  b : Same W.B W'.B
  h : ∀ b o, b ≠ l → W.r ≠ some b → W.H b = some o → NB o → W'.H b = some o
  n : ∀ b o, b ≠ l → W.B b = none → W.H b = some o → NT o → NB o → W'.B b = none
  r : W'.r = W.r
  t : W'.T = W.T
theorem Le.up {l : Addr} {W W' : Wd} (e : Le W W') : Up l W W' := ⟨e.b, fun b o _ => e.h b o, fun b o _ => e.n b o, e.r, e.t⟩
theorem Up.trans {l : Addr} {W W1 W2 : Wd} (a : Up l W W1) (b : Up l W1 W2) : Up l W W2 :=
  ⟨a.b.trans b.b, fun c o n m h u => b.h c o n (by rw [a.r]; exact m) (a.h c o n m h u) u, fun c o n h m t u => by
    by_cases e : W.r = some c
    · exact (W2.room c (by rw [b.r, a.r]; exact e)).1
    · exact b.n c o n (a.n c o n h m t u) (a.h c o n e m u) t u, b.r.trans a.r, b.t.trans a.t⟩
theorem Up.le {l : Addr} {W0 W W' : Wd} (u : Up l W W') (e : Le W0 W) (h : Fre W0 l) : Le W0 W' :=
  ⟨e.b.trans u.b, fun b o n q t => u.h b o (h.ne q t) (by rw [e.r]; exact n) (e.h b o n q t) t, fun b o q n t v => by
    by_cases z : W0.r = some b
    · exact (W'.room b (by rw [u.r, e.r]; exact z)).1
    · exact u.n b o (h.ne n v) (e.n b o q n t v) (e.h b o z n v) t v, u.r.trans e.r, u.t.trans e.t⟩
theorem Wd.mut_up (W : Wd) {p : Addr} {o : HO} (h : W.B p = none) (n : W.r ≠ some p) (m : ∃ u, W.H p = some u ∧ NL u) : Up p W (W.mut p o h n m) :=
  ⟨Same.refl _, fun b u e _ q _ => by
    show upd W.H p o b = some u
    rw [upd_ne e]; exact q, fun _ _ _ q _ _ _ => q, rfl, rfl⟩
theorem Wd.frz_up {W : Wd} {p : Addr} {o : HO} (h : W.H p = some o) (n : W.r ≠ some p) (hb : W.B p = none) (t : NB o := by exact fun _ z => nomatch z) : Up p W (W.frz p o h n t) :=
  ⟨Wd.frz_b h n hb t, fun b u _ _ q _ => q, fun b _ e q _ _ _ => by
    show upd W.B p o b = none
    rw [upd_ne e]; exact q, rfl, rfl⟩
section
variable {K : PySem.W.Frag} {σ : L2.St} {W W' W0 : Wd} {ta tb tc te tl tv : TE} {t u : TT} {R RA RB : Rp} {rs ss : List Rp} {g : TG} {l m : Addr} {tu tz : TS} {D : Ends} {vs : List Nat}
theorem LocL.up (h : LocL W m rs) (u : Up l W W') (n : m ≠ l) : LocL W' m rs := by
  obtain ⟨b, r, vs, h1, h2⟩ := h
  exact ⟨u.n m _ n b h1 nl_lst.1 nl_lst.2.1, by rw [u.r]; exact r, vs, u.h _ _ n r h1 nb_lst, h2.mono u.b⟩
theorem LocL.ne (h : LocL W m rs) (n : Fre W l) : m ≠ l := by
  obtain ⟨b, r, vs, h1, h2⟩ := h
  exact n.ne h1 nb_lst
/-- a local list is done: it stays (no step of the program) -/
theorem LocL.frz (h : LocL W l rs) : ∃ W' : Wd, W'.H = W.H ∧ Up l W W' ∧ (lstR K rs).p W'.B (.ref l) := by
  obtain ⟨b, r, vs, h1, h2⟩ := h
  exact ⟨W.frz l _ h1 r, rfl, Wd.frz_up h1 r b, l, vs, rfl, upd_same, h2.mono (Wd.frz_b h1 r b)⟩
/-- [..] to be changed -/
theorem s_newL {i : Nat} {t : TA} (h : EvA t σ W rs) (hl : rs.length ≤ 100000) (k : ∀ l W1, Same W.B W1.B → Le W W1 → Fre W l → LocL W1 l rs → D.nx (σ.set i (some (.ref l))) W1.H) : tAsg (tLst t) (gName i) D σ W.H :=
  h W (Le.refl _) _ fun vs W2 l2 hvs => ⟨by rw [hvs.len]; exact Nat.le_trans hl (by decide), fun p hp => k p (W2.loc p (.lst vs) hp) l2.b (l2.trans (W2.loc_le hp)) (l2.free (Wd.fre hp)) ⟨W2.bfree hp, (Wd.fre hp).nr, vs, upd_same, hvs⟩⟩
theorem q_newL {i : Nat} {t : TA} (h : EvA t σ W rs) (hl : rs.length ≤ 100000) (k : ∀ l W1, Same W.B W1.B → Le W W1 → Fre W l → LocL W1 l rs → tz D (σ.set i (some (.ref l))) W1.H) : tSeq (tAsg (tLst t) (gName i)) tz D σ W.H := s_newL (D := { D with nx := tz D }) h hl k
theorem tyl {H : Hp} {l : Addr} {xs : List V} (h : H l = some (.lst xs)) : tyV K "list" (.ref l) H := .inl ⟨rfl, xs, .inl (.inl h)⟩
/-- l.append(e) -/
theorem s_app {i : Nat} (hi : σ[i]? = some (some (.ref l))) (L : LocL W l rs) (h : Ev te σ W R) (hz : rs.length < 100000) (k : ∀ W1, Up l W W1 → LocL W1 l (rs ++ [R]) → D.nx σ W1.H) : tDrop (tBM K "list" rAppend (tVar i) (tCons te tNil)) D σ W.H := by
  refine ⟨_, hi, ?_, ?_⟩
  · obtain ⟨b, r, vs, h1, h2⟩ := L
    exact tyl h1
  · refine h W (Le.refl _) _ fun v W1 l1 hv => ?_
    obtain ⟨b, r, vs, h1, h2⟩ := L.le l1
    exact ⟨l, vs, v, rfl, rfl, h1, by rw [h2.len]; exact Nat.lt_trans hz (by decide), k (W1.mut l (.lst (vs ++ [v])) b r ⟨_, h1, nl_lst⟩) (l1.up.trans (W1.mut_up b r ⟨_, h1, nl_lst⟩)) ⟨b, r, _, upd_same, h2.snoc hv⟩⟩
theorem q_app {i : Nat} (hi : σ[i]? = some (some (.ref l))) (L : LocL W l rs) (h : Ev te σ W R) (hz : rs.length < 100000) (k : ∀ W1, Up l W W1 → LocL W1 l (rs ++ [R]) → tz D σ W1.H) : tSeq (tDrop (tBM K "list" rAppend (tVar i) (tCons te tNil))) tz D σ W.H := s_app (D := { D with nx := tz D }) hi L h hz k

/-! ### iterators -/
def ItW (wi : TI) (σ : L2.St) (W : Wd) (rs : List Rp) : Prop := ∀ W1, Le W W1 → ∀ R : It → Hp → Prop,
  (∀ J W2, Le W1 W2 → (∃ (G : Hp → Prop) (Y : Nat → Hp → V → Hp → Prop), Walk J rs.length G Y ∧ (∀ W3 : Wd, Same W2.B W3.B → G W3.H) ∧
    ∀ (i : Nat) (r : Rp) x (W3 : Wd) H', rs[i]? = some r → Same W2.B W3.B → Y i W3.H x H' → ∃ W4 : Wd, W4.H = H' ∧ Le W3 W4 ∧ r.p W4.B x) → R J W2.H) → wi σ W1.H R
theorem s_forI {wi : TI} (h : ItW wi σ W rs) (Pv : Nat → L2.St → Wd → Prop) (h0 : ∀ W1, Le W W1 → Pv 0 σ W1)
    (hs : ∀ (i : Nat) (r : Rp) x σ' (W' W4 : Wd) (N : L2.St → Hp → Prop), rs[i]? = some r → Same W.B W'.B → Pv i σ' W' → Le W' W4 → r.p W4.B x → (∀ σ3 (W3 : Wd), Same W4.B W3.B → Pv (i + 1) σ3 W3 → N σ3 W3.H) → g x σ' W4.H fun σ2 H2 => tu { D with nx := N, ct := N, bk := D.nx } σ2 H2)
    (hd : ∀ σ' W', Same W.B W'.B → Pv rs.length σ' W' → D.nx σ' W'.H) : tFor wi g tu D σ W.H := h W (Le.refl _) _ fun J W0 l0 ⟨G, Y, w, hG, hY⟩ => by
  refine for_it w (fun i σ' H' => ∃ W' : Wd, W'.H = H' ∧ Same W0.B W'.B ∧ Pv i σ' W') ⟨W0, rfl, Same.refl _, h0 W0 l0⟩ ?_ ?_ ?_
  · rintro i σ' H' hi ⟨W', rfl, s, p⟩
    exact hG W' s
  · rintro i x σ' H' H'' hi ⟨W', rfl, s, p⟩ hy
    obtain ⟨W4, rfl, l4, hx⟩ := hY i _ x W' H'' (List.getElem?_eq_getElem hi) s hy
    exact hs i _ x σ' W' W4 _ (List.getElem?_eq_getElem hi) (l0.b.trans s) p l4 hx fun σ3 W3 s3 p3 => ⟨W3, rfl, (s.trans l4.b).trans s3, p3⟩
  · rintro σ' H' ⟨W', rfl, s, p⟩
    exact hd σ' W' (l0.b.trans s) p
theorem q_forI {wi : TI} (h : ItW wi σ W rs) (Pv : Nat → L2.St → Wd → Prop) (h0 : ∀ W1, Le W W1 → Pv 0 σ W1)
    (hs : ∀ (i : Nat) (r : Rp) x σ' (W' W4 : Wd) (N : L2.St → Hp → Prop), rs[i]? = some r → Same W.B W'.B → Pv i σ' W' → Le W' W4 → r.p W4.B x → (∀ σ3 (W3 : Wd), Same W4.B W3.B → Pv (i + 1) σ3 W3 → N σ3 W3.H) → g x σ' W4.H fun σ2 H2 => tu { D with nx := N, ct := N, bk := tz D } σ2 H2)
    (hd : ∀ σ' W', Same W.B W'.B → Pv rs.length σ' W' → tz D σ' W'.H) : tSeq (tFor wi g tu) tz D σ W.H := s_forI (D := { D with nx := tz D }) h Pv h0 hs hd
theorem ev_lcI {wi : TI} (Pv : Nat → List Rp → Prop) (h : ItW wi σ W rs) (hz : rs.length ≤ 100000) (h0 : Pv 0 [])
    (hs : ∀ (i : Nat) (r : Rp) (x : V) (W1 : Wd) (acc : List Rp), rs[i]? = some r → Le W W1 → r.p W1.B x → Pv i acc → ∀ Q : L2.St → Hp → Prop, (∀ σ2, wipe σ2 vs = wipe σ vs → Turn1 t te Pv i σ2 W1 acc → Q σ2 W1.H) → g x (wipe σ vs) W1.H Q) :
    Ev (tLc wi g t te vs) σ W (anyR (Pv rs.length) (lstR K)) := fun W0 l0 Q q => h W0 l0 _ fun J W1 l1 ⟨G, Y, w, hG, hY⟩ D hD => by
  refine lc_it w (Cw W1 D Pv) (cw_start hD h0) (fun i H' _ ⟨W', _, e, l, _⟩ => by rw [← e]; exact hG W' l.b) ?_ ?_
  · rintro i x H' H'' hi ⟨W', acc, rfl, l, L, hp, hl⟩ hy
    obtain ⟨W4, rfl, l4, hx⟩ := hY i _ x W' H'' (List.getElem?_eq_getElem hi) l.b hy
    exact hs i _ x W4 acc (List.getElem?_eq_getElem hi) (((l0.trans l1).trans l).trans l4) hx hp _ fun σ2 hw ht => ⟨hw, cw_turn hD (l.trans l4) (L.le l4) hl (by omega) ht⟩
  · intro H' p
    obtain ⟨W2, e, l2, hr⟩ := cw_end (K := K) hD p
    rw [← e]
    exact q _ W2 (l1.trans l2) hr
/-- [e for x in xs], each e determined -/
theorem ev_mapI {α : Type} {xs : List α} {F G : α → Rp} {wi : TI} (h : ItW wi σ W (xs.map F)) (hz : xs.length ≤ 100000)
    (hs : ∀ (a : α) (x : V) (W1 : Wd), a ∈ xs → Le W W1 → (F a).p W1.B x → ∀ Q : L2.St → Hp → Prop, (∀ σ2, wipe σ2 vs = wipe σ vs → Ev te σ2 W1 (G a) → Q σ2 W1.H) → g x (wipe σ vs) W1.H Q) :
    Ev (tLc wi g tYes te vs) σ W (lstR K (xs.map G)) := by
  refine Ev.imp (ev_lcI (K := K) (fun i acc => acc = (xs.take i).map G) h (by rw [List.length_map]; exact hz) rfl ?_) ?_
  · rintro i r x W1 acc hi l hx rfl Q q
    obtain ⟨_, a, ha, rfl, hm⟩ := take_snoc hi
    refine hs a x W1 hm l hx Q fun σ2 hw he => q σ2 hw (turn_yes he ?_)
    exact (take_snoc (f := G) (by rw [List.getElem?_map, ha]; rfl)).1.symm
  · rintro W1 v _ ⟨acc, e, hv⟩
    rw [List.length_map, List.take_of_length_le (Nat.le_refl _)] at e
    rw [← e]; exact hv
/-- [e for x in xs if t] -/
theorem ev_filI {α : Type} {xs : List α} {F G : α → Rp} {p : α → Bool} {wi : TI} (h : ItW wi σ W (xs.map F)) (hz : xs.length ≤ 100000)
    (hs : ∀ (a : α) (x : V) (W1 : Wd), a ∈ xs → Le W W1 → (F a).p W1.B x → ∀ Q : L2.St → Hp → Prop, (∀ σ2, wipe σ2 vs = wipe σ vs → EvB t σ2 W1 (Bo (p a)) → (p a = true → Ev te σ2 W1 (G a)) → Q σ2 W1.H) → g x (wipe σ vs) W1.H Q) :
    Ev (tLc wi g t te vs) σ W (lstR K ((xs.filter p).map G)) := by
  refine Ev.imp (ev_lcI (K := K) (fun i acc => acc = ((xs.take i).filter p).map G) h (by rw [List.length_map]; exact hz) rfl ?_) ?_
  · rintro i r x W1 acc hi l hx rfl Q q
    obtain ⟨_, a, ha, rfl, hm⟩ := take_snoc hi
    have ht : xs.take (i + 1) = xs.take i ++ [a] := by rw [List.take_add_one, ha]; rfl
    refine hs a x W1 hm l hx Q fun σ2 hw hb he => q σ2 hw ⟨Bo (p a), G a, hb, fun hp => ⟨he hp.symm, ?_⟩, fun hp => ?_⟩
    · show _ = ((xs.take (i + 1)).filter p).map G
      rw [ht, List.filter_append, List.map_append, List.filter_cons, if_pos hp.symm]; rfl
    · show _ = ((xs.take (i + 1)).filter p).map G
      rw [ht, List.filter_append, List.map_append, List.filter_cons, if_neg (by rw [← hp]; decide)]
      simp
  · rintro W1 v _ ⟨acc, e, hv⟩
    rw [List.length_map, List.take_of_length_le (Nat.le_refl _)] at e
    rw [← e]; exact hv
theorem it_mk {J : It} {n : Nat} {G : Hp → Prop} {Y : Nat → Hp → V → Hp → Prop} {W2 : Wd} (w : Walk J n G Y) (e : rs.length = n) (hG : ∀ W3 : Wd, Same W2.B W3.B → G W3.H)
    (hY : ∀ (i : Nat) (r : Rp) x (W3 : Wd) H', rs[i]? = some r → Same W2.B W3.B → Y i W3.H x H' → ∃ W4 : Wd, W4.H = H' ∧ Le W3 W4 ∧ r.p W4.B x) :
    ∃ (G : Hp → Prop) (Y : Nat → Hp → V → Hp → Prop), Walk J rs.length G Y ∧ (∀ W3 : Wd, Same W2.B W3.B → G W3.H) ∧
      ∀ (i : Nat) (r : Rp) x (W3 : Wd) H', rs[i]? = some r → Same W2.B W3.B → Y i W3.H x H' → ∃ W4 : Wd, W4.H = H' ∧ Le W3 W4 ∧ r.p W4.B x := ⟨G, Y, by rw [e]; exact w, hG, hY⟩
theorem it_yat {xs : List V} {J : It} {G : Hp → Prop} {W2 : Wd} (hx : RpA rs W2.B xs) {i : Nat} {r : Rp} {x : V} {W3 : Wd} {H' : Hp} (hi : rs[i]? = some r) (s : Same W2.B W3.B) (y : YAt xs i W3.H x H') : ∃ W4 : Wd, W4.H = H' ∧ Le W3 W4 ∧ r.p W4.B x := by
  obtain ⟨rfl, hy⟩ := y
  obtain ⟨r', h1, h2⟩ := hx.get hy
  cases hi.symm.trans h1
  exact ⟨W3, rfl, Le.refl _, r.mono s h2⟩
theorem it_list (h : Ev tl σ W (lstR K rs)) : ItW (iList K tl) σ W rs := fun W1 l1 R q => h W1 l1 _ fun x W2 l2 ⟨a, us, e1, h1, h2⟩ => ⟨a, e1, ⟨us, lsq (W2.ex _ _ h1)⟩, q _ W2 l2 ⟨_, _, by rw [← h2.len]; exact walk_list (xs := us), fun W3 s => lsq (W3.ex _ _ (s _ _ h1)), fun i r x W3 H' hi s y => it_yat (J := Itl K a) (G := fun _ => True) h2 hi s y⟩⟩
theorem it_tup (h : Ev tl σ W (tupR K rs)) : ItW (iTup K tl) σ W rs := fun W1 l1 R q => h W1 l1 _ fun x W2 l2 ⟨a, us, e1, h1, h2⟩ => ⟨a, e1, ⟨us, sqt_mono W2.ex h1⟩, q _ W2 l2 ⟨_, _, by rw [← h2.len]; exact walk_tup (xs := us), fun W3 s => sqt_mono W3.ex (sqt_mono s h1), fun i r x W3 H' hi s y => it_yat (J := Itl K a) (G := fun _ => True) h2 hi s y⟩⟩
theorem it_prod {ps : List Int} (h : Ev tl σ W (prod ps)) : ItW (iTup K tl) σ W (ps.map int) := it_tup (h.imp fun _ _ _ => prod_tup)
/-- the numbers from lo on -/
def upTo (lo : Int) (n : Nat) : List Int := (List.range n).map fun (i : Nat) => lo + (i : Int)
theorem it_fn {f : Nat → V} {n : Nat} {G : Nat → Rp} (hf : ∀ i H, i < n → (G i).p H (f i)) {W3 : Wd} {H' : Hp} {i : Nat} {r : Rp} {x : V} (hi : ((List.range n).map G)[i]? = some r) (y : YFn f i W3.H x H') : ∃ W4 : Wd, W4.H = H' ∧ Le W3 W4 ∧ r.p W4.B x := by
  obtain ⟨rfl, rfl⟩ := y
  have hlt : i < n := by have := (List.getElem?_eq_some_iff.mp hi).1; simpa using this
  rw [List.getElem?_map, List.getElem?_range hlt] at hi
  have e : G i = r := Option.some.inj hi
  exact ⟨W3, rfl, Le.refl _, by rw [← e]; exact hf i _ hlt⟩
theorem it_rng1 {ta : TA} {n : Int} (h : EvA ta σ W [int n]) (hn : -100000 ≤ n ∧ n ≤ 100000) : ItW (iRng1 ta) σ W ((upTo 0 n.toNat).map int) := fun W1 l1 R q => h W1 l1 _ fun us W2 l2 hus => by
  obtain ⟨x, rfl, ex⟩ := hus.one
  cases ex
  refine ⟨n, rfl, by omega, by omega, q _ W2 l2 ⟨_, _, by rw [List.length_map, upTo, List.length_map, List.length_range]; exact walk_range (lo := 0) (n := n.toNat), fun W3 s => True.intro, fun i r x W3 H' hi s y => ?_⟩⟩
  unfold upTo at hi
  rw [List.map_map] at hi
  exact it_fn (f := fun i => .int (0 + (i : Int))) (fun i H hi => rfl) hi y
theorem it_rng2 {ta : TA} {lo hi : Int} (h : EvA ta σ W [int lo, int hi]) (hn : -100000 ≤ lo ∧ lo ≤ 100000 ∧ -100000 ≤ hi ∧ hi ≤ 100000) : ItW (iRng2 ta) σ W ((upTo lo (hi - lo).toNat).map int) := fun W1 l1 R q => h W1 l1 _ fun us W2 l2 hus => by
  obtain ⟨x, y, rfl, ex, ey⟩ := hus.two
  cases ex
  cases ey
  refine ⟨lo, hi, rfl, ⟨by omega, by omega, by omega, by omega⟩, q _ W2 l2 ⟨_, _, by rw [List.length_map, upTo, List.length_map, List.length_range]; exact walk_range (lo := lo) (n := (hi - lo).toNat), fun W3 s => True.intro, fun i r x W3 H' hi s y => ?_⟩⟩
  unfold upTo at hi
  rw [List.map_map] at hi
  exact it_fn (f := fun i => .int (lo + (i : Int))) (fun i H hi => rfl) hi y
/-- pairs -/
def prs (K : PySem.W.Frag) (rs ss : List Rp) : List Rp := List.zipWith (fun r s => tupR K [r, s]) rs ss
theorem it_pair {xs ys : Nat → Option V} {W3 : Wd} {H' : Hp} {i : Nat} {x : V} (hx : ∀ u, xs i = some u → RA.p W3.B u) (hy : ∀ u, ys i = some u → RB.p W3.B u) (y : YPair xs ys i W3.H x H') : ∃ W4 : Wd, W4.H = H' ∧ Le W3 W4 ∧ (tupR K [RA, RB]).p W4.B x := by
  obtain ⟨T, u, v, rfl, hT, rfl, h1, h2⟩ := y
  have l := W3.mk_le (o := .tup [u, v]) hT
  exact ⟨W3.mk' T _ hT nb_tup, rfl, l, T, [u, v], rfl, .inl (.inl upd_same), RA.mono l.b (hx u h1), RB.mono l.b (hy v h2), True.intro⟩
theorem it_enum {ta : TA} (h : EvA ta σ W [lstR K rs]) : ItW (iEnum K ta) σ W (prs K ((upTo 0 rs.length).map int) rs) := fun W1 l1 R q => h W1 l1 _ fun us W2 l2 hus => by
  obtain ⟨x, rfl, a, vs, rfl, h1, h2⟩ := hus.one
  refine ⟨a, vs, rfl, lsq (W2.ex _ _ h1), q _ W2 l2 (it_mk (walk_enum (xs := vs)) ?_ (fun W3 s => lsq (W3.ex _ _ (s _ _ h1))) fun i r x W3 H' hi s y => ?_)⟩
  · rw [h2.len]; simp [prs, upTo]
  · obtain ⟨r1, r2, e1, e2, rfl⟩ : ∃ r1 r2, ((upTo 0 rs.length).map int)[i]? = some r1 ∧ rs[i]? = some r2 ∧ r = tupR K [r1, r2] := by
      unfold prs at hi
      rw [List.getElem?_zipWith] at hi
      split at hi
      · rename_i a b h1 h2
        exact ⟨_, _, h1, h2, (Option.some.inj hi).symm⟩
      · cases hi
    refine it_pair (fun u hu => ?_) (fun u hu => ?_) y
    · have hlt : i < rs.length := (List.getElem?_eq_some_iff.mp e2).1
      unfold upTo at e1
      rw [List.map_map, List.getElem?_map, List.getElem?_range hlt] at e1
      have e : int (0 + (i : Int)) = r1 := Option.some.inj e1
      rw [← e, Int.zero_add]
      exact (Option.some.inj hu).symm
    · obtain ⟨r', h3, h4⟩ := h2.get hu
      cases e2.symm.trans h3
      exact r2.mono s h4
theorem it_zip {ta : TA} (h : EvA ta σ W [lstR K rs, lstR K ss]) : ItW (iZip K ta) σ W (prs K rs ss) := fun W1 l1 R q => h W1 l1 _ fun us W2 l2 hus => by
  obtain ⟨x, y, rfl, ⟨a, vs, rfl, h1, h2⟩, b, ws, rfl, h3, h4⟩ := hus.two
  refine ⟨a, b, vs, ws, rfl, lsq (W2.ex _ _ h1), lsq (W2.ex _ _ h3), q _ W2 l2 (it_mk (walk_zip (xs := vs) (ys := ws) rfl) ?_ (fun W3 s => ⟨lsq (W3.ex _ _ (s _ _ h1)), lsq (W3.ex _ _ (s _ _ h3))⟩) fun i r x W3 H' hi s y => ?_)⟩
  · rw [h2.len, h4.len]; simp [prs]
  · obtain ⟨r1, r2, e1, e2, rfl⟩ : ∃ r1 r2, rs[i]? = some r1 ∧ ss[i]? = some r2 ∧ r = tupR K [r1, r2] := by
      unfold prs at hi
      rw [List.getElem?_zipWith] at hi
      split at hi
      · rename_i a b h1 h2
        exact ⟨_, _, h1, h2, (Option.some.inj hi).symm⟩
      · cases hi
    refine it_pair (fun u hu => ?_) (fun u hu => ?_) y
    · obtain ⟨r', h5, h6⟩ := h2.get hu
      cases e1.symm.trans h5
      exact r1.mono s h6
    · obtain ⟨r', h5, h6⟩ := h4.get hu
      cases e2.symm.trans h5
      exact r2.mono s h6
end
end Fs

set_option Elab.async false
set_option linter.all false
set_option maxRecDepth 100000
set_option maxHeartbeats 2000000
namespace Fs
open PySem PySem.Spec PyProof.Rows L2 C8
/-! ### dicts from products to numbers -/
abbrev Dct := List (List Int × Num)
def keyP (q : List Int) : List L2.Key := q.map Sum.inl
theorem keyP_kV (q : List Int) : (keyP q).map kV = q.map V.int := by
  unfold keyP
  rw [List.map_map]; rfl
theorem keyP_inj : ∀ {q r : List Int}, keyP q = keyP r → q = r
  | [], [], _ => rfl
  | [], _ :: _, h => nomatch h
  | _ :: _, [], h => nomatch h
  | x :: a, y :: b, h => by
    have h' : Sum.inl x :: keyP a = Sum.inl y :: keyP b := h
    rw [List.cons.injEq] at h'
    rw [Sum.inl.inj h'.1, keyP_inj h'.2]
def valD (d : Dct) (q : List Int) : Option Num := (d.find? fun t => decide (t.1 = q)).map (·.2)
def putD (d : Dct) (q : List Int) (n : Num) : Dct :=
  if (d.any fun t => decide (t.1 = q)) = true then d.map (fun t => if t.1 = q then (t.1, n) else t) else d ++ [(q, n)]
def KvR (K : PySem.W.Frag) (H : Hp) : List (List L2.Key × V) → Dct → Prop
  | [], [] => True
  | kv :: kvs, t :: d => kv.1 = keyP t.1 ∧ (num K t.2).p H kv.2 ∧ KvR K H kvs d
  | [], _ :: _ => False
  | _ :: _, [] => False
section
variable {K : PySem.W.Frag} {H H' : Hp}
theorem KvR.mono (e : Same H H') : ∀ {kvs : List (List L2.Key × V)} {d : Dct}, KvR K H kvs d → KvR K H' kvs d
  | [], [], _ => True.intro
  | kv :: kvs, t :: d, h => ⟨h.1, (num K t.2).mono e h.2.1, KvR.mono e h.2.2⟩
  | [], _ :: _, h => h
  | _ :: _, [], h => h
theorem KvR.len : ∀ {kvs : List (List L2.Key × V)} {d : Dct}, KvR K H kvs d → kvs.length = d.length
  | [], [], _ => rfl
  | kv :: kvs, t :: d, h => by rw [List.length_cons, List.length_cons, KvR.len h.2.2]
  | [], _ :: _, h => h.elim
  | _ :: _, [], h => h.elim
theorem KvR.val {q : List Int} : ∀ {kvs : List (List L2.Key × V)} {d : Dct}, KvR K H kvs d → (valD d q = none ∧ valV kvs (keyP q) = none) ∨ ∃ n v, valD d q = some n ∧ valV kvs (keyP q) = some v ∧ (num K n).p H v
  | [], [], _ => .inl ⟨rfl, rfl⟩
  | kv :: kvs, t :: d, h => by
    by_cases e : t.1 = q
    · refine .inr ⟨t.2, kv.2, ?_, valV_pos (by rw [h.1, e]), h.2.1⟩
      simp [valD, List.find?_cons, e]
    · have e2 : valD (t :: d) q = valD d q := by simp [valD, List.find?_cons, e]
      rw [e2, valV_neg (fun z => e (keyP_inj (h.1.symm.trans z)))]
      exact KvR.val h.2.2
  | [], _ :: _, h => h.elim
  | _ :: _, [], h => h.elim
theorem KvR.any {q : List Int} : ∀ {kvs : List (List L2.Key × V)} {d : Dct}, KvR K H kvs d → (kvs.any fun kv => decide (kv.1 = keyP q)) = d.any fun t => decide (t.1 = q)
  | [], [], _ => rfl
  | kv :: kvs, t :: d, h => by
    rw [List.any_cons, List.any_cons, KvR.any h.2.2]
    congr 1
    have : kv.1 = keyP q ↔ t.1 = q := ⟨fun z => keyP_inj (h.1.symm.trans z), fun z => by rw [h.1, z]⟩
    exact decide_eq_decide.mpr this
  | [], _ :: _, h => h.elim
  | _ :: _, [], h => h.elim
theorem KvR.upd {q : List Int} {n : Num} {v : V} (hv : (num K n).p H v) : ∀ {kvs : List (List L2.Key × V)} {d : Dct}, KvR K H kvs d → KvR K H (kvs.map fun kv => if kv.1 = keyP q then (kv.1, v) else kv) (d.map fun t => if t.1 = q then (t.1, n) else t)
  | [], [], _ => True.intro
  | kv :: kvs, t :: d, h => by
    have : kv.1 = keyP q ↔ t.1 = q := ⟨fun z => keyP_inj (h.1.symm.trans z), fun z => by rw [h.1, z]⟩
    rw [List.map_cons, List.map_cons]
    refine ⟨?_, ?_, KvR.upd hv h.2.2⟩
    · by_cases e : t.1 = q
      · rw [if_pos e, if_pos (this.mpr e)]; exact h.1
      · rw [if_neg e, if_neg (fun z => e (this.mp z))]; exact h.1
    · by_cases e : t.1 = q
      · rw [if_pos e, if_pos (this.mpr e)]; exact hv
      · rw [if_neg e, if_neg (fun z => e (this.mp z))]; exact h.2.1
  | [], _ :: _, h => h.elim
  | _ :: _, [], h => h.elim
theorem KvR.snoc {q : List Int} {n : Num} {v : V} (hv : (num K n).p H v) : ∀ {kvs : List (List L2.Key × V)} {d : Dct}, KvR K H kvs d → KvR K H (kvs ++ [(keyP q, v)]) (d ++ [(q, n)])
  | [], [], _ => ⟨rfl, hv, True.intro⟩
  | kv :: kvs, t :: d, h => ⟨h.1, h.2.1, KvR.snoc hv h.2.2⟩
  | [], _ :: _, h => h.elim
  | _ :: _, [], h => h.elim
theorem KvR.put {q : List Int} {n : Num} {v : V} (hv : (num K n).p H v) {kvs : List (List L2.Key × V)} {d : Dct} (h : KvR K H kvs d) : KvR K H (putK kvs (keyP q) v) (putD d q n) := by
  unfold putK putD
  rw [KvR.any h]
  split
  · exact KvR.upd hv h
  · exact KvR.snoc hv h
theorem KvR.get : ∀ {kvs : List (List L2.Key × V)} {d : Dct} {i : Nat} {kv : List L2.Key × V}, KvR K H kvs d → kvs[i]? = some kv → ∃ t, d[i]? = some t ∧ kv.1 = keyP t.1 ∧ (num K t.2).p H kv.2
  | [], [], _, _, _, e => by simp at e
  | kv :: kvs, t :: d, 0, u, h, e => ⟨t, rfl, by cases (show some kv = some u from e); exact ⟨h.1, h.2.1⟩⟩
  | kv :: kvs, t :: d, i + 1, u, h, e => by
    obtain ⟨t', h1, h2⟩ := KvR.get (i := i) (kv := u) h.2.2 (by simpa using e)
    exact ⟨t', by simpa using h1, h2⟩
  | [], _ :: _, _, _, h, _ => h.elim
  | _ :: _, [], _, _, h, _ => h.elim
end
theorem len_putD (d : Dct) (q : List Int) (n : Num) : (putD d q n).length ≤ d.length + 1 := by
  unfold putD
  split <;> simp
def dctR (K : PySem.W.Frag) (d : Dct) : Rp := ⟨fun H v => ∃ a ob kvs, v = .ref a ∧ H a = some (.frz ob (.dT kvs)) ∧ KvR K H kvs d, fun e ⟨a, ob, kvs, h1, h2, h3⟩ => ⟨a, ob, kvs, h1, e _ _ h2, h3.mono e⟩⟩
structure LocD (K : PySem.W.Frag) (W : Wd) (l : Addr) (d : Dct) : Prop where
  b : W.B l = none
  r : W.r ≠ some l
  h : ∃ kvs, W.H l = some (.dT kvs) ∧ KvR K W.B kvs d
section
variable {K : PySem.W.Frag} {σ : L2.St} {W W' W0 : Wd} {ta tb tc te tl tv td ty tx : TE} {t u : TT} {R RA RB : Rp} {rs ss : List Rp} {g : TG} {l m : Addr} {tu tz : TS} {D : Ends} {d : Dct} {q : List Int} {n dn : Num}
theorem LocD.le (h : LocD K W l d) (e : Le W W') : LocD K W' l d := by
  obtain ⟨b, r, vs, h1, h2⟩ := h
  exact ⟨e.n l _ b h1 nl_dT.1 nl_dT.2.1, by rw [e.r]; exact r, vs, e.h _ _ r h1 nl_dT.2.1, h2.mono e.b⟩
theorem LocD.up (h : LocD K W m d) (u : Up l W W') (n : m ≠ l) : LocD K W' m d := by
  obtain ⟨b, r, vs, h1, h2⟩ := h
  exact ⟨u.n m _ n b h1 nl_dT.1 nl_dT.2.1, by rw [u.r]; exact r, vs, u.h _ _ n r h1 nl_dT.2.1, h2.mono u.b⟩
theorem prod_at {v : V} (h : (prod q).p W.B v) : ∃ b, v = .ref b ∧ W.H b = some (.tup ((keyP q).map kV)) := by
  obtain ⟨b, e, h⟩ := h
  exact ⟨b, e, by rw [keyP_kV]; exact W.ex _ _ h⟩
/-- {} -/
theorem s_newD {i : Nat} (k : ∀ l W1, Same W.B W1.B → Le W W1 → Fre W l → LocD K W1 l [] → D.nx (σ.set i (some (.ref l))) W1.H) : tAsg tDNewT (gName i) D σ W.H :=
  fun p hp => k p (W.loc p (.dT []) hp) (Same.refl _) (W.loc_le hp) (Wd.fre hp) ⟨W.bfree hp, (Wd.fre hp).nr, [], upd_same, True.intro⟩
theorem q_newD {i : Nat} (k : ∀ l W1, Same W.B W1.B → Le W W1 → Fre W l → LocD K W1 l [] → tz D (σ.set i (some (.ref l))) W1.H) : tSeq (tAsg tDNewT (gName i)) tz D σ W.H := s_newD (D := { D with nx := tz D }) k
/-- d[q], d done -/
theorem ev_dget (hd : Ev td σ W (dctR K d)) (hq : Ev ty σ W (prod q)) (e : valD d q = some n) : Ev (tDGet td ty) σ W (num K n) := fun W1 l1 Q k =>
  hd W1 l1 _ fun x W2 l2 ⟨a, ob, kvs, ex, h1, h2⟩ => hq W2 (l1.trans l2) _ fun y W3 l3 hy => by
    obtain ⟨b, rfl, hb⟩ := prod_at hy
    rcases (h2.mono l3.b).val (q := q) with ⟨z, _⟩ | ⟨n', v, z, hv, hn⟩
    · rw [e] at z; cases z
    · rw [e] at z
      cases z
      exact ⟨a, v, ex, .inr ⟨kvs, keyP q, b, .inr ⟨ob, W3.ex _ _ (l3.b _ _ h1)⟩, rfl, hb, hv.symm⟩, k v W3 (l2.trans l3) hn⟩
/-- d.get(q, x), d being made -/
theorem ev_dget2 {i : Nat} (hi : σ[i]? = some (some (.ref l))) (L : LocD K W l d) (hq : Ev ty σ W (prod q)) (hx : Ev tx σ W (num K dn)) : Ev (tDGet2 (tVar i) ty tx) σ W (num K ((valD d q).getD dn)) := fun W1 l1 Q k => by
  refine ⟨_, hi, l, rfl, ?_, ?_⟩
  · obtain ⟨b, r, kvs, h1, h2⟩ := L.le l1
    exact .inr ⟨kvs, .inl h1⟩
  · refine hq W1 l1 _ fun y W2 l2 hy => hx W2 (l1.trans l2) _ fun z W3 l3 hz => ?_
    obtain ⟨b, r, kvs, h1, h2⟩ := L.le ((l1.trans l2).trans l3)
    obtain ⟨b', rfl, hb⟩ := prod_at ((prod q).mono l3.b hy)
    refine ⟨_, .inr ⟨kvs, keyP q, b', .inl h1, rfl, hb, rfl⟩, ?_⟩
    rcases h2.val (q := q) with ⟨z1, z2⟩ | ⟨n', v, z1, z2, hn⟩
    · rw [z2]
      refine k _ W3 (l2.trans l3) ?_
      rw [z1]; exact hz
    · rw [z2]
      refine k _ W3 (l2.trans l3) ?_
      rw [z1]; exact hn
theorem LocD.put (L : LocD K W l d) {v : V} (hv : (num K n).p W.B v) (hz : d.length < 100000) : ∃ (kvs : List (List L2.Key × V)) (W1 : Wd), W.H l = some (.dT kvs) ∧ kvs.length < sizeLine ∧ W1.H = upd W.H l (.dT (putK kvs (keyP q) v)) ∧ Up l W W1 ∧ LocD K W1 l (putD d q n) := by
  obtain ⟨b, r, kvs, h1, h2⟩ := L
  exact ⟨kvs, W.mut l (.dT (putK kvs (keyP q) v)) b r ⟨_, h1, nl_dT⟩, h1, by rw [h2.len]; exact Nat.lt_trans hz (by decide), rfl, W.mut_up b r ⟨_, h1, nl_dT⟩, ⟨b, r, _, upd_same, h2.put hv⟩⟩
/-- d[q] = v, d being made -/
theorem s_dput {i : Nat} (hi : σ[i]? = some (some (.ref l))) (L : LocD K W l d) (hv : Ev tv σ W (num K n)) (hq : Ev ty σ W (prod q)) (hz : d.length < 100000) (k : ∀ W1, Up l W W1 → LocD K W1 l (putD d q n) → D.nx σ W1.H) : sDPut (tVar i) ty tv D σ W.H :=
  hv W (Le.refl _) _ fun v W1 l1 hv1 => ⟨_, hi, hq W1 l1 _ fun y W2 l2 hy => by
    obtain ⟨b', rfl, hb⟩ := prod_at hy
    obtain ⟨kvs, W3, h1, h2, h3, h4, h5⟩ := (L.le (l1.trans l2)).put (q := q) ((num K n).mono l2.b hv1) hz
    exact ⟨l, _, rfl, .inr ⟨kvs, keyP q, b', h1, rfl, hb, h2, rfl⟩, by rw [← h3]; exact k W3 ((l1.trans l2).up.trans h4) h5⟩⟩
theorem q_dput {i : Nat} (hi : σ[i]? = some (some (.ref l))) (L : LocD K W l d) (hv : Ev tv σ W (num K n)) (hq : Ev ty σ W (prod q)) (hz : d.length < 100000) (k : ∀ W1, Up l W W1 → LocD K W1 l (putD d q n) → tz D σ W1.H) : tSeq (sDPut (tVar i) ty tv) tz D σ W.H := s_dput (D := { D with nx := tz D }) hi L hv hq hz k
/-- the dict is done -/
theorem s_frz {ts : TS} (L : LocD K W l d) (k : ∀ W1, Up l W W1 → (dctR K d).p W1.B (.ref l) → ts D σ W1.H) : tFrz ts D σ W.H := by
  obtain ⟨b, r, kvs, h1, h2⟩ := L
  refine ⟨l, _, h1, True.intro, fun od => ?_⟩
  have u1 := W.mut_up (o := .frz od (.dT kvs)) b r ⟨_, h1, nl_dT⟩
  have e : (W.mut l (.frz od (.dT kvs)) b r ⟨_, h1, nl_dT⟩).H l = some (.frz od (.dT kvs)) := upd_same
  have u2 := Wd.frz_up e r b
  exact k ((W.mut l (.frz od (.dT kvs)) b r ⟨_, h1, nl_dT⟩).frz l _ e r) (u1.trans u2) ⟨l, od, kvs, rfl, upd_same, h2.mono u2.b⟩
theorem q_frz {ts : TS} (L : LocD K W l d) (k : ∀ W1, Up l W W1 → (dctR K d).p W1.B (.ref l) → tSeq ts tz D σ W1.H) : tSeq (tFrz ts) tz D σ W.H := s_frz (D := { D with nx := tz D }) L k
theorem ev_lenD (h : Ev ta σ W (dctR K d)) : Ev (tCB rLenF (tCons ta tNil)) σ W (int (d.length : Int)) := fun W1 l1 Q k =>
  h W1 l1 _ fun v W2 l2 ⟨a, ob, kvs, ex, h1, h2⟩ => ⟨a, kvs, by rw [ex], .inr ⟨ob, W2.ex _ _ h1⟩, k _ W2 l2 (by rw [h2.len]; rfl)⟩
theorem ev_isiD (h : Ev ta σ W (dctR K d)) : Ev (tCB rIsiF (tCons ta (tCons (tC (.ty "dict")) tNil))) σ W (bl true) := fun W1 l1 Q k =>
  h W1 l1 _ fun v W2 l2 ⟨a, ob, kvs, ex, h1, h2⟩ => ⟨a, kvs, by rw [ex], .inr ⟨ob, W2.ex _ _ h1⟩, k _ W2 l2 rfl⟩
theorem it_keys (h : Ev td σ W (dctR K d)) : ItW (iKeys td) σ W (d.map fun t => prod t.1) := fun W1 l1 R k => h W1 l1 _ fun x W2 l2 ⟨a, ob, kvs, ex, h1, h2⟩ => by
  refine ⟨a, ob, ex, .inr ⟨kvs, W2.ex _ _ h1, k _ W2 l2 (it_mk (walk_keysT (kvs := kvs)) (by rw [List.length_map, h2.len]) (fun W3 s => W3.ex _ _ (s _ _ h1)) fun i r x W3 H' hi s y => ?_)⟩⟩
  obtain ⟨rfl, kk, v, qa, e1, rfl, e2⟩ := y
  obtain ⟨t, h3, h4, h5⟩ := h2.get e1
  rw [List.getElem?_map, h3] at hi
  have e : prod t.1 = r := Option.some.inj hi
  subst e
  obtain ⟨W4, e4, l4, h6⟩ := W3.see e2
  exact ⟨W4, e4, l4, qa, rfl, by rw [h6, show kk = keyP t.1 from h4, keyP_kV]⟩
def term (K : PySem.W.Frag) (t : List Int × Num) : Rp := tupR K [prod t.1, num K t.2]
theorem it_items (h : Ev td σ W (dctR K d)) : ItW (iItemsT td) σ W (d.map (term K)) := fun W1 l1 R k => h W1 l1 _ fun x W2 l2 ⟨a, ob, kvs, ex, h1, h2⟩ => by
  refine ⟨a, ob, kvs, ex, W2.ex _ _ h1, k _ W2 l2 (it_mk (walk_itemsT (kvs := kvs)) (by rw [List.length_map, h2.len]) (fun W3 s => W3.ex _ _ (s _ _ h1)) fun i r x W3 H' hi s y => ?_)⟩
  obtain ⟨T, qa, kk, v, e1, e2, rfl, hT, rfl⟩ := y
  obtain ⟨t, h3, h4, h5⟩ := (h2.mono s).get e1
  rw [List.getElem?_map, h3] at hi
  have e : term K t = r := Option.some.inj hi
  subst e
  obtain ⟨W4, e4, l4, h6⟩ := W3.see e2
  have hT4 : W4.H T = none := by rw [e4]; exact hT
  have l5 := W4.mk_le (o := .tup [.ref qa, v]) hT4
  exact ⟨W4.mk' T _ hT4, by rw [← e4]; rfl, l4.trans l5, T, [.ref qa, v], rfl, .inl (.inl upd_same), ⟨qa, rfl, l5.b _ _ (by rw [h6, show kk = keyP t.1 from h4, keyP_kV])⟩, (num K t.2).mono (l4.b.trans l5.b) h5, True.intro⟩
end
end Fs

set_option Elab.async false
set_option linter.all false
set_option maxRecDepth 100000
set_option maxHeartbeats 2000000
namespace Fs
open PySem PySem.Spec PyProof.Rows L2 C8
/-! ### sorted(xs), xs plain data -/
theorem each_rel {β : Type} : ∀ {xs : List V} {us : List Value} {ds : List β}, Vals xs us → xs.length = ds.length → PySem.W.EachIs (fun (v : Value) (b : V × β) => RelV b.1 v) us (xs.zip ds)
  | [], [], [], _, _ => .nil
  | x :: xs, u :: us, d :: ds, h, e => by
    cases h with
    | cons h1 h2 => exact .cons h1 (each_rel h2 (by simpa using e))
  | [], _ :: _, _, h, _ => by cases h
  | _ :: _, [], _, h, _ => by cases h
  | [], [], _ :: _, _, e => by simp at e
  | _ :: _, _ :: _, [], _, e => by simp at e
theorem each_back {β : Type} : ∀ {us : List Value} {bs : List (V × β)}, PySem.W.EachIs (fun (v : Value) (b : V × β) => RelV b.1 v) us bs → Vals (bs.map (·.1)) us
  | _, _, .nil => .nil
  | _, _, .cons h t => .cons h (each_back t)
theorem each_mono' {α β : Type} {R S : α → β → Prop} : ∀ {as : List α} {bs : List β}, PySem.W.EachIs R as bs → (∀ a b, b ∈ bs → R a b → S a b) → PySem.W.EachIs S as bs
  | _, _, .nil, _ => .nil
  | _, _, .cons h t, f => .cons (f _ _ (List.mem_cons_self ..) h) (each_mono' t fun a b hb => f a b (List.mem_cons_of_mem _ hb))
theorem dp_zip {K : PySem.W.Frag} {H : Hp} : ∀ {xs : List V} {ds : List PyData}, DpAll K H xs ds → xs.length = ds.length ∧ ∀ b ∈ xs.zip ds, Dp K H b.1 b.2
  | [], [], _ => ⟨rfl, fun b h => by simp at h⟩
  | x :: xs, d :: ds, .cons h t => by
    obtain ⟨h1, h2⟩ := dp_zip t
    refine ⟨by simp [h1], fun b hb => ?_⟩
    rw [List.zip_cons_cons] at hb
    rcases List.mem_cons.mp hb with rfl | hb
    · exact h
    · exact h2 b hb
abbrev dLe : V × PyData → V × PyData → Bool := PySem.W.dataLe false fun b : V × PyData => b.2
def rSortD (K : PySem.W.Frag) : List V → Hp → VK → Prop := fun vs H Q => ∃ (a : Addr) (xs : List V) (ds : List PyData), vs = [.ref a] ∧ SqL K H a xs ∧ DpAll K H xs ds ∧ PySem.W.AllAlike ds ∧ PySem.W.Sortable ds ∧ (∀ d ∈ ds, d.depth ≤ 60) ∧ xs.length ≤ 100000 ∧
  ∀ p, H p = none → Q (.ref p) (upd H p (.lst (((xs.zip ds).mergeSort dLe).map (·.1))))
section
variable {X : Cx}
theorem zip_snd {xs : List V} {ds : List PyData} (e : xs.length = ds.length) : (xs.zip ds).map (fun b => b.2) = ds := List.map_snd_zip (by omega)
theorem cr_sortD (hu : X.A.units + 64 < cLine) : CallR X (.builtin "sorted") (rSortD X.K) := by
  intro pins s σ H vs us Q I r h
  obtain ⟨a, xs, ds, rfl, hs, hd, hal, hk, hdep, hz, q⟩ := h
  obtain rfl := Vals.ref1 r
  obtain ⟨its, rv, hl, hz2⟩ := I.list hs
  obtain ⟨hlen, hdp⟩ := dp_zip hd
  have el : (xs.zip ds).length = xs.length := by rw [List.length_zip]; omega
  have e1 := each_rel rv hlen
  refine PySem.W.sorted_data (bs := xs.zip ds) (enc := fun b => b.2) (R := fun v b => RelV b.1 v) hl.isList e1 (each_mono' e1 fun v b hb hr => Dp.reads I b.2 b.1 v (hdp b hb) hr) (by rw [zip_snd hlen]; exact hal) (by rw [zip_snd hlen]; exact hk) (by rw [el]; exact Nat.le_trans hz (by decide)) (fun b hb => ?_) fun out ho he => ?_
  · have := hdep b.2 (List.of_mem_zip hb).2
    omega
  · obtain ⟨ep, he'⟩ := PyProof.Rows.sortedAll_at s.heap its (List.toArray out)
    have hv := each_back he
    have hl3 : (((xs.zip ds).mergeSort dLe).map (·.1)).length ≤ sizeLine := by
      rw [List.length_map, List.length_mergeSort, el]; exact Nat.le_trans hz (by decide)
    exact ⟨.ref _, upd H (s.heap.objs.size + 1) (.lst (((xs.zip ds).mergeSort dLe).map (·.1))), I.laid (t' := s.toks) (fun _ _ => PyProof.Rows.sortedAll_old) (Nat.le_succ _) ⟨hl3, out, ep, hv, he'⟩, rfl, q _ (I.hok.fresh (Nat.le_succ _))⟩
end
/-! ### sorted(rows, key=lambda row: (len(row[0]), row[0])) -/
section
variable {prog : Program} {w : World} {A : Around} {E : Value → Shared → Prop} {s : Shared} {mg mb : Str → Option Value}
/-- row[0] -/
theorem ev_row0 {env : Env} {a : Addr} {its : Array Value} {x : Value} {p2 p3 p4 : Pos} {j : Nat} {m : Str → Option Value} {Q : Value → Shared → Prop} (hk : env.scope.kind = .function) (hl : env.kindOf "row" = some .local) (hn : s.heap.Ns env.locals m) (hm : m "row" = some (.ref a))
    (ht : IsTup s.heap a its) (hx : its[0]? = some x) (hz : 0 < its.size) (h : ∀ tk, Q x { s with toks := tk }) : wpAny (model prog w) A (eval (.Subscript (.Name "row" p2) (.Constant (.int 0) j p3) p4) env) Q E s := by
  refine Subscript_ (wpAny_Name (wpAny_loadName_local hk hl hn hm (wpAny_Constant_int ?_)))
  refine subscriptTail_builtinR (x := x) (IsTup.typeIs ht) slot_tuple_getitem.lookup (getItem_tuple (j := 0) (Q := fun r s' => r = x ∧ Q r s') ht (by decide) (by decide) ?_ hx ⟨rfl, h _⟩)
  unfold seqIndex?
  simp [hz]
theorem lam_body {env : Env} {a b : Addr} {its jts : Array Value} {p1 p2 p3 p4 p5 p6 p7 p8 pos : Pos} {j1 j2 x1 : Nat} {m : Str → Option Value} {Q : Value → Shared → Prop} (hk : env.scope.kind = .function) (hl : env.kindOf "row" = some .local) (hg : env.kindOf "len" = some .globalImplicit) (hge : env.globals = mainGlobals) (hbe : env.builtins = builtinsNs)
    (hn : s.heap.Ns env.locals m) (hm : m "row" = some (.ref a)) (hG : s.heap.Ns mainGlobals mg) (hlen : mg "len" = none) (hB : s.heap.Ns builtinsNs mb) (hB2 : mb "len" = some (.builtin "len"))
    (ht : IsTup s.heap a its) (hx : its[0]? = some (.ref b)) (hz : 0 < its.size) (hb : IsTup s.heap b jts) (hjz : jts.size ≤ sizeLine)
    (h : ∀ t tk (h2 : Heap), (∀ c o, s.heap.get? c = some o → h2.get? c = some o) → h2.get? s.heap.objs.size = some { cls := .type "tuple", data := .seq #[.int jts.size t, .ref b] } → Q (.ref s.heap.objs.size) { s with heap := h2, toks := tk }) :
    wpAny (model prog w) A (eval (.Tuple [.Call (.Name "len" p1) [.Subscript (.Name "row" p2) (.Constant (.int 0) j1 p3) p4] [] p5, .Subscript (.Name "row" p6) (.Constant (.int 0) j2 p7) p8] x1 pos) env) Q E s := by
  refine wpAny_Tuple_spliced ?_
  show wpAny _ _ (spliced [(false, eval (.Call (.Name "len" p1) [.Subscript (.Name "row" p2) (.Constant (.int 0) j1 p3) p4] [] p5) env), (false, eval (.Subscript (.Name "row" p6) (.Constant (.int 0) j2 p7) p8) env)]) _ _ s
  refine Calls.spliced_cons (wpAny_Call_Name_kw (Calls.Name_function_global hk hg (Calls.loadGlobal_builtin (by rw [hge]; exact hG) hlen (by rw [hbe]; exact hB) hB2 ?_)))
  refine PyProof.Rows.callWith_builtin1 ?_
  show wpAny _ _ (spliced [(false, eval (.Subscript (.Name "row" p2) (.Constant (.int 0) j1 p3) p4) env)]) _ _ s
  have hn63 := L2.line63
  refine Calls.spliced_cons (ev_row0 hk hl hn hm ht hx hz fun tk => Calls.spliced_nil ?_)
  refine len_tuple (s := { s with toks := tk }) hb (by omega) ?_
  refine Calls.spliced_cons (ev_row0 (s := { s with toks := tk + 1 + 1 }) hk hl hn hm ht hx hz fun tk2 => Calls.spliced_nil ⟨by show 2 ≤ sizeLine; decide, ?_⟩)
  exact h _ _ _ (fun c o e => Heap.get?_push_of_some _ e) (Heap.get?_push_size _ rfl)
end
/-! the lambda, called -/
def lamPar (p : Pos) : Arguments := { posonlyargs := [], args := [{ arg := Str.ofString "row", annotation := none, pos := p }], vararg := none, kwonlyargs := [], kw_defaults := [], kwarg := none, defaults := [] }
def lamSc : Scope := { kind := .function, names := [(Str.ofString "row", .local), (Str.ofString "len", .globalImplicit)], isGenerator := false, isCoroutine := false }
def lamB (p1 p2 p3 p4 p5 p6 p7 p8 pos : Pos) : Expr := .Tuple [.Call (.Name "len" p1) [.Subscript (.Name "row" p2) (.Constant (.int 0) 0 p3) p4] [] p5, .Subscript (.Name "row" p6) (.Constant (.int 0) 0 p7) p8] 0 pos
/-- the key of a row with the product q -/
def keyD (q : List Int) : PyData := .tuple [.int (q.length : Int), .tuple (q.map .int)]
section
variable {prog : Program} {w : World} {A : Around} {s : Shared} {mg mb : Str → Option Value}
theorem lam_call {f c' a b : Addr} {q : Str} {pp p1 p2 p3 p4 p5 p6 p7 p8 pos : Pos} {pm ctv : Value} {its jts : Array Value} {ps : List Int} (hroom : A.depth < recursionLimit) (hf : s.heap.get? f = some (PySem.W.kla_obj "<lambda>" q (lamPar pp) (lamB p1 p2 p3 p4 p5 p6 p7 p8 pos) lamSc [] pm c' ctv))
    (hc : s.heap.CodeRec (.ref c') q) (hG : s.heap.Ns mainGlobals mg) (hlen : mg "len" = none) (hB : s.heap.Ns builtinsNs mb) (hB2 : mb "len" = some (.builtin "len")) (hlim : s.heap.NoLimit)
    (ht : IsTup s.heap a its) (hx : its[0]? = some (.ref b)) (hz : 0 < its.size) (hb : IsTup s.heap b jts) (hjz : jts.size ≤ sizeLine) (hi : IntsAre jts.toList ps) :
    wpAny (model prog w) A (call (.ref f) [.ref a]) (PySem.W.KeyPure (keyD ps) s) (fun _ _ => False) s := by
  refine wpAny_call (PySem.W.kla_callFunE hroom hf rfl rfl rfl rfl hc ?_)
  refine wpAny_of_eq (a := [(Str.ofString "row", Value.ref a)]) (by rfl) ?_
  refine wpAny_newFunctionEnv (by show ∀ x ∈ lamSc.names, x.2 ≠ .cell; decide) (fun y hy => by
    have e : y = (Str.ofString "row", Value.ref a) := by simpa using hy
    rw [e]; rfl) (fun h₁ hns hsb => ⟨hlim.fresh _ hsb, ?_⟩) rfl
  have kp : ∀ b o, s.heap.get? b = some o → h₁.get? b = some o := fun b o e => hsb.extBut b o (Nat.ne_of_lt (Heap.lt_size e)) (Heap.get?_push_of_some _ e)
  refine PySem.W.kla_codeExpr ?_
  refine lam_body (a := a) (b := b) (its := its) (jts := jts) (mg := mg) (mb := mb) rfl rfl rfl rfl rfl hns rfl (hG.keeps kp) hlen (hB.keeps kp) hB2 (ht.keeps kp) hx hz (hb.keeps kp) hjz fun t tk h2 k2 e2 => ?_
  refine ⟨h2, tk, rfl, fun c o e => k2 c o (kp c o e), ?_⟩
  obtain ⟨o, ho, hcl, n, hd⟩ := hb.keeps kp
  have hl : jts.size = ps.length := by have := hi.length; simpa using this
  refine Reads.tuple (as := []) e2 rfl rfl ?_
  rw [hl]
  refine ReadsAll.cons (as := []) (bs := []) (.int _ _) (ReadsAll.cons (as := []) (bs := []) (.tuple (k2 _ _ ho) hcl hd ?_) .nil)
  exact hi.reads _
end
/-- sorted(rows, key=lambda ..): the rows xs with the products qs -/
def tSortLam (K : PySem.W.Frag) (T : List (Addr × Str)) (tl : TE) : TE := fun σ H Q => tl σ H fun x H1 => LamX.Tabs T H1 ∧ ∃ (a : Addr) (xs : List V) (qs : List (List Int)), x = .ref a ∧ SqL K H1 a xs ∧ xs.length = qs.length ∧ xs.length ≤ 100000 ∧
  (∀ b ∈ xs.zip qs, ∃ (r : Addr) (ys : List V) (p : Addr), b.1 = .ref r ∧ SqT K H1 r ys ∧ ys[0]? = some (.ref p) ∧ H1 p = some (.tup (b.2.map V.int))) ∧
  ∀ H2, LamX.ExtN H1 H2 → LamX.Tabs T H2 → ∀ p, H2 p = none → Q (.ref p) (upd H2 p (.lst (((xs.zip qs).mergeSort (PySem.W.dataLe false fun b : V × List Int => keyD b.2)).map (·.1))))
theorem keyD_alike (q r : List Int) : PySem.W.alike (keyD q) (keyD r) = true := by
  have h := PySem.W.alike_ints q r
  simp [keyD, PySem.W.alike, PySem.W.alikeAll, h]
theorem keyD_depth (q : List Int) : (keyD q).depth ≤ 2 := by
  have h := PySem.W.depth_ints q
  simp [keyD, PyData.depth, PyData.depthAll, h]
section
variable {X : Cx} {T : List (Addr × Str)} {c P : Addr} {k : Nat}
theorem pe_sortLam {e : Expr} {tl : TE} {p pos lpos kpos pp p1 p2 p3 p4 p5 p6 p7 p8 pb : Pos} (hr : Room (k + 2) X.A) (he : PE X e tl) (hg : Gl X "sorted") (hm : X.mg "sorted" = none) (hlen : X.mg "len" = none) (TB : LamX.TabB X.base X.mg c P) (hcode : X.env.code = .ref c)
    (hmT : (P, X.env.qual ++ "<lambda>") ∈ T) (hu : ∀ p ∈ T, p.1 = P → p.2 = X.env.qual ++ "<lambda>")
    (hs : backTo pos (starEach [e] X.env) = [(false, eval e X.env)] := by rfl)
    (hall : (backToKw pos (keywordEach [⟨some "key", .Lambda (lamPar pp) (lamB p1 p2 p3 p4 p5 p6 p7 p8 pb) lamSc lpos, kpos⟩] X.env)).all (·.1.isSome) = true := by rfl)
    (hnone : (backToKw pos (keywordEach [⟨some "key", .Lambda (lamPar pp) (lamB p1 p2 p3 p4 p5 p6 p7 p8 pb) lamSc lpos, kpos⟩] X.env)).any (·.1.isNone) = false := by rfl) :
    PE X (.Call (.Name "sorted" p) [e] [⟨some "key", .Lambda (lamPar pp) (lamB p1 p2 p3 p4 p5 p6 p7 p8 pb) lamSc lpos, kpos⟩] pos) (tSortLam X.K T tl) := by
  refine ⟨fun pins s σ H Q I h => ?_⟩
  refine wpAny_Call_Name_kw (ld_blt I hg hm (u := .builtin "sorted") (by decide +kernel) ?_)
  refine PyProof.Rows.callWith_kw ?_ hs (by rw [hs]; rfl) hall hnone
  rw [hs]
  refine Calls.spliced_cons (thn (he.run pins s σ H _ I h) fun u s1 ⟨x, H1, I1, r1, q1⟩ => Calls.spliced_nil ?_)
  obtain ⟨hT, a, xs, qs, ex, hs1, hlq, hz, hrow, q⟩ := q1
  subst ex
  obtain rfl : u = Value.ref a := r1
  show wpAny _ _ (evalAll [(do let v ← eval (.Lambda (lamPar pp) (lamB p1 p2 p3 p4 p5 p6 p7 p8 pb) lamSc lpos) X.env; standAt pos; pure v)]) _ _ s1
  refine wpAny_evalAll_cons (wpAny_bind (LamX.lam_make2 I1 TB hcode hmT hu hT (by rfl) (fun y hy z => absurd z ((by decide : ∀ y ∈ lamSc.names, y.2 ≠ NameKind.free) y hy)) fun f c' pm ctv H2 s2 I2 eN T2 hf hfn hfr hco => wpAny_bind (wpAny_standAt (wpAny_pure (wpAny_evalAll_nil ?_)))))
  show wpAny _ _ (call (.builtin "sorted") [.ref a] [(Str.ofString "key", .ref f)]) _ _ s2
  have hcl : cloFrom X.env.cells lamSc.names [] = [] := by rfl
  rw [hcl] at hf
  obtain ⟨⟨oc, vs, t, hoc, hdc, hvc⟩, _, _⟩ := I2.hok c' _ hco
  have hs2 : SqL X.K H2 a xs := by
    rcases hs1 with (h1 | ⟨o, h1⟩) | h1
    · exact .inl (.inl (eN _ _ h1 nb_lst))
    · exact .inl (.inr ⟨o, eN _ _ h1 fun _ z => nomatch z⟩)
    · exact .inr h1
  obtain ⟨its, rv, hl, hz2⟩ := I2.list hs2
  have e1 := each_rel rv hlq
  have el : (xs.zip qs).length = xs.length := by rw [List.length_zip]; omega
  obtain ⟨mb, hB1, hB2⟩ := I2.ok.mod.blt
  refine PySem.W.sorted_key_data (b := false) (bs := xs.zip qs) (R := fun v b => RelV b.1 v) (fun b => keyD b.2) hl.isList e1 (PySem.W.AllAlike.of (enc := fun b : V × List Int => keyD b.2) fun b b' => keyD_alike _ _) (PySem.W.Sortable.tuples fun b => ⟨_, _, rfl⟩) (by rw [el]; exact Nat.le_trans hz (by decide)) (fun b hb => ?_)
    (PyProof.Rows.ksk_s1 _ _) (fun x => PyProof.Rows.ksk_l1 _ _) (fun x => PyProof.Rows.ksk_t1 _ _) (fun v b hR hb h tk kp => ?_) fun out ep h' tk kp fr ho _ heach => ?_
  · have := hr.un
    have := keyD_depth b.2
    omega
  · obtain ⟨r, ys, p', e3, h3, h4, h5⟩ := hrow b hb
    have hv : v = Value.ref r := by rw [e3] at hR; exact hR
    subst hv
    have h3' : SqT X.K H2 r ys := by
      rcases h3 with (h1 | ⟨o, h1⟩) | h1
      · exact .inl (.inl (eN _ _ h1 nb_tup))
      · exact .inl (.inr ⟨o, eN _ _ h1 fun _ z => nomatch z⟩)
      · exact .inr h1
    obtain ⟨jts, rv2, pt, hz3⟩ := I2.tuple h3'
    obtain ⟨w0, hw0, rw0⟩ := rv2.get h4
    cases (show w0 = Value.ref p' from rw0)
    obtain ⟨hz4, kts, rv3, pt3⟩ := (show ObjOk X.prog X.w H2 s2.heap p' (.tup (b.2.map V.int)) from I2.hok p' _ (eN _ _ h5 nb_tup))
    have hj0 : 0 < jts.toArray.size := by
      have := (List.getElem?_eq_some_iff.mp hw0).1
      simpa using this
    refine lam_call (mb := mb) (s := { s2 with heap := h, toks := tk }) (its := jts.toArray) (jts := kts.toArray) (mg := X.mg) (show X.A.depth < recursionLimit from hr.depth) (kp _ _ hf) ⟨c', oc, vs, t, rfl, kp _ _ hoc, hdc, hvc⟩ ((I2.mod.glob.keeps I2.bk).keeps kp) hlen ((hB1.keeps I2.bk).keeps kp) ((hB2 "len" (by decide)).trans (by decide +kernel)) (I2.nolimit.keeps kp)
      (IsTup.keeps pt kp) (by simpa using hw0) hj0 (IsTup.keeps pt3 kp) ?_ ?_
    · have := rv3.length
      rw [List.length_map] at this hz4
      rw [List.size_toArray, ← this]; exact hz4
    · exact ints_of_vals rv3
  · have hv := each_back heach
    have hl3 : (((xs.zip qs).mergeSort (PySem.W.dataLe false fun b : V × List Int => keyD b.2)).map (·.1)).length ≤ sizeLine := by
      rw [List.length_map, List.length_mergeSort, el]; exact Nat.le_trans hz (by decide)
    exact ⟨.ref _, upd H2 (s2.heap.objs.size + 1) (.lst (((xs.zip qs).mergeSort (PySem.W.dataLe false fun b : V × List Int => keyD b.2)).map (·.1))), I2.laid (t' := tk) kp (Nat.le_succ _) ⟨hl3, out, ep, hv, ho⟩, rfl, q H2 eN T2 _ (I2.hok.fresh (Nat.le_succ _))⟩
end
end Fs

set_option Elab.async false
set_option linter.all false
set_option maxRecDepth 100000
set_option maxHeartbeats 2000000
/-! zip(a, b, strict=True) of two lists of one length -/
namespace Fz
open PySem PySem.Spec PyProof.Rows
abbrev KwS : List (Str × Value) := [(Str.ofString "strict", .bool true)]
theorem ztc (a b : Value) : checkTypeCall "zip" ⟨[a, b], KwS⟩ = pure () := by kernel_rfl
theorem znc (a b : Value) : checkBuiltinCall "zip.__new__" ⟨[.type "zip", a, b], KwS⟩ = pure () := by kernel_rfl
theorem zin (o a b : Value) : argsOk "object.__init__" ⟨[o, a, b], KwS⟩ := by unfold argsOk; kernel_rfl
def zO (f0 : Value) (T U : Addr) : Obj := { cls := .type "zip", dict := none, data := .fields #[f0, .bool false, .bool true, .ref T, .ref U], slots := #[] }
abbrev Pr (h : Heap) (T : Addr) (a b : Value) : Prop := h.get? T = some { cls := .type "tuple", data := .seq #[a, b] }
abbrev q1 (h : Heap) (l : Addr) : Heap := h.push { cls := .type "list_iterator", data := .fields #[.ref l, .int 0 0] }
abbrev q3 (h : Heap) (l m : Addr) : Heap := (q1 (q1 h l) m).push { cls := .type "tuple", data := .seq #[.ref h.objs.size, .ref (q1 h l).objs.size] }
abbrev q4 (h : Heap) (l m : Addr) : Heap := (q3 h l m).push { cls := .type "tuple", data := .seq #[.none, .none] }
abbrev q5 (h : Heap) (l m : Addr) : Heap := (q4 h l m).push (zO .none (q1 (q1 h l) m).objs.size (q3 h l m).objs.size)
theorem zmeets (l m : Addr) (xs ys : Array Value) : Meets (Builtin.«zip.__new__» ⟨[.type "zip", .ref l, .ref m], KwS⟩) (fun _ R s => s.heap.IsList l xs ∧ s.heap.IsList m ys ∧ R (.ok (.ret (.ref (q4 s.heap l m).objs.size))) { s with heap := q5 s.heap l m }) :=
  .of_wp fun prog w A R s h => by
    obtain ⟨hp, g, d, tk, os⟩ := s
    obtain ⟨a1, a2, h⟩ := h
    have hs0 := sub_zip
    have b1 : Heap.IsList (Shared.heap ⟨hp, g, d, tk, os⟩) l xs := a1
    have b2 : Heap.IsList (Shared.heap ⟨q1 hp l, g, d, tk, os⟩) m ys := Heap.IsList.push a2 _
    wp_walk using wpAny_pyIter_list b1, wpAny_pyIter_list b2
    exact ⟨_, rfl, h⟩
section
variable {prog : Program} {w : World} {A : Around} {E : Value → Shared → Prop} {s : Shared}
theorem zcall {l m : Addr} {xs ys : Array Value} {Q : Value → Shared → Prop} (a1 : s.heap.IsList l xs) (a2 : s.heap.IsList m ys)
    (h : ∀ h', h'.get? (s.heap.objs.size + 4) = some (zO .none (s.heap.objs.size + 2) (s.heap.objs.size + 3)) → Pr h' (s.heap.objs.size + 2) (.ref s.heap.objs.size) (.ref (s.heap.objs.size + 1)) → Pr h' (s.heap.objs.size + 3) .none .none →
      h'.IsListIter s.heap.objs.size l 0 → h'.IsListIter (s.heap.objs.size + 1) m 0 → (∀ c o, s.heap.get? c = some o → h'.get? c = some o) → Q (.ref (s.heap.objs.size + 4)) { s with heap := h' }) :
    wpAny (model prog w) A (call (.type "zip") [.ref l, .ref m] KwS) Q E s := by
  refine callType_newKw F.called_zip (by decide) (ztc _ _) (znc _ _) (fun obj => zin obj _ _) F.entry_zip_new (zmeets l m xs ys) ⟨a1, a2, ?_⟩
  have e1 : (q1 s.heap l).objs.size = s.heap.objs.size + 1 := Heap.size_push ..
  have e2 : (q1 (q1 s.heap l) m).objs.size = s.heap.objs.size + 2 := by rw [Heap.size_push, e1]
  have e3 : (q3 s.heap l m).objs.size = s.heap.objs.size + 3 := by rw [Heap.size_push, e2]
  have e4 : (q4 s.heap l m).objs.size = s.heap.objs.size + 4 := by rw [Heap.size_push, e3]
  have up4 : ∀ c o, (q4 s.heap l m).get? c = some o → (q5 s.heap l m).get? c = some o := fun c o e => Heap.get?_push_of_some _ e
  have up3 : ∀ c o, (q3 s.heap l m).get? c = some o → (q5 s.heap l m).get? c = some o := fun c o e => up4 c o (Heap.get?_push_of_some _ e)
  have up2 : ∀ c o, (q1 (q1 s.heap l) m).get? c = some o → (q5 s.heap l m).get? c = some o := fun c o e => up3 c o (Heap.get?_push_of_some _ e)
  have up1 : ∀ c o, (q1 s.heap l).get? c = some o → (q5 s.heap l m).get? c = some o := fun c o e => up2 c o (Heap.get?_push_of_some _ e)
  have k5 : (q5 s.heap l m).get? (q4 s.heap l m).objs.size = some _ := Heap.get?_push_size _ rfl
  have k4 : (q5 s.heap l m).get? (q3 s.heap l m).objs.size = some _ := up4 _ _ (Heap.get?_push_size _ rfl)
  have k3 : (q5 s.heap l m).get? (q1 (q1 s.heap l) m).objs.size = some _ := up3 _ _ (Heap.get?_push_size _ rfl)
  have k2 : (q5 s.heap l m).get? (q1 s.heap l).objs.size = some _ := up2 _ _ (Heap.get?_push_size _ rfl)
  have k1 : (q5 s.heap l m).get? s.heap.objs.size = some _ := up1 _ _ (Heap.get?_push_size _ rfl)
  show _ ∧ _
  rw [e2, e3, e4] at k5
  rw [e1, e2] at k3
  rw [e3] at k4
  rw [e1] at k2
  rw [e4]
  exact ⟨⟨_, k5, rfl⟩, h _ k5 k3 k4 ⟨_, k1, rfl, rfl⟩ ⟨_, k2, rfl, rfl⟩ fun c o x => up1 c o (Heap.get?_push_of_some _ x)⟩
/-- nextOrEnd of a list's iterator -/
theorem noe_item {it l : Addr} {i : Nat} {xs : Array Value} {x : Value} {Q : Option Value → Shared → Prop} (a : s.heap.IsListIter it l i) (b : s.heap.IsList l xs) (e : xs[i]? = some x)
    (h : ∀ h', h'.IsListIter it l (i + 1) → Heap.SameBut it s.heap h' → Q (some x) { s with heap := h' }) : wpAny (model prog w) A (Builtin.SmallTypes.nextOrEnd (.ref it)) Q E s := by
  unfold Builtin.SmallTypes.nextOrEnd
  exact wpAny_bind (wpAny_attempt (wpAny_nextOf_list_item a b e fun h' a' k => wpAny_pure (h h' a' k)))
theorem noe_end {it l : Addr} {i : Nat} {xs : Array Value} {Q : Option Value → Shared → Prop} (hh : A.handled = none) (a : s.heap.IsListIter it l i) (b : s.heap.IsList l xs) (e : xs[i]? = none)
    (h : ∀ h', Heap.ExtBut it s.heap h' → Q none { s with heap := h' }) : wpAny (model prog w) A (Builtin.SmallTypes.nextOrEnd (.ref it)) Q E s := by
  unfold Builtin.SmallTypes.nextOrEnd
  refine wpAny_bind (wpAny_attempt (wpAny_nextOf_list_end hh a b e fun h' x k he => ?_))
  obtain ⟨o, ho, hc⟩ := he
  exact wpAny_bind (wpAny_isInstance (T := "StopIteration") (b := true) ⟨o, ho, hc⟩ isSubtype_stop (wpAny_pure (h h' k)))
end
end Fz

set_option Elab.async false
set_option linter.all false
set_option maxRecDepth 100000
set_option maxHeartbeats 2000000
namespace Fz
open PySem PySem.Spec PyProof.Rows
section
variable {prog : Program} {w : World} {A : Around} {E : Value → Shared → Prop} {s : Shared} {z T U i j l m : Addr} {k : Nat} {xs ys : Array Value} {a b : Value}
theorem upd_pr {x : Value} {n : Nat} {Q : Unit → Shared → Prop} (hT : Pr s.heap U a b)
    (h : ∀ h', h'.get? U = some { cls := .type "tuple", data := .seq ((#[a, b] : Array Value).setIfInBounds n x) } → Heap.SameBut U s.heap h' → Q () { s with heap := h' }) : wpAny (model prog w) A (updateSeq U (·.setIfInBounds n x)) Q E s :=
  wpAny_updateSeq hT rfl (h _ ((Heap.get?_update_self _ hT rfl).trans (by simp [Obj.mapSeq])) (Heap.SameBut.update ..))
/-- the cells that a turn writes -/
abbrev Apart (z U i j : Addr) (c : Addr) : Prop := c ≠ z ∧ c ≠ U ∧ c ≠ i ∧ c ≠ j
theorem znext {x y : Value} {Q : Value → Shared → Prop} (D : ZipApart z T U i j l m) (hz : s.heap.get? z = some (zO .none T U)) (hT : Pr s.heap T (.ref i) (.ref j)) (hU : Pr s.heap U a b)
    (h1 : s.heap.IsListIter i l k) (h2 : s.heap.IsListIter j m k) (a1 : s.heap.IsList l xs) (a2 : s.heap.IsList m ys) (hx : xs[k]? = some x) (hy : ys[k]? = some y)
    (hQ : ∀ h', h'.get? z = some (zO (rawInt s.heap.objs.size) T U) → Pr h' U x y → h'.IsListIter i l (k + 1) → h'.IsListIter j m (k + 1) → Pr h' s.heap.objs.size x y → (∀ c o, Apart z U i j c → s.heap.get? c = some o → h'.get? c = some o) → Q (.ref s.heap.objs.size) { s with heap := h' }) :
    wpAny (model prog w) A (Builtin.«zip.__next__» ⟨[.ref z], []⟩) (fun f s' => ∃ v, f = .done (.ret v) ∧ Q v s') E s := by
  show wpAny _ _ (field (.ref z) 2 >>= _) _ _ _
  refine wpAny_bind (wpAny_field hz rfl (x := .bool true) rfl ?_)
  show wpAny _ _ (field (.ref z) 3 >>= _) _ _ _
  refine wpAny_bind (wpAny_field hz rfl (x := .ref T) rfl (wpAny_bind (wpAny_seqItems hT rfl ?_)))
  show wpAny _ _ (Builtin.SmallTypes.ownedTupleIsFree (.ref z) >>= _) _ _ _
  refine wpAny_bind ?_
  unfold Builtin.SmallTypes.ownedTupleIsFree
  refine wpAny_bind (wpAny_field hz rfl (x := .none) rfl (wpAny_pure ?_))
  simp only [if_true]
  refine wpAny_bind (wpAny_rule (wpAny_bind (wpAny_field hz rfl (x := .ref U) rfl (wpAny_bind (wpAny_setField_rec hz (by simp) fun g1 z1 s1 => ?_)))))
  replace z1 : g1.get? z = some (zO .ellipsis T U) := z1
  refine wpAny_bind ?_
  simp only [List.zipIdx_cons, List.zipIdx_nil, List.forIn_cons, List.forIn_nil]
  refine wpAny_bind (wpAny_bind (wpAny_onRaise ?_))
  show wpAny _ _ (Builtin.SmallTypes.nextOrEnd (.ref i)) _ _ _
  refine noe_item (h1.extBut s1.extBut D.i1z) (a1.extBut s1.extBut D.l1z) hx fun g2 i2 s2 => ?_
  have u2 : Pr g2 U a b := s2.extBut _ _ D.TOi1 (s1.extBut _ _ D.TOz hU)
  refine wpAny_bind (wpAny_seqItems u2 rfl (wpAny_bind (upd_pr u2 fun g3 u3 s3 => ?_)))
  replace u3 : Pr g3 U x b := u3
  refine wpAny_bind (wpAny_letGo (wpAny_pure (wpAny_bind (wpAny_bind (wpAny_onRaise ?_)))))
  show wpAny _ _ (Builtin.SmallTypes.nextOrEnd (.ref j)) _ _ _
  refine noe_item (((h2.extBut s1.extBut D.i2z).extBut s2.extBut D.i12.symm).extBut s3.extBut D.TOi2.symm) (((a2.extBut s1.extBut D.l2z).extBut s2.extBut D.l2i1).extBut s3.extBut D.l2TO) hy fun g4 j4 s4 => ?_
  have u4 : Pr g4 U x b := s4.extBut _ _ D.TOi2 u3
  refine wpAny_bind (wpAny_seqItems u4 rfl (wpAny_bind (upd_pr u4 fun g5 u5 s5 => ?_)))
  replace u5 : Pr g5 U x y := u5
  refine wpAny_bind (wpAny_letGo (wpAny_pure (wpAny_pure (wpAny_bind (wpAny_seqItems u5 rfl (wpAny_bind (wpAny_newTuple ?_)))))))
  have hsz : g5.objs.size = s.heap.objs.size := by rw [s5.1, s4.1, s3.1, s2.1, s1.1]
  have z5 : g5.get? z = some (zO .ellipsis T U) := s5.extBut _ _ D.TOz.symm (s4.extBut _ _ D.i2z.symm (s3.extBut _ _ D.TOz.symm (s2.extBut _ _ D.i1z.symm z1)))
  have k5 : ∀ c o, Apart z U i j c → s.heap.get? c = some o → g5.get? c = some o := fun c o n e => s5.extBut _ _ n.2.1 (s4.extBut _ _ n.2.2.2 (s3.extBut _ _ n.2.1 (s2.extBut _ _ n.2.2.1 (s1.extBut _ _ n.1 e))))
  have i5 : g5.IsListIter i l (k + 1) := ((i2.extBut s3.extBut D.TOi1.symm).extBut s4.extBut D.i12).extBut s5.extBut D.TOi1.symm
  have j5 : g5.IsListIter j m (k + 1) := j4.extBut s5.extBut D.TOi2.symm
  show wpAny _ _ (Builtin.SmallTypes.ownedTupleHandOut (.ref z) (.ref g5.objs.size) >>= _) _ _ _
  refine wpAny_bind ?_
  unfold Builtin.SmallTypes.ownedTupleHandOut
  have z6 : (g5.push { cls := .type "tuple", data := .seq #[x, y] }).get? z = some (zO .ellipsis T U) := Heap.get?_push_of_some _ z5
  refine wpAny_bind (wpAny_setField_rec z6 (by simp) fun g7 z7 s7 => ?_)
  replace z7 : g7.get? z = some (zO (rawInt g5.objs.size) T U) := z7
  refine wpAny_setField_rec z7 (by simp) fun g8 z8 s8 => ?_
  replace z8 : g8.get? z = some (zO (rawInt g5.objs.size) T U) := z8
  have nz : g5.objs.size ≠ z := Nat.ne_of_gt (Heap.lt_size z5)
  have up : ∀ c o, c ≠ z → g5.get? c = some o → g8.get? c = some o := fun c o n e => s8.extBut _ _ n (s7.extBut _ _ n (Heap.get?_push_of_some _ e))
  have t8 : Pr g8 g5.objs.size x y := s8.extBut _ _ nz (s7.extBut _ _ nz (Heap.get?_push_size _ rfl))
  rw [hsz] at z8 t8
  refine wpAny_pure ⟨_, rfl, ?_⟩
  show Q (.ref g5.objs.size) _
  rw [hsz]
  exact hQ g8 z8 (up _ _ D.TOz u5) (i5.at fun o e => up _ o D.i1z e) (j5.at fun o e => up _ o D.i2z e) t8 fun c o n e => up c o n.1 (k5 c o n e)
theorem stop_it {α : Type} {Q : α → Shared → Prop} (hh : A.handled = none) (h : ∀ h' e, (∀ c o, s.heap.get? c = some o → h'.get? c = some o) → (∃ o, h'.get? e = some o ∧ o.cls = .type "StopIteration") → E (.ref e) { s with heap := h' }) :
    wpAny (model prog w) A (Builtin.SmallTypes.stopIteration : Sem α) Q E s := by
  unfold Builtin.SmallTypes.stopIteration
  refine wpAny_bind ?_
  simp only [newExc, newTuple]
  refine wpAny_bind (wpAny_newObj_type ?_ (by size_fits))
  refine wpAny_bind (m := firstArgMember _ _) (wpAny_of_eq (a := Value.none) (by first | rfl | (simp only [firstArgMember]; rfl)) (wpAny_newObj_type ?_ (by size_fits)))
  simp only [raiseNew]
  refine wpAny_bind (wpAny_handled ?_)
  rw [hh]
  refine wpAny_bind (wpAny_pure (wpAny_throw (h _ _ (fun c o e => Heap.get?_push_of_some _ (Heap.get?_push_of_some _ e)) ⟨_, Heap.get?_push_size _ rfl, rfl⟩)))
theorem zlast {Q : Fin → Shared → Prop} (hh : A.handled = none) (D : ZipApart z T U i j l m) (hz : s.heap.get? z = some (zO .none T U)) (hT : Pr s.heap T (.ref i) (.ref j)) (hU : Pr s.heap U a b)
    (h1 : s.heap.IsListIter i l k) (h2 : s.heap.IsListIter j m k) (a1 : s.heap.IsList l xs) (a2 : s.heap.IsList m ys) (hx : xs[k]? = none) (hy : ys[k]? = none)
    (hE : ∀ h' e, (∀ c o, Apart z U i j c → s.heap.get? c = some o → h'.get? c = some o) → (∃ o, h'.get? e = some o ∧ o.cls = .type "StopIteration") → E (.ref e) { s with heap := h' }) :
    wpAny (model prog w) A (Builtin.«zip.__next__» ⟨[.ref z], []⟩) Q E s := by
  show wpAny _ _ (field (.ref z) 2 >>= _) _ _ _
  refine wpAny_bind (wpAny_field hz rfl (x := .bool true) rfl ?_)
  show wpAny _ _ (field (.ref z) 3 >>= _) _ _ _
  refine wpAny_bind (wpAny_field hz rfl (x := .ref T) rfl (wpAny_bind (wpAny_seqItems hT rfl ?_)))
  show wpAny _ _ (Builtin.SmallTypes.ownedTupleIsFree (.ref z) >>= _) _ _ _
  refine wpAny_bind ?_
  unfold Builtin.SmallTypes.ownedTupleIsFree
  refine wpAny_bind (wpAny_field hz rfl (x := .none) rfl (wpAny_pure ?_))
  simp only [if_true]
  refine wpAny_bind (wpAny_rule (wpAny_bind (wpAny_field hz rfl (x := .ref U) rfl (wpAny_bind (wpAny_setField_rec hz (by simp) fun g1 z1 s1 => ?_)))))
  replace z1 : g1.get? z = some (zO .ellipsis T U) := z1
  refine wpAny_bind ?_
  simp only [List.zipIdx_cons, List.zipIdx_nil, List.forIn_cons, List.forIn_nil]
  refine wpAny_bind (wpAny_bind (wpAny_onRaise ?_))
  show wpAny _ _ (Builtin.SmallTypes.nextOrEnd (.ref i)) _ _ _
  refine noe_end hh (h1.extBut s1.extBut D.i1z) (a1.extBut s1.extBut D.l1z) hx fun g2 s2 => ?_
  have z2 : g2.get? z = some (zO .ellipsis T U) := s2 _ _ D.i1z.symm z1
  refine wpAny_bind (wpAny_setField_rec z2 (by simp) fun g3 z3 s3 => ?_)
  refine wpAny_bind ?_
  show wpAny _ _ (forIn ((List.drop 1 [Value.ref i, Value.ref j]).zipIdx 1) PUnit.unit _ >>= _) _ _ _
  refine wpAny_bind ?_
  simp only [List.drop_succ_cons, List.drop_zero, List.zipIdx_cons, List.zipIdx_nil, List.forIn_cons, List.forIn_nil]
  have lt2 : ∀ c o, c ≠ z → c ≠ i → s.heap.get? c = some o → g3.get? c = some o := fun c o n1 n2 e => s3.extBut _ _ n1 (s2 _ _ n2 (s1.extBut _ _ n1 e))
  refine wpAny_bind (wpAny_bind (noe_end hh (h2.at fun o e => lt2 _ o D.i2z D.i12.symm e) (a2.at fun o e => lt2 _ o D.l2z D.l2i1 e) hy fun g4 s4 => ?_))
  simp only [Option.isSome_none, Bool.false_eq_true, if_false]
  refine wpAny_pure (wpAny_pure (wpAny_bind (wpAny_rule (stop_it hh fun h' e k5 he => hE h' e (fun c o n x => k5 c o (s4 _ _ n.2.2.2 (lt2 c o n.1 n.2.2.1 x))) he))))
theorem znextP {x y : Value} {Q : Option Value → Shared → Prop} (D : ZipApart z T U i j l m) (hz : s.heap.get? z = some (zO .none T U)) (hT : Pr s.heap T (.ref i) (.ref j)) (hU : Pr s.heap U a b)
    (h1 : s.heap.IsListIter i l k) (h2 : s.heap.IsListIter j m k) (a1 : s.heap.IsList l xs) (a2 : s.heap.IsList m ys) (hx : xs[k]? = some x) (hy : ys[k]? = some y)
    (hQ : ∀ h', h'.get? z = some (zO (rawInt s.heap.objs.size) T U) → Pr h' U x y → h'.IsListIter i l (k + 1) → h'.IsListIter j m (k + 1) → Pr h' s.heap.objs.size x y → (∀ c o, Apart z U i j c → s.heap.get? c = some o → h'.get? c = some o) → Q (some (.ref s.heap.objs.size)) { s with heap := h' }) :
    wpAny (model prog w) A (pyNext (.ref z)) Q E s := by
  have ty : s.TypeIs (.ref z) "zip" := ⟨_, hz, rfl⟩
  unfold pyNext
  exact wpAny_bind (wpAny_attempt (wpAny_callSpecial?_slot (name := Str.ofString "__next__") ty F.slot_zip_next (wpAny_call_entry F.slot_zip_next ty F.entry_zip_next (znext D hz hT hU h1 h2 a1 a2 hx hy fun h' b1 b2 b3 b4 b5 b6 => wpAny_pure (hQ h' b1 b2 b3 b4 b5 b6)) (F.args_zip_next_1 _))))
theorem zlastP {Q : Option Value → Shared → Prop} (hh : A.handled = none) (D : ZipApart z T U i j l m) (hz : s.heap.get? z = some (zO .none T U)) (hT : Pr s.heap T (.ref i) (.ref j)) (hU : Pr s.heap U a b)
    (h1 : s.heap.IsListIter i l k) (h2 : s.heap.IsListIter j m k) (a1 : s.heap.IsList l xs) (a2 : s.heap.IsList m ys) (hx : xs[k]? = none) (hy : ys[k]? = none)
    (hQ : ∀ h', (∀ c o, Apart z U i j c → s.heap.get? c = some o → h'.get? c = some o) → Q none { s with heap := h' }) : wpAny (model prog w) A (pyNext (.ref z)) Q E s := by
  have ty : s.TypeIs (.ref z) "zip" := ⟨_, hz, rfl⟩
  unfold pyNext
  refine wpAny_bind (wpAny_attempt (wpAny_callSpecial?_slot (name := Str.ofString "__next__") ty F.slot_zip_next (wpAny_call_entry F.slot_zip_next ty F.entry_zip_next (zlast hh D hz hT hU h1 h2 a1 a2 hx hy fun h' e kk he => ?_) (F.args_zip_next_1 _))))
  obtain ⟨o, ho, hc⟩ := he
  exact wpAny_bind (wpAny_isInstance (T := "StopIteration") (b := true) ⟨o, ho, hc⟩ isSubtype_stop (wpAny_pure (hQ _ kk)))
theorem zgo {elts : List Expr} {x1 : Nat} {pos : Pos} {t : Addr} {Q : Unit → Shared → Prop} (hz : s.heap.get? z = some (zO (rawInt t) T U)) (hQ : ∀ h', h'.get? z = some (zO .none T U) → Heap.SameBut z s.heap h' → Q () { s with heap := h' }) :
    wpAny (model prog w) A (letOwnedTupleGo (.Tuple elts x1 pos) (.ref z) (.ref t)) Q E s := by
  unfold letOwnedTupleGo
  refine wpAny_bind (wpAny_load hz ?_)
  show wpAny _ _ (if _ = true then _ else _) Q E s
  rw [if_pos (by simp)]
  refine wpAny_bind (wpAny_rule ?_)
  show wpAny _ _ (setField (.ref z) 0 .none) Q E s
  exact wpAny_setField_rec hz (by simp) fun h' z' s' => hQ h' z' s'
theorem zself {f0 : Value} {Q : Value → Shared → Prop} (hz : s.heap.get? z = some (zO f0 T U)) (h : Q (.ref z) s) : wpAny (model prog w) A (pyIter (.ref z)) Q E s := by
  have ty : s.TypeIs (.ref z) "zip" := ⟨_, hz, rfl⟩
  refine wpAny_pyIter_slot ty F.slot_zip_iter (wpAny_call_entry F.slot_zip_iter ty F.entry_zip_iter ?_ (F.args_zip_iter_1 _))
  show wpAny _ _ (ret (.ref z)) _ _ s
  exact wpAny_pure ⟨_, rfl, "zip", _, ty, F.slot_zip_next.lookup, h⟩
end
end Fz

set_option Elab.async false
set_option linter.all false
set_option maxRecDepth 100000
set_option maxHeartbeats 2000000
namespace Fs
open PySem PySem.Spec PyProof.Rows L2 C8
/-- two lists of one length, in new pairs -/
def ItzS (K : PySem.W.Frag) (a b : Addr) : It :=
  ⟨(Itz K a b).go, (Itz K a b).yld, fun i H => ∃ xs ys : List V, SqL K H a xs ∧ SqL K H b ys ∧ xs.length ≤ i ∧ ys.length ≤ i⟩
theorem turn_zipS {P : Program} {w : World} {K : PySem.W.Frag} {elts : List Expr} {kk : Nat} {tpos : Pos} {a b z T U i1 i2 : Addr} (D : ZipApart z T U i1 i2 a b) :
    Turn P w K (.Tuple elts kk tpos) (ItzS K a b) [z, T, U, i1, i2] z (fun i h => h.get? z = some (Fz.zO .none T U) ∧ Fz.Pr h T (.ref i1) (.ref i2) ∧ (∃ x y, Fz.Pr h U x y) ∧ h.IsListIter i1 a i ∧ h.IsListIter i2 b i) where
  mem := by simp
  obj := fun i h st c hc => by
    obtain ⟨hz, hT, ⟨x, y, hU⟩, ⟨o1, e1, _, d1⟩, ⟨o2, e2, _, d2⟩⟩ := st
    have e' : c = z ∨ c = T ∨ c = U ∨ c = i1 ∨ c = i2 := by simpa using hc
    rcases e' with rfl | rfl | rfl | rfl | rfl
    · exact ⟨_, hz, fun v q => nomatch q⟩
    · exact ⟨_, hT, fun v q => nomatch q⟩
    · exact ⟨_, hU, fun v q => nomatch q⟩
    · exact ⟨o1, e1, fun v q => by rw [d1] at q; cases q⟩
    · exact ⟨o2, e2, fun v q => by rw [d2] at q; cases q⟩
  keep := fun i h h' ⟨hz, hT, ⟨x, y, hU⟩, h1, h2⟩ k => ⟨k z (by simp) _ hz, k T (by simp) _ hT, ⟨x, y, k U (by simp) _ hU⟩, h1.at fun o q => k i1 (by simp) o q, h2.at fun o q => k i2 (by simp) o q⟩
  item := by
    intro X hP hw hK hc i pins s σ H E I hf st hg
    subst hP hw hK
    obtain ⟨hz, hT, ⟨x0, y0, hU⟩, h1, h2⟩ := st
    obtain ⟨xs, ys, x, y, sx, sy, hx, hy⟩ := hg
    obtain ⟨its, rv, p, _⟩ := I.list sx
    obtain ⟨jts, rw', q, _⟩ := I.list sy
    obtain ⟨u, hu, ru⟩ := rv.get hx
    obtain ⟨v, hv, rv'⟩ := rw'.get hy
    have zl : z < s.heap.objs.size := Heap.lt_size hz
    refine Fz.znextP D hz hT hU h1 h2 p.isList q.isList (x := u) (y := v) (by simpa using hu) (by simpa using hv) fun h' z' U' i1' i2' hP kp => ?_
    refine ⟨_, rfl, Fz.zgo (s := { s with heap := h' }) z' fun g zz sb => ?_⟩
    have hP2 : g.get? s.heap.objs.size = some { cls := .type "tuple", data := .seq #[u, v] } := (sb.2 _ (Nat.ne_of_gt zl)).trans hP
    have new : ObjOk X.prog X.w (upd H s.heap.objs.size (.tup [x, y])) g s.heap.objs.size (.tup [x, y]) := ⟨by show 2 ≤ sizeLine; decide, [u, v], .cons ru (.cons rv' .nil), ⟨_, hP2, rfl, _, rfl⟩⟩
    have I1 : Inv X pins σ (upd H s.heap.objs.size (.tup [x, y])) { s with heap := g } :=
      I.turnedNew (t' := s.toks) (ch := [z, T, U, i1, i2]) (fun c o hb q => by
        have n : c ≠ z ∧ c ≠ T ∧ c ≠ U ∧ c ≠ i1 ∧ c ≠ i2 := by simpa using hb
        exact (sb.2 c n.1).trans (kp c o ⟨n.1, n.2.2.1, n.2.2.2.1, n.2.2.2.2⟩ q)) hf (Nat.le_refl _) new
    refine ⟨.ref s.heap.objs.size, _, I1, rfl, ⟨_, x, y, rfl, I.hok.fresh (Nat.le_refl _), rfl, fun l hl => by rw [I.list_inj hl sx]; exact hx, fun l hl => by rw [I.list_inj hl sy]; exact hy⟩, ⟨zz, ?_, ⟨u, v, ?_⟩, ?_, ?_⟩, fun c hcm => ?_⟩
    · exact (sb.2 _ D.TIz).trans (kp _ _ ⟨D.TIz, D.TITO, D.TIi1, D.TIi2⟩ hT)
    · exact (sb.2 _ D.TOz).trans U'
    · exact i1'.at fun o q => (sb.2 _ D.i1z).trans q
    · exact i2'.at fun o q => (sb.2 _ D.i2z).trans q
    · have hlt : c < s.heap.objs.size := by
        have e' : c = z ∨ c = T ∨ c = U ∨ c = i1 ∨ c = i2 := by simpa using hcm
        rcases e' with rfl | rfl | rfl | rfl | rfl
        · exact zl
        · exact Heap.lt_size hT
        · exact Heap.lt_size hU
        · obtain ⟨_, e1, _⟩ := h1; exact Heap.lt_size e1
        · obtain ⟨_, e2, _⟩ := h2; exact Heap.lt_size e2
      rw [upd_ne (Nat.ne_of_lt hlt)]
      exact (hf c hcm).1
  done := by
    intro X hP hw hK hc i pins s σ H E I hf st hg
    subst hP hw hK
    obtain ⟨hz, hT, ⟨x0, y0, hU⟩, h1, h2⟩ := st
    obtain ⟨xs, ys, sx, sy, e1, e2⟩ := hg
    obtain ⟨its, rv, p, _⟩ := I.list sx
    obtain ⟨jts, rw', q, _⟩ := I.list sy
    have l1 := rv.length
    have l2 := rw'.length
    exact Fz.zlastP (I.ok.hd hc) D hz hT hU h1 h2 p.isList q.isList (by simp; omega) (by simp; omega) fun h' kp => ⟨rfl, I.turnedL (t' := s.toks) (ch := [z, T, U, i1, i2]) (fun c o hb q => by
      have n : c ≠ z ∧ c ≠ T ∧ c ≠ U ∧ c ≠ i1 ∧ c ≠ i2 := by simpa using hb
      exact kp c o ⟨n.1, n.2.2.1, n.2.2.2.1, n.2.2.2.2⟩ q) hf⟩
  self := fun A i s Q E st h => Fz.zself st.1 h
def iZipS (K : PySem.W.Frag) (ta : TA) : TI := fun σ H R => ta σ H fun vs H1 => ∃ a b xs ys, vs = [.ref a, .ref b] ∧ SqL K H1 a xs ∧ SqL K H1 b ys ∧ R (ItzS K a b) H1
theorem callWith_tyKw {M : Model} {A : Around} {E : Value → Shared → Prop} {s : Shared} {env : Env} {pos : Pos} {T : String} {e : Expr} {rest : List Expr} {kws : List Keyword} {Q : Value → Shared → Prop}
    (h : wpAny M A (spliced (backTo pos (starEach (e :: rest) env))) (fun vs s₁ => wpAny M A (evalAll ((backToKw pos (keywordEach kws env)).map (·.2))) (fun ks s₂ => wpAny M A (call (.type T) vs (((backToKw pos (keywordEach kws env)).filterMap (·.1)).zip ks)) Q E s₂) E s₁) E s)
    (he : backTo pos (starEach (e :: rest) env) = (false, eval e env) :: backTo pos (starEach rest env)) (hplain : (backTo pos (starEach (e :: rest) env)).any (·.1) = false) (hall : (backToKw pos (keywordEach kws env)).all (·.1.isSome) = true) (hkw : (backToKw pos (keywordEach kws env)).any (·.1.isNone) = false) :
    wpAny M A (callWith pos (.type T) [] (backTo pos (starEach (e :: rest) env)) (backToKw pos (keywordEach kws env))) Q E s := by
  unfold callWith
  have h2 : wpAny M A (evalArgs (.type T) true (backTo pos (starEach (e :: rest) env)) (backToKw pos (keywordEach kws env))) (fun a s₁ => wpAny M A (call (.type T) ([] ++ a.pos) a.kw) Q E s₁) E s := by
    rw [he] at h ⊢
    exact PyProof.Rows.evalArgs_kwB hall h
  refine wpAny_bind (wpAny_holding (wpAny_mono h2 (fun a s₁ h3 => wpAny_bind (wpAny_standAt ?_)) fun _ _ x => x))
  simp only [hplain, hkw, Bool.or_false]
  refine wpAny_bind (wpAny_pure (wpAny_bind (wpAny_mono h3 (fun r s₂ hq => wpAny_bind (wpAny_holding (wpAny_point (wpAny_pure hq)))) fun _ _ x => x)))
theorem pi_zipS {X : Cx} {e e2 : Expr} {ta : TA} {p pos tpos kp kq : Pos} {elts : List Expr} {kk j : Nat} (hg : Gl X "zip") (hm : X.mg "zip" = none) (ha : PA X [e, e2] ta)
    (he : backTo pos (starEach [e, e2] X.env) = (false, eval e X.env) :: backTo pos (starEach [e2] X.env) := by rfl) (hpl : (backTo pos (starEach [e, e2] X.env)).any (·.1) = false := by rfl)
    (hall : (backToKw pos (keywordEach [⟨some "strict", .Constant (.bool true) j kp, kq⟩] X.env)).all (·.1.isSome) = true := by rfl) (hnone : (backToKw pos (keywordEach [⟨some "strict", .Constant (.bool true) j kp, kq⟩] X.env)).any (·.1.isNone) = false := by rfl) :
    PI X (.Tuple elts kk tpos) (.Call (.Name "zip" p) [e, e2] [⟨some "strict", .Constant (.bool true) j kp, kq⟩] pos) (iZipS X.K ta) := by
  refine ⟨fun pins s σ H R I h => ?_⟩
  refine wpAny_Call_Name_kw (ld_blt I hg hm PyProof.Rows.boot_zip (callWith_tyKw (thn (ha.run pos pins s σ H _ I h) fun us s1 ⟨vs, H1, I1, r1, q1⟩ => ?_) he hpl hall hnone))
  obtain ⟨a, b, xs, ys, ex, sx, sy, q⟩ := q1
  subst ex
  obtain ⟨u1, u2, rfl, ra, rb⟩ := vals2 r1
  obtain rfl : u1 = Value.ref a := ra
  obtain rfl : u2 = Value.ref b := rb
  have hk := pk_cons (X := X) (nm := some "strict") (kpos := kq) (pe_bl (X := X) (b := true) (j := j) (pos := kp)) pk_nil
  refine thn (hk.run pos pins s1 σ H1 (fun zs H2 => zs = [.bl true] ∧ H2 = H1) I1 ⟨rfl, rfl⟩) fun ks s2 ⟨zs, H2, I2, r2, ez, eH⟩ => ?_
  subst ez eH
  obtain ⟨w1, rfl, rw1⟩ := vals1 r2
  obtain rfl : w1 = Value.bool true := rw1
  obtain ⟨its, rv, p1, _⟩ := I2.list sx
  obtain ⟨jts, rv2, p2, _⟩ := I2.list sy
  have la : a < s2.heap.objs.size := p1.lt
  have lb : b < s2.heap.objs.size := p2.lt
  show wpAny _ _ (call (.type "zip") [.ref a, .ref b] Fz.KwS) _ _ s2
  refine Fz.zcall p1.isList p2.isList fun h' hz hT hU h1 h2 hk2 => Fz.zself hz ?_
  have I3 : Inv X pins σ H2 { s2 with heap := h' } := I2.kept (t' := s2.toks) hk2
  refine ⟨s2.heap.objs.size + 4, [s2.heap.objs.size + 4, s2.heap.objs.size + 2, s2.heap.objs.size + 3, s2.heap.objs.size, s2.heap.objs.size + 1], _, _, H2, rfl, I3, turn_zipS (PySem.W.ktu_apart s2.heap.objs.size a b la lb), ⟨hz, hT, ⟨_, _, hU⟩, h1, h2⟩, fun c hcm => ?_, q⟩
  have hle : s2.heap.objs.size ≤ c := by
    have e' : c = s2.heap.objs.size + 4 ∨ c = s2.heap.objs.size + 2 ∨ c = s2.heap.objs.size + 3 ∨ c = s2.heap.objs.size ∨ c = s2.heap.objs.size + 1 := by simpa using hcm
    rcases e' with z | z | z | z | z <;> rw [z] <;> first | exact Nat.le_add_right _ _ | exact Nat.le_refl _
  exact I2.fpOk hle (I2.hok.fresh hle)
theorem walk_zipS {K : PySem.W.Frag} {a b : Addr} {xs ys : List V} (h : xs.length = ys.length) : Walk (ItzS K a b) xs.length (fun H => SqL K H a xs ∧ SqL K H b ys) (YPair (fun i => xs[i]?) (fun i => ys[i]?)) := by
  have z := walk_zip (K := K) (a := a) (b := b) (xs := xs) (ys := ys) (n := xs.length) (by omega)
  exact ⟨z.goes, fun H q => ⟨xs, ys, q.1, q.2, Nat.le_refl _, by omega⟩, z.yields⟩
section
variable {K : PySem.W.Frag} {σ : L2.St} {W : Wd} {rs ss : List Rp}
theorem it_zipS {ta : TA} (h : EvA ta σ W [lstR K rs, lstR K ss]) (hl : rs.length = ss.length) : ItW (iZipS K ta) σ W (prs K rs ss) := fun W1 l1 R q => h W1 l1 _ fun us W2 l2 hus => by
  obtain ⟨x, y, rfl, ⟨a, vs, rfl, h1, h2⟩, b, ws, rfl, h3, h4⟩ := hus.two
  refine ⟨a, b, vs, ws, rfl, lsq (W2.ex _ _ h1), lsq (W2.ex _ _ h3), q _ W2 l2 (it_mk (walk_zipS (xs := vs) (ys := ws) (by rw [h2.len, h4.len, hl])) ?_ (fun W3 s => ⟨lsq (W3.ex _ _ (s _ _ h1)), lsq (W3.ex _ _ (s _ _ h3))⟩) fun i r x W3 H' hi s y => ?_)⟩
  · rw [h2.len]; simp [prs, hl]
  · obtain ⟨r1, r2, e1, e2, rfl⟩ : ∃ r1 r2, rs[i]? = some r1 ∧ ss[i]? = some r2 ∧ r = tupR K [r1, r2] := by
      unfold prs at hi
      rw [List.getElem?_zipWith] at hi
      split at hi
      · rename_i a b h1 h2
        exact ⟨_, _, h1, h2, (Option.some.inj hi).symm⟩
      · cases hi
    refine it_pair (fun u hu => ?_) (fun u hu => ?_) y
    · obtain ⟨r', h5, h6⟩ := h2.get hu
      cases e1.symm.trans h5
      exact r1.mono s h6
    · obtain ⟨r', h5, h6⟩ := h4.get hu
      cases e2.symm.trans h5
      exact r2.mono s h6
end
end Fs

set_option Elab.async false
set_option linter.all false
set_option maxRecDepth 100000
set_option maxHeartbeats 2000000
/-! two dicts of one content, their keys tuples -/
namespace Fd
open PySem PySem.Spec PyProof.Rows
section
variable {prog : Program} {w : World} {K : Type} [DecidableEq K] {knd : HeapKind prog w K} {A : Around} {E : Value → Shared → Prop} {s : Shared}
theorem same_all {nm : String} {a b : Addr} {xs ys : List (K × Addr × Value)} {Q : Bool → Shared → Prop} (room : knd.room A) (na : (a == sysModules) = false) (nb : (b == sysModules) = false) (da : s.heap.DictOfH knd a xs) (db : s.heap.DictOfH knd b ys) (hl : xs.length = ys.length)
    (hit : ∀ x ∈ xs, ∃ y ∈ ys, x.1 = y.1 ∧ SeqAt.EqAt A s x.2.2 y.2.2 true) (h : Q true s) : wpAny (model prog w) A (Builtin.Dict.samePairs nm a b) Q E s := by
  obtain ⟨oa, es, ep, goa, _, gda, gea, gia, gna⟩ := da
  obtain ⟨ob, fs, fp, gob, _, gdb, geb, gib, gnb⟩ := db
  have za : es.size = xs.length := size_of_entries gea
  have zb : fs.size = ys.length := size_of_entries geb
  unfold Builtin.Dict.samePairs Builtin.Dict.showsAll
  rw [if_neg (by rw [na]; exact Bool.false_ne_true), if_neg (by rw [nb]; exact Bool.false_ne_true)]
  refine wpAny_bind (wpAny_pure (wpAny_bind (wpAny_pure (wpAny_bind (wpAny_dictEntries goa gda ?_)))))
  dsimp only
  refine wpAny_bind (wpAny_dictEntries gob gdb ?_)
  rw [if_neg (by rw [za, zb, hl]; simp)]
  refine wpAny_bind (wpAny_dictEpoch goa gda (wpAny_bind ?_))
  rw [Std.Legacy.Range.forIn_eq_forIn_range']
  simp only [Std.Legacy.Range.size, Nat.sub_zero, Nat.add_sub_cancel, Nat.div_one]
  refine wpAny_forIn_list _ (fun rest q t => t = s ∧ q = (none, ()) ∧ ∃ i, rest = List.range' i (es.size - i) ∧ i ≤ es.size) _ ?_ ?_ _ _ ⟨rfl, rfl, 0, by simp, Nat.zero_le _⟩
  · rintro x rest q t ⟨rfl, rfl, i, hr, hi⟩
    have lt : i < es.size := by
      rcases Nat.lt_or_ge i es.size with z | z
      · exact z
      · rw [Nat.sub_eq_zero_of_le z] at hr; simp at hr
    obtain ⟨rfl, hrest⟩ : x = i ∧ rest = List.range' (i + 1) (es.size - (i + 1)) := by
      have e : es.size - i = (es.size - (i + 1)) + 1 := by omega
      rw [e, List.range'_succ] at hr
      exact ⟨(List.cons.inj hr).1, (List.cons.inj hr).2⟩
    refine wpAny_bind (wpAny_dictEntries goa gda ?_)
    rw [Array.getElem?_eq_getElem lt]
    have ltx : x < xs.length := by rw [← za]; exact lt
    have ee : es[x] = entryOfKey knd xs[x] := by
      have z := entry_at gea x
      rw [Array.getElem?_eq_getElem lt, List.getElem?_eq_getElem ltx] at z
      exact Option.some.inj z
    obtain ⟨y, hy, ek, heq⟩ := hit xs[x] (List.getElem_mem ltx)
    show wpAny _ _ (holding [es[x].key, es[x].val] _ >>= _) _ _ _
    rw [ee]
    refine wpAny_bind (wpAny_holding (wpAny_bind (wpAny_dictFind_heap room (gia _ (List.getElem_mem ltx)) gob gdb geb gib gnb (fun hn => ?_) fun j p hj => ?_)))
    · obtain ⟨j, hj⟩ := List.mem_iff_getElem?.mp hy
      refine absurd ?_ (hn j y.2)
      rw [ek]; exact hj
    · have ltj : j < fs.size := by rw [zb]; exact (List.getElem?_eq_some_iff.mp hj).1
      refine wpAny_bind (wpAny_dictEntries gob gdb ?_)
      rw [Array.getElem?_eq_getElem ltj]
      have ef : fs[j] = entryOfKey knd (xs[x].1, p) := by
        have z := entry_at geb j
        rw [Array.getElem?_eq_getElem ltj, hj] at z
        exact Option.some.inj z
      have ep' : p = y.2 := by
        obtain ⟨m, hm⟩ := List.mem_iff_getElem?.mp hy
        have k1 : (ys.map (·.1))[j]? = some xs[x].1 := by rw [List.getElem?_map, hj]; rfl
        have k2 : (ys.map (·.1))[m]? = some xs[x].1 := by rw [List.getElem?_map, hm, ek]; rfl
        have jm : j = m := (List.getElem?_inj (List.getElem?_eq_some_iff.mp k1).1 gnb).mp (k1.trans k2.symm)
        rw [jm, hm] at hj
        exact (congrArg Prod.snd (Option.some.inj hj)).symm
      rw [← ep'] at heq
      rw [ef]
      refine wpAny_holding (heq prog w _ _ ?_)
      show wpAny _ _ (if (!true) = true then _ else _) _ _ _
      rw [if_neg (by decide)]
      refine wpAny_bind (wpAny_dictEpoch goa gda ?_)
      rw [if_neg (by simp)]
      exact wpAny_pure ⟨rfl, rfl, x + 1, hrest, lt⟩
  · rintro q t ⟨rfl, rfl, i, hr, hi⟩
    exact wpAny_pure h
/-- a != b -/
theorem ne_all {a b : Addr} {xs ys : List (K × Addr × Value)} {Q : Value → Shared → Prop} (room : knd.room A.in1) (hu : A.units < cLine) (na : (a == sysModules) = false) (nb : (b == sysModules) = false) (da : s.heap.DictOfH knd a xs) (db : s.heap.DictOfH knd b ys) (hl : xs.length = ys.length)
    (hit : ∀ x ∈ xs, ∃ y ∈ ys, x.1 = y.1 ∧ SeqAt.EqAt A.in1 s x.2.2 y.2.2 true) (h : Q (.bool false) s) : wpAny (model prog w) A (compareOp .NotEq (.ref a) (.ref b)) Q E s := by
  have ta : s.TypeIs (.ref a) "dict" := da.typeIs
  have tb : s.TypeIs (.ref b) "dict" := db.typeIs
  refine wpAny_richCompare_same_room (op := .NotEq) ta tb PySem.F.slot_dict_ne (wpAny_call_entry PySem.F.slot_dict_ne ta PySem.F.entry_dict_ne ?_ (PySem.F.args_dict_ne_2 _ _)) hu
  show wpAny _ _ (Builtin.Dict.dictSlotArgs "__ne__" ⟨[.ref a, .ref b], []⟩ >>= _) _ _ s
  refine wpAny_bind ?_
  unfold Builtin.Dict.dictSlotArgs
  refine wpAny_bind (wpAny_notOrdered_dict ta ?_)
  show wpAny _ _ (pure (Value.ref a, Value.ref b)) _ _ s
  refine wpAny_pure (wpAny_bind (wpAny_isInstance (T := "dict") tb PySem.F.sub_dict_dict ?_))
  simp only [Bool.not_true, Bool.false_eq_true, if_false]
  refine wpAny_bind (wpAny_pure (wpAny_bind (wpAny_pure (wpAny_bind (same_all room na nb da db hl hit (wpAny_pure ⟨_, rfl, ?_, ?_⟩))))))
  · exact fun x => nomatch x
  · simpa using h
end
end Fd
namespace Fs
open PySem PySem.Spec PyProof.Rows L2 C8
/-- two dicts with tuple keys, their contents the same plain data -/
def rNeDT (K : PySem.W.Frag) : R2 := fun x y H Q => ∃ (a b : Addr) (kvs lws : List (List L2.Key × V)), x = .ref a ∧ y = .ref b ∧ Rd H a (.dT kvs) ∧ Rd H b (.dT lws) ∧ kvs.length = lws.length ∧
  (∀ kv ∈ kvs, ∃ lw ∈ lws, kv.1 = lw.1 ∧ ∃ d, Dp K H kv.2 d ∧ Dp K H lw.2 d ∧ SeqAt.shaped d = true ∧ PyData.eqv d d = true) ∧ Q (.bl false) H
theorem paired_mem {α β : Type} {R : α → β → Prop} : ∀ {as : List α} {bs : List β}, Paired R as bs → ∀ b ∈ bs, ∃ a ∈ as, R a b
  | _, _, .nil, b, h => by simp at h
  | _, _, .cons h t, b, hb => by
    rcases List.mem_cons.mp hb with rfl | hb
    · exact ⟨_, List.mem_cons_self .., h⟩
    · obtain ⟨a, ha, r⟩ := paired_mem t b hb
      exact ⟨a, List.mem_cons_of_mem _ ha, r⟩
theorem paired_mem' {α β : Type} {R : α → β → Prop} : ∀ {as : List α} {bs : List β}, Paired R as bs → ∀ a ∈ as, ∃ b ∈ bs, R a b
  | _, _, .nil, b, h => by simp at h
  | _, _, .cons h t, b, hb => by
    rcases List.mem_cons.mp hb with rfl | hb
    · exact ⟨_, List.mem_cons_self .., h⟩
    · obtain ⟨a, ha, r⟩ := paired_mem' t b hb
      exact ⟨a, List.mem_cons_of_mem _ ha, r⟩
theorem op_ne_dT {X : Cx} {k : Nat} (hr : Room k X.A) : OpR X (compareOp .NotEq) (rNeDT X.K) := by
  intro pins s σ H x y v u Q I rx ry h
  obtain ⟨a, b, kvs, lws, rfl, rfl, ha, hb, hl, hm, q⟩ := h
  cases (show v = Value.ref a from rx)
  cases (show u = Value.ref b from ry)
  obtain ⟨_, na, xs, ra, da⟩ := dt_rd I.hok ha
  obtain ⟨_, nb, ys, rb, db⟩ := dt_rd I.hok hb
  have un := hr.un
  refine Fd.ne_all (show X.A.units + 1 < cLine by omega) (by omega) na nb da db (by rw [← Paired.length ra, ← Paired.length rb, hl]) (fun x hx => ?_) ⟨.bl false, H, I, rfl, q⟩
  obtain ⟨kv, hkv, e1, _, e3⟩ := paired_mem ra x hx
  obtain ⟨lw, hlw, e4, d, d1, d2, sh, ev⟩ := hm kv hkv
  obtain ⟨y, hy, f1, _, f3⟩ := paired_mem' rb lw hlw
  refine ⟨y, hy, by rw [← e1, e4, f1], ?_⟩
  obtain ⟨as, r1⟩ := Dp.reads I d _ _ d1 e3
  obtain ⟨bs, r2⟩ := Dp.reads I d _ _ d2 f3
  have z := PySem.W.keq_at (A := X.A) r1 r2 sh sh (show X.A.units + 1 + 64 < cLine by omega)
  rw [ev] at z
  exact z
end Fs

set_option Elab.async false
set_option linter.all false
set_option maxRecDepth 100000
set_option maxHeartbeats 2000000
namespace Fs
open PySem PySem.Spec PyProof.Rows L2 C8
def mergeT (kvs more : List (List L2.Key × V)) : List (List L2.Key × V) := more.foldl (fun acc kv => putK acc kv.1 kv.2) kvs
theorem len_mergeT : ∀ (more kvs : List (List L2.Key × V)), (mergeT kvs more).length ≤ kvs.length + more.length
  | [], kvs => Nat.le_refl _
  | kv :: more, kvs => by
    have h := len_mergeT more (putK kvs kv.1 kv.2)
    have h2 := length_putK kvs kv.1 kv.2
    show (mergeT (putK kvs kv.1 kv.2) more).length ≤ _
    rw [List.length_cons]; omega
/-- dict(ps): ps a list of pairs (tuple, value), their tuples at qs -/
def rDictT (K : PySem.W.Frag) : List V → Hp → VK → Prop := fun vs H Q => ∃ (a : Addr) (ps : List Addr) (kvs : List (List L2.Key × V)), vs = [.ref a] ∧ SqL K H a (ps.map V.ref) ∧ Paired (fun p kv => ∃ q, SqT K H p [.ref q, kv.2] ∧ H q = some (.tup (kv.1.map kV))) ps kvs ∧ ps.length ≤ 100000 ∧
  ∀ l, H l = none → Q (.ref l) (upd H l (.dT (mergeT [] kvs)))
section
variable {X : Cx}
theorem pairs_ofT {pins : List (Addr × Obj)} {σ : L2.St} {H : Hp} {s : Shared} (I : Inv X pins σ H s) : ∀ {ps : List Addr} {kvs : List (List L2.Key × V)}, Paired (fun p kv => ∃ q, SqT X.K H p [.ref q, kv.2] ∧ H q = some (.tup (kv.1.map kV))) ps kvs →
    ∃ ms : List (List L2.Key × Addr × Value), KT H kvs ms ∧ ms.length = ps.length ∧ ∀ (j : Nat) m, ms[j]? = some m → ∃ b, ps[j]? = some b ∧ IsTup s.heap b #[.ref m.2.1, m.2.2]
  | _, _, .nil => ⟨[], .nil, rfl, fun j q e => by simp at e⟩
  | _, _, .cons (a := p) (b := kv) h t => by
    obtain ⟨ms, r, hl, hp⟩ := pairs_ofT I t
    obtain ⟨q, h1, h2⟩ := h
    obtain ⟨its, rv, ht, _⟩ := I.tuple h1
    obtain ⟨u, y, ei, ru, ry⟩ := vals2 rv
    subst ei
    obtain rfl : u = Value.ref q := ru
    refine ⟨(kv.1, q, y) :: ms, .cons ⟨rfl, h2, ry⟩ r, by rw [List.length_cons, List.length_cons, hl], fun j m e => ?_⟩
    cases j with
    | zero =>
      have e' : (kv.1, q, y) = m := Option.some.inj e
      subst e'
      exact ⟨p, rfl, ht⟩
    | succ j =>
      obtain ⟨b, e1, e2⟩ := hp j m (by simpa using e)
      exact ⟨b, by simpa using e1, e2⟩
theorem kt_merge {H : Hp} : ∀ {more : List (List L2.Key × V)} {ms : List (List L2.Key × Addr × Value)} {kvs : List (List L2.Key × V)} {xs : List (List L2.Key × Addr × Value)}, KT H more ms → KT H kvs xs → KT H (mergeT kvs more) (PySem.storedAllH xs ms)
  | _, _, _, _, .nil, r => r
  | _, _, kvs, xs, .cons (a := kv) (b := m) h t, r => by
    have r2 : KT H (putK kvs kv.1 kv.2) (storedH xs m.1 m.2.1 m.2.2) := by
      rw [← h.1]
      exact r.put kv.1 h.2.1 h.2.2
    have z := kt_merge t r2
    exact z
theorem call_dictPT (hr : X.A.units + 3 < cLine) (hcalm : X.calm = true) : CallR X (.type "dict") (rDictT X.K) := by
  intro pins s σ H xs us Q I r h
  obtain ⟨a, ps, kvs, rfl, hs, hp, hz, q⟩ := h
  obtain rfl := Vals.ref1 r
  obtain ⟨its, rv, pl, _⟩ := I.list hs
  have ei := refs_at rv
  subst ei
  obtain ⟨ms, rel, hl, hm⟩ := pairs_ofT I hp
  obtain ⟨o, n, ho, hc, hd, hdat⟩ := pl
  have hit : PySem.PairItems s.heap (ps.map Value.ref).toArray (fun j => ps.getD j 0) (ms.map fun m => (Value.ref m.2.1, m.2.2)) := by
    refine ⟨by simp [hl], fun j k v e => ?_⟩
    rw [List.getElem?_map] at e
    cases em : ms[j]? with
    | none => rw [em] at e; cases e
    | some m =>
      rw [em] at e
      cases e
      obtain ⟨b, e1, e2⟩ := hm j m em
      have eg : ps.getD j 0 = b := by rw [List.getD_eq_getElem?_getD, e1]; rfl
      refine ⟨by simp [e1, eg], .inl ?_⟩
      show s.heap.IsTuple (ps.getD j 0) _
      rw [eg]
      obtain ⟨o2, ho2, hc2, n2, hd2⟩ := e2
      exact ⟨o2, ho2, hc2, n2, hd2⟩
  have P := PySem.PairArg.list (prog := X.prog) (w := X.w) a (ps.map Value.ref).toArray (fun j => ps.getD j 0) (ms.map fun m => (Value.ref m.2.1, m.2.2))
  have is_ : ∀ x ∈ ms, (tupleKind (mixKind X.prog X.w)).is s.heap x.1 x.2.1 := fun x hx => by
    obtain ⟨kv, _, e1, e2, _⟩ := paired_mem rel x hx
    rw [← e1]
    exact key_of I.hok e2
  refine PySem.call_dict_pairsH (knd := tupleKind (mixKind X.prog X.w)) (ps := ms) P (I.ok.hd hcalm) (show X.A.units + 1 + 1 < cLine by omega) ⟨⟨o, n, ho, hc, hd, hdat⟩, hit⟩ ⟨by rw [List.length_map], fun i key v e => ?_⟩ (fun h' kp x hx => ?_) (by rw [List.length_map, hl]; exact Nat.le_trans hz (by decide)) fun h' tk hd' kp => ?_
  · have e : (ms.map fun m => (Value.ref m.2.1, m.2.2))[i]? = some (key, v) := e
    rw [List.getElem?_map] at e
    cases em : ms[i]? with
    | none => rw [em] at e; cases e
    | some m =>
      rw [em] at e
      cases e
      exact ⟨m.1, m.2.1, rfl, rfl⟩
  · obtain ⟨kv, _, e1, e2, _⟩ := paired_mem rel x hx
    obtain ⟨_, jts, r, pt⟩ := (show ObjOk X.prog X.w H s.heap x.2.1 (.tup (kv.1.map kV)) from I.hok _ _ e2)
    obtain ⟨o2, h1, h2, n2, h3⟩ := pt
    rw [← e1]
    exact ⟨o2, jts.toArray, n2, kp _ _ (Nat.ne_of_lt (Heap.lt_size h1)) (by simp) h1, h2, h3, by simpa using items_are r⟩
  · obtain ⟨od, es, ep, d1, d2, d3, d4, _, d6⟩ := hd'
    have hm0 : (s.heap.objs.size == sysModules) = false := beq_eq_false_iff_ne.mpr (Nat.ne_of_gt I.big)
    have hlen : (mergeT [] kvs).length ≤ sizeLine := by
      refine Nat.le_trans (len_mergeT kvs []) ?_
      rw [List.length_nil, Nat.zero_add, Paired.length rel, hl]
      exact Nat.le_trans hz (by decide)
    have hn : H s.heap.objs.size = none := I.hok.fresh (Nat.le_refl _)
    exact ⟨.ref s.heap.objs.size, upd H s.heap.objs.size (.dT (mergeT [] kvs)), I.laid (t' := tk) (fun b o e => kp b o (by simp) e) (Nat.le_refl _) ⟨hlen, hm0, _, (kt_merge rel .nil).keeps (fun b ys e => by rw [upd_ne (ne_of_none e hn)]; exact e), od, es, ep, d1, d2, d3, d4, d6⟩, rfl, q _ hn⟩
end
end Fs

set_option Elab.async false
set_option linter.all false
set_option maxHeartbeats 1000000
namespace Fs
/-! ### numbers: laws -/
theorem low_spec {t b : Int} (hb : 0 < b) : 0 < (low t b).2 ∧ Int.gcd (low t b).1 (low t b).2 = 1 ∧ (low t b).1 * b = t * (low t b).2 := by
  have g0 : 0 < Int.gcd t b := gcd_pos t b hb
  have e1 : ((Int.gcd t b : Nat) : Int) * (t / ((Int.gcd t b : Nat) : Int)) = t := Int.mul_ediv_cancel' (Int.gcd_dvd_left t b)
  have e2 : ((Int.gcd t b : Nat) : Int) * (b / ((Int.gcd t b : Nat) : Int)) = b := Int.mul_ediv_cancel' (Int.gcd_dvd_right t b)
  refine ⟨?_, Int.gcd_ediv_gcd_ediv_gcd g0, ?_⟩
  · show 0 < b / ((Int.gcd t b : Nat) : Int)
    have hg : (0 : Int) < ((Int.gcd t b : Nat) : Int) := by omega
    exact Int.pos_of_mul_pos_right (by rw [e2]; exact hb) (by omega)
  · show t / ((Int.gcd t b : Nat) : Int) * b = t * (b / ((Int.gcd t b : Nat) : Int))
    generalize t / ((Int.gcd t b : Nat) : Int) = x at e1 ⊢
    generalize b / ((Int.gcd t b : Nat) : Int) = y at e2 ⊢
    generalize ((Int.gcd t b : Nat) : Int) = g at e1 e2
    rw [← e1, ← e2]
    grind
theorem dvd_nat {a b c : Int} (h : Int.gcd a b = 1) (d : b ∣ a * c) : b ∣ c := by
  rw [← Int.natAbs_dvd_natAbs] at d ⊢
  rw [Int.natAbs_mul] at d
  exact Nat.Coprime.dvd_of_dvd_mul_left (k := b.natAbs) (m := a.natAbs) (by
    show Nat.gcd b.natAbs a.natAbs = 1
    rw [Nat.gcd_comm]; exact h) d
theorem num_uniq {a b : Num} (ha : 0 < a.2) (ga : Int.gcd a.1 a.2 = 1) (hb : 0 < b.2) (gb : Int.gcd b.1 b.2 = 1) (e : a.1 * b.2 = b.1 * a.2) : a = b := by
  have d1 : a.2 ∣ b.2 := dvd_nat ga ⟨b.1, by rw [e]; grind⟩
  have d2 : b.2 ∣ a.2 := dvd_nat gb ⟨a.1, by rw [← e]; grind⟩
  have e2 : a.2 = b.2 := Int.dvd_antisymm (by omega) (by omega) d1 d2
  rw [e2] at e
  have e1 : a.1 = b.1 := Int.eq_of_mul_eq_mul_right (by omega) e
  exact Prod.ext e1 e2
/-! sizes -/
def DD : Int := 212100
/-- of size c at level j -/
def Gc (p : Int) (j c : Nat) (n : Num) : Prop := NumOk p n ∧ (p = 0 → n.2 ∣ DD ^ j ∧ (n.1.natAbs : Int) ≤ ((c * 2 ^ j : Nat) : Int) * n.2)
def Gd (p : Int) (j : Nat) (n : Num) : Prop := Gc p j 1 n
theorem Gc.mono {p : Int} {j c c' : Nat} {n : Num} (h : Gc p j c n) (l : c ≤ c') : Gc p j c' n := ⟨h.1, fun e => ⟨(h.2 e).1, by
  have h2 := (h.2 e).2
  have h3 : (((c * 2 ^ j : Nat)) : Int) ≤ ((c' * 2 ^ j : Nat) : Int) := by exact_mod_cast Nat.mul_le_mul_right _ l
  exact Int.le_trans h2 (Int.mul_le_mul_of_nonneg_right h3 (Int.le_of_lt h.1.pos))⟩⟩
theorem Gc.up {p : Int} {j c k : Nat} {n : Num} (h : Gc p j c n) (l : c ≤ 2 ^ k) : Gd p (j + k) n := ⟨h.1, fun e => ⟨Int.dvd_trans (h.2 e).1 (by rw [Int.pow_add]; exact Int.dvd_mul_right _ _), by
  have h2 := (h.2 e).2
  have h3 : (((c * 2 ^ j : Nat)) : Int) ≤ ((1 * 2 ^ (j + k) : Nat) : Int) := by
    have : c * 2 ^ j ≤ 2 ^ k * 2 ^ j := Nat.mul_le_mul_right _ l
    rw [Nat.one_mul, Nat.pow_add, Nat.mul_comm (2 ^ j)]
    exact_mod_cast this
  exact Int.le_trans h2 (Int.mul_le_mul_of_nonneg_right h3 (Int.le_of_lt h.1.pos))⟩⟩
theorem Gd.mono {p : Int} {j j' : Nat} {n : Num} (h : Gd p j n) (l : j ≤ j') : Gd p j' n := by
  have := Gc.up (k := j' - j) h Nat.one_le_two_pow
  rwa [Nat.add_sub_cancel' l] at this
theorem pow_nat (j : Nat) : (((2 : Nat) ^ j : Nat) : Int) = 2 ^ j := by
  rw [Int.natCast_pow]; rfl
theorem pow2_mono {a b : Nat} (h : a ≤ b) : (2 : Int) ^ a ≤ 2 ^ b := by
  rw [← pow_nat, ← pow_nat]
  exact_mod_cast Nat.pow_le_pow_right (by decide) h
theorem dd_nat (j : Nat) : (((212100 : Nat) ^ j : Nat) : Int) = DD ^ j := by
  rw [Int.natCast_pow]; rfl
theorem dd_lt (j : Nat) : DD ^ j ≤ 2 ^ (18 * j) := by
  rw [← dd_nat, ← pow_nat, Nat.pow_mul]
  exact_mod_cast Nat.pow_le_pow_left (by decide : 212100 ≤ 2 ^ 18) j
theorem Gd.sz {p : Int} (hp : PrOk p) {j : Nat} {n : Num} (h : Gd p j n) (hj : j ≤ 200) : Sz n := by
  obtain ⟨h1, h2⟩ := h
  rcases h1 with ⟨e, h3, h4⟩ | ⟨e, h3, h4, h5⟩
  · obtain ⟨d, m⟩ := h2 e
    have hd : n.2 ≤ DD ^ j := Int.le_of_dvd (Int.pow_pos (by decide)) d
    have hd2 : n.2 ≤ 2 ^ (18 * j) := Int.le_trans hd (dd_lt j)
    have k1 : (2 : Int) ^ (18 * j) ≤ 2 ^ 3600 := pow2_mono (by omega)
    have k2 : (2 : Int) ^ j ≤ 2 ^ 200 := pow2_mono hj
    have k3 : (2 : Int) ^ 3600 < 2 ^ 4000 := Int.pow_lt_pow_of_lt (by decide) (by decide)
    have e4 : ((2 : Int) ^ 200) * 2 ^ 3600 = 2 ^ 3800 := by rw [← Int.pow_add]
    have k5 : (2 : Int) ^ 3800 < 2 ^ 4000 := Int.pow_lt_pow_of_lt (by decide) (by decide)
    have p2 : (((pw2 4000 : Nat)) : Int) = 2 ^ 4000 := pow_nat 4000
    have m' : (n.1.natAbs : Int) ≤ 2 ^ j * n.2 := by rw [Nat.one_mul, pow_nat] at m; exact m
    have a1 : (2 : Int) ^ j * n.2 ≤ 2 ^ 200 * 2 ^ 3600 := Int.mul_le_mul k2 (Int.le_trans hd2 k1) (Int.le_of_lt h3) (Int.le_of_lt (Int.pow_pos (by decide)))
    constructor
    · have : ((n.1.natAbs : Nat) : Int) < ((pw2 4000 : Nat) : Int) := by
        rw [p2]; rw [e4] at a1
        exact Int.lt_of_le_of_lt (Int.le_trans m' a1) k5
      exact_mod_cast this
    · have e5 : ((n.2.natAbs : Nat) : Int) = n.2 := by omega
      have : ((n.2.natAbs : Nat) : Int) < ((pw2 4000 : Nat) : Int) := by
        rw [p2, e5]
        exact Int.lt_of_le_of_lt (Int.le_trans hd2 k1) k3
      exact_mod_cast this
  · have hp97 : p ≤ 97 := by rcases hp with h | h <;> omega
    have z : (100 : Nat) < pw2 4000 := Nat.lt_of_lt_of_le (by decide : 100 < pw2 10) (pow_le (by decide))
    constructor
    · exact Nat.lt_trans (by omega) z
    · rw [h3]; exact Nat.lt_trans (by decide) z
theorem numOk_low {t b : Int} (hb : 0 < b) : NumOk 0 (low t b) := by
  obtain ⟨h1, h2, _⟩ := low_spec (t := t) hb
  exact .inl ⟨rfl, h1, h2⟩
theorem abs_mul (a b : Int) : ((a * b).natAbs : Int) = (a.natAbs : Int) * (b.natAbs : Int) := by rw [Int.natAbs_mul, Int.natCast_mul]
/-- the size of a lowest fraction -/
theorem low_size {t b : Int} {j : Nat} {s : Int} (hb : 0 < b) (hd : ∃ u : Int, u * b = t * DD ^ j) (hm : (t.natAbs : Int) ≤ s * b) : (low t b).2 ∣ DD ^ j ∧ ((low t b).1.natAbs : Int) ≤ s * (low t b).2 := by
  obtain ⟨h1, h2, h3⟩ := low_spec (t := t) hb
  generalize (low t b).1 = x at h1 h2 h3 ⊢
  generalize (low t b).2 = y at h1 h2 h3 ⊢
  obtain ⟨u, hu⟩ := hd
  constructor
  · refine dvd_nat h2 ⟨u, ?_⟩
    refine Int.eq_of_mul_eq_mul_right (a := b) (by omega) ?_
    generalize DD ^ j = M at hu
    grind
  · have e := congrArg (fun z : Int => (z.natAbs : Int)) h3
    simp only [abs_mul] at e
    have eb : (b.natAbs : Int) = b := by omega
    have ey : (y.natAbs : Int) = y := by omega
    rw [eb, ey] at e
    refine Int.le_of_mul_le_mul_right (a := b) ?_ hb
    rw [e]
    have := Int.mul_le_mul_of_nonneg_right hm (Int.le_of_lt h1)
    have e2 : s * b * y = s * y * b := by grind
    rw [e2] at this
    exact this
end Fs

set_option Elab.async false
set_option linter.all false
set_option maxHeartbeats 1000000
namespace Fs
/-- a number that is perhaps not of the field's form -/
def NumL (p : Int) (n : Num) : Prop := (p = 0 ∧ 0 < n.2) ∨ (p ≠ 0 ∧ n.2 = 1)
theorem NumOk.l {p : Int} {n : Num} (h : NumOk p n) : NumL p n := by
  rcases h with ⟨h, h2, _⟩ | ⟨h, h2, _⟩
  · exact .inl ⟨h, h2⟩
  · exact .inr ⟨h, h2⟩
theorem NumL.pos {p : Int} {n : Num} (h : NumL p n) : 0 < n.2 := by
  rcases h with ⟨_, h⟩ | ⟨_, h⟩ <;> omega
theorem numL_neg {p : Int} : NumL p (-1, 1) := by
  by_cases e : p = 0
  · exact .inl ⟨e, by decide⟩
  · exact .inr ⟨e, rfl⟩
theorem numL_den {p : Int} {a b : Num} (ha : NumL p a) (hb : NumL p b) : (p = 0 ∧ 0 < a.2 * b.2) ∨ (p ≠ 0 ∧ a.2 * b.2 = 1) := by
  rcases ha with ⟨h, h2⟩ | ⟨h, h2⟩ <;> rcases hb with ⟨g, g2⟩ | ⟨g, g2⟩
  · exact .inl ⟨h, Int.mul_pos h2 g2⟩
  · exact absurd h g
  · exact absurd g h
  · exact .inr ⟨h, by rw [h2, g2]; rfl⟩
theorem numOk_made {p t b : Int} (hp : PrOk p) (h : (p = 0 ∧ 0 < b) ∨ (p ≠ 0 ∧ b = 1)) : NumOk p (made p t b) := by
  unfold made
  rcases h with ⟨e, h⟩ | ⟨e, h⟩
  · rw [if_pos e, e]; exact numOk_low h
  · rw [if_neg e]
    have : 0 < p := by rcases hp with h | h <;> omega
    exact .inr ⟨e, rfl, Int.emod_nonneg _ (by omega), Int.emod_lt_of_pos _ this⟩
theorem numOk_plus {p : Int} {a b : Num} (hp : PrOk p) (ha : NumL p a) (hb : NumL p b) : NumOk p (nplus p a b) := numOk_made hp (numL_den ha hb)
theorem numOk_times {p : Int} {a b : Num} (hp : PrOk p) (ha : NumL p a) (hb : NumL p b) : NumOk p (ntimes p a b) := numOk_made hp (numL_den ha hb)
theorem numOk_zero {p : Int} (hp : PrOk p) : NumOk p (0, 1) := by
  rcases hp with h | h
  · exact .inl ⟨h, by decide, by decide⟩
  · exact .inr ⟨by omega, rfl, by decide, by show 0 < p; omega⟩
theorem numOk_one {p : Int} (hp : PrOk p) : NumOk p (1, 1) := by
  rcases hp with h | h
  · exact .inl ⟨h, by decide, by decide⟩
  · exact .inr ⟨by omega, rfl, by decide, by show 1 < p; omega⟩
theorem one_dvd_dd (j : Nat) : (1 : Int) ∣ DD ^ j := ⟨DD ^ j, by rw [Int.one_mul]⟩
theorem gd_zero {p : Int} (hp : PrOk p) {j c : Nat} : Gc p j c (0, 1) := ⟨numOk_zero hp, fun _ => ⟨one_dvd_dd j, by show (0 : Int) ≤ _ * 1; rw [Int.mul_one]; exact Int.natCast_nonneg _⟩⟩
theorem gd_one {p : Int} (hp : PrOk p) : Gd p 0 (1, 1) := ⟨numOk_one hp, fun _ => ⟨one_dvd_dd 0, by simp⟩⟩
theorem gc_plus {p : Int} (hp : PrOk p) {j c c' : Nat} {a b : Num} (ha : Gc p j c a) (hb : Gc p j c' b) : Gc p j (c + c') (nplus p a b) := by
  refine ⟨numOk_plus hp ha.1.l hb.1.l, fun e => ?_⟩
  obtain ⟨⟨x, hx⟩, ma⟩ := ha.2 e
  obtain ⟨⟨y, hy⟩, mb⟩ := hb.2 e
  have pa := ha.1.pos
  have pb := hb.1.pos
  subst e
  have hpos : 0 < a.2 * b.2 := Int.mul_pos pa pb
  unfold nplus made
  rw [if_pos rfl]
  refine low_size hpos ⟨a.1 * x + b.1 * y, ?_⟩ ?_
  · generalize DD ^ j = M at hx hy
    grind
  · have h1 := Int.natAbs_add_le (a.1 * b.2) (b.1 * a.2)
    have h2 : (((a.1 * b.2 + b.1 * a.2).natAbs : Nat) : Int) ≤ ((a.1 * b.2).natAbs : Int) + ((b.1 * a.2).natAbs : Int) := by exact_mod_cast h1
    rw [abs_mul, abs_mul] at h2
    have ea : (a.2.natAbs : Int) = a.2 := by omega
    have eb : (b.2.natAbs : Int) = b.2 := by omega
    rw [ea, eb] at h2
    have m1 := Int.mul_le_mul_of_nonneg_right ma (Int.le_of_lt pb)
    have m2 := Int.mul_le_mul_of_nonneg_right mb (Int.le_of_lt pa)
    have e3 : (((c + c') * 2 ^ j : Nat) : Int) = ((c * 2 ^ j : Nat) : Int) + ((c' * 2 ^ j : Nat) : Int) := by rw [Nat.add_mul, Int.natCast_add]
    rw [e3]
    generalize ((c * 2 ^ j : Nat) : Int) = u at m1 ⊢
    generalize ((c' * 2 ^ j : Nat) : Int) = v at m2 ⊢
    have e4 : (u + v) * (a.2 * b.2) = u * a.2 * b.2 + v * b.2 * a.2 := by grind
    rw [e4]
    omega
theorem gd_times {p : Int} (hp : PrOk p) {j k : Nat} {a b : Num} (ha : Gd p j a) (hb : Gd p k b) : Gd p (j + k) (ntimes p a b) := by
  refine ⟨numOk_times hp ha.1.l hb.1.l, fun e => ?_⟩
  obtain ⟨⟨x, hx⟩, ma⟩ := ha.2 e
  obtain ⟨⟨y, hy⟩, mb⟩ := hb.2 e
  have pa := ha.1.pos
  have pb := hb.1.pos
  subst e
  unfold ntimes made
  rw [if_pos rfl]
  refine low_size (Int.mul_pos pa pb) ⟨a.1 * x * (b.1 * y), ?_⟩ ?_
  · rw [Int.pow_add]
    generalize DD ^ j = M at hx ⊢
    generalize DD ^ k = N at hy ⊢
    rw [hx, hy]
    grind
  · rw [abs_mul]
    rw [Nat.one_mul, pow_nat] at ma mb ⊢
    have := Int.mul_le_mul ma mb (by omega) (by
      have : (0 : Int) < 2 ^ j := Int.pow_pos (by decide)
      exact Int.le_of_lt (Int.mul_pos this pa))
    have e : (2 : Int) ^ (j + k) * (a.2 * b.2) = 2 ^ j * a.2 * (2 ^ k * b.2) := by
      rw [Int.pow_add]
      generalize (2 : Int) ^ j = M
      generalize (2 : Int) ^ k = N
      grind
    rw [e]; exact this
theorem gd_neg {p : Int} (hp : PrOk p) {j : Nat} {b : Num} (hb : Gd p j b) : Gd p j (ntimes p (-1, 1) b) := by
  refine ⟨numOk_times hp numL_neg hb.1.l, fun e => ?_⟩
  obtain ⟨⟨y, hy⟩, mb⟩ := hb.2 e
  have pb := hb.1.pos
  subst e
  unfold ntimes made
  rw [if_pos rfl]
  have e1 : (1 : Int) * b.2 = b.2 := Int.one_mul _
  show (low (-1 * b.1) (1 * b.2)).2 ∣ _ ∧ _
  rw [e1]
  refine low_size pb ⟨-1 * b.1 * y, ?_⟩ ?_
  · generalize DD ^ j = M at hy
    grind
  · have e2 : ((-1 * b.1).natAbs : Int) = (b.1.natAbs : Int) := by omega
    rw [e2]; exact mb
/-! ### a ring in which the numbers stand -/
structure Vl (p : Int) where
  R : Type
  ring : Lean.Grind.CommRing R
  v : Num → R
  plus : ∀ {a b : Num}, NumL p a → NumL p b → v (nplus p a b) = v a + v b
  times : ∀ {a b : Num}, NumL p a → NumL p b → v (ntimes p a b) = v a * v b
  inj : ∀ {a b : Num}, NumOk p a → NumOk p b → v a = v b → a = b
  zero : v (0, 1) = 0
  one : v (1, 1) = 1
  neg : v (-1, 1) = -1
def vlR : Vl 0 where
  R := Rat
  ring := inferInstance
  v := fun n => Rat.divInt n.1 n.2
  plus := fun {a b} ha hb => by
    have pa := ha.pos
    have pb := hb.pos
    rw [Rat.divInt_add_divInt _ _ (by omega) (by omega)]
    have hpos : 0 < a.2 * b.2 := Int.mul_pos pa pb
    obtain ⟨h1, _, h3⟩ := low_spec (t := a.1 * b.2 + b.1 * a.2) hpos
    exact (Rat.divInt_eq_divInt_iff (Int.ne_of_gt h1) (Int.ne_of_gt hpos)).mpr h3
  times := fun {a b} ha hb => by
    have pa := ha.pos
    have pb := hb.pos
    rw [Rat.divInt_mul_divInt]
    have hpos : 0 < a.2 * b.2 := Int.mul_pos pa pb
    obtain ⟨h1, _, h3⟩ := low_spec (t := a.1 * b.1) hpos
    exact (Rat.divInt_eq_divInt_iff (Int.ne_of_gt h1) (Int.ne_of_gt hpos)).mpr h3
  inj := fun {a b} ha hb h => by
    rcases ha with ⟨_, h1, h2⟩ | ⟨h, _⟩
    · rcases hb with ⟨_, g1, g2⟩ | ⟨h, _⟩
      · exact num_uniq h1 h2 g1 g2 ((Rat.divInt_eq_divInt_iff (by omega) (by omega)).mp h)
      · exact absurd rfl h
    · exact absurd rfl h
  zero := Rat.zero_divInt 1
  one := by decide +kernel
  neg := by decide +kernel
def vlF (k : Nat) [NeZero k] : Vl (k : Int) where
  R := Fin k
  ring := inferInstance
  v := fun n => @IntCast.intCast (Fin k) Lean.Grind.Ring.intCast n.1
  plus := fun {a b} ha hb => by
    have hk : (k : Int) ≠ 0 := by have := NeZero.ne k; omega
    have ea : a.2 = 1 := by rcases ha with ⟨h, _⟩ | ⟨_, h⟩; exact absurd h hk; exact h
    have eb : b.2 = 1 := by rcases hb with ⟨h, _⟩ | ⟨_, h⟩; exact absurd h hk; exact h
    unfold nplus made
    rw [if_neg hk, ea, eb, Int.mul_one, Int.mul_one, ← Lean.Grind.Ring.intCast_add]
    exact Lean.Grind.IsCharP.intCast_emod k _
  times := fun {a b} ha hb => by
    have hk : (k : Int) ≠ 0 := by have := NeZero.ne k; omega
    unfold ntimes made
    rw [if_neg hk, ← Lean.Grind.Ring.intCast_mul]
    exact Lean.Grind.IsCharP.intCast_emod k _
  inj := fun {a b} ha hb h => by
    have hk : (k : Int) ≠ 0 := by have := NeZero.ne k; omega
    rcases ha with ⟨h, _⟩ | ⟨_, h1, h2, h3⟩
    · exact absurd h hk
    rcases hb with ⟨h, _⟩ | ⟨_, g1, g2, g3⟩
    · exact absurd h hk
    have e := (Lean.Grind.IsCharP.intCast_ext_iff k).mp h
    rw [Int.emod_eq_of_lt h2 h3, Int.emod_eq_of_lt g2 g3] at e
    exact Prod.ext e (h1.trans g1.symm)
  zero := Lean.Grind.Ring.intCast_zero
  one := Lean.Grind.Ring.intCast_one
  neg := Lean.Grind.Ring.intCast_neg_one
theorem vl_of {p : Int} (hp : PrOk p) : Nonempty (Vl p) := by
  rcases hp with h | ⟨h, _⟩
  · subst h; exact ⟨vlR⟩
  · obtain ⟨k, rfl⟩ := Int.eq_ofNat_of_zero_le (show 0 ≤ p by omega)
    haveI : NeZero k := ⟨by omega⟩
    exact ⟨vlF k⟩
end Fs

set_option Elab.async false
set_option linter.all false
set_option maxRecDepth 100000
set_option maxHeartbeats 2000000
namespace Fs
open PySem PySem.Spec
/-! ### rows of terms -/
abbrev Tm := List Int × Num
def keyLt (q r : List Int) : Bool := decide (q.length < r.length ∨ (q.length = r.length ∧ q < r))
def srt (r : List Tm) : List Tm := r.mergeSort fun a b => !keyLt b.1 a.1
def acc1 (p : Int) (d : Dct) (t : Tm) : Dct := putD d t.1 (nplus p ((valD d t.1).getD (0, 1)) t.2)
def accum (p : Int) (ts : List Tm) : Dct := ts.foldl (acc1 p) []
def nz (t : Tm) : Bool := !decide (t.2 = (0, 1))
def gath (p : Int) (ts : List Tm) : List Tm := srt ((accum p ts).filter nz)
def PdOk (n : Int) (q : List Int) : Prop := q.Pairwise (· < ·) ∧ ∀ i ∈ q, 0 ≤ i ∧ i < n
def TmOk (p n : Int) (j : Nat) (t : Tm) : Prop := PdOk n t.1 ∧ Gd p j t.2
def RowOk (p n : Int) (j : Nat) (r : List Tm) : Prop := ∀ t ∈ r, TmOk p n j t
theorem eqv_tupI (a b : List Int) : PyData.eqv (.tuple (a.map .int)) (.tuple (b.map .int)) = decide (a = b) := by
  simp only [PyData.eqv, eqv_ints]
theorem keyD_lt (q r : List Int) : PySem.W.dataLt (keyD q) (keyD r) = keyLt q r := by
  unfold keyD keyLt
  rw [PySem.W.dataLt_pair (by simp [PySem.W.alike]) (by simp [PySem.W.alike, PySem.W.alike_ints]), eqv_tupI, PySem.W.dataLt_int, PySem.W.dataLt_tuple]
  have e : PyProof.Rows.lexLt PyProof.Rows.itemOrd (PySem.W.keyToksAll (q.map .int)) (PySem.W.keyToksAll (r.map .int)) = decide (q < r) := PySem.W.dataLt_ints q r
  rw [e]
  simp only [PyData.eqv, beq_iff_eq]
  by_cases h1 : (q.length : Int) = (r.length : Int)
  · have h1' : q.length = r.length := by omega
    rw [if_pos h1]
    by_cases h2 : q = r
    · subst h2
      simp
    · simp [h2, h1']
  · have h1' : ¬ q.length = r.length := by omega
    rw [if_neg h1]
    simp [h1']
end Fs

set_option Elab.async false
set_option linter.all false
set_option maxRecDepth 100000
set_option maxHeartbeats 2000000
namespace Fs
open PySem PySem.Spec PyProof.Rows L2 C8
abbrev rows (K : PySem.W.Frag) (r : List Tm) : Rp := lstR K (r.map (term K))
def at_ (ps : List Int) (i : Int) : Int := ps.getD i.toNat 0
section
variable {K : PySem.W.Frag} {σ : L2.St} {W W' W0 : Wd} {ta tb tc te tl tv td ty tx : TE} {t u : TT} {R RA RB : Rp} {rs ss : List Rp} {g : TG} {l m : Addr} {tu tz : TS} {D : Ends} {ps qs : List Int} {i : Int}
theorem rpa_ints' {H : Hp} {ps : List Int} {vs : List V} (h : vs = ps.map V.int) : RpA (ps.map int) H vs := by rw [h]; exact rpa_ints
theorem prod_sq {H : Hp} {a : Addr} (h : H a = some (.tup (ps.map V.int))) : SqT K H a (ps.map V.int) := .inl (.inl h)
/-- t + u, both of whole numbers -/
theorem ev_cat (ha : Ev ta σ W (prod ps)) (hb : Ev tb σ W (prod qs)) (hz : ps.length + qs.length ≤ 100000) : Ev (tOp (rCatA K) ta tb) σ W (prod (ps ++ qs)) :=
  ev_op ha hb fun x y W1 _ hx hy W2 l Q q => by
    obtain ⟨a, rfl, h1⟩ := hx
    obtain ⟨b, rfl, h2⟩ := hy
    have h1' := W2.ex _ _ (l.b _ _ h1)
    have h2' := W2.ex _ _ (l.b _ _ h2)
    refine ⟨a, b, _, _, rfl, rfl, prod_sq h1', prod_sq h2', by rw [List.length_map, List.length_map]; exact Nat.le_trans hz (by decide), fun e => ?_, fun _ e => ?_, fun _ _ p hp => ?_⟩
    · have e' : ps = [] := List.map_eq_nil_iff.mp e
      subst e'
      exact q _ W2 (Le.refl _) ⟨b, rfl, l.b _ _ h2⟩
    · have e' : qs = [] := List.map_eq_nil_iff.mp e
      subst e'
      exact q _ W2 (Le.refl _) ⟨a, rfl, by rw [List.append_nil]; exact l.b _ _ h1⟩
    · have le := W2.mk_le (o := .tup (ps.map V.int ++ qs.map V.int)) hp
      exact q _ (W2.mk' p _ hp nb_tup) le ⟨p, rfl, by rw [List.map_append]; exact upd_same⟩
/-- tuple(sorted(set(one + other))) -/
theorem ev_joined {w : World} (ha : Ev ta σ W (prod ps)) (hb : Ev tb σ W (prod qs)) (hz : ps.length + qs.length ≤ 60) :
    Ev (tCB (fun xs H Q => ∃ p ys, xs = [.ref p] ∧ ((SqL K H p ys ∧ ∀ l, H l = none → Q (.ref l) (upd H l (.tup ys))) ∨ (SqT K H p ys ∧ Q (.ref p) H))) (tCons (tCB (rSortedSet w) (tCons (tCB (rSetI K w) (tCons (tOp (rCatA K) ta tb) tNil)) tNil)) tNil)) σ W (prod (usort (ps ++ qs))) := by
  have hl : (ps ++ qs).length ≤ 60 := by rw [List.length_append]; exact hz
  exact ev_tupOfI (ev_sortSet (ev_setI (ev_prodT (ev_cat ha hb (Nat.le_trans hz (by decide)))) hl) hl)
theorem ev_sortI {ns : List Int} (h : Ev ta σ W (lstR K (ns.map int))) : Ev (tCB (rSortedI K) (tCons ta tNil)) σ W (anyR (fun ns' : List Int => ns'.Perm ns ∧ ns'.Pairwise (· ≤ ·)) fun ns' => lstR K (ns'.map int)) := fun W1 l Q q =>
  h W1 l _ fun v W2 l2 ⟨a, vs, e, h1, h2⟩ => ⟨a, ns, by rw [e], by rw [← rpa_ints_eq h2]; exact lsq (W2.ex _ _ h1), fun ns' p hp hs hn => q _ (W2.mk' p (.lst (ns'.map V.int)) hn) (l2.trans (W2.mk_le hn)) ⟨ns', ⟨hp, hs⟩, p, _, rfl, upd_same, rpa_ints⟩⟩
theorem srt_usort {ns ns' : List Int} (hp : ns'.Perm ns) (hs : ns'.Pairwise (· ≤ ·)) (hn : ns.Nodup) : ns' = usort ns := by
  refine usort_of ?_ fun k => hp.mem_iff
  have hn' : ns'.Nodup := hp.nodup_iff.mpr hn
  exact List.Pairwise.imp₂ (fun a b (h1 : a ≤ b) (h2 : a ≠ b) => by omega) hs hn'
theorem ev_sortU {ns : List Int} (h : Ev ta σ W (lstR K (ns.map int))) (hn : ns.Nodup) : Ev (tCB (rSortedI K) (tCons ta tNil)) σ W (lstR K ((usort ns).map int)) :=
  (ev_sortI h).imp fun W1 v _ ⟨ns', ⟨h1, h2⟩, hv⟩ => by rw [← srt_usort h1 h2 hn]; exact hv
/-- list(xs) -/
theorem ev_listOf (h : Ev ta σ W (lstR K rs)) : Ev (tCB (fun xs H Q => ∃ p ys, xs = [.ref p] ∧ (SqL K H p ys ∨ SqT K H p ys) ∧ ∀ l, H l = none → Q (.ref l) (upd H l (.lst ys))) (tCons ta tNil)) σ W (lstR K rs) := fun W1 l Q q =>
  h W1 l _ fun v W2 l2 ⟨a, vs, e, h1, h2⟩ => ⟨a, vs, by rw [e], .inl (lsq (W2.ex _ _ h1)), fun p hp => q _ (W2.mk' p (.lst vs) hp) (l2.trans (W2.mk_le hp)) ⟨p, vs, rfl, upd_same, h2.mono (W2.mk_le (o := .lst vs) hp).b⟩⟩
/-- xs + ys -/
theorem ev_catL (ha : Ev ta σ W (lstR K rs)) (hb : Ev tb σ W (lstR K ss)) (hz : rs.length + ss.length ≤ 100000) : Ev (tOp rCat ta tb) σ W (lstR K (rs ++ ss)) :=
  ev_op ha hb fun x y W1 _ hx hy W2 l Q q => by
    obtain ⟨a, vs, rfl, h1, h2⟩ := hx
    obtain ⟨b, us, rfl, h3, h4⟩ := hy
    refine ⟨a, b, vs, us, rfl, rfl, W2.ex _ _ (l.b _ _ h1), W2.ex _ _ (l.b _ _ h3), by rw [h2.len, h4.len]; exact Nat.le_trans hz (by decide), fun p hp => ?_⟩
    have le := W2.mk_le (o := .lst (vs ++ us)) hp
    exact q _ (W2.mk' p _ hp) le ⟨p, _, rfl, upd_same, (h2.mono (l.b.trans le.b)).app (h4.mono (l.b.trans le.b))⟩
theorem ixN_of {n : Nat} {i : Int} (h0 : 0 ≤ i) (h1 : i < n) : ixN n i = some i.toNat := by
  unfold ixN
  simp only [h0, h1]
  first | rfl | simp | (rw [if_pos (by omega)]) | (split <;> first | rfl | omega)
theorem at_get {ps : List Int} {i : Int} (h0 : 0 ≤ i) (h1 : i < ps.length) : ps[i.toNat]? = some (at_ ps i) := by
  unfold at_
  rw [List.getD_eq_getElem?_getD, List.getElem?_eq_getElem (show i.toNat < ps.length by omega)]; rfl
theorem ev_ixP (ha : Ev ta σ W (prod ps)) (hb : Ev tb σ W (int i)) (h0 : 0 ≤ i) (h1 : i < ps.length) : Ev (tOp (rIxT K) ta tb) σ W (int (at_ ps i)) :=
  ev_ixT (ev_prodT ha) hb (j := i.toNat) (by rw [List.length_map]; exact ixN_of h0 h1) (by rw [List.getElem?_map, at_get h0 h1]; rfl)
theorem ev_ixI (ha : Ev ta σ W (lstR K (ps.map int))) (hb : Ev tb σ W (int i)) (h0 : 0 ≤ i) (h1 : i < ps.length) : Ev (tOp (rIxL K) ta tb) σ W (int (at_ ps i)) :=
  ev_ixL ha hb (j := i.toNat) (by rw [List.length_map]; exact ixN_of h0 h1) (by rw [List.getElem?_map, at_get h0 h1]; rfl)
theorem ixN_last {n : Nat} (h : 0 < n) : ixN n (-1) = some (n - 1) := by
  unfold ixN
  first | (rw [if_neg (by omega), if_pos (by omega)]; congr 1; omega) | (simp; omega) | (split <;> first | omega | (congr 1; omega))
theorem ev_ixLast (ha : Ev ta σ W (prod ps)) (hb : Ev tb σ W (int (-1))) (h : ps ≠ []) : Ev (tOp (rIxT K) ta tb) σ W (int (ps.getLast h)) := by
  have hl : 0 < ps.length := List.length_pos_iff.mpr h
  refine ev_ixT (ev_prodT ha) hb (j := ps.length - 1) (by rw [List.length_map]; exact ixN_last hl) ?_
  rw [List.getElem?_map, List.getElem?_eq_getElem (by omega), List.getLast_eq_getElem]; rfl
theorem perm_zip {α β : Type} {as as' : List (α × β)} (h : as'.Perm as) : (as'.map (·.2)).Perm (as.map (·.2)) := h.map _
theorem rpa_zip {α : Type} {F : α → Rp} {H : Hp} : ∀ {xs : List α} {vs : List V}, RpA (xs.map F) H vs → vs.length = xs.length ∧ ∀ b ∈ vs.zip xs, (F b.2).p H b.1
  | [], [], _ => ⟨rfl, fun b h => by simp at h⟩
  | x :: xs, v :: vs, h => by
    obtain ⟨h1, h2⟩ := rpa_zip h.2
    refine ⟨by simp [h1], fun b hb => ?_⟩
    rw [List.zip_cons_cons] at hb
    rcases List.mem_cons.mp hb with rfl | hb
    · exact h.1
    · exact h2 b hb
  | [], _ :: _, h => h.elim
  | _ :: _, [], h => h.elim
theorem rpa_of_zip {α : Type} {F : α → Rp} {H : Hp} : ∀ {zs : List (V × α)}, (∀ b ∈ zs, (F b.2).p H b.1) → RpA ((zs.map (·.2)).map F) H (zs.map (·.1))
  | [], _ => True.intro
  | z :: zs, h => ⟨h z (List.mem_cons_self ..), rpa_of_zip fun b hb => h b (List.mem_cons_of_mem _ hb)⟩
/-- a sorted list of things that stand for xs -/
theorem rpa_sort {α : Type} {F : α → Rp} {H : Hp} {xs : List α} {vs : List V} {le : α → α → Bool} (h : RpA (xs.map F) H vs) : RpA ((xs.mergeSort le).map F) H (((vs.zip xs).mergeSort fun a b => le a.2 b.2).map (·.1)) := by
  obtain ⟨h1, h2⟩ := rpa_zip h
  have z := rpa_of_zip (F := F) (H := H) (zs := (vs.zip xs).mergeSort fun a b => le a.2 b.2) fun b hb => h2 b ((List.mergeSort_perm _ _).mem_iff.mp hb)
  rw [List.map_mergeSort (s := le) (fun _ _ _ _ => rfl), List.map_snd_zip (by omega)] at z
  exact z
theorem zip_map_snd {α β : Type} (f : α → β) : ∀ (vs : List V) (xs : List α), vs.zip (xs.map f) = (vs.zip xs).map fun b => (b.1, f b.2)
  | [], _ => by simp
  | v :: vs, [] => by simp
  | v :: vs, x :: xs => by simp [zip_map_snd f vs xs]
/-- sorted(rows, key=lambda ..) -/
theorem ev_sortLam {r : List Tm} {T : List (Addr × Str)} (hT : W.T = T) (h : Ev ta σ W (rows K r)) (hz : r.length ≤ 100000) : Ev (tSortLam K T ta) σ W (rows K (srt r)) := hT ▸ fun W1 l Q q =>
  h W1 l _ fun v W2 l2 ⟨a, vs, e, h1, h2⟩ => by
    obtain ⟨z1, z2⟩ := rpa_zip h2
    have et : W2.T = W.T := l2.t.trans l.t
    have z1' : vs.length = (r.map (·.1)).length := by rw [List.length_map]; exact z1
    refine ⟨by rw [← et]; exact W2.tb, a, vs, r.map (·.1), e, lsq (W2.ex _ _ h1), z1', by omega, fun b hb => ?_, fun H2 eN T2 p hp => ?_⟩
    · rw [zip_map_snd] at hb
      obtain ⟨c, hc, rfl⟩ := List.mem_map.mp hb
      obtain ⟨x, ys, ex, hx, hy⟩ := z2 c hc
      obtain ⟨u, w, rfl, ⟨b, rfl, hu⟩, hw⟩ := hy.two
      exact ⟨x, _, b, ex, sqt_mono W2.ex hx, rfl, W2.ex _ _ hu⟩
    · have T2' : LamX.Tabs W2.T H2 := by rw [et]; exact T2
      have l3 := W2.tab_le eN T2'
      have hp3 : (W2.tab H2 eN T2').H p = none := hp
      have es : ((vs.zip (r.map (·.1))).mergeSort (PySem.W.dataLe false fun b : V × List Int => keyD b.2)).map (·.1) = ((vs.zip r).mergeSort fun a b => !keyLt b.2.1 a.2.1).map (·.1) := by
        rw [zip_map_snd, ← List.map_mergeSort (r := fun (a b : V × Tm) => !keyLt b.2.1 a.2.1), List.map_map]
        · rfl
        · intro a _ b _
          show (!keyLt b.2.1 a.2.1) = !PySem.W.dataLt (keyD b.2.1) (keyD a.2.1)
          rw [keyD_lt]
      rw [es]
      have l4 := (W2.tab H2 eN T2').mk_le (o := .lst (((vs.zip r).mergeSort fun a b => !keyLt b.2.1 a.2.1).map (·.1))) hp3
      exact q _ ((W2.tab H2 eN T2').mk' p _ hp3) ((l2.trans l3).trans l4) ⟨p, _, rfl, upd_same, (rpa_sort (le := fun (a b : Tm) => !keyLt b.1 a.1) h2).mono l4.b⟩
/-- sorted(xs), plain data -/
theorem ev_sortD {α : Type} {F : α → Rp} {G : α → PyData} {xs : List α} {n : Nat} {le : α → α → Bool} (h : Ev ta σ W (lstR K (xs.map F))) (hG : ∀ a, Dt K n (F a) (G a)) (hn : n ≤ 60) (hal : ∀ a b, PySem.W.alike (G a) (G b) = true) (hs : ∀ a, ∃ x r, G a = .tuple (x :: r)) (hz : xs.length ≤ 100000)
    (hle : ∀ a ∈ xs, ∀ b ∈ xs, (!PySem.W.dataLt (G b) (G a)) = le a b) : Ev (tCB (rSortD K) (tCons ta tNil)) σ W (lstR K ((xs.mergeSort le).map F)) := fun W1 l Q q =>
  h W1 l _ fun v W2 l2 ⟨a, vs, e, h1, h2⟩ => by
    obtain ⟨z1, z2⟩ := rpa_zip h2
    have hd : DtA K n (xs.map F) (xs.map G) := dta_map hG
    obtain ⟨d1, _, _⟩ := dta_all hd (h2.mono W2.ex)
    refine ⟨a, vs, xs.map G, by rw [e], lsq (W2.ex _ _ h1), d1, PySem.W.AllAlike.of hal, PySem.W.Sortable.tuples hs, fun d hd' => ?_, by omega, fun p hp => ?_⟩
    · obtain ⟨x, _, rfl⟩ := List.mem_map.mp hd'
      exact Nat.le_trans (hG x).2.2 hn
    · have es : ((vs.zip (xs.map G)).mergeSort dLe).map (·.1) = ((vs.zip xs).mergeSort fun a b => le a.2 b.2).map (·.1) := by
        rw [zip_map_snd, ← List.map_mergeSort (r := fun (a b : V × α) => le a.2 b.2), List.map_map]
        · rfl
        · intro a ha b hb
          exact (hle a.2 (List.of_mem_zip ha).2 b.2 (List.of_mem_zip hb).2).symm
      rw [es]
      have l4 := W2.mk_le (o := .lst (((vs.zip xs).mergeSort fun a b => le a.2 b.2).map (·.1))) hp
      exact q _ (W2.mk' p _ hp) (l2.trans l4) ⟨p, _, rfl, upd_same, (rpa_sort h2).mono l4.b⟩
/-- a dict is made of a list of pairs: one that stays to be changed -/
def mergeD (d : Dct) (ts : List Tm) : Dct := ts.foldl (fun d t => putD d t.1 t.2) d
theorem kv_merge {H : Hp} : ∀ {ts : List Tm} {kvs more : List (List L2.Key × V)} {d : Dct}, KvR K H kvs d → KvR K H more ts → KvR K H (mergeT kvs more) (mergeD d ts)
  | [], _, [], _, h, _ => h
  | t :: ts, kvs, kv :: more, d, h, g => by
    have h2 := h.put (q := t.1) g.2.1
    rw [← g.1] at h2
    exact kv_merge (kvs := putK kvs kv.1 kv.2) (d := putD d t.1 t.2) h2 g.2.2
  | [], _, _ :: _, _, _, g => g.elim
  | _ :: _, _, [], _, _, g => g.elim
/-- a list of pairs, for dict(..) -/
theorem pairs_rpa {W2 : Wd} : ∀ {ts : List Tm} {vs : List V}, RpA (ts.map (term K)) W2.B vs → ∃ (as : List Addr) (kvs : List (List L2.Key × V)), vs = as.map V.ref ∧ as.length = ts.length ∧ Paired (fun p kv => ∃ q, SqT K W2.H p [.ref q, kv.2] ∧ W2.H q = some (.tup (kv.1.map kV))) as kvs ∧ KvR K W2.B kvs ts
  | [], [], _ => ⟨[], [], rfl, rfl, .nil, True.intro⟩
  | t :: ts, v :: vs, h => by
    obtain ⟨as, kvs, e, el, h1, h2⟩ := pairs_rpa h.2
    obtain ⟨x, ys, rfl, hx, hy⟩ := h.1
    obtain ⟨u, w, rfl, ⟨b, rfl, hu⟩, hw⟩ := hy.two
    exact ⟨x :: as, (keyP t.1, w) :: kvs, by rw [e]; rfl, by simp [el], .cons ⟨b, sqt_mono W2.ex hx, by rw [keyP_kV]; exact W2.ex _ _ hu⟩ h1, rfl, hw, h2⟩
  | [], _ :: _, h => h.elim
  | _ :: _, [], h => h.elim
theorem s_newDP {i : Nat} {ts : List Tm} (h : Ev ta σ W (rows K ts)) (hz : ts.length ≤ 100000) (k : ∀ l W1, Same W.B W1.B → Le W W1 → Fre W l → LocD K W1 l (mergeD [] ts) → D.nx (σ.set i (some (.ref l))) W1.H) : tAsg (tCB (rDictT K) (tCons ta tNil)) (gName i) D σ W.H :=
  h W (Le.refl _) _ fun v W2 l2 ⟨a, vs, e, h1, h2⟩ => by
    obtain ⟨as, kvs, ev, el, g1, g2⟩ := pairs_rpa h2
    subst ev
    refine ⟨a, as, kvs, by rw [e], lsq (W2.ex _ _ h1), g1, by omega, fun p hp => ?_⟩
    exact k p (W2.loc p _ hp) l2.b (l2.trans (W2.loc_le hp)) (l2.free (Wd.fre hp)) ⟨W2.bfree hp, (Wd.fre hp).nr, _, upd_same, kv_merge (kvs := []) (d := []) True.intro g2⟩
theorem q_newDP {i : Nat} {ts : List Tm} (h : Ev ta σ W (rows K ts)) (hz : ts.length ≤ 100000) (k : ∀ l W1, Same W.B W1.B → Le W W1 → Fre W l → LocD K W1 l (mergeD [] ts) → tz D (σ.set i (some (.ref l))) W1.H) : tSeq (tAsg (tCB (rDictT K) (tCons ta tNil)) (gName i)) tz D σ W.H := s_newDP (D := { D with nx := tz D }) h hz k
/-- dict(..), done at once -/
theorem ev_dictPF {ts : List Tm} (h : Ev ta σ W (rows K ts)) (hz : ts.length ≤ 100000) : Ev (tFrzE (tCB (rDictT K) (tCons ta tNil))) σ W (dctR K (mergeD [] ts)) := fun W1 l Q q =>
  h W1 l _ fun v W2 l2 ⟨a, vs, e, h1, h2⟩ => by
    obtain ⟨as, kvs, ev, el, g1, g2⟩ := pairs_rpa h2
    subst ev
    refine ⟨a, as, kvs, by rw [e], lsq (W2.ex _ _ h1), g1, by omega, fun p hp => ⟨p, _, rfl, upd_same, True.intro, fun od => ?_⟩⟩
    have e2 : upd (upd W2.H p (.dT (mergeT [] kvs))) p (.frz od (.dT (mergeT [] kvs))) = upd W2.H p (.frz od (.dT (mergeT [] kvs))) := upd_upd
    rw [e2]
    have l4 := W2.mk_le (o := .frz od (.dT (mergeT [] kvs))) hp
    exact q _ (W2.mk' p _ hp) (l2.trans l4) ⟨p, od, _, rfl, upd_same, (kv_merge (kvs := []) (d := []) True.intro g2).mono l4.b⟩
/-- a != b, two dicts of one content -/
theorem ev_neDT {d e : Dct} (ha : Ev ta σ W (dctR K d)) (hb : Ev tb σ W (dctR K e)) (hl : d.length = e.length) (hm : ∀ t ∈ d, t ∈ e) : Ev (tOp (rNeDT K) ta tb) σ W (bl false) :=
  ev_op ha hb fun x y W1 _ hx hy W2 l Q q => by
    obtain ⟨a, oa, kvs, rfl, h1, h2⟩ := hx
    obtain ⟨b, ob, lws, rfl, h3, h4⟩ := hy
    have h2' := h2.mono (l.b.trans W2.ex)
    have h4' := h4.mono (l.b.trans W2.ex)
    refine ⟨a, b, kvs, lws, rfl, rfl, .inr ⟨oa, W2.ex _ _ (l.b _ _ h1)⟩, .inr ⟨ob, W2.ex _ _ (l.b _ _ h3)⟩, by rw [h2.len, h4.len, hl], fun kv hkv => ?_, q _ W2 (Le.refl _) rfl⟩
    obtain ⟨i, hi⟩ := List.mem_iff_getElem?.mp hkv
    obtain ⟨t, g1, g2, g3⟩ := h2'.get hi
    obtain ⟨j, hj⟩ := List.mem_iff_getElem?.mp (hm t (List.mem_of_getElem? g1))
    have hjl : j < lws.length := by rw [h4.len]; exact (List.getElem?_eq_some_iff.mp hj).1
    obtain ⟨t', f1, f2, f3⟩ := h4'.get (List.getElem?_eq_getElem hjl)
    cases hj.symm.trans f1
    have dn := dt_num (K := K) (n := t.2)
    refine ⟨lws[j], List.getElem_mem hjl, by rw [g2, f2], dNum t.2, dn.1 _ _ g3, dn.1 _ _ f3, shaped_of dn (by decide), ?_⟩
    rw [eqv_num, decide_eq_true rfl]
theorem ev_max1 {ns : List Int} (h : Ev ta σ W (lstR K (ns.map int))) (hn : ns ≠ []) : Ev (tCB (rMax K) (tCons ta tNil)) σ W (anyR (fun m => m ∈ ns ∧ ∀ y ∈ ns, y ≤ m) int) := fun W1 l Q q =>
  h W1 l _ fun v W2 l2 ⟨a, vs, e, h1, h2⟩ => ⟨a, ns, by rw [e], by rw [← rpa_ints_eq h2]; exact lsq (W2.ex _ _ h1), List.length_pos_iff.mpr hn, fun m hm hy => q _ W2 l2 ⟨m, ⟨hm, hy⟩, rfl⟩⟩
theorem ev_notBl {a b : Bool} (ha : Ev ta σ W (bl a)) (hb : Ev tb σ W (bl b)) : Ev (tOp rNotB ta tb) σ W (bl (!decide (a = b))) :=
  ev_op ha hb fun x y W1 _ hx hy W2 l Q q => ⟨a, b, hx, hy, q _ W2 (Le.refl _) rfl⟩
theorem ev_lenSet {ns : List Int} (h : Ev ta σ W (lstR K (ns.map int))) (hn : ns.Nodup) (hz : ns.length ≤ 4000) : Ev (RZ.tLenSetI K ta) σ W (int (ns.length : Int)) := fun W1 l Q q =>
  h W1 l _ fun v W2 l2 ⟨a, vs, e, h1, h2⟩ => ⟨a, ns, e, by rw [← rpa_ints_eq h2]; exact lsq (W2.ex _ _ h1), hn, hz, q _ W2 l2 rfl⟩
end
end Fs

set_option Elab.async false
set_option linter.all false
set_option maxRecDepth 100000
set_option maxHeartbeats 2000000
namespace Fs
open PySem PySem.Spec PyProof.Rows L2 C8
theorem room_u3 {k : Nat} {A : Around} (r : Room k A) : A.units + 3 < cLine := by have := r.un; omega
def cG (K : PySem.W.Frag) : Addr := He.codeOf K ("gathered", none)
def tG (K : PySem.W.Frag) : Addr := He.tabOf K (cG K)
def tabT (K : PySem.W.Frag) : List (Addr × Str) := [(tG K, (("gathered" : Str) ++ ".<locals>.") ++ "<lambda>")]
structure Ty (K : PySem.W.Frag) (mg : Str → Option Value) (base : Heap) : Prop extends Tx K mg where
  tb : LamX.TabB base mg (cG K) (tG K)
section
variable {P : Program} {w : World} {K : PySem.W.Frag} {mg : Str → Option Value} {base : Heap} {x qual : Str} {params : Arguments} {body : List Stmt} {scope : Scope} {dvs : List V} {kws : List (Str × V)} {f : Addr} {fd : FuncData}
theorem okC {CX : CXT} {N ps : List Str} {k : Nat} {sp : Sp} {p : He.Defn} (F : FunD K x qual params body scope dvs kws (He.fAd K p) fd) (S : FnScope N ps scope) (len : ∀ vs H Q E, sp vs H Q E → vs.length = ps.length)
    (hbody : ∀ (cdv : Value) (A : Around) (outer : List Env) (s : Shared) (H : Hp) (vs : List V) (Q : VK) (E : XK), cdv = .ref (He.codeOf K p) → Room k (A.deeper (envOfC qual scope s.heap.objs.size (He.fAd K p) cdv)) → sp vs H Q E →
      ∃ t, PSs (cxOf CX P w K mg base N qual scope (He.fAd K p) cdv A outer s H E) body t ∧ t { nx := fun _ H' => Q .non H', rt := Q } (start N vs) H) : FnOk P w K mg base CX (k + 1) (He.fAd K p) fd ps sp := by
  obtain ⟨oc, od, dV, kV, doc, pm, an, cdv, ct, osl, rfl, lk, hcd, _, _⟩ := F.ex
  obtain ⟨c, rfl⟩ := He.codeIn_ref hcd
  have e := He.codeOf_eq lk rfl
  exact fn_of lk hcd S len fun A outer s H vs Q E hr hsp => hbody _ A outer s H vs Q E (by rw [e]) hr hsp
end
def sumR (K : PySem.W.Frag) (x : Int × List Tm) : Rp := insR (He.ga K "Sum") ["own_field", "row"] [fld K x.1, rows K x.2]
abbrev sums (K : PySem.W.Frag) (p : Int) (rs : List (List Tm)) : Rp := lstR K (rs.map fun r => sumR K (p, r))
def sysR (K : PySem.W.Frag) (x : Int × Int × List (List Tm)) : Rp := insR (He.ga K "System") ["own_field", "many_places", "nought_sums", "upper_sums"] [fld K x.1, int x.2.1, sums K x.1 x.2.2, lstR K []]
end Fs
namespace Fs
open PySem PySem.Spec PyProof.Rows L2 C8
abbrev rLenQ (K : PySem.W.Frag) : List V → Hp → VK → Prop := fun xs H Q => ∃ p ys, xs = [.ref p] ∧ (SqL K H p ys ∨ SqT K H p ys) ∧ Q (.int ys.length) H
abbrev rTupQ (K : PySem.W.Frag) : List V → Hp → VK → Prop := fun xs H Q => ∃ p ys, xs = [.ref p] ∧ ((SqL K H p ys ∧ ∀ l, H l = none → Q (.ref l) (upd H l (.tup ys))) ∨ (SqT K H p ys ∧ Q (.ref p) H))
abbrev rLstQ (K : PySem.W.Frag) : List V → Hp → VK → Prop := fun xs H Q => ∃ p ys, xs = [.ref p] ∧ (SqL K H p ys ∨ SqT K H p ys) ∧ ∀ l, H l = none → Q (.ref l) (upd H l (.lst ys))
end Fs

set_option Elab.async false
set_option linter.all false
set_option maxRecDepth 100000
set_option maxHeartbeats 2000000
namespace Fs
open PySem PySem.Spec PyProof.Rows L2 C8
local macro_rules | `(tactic| walk_at "up") => `(tactic| first
  | assumption
  | ((refine Rp.mono _ (by assumption : Same _ _) ?_); walk_at "up")
  | ((refine Rp.mono _ (Le.b (by assumption)) ?_); walk_at "up"))
local macro_rules | `(tactic| walk_at "ev") => `(tactic| first
  | ((with_reducible refine' ev_var ?h1 ?h2); (case h1 => rfl); (case h2 => walk_at "up"))
  | ((with_reducible refine' ev_vi ?h1); (case h1 => rfl))
  | with_reducible exact ev_ci
  | ((with_reducible refine' ev_get0 ?ea); (case ea => walk_at "ev"))
  | ((with_reducible refine' ev_get1 ?ea); (case ea => walk_at "ev"))
  | ((with_reducible refine' ev_I0 ?ea ?eb); (case ea => walk_at "ev"); (case eb => walk_at "ev"))
  | ((with_reducible refine' ev_notV ?ea); (case ea => walk_at "ev"))
  | ((with_reducible refine' eb_test ?ea); (case ea => walk_at "ev"))
  | ((with_reducible refine' eb_B ?ea); (case ea => walk_at "ev"))
  | ((with_reducible refine' eb_not ?ea); (case ea => walk_at "ev"))
  | ((with_reducible refine' ev_eq ?ea ?eb ?ec); (case ea => walk_at "ev"); (case eb => walk_at "ev"); (case ec => rfl))
  | ((with_reducible refine' ev_ne ?ea ?eb ?ec); (case ea => walk_at "ev"); (case eb => walk_at "ev"); (case ec => rfl))
  | ((with_reducible refine' ev_chainI ?ea ?eb ?ec); (case ea => walk_at "ev"); (case eb => walk_at "ev"); (case ec => walk_at "ev"))
  | with_reducible exact ea_nil
  | ((with_reducible refine' ea_cons ?ea ?eb); (case ea => walk_at "ev"); (case eb => walk_at "ev")))
section
variable {P : Program} {w : World} {K : PySem.W.Frag} {mg : Str → Option Value} {base : Heap}
def sp_is_place : Sp := spG (ι := Int) (fun i => [int i]) (fun _ i => 0 ≤ i ∧ i < 60) fun _ => bl true
theorem ok_is_place (T : Tx K mg) : Cal P w K mg base 2 "is_place" sp_is_place [] := by
  have h_is_whole := ok_is_whole (P := P) (w := w) (base := base) T
  obtain ⟨fd, F⟩ := T.d_is_place
  refine ⟨_, fd, ["thing"], [], F.ok sc_is_place (spG_len fun _ => rfl) (fun cdv A outer s H vs Q E hr h => ?_), T.g_is_place, F.kp, F.bindsN (fun _ _ _ _ _ _ us hl => match us, hl with | [_], _ => rfl), .nil⟩
  obtain ⟨W, i, rfl, ha, ⟨hi0, hi1⟩, k⟩ := h
  obtain ⟨v0, rfl, rfl⟩ := ha.one
  refine ⟨_, PSs.nox (pss_one (ps_ret (pe_and (pe_c h_is_whole hr (by decide) rfl (pa_cons (pv 0) pa_nil)) (pe_one (pe_chain op_le op_lt pe_int (pv 0) (pe_gc rfl T.c_MOST_PLACES)))))), ?_⟩
  try simp only [cxK, cxW, cxP]
  refine s_ret (R := bl true) (ev_andV (a := true) (ev_whole (by walk_at "ev")) (fun _ => ev_is (ev_chainI (by walk_at "ev") (by walk_at "ev") (by walk_at "ev")) ?_) (fun e => nomatch e)) k
  rw [decide_eq_true hi0, decide_eq_true hi1]; rfl
theorem ev_place {σ : L2.St} {W : Wd} {t : TA} {E : XK} {i : Int} (h : EvA t σ W [int i]) (h0 : 0 ≤ i) (h1 : i < 60) : Ev (tCall sp_is_place [] E t) σ W (bl true) := ev_call h i rfl fun _ _ => ⟨h0, h1⟩
def PrOkS (q : List Int) : Prop := PdOk 60 q
def sp_is_product : Sp := spG (ι := List Int) (fun q => [prod q]) (fun _ q => PdOk 60 q ∧ q.length ≤ 60) fun _ => bl true
theorem drop_at {α : Type} {q : List α} {i : Nat} {y : α} (h : q[i]? = some y) : q.drop i = y :: q.drop (i + 1) := by
  obtain ⟨h1, h2⟩ := List.getElem?_eq_some_iff.mp h
  rw [← h2]; exact List.drop_eq_getElem_cons h1
theorem map_at {α β : Type} {F : α → β} {q : List α} {i : Nat} {r : β} (h : (q.map F)[i]? = some r) : ∃ y, q[i]? = some y ∧ r = F y ∧ y ∈ q := (take_snoc h).2
theorem ok_is_product (T : Tx K mg) : Cal P w K mg base 3 "is_product" sp_is_product [] := by
  have h_is_place := ok_is_place (P := P) (w := w) (base := base) T
  obtain ⟨fd, F⟩ := T.d_is_product
  refine ⟨_, fd, ["thing"], [], F.ok sc_is_product (spG_len fun _ => rfl) (fun cdv A outer s H vs Q E hr h => ?_), T.g_is_product, F.kp, F.bindsN (fun _ _ _ _ _ _ us hl => match us, hl with | [_], _ => rfl), .nil⟩
  obtain ⟨W, q, rfl, ha, ⟨⟨hq, hr0⟩, hz⟩, k⟩ := h
  obtain ⟨v0, rfl, h0⟩ := ha.one
  refine ⟨_, PSs.nox (pss_cons (ps_if (pt_not (pt_val (pe_callB call_isi (by rfl) T.b_isinstance (by decide +kernel) (pa_cons (pv 0) (pa_cons (pe_bltn (v := .ty "tuple") (by rfl) T.b_tuple (by decide +kernel) rfl) pa_nil))))) (pss_one (ps_ret pe_bl)) pss_nil)
    (pss_cons (ps_set (i := 1) sc_is_product.nd rfl (Or.inl rfl) (pe_un un_neg pe_int))
    (pss_cons (ps_for PassesOwn.never rfl (pi_tup (pv 0)) (pg_name (i := 2) sc_is_product.nd rfl (Or.inl rfl)) (pss_cons (ps_if (PW.pt (pw_or (pt_not (pt_val (pe_c h_is_place hr (by decide) rfl (pa_cons (pv 2) pa_nil)))) (pw_or1 (pt_cmpR op_le (pv 2) (pv 1) (nomark _))))) (pss_one (ps_ret pe_bl)) pss_nil)
    (pss_one (ps_set (i := 1) sc_is_product.nd rfl (Or.inl rfl) (pv 2)))))
    (pss_one (ps_ret pe_bl))))), ?_⟩
  try simp only [cxK, cxW, cxP]
  refine q_skip (eb_is (eb_not (eb_B (ev_isi (R := prod q) (by walk_at "ev") (fun W1 v hv => ty_tup (K := K) W1 v (prod_tup hv)) (.ty _) (kit_ty (r := true) (by decide +kernel))))) rfl) fun W1 l1 => ?_
  refine q_asg (R := int (-1)) (ev_neg (by walk_at "ev")) ?_
  rintro _ W2 l2 rfl
  refine q_forI (it_prod (K := K) (ps := q) (by walk_at "ev")) (fun i σ' W' => ∃ (last : Int) (o : Option V), σ' = [some v0, some (.int last), o] ∧ Le W W' ∧ ∀ y ∈ q.drop i, last < y) (fun W3 l3 => ⟨-1, none, rfl, (l1.trans l2).trans l3, fun y hy => ?_⟩) ?_ ?_
  · have := (hr0 y (List.mem_of_mem_drop hy)).1
    omega
  · rintro i r x σ' W' W4 N hi s ⟨last, o, rfl, l, hl⟩ l4 hx n
    obtain ⟨y, hy, rfl, hm⟩ := map_at hi
    cases hx
    have hd := drop_at hy
    refine g_name ?_
    refine q_skip (eb_or (eb_is (eb_not (eb_B (ev_place (by walk_at "ev") (hr0 y hm).1 (hr0 y hm).2))) rfl) (fun _ => eb_is (by walk_at "ev") ?_) (fun e => nomatch e)) fun W5 l5 => ?_
    · have := hl y (by rw [hd]; exact List.mem_cons_self ..)
      exact decide_eq_false (by omega)
    · refine s_asg (R := int y) (by walk_at "ev") ?_
      rintro _ W6 l6 rfl
      refine n _ W6 (l5.trans l6).b ⟨y, some (.int y), rfl, ((l.trans l4).trans l5).trans l6, fun z hz' => ?_⟩
      have hp : (q.drop i).Pairwise (· < ·) := hq.sublist (List.drop_sublist i q)
      rw [hd] at hp
      exact (List.pairwise_cons.mp hp).1 z hz'
  · rintro σ' W' s ⟨last, o, rfl, l, _⟩
    exact s_ret (R := bl true) (by walk_at "ev") fun v W3 l3 hv => k v W3 (l.trans l3) hv
def sp_joined_product : Sp := spG (ι := List Int × List Int) (fun x => [prod x.1, prod x.2]) (fun _ x => x.1.length + x.2.length ≤ 60) fun x => prod (usort (x.1 ++ x.2))
theorem ok_joined_product (T : Tx K mg) : Cal P w K mg base 1 "joined_product" sp_joined_product [] := by
  obtain ⟨fd, F⟩ := T.d_joined_product
  refine ⟨_, fd, ["one", "other"], [], F.ok sc_joined_product (spG_len fun _ => rfl) (fun cdv A outer s H vs Q E hr h => ?_), T.g_joined_product, F.kp, F.bindsN (fun _ _ _ _ _ _ us hl => match us, hl with | [_, _], _ => rfl), .nil⟩
  obtain ⟨W, ⟨q, r⟩, rfl, ha, hz, k⟩ := h
  obtain ⟨v0, v1, rfl, h0, h1⟩ := ha.two
  refine ⟨_, PSs.nox (pss_one (ps_ret (pe_callTy call_tuple_of (by rfl) T.b_tuple (by decide +kernel) (pa_cons (pe_callB (cr_sortedSet rfl) (by rfl) T.b_sorted (by decide +kernel) (pa_cons (pe_callTy (cr_setI rfl) (by rfl) T.b_set (by decide +kernel) (pa_cons (pe_op op_catA (pv 0) (pv 1)) pa_nil)) pa_nil)) pa_nil)))), ?_⟩
  try simp only [cxK, cxW, cxP]
  exact s_ret (R := prod (usort (q ++ r))) (ev_joined (ev_var rfl h0) (ev_var rfl h1) hz) k
end
end Fs

set_option Elab.async false
set_option linter.all false
set_option maxRecDepth 100000
set_option maxHeartbeats 1000000
namespace Fs
/-! ### dicts and rows: plain laws -/
theorem PdOk.le {n m : Int} {q : List Int} (h : PdOk n q) (l : n ≤ m) : PdOk m q := ⟨h.1, fun i hi => ⟨(h.2 i hi).1, Int.lt_of_lt_of_le (h.2 i hi).2 l⟩⟩
theorem rising_len : ∀ {q : List Int} {n : Nat} {lo : Int}, q.Pairwise (· < ·) → (∀ i ∈ q, lo ≤ i ∧ i < lo + n) → q.length ≤ n
  | [], _, _, _, _ => Nat.zero_le _
  | x :: q, n, lo, h, hr => by
    obtain ⟨h1, h2⟩ := List.pairwise_cons.mp h
    have hx := hr x (List.mem_cons_self ..)
    have hn : 0 < n := by omega
    have := rising_len (q := q) (n := n - 1) (lo := lo + 1) h2 fun i hi => by
      have := h1 i hi
      have := hr i (List.mem_cons_of_mem _ hi)
      omega
    rw [List.length_cons]; omega
theorem PdOk.len {n : Int} {q : List Int} (h : PdOk n q) (h0 : 0 ≤ n) : q.length ≤ n.toNat := rising_len (lo := 0) h.1 fun i hi => by have := h.2 i hi; omega
theorem PdOk.len60 {n : Int} {q : List Int} (h : PdOk n q) (l : n ≤ 60) : q.length ≤ 60 := (h.le l).len (by decide)
theorem val_mem {d : Dct} {q : List Int} {n : Num} (h : valD d q = some n) : (q, n) ∈ d := by
  unfold valD at h
  cases e : d.find? fun t => decide (t.1 = q) with
  | none => rw [e] at h; cases h
  | some t =>
    rw [e] at h
    have h1 : t.1 = q := by simpa using List.find?_some e
    have h2 : t.2 = n := Option.some.inj h
    rw [← h1, ← h2]
    exact List.mem_of_find?_eq_some e
theorem val_some {d : Dct} {t : Tm} (hn : (d.map (·.1)).Nodup) (h : t ∈ d) : valD d t.1 = some t.2 := by
  induction d with
  | nil => simp at h
  | cons a d ih =>
    rw [List.map_cons, List.nodup_cons] at hn
    rcases List.mem_cons.mp h with rfl | h
    · simp [valD]
    · have ne : ¬ a.1 = t.1 := fun e => hn.1 (by rw [e]; exact List.mem_map_of_mem h)
      have := ih hn.2 h
      unfold valD at this ⊢
      rw [List.find?_cons]
      simp only [ne, decide_false]
      exact this
theorem val_none {d : Dct} {q : List Int} (h : q ∉ d.map (·.1)) : valD d q = none := by
  unfold valD
  rw [List.find?_eq_none.mpr fun t ht => by
    simp only [decide_eq_true_eq]
    exact fun e => h (by rw [← e]; exact List.mem_map_of_mem ht)]
  rfl
theorem mem_putD {d : Dct} {q : List Int} {n : Num} {t : Tm} (h : t ∈ putD d q n) : t = (q, n) ∨ t ∈ d := by
  unfold putD at h
  split at h
  · obtain ⟨a, ha, rfl⟩ := List.mem_map.mp h
    split
    · rename_i e; exact .inl (by rw [e])
    · exact .inr ha
  · rcases List.mem_append.mp h with h | h
    · exact .inr h
    · exact .inl (by simpa using h)
theorem keys_putD {d : Dct} {q : List Int} {n : Num} : (putD d q n).map (·.1) = if q ∈ d.map (·.1) then d.map (·.1) else d.map (·.1) ++ [q] := by
  have e : (d.any fun t => decide (t.1 = q)) = true ↔ q ∈ d.map (·.1) := by
    rw [List.any_eq_true, List.mem_map]
    exact ⟨fun ⟨t, h1, h2⟩ => ⟨t, h1, by simpa using h2⟩, fun ⟨t, h1, h2⟩ => ⟨t, h1, by simpa using h2⟩⟩
  unfold putD
  by_cases h : q ∈ d.map (·.1)
  · rw [if_pos (e.mpr h), if_pos h, List.map_map]
    refine List.map_congr_left fun t _ => ?_
    show (if t.1 = q then (t.1, n) else t).1 = t.1
    split <;> rfl
  · rw [if_neg (fun z => h (e.mp z)), if_neg h, List.map_append]; rfl
theorem nodup_putD {d : Dct} {q : List Int} {n : Num} (h : (d.map (·.1)).Nodup) : ((putD d q n).map (·.1)).Nodup := by
  rw [keys_putD]
  split
  · exact h
  · rename_i hq
    rw [List.nodup_append]
    exact ⟨h, by simp, fun a ha b hb => by
      have : b = q := by simpa using hb
      subst this
      exact fun e => hq (by rw [← e]; exact ha)⟩
theorem val_putD_same {d : Dct} {q : List Int} {n : Num} : valD (putD d q n) q = some n := by
  unfold putD valD
  split
  · rename_i h
    rw [List.find?_map]
    obtain ⟨t, h1, h2⟩ := List.any_eq_true.mp h
    cases e : d.find? ((fun t : Tm => decide (t.1 = q)) ∘ fun t => if t.1 = q then (t.1, n) else t) with
    | none =>
      rw [List.find?_eq_none] at e
      have := e t h1
      have h2' : t.1 = q := by simpa using h2
      simp [h2'] at this
    | some t' =>
      have h3 := List.find?_some e
      by_cases z : t'.1 = q
      · simp [z]
      · simp [z] at h3
  · rename_i h
    rw [List.find?_append]
    have : d.find? (fun t => decide (t.1 = q)) = none := by
      rw [List.find?_eq_none]
      intro t ht e
      exact h (List.any_eq_true.mpr ⟨t, ht, e⟩)
    rw [this]; simp
theorem val_putD_ne {d : Dct} {q r : List Int} {n : Num} (h : ¬ q = r) : valD (putD d q n) r = valD d r := by
  unfold putD valD
  split
  · rw [List.find?_map]
    have e : ((fun t : Tm => decide (t.1 = r)) ∘ fun t : Tm => if t.1 = q then (t.1, n) else t) = fun t : Tm => decide (t.1 = r) := by
      funext t
      by_cases z : t.1 = q <;> simp [z]
    rw [e]
    cases e2 : d.find? fun t => decide (t.1 = r) with
    | none => rfl
    | some t =>
      have h1 : t.1 = r := by simpa using List.find?_some e2
      have : ¬ t.1 = q := fun z => h (z.symm.trans h1)
      simp [this]
  · rw [List.find?_append]
    have : List.find? (fun t : Tm => decide (t.1 = r)) [(q, n)] = none := by simp [h]
    rw [this, Option.or_none]
/-! gathering -/
theorem accum_take {p : Int} {ts : List Tm} {i : Nat} {t : Tm} (h : ts[i]? = some t) : accum p (ts.take (i + 1)) = acc1 p (accum p (ts.take i)) t := by
  unfold accum
  rw [List.take_add_one, h, List.foldl_append]; rfl
def AccOk (p n : Int) (j c : Nat) (d : Dct) : Prop := (d.map (·.1)).Nodup ∧ ∀ t ∈ d, PdOk n t.1 ∧ Gc p j c t.2
theorem acc1_ok {p n : Int} {j c : Nat} {d : Dct} {t : Tm} (hp : PrOk p) (h : AccOk p n j c d) (ht : TmOk p n j t) : AccOk p n j (c + 1) (acc1 p d t) := by
  refine ⟨nodup_putD h.1, fun u hu => ?_⟩
  rcases mem_putD hu with rfl | hu
  · refine ⟨ht.1, gc_plus hp ?_ ht.2⟩
    cases e : valD d t.1 with
    | none => exact gd_zero hp
    | some n' => exact (h.2 _ (val_mem e)).2
  · exact ⟨(h.2 u hu).1, (h.2 u hu).2.mono (by omega)⟩
theorem accum_ok {p n : Int} {j : Nat} (hp : PrOk p) : ∀ (ts : List Tm) (c : Nat) (d : Dct), RowOk p n j ts → AccOk p n j c d → AccOk p n j (c + ts.length) (ts.foldl (acc1 p) d)
  | [], c, d, _, h => h
  | t :: ts, c, d, hr, h => by
    have := accum_ok hp ts (c + 1) (acc1 p d t) (fun u hu => hr u (List.mem_cons_of_mem _ hu)) (acc1_ok hp h (hr t (List.mem_cons_self ..)))
    rw [List.length_cons, List.foldl_cons]
    have e : c + (ts.length + 1) = c + 1 + ts.length := by omega
    rw [e]; exact this
theorem accum_ok0 {p n : Int} {j : Nat} {ts : List Tm} (hp : PrOk p) (hr : RowOk p n j ts) : AccOk p n j ts.length (accum p ts) := by
  have := accum_ok hp ts 0 [] hr ⟨.nil, fun t h => by simp at h⟩
  rw [Nat.zero_add] at this; exact this
theorem accum_len {p : Int} : ∀ (ts : List Tm) (d : Dct), (ts.foldl (acc1 p) d).length ≤ d.length + ts.length
  | [], d => Nat.le_refl _
  | t :: ts, d => by
    have h := accum_len (p := p) ts (acc1 p d t)
    have h2 := len_putD d t.1 (nplus p ((valD d t.1).getD (0, 1)) t.2)
    rw [List.foldl_cons, List.length_cons]
    have : (acc1 p d t).length ≤ d.length + 1 := h2
    omega
theorem accum_len0 {p : Int} {ts : List Tm} : (accum p ts).length ≤ ts.length := by
  have := accum_len (p := p) ts []
  simpa [accum] using this
theorem RowOk.take {p n : Int} {j : Nat} {ts : List Tm} (h : RowOk p n j ts) (i : Nat) : RowOk p n j (ts.take i) := fun t ht => h t (List.mem_of_mem_take ht)
theorem mem_gath {p : Int} {ts : List Tm} {t : Tm} : t ∈ gath p ts ↔ t ∈ accum p ts ∧ t.2 ≠ (0, 1) := by
  unfold gath srt
  rw [(List.mergeSort_perm _ _).mem_iff, List.mem_filter]
  unfold nz
  simp
theorem gath_ok {p n : Int} {j : Nat} {ts : List Tm} (hp : PrOk p) (hr : RowOk p n j ts) (hz : ts.length ≤ 256) : RowOk p n (j + 8) (gath p ts) := fun t ht => by
  obtain ⟨h1, h2⟩ := (accum_ok0 hp hr).2 t (mem_gath.mp ht).1
  exact ⟨h1, h2.up (by omega)⟩
theorem gath_len {p : Int} {ts : List Tm} : (gath p ts).length ≤ ts.length := by
  unfold gath srt
  rw [List.length_mergeSort]
  refine Nat.le_trans (List.length_filter_le ..) ?_
  have := accum_len (p := p) ts []
  simpa [accum] using this
theorem gath_nodup {p n : Int} {j : Nat} {ts : List Tm} (hp : PrOk p) (hr : RowOk p n j ts) : ((gath p ts).map (·.1)).Nodup := by
  unfold gath srt
  refine (List.Perm.map _ (List.mergeSort_perm _ _)).nodup_iff.mpr ?_
  exact (accum_ok0 hp hr).1.sublist (List.filter_sublist.map _)
end Fs

set_option Elab.async false
set_option linter.all false
set_option maxRecDepth 100000
set_option maxHeartbeats 2000000
namespace Fs
open PySem PySem.Spec PyProof.Rows L2 C8
theorem putD_putD {d : Dct} {q : List Int} {z m : Num} (h : valD d q = none) : putD (putD d q z) q m = putD d q m := by
  have hn : (d.any fun t => decide (t.1 = q)) = false := by
    unfold valD at h
    cases e : d.find? fun t => decide (t.1 = q) with
    | none =>
      rw [List.find?_eq_none] at e
      rw [List.any_eq_false]
      exact e
    | some t => rw [e] at h; cases h
  have hm : ∀ t ∈ d, ¬ t.1 = q := fun t ht e => by
    have := List.any_eq_false.mp hn t ht
    simp [e] at this
  have e1 : putD d q z = d ++ [(q, z)] := by unfold putD; rw [hn]; rfl
  have e2 : putD d q m = d ++ [(q, m)] := by unfold putD; rw [hn]; rfl
  rw [e1, e2]
  unfold putD
  rw [if_pos (by simp), List.map_append]
  congr 1
  · conv => rhs; rw [← List.map_id d]
    exact List.map_congr_left fun t ht => by rw [if_neg (hm t ht)]; rfl
  · simp
section
variable {K : PySem.W.Frag} {σ : L2.St} {W W' W0 : Wd} {ta tb tc te tl tv td ty tx tf tn tz : TE} {l m : Addr} {D : Ends} {d : Dct} {q : List Int} {n dn : Num} {p : Int} {E : XK} {t : Tm} {rs ss : List Rp} {r : Rp}
theorem prs_at {i : Nat} (h : (prs K rs ss)[i]? = some r) : ∃ r1 r2, rs[i]? = some r1 ∧ ss[i]? = some r2 ∧ r = tupR K [r1, r2] := by
  unfold prs at h
  rw [List.getElem?_zipWith] at h
  split at h
  · rename_i a b h1 h2
    exact ⟨_, _, h1, h2, (Option.some.inj h).symm⟩
  · cases h
theorem ev_t0 (h : Ev ta σ W (term K t)) : Ev (tOp (rIxT K) ta (tC (.int 0))) σ W (prod t.1) := ev_ixT (rs := [prod t.1, num K t.2]) h ev_ci (j := 0) rfl rfl
theorem ev_t1 (h : Ev ta σ W (term K t)) : Ev (tOp (rIxT K) ta (tC (.int 1))) σ W (num K t.2) := ev_ixT (rs := [prod t.1, num K t.2]) h ev_ci (j := 1) rfl rfl
theorem s_setdP {i iq im : Nat} {vq vn : V} (hi : σ[i]? = some (some (.ref l))) (L : LocD K W l d) (hf : Ev tf σ W (fld K p)) (hvq : σ[iq]? = some (some vq)) (hrq : (prod q).p W.B vq) (hz0 : Ev tz σ W (num K (0, 1))) (hvn : σ[im]? = some (some vn)) (hrn : (num K n).p W.B vn) (hz : d.length < 90000) (hp : PlusOk (p, (valD d q).getD (0, 1), n))
    (k : ∀ W1, Up l W W1 → LocD K W1 l (acc1 p d (q, n)) → D.nx σ W1.H) :
    sDPut (tVar i) (tVar iq) (tMeth (He.ga K "Field") "plus" (sp_Field_plus K) [] E tf (tCons (tBM K "dict" rSetdT (tVar i) (tCons (tVar iq) (tCons tz tNil))) (tCons (tVar im) tNil))) D σ W.H := by
  refine hf W (Le.refl _) _ fun x W1 l1 hx => ?_
  obtain ⟨a, dx, fs, h1, h2, h3⟩ := (fld_noprime (K := K) (p := p) (m := "plus") (by decide +kernel)) _ _ hx
  refine ⟨a, dx, fs, h1, W1.ex _ _ h2, h3, ?_⟩
  refine ⟨_, hi, ?_, ?_⟩
  · obtain ⟨b, r, kvs, g1, g2⟩ := L.le l1
    exact .inr (.inr (.inl ⟨rfl, .inr ⟨kvs, g1⟩⟩))
  refine ⟨_, hvq, hz0 W1 l1 _ fun z W3 l3 hz3 => ?_⟩
  have l13 := l1.trans l3
  obtain ⟨b, r, kvs, g1, g2⟩ := L.le l13
  obtain ⟨b', rfl, hb⟩ := prod_at ((prod q).mono l13.b hrq)
  have rest : ∀ (d' : Dct) (v : V) (W4 : Wd), Up l W W4 → LocD K W4 l d' → (num K ((valD d q).getD (0, 1))).p W4.B v → (fld K p).p W4.B x → d'.length < 100000 → putD d' q (nplus p ((valD d q).getD (0, 1)) n) = acc1 p d (q, n) →
      (tCons (tVar im) tNil) σ W4.H fun us H4 => (sp_Field_plus K) (x :: ((v :: us) ++ [])) H4 (fun v' H5 => tVar i σ H5 fun x' H6 => (tVar iq) σ H6 fun y' H7 => ∃ a H8, x' = .ref a ∧ DPut H7 a y' v' H8 ∧ D.nx σ H8) E := by
    intro d' v W4 u4 L4 hv hx4 hz4 hacc
    refine ⟨_, hvn, W4, (p, (valD d q).getD (0, 1), n), rfl, ⟨hx4, hv, (num K n).mono u4.b hrn, True.intro⟩, hp, fun v' W6 l6 hv' => ?_⟩
    refine ⟨_, hi, _, hvq, ?_⟩
    obtain ⟨b2, e2, hb2⟩ := prod_at ((prod q).mono (u4.b.trans l6.b) hrq)
    obtain ⟨kvs', W8, k1, k2, k3, k4, k5⟩ := (L4.le l6).put (q := q) hv' hz4
    rw [hacc] at k5
    exact ⟨l, _, rfl, .inr ⟨kvs', keyP q, b2, k1, e2, hb2, k2, rfl⟩, by rw [← k3]; exact k W8 ((u4.trans l6.up).trans k4) k5⟩
  refine ⟨l, kvs, keyP q, b', z, rfl, rfl, g1, hb, by rw [g2.len]; exact Nat.lt_trans hz (by decide), fun v hv => ?_, fun hv => ?_⟩
  · rcases g2.val (q := q) with ⟨_, e2⟩ | ⟨n', v', e1, e2, hn'⟩
    · rw [hv] at e2; cases e2
    · rw [hv] at e2
      cases e2
      exact rest d v W3 l13.up (L.le l13) (by rw [e1]; exact hn') ((fld K p).mono l3.b hx) (by omega) rfl
  · rcases g2.val (q := q) with ⟨e1, e2⟩ | ⟨n', v', e1, e2, hn'⟩
    · obtain ⟨kvs', W4, k1, k2, k3, k4, k5⟩ := (L.le l13).put (q := q) (n := (0, 1)) hz3 (by omega)
      have ek : kvs' = kvs := by
        rw [g1] at k1
        cases k1; rfl
      subst ek
      rw [← k3]
      have lp := len_putD d q (0, 1)
      refine rest (putD d q (0, 1)) z W4 (l13.up.trans k4) k5 (by rw [e1]; exact (num K (0, 1)).mono k4.b hz3) ((fld K p).mono (l3.b.trans k4.b) hx) (by omega) ?_
      show putD _ q _ = putD d q _
      rw [putD_putD e1]
    · rw [hv] at e2; cases e2
end
local macro_rules | `(tactic| walk_at "up") => `(tactic| first
  | assumption
  | ((refine Rp.mono _ (by assumption : Same _ _) ?_); walk_at "up")
  | ((refine Rp.mono _ (Le.b (by assumption)) ?_); walk_at "up"))
local macro_rules | `(tactic| walk_at "ev") => `(tactic| first
  | ((with_reducible refine' ev_var ?h1 ?h2); (case h1 => rfl); (case h2 => walk_at "up"))
  | ((with_reducible refine' ev_vi ?h1); (case h1 => rfl))
  | with_reducible exact ev_ci
  | ((with_reducible refine' ev_get0 ?ea); (case ea => walk_at "ev"))
  | ((with_reducible refine' ev_get1 ?ea); (case ea => walk_at "ev"))
  | ((with_reducible refine' ev_I0 ?ea ?eb); (case ea => walk_at "ev"); (case eb => walk_at "ev"))
  | ((with_reducible refine' ev_notV ?ea); (case ea => walk_at "ev"))
  | ((with_reducible refine' eb_test ?ea); (case ea => walk_at "ev"))
  | ((with_reducible refine' eb_B ?ea); (case ea => walk_at "ev"))
  | ((with_reducible refine' eb_not ?ea); (case ea => walk_at "ev"))
  | ((with_reducible refine' ev_eq ?ea ?eb ?ec); (case ea => walk_at "ev"); (case eb => walk_at "ev"); (case ec => rfl))
  | ((with_reducible refine' ev_ne ?ea ?eb ?ec); (case ea => walk_at "ev"); (case eb => walk_at "ev"); (case ec => rfl))
  | ((with_reducible refine' ev_chainI ?ea ?eb ?ec); (case ea => walk_at "ev"); (case eb => walk_at "ev"); (case ec => walk_at "ev"))
  | with_reducible exact ea_nil
  | ((with_reducible refine' ea_cons ?ea ?eb); (case ea => walk_at "ev"); (case eb => walk_at "ev")))
section
variable {P : Program} {w : World} {K : PySem.W.Frag} {mg : Str → Option Value} {base : Heap}
/-- (p, places, level, terms) -/
abbrev IT := Int × Int × Nat × List Tm
def TermsOk (x : IT) : Prop := PrF x.1 ∧ x.2.1 ≤ 60 ∧ x.2.2.1 ≤ 190 ∧ RowOk x.1 x.2.1 x.2.2.1 x.2.2.2 ∧ x.2.2.2.length ≤ 256
def sp_look_at_terms (K : PySem.W.Frag) : Sp := spG (ι := IT) (fun x => [fld K x.1, rows K x.2.2.2]) (fun _ x => TermsOk x) fun _ => is .non
theorem ok_look_at_terms (T : Tx K mg) : Cal P w K mg base 4 "look_at_terms" (sp_look_at_terms K) [] := by
  have h_is_product := ok_is_product (P := P) (w := w) (base := base) T
  have h_Field_is_number := ok_Field_is_number (P := P) (w := w) (base := base) T
  obtain ⟨fd, F⟩ := T.d_look_at_terms
  refine ⟨_, fd, ["field", "terms"], [], F.ok sc_look_at_terms (spG_len fun _ => rfl) (fun cdv A outer s H vs Q E hr h => ?_), T.g_look_at_terms, F.kp, F.bindsN (fun _ _ _ _ _ _ us hl => match us, hl with | [_, _], _ => rfl), .nil⟩
  obtain ⟨W, ⟨p, n, j, ts⟩, rfl, ha, ⟨hp, hn, hj, hr0, hz⟩, k⟩ := h
  obtain ⟨v0, v1, rfl, h0, h1⟩ := ha.two
  refine ⟨_, PSs.nox (pss_cons (ps_if (pt_not (pt_val (pe_callB call_isi (by rfl) T.b_isinstance (by decide +kernel) (pa_cons (pv 1) (pa_cons (pe_bltn (v := .ty "list") (by rfl) T.b_list (by decide +kernel) rfl) pa_nil))))) (pss_one ps_never) pss_nil)
    (pss_one (ps_for PassesOwn.never rfl (pi_enum (by rfl) T.b_enumerate (pa_cons (pv 1) pa_nil)) (pg_tup rfl (pgs_cons (pg_name (i := 2) sc_look_at_terms.nd rfl (Or.inl rfl)) (pgs_cons (pg_name (i := 3) sc_look_at_terms.nd rfl (Or.inl rfl)) pgs_nil))) (pss_cons (ps_if (PW.pt (pw_or (pt_not (pt_val (pe_callB call_isi (by rfl) T.b_isinstance (by decide +kernel) (pa_cons (pv 3) (pa_cons (pe_bltn (v := .ty "tuple") (by rfl) T.b_tuple (by decide +kernel) rfl) pa_nil))))) (pw_or1 (pt_cmpR op_ne (pe_callB call_len_seq (by rfl) T.b_len (by decide +kernel) (pa_cons (pv 3) pa_nil)) pe_int (nomark _))))) (pss_one ps_never) pss_nil)
    (pss_one (ps_if (PW.pt (pw_or (pt_not (pt_val (pe_c h_is_product hr (by decide) rfl (pa_cons (pe_ix ix_tup (pv 3) pe_int (fun _ _ => rfl)) pa_nil)))) (pw_or1 (pt_not (pt_val (pe_mt h_Field_is_number hr (by decide) (pv 0) (pa_cons (pe_ix ix_tup (pv 3) pe_int (fun _ _ => rfl)) pa_nil))))))) (pss_one ps_never) pss_nil)))))), ?_⟩
  try simp only [cxK, cxW, cxP]
  refine q_skip (eb_is (eb_not (eb_B (ev_isi (R := rows K ts) (by walk_at "ev") ty_lst (.ty _) (kit_ty (r := true) (by decide +kernel))))) rfl) fun W1 l1 => ?_
  refine s_forI (it_enum (K := K) (rs := ts.map (term K)) (ea_cons (by walk_at "ev") ea_nil)) (fun i σ' W' => ∃ o1 o2 : Option V, σ' = [some v0, some v1, o1, o2] ∧ Le W W') (fun W3 l3 => ⟨none, none, rfl, l1.trans l3⟩) ?_ ?_
  · rintro i r x σ' W' W4 N hi s ⟨o1, o2, rfl, l⟩ l4 hx nx
    obtain ⟨r1, r2, e1, e2, rfl⟩ := prs_at hi
    obtain ⟨t, ht, rfl, hm⟩ := map_at e2
    refine g_pair hx fun x1 x2 hx1 hx2 => ?_
    obtain ⟨t1, t2⟩ := hr0 t hm
    refine q_skip (eb_or (eb_is (eb_not (eb_B (ev_isi (R := term K t) (by walk_at "ev") (fun W v h => ty_tup (K := K) (rs := [prod t.1, num K t.2]) W v h) (.ty _) (kit_ty (r := true) (by decide +kernel))))) rfl) (fun _ => eb_is (eb_test (ev_ne (ev_lenT (K := K) (rs := [prod t.1, num K t.2]) (ev_var rfl hx2)) ev_ci rfl)) rfl) (fun e => nomatch e)) fun W5 l5 => ?_
    refine s_skip (eb_or (eb_is (eb_not (eb_B (ev_call (x := t.1) (ea_cons (ev_t0 (t := t) (ev_var rfl ((term K t).mono l5.b hx2))) ea_nil) rfl fun _ _ => ⟨t1.le hn, t1.len60 hn⟩))) rfl) (fun _ => eb_is (eb_not (eb_B (ev_meth (R := fld K p) (by walk_at "ev") (fld_noprime (by decide +kernel)) (ea_cons (ev_t1 (t := t) (ev_var rfl ((term K t).mono l5.b hx2))) ea_nil) (p, t.2) rfl fun _ _ => ⟨hp.ok, t2.1, t2.sz hp.ok (by omega)⟩))) rfl) (fun e => nomatch e)) fun W6 l6 => ?_
    exact nx _ W6 (l5.trans l6).b ⟨_, _, rfl, ((l.trans l4).trans l5).trans l6⟩
  · rintro σ' W' s ⟨o1, o2, rfl, l⟩
    exact k _ W' l rfl
end
end Fs

set_option Elab.async false
set_option linter.all false
set_option maxRecDepth 100000
set_option maxHeartbeats 2000000
namespace Fs
open PySem PySem.Spec PyProof.Rows L2 C8
local macro_rules | `(tactic| walk_at "up") => `(tactic| first
  | assumption
  | ((refine Rp.mono _ (by assumption : Same _ _) ?_); walk_at "up")
  | ((refine Rp.mono _ (Le.b (by assumption)) ?_); walk_at "up"))
local macro_rules | `(tactic| walk_at "ev") => `(tactic| first
  | ((with_reducible refine' ev_var ?h1 ?h2); (case h1 => rfl); (case h2 => walk_at "up"))
  | ((with_reducible refine' ev_vi ?h1); (case h1 => rfl))
  | with_reducible exact ev_ci
  | ((with_reducible refine' ev_get0 ?ea); (case ea => walk_at "ev"))
  | ((with_reducible refine' ev_get1 ?ea); (case ea => walk_at "ev"))
  | ((with_reducible refine' ev_I0 ?ea ?eb); (case ea => walk_at "ev"); (case eb => walk_at "ev"))
  | ((with_reducible refine' ev_notV ?ea); (case ea => walk_at "ev"))
  | ((with_reducible refine' eb_test ?ea); (case ea => walk_at "ev"))
  | ((with_reducible refine' eb_B ?ea); (case ea => walk_at "ev"))
  | ((with_reducible refine' eb_not ?ea); (case ea => walk_at "ev"))
  | ((with_reducible refine' ev_eq ?ea ?eb ?ec); (case ea => walk_at "ev"); (case eb => walk_at "ev"); (case ec => rfl))
  | ((with_reducible refine' ev_ne ?ea ?eb ?ec); (case ea => walk_at "ev"); (case eb => walk_at "ev"); (case ec => rfl))
  | ((with_reducible refine' ev_chainI ?ea ?eb ?ec); (case ea => walk_at "ev"); (case eb => walk_at "ev"); (case ec => walk_at "ev"))
  | with_reducible exact ea_nil
  | ((with_reducible refine' ea_cons ?ea ?eb); (case ea => walk_at "ev"); (case eb => walk_at "ev")))
section
variable {P : Program} {w : World} {K : PySem.W.Frag} {mg : Str → Option Value} {base : Heap}
def Tk (K : PySem.W.Frag) (W : Wd) : Prop := W.T = tabT K
theorem Tk.le {W W' : Wd} (h : Tk K W) (l : Le W W') : Tk K W' := l.t.trans h
theorem Tk.up {W W' : Wd} {a : Addr} (h : Tk K W) (l : Up a W W') : Tk K W' := l.t.trans h
theorem zero_at {H : Hp} (T : Tx K mg) : (num K (0, 1)).p H (.ref (He.ga K "ZERO")) := ⟨_, _, rfl, T.t_ZERO _, rfl, rfl, True.intro⟩
def sp_gathered (K : PySem.W.Frag) : Sp := spG (ι := IT) (fun x => [fld K x.1, rows K x.2.2.2]) (fun W x => TermsOk x ∧ Tk K W) fun x => rows K (gath x.1 x.2.2.2)
theorem ok_gathered (T : Ty K mg base) : Cal P w K mg base 4 "gathered" (sp_gathered K) [] := by
  have h_Field_plus := ok_Field_plus (P := P) (w := w) (base := base) T.toTx
  have hmT : (tG K, (("gathered" : Str) ++ ".<locals>.") ++ "<lambda>") ∈ tabT K := List.mem_singleton.mpr rfl
  have hmU : ∀ p ∈ tabT K, p.1 = tG K → p.2 = (("gathered" : Str) ++ ".<locals>.") ++ "<lambda>" := fun p hp _ => by
    rw [List.mem_singleton.mp hp]
  obtain ⟨fd, F⟩ := T.d_gathered
  refine ⟨_, fd, ["field", "terms"], [], okC F sc_gathered (spG_len fun _ => rfl) (fun cdv A outer s H vs Q E hcd hr h => ?_), T.g_gathered, F.kp, F.bindsN (fun _ _ _ _ _ _ us hl => match us, hl with | [_, _], _ => rfl), .nil⟩
  subst hcd
  obtain ⟨W, ⟨p, n, j, ts⟩, rfl, ha, ⟨⟨hp, hn, hj, hr0, hz⟩, hT⟩, k⟩ := h
  obtain ⟨v0, v1, rfl, h0, h1⟩ := ha.two
  refine ⟨_, PSs.nox (pss_cons (ps_set (i := 2) sc_gathered.nd rfl (Or.inl rfl) pe_dnewT)
    (pss_cons (ps_for PassesOwn.never rfl (pi_list (pv 1)) (pg_tup rfl (pgs_cons (pg_name (i := 3) sc_gathered.nd rfl (Or.inl rfl)) (pgs_cons (pg_name (i := 4) sc_gathered.nd rfl (Or.inl rfl)) pgs_nil))) (pss_one (ps_dput (hu_of hr) (pv 2) (pv 3) (pe_mt h_Field_plus hr (by decide) (pv 0) (pa_cons (pe_bm PySem.F.plainAttrs_dict PySem.F.slot_dict_setdefault PySem.F.type_dict_setdefault (mt_setdT (hu_of hr)) (pv 2) (pa_cons (pv 3) (pa_cons (pe_glob (v := .ref (He.ga K "ZERO")) rfl T.c_ZERO rfl) pa_nil))) (pa_cons (pv 4) pa_nil))) rfl)))
    (pss_cons (ps_frz (ps_setLc (i := 5) (own := [("product", 3), ("number", 4)]) rfl sc_gathered.nd rfl rfl (sw_true rfl rfl rfl (by decide +kernel)) (pi_itemsT (pv 2)) (blkOk_by (N := ["field", "terms", "found", "product", "number", "rows"]) (sc := defScope s_gathered) (by decide +kernel)) (fun _ _ _ _ _ => (pg_tup (n := 2) rfl (pgs_cons (pg_name (i := 3) sc_gathered.nd rfl (Or.inl rfl)) (pgs_cons (pg_name (i := 4) sc_gathered.nd rfl (Or.inl rfl)) pgs_nil)) : PG _ _ (gTup K 2 _))) (fun _ _ _ _ _ => (pts_one (pt_cmpR (op_neD hr.units : OpR _ _ (rNeD K)) (pv 4) (pe_glob (v := .ref (He.ga K "ZERO")) rfl T.c_ZERO rfl) (nomark _)))) (fun _ _ _ _ _ => (pe_tup (pa_cons (pv 3) (pa_cons (pv 4) pa_nil))))))
    (pss_one (ps_ret (pe_sortLam (k := 0) (hr.mono (by decide)) (pv 5) (by rfl) T.b_sorted T.b_len T.tb rfl hmT hmU)))))), ?_⟩
  try simp only [cxK, cxW, cxP]
  dsimp only at hp hn hj hr0 hz
  have hpo := hp.ok
  refine q_newD (K := K) fun l W1 s1 l1 fr L1 => ?_
  refine q_forI (it_list (K := K) (rs := ts.map (term K)) (by walk_at "ev")) (fun i σ' W' => ∃ o1 o2 : Option V, σ' = [some v0, some v1, some (.ref l), o1, o2, none] ∧ Le W W' ∧ LocD K W' l (accum p (ts.take i))) (fun W3 l3 => ⟨none, none, rfl, l1.trans l3, L1.le l3⟩) ?_ ?_
  · rintro i r x σ' W' W4 N hi s ⟨o1, o2, rfl, lw, L⟩ l4 hx nx
    obtain ⟨t, ht, rfl, hm⟩ := map_at hi
    have hac := accum_ok0 hpo (hr0.take i)
    have hlen : (ts.take i).length ≤ 256 := Nat.le_trans (by rw [List.length_take]; omega) hz
    have hal := accum_len0 (p := p) (ts := ts.take i)
    refine g_pair hx fun x1 x2 hx1 hx2 => ?_
    have hgd : Gc p j 256 ((valD (accum p (ts.take i)) t.1).getD (0, 1)) := by
      cases e : valD (accum p (ts.take i)) t.1 with
      | none => exact gd_zero hpo
      | some m => exact (hac.2 _ (val_mem e)).2.mono hlen
    refine s_setdP (K := K) (p := p) (n := t.2) (q := t.1) (l := l) rfl (L.le l4) (by walk_at "ev") rfl hx1 (ev_c (zero_at T.toTx)) rfl hx2 (by omega) ⟨hpo, hgd.1, (hr0 t hm).2.1, (hgd.up (k := 8) (by decide)).sz hpo (by omega), (hr0 t hm).2.sz hpo (by omega)⟩ fun W5 u5 L5 => ?_
    refine nx _ W5 u5.b ⟨_, _, rfl, u5.le (lw.trans l4) fr, ?_⟩
    rw [accum_take ht]
    exact L5
  · rintro σ' W' s ⟨o1, o2, rfl, lw, L⟩
    have e : ts.take (ts.map (term K)).length = ts := by rw [List.length_map, List.take_length]
    rw [e] at L
    refine q_frz L fun W2 u2 hd => ?_
    have hal := accum_len0 (p := p) (ts := ts)
    refine q_asg (R := rows K ((accum p ts).filter nz)) (ev_filI (F := term K) (G := term K) (xs := accum p ts) (p := nz) (it_items (ev_var rfl hd)) (by omega) ?_) ?_
    · intro t x W3 hm l3 hx Q q
      refine g_pair hx fun x1 x2 hx1 hx2 => q _ rfl (eb_is (eb_test (ev_neD (ev_var (R := num K t.2) rfl hx2) (ev_c (R := num K (0, 1)) (zero_at T.toTx)) dt_num dt_num (by decide) (by decide))) ?_) fun _ => ev_tup (ea_cons (ev_var rfl hx1) (ea_cons (ev_var rfl hx2) ea_nil))
      rw [eqv_num]; rfl
    · intro v5 W3 l3 hv5
      have lw2 := (u2.le lw fr).trans l3
      have hfl : ((accum p ts).filter nz).length ≤ 256 := Nat.le_trans (List.length_filter_le ..) (by omega)
      refine s_ret (ev_sortLam (K := K) (T := tabT K) (hT.le lw2) (ev_var rfl hv5) (by omega)) fun v W4 l4 hv => k v W4 (lw2.trans l4) hv
end
end Fs

set_option Elab.async false
set_option linter.all false
set_option maxRecDepth 100000
set_option maxHeartbeats 1000000
namespace Fs
open PySem PySem.Spec
def mx : List Int → Int
  | [] => 0
  | n :: ns => if mx ns ≤ n then n else mx ns
theorem mx_nonneg : ∀ {ns : List Int}, 0 ≤ mx ns
  | [] => Int.le_refl _
  | n :: ns => by
    have := mx_nonneg (ns := ns)
    unfold mx
    split <;> omega
theorem le_mx : ∀ {ns : List Int} {a : Int}, a ∈ ns → a ≤ mx ns
  | n :: ns, a, h => by
    unfold mx
    rcases List.mem_cons.mp h with rfl | h
    · split <;> omega
    · have := le_mx h
      split <;> omega
theorem mx_mem : ∀ {ns : List Int}, ns ≠ [] → (∀ a ∈ ns, 0 ≤ a) → mx ns ∈ ns
  | [n], _, h => by
    have := h n (by simp)
    simp [mx, this]
  | n :: m :: ns, _, h => by
    have ih := mx_mem (ns := m :: ns) (by simp) (fun a ha => h a (List.mem_cons_of_mem _ ha))
    unfold mx
    split
    · exact List.mem_cons_self ..
    · exact List.mem_cons_of_mem _ ih
theorem mx_le {ns : List Int} {b : Int} (h : ∀ a ∈ ns, a ≤ b) (hb : 0 ≤ b) : mx ns ≤ b := by
  induction ns with
  | nil => exact hb
  | cons n ns ih =>
    have h1 := h n (List.mem_cons_self ..)
    have h2 := ih fun a ha => h a (List.mem_cons_of_mem _ ha)
    unfold mx
    split <;> omega
theorem isMax_mx {ns : List Int} {m : Int} (h0 : ∀ a ∈ ns, 0 ≤ a) (h : IsMaxD 0 ns m) : m = mx ns := by
  rcases h with ⟨rfl, rfl⟩ | ⟨h1, h2⟩
  · rfl
  · have hne : ns ≠ [] := fun e => by subst e; simp at h1
    have := le_mx h1
    have := h2 _ (mx_mem hne h0)
    omega
theorem isMax1_mx {ns : List Int} {m : Int} (h0 : ∀ a ∈ ns, 0 ≤ a) (h1 : m ∈ ns) (h2 : ∀ a ∈ ns, a ≤ m) : m = mx ns := isMax_mx h0 (.inr ⟨h1, h2⟩)
def lastP (q : List Int) : Int := q.getLast?.getD 0
theorem last_eq {q : List Int} (h : q ≠ []) : q.getLast h = lastP q := by
  unfold lastP
  rw [List.getLast?_eq_some_getLast h]; rfl
/-- degree, reach of a row -/
def deg (r : List Tm) : Int := mx (r.map fun t => (t.1.length : Int))
def rch (r : List Tm) : Int := mx ((r.filter fun t => !decide (t.1 = [])).map fun t => lastP t.1 + 1)
theorem pd_last {n : Int} {q : List Int} (h : PdOk n q) (hn : q ≠ []) : 0 ≤ lastP q ∧ lastP q < n := by
  rw [← last_eq hn]
  exact h.2 _ (List.getLast_mem hn)
theorem rch_le {p n : Int} {j : Nat} {r : List Tm} (h : RowOk p n j r) (hn : 0 ≤ n) : rch r ≤ n := by
  refine mx_le (fun a ha => ?_) hn
  obtain ⟨t, ht, rfl⟩ := List.mem_map.mp ha
  have h1 := List.mem_filter.mp ht
  have h2 : t.1 ≠ [] := by simpa using h1.2
  have := pd_last (h t h1.1).1 h2
  omega
theorem deg_le {p n : Int} {j : Nat} {r : List Tm} (h : RowOk p n j r) (hn : 0 ≤ n) : deg r ≤ n := by
  refine mx_le (fun a ha => ?_) hn
  obtain ⟨t, ht, rfl⟩ := List.mem_map.mp ha
  have := (h t ht).1.len hn
  omega
def dTerm (t : Tm) : PyData := .tuple [.tuple (t.1.map .int), dNum t.2]
def dRow (r : List Tm) : PyData := .list (r.map dTerm)
theorem dt_term {K : PySem.W.Frag} {t : Tm} : Dt K 2 (term K t) (dTerm t) := dt_tup (n := 1) ⟨dt_prod, dt_num, True.intro⟩
theorem dt_row {K : PySem.W.Frag} {r : List Tm} : Dt K 3 (lstR K (r.map (term K))) (dRow r) := dt_lst (n := 2) (dta_map fun t => dt_term)
theorem eqv_term (a b : Tm) : PyData.eqv (dTerm a) (dTerm b) = decide (a = b) := by
  obtain ⟨a1, a2⟩ := a
  obtain ⟨b1, b2⟩ := b
  simp only [dTerm, PyData.eqv, PyData.eqvAll, eqv_ints, eqv_num, Bool.and_true, Prod.mk.injEq]
  by_cases h1 : a1 = b1 <;> by_cases h2 : a2 = b2 <;> simp [h1, h2]
theorem eqv_rowAll : ∀ (a b : List Tm), PyData.eqvAll (a.map dTerm) (b.map dTerm) = decide (a = b)
  | [], [] => by simp [PyData.eqvAll]
  | [], _ :: _ => by simp [PyData.eqvAll]
  | _ :: _, [] => by simp [PyData.eqvAll]
  | x :: a, y :: b => by
    simp only [List.map_cons, PyData.eqvAll, eqv_term, eqv_rowAll a b, List.cons.injEq]
    by_cases h1 : x = y <;> by_cases h2 : a = b <;> simp [h1, h2]
theorem eqv_row (a b : List Tm) : PyData.eqv (dRow a) (dRow b) = decide (a = b) := by simp only [dRow, PyData.eqv, eqv_rowAll]
end Fs

set_option Elab.async false
set_option linter.all false
set_option maxRecDepth 100000
set_option maxHeartbeats 2000000
namespace Fs
open PySem PySem.Spec PyProof.Rows L2 C8
section
variable {K : PySem.W.Frag} {mg : Str → Option Value} {σ : L2.St} {W W' W0 : Wd} {ta tb te : TE} {x y : Int × List Tm} {rs : List Rp}
theorem ev_sfield (T : Tx K mg) (h : Ev te σ W (sumR K x)) : Ev (tFld K te "own_field") σ W (fld K x.1) := ev_fld h T.k_Sum T.n_Sum_own_field (i := 0) rfl rfl rfl
theorem ev_srow (T : Tx K mg) (h : Ev te σ W (sumR K x)) : Ev (tFld K te "row") σ W (rows K x.2) := ev_fld h T.k_Sum T.n_Sum_row (i := 1) rfl rfl rfl
theorem sum_no {m : Str} (h : ¬ m = "own_field") (h2 : ¬ m = "row") : InsP (He.ga K "Sum") m (sumR K x) := ins_p rfl (by unfold ix; rw [if_neg h]; unfold ix; rw [if_neg h2]; rfl)
theorem ev_isN0 (h : Ev ta σ W (is .non)) : Ev (tOp rIsN ta (tC .non)) σ W (bl true) := ev_op h ev_ci fun u v W1 _ hu hv W2 _ Q q => ⟨hv, by rw [show u = V.non from hu]; exact q _ W2 (Le.refl _) rfl⟩
theorem ev_isN1 {K : PySem.W.Frag} (h : Ev ta σ W (lstR K rs)) : Ev (tOp rIsN ta (tC .non)) σ W (bl false) := ev_op h ev_ci fun u v W1 _ hu hv W2 _ Q q => ⟨hv, by
  obtain ⟨a, vs, rfl, _⟩ := hu
  exact q _ W2 (Le.refl _) rfl⟩
end
local macro_rules | `(tactic| walk_at "up") => `(tactic| first
  | assumption
  | ((refine Rp.mono _ (by assumption : Same _ _) ?_); walk_at "up")
  | ((refine Rp.mono _ (Le.b (by assumption)) ?_); walk_at "up"))
local macro_rules | `(tactic| walk_at "ev") => `(tactic| first
  | ((with_reducible refine' ev_var ?h1 ?h2); (case h1 => rfl); (case h2 => walk_at "up"))
  | ((with_reducible refine' ev_vi ?h1); (case h1 => rfl))
  | with_reducible exact ev_ci
  | ((with_reducible refine' ev_get0 ?ea); (case ea => walk_at "ev"))
  | ((with_reducible refine' ev_get1 ?ea); (case ea => walk_at "ev"))
  | ((with_reducible refine' ev_I0 ?ea ?eb); (case ea => walk_at "ev"); (case eb => walk_at "ev"))
  | ((with_reducible refine' ev_notV ?ea); (case ea => walk_at "ev"))
  | ((with_reducible refine' eb_test ?ea); (case ea => walk_at "ev"))
  | ((with_reducible refine' eb_B ?ea); (case ea => walk_at "ev"))
  | ((with_reducible refine' eb_not ?ea); (case ea => walk_at "ev"))
  | ((with_reducible refine' ev_eq ?ea ?eb ?ec); (case ea => walk_at "ev"); (case eb => walk_at "ev"); (case ec => rfl))
  | ((with_reducible refine' ev_ne ?ea ?eb ?ec); (case ea => walk_at "ev"); (case eb => walk_at "ev"); (case ec => rfl))
  | ((with_reducible refine' ev_chainI ?ea ?eb ?ec); (case ea => walk_at "ev"); (case eb => walk_at "ev"); (case ec => walk_at "ev"))
  | with_reducible exact ea_nil
  | ((with_reducible refine' ea_cons ?ea ?eb); (case ea => walk_at "ev"); (case eb => walk_at "ev")))
section
variable {P : Program} {w : World} {K : PySem.W.Frag} {mg : Str → Option Value} {base : Heap}
def sp_Sum_mk (K : PySem.W.Frag) : Sp := spI (ι := IT) (He.ga K "Sum") (fun x => [fld K x.1, rows K x.2.2.2]) (fun W x => TermsOk x ∧ Tk K W) fun x => sumR K (x.1, gath x.1 x.2.2.2)
theorem ok_Sum_mk (T : Ty K mg base) : Mak P w K mg base 5 "Sum" (He.ga K "Sum") (sp_Sum_mk K) [] := by
  have h_look_at_terms := ok_look_at_terms (P := P) (w := w) (base := base) T.toTx
  have h_gathered := ok_gathered (P := P) (w := w) (base := base) T
  obtain ⟨fd, F⟩ := T.d_Sum_mk
  obtain ⟨ds, hds, hb⟩ := F.binds1 (ps := ["self", "field", "terms"]) 3 1 (fun e => nomatch e) rfl (fun _ _ _ _ _ _ _ us its h1 h2 => match us, its, h1, h2 with | [_, _, _], [_], _, _ => ⟨_, rfl, rfl⟩)
  refine ⟨_, fd, ["self", "field", "terms"], ds, T.m_Sum, F.ok sc_Sum_mk (spI_len fun _ => rfl) (fun cdv A outer s H vs Q E hr h => ?_), T.g_Sum, hb, hds⟩
  obtain ⟨W0, ⟨p, n, j, ts⟩, x, dx, us, rfl, hx, hdx, hne, rfl, ha, ⟨hp, hT⟩, k⟩ := h
  obtain ⟨v1, v2, rfl, h1, h2⟩ := ha.two
  obtain ⟨W1, hW1, l1, L1⟩ := init_w (C := He.ga K "Sum") W0 hx hdx hne
  refine ⟨_, PSs.nox (pss_cons (ps_if (pt_cmpR op_isN1 (pv 2) pe_non (nomark _)) (pss_one (ps_set (i := 2) sc_Sum_mk.nd rfl (Or.inl rfl) (pe_lst pa_nil))) pss_nil)
    (pss_cons (ps_expr (pe_c h_look_at_terms hr (by decide) rfl (pa_cons (pv 1) (pa_cons (pv 2) pa_nil))))
    (pss_cons (ps_fld (pv 0) (pv 1) rfl)
    (pss_one (ps_fld (pv 0) (pe_c h_gathered hr (by decide) rfl (pa_cons (pv 1) (pa_cons (pv 2) pa_nil))) rfl))))), ?_⟩
  try simp only [cxK, cxW, cxP]
  rw [← hW1]
  refine q_skip (eb_test (ev_isN1 (K := K) (rs := ts.map (term K)) (by walk_at "ev"))) fun W2 l2 => ?_
  refine q_drop (R := is .non) (ev_call (x := (p, n, j, ts)) (as := [fld K p, rows K ts]) (by walk_at "ev") rfl fun _ _ => hp) fun _ W3 l3 _ => ?_
  refine q_fld (R := fld K p) (by walk_at "ev") rfl ((L1.le l2).le l3) rfl rfl (by decide) T.k_Sum T.n_Sum_own_field ((l1.trans l2).trans l3) (Wd.fre hx) fun W4 s4 l4 L4 => ?_
  refine s_fld (R := rows K (gath p ts)) (ev_call (x := (p, n, j, ts)) (as := [fld K p, rows K ts]) (by walk_at "ev") rfl fun _ l => ⟨hp, (hT.le l4).le l⟩) rfl L4 rfl rfl (by decide) T.k_Sum T.n_Sum_row l4 (Wd.fre hx) fun W5 s5 l5 L5 => ?_
  obtain ⟨W6, e6, l6, h6⟩ := init_end L5 l5 (Wd.fre hx)
  rw [← e6]
  exact k W6 l6 h6
def sp_Sum_mk_d (K : PySem.W.Frag) : Sp := spI (ι := Int) (He.ga K "Sum") (fun p => [fld K p, is .non]) (fun W p => PrF p ∧ Tk K W) fun p => sumR K (p, [])
theorem ok_Sum_mk_d (T : Ty K mg base) : Mak P w K mg base 5 "Sum" (He.ga K "Sum") (sp_Sum_mk_d K) [.non] := by
  have h_look_at_terms := ok_look_at_terms (P := P) (w := w) (base := base) T.toTx
  have h_gathered := ok_gathered (P := P) (w := w) (base := base) T
  obtain ⟨fd, F⟩ := T.d_Sum_mk
  obtain ⟨ds, hds, hb⟩ := F.binds1 (ps := ["self", "field", "terms"]) 2 0 (fun e => nomatch e) rfl (fun _ _ _ _ _ _ _ us its h1 h2 => match us, its, h1, h2 with | [_, _], [_], _, _ => ⟨_, rfl, rfl⟩)
  refine ⟨_, fd, ["self", "field", "terms"], ds, T.m_Sum, F.ok sc_Sum_mk (spI_len fun _ => rfl) (fun cdv A outer s H vs Q E hr h => ?_), T.g_Sum, hb, hds⟩
  obtain ⟨W0, p, x, dx, us, rfl, hx, hdx, hne, rfl, ha, ⟨hp, hT⟩, k⟩ := h
  obtain ⟨v1, v2, rfl, h1, rfl⟩ := ha.two
  obtain ⟨W1, hW1, l1, L1⟩ := init_w (C := He.ga K "Sum") W0 hx hdx hne
  refine ⟨_, PSs.nox (pss_cons (ps_if (pt_cmpR op_isN1 (pv 2) pe_non (nomark _)) (pss_one (ps_set (i := 2) sc_Sum_mk.nd rfl (Or.inl rfl) (pe_lst pa_nil))) pss_nil)
    (pss_cons (ps_expr (pe_c h_look_at_terms hr (by decide) rfl (pa_cons (pv 1) (pa_cons (pv 2) pa_nil))))
    (pss_cons (ps_fld (pv 0) (pv 1) rfl)
    (pss_one (ps_fld (pv 0) (pe_c h_gathered hr (by decide) rfl (pa_cons (pv 1) (pa_cons (pv 2) pa_nil))) rfl))))), ?_⟩
  try simp only [cxK, cxW, cxP]
  rw [← hW1]
  have hp' : TermsOk (p, 0, 0, []) := ⟨hp, by show (0 : Int) ≤ 60; decide, Nat.zero_le _, fun t h => by simp at h, Nat.zero_le _⟩
  refine q_when (P := Bo true) (eb_test (ev_isN0 (by walk_at "ev"))) (fun _ W2 l2 => ?_) (fun e => nomatch e)
  refine s_asg (R := rows K []) (ev_lst ea_nil) fun v2 W2' l2' hv2 => ?_
  dsimp only
  refine q_drop (R := is .non) ?hh fun _ W3 l3 _ => ?_
  case hh => exact (ev_call (x := (p, 0, 0, [])) (as := [fld K p, rows K []]) (by walk_at "ev") rfl fun _ _ => hp')
  refine q_fld (R := fld K p) (by walk_at "ev") rfl (((L1.le l2).le l2').le l3) rfl rfl (by decide) T.k_Sum T.n_Sum_own_field (((l1.trans l2).trans l2').trans l3) (Wd.fre hx) fun W4 s4 l4 L4 => ?_
  refine s_fld (R := rows K (gath p [])) (ev_call (x := (p, 0, 0, [])) (as := [fld K p, rows K []]) (by walk_at "ev") rfl fun _ l => ⟨hp', (hT.le l4).le l⟩) rfl L4 rfl rfl (by decide) T.k_Sum T.n_Sum_row l4 (Wd.fre hx) fun W5 s5 l5 L5 => ?_
  obtain ⟨W6, e6, l6, h6⟩ := init_end L5 l5 (Wd.fre hx)
  rw [← e6]
  have e0 : gath p [] = [] := by simp [gath, srt, accum]
  rw [e0] at h6
  exact k W6 l6 h6
def sp_Sum_eq (K : PySem.W.Frag) : Sp := spG (ι := Int × List Tm × List Tm) (fun x => [sumR K (x.1, x.2.1), sumR K (x.1, x.2.2)]) (fun _ _ => True) fun x => bl (decide (x.2.1 = x.2.2))
theorem ok_Sum_eq (T : Tx K mg) : Met P w K mg base 3 (He.ga K "Sum") "__eq__" (sp_Sum_eq K) [] := by
  have h_Field_eq := ok_Field_eq (P := P) (w := w) (base := base) T
  obtain ⟨fd, F⟩ := T.d_Sum_eq
  refine ⟨_, fd, ["self", "other"], [], T.k_Sum, T.h_Sum_eq, F.ok sc_Sum_eq (spG_len fun _ => rfl) (fun cdv A outer s H vs Q E hr h => ?_), F.bindsN (fun _ _ _ _ _ _ us hl => match us, hl with | [_, _], _ => rfl), .nil⟩
  obtain ⟨W, ⟨p, r, s'⟩, rfl, ha, _, k⟩ := h
  obtain ⟨v0, v1, rfl, h0, h1⟩ := ha.two
  refine ⟨_, PSs.nox (pss_one (ps_ret (pe_and (pe_callB call_isi (by rfl) T.b_isinstance (by decide +kernel) (pa_cons (pv 1) (pa_cons (pe_glob (v := .ref (He.ga K "Sum")) rfl T.g_Sum rfl) pa_nil))) (pe_and (pe_cmpR (op_eqOwn h_Field_eq (hr.mono (by decide))) (pe_fld (pv 0) rfl) (pe_fld (pv 1) rfl) (nomark _)) (pe_one (pe_cmpR (op_eqD hr.units) (pe_fld (pv 0) rfl) (pe_fld (pv 1) rfl) (nomark _))))))), ?_⟩
  try simp only [cxK, cxW, cxP]
  refine s_ret (R := bl (decide (r = s'))) (ev_andV (a := true) (ev_isi (R := sumR K (p, s')) (by walk_at "ev") (ty_ins T.k_Sum T.i_Sum) (.own _) kit_own) (fun _ => ev_andV (a := true) (ev_own (neg := false) (C := He.ga K "Field") (RA := fld K p) (RB := fld K p) (ev_sfield T (x := (p, r)) (by walk_at "ev")) (ev_sfield T (x := (p, s')) (by walk_at "ev")) ins_a ins_a p rfl (fun _ _ => True.intro) (c := true) rfl) (fun _ => ev_is (ev_eqD (ev_srow T (x := (p, r)) (by walk_at "ev")) (ev_srow T (x := (p, s')) (by walk_at "ev")) dt_row dt_row (by decide) (by decide)) (by rw [eqv_row])) (fun e => nomatch e)) (fun e => nomatch e)) k
def sp_Sum_len (K : PySem.W.Frag) : Sp := spG (ι := Int × List Tm) (fun x => [sumR K x]) (fun _ _ => True) fun x => int (x.2.length : Int)
theorem ok_Sum_len (T : Tx K mg) : Met P w K mg base 1 (He.ga K "Sum") "__len__" (sp_Sum_len K) [] := by
  obtain ⟨fd, F⟩ := T.d_Sum_len
  refine ⟨_, fd, ["self"], [], T.k_Sum, T.h_Sum_len, F.ok sc_Sum_len (spG_len fun _ => rfl) (fun cdv A outer s H vs Q E hr h => ?_), F.bindsN (fun _ _ _ _ _ _ us hl => match us, hl with | [_], _ => rfl), .nil⟩
  obtain ⟨W, x, rfl, ha, _, k⟩ := h
  obtain ⟨v0, rfl, h0⟩ := ha.one
  refine ⟨_, PSs.nox (pss_one (ps_ret (pe_callB call_len_seq (by rfl) T.b_len (by decide +kernel) (pa_cons (pe_fld (pv 0) rfl) pa_nil)))), ?_⟩
  try simp only [cxK, cxW, cxP]
  exact s_ret (ev_is (ev_lenL (ev_srow T (x := x) (by walk_at "ev"))) (by rw [List.length_map])) k
def sp_Sum_field (K : PySem.W.Frag) : Sp := spG (ι := Int × List Tm) (fun x => [sumR K x]) (fun _ _ => True) fun x => fld K x.1
theorem ok_Sum_field (T : Tx K mg) : Met P w K mg base 1 (He.ga K "Sum") "field" (sp_Sum_field K) [] := by
  obtain ⟨fd, F⟩ := T.d_Sum_field
  refine ⟨_, fd, ["self"], [], T.k_Sum, T.h_Sum_field, F.ok sc_Sum_field (spG_len fun _ => rfl) (fun cdv A outer s H vs Q E hr h => ?_), F.bindsN (fun _ _ _ _ _ _ us hl => match us, hl with | [_], _ => rfl), .nil⟩
  obtain ⟨W, x, rfl, ha, _, k⟩ := h
  obtain ⟨v0, rfl, h0⟩ := ha.one
  refine ⟨_, PSs.nox (pss_one (ps_ret (pe_fld (pv 0) rfl))), ?_⟩
  try simp only [cxK, cxW, cxP]
  exact s_ret (ev_sfield T (x := x) (by walk_at "ev")) k
def sp_Sum_terms (K : PySem.W.Frag) : Sp := spG (ι := Int × List Tm) (fun x => [sumR K x]) (fun _ _ => True) fun x => rows K x.2
theorem ok_Sum_terms (T : Tx K mg) : Met P w K mg base 1 (He.ga K "Sum") "terms" (sp_Sum_terms K) [] := by
  obtain ⟨fd, F⟩ := T.d_Sum_terms
  refine ⟨_, fd, ["self"], [], T.k_Sum, T.h_Sum_terms, F.ok sc_Sum_terms (spG_len fun _ => rfl) (fun cdv A outer s H vs Q E hr h => ?_), F.bindsN (fun _ _ _ _ _ _ us hl => match us, hl with | [_], _ => rfl), .nil⟩
  obtain ⟨W, x, rfl, ha, _, k⟩ := h
  obtain ⟨v0, rfl, h0⟩ := ha.one
  refine ⟨_, PSs.nox (pss_one (ps_ret (pe_callTy call_list_of (by rfl) T.b_list (by decide +kernel) (pa_cons (pe_fld (pv 0) rfl) pa_nil)))), ?_⟩
  try simp only [cxK, cxW, cxP]
  exact s_ret (ev_listOf (ev_srow T (x := x) (by walk_at "ev"))) k
def sp_Sum_degree (K : PySem.W.Frag) : Sp := spG (ι := Int × List Tm) (fun x => [sumR K x]) (fun _ x => x.2.length ≤ 256) fun x => int (deg x.2)
theorem ok_Sum_degree (T : Tx K mg) : Met P w K mg base 1 (He.ga K "Sum") "degree" (sp_Sum_degree K) [] := by
  obtain ⟨fd, F⟩ := T.d_Sum_degree
  refine ⟨_, fd, ["self"], [], T.k_Sum, T.h_Sum_degree, F.ok sc_Sum_degree (spG_len fun _ => rfl) (fun cdv A outer s H vs Q E hr h => ?_), F.bindsN (fun _ _ _ _ _ _ us hl => match us, hl with | [_], _ => rfl), .nil⟩
  obtain ⟨W, x, rfl, ha, hz, k⟩ := h
  obtain ⟨v0, rfl, h0⟩ := ha.one
  refine ⟨_, PSs.nox (pss_one (ps_ret (pe_callBK (cr_maxDef rfl) (by rfl) T.b_max (by decide +kernel) (pa_cons (pe_lc (own := [("product", 1), ("number", 2)]) rfl sc_Sum_degree.nd (pi_list (pe_fld (pv 0) rfl)) (blkOk_by (N := ["self", "product", "number"]) (sc := defScope s_Sum_degree) (by decide +kernel)) (fun _ _ _ _ _ => (pg_tup (n := 2) rfl (pgs_cons (pg_name (i := 1) sc_Sum_degree.nd rfl (Or.inl rfl)) (pgs_cons (pg_name (i := 2) sc_Sum_degree.nd rfl (Or.inl rfl)) pgs_nil)) : PG _ _ (gTup K 2 _))) (fun _ _ _ _ _ => pts_nil) (fun _ _ _ _ _ => (pe_callB (call_len_seq : CallR _ _ (rLenQ K)) (by rfl) T.b_len (by decide +kernel) (pa_cons (pv 1) pa_nil)))) pa_nil) (pk_cons pe_int pk_nil)))), ?_⟩
  try simp only [cxK, cxW, cxP]
  refine s_ret (R := int (deg x.2)) (Ev.imp (ev_maxD (K := K) (ns := x.2.map fun t => (t.1.length : Int)) (d := 0) (by
    rw [List.map_map]
    refine ev_mapI (F := term K) (G := fun t => int (t.1.length : Int)) (xs := x.2) (it_list (ev_srow T (x := x) (by walk_at "ev"))) (by omega) ?_
    intro t v W1 hm l1 hv Q q
    exact g_pair hv fun x1 x2 hx1 hx2 => q _ rfl (ev_is (ev_lenT (K := K) (ev_prodT (ev_var rfl hx1))) (by rw [List.length_map]))) ev_ci) ?_) k
  rintro W1 v _ ⟨m, hm, hv⟩
  have e := isMax_mx (fun a ha => by
    obtain ⟨t, _, rfl⟩ := List.mem_map.mp ha
    omega) hm
  show v = V.int (deg x.2)
  rw [show v = V.int m from hv, e]; rfl
def sp_Sum_reach (K : PySem.W.Frag) : Sp := spG (ι := Int × List Tm) (fun x => [sumR K x]) (fun _ x => x.2.length ≤ 256 ∧ ∀ t ∈ x.2, PdOk 60 t.1) fun x => int (rch x.2)
theorem ok_Sum_reach (T : Tx K mg) : Met P w K mg base 1 (He.ga K "Sum") "reach" (sp_Sum_reach K) [] := by
  obtain ⟨fd, F⟩ := T.d_Sum_reach
  refine ⟨_, fd, ["self"], [], T.k_Sum, T.h_Sum_reach, F.ok sc_Sum_reach (spG_len fun _ => rfl) (fun cdv A outer s H vs Q E hr h => ?_), F.bindsN (fun _ _ _ _ _ _ us hl => match us, hl with | [_], _ => rfl), .nil⟩
  obtain ⟨W, x, rfl, ha, ⟨hz, hpd⟩, k⟩ := h
  obtain ⟨v0, rfl, h0⟩ := ha.one
  refine ⟨_, PSs.nox (pss_one (ps_ret (pe_callBK (cr_maxDef rfl) (by rfl) T.b_max (by decide +kernel) (pa_cons (pe_lc (own := [("product", 1), ("number", 2)]) rfl sc_Sum_reach.nd (pi_list (pe_fld (pv 0) rfl)) (blkOk_by (N := ["self", "product", "number"]) (sc := defScope s_Sum_reach) (by decide +kernel)) (fun _ _ _ _ _ => (pg_tup (n := 2) rfl (pgs_cons (pg_name (i := 1) sc_Sum_reach.nd rfl (Or.inl rfl)) (pgs_cons (pg_name (i := 2) sc_Sum_reach.nd rfl (Or.inl rfl)) pgs_nil)) : PG _ _ (gTup K 2 _))) (fun _ _ _ _ _ => (pts_one (pt_cmpR (op_neD hr.units : OpR _ _ (rNeD K)) (pv 1) (pe_tup pa_nil) (nomark _)))) (fun _ _ _ _ _ => (pe_op op_add (pe_ix (ix_tup : IxR _ (rIxT K)) (pv 1) (pe_un un_neg pe_int) (fun _ _ => rfl)) pe_int))) pa_nil) (pk_cons pe_int pk_nil)))), ?_⟩
  try simp only [cxK, cxW, cxP]
  refine s_ret (R := int (rch x.2)) (Ev.imp (ev_maxD (K := K) (ns := (x.2.filter fun t => !decide (t.1 = [])).map fun t => lastP t.1 + 1) (d := 0) (by
    rw [List.map_map]
    refine ev_filI (F := term K) (G := fun t => int (lastP t.1 + 1)) (xs := x.2) (it_list (ev_srow T (x := x) (by walk_at "ev"))) (by omega) ?_
    intro t v W1 hm l1 hv Q q
    refine g_pair hv fun x1 x2 hx1 hx2 => q _ rfl (eb_is (eb_test (ev_neD (ev_var (R := prod t.1) rfl hx1) (ev_tup (K := K) (rs := []) ea_nil) (dt_prod (K := K)) (dt_tup (n := 0) (ds := []) True.intro) (by decide) (by decide))) ?_) fun hne => ?_
    · have := eqv_tupI t.1 []
      rw [List.map_nil] at this
      rw [this]
    · have hne' : t.1 ≠ [] := by simpa using hne
      rw [← last_eq hne']
      exact ev_I0 (ev_ixLast (ev_var rfl hx1) (ev_neg ev_ci) hne') ev_ci) ev_ci) ?_) k
  rintro W1 v _ ⟨m, hm, hv⟩
  have e := isMax_mx (fun a ha => by
    obtain ⟨t, ht, rfl⟩ := List.mem_map.mp ha
    have h1 := List.mem_filter.mp ht
    have h2 : t.1 ≠ [] := by simpa using h1.2
    have := pd_last (hpd t h1.1) h2
    omega) hm
  show v = V.int (rch x.2)
  rw [show v = V.int m from hv, e]; rfl
def sp_Sum_look_alike (K : PySem.W.Frag) : Sp := spG (ι := Int × List Tm × List Tm) (fun x => [sumR K (x.1, x.2.1), sumR K (x.1, x.2.2)]) (fun _ _ => True) fun _ => is .non
theorem ok_Sum_look_alike (T : Tx K mg) : Met P w K mg base 3 (He.ga K "Sum") "look_alike" (sp_Sum_look_alike K) [] := by
  have h_Field_eq := ok_Field_eq (P := P) (w := w) (base := base) T
  obtain ⟨fd, F⟩ := T.d_Sum_look_alike
  refine ⟨_, fd, ["self", "other"], [], T.k_Sum, T.h_Sum_look_alike, F.ok sc_Sum_look_alike (spG_len fun _ => rfl) (fun cdv A outer s H vs Q E hr h => ?_), F.bindsN (fun _ _ _ _ _ _ us hl => match us, hl with | [_, _], _ => rfl), .nil⟩
  obtain ⟨W, ⟨p, r, s'⟩, rfl, ha, _, k⟩ := h
  obtain ⟨v0, v1, rfl, h0, h1⟩ := ha.two
  refine ⟨_, PSs.nox (pss_one (ps_if (pt_cmpR (op_neOwn h_Field_eq T.i_Field (hr.mono (by decide))) (pe_fld (pv 0) rfl) (pe_fld (pv 1) rfl) (nomark _)) (pss_one ps_never) pss_nil)), ?_⟩
  try simp only [cxK, cxW, cxP]
  exact s_skip (eb_test (ev_own (neg := true) (C := He.ga K "Field") (RA := fld K p) (RB := fld K p) (ev_sfield T (x := (p, r)) (by walk_at "ev")) (ev_sfield T (x := (p, s')) (by walk_at "ev")) ins_a ins_a p rfl (fun _ _ => True.intro) (c := true) rfl)) fun W1 l1 => k _ W1 l1 rfl
end
end Fs

set_option Elab.async false
set_option linter.all false
set_option maxRecDepth 100000
set_option maxHeartbeats 2000000
namespace Fs
open PySem PySem.Spec PyProof.Rows L2 C8
/-- all products of terms -/
def prodT (p : Int) (r s : List Tm) : List Tm := r.flatMap fun t => s.map fun u => (usort (t.1 ++ u.1), ntimes p t.2 u.2)
theorem pd_joined {n : Int} {a b : List Int} (h : PdOk n a) (g : PdOk n b) : PdOk n (usort (a ++ b)) := ⟨usort_sorted _, fun i hi => by
  rw [mem_usort, List.mem_append] at hi
  rcases hi with hi | hi
  · exact h.2 i hi
  · exact g.2 i hi⟩
theorem prodT_ok {p n : Int} {j k : Nat} {r s : List Tm} (hp : PrOk p) (h : RowOk p n j r) (g : RowOk p n k s) : RowOk p n (j + k) (prodT p r s) := fun t ht => by
  unfold prodT at ht
  obtain ⟨a, ha, hm⟩ := List.mem_flatMap.mp ht
  obtain ⟨b, hb, rfl⟩ := List.mem_map.mp hm
  exact ⟨pd_joined (h a ha).1 (g b hb).1, gd_times hp (h a ha).2 (g b hb).2⟩
theorem prodT_len {p : Int} (r s : List Tm) : (prodT p r s).length = r.length * s.length := by
  unfold prodT
  induction r with
  | nil => simp
  | cons t r ih => rw [List.flatMap_cons, List.length_append, ih, List.length_map, List.length_cons, Nat.succ_mul, Nat.add_comm]
theorem prodT_take {p : Int} {r s : List Tm} {i : Nat} {t : Tm} (h : r[i]? = some t) : prodT p (r.take (i + 1)) s = prodT p (r.take i) s ++ s.map fun u => (usort (t.1 ++ u.1), ntimes p t.2 u.2) := by
  unfold prodT
  rw [List.take_add_one, h, List.flatMap_append]
  simp
theorem map_take {α β : Type} {f : α → β} {s : List α} {k : Nat} {u : α} (h : s[k]? = some u) : (s.take (k + 1)).map f = (s.take k).map f ++ [f u] := by
  rw [List.take_add_one, h, List.map_append]; rfl
local macro_rules | `(tactic| walk_at "up") => `(tactic| first
  | assumption
  | ((refine Rp.mono _ (by assumption : Same _ _) ?_); walk_at "up")
  | ((refine Rp.mono _ (Le.b (by assumption)) ?_); walk_at "up"))
local macro_rules | `(tactic| walk_at "ev") => `(tactic| first
  | ((with_reducible refine' ev_var ?h1 ?h2); (case h1 => rfl); (case h2 => walk_at "up"))
  | ((with_reducible refine' ev_vi ?h1); (case h1 => rfl))
  | with_reducible exact ev_ci
  | ((with_reducible refine' ev_get0 ?ea); (case ea => walk_at "ev"))
  | ((with_reducible refine' ev_get1 ?ea); (case ea => walk_at "ev"))
  | ((with_reducible refine' ev_I0 ?ea ?eb); (case ea => walk_at "ev"); (case eb => walk_at "ev"))
  | ((with_reducible refine' ev_notV ?ea); (case ea => walk_at "ev"))
  | ((with_reducible refine' eb_test ?ea); (case ea => walk_at "ev"))
  | ((with_reducible refine' eb_B ?ea); (case ea => walk_at "ev"))
  | ((with_reducible refine' eb_not ?ea); (case ea => walk_at "ev"))
  | ((with_reducible refine' ev_eq ?ea ?eb ?ec); (case ea => walk_at "ev"); (case eb => walk_at "ev"); (case ec => rfl))
  | ((with_reducible refine' ev_ne ?ea ?eb ?ec); (case ea => walk_at "ev"); (case eb => walk_at "ev"); (case ec => rfl))
  | ((with_reducible refine' ev_chainI ?ea ?eb ?ec); (case ea => walk_at "ev"); (case eb => walk_at "ev"); (case ec => walk_at "ev"))
  | with_reducible exact ea_nil
  | ((with_reducible refine' ea_cons ?ea ?eb); (case ea => walk_at "ev"); (case eb => walk_at "ev")))
section
variable {P : Program} {w : World} {K : PySem.W.Frag} {mg : Str → Option Value} {base : Heap}
def PlOk (x : Int × Int × Nat × List Tm × List Tm) : Prop := PrF x.1 ∧ x.2.1 ≤ 60 ∧ x.2.2.1 ≤ 190 ∧ RowOk x.1 x.2.1 x.2.2.1 x.2.2.2.1 ∧ RowOk x.1 x.2.1 x.2.2.1 x.2.2.2.2 ∧ x.2.2.2.1.length + x.2.2.2.2.length ≤ 256
def sp_Sum_plus (K : PySem.W.Frag) : Sp := spG (ι := Int × Int × Nat × List Tm × List Tm) (fun x => [sumR K (x.1, x.2.2.2.1), sumR K (x.1, x.2.2.2.2)]) (fun W x => PlOk x ∧ Tk K W) fun x => sumR K (x.1, gath x.1 (x.2.2.2.1 ++ x.2.2.2.2))
theorem ok_Sum_plus (T : Ty K mg base) : Met P w K mg base 7 (He.ga K "Sum") "plus" (sp_Sum_plus K) [] := by
  have h_Sum_look_alike := ok_Sum_look_alike (P := P) (w := w) (base := base) T.toTx
  have h_Sum_mk := ok_Sum_mk (P := P) (w := w) (base := base) T
  obtain ⟨fd, F⟩ := T.d_Sum_plus
  refine ⟨_, fd, ["self", "other"], [], T.k_Sum, T.h_Sum_plus, F.ok sc_Sum_plus (spG_len fun _ => rfl) (fun cdv A outer s H vs Q E hr h => ?_), F.bindsN (fun _ _ _ _ _ _ us hl => match us, hl with | [_, _], _ => rfl), .nil⟩
  obtain ⟨W, ⟨p, n, j, r, s'⟩, rfl, ha, ⟨⟨hp, hn, hj, hr1, hr2, hz⟩, hT⟩, k⟩ := h
  dsimp only at hp hn hj hr1 hr2 hz
  obtain ⟨v0, v1, rfl, h0, h1⟩ := ha.two
  refine ⟨_, PSs.nox (pss_cons (ps_expr (pe_mt h_Sum_look_alike hr (by decide) (pv 0) (pa_cons (pv 1) pa_nil)))
    (pss_one (ps_ret (pe_mk h_Sum_mk hr (by decide) rfl (pa_cons (pe_fld (pv 0) rfl) (pa_cons (pe_op op_cat (pe_fld (pv 0) rfl) (pe_fld (pv 1) rfl)) pa_nil)))))), ?_⟩
  try simp only [cxK, cxW, cxP]
  refine q_drop (R := is .non) (ev_meth (R := sumR K (p, r)) (by walk_at "ev") (sum_no (by decide +kernel) (by decide +kernel)) (as := [sumR K (p, s')]) (ea_cons (ev_var rfl h1) ea_nil) (p, r, s') rfl fun _ _ => True.intro) fun _ W1 l1 _ => ?_
  refine s_ret (ev_make (dvs := []) (as := [fld K p, rows K (r ++ s')]) (ea_cons (ev_sfield T.toTx (x := (p, r)) (by walk_at "ev")) (ea_cons ?_ ea_nil)) (p, n, j, r ++ s') rfl fun W2 l2 => ⟨⟨hp, hn, hj, fun t ht => ?_, ?_⟩, hT.le (l1.trans l2)⟩) fun v W2 l2 hv => k v W2 (l1.trans l2) hv
  · show Ev _ _ _ (lstR K ((r ++ s').map (term K)))
    rw [List.map_append]
    exact ev_catL (ev_srow T.toTx (x := (p, r)) (by walk_at "ev")) (ev_srow T.toTx (x := (p, s')) (by walk_at "ev")) (by rw [List.length_map, List.length_map]; omega)
  · rcases List.mem_append.mp ht with h | h
    · exact hr1 t h
    · exact hr2 t h
  · show (r ++ s').length ≤ 256
    rw [List.length_append]; exact hz
def TmsOk (x : Int × Int × Nat × Nat × List Tm × List Tm) : Prop := PrF x.1 ∧ 0 ≤ x.2.1 ∧ x.2.1 ≤ 30 ∧ x.2.2.1 + x.2.2.2.1 ≤ 190 ∧ RowOk x.1 x.2.1 x.2.2.1 x.2.2.2.2.1 ∧ RowOk x.1 x.2.1 x.2.2.2.1 x.2.2.2.2.2 ∧ x.2.2.2.2.1.length * x.2.2.2.2.2.length ≤ 256 ∧ x.2.2.2.2.1.length ≤ 256 ∧ x.2.2.2.2.2.length ≤ 256
def sp_Sum_times (K : PySem.W.Frag) : Sp := spG (ι := Int × Int × Nat × Nat × List Tm × List Tm) (fun x => [sumR K (x.1, x.2.2.2.2.1), sumR K (x.1, x.2.2.2.2.2)]) (fun W x => TmsOk x ∧ Tk K W) fun x => sumR K (x.1, gath x.1 (prodT x.1 x.2.2.2.2.1 x.2.2.2.2.2))
theorem ok_Sum_times (T : Ty K mg base) : Met P w K mg base 7 (He.ga K "Sum") "times" (sp_Sum_times K) [] := by
  have h_Sum_look_alike := ok_Sum_look_alike (P := P) (w := w) (base := base) T.toTx
  have h_Field_times := ok_Field_times (P := P) (w := w) (base := base) T.toTx
  have h_joined_product := ok_joined_product (P := P) (w := w) (base := base) T.toTx
  have h_Sum_mk := ok_Sum_mk (P := P) (w := w) (base := base) T
  obtain ⟨fd, F⟩ := T.d_Sum_times
  refine ⟨_, fd, ["self", "other"], [], T.k_Sum, T.h_Sum_times, F.ok sc_Sum_times (spG_len fun _ => rfl) (fun cdv A outer s H vs Q E hr h => ?_), F.bindsN (fun _ _ _ _ _ _ us hl => match us, hl with | [_, _], _ => rfl), .nil⟩
  obtain ⟨W, ⟨p, n, j, jj, r, s'⟩, rfl, ha, ⟨⟨hp, hn0, hn, hj, hr1, hr2, hz, hz1, hz2⟩, hT⟩, k⟩ := h
  dsimp only at hp hn0 hn hj hr1 hr2 hz hz1 hz2
  obtain ⟨v0, v1, rfl, h0, h1⟩ := ha.two
  refine ⟨_, PSs.nox (pss_cons (ps_expr (pe_mt h_Sum_look_alike hr (by decide) (pv 0) (pa_cons (pv 1) pa_nil)))
    (pss_cons (ps_set (i := 2) sc_Sum_times.nd rfl (Or.inl rfl) (pe_lst pa_nil))
    (pss_cons (ps_for PassesOwn.never rfl (pi_list (pe_fld (pv 0) rfl)) (pg_tup rfl (pgs_cons (pg_name (i := 3) sc_Sum_times.nd rfl (Or.inl rfl)) (pgs_cons (pg_name (i := 4) sc_Sum_times.nd rfl (Or.inl rfl)) pgs_nil))) (pss_one (ps_for PassesOwn.never rfl (pi_list (pe_fld (pv 1) rfl)) (pg_tup rfl (pgs_cons (pg_name (i := 5) sc_Sum_times.nd rfl (Or.inl rfl)) (pgs_cons (pg_name (i := 6) sc_Sum_times.nd rfl (Or.inl rfl)) pgs_nil))) (pss_one (ps_expr (pe_bm PySem.F.plainAttrs_list PySem.F.slot_list_append PySem.F.type_list_append mt_append (pv 2) (pa_cons (pe_tup (pa_cons (pe_c h_joined_product hr (by decide) rfl (pa_cons (pv 3) (pa_cons (pv 5) pa_nil))) (pa_cons (pe_mt h_Field_times hr (by decide) (pe_fld (pv 0) rfl) (pa_cons (pv 4) (pa_cons (pv 6) pa_nil))) pa_nil))) pa_nil)))))))
    (pss_one (ps_ret (pe_mk h_Sum_mk hr (by decide) rfl (pa_cons (pe_fld (pv 0) rfl) (pa_cons (pv 2) pa_nil)))))))), ?_⟩
  try simp only [cxK, cxW, cxP]
  have hpo := hp.ok
  refine q_drop (R := is .non) (ev_meth (R := sumR K (p, r)) (by walk_at "ev") (sum_no (by decide +kernel) (by decide +kernel)) (as := [sumR K (p, s')]) (ea_cons (ev_var rfl h1) ea_nil) (p, r, s') rfl fun _ _ => True.intro) fun _ W1 l1 _ => ?_
  refine q_newL (rs := []) ea_nil (by decide) fun l W2 s2 l2 fr L2 => ?_
  refine q_forI (it_list (K := K) (rs := r.map (term K)) (ev_srow T.toTx (x := (p, r)) (by walk_at "ev"))) (fun i σ' W' => ∃ o3 o4 o5 o6 : Option V, σ' = [some v0, some v1, some (.ref l), o3, o4, o5, o6] ∧ Le W W' ∧ LocL W' l ((prodT p (r.take i) s').map (term K))) (fun W3 l3 => ⟨none, none, none, none, rfl, (l1.trans l2).trans l3, L2.le l3⟩) ?_ ?_
  · rintro i r0 x σ' W' W4 N hi s ⟨o3, o4, o5, o6, rfl, lw, L⟩ l4 hx nx
    obtain ⟨t, ht, rfl, hm⟩ := map_at hi
    refine g_pair hx fun x1 x2 hx1 hx2 => ?_
    have hlw := lw.trans l4
    have fr0 : Fre W l := l1.free fr
    refine s_forI (it_list (K := K) (rs := s'.map (term K)) (ev_srow T.toTx (x := (p, s')) (ev_var rfl ((sumR K (p, s')).mono hlw.b h1)))) (fun m σ' W' => ∃ o5 o6 : Option V, σ' = [some v0, some v1, some (.ref l), some x1, some x2, o5, o6] ∧ Le W W' ∧ LocL W' l ((prodT p (r.take i) s' ++ (s'.take m).map fun u => (usort (t.1 ++ u.1), ntimes p t.2 u.2)).map (term K))) (fun W5 l5 => ⟨o5, o6, rfl, hlw.trans l5, by rw [List.take_zero, List.map_nil, List.append_nil]; exact (L.le l4).le l5⟩) ?_ ?_
    · rintro m r1 y σ' W5 W6 N2 hi2 s5 ⟨o5, o6, rfl, lw5, L5⟩ l6 hy nx2
      obtain ⟨u, hu, rfl, hm2⟩ := map_at hi2
      refine g_pair hy fun y1 y2 hy1 hy2 => ?_
      have q1 := hr1 t hm
      have q2 := hr2 u hm2
      have c1 := q1.1.len hn0
      have c2 := q2.1.len hn0
      have hlen : (prodT p (r.take i) s' ++ (s'.take m).map fun u => (usort (t.1 ++ u.1), ntimes p t.2 u.2)).length ≤ 1000 := by
        rw [List.length_append, List.length_map, prodT_len, List.length_take, List.length_take]
        have : min i r.length * s'.length ≤ r.length * s'.length := Nat.mul_le_mul_right _ (by omega)
        omega
      refine s_app (K := K) (rs := (prodT p (r.take i) s' ++ (s'.take m).map fun u => (usort (t.1 ++ u.1), ntimes p t.2 u.2)).map (term K)) (R := term K (usort (t.1 ++ u.1), ntimes p t.2 u.2)) rfl (L5.le l6) (ev_tup (ea_cons (ev_call (x := (t.1, u.1)) (as := [prod t.1, prod u.1]) (ea_cons (ev_var rfl ((prod t.1).mono (s5.trans l6.b) hx1)) (ea_cons (ev_var rfl hy1) ea_nil)) rfl fun _ _ => by show t.1.length + u.1.length ≤ 60; omega) (ea_cons (ev_meth (R := fld K p) (ev_sfield T.toTx (x := (p, r)) (ev_var rfl ((sumR K (p, r)).mono (lw5.trans l6).b h0))) (fld_noprime (by decide +kernel)) (as := [num K t.2, num K u.2]) (ea_cons (ev_var rfl ((num K t.2).mono (s5.trans l6.b) hx2)) (ea_cons (ev_var rfl hy2) ea_nil)) (p, t.2, u.2) rfl fun _ _ => ⟨hpo, q1.2.1, q2.2.1, q1.2.sz hpo (by omega), q2.2.sz hpo (by omega)⟩) ea_nil))) (by rw [List.length_map]; omega) fun W7 u7 L7 => ?_
      refine nx2 _ W7 u7.b ⟨_, _, rfl, u7.le (lw5.trans l6) fr0, ?_⟩
      rw [map_take hu, ← List.append_assoc, List.map_append]
      exact L7
    · rintro σ' W5 s5 ⟨o5, o6, rfl, lw5, L5⟩
      rw [List.length_map, List.take_length, ← prodT_take ht] at L5
      exact nx _ W5 s5 ⟨_, _, _, _, rfl, lw5, L5⟩
  · rintro σ' W' s ⟨o3, o4, o5, o6, rfl, lw, L⟩
    rw [List.length_map, List.take_length] at L
    obtain ⟨W3, e3, u3, hl3⟩ := L.frz (K := K)
    rw [← e3]
    have lw3 := u3.le lw (l1.free fr)
    refine s_ret (ev_make (dvs := []) (as := [fld K p, rows K (prodT p r s')]) (ea_cons (ev_sfield T.toTx (x := (p, r)) (ev_var rfl ((sumR K (p, r)).mono lw3.b h0))) (ea_cons (ev_var rfl hl3) ea_nil)) (p, n, j + jj, prodT p r s') rfl fun W4 l4 => ⟨⟨hp, by show n ≤ 60; omega, hj, prodT_ok hpo hr1 hr2, by show (prodT p r s').length ≤ 256; rw [prodT_len]; exact hz⟩, hT.le (lw3.trans l4)⟩) fun v W4 l4 hv => k v W4 (lw3.trans l4) hv
end
end Fs

set_option Elab.async false
set_option linter.all false
set_option maxRecDepth 100000
set_option maxHeartbeats 2000000
namespace Fs
open PySem PySem.Spec PyProof.Rows L2 C8
/-- the places of a product called by another order -/
def renP (ord q : List Int) : List Int := usort (q.map (at_ ord))
def renT (ord : List Int) (r : List Tm) : List Tm := r.map fun t => (renP ord t.1, t.2)
def hasAll (fs q : List Int) : Bool := (q.map fun i => decide (at_ fs i = 1)).all id
def worthR (p : Int) (r : List Tm) (fs : List Int) : Num := r.foldl (fun n t => if hasAll fs t.1 = true then nplus p n t.2 else n) (0, 1)
/-- an order of m places -/
def OrdOk (m : Int) (ord : List Int) : Prop := ord.Nodup ∧ ∀ i ∈ ord, 0 ≤ i ∧ i < m
theorem at_mem {ps : List Int} {i : Int} (h0 : 0 ≤ i) (h1 : i < ps.length) : at_ ps i ∈ ps := List.mem_of_getElem? (at_get h0 h1)
theorem at_inj {ps : List Int} (hn : ps.Nodup) {i j : Int} (h0 : 0 ≤ i) (h1 : i < ps.length) (g0 : 0 ≤ j) (g1 : j < ps.length) (e : at_ ps i = at_ ps j) : i = j := by
  have a := at_get h0 h1
  have b := at_get g0 g1
  rw [e] at a
  have := (List.getElem?_inj (by omega) hn).mp (a.trans b.symm)
  omega
theorem ren_nodup {ord q : List Int} {n : Int} (ho : ord.Nodup) (hq : PdOk n q) (hn : n ≤ ord.length) : (q.map (at_ ord)).Nodup := by
  have hq' : q.Nodup := hq.1.imp fun h e => by subst e; exact Int.lt_irrefl _ h
  refine List.Pairwise.map _ ?_ (List.Pairwise.and_mem.mp hq') 
  rintro a b ⟨ha, hb, hab⟩ e
  have h1 := hq.2 a ha
  have h2 := hq.2 b hb
  exact hab (at_inj ho h1.1 (by omega) h2.1 (by omega) e)
theorem ren_pd {ord q : List Int} {n m : Int} (ho : OrdOk m ord) (hq : PdOk n q) (hn : n ≤ ord.length) : PdOk m (renP ord q) := ⟨usort_sorted _, fun i hi => by
  unfold renP at hi
  rw [mem_usort] at hi
  obtain ⟨k, hk, rfl⟩ := List.mem_map.mp hi
  have := hq.2 k hk
  exact ho.2 _ (at_mem this.1 (by omega))⟩
theorem renT_ok {p n m : Int} {j : Nat} {ord : List Int} {r : List Tm} (ho : OrdOk m ord) (h : RowOk p n j r) (hn : n ≤ ord.length) : RowOk p m j (renT ord r) := fun t ht => by
  obtain ⟨u, hu, rfl⟩ := List.mem_map.mp ht
  exact ⟨ren_pd ho (h u hu).1 hn, (h u hu).2⟩
local macro_rules | `(tactic| walk_at "up") => `(tactic| first
  | assumption
  | ((refine Rp.mono _ (by assumption : Same _ _) ?_); walk_at "up")
  | ((refine Rp.mono _ (Le.b (by assumption)) ?_); walk_at "up"))
local macro_rules | `(tactic| walk_at "ev") => `(tactic| first
  | ((with_reducible refine' ev_var ?h1 ?h2); (case h1 => rfl); (case h2 => walk_at "up"))
  | ((with_reducible refine' ev_vi ?h1); (case h1 => rfl))
  | with_reducible exact ev_ci
  | ((with_reducible refine' ev_get0 ?ea); (case ea => walk_at "ev"))
  | ((with_reducible refine' ev_get1 ?ea); (case ea => walk_at "ev"))
  | ((with_reducible refine' ev_I0 ?ea ?eb); (case ea => walk_at "ev"); (case eb => walk_at "ev"))
  | ((with_reducible refine' ev_notV ?ea); (case ea => walk_at "ev"))
  | ((with_reducible refine' eb_test ?ea); (case ea => walk_at "ev"))
  | ((with_reducible refine' eb_B ?ea); (case ea => walk_at "ev"))
  | ((with_reducible refine' eb_not ?ea); (case ea => walk_at "ev"))
  | ((with_reducible refine' ev_eq ?ea ?eb ?ec); (case ea => walk_at "ev"); (case eb => walk_at "ev"); (case ec => rfl))
  | ((with_reducible refine' ev_ne ?ea ?eb ?ec); (case ea => walk_at "ev"); (case eb => walk_at "ev"); (case ec => rfl))
  | ((with_reducible refine' ev_chainI ?ea ?eb ?ec); (case ea => walk_at "ev"); (case eb => walk_at "ev"); (case ec => walk_at "ev"))
  | with_reducible exact ea_nil
  | ((with_reducible refine' ea_cons ?ea ?eb); (case ea => walk_at "ev"); (case eb => walk_at "ev")))
section
variable {P : Program} {w : World} {K : PySem.W.Frag} {mg : Str → Option Value} {base : Heap}
/-- (p, places, level, row, order, places) -/
abbrev IR := Int × Int × Nat × List Tm × List Int × Int
def RenOk (x : IR) : Prop := PrF x.1 ∧ 0 ≤ x.2.1 ∧ x.2.1 ≤ 60 ∧ x.2.2.1 ≤ 190 ∧ RowOk x.1 x.2.1 x.2.2.1 x.2.2.2.1 ∧ x.2.2.2.1.length ≤ 256 ∧ OrdOk x.2.2.2.2.2 x.2.2.2.2.1 ∧ x.2.2.2.2.2 ≤ 60 ∧ x.2.1 ≤ x.2.2.2.2.1.length ∧ x.2.2.2.2.1.length ≤ 60
def sp_Sum_renamed (K : PySem.W.Frag) : Sp := spG (ι := IR) (fun x => [sumR K (x.1, x.2.2.2.1), lstR K (x.2.2.2.2.1.map int)]) (fun W x => RenOk x ∧ Tk K W) fun x => sumR K (x.1, gath x.1 (renT x.2.2.2.2.1 x.2.2.2.1))
theorem all_true {α : Type} {f : α → Bool} {xs : List α} (h : ∀ x ∈ xs, f x = true) : (xs.map f).all id = true := by
  rw [List.all_map]
  exact List.all_eq_true.mpr h
theorem ok_Sum_renamed (T : Ty K mg base) : Met P w K mg base 7 (He.ga K "Sum") "renamed" (sp_Sum_renamed K) [] := by
  have h_Sum_reach := ok_Sum_reach (P := P) (w := w) (base := base) T.toTx
  have h_is_place := ok_is_place (P := P) (w := w) (base := base) T.toTx
  have h_Sum_mk := ok_Sum_mk (P := P) (w := w) (base := base) T
  obtain ⟨fd, F⟩ := T.d_Sum_renamed
  refine ⟨_, fd, ["self", "order"], [], T.k_Sum, T.h_Sum_renamed, F.ok sc_Sum_renamed (spG_len fun _ => rfl) (fun cdv A outer s H vs Q E hr h => ?_), F.bindsN (fun _ _ _ _ _ _ us hl => match us, hl with | [_, _], _ => rfl), .nil⟩
  obtain ⟨W, ⟨p, n, j, r, ord, m⟩, rfl, ha, ⟨⟨hp, hn0, hn, hj, hr1, hz, ho, hm, hnl, hlz⟩, hT⟩, k⟩ := h
  dsimp only at hp hn0 hn hj hr1 hz ho hm hnl hlz
  obtain ⟨v0, v1, rfl, h0, h1⟩ := ha.two
  dsimp only at h0 h1
  refine ⟨_, PSs.nox (pss_cons (ps_if (PW.pt (pw_or (pt_not (pt_val (pe_callB call_isi (by rfl) T.b_isinstance (by decide +kernel) (pa_cons (pv 1) (pa_cons (pe_bltn (v := .ty "list") (by rfl) T.b_list (by decide +kernel) rfl) pa_nil))))) (pw_or1 (pt_cmpR op_lt (pe_callB call_len_seq (by rfl) T.b_len (by decide +kernel) (pa_cons (pv 1) pa_nil)) (pe_mt0 h_Sum_reach hr (by decide) (pv 0)) (nomark _))))) (pss_one ps_never) pss_nil)
    (pss_cons (ps_if (PW.pt (pw_or (pt_not (pt_val (pe_callB (cr_all rfl) (by rfl) T.b_all (by decide +kernel) (pa_cons (pe_lc (own := [("place", 2)]) rfl sc_Sum_renamed.nd (pi_list (pv 1)) (blkOk_by (N := ["self", "order", "place", "i", "product", "one"]) (sc := defScope s_Sum_renamed) (by decide +kernel)) (fun _ _ _ _ _ => (pg_name (i := 2) sc_Sum_renamed.nd rfl (Or.inl rfl))) (fun _ _ _ _ _ => pts_nil) (fun _ _ _ _ _ => (pe_c h_is_place hr (by decide) rfl (pa_cons (pv 2) pa_nil)))) pa_nil)))) (pw_or1 (pt_cmpR op_ne (RZ.pe_lenSetI rfl T.b_len rfl T.b_set (pv 1)) (pe_callB call_len_seq (by rfl) T.b_len (by decide +kernel) (pa_cons (pv 1) pa_nil)) (nomark _))))) (pss_one ps_never) pss_nil)
    (pss_one (ps_ret (pe_mk h_Sum_mk hr (by decide) rfl (pa_cons (pe_fld (pv 0) rfl) (pa_cons (pe_lc (own := [("product", 4), ("one", 5)]) rfl sc_Sum_renamed.nd (pi_list (pe_fld (pv 0) rfl)) (blkOk_by (N := ["self", "order", "place", "i", "product", "one"]) (sc := defScope s_Sum_renamed) (by decide +kernel)) (fun _ _ _ _ _ => (pg_tup (n := 2) rfl (pgs_cons (pg_name (i := 4) sc_Sum_renamed.nd rfl (Or.inl rfl)) (pgs_cons (pg_name (i := 5) sc_Sum_renamed.nd rfl (Or.inl rfl)) pgs_nil)) : PG _ _ (gTup K 2 _))) (fun _ _ _ _ _ => pts_nil) (fun _ _ _ _ _ => (pe_tup (pa_cons (pe_callTy (call_tuple_of : CallR _ _ (rTupQ K)) (by rfl) T.b_tuple (by decide +kernel) (pa_cons (pe_callB (cr_sortedI : CallR _ _ (rSortedI K)) (by rfl) T.b_sorted (by decide +kernel) (pa_cons (pe_lc (own := [("i", 3)]) rfl sc_Sum_renamed.nd (pi_tup (pv 4) : PI _ _ _ (iTup K _)) (blkOk_by (by kernel_rfl)) (fun _ _ _ _ _ => (pg_name (i := 3) sc_Sum_renamed.nd rfl (Or.inl rfl))) (fun _ _ _ _ _ => pts_nil) (fun _ _ _ _ _ => (pe_ix (ix_list : IxR _ (rIxL K)) (pv 1) (pv 3) (fun _ _ => rfl)))) pa_nil)) pa_nil)) (pa_cons (pv 5) pa_nil))))) pa_nil))))))), ?_⟩
  try simp only [cxK, cxW, cxP]
  refine q_skip (eb_or (eb_is (eb_not (eb_B (ev_isi (R := lstR K (ord.map int)) (by walk_at "ev") ty_lst (.ty _) (kit_ty (r := true) (by decide +kernel))))) rfl) (fun _ => eb_is (eb_test (ev_I0 (ev_lenL (K := K) (rs := ord.map int) (ev_var rfl h1)) (ev_meth (R := sumR K (p, r)) (by walk_at "ev") (sum_no (by decide +kernel) (by decide +kernel)) (as := []) ea_nil (p, r) rfl fun _ _ => ⟨hz, fun t ht => (hr1 t ht).1.le hn⟩))) ?_) (fun e => nomatch e)) fun W1 l1 => ?_
  · have := rch_le hr1 hn0
    rw [List.length_map]
    exact decide_eq_false (by show ¬ ((ord.length : Int) < rch r); omega)
  refine q_skip (eb_or (a := false) (eb_is (eb_not (eb_B (ev_all (bs := ord.map fun _ => true) (by
    rw [List.map_map]
    refine ev_mapI (F := int) (G := fun _ => bl true) (xs := ord) (it_list (K := K) (by walk_at "ev")) (by omega) ?_
    intro i v W2 hi l2 hv Q q
    exact g_name (q _ rfl (ev_place (ea_cons (ev_var rfl hv) ea_nil) (ho.2 i hi).1 (by have := (ho.2 i hi).2; omega)))))) ) (by rw [all_true fun _ _ => rfl]; rfl)) (fun _ => eb_is (eb_test (ev_ne (ev_lenSet (K := K) (ev_var rfl (Rp.mono _ l1.b h1)) ho.1 (by omega)) (ev_lenL (K := K) (rs := ord.map int) (ev_var rfl (Rp.mono _ l1.b h1))) rfl)) (by rw [List.length_map, decide_eq_true rfl]; rfl)) (fun e => nomatch e)) fun W2 l2 => ?_
  have l12 := l1.trans l2
  refine s_ret (ev_make (dvs := []) (as := [fld K p, rows K (renT ord r)]) (ea_cons (ev_sfield T.toTx (x := (p, r)) (by walk_at "ev")) (ea_cons ?_ ea_nil)) (p, m, j, renT ord r) rfl fun W3 l3 => ⟨⟨hp, hm, hj, renT_ok ho hr1 hnl, by show (renT ord r).length ≤ 256; unfold renT; rw [List.length_map]; exact hz⟩, hT.le (l12.trans l3)⟩) fun v W3 l3 hv => k v W3 (l12.trans l3) hv
  show Ev _ _ _ (lstR K ((renT ord r).map (term K)))
  unfold renT
  rw [List.map_map]
  refine ev_mapI (F := term K) (xs := r) (it_list (ev_srow T.toTx (x := (p, r)) (by walk_at "ev"))) (by omega) ?_
  intro t v W3 ht l3 hv Q q
  refine g_pair hv fun x1 x2 hx1 hx2 => q _ rfl (ev_tup (ea_cons (ev_tupOfI (ev_sortU (ns := t.1.map (at_ ord)) ?_ (ren_nodup ho.1 (hr1 t ht).1 hnl))) (ea_cons (ev_var rfl hx2) ea_nil)))
  have hlen := (hr1 t ht).1.len60 hn
  rw [List.map_map]
  refine ev_mapI (F := int) (xs := t.1) (it_prod (K := K) (ev_var rfl hx1)) (by omega) ?_
  intro i u W4 hi l4 hu Q2 q2
  have := (hr1 t ht).1.2 i hi
  exact g_name (q2 _ rfl (ev_ixI (K := K) (ev_var rfl (Rp.mono _ ((l12.trans l3).trans l4).b h1)) (ev_var rfl hu) this.1 (by omega)))
/-- (p, places, level, row, filling) -/
abbrev IW := Int × Int × Nat × List Tm × List Int
def FilOk (fs : List Int) : Prop := ∀ i ∈ fs, i = 0 ∨ i = 1
def WorthOk (x : IW) : Prop := PrF x.1 ∧ 0 ≤ x.2.1 ∧ x.2.2.1 ≤ 190 ∧ RowOk x.1 x.2.1 x.2.2.1 x.2.2.2.1 ∧ x.2.2.2.1.length ≤ 256 ∧ x.2.1 ≤ x.2.2.2.2.length ∧ x.2.2.2.2.length ≤ 60 ∧ FilOk x.2.2.2.2
def sp_Sum_worth (K : PySem.W.Frag) : Sp := spG (ι := IW) (fun x => [sumR K (x.1, x.2.2.2.1), prod x.2.2.2.2]) (fun W x => WorthOk x) fun x => num K (worthR x.1 x.2.2.2.1 x.2.2.2.2)
theorem worth_gc {p n : Int} {j : Nat} {fs : List Int} (hp : PrOk p) : ∀ {r : List Tm} {c : Nat} {z : Num}, RowOk p n j r → Gc p j c z → Gc p j (c + r.length) (r.foldl (fun n t => if hasAll fs t.1 = true then nplus p n t.2 else n) z)
  | [], c, z, _, h => h
  | t :: r, c, z, hr, h => by
    have e : c + (t :: r).length = (c + 1) + r.length := by rw [List.length_cons]; omega
    rw [e, List.foldl_cons]
    refine worth_gc hp (fun u hu => hr u (List.mem_cons_of_mem _ hu)) ?_
    split
    · exact gc_plus hp h (hr t (List.mem_cons_self ..)).2
    · exact h.mono (by omega)
theorem ok_Sum_worth (T : Tx K mg) : Met P w K mg base 4 (He.ga K "Sum") "worth" (sp_Sum_worth K) [] := by
  have h_Sum_reach := ok_Sum_reach (P := P) (w := w) (base := base) T
  have h_is_whole := ok_is_whole (P := P) (w := w) (base := base) T
  have h_Field_plus := ok_Field_plus (P := P) (w := w) (base := base) T
  obtain ⟨fd, F⟩ := T.d_Sum_worth
  refine ⟨_, fd, ["self", "filling"], [], T.k_Sum, T.h_Sum_worth, F.ok sc_Sum_worth (spG_len fun _ => rfl) (fun cdv A outer s H vs Q E hr h => ?_), F.bindsN (fun _ _ _ _ _ _ us hl => match us, hl with | [_, _], _ => rfl), .nil⟩
  obtain ⟨W, ⟨p, n, j, r, fs⟩, rfl, ha, ⟨hp, hn0, hj, hr1, hz, hnl, hlz, hf⟩, k⟩ := h
  dsimp only at hp hn0 hj hr1 hz hnl hlz hf
  obtain ⟨v0, v1, rfl, h0, h1⟩ := ha.two
  refine ⟨_, PSs.nox (pss_cons (ps_if (PW.pt (pw_or (pt_not (pt_val (pe_callB call_isi (by rfl) T.b_isinstance (by decide +kernel) (pa_cons (pv 1) (pa_cons (pe_bltn (v := .ty "tuple") (by rfl) T.b_tuple (by decide +kernel) rfl) pa_nil))))) (pw_or1 (pt_cmpR op_lt (pe_callB call_len_seq (by rfl) T.b_len (by decide +kernel) (pa_cons (pv 1) pa_nil)) (pe_mt0 h_Sum_reach hr (by decide) (pv 0)) (nomark _))))) (pss_one ps_never) pss_nil)
    (pss_cons (ps_if (pt_not (pt_val (pe_callB (cr_all rfl) (by rfl) T.b_all (by decide +kernel) (pa_cons (pe_lc (own := [("one", 2)]) rfl sc_Sum_worth.nd (pi_tup (pv 1)) (blkOk_by (N := ["self", "filling", "one", "found", "product", "number", "place"]) (sc := defScope s_Sum_worth) (by decide +kernel)) (fun _ _ _ _ _ => (pg_name (i := 2) sc_Sum_worth.nd rfl (Or.inl rfl))) (fun _ _ _ _ _ => pts_nil) (fun _ _ _ _ _ => (pe_and (pe_c h_is_whole hr (by decide) rfl (pa_cons (pv 2) pa_nil)) (pe_one (pe_chain op_le op_le pe_int (pv 2) pe_int))))) pa_nil)))) (pss_one ps_never) pss_nil)
    (pss_cons (ps_set (i := 3) sc_Sum_worth.nd rfl (Or.inl rfl) (pe_glob (v := .ref (He.ga K "ZERO")) rfl T.c_ZERO rfl))
    (pss_cons (ps_for PassesOwn.never rfl (pi_list (pe_fld (pv 0) rfl)) (pg_tup rfl (pgs_cons (pg_name (i := 4) sc_Sum_worth.nd rfl (Or.inl rfl)) (pgs_cons (pg_name (i := 5) sc_Sum_worth.nd rfl (Or.inl rfl)) pgs_nil))) (pss_one (ps_if (pt_val (pe_callB (cr_all rfl) (by rfl) T.b_all (by decide +kernel) (pa_cons (pe_lc (own := [("place", 6)]) rfl sc_Sum_worth.nd (pi_tup (pv 4)) (blkOk_by (N := ["self", "filling", "one", "found", "product", "number", "place"]) (sc := defScope s_Sum_worth) (by decide +kernel)) (fun _ _ _ _ _ => (pg_name (i := 6) sc_Sum_worth.nd rfl (Or.inl rfl))) (fun _ _ _ _ _ => pts_nil) (fun _ _ _ _ _ => (pe_cmpR op_eq (pe_ix (ix_tup : IxR _ (rIxT K)) (pv 1) (pv 6) (fun _ _ => rfl)) pe_int (nomark _)))) pa_nil))) (pss_one (ps_set (i := 3) sc_Sum_worth.nd rfl (Or.inl rfl) (pe_mt h_Field_plus hr (by decide) (pe_fld (pv 0) rfl) (pa_cons (pv 3) (pa_cons (pv 5) pa_nil))))) pss_nil)))
    (pss_one (ps_ret (pv 3))))))), ?_⟩
  try simp only [cxK, cxW, cxP]
  have hpo := hp.ok
  refine q_skip (eb_or (eb_is (eb_not (eb_B (ev_isi (R := prod fs) (by walk_at "ev") (fun W v h => ty_tup (K := K) W v (prod_tup h)) (.ty _) (kit_ty (r := true) (by decide +kernel))))) rfl) (fun _ => eb_is (eb_test (ev_I0 (ev_lenT (K := K) (rs := fs.map int) (ev_prodT (ev_var rfl h1))) (ev_meth (R := sumR K (p, r)) (by walk_at "ev") (sum_no (by decide +kernel) (by decide +kernel)) (as := []) ea_nil (p, r) rfl fun _ _ => ⟨hz, fun t ht => (hr1 t ht).1.le (by omega)⟩))) ?_) (fun e => nomatch e)) fun W1 l1 => ?_
  · have := rch_le hr1 hn0
    rw [List.length_map]
    exact decide_eq_false (by show ¬ ((fs.length : Int) < rch r); omega)
  refine q_skip (eb_is (eb_not (eb_B (ev_all (bs := fs.map fun _ => true) (by
    rw [List.map_map]
    refine ev_mapI (F := int) (G := fun _ => bl true) (xs := fs) (it_prod (K := K) (by walk_at "ev")) (by omega) ?_
    intro i v W2 hi l2 hv Q q
    refine g_name (q _ rfl (ev_andV (ev_whole (ea_cons (ev_var rfl hv) ea_nil)) (fun _ => ev_is (ev_chainI ev_ci (ev_var rfl hv) ev_ci) ?_) (fun e => nomatch e)))
    rcases hf i hi with e | e <;> subst e <;> rfl)))) (by rw [all_true fun _ _ => rfl]; rfl)) fun W2 l2 => ?_
  refine q_asg (R := num K (0, 1)) (ev_c (zero_at T)) fun v3 W3 l3 hv3 => ?_
  have l13 := (l1.trans l2).trans l3
  refine q_forI (it_list (K := K) (rs := r.map (term K)) (ev_srow T (x := (p, r)) (by walk_at "ev"))) (fun i σ' W' => ∃ (u : V) (o2 o4 o5 o6 : Option V), σ' = [some v0, some v1, o2, some u, o4, o5, o6] ∧ Le W W' ∧ (num K (worthR p (r.take i) fs)).p W'.B u) (fun W4 l4 => ⟨v3, none, none, none, none, rfl, l13.trans l4, (num K (0, 1)).mono l4.b hv3⟩) ?_ ?_
  · rintro i r0 x σ' W' W4 N hi s ⟨u, o2, o4, o5, o6, rfl, lw, hu⟩ l4 hx nx
    obtain ⟨t, ht, rfl, hm⟩ := map_at hi
    refine g_pair hx fun x1 x2 hx1 hx2 => ?_
    have hlw := lw.trans l4
    have hq := (hr1 t hm).1
    have hl60 := hq.len60 (show n ≤ 60 by omega)
    have ew : worthR p (r.take (i + 1)) fs = if hasAll fs t.1 = true then nplus p (worthR p (r.take i) fs) t.2 else worthR p (r.take i) fs := by
      unfold worthR
      rw [List.take_add_one, ht, List.foldl_append]; rfl
    have hg := worth_gc (fs := fs) hpo (hr1.take i) (gd_zero (j := j) (c := 0) hpo)
    have hlen : (r.take i).length ≤ 256 := by rw [List.length_take]; omega
    refine s_when (P := Bo (hasAll fs t.1)) (eb_B (ev_all (K := K) (bs := t.1.map fun i => decide (at_ fs i = 1)) (by
      rw [List.map_map]
      refine ev_mapI (F := int) (xs := t.1) (it_prod (K := K) (ev_var rfl hx1)) (by omega) ?_
      intro i v W5 hi l5 hv Q q
      have hb := hq.2 i hi
      exact g_name (q _ rfl (ev_is (ev_eq (ev_ixP (K := K) (ev_var rfl ((prod fs).mono (hlw.trans l5).b h1)) (ev_var rfl hv) hb.1 (by omega)) ev_ci rfl) (by simp)))))) (fun hh W5 l5 => ?_) (fun hh W5 l5 => ?_)
    · refine s_asg (R := num K (nplus p (worthR p (r.take i) fs) t.2)) (ev_meth (R := fld K p) (ev_sfield T (x := (p, r)) (ev_var rfl ((sumR K (p, r)).mono (hlw.trans l5).b h0))) (fld_noprime (by decide +kernel)) (as := [num K (worthR p (r.take i) fs), num K t.2]) (ea_cons (ev_var rfl ((num K _).mono (l4.trans l5).b hu)) (ea_cons (ev_var rfl ((num K _).mono l5.b hx2)) ea_nil)) (p, worthR p (r.take i) fs, t.2) rfl fun _ _ => ⟨hpo, hg.1, (hr1 t hm).2.1, (hg.up (k := 8) (by omega)).sz hpo (by omega), (hr1 t hm).2.sz hpo (by omega)⟩) fun v W6 l6 hv => ?_
      refine nx _ W6 (l5.trans l6).b ⟨_, _, _, _, _, rfl, (hlw.trans l5).trans l6, ?_⟩
      rw [ew, if_pos hh.symm]; exact hv
    · refine nx _ W5 l5.b ⟨_, _, _, _, _, rfl, hlw.trans l5, ?_⟩
      rw [ew, if_neg (by rw [← hh]; decide)]
      exact (num K _).mono (l4.trans l5).b hu
  · rintro σ' W' s ⟨u, o2, o4, o5, o6, rfl, lw, hu⟩
    rw [List.length_map, List.take_length] at hu
    exact s_ret (ev_var rfl hu) fun v W4 l4 hv => k v W4 (lw.trans l4) hv
end
end Fs

set_option Elab.async false
set_option linter.all false
set_option maxRecDepth 100000
set_option maxHeartbeats 1000000
namespace Fs
/-! ### products of places -/
def lastO (q : List Int) : Int := lastP (if q = [] then [-1] else q)
def nextL (n : Int) (L : List (List Int)) : List (List Int) := L.flatMap fun q => (upTo (lastO q + 1) (n - (lastO q + 1)).toNat).map fun i => q ++ [i]
def lev (n : Int) : Nat → List (List Int)
  | 0 => [[]]
  | k + 1 => nextL n (lev n k)
def prodsOf (n : Int) : Nat → List (List Int)
  | 0 => [[]]
  | k + 1 => prodsOf n k ++ lev n (k + 1)
theorem mem_upTo {lo k : Int} {n : Nat} : k ∈ upTo lo n ↔ lo ≤ k ∧ k < lo + n := by
  unfold upTo
  rw [List.mem_map]
  constructor
  · rintro ⟨i, hi, rfl⟩
    have := List.mem_range.mp hi
    omega
  · rintro ⟨h1, h2⟩
    exact ⟨(k - lo).toNat, List.mem_range.mpr (by omega), by omega⟩
theorem lastP_snoc {q : List Int} {i : Int} : lastP (q ++ [i]) = i := by unfold lastP; simp
theorem lastO_snoc {q : List Int} {i : Int} : lastO (q ++ [i]) = i := by
  unfold lastO
  rw [if_neg (by simp), lastP_snoc]
theorem lastO_nil : lastO [] = -1 := rfl
theorem pd_snoc {n : Int} {q : List Int} {i : Int} : PdOk n (q ++ [i]) ↔ PdOk n q ∧ lastO q < i ∧ i < n := by
  constructor
  · rintro ⟨h1, h2⟩
    obtain ⟨p1, _, p3⟩ := List.pairwise_append.mp h1
    have hi := h2 i (by simp)
    refine ⟨⟨p1, fun a ha => h2 a (List.mem_append_left _ ha)⟩, ?_, hi.2⟩
    by_cases e : q = []
    · subst e; rw [lastO_nil]; omega
    · unfold lastO
      rw [if_neg e, ← last_eq e]
      exact p3 _ (List.getLast_mem e) i (by simp)
  · rintro ⟨⟨h1, h2⟩, h3, h4⟩
    have hi : ∀ a ∈ q, a < i := fun a ha => by
      have e : q ≠ [] := fun z => by subst z; simp at ha
      unfold lastO at h3
      rw [if_neg e, ← last_eq e] at h3
      rcases List.eq_nil_or_concat q with z | ⟨r, b, z⟩
      · exact absurd z e
      · rw [List.concat_eq_append] at z
        subst z
        have h3 : b < i := by simpa using h3
        rcases List.mem_append.mp ha with ha | ha
        · have := (List.pairwise_append.mp h1).2.2 a ha b (by simp)
          omega
        · have : a = b := by simpa using ha
          omega
    refine ⟨List.pairwise_append.mpr ⟨h1, by simp, fun a ha b hb => ?_⟩, fun a ha => ?_⟩
    · have : b = i := by simpa using hb
      subst this; exact hi a ha
    · rcases List.mem_append.mp ha with ha | ha
      · exact h2 a ha
      · have e : a = i := by simpa using ha
        subst e
        refine ⟨?_, h4⟩
        by_cases z : q = []
        · subst z; rw [lastO_nil] at h3; omega
        · have h5 := hi _ (List.getLast_mem z)
          have h6 := (h2 _ (List.getLast_mem z)).1
          omega
theorem mem_lev {n : Int} : ∀ {k : Nat} {q : List Int}, q ∈ lev n k ↔ PdOk n q ∧ q.length = k
  | 0, q => by
    unfold lev
    constructor
    · intro h
      have e : q = [] := by simpa using h
      subst e
      exact ⟨⟨.nil, fun i hi => by simp at hi⟩, rfl⟩
    · rintro ⟨_, h⟩
      have e : q = [] := List.length_eq_zero_iff.mp h
      subst e; simp
  | k + 1, q => by
    show q ∈ nextL n (lev n k) ↔ _
    unfold nextL
    rw [List.mem_flatMap]
    constructor
    · rintro ⟨r, hr, hq⟩
      obtain ⟨i, hi, rfl⟩ := List.mem_map.mp hq
      obtain ⟨h1, h2⟩ := mem_lev.mp hr
      have := mem_upTo.mp hi
      exact ⟨pd_snoc.mpr ⟨h1, by omega, by omega⟩, by simp [h2]⟩
    · rintro ⟨h1, h2⟩
      rcases List.eq_nil_or_concat q with z | ⟨r, b, z⟩
      · subst z; simp at h2
      · rw [List.concat_eq_append] at z
        subst z
        obtain ⟨p1, p2, p3⟩ := pd_snoc.mp h1
        refine ⟨r, mem_lev.mpr ⟨p1, by simpa using h2⟩, List.mem_map.mpr ⟨b, mem_upTo.mpr ⟨by omega, by omega⟩, rfl⟩⟩
theorem mem_prodsOf {n : Int} : ∀ {k : Nat} {q : List Int}, q ∈ prodsOf n k ↔ PdOk n q ∧ q.length ≤ k
  | 0, q => by
    have := mem_lev (n := n) (k := 0) (q := q)
    unfold lev at this
    unfold prodsOf
    rw [this]
    constructor
    · rintro ⟨a, b⟩; exact ⟨a, by omega⟩
    · rintro ⟨a, b⟩; exact ⟨a, by omega⟩
  | k + 1, q => by
    unfold prodsOf
    rw [List.mem_append, mem_prodsOf (k := k), mem_lev]
    constructor
    · rintro (⟨a, b⟩ | ⟨a, b⟩)
      · exact ⟨a, by omega⟩
      · exact ⟨a, by omega⟩
    · rintro ⟨a, b⟩
      by_cases e : q.length ≤ k
      · exact .inl ⟨a, e⟩
      · exact .inr ⟨a, by omega⟩
/-! how many -/
def pmI (n : Int) : Nat → Int × Int
  | 0 => (0, 1)
  | i + 1 => ((pmI n i).1 + (pmI n i).2, (pmI n i).2 * (n - i) / (i + 1))
def pm (n m : Int) : Int := (pmI n ((if n < m then n else m) + 1).toNat).1
theorem pmI_small : ∀ n : Fin 5, ∀ i : Fin 6, 0 ≤ (pmI (n.val : Int) i.val).2 ∧ (pmI (n.val : Int) i.val).2 ≤ 1000 := by decide
theorem lev_small : ∀ n : Fin 5, ∀ k : Fin 5, (lev (n.val : Int) k.val).length ≤ 6 ∧ (prodsOf (n.val : Int) k.val).length ≤ 16 := by decide
theorem small_n {n : Int} (h0 : 0 ≤ n) (h1 : n ≤ 4) : ∃ m : Fin 5, n = (m.val : Int) := ⟨⟨n.toNat, by omega⟩, by show n = ((n.toNat : Nat) : Int); omega⟩
theorem pmI_le {n : Int} (h0 : 0 ≤ n) (h1 : n ≤ 4) {i : Nat} (hi : i ≤ 5) : 0 ≤ (pmI n i).2 ∧ (pmI n i).2 ≤ 1000 := by
  obtain ⟨m, rfl⟩ := small_n h0 h1
  exact pmI_small m ⟨i, by omega⟩
theorem lev_le {n : Int} (h0 : 0 ≤ n) (h1 : n ≤ 4) {k : Nat} (hk : k ≤ 4) : (lev n k).length ≤ 6 ∧ (prodsOf n k).length ≤ 16 := by
  obtain ⟨m, rfl⟩ := small_n h0 h1
  exact lev_small m ⟨k, by omega⟩
end Fs

set_option Elab.async false
set_option linter.all false
set_option maxRecDepth 100000
set_option maxHeartbeats 2000000
namespace Fs
open PySem PySem.Spec PyProof.Rows L2 C8
abbrev ISy := Int × Int × List (List Tm)
section
variable {K : PySem.W.Frag} {mg : Str → Option Value} {σ : L2.St} {W W' W0 : Wd} {ta tb te : TE} {x y : ISy} {rs : List Rp}
theorem ev_yfield (T : Tx K mg) (h : Ev te σ W (sysR K x)) : Ev (tFld K te "own_field") σ W (fld K x.1) := ev_fld h T.k_System T.n_System_own_field (i := 0) rfl rfl rfl
theorem ev_yplaces (T : Tx K mg) (h : Ev te σ W (sysR K x)) : Ev (tFld K te "many_places") σ W (int x.2.1) := ev_fld h T.k_System T.n_System_many_places (i := 1) rfl rfl rfl
theorem ev_ynoughts (T : Tx K mg) (h : Ev te σ W (sysR K x)) : Ev (tFld K te "nought_sums") σ W (sums K x.1 x.2.2) := ev_fld h T.k_System T.n_System_nought_sums (i := 2) rfl rfl rfl
theorem ev_yuppers (T : Tx K mg) (h : Ev te σ W (sysR K x)) : Ev (tFld K te "upper_sums") σ W (lstR K []) := ev_fld h T.k_System T.n_System_upper_sums (i := 3) rfl rfl rfl
theorem sys_no {m : Str} (h : ¬ m = "own_field") (h2 : ¬ m = "many_places") (h3 : ¬ m = "nought_sums") (h4 : ¬ m = "upper_sums") : InsP (He.ga K "System") m (sysR K x) := ins_p rfl (by
  unfold ix; rw [if_neg h]; unfold ix; rw [if_neg h2]; unfold ix; rw [if_neg h3]; unfold ix; rw [if_neg h4]; rfl)
theorem ev_listRg {n : Int} (h : Ev ta σ W (int n)) (h0 : 0 ≤ n) (h1 : n ≤ 1000) : Ev (tLstRg (tRg1 ta)) σ W (lstR K ((upTo 0 n.toNat).map int)) := fun W1 l Q q =>
  h W1 l _ fun v W2 l2 hv => ⟨n, hv, RgOk.of_le (by decide) (by omega) (by decide) h0, fun p hp => by
    have le := W2.mk_le (o := .lst (rgV 0 n)) hp
    have e : rgV 0 n = (upTo 0 n.toNat).map V.int := by
      unfold rgV upTo
      rw [List.map_map, Int.sub_zero]; rfl
    exact q _ (W2.mk' p _ hp) (l2.trans le) ⟨p, rgV 0 n, rfl, upd_same, rpa_ints' e⟩⟩
end
def OrdP (n : Int) (ord : List Int) : Prop := ord.Perm (upTo 0 n.toNat)
theorem upTo_rising {lo : Int} {n : Nat} : (upTo lo n).Pairwise (· < ·) := by
  unfold upTo
  refine List.Pairwise.map _ ?_ List.pairwise_lt_range
  intro a b h
  omega
theorem OrdP.ok {n : Int} {ord : List Int} (h : OrdP n ord) : OrdOk n ord := ⟨h.nodup_iff.mpr (upTo_rising.imp fun h e => by subst e; exact Int.lt_irrefl _ h), fun i hi => by
  have := mem_upTo.mp (h.mem_iff.mp hi)
  omega⟩
theorem OrdP.len {n : Int} {ord : List Int} (h : OrdP n ord) : ord.length = n.toNat := by
  rw [h.length_eq]; simp [upTo]
theorem OrdP.srt {n : Int} {ord : List Int} (h : OrdP n ord) : usort ord = upTo 0 n.toNat := (usort_of upTo_rising fun k => h.symm.mem_iff).symm
local macro_rules | `(tactic| walk_at "up") => `(tactic| first
  | assumption
  | ((refine Rp.mono _ (by assumption : Same _ _) ?_); walk_at "up")
  | ((refine Rp.mono _ (Le.b (by assumption)) ?_); walk_at "up"))
local macro_rules | `(tactic| walk_at "ev") => `(tactic| first
  | ((with_reducible refine' ev_var ?h1 ?h2); (case h1 => rfl); (case h2 => walk_at "up"))
  | ((with_reducible refine' ev_vi ?h1); (case h1 => rfl))
  | with_reducible exact ev_ci
  | ((with_reducible refine' ev_get0 ?ea); (case ea => walk_at "ev"))
  | ((with_reducible refine' ev_get1 ?ea); (case ea => walk_at "ev"))
  | ((with_reducible refine' ev_I0 ?ea ?eb); (case ea => walk_at "ev"); (case eb => walk_at "ev"))
  | ((with_reducible refine' ev_notV ?ea); (case ea => walk_at "ev"))
  | ((with_reducible refine' eb_test ?ea); (case ea => walk_at "ev"))
  | ((with_reducible refine' eb_B ?ea); (case ea => walk_at "ev"))
  | ((with_reducible refine' eb_not ?ea); (case ea => walk_at "ev"))
  | ((with_reducible refine' ev_eq ?ea ?eb ?ec); (case ea => walk_at "ev"); (case eb => walk_at "ev"); (case ec => rfl))
  | ((with_reducible refine' ev_ne ?ea ?eb ?ec); (case ea => walk_at "ev"); (case eb => walk_at "ev"); (case ec => rfl))
  | ((with_reducible refine' ev_chainI ?ea ?eb ?ec); (case ea => walk_at "ev"); (case eb => walk_at "ev"); (case ec => walk_at "ev"))
  | with_reducible exact ea_nil
  | ((with_reducible refine' ea_cons ?ea ?eb); (case ea => walk_at "ev"); (case eb => walk_at "ev")))
section
variable {P : Program} {w : World} {K : PySem.W.Frag} {mg : Str → Option Value} {base : Heap}
def sp_Field_prime (K : PySem.W.Frag) : Sp := spG (ι := Int) (fun p => [fld K p]) (fun _ _ => True) fun p => int p
theorem ok_Field_prime (T : Tx K mg) : Met P w K mg base 1 (He.ga K "Field") "prime" (sp_Field_prime K) [] := by
  obtain ⟨fd, F⟩ := T.d_Field_prime
  refine ⟨_, fd, ["self"], [], T.k_Field, T.h_Field_prime, F.ok sc_Field_prime (spG_len fun _ => rfl) (fun cdv A outer s H vs Q E hr h => ?_), F.bindsN (fun _ _ _ _ _ _ us hl => match us, hl with | [_], _ => rfl), .nil⟩
  obtain ⟨W, p, rfl, ha, _, k⟩ := h
  obtain ⟨v0, rfl, h0⟩ := ha.one
  refine ⟨_, PSs.nox (pss_one (ps_ret (pe_fld (pv 0) rfl))), ?_⟩
  try simp only [cxK, cxW, cxP]
  exact s_ret (ev_prime T (p := p) (by walk_at "ev")) k
def sp_is_wish (K : PySem.W.Frag) : Sp := spG (ι := Int × Int × List Tm) (fun x => [fld K x.1, int x.2.1, sumR K (x.1, x.2.2)]) (fun _ x => x.2.2.length ≤ 256 ∧ ∀ t ∈ x.2.2, PdOk 60 t.1) fun x => bl (decide (rch x.2.2 ≤ x.2.1))
theorem ok_is_wish (T : Tx K mg) : Cal P w K mg base 3 "is_wish" (sp_is_wish K) [] := by
  have h_Field_eq := ok_Field_eq (P := P) (w := w) (base := base) T
  have h_Sum_reach := ok_Sum_reach (P := P) (w := w) (base := base) T
  obtain ⟨fd, F⟩ := T.d_is_wish
  refine ⟨_, fd, ["field", "places", "thing"], [], F.ok sc_is_wish (spG_len fun _ => rfl) (fun cdv A outer s H vs Q E hr h => ?_), T.g_is_wish, F.kp, F.bindsN (fun _ _ _ _ _ _ us hl => match us, hl with | [_, _, _], _ => rfl), .nil⟩
  obtain ⟨W, ⟨p, n, r⟩, rfl, ha, ⟨hz, hrr⟩, k⟩ := h
  dsimp only at hz hrr
  obtain ⟨v0, v1, v2, rfl, h0, rfl, h2⟩ := ha.three
  dsimp only at h0 h2
  refine ⟨_, PSs.nox (pss_one (ps_ret (pe_and (pe_callB call_isi (by rfl) T.b_isinstance (by decide +kernel) (pa_cons (pv 2) (pa_cons (pe_glob (v := .ref (He.ga K "Sum")) rfl T.g_Sum rfl) pa_nil))) (pe_and (pe_cmpR (op_eqOwn h_Field_eq (hr.mono (by decide))) (pe_fld (pv 2) rfl) (pv 0) (nomark _)) (pe_one (pe_cmpR op_le (pe_mt0 h_Sum_reach hr (by decide) (pv 2)) (pv 1) (nomark _))))))), ?_⟩
  try simp only [cxK, cxW, cxP]
  refine s_ret (R := bl (decide (rch r ≤ n))) (ev_andV (a := true) (ev_isi (R := sumR K (p, r)) (by walk_at "ev") (ty_ins T.k_Sum T.i_Sum) (.own _) kit_own) (fun _ => ev_andV (a := true) (ev_own (neg := false) (C := He.ga K "Field") (RA := fld K p) (RB := fld K p) (ev_sfield T (x := (p, r)) (by walk_at "ev")) (by walk_at "ev") ins_a ins_a p rfl (fun _ _ => True.intro) (c := true) rfl) (fun _ => ev_I0 (ev_meth (R := sumR K (p, r)) (by walk_at "ev") (sum_no (by decide +kernel) (by decide +kernel)) (as := []) ea_nil (p, r) rfl fun _ _ => ⟨hz, hrr⟩) (by walk_at "ev")) (fun e => nomatch e)) (fun e => nomatch e)) k
def WsOk (p n : Int) (j : Nat) (ws : List (List Tm)) : Prop := ws.length ≤ 200 ∧ ∀ r ∈ ws, RowOk p n j r ∧ r.length ≤ 256
/-- (p, places, level, rows, which) -/
abbrev IL := Int × Int × Nat × List (List Tm) × Bool
def sp_look_at_wishes (K : PySem.W.Frag) : Sp := spG (ι := IL) (fun x => [fld K x.1, int x.2.1, is (.str (if x.2.2.2.2 then "noughts" else "uppers")), sums K x.1 x.2.2.2.1]) (fun _ x => 0 ≤ x.2.1 ∧ x.2.1 ≤ 60 ∧ WsOk x.1 x.2.1 x.2.2.1 x.2.2.2.1 ∧ (x.2.2.2.2 = false → x.2.2.2.1 = [])) fun _ => is .non
theorem ok_look_at_wishes (T : Tx K mg) : Cal P w K mg base 4 "look_at_wishes" (sp_look_at_wishes K) [] := by
  have h_Field_prime := ok_Field_prime (P := P) (w := w) (base := base) T
  have h_is_wish := ok_is_wish (P := P) (w := w) (base := base) T
  obtain ⟨fd, F⟩ := T.d_look_at_wishes
  refine ⟨_, fd, ["field", "places", "part", "wishes"], [], F.ok sc_look_at_wishes (spG_len fun _ => rfl) (fun cdv A outer s H vs Q E hr h => ?_), T.g_look_at_wishes, F.kp, F.bindsN (fun _ _ _ _ _ _ us hl => match us, hl with | [_, _, _, _], _ => rfl), .nil⟩
  obtain ⟨W, ⟨p, n, j, ws, b⟩, rfl, ha, ⟨hn0, hn, ⟨hz, hw⟩, hb⟩, k⟩ := h
  dsimp only at hn0 hn hz hw hb
  obtain ⟨v0, v1, v2, v3, rfl, h0, rfl, h2, h3⟩ := ha.four
  dsimp only at h0 h2 h3
  refine ⟨_, PSs.nox (pss_cons (ps_if (PW.pt (pw_or (pt_not (pt_val (pe_callB call_isi (by rfl) T.b_isinstance (by decide +kernel) (pa_cons (pv 3) (pa_cons (pe_bltn (v := .ty "list") (by rfl) T.b_list (by decide +kernel) rfl) pa_nil))))) (pw_or1 (pt_cmpR op_gt (pe_callB call_len_seq (by rfl) T.b_len (by decide +kernel) (pa_cons (pv 3) pa_nil)) (pe_gc rfl T.c_MOST_WISHES) (nomark _))))) (pss_one ps_never) pss_nil)
    (pss_cons (ps_if (PW.pt (pw_and (pt_cmpR op_eq (pv 2) pe_str (nomark _)) (pw_and (pt_cmpR (op_neD hr.units) (pv 3) (pe_lst pa_nil) (nomark _)) (pw_and1 (pt_cmpR op_ne (pe_mt0 h_Field_prime hr (by decide) (pv 0)) pe_int (nomark _)))))) (pss_one ps_never) pss_nil)
    (pss_one (ps_for PassesOwn.never rfl (pi_enum (by rfl) T.b_enumerate (pa_cons (pv 3) pa_nil)) (pg_tup rfl (pgs_cons (pg_name (i := 4) sc_look_at_wishes.nd rfl (Or.inl rfl)) (pgs_cons (pg_name (i := 5) sc_look_at_wishes.nd rfl (Or.inl rfl)) pgs_nil))) (pss_one (ps_if (pt_not (pt_val (pe_c h_is_wish hr (by decide) rfl (pa_cons (pv 0) (pa_cons (pv 1) (pa_cons (pv 5) pa_nil)))))) (pss_one ps_never) pss_nil)))))), ?_⟩
  try simp only [cxK, cxW, cxP]
  refine q_skip (eb_or (eb_is (eb_not (eb_B (ev_isi (R := sums K p ws) (by walk_at "ev") ty_lst (.ty _) (kit_ty (r := true) (by decide +kernel))))) rfl) (fun _ => eb_is (eb_test (ev_I0 (ev_lenL (K := K) (rs := ws.map fun r => sumR K (p, r)) (ev_var rfl h3)) ev_ci)) ?_) (fun e => nomatch e)) fun W1 l1 => ?_
  · rw [List.length_map]
    exact decide_eq_false (by show ¬ ((ws.length : Int) > 200); omega)
  refine q_skip ?_ fun W2 l2 => ?_
  · cases b with
    | true => exact eb_and (a := false) (eb_is (eb_test (ev_eq (x := .str "noughts") (y := .str "uppers") (ev_var rfl h2) ev_ci rfl)) (by decide +kernel)) (fun e => nomatch e) (fun _ => rfl)
    | false =>
      have e := hb rfl
      subst e
      exact eb_and (a := true) (eb_is (eb_test (ev_eq (x := .str "uppers") (y := .str "uppers") (ev_var rfl h2) ev_ci rfl)) (by rw [decide_eq_true rfl])) (fun _ => eb_and (a := false) (eb_is (eb_test (ev_neD (RA := lstR K []) (RB := lstR K []) (ev_var rfl (Rp.mono _ l1.b h3)) (ev_lst ea_nil) (dt_lst (n := 0) (ds := []) True.intro) (dt_lst (n := 0) (ds := []) True.intro) (by decide) (by decide))) (by rfl)) (fun e => nomatch e) (fun _ => rfl)) (fun e => nomatch e)
  have l12 := l1.trans l2
  refine s_forI (it_enum (K := K) (rs := ws.map fun r => sumR K (p, r)) (ea_cons (ev_var rfl (Rp.mono _ l12.b h3)) ea_nil)) (fun i σ' W' => ∃ o1 o2 : Option V, σ' = [some v0, some (.int n), some v2, some v3, o1, o2] ∧ Le W W') (fun W3 l3 => ⟨none, none, rfl, l12.trans l3⟩) ?_ ?_
  · rintro i r x σ' W' W4 N hi s ⟨o1, o2, rfl, l⟩ l4 hx nx
    obtain ⟨r1, r2, e1, e2, rfl⟩ := prs_at hi
    obtain ⟨r, hr, rfl, hm⟩ := map_at e2
    refine g_pair hx fun x1 x2 hx1 hx2 => ?_
    have hwr := hw r hm
    refine s_skip (eb_is (eb_not (eb_B (ev_call (x := (p, n, r)) (as := [fld K p, int n, sumR K (p, r)]) (ea_cons (ev_var rfl ((fld K p).mono (l.trans l4).b h0)) (ea_cons (ev_vi rfl) (ea_cons (ev_var rfl hx2) ea_nil))) rfl fun _ _ => ⟨hwr.2, fun t ht => (hwr.1 t ht).1.le hn⟩))) (by rw [decide_eq_true (rch_le hwr.1 hn0)]; rfl)) fun W5 l5 => ?_
    exact nx _ W5 l5.b ⟨_, _, rfl, (l.trans l4).trans l5⟩
  · rintro σ' W' s ⟨o1, o2, rfl, l⟩
    exact k _ W' l rfl
def sp_is_order (K : PySem.W.Frag) : Sp := spG (ι := Int × List Int) (fun x => [int x.1, lstR K (x.2.map int)]) (fun _ x => 0 ≤ x.1 ∧ x.1 ≤ 60 ∧ OrdP x.1 x.2) fun _ => bl true
theorem dt_ints {K : PySem.W.Frag} {ns : List Int} : Dt K 1 (lstR K (ns.map int)) (.list (ns.map .int)) := dt_lst (n := 0) (dta_map fun _ => dt_int)
theorem ok_is_order (T : Tx K mg) : Cal P w K mg base 2 "is_order" (sp_is_order K) [] := by
  have h_is_whole := ok_is_whole (P := P) (w := w) (base := base) T
  obtain ⟨fd, F⟩ := T.d_is_order
  refine ⟨_, fd, ["places", "thing"], [], F.ok sc_is_order (spG_len fun _ => rfl) (fun cdv A outer s H vs Q E hr h => ?_), T.g_is_order, F.kp, F.bindsN (fun _ _ _ _ _ _ us hl => match us, hl with | [_, _], _ => rfl), .nil⟩
  obtain ⟨W, ⟨n, ord⟩, rfl, ha, ⟨hn0, hn, ho⟩, k⟩ := h
  dsimp only at hn0 hn ho
  obtain ⟨v0, v1, rfl, rfl, h1⟩ := ha.two
  dsimp only at h1
  refine ⟨_, PSs.nox (pss_cons (ps_if (PW.pt (pw_or (pt_not (pt_val (pe_callB call_isi (by rfl) T.b_isinstance (by decide +kernel) (pa_cons (pv 1) (pa_cons (pe_bltn (v := .ty "list") (by rfl) T.b_list (by decide +kernel) rfl) pa_nil))))) (pw_or1 (pt_not (pt_val (pe_callB (cr_all rfl) (by rfl) T.b_all (by decide +kernel) (pa_cons (pe_lc (own := [("place", 2)]) rfl sc_is_order.nd (pi_list (pv 1)) (blkOk_by (N := ["places", "thing", "place"]) (sc := defScope s_is_order) (by decide +kernel)) (fun _ _ _ _ _ => (pg_name (i := 2) sc_is_order.nd rfl (Or.inl rfl))) (fun _ _ _ _ _ => pts_nil) (fun _ _ _ _ _ => (pe_c h_is_whole hr (by decide) rfl (pa_cons (pv 2) pa_nil)))) pa_nil))))))) (pss_one (ps_ret pe_bl)) pss_nil)
    (pss_one (ps_ret (pe_cmpR (op_eqD hr.units) (pe_callB cr_sortedI (by rfl) T.b_sorted (by decide +kernel) (pa_cons (pv 1) pa_nil)) (pe_listRg rfl rfl T.b_list (prg_1 rfl T.b_range (pv 0))) (nomark _))))), ?_⟩
  try simp only [cxK, cxW, cxP]
  have hl := ho.len
  refine q_skip (eb_or (a := false) (eb_is (eb_not (eb_B (ev_isi (R := lstR K (ord.map int)) (by walk_at "ev") ty_lst (.ty _) (kit_ty (r := true) (by decide +kernel))))) rfl) (fun _ => eb_is (eb_not (eb_B (ev_all (bs := ord.map fun _ => true) (by
    rw [List.map_map]
    refine ev_mapI (F := int) (G := fun _ => bl true) (xs := ord) (it_list (K := K) (by walk_at "ev")) (by omega) ?_
    intro i v W2 hi l2 hv Q q
    exact g_name (q _ rfl (ev_whole (ea_cons (ev_var rfl hv) ea_nil))))))) (by rw [all_true fun _ _ => rfl]; rfl)) (fun e => nomatch e)) fun W1 l1 => ?_
  refine s_ret (R := bl true) (ev_is (ev_eqD (ev_sortU (K := K) (ns := ord) (ev_var rfl (Rp.mono _ l1.b h1)) ho.ok.1) (ev_listRg (n := n) (ev_vi rfl) hn0 (by omega)) dt_ints dt_ints (by decide) (by decide)) ?_) fun v W2 l2 hv => k v W2 (l1.trans l2) hv
  rw [ho.srt]
  simp only [PyData.eqv, eqv_ints]
  simp
end
end Fs

set_option Elab.async false
set_option linter.all false
set_option maxRecDepth 100000
set_option maxHeartbeats 2000000
namespace Fs
open PySem PySem.Spec PyProof.Rows L2 C8
local macro_rules | `(tactic| walk_at "up") => `(tactic| first
  | assumption
  | ((refine Rp.mono _ (by assumption : Same _ _) ?_); walk_at "up")
  | ((refine Rp.mono _ (Le.b (by assumption)) ?_); walk_at "up"))
local macro_rules | `(tactic| walk_at "ev") => `(tactic| first
  | ((with_reducible refine' ev_var ?h1 ?h2); (case h1 => rfl); (case h2 => walk_at "up"))
  | ((with_reducible refine' ev_vi ?h1); (case h1 => rfl))
  | with_reducible exact ev_ci
  | ((with_reducible refine' ev_get0 ?ea); (case ea => walk_at "ev"))
  | ((with_reducible refine' ev_get1 ?ea); (case ea => walk_at "ev"))
  | ((with_reducible refine' ev_I0 ?ea ?eb); (case ea => walk_at "ev"); (case eb => walk_at "ev"))
  | ((with_reducible refine' ev_notV ?ea); (case ea => walk_at "ev"))
  | ((with_reducible refine' eb_test ?ea); (case ea => walk_at "ev"))
  | ((with_reducible refine' eb_B ?ea); (case ea => walk_at "ev"))
  | ((with_reducible refine' eb_not ?ea); (case ea => walk_at "ev"))
  | ((with_reducible refine' ev_eq ?ea ?eb ?ec); (case ea => walk_at "ev"); (case eb => walk_at "ev"); (case ec => rfl))
  | ((with_reducible refine' ev_ne ?ea ?eb ?ec); (case ea => walk_at "ev"); (case eb => walk_at "ev"); (case ec => rfl))
  | ((with_reducible refine' ev_chainI ?ea ?eb ?ec); (case ea => walk_at "ev"); (case eb => walk_at "ev"); (case ec => walk_at "ev"))
  | with_reducible exact ea_nil
  | ((with_reducible refine' ea_cons ?ea ?eb); (case ea => walk_at "ev"); (case eb => walk_at "ev")))
section
variable {P : Program} {w : World} {K : PySem.W.Frag} {mg : Str → Option Value} {base : Heap}
/-- (p, places, level, rows) -/
abbrev IY := Int × Int × Nat × List (List Tm)
def SysOk (x : IY) : Prop := PrF x.1 ∧ 1 ≤ x.2.1 ∧ x.2.1 ≤ 60 ∧ WsOk x.1 x.2.1 x.2.2.1 x.2.2.2
def sp_System_mk (K : PySem.W.Frag) : Sp := spI (ι := IY) (He.ga K "System") (fun x => [fld K x.1, int x.2.1, sums K x.1 x.2.2.2, lstR K []]) (fun _ x => SysOk x) fun x => sysR K (x.1, x.2.1, x.2.2.2)
theorem ok_System_mk (T : Tx K mg) : Mak P w K mg base 5 "System" (He.ga K "System") (sp_System_mk K) [] := by
  have h_is_whole := ok_is_whole (P := P) (w := w) (base := base) T
  have h_look_at_wishes := ok_look_at_wishes (P := P) (w := w) (base := base) T
  obtain ⟨fd, F⟩ := T.d_System_mk
  obtain ⟨ds, hds, hb⟩ := F.binds1 (ps := ["self", "field", "places", "noughts", "uppers"]) 5 1 (fun e => nomatch e) rfl (fun _ _ _ _ _ _ _ us its h1 h2 => match us, its, h1, h2 with | [_, _, _, _, _], [_], _, _ => ⟨_, rfl, rfl⟩)
  refine ⟨_, fd, ["self", "field", "places", "noughts", "uppers"], ds, T.m_System, F.ok sc_System_mk (spI_len fun _ => rfl) (fun cdv A outer s H vs Q E hr h => ?_), T.g_System, hb, hds⟩
  obtain ⟨W0, ⟨p, n, j, ws⟩, x, dx, us, rfl, hx, hdx, hne, rfl, ha, ⟨hp, hn1, hn, hw⟩, k⟩ := h
  dsimp only at hp hn1 hn hw
  obtain ⟨v1, v2, v3, v4, rfl, h1, rfl, h3, h4⟩ := ha.four
  dsimp only at h1 h3 h4
  obtain ⟨W1, hW1, l1, L1⟩ := init_w (C := He.ga K "System") W0 hx hdx hne
  refine ⟨_, PSs.nox (pss_cons (ps_if (pt_not (pt_val (pe_callB call_isi (by rfl) T.b_isinstance (by decide +kernel) (pa_cons (pv 1) (pa_cons (pe_glob (v := .ref (He.ga K "Field")) rfl T.g_Field rfl) pa_nil))))) (pss_one ps_never) pss_nil)
    (pss_cons (ps_if (PW.pt (pw_or (pt_not (pt_val (pe_c h_is_whole hr (by decide) rfl (pa_cons (pv 2) pa_nil)))) (pw_or1 (pt_not (pt_chain op_le op_le pe_int (pv 2) (pe_gc rfl T.c_MOST_PLACES)))))) (pss_one ps_never) pss_nil)
    (pss_cons (ps_expr (pe_c h_look_at_wishes hr (by decide) rfl (pa_cons (pv 1) (pa_cons (pv 2) (pa_cons pe_str (pa_cons (pv 3) pa_nil))))))
    (pss_cons (ps_if (pt_cmpR op_isN1 (pv 4) pe_non (nomark _)) (pss_one (ps_set (i := 4) sc_System_mk.nd rfl (Or.inl rfl) (pe_lst pa_nil))) pss_nil)
    (pss_cons (ps_expr (pe_c h_look_at_wishes hr (by decide) rfl (pa_cons (pv 1) (pa_cons (pv 2) (pa_cons pe_str (pa_cons (pv 4) pa_nil))))))
    (pss_cons (ps_fld (pv 0) (pv 1) rfl)
    (pss_cons (ps_fld (pv 0) (pv 2) rfl)
    (pss_cons (ps_fld (pv 0) (pe_callTy call_list_of (by rfl) T.b_list (by decide +kernel) (pa_cons (pv 3) pa_nil)) rfl)
    (pss_one (ps_fld (pv 0) (pe_callTy call_list_of (by rfl) T.b_list (by decide +kernel) (pa_cons (pv 4) pa_nil)) rfl)))))))))), ?_⟩
  try simp only [cxK, cxW, cxP]
  rw [← hW1]
  have g1 := (fld K p).mono l1.b h1
  have g3 := (sums K p ws).mono l1.b h3
  have g4 := (lstR K []).mono l1.b h4
  refine q_skip (eb_is (eb_not (eb_B (ev_isi (R := fld K p) (ev_var rfl g1) (ty_ins T.k_Field T.i_Field) (.own _) kit_own))) rfl) fun W2 l2 => ?_
  refine q_skip (eb_or (a := false) (eb_is (eb_not (eb_B (ev_whole (by walk_at "ev")))) rfl) (fun _ => eb_is (eb_not (eb_test (ev_chainI (by walk_at "ev") (by walk_at "ev") (by walk_at "ev")))) (by rw [decide_eq_true hn1, decide_eq_true hn]; rfl)) (fun e => nomatch e)) fun W3 l3 => ?_
  have l13 := l2.trans l3
  refine q_drop (R := is .non) (ev_call (x := (p, n, j, ws, true)) (as := [fld K p, int n, is (.str "noughts"), sums K p ws]) (ea_cons (ev_var rfl ((fld K p).mono l13.b g1)) (ea_cons (by walk_at "ev") (ea_cons (by walk_at "ev") (ea_cons (ev_var rfl ((sums K p ws).mono l13.b g3)) ea_nil)))) rfl fun _ _ => ⟨by show 0 ≤ n; omega, hn, hw, fun e => nomatch e⟩) fun _ W4 l4 _ => ?_
  have l14 := l13.trans l4
  refine q_skip (eb_test (ev_isN1 (K := K) (rs := []) (ev_var rfl ((lstR K []).mono l14.b g4)))) fun W5 l5 => ?_
  have l15 := l14.trans l5
  refine q_drop (R := is .non) (ev_call (x := (p, n, j, [], false)) (as := [fld K p, int n, is (.str "uppers"), sums K p []]) (ea_cons (ev_var rfl ((fld K p).mono l15.b g1)) (ea_cons (by walk_at "ev") (ea_cons (by walk_at "ev") (ea_cons (ev_var rfl ((lstR K []).mono l15.b g4)) ea_nil)))) rfl fun _ _ => ⟨by show 0 ≤ n; omega, hn, ⟨by show 0 ≤ 200; decide, fun r h => by simp at h⟩, fun _ => rfl⟩) fun _ W6 l6 _ => ?_
  have l16 := l15.trans l6
  refine q_fld (R := fld K p) (ev_var rfl ((fld K p).mono l16.b g1)) rfl (L1.le l16) rfl rfl (by decide) T.k_System T.n_System_own_field (l1.trans l16) (Wd.fre hx) fun W7 s7 l7 L7 => ?_
  refine q_fld (R := int n) (by walk_at "ev") rfl L7 rfl rfl (by decide) T.k_System T.n_System_many_places l7 (Wd.fre hx) fun W8 s8 l8 L8 => ?_
  refine q_fld (R := sums K p ws) (ev_listOf (ev_var rfl ((sums K p ws).mono l8.b h3))) rfl L8 rfl rfl (by decide) T.k_System T.n_System_nought_sums l8 (Wd.fre hx) fun W9 s9 l9 L9 => ?_
  refine s_fld (R := lstR K []) (ev_listOf (ev_var rfl ((lstR K []).mono l9.b h4))) rfl L9 rfl rfl (by decide) T.k_System T.n_System_upper_sums l9 (Wd.fre hx) fun W10 s10 l10 L10 => ?_
  obtain ⟨W11, e11, l11, h11⟩ := init_end L10 l10 (Wd.fre hx)
  rw [← e11]
  exact k W11 l11 h11
def sp_System_mk_d (K : PySem.W.Frag) : Sp := spI (ι := IY) (He.ga K "System") (fun x => [fld K x.1, int x.2.1, sums K x.1 x.2.2.2, is .non]) (fun _ x => SysOk x) fun x => sysR K (x.1, x.2.1, x.2.2.2)
theorem ok_System_mk_d (T : Tx K mg) : Mak P w K mg base 5 "System" (He.ga K "System") (sp_System_mk_d K) [.non] := by
  have h_is_whole := ok_is_whole (P := P) (w := w) (base := base) T
  have h_look_at_wishes := ok_look_at_wishes (P := P) (w := w) (base := base) T
  obtain ⟨fd, F⟩ := T.d_System_mk
  obtain ⟨ds, hds, hb⟩ := F.binds1 (ps := ["self", "field", "places", "noughts", "uppers"]) 4 0 (fun e => nomatch e) rfl (fun _ _ _ _ _ _ _ us its h1 h2 => match us, its, h1, h2 with | [_, _, _, _], [_], _, _ => ⟨_, rfl, rfl⟩)
  refine ⟨_, fd, ["self", "field", "places", "noughts", "uppers"], ds, T.m_System, F.ok sc_System_mk (spI_len fun _ => rfl) (fun cdv A outer s H vs Q E hr h => ?_), T.g_System, hb, hds⟩
  obtain ⟨W0, ⟨p, n, j, ws⟩, x, dx, us, rfl, hx, hdx, hne, rfl, ha, ⟨hp, hn1, hn, hw⟩, k⟩ := h
  dsimp only at hp hn1 hn hw
  obtain ⟨v1, v2, v3, v4, rfl, h1, rfl, h3, rfl⟩ := ha.four
  dsimp only at h1 h3
  obtain ⟨W1, hW1, l1, L1⟩ := init_w (C := He.ga K "System") W0 hx hdx hne
  refine ⟨_, PSs.nox (pss_cons (ps_if (pt_not (pt_val (pe_callB call_isi (by rfl) T.b_isinstance (by decide +kernel) (pa_cons (pv 1) (pa_cons (pe_glob (v := .ref (He.ga K "Field")) rfl T.g_Field rfl) pa_nil))))) (pss_one ps_never) pss_nil)
    (pss_cons (ps_if (PW.pt (pw_or (pt_not (pt_val (pe_c h_is_whole hr (by decide) rfl (pa_cons (pv 2) pa_nil)))) (pw_or1 (pt_not (pt_chain op_le op_le pe_int (pv 2) (pe_gc rfl T.c_MOST_PLACES)))))) (pss_one ps_never) pss_nil)
    (pss_cons (ps_expr (pe_c h_look_at_wishes hr (by decide) rfl (pa_cons (pv 1) (pa_cons (pv 2) (pa_cons pe_str (pa_cons (pv 3) pa_nil))))))
    (pss_cons (ps_if (pt_cmpR op_isN1 (pv 4) pe_non (nomark _)) (pss_one (ps_set (i := 4) sc_System_mk.nd rfl (Or.inl rfl) (pe_lst pa_nil))) pss_nil)
    (pss_cons (ps_expr (pe_c h_look_at_wishes hr (by decide) rfl (pa_cons (pv 1) (pa_cons (pv 2) (pa_cons pe_str (pa_cons (pv 4) pa_nil))))))
    (pss_cons (ps_fld (pv 0) (pv 1) rfl)
    (pss_cons (ps_fld (pv 0) (pv 2) rfl)
    (pss_cons (ps_fld (pv 0) (pe_callTy call_list_of (by rfl) T.b_list (by decide +kernel) (pa_cons (pv 3) pa_nil)) rfl)
    (pss_one (ps_fld (pv 0) (pe_callTy call_list_of (by rfl) T.b_list (by decide +kernel) (pa_cons (pv 4) pa_nil)) rfl)))))))))), ?_⟩
  try simp only [cxK, cxW, cxP]
  rw [← hW1]
  have g1 := (fld K p).mono l1.b h1
  have g3 := (sums K p ws).mono l1.b h3
  refine q_skip (eb_is (eb_not (eb_B (ev_isi (R := fld K p) (ev_var rfl g1) (ty_ins T.k_Field T.i_Field) (.own _) kit_own))) rfl) fun W2 l2 => ?_
  refine q_skip (eb_or (a := false) (eb_is (eb_not (eb_B (ev_whole (by walk_at "ev")))) rfl) (fun _ => eb_is (eb_not (eb_test (ev_chainI (by walk_at "ev") (by walk_at "ev") (by walk_at "ev")))) (by rw [decide_eq_true hn1, decide_eq_true hn]; rfl)) (fun e => nomatch e)) fun W3 l3 => ?_
  have l13 := l2.trans l3
  refine q_drop (R := is .non) (ev_call (x := (p, n, j, ws, true)) (as := [fld K p, int n, is (.str "noughts"), sums K p ws]) (ea_cons (ev_var rfl ((fld K p).mono l13.b g1)) (ea_cons (by walk_at "ev") (ea_cons (by walk_at "ev") (ea_cons (ev_var rfl ((sums K p ws).mono l13.b g3)) ea_nil)))) rfl fun _ _ => ⟨by show 0 ≤ n; omega, hn, hw, fun e => nomatch e⟩) fun _ W4 l4 _ => ?_
  have l14 := l13.trans l4
  refine q_when (P := Bo true) (eb_test (ev_isN0 (by walk_at "ev"))) (fun _ W5 l5 => ?_) (fun e => nomatch e)
  refine s_asg (R := lstR K []) (ev_lst ea_nil) fun v4 W5' l5' hv4 => ?_
  dsimp only
  have l15 := (l14.trans l5).trans l5'
  refine q_drop (R := is .non) (ev_call (x := (p, n, j, [], false)) (as := [fld K p, int n, is (.str "uppers"), sums K p []]) (ea_cons (ev_var rfl ((fld K p).mono l15.b g1)) (ea_cons (by walk_at "ev") (ea_cons (by walk_at "ev") (ea_cons (ev_var rfl hv4) ea_nil)))) rfl fun _ _ => ⟨by show 0 ≤ n; omega, hn, ⟨by show 0 ≤ 200; decide, fun r h => by simp at h⟩, fun _ => rfl⟩) fun _ W6 l6 _ => ?_
  have l16 := l15.trans l6
  refine q_fld (R := fld K p) (ev_var rfl ((fld K p).mono l16.b g1)) rfl (L1.le l16) rfl rfl (by decide) T.k_System T.n_System_own_field (l1.trans l16) (Wd.fre hx) fun W7 s7 l7 L7 => ?_
  refine q_fld (R := int n) (by walk_at "ev") rfl L7 rfl rfl (by decide) T.k_System T.n_System_many_places l7 (Wd.fre hx) fun W8 s8 l8 L8 => ?_
  refine q_fld (R := sums K p ws) (ev_listOf (ev_var rfl ((sums K p ws).mono l8.b h3))) rfl L8 rfl rfl (by decide) T.k_System T.n_System_nought_sums l8 (Wd.fre hx) fun W9 s9 l9 L9 => ?_
  refine s_fld (R := lstR K []) (ev_listOf (ev_var rfl ((lstR K []).mono (((l6.b.trans s7).trans s8).trans s9) hv4))) rfl L9 rfl rfl (by decide) T.k_System T.n_System_upper_sums l9 (Wd.fre hx) fun W10 s10 l10 L10 => ?_
  obtain ⟨W11, e11, l11, h11⟩ := init_end L10 l10 (Wd.fre hx)
  rw [← e11]
  exact k W11 l11 h11
def sp_System_field (K : PySem.W.Frag) : Sp := spG (ι := ISy) (fun x => [sysR K x]) (fun _ _ => True) fun x => fld K x.1
theorem ok_System_field (T : Tx K mg) : Met P w K mg base 1 (He.ga K "System") "field" (sp_System_field K) [] := by
  obtain ⟨fd, F⟩ := T.d_System_field
  refine ⟨_, fd, ["self"], [], T.k_System, T.h_System_field, F.ok sc_System_field (spG_len fun _ => rfl) (fun cdv A outer s H vs Q E hr h => ?_), F.bindsN (fun _ _ _ _ _ _ us hl => match us, hl with | [_], _ => rfl), .nil⟩
  obtain ⟨W, x, rfl, ha, _, k⟩ := h
  obtain ⟨v0, rfl, h0⟩ := ha.one
  refine ⟨_, PSs.nox (pss_one (ps_ret (pe_fld (pv 0) rfl))), ?_⟩
  try simp only [cxK, cxW, cxP]
  exact s_ret (ev_yfield T (x := x) (by walk_at "ev")) k
def sp_System_places (K : PySem.W.Frag) : Sp := spG (ι := ISy) (fun x => [sysR K x]) (fun _ _ => True) fun x => int x.2.1
theorem ok_System_places (T : Tx K mg) : Met P w K mg base 1 (He.ga K "System") "places" (sp_System_places K) [] := by
  obtain ⟨fd, F⟩ := T.d_System_places
  refine ⟨_, fd, ["self"], [], T.k_System, T.h_System_places, F.ok sc_System_places (spG_len fun _ => rfl) (fun cdv A outer s H vs Q E hr h => ?_), F.bindsN (fun _ _ _ _ _ _ us hl => match us, hl with | [_], _ => rfl), .nil⟩
  obtain ⟨W, x, rfl, ha, _, k⟩ := h
  obtain ⟨v0, rfl, h0⟩ := ha.one
  refine ⟨_, PSs.nox (pss_one (ps_ret (pe_fld (pv 0) rfl))), ?_⟩
  try simp only [cxK, cxW, cxP]
  exact s_ret (ev_yplaces T (x := x) (by walk_at "ev")) k
def sp_System_noughts (K : PySem.W.Frag) : Sp := spG (ι := ISy) (fun x => [sysR K x]) (fun _ _ => True) fun x => sums K x.1 x.2.2
theorem ok_System_noughts (T : Tx K mg) : Met P w K mg base 1 (He.ga K "System") "noughts" (sp_System_noughts K) [] := by
  obtain ⟨fd, F⟩ := T.d_System_noughts
  refine ⟨_, fd, ["self"], [], T.k_System, T.h_System_noughts, F.ok sc_System_noughts (spG_len fun _ => rfl) (fun cdv A outer s H vs Q E hr h => ?_), F.bindsN (fun _ _ _ _ _ _ us hl => match us, hl with | [_], _ => rfl), .nil⟩
  obtain ⟨W, x, rfl, ha, _, k⟩ := h
  obtain ⟨v0, rfl, h0⟩ := ha.one
  refine ⟨_, PSs.nox (pss_one (ps_ret (pe_callTy call_list_of (by rfl) T.b_list (by decide +kernel) (pa_cons (pe_fld (pv 0) rfl) pa_nil)))), ?_⟩
  try simp only [cxK, cxW, cxP]
  exact s_ret (ev_listOf (ev_ynoughts T (x := x) (by walk_at "ev"))) k
def sp_System_uppers (K : PySem.W.Frag) : Sp := spG (ι := ISy) (fun x => [sysR K x]) (fun _ _ => True) fun x => lstR K []
theorem ok_System_uppers (T : Tx K mg) : Met P w K mg base 1 (He.ga K "System") "uppers" (sp_System_uppers K) [] := by
  obtain ⟨fd, F⟩ := T.d_System_uppers
  refine ⟨_, fd, ["self"], [], T.k_System, T.h_System_uppers, F.ok sc_System_uppers (spG_len fun _ => rfl) (fun cdv A outer s H vs Q E hr h => ?_), F.bindsN (fun _ _ _ _ _ _ us hl => match us, hl with | [_], _ => rfl), .nil⟩
  obtain ⟨W, x, rfl, ha, _, k⟩ := h
  obtain ⟨v0, rfl, h0⟩ := ha.one
  refine ⟨_, PSs.nox (pss_one (ps_ret (pe_callTy call_list_of (by rfl) T.b_list (by decide +kernel) (pa_cons (pe_fld (pv 0) rfl) pa_nil)))), ?_⟩
  try simp only [cxK, cxW, cxP]
  exact s_ret (ev_listOf (ev_yuppers T (x := x) (by walk_at "ev"))) k
/-- (p, places, level, rows, order) -/
abbrev IYR := Int × Int × Nat × List (List Tm) × List Int
def renW (p : Int) (ord : List Int) (ws : List (List Tm)) : List (List Tm) := ws.map fun r => gath p (renT ord r)
theorem renW_ok {p n : Int} {j : Nat} {ord : List Int} {ws : List (List Tm)} (hp : PrOk p) (h : WsOk p n j ws) (ho : OrdP n ord) (hn : 0 ≤ n) : WsOk p n (j + 8) (renW p ord ws) := ⟨by unfold renW; rw [List.length_map]; exact h.1, fun r hr => by
  obtain ⟨s, hs, rfl⟩ := List.mem_map.mp hr
  have hl := ho.len
  have h1 := renT_ok ho.ok (h.2 s hs).1 (by omega)
  have h2 : (renT ord s).length ≤ 256 := by unfold renT; rw [List.length_map]; exact (h.2 s hs).2
  exact ⟨gath_ok hp h1 h2, Nat.le_trans gath_len h2⟩⟩
def sp_System_renamed (K : PySem.W.Frag) : Sp := spG (ι := IYR) (fun x => [sysR K (x.1, x.2.1, x.2.2.2.1), lstR K (x.2.2.2.2.map int)]) (fun W x => SysOk (x.1, x.2.1, x.2.2.1, x.2.2.2.1) ∧ x.2.2.1 ≤ 190 ∧ OrdP x.2.1 x.2.2.2.2 ∧ Tk K W) fun x => sysR K (x.1, x.2.1, renW x.1 x.2.2.2.2 x.2.2.2.1)
theorem ok_System_renamed (T : Ty K mg base) : Met P w K mg base 8 (He.ga K "System") "renamed" (sp_System_renamed K) [] := by
  have h_is_order := ok_is_order (P := P) (w := w) (base := base) T.toTx
  have h_System_mk := ok_System_mk (P := P) (w := w) (base := base) T.toTx
  have h_Sum_renamed := ok_Sum_renamed (P := P) (w := w) (base := base) T
  obtain ⟨fd, F⟩ := T.d_System_renamed
  refine ⟨_, fd, ["self", "order"], [], T.k_System, T.h_System_renamed, F.ok sc_System_renamed (spG_len fun _ => rfl) (fun cdv A outer s H vs Q E hr h => ?_), F.bindsN (fun _ _ _ _ _ _ us hl => match us, hl with | [_, _], _ => rfl), .nil⟩
  obtain ⟨W, ⟨p, n, j, ws, ord⟩, rfl, ha, ⟨⟨hp, hn1, hn, hw⟩, hj, ho, hT⟩, k⟩ := h
  dsimp only at hp hn1 hn hw hj ho
  obtain ⟨v0, v1, rfl, h0, h1⟩ := ha.two
  dsimp only at h0 h1
  refine ⟨_, PSs.nox (pss_cons (ps_if (pt_not (pt_val (pe_c h_is_order hr (by decide) rfl (pa_cons (pe_fld (pv 0) rfl) (pa_cons (pv 1) pa_nil))))) (pss_one ps_never) pss_nil)
    (pss_cons (ps_setLc (i := 2) (own := [("wish", 3)]) rfl sc_System_renamed.nd rfl rfl (sw_true rfl rfl rfl (by decide +kernel)) (pi_list (pe_fld (pv 0) rfl)) (blkOk_by (N := ["self", "order", "noughts", "wish"]) (sc := defScope s_System_renamed) (by decide +kernel)) (fun _ _ _ _ _ => (pg_name (i := 3) sc_System_renamed.nd rfl (Or.inl rfl))) (fun _ _ _ _ _ => pts_nil) (fun _ _ _ _ _ => (pe_mt h_Sum_renamed hr (by decide) (pv 3) (pa_cons (pv 1) pa_nil))))
    (pss_one (ps_ret (pe_mk h_System_mk hr (by decide) rfl (pa_cons (pe_fld (pv 0) rfl) (pa_cons (pe_fld (pv 0) rfl) (pa_cons (pv 2) (pa_cons (pe_lc (own := [("wish", 3)]) rfl sc_System_renamed.nd (pi_list (pe_fld (pv 0) rfl)) (blkOk_by (N := ["self", "order", "noughts", "wish"]) (sc := defScope s_System_renamed) (by decide +kernel)) (fun _ _ _ _ _ => (pg_name (i := 3) sc_System_renamed.nd rfl (Or.inl rfl))) (fun _ _ _ _ _ => pts_nil) (fun _ _ _ _ _ => (pe_mt h_Sum_renamed hr (by decide) (pv 3) (pa_cons (pv 1) pa_nil)))) pa_nil))))))))), ?_⟩
  try simp only [cxK, cxW, cxP]
  have hl := ho.len
  refine q_skip (eb_is (eb_not (eb_B (ev_call (x := (n, ord)) (as := [int n, lstR K (ord.map int)]) (ea_cons (ev_yplaces T.toTx (x := (p, n, ws)) (by walk_at "ev")) (ea_cons (by walk_at "ev") ea_nil)) rfl fun _ _ => ⟨by show 0 ≤ n; omega, hn, ho⟩))) rfl) fun W1 l1 => ?_
  refine q_asg (R := sums K p (renW p ord ws)) ?_ fun v2 W2 l2 hv2 => ?_
  · show Ev _ _ _ (lstR K ((renW p ord ws).map fun r => sumR K (p, r)))
    unfold renW
    rw [List.map_map]
    refine ev_mapI (F := fun r => sumR K (p, r)) (xs := ws) (it_list (ev_ynoughts T.toTx (x := (p, n, ws)) (by walk_at "ev"))) (by have := hw.1; omega) ?_
    intro r v W3 hr l3 hv Q q
    have hwr := hw.2 r hr
    exact g_name (q _ rfl (ev_meth (R := sumR K (p, r)) (ev_var rfl hv) (sum_no (by decide +kernel) (by decide +kernel)) (as := [lstR K (ord.map int)]) (ea_cons (ev_var rfl ((lstR K (ord.map int)).mono (l1.trans l3).b h1)) ea_nil) (p, n, j, r, ord, n) rfl fun W4 l4 => ⟨⟨hp, by show 0 ≤ n; omega, hn, hj, hwr.1, hwr.2, ho.ok, hn, by show n ≤ (ord.length : Int); omega, by show ord.length ≤ 60; omega⟩, hT.le ((l1.trans l3).trans l4)⟩))
  · refine s_ret (ev_make (dvs := []) (as := [fld K p, int n, sums K p (renW p ord ws), lstR K []]) (ea_cons (ev_yfield T.toTx (x := (p, n, ws)) (ev_var rfl ((sysR K (p, n, ws)).mono (l1.trans l2).b h0))) (ea_cons (ev_yplaces T.toTx (x := (p, n, ws)) (ev_var rfl ((sysR K (p, n, ws)).mono (l1.trans l2).b h0))) (ea_cons (ev_var rfl hv2) (ea_cons ?_ ea_nil)))) (p, n, j + 8, renW p ord ws) rfl fun W4 l4 => ⟨hp, hn1, hn, renW_ok hp.ok hw ho (show (0 : Int) ≤ n by omega)⟩) fun v W3 l3 hv => k v W3 ((l1.trans l2).trans l3) hv
    refine ev_mapI (F := fun r => sumR K (p, r)) (G := fun r => sumR K (p, r)) (xs := ([] : List (List Tm))) (it_list (ev_yuppers T.toTx (x := (p, n, ws)) (ev_var rfl ((sysR K (p, n, ws)).mono (l1.trans l2).b h0)))) (by decide) ?_
    intro r v W3 hr
    simp at hr
def sp_is_row (K : PySem.W.Frag) : Sp := spG (ι := List Int) (fun fs => [int (fs.length : Int), prod fs]) (fun _ fs => fs.length ≤ 60 ∧ FilOk fs) fun _ => bl true
theorem ok_is_row (T : Tx K mg) : Cal P w K mg base 2 "is_row" (sp_is_row K) [] := by
  have h_is_whole := ok_is_whole (P := P) (w := w) (base := base) T
  obtain ⟨fd, F⟩ := T.d_is_row
  refine ⟨_, fd, ["places", "thing"], [], F.ok sc_is_row (spG_len fun _ => rfl) (fun cdv A outer s H vs Q E hr h => ?_), T.g_is_row, F.kp, F.bindsN (fun _ _ _ _ _ _ us hl => match us, hl with | [_, _], _ => rfl), .nil⟩
  obtain ⟨W, fs, rfl, ha, ⟨hz, hf⟩, k⟩ := h
  obtain ⟨v0, v1, rfl, rfl, h1⟩ := ha.two
  refine ⟨_, PSs.nox (pss_cons (ps_if (PW.pt (pw_or (pt_not (pt_val (pe_callB call_isi (by rfl) T.b_isinstance (by decide +kernel) (pa_cons (pv 1) (pa_cons (pe_bltn (v := .ty "tuple") (by rfl) T.b_tuple (by decide +kernel) rfl) pa_nil))))) (pw_or1 (pt_cmpR op_ne (pe_callB call_len_seq (by rfl) T.b_len (by decide +kernel) (pa_cons (pv 1) pa_nil)) (pv 0) (nomark _))))) (pss_one (ps_ret pe_bl)) pss_nil)
    (pss_one (ps_ret (pe_callB (cr_all rfl) (by rfl) T.b_all (by decide +kernel) (pa_cons (pe_lc (own := [("one", 2)]) rfl sc_is_row.nd (pi_tup (pv 1)) (blkOk_by (N := ["places", "thing", "one"]) (sc := defScope s_is_row) (by decide +kernel)) (fun _ _ _ _ _ => (pg_name (i := 2) sc_is_row.nd rfl (Or.inl rfl))) (fun _ _ _ _ _ => pts_nil) (fun _ _ _ _ _ => (pe_and (pe_c h_is_whole hr (by decide) rfl (pa_cons (pv 2) pa_nil)) (pe_one (pe_chain op_le op_le pe_int (pv 2) pe_int))))) pa_nil))))), ?_⟩
  try simp only [cxK, cxW, cxP]
  refine q_skip (eb_or (a := false) (eb_is (eb_not (eb_B (ev_isi (R := prod fs) (by walk_at "ev") (fun W v h => ty_tup (K := K) W v (prod_tup h)) (.ty _) (kit_ty (r := true) (by decide +kernel))))) rfl) (fun _ => eb_is (eb_test (ev_ne (ev_lenT (K := K) (rs := fs.map int) (ev_prodT (ev_var rfl h1))) (by walk_at "ev") rfl)) (by rw [List.length_map, decide_eq_true rfl]; rfl)) (fun e => nomatch e)) fun W1 l1 => ?_
  refine s_ret (R := bl true) (ev_is (ev_all (K := K) (bs := fs.map fun _ => true) (by
    rw [List.map_map]
    refine ev_mapI (F := int) (G := fun _ => bl true) (xs := fs) (it_prod (K := K) (by walk_at "ev")) (by omega) ?_
    intro i v W2 hi l2 hv Q q
    refine g_name (q _ rfl (ev_andV (ev_whole (ea_cons (ev_var rfl hv) ea_nil)) (fun _ => ev_is (ev_chainI ev_ci (ev_var rfl hv) ev_ci) ?_) (fun e => nomatch e)))
    rcases hf i hi with e | e <;> subst e <;> rfl)) (by rw [all_true fun _ _ => rfl])) fun v W2 l2 hv => k v W2 (l1.trans l2) hv
/-- (p, places, level, rows, filling) -/
def GrOk (x : IYR) : Prop := PrF x.1 ∧ 0 ≤ x.2.1 ∧ x.2.2.1 ≤ 190 ∧ WsOk x.1 x.2.1 x.2.2.1 x.2.2.2.1 ∧ x.2.1 = (x.2.2.2.2.length : Int) ∧ x.2.2.2.2.length ≤ 60 ∧ FilOk x.2.2.2.2 ∧ ∀ r ∈ x.2.2.2.1, worthR x.1 r x.2.2.2.2 = (0, 1)
def sp_grants (K : PySem.W.Frag) : Sp := spG (ι := IYR) (fun x => [sysR K (x.1, x.2.1, x.2.2.2.1), prod x.2.2.2.2, bl false]) (fun _ x => GrOk x) fun _ => bl true
theorem ok_grants (T : Tx K mg) : Cal P w K mg base 5 "grants" (sp_grants K) [] := by
  have h_Sum_worth := ok_Sum_worth (P := P) (w := w) (base := base) T
  have h_System_noughts := ok_System_noughts (P := P) (w := w) (base := base) T
  have h_System_uppers := ok_System_uppers (P := P) (w := w) (base := base) T
  obtain ⟨fd, F⟩ := T.d_grants
  refine ⟨_, fd, ["system", "row", "sided"], [], F.ok sc_grants (spG_len fun _ => rfl) (fun cdv A outer s H vs Q E hr h => ?_), T.g_grants, F.kp, F.bindsN (fun _ _ _ _ _ _ us hl => match us, hl with | [_, _, _], _ => rfl), .nil⟩
  obtain ⟨W, ⟨p, n, j, ws, fs⟩, rfl, ha, ⟨hp, hn0, hj, hw, hnl, hz, hf, hg⟩, k⟩ := h
  dsimp only at hp hn0 hj hw hnl hz hf hg
  obtain ⟨v0, v1, v2, rfl, h0, h1, rfl⟩ := ha.three
  dsimp only at h0 h1
  refine ⟨_, PSs.nox (pss_cons (ps_if (pt_not (pt_val (pe_callB (cr_all rfl) (by rfl) T.b_all (by decide +kernel) (pa_cons (pe_lc (own := [("wish", 3)]) rfl sc_grants.nd (pi_list (pe_mt0 h_System_noughts hr (by decide) (pv 0))) (blkOk_by (N := ["system", "row", "sided", "wish"]) (sc := defScope s_grants) (by decide +kernel)) (fun _ _ _ _ _ => (pg_name (i := 3) sc_grants.nd rfl (Or.inl rfl))) (fun _ _ _ _ _ => pts_nil) (fun _ _ _ _ _ => (pe_cmpR (op_eqD hr.units : OpR _ _ (rEqD K)) (pe_mt h_Sum_worth hr (by decide) (pv 3) (pa_cons (pv 1) pa_nil)) (pe_glob (v := .ref (He.ga K "ZERO")) rfl T.c_ZERO rfl) (nomark _)))) pa_nil)))) (pss_one (ps_ret pe_bl)) pss_nil)
    (pss_one (ps_ret (pe_or (pe_not (pv 2)) (pe_one (pe_callB (cr_all rfl) (by rfl) T.b_all (by decide +kernel) (pa_cons (pe_lc (own := [("wish", 3)]) rfl sc_grants.nd (pi_list (pe_mt0 h_System_uppers hr (by decide) (pv 0))) (blkOk_by (N := ["system", "row", "sided", "wish"]) (sc := defScope s_grants) (by decide +kernel)) (fun _ _ _ _ _ => (pg_name (i := 3) sc_grants.nd rfl (Or.inl rfl))) (fun _ _ _ _ _ => pts_nil) (fun _ _ _ _ _ => (pe_cmpR op_ge (pe_ix (ix_tup : IxR _ (rIxT K)) (pe_mt h_Sum_worth hr (by decide) (pv 3) (pa_cons (pv 1) pa_nil)) pe_int (fun _ _ => rfl)) pe_int (nomark _)))) pa_nil))))))), ?_⟩
  try simp only [cxK, cxW, cxP]
  refine q_skip (eb_is (eb_not (eb_B (ev_all (K := K) (bs := ws.map fun _ => true) (by
    rw [List.map_map]
    refine ev_mapI (F := fun r => sumR K (p, r)) (G := fun _ => bl true) (xs := ws) (it_list (ev_meth (R := sysR K (p, n, ws)) (by walk_at "ev") (sys_no (by decide +kernel) (by decide +kernel) (by decide +kernel) (by decide +kernel)) (as := []) ea_nil (p, n, ws) rfl fun _ _ => True.intro)) (by have := hw.1; omega) ?_
    intro r v W2 hr2 l2 hv Q q
    have hwr := hw.2 r hr2
    refine g_name (q _ rfl (ev_is (ev_eqD (RA := num K (worthR p r fs)) (RB := num K (0, 1)) (ev_meth (R := sumR K (p, r)) (ev_var rfl hv) (sum_no (by decide +kernel) (by decide +kernel)) (as := [prod fs]) (ea_cons (ev_var rfl ((prod fs).mono l2.b h1)) ea_nil) (p, n, j, r, fs) rfl fun _ _ => ⟨hp, hn0, hj, hwr.1, hwr.2, by show n ≤ (fs.length : Int); omega, hz, hf⟩) (ev_c (zero_at T)) dt_num dt_num (by decide) (by decide)) ?_))
    rw [eqv_num, hg r hr2, decide_eq_true rfl])))) (by rw [all_true fun _ _ => rfl]; rfl)) fun W1 l1 => ?_
  exact s_ret (R := bl true) (ev_orV (a := true) (ev_is (ev_notV (by walk_at "ev")) rfl) (fun e => nomatch e) (fun _ => rfl)) fun v W2 l2 hv => k v W2 (l1.trans l2) hv
def sp_is_filling (K : PySem.W.Frag) : Sp := spG (ι := IYR) (fun x => [sysR K (x.1, x.2.1, x.2.2.2.1), prod x.2.2.2.2, bl false]) (fun _ x => GrOk x) fun _ => bl true
theorem ok_is_filling_d (T : Tx K mg) : Cal P w K mg base 6 "is_filling" (sp_is_filling K) [.bl false] := by
  have h_grants := ok_grants (P := P) (w := w) (base := base) T
  have h_is_row := ok_is_row (P := P) (w := w) (base := base) T
  have h_System_places := ok_System_places (P := P) (w := w) (base := base) T
  obtain ⟨fd, F⟩ := T.d_is_filling
  obtain ⟨ds, hds, hb⟩ := F.binds1 (ps := ["system", "thing", "sided"]) 2 0 (fun e => nomatch e) rfl (fun _ _ _ _ _ _ _ us its h1 h2 => match us, its, h1, h2 with | [_, _], [_], _, _ => ⟨_, rfl, rfl⟩)
  refine ⟨_, fd, ["system", "thing", "sided"], ds, F.ok sc_is_filling (spG_len fun _ => rfl) (fun cdv A outer s H vs Q E hr h => ?_), T.g_is_filling, F.kp, hb, hds⟩
  obtain ⟨W, ⟨p, n, j, ws, fs⟩, rfl, ha, hg, k⟩ := h
  have hg' := hg
  obtain ⟨hp, hn0, hj, hw, hnl, hz, hf, _⟩ := hg'
  dsimp only at hp hn0 hj hw hnl hz hf
  obtain ⟨v0, v1, v2, rfl, h0, h1, rfl⟩ := ha.three
  dsimp only at h0 h1
  refine ⟨_, PSs.nox (pss_one (ps_ret (pe_and (pe_c h_is_row hr (by decide) rfl (pa_cons (pe_mt0 h_System_places hr (by decide) (pv 0)) (pa_cons (pv 1) pa_nil))) (pe_one (pe_c h_grants hr (by decide) rfl (pa_cons (pv 0) (pa_cons (pv 1) (pa_cons (pv 2) pa_nil)))))))), ?_⟩
  try simp only [cxK, cxW, cxP]
  refine s_ret (R := bl true) (ev_andV (a := true) (ev_call (x := fs) (as := [int (fs.length : Int), prod fs]) (ea_cons (ev_is (ev_meth (R := sysR K (p, n, ws)) (by walk_at "ev") (sys_no (by decide +kernel) (by decide +kernel) (by decide +kernel) (by decide +kernel)) (as := []) ea_nil (p, n, ws) rfl fun _ _ => True.intro) (by rw [hnl])) (ea_cons (by walk_at "ev") ea_nil)) rfl fun _ _ => ⟨hz, hf⟩) (fun _ => ev_call (x := (p, n, j, ws, fs)) (as := [sysR K (p, n, ws), prod fs, bl false]) (ea_cons (ev_var rfl h0) (ea_cons (ev_var rfl h1) (ea_cons (by walk_at "ev") ea_nil))) rfl fun _ _ => hg) (fun e => nomatch e)) k
end
end Fs

set_option Elab.async false
set_option linter.all false
set_option maxRecDepth 100000
set_option maxHeartbeats 2000000
namespace Fs
open PySem PySem.Spec PyProof.Rows L2 C8
section
variable {K : PySem.W.Frag} {σ : L2.St} {W W' W0 : Wd} {ta tb te : TE} {rs ss : List Rp} {ps : List Int} {l : Addr} {D : Ends} {tz : TS} {R RA : Rp}
/-- a new tuple of whole numbers -/
theorem ev_tupI {t : TA} (h : EvA t σ W (ps.map int)) (hz : ps.length ≤ 100000) : Ev (tTup t) σ W (prod ps) := fun W1 l Q q =>
  h W1 l _ fun vs W2 l2 hvs => ⟨by rw [hvs.len, List.length_map]; exact Nat.le_trans hz (by decide), fun p hp => q (.ref p) (W2.mk' p (.tup vs) hp nb_tup) (l2.trans (W2.mk_le hp)) ⟨p, rfl, by rw [rpa_ints_eq hvs]; exact upd_same⟩⟩
/-- product or other -/
theorem ev_orP {qs : List Int} (ha : Ev ta σ W (prod ps)) (hb : ps = [] → Ev tb σ W (prod qs)) : Ev (tOrT K ta tb) σ W (prod (if ps = [] then qs else ps)) := fun W1 l Q q =>
  ha W1 l _ fun x W2 l2 ⟨a, e, h⟩ => by
    refine ⟨!ps.isEmpty, ?_, ?_⟩
    · rw [e]
      exact .inr (.inl ⟨_, prod_sq (W2.ex _ _ h), by cases ps <;> rfl⟩)
    · cases ps with
      | nil =>
        show tb σ W2.H Q
        exact hb rfl W2 (l.trans l2) Q fun v W3 l3 hv => q v W3 (l2.trans l3) hv
      | cons y ys =>
        show Q x W2.H
        exact q x W2 l2 ⟨a, e, h⟩
/-- l.extend(e) -/
theorem s_ext {i : Nat} (hi : σ[i]? = some (some (.ref l))) (L : LocL W l rs) (h : Ev te σ W (lstR K ss)) (hz : rs.length + ss.length ≤ 100000) (k : ∀ W1, Up l W W1 → LocL W1 l (rs ++ ss) → D.nx σ W1.H) : tDrop (tBM K "list" rExtend (tVar i) (tCons te tNil)) D σ W.H := by
  refine ⟨_, hi, ?_, ?_⟩
  · obtain ⟨b, r, vs, h1, h2⟩ := L
    exact tyl h1
  · refine h W (Le.refl _) _ fun v W1 l1 ⟨a, us, e, g1, g2⟩ => ?_
    obtain ⟨b, r, vs, h1, h2⟩ := L.le l1
    exact ⟨l, a, vs, us, rfl, by rw [e], h1, W1.ex _ _ g1, by rw [h2.len, g2.len]; exact Nat.le_trans hz (by decide), k (W1.mut l (.lst (vs ++ us)) b r ⟨_, h1, nl_lst⟩) (l1.up.trans (W1.mut_up b r ⟨_, h1, nl_lst⟩)) ⟨b, r, _, upd_same, h2.app g2⟩⟩
theorem q_ext {i : Nat} (hi : σ[i]? = some (some (.ref l))) (L : LocL W l rs) (h : Ev te σ W (lstR K ss)) (hz : rs.length + ss.length ≤ 100000) (k : ∀ W1, Up l W W1 → LocL W1 l (rs ++ ss) → tz D σ W1.H) : tSeq (tDrop (tBM K "list" rExtend (tVar i) (tCons te tNil))) tz D σ W.H := s_ext (D := { D with nx := tz D }) hi L h hz k
/-- and, not determined -/
theorem ev_andP {Pa Pb Pc : Bool → Prop} (h1 : Ev ta σ W (anyR Pa bl)) (h2 : Pa true → Ev tb σ W (anyR Pb bl)) (hc : ∀ b, Pa true → Pb b → Pc b) (hf : Pa false → Pc false) : Ev (tAndV ta tb) σ W (anyR Pc bl) := fun W1 l Q q => h1 W1 l _ fun x W2 l2 ⟨a, ha, hx⟩ => ⟨a, hx, by
  cases a with
  | true =>
    show tb σ W2.H Q
    exact h2 ha W2 (l.trans l2) Q fun v W3 l3 ⟨b, hb, hv⟩ => q v W3 (l2.trans l3) ⟨b, hc b ha hb, hv⟩
  | false =>
    show Q (.bl false) W2.H
    exact q _ W2 l2 ⟨false, hf ha, rfl⟩⟩
theorem ev_any {α : Type} {P : α → Prop} {f : α → Rp} {a : α} (h : Ev ta σ W (f a)) (hp : P a) : Ev ta σ W (anyR P f) := h.imp fun _ _ _ z => ⟨a, hp, z⟩
end
theorem cmul_s {i j : Int} (hi : i.natAbs ≤ 1000) (hj : j.natAbs ≤ 1000) : CMulW i j := cmul_of (Nat.lt_of_le_of_lt hi (Nat.lt_of_lt_of_le (by decide : 1000 < pw2 10) (pow_le (by decide)))) (Nat.lt_of_le_of_lt hj (Nat.lt_of_lt_of_le (by decide : 1000 < pw2 10) (pow_le (by decide))))
theorem cdiv_s {i j : Int} (h : 0 < j) (hj : j.natAbs ≤ 1000) : CDivW i j := cdiv_of h (Nat.lt_of_le_of_lt hj (Nat.lt_of_lt_of_le (by decide : 1000 < pw2 10) (pow_le (by decide))))
theorem upTo_at {lo : Int} {n i : Nat} {k : Int} (h : (upTo lo n)[i]? = some k) : k = lo + i ∧ i < n := by
  have hl : i < n := by
    have := (List.getElem?_eq_some_iff.mp h).1
    simpa [upTo] using this
  unfold upTo at h
  rw [List.getElem?_map, List.getElem?_range hl] at h
  exact ⟨(Option.some.inj h).symm, hl⟩
theorem upTo_len {lo : Int} {n : Nat} : (upTo lo n).length = n := by simp [upTo]
local macro_rules | `(tactic| walk_at "up") => `(tactic| first
  | assumption
  | ((refine Rp.mono _ (by assumption : Same _ _) ?_); walk_at "up")
  | ((refine Rp.mono _ (Le.b (by assumption)) ?_); walk_at "up"))
local macro_rules | `(tactic| walk_at "ev") => `(tactic| first
  | ((with_reducible refine' ev_var ?h1 ?h2); (case h1 => rfl); (case h2 => walk_at "up"))
  | ((with_reducible refine' ev_vi ?h1); (case h1 => rfl))
  | with_reducible exact ev_ci
  | ((with_reducible refine' ev_get0 ?ea); (case ea => walk_at "ev"))
  | ((with_reducible refine' ev_get1 ?ea); (case ea => walk_at "ev"))
  | ((with_reducible refine' ev_I0 ?ea ?eb); (case ea => walk_at "ev"); (case eb => walk_at "ev"))
  | ((with_reducible refine' ev_notV ?ea); (case ea => walk_at "ev"))
  | ((with_reducible refine' eb_test ?ea); (case ea => walk_at "ev"))
  | ((with_reducible refine' eb_B ?ea); (case ea => walk_at "ev"))
  | ((with_reducible refine' eb_not ?ea); (case ea => walk_at "ev"))
  | ((with_reducible refine' ev_eq ?ea ?eb ?ec); (case ea => walk_at "ev"); (case eb => walk_at "ev"); (case ec => rfl))
  | ((with_reducible refine' ev_ne ?ea ?eb ?ec); (case ea => walk_at "ev"); (case eb => walk_at "ev"); (case ec => rfl))
  | ((with_reducible refine' ev_chainI ?ea ?eb ?ec); (case ea => walk_at "ev"); (case eb => walk_at "ev"); (case ec => walk_at "ev"))
  | with_reducible exact ea_nil
  | ((with_reducible refine' ea_cons ?ea ?eb); (case ea => walk_at "ev"); (case eb => walk_at "ev")))
section
variable {P : Program} {w : World} {K : PySem.W.Frag} {mg : Str → Option Value} {base : Heap}
def sp_look_at_degree : Sp := spG (ι := Int) (fun m => [int m]) (fun _ m => 0 ≤ m ∧ m ≤ 300) fun _ => is .non
theorem ok_look_at_degree (T : Tx K mg) : Cal P w K mg base 2 "look_at_degree" sp_look_at_degree [] := by
  have h_is_whole := ok_is_whole (P := P) (w := w) (base := base) T
  obtain ⟨fd, F⟩ := T.d_look_at_degree
  refine ⟨_, fd, ["degree"], [], F.ok sc_look_at_degree (spG_len fun _ => rfl) (fun cdv A outer s H vs Q E hr h => ?_), T.g_look_at_degree, F.kp, F.bindsN (fun _ _ _ _ _ _ us hl => match us, hl with | [_], _ => rfl), .nil⟩
  obtain ⟨W, m, rfl, ha, ⟨h0, h1⟩, k⟩ := h
  obtain ⟨v0, rfl, rfl⟩ := ha.one
  refine ⟨_, PSs.nox (pss_one (ps_if (PW.pt (pw_or (pt_not (pt_val (pe_c h_is_whole hr (by decide) rfl (pa_cons (pv 0) pa_nil)))) (pw_or1 (pt_not (pt_chain op_le op_le pe_int (pv 0) (pe_gc rfl T.c_MOST_DEGREE)))))) (pss_one ps_never) pss_nil)), ?_⟩
  try simp only [cxK, cxW, cxP]
  exact s_skip (eb_or (a := false) (eb_is (eb_not (eb_B (ev_whole (by walk_at "ev")))) rfl) (fun _ => eb_is (eb_not (eb_test (ev_chainI (by walk_at "ev") (by walk_at "ev") (by walk_at "ev")))) (by rw [decide_eq_true h0, decide_eq_true h1]; rfl)) (fun e => nomatch e)) fun W1 l1 => k _ W1 l1 rfl
def sp_products_many : Sp := spG (ι := Int × Int) (fun x => [int x.1, int x.2]) (fun _ x => 0 ≤ x.1 ∧ x.1 ≤ 4 ∧ 0 ≤ x.2 ∧ x.2 ≤ 300) fun x => int (pm x.1 x.2)
theorem ok_products_many (T : Tx K mg) : Cal P w K mg base 1 "products_many" sp_products_many [] := by
  obtain ⟨fd, F⟩ := T.d_products_many
  refine ⟨_, fd, ["places", "most"], [], F.ok sc_products_many (spG_len fun _ => rfl) (fun cdv A outer s H vs Q E hr h => ?_), T.g_products_many, F.kp, F.bindsN (fun _ _ _ _ _ _ us hl => match us, hl with | [_, _], _ => rfl), .nil⟩
  obtain ⟨W, ⟨n, m⟩, rfl, ha, ⟨h0, h1, h2, h3⟩, k⟩ := h
  dsimp only at h0 h1 h2 h3
  obtain ⟨v0, v1, rfl, rfl, rfl⟩ := ha.two
  refine ⟨_, PSs.nox (pss_cons (ps_set (i := 2) sc_products_many.nd rfl (Or.inl rfl) pe_int)
    (pss_cons (ps_set (i := 3) sc_products_many.nd rfl (Or.inl rfl) pe_int)
    (pss_cons (ps_for PassesOwn.never rfl (pi_range1 (by rfl) T.b_range (pa_cons (pe_op op_add (pe_callB (call_min2 rfl) (by rfl) T.b_min (by decide +kernel) (pa_cons (pv 1) (pa_cons (pv 0) pa_nil))) pe_int) pa_nil)) (pg_name (i := 4) sc_products_many.nd rfl (Or.inl rfl)) (pss_cons (ps_aug (i := 2) sc_products_many.nd rfl (Or.inl rfl) (pv 3) ip_add)
    (pss_one (ps_set (i := 3) sc_products_many.nd rfl (Or.inl rfl) (pe_op op_fdivW (pe_op op_mulW (pv 3) (pe_op op_sub (pv 0) (pv 4))) (pe_op op_add (pv 4) pe_int))))))
    (pss_one (ps_ret (pv 2)))))), ?_⟩
  try simp only [cxK, cxW, cxP]
  refine q_asg (R := int 0) (by walk_at "ev") ?_
  rintro _ W1 l1 rfl
  refine q_asg (R := int 1) (by walk_at "ev") ?_
  rintro _ W2 l2 rfl
  have hb : 0 ≤ (if n < m then n else m) ∧ (if n < m then n else m) ≤ 4 := by split <;> omega
  refine q_forI (it_rng1 (n := (if n < m then n else m) + 1) (ea_cons (ev_I0 (ev_min (by walk_at "ev") (by walk_at "ev")) (by walk_at "ev")) ea_nil) (by omega)) (fun i σ' W' => ∃ o : Option V, σ' = [some (.int n), some (.int m), some (.int (pmI n i).1), some (.int (pmI n i).2), o] ∧ Le W W') (fun W3 l3 => ⟨none, rfl, (l1.trans l2).trans l3⟩) ?_ ?_
  · rintro i r x σ' W' W4 N hi s ⟨o, rfl, lw⟩ l4 hx nx
    obtain ⟨y, hy, rfl, hm⟩ := map_at hi
    cases hx
    obtain ⟨rfl, hlt⟩ := upTo_at hy
    have hs := pmI_le h0 h1 (i := i) (by omega)
    refine g_name ?_
    refine q_augI rfl (by walk_at "ev") fun W5 l5 => ?_
    refine s_asg (R := int ((pmI n i).2 * (n - i) / (i + 1))) (ev_is (ev_div (ev_mul (by walk_at "ev") (by walk_at "ev") (cmul_s (by omega) (by omega))) (by walk_at "ev") (cdiv_s (by omega) (by omega))) (by rw [Int.zero_add])) ?_
    rintro _ W6 l6 rfl
    exact nx _ W6 (l5.trans l6).b ⟨_, rfl, ((lw.trans l4).trans l5).trans l6⟩
  · rintro σ' W' s ⟨o, rfl, lw⟩
    refine s_ret (R := int (pm n m)) (ev_is (by walk_at "ev") ?_) fun v W3 l3 hv => k v W3 (lw.trans l3) hv
    rw [List.length_map, upTo_len]; rfl
def sp_products_of (K : PySem.W.Frag) : Sp := spG (ι := Int × Int) (fun x => [int x.1, int x.2]) (fun _ x => 0 ≤ x.1 ∧ x.1 ≤ 4 ∧ -300 ≤ x.2 ∧ x.2 ≤ 300) fun x => lstR K ((prodsOf x.1 (if x.1 < x.2 then x.1 else x.2).toNat).map prod)
theorem nextL_take {n : Int} {L : List (List Int)} {i : Nat} {q : List Int} (h : L[i]? = some q) : nextL n (L.take (i + 1)) = nextL n (L.take i) ++ (upTo (lastO q + 1) (n - (lastO q + 1)).toNat).map fun i => q ++ [i] := by
  unfold nextL
  rw [List.take_add_one, h, List.flatMap_append]
  simp
theorem nextL_le {n : Int} {L : List (List Int)} (h0 : 0 ≤ n) (h1 : n ≤ 4) (hL : ∀ q ∈ L, PdOk n q) : (nextL n L).length ≤ 5 * L.length := by
  unfold nextL
  induction L with
  | nil => simp
  | cons q L ih =>
    have ih := ih fun r hr => hL r (List.mem_cons_of_mem _ hr)
    have hq := hL q (List.mem_cons_self ..)
    have hlo : -1 ≤ lastO q := by
      by_cases e : q = []
      · subst e; exact Int.le_refl _
      · unfold lastO
        rw [if_neg e]
        have := pd_last hq e
        omega
    rw [List.flatMap_cons, List.length_append, List.length_map, upTo_len, List.length_cons]
    omega
theorem ok_products_of (T : Tx K mg) : Cal P w K mg base 1 "products_of" (sp_products_of K) [] := by
  obtain ⟨fd, F⟩ := T.d_products_of
  refine ⟨_, fd, ["places", "most"], [], F.ok sc_products_of (spG_len fun _ => rfl) (fun cdv A outer s H vs Q E hr h => ?_), T.g_products_of, F.kp, F.bindsN (fun _ _ _ _ _ _ us hl => match us, hl with | [_, _], _ => rfl), .nil⟩
  obtain ⟨W, ⟨n, m⟩, rfl, ha, ⟨h0, h1, h2, h3⟩, k⟩ := h
  dsimp only at h0 h1 h2 h3
  obtain ⟨v0, v1, rfl, rfl, rfl⟩ := ha.two
  refine ⟨_, PSs.nox (pss_cons (ps_set (i := 2) sc_products_of.nd rfl (Or.inl rfl) (pe_lst (pa_cons (pe_tup pa_nil) pa_nil)))
    (pss_cons (ps_set (i := 3) sc_products_of.nd rfl (Or.inl rfl) (pe_lst (pa_cons (pe_tup pa_nil) pa_nil)))
    (pss_cons (ps_for PassesOwn.never rfl (pi_range1 (by rfl) T.b_range (pa_cons (pe_callB (call_min2 rfl) (by rfl) T.b_min (by decide +kernel) (pa_cons (pv 1) (pa_cons (pv 0) pa_nil))) pa_nil)) (pg_name (i := 4) sc_products_of.nd rfl (Or.inl rfl)) (pss_cons (ps_set (i := 5) sc_products_of.nd rfl (Or.inl rfl) (pe_lst pa_nil))
    (pss_cons (ps_for PassesOwn.never rfl (pi_list (pv 3)) (pg_name (i := 6) sc_products_of.nd rfl (Or.inr rfl)) (pss_one (ps_expr (pe_bm PySem.F.plainAttrs_list PySem.F.slot_list_extend PySem.F.type_list_extend mt_extend (pv 5) (pa_cons (pe_lc (own := [("place", 7)]) rfl sc_products_of.nd (pi_range2 (by rfl) T.b_range (pa_cons (pe_op op_add (pe_ix ix_tup (pe_orT (pv 6) (pe_one (pe_tup (pa_cons (pe_un un_neg pe_int) pa_nil)))) (pe_un un_neg pe_int) (fun _ _ => rfl)) pe_int) (pa_cons (pv 0) pa_nil))) (blkOk_by (N := ["places", "most", "found", "last", "size", "wider", "product", "place"]) (sc := defScope s_products_of) (by decide +kernel)) (fun _ _ _ _ _ => (pg_name (i := 7) sc_products_of.nd rfl (Or.inl rfl))) (fun _ _ _ _ _ => pts_nil) (fun _ _ _ _ _ => (pe_op (op_catA : OpR _ _ (rCatA K)) (pv 6) (pe_tup (pa_cons (pv 7) pa_nil))))) pa_nil)))))
    (pss_cons (ps_expr (pe_bm PySem.F.plainAttrs_list PySem.F.slot_list_extend PySem.F.type_list_extend mt_extend (pv 2) (pa_cons (pv 5) pa_nil)))
    (pss_one (ps_set (i := 3) sc_products_of.nd rfl (Or.inl rfl) (pv 5)))))))
    (pss_one (ps_ret (pv 2)))))), ?_⟩
  try simp only [cxK, cxW, cxP]
  refine q_newL (rs := [prod []]) (ea_cons (ev_tupI (ps := []) ea_nil (by decide)) ea_nil) (by decide) fun l W1 s1 l1 fr L1 => ?_
  refine q_asg (R := lstR K [prod []]) (ev_lst (ea_cons (ev_tupI (ps := []) ea_nil (by decide)) ea_nil)) fun v3 W2 l2 hv3 => ?_
  have hb : (if n < m then n else m) ≤ 4 ∧ -300 ≤ (if n < m then n else m) := by split <;> omega
  refine q_forI (it_rng1 (n := (if n < m then n else m)) (ea_cons (ev_min (by walk_at "ev") (by walk_at "ev")) ea_nil) (by omega)) (fun i σ' W' => ∃ (u : V) (o4 o5 o6 o7 : Option V), σ' = [some (.int n), some (.int m), some (.ref l), some u, o4, o5, o6, o7] ∧ Le W W' ∧ (lstR K ((lev n i).map prod)).p W'.B u ∧ LocL W' l ((prodsOf n i).map prod)) (fun W3 l3 => ⟨v3, none, none, none, none, rfl, (l1.trans l2).trans l3, (lstR K [prod []]).mono l3.b hv3, (L1.le l2).le l3⟩) ?_ ?_
  · rintro i r x σ' W' W4 N hi s ⟨u, o4, o5, o6, o7, rfl, lw, hu, L⟩ l4 hx nx
    obtain ⟨y, hy, rfl, hm⟩ := map_at hi
    cases hx
    obtain ⟨rfl, hlt⟩ := upTo_at hy
    have hi4 : i < 4 := by omega
    have hsz := lev_le h0 h1 (k := i) (by omega)
    have hsz2 := lev_le h0 h1 (k := i + 1) (by omega)
    refine g_name ?_
    refine q_newL (rs := []) ea_nil (by decide) fun l2 W5 s5 l5 fr5 L5 => ?_
    have hlw5 := (lw.trans l4).trans l5
    have nel : l ≠ l2 := ((L.le l4).ne fr5)
    have frW : Fre W l2 := (lw.trans l4).free fr5
    refine q_forI (it_list (K := K) (rs := (lev n i).map prod) (ev_var rfl (Rp.mono _ (l4.trans l5).b hu))) (fun m' σ' W' => ∃ (o6 o7 : Option V), σ' = [some (.int n), some (.int m), some (.ref l), some u, some (.int (0 + (i : Int))), some (.ref l2), o6, o7] ∧ Le W W' ∧ LocL W' l ((prodsOf n i).map prod) ∧ LocL W' l2 ((nextL n ((lev n i).take m')).map prod)) (fun W6 l6 => ⟨_, _, rfl, hlw5.trans l6, ((L.le l4).le l5).le l6, L5.le l6⟩) ?_ ?_
    · rintro m' r1 y σ' W6 W7 N2 hi2 s6 ⟨o6, o7, rfl, lw6, La, Lb⟩ l7 hy nx2
      obtain ⟨q, hq, rfl, hm2⟩ := map_at hi2
      have hpd : ∀ q ∈ (lev n i).take m', PdOk n q := fun q hq => (mem_lev.mp (List.mem_of_mem_take hq)).1
      have hl1 := nextL_le h0 h1 hpd
      have hpq := (mem_lev.mp hm2).1
      have hlq := hpq.len h0
      have hlo : -1 ≤ lastO q ∧ lastO q < n + 1 := by
        by_cases e : q = []
        · subst e; exact ⟨Int.le_refl _, by rw [lastO_nil]; omega⟩
        · unfold lastO
          rw [if_neg e]
          have := pd_last hpq e
          omega
      have hne : (if q = [] then [-1] else q) ≠ [] := by split <;> simp_all
      refine g_name ?_
      refine s_ext (K := K) (ss := ((upTo (lastO q + 1) (n - (lastO q + 1)).toNat).map fun i => q ++ [i]).map prod) rfl (Lb.le l7) ?_ (by
        rw [List.length_map, List.length_map, List.length_map, upTo_len]
        have : ((lev n i).take m').length ≤ (lev n i).length := by rw [List.length_take]; omega
        omega) fun W8 u8 L8 => ?_
      · rw [List.map_map]
        refine ev_mapI (F := int) (xs := upTo (lastO q + 1) (n - (lastO q + 1)).toNat) (it_rng2 (lo := lastO q + 1) (hi := n) (ea_cons (ev_I0 (ev_is (ev_ixLast (K := K) (ev_orP (qs := [-1]) (ev_var rfl hy) (fun _ => ev_tupI (ps := [-1]) (ea_cons (ev_neg ev_ci) ea_nil) (by decide))) (ev_neg ev_ci) hne) (by rw [last_eq]; rfl)) ev_ci) (ea_cons (by walk_at "ev") ea_nil)) (by omega)) (by rw [upTo_len]; omega) ?_
        intro k v W8 hk l8 hv Q2 q2
        exact g_name (q2 _ rfl (ev_cat (K := K) (ev_var rfl ((prod q).mono l8.b hy)) (ev_tupI (ps := [k]) (ea_cons (ev_var rfl hv) ea_nil) (by simp)) (by simp; omega)))
      · refine nx2 _ W8 u8.b ⟨_, _, rfl, u8.le (lw6.trans l7) frW, (La.le l7).up u8 nel, ?_⟩
        rw [nextL_take hq, List.map_append]
        exact L8
    · rintro σ' W6 s6 ⟨o6, o7, rfl, lw6, La, Lb⟩
      rw [List.length_map, List.take_length] at Lb
      obtain ⟨W7, e7, u7, hl7⟩ := Lb.frz (K := K)
      rw [← e7]
      have lw7 := u7.le lw6 frW
      have La7 := La.up u7 nel
      refine q_ext (K := K) (ss := (nextL n (lev n i)).map prod) rfl La7 (ev_var rfl hl7) (by
        rw [List.length_map, List.length_map]
        have : (nextL n (lev n i)).length ≤ 6 := hsz2.1
        omega) fun W8 u8 L8 => ?_
      refine s_asg (R := lstR K ((lev n (i + 1)).map prod)) (ev_var rfl (Rp.mono _ u8.b hl7)) fun v W9 l9 hv9 => ?_
      refine nx _ W9 (((l5.b.trans s6).trans u7.b).trans (u8.b.trans l9.b)) ⟨_, _, _, _, _, rfl, (u8.le lw7 (fr)).trans l9, hv9, ?_⟩
      show LocL W9 l ((prodsOf n i ++ lev n (i + 1)).map prod)
      rw [List.map_append]
      exact L8.le l9
  · rintro σ' W' s ⟨u, o4, o5, o6, o7, rfl, lw, hu, L⟩
    rw [List.length_map, upTo_len] at L
    obtain ⟨W3, e3, u3, hl3⟩ := L.frz (K := K)
    rw [← e3]
    exact s_ret (ev_var rfl hl3) fun v W4 l4 hv => k v W4 ((u3.le lw fr).trans l4) hv
end
end Fs

set_option Elab.async false
set_option linter.all false
set_option maxRecDepth 100000
set_option maxHeartbeats 2000000
namespace Fs
open PySem PySem.Spec PyProof.Rows L2 C8
theorem one_at {K : PySem.W.Frag} {mg : Str → Option Value} {H : Hp} (T : Tx K mg) : (num K (1, 1)).p H (.ref (He.ga K "ONE")) := ⟨_, _, rfl, T.t_ONE _, rfl, rfl, True.intro⟩
abbrev Zs := List (List Tm × List Tm)
def totF (p : Int) (zs : Zs) : List Tm := zs.foldl (fun tot x => gath p (tot ++ gath p (prodT p x.1 x.2))) []
def oneT : List Tm := [([], (1, 1))]
def mulOk (m : Int) (zs : Zs) : Bool := zs.all fun x => !(decide (x.2 ≠ []) && decide (deg x.2 + deg x.1 > m))
def ZsOk (p n : Int) (j jj : Nat) (zs : Zs) : Prop := zs.length ≤ 4 ∧ ∀ x ∈ zs, RowOk p n j x.1 ∧ RowOk p n jj x.2 ∧ x.1.length ≤ 40 ∧ x.2.length ≤ 40 ∧ x.1.length * x.2.length ≤ 40
theorem RowOk.mono {p n : Int} {j j' : Nat} {r : List Tm} (h : RowOk p n j r) (l : j ≤ j') : RowOk p n j' r := fun t ht => ⟨(h t ht).1, (h t ht).2.mono l⟩
theorem RowOk.app {p n : Int} {j : Nat} {r s : List Tm} (h : RowOk p n j r) (g : RowOk p n j s) : RowOk p n j (r ++ s) := fun t ht => (List.mem_append.mp ht).elim (h t) (g t)
theorem tot_ok {p n : Int} {j jj : Nat} (hp : PrOk p) : ∀ (zs : Zs) (z0 : List Tm) (c : Nat), (∀ x ∈ zs, RowOk p n j x.1 ∧ RowOk p n jj x.2 ∧ x.1.length ≤ 40 ∧ x.2.length ≤ 40 ∧ x.1.length * x.2.length ≤ 40) → c + zs.length ≤ 4 → RowOk p n (j + jj + 8 + 8 * c) z0 → z0.length ≤ 40 * c → RowOk p n (j + jj + 8 + 8 * (c + zs.length)) (zs.foldl (fun tot x => gath p (tot ++ gath p (prodT p x.1 x.2))) z0) ∧ (zs.foldl (fun tot x => gath p (tot ++ gath p (prodT p x.1 x.2))) z0).length ≤ 40 * (c + zs.length)
  | [], z0, c, _, _, h, hz => ⟨h, hz⟩
  | x :: zs, z0, c, hx, hc, h, hz => by
    rw [List.length_cons] at hc
    have e : c + (x :: zs).length = (c + 1) + zs.length := by rw [List.length_cons]; omega
    rw [e, List.foldl_cons]
    obtain ⟨h1, h2, h3, h4, h5⟩ := hx x (List.mem_cons_self ..)
    have hl : (gath p (prodT p x.1 x.2)).length ≤ 40 := Nat.le_trans gath_len (by rw [prodT_len]; exact h5)
    have hg := gath_ok hp (prodT_ok hp h1 h2) (by rw [prodT_len]; omega)
    have hl2 : (z0 ++ gath p (prodT p x.1 x.2)).length ≤ 40 * (c + 1) := by rw [List.length_append]; omega
    refine tot_ok hp zs _ (c + 1) (fun y hy => hx y (List.mem_cons_of_mem _ hy)) (by omega) ?_ (Nat.le_trans gath_len hl2)
    exact (gath_ok hp (h.app (hg.mono (by omega))) (by omega)).mono (by omega)
theorem tot_take {p : Int} {zs : Zs} {i : Nat} {x : List Tm × List Tm} (h : zs[i]? = some x) : totF p (zs.take (i + 1)) = gath p (totF p (zs.take i) ++ gath p (prodT p x.1 x.2)) := by
  unfold totF
  rw [List.take_add_one, h, List.foldl_append]; rfl
theorem zs_take {p n : Int} {j jj : Nat} {zs : Zs} (hp : PrOk p) (h : ZsOk p n j jj zs) (i : Nat) : RowOk p n (j + jj + 40) (totF p (zs.take i)) ∧ (totF p (zs.take i)).length ≤ 160 := by
  have hl : (zs.take i).length ≤ 4 := by rw [List.length_take]; have := h.1; omega
  obtain ⟨a, b⟩ := tot_ok (n := n) hp (zs.take i) [] 0 (fun x hx => h.2 x (List.mem_of_mem_take hx)) (by omega) (fun t ht => by simp at ht) (by simp)
  exact ⟨a.mono (by omega), Nat.le_trans b (by omega)⟩
local macro_rules | `(tactic| walk_at "up") => `(tactic| first
  | assumption
  | ((refine Rp.mono _ (by assumption : Same _ _) ?_); walk_at "up")
  | ((refine Rp.mono _ (Le.b (by assumption)) ?_); walk_at "up"))
local macro_rules | `(tactic| walk_at "ev") => `(tactic| first
  | ((with_reducible refine' ev_var ?h1 ?h2); (case h1 => rfl); (case h2 => walk_at "up"))
  | ((with_reducible refine' ev_vi ?h1); (case h1 => rfl))
  | with_reducible exact ev_ci
  | ((with_reducible refine' ev_get0 ?ea); (case ea => walk_at "ev"))
  | ((with_reducible refine' ev_get1 ?ea); (case ea => walk_at "ev"))
  | ((with_reducible refine' ev_I0 ?ea ?eb); (case ea => walk_at "ev"); (case eb => walk_at "ev"))
  | ((with_reducible refine' ev_notV ?ea); (case ea => walk_at "ev"))
  | ((with_reducible refine' eb_test ?ea); (case ea => walk_at "ev"))
  | ((with_reducible refine' eb_B ?ea); (case ea => walk_at "ev"))
  | ((with_reducible refine' eb_not ?ea); (case ea => walk_at "ev"))
  | ((with_reducible refine' ev_eq ?ea ?eb ?ec); (case ea => walk_at "ev"); (case eb => walk_at "ev"); (case ec => rfl))
  | ((with_reducible refine' ev_ne ?ea ?eb ?ec); (case ea => walk_at "ev"); (case eb => walk_at "ev"); (case ec => rfl))
  | ((with_reducible refine' ev_chainI ?ea ?eb ?ec); (case ea => walk_at "ev"); (case eb => walk_at "ev"); (case ec => walk_at "ev"))
  | with_reducible exact ea_nil
  | ((with_reducible refine' ea_cons ?ea ?eb); (case ea => walk_at "ev"); (case eb => walk_at "ev")))
section
variable {P : Program} {w : World} {K : PySem.W.Frag} {mg : Str → Option Value} {base : Heap}
/-- (p, places, level, level, wishes, sums, degree) -/
abbrev ISh := Int × Int × Nat × Nat × Zs × Int
def ShOk (x : ISh) : Prop := PrF x.1 ∧ 0 ≤ x.2.1 ∧ x.2.1 ≤ 30 ∧ x.2.2.1 + x.2.2.2.1 ≤ 140 ∧ ZsOk x.1 x.2.1 x.2.2.1 x.2.2.2.1 x.2.2.2.2.1
abbrev zW (zs : Zs) : List (List Tm) := zs.map (·.1)
abbrev zS (zs : Zs) : List (List Tm) := zs.map (·.2)
def sp_comes_to_one (K : PySem.W.Frag) : Sp := spG (ι := ISh) (fun x => [sysR K (x.1, x.2.1, zW x.2.2.2.2.1), sums K x.1 (zS x.2.2.2.2.1)]) (fun W x => ShOk x ∧ Tk K W) fun x => bl (decide (totF x.1 x.2.2.2.2.1 = gath x.1 oneT))
theorem zip_at {zs : Zs} {F G : List Tm → Rp} {i : Nat} {r1 r2 : Rp} (h1 : ((zW zs).map F)[i]? = some r1) (h2 : ((zS zs).map G)[i]? = some r2) : ∃ x, zs[i]? = some x ∧ x ∈ zs ∧ r1 = F x.1 ∧ r2 = G x.2 := by
  obtain ⟨a, ha, rfl, _⟩ := map_at h1
  obtain ⟨b, hb, rfl, _⟩ := map_at h2
  obtain ⟨x, hx, rfl, hm⟩ := map_at ha
  rw [List.getElem?_map, hx] at hb
  cases hb
  exact ⟨x, hx, hm, rfl, rfl⟩
theorem zip_len {zs : Zs} {F G : List Tm → Rp} : (prs K ((zW zs).map F) ((zS zs).map G)).length = zs.length := by
  unfold prs
  rw [List.length_zipWith]; simp
theorem oneT_ok {p n : Int} {j : Nat} (hp : PrOk p) : RowOk p n j oneT := fun t ht => by
  unfold oneT at ht
  rw [List.mem_singleton] at ht
  subst ht
  exact ⟨⟨.nil, fun i hi => by simp at hi⟩, (gd_one hp).mono (Nat.zero_le _)⟩
theorem ok_comes_to_one (T : Ty K mg base) : Cal P w K mg base 8 "comes_to_one" (sp_comes_to_one K) [] := by
  have h_Sum_mk_d := ok_Sum_mk_d (P := P) (w := w) (base := base) T
  have h_Sum_mk := ok_Sum_mk (P := P) (w := w) (base := base) T
  have h_System_field := ok_System_field (P := P) (w := w) (base := base) T.toTx
  have h_System_noughts := ok_System_noughts (P := P) (w := w) (base := base) T.toTx
  have h_Sum_plus := ok_Sum_plus (P := P) (w := w) (base := base) T
  have h_Sum_times := ok_Sum_times (P := P) (w := w) (base := base) T
  have h_Sum_eq := ok_Sum_eq (P := P) (w := w) (base := base) T.toTx
  obtain ⟨fd, F⟩ := T.d_comes_to_one
  refine ⟨_, fd, ["system", "showing"], [], F.ok sc_comes_to_one (spG_len fun _ => rfl) (fun cdv A outer s H vs Q E hr h => ?_), T.g_comes_to_one, F.kp, F.bindsN (fun _ _ _ _ _ _ us hl => match us, hl with | [_, _], _ => rfl), .nil⟩
  obtain ⟨W, ⟨p, n, j, jj, zs, m⟩, rfl, ha, ⟨⟨hp, hn0, hn, hj, hz⟩, hT⟩, k⟩ := h
  dsimp only at hp hn0 hn hj hz
  obtain ⟨v0, v1, rfl, h0, h1⟩ := ha.two
  dsimp only at h0 h1
  refine ⟨_, PSs.nox (pss_cons (ps_set (i := 2) sc_comes_to_one.nd rfl (Or.inl rfl) (pe_mk h_Sum_mk_d hr (by decide) rfl (pa_cons (pe_mt0 h_System_field hr (by decide) (pv 0)) pa_nil)))
    (pss_cons (ps_for PassesOwn.never rfl (pi_zipS (by rfl) T.b_zip (pa_cons (pe_mt0 h_System_noughts hr (by decide) (pv 0)) (pa_cons (pv 1) pa_nil))) (pg_tup rfl (pgs_cons (pg_name (i := 3) sc_comes_to_one.nd rfl (Or.inl rfl)) (pgs_cons (pg_name (i := 4) sc_comes_to_one.nd rfl (Or.inl rfl)) pgs_nil))) (pss_one (ps_set (i := 2) sc_comes_to_one.nd rfl (Or.inl rfl) (pe_mt h_Sum_plus hr (by decide) (pv 2) (pa_cons (pe_mt h_Sum_times hr (by decide) (pv 3) (pa_cons (pv 4) pa_nil)) pa_nil)))))
    (pss_one (ps_ret (pe_cmpR (op_eqOwn h_Sum_eq (hr.mono (by decide))) (pv 2) (pe_mk h_Sum_mk hr (by decide) rfl (pa_cons (pe_mt0 h_System_field hr (by decide) (pv 0)) (pa_cons (pe_lst (pa_cons (pe_tup (pa_cons (pe_tup pa_nil) (pa_cons (pe_glob (v := .ref (He.ga K "ONE")) rfl T.c_ONE rfl) pa_nil))) pa_nil)) pa_nil))) (nomark _)))))), ?_⟩
  try simp only [cxK, cxW, cxP]
  have hpo := hp.ok
  have sn : ∀ {m : Str}, ¬ m = "own_field" → ¬ m = "many_places" → ¬ m = "nought_sums" → ¬ m = "upper_sums" → InsP (He.ga K "System") m (sysR K (p, n, zW zs)) := fun a b c d => sys_no a b c d
  have sf : ∀ {W2 : Wd} {σ : L2.St}, Le W W2 → σ[0]? = some (some v0) → Ev (tMeth (He.ga K "System") "field" (sp_System_field K) [] E (tVar 0) tNil) σ W2 (fld K p) := fun l e => ev_meth (R := sysR K (p, n, zW zs)) (ev_var e ((sysR K (p, n, zW zs)).mono l.b h0)) (sn (by decide +kernel) (by decide +kernel) (by decide +kernel) (by decide +kernel)) (as := []) ea_nil (p, n, zW zs) rfl fun _ _ => True.intro
  refine q_asg (R := sumR K (p, [])) (ev_make (dvs := [.non]) (as := [fld K p]) (ea_cons (sf (Le.refl _) rfl) ea_nil) p rfl fun W1 l1 => ⟨hp, hT.le l1⟩) fun v2 W1 l1 hv2 => ?_
  refine q_forI (it_zipS (K := K) (rs := (zW zs).map fun r => sumR K (p, r)) (ss := (zS zs).map fun r => sumR K (p, r)) (ea_cons (ev_meth (R := sysR K (p, n, zW zs)) (ev_var rfl ((sysR K (p, n, zW zs)).mono l1.b h0)) (sn (by decide +kernel) (by decide +kernel) (by decide +kernel) (by decide +kernel)) (as := []) ea_nil (p, n, zW zs) rfl fun _ _ => True.intro) (ea_cons (ev_var rfl (Rp.mono _ l1.b h1)) ea_nil)) (by simp)) (fun i σ' W' => ∃ (u : V) (o3 o4 : Option V), σ' = [some v0, some v1, some u, o3, o4] ∧ Le W W' ∧ (sumR K (p, totF p (zs.take i))).p W'.B u) (fun W3 l3 => ⟨v2, none, none, rfl, l1.trans l3, (sumR K (p, [])).mono l3.b hv2⟩) ?_ ?_
  · rintro i r x σ' W' W4 N hi s ⟨u, o3, o4, rfl, lw, hu⟩ l4 hx nx
    obtain ⟨r1, r2, e1, e2, rfl⟩ := prs_at hi
    obtain ⟨x, hxi, hm, rfl, rfl⟩ := zip_at e1 e2
    refine g_pair hx fun x1 x2 hx1 hx2 => ?_
    obtain ⟨g1, g2, g3, g4, g5⟩ := hz.2 x hm
    obtain ⟨t1, t2⟩ := zs_take (n := n) hpo hz i
    have hlen : (gath p (prodT p x.1 x.2)).length ≤ 40 := Nat.le_trans gath_len (by rw [prodT_len]; exact g5)
    have hlw := lw.trans l4
    refine s_asg (R := sumR K (p, gath p (totF p (zs.take i) ++ gath p (prodT p x.1 x.2)))) (ev_meth (R := sumR K (p, totF p (zs.take i))) (ev_var rfl (Rp.mono _ l4.b hu)) (sum_no (by decide +kernel) (by decide +kernel)) (as := [sumR K (p, gath p (prodT p x.1 x.2))]) (ea_cons (ev_meth (R := sumR K (p, x.1)) (ev_var rfl hx1) (sum_no (by decide +kernel) (by decide +kernel)) (as := [sumR K (p, x.2)]) (ea_cons (ev_var rfl hx2) ea_nil) (p, n, j, jj, x.1, x.2) rfl fun W5 l5 => ⟨⟨hp, hn0, hn, by show j + jj ≤ 190; omega, g1, g2, by show x.1.length * x.2.length ≤ 256; omega, by show x.1.length ≤ 256; omega, by show x.2.length ≤ 256; omega⟩, hT.le (hlw.trans l5)⟩) ea_nil) (p, n, j + jj + 40, totF p (zs.take i), gath p (prodT p x.1 x.2)) rfl fun W5 l5 => ⟨⟨hp, by show n ≤ 60; omega, by show j + jj + 40 ≤ 190; omega, t1, (gath_ok hpo (prodT_ok hpo g1 g2) (by rw [prodT_len]; omega)).mono (show j + jj + 8 ≤ j + jj + 40 by omega), by show (totF p (zs.take i)).length + (gath p (prodT p x.1 x.2)).length ≤ 256; omega⟩, hT.le (hlw.trans l5)⟩) fun v W6 l6 hv => ?_
    refine nx _ W6 l6.b ⟨_, _, _, rfl, hlw.trans l6, ?_⟩
    rw [tot_take hxi]; exact hv
  · rintro σ' W' s ⟨u, o3, o4, rfl, lw, hu⟩
    rw [zip_len, List.take_length] at hu
    exact s_ret (ev_own (neg := false) (C := He.ga K "Sum") (RA := sumR K (p, totF p zs)) (RB := sumR K (p, gath p oneT)) (ev_var rfl hu) (ev_make (dvs := []) (as := [fld K p, rows K oneT]) (ea_cons (sf lw rfl) (ea_cons (ev_lst (K := K) (rs := [term K ([], (1, 1))]) (ea_cons (ev_tup (ea_cons (ev_tupI (ps := []) ea_nil (by decide)) (ea_cons (ev_c (one_at T.toTx)) ea_nil))) ea_nil)) ea_nil)) (p, n, 0, oneT) rfl fun W5 l5 => ⟨⟨hp, by show n ≤ 60; omega, by show 0 ≤ 190; omega, oneT_ok hpo, Nat.le_of_ble_eq_true rfl⟩, hT.le (lw.trans l5)⟩) ins_a ins_a (p, totF p zs, gath p oneT) rfl (fun _ _ => True.intro) (c := decide (totF p zs = gath p oneT)) rfl) fun v W4 l4 hv => k v W4 (lw.trans l4) hv
def sp_are_multipliers (K : PySem.W.Frag) : Sp := spG (ι := ISh) (fun x => [sysR K (x.1, x.2.1, zW x.2.2.2.2.1), int x.2.2.2.2.2, sums K x.1 (zS x.2.2.2.2.1)]) (fun W x => ShOk x) fun x => bl (mulOk x.2.2.2.2.2 x.2.2.2.2.1)
theorem mulOk_no {m : Int} {zs : Zs} {x : List Tm × List Tm} (h : x ∈ zs) (h1 : x.2 ≠ []) (h2 : deg x.2 + deg x.1 > m) : mulOk m zs = false := by
  unfold mulOk
  rw [← Bool.not_eq_true, List.all_eq_true]
  intro z
  have := z x h
  rw [decide_eq_true h1, decide_eq_true h2] at this
  cases this
theorem mulOk_yes {m : Int} {zs : Zs} (h : ∀ x ∈ zs, x.2 ≠ [] → ¬ deg x.2 + deg x.1 > m) : mulOk m zs = true := by
  unfold mulOk
  rw [List.all_eq_true]
  intro x hx
  by_cases e : x.2 = []
  · simp [e]
  · rw [decide_eq_false (h x hx e), Bool.and_false]; rfl
theorem mem_takeS {α : Type} {xs : List α} {i : Nat} {x y : α} (h : xs[i]? = some x) (g : y ∈ xs.take (i + 1)) : y ∈ xs.take i ∨ y = x := by
  rw [List.take_add_one, h, List.mem_append] at g
  exact g.imp id fun g => by simpa using g
theorem ok_are_multipliers (T : Tx K mg) : Cal P w K mg base 4 "are_multipliers" (sp_are_multipliers K) [] := by
  have h_System_noughts := ok_System_noughts (P := P) (w := w) (base := base) T
  have h_System_field := ok_System_field (P := P) (w := w) (base := base) T
  have h_System_places := ok_System_places (P := P) (w := w) (base := base) T
  have h_is_wish := ok_is_wish (P := P) (w := w) (base := base) T
  have h_Sum_len := ok_Sum_len (P := P) (w := w) (base := base) T
  have h_Sum_degree := ok_Sum_degree (P := P) (w := w) (base := base) T
  obtain ⟨fd, F⟩ := T.d_are_multipliers
  refine ⟨_, fd, ["system", "degree", "thing"], [], F.ok sc_are_multipliers (spG_len fun _ => rfl) (fun cdv A outer s H vs Q E hr h => ?_), T.g_are_multipliers, F.kp, F.bindsN (fun _ _ _ _ _ _ us hl => match us, hl with | [_, _, _], _ => rfl), .nil⟩
  obtain ⟨W, ⟨p, n, j, jj, zs, m⟩, rfl, ha, ⟨hp, hn0, hn, hj, hz⟩, k⟩ := h
  dsimp only at hp hn0 hn hj hz
  obtain ⟨v0, v1, v2, rfl, h0, rfl, h2⟩ := ha.three
  dsimp only at h0 h2
  refine ⟨_, PSs.nox (pss_cons (ps_if (PW.pt (pw_or (pt_not (pt_val (pe_callB call_isi (by rfl) T.b_isinstance (by decide +kernel) (pa_cons (pv 2) (pa_cons (pe_bltn (v := .ty "list") (by rfl) T.b_list (by decide +kernel) rfl) pa_nil))))) (pw_or1 (pt_cmpR op_ne (pe_callB call_len_seq (by rfl) T.b_len (by decide +kernel) (pa_cons (pv 2) pa_nil)) (pe_callB call_len_seq (by rfl) T.b_len (by decide +kernel) (pa_cons (pe_mt0 h_System_noughts hr (by decide) (pv 0)) pa_nil)) (nomark _))))) (pss_one (ps_ret pe_bl)) pss_nil)
    (pss_cons (ps_for PassesOwn.never rfl (pi_zip (by rfl) T.b_zip (pa_cons (pe_mt0 h_System_noughts hr (by decide) (pv 0)) (pa_cons (pv 2) pa_nil))) (pg_tup rfl (pgs_cons (pg_name (i := 3) sc_are_multipliers.nd rfl (Or.inl rfl)) (pgs_cons (pg_name (i := 4) sc_are_multipliers.nd rfl (Or.inl rfl)) pgs_nil))) (pss_cons (ps_if (pt_not (pt_val (pe_c h_is_wish hr (by decide) rfl (pa_cons (pe_mt0 h_System_field hr (by decide) (pv 0)) (pa_cons (pe_mt0 h_System_places hr (by decide) (pv 0)) (pa_cons (pv 4) pa_nil)))))) (pss_one (ps_ret pe_bl)) pss_nil)
    (pss_one (ps_if (PW.pt (pw_and (pt_cmpR op_gt (pe_callB (call_lenOwn h_Sum_len (hr.mono (by decide))) (by rfl) T.b_len (by decide +kernel) (pa_cons (pv 4) pa_nil)) pe_int (nomark _)) (pw_and1 (pt_cmpR op_gt (pe_op op_add (pe_mt0 h_Sum_degree hr (by decide) (pv 4)) (pe_mt0 h_Sum_degree hr (by decide) (pv 3))) (pv 1) (nomark _))))) (pss_one (ps_ret pe_bl)) pss_nil))))
    (pss_one (ps_ret pe_bl)))), ?_⟩
  try simp only [cxK, cxW, cxP]
  have sn : ∀ {m : Str}, ¬ m = "own_field" → ¬ m = "many_places" → ¬ m = "nought_sums" → ¬ m = "upper_sums" → InsP (He.ga K "System") m (sysR K (p, n, zW zs)) := fun a b c d => sys_no a b c d
  have nn : ∀ {W2 : Wd} {σ : L2.St}, Le W W2 → σ[0]? = some (some v0) → Ev (tMeth (He.ga K "System") "noughts" (sp_System_noughts K) [] E (tVar 0) tNil) σ W2 (sums K p (zW zs)) := fun l e => ev_meth (R := sysR K (p, n, zW zs)) (ev_var e ((sysR K (p, n, zW zs)).mono l.b h0)) (sn (by decide +kernel) (by decide +kernel) (by decide +kernel) (by decide +kernel)) (as := []) ea_nil (p, n, zW zs) rfl fun _ _ => True.intro
  refine q_skip (eb_or (a := false) (eb_is (eb_not (eb_B (ev_isi (R := sums K p (zS zs)) (by walk_at "ev") ty_lst (.ty _) (kit_ty (r := true) (by decide +kernel))))) rfl) (fun _ => eb_is (eb_test (ev_ne (ev_lenL (K := K) (rs := (zS zs).map fun r => sumR K (p, r)) (ev_var rfl h2)) (ev_lenL (K := K) (rs := (zW zs).map fun r => sumR K (p, r)) (nn (Le.refl _) rfl)) rfl)) (by rw [List.length_map, List.length_map, List.length_map, List.length_map, decide_eq_true rfl]; rfl)) (fun e => nomatch e)) fun W1 l1 => ?_
  refine q_forI (it_zip (K := K) (rs := (zW zs).map fun r => sumR K (p, r)) (ss := (zS zs).map fun r => sumR K (p, r)) (ea_cons (nn l1 rfl) (ea_cons (ev_var rfl (Rp.mono _ l1.b h2)) ea_nil))) (fun i σ' W' => ∃ (o3 o4 : Option V), σ' = [some v0, some (.int m), some v2, o3, o4] ∧ Le W W' ∧ ∀ x ∈ zs.take i, x.2 ≠ [] → ¬ deg x.2 + deg x.1 > m) (fun W3 l3 => ⟨none, none, rfl, l1.trans l3, fun x hx => by simp at hx⟩) ?_ ?_
  · rintro i r x σ' W' W4 N hi s ⟨o3, o4, rfl, lw, hu⟩ l4 hx nx
    obtain ⟨r1, r2, e1, e2, rfl⟩ := prs_at hi
    obtain ⟨x, hxi, hm, rfl, rfl⟩ := zip_at e1 e2
    refine g_pair hx fun x1 x2 hx1 hx2 => ?_
    obtain ⟨g1, g2, g3, g4, g5⟩ := hz.2 x hm
    have hlw := lw.trans l4
    refine q_skip (eb_is (eb_not (eb_B (ev_call (x := (p, n, x.2)) (as := [fld K p, int n, sumR K (p, x.2)]) (ea_cons (ev_meth (R := sysR K (p, n, zW zs)) (ev_var rfl ((sysR K (p, n, zW zs)).mono hlw.b h0)) (sn (by decide +kernel) (by decide +kernel) (by decide +kernel) (by decide +kernel)) (as := []) ea_nil (p, n, zW zs) rfl fun _ _ => True.intro) (ea_cons (ev_meth (R := sysR K (p, n, zW zs)) (ev_var rfl ((sysR K (p, n, zW zs)).mono hlw.b h0)) (sn (by decide +kernel) (by decide +kernel) (by decide +kernel) (by decide +kernel)) (as := []) ea_nil (p, n, zW zs) rfl fun _ _ => True.intro) (ea_cons (ev_var rfl hx2) ea_nil))) rfl fun _ _ => ⟨by show x.2.length ≤ 256; omega, fun t ht => (g2 t ht).1.le (by omega)⟩))) (by rw [decide_eq_true (rch_le g2 hn0)]; rfl)) fun W5 l5 => ?_
    refine s_when (P := Bo (decide (x.2 ≠ []) && decide (deg x.2 + deg x.1 > m))) (eb_and (a := decide (x.2 ≠ [])) (eb_is (eb_test (ev_I0 (ev_lenOwn (C := He.ga K "Sum") (RA := sumR K (p, x.2)) (ev_var rfl (Rp.mono _ l5.b hx2)) ins_a (p, x.2) rfl (fun _ _ => True.intro) (i := (x.2.length : Int)) rfl (by omega) (by omega)) ev_ci)) (by
      cases x.2 <;> simp)) (fun e => eb_is (eb_test (ev_I0 (ev_I0 (ev_meth (R := sumR K (p, x.2)) (ev_var rfl (Rp.mono _ l5.b hx2)) (sum_no (by decide +kernel) (by decide +kernel)) (as := []) ea_nil (p, x.2) rfl fun _ _ => by show x.2.length ≤ 256; omega) (ev_meth (R := sumR K (p, x.1)) (ev_var rfl (Rp.mono _ l5.b hx1)) (sum_no (by decide +kernel) (by decide +kernel)) (as := []) ea_nil (p, x.1) rfl fun _ _ => by show x.1.length ≤ 256; omega)) (by walk_at "ev"))) (by rw [e]; rfl)) (fun e => by rw [e]; rfl)) (fun hh W6 l6 => ?_) (fun hh W6 l6 => ?_)
    · have h3 := (Bool.and_eq_true_iff.mp hh.symm)
      refine s_ret (R := bl (mulOk m zs)) (ev_is ev_ci (by rw [mulOk_no hm (of_decide_eq_true h3.1) (of_decide_eq_true h3.2)])) fun v W7 l7 hv => k v W7 (((hlw.trans l5).trans l6).trans l7) hv
    · refine nx _ W6 (l5.trans l6).b ⟨_, _, rfl, (hlw.trans l5).trans l6, fun y hy hne => ?_⟩
      rcases mem_takeS hxi hy with hy | rfl
      · exact hu y hy hne
      · intro hgt
        rw [decide_eq_true hne, decide_eq_true hgt] at hh
        cases hh
  · rintro σ' W' s ⟨o3, o4, rfl, lw, hu⟩
    rw [zip_len, List.take_length] at hu
    exact s_ret (R := bl (mulOk m zs)) (ev_is ev_ci (by rw [mulOk_yes hu])) fun v W4 l4 hv => k v W4 (lw.trans l4) hv
def sp_lets_showing (K : PySem.W.Frag) : Sp := spG (ι := ISh) (fun x => [sysR K (x.1, x.2.1, zW x.2.2.2.2.1), int x.2.2.2.2.2, sums K x.1 (zS x.2.2.2.2.1)]) (fun W x => (ShOk x ∧ 0 ≤ x.2.2.2.2.2 ∧ x.2.2.2.2.2 ≤ 300) ∧ Tk K W) fun x => bl (mulOk x.2.2.2.2.2 x.2.2.2.2.1 && decide (totF x.1 x.2.2.2.2.1 = gath x.1 oneT))
theorem ok_lets_showing (T : Ty K mg base) : Cal P w K mg base 9 "lets_showing" (sp_lets_showing K) [] := by
  have h_look_at_degree := ok_look_at_degree (P := P) (w := w) (base := base) T.toTx
  have h_are_multipliers := ok_are_multipliers (P := P) (w := w) (base := base) T.toTx
  have h_comes_to_one := ok_comes_to_one (P := P) (w := w) (base := base) T
  obtain ⟨fd, F⟩ := T.d_lets_showing
  refine ⟨_, fd, ["system", "degree", "thing"], [], F.ok sc_lets_showing (spG_len fun _ => rfl) (fun cdv A outer s H vs Q E hr h => ?_), T.g_lets_showing, F.kp, F.bindsN (fun _ _ _ _ _ _ us hl => match us, hl with | [_, _, _], _ => rfl), .nil⟩
  obtain ⟨W, ⟨p, n, j, jj, zs, m⟩, rfl, ha, ⟨⟨hs, hm0, hm1⟩, hT⟩, k⟩ := h
  dsimp only at hm0 hm1
  obtain ⟨v0, v1, v2, rfl, h0, rfl, h2⟩ := ha.three
  dsimp only at h0 h2
  refine ⟨_, PSs.nox (pss_cons (ps_expr (pe_c h_look_at_degree hr (by decide) rfl (pa_cons (pv 1) pa_nil)))
    (pss_one (ps_ret (pe_and (pe_c h_are_multipliers hr (by decide) rfl (pa_cons (pv 0) (pa_cons (pv 1) (pa_cons (pv 2) pa_nil)))) (pe_one (pe_c h_comes_to_one hr (by decide) rfl (pa_cons (pv 0) (pa_cons (pv 2) pa_nil)))))))), ?_⟩
  try simp only [cxK, cxW, cxP]
  refine q_drop (R := is .non) (ev_call (x := m) (as := [int m]) (ea_cons (by walk_at "ev") ea_nil) rfl fun _ _ => ⟨hm0, hm1⟩) fun _ W1 l1 _ => ?_
  refine s_ret (R := bl (mulOk m zs && decide (totF p zs = gath p oneT))) (ev_andV (a := mulOk m zs) (ev_call (x := (p, n, j, jj, zs, m)) (as := [sysR K (p, n, zW zs), int m, sums K p (zS zs)]) (ea_cons (ev_var rfl (Rp.mono _ l1.b h0)) (ea_cons (by walk_at "ev") (ea_cons (ev_var rfl (Rp.mono _ l1.b h2)) ea_nil))) rfl fun _ _ => hs) (fun e => by
    rw [e, Bool.true_and]
    exact ev_call (x := (p, n, j, jj, zs, m)) (as := [sysR K (p, n, zW zs), sums K p (zS zs)]) (ea_cons (ev_var rfl (Rp.mono _ l1.b h0)) (ea_cons (ev_var rfl (Rp.mono _ l1.b h2)) ea_nil)) rfl fun W2 l2 => ⟨hs, hT.le (l1.trans l2)⟩) (fun e => by rw [e]; rfl)) fun v W2 l2 hv => k v W2 (l1.trans l2) hv
end
end Fs

set_option Elab.async false
set_option linter.all false
set_option maxRecDepth 100000
set_option maxHeartbeats 2000000
namespace Fs
open PySem PySem.Spec PyProof.Rows L2 C8
/-- a dict of worths: all products of n places up to m, entries at level k -/
def DicOk (p n m : Int) (k : Nat) (d : Dct) : Prop := (d.length : Int) = pm n m ∧ (∀ t ∈ d, PdOk n t.1 ∧ (t.1.length : Int) ≤ m ∧ Gd p k t.2) ∧ ∀ q, PdOk n q → (q.length : Int) ≤ m → ∃ v, valD d q = some v
def getW (d : Dct) (q : List Int) : Num := (valD d q).getD (0, 1)
def worthB (p : Int) (d : Dct) (r : List Tm) (q : List Int) : Num := r.foldl (fun n t => nplus p n (ntimes p t.2 (getW d (usort (t.1 ++ q))))) (0, 1)
def lwR (p n m : Int) (d : Dct) (ws : List (List Tm)) : Bool := decide (getW d [] = (1, 1)) && ws.all fun r => (prodsOf n (if n < m - deg r then n else m - deg r).toNat).all fun q => !(decide ((q.length : Int) + deg r ≤ m) && !decide (worthB p d r q = (0, 1)))
theorem DicOk.get {p n m : Int} {k : Nat} {d : Dct} (h : DicOk p n m k d) {q : List Int} (hq : PdOk n q) (hl : (q.length : Int) ≤ m) : valD d q = some (getW d q) ∧ Gd p k (getW d q) := by
  obtain ⟨v, e⟩ := h.2.2 q hq hl
  have hg : getW d q = v := by unfold getW; rw [e]; rfl
  rw [hg]
  exact ⟨e, (h.2.1 _ (val_mem e)).2.2⟩
theorem usort_len : ∀ (l : List Int), (usort l).length ≤ l.length
  | [] => Nat.le_refl _
  | x :: l => by
    have ih := usort_len l
    have h1 : ∀ (m : List Int), (ins1 x m).length ≤ m.length + 1 := by
      intro m
      induction m with
      | nil => simp [ins1]
      | cons y m ih => unfold ins1; split <;> (try split) <;> simp <;> omega
    have := h1 (usort l)
    show (ins1 x (usort l)).length ≤ l.length + 1
    omega
theorem len_deg {r : List Tm} {t : Tm} (h : t ∈ r) : (t.1.length : Int) ≤ deg r := le_mx (List.mem_map.mpr ⟨t, h, rfl⟩)
theorem deg_nn {r : List Tm} : 0 ≤ deg r := mx_nonneg
theorem join_in {p n m : Int} {j : Nat} {r : List Tm} {q : List Int} {t : Tm} (hr : RowOk p n j r) (hq : PdOk n q) (hl : (q.length : Int) + deg r ≤ m) (ht : t ∈ r) : PdOk n (usort (t.1 ++ q)) ∧ ((usort (t.1 ++ q)).length : Int) ≤ m := ⟨pd_joined (hr t ht).1 hq, by
  have h1 := usort_len (t.1 ++ q)
  have h2 := len_deg ht
  rw [List.length_append] at h1
  omega⟩
theorem worthB_gc {p n m : Int} {j k : Nat} {d : Dct} {q : List Int} (hp : PrOk p) (hd : DicOk p n m k d) (hq : PdOk n q) : ∀ {r : List Tm} {c : Nat} {z : Num}, RowOk p n j r → (∀ t ∈ r, PdOk n (usort (t.1 ++ q)) ∧ ((usort (t.1 ++ q)).length : Int) ≤ m) → Gc p (j + k) c z → Gc p (j + k) (c + r.length) (r.foldl (fun n t => nplus p n (ntimes p t.2 (getW d (usort (t.1 ++ q))))) z)
  | [], c, z, _, _, h => h
  | t :: r, c, z, hr, hj, h => by
    have e : c + (t :: r).length = (c + 1) + r.length := by rw [List.length_cons]; omega
    rw [e, List.foldl_cons]
    have hjt := hj t (List.mem_cons_self ..)
    exact worthB_gc hp hd hq (fun u hu => hr u (List.mem_cons_of_mem _ hu)) (fun u hu => hj u (List.mem_cons_of_mem _ hu)) (gc_plus hp h (gd_times hp (hr t (List.mem_cons_self ..)).2 (hd.get hjt.1 hjt.2).2))
theorem val_keys {d : Dct} {q : List Int} {v : Num} (h : valD d q = some v) : q ∈ d.map (·.1) := List.mem_map.mpr ⟨_, val_mem h, rfl⟩
local macro_rules | `(tactic| walk_at "up") => `(tactic| first
  | assumption
  | ((refine Rp.mono _ (by assumption : Same _ _) ?_); walk_at "up")
  | ((refine Rp.mono _ (Le.b (by assumption)) ?_); walk_at "up"))
local macro_rules | `(tactic| walk_at "ev") => `(tactic| first
  | ((with_reducible refine' ev_var ?h1 ?h2); (case h1 => rfl); (case h2 => walk_at "up"))
  | ((with_reducible refine' ev_vi ?h1); (case h1 => rfl))
  | with_reducible exact ev_ci
  | ((with_reducible refine' ev_get0 ?ea); (case ea => walk_at "ev"))
  | ((with_reducible refine' ev_get1 ?ea); (case ea => walk_at "ev"))
  | ((with_reducible refine' ev_I0 ?ea ?eb); (case ea => walk_at "ev"); (case eb => walk_at "ev"))
  | ((with_reducible refine' ev_notV ?ea); (case ea => walk_at "ev"))
  | ((with_reducible refine' eb_test ?ea); (case ea => walk_at "ev"))
  | ((with_reducible refine' eb_B ?ea); (case ea => walk_at "ev"))
  | ((with_reducible refine' eb_not ?ea); (case ea => walk_at "ev"))
  | ((with_reducible refine' ev_eq ?ea ?eb ?ec); (case ea => walk_at "ev"); (case eb => walk_at "ev"); (case ec => rfl))
  | ((with_reducible refine' ev_ne ?ea ?eb ?ec); (case ea => walk_at "ev"); (case eb => walk_at "ev"); (case ec => rfl))
  | ((with_reducible refine' ev_chainI ?ea ?eb ?ec); (case ea => walk_at "ev"); (case eb => walk_at "ev"); (case ec => walk_at "ev"))
  | with_reducible exact ea_nil
  | ((with_reducible refine' ea_cons ?ea ?eb); (case ea => walk_at "ev"); (case eb => walk_at "ev")))
section
variable {P : Program} {w : World} {K : PySem.W.Frag} {mg : Str → Option Value} {base : Heap}
/-- (p, places, level, level, rows, degree, worths) -/
abbrev IWo := Int × Int × Nat × Nat × List (List Tm) × Int × Dct
def WoOk (x : IWo) : Prop := PrF x.1 ∧ 1 ≤ x.2.1 ∧ x.2.1 ≤ 4 ∧ x.2.2.1 + x.2.2.2.1 ≤ 190 ∧ WsOk x.1 x.2.1 x.2.2.1 x.2.2.2.2.1 ∧ 0 ≤ x.2.2.2.2.2.1 ∧ x.2.2.2.2.2.1 ≤ 300 ∧ DicOk x.1 x.2.1 x.2.2.2.2.2.1 x.2.2.2.1 x.2.2.2.2.2.2
def sp_are_numbers (K : PySem.W.Frag) : Sp := spG (ι := IWo) (fun x => [sysR K (x.1, x.2.1, x.2.2.2.2.1), int x.2.2.2.2.2.1, dctR K x.2.2.2.2.2.2]) (fun _ x => WoOk x) fun _ => bl true
theorem ok_are_numbers (T : Tx K mg) : Cal P w K mg base 4 "are_numbers" (sp_are_numbers K) [] := by
  have h_System_places := ok_System_places (P := P) (w := w) (base := base) T
  have h_System_field := ok_System_field (P := P) (w := w) (base := base) T
  have h_products_many := ok_products_many (P := P) (w := w) (base := base) T
  have h_is_product := ok_is_product (P := P) (w := w) (base := base) T
  have h_Field_is_number := ok_Field_is_number (P := P) (w := w) (base := base) T
  obtain ⟨fd, F⟩ := T.d_are_numbers
  refine ⟨_, fd, ["system", "degree", "thing"], [], F.ok sc_are_numbers (spG_len fun _ => rfl) (fun cdv A outer s H vs Q E hr h => ?_), T.g_are_numbers, F.kp, F.bindsN (fun _ _ _ _ _ _ us hl => match us, hl with | [_, _, _], _ => rfl), .nil⟩
  obtain ⟨W, ⟨p, n, j, jd, ws, m, d⟩, rfl, ha, ⟨hp, hn0, hn, hj, hw, hm0, hm1, hd⟩, k⟩ := h
  dsimp only at hp hn0 hn hj hw hm0 hm1 hd
  obtain ⟨v0, v1, v2, rfl, h0, rfl, h2⟩ := ha.three
  dsimp only at h0 h2
  refine ⟨_, PSs.nox (pss_cons (ps_if (PW.pt (pw_or (pt_not (pt_val (pe_callB call_isiF (by rfl) T.b_isinstance (by decide +kernel) (pa_cons (pv 2) (pa_cons (pe_bltn (v := .ty "dict") (by rfl) T.b_dict (by decide +kernel) rfl) pa_nil))))) (pw_or1 (pt_cmpR op_ne (pe_callB call_lenF (by rfl) T.b_len (by decide +kernel) (pa_cons (pv 2) pa_nil)) (pe_c h_products_many hr (by decide) rfl (pa_cons (pe_mt0 h_System_places hr (by decide) (pv 0)) (pa_cons (pv 1) pa_nil))) (nomark _))))) (pss_one (ps_ret pe_bl)) pss_nil)
    (pss_cons (ps_for PassesOwn.never rfl (pi_itemsT (pv 2)) (pg_tup rfl (pgs_cons (pg_name (i := 3) sc_are_numbers.nd rfl (Or.inl rfl)) (pgs_cons (pg_name (i := 4) sc_are_numbers.nd rfl (Or.inl rfl)) pgs_nil))) (pss_cons (ps_if (PW.pt (pw_or (pt_not (pt_val (pe_c h_is_product hr (by decide) rfl (pa_cons (pv 3) pa_nil)))) (pw_or (pt_cmpR op_gt (pe_callB call_len_seq (by rfl) T.b_len (by decide +kernel) (pa_cons (pv 3) pa_nil)) (pv 1) (nomark _)) (pw_or1 (pt_not (pt_val (pe_mt h_Field_is_number hr (by decide) (pe_mt0 h_System_field hr (by decide) (pv 0)) (pa_cons (pv 4) pa_nil)))))))) (pss_one (ps_ret pe_bl)) pss_nil)
    (pss_one (ps_if (PW.pt (pw_and (pt_cmpR (op_neD hr.units) (pv 3) (pe_tup pa_nil) (nomark _)) (pw_and1 (pt_cmpR op_ge (pe_ix ix_tup (pv 3) (pe_un un_neg pe_int) (fun _ _ => rfl)) (pe_mt0 h_System_places hr (by decide) (pv 0)) (nomark _))))) (pss_one (ps_ret pe_bl)) pss_nil))))
    (pss_one (ps_ret pe_bl)))), ?_⟩
  try simp only [cxK, cxW, cxP]
  have hpo := hp.ok
  have sn : ∀ {m : Str}, ¬ m = "own_field" → ¬ m = "many_places" → ¬ m = "nought_sums" → ¬ m = "upper_sums" → InsP (He.ga K "System") m (sysR K (p, n, ws)) := fun a b c d => sys_no a b c d
  have pl : ∀ {W2 : Wd} {σ : L2.St}, Le W W2 → σ[0]? = some (some v0) → Ev (tMeth (He.ga K "System") "places" (sp_System_places K) [] E (tVar 0) tNil) σ W2 (int n) := fun l e => ev_meth (R := sysR K (p, n, ws)) (ev_var e ((sysR K (p, n, ws)).mono l.b h0)) (sn (by decide +kernel) (by decide +kernel) (by decide +kernel) (by decide +kernel)) (as := []) ea_nil (p, n, ws) rfl fun _ _ => True.intro
  have fl : ∀ {W2 : Wd} {σ : L2.St}, Le W W2 → σ[0]? = some (some v0) → Ev (tMeth (He.ga K "System") "field" (sp_System_field K) [] E (tVar 0) tNil) σ W2 (fld K p) := fun l e => ev_meth (R := sysR K (p, n, ws)) (ev_var e ((sysR K (p, n, ws)).mono l.b h0)) (sn (by decide +kernel) (by decide +kernel) (by decide +kernel) (by decide +kernel)) (as := []) ea_nil (p, n, ws) rfl fun _ _ => True.intro
  refine q_skip (eb_or (a := false) (eb_is (eb_not (eb_B (ev_isiD (K := K) (d := d) (by walk_at "ev")))) rfl) (fun _ => eb_is (eb_test (ev_ne (ev_lenD (K := K) (d := d) (by walk_at "ev")) (ev_call (x := (n, m)) (as := [int n, int m]) (ea_cons (pl (Le.refl _) rfl) (ea_cons (by walk_at "ev") ea_nil)) rfl fun _ _ => ⟨by show 0 ≤ n; omega, hn, hm0, hm1⟩) rfl)) (by rw [hd.1, decide_eq_true rfl]; rfl)) (fun e => nomatch e)) fun W1 l1 => ?_
  refine q_forI (it_items (K := K) (d := d) (ev_var rfl (Rp.mono _ l1.b h2))) (fun i σ' W' => ∃ (o3 o4 : Option V), σ' = [some v0, some (.int m), some v2, o3, o4] ∧ Le W W') (fun W3 l3 => ⟨none, none, rfl, l1.trans l3⟩) ?_ ?_
  · rintro i r x σ' W' W4 N hi s ⟨o3, o4, rfl, lw⟩ l4 hx nx
    obtain ⟨t, ht, rfl, htm⟩ := map_at hi
    refine g_pair hx fun x1 x2 hx1 hx2 => ?_
    obtain ⟨d1, d2, d3⟩ := hd.2.1 t htm
    have hlw := lw.trans l4
    refine q_skip (eb_or (a := false) (eb_is (eb_not (eb_B (ev_call (x := t.1) (as := [prod t.1]) (ea_cons (ev_var rfl hx1) ea_nil) rfl fun _ _ => ⟨d1.le (by omega), d1.len60 (by omega)⟩))) rfl) (fun _ => eb_or (a := false) (eb_is (eb_test (ev_I0 (ev_lenT (K := K) (rs := t.1.map int) (ev_prodT (ev_var rfl hx1))) (by walk_at "ev"))) (by rw [List.length_map]; exact decide_eq_false (by omega))) (fun _ => eb_is (eb_not (eb_B (ev_meth (R := fld K p) (fl hlw rfl) (fld_noprime (by decide +kernel)) (as := [num K t.2]) (ea_cons (ev_var rfl hx2) ea_nil) (p, t.2) rfl fun _ _ => ⟨hpo, d3.1, d3.sz hpo (by omega)⟩))) rfl) (fun e => nomatch e)) (fun e => nomatch e)) fun W5 l5 => ?_
    refine s_skip (eb_and (a := !decide (t.1 = [])) (eb_is (eb_test (ev_neD (ev_var (R := prod t.1) rfl (Rp.mono _ l5.b hx1)) (ev_tup (K := K) (rs := []) ea_nil) (dt_prod (K := K)) (dt_tup (n := 0) (ds := []) True.intro) (by decide) (by decide))) (by
      have := eqv_tupI t.1 []
      rw [List.map_nil] at this
      rw [this])) (fun e => ?_) (fun _ => rfl)) fun W6 l6 => nx _ W6 (l5.trans l6).b ⟨_, _, rfl, (hlw.trans l5).trans l6⟩
    have hne : t.1 ≠ [] := by simpa using e
    refine eb_is (eb_test (ev_I0 (ev_ixLast (K := K) (ev_var rfl (Rp.mono _ l5.b hx1)) (ev_neg ev_ci) hne) (pl (hlw.trans l5) rfl))) ?_
    have := (pd_last d1 hne).2
    rw [last_eq]
    exact decide_eq_false (by omega)
  · rintro σ' W' s ⟨o3, o4, rfl, lw⟩
    exact s_ret (R := bl true) ev_ci fun v W4 l4 hv => k v W4 (lw.trans l4) hv
/-- (p, places, degree, level, level, row, product, worths) -/
abbrev IBe := Int × Int × Int × Nat × Nat × List Tm × List Int × Dct
def BeOk (x : IBe) : Prop := PrF x.1 ∧ 1 ≤ x.2.1 ∧ x.2.1 ≤ 4 ∧ x.2.2.2.1 + x.2.2.2.2.1 ≤ 190 ∧ RowOk x.1 x.2.1 x.2.2.2.1 x.2.2.2.2.2.1 ∧ x.2.2.2.2.2.1.length ≤ 256 ∧ PdOk x.2.1 x.2.2.2.2.2.2.1 ∧ ((x.2.2.2.2.2.2.1.length : Int) + deg x.2.2.2.2.2.1 ≤ x.2.2.1) ∧ DicOk x.1 x.2.1 x.2.2.1 x.2.2.2.2.1 x.2.2.2.2.2.2.2
def sp_worth_beside (K : PySem.W.Frag) : Sp := spG (ι := IBe) (fun x => [dctR K x.2.2.2.2.2.2.2, sumR K (x.1, x.2.2.2.2.2.1), prod x.2.2.2.2.2.2.1]) (fun _ x => BeOk x) fun x => num K (worthB x.1 x.2.2.2.2.2.2.2 x.2.2.2.2.2.1 x.2.2.2.2.2.2.1)
theorem ok_worth_beside (T : Tx K mg) : Cal P w K mg base 4 "worth_beside" (sp_worth_beside K) [] := by
  have h_Sum_terms := ok_Sum_terms (P := P) (w := w) (base := base) T
  have h_Sum_field := ok_Sum_field (P := P) (w := w) (base := base) T
  have h_Field_plus := ok_Field_plus (P := P) (w := w) (base := base) T
  have h_Field_times := ok_Field_times (P := P) (w := w) (base := base) T
  have h_joined_product := ok_joined_product (P := P) (w := w) (base := base) T
  obtain ⟨fd, F⟩ := T.d_worth_beside
  refine ⟨_, fd, ["worths", "one", "product"], [], F.ok sc_worth_beside (spG_len fun _ => rfl) (fun cdv A outer s H vs Q E hr h => ?_), T.g_worth_beside, F.kp, F.bindsN (fun _ _ _ _ _ _ us hl => match us, hl with | [_, _, _], _ => rfl), .nil⟩
  obtain ⟨W, ⟨p, n, m, j, jd, r, q, d⟩, rfl, ha, ⟨hp, hn0, hn, hj, hr1, hz, hq, hql, hd⟩, k⟩ := h
  dsimp only at hp hn0 hn hj hr1 hz hq hql hd
  obtain ⟨v0, v1, v2, rfl, h0, h1, h2⟩ := ha.three
  dsimp only at h0 h1 h2
  refine ⟨_, PSs.nox (pss_cons (ps_set (i := 3) sc_worth_beside.nd rfl (Or.inl rfl) (pe_glob (v := .ref (He.ga K "ZERO")) rfl T.c_ZERO rfl))
    (pss_cons (ps_for PassesOwn.never rfl (pi_list (pe_mt0 h_Sum_terms hr (by decide) (pv 1))) (pg_tup rfl (pgs_cons (pg_name (i := 4) sc_worth_beside.nd rfl (Or.inl rfl)) (pgs_cons (pg_name (i := 5) sc_worth_beside.nd rfl (Or.inl rfl)) pgs_nil))) (pss_one (ps_set (i := 3) sc_worth_beside.nd rfl (Or.inl rfl) (pe_mt h_Field_plus hr (by decide) (pe_mt0 h_Sum_field hr (by decide) (pv 1)) (pa_cons (pv 3) (pa_cons (pe_mt h_Field_times hr (by decide) (pe_mt0 h_Sum_field hr (by decide) (pv 1)) (pa_cons (pv 5) (pa_cons (pe_dget (hu_of hr) (pv 0) (pe_c h_joined_product hr (by decide) rfl (pa_cons (pv 4) (pa_cons (pv 2) pa_nil))) (fun _ _ => rfl)) pa_nil))) pa_nil))))))
    (pss_one (ps_ret (pv 3))))), ?_⟩
  try simp only [cxK, cxW, cxP]
  have hpo := hp.ok
  have hq4 := hq.len (show 0 ≤ n by omega)
  have sf : ∀ {W2 : Wd} {σ : L2.St}, Le W W2 → σ[1]? = some (some v1) → Ev (tMeth (He.ga K "Sum") "field" (sp_Sum_field K) [] E (tVar 1) tNil) σ W2 (fld K p) := fun l e => ev_meth (R := sumR K (p, r)) (ev_var e (Rp.mono _ l.b h1)) (sum_no (by decide +kernel) (by decide +kernel)) (as := []) ea_nil (p, r) rfl fun _ _ => True.intro
  refine q_asg (R := num K (0, 1)) (ev_c (zero_at T)) fun v3 W1 l1 hv3 => ?_
  refine q_forI (it_list (K := K) (rs := r.map (term K)) (ev_meth (R := sumR K (p, r)) (ev_var rfl (Rp.mono _ l1.b h1)) (sum_no (by decide +kernel) (by decide +kernel)) (as := []) ea_nil (p, r) rfl fun _ _ => True.intro)) (fun i σ' W' => ∃ (u : V) (o4 o5 : Option V), σ' = [some v0, some v1, some v2, some u, o4, o5] ∧ Le W W' ∧ (num K (worthB p d (r.take i) q)).p W'.B u) (fun W4 l4 => ⟨v3, none, none, rfl, l1.trans l4, (num K (0, 1)).mono l4.b hv3⟩) ?_ ?_
  · rintro i r0 x σ' W' W4 N hi s ⟨u, o4, o5, rfl, lw, hu⟩ l4 hx nx
    obtain ⟨t, ht, rfl, htm⟩ := map_at hi
    refine g_pair hx fun x1 x2 hx1 hx2 => ?_
    have hlw := lw.trans l4
    have ew : worthB p d (r.take (i + 1)) q = nplus p (worthB p d (r.take i) q) (ntimes p t.2 (getW d (usort (t.1 ++ q)))) := by
      unfold worthB
      rw [List.take_add_one, ht, List.foldl_append]; rfl
    have hg := worthB_gc (r := r.take i) (z := (0, 1)) hpo hd hq (hr1.take i) (fun u hu => join_in hr1 hq hql (List.mem_of_mem_take hu)) (gd_zero (j := j + jd) (c := 0) hpo)
    have hlen : (r.take i).length ≤ 256 := by rw [List.length_take]; omega
    have hjt := join_in hr1 hq hql htm
    obtain ⟨g1, g2⟩ := hd.get hjt.1 hjt.2
    have ht4 := (hr1 t htm).1.len (show 0 ≤ n by omega)
    have hgt := gd_times hpo (hr1 t htm).2 g2
    refine s_asg (R := num K (nplus p (worthB p d (r.take i) q) (ntimes p t.2 (getW d (usort (t.1 ++ q)))))) (ev_meth (R := fld K p) (sf hlw rfl) (fld_noprime (by decide +kernel)) (as := [num K (worthB p d (r.take i) q), num K (ntimes p t.2 (getW d (usort (t.1 ++ q))))]) (ea_cons (ev_var rfl ((num K _).mono l4.b hu)) (ea_cons (ev_meth (R := fld K p) (sf hlw rfl) (fld_noprime (by decide +kernel)) (as := [num K t.2, num K (getW d (usort (t.1 ++ q)))]) (ea_cons (ev_var rfl hx2) (ea_cons (ev_dget (K := K) (d := d) (q := usort (t.1 ++ q)) (ev_var rfl (Rp.mono _ hlw.b h0)) (ev_call (x := (t.1, q)) (as := [prod t.1, prod q]) (ea_cons (ev_var rfl hx1) (ea_cons (ev_var rfl (Rp.mono _ hlw.b h2)) ea_nil)) rfl fun _ _ => by show t.1.length + q.length ≤ 60; omega) g1) ea_nil)) (p, t.2, getW d (usort (t.1 ++ q))) rfl fun _ _ => ⟨hpo, (hr1 t htm).2.1, g2.1, (hr1 t htm).2.sz hpo (by omega), g2.sz hpo (by omega)⟩) ea_nil)) (p, worthB p d (r.take i) q, ntimes p t.2 (getW d (usort (t.1 ++ q)))) rfl fun _ _ => ⟨hpo, hg.1, hgt.1, (hg.up (k := 8) (by omega)).sz hpo (by omega), hgt.sz hpo (by omega)⟩) fun v W6 l6 hv => ?_
    refine nx _ W6 l6.b ⟨_, _, _, rfl, hlw.trans l6, ?_⟩
    rw [ew]; exact hv
  · rintro σ' W' s ⟨u, o4, o5, rfl, lw, hu⟩
    rw [List.length_map, List.take_length] at hu
    exact s_ret (ev_var rfl hu) fun v W4 l4 hv => k v W4 (lw.trans l4) hv
def sp_lets_worths (K : PySem.W.Frag) : Sp := spG (ι := IWo) (fun x => [sysR K (x.1, x.2.1, x.2.2.2.2.1), int x.2.2.2.2.2.1, dctR K x.2.2.2.2.2.2]) (fun _ x => WoOk x) fun x => bl (lwR x.1 x.2.1 x.2.2.2.2.2.1 x.2.2.2.2.2.2 x.2.2.2.2.1)
def lwQ (p n m : Int) (d : Dct) (r : List Tm) (q : List Int) : Bool := !(decide ((q.length : Int) + deg r ≤ m) && !decide (worthB p d r q = (0, 1)))
abbrev pOf (n m : Int) (r : List Tm) : List (List Int) := prodsOf n (if n < m - deg r then n else m - deg r).toNat
theorem lw_no {p n m : Int} {d : Dct} {ws : List (List Tm)} {r : List Tm} {q : List Int} (h1 : r ∈ ws) (h2 : q ∈ pOf n m r) (h3 : lwQ p n m d r q = false) : lwR p n m d ws = false := by
  unfold lwR
  rw [← Bool.not_eq_true, Bool.and_eq_true, List.all_eq_true]
  rintro ⟨_, z⟩
  have := List.all_eq_true.mp (z r h1) q h2
  rw [show (!(decide ((q.length : Int) + deg r ≤ m) && !decide (worthB p d r q = (0, 1)))) = lwQ p n m d r q from rfl, h3] at this
  cases this
theorem lw_yes {p n m : Int} {d : Dct} {ws : List (List Tm)} (h0 : getW d [] = (1, 1)) (h : ∀ r ∈ ws, ∀ q ∈ pOf n m r, lwQ p n m d r q = true) : lwR p n m d ws = true := by
  unfold lwR
  rw [Bool.and_eq_true, List.all_eq_true]
  exact ⟨decide_eq_true h0, fun r hr => List.all_eq_true.mpr fun q hq => h r hr q hq⟩
theorem ok_lets_worths (T : Tx K mg) : Cal P w K mg base 5 "lets_worths" (sp_lets_worths K) [] := by
  have h_look_at_degree := ok_look_at_degree (P := P) (w := w) (base := base) T
  have h_are_numbers := ok_are_numbers (P := P) (w := w) (base := base) T
  have h_System_noughts := ok_System_noughts (P := P) (w := w) (base := base) T
  have h_System_places := ok_System_places (P := P) (w := w) (base := base) T
  have h_Sum_degree := ok_Sum_degree (P := P) (w := w) (base := base) T
  have h_products_of := ok_products_of (P := P) (w := w) (base := base) T
  have h_worth_beside := ok_worth_beside (P := P) (w := w) (base := base) T
  obtain ⟨fd, F⟩ := T.d_lets_worths
  refine ⟨_, fd, ["system", "degree", "thing"], [], F.ok sc_lets_worths (spG_len fun _ => rfl) (fun cdv A outer s H vs Q E hr h => ?_), T.g_lets_worths, F.kp, F.bindsN (fun _ _ _ _ _ _ us hl => match us, hl with | [_, _, _], _ => rfl), .nil⟩
  obtain ⟨W, ⟨p, n, j, jd, ws, m, d⟩, rfl, ha, hwo, k⟩ := h
  have hwo' := hwo
  obtain ⟨hp, hn0, hn, hj, hw, hm0, hm1, hd⟩ := hwo'
  dsimp only at hp hn0 hn hj hw hm0 hm1 hd
  obtain ⟨v0, v1, v2, rfl, h0, rfl, h2⟩ := ha.three
  dsimp only at h0 h2
  refine ⟨_, PSs.nox (pss_cons (ps_expr (pe_c h_look_at_degree hr (by decide) rfl (pa_cons (pv 1) pa_nil)))
    (pss_cons (ps_if (PW.pt (pw_or (pt_not (pt_val (pe_c h_are_numbers hr (by decide) rfl (pa_cons (pv 0) (pa_cons (pv 1) (pa_cons (pv 2) pa_nil)))))) (pw_or1 (pt_cmpR (op_neD hr.units) (pe_dget (hu_of hr) (pv 2) (pe_tup pa_nil) (fun _ _ => rfl)) (pe_glob (v := .ref (He.ga K "ONE")) rfl T.c_ONE rfl) (nomark _))))) (pss_one (ps_ret pe_bl)) pss_nil)
    (pss_cons (ps_for PassesOwn.never rfl (pi_list (pe_mt0 h_System_noughts hr (by decide) (pv 0))) (pg_name (i := 3) sc_lets_worths.nd rfl (Or.inl rfl)) (pss_one (ps_for PassesOwn.never rfl (pi_list (pe_c h_products_of hr (by decide) rfl (pa_cons (pe_mt0 h_System_places hr (by decide) (pv 0)) (pa_cons (pe_op op_sub (pv 1) (pe_mt0 h_Sum_degree hr (by decide) (pv 3))) pa_nil)))) (pg_name (i := 4) sc_lets_worths.nd rfl (Or.inl rfl)) (pss_one (ps_if (PW.pt (pw_and (pt_cmpR op_le (pe_op op_add (pe_callB call_len_seq (by rfl) T.b_len (by decide +kernel) (pa_cons (pv 4) pa_nil)) (pe_mt0 h_Sum_degree hr (by decide) (pv 3))) (pv 1) (nomark _)) (pw_and1 (pt_cmpR (op_neD hr.units) (pe_c h_worth_beside hr (by decide) rfl (pa_cons (pv 2) (pa_cons (pv 3) (pa_cons (pv 4) pa_nil)))) (pe_glob (v := .ref (He.ga K "ZERO")) rfl T.c_ZERO rfl) (nomark _))))) (pss_one (ps_ret pe_bl)) pss_nil)))))
    (pss_one (ps_ret pe_bl))))), ?_⟩
  try simp only [cxK, cxW, cxP]
  have sn : ∀ {m : Str}, ¬ m = "own_field" → ¬ m = "many_places" → ¬ m = "nought_sums" → ¬ m = "upper_sums" → InsP (He.ga K "System") m (sysR K (p, n, ws)) := fun a b c d => sys_no a b c d
  refine q_drop (R := is .non) (ev_call (x := m) (as := [int m]) (ea_cons (by walk_at "ev") ea_nil) rfl fun _ _ => ⟨hm0, hm1⟩) fun _ W1 l1 _ => ?_
  have pd0 : PdOk n [] := ⟨.nil, fun i hi => by simp at hi⟩
  refine q_when (P := Bo (!decide (getW d [] = (1, 1)))) (eb_or (a := false) (eb_is (eb_not (eb_B (ev_call (x := (p, n, j, jd, ws, m, d)) (as := [sysR K (p, n, ws), int m, dctR K d]) (ea_cons (ev_var rfl (Rp.mono _ l1.b h0)) (ea_cons (by walk_at "ev") (ea_cons (ev_var rfl (Rp.mono _ l1.b h2)) ea_nil))) rfl fun _ _ => hwo))) rfl) (fun _ => eb_is (eb_test (ev_neD (RA := num K (getW d [])) (RB := num K (1, 1)) (ev_dget (K := K) (d := d) (q := []) (ev_var rfl (Rp.mono _ l1.b h2)) (ev_tupI (ps := []) ea_nil (by decide)) (hd.get pd0 (by simp; omega)).1) (ev_c (one_at T)) dt_num dt_num (by decide) (by decide))) (by rw [eqv_num])) (fun e => nomatch e)) (fun hh W2 l2 => ?_) (fun hh W2 l2 => ?_)
  · have e : lwR p n m d ws = false := by
      unfold lwR
      rw [show decide (getW d [] = (1, 1)) = false by simpa using hh]; rfl
    exact s_ret (R := bl (lwR p n m d ws)) (ev_is ev_ci (by rw [e])) fun v W3 l3 hv => k v W3 ((l1.trans l2).trans l3) hv
  have h01 : getW d [] = (1, 1) := by simpa using hh
  have l12 := l1.trans l2
  have dg : ∀ {W2 : Wd} {σ : L2.St} {x : V} {r : List Tm}, σ[3]? = some (some x) → (sumR K (p, r)).p W2.B x → r.length ≤ 256 → Ev (tMeth (He.ga K "Sum") "degree" (sp_Sum_degree K) [] E (tVar 3) tNil) σ W2 (int (deg r)) := fun {W2 σ x r} e hx hz => ev_meth (R := sumR K (p, r)) (ev_var e hx) (sum_no (by decide +kernel) (by decide +kernel)) (as := []) ea_nil (p, r) rfl fun _ _ => hz
  refine q_forI (it_list (K := K) (rs := ws.map fun r => sumR K (p, r)) (ev_meth (R := sysR K (p, n, ws)) (ev_var rfl (Rp.mono _ l12.b h0)) (sn (by decide +kernel) (by decide +kernel) (by decide +kernel) (by decide +kernel)) (as := []) ea_nil (p, n, ws) rfl fun _ _ => True.intro)) (fun i σ' W' => ∃ (o3 o4 : Option V), σ' = [some v0, some (.int m), some v2, o3, o4] ∧ Le W W' ∧ ∀ r ∈ ws.take i, ∀ q ∈ pOf n m r, lwQ p n m d r q = true) (fun W3 l3 => ⟨none, none, rfl, l12.trans l3, fun x hx => by simp at hx⟩) ?_ ?_
  · rintro i r0 x σ' W' W4 N hi s ⟨o3, o4, rfl, lw, hu⟩ l4 hx nx
    obtain ⟨r, hri, rfl, hrm⟩ := map_at hi
    obtain ⟨g1, g2⟩ := hw.2 r hrm
    have hlw := lw.trans l4
    have hdn := deg_le g1 (show 0 ≤ n by omega)
    have hdn0 := deg_nn (r := r)
    refine g_name ?_
    refine s_forI (it_list (K := K) (rs := (pOf n m r).map prod) (ev_call (x := (n, m - deg r)) (as := [int n, int (m - deg r)]) (ea_cons (ev_meth (R := sysR K (p, n, ws)) (ev_var rfl (Rp.mono _ hlw.b h0)) (sn (by decide +kernel) (by decide +kernel) (by decide +kernel) (by decide +kernel)) (as := []) ea_nil (p, n, ws) rfl fun _ _ => True.intro) (ea_cons (ev_I0 (by walk_at "ev") (dg rfl hx g2)) ea_nil)) rfl fun _ _ => ⟨by show 0 ≤ n; omega, hn, by show -300 ≤ m - deg r; omega, by show m - deg r ≤ 300; omega⟩)) (fun i2 σ' W' => ∃ (o4 : Option V), σ' = [some v0, some (.int m), some v2, some x, o4] ∧ Le W4 W' ∧ ∀ q ∈ (pOf n m r).take i2, lwQ p n m d r q = true) (fun W3 l3 => ⟨o4, rfl, l3, fun x hx => by simp at hx⟩) ?_ ?_
    · rintro i2 r1 y σ' W5 W6 N2 hi2 s5 ⟨o4, rfl, lw5, hu2⟩ l6 hy nx2
      obtain ⟨q, hqi, rfl, hqm⟩ := map_at hi2
      have hl6 := lw5.trans l6
      have hqp := (mem_prodsOf.mp hqm).1
      refine g_name ?_
      refine s_when (P := Bo (decide ((q.length : Int) + deg r ≤ m) && !decide (worthB p d r q = (0, 1)))) (eb_and (a := decide ((q.length : Int) + deg r ≤ m)) (eb_is (eb_test (ev_I0 (ev_I0 (ev_lenT (K := K) (rs := q.map int) (ev_prodT (ev_var rfl hy))) (dg rfl (Rp.mono _ hl6.b hx) g2)) (by walk_at "ev"))) (by rw [List.length_map])) (fun e => eb_is (eb_test (ev_neD (RA := num K (worthB p d r q)) (RB := num K (0, 1)) (ev_call (x := (p, n, m, j, jd, r, q, d)) (as := [dctR K d, sumR K (p, r), prod q]) (ea_cons (ev_var rfl (Rp.mono _ (hlw.trans hl6).b h2)) (ea_cons (ev_var rfl (Rp.mono _ hl6.b hx)) (ea_cons (ev_var rfl hy) ea_nil))) rfl fun _ _ => ⟨hp, hn0, hn, hj, g1, g2, hqp, of_decide_eq_true e, hd⟩) (ev_c (zero_at T)) dt_num dt_num (by decide) (by decide))) (by rw [eqv_num, e]; rfl)) (fun e => by rw [e]; rfl)) (fun hh W7 l7 => ?_) (fun hh W7 l7 => ?_)
      · refine s_ret (R := bl (lwR p n m d ws)) (ev_is ev_ci (by rw [lw_no hrm hqm (by unfold lwQ; rw [← hh]; rfl)])) fun v W8 l8 hv => k v W8 (((hlw.trans hl6).trans l7).trans l8) hv
      · refine nx2 _ W7 l7.b ⟨_, rfl, hl6.trans l7, fun z hz => ?_⟩
        rcases mem_takeS hqi hz with hz | rfl
        · exact hu2 z hz
        · unfold lwQ; rw [← hh]; rfl
    · rintro σ' W5 s5 ⟨o4, rfl, lw5, hu2⟩
      rw [List.length_map, List.take_length] at hu2
      refine nx _ W5 s5 ⟨_, _, rfl, hlw.trans lw5, fun z hz => ?_⟩
      rcases mem_takeS hri hz with hz | rfl
      · exact hu z hz
      · exact hu2
  · rintro σ' W' s ⟨o3, o4, rfl, lw, hu⟩
    rw [List.length_map, List.take_length] at hu
    exact s_ret (R := bl (lwR p n m d ws)) (ev_is ev_ci (by rw [lw_yes h01 hu])) fun v W4 l4 hv => k v W4 (lw.trans l4) hv
end
end Fs

set_option Elab.async false
set_option linter.all false
set_option maxRecDepth 100000
set_option maxHeartbeats 2000000
namespace Fs
open PySem PySem.Spec PyProof.Rows L2 C8
theorem putD_new {d : Dct} {q : List Int} {n : Num} (h : q ∉ d.map (·.1)) : putD d q n = d ++ [(q, n)] := by
  unfold putD
  rw [if_neg]
  intro e
  rw [List.any_eq_true] at e
  obtain ⟨t, ht, e⟩ := e
  exact h (List.mem_map.mpr ⟨t, ht, of_decide_eq_true e⟩)
theorem merge_app : ∀ (ts d : Dct), ((d ++ ts).map (·.1)).Nodup → mergeD d ts = d ++ ts
  | [], d, _ => by simp [mergeD]
  | t :: ts, d, h => by
    have hn : t.1 ∉ d.map (·.1) := by
      rw [List.map_append, List.map_cons, List.nodup_append] at h
      intro hm
      exact h.2.2 _ hm _ (List.mem_cons_self ..) rfl
    show mergeD (putD d t.1 t.2) ts = _
    rw [putD_new hn, merge_app ts _ (by simpa using h)]
    simp
theorem merge_id {ts : Dct} (h : (ts.map (·.1)).Nodup) : mergeD [] ts = ts := by
  rw [merge_app ts [] (by simpa using h)]; simp
def kOf (n m : Int) : Nat := (if n < m then n else m).toNat
def fillD (fs : List Int) (qs : List (List Int)) : Dct := qs.map fun q => (q, if hasAll fs q = true then (1, 1) else (0, 1))
theorem prods_small : ∀ n : Fin 5, ∀ k : Fin 5, (prodsOf (n.val : Int) k.val).Nodup ∧ ((prodsOf (n.val : Int) k.val).length : Int) = (pmI (n.val : Int) (k.val + 1)).1 ∧ (prodsOf (n.val : Int) k.val).length ≤ 16 := by decide
theorem kOf_le {n m : Int} (h0 : 0 ≤ n) (h1 : n ≤ 4) (m0 : 0 ≤ m) : kOf n m ≤ 4 := by unfold kOf; split <;> omega
theorem prods_at {n m : Int} (h0 : 0 ≤ n) (h1 : n ≤ 4) (m0 : 0 ≤ m) : (prodsOf n (kOf n m)).Nodup ∧ ((prodsOf n (kOf n m)).length : Int) = pm n m ∧ (prodsOf n (kOf n m)).length ≤ 16 := by
  obtain ⟨a, ha⟩ := small_n h0 h1
  have hk := kOf_le h0 h1 m0
  have h := prods_small a ⟨kOf n m, by omega⟩
  rw [← ha] at h
  refine ⟨h.1, ?_, h.2.2⟩
  rw [h.2.1]
  unfold pm
  have e : ((if n < m then n else m) + 1).toNat = kOf n m + 1 := by unfold kOf; split <;> omega
  rw [e]
local macro_rules | `(tactic| walk_at "up") => `(tactic| first
  | assumption
  | ((refine Rp.mono _ (by assumption : Same _ _) ?_); walk_at "up")
  | ((refine Rp.mono _ (Le.b (by assumption)) ?_); walk_at "up"))
local macro_rules | `(tactic| walk_at "ev") => `(tactic| first
  | ((with_reducible refine' ev_var ?h1 ?h2); (case h1 => rfl); (case h2 => walk_at "up"))
  | ((with_reducible refine' ev_vi ?h1); (case h1 => rfl))
  | with_reducible exact ev_ci
  | ((with_reducible refine' ev_get0 ?ea); (case ea => walk_at "ev"))
  | ((with_reducible refine' ev_get1 ?ea); (case ea => walk_at "ev"))
  | ((with_reducible refine' ev_I0 ?ea ?eb); (case ea => walk_at "ev"); (case eb => walk_at "ev"))
  | ((with_reducible refine' ev_notV ?ea); (case ea => walk_at "ev"))
  | ((with_reducible refine' eb_test ?ea); (case ea => walk_at "ev"))
  | ((with_reducible refine' eb_B ?ea); (case ea => walk_at "ev"))
  | ((with_reducible refine' eb_not ?ea); (case ea => walk_at "ev"))
  | ((with_reducible refine' ev_eq ?ea ?eb ?ec); (case ea => walk_at "ev"); (case eb => walk_at "ev"); (case ec => rfl))
  | ((with_reducible refine' ev_ne ?ea ?eb ?ec); (case ea => walk_at "ev"); (case eb => walk_at "ev"); (case ec => rfl))
  | ((with_reducible refine' ev_chainI ?ea ?eb ?ec); (case ea => walk_at "ev"); (case eb => walk_at "ev"); (case ec => walk_at "ev"))
  | with_reducible exact ea_nil
  | ((with_reducible refine' ea_cons ?ea ?eb); (case ea => walk_at "ev"); (case eb => walk_at "ev")))
section
variable {P : Program} {w : World} {K : PySem.W.Frag} {mg : Str → Option Value} {base : Heap}
def sp_cut (K : PySem.W.Frag) : Sp := spG (ι := Dct × Int) (fun x => [dctR K x.1, int x.2]) (fun _ x => (x.1.map (·.1)).Nodup ∧ x.1.length ≤ 1000 ∧ 0 ≤ x.2 ∧ x.2 ≤ 300) fun x => dctR K (x.1.filter fun t => decide ((t.1.length : Int) ≤ x.2))
theorem ok_cut (T : Tx K mg) : Cal P w K mg base 3 "cut" (sp_cut K) [] := by
  have h_look_at_degree := ok_look_at_degree (P := P) (w := w) (base := base) T
  obtain ⟨fd, F⟩ := T.d_cut
  refine ⟨_, fd, ["worths", "degree"], [], F.ok sc_cut (spG_len fun _ => rfl) (fun cdv A outer s H vs Q E hr h => ?_), T.g_cut, F.kp, F.bindsN (fun _ _ _ _ _ _ us hl => match us, hl with | [_, _], _ => rfl), .nil⟩
  obtain ⟨W, ⟨d, m⟩, rfl, ha, ⟨hn, hz, hm0, hm1⟩, k⟩ := h
  dsimp only at hn hz hm0 hm1
  obtain ⟨v0, v1, rfl, h0, rfl⟩ := ha.two
  dsimp only at h0
  refine ⟨_, PSs.nox (pss_cons (ps_expr (pe_c h_look_at_degree hr (by decide) rfl (pa_cons (pv 1) pa_nil)))
    (pss_one (ps_ret (pe_frz (pe_callTy (call_dictPT (room_u3 hr) rfl) (by rfl) T.b_dict (by decide +kernel) (pa_cons (pe_lc (own := [("product", 2), ("number", 3)]) rfl sc_cut.nd (pi_itemsT (pv 0)) (blkOk_by (N := ["worths", "degree", "product", "number"]) (sc := defScope s_cut) (by decide +kernel)) (fun _ _ _ _ _ => (pg_tup (n := 2) rfl (pgs_cons (pg_name (i := 2) sc_cut.nd rfl (Or.inl rfl)) (pgs_cons (pg_name (i := 3) sc_cut.nd rfl (Or.inl rfl)) pgs_nil)) : PG _ _ (gTup K 2 _))) (fun _ _ _ _ _ => (pts_one (pt_cmpR op_le (pe_callB (call_len_seq : CallR _ _ (rLenQ K)) (by rfl) T.b_len (by decide +kernel) (pa_cons (pv 2) pa_nil)) (pv 1) (nomark _)))) (fun _ _ _ _ _ => (pe_tup (pa_cons (pv 2) (pa_cons (pv 3) pa_nil))))) pa_nil)))))), ?_⟩
  try simp only [cxK, cxW, cxP]
  refine q_drop (R := is .non) (ev_call (x := m) (as := [int m]) (ea_cons (by walk_at "ev") ea_nil) rfl fun _ _ => ⟨hm0, hm1⟩) fun _ W1 l1 _ => ?_
  have hnf : ((d.filter fun t => decide ((t.1.length : Int) ≤ m)).map (·.1)).Nodup := hn.sublist (List.Sublist.map _ List.filter_sublist)
  have hzf : (d.filter fun t => decide ((t.1.length : Int) ≤ m)).length ≤ d.length := List.length_filter_le ..
  refine s_ret (R := dctR K (mergeD [] (d.filter fun t => decide ((t.1.length : Int) ≤ m)))) (ev_dictPF (K := K) (ts := d.filter fun t => decide ((t.1.length : Int) ≤ m)) ?_ (Nat.le_trans hzf (by omega))) fun v W2 l2 hv => k v W2 (l1.trans l2) (by rw [merge_id hnf] at hv; exact hv)
  refine ev_filI (F := term K) (G := term K) (xs := d) (p := fun t => decide ((t.1.length : Int) ≤ m)) (it_items (K := K) (d := d) (ev_var rfl (Rp.mono _ l1.b h0))) (by omega) ?_
  intro t v W2 hm l2 hv Q q
  refine g_pair hv fun x1 x2 hx1 hx2 => q _ rfl (eb_is (eb_test (ev_I0 (ev_lenT (K := K) (rs := t.1.map int) (ev_prodT (ev_var rfl hx1))) (by walk_at "ev"))) (by rw [List.length_map])) fun _ => ?_
  exact ev_tup (ea_cons (ev_var rfl hx1) (ea_cons (ev_var rfl hx2) ea_nil))
/-- (p, places, level, rows, filling, degree) -/
abbrev IWf := Int × Int × Nat × List (List Tm) × List Int × Int
def sp_worths_of (K : PySem.W.Frag) : Sp := spG (ι := IWf) (fun x => [sysR K (x.1, x.2.1, x.2.2.2.1), int x.2.2.2.2.2, prod x.2.2.2.2.1]) (fun _ x => GrOk (x.1, x.2.1, x.2.2.1, x.2.2.2.1, x.2.2.2.2.1) ∧ x.2.1 ≤ 4 ∧ 0 ≤ x.2.2.2.2.2 ∧ x.2.2.2.2.2 ≤ 300) fun x => dctR K (fillD x.2.2.2.2.1 (prodsOf x.2.1 (kOf x.2.1 x.2.2.2.2.2)))
theorem fill_keys {fs : List Int} {qs : List (List Int)} : (fillD fs qs).map (·.1) = qs := by
  unfold fillD
  rw [List.map_map]
  exact List.map_id' qs
theorem ok_worths_of (T : Tx K mg) : Cal P w K mg base 7 "worths_of" (sp_worths_of K) [] := by
  have h_look_at_degree := ok_look_at_degree (P := P) (w := w) (base := base) T
  have h_products_many := ok_products_many (P := P) (w := w) (base := base) T
  have h_products_of := ok_products_of (P := P) (w := w) (base := base) T
  have h_System_places := ok_System_places (P := P) (w := w) (base := base) T
  have h_is_filling := ok_is_filling_d (P := P) (w := w) (base := base) T
  obtain ⟨fd, F⟩ := T.d_worths_of
  refine ⟨_, fd, ["system", "degree", "filling"], [], F.ok sc_worths_of (spG_len fun _ => rfl) (fun cdv A outer s H vs Q E hr h => ?_), T.g_worths_of, F.kp, F.bindsN (fun _ _ _ _ _ _ us hl => match us, hl with | [_, _, _], _ => rfl), .nil⟩
  obtain ⟨W, ⟨p, n, j, ws, fs, m⟩, rfl, ha, ⟨hg, hn4, hm0, hm1⟩, k⟩ := h
  have hg' := hg
  obtain ⟨hp, hn0, hj, hw, hnl, hz, hf, _⟩ := hg'
  dsimp only at hp hn0 hj hw hnl hz hf hn4 hm0 hm1
  obtain ⟨v0, v1, v2, rfl, h0, rfl, h2⟩ := ha.three
  dsimp only at h0 h2
  refine ⟨_, PSs.nox (pss_cons (ps_expr (pe_c h_look_at_degree hr (by decide) rfl (pa_cons (pv 1) pa_nil)))
    (pss_cons (ps_if (pt_not (pt_val (pe_c h_is_filling hr (by decide) rfl (pa_cons (pv 0) (pa_cons (pv 2) pa_nil))))) (pss_one ps_never) pss_nil)
    (pss_cons (ps_if (pt_cmpR op_gt (pe_c h_products_many hr (by decide) rfl (pa_cons (pe_mt0 h_System_places hr (by decide) (pv 0)) (pa_cons (pv 1) pa_nil))) (pe_gc rfl T.c_MOST_WRITTEN) (nomark _)) (pss_one ps_never) pss_nil)
    (pss_cons (ps_set (i := 3) sc_worths_of.nd rfl (Or.inl rfl) pe_dnewT)
    (pss_cons (ps_for PassesOwn.never rfl (pi_list (pe_c h_products_of hr (by decide) rfl (pa_cons (pe_mt0 h_System_places hr (by decide) (pv 0)) (pa_cons (pv 1) pa_nil)))) (pg_name (i := 4) sc_worths_of.nd rfl (Or.inl rfl)) (pss_one (ps_dput (hu_of hr) (pv 3) (pv 4) (pe_ix ix_list (pe_lst (pa_cons (pe_glob (v := .ref (He.ga K "ZERO")) rfl T.c_ZERO rfl) (pa_cons (pe_glob (v := .ref (He.ga K "ONE")) rfl T.c_ONE rfl) pa_nil))) (pe_callTy call_int1 (by rfl) T.b_int (by decide +kernel) (pa_cons (pe_callB (cr_all rfl) (by rfl) T.b_all (by decide +kernel) (pa_cons (pe_lc (own := [("place", 5)]) rfl sc_worths_of.nd (pi_tup (pv 4)) (blkOk_by (N := ["system", "degree", "filling", "found", "product", "place"]) (sc := defScope s_worths_of) (by decide +kernel)) (fun _ _ _ _ _ => (pg_name (i := 5) sc_worths_of.nd rfl (Or.inl rfl))) (fun _ _ _ _ _ => pts_nil) (fun _ _ _ _ _ => (pe_cmpR op_eq (pe_ix (ix_tup : IxR _ (rIxT K)) (pv 2) (pv 5) (fun _ _ => rfl)) pe_int (nomark _)))) pa_nil)) pa_nil)) (fun _ _ => rfl)) rfl)))
    (pss_one (ps_frz (ps_ret (pv 3))))))))), ?_⟩
  try simp only [cxK, cxW, cxP]
  obtain ⟨hqn, hql, hqz⟩ := prods_at hn0 hn4 hm0
  have sn : ∀ {m : Str}, ¬ m = "own_field" → ¬ m = "many_places" → ¬ m = "nought_sums" → ¬ m = "upper_sums" → InsP (He.ga K "System") m (sysR K (p, n, ws)) := fun a b c d => sys_no a b c d
  have pl : ∀ {W2 : Wd} {σ : L2.St}, Le W W2 → σ[0]? = some (some v0) → Ev (tMeth (He.ga K "System") "places" (sp_System_places K) [] E (tVar 0) tNil) σ W2 (int n) := fun l e => ev_meth (R := sysR K (p, n, ws)) (ev_var e ((sysR K (p, n, ws)).mono l.b h0)) (sn (by decide +kernel) (by decide +kernel) (by decide +kernel) (by decide +kernel)) (as := []) ea_nil (p, n, ws) rfl fun _ _ => True.intro
  refine q_drop (R := is .non) (ev_call (x := m) (as := [int m]) (ea_cons (by walk_at "ev") ea_nil) rfl fun _ _ => ⟨hm0, hm1⟩) fun _ W1 l1 _ => ?_
  refine q_skip (eb_is (eb_not (eb_B (ev_callD (dvs := [.bl false]) (x := (p, n, j, ws, fs)) (as := [sysR K (p, n, ws), prod fs]) (ea_cons (ev_var rfl (Rp.mono _ l1.b h0)) (ea_cons (ev_var rfl (Rp.mono _ l1.b h2)) ea_nil)) rfl fun _ _ => hg))) rfl) fun W2 l2 => ?_
  have l12 := l1.trans l2
  refine q_skip (eb_is (eb_test (ev_I0 (ev_call (x := (n, m)) (as := [int n, int m]) (ea_cons (pl l12 rfl) (ea_cons (by walk_at "ev") ea_nil)) rfl fun _ _ => ⟨hn0, hn4, hm0, hm1⟩) ev_ci)) (decide_eq_false (by show ¬ (pm n m > 20000); rw [← hql]; omega))) fun W3 l3 => ?_
  have l13 := l12.trans l3
  refine q_newD (K := K) fun l W4 s4 l4 fr L4 => ?_
  have l14 := l13.trans l4
  have frW : Fre W l := l13.free fr
  refine q_forI (it_list (K := K) (rs := (prodsOf n (kOf n m)).map prod) (ev_call (x := (n, m)) (as := [int n, int m]) (ea_cons (pl l14 rfl) (ea_cons (by walk_at "ev") ea_nil)) rfl fun _ _ => ⟨hn0, hn4, by show -300 ≤ m; omega, hm1⟩)) (fun i σ' W' => ∃ (o4 o5 : Option V), σ' = [some v0, some (.int m), some v2, some (.ref l), o4, o5] ∧ Le W W' ∧ LocD K W' l (fillD fs ((prodsOf n (kOf n m)).take i))) (fun W3 l3 => ⟨none, none, rfl, l14.trans l3, L4.le l3⟩) ?_ ?_
  · rintro i r x σ' W' W5 N hi s ⟨o4, o5, rfl, lw, L⟩ l5 hx nx
    obtain ⟨q, hqi, rfl, hqm⟩ := map_at hi
    have hlw := lw.trans l5
    have hqp := (mem_prodsOf.mp hqm).1
    have hq60 := hqp.len60 (show n ≤ 60 by omega)
    refine g_name ?_
    refine s_dput (K := K) (d := fillD fs ((prodsOf n (kOf n m)).take i)) (q := q) (n := if hasAll fs q = true then (1, 1) else (0, 1)) rfl (L.le l5) ?_ (ev_var rfl hx) (by unfold fillD; rw [List.length_map, List.length_take]; omega) fun W6 u6 L6 => ?_
    · refine ev_ixL (K := K) (rs := [num K (0, 1), num K (1, 1)]) (i := if hasAll fs q = true then 1 else 0) (j := if hasAll fs q = true then 1 else 0) (ev_lst (K := K) (ea_cons (ev_c (zero_at T)) (ea_cons (ev_c (one_at T)) ea_nil))) ?_ ?_ ?_
      · refine ev_intB (ev_all (K := K) (bs := q.map fun i => decide (at_ fs i = 1)) ?_)
        rw [List.map_map]
        refine ev_mapI (F := int) (xs := q) (it_prod (K := K) (ev_var rfl hx)) (by omega) ?_
        intro i v W6 hi l6 hv Q q2
        have hb := hqp.2 i hi
        exact g_name (q2 _ rfl (ev_is (ev_eq (ev_ixP (K := K) (ev_var rfl (Rp.mono _ (hlw.trans l6).b h2)) (ev_var rfl hv) hb.1 (by omega)) ev_ci rfl) (by simp)))
      · cases hasAll fs q <;> rfl
      · cases hasAll fs q <;> rfl
    · refine nx _ W6 u6.b ⟨_, _, rfl, u6.le hlw frW, ?_⟩
      have e : fillD fs ((prodsOf n (kOf n m)).take (i + 1)) = putD (fillD fs ((prodsOf n (kOf n m)).take i)) q (if hasAll fs q = true then (1, 1) else (0, 1)) := by
        rw [putD_new, List.take_add_one, hqi]
        · unfold fillD; rw [List.map_append]; rfl
        · rw [fill_keys]
          have h2 : ((prodsOf n (kOf n m)).take (i + 1)).Nodup := hqn.sublist (List.take_sublist ..)
          rw [List.take_add_one, hqi, List.nodup_append] at h2
          exact fun hm => h2.2.2 _ hm _ (by simp) rfl
      rw [e]; exact L6
  · rintro σ' W' s ⟨o4, o5, rfl, lw, L⟩
    rw [List.length_map, List.take_length] at L
    exact s_frz (K := K) L fun W5 u5 h5 => s_ret (ev_var rfl h5) fun v W6 l6 hv => k v W6 ((u5.le lw frW).trans l6) hv
end
end Fs

set_option Elab.async false
set_option linter.all false
set_option maxRecDepth 100000
set_option maxHeartbeats 2000000
namespace Fs
open PySem PySem.Spec PyProof.Rows L2 C8
section
variable {K : PySem.W.Frag} {σ : L2.St} {W W' W0 : Wd} {ta tb te : TE} {rs ss : List Rp} {ps : List Int} {l a : Addr} {D : Ends} {tz tu : TS} {t : TT} {R RA : Rp} {Pa Pb Pc : Int → Prop}
theorem ev_IA {C : Int → Int → Prop} {g : Int → Int → Int} (ha : Ev ta σ W (anyR Pa int)) (hb : Ev tb σ W (anyR Pb int)) (h : ∀ i j, Pa i → Pb j → C i j ∧ Pc (g i j)) : Ev (tOp (rI C fun i j => .int (g i j)) ta tb) σ W (anyR Pc int) :=
  ev_op ha hb fun x y W1 _ ⟨i, hi, ex⟩ ⟨j, hj, ey⟩ W2 _ Q q => ⟨i, j, ex, ey, (h i j hi hj).1, q _ W2 (Le.refl _) ⟨_, (h i j hi hj).2, rfl⟩⟩
theorem ev_I0A {g : Int → Int → Int} (ha : Ev ta σ W (anyR Pa int)) (hb : Ev tb σ W (anyR Pb int)) (h : ∀ i j, Pa i → Pb j → Pc (g i j)) : Ev (tOp (rI0 fun i j => .int (g i j)) ta tb) σ W (anyR Pc int) :=
  ev_op ha hb fun x y W1 _ ⟨i, hi, ex⟩ ⟨j, hj, ey⟩ W2 _ Q q => ⟨i, j, ex, ey, q _ W2 (Le.refl _) ⟨_, h i j hi hj, rfl⟩⟩
theorem ev_cmpA {g : Int → Int → Bool} {P : Bool → Prop} (ha : Ev ta σ W (anyR Pa int)) (hb : Ev tb σ W (anyR Pb int)) (h : ∀ i j, Pa i → Pb j → P (g i j)) : Ev (tOp (rI0 fun i j => .bl (g i j)) ta tb) σ W (anyR P bl) :=
  ev_op ha hb fun x y W1 _ ⟨i, hi, ex⟩ ⟨j, hj, ey⟩ W2 _ Q q => ⟨i, j, ex, ey, q _ W2 (Le.refl _) ⟨_, h i j hi hj, rfl⟩⟩
theorem ev_eqA {j : Int} {P : Bool → Prop} (ha : Ev ta σ W (anyR Pa int)) (hb : Ev tb σ W (int j)) (h : ∀ i, Pa i → P (decide (i = j))) : Ev (tOp rEq ta tb) σ W (anyR P bl) :=
  ev_op ha hb fun x y W1 _ ⟨i, hi, ex⟩ ey W2 _ Q q => by
    rw [show x = V.int i from ex, show y = V.int j from ey]
    refine ⟨rfl, q _ W2 (Le.refl _) ⟨_, h i hi, ?_⟩⟩
    show V.bl (decide (V.int i = V.int j)) = V.bl (decide (i = j))
    rw [show (decide (V.int i = V.int j)) = decide (i = j) by simp]
theorem ev_anyI {i : Int} (h : Ev ta σ W (int i)) (p : Pa i) : Ev ta σ W (anyR Pa int) := ev_any h p
theorem ev_pow {i j : Int} (ha : Ev ta σ W (int i)) (hb : Ev tb σ W (int j)) (hc : CPow i j) : Ev (tOp (rI CPow fun i j => .int (i ^ j.toNat)) ta tb) σ W (int (i ^ j.toNat)) := ev_I ha hb hc
theorem ev_ixA {n : Int} (ha : Ev ta σ W (lstR K (ps.map int))) (hb : Ev tb σ W (anyR (fun i => 0 ≤ i ∧ i < n) int)) (hn : n ≤ ps.length) : Ev (tOp (rIxL K) ta tb) σ W (anyR (· ∈ ps) int) := fun W1 l Q q =>
  ha W1 l _ fun x W2 l2 hx => hb W2 (l.trans l2) _ fun y W3 l3 ⟨i, hi, ey⟩ => by
    have h1 : Ev (tC x) σ W3 (lstR K (ps.map int)) := ev_c (Rp.mono _ l3.b hx)
    have h2 : Ev (tC y) σ W3 (int i) := ev_c ey
    exact ev_ixI h1 h2 hi.1 (by omega) W3 (Le.refl _) Q fun v W4 l4 hv => q v W4 ((l2.trans l3).trans l4) ⟨_, at_mem hi.1 (by omega), hv⟩
/-- reading the room -/
theorem ev_room0 {i : Nat} (h : σ[i]? = some (some (.ref a))) (hr : W.r = some a) : Ev (tOp (rIxL K) (tVar i) (tC (.int 0))) σ W (anyR (fun x => 0 ≤ x) int) := fun W1 l Q q => by
  obtain ⟨_, x, y, h1, h2, h3, h4⟩ := W1.room a (l.r.trans hr)
  exact ⟨_, h, a, [.int x, .int y], 0, .int x, rfl, rfl, lsq h1, rfl, q _ W1 (Le.refl _) ⟨x, h2, rfl⟩⟩
theorem ev_room1 {i : Nat} (h : σ[i]? = some (some (.ref a))) (hr : W.r = some a) : Ev (tOp (rIxL K) (tVar i) (tC (.int 1))) σ W (anyR (fun y => 0 ≤ y ∧ y < 2147483647) int) := fun W1 l Q q => by
  obtain ⟨_, x, y, h1, h2, h3, h4⟩ := W1.room a (l.r.trans hr)
  exact ⟨_, h, a, [.int x, .int y], 1, .int y, rfl, rfl, lsq h1, rfl, q _ W1 (Le.refl _) ⟨y, ⟨h3, h4⟩, rfl⟩⟩
/-- drawing from the room -/
theorem s_room0 {i : Nat} (hi : σ[i]? = some (some (.ref a))) (hr : W.r = some a) (h : Ev te σ W (anyR (fun x => 0 ≤ x) int)) (k : ∀ W1, Le W W1 → D.nx σ W1.H) : tAsg te (gSub (tVar i) (tC (.int 0)) rSetL) D σ W.H := h W (Le.refl _) _ fun v W1 l1 ⟨z, hz, e⟩ => by
  obtain ⟨_, x, y, h1, h2, h3, h4⟩ := W1.room a (l1.r.trans hr)
  rw [show v = V.int z from e]
  refine ⟨_, hi, a, [.int x, .int y], 0, 0, rfl, rfl, h1, rfl, ?_⟩
  exact k (W1.drw a z y (l1.r.trans hr) hz h3 h4) (l1.trans (W1.drw_le (l1.r.trans hr) hz h3 h4))
theorem q_room0 {i : Nat} (hi : σ[i]? = some (some (.ref a))) (hr : W.r = some a) (h : Ev te σ W (anyR (fun x => 0 ≤ x) int)) (k : ∀ W1, Le W W1 → tz D σ W1.H) : tSeq (tAsg te (gSub (tVar i) (tC (.int 0)) rSetL)) tz D σ W.H := s_room0 (D := { D with nx := tz D }) hi hr h k
theorem s_room1 {i : Nat} (hi : σ[i]? = some (some (.ref a))) (hr : W.r = some a) (h : Ev te σ W (anyR (fun y => 0 ≤ y ∧ y < 2147483647) int)) (k : ∀ W1, Le W W1 → D.nx σ W1.H) : tAsg te (gSub (tVar i) (tC (.int 1)) rSetL) D σ W.H := h W (Le.refl _) _ fun v W1 l1 ⟨z, hz, e⟩ => by
  obtain ⟨_, x, y, h1, h2, h3, h4⟩ := W1.room a (l1.r.trans hr)
  rw [show v = V.int z from e]
  refine ⟨_, hi, a, [.int x, .int y], 1, 1, rfl, rfl, h1, rfl, ?_⟩
  exact k (W1.drw a x z (l1.r.trans hr) h2 hz.1 hz.2) (l1.trans (W1.drw_le (l1.r.trans hr) h2 hz.1 hz.2))
theorem q_room1 {i : Nat} (hi : σ[i]? = some (some (.ref a))) (hr : W.r = some a) (h : Ev te σ W (anyR (fun y => 0 ≤ y ∧ y < 2147483647) int)) (k : ∀ W1, Le W W1 → tz D σ W1.H) : tSeq (tAsg te (gSub (tVar i) (tC (.int 1)) rSetL)) tz D σ W.H := s_room1 (D := { D with nx := tz D }) hi hr h k
/-- if t: u, both go on from the same -/
theorem q_whenI {P : Bool → Prop} (h : EvB t σ W P) (Pv : L2.St → Wd → Prop) (k : ∀ σ3 W3, Pv σ3 W3 → tz D σ3 W3.H) (h1 : P true → ∀ W1, Le W W1 → (∀ σ3 W3, Pv σ3 W3 → tz D σ3 W3.H) → tu { D with nx := tz D } σ W1.H) (h2 : P false → ∀ W1, Le W W1 → Pv σ W1) : tSeq (tIfS t tu tNext) tz D σ W.H :=
  q_when h (fun p W1 l => h1 p W1 l k) fun p W1 l => k _ _ (h2 p W1 l)
theorem s_retNew {t : TA} (h : EvA t σ W rs) (hl : rs.length ≤ 100000) (k : ∀ l W1, Le W W1 → Fre W l → LocL W1 l rs → D.rt (.ref l) W1.H) : tRet (tLst t) D σ W.H :=
  h W (Le.refl _) _ fun vs W2 l2 hvs => ⟨by rw [hvs.len]; exact Nat.le_trans hl (by decide), fun p hp => k p (W2.loc p (.lst vs) hp) (l2.trans (W2.loc_le hp)) (l2.free (Wd.fre hp)) ⟨W2.bfree hp, (Wd.fre hp).nr, vs, upd_same, hvs⟩⟩
/-- the script -/
def scr (K : PySem.W.Frag) (xs : List Int) : Rp := ⟨fun H v => ∃ a, v = .ref a ∧ SqL K H a (xs.map V.int), fun e ⟨a, h1, h2⟩ => ⟨a, h1, by
  rcases h2 with (h | ⟨o, h⟩) | h
  · exact .inl (.inl (e _ _ h))
  · exact .inl (.inr ⟨o, e _ _ h⟩)
  · exact .inr h⟩⟩
theorem ev_lenS {xs : List Int} (h : Ev ta σ W (scr K xs)) : Ev (tCB (rLenQ K) (tCons ta tNil)) σ W (int (xs.length : Int)) := fun W1 l Q q =>
  h W1 l _ fun x W2 l2 ⟨a, e, h2⟩ => ⟨a, xs.map V.int, by rw [e], .inl ((scr K xs).mono W2.ex ⟨a, rfl, h2⟩ |> fun ⟨_, e, z⟩ => by cases e; exact z), q _ W2 l2 (by rw [List.length_map]; rfl)⟩
theorem ev_ixS {xs : List Int} {i : Int} (h : Ev ta σ W (scr K xs)) (hb : Ev tb σ W (int i)) (h0 : 0 ≤ i) (h1 : i < xs.length) : Ev (tOp (rIxL K) ta tb) σ W (int (at_ xs i)) := fun W1 l Q q =>
  h W1 l _ fun x W2 l2 ⟨a, e, h2⟩ => hb W2 (l.trans l2) _ fun y W3 l3 ey => by
    have hs : SqL K W3.H a (xs.map V.int) := (scr K xs).mono (l3.b.trans W3.ex) ⟨a, rfl, h2⟩ |> fun ⟨_, e, z⟩ => by cases e; exact z
    refine ⟨a, xs.map V.int, i, .int (at_ xs i), e, ey, hs, ?_, q _ W3 (l2.trans l3) rfl⟩
    unfold atI
    rw [List.length_map, ixN_of h0 h1]
    show (xs.map V.int)[i.toNat]? = _
    rw [List.getElem?_map, at_get h0 h1]; rfl
end
/-- a new list of its own comes back -/
def spL {ι β : Type} (args : ι → List Rp) (pre : Wd → ι → Prop) (P : ι → β → Prop) (res : β → List Rp) : Sp := fun vs H Q _ => ∃ (W : Wd) (x : ι), W.H = H ∧ RpA (args x) W.B vs ∧ pre W x ∧ ∀ (b : β) (l : Addr) (W' : Wd), Le W W' → Fre W l → P x b → LocL W' l (res b) → Q (.ref l) W'.H
theorem spL_len {ι β : Type} {args : ι → List Rp} {pre : Wd → ι → Prop} {P : ι → β → Prop} {res : β → List Rp} {n : Nat} (h : ∀ x, (args x).length = n) : ∀ vs H Q E, spL args pre P res vs H Q E → vs.length = n := fun vs H Q E ⟨W, x, _, a, _⟩ => by rw [a.len, h x]
section
variable {K : PySem.W.Frag} {σ : L2.St} {W : Wd} {D : Ends} {tz : TS} {ι β : Type} {args : ι → List Rp} {pre : Wd → ι → Prop} {res : ι → Rp} {P : ι → β → Prop} {resL : β → List Rp} {t : TA} {E : XK} {as : List Rp} {R : Rp}
theorem ev_callL (h : EvA t σ W as) (x : ι) (ha : args x = as) (hp : ∀ W1, Le W W1 → pre W1 x) : Ev (tCall (spL args pre P resL) [] E t) σ W (anyR (P x) fun b => lstR K (resL b)) := fun W1 l Q q =>
  h W1 l _ fun vs W2 l2 hvs => ⟨W2, x, rfl, by rw [List.append_nil, ha]; exact hvs, hp W2 (l.trans l2), fun b p W3 l3 fr hb L => by
    obtain ⟨W4, e4, u4, h4⟩ := L.frz (K := K)
    rw [← e4]
    exact q _ W4 (l2.trans (u4.le l3 fr)) ⟨b, hb, h4⟩⟩
theorem s_asgL {i : Nat} (h : EvA t σ W as) (x : ι) (ha : args x = as) (hp : ∀ W1, Le W W1 → pre W1 x) (k : ∀ b l W1, Le W W1 → Fre W l → P x b → LocL W1 l (resL b) → D.nx (σ.set i (some (.ref l))) W1.H) : tAsg (tCall (spL args pre P resL) [] E t) (gName i) D σ W.H :=
  h W (Le.refl _) _ fun vs W2 l2 hvs => ⟨W2, x, rfl, by rw [List.append_nil, ha]; exact hvs, hp W2 l2, fun b p W3 l3 fr hb L => k b p W3 (l2.trans l3) (l2.free fr) hb L⟩
theorem q_asgL {i : Nat} (h : EvA t σ W as) (x : ι) (ha : args x = as) (hp : ∀ W1, Le W W1 → pre W1 x) (k : ∀ b l W1, Le W W1 → Fre W l → P x b → LocL W1 l (resL b) → tz D (σ.set i (some (.ref l))) W1.H) : tSeq (tAsg (tCall (spL args pre P resL) [] E t) (gName i)) tz D σ W.H := s_asgL (D := { D with nx := tz D }) h x ha hp k
/-- a call whose things are not determined -/
theorem ev_callX (h : EvA t σ W as) (hx : ∀ W1 vs, Le W W1 → RpA as W1.B vs → ∃ x, RpA (args x) W1.B vs ∧ pre W1 x ∧ ∀ (W2 : Wd) v, (res x).p W2.B v → R.p W2.B v) : Ev (tCall (spG args pre res) [] E t) σ W R := fun W1 l Q q =>
  h W1 l _ fun vs W2 l2 hvs => by
    obtain ⟨x, h1, h2, h3⟩ := hx W2 vs (l.trans l2) hvs
    exact ⟨W2, x, rfl, by rw [List.append_nil]; exact h1, h2, fun v W3 l3 hv => q v W3 (l2.trans l3) (h3 W3 v hv)⟩
end
theorem cmul_b {i j : Int} (hi : i.natAbs < 1099511627776) (hj : j.natAbs < 1099511627776) : CMulW i j := wide_mul (a := 40) (b := 40) hi hj (by decide) (by decide) (by decide)
local macro_rules | `(tactic| walk_at "up") => `(tactic| first
  | assumption
  | ((refine Rp.mono _ (by assumption : Same _ _) ?_); walk_at "up")
  | ((refine Rp.mono _ (Le.b (by assumption)) ?_); walk_at "up"))
local macro_rules | `(tactic| walk_at "ev") => `(tactic| first
  | ((with_reducible refine' ev_var ?h1 ?h2); (case h1 => rfl); (case h2 => walk_at "up"))
  | ((with_reducible refine' ev_vi ?h1); (case h1 => rfl))
  | with_reducible exact ev_ci
  | ((with_reducible refine' ev_get0 ?ea); (case ea => walk_at "ev"))
  | ((with_reducible refine' ev_get1 ?ea); (case ea => walk_at "ev"))
  | ((with_reducible refine' ev_I0 ?ea ?eb); (case ea => walk_at "ev"); (case eb => walk_at "ev"))
  | ((with_reducible refine' ev_notV ?ea); (case ea => walk_at "ev"))
  | ((with_reducible refine' eb_test ?ea); (case ea => walk_at "ev"))
  | ((with_reducible refine' eb_B ?ea); (case ea => walk_at "ev"))
  | ((with_reducible refine' eb_not ?ea); (case ea => walk_at "ev"))
  | ((with_reducible refine' ev_eq ?ea ?eb ?ec); (case ea => walk_at "ev"); (case eb => walk_at "ev"); (case ec => rfl))
  | ((with_reducible refine' ev_ne ?ea ?eb ?ec); (case ea => walk_at "ev"); (case eb => walk_at "ev"); (case ec => rfl))
  | ((with_reducible refine' ev_chainI ?ea ?eb ?ec); (case ea => walk_at "ev"); (case eb => walk_at "ev"); (case ec => walk_at "ev"))
  | with_reducible exact ea_nil
  | ((with_reducible refine' ea_cons ?ea ?eb); (case ea => walk_at "ev"); (case eb => walk_at "ev")))
section
variable {P : Program} {w : World} {K : PySem.W.Frag} {mg : Str → Option Value} {base : Heap}
def RoomP (x : Int × Int) : Prop := 0 ≤ x.1 ∧ 0 ≤ x.2 ∧ x.2 < 2147483647
def sp_l_room (K : PySem.W.Frag) : Sp := spL (ι := List Int × Int) (β := Int × Int) (fun x => [scr K x.1, int x.2]) (fun _ x => 0 ≤ x.2 ∧ x.2 ≤ 20) (fun _ b => RoomP b) fun b => [int b.1, int b.2]
theorem ok_l_room (T : Tx K mg) : Cal P w K mg base 1 "_law_room" (sp_l_room K) [] := by
  obtain ⟨fd, F⟩ := T.d_l_room
  refine ⟨_, fd, ["_law_script", "_law_k"], [], F.ok sc_l_room (spL_len fun _ => rfl) (fun cdv A outer s H vs Q E hr h => ?_), T.g_l_room, F.kp, F.bindsN (fun _ _ _ _ _ _ us hl => match us, hl with | [_, _], _ => rfl), .nil⟩
  obtain ⟨W, ⟨xs, n⟩, rfl, ha, ⟨hn0, hn⟩, k⟩ := h
  dsimp only at hn0 hn
  obtain ⟨v0, v1, rfl, h0, rfl⟩ := ha.two
  dsimp only at h0
  refine ⟨_, PSs.nox (pss_cons (ps_set (i := 2) sc_l_room.nd rfl (Or.inl rfl) pe_int)
    (pss_cons (ps_if (pt_cmpR op_lt (pv 1) (pe_callB call_len_seq (by rfl) T.b_len (by decide +kernel) (pa_cons (pv 0) pa_nil)) (nomark _)) (pss_one (ps_set (i := 2) sc_l_room.nd rfl (Or.inl rfl) (pe_ix ix_list (pv 0) (pv 1) (fun _ _ => rfl)))) pss_nil)
    (pss_cons (ps_set (i := 3) sc_l_room.nd rfl (Or.inl rfl) pe_int)
    (pss_cons (ps_if (pt_cmpR op_ge (pv 2) (pe_op op_pow pe_int pe_int) (nomark _)) (pss_one (ps_set (i := 3) sc_l_room.nd rfl (Or.inl rfl) (pv 2))) pss_nil)
    (pss_one (ps_ret (pe_lst (pa_cons (pv 3) (pa_cons (pe_op op_mod (pe_op op_mulW (pe_op op_add (pe_op op_add (pe_op op_mod (pv 2) pe_int) (pe_op op_mulW (pe_op op_mulW pe_int (pv 1)) (pv 1))) pe_int) pe_int) pe_int) pa_nil))))))))), ?_⟩
  try simp only [cxK, cxW, cxP]
  refine q_asg (R := int 0) (by walk_at "ev") ?_
  rintro _ W1 l1 rfl
  refine q_whenI (P := Bo (decide (n < xs.length))) (eb_test (ev_I0 (by walk_at "ev") (ev_lenS (K := K) (xs := xs) (ev_var rfl (Rp.mono _ l1.b h0))))) (fun σ3 W3 => ∃ c : Int, σ3 = [some v0, some (.int n), some (.int c), none] ∧ Le W W3) ?_ ?_ ?_
  · rintro σ3 W3 ⟨c, rfl, l3⟩
    refine q_asg (R := int 0) (by walk_at "ev") ?_
    rintro _ W4 l4 rfl
    refine q_whenI (P := Bo (decide (c ≥ 10 ^ 18))) (eb_test (ev_I0 (by walk_at "ev") (ev_pow (i := 10) (j := 18) ev_ci ev_ci ⟨by decide, by decide, by decide⟩))) (fun σ5 W5 => ∃ d : Int, σ5 = [some v0, some (.int n), some (.int c), some (.int d)] ∧ 0 ≤ d ∧ Le W W5) ?_ ?_ ?_
    · rintro σ5 W5 ⟨d, rfl, hd, l5⟩
      have hm0 : 0 ≤ c % 2147483629 := Int.emod_nonneg _ (by decide)
      have hm1 : c % 2147483629 < 2147483629 := Int.emod_lt_of_pos _ (by decide)
      have hq0 : 0 ≤ 104729 * n * n := Int.mul_nonneg (Int.mul_nonneg (by decide) hn0) hn0
      have hq1 : 104729 * n * n ≤ 104729 * 20 * 20 := Int.mul_le_mul (by omega) hn hn0 (by decide)
      refine s_retNew (rs := [int d, int ((c % 2147483629 + 104729 * n * n + 7) * 48271 % 2147483647)]) (ea_cons (by walk_at "ev") (ea_cons (ev_mod (ev_mul (ev_I0 (ev_I0 (ev_mod (by walk_at "ev") (by walk_at "ev") (by decide)) (ev_mul (ev_mul (by walk_at "ev") (by walk_at "ev") (cmul_b (by decide) (by omega))) (by walk_at "ev") (cmul_b (by omega) (by omega)))) (by walk_at "ev")) (by walk_at "ev") (cmul_b (by omega) (by decide))) (by walk_at "ev") (by decide)) ea_nil)) (Nat.le_of_ble_eq_true rfl) fun l W6 l6 fr L => ?_
      exact k (d, _) l W6 (l5.trans l6) (l5.free fr) ⟨hd, Int.emod_nonneg _ (by decide), Int.emod_lt_of_pos _ (by decide)⟩ L
    · intro hh W5 l5 nx
      refine s_asg (R := int c) (by walk_at "ev") ?_
      rintro _ W6 l6 rfl
      have : c ≥ 10 ^ 18 := of_decide_eq_true hh.symm
      exact nx _ W6 ⟨c, rfl, by omega, ((l3.trans l4).trans l5).trans l6⟩
    · intro hh W5 l5
      exact ⟨0, rfl, Int.le_refl _, (l3.trans l4).trans l5⟩
  · intro hh W2 l2 nx
    have hlt := of_decide_eq_true hh.symm
    refine s_asg (R := int (at_ xs n)) (ev_ixS (xs := xs) (ev_var rfl (Rp.mono _ (l1.trans l2).b h0)) (by walk_at "ev") hn0 hlt) ?_
    rintro _ W3 l3 rfl
    exact nx _ W3 ⟨_, rfl, (l1.trans l2).trans l3⟩
  · intro hh W2 l2
    exact ⟨_, rfl, l1.trans l2⟩
def sp_l_take (K : PySem.W.Frag) : Sp := spG (ι := Addr × Int) (fun x => [is (.ref x.1), int x.2]) (fun W x => W.r = some x.1 ∧ 1 ≤ x.2 ∧ x.2 ≤ 1000000) fun x => anyR (fun i => 0 ≤ i ∧ i < x.2) int
theorem ok_l_take (T : Tx K mg) : Cal P w K mg base 1 "_law_take" (sp_l_take K) [] := by
  obtain ⟨fd, F⟩ := T.d_l_take
  refine ⟨_, fd, ["_law_room_here", "_law_many"], [], F.ok sc_l_take (spG_len fun _ => rfl) (fun cdv A outer s H vs Q E hr h => ?_), T.g_l_take, F.kp, F.bindsN (fun _ _ _ _ _ _ us hl => match us, hl with | [_, _], _ => rfl), .nil⟩
  obtain ⟨W, ⟨a, m⟩, rfl, ha, ⟨hr0, hm0, hm⟩, k⟩ := h
  dsimp only at hr0 hm0 hm
  obtain ⟨v0, v1, rfl, rfl, rfl⟩ := ha.two
  refine ⟨_, PSs.nox (pss_cons (ps_if (pt_cmpR op_gt (pe_ix ix_list (pv 0) pe_int (fun _ _ => rfl)) pe_int (nomark _)) (pss_cons (ps_set (i := 2) sc_l_take.nd rfl (Or.inl rfl) (pe_op op_mod (pe_ix ix_list (pv 0) pe_int (fun _ _ => rfl)) (pv 1)))
    (pss_cons (ps_asg (pe_op op_fdivW (pe_ix ix_list (pv 0) pe_int (fun _ _ => rfl)) (pv 1)) (pg_sub (pv 0) pe_int set_list))
    (pss_one (ps_ret (pv 2))))) pss_nil)
    (pss_cons (ps_asg (pe_op op_mod (pe_op op_add (pe_op op_mulW (pe_ix ix_list (pv 0) pe_int (fun _ _ => rfl)) pe_int) pe_int) pe_int) (pg_sub (pv 0) pe_int set_list))
    (pss_cons (ps_set (i := 2) sc_l_take.nd rfl (Or.inl rfl) (pe_op op_fdivW (pe_op op_mod (pe_op op_mulW (pe_ix ix_list (pv 0) pe_int (fun _ _ => rfl)) (pe_ix ix_list (pv 0) pe_int (fun _ _ => rfl))) pe_int) pe_int))
    (pss_cons (ps_if (pt_cmpR op_gt (pv 1) (pe_op op_pow pe_int pe_int) (nomark _)) (pss_cons (ps_asg (pe_op op_mod (pe_op op_add (pe_op op_mulW (pe_ix ix_list (pv 0) pe_int (fun _ _ => rfl)) pe_int) pe_int) pe_int) (pg_sub (pv 0) pe_int set_list))
    (pss_one (ps_set (i := 2) sc_l_take.nd rfl (Or.inl rfl) (pe_op op_add (pe_op op_mulW (pv 2) pe_int) (pe_op op_mod (pe_op op_mulW (pe_ix ix_list (pv 0) pe_int (fun _ _ => rfl)) (pe_ix ix_list (pv 0) pe_int (fun _ _ => rfl))) pe_int))))) pss_nil)
    (pss_one (ps_ret (pe_op op_mod (pv 2) (pv 1)))))))), ?_⟩
  try simp only [cxK, cxW, cxP]
  refine q_when (P := fun _ => True) (eb_testP (ev_cmpA (Pa := fun x => 0 ≤ x) (Pb := fun _ => True) (ev_room0 rfl hr0) (ev_anyI ev_ci True.intro) fun _ _ _ _ => True.intro)) (fun _ W1 l1 => ?_) (fun _ W1 l1 => ?_)
  · refine q_asg (R := anyR (fun i => 0 ≤ i ∧ i < m) int) (ev_IA (Pa := fun x => 0 ≤ x) (Pb := fun j => j = m) (ev_room0 rfl (l1.r.trans hr0)) (ev_anyI (by walk_at "ev") rfl) fun i j hi hj => ⟨by omega, by subst hj; exact Int.emod_nonneg _ (by omega), by subst hj; exact Int.emod_lt_of_pos _ (by omega)⟩) ?_
    rintro v W2 l2 hv
    dsimp only
    refine q_room0 rfl ((l1.trans l2).r.trans hr0) (ev_IA (Pa := fun x => 0 ≤ x) (Pb := fun j => j = m) (ev_room0 rfl ((l1.trans l2).r.trans hr0)) (ev_anyI (by walk_at "ev") rfl) fun i j hi hj => ⟨by subst hj; exact cdiv_of (by omega) (by exact Nat.lt_of_lt_of_le (show j.natAbs < 2 ^ 20 by omega) (pow_le (a := 20) (by decide))), by subst hj; exact Int.ediv_nonneg hi (by omega)⟩) fun W3 l3 => ?_
    exact s_ret (R := anyR (fun i => 0 ≤ i ∧ i < m) int) (ev_var rfl (Rp.mono _ l3.b hv)) fun v W4 l4 hv => k v W4 (((l1.trans l2).trans l3).trans l4) hv
  · have hr1 := l1.r.trans hr0
    refine q_room1 rfl hr1 (ev_IA (Pa := fun _ => True) (Pb := fun j => j = 2147483647) (ev_I0A (Pa := fun _ => True) (Pb := fun _ => True) (ev_IA (Pa := fun y => 0 ≤ y ∧ y < 2147483647) (Pb := fun j => j = 48271) (Pc := fun _ => True) (ev_room1 rfl hr1) (ev_anyI ev_ci rfl) fun i j hi hj => ⟨cmul_b (by omega) (by omega), True.intro⟩) (ev_anyI ev_ci True.intro) fun _ _ _ _ => True.intro) (ev_anyI ev_ci rfl) fun i j _ hj => ⟨by omega, by subst hj; exact Int.emod_nonneg _ (by omega), by subst hj; exact Int.emod_lt_of_pos _ (by omega)⟩) fun W2 l2 => ?_
    have hr2 := l2.r.trans hr1
    refine q_asg (R := anyR (fun _ => True) int) (ev_IA (Pa := fun _ => True) (Pb := fun j => j = 16) (ev_IA (Pa := fun _ => True) (Pb := fun j => j = 2147483629) (ev_IA (Pa := fun y => 0 ≤ y ∧ y < 2147483647) (Pb := fun y => 0 ≤ y ∧ y < 2147483647) (Pc := fun _ => True) (ev_room1 rfl hr2) (ev_room1 rfl hr2) fun i j hi hj => ⟨cmul_b (by omega) (by omega), True.intro⟩) (ev_anyI ev_ci rfl) fun i j _ hj => ⟨by omega, True.intro⟩) (ev_anyI ev_ci rfl) fun i j _ hj => ⟨by subst hj; exact cdiv_s (by decide) (by decide), True.intro⟩) ?_
    rintro v W3 l3 hv
    refine q_skip (eb_is (eb_test (ev_I0 (by walk_at "ev") (ev_pow (i := 10) (j := 6) ev_ci ev_ci ⟨by decide, by decide, by decide⟩))) (decide_eq_false (by show ¬ (m > 10 ^ (6 : Int).toNat); have : (10 : Int) ^ (6 : Int).toNat = 1000000 := rfl; omega))) fun W4 l4 => ?_
    exact s_ret (R := anyR (fun i => 0 ≤ i ∧ i < m) int) (ev_IA (Pa := fun _ => True) (Pb := fun j => j = m) (ev_var rfl (Rp.mono _ l4.b hv)) (ev_anyI (by walk_at "ev") rfl) fun i j hi hj => ⟨by omega, by subst hj; exact Int.emod_nonneg _ (by omega), by subst hj; exact Int.emod_lt_of_pos _ (by omega)⟩) fun v W5 l5 hv => k v W5 ((((l1.trans l2).trans l3).trans l4).trans l5) hv
end
end Fs

set_option Elab.async false
set_option linter.all false
set_option maxRecDepth 100000
set_option maxHeartbeats 2000000
namespace Fs
open PySem PySem.Spec PyProof.Rows L2 C8
theorem madeL_plus {p : Int} {a b : Num} (hp : PrOk p) (ha : NumL p a) (hb : NumL p b) (sa : Sz a) (sb : Sz b) : MadeOk p (a.1 * b.2 + b.1 * a.2) (a.2 * b.2) := by
  have h1 := natAbs_mul_lt sa.1 sb.2
  have h2 := natAbs_mul_lt sb.1 sa.2
  have h3 := natAbs_mul_lt sa.2 sb.2
  have h4 := natAbs_add_lt h1 h2
  refine ⟨Nat.lt_of_lt_of_le h4 (pow_le (by decide)), Nat.lt_of_lt_of_le h3 (pow_le (by decide)), ?_⟩
  rcases numL_den ha hb with h | h
  · exact .inl h
  · rcases hp with e | e
    · exact absurd e h.1
    · exact .inr ⟨e.1, e.2, h.2⟩
theorem madeL_times {p : Int} {a b : Num} (hp : PrOk p) (ha : NumL p a) (hb : NumL p b) (sa : Sz a) (sb : Sz b) : MadeOk p (a.1 * b.1) (a.2 * b.2) := by
  have h1 := natAbs_mul_lt sa.1 sb.1
  have h3 := natAbs_mul_lt sa.2 sb.2
  refine ⟨Nat.lt_of_lt_of_le h1 (pow_le (by decide)), Nat.lt_of_lt_of_le h3 (pow_le (by decide)), ?_⟩
  rcases numL_den ha hb with h | h
  · exact .inl h
  · rcases hp with e | e
    · exact absurd e h.1
    · exact .inr ⟨e.1, e.2, h.2⟩
def isPrB (p : Int) : Bool := decide (2 ≤ p) && decide (p ≤ 97) && (List.range 97).all fun d => decide (d < 2) || decide (p ≤ d) || !decide (p % (d : Int) = 0)
theorem ev_sub {α : Type} {σ : L2.St} {W : Wd} {te : TE} {P Q : α → Prop} {f : α → Rp} (h : Ev te σ W (anyR P f)) (g : ∀ x, P x → Q x) : Ev te σ W (anyR Q f) := Ev.imp h fun _ _ _ ⟨x, hx, e⟩ => ⟨x, g x hx, e⟩
theorem isPr_of {p : Int} (h : isPrB p = true) : IsPr p := by
  unfold isPrB at h
  rw [Bool.and_eq_true, Bool.and_eq_true, List.all_eq_true] at h
  obtain ⟨⟨h1, h2⟩, h3⟩ := h
  have h1 := of_decide_eq_true h1
  have h2 := of_decide_eq_true h2
  refine ⟨h1, h2, fun d hd0 hd e => ?_⟩
  have h4 := h3 d.toNat (List.mem_range.mpr (by omega))
  have ed : ((d.toNat : Nat) : Int) = d := by omega
  rw [ed, e] at h4
  have c1 : decide (d.toNat < 2) = false := decide_eq_false (by omega)
  have c2 : decide (p ≤ d) = false := decide_eq_false (by omega)
  rw [c1, c2] at h4
  simp at h4
theorem prF_some {p : Int} (h : p ∈ [(11 : Int), 13, 17, 19, 23, 29, 31, 37, 41, 43, 47, 53, 59, 61, 67, 71, 73, 79, 83, 89]) : PrF p := .inr (isPr_of (by
  have : ∀ p ∈ [(11 : Int), 13, 17, 19, 23, 29, 31, 37, 41, 43, 47, 53, 59, 61, 67, 71, 73, 79, 83, 89], isPrB p = true := by decide +kernel
  exact this p h))
theorem prF_few {p : Int} (h : p ∈ [(0 : Int), 0, 2, 3, 5, 7, 97, 0]) : PrF p := by
  have : ∀ p ∈ [(0 : Int), 0, 2, 3, 5, 7, 97, 0], p = 0 ∨ isPrB p = true := by decide +kernel
  exact (this p h).imp id isPr_of
theorem dvd_dd {b : Int} (h : b ∈ [(1 : Int), 7, 100, 101, 2, 3]) : ∃ u, u * b = DD := by
  simp only [List.mem_cons, List.not_mem_nil, or_false] at h
  rcases h with e | e | e | e | e | e <;> subst e
  · exact ⟨212100, rfl⟩
  · exact ⟨30300, rfl⟩
  · exact ⟨2121, rfl⟩
  · exact ⟨2100, rfl⟩
  · exact ⟨106050, rfl⟩
  · exact ⟨70700, rfl⟩
theorem gd_low {t b : Int} (h : b ∈ [(1 : Int), 7, 100, 101, 2, 3]) (ht : t.natAbs ≤ 10000) : Gd 0 14 (low t b) := by
  have hb : 1 ≤ b := by
    simp only [List.mem_cons, List.not_mem_nil, or_false] at h
    omega
  obtain ⟨u, hu⟩ := dvd_dd h
  have hd : ∃ v : Int, v * b = t * DD ^ 14 := ⟨t * u * DD ^ 13, by
    rw [show DD ^ 14 = DD ^ 13 * DD from Int.pow_succ .., ← hu]
    grind⟩
  have hs : (t.natAbs : Int) ≤ 16384 * b := by omega
  obtain ⟨h1, h2⟩ := low_size (j := 14) (s := 16384) (by omega) hd hs
  exact ⟨numOk_low (by omega), fun _ => ⟨h1, h2⟩⟩
local macro_rules | `(tactic| walk_at "up") => `(tactic| first
  | assumption
  | ((refine Rp.mono _ (by assumption : Same _ _) ?_); walk_at "up")
  | ((refine Rp.mono _ (Le.b (by assumption)) ?_); walk_at "up"))
local macro_rules | `(tactic| walk_at "ev") => `(tactic| first
  | ((with_reducible refine' ev_var ?h1 ?h2); (case h1 => rfl); (case h2 => walk_at "up"))
  | ((with_reducible refine' ev_vi ?h1); (case h1 => rfl))
  | with_reducible exact ev_ci
  | ((with_reducible refine' ev_get0 ?ea); (case ea => walk_at "ev"))
  | ((with_reducible refine' ev_get1 ?ea); (case ea => walk_at "ev"))
  | ((with_reducible refine' ev_I0 ?ea ?eb); (case ea => walk_at "ev"); (case eb => walk_at "ev"))
  | ((with_reducible refine' ev_notV ?ea); (case ea => walk_at "ev"))
  | ((with_reducible refine' eb_test ?ea); (case ea => walk_at "ev"))
  | ((with_reducible refine' eb_B ?ea); (case ea => walk_at "ev"))
  | ((with_reducible refine' eb_not ?ea); (case ea => walk_at "ev"))
  | ((with_reducible refine' ev_eq ?ea ?eb ?ec); (case ea => walk_at "ev"); (case eb => walk_at "ev"); (case ec => rfl))
  | ((with_reducible refine' ev_ne ?ea ?eb ?ec); (case ea => walk_at "ev"); (case eb => walk_at "ev"); (case ec => rfl))
  | ((with_reducible refine' ev_chainI ?ea ?eb ?ec); (case ea => walk_at "ev"); (case eb => walk_at "ev"); (case ec => walk_at "ev"))
  | with_reducible exact ea_nil
  | ((with_reducible refine' ea_cons ?ea ?eb); (case ea => walk_at "ev"); (case eb => walk_at "ev")))
section
variable {P : Program} {w : World} {K : PySem.W.Frag} {mg : Str → Option Value} {base : Heap}
def sp_l_lowest (K : PySem.W.Frag) : Sp := spG (ι := Int × Int) (fun x => [int x.1, int x.2]) (fun _ x => LowOk x.1 x.2) fun x => num K (low x.1 x.2)
theorem ok_l_lowest (T : Tx K mg) : Cal P w K mg base 1 "_law_lowest" (sp_l_lowest K) [] := by
  obtain ⟨fd, F⟩ := T.d_l_lowest
  refine ⟨_, fd, ["_law_top", "_law_base"], [], F.ok sc_l_lowest (spG_len fun _ => rfl) (fun cdv A outer s H vs Q E hr h => ?_), T.g_l_lowest, F.kp, F.bindsN (fun _ _ _ _ _ _ us hl => match us, hl with | [_, _], _ => rfl), .nil⟩
  obtain ⟨W, ⟨t, b⟩, rfl, ha, ⟨ht, hb, hb0⟩, k⟩ := h
  dsimp only at ht hb hb0
  obtain ⟨v0, v1, rfl, rfl, rfl⟩ := ha.two
  refine ⟨_, PSs.nox (pss_cons (ps_set (i := 2) sc_l_lowest.nd rfl (Or.inl rfl) (pe_callB call_abs (by rfl) T.b_abs (by decide +kernel) (pa_cons (pv 0) pa_nil)))
    (pss_cons (ps_set (i := 3) sc_l_lowest.nd rfl (Or.inl rfl) (pe_callB call_abs (by rfl) T.b_abs (by decide +kernel) (pa_cons (pv 1) pa_nil)))
    (pss_cons (ps_while PassesOwn.never (pt_cmpR op_ne (pv 3) pe_int (nomark _)) (pss_one (ps_par (i := 2) (j := 3) rfl sc_l_lowest.nd rfl rfl (by decide) rfl rfl (pa_cons (pv 3) (pa_cons (pe_op op_mod (pv 2) (pv 3)) pa_nil)) (by rfl))))
    (pss_cons (ps_set (i := 4) sc_l_lowest.nd rfl (Or.inl rfl) (pe_ix ix_list (pe_lst (pa_cons pe_int (pa_cons (pe_un un_neg pe_int) pa_nil))) (pe_callTy call_int1 (by rfl) T.b_int (by decide +kernel) (pa_cons (pe_cmpR op_lt (pv 1) pe_int (nomark _)) pa_nil)) (fun _ _ => rfl)))
    (pss_one (ps_ret (pe_tup (pa_cons (pe_op op_fdivW (pe_op op_mulW (pv 4) (pv 0)) (pv 2)) (pa_cons (pe_op op_fdivW (pe_callB call_abs (by rfl) T.b_abs (by decide +kernel) (pa_cons (pv 1) pa_nil)) (pv 2)) pa_nil))))))))), ?_⟩
  try simp only [cxK, cxW, cxP]
  refine q_asg (R := int (if t < 0 then -t else t)) (ev_abs (by walk_at "ev")) ?_
  rintro _ W1 l1 rfl
  refine q_asg (R := int (if b < 0 then -b else b)) (ev_abs (by walk_at "ev")) ?_
  rintro _ W2 l2 rfl
  refine q_while (fun σ' W' => ∃ x y, σ' = [some (.int t), some (.int b), some (.int x), some (.int y), none] ∧ Le W W' ∧ LowI t b x y) (fun σ' _ => match σ' with | [_, _, _, some (.int y), _] => y.toNat | _ => 0)
    (c := fun σ' _ => match σ' with | [_, _, _, some (.int y), _] => !decide (V.int y = V.int 0) | _ => false) ⟨_, _, rfl, l1.trans l2, lowI_start t b⟩ ?_ ?_ ?_
  · rintro σ' W' ⟨x, y, rfl, l, hI⟩
    walk_at "ev"
  · rintro σ' W' W3 ⟨x, y, rfl, l, hI⟩ hc l3
    have hy : y ≠ 0 := fun e => by rw [e] at hc; simp at hc
    obtain ⟨h1, h2, h3⟩ := lowI_turn hI hy
    refine s_par (RA := int y) (RB := int (x % y)) (ea_cons (by walk_at "ev") (ea_cons (ev_mod (by walk_at "ev") (by walk_at "ev") h3) ea_nil)) ?_
    rintro _ _ W4 l4 rfl rfl
    exact ⟨W4, rfl, ⟨y, x % y, rfl, (l.trans l3).trans l4, h1⟩, h2⟩
  · rintro σ' W' W3 ⟨x, y, rfl, l, hI⟩ hc l3
    have hy : y = 0 := by
      by_cases e : y = 0
      · exact e
      · simp [e] at hc
    subst hy
    have hx := lowI_end hI
    have hx0 : 0 < x := by have := gcd_pos t b hb0; omega
    have hxs : x.natAbs < pw2 8200 := by rw [hx]; exact pw_le (gcd_lt hb0 hb) (by decide)
    refine q_asg (R := int 1) (ev_ixI (K := K) (ps := [1, -1]) (ev_lst (ea_cons ev_ci (ea_cons (ev_neg ev_ci) ea_nil))) (ev_is (ev_intB (b := false) (ev_is (ev_I0 (by walk_at "ev") (by walk_at "ev")) (by rw [show decide (b < 0) = false from decide_eq_false (by omega)]))) rfl) (Int.le_refl 0) (by decide)) ?_
    rintro _ W4 l4 rfl
    refine s_ret (R := num K (low t b)) ?_ fun v W5 l5 hv => k v W5 (((l.trans l3).trans l4).trans l5) hv
    rw [low_end hx hb0]
    exact ev_tup (ea_cons (ev_div (ev_mul (by walk_at "ev") (by walk_at "ev") (cmul_of one_pw (pw_le ht (by decide)))) (by walk_at "ev") (cdiv_of hx0 hxs)) (ea_cons (ev_div (ev_abs (by walk_at "ev")) (by walk_at "ev") (cdiv_of hx0 hxs)) ea_nil))
def sp_l_make (K : PySem.W.Frag) : Sp := spG (ι := Int × Int × Int) (fun x => [int x.1, int x.2.1, int x.2.2]) (fun _ x => MadeOk x.1 x.2.1 x.2.2) fun x => num K (made x.1 x.2.1 x.2.2)
theorem ok_l_make (T : Tx K mg) : Cal P w K mg base 2 "_law_make" (sp_l_make K) [] := by
  have h_l_lowest := ok_l_lowest (P := P) (w := w) (base := base) T
  obtain ⟨fd, F⟩ := T.d_l_make
  refine ⟨_, fd, ["_law_prime_here", "_law_top", "_law_base"], [], F.ok sc_l_make (spG_len fun _ => rfl) (fun cdv A outer s H vs Q E hr h => ?_), T.g_l_make, F.kp, F.bindsN (fun _ _ _ _ _ _ us hl => match us, hl with | [_, _, _], _ => rfl), .nil⟩
  obtain ⟨W, ⟨p, t, b⟩, rfl, ha, ⟨ht, hb, hc⟩, k⟩ := h
  dsimp only at ht hb hc
  obtain ⟨v0, v1, v2, rfl, rfl, rfl, rfl⟩ := ha.three
  refine ⟨_, PSs.nox (pss_cons (ps_if (pt_cmpR op_eq (pv 0) pe_int (nomark _)) (pss_one (ps_ret (pe_c h_l_lowest hr (by decide) rfl (pa_cons (pv 1) (pa_cons (pv 2) pa_nil))))) pss_nil)
    (pss_cons (ps_if (pt_cmpR op_ne (pe_op op_mod (pv 2) (pv 0)) pe_int (nomark _)) pss_never pss_nil)
    (pss_one (ps_ret (pe_tup (pa_cons (pe_op op_mod (pv 1) (pv 0)) (pa_cons pe_int pa_nil))))))), ?_⟩
  try simp only [cxK, cxW, cxP]
  refine q_when (eb_test (ev_eq (by walk_at "ev") (by walk_at "ev") rfl)) (fun hp W2 l2 => ?_) (fun hp W2 l2 => ?_)
  · have hp0 : p = 0 := V.int.inj (of_decide_eq_true hp.symm)
    refine s_ret (ev_call (x := (t, b)) (as := [int t, int b]) (by walk_at "ev") rfl fun _ _ => ⟨ht, hb, ?_⟩) fun v W3 l3 hv => k v W3 (l2.trans l3) ?_
    · rcases hc with ⟨_, h⟩ | ⟨h, _⟩
      · exact h
      · omega
    · show (num K (made p t b)).p W3.B v
      unfold made
      rw [if_pos hp0]; exact hv
  · have hp0 : p ≠ 0 := fun e => by
      have := of_decide_eq_false hp.symm
      exact this (by rw [e])
    obtain ⟨hp2, hp97, rfl⟩ : 2 ≤ p ∧ p ≤ 97 ∧ b = 1 := by
      rcases hc with ⟨h, _⟩ | h
      · exact absurd h hp0
      · exact h
    have h1 : (1 : Int) % p = 1 := Int.emod_eq_of_lt (by decide) (by omega)
    refine q_skip (eb_is (eb_test (ev_ne (ev_mod (by walk_at "ev") (by walk_at "ev") (by omega)) (by walk_at "ev") rfl)) (by rw [h1, decide_eq_true rfl]; rfl)) fun W3 l3 => ?_
    refine s_ret (R := num K (made p t 1)) ?_ fun v W6 l6 hv => k v W6 ((l2.trans l3).trans l6) hv
    unfold made
    rw [if_neg hp0]
    exact ev_tup (ea_cons (ev_mod (by walk_at "ev") (by walk_at "ev") (by omega)) (ea_cons (by walk_at "ev") ea_nil))
def LooseOk (x : Int × Num × Num) : Prop := PrOk x.1 ∧ NumL x.1 x.2.1 ∧ NumL x.1 x.2.2 ∧ Sz x.2.1 ∧ Sz x.2.2
def sp_l_plus (K : PySem.W.Frag) : Sp := spG (ι := Int × Num × Num) (fun x => [int x.1, num K x.2.1, num K x.2.2]) (fun _ => LooseOk) fun x => num K (nplus x.1 x.2.1 x.2.2)
def sp_l_times (K : PySem.W.Frag) : Sp := spG (ι := Int × Num × Num) (fun x => [int x.1, num K x.2.1, num K x.2.2]) (fun _ => LooseOk) fun x => num K (ntimes x.1 x.2.1 x.2.2)
theorem ok_l_plus (T : Tx K mg) : Cal P w K mg base 3 "_law_plus" (sp_l_plus K) [] := by
  have h_l_make := ok_l_make (P := P) (w := w) (base := base) T
  obtain ⟨fd, F⟩ := T.d_l_plus
  refine ⟨_, fd, ["_law_prime_here", "_law_one", "_law_other"], [], F.ok sc_l_plus (spG_len fun _ => rfl) (fun cdv A outer s H vs Q E hr h => ?_), T.g_l_plus, F.kp, F.bindsN (fun _ _ _ _ _ _ us hl => match us, hl with | [_, _, _], _ => rfl), .nil⟩
  obtain ⟨W, ⟨p, a, b⟩, rfl, ha, ⟨hp, na, nb, sa, sb⟩, k⟩ := h
  obtain ⟨v0, v1, v2, rfl, rfl, h1, h2⟩ := ha.three
  dsimp only at h1 h2
  refine ⟨_, PSs.nox (pss_one (ps_ret (pe_c h_l_make hr (by decide) rfl (pa_cons (pv 0) (pa_cons (pe_op op_add (pe_op op_mulW (pe_ix ix_tup (pv 1) pe_int (fun _ _ => rfl)) (pe_ix ix_tup (pv 2) pe_int (fun _ _ => rfl))) (pe_op op_mulW (pe_ix ix_tup (pv 2) pe_int (fun _ _ => rfl)) (pe_ix ix_tup (pv 1) pe_int (fun _ _ => rfl)))) (pa_cons (pe_op op_mulW (pe_ix ix_tup (pv 1) pe_int (fun _ _ => rfl)) (pe_ix ix_tup (pv 2) pe_int (fun _ _ => rfl))) pa_nil)))))), ?_⟩
  try simp only [cxK, cxW, cxP]
  have ea := sz_pw sa
  have eb := sz_pw sb
  exact s_ret (ev_call (x := (p, a.1 * b.2 + b.1 * a.2, a.2 * b.2)) (as := [int p, int (a.1 * b.2 + b.1 * a.2), int (a.2 * b.2)]) (ea_cons (by walk_at "ev") (ea_cons (ev_I0 (ev_mul (ev_get0 (n := a) (by walk_at "ev")) (ev_get1 (n := b) (by walk_at "ev")) (cmul_of ea.1 eb.2)) (ev_mul (ev_get0 (n := b) (by walk_at "ev")) (ev_get1 (n := a) (by walk_at "ev")) (cmul_of eb.1 ea.2))) (ea_cons (ev_mul (ev_get1 (n := a) (by walk_at "ev")) (ev_get1 (n := b) (by walk_at "ev")) (cmul_of ea.2 eb.2)) ea_nil))) rfl fun _ _ => madeL_plus hp na nb sa sb) k
theorem ok_l_times (T : Tx K mg) : Cal P w K mg base 3 "_law_times" (sp_l_times K) [] := by
  have h_l_make := ok_l_make (P := P) (w := w) (base := base) T
  obtain ⟨fd, F⟩ := T.d_l_times
  refine ⟨_, fd, ["_law_prime_here", "_law_one", "_law_other"], [], F.ok sc_l_times (spG_len fun _ => rfl) (fun cdv A outer s H vs Q E hr h => ?_), T.g_l_times, F.kp, F.bindsN (fun _ _ _ _ _ _ us hl => match us, hl with | [_, _, _], _ => rfl), .nil⟩
  obtain ⟨W, ⟨p, a, b⟩, rfl, ha, ⟨hp, na, nb, sa, sb⟩, k⟩ := h
  obtain ⟨v0, v1, v2, rfl, rfl, h1, h2⟩ := ha.three
  dsimp only at h1 h2
  refine ⟨_, PSs.nox (pss_one (ps_ret (pe_c h_l_make hr (by decide) rfl (pa_cons (pv 0) (pa_cons (pe_op op_mulW (pe_ix ix_tup (pv 1) pe_int (fun _ _ => rfl)) (pe_ix ix_tup (pv 2) pe_int (fun _ _ => rfl))) (pa_cons (pe_op op_mulW (pe_ix ix_tup (pv 1) pe_int (fun _ _ => rfl)) (pe_ix ix_tup (pv 2) pe_int (fun _ _ => rfl))) pa_nil)))))), ?_⟩
  try simp only [cxK, cxW, cxP]
  have ea := sz_pw sa
  have eb := sz_pw sb
  exact s_ret (ev_call (x := (p, a.1 * b.1, a.2 * b.2)) (as := [int p, int (a.1 * b.1), int (a.2 * b.2)]) (ea_cons (by walk_at "ev") (ea_cons (ev_mul (ev_get0 (n := a) (by walk_at "ev")) (ev_get0 (n := b) (by walk_at "ev")) (cmul_of ea.1 eb.1)) (ea_cons (ev_mul (ev_get1 (n := a) (by walk_at "ev")) (ev_get1 (n := b) (by walk_at "ev")) (cmul_of ea.2 eb.2)) ea_nil))) rfl fun _ _ => madeL_times hp na nb sa sb) k
theorem ev_take {σ : L2.St} {W : Wd} {t : TA} {E : XK} {a : Addr} {m : Int} (h : EvA t σ W [is (.ref a), int m]) (hr : W.r = some a) (h0 : 1 ≤ m) (h1 : m ≤ 1000000) : Ev (tCall (sp_l_take K) [] E t) σ W (anyR (fun i => 0 ≤ i ∧ i < m) int) := ev_call h (a, m) rfl fun _ l => ⟨l.r.trans hr, h0, h1⟩
def sp_l_prime : Sp := spG (ι := Addr) (fun a => [is (.ref a)]) (fun W a => W.r = some a) fun _ => anyR PrF int
theorem ok_l_prime (T : Tx K mg) : Cal P w K mg base 2 "_law_prime" sp_l_prime [] := by
  have h_l_take := ok_l_take (P := P) (w := w) (base := base) T
  obtain ⟨fd, F⟩ := T.d_l_prime
  refine ⟨_, fd, ["_law_room_here"], [], F.ok sc_l_prime (spG_len fun _ => rfl) (fun cdv A outer s H vs Q E hr h => ?_), T.g_l_prime, F.kp, F.bindsN (fun _ _ _ _ _ _ us hl => match us, hl with | [_], _ => rfl), .nil⟩
  obtain ⟨W, a, rfl, ha, hr0, k⟩ := h
  obtain ⟨v0, rfl, rfl⟩ := ha.one
  refine ⟨_, PSs.nox (pss_cons (ps_set (i := 1) sc_l_prime.nd rfl (Or.inl rfl) (pe_c h_l_take hr (by decide) rfl (pa_cons (pv 0) (pa_cons pe_int pa_nil))))
    (pss_cons (ps_if (pt_cmpR op_eq (pv 1) pe_int (nomark _)) (pss_cons (ps_set (i := 2) sc_l_prime.nd rfl (Or.inl rfl) (pe_lst (pa_cons pe_int (pa_cons pe_int (pa_cons pe_int (pa_cons pe_int (pa_cons pe_int (pa_cons pe_int (pa_cons pe_int (pa_cons pe_int (pa_cons pe_int (pa_cons pe_int (pa_cons pe_int (pa_cons pe_int (pa_cons pe_int (pa_cons pe_int (pa_cons pe_int (pa_cons pe_int (pa_cons pe_int (pa_cons pe_int (pa_cons pe_int (pa_cons pe_int pa_nil))))))))))))))))))))))
    (pss_one (ps_ret (pe_ix ix_list (pv 2) (pe_c h_l_take hr (by decide) rfl (pa_cons (pv 0) (pa_cons pe_int pa_nil))) (fun _ _ => rfl))))) pss_nil)
    (pss_one (ps_ret (pe_ix ix_list (pe_lst (pa_cons pe_int (pa_cons pe_int (pa_cons pe_int (pa_cons pe_int (pa_cons pe_int (pa_cons pe_int (pa_cons pe_int (pa_cons pe_int pa_nil))))))))) (pv 1) (fun _ _ => rfl)))))), ?_⟩
  try simp only [cxK, cxW, cxP]
  refine q_asg (R := anyR (fun i => 0 ≤ i ∧ i < 9) int) (ev_take (K := K) (ea_cons (ev_vi rfl) (ea_cons ev_ci ea_nil)) hr0 (by decide) (by decide)) ?_
  rintro _ W1 l1 ⟨i, hi, rfl⟩
  refine q_when (eb_test (ev_eq (by walk_at "ev") (by walk_at "ev") rfl)) (fun h8 W2 l2 => ?_) (fun h8 W2 l2 => ?_)
  · refine q_asg (R := lstR K ([(11 : Int), 13, 17, 19, 23, 29, 31, 37, 41, 43, 47, 53, 59, 61, 67, 71, 73, 79, 83, 89].map int)) (ev_lst (ea_cons ev_ci (ea_cons ev_ci (ea_cons ev_ci (ea_cons ev_ci (ea_cons ev_ci (ea_cons ev_ci (ea_cons ev_ci (ea_cons ev_ci (ea_cons ev_ci (ea_cons ev_ci (ea_cons ev_ci (ea_cons ev_ci (ea_cons ev_ci (ea_cons ev_ci (ea_cons ev_ci (ea_cons ev_ci (ea_cons ev_ci (ea_cons ev_ci (ea_cons ev_ci (ea_cons ev_ci ea_nil))))))))))))))))))))) fun v W3 l3 hv => ?_
    dsimp only
    exact s_ret (R := anyR PrF int) (ev_sub (ev_ixA (K := K) (n := 20) (ev_var rfl hv) (ev_take (K := K) (ea_cons (ev_vi rfl) (ea_cons ev_ci ea_nil)) (((l1.trans l2).trans l3).r.trans hr0) (by decide) (by decide)) (by decide)) fun _ => prF_some) fun v W4 l4 hv => k v W4 (((l1.trans l2).trans l3).trans l4) hv
  · have h8' : i ≠ 8 := fun e => by
      have := of_decide_eq_false h8.symm
      exact this (by rw [e])
    exact s_ret (R := anyR PrF int) (ev_sub (ev_ixA (K := K) (n := 8) (ps := [(0 : Int), 0, 2, 3, 5, 7, 97, 0]) (ev_lst (ea_cons ev_ci (ea_cons ev_ci (ea_cons ev_ci (ea_cons ev_ci (ea_cons ev_ci (ea_cons ev_ci (ea_cons ev_ci (ea_cons ev_ci ea_nil))))))))) (ev_anyI (ev_vi rfl) ⟨hi.1, by omega⟩) (by decide)) fun _ => prF_few) fun v W4 l4 hv => k v W4 ((l1.trans l2).trans l4) hv
def sp_l_number (K : PySem.W.Frag) : Sp := spG (ι := Addr × Int) (fun x => [is (.ref x.1), int x.2]) (fun W x => W.r = some x.1 ∧ PrF x.2) fun x => anyR (Gd x.2 14) (num K)
theorem num_call {x : Int × Int} {H : Hp} {vs : List V} {P Q : Int → Prop} (h : RpA [anyR P int, anyR Q int] H vs) : ∃ i j, P i ∧ Q j ∧ RpA [int i, int j] H vs := by
  obtain ⟨a, b, rfl, ⟨i, hi, e1⟩, ⟨j, hj, e2⟩⟩ := h.two
  exact ⟨i, j, hi, hj, e1, e2, True.intro⟩
theorem low_okS {t b : Int} (ht : t.natAbs ≤ 10000) (h0 : 1 ≤ b) (h1 : b ≤ 101) : LowOk t b := by
  have e : (16384 : Nat) = pw2 14 := rfl
  have h2 := pow_le (a := 14) (b := 8100) (by decide)
  exact ⟨Nat.lt_of_lt_of_le (show t.natAbs < pw2 14 by omega) h2, Nat.lt_of_lt_of_le (show b.natAbs < pw2 14 by omega) h2, by omega⟩
theorem ok_l_number (T : Tx K mg) : Cal P w K mg base 2 "_law_number" (sp_l_number K) [] := by
  have h_l_take := ok_l_take (P := P) (w := w) (base := base) T
  have h_l_lowest := ok_l_lowest (P := P) (w := w) (base := base) T
  obtain ⟨fd, F⟩ := T.d_l_number
  refine ⟨_, fd, ["_law_room_here", "_law_prime_here"], [], F.ok sc_l_number (spG_len fun _ => rfl) (fun cdv A outer s H vs Q E hr h => ?_), T.g_l_number, F.kp, F.bindsN (fun _ _ _ _ _ _ us hl => match us, hl with | [_, _], _ => rfl), .nil⟩
  obtain ⟨W, ⟨a, p⟩, rfl, ha, ⟨hr0, hp⟩, k⟩ := h
  dsimp only at hr0 hp
  obtain ⟨v0, v1, rfl, rfl, rfl⟩ := ha.two
  refine ⟨_, PSs.nox (pss_cons (ps_if (pt_cmpR op_gt (pv 1) pe_int (nomark _)) (pss_one (ps_ret (pe_tup (pa_cons (pe_c h_l_take hr (by decide) rfl (pa_cons (pv 0) (pa_cons (pv 1) pa_nil))) (pa_cons pe_int pa_nil))))) pss_nil)
    (pss_cons (ps_if (pt_cmpR op_eq (pe_c h_l_take hr (by decide) rfl (pa_cons (pv 0) (pa_cons pe_int pa_nil))) pe_int (nomark _)) (pss_one (ps_ret (pe_c h_l_lowest hr (by decide) rfl (pa_cons (pe_op op_sub (pe_c h_l_take hr (by decide) rfl (pa_cons (pv 0) (pa_cons (pe_op op_mulW pe_int (pe_op op_pow pe_int pe_int)) pa_nil))) (pe_op op_pow pe_int pe_int)) (pa_cons (pe_ix ix_list (pe_lst (pa_cons pe_int (pa_cons pe_int (pa_cons pe_int (pa_cons pe_int pa_nil))))) (pe_c h_l_take hr (by decide) rfl (pa_cons (pv 0) (pa_cons pe_int pa_nil))) (fun _ _ => rfl)) pa_nil))))) pss_nil)
    (pss_one (ps_ret (pe_c h_l_lowest hr (by decide) rfl (pa_cons (pe_op op_sub (pe_c h_l_take hr (by decide) rfl (pa_cons (pv 0) (pa_cons pe_int pa_nil))) pe_int) (pa_cons (pe_ix ix_list (pe_lst (pa_cons pe_int (pa_cons pe_int (pa_cons pe_int (pa_cons pe_int pa_nil))))) (pe_c h_l_take hr (by decide) rfl (pa_cons (pv 0) (pa_cons pe_int pa_nil))) (fun _ _ => rfl)) pa_nil))))))), ?_⟩
  try simp only [cxK, cxW, cxP]
  refine q_when (P := Bo (decide (p > 0))) (by walk_at "ev") (fun h1 W1 l1 => ?_) (fun h1 W1 l1 => ?_)
  · have hp0 : p > 0 := of_decide_eq_true h1.symm
    have hpr : IsPr p := hp.resolve_left (by omega)
    refine s_ret (R := anyR (Gd p 14) (num K)) (Ev.imp (RA := anyR (Gd p 14) (num K)) (R := tupR K [anyR (fun i => 0 ≤ i ∧ i < p) int, int 1]) (ev_tup (ea_cons (ev_take (K := K) (ea_cons (ev_vi rfl) (ea_cons (ev_vi rfl) ea_nil)) (l1.r.trans hr0) (by omega) (by have := hpr.2.1; omega)) (ea_cons (by walk_at "ev") ea_nil))) ?_) fun v W2 l2 hv => k v W2 (l1.trans l2) hv
    rintro W2 v l2 ⟨b, vs, e, h2, h3⟩
    obtain ⟨x, y, rfl, ⟨i, hi, e1⟩, e2⟩ := h3.two
    exact ⟨(i, 1), ⟨.inr ⟨by omega, rfl, hi⟩, fun e => by omega⟩, b, _, e, h2, e1, e2, True.intro⟩
  · have hp0 : p = 0 := by
      rcases hp with h | h
      · exact h
      · have := of_decide_eq_false h1.symm
        have := h.1
        omega
    subst hp0
    refine q_when (P := fun _ => True) (eb_testP (ev_eqA (Pa := fun i => 0 ≤ i ∧ i < 8) (ev_take (K := K) (ea_cons (ev_vi rfl) (ea_cons ev_ci ea_nil)) (l1.r.trans hr0) (by decide) (by decide)) ev_ci fun _ _ => True.intro)) (fun _ W2 l2 => ?_) (fun _ W2 l2 => ?_)
    · have hr2 := (l1.trans l2).r.trans hr0
      refine s_ret (R := anyR (Gd 0 14) (num K)) (ev_callX (as := [anyR (fun i : Int => i.natAbs ≤ 10000) int, anyR (· ∈ [(1 : Int), 7, 100, 101]) int]) (ea_cons (ev_I0A (Pa := fun i => 0 ≤ i ∧ i < 20000) (Pb := fun j => j = 10000) (ev_take (K := K) (m := 20000) (ea_cons (by walk_at "ev") (ea_cons (ev_is (ev_mul (i := 2) (j := 10000) ev_ci (ev_is (ev_pow (i := 10) (j := 4) ev_ci ev_ci ⟨by decide, by decide, by decide⟩) rfl) (cmul_b (by decide) (by decide))) rfl) ea_nil)) hr2 (by decide) (by decide)) (ev_anyI (ev_is (ev_pow (i := 10) (j := 4) ev_ci ev_ci ⟨by decide, by decide, by decide⟩) rfl) rfl) fun i j hi hj => by subst hj; omega) (ea_cons (ev_ixA (K := K) (n := 4) (ps := [(1 : Int), 7, 100, 101]) (ev_lst (ea_cons ev_ci (ea_cons ev_ci (ea_cons ev_ci (ea_cons ev_ci ea_nil))))) (ev_take (K := K) (ea_cons (ev_vi rfl) (ea_cons ev_ci ea_nil)) hr2 (by decide) (by decide)) (by decide)) ea_nil)) ?_) fun v W3 l3 hv => k v W3 ((l1.trans l2).trans l3) hv
      intro W3 vs l3 hvs
      obtain ⟨i, j, hi, hj, h3⟩ := num_call (x := (0, 0)) hvs
      have hj2 : j ∈ [(1 : Int), 7, 100, 101, 2, 3] := by
        simp only [List.mem_cons, List.not_mem_nil, or_false] at hj ⊢
        omega
      exact ⟨(i, j), h3, low_okS hi (by simp at hj; omega) (by simp at hj; omega), fun W4 v hv => ⟨low i j, gd_low hj2 hi, hv⟩⟩
    · have hr2 := (l1.trans l2).r.trans hr0
      refine s_ret (R := anyR (Gd 0 14) (num K)) (ev_callX (as := [anyR (fun i : Int => i.natAbs ≤ 10000) int, anyR (· ∈ [(1 : Int), 1, 2, 3]) int]) (ea_cons (ev_I0A (Pa := fun i => 0 ≤ i ∧ i < 19) (Pb := fun j => j = 9) (ev_take (K := K) (ea_cons (ev_vi rfl) (ea_cons ev_ci ea_nil)) hr2 (by decide) (by decide)) (ev_anyI ev_ci rfl) fun i j hi hj => by subst hj; omega) (ea_cons (ev_ixA (K := K) (n := 4) (ps := [(1 : Int), 1, 2, 3]) (ev_lst (ea_cons ev_ci (ea_cons ev_ci (ea_cons ev_ci (ea_cons ev_ci ea_nil))))) (ev_take (K := K) (ea_cons (ev_vi rfl) (ea_cons ev_ci ea_nil)) hr2 (by decide) (by decide)) (by decide)) ea_nil)) ?_) fun v W3 l3 hv => k v W3 ((l1.trans l2).trans l3) hv
      intro W3 vs l3 hvs
      obtain ⟨i, j, hi, hj, h3⟩ := num_call (x := (0, 0)) hvs
      have hj2 : j ∈ [(1 : Int), 7, 100, 101, 2, 3] := by
        simp only [List.mem_cons, List.not_mem_nil, or_false] at hj ⊢
        omega
      exact ⟨(i, j), h3, low_okS hi (by simp at hj; omega) (by simp at hj; omega), fun W4 v hv => ⟨low i j, gd_low hj2 hi, hv⟩⟩
end
end Fs

set_option Elab.async false
set_option linter.all false
set_option maxRecDepth 100000
set_option maxHeartbeats 2000000
namespace Fs
open PySem PySem.Spec PyProof.Rows L2 C8
def Rel2 {α β : Type} (P : α → β → Prop) : List α → List β → Prop
  | [], [] => True
  | a :: xs, b :: ys => P a b ∧ Rel2 P xs ys
  | [], _ :: _ => False
  | _ :: _, [] => False
theorem Rel2.len {α β : Type} {P : α → β → Prop} : ∀ {xs : List α} {ys : List β}, Rel2 P xs ys → ys.length = xs.length
  | [], [], _ => rfl
  | _ :: xs, _ :: ys, h => by rw [List.length_cons, List.length_cons, Rel2.len h.2]
theorem Rel2.mem {α β : Type} {P : α → β → Prop} : ∀ {xs : List α} {ys : List β}, Rel2 P xs ys → ∀ y ∈ ys, ∃ a ∈ xs, P a y
  | [], [], _, y, h => by simp at h
  | a :: xs, b :: ys, h, y, hy => by
    rcases List.mem_cons.mp hy with rfl | hy
    · exact ⟨a, List.mem_cons_self .., h.1⟩
    · obtain ⟨c, hc, hp⟩ := Rel2.mem h.2 y hy
      exact ⟨c, List.mem_cons_of_mem _ hc, hp⟩
theorem rpa_anyR {α β : Type} {G : β → Rp} {P : α → β → Prop} {H : Hp} : ∀ {xs : List α} {vs : List V}, RpA (xs.map fun a => anyR (P a) G) H vs → ∃ ys, Rel2 P xs ys ∧ RpA (ys.map G) H vs
  | [], [], _ => ⟨[], True.intro, True.intro⟩
  | a :: xs, v :: vs, ⟨⟨b, hb, e⟩, h⟩ => by
    obtain ⟨ys, h1, h2⟩ := rpa_anyR h
    exact ⟨b :: ys, ⟨hb, h1⟩, e, h2⟩
section
variable {K : PySem.W.Frag} {σ : L2.St} {W W' W0 : Wd} {ta tb te : TE} {rs ss : List Rp} {ps : List Int} {l a : Addr} {D : Ends} {tz tu : TS} {t : TT} {R RA : Rp} {vs : List Nat} {g : TG}
/-- [e for x in xs], each e some -/
theorem ev_mapA {α β : Type} {xs : List α} {F : α → Rp} {G : β → Rp} {P : α → β → Prop} {wi : TI} (h : ItW wi σ W (xs.map F)) (hz : xs.length ≤ 100000)
    (hs : ∀ (a : α) (x : V) (W1 : Wd), a ∈ xs → Le W W1 → (F a).p W1.B x → ∀ Q : L2.St → Hp → Prop, (∀ σ2, wipe σ2 vs = wipe σ vs → Ev te σ2 W1 (anyR (P a) G) → Q σ2 W1.H) → g x (wipe σ vs) W1.H Q) :
    Ev (tLc wi g tYes te vs) σ W (anyR (Rel2 P xs) fun ys => lstR K (ys.map G)) :=
  Ev.imp (ev_mapI (K := K) (G := fun a => anyR (P a) G) h hz hs) fun _ _ _ ⟨b, us, e, h1, h2⟩ => by
    obtain ⟨ys, g1, g2⟩ := rpa_anyR h2
    exact ⟨ys, g1, b, us, e, h1, g2⟩
/-- [x for x in xs if ..], the choice not determined -/
theorem ev_filA {α : Type} {xs : List α} {F : α → Rp} {wi : TI} (h : ItW wi σ W (xs.map F)) (hz : xs.length ≤ 100000)
    (hs : ∀ (a : α) (x : V) (W1 : Wd), a ∈ xs → Le W W1 → (F a).p W1.B x → ∀ Q : L2.St → Hp → Prop, (∀ σ2, wipe σ2 vs = wipe σ vs → EvB t σ2 W1 (fun _ => True) → Ev te σ2 W1 (F a) → Q σ2 W1.H) → g x (wipe σ vs) W1.H Q) :
    Ev (tLc wi g t te vs) σ W (anyR (fun ys : List α => ys.Sublist xs) fun ys => lstR K (ys.map F)) := by
  refine Ev.imp (ev_lcI (K := K) (fun i acc => ∃ ys, acc = ys.map F ∧ ys.Sublist (xs.take i)) h (by rw [List.length_map]; exact hz) ⟨[], rfl, by simp⟩ ?_) ?_
  · rintro i r x W1 acc hi l hx ⟨ys, rfl, hsub⟩ Q q
    obtain ⟨_, a, ha, rfl, hm⟩ := take_snoc hi
    refine hs a x W1 hm l hx Q fun σ2 hw hb he => q σ2 hw ⟨fun _ => True, F a, hb, fun _ => ⟨he, ys ++ [a], by rw [List.map_append]; rfl, ?_⟩, fun _ => ⟨ys, rfl, ?_⟩⟩
    · rw [List.take_add_one, ha]
      exact hsub.append (List.Sublist.refl _)
    · rw [List.take_add_one]
      exact hsub.trans (List.sublist_append_left _ _)
  · rintro W1 v l ⟨acc, ⟨ys, rfl, hsub⟩, hv⟩
    rw [List.length_map, List.take_length] at hsub
    exact ⟨ys, hsub, hv⟩
theorem ev_cbA {α : Type} {rc : List V → Hp → VK → Prop} {P : α → Prop} {f : α → Rp} (h : Ev ta σ W (anyR P f)) (k : ∀ a x W1, Le W W1 → P a → (f a).p W1.B x → Ev (tCB rc (tCons (tC x) tNil)) σ W1 R) : Ev (tCB rc (tCons ta tNil)) σ W R := fun W1 l Q q =>
  h W1 l _ fun v W2 l2 ⟨a, ha, hv⟩ => k a v W2 (l.trans l2) ha hv W2 (Le.refl _) Q fun u W3 l3 hu => q u W3 (l2.trans l3) hu
/-- for x in range(e), e not determined -/
theorem q_forA {P : Int → Prop} {tb : TS} (h : Ev te σ W (anyR P int)) (k : ∀ m W1, Le W W1 → P m → tSeq (tFor (iRng1 (tCons (tC (.int m)) tNil)) g tb) tz D σ W1.H) : tSeq (tFor (iRng1 (tCons te tNil)) g tb) tz D σ W.H :=
  h W (Le.refl _) _ fun v W1 l ⟨m, hm, e⟩ => by
    cases e
    exact k m W1 l hm
theorem s_appA {α : Type} {P : α → Prop} {f : α → Rp} {i : Nat} (hi : σ[i]? = some (some (.ref l))) (L : LocL W l rs) (h : Ev te σ W (anyR P f)) (hz : rs.length < 100000) (k : ∀ a W1, P a → Up l W W1 → LocL W1 l (rs ++ [f a]) → D.nx σ W1.H) : tDrop (tBM K "list" rAppend (tVar i) (tCons te tNil)) D σ W.H := by
  refine ⟨_, hi, ?_, ?_⟩
  · obtain ⟨b, r, vs, h1, h2⟩ := L
    exact tyl h1
  · refine h W (Le.refl _) _ fun v W1 l1 ⟨a, ha, hv⟩ => ?_
    obtain ⟨b, r, vs, h1, h2⟩ := L.le l1
    exact ⟨l, vs, v, rfl, rfl, h1, by rw [h2.len]; exact Nat.lt_trans hz (by decide), k a (W1.mut l (.lst (vs ++ [v])) b r ⟨_, h1, nl_lst⟩) ha (l1.up.trans (W1.mut_up b r ⟨_, h1, nl_lst⟩)) ⟨b, r, _, upd_same, h2.snoc hv⟩⟩
theorem q_appA {α : Type} {P : α → Prop} {f : α → Rp} {i : Nat} (hi : σ[i]? = some (some (.ref l))) (L : LocL W l rs) (h : Ev te σ W (anyR P f)) (hz : rs.length < 100000) (k : ∀ a W1, P a → Up l W W1 → LocL W1 l (rs ++ [f a]) → tz D σ W1.H) : tSeq (tDrop (tBM K "list" rAppend (tVar i) (tCons te tNil))) tz D σ W.H := s_appA (D := { D with nx := tz D }) hi L h hz k
theorem ev_termA {q : List Int} {P : Num → Prop} (h1 : Ev ta σ W (prod q)) (h2 : Ev tb σ W (anyR P (num K))) : Ev (tTup (tCons ta (tCons tb tNil))) σ W (anyR (fun t : Tm => t.1 = q ∧ P t.2) (term K)) :=
  Ev.imp (ev_tup (K := K) (ea_cons h1 (ea_cons h2 ea_nil))) fun _ _ _ ⟨b, us, e, g1, g2⟩ => by
    obtain ⟨x, y, rfl, hx, n, hn, hy⟩ := g2.two
    exact ⟨(q, n), ⟨rfl, hn⟩, b, _, e, g1, hx, hy, True.intro⟩
theorem s_retL {l : Addr} {i : Nat} (hi : σ[i]? = some (some (.ref l))) (k : D.rt (.ref l) W.H) : tRet (tVar i) D σ W.H := ⟨_, hi, k⟩
end
theorem upTo_pd {n : Int} {ys : List Int} (h0 : 0 ≤ n) (h : ys.Sublist (upTo 0 n.toNat)) : PdOk n ys := ⟨upTo_rising.sublist h, fun i hi => by
  have := mem_upTo.mp (h.subset hi)
  omega⟩
def dTrip (t : Tm) : PyData := .tuple [.int (t.1.length : Int), .tuple (t.1.map .int), dNum t.2]
theorem trip_lt {a b : Tm} (h : a.1 ≠ b.1) : PySem.W.dataLt (dTrip a) (dTrip b) = keyLt a.1 b.1 := by
  rw [← keyD_lt]
  unfold dTrip keyD
  have e1 : ∀ (xs ys : List PyData), PyProof.Rows.lexLt itemOrd (PySem.W.keyToksAll (.int (a.1.length : Int) :: xs)) (PySem.W.keyToksAll (.int (b.1.length : Int) :: ys)) = _ := fun xs ys => PySem.W.dataLt_cons (by simp [PySem.W.alike]) xs ys
  have e2 : ∀ (xs ys : List PyData), PyProof.Rows.lexLt itemOrd (PySem.W.keyToksAll (.tuple (a.1.map .int) :: xs)) (PySem.W.keyToksAll (.tuple (b.1.map .int) :: ys)) = _ := fun xs ys => PySem.W.dataLt_cons (by simp [PySem.W.alike, PySem.W.alike_ints]) xs ys
  rw [PySem.W.dataLt_tuple, PySem.W.dataLt_tuple]
  simp only [e1, e2, eqv_tupI, decide_eq_false h]
  simp
theorem lt_self (d : PyData) : PySem.W.dataLt d d = false := by open PySem.W PySem.SeqAt in exact lex_irrefl _
theorem trip_le {xs : List Tm} (hn : (xs.map (·.1)).Nodup) {a b : Tm} (ha : a ∈ xs) (hb : b ∈ xs) : (!PySem.W.dataLt (dTrip b) (dTrip a)) = !keyLt b.1 a.1 := by
  by_cases e : b.1 = a.1
  · have h1 := val_some hn ha
    have h2 := val_some hn hb
    rw [e, h1] at h2
    have : b = a := Prod.ext e (Option.some.inj h2).symm
    subst this
    rw [lt_self]
    have : keyLt b.1 b.1 = false := by
      rw [← keyD_lt]; exact lt_self _
    rw [this]
  · rw [trip_lt e]
theorem trip_alike (a b : Tm) : PySem.W.alike (dTrip a) (dTrip b) = true := by
  simp [dTrip, dNum, PySem.W.alike, PySem.W.alike_ints, PySem.W.alikeAll]
def trip (K : PySem.W.Frag) (t : Tm) : Rp := tupR K [int (t.1.length : Int), prod t.1, num K t.2]
theorem dt_trip {K : PySem.W.Frag} {t : Tm} : Dt K 2 (trip K t) (dTrip t) := dt_tup (n := 1) ⟨dt_int, dt_prod, dt_num, True.intro⟩
local macro_rules | `(tactic| walk_at "up") => `(tactic| first
  | assumption
  | ((refine Rp.mono _ (by assumption : Same _ _) ?_); walk_at "up")
  | ((refine Rp.mono _ (Le.b (by assumption)) ?_); walk_at "up"))
local macro_rules | `(tactic| walk_at "ev") => `(tactic| first
  | ((with_reducible refine' ev_var ?h1 ?h2); (case h1 => rfl); (case h2 => walk_at "up"))
  | ((with_reducible refine' ev_vi ?h1); (case h1 => rfl))
  | with_reducible exact ev_ci
  | ((with_reducible refine' ev_get0 ?ea); (case ea => walk_at "ev"))
  | ((with_reducible refine' ev_get1 ?ea); (case ea => walk_at "ev"))
  | ((with_reducible refine' ev_I0 ?ea ?eb); (case ea => walk_at "ev"); (case eb => walk_at "ev"))
  | ((with_reducible refine' ev_notV ?ea); (case ea => walk_at "ev"))
  | ((with_reducible refine' eb_test ?ea); (case ea => walk_at "ev"))
  | ((with_reducible refine' eb_B ?ea); (case ea => walk_at "ev"))
  | ((with_reducible refine' eb_not ?ea); (case ea => walk_at "ev"))
  | ((with_reducible refine' ev_eq ?ea ?eb ?ec); (case ea => walk_at "ev"); (case eb => walk_at "ev"); (case ec => rfl))
  | ((with_reducible refine' ev_ne ?ea ?eb ?ec); (case ea => walk_at "ev"); (case eb => walk_at "ev"); (case ec => rfl))
  | ((with_reducible refine' ev_chainI ?ea ?eb ?ec); (case ea => walk_at "ev"); (case eb => walk_at "ev"); (case ec => walk_at "ev"))
  | with_reducible exact ea_nil
  | ((with_reducible refine' ea_cons ?ea ?eb); (case ea => walk_at "ev"); (case eb => walk_at "ev")))
section
variable {P : Program} {w : World} {K : PySem.W.Frag} {mg : Str → Option Value} {base : Heap}
def sp_l_product (K : PySem.W.Frag) : Sp := spG (ι := Addr × Int × Int) (fun x => [is (.ref x.1), int x.2.1, int x.2.2]) (fun W x => W.r = some x.1 ∧ 0 ≤ x.2.1 ∧ x.2.1 ≤ 60 ∧ 1 ≤ x.2.2 ∧ x.2.2 ≤ 1000) fun x => anyR (PdOk x.2.1) prod
theorem ok_l_product (T : Tx K mg) : Cal P w K mg base 2 "_law_product" (sp_l_product K) [] := by
  have h_l_take := ok_l_take (P := P) (w := w) (base := base) T
  obtain ⟨fd, F⟩ := T.d_l_product
  refine ⟨_, fd, ["_law_room_here", "_law_many", "_law_share"], [], F.ok sc_l_product (spG_len fun _ => rfl) (fun cdv A outer s H vs Q E hr h => ?_), T.g_l_product, F.kp, F.bindsN (fun _ _ _ _ _ _ us hl => match us, hl with | [_, _, _], _ => rfl), .nil⟩
  obtain ⟨W, ⟨a, n, s'⟩, rfl, ha, ⟨hr0, hn0, hn, hs0, hs⟩, k⟩ := h
  dsimp only at hr0 hn0 hn hs0 hs
  obtain ⟨v0, v1, v2, rfl, rfl, rfl, rfl⟩ := ha.three
  refine ⟨_, PSs.nox (pss_one (ps_ret (pe_callTy call_tuple_of (by rfl) T.b_tuple (by decide +kernel) (pa_cons (pe_lc (own := [("_law_place", 3)]) rfl sc_l_product.nd (pi_range1 (by rfl) T.b_range (pa_cons (pv 1) pa_nil)) (blkOk_by (N := ["_law_room_here", "_law_many", "_law_share", "_law_place"]) (sc := defScope s_l_product) (by decide +kernel)) (fun _ _ _ _ _ => (pg_name (i := 3) sc_l_product.nd rfl (Or.inl rfl))) (fun _ _ _ _ _ => (pts_one (pt_cmpR op_eq (pe_c h_l_take hr (by decide) rfl (pa_cons (pv 0) (pa_cons (pv 2) pa_nil))) pe_int (nomark _)))) (fun _ _ _ _ _ => (pv 3))) pa_nil)))), ?_⟩
  try simp only [cxK, cxW, cxP]
  refine s_ret (R := anyR (PdOk n) prod) (ev_cbA (P := fun ys : List Int => ys.Sublist (upTo 0 n.toNat)) (f := fun ys => lstR K (ys.map int)) (ev_filA (F := int) (xs := upTo 0 n.toNat) (it_rng1 (ea_cons (by walk_at "ev") ea_nil) (by omega)) (by rw [upTo_len]; omega) ?_) fun ys x W1 l1 hys hx => ev_any (ev_tupOfI (ns := ys) (ev_c hx)) (upTo_pd hn0 hys)) k
  intro i x W1 hi l1 hx Q q
  exact g_name (q _ rfl (eb_testP (ev_eqA (Pa := fun i => 0 ≤ i ∧ i < s') (ev_take (K := K) (ea_cons (ev_vi rfl) (ea_cons (ev_vi rfl) ea_nil)) (l1.r.trans hr0) hs0 (by omega)) ev_ci fun _ _ => True.intro)) (ev_var rfl hx))
/-- (room, p, places, most) -/
abbrev IM := Addr × Int × Int × Int
def sp_l_terms (K : PySem.W.Frag) : Sp := spL (ι := IM) (β := List Tm) (fun x => [is (.ref x.1), int x.2.1, int x.2.2.1, int x.2.2.2]) (fun W x => W.r = some x.1 ∧ PrF x.2.1 ∧ 0 ≤ x.2.2.1 ∧ x.2.2.1 ≤ 60 ∧ 0 ≤ x.2.2.2 ∧ x.2.2.2 ≤ 30) (fun x r => RowOk x.2.1 x.2.2.1 14 r ∧ (r.length : Int) ≤ x.2.2.2) fun r => r.map (term K)
theorem RowOk.snoc {p n : Int} {j : Nat} {r : List Tm} {t : Tm} (h : RowOk p n j r) (g : TmOk p n j t) : RowOk p n j (r ++ [t]) := fun u hu => by
  rcases List.mem_append.mp hu with hu | hu
  · exact h u hu
  · rw [List.mem_singleton.mp hu]; exact g
theorem ok_l_terms (T : Tx K mg) : Cal P w K mg base 3 "_law_terms" (sp_l_terms K) [] := by
  have h_l_take := ok_l_take (P := P) (w := w) (base := base) T
  have h_l_product := ok_l_product (P := P) (w := w) (base := base) T
  have h_l_number := ok_l_number (P := P) (w := w) (base := base) T
  obtain ⟨fd, F⟩ := T.d_l_terms
  refine ⟨_, fd, ["_law_room_here", "_law_prime_here", "_law_many", "_law_most"], [], F.ok sc_l_terms (spL_len fun _ => rfl) (fun cdv A outer s H vs Q E hr h => ?_), T.g_l_terms, F.kp, F.bindsN (fun _ _ _ _ _ _ us hl => match us, hl with | [_, _, _, _], _ => rfl), .nil⟩
  obtain ⟨W, ⟨a, p, n, m⟩, rfl, ha, ⟨hr0, hp, hn0, hn, hm0, hm⟩, k⟩ := h
  dsimp only at hr0 hp hn0 hn hm0 hm
  obtain ⟨v0, v1, v2, v3, rfl, rfl, rfl, rfl, rfl⟩ := ha.four
  refine ⟨_, PSs.nox (pss_cons (ps_set (i := 4) sc_l_terms.nd rfl (Or.inl rfl) (pe_lst pa_nil))
    (pss_cons (ps_for PassesOwn.never rfl (pi_range1 (by rfl) T.b_range (pa_cons (pe_c h_l_take hr (by decide) rfl (pa_cons (pv 0) (pa_cons (pe_op op_add (pv 3) pe_int) pa_nil))) pa_nil)) (pg_name (i := 5) sc_l_terms.nd rfl (Or.inl rfl)) (pss_cons (ps_set (i := 6) sc_l_terms.nd rfl (Or.inl rfl) (pe_c h_l_product hr (by decide) rfl (pa_cons (pv 0) (pa_cons (pv 2) (pa_cons (pe_op op_add pe_int (pe_c h_l_take hr (by decide) rfl (pa_cons (pv 0) (pa_cons pe_int pa_nil)))) pa_nil)))))
    (pss_one (ps_expr (pe_bm PySem.F.plainAttrs_list PySem.F.slot_list_append PySem.F.type_list_append mt_append (pv 4) (pa_cons (pe_tup (pa_cons (pv 6) (pa_cons (pe_c h_l_number hr (by decide) rfl (pa_cons (pv 0) (pa_cons (pv 1) pa_nil))) pa_nil))) pa_nil))))))
    (pss_one (ps_ret (pv 4))))), ?_⟩
  try simp only [cxK, cxW, cxP]
  refine q_newL (rs := []) ea_nil (by decide) fun l W1 s1 l1 fr L1 => ?_
  refine q_forA (P := fun i => 0 ≤ i ∧ i < m + 1) (ev_take (K := K) (ea_cons (ev_vi rfl) (ea_cons (ev_I0 (by walk_at "ev") ev_ci) ea_nil)) (l1.r.trans hr0) (by omega) (by omega)) fun c W2 l2 hc => ?_
  have l12 := l1.trans l2
  refine q_forI (it_rng1 (n := c) (ea_cons ev_ci ea_nil) (by omega)) (fun i σ' W' => ∃ (o5 o6 : Option V) (r : List Tm), σ' = [some (.ref a), some (.int p), some (.int n), some (.int m), some (.ref l), o5, o6] ∧ Le W W' ∧ LocL W' l (r.map (term K)) ∧ RowOk p n 14 r ∧ r.length = i) (fun W3 l3 => ⟨none, none, [], rfl, l12.trans l3, (L1.le l2).le l3, fun t ht => by simp at ht, rfl⟩) ?_ ?_
  · rintro i r0 x σ' W' W4 N hi s ⟨o5, o6, r, rfl, lw, L, hro, hlen⟩ l4 hx nx
    have hlw := lw.trans l4
    have hil : i < c.toNat := by
      have := (List.getElem?_eq_some_iff.mp hi).1
      rwa [List.length_map, upTo_len] at this
    refine g_name ?_
    refine q_asg (R := anyR (PdOk n) prod) (ev_callX (as := [is (.ref a), int n, anyR (fun i => 2 ≤ i ∧ i < 4) int]) (ea_cons (ev_vi rfl) (ea_cons (ev_vi rfl) (ea_cons (ev_I0A (Pa := fun i => i = 2) (Pb := fun i => 0 ≤ i ∧ i < 2) (ev_anyI ev_ci rfl) (ev_take (K := K) (ea_cons (ev_vi rfl) (ea_cons ev_ci ea_nil)) (hlw.r.trans hr0) (by decide) (by decide)) fun i j hi hj => by omega) ea_nil))) fun W5 vs l5 hvs => ?_) fun v W5 l5 hv => ?_
    · obtain ⟨u0, u1, u2, rfl, e0, e1, z, hz, e2⟩ := hvs.three
      exact ⟨(a, n, z), ⟨e0, e1, e2, True.intro⟩, ⟨(hlw.trans l5).r.trans hr0, hn0, hn, by show 1 ≤ z; omega, by show z ≤ 1000; omega⟩, fun _ _ h => h⟩
    · obtain ⟨q, hq, hv⟩ := hv
      refine s_appA (P := fun t : Tm => t.1 = q ∧ Gd p 14 t.2) (f := term K) rfl ((L.le l4).le l5) (ev_termA (ev_var rfl hv) (ev_call (x := (a, p)) (as := [is (.ref a), int p]) (ea_cons (ev_vi rfl) (ea_cons (ev_vi rfl) ea_nil)) rfl fun W6 l6 => ⟨((hlw.trans l5).trans l6).r.trans hr0, hp⟩)) (by rw [List.length_map]; omega) fun t W6 ht u6 L6 => ?_
      refine nx _ W6 (l5.b.trans u6.b) ⟨_, _, r ++ [t], rfl, u6.le (hlw.trans l5) fr, ?_, hro.snoc ⟨by rw [ht.1]; exact hq, ht.2⟩, by rw [List.length_append, hlen]; rfl⟩
      rw [List.map_append]
      exact L6
  · rintro σ' W' s ⟨o5, o6, r, rfl, lw, L, hro, hlen⟩
    rw [List.length_map, upTo_len] at hlen
    exact s_retL rfl (k r l W' lw fr ⟨hro, by show (r.length : Int) ≤ m; omega⟩ L)
def GaOk (x : IT) : Prop := PrOk x.1 ∧ x.2.1 ≤ 60 ∧ x.2.2.1 ≤ 190 ∧ RowOk x.1 x.2.1 x.2.2.1 x.2.2.2 ∧ x.2.2.2.length ≤ 256
def sp_l_gather (K : PySem.W.Frag) : Sp := spG (ι := IT) (fun x => [int x.1, rows K x.2.2.2]) (fun W x => GaOk x) fun x => rows K (gath x.1 x.2.2.2)
theorem ok_l_gather (T : Tx K mg) : Cal P w K mg base 4 "_law_gather" (sp_l_gather K) [] := by
  have h_l_plus := ok_l_plus (P := P) (w := w) (base := base) T
  obtain ⟨fd, F⟩ := T.d_l_gather
  refine ⟨_, fd, ["_law_prime_here", "_law_terms_here"], [], F.ok sc_l_gather (spG_len fun _ => rfl) (fun cdv A outer s H vs Q E hr h => ?_), T.g_l_gather, F.kp, F.bindsN (fun _ _ _ _ _ _ us hl => match us, hl with | [_, _], _ => rfl), .nil⟩
  obtain ⟨W, ⟨p, n, j, ts⟩, rfl, ha, ⟨hpo, hn, hj, hr0, hz⟩, k⟩ := h
  dsimp only at hpo hn hj hr0 hz
  obtain ⟨v0, v1, rfl, rfl, h1⟩ := ha.two
  dsimp only at h1
  refine ⟨_, PSs.nox (pss_cons (ps_set (i := 2) sc_l_gather.nd rfl (Or.inr rfl) pe_dnewT)
    (pss_cons (ps_for PassesOwn.never rfl (pi_list (pv 1)) (pg_tup rfl (pgs_cons (pg_name (i := 3) sc_l_gather.nd rfl (Or.inl rfl)) (pgs_cons (pg_name (i := 4) sc_l_gather.nd rfl (Or.inl rfl)) pgs_nil))) (pss_one (ps_dput (hu_of hr) (pv 2) (pv 3) (pe_c h_l_plus hr (by decide) rfl (pa_cons (pv 0) (pa_cons (pe_dget2 (hu_of hr) (pv 2) (pv 3) (pe_tup (pa_cons pe_int (pa_cons pe_int pa_nil))) ⟨rfl, rfl, rfl, rfl⟩) (pa_cons (pv 4) pa_nil)))) rfl)))
    (pss_cons (ps_frz (ps_setLc (i := 5) (own := [("_law_product_here", 3)]) rfl sc_l_gather.nd rfl rfl (sw_true rfl rfl rfl (by decide +kernel)) (pi_keys (pv 2)) (blkOk_by (N := ["_law_prime_here", "_law_terms_here", "_law_found", "_law_product_here", "_law_number_here", "_law_rows", "_law_many"]) (sc := defScope s_l_gather) (by decide +kernel)) (fun _ _ _ _ _ => (pg_name (i := 3) sc_l_gather.nd rfl (Or.inl rfl))) (fun _ _ _ _ _ => (pts_one (pt_cmpR (op_neD hr.units : OpR _ _ (rNeD K)) (pe_dget (hu_of hr) (pv 2) (pv 3) (fun _ _ => rfl)) (pe_tup (pa_cons pe_int (pa_cons pe_int pa_nil))) (nomark _)))) (fun _ _ _ _ _ => (pe_tup (pa_cons (pe_callB (call_len_seq : CallR _ _ (rLenQ K)) (by rfl) T.b_len (by decide +kernel) (pa_cons (pv 3) pa_nil)) (pa_cons (pv 3) (pa_cons (pe_dget (hu_of hr) (pv 2) (pv 3) (fun _ _ => rfl)) pa_nil)))))))
    (pss_one (ps_ret (pe_lc (own := [("_law_many", 6), ("_law_product_here", 3), ("_law_number_here", 4)]) rfl sc_l_gather.nd (pi_list (pe_callB (cr_sortD hr.units) (by rfl) T.b_sorted (by decide +kernel) (pa_cons (pv 5) pa_nil))) (blkOk_by (N := ["_law_prime_here", "_law_terms_here", "_law_found", "_law_product_here", "_law_number_here", "_law_rows", "_law_many"]) (sc := defScope s_l_gather) (by decide +kernel)) (fun _ _ _ _ _ => (pg_tup (n := 3) rfl (pgs_cons (pg_name (i := 6) sc_l_gather.nd rfl (Or.inl rfl)) (pgs_cons (pg_name (i := 3) sc_l_gather.nd rfl (Or.inl rfl)) (pgs_cons (pg_name (i := 4) sc_l_gather.nd rfl (Or.inl rfl)) pgs_nil))) : PG _ _ (gTup K 3 _))) (fun _ _ _ _ _ => pts_nil) (fun _ _ _ _ _ => (pe_tup (pa_cons (pv 3) (pa_cons (pv 4) pa_nil)))))))))), ?_⟩
  try simp only [cxK, cxW, cxP]
  refine q_newD (K := K) fun l W1 s1 l1 fr L1 => ?_
  refine q_forI (it_list (K := K) (rs := ts.map (term K)) (ev_var rfl (Rp.mono _ l1.b h1))) (fun i σ' W' => ∃ o1 o2 : Option V, σ' = [some (.int p), some v1, some (.ref l), o1, o2, none, none] ∧ Le W W' ∧ LocD K W' l (accum p (ts.take i))) (fun W3 l3 => ⟨none, none, rfl, l1.trans l3, L1.le l3⟩) ?_ ?_
  · rintro i r x σ' W' W4 N hi s ⟨o1, o2, rfl, lw, L⟩ l4 hx nx
    obtain ⟨t, ht, rfl, hm⟩ := map_at hi
    have hac := accum_ok0 hpo (hr0.take i)
    have hlen : (ts.take i).length ≤ 256 := Nat.le_trans (by rw [List.length_take]; omega) hz
    have hal := accum_len0 (p := p) (ts := ts.take i)
    refine g_pair hx fun x1 x2 hx1 hx2 => ?_
    have hgd : Gc p j 256 ((valD (accum p (ts.take i)) t.1).getD (0, 1)) := by
      cases e : valD (accum p (ts.take i)) t.1 with
      | none => exact gd_zero hpo
      | some m => exact (hac.2 _ (val_mem e)).2.mono hlen
    have L4 := L.le l4
    refine s_dput (K := K) (d := accum p (ts.take i)) (q := t.1) (n := nplus p ((valD (accum p (ts.take i)) t.1).getD (0, 1)) t.2) rfl L4 (ev_call (x := (p, (valD (accum p (ts.take i)) t.1).getD (0, 1), t.2)) (as := [int p, num K ((valD (accum p (ts.take i)) t.1).getD (0, 1)), num K t.2]) (ea_cons (ev_vi rfl) (ea_cons (ev_dget2 (K := K) (dn := (0, 1)) rfl L4 (ev_var rfl hx1) (ev_tup (ea_cons ev_ci (ea_cons ev_ci ea_nil)))) (ea_cons (ev_var rfl hx2) ea_nil))) rfl fun _ _ => ⟨hpo, hgd.1.l, (hr0 t hm).2.1.l, (hgd.up (k := 8) (by decide)).sz hpo (by omega), (hr0 t hm).2.sz hpo (by omega)⟩) (ev_var rfl hx1) (by omega) fun W5 u5 L5 => ?_
    refine nx _ W5 u5.b ⟨_, _, rfl, u5.le (lw.trans l4) fr, ?_⟩
    rw [accum_take ht]
    exact L5
  · rintro σ' W' s ⟨o1, o2, rfl, lw, L⟩
    have e : ts.take (ts.map (term K)).length = ts := by rw [List.length_map, List.take_length]
    rw [e] at L
    have hac := accum_ok0 hpo hr0
    refine q_frz L fun W2 u2 hd => ?_
    have hal := accum_len0 (p := p) (ts := ts)
    have lw2 := u2.le lw fr
    refine q_asg (R := lstR K (((accum p ts).filter nz).map (trip K))) (ev_filI (F := fun t : Tm => prod t.1) (G := trip K) (xs := accum p ts) (p := nz) (it_keys (K := K) (ev_var rfl hd)) (by omega) ?_) ?_
    · intro t x W3 hm l3 hx Q q
      have hg : ∀ {σ2 : L2.St}, σ2[2]? = some (some (.ref l)) → σ2[3]? = some (some x) → Ev (tDGet (tVar 2) (tVar 3)) σ2 W3 (num K t.2) := fun e1 e2 => ev_dget (K := K) (d := accum p ts) (q := t.1) (ev_var e1 (Rp.mono _ l3.b hd)) (ev_var e2 hx) (val_some hac.1 hm)
      refine g_name (q _ rfl (eb_is (eb_test (ev_neD (RA := num K t.2) (RB := num K (0, 1)) (hg rfl rfl) (ev_tup (ea_cons ev_ci (ea_cons ev_ci ea_nil))) dt_num dt_num (by decide) (by decide))) ?_) fun _ => ?_)
      · rw [eqv_num]; rfl
      · exact ev_tup (ea_cons (ev_is (ev_lenT (K := K) (rs := t.1.map int) (ev_prodT (ev_var rfl hx))) (by rw [List.length_map])) (ea_cons (ev_var rfl hx) (ea_cons (hg rfl rfl) ea_nil)))
    · intro v5 W3 l3 hv5
      have hfl : ((accum p ts).filter nz).length ≤ 256 := Nat.le_trans (List.length_filter_le ..) (by omega)
      have hnf : (((accum p ts).filter nz).map (·.1)).Nodup := hac.1.sublist (List.Sublist.map _ List.filter_sublist)
      refine s_ret (R := rows K (gath p ts)) (ev_mapI (F := trip K) (G := term K) (xs := gath p ts) (it_list (K := K) (ev_sortD (K := K) (F := trip K) (G := dTrip) (n := 2) (xs := (accum p ts).filter nz) (le := fun a b => !keyLt b.1 a.1) (ev_var rfl hv5) (fun _ => dt_trip) (by decide) trip_alike (fun _ => ⟨_, _, rfl⟩) (by omega) fun a ha b hb => trip_le hnf ha hb)) (Nat.le_trans gath_len (by omega)) ?_) fun v W4 l4 hv => k v W4 ((lw2.trans l3).trans l4) hv
      intro t x W4 hm l4 hx Q q
      exact g_triple hx fun x1 x2 x3 h1 h2 h3 => q _ rfl (ev_tup (ea_cons (ev_var rfl h2) (ea_cons (ev_var rfl h3) ea_nil)))
end
end Fs

set_option Elab.async false
set_option linter.all false
set_option maxRecDepth 100000
set_option maxHeartbeats 2000000
namespace Fs
open PySem PySem.Spec PyProof.Rows L2 C8
/-- what stood frozen may change again -/
def Wd.unf (W : Wd) (l : Addr) : Wd where
  B := fun b => if b = l then none else W.B b
  H := W.H
  r := W.r
  T := W.T
  ex := fun b u e => by
    dsimp only at e
    by_cases z : b = l
    · rw [if_pos z] at e; cases e
    · rw [if_neg z] at e; exact W.ex b u e
  room := fun a e => by
    obtain ⟨h1, h2⟩ := W.room a e
    refine ⟨?_, h2⟩
    by_cases z : a = l
    · rw [if_pos z]
    · rw [if_neg z]; exact h1
  nb := fun b u e => by
    by_cases z : b = l
    · rw [if_pos z] at e; cases e
    · rw [if_neg z] at e; exact W.nb b u e
  tb := W.tb
section
variable {K : PySem.W.Frag} {σ : L2.St} {W W' W0 : Wd} {ta tb te : TE} {rs ss : List Rp} {ps : List Int} {l a : Addr} {D : Ends} {tz tu : TS} {t : TT} {R RA : Rp} {n : Num}
/-- a list that is being made is read by a call that gives a number -/
theorem ev_borrow (L : LocL W l rs) (h : ∀ W1 W2 : Wd, Le W W1 → Up l W1 W2 → (lstR K rs).p W2.B (.ref l) → Ev te σ W2 (num K n)) : Ev te σ W (num K n) := fun W1 l1 Q q => by
  obtain ⟨b, r, vs, g1, g2⟩ := L.le l1
  have e : (W1.frz l _ g1 r).B l = some (.lst vs) := upd_same
  refine h W1 (W1.frz l _ g1 r) l1 (Wd.frz_up g1 r b) ⟨l, vs, rfl, e, g2.mono (Wd.frz_b g1 r b)⟩ (W1.frz l _ g1 r) (Le.refl _) Q fun v W3 l3 hv => ?_
  have e3 := l3.b _ _ e
  refine q v (W3.unf l) ⟨?_, l3.h, ?_, l3.r, l3.t⟩ ?_
  · intro c u hc
    have z : c ≠ l := ne_of_none hc b
    show (if c = l then none else W3.B c) = some u
    rw [if_neg z]
    exact l3.b c u (by show upd W1.B l _ c = some u; rw [upd_ne z]; exact hc)
  · intro c o hc ho n1 n2
    show (if c = l then none else W3.B c) = none
    by_cases z : c = l
    · rw [if_pos z]
    · rw [if_neg z]
      exact l3.n c o (by show upd W1.B l _ c = none; rw [upd_ne z]; exact hc) ho n1 n2
  · obtain ⟨d, us, ed, hd, hr⟩ := hv
    have hz : ∀ (u : HO), (∀ xs, u ≠ .lst xs) → W3.B d = some u → (W3.unf l).B d = some u := fun u hu hb => by
      show (if d = l then none else W3.B d) = some u
      rw [if_neg (fun z => by subst z; rw [e3] at hb; exact hu vs (Option.some.inj hb).symm)]
      exact hb
    refine ⟨d, us, ed, ?_, ?_⟩
    · rcases hd with (hd | ⟨o, hd⟩) | hd
      · exact .inl (.inl (hz _ (fun _ z => nomatch z) hd))
      · exact .inl (.inr ⟨o, hz _ (fun _ z => nomatch z) hd⟩)
      · exact .inr hd
    · obtain ⟨x, y, rfl, h1, h2⟩ := hr.two
      exact ⟨h1, h2, True.intro⟩
theorem ev_notN {ps : List Int} (h : Ev ta σ W (prod ps)) : Ev (tOp rNotN ta (tC .non)) σ W (bl true) := ev_op h ev_ci fun u v W1 _ hu hv W2 _ Q q => ⟨hv, by
  obtain ⟨a, rfl, _⟩ := hu
  exact q _ W2 (Le.refl _) rfl⟩
end
theorem all_filter {fs q : List Int} (h : ∀ i ∈ q, at_ fs i = 0 ∨ at_ fs i = 1) : decide (q.filter (fun i => decide (at_ fs i = 0)) = []) = hasAll fs q := by
  unfold hasAll
  rw [List.all_map]
  rw [Bool.eq_iff_iff, decide_eq_true_iff, List.filter_eq_nil_iff, List.all_eq_true]
  constructor
  · intro z i hi
    have := z i hi
    have h2 := h i hi
    show decide (at_ fs i = 1) = true
    rw [decide_eq_true_eq] at this ⊢
    exact h2.resolve_left this
  · intro z i hi
    have : decide (at_ fs i = 1) = true := z i hi
    rw [decide_eq_true_eq] at this ⊢
    omega
theorem fil_at {fs : List Int} {i : Int} (h : FilOk fs) (h0 : 0 ≤ i) (h1 : i < fs.length) : at_ fs i = 0 ∨ at_ fs i = 1 := h _ (at_mem h0 h1)
def allF : Nat → List (List Int)
  | 0 => [[]]
  | k + 1 => (allF k).flatMap fun r => [r ++ [0], r ++ [1]]
theorem allF_ok : ∀ {k : Nat} {r : List Int}, r ∈ allF k → r.length = k ∧ FilOk r
  | 0, r, h => by
    unfold allF at h
    rw [List.mem_singleton] at h
    subst h
    exact ⟨rfl, fun i hi => by simp at hi⟩
  | k + 1, r, h => by
    unfold allF at h
    obtain ⟨s, hs, hm⟩ := List.mem_flatMap.mp h
    obtain ⟨h1, h2⟩ := allF_ok hs
    simp only [List.mem_cons, List.not_mem_nil, or_false] at hm
    rcases hm with rfl | rfl
    · exact ⟨by rw [List.length_append, h1]; rfl, fun i hi => by
        rcases List.mem_append.mp hi with hi | hi
        · exact h2 i hi
        · exact .inl (List.mem_singleton.mp hi)⟩
    · exact ⟨by rw [List.length_append, h1]; rfl, fun i hi => by
        rcases List.mem_append.mp hi with hi | hi
        · exact h2 i hi
        · exact .inr (List.mem_singleton.mp hi)⟩
theorem allF_len : ∀ (k : Nat), (allF k).length = 2 ^ k
  | 0 => rfl
  | k + 1 => by
    have h : ∀ L : List (List Int), (L.flatMap fun r => [r ++ [0], r ++ [1]]).length = L.length * 2 := by
      intro L
      induction L with
      | nil => rfl
      | cons r L ih => rw [List.flatMap_cons, List.length_append, ih]; show 2 + L.length * 2 = (L.length + 1) * 2; omega
    unfold allF
    rw [h, allF_len k, Nat.pow_succ]
def prL (m : Int) : Nat → List (List Int)
  | 0 => [[]]
  | k + 1 => prL m k ++ ((prL m k).filter fun q => decide ((q.length : Int) < m)).map fun q => q ++ [(k : Int)]
theorem prL_len {m : Int} : ∀ (k : Nat), (prL m k).length ≤ 2 ^ k
  | 0 => Nat.le_refl _
  | k + 1 => by
    unfold prL
    have := prL_len (m := m) k
    have h2 := List.length_filter_le (fun q : List Int => decide ((q.length : Int) < m)) (prL m k)
    rw [List.length_append, List.length_map, Nat.pow_succ]
    omega
theorem prL_pd {m : Int} : ∀ {k : Nat} {q : List Int}, q ∈ prL m k → PdOk k q
  | 0, q, h => by
    unfold prL at h
    rw [List.mem_singleton] at h
    subst h
    exact ⟨.nil, fun i hi => by simp at hi⟩
  | k + 1, q, h => by
    unfold prL at h
    rcases List.mem_append.mp h with h | h
    · exact (prL_pd h).le (by omega)
    · obtain ⟨r, hr, rfl⟩ := List.mem_map.mp h
      have h1 := prL_pd (List.mem_filter.mp hr).1
      refine ⟨List.pairwise_append.mpr ⟨h1.1, List.pairwise_singleton .., fun a ha b hb => ?_⟩, fun i hi => ?_⟩
      · rw [List.mem_singleton.mp hb]; exact (h1.2 a ha).2
      · rcases List.mem_append.mp hi with hi | hi
        · have := h1.2 i hi; omega
        · rw [List.mem_singleton.mp hi]; omega
theorem prL_perm : ∀ n : Fin 5, ∀ m : Fin 9, (prL (m.val : Int) n.val).isPerm (prodsOf (n.val : Int) (kOf (n.val : Int) (m.val : Int))) = true := by decide +kernel
theorem prL_ok {n m : Int} (h0 : 0 ≤ n) (h1 : n ≤ 4) (m0 : 0 ≤ m) (m1 : m ≤ 8) : (prL m n.toNat).Perm (prodsOf n (kOf n m)) := by
  have := prL_perm ⟨n.toNat, by omega⟩ ⟨m.toNat, by omega⟩
  have e1 : ((n.toNat : Nat) : Int) = n := by omega
  have e2 : ((m.toNat : Nat) : Int) = m := by omega
  rw [e1, e2] at this
  exact List.isPerm_iff.mp this
theorem mx_app0 : ∀ (ns : List Int), mx (ns ++ [0]) = mx ns
  | [] => rfl
  | x :: ns => by
    show mx (x :: (ns ++ [0])) = _
    unfold mx
    rw [mx_app0 ns]
local macro_rules | `(tactic| walk_at "up") => `(tactic| first
  | assumption
  | ((refine Rp.mono _ (by assumption : Same _ _) ?_); walk_at "up")
  | ((refine Rp.mono _ (Le.b (by assumption)) ?_); walk_at "up"))
local macro_rules | `(tactic| walk_at "ev") => `(tactic| first
  | ((with_reducible refine' ev_var ?h1 ?h2); (case h1 => rfl); (case h2 => walk_at "up"))
  | ((with_reducible refine' ev_vi ?h1); (case h1 => rfl))
  | with_reducible exact ev_ci
  | ((with_reducible refine' ev_get0 ?ea); (case ea => walk_at "ev"))
  | ((with_reducible refine' ev_get1 ?ea); (case ea => walk_at "ev"))
  | ((with_reducible refine' ev_I0 ?ea ?eb); (case ea => walk_at "ev"); (case eb => walk_at "ev"))
  | ((with_reducible refine' ev_notV ?ea); (case ea => walk_at "ev"))
  | ((with_reducible refine' eb_test ?ea); (case ea => walk_at "ev"))
  | ((with_reducible refine' eb_B ?ea); (case ea => walk_at "ev"))
  | ((with_reducible refine' eb_not ?ea); (case ea => walk_at "ev"))
  | ((with_reducible refine' ev_eq ?ea ?eb ?ec); (case ea => walk_at "ev"); (case eb => walk_at "ev"); (case ec => rfl))
  | ((with_reducible refine' ev_ne ?ea ?eb ?ec); (case ea => walk_at "ev"); (case eb => walk_at "ev"); (case ec => rfl))
  | ((with_reducible refine' ev_chainI ?ea ?eb ?ec); (case ea => walk_at "ev"); (case eb => walk_at "ev"); (case ec => walk_at "ev"))
  | with_reducible exact ea_nil
  | ((with_reducible refine' ea_cons ?ea ?eb); (case ea => walk_at "ev"); (case eb => walk_at "ev")))
section
variable {P : Program} {w : World} {K : PySem.W.Frag} {mg : Str → Option Value} {base : Heap}
def LWorthOk (x : IW) : Prop := PrOk x.1 ∧ 0 ≤ x.2.1 ∧ x.2.2.1 ≤ 190 ∧ RowOk x.1 x.2.1 x.2.2.1 x.2.2.2.1 ∧ x.2.2.2.1.length ≤ 256 ∧ x.2.1 ≤ x.2.2.2.2.length ∧ x.2.2.2.2.length ≤ 60 ∧ FilOk x.2.2.2.2
def sp_l_worth (K : PySem.W.Frag) : Sp := spG (ι := IW) (fun x => [int x.1, rows K x.2.2.2.1, prod x.2.2.2.2]) (fun W x => LWorthOk x) fun x => num K (worthR x.1 x.2.2.2.1 x.2.2.2.2)
theorem ok_l_worth (T : Tx K mg) : Cal P w K mg base 4 "_law_worth" (sp_l_worth K) [] := by
  have h_l_plus := ok_l_plus (P := P) (w := w) (base := base) T
  obtain ⟨fd, F⟩ := T.d_l_worth
  refine ⟨_, fd, ["_law_prime_here", "_law_terms_here", "_law_filling_here"], [], F.ok sc_l_worth (spG_len fun _ => rfl) (fun cdv A outer s H vs Q E hr h => ?_), T.g_l_worth, F.kp, F.bindsN (fun _ _ _ _ _ _ us hl => match us, hl with | [_, _, _], _ => rfl), .nil⟩
  obtain ⟨W, ⟨p, n, j, r, fs⟩, rfl, ha, ⟨hpo, hn0, hj, hr1, hz, hnl, hlz, hf⟩, k⟩ := h
  dsimp only at hpo hn0 hj hr1 hz hnl hlz hf
  obtain ⟨v0, v1, v2, rfl, rfl, h1, h2⟩ := ha.three
  dsimp only at h1 h2
  refine ⟨_, PSs.nox (pss_cons (ps_set (i := 3) sc_l_worth.nd rfl (Or.inl rfl) (pe_tup (pa_cons pe_int (pa_cons pe_int pa_nil))))
    (pss_cons (ps_for PassesOwn.never rfl (pi_list (pv 1)) (pg_tup rfl (pgs_cons (pg_name (i := 4) sc_l_worth.nd rfl (Or.inl rfl)) (pgs_cons (pg_name (i := 5) sc_l_worth.nd rfl (Or.inl rfl)) pgs_nil))) (pss_one (ps_if (pt_cmpR (op_eqD hr.units) (pe_lc (own := [("_law_place", 6)]) rfl sc_l_worth.nd (pi_tup (pv 4)) (blkOk_by (N := ["_law_prime_here", "_law_terms_here", "_law_filling_here", "_law_found", "_law_product_here", "_law_number_here", "_law_place"]) (sc := defScope s_l_worth) (by decide +kernel)) (fun _ _ _ _ _ => (pg_name (i := 6) sc_l_worth.nd rfl (Or.inl rfl))) (fun _ _ _ _ _ => (pts_one (pt_cmpR op_eq (pe_ix (ix_tup : IxR _ (rIxT K)) (pv 2) (pv 6) (fun _ _ => rfl)) pe_int (nomark _)))) (fun _ _ _ _ _ => (pv 6))) (pe_lst pa_nil) (nomark _)) (pss_one (ps_set (i := 3) sc_l_worth.nd rfl (Or.inl rfl) (pe_c h_l_plus hr (by decide) rfl (pa_cons (pv 0) (pa_cons (pv 3) (pa_cons (pv 5) pa_nil)))))) pss_nil)))
    (pss_one (ps_ret (pv 3))))), ?_⟩
  try simp only [cxK, cxW, cxP]
  refine q_asg (R := num K (0, 1)) (ev_tup (ea_cons ev_ci (ea_cons ev_ci ea_nil))) fun v3 W3 l3 hv3 => ?_
  refine q_forI (it_list (K := K) (rs := r.map (term K)) (ev_var rfl (Rp.mono _ l3.b h1))) (fun i σ' W' => ∃ (u : V) (o4 o5 o6 : Option V), σ' = [some (.int p), some v1, some v2, some u, o4, o5, o6] ∧ Le W W' ∧ (num K (worthR p (r.take i) fs)).p W'.B u) (fun W4 l4 => ⟨v3, none, none, none, rfl, l3.trans l4, (num K (0, 1)).mono l4.b hv3⟩) ?_ ?_
  · rintro i r0 x σ' W' W4 N hi s ⟨u, o4, o5, o6, rfl, lw, hu⟩ l4 hx nx
    obtain ⟨t, ht, rfl, hm⟩ := map_at hi
    refine g_pair hx fun x1 x2 hx1 hx2 => ?_
    have hlw := lw.trans l4
    have hq := (hr1 t hm).1
    have hq60 : t.1.length ≤ 60 := hq.len60 (show n ≤ 60 by omega)
    have ew : worthR p (r.take (i + 1)) fs = if hasAll fs t.1 = true then nplus p (worthR p (r.take i) fs) t.2 else worthR p (r.take i) fs := by
      unfold worthR
      rw [List.take_add_one, ht, List.foldl_append]; rfl
    have hg := worth_gc (fs := fs) hpo (hr1.take i) (gd_zero (j := j) (c := 0) hpo)
    have hlen : (r.take i).length ≤ 256 := by rw [List.length_take]; omega
    have hfq : ∀ i ∈ t.1, at_ fs i = 0 ∨ at_ fs i = 1 := fun i hi => fil_at hf (hq.2 i hi).1 (by have := (hq.2 i hi).2; omega)
    refine s_when (P := Bo (hasAll fs t.1)) (eb_is (eb_test (ev_eqD (K := K) (RA := lstR K ((t.1.filter fun i => decide (at_ fs i = 0)).map int)) (RB := lstR K []) (ev_filI (F := int) (G := int) (xs := t.1) (p := fun i => decide (at_ fs i = 0)) (it_prod (K := K) (ev_var rfl hx1)) (by omega) ?_) (ev_lst ea_nil) dt_ints (dt_lst (n := 0) (ds := []) True.intro) (by decide) (by decide))) ?_) (fun hh W5 l5 => ?_) (fun hh W5 l5 => ?_)
    · intro i v W5 hi l5 hv Q q
      have hb := hq.2 i hi
      exact g_name (q _ rfl (eb_test (ev_is (ev_eq (ev_ixP (K := K) (ev_var rfl (Rp.mono _ (hlw.trans l5).b h2)) (ev_var rfl hv) hb.1 (by omega)) ev_ci rfl) (by simp))) fun _ => ev_var rfl hv)
    · rw [← all_filter hfq]
      have := eqv_ints (t.1.filter fun i => decide (at_ fs i = 0)) []
      simp only [PyData.eqv]
      exact this
    · refine s_asg (R := num K (nplus p (worthR p (r.take i) fs) t.2)) (ev_call (x := (p, worthR p (r.take i) fs, t.2)) (as := [int p, num K (worthR p (r.take i) fs), num K t.2]) (ea_cons (ev_vi rfl) (ea_cons (ev_var rfl ((num K _).mono (l4.trans l5).b hu)) (ea_cons (ev_var rfl ((num K _).mono l5.b hx2)) ea_nil))) rfl fun _ _ => ⟨hpo, hg.1.l, (hr1 t hm).2.1.l, (hg.up (k := 8) (by omega)).sz hpo (by omega), (hr1 t hm).2.sz hpo (by omega)⟩) fun v W6 l6 hv => ?_
      refine nx _ W6 (l5.trans l6).b ⟨_, _, _, _, rfl, (hlw.trans l5).trans l6, ?_⟩
      rw [ew, if_pos hh.symm]; exact hv
    · refine nx _ W5 l5.b ⟨_, _, _, _, rfl, hlw.trans l5, ?_⟩
      rw [ew, if_neg (by rw [← hh]; decide)]
      exact (num K _).mono (l4.trans l5).b hu
  · rintro σ' W' s ⟨u, o4, o5, o6, rfl, lw, hu⟩
    rw [List.length_map, List.take_length] at hu
    exact s_ret (ev_var rfl hu) fun v W4 l4 hv => k v W4 (lw.trans l4) hv
def sp_l_filling : Sp := spG (ι := Addr × Int) (fun x => [is (.ref x.1), int x.2]) (fun W x => W.r = some x.1 ∧ 0 ≤ x.2 ∧ x.2 ≤ 60) fun x => anyR (fun fs : List Int => (fs.length : Int) = x.2 ∧ FilOk fs) prod
theorem ok_l_filling (T : Tx K mg) : Cal P w K mg base 2 "_law_filling" sp_l_filling [] := by
  have h_l_take := ok_l_take (P := P) (w := w) (base := base) T
  obtain ⟨fd, F⟩ := T.d_l_filling
  refine ⟨_, fd, ["_law_room_here", "_law_many"], [], F.ok sc_l_filling (spG_len fun _ => rfl) (fun cdv A outer s H vs Q E hr h => ?_), T.g_l_filling, F.kp, F.bindsN (fun _ _ _ _ _ _ us hl => match us, hl with | [_, _], _ => rfl), .nil⟩
  obtain ⟨W, ⟨a, n⟩, rfl, ha, ⟨hr0, hn0, hn⟩, k⟩ := h
  dsimp only at hr0 hn0 hn
  obtain ⟨v0, v1, rfl, rfl, rfl⟩ := ha.two
  refine ⟨_, PSs.nox (pss_one (ps_ret (pe_callTy call_tuple_of (by rfl) T.b_tuple (by decide +kernel) (pa_cons (pe_lc (own := [("_law_place", 2)]) rfl sc_l_filling.nd (pi_range1 (by rfl) T.b_range (pa_cons (pv 1) pa_nil)) (blkOk_by (N := ["_law_room_here", "_law_many", "_law_place"]) (sc := defScope s_l_filling) (by decide +kernel)) (fun _ _ _ _ _ => (pg_name (i := 2) sc_l_filling.nd rfl (Or.inl rfl))) (fun _ _ _ _ _ => pts_nil) (fun _ _ _ _ _ => (pe_c h_l_take hr (by decide) rfl (pa_cons (pv 0) (pa_cons pe_int pa_nil))))) pa_nil)))), ?_⟩
  try simp only [cxK, cxW, cxP]
  refine s_ret (R := anyR (fun fs : List Int => (fs.length : Int) = n ∧ FilOk fs) prod) (ev_cbA (P := fun ys : List Int => Rel2 (fun _ i => 0 ≤ i ∧ i < 2) (upTo 0 n.toNat) ys) (f := fun ys => lstR K (ys.map int)) (ev_mapA (F := int) (G := int) (P := fun _ i => 0 ≤ i ∧ i < 2) (xs := upTo 0 n.toNat) (it_rng1 (ea_cons (by walk_at "ev") ea_nil) (by omega)) (by rw [upTo_len]; omega) ?_) fun ys x W1 l1 hys hx => ev_any (ev_tupOfI (ns := ys) (ev_c hx)) ⟨by rw [hys.len, upTo_len]; omega, fun i hi => by obtain ⟨_, _, h⟩ := hys.mem i hi; omega⟩) k
  intro i x W1 hi l1 hx Q q
  exact g_name (q _ rfl (ev_take (K := K) (ea_cons (ev_vi rfl) (ea_cons ev_ci ea_nil)) (l1.r.trans hr0) (by decide) (by decide)))
/-- (room, p, places, most, filling) -/
abbrev IWi := Addr × Int × Int × Int × List Int
def plantT (p : Int) (ts : List Tm) (fs : List Int) : List Tm := ts ++ [([], ntimes p (-1, 1) (worthR p ts fs))]
def WiP (x : IWi) (r : List Tm) : Prop := ∃ ts, RowOk x.2.1 x.2.2.1 14 ts ∧ (ts.length : Int) ≤ x.2.2.2.1 ∧ r = gath x.2.1 (plantT x.2.1 ts x.2.2.2.2)
def sp_l_wish (K : PySem.W.Frag) : Sp := spG (ι := IWi) (fun x => [is (.ref x.1), int x.2.1, int x.2.2.1, int x.2.2.2.1, prod x.2.2.2.2]) (fun W x => W.r = some x.1 ∧ PrF x.2.1 ∧ 0 ≤ x.2.2.1 ∧ x.2.2.1 ≤ 60 ∧ 0 ≤ x.2.2.2.1 ∧ x.2.2.2.1 ≤ 30 ∧ x.2.2.1 = (x.2.2.2.2.length : Int) ∧ FilOk x.2.2.2.2) fun x => anyR (WiP x) (rows K)
theorem plant_ok {p n : Int} {ts : List Tm} {fs : List Int} (hp : PrOk p) (h : RowOk p n 14 ts) (hz : ts.length ≤ 256) : RowOk p n 22 (plantT p ts fs) := (h.mono (by decide)).snoc ⟨⟨.nil, fun i hi => by simp at hi⟩, gd_neg hp ((worth_gc (fs := fs) hp h (gd_zero (j := 14) (c := 0) hp)).up (k := 8) (by omega))⟩
theorem sz_neg : Sz (-1, 1) := by
  have h2 := pow_le (a := 1) (b := 4000) (by decide)
  exact ⟨Nat.lt_of_lt_of_le (show (-1 : Int).natAbs < pw2 1 by decide) h2, Nat.lt_of_lt_of_le (show (1 : Int).natAbs < pw2 1 by decide) h2⟩
theorem ok_l_wish (T : Tx K mg) : Cal P w K mg base 5 "_law_wish" (sp_l_wish K) [] := by
  have h_l_terms := ok_l_terms (P := P) (w := w) (base := base) T
  have h_l_worth := ok_l_worth (P := P) (w := w) (base := base) T
  have h_l_times := ok_l_times (P := P) (w := w) (base := base) T
  have h_l_gather := ok_l_gather (P := P) (w := w) (base := base) T
  obtain ⟨fd, F⟩ := T.d_l_wish
  refine ⟨_, fd, ["_law_room_here", "_law_prime_here", "_law_many", "_law_most", "_law_planted"], [], F.ok sc_l_wish (spG_len fun _ => rfl) (fun cdv A outer s H vs Q E hr h => ?_), T.g_l_wish, F.kp, F.bindsN (fun _ _ _ _ _ _ us hl => match us, hl with | [_, _, _, _, _], _ => rfl), .nil⟩
  obtain ⟨W, ⟨a, p, n, m, fs⟩, rfl, ha, ⟨hr0, hp, hn0, hn, hm0, hm, hl, hf⟩, k⟩ := h
  dsimp only at hr0 hp hn0 hn hm0 hm hl hf
  obtain ⟨v0, v1, v2, v3, v4, rfl, rfl, rfl, rfl, rfl, h4⟩ := ha.five
  dsimp only at h4
  refine ⟨_, PSs.nox (pss_cons (ps_set (i := 5) sc_l_wish.nd rfl (Or.inl rfl) (pe_c h_l_terms hr (by decide) rfl (pa_cons (pv 0) (pa_cons (pv 1) (pa_cons (pv 2) (pa_cons (pv 3) pa_nil))))))
    (pss_cons (ps_if (pt_cmpR op_notN1 (pv 4) pe_non (nomark _)) (pss_cons (ps_set (i := 6) sc_l_wish.nd rfl (Or.inl rfl) (pe_c h_l_worth hr (by decide) rfl (pa_cons (pv 1) (pa_cons (pv 5) (pa_cons (pv 4) pa_nil)))))
    (pss_one (ps_expr (pe_bm PySem.F.plainAttrs_list PySem.F.slot_list_append PySem.F.type_list_append mt_append (pv 5) (pa_cons (pe_tup (pa_cons (pe_tup pa_nil) (pa_cons (pe_c h_l_times hr (by decide) rfl (pa_cons (pv 1) (pa_cons (pe_tup (pa_cons (pe_op op_sub pe_int pe_int) (pa_cons pe_int pa_nil))) (pa_cons (pv 6) pa_nil)))) pa_nil))) pa_nil))))) pss_nil)
    (pss_one (ps_ret (pe_c h_l_gather hr (by decide) rfl (pa_cons (pv 1) (pa_cons (pv 5) pa_nil))))))), ?_⟩
  try simp only [cxK, cxW, cxP]
  have hpo := hp.ok
  refine q_asgL (as := [is (.ref a), int p, int n, int m]) (ea_cons (ev_vi rfl) (ea_cons (ev_vi rfl) (ea_cons (ev_vi rfl) (ea_cons (ev_vi rfl) ea_nil)))) (a, p, n, m) rfl (fun W1 l1 => ⟨l1.r.trans hr0, hp, hn0, hn, hm0, hm⟩) fun ts l W1 l1 fr hts L => ?_
  obtain ⟨hro, htz⟩ := hts
  dsimp only at hro htz
  refine q_when (P := Bo true) (eb_test (ev_notN (ev_var rfl (Rp.mono _ l1.b h4)))) (fun _ W2 l2 => ?_) (fun e => nomatch e)
  have l12 := l1.trans l2
  refine q_asg (R := num K (worthR p ts fs)) (ev_borrow (K := K) (L.le l2) fun W3 W4 l3 u4 h5 => ev_call (x := (p, n, 14, ts, fs)) (as := [int p, rows K ts, prod fs]) (ea_cons (ev_vi rfl) (ea_cons (ev_var rfl h5) (ea_cons (ev_var rfl (Rp.mono _ ((l12.trans l3).b.trans u4.b) h4)) ea_nil))) rfl fun _ _ => ⟨hpo, hn0, by show 14 ≤ 190; decide, hro, by show ts.length ≤ 256; omega, by show n ≤ (fs.length : Int); omega, by show fs.length ≤ 60; omega, hf⟩) fun v6 W3 l3 hv6 => ?_
  have hg := (worth_gc (fs := fs) (r := ts) hpo hro (gd_zero (j := 14) (c := 0) hpo))
  refine s_app (R := term K ([], ntimes p (-1, 1) (worthR p ts fs))) rfl ((L.le l2).le l3) (ev_tup (ea_cons (ev_tupI (ps := []) ea_nil (by decide)) (ea_cons (ev_call (x := (p, (-1, 1), worthR p ts fs)) (as := [int p, num K (-1, 1), num K (worthR p ts fs)]) (ea_cons (ev_vi rfl) (ea_cons (ev_tup (ea_cons (ev_is (ev_I0 (i := 0) (j := 1) ev_ci ev_ci) rfl) (ea_cons ev_ci ea_nil))) (ea_cons (ev_var rfl hv6) ea_nil))) rfl fun _ _ => ⟨hpo, numL_neg, hg.1.l, sz_neg, (hg.up (k := 8) (by omega)).sz hpo (by omega)⟩) ea_nil))) (by rw [List.length_map]; omega) fun W4 u4 L4 => ?_
  have L4' : LocL W4 l ((plantT p ts fs).map (term K)) := by
    unfold plantT
    rw [List.map_append]; exact L4
  obtain ⟨W5, e5, u5, h5⟩ := L4'.frz (K := K)
  dsimp only
  rw [← e5]
  have lw5 := u5.le (u4.le (l12.trans l3) fr) fr
  refine s_ret (R := anyR (WiP (a, p, n, m, fs)) (rows K)) (ev_any (a := gath p (plantT p ts fs)) (ev_call (x := (p, n, 22, plantT p ts fs)) (as := [int p, rows K (plantT p ts fs)]) (ea_cons (ev_vi rfl) (ea_cons (ev_var rfl h5) ea_nil)) rfl fun _ _ => ⟨hpo, hn, by show 22 ≤ 190; decide, plant_ok hpo hro (by omega), by show (plantT p ts fs).length ≤ 256; unfold plantT; rw [List.length_append, List.length_singleton]; omega⟩) ⟨ts, hro, htz, rfl⟩) fun v W6 l6 hv => k v W6 (lw5.trans l6) hv
end
end Fs

set_option Elab.async false
set_option linter.all false
set_option maxRecDepth 100000
set_option maxHeartbeats 2000000
namespace Fs
open PySem PySem.Spec PyProof.Rows L2 C8
section
variable {K : PySem.W.Frag} {σ : L2.St} {W W' W0 : Wd} {ta tb te : TE} {rs ss : List Rp} {ps : List Int} {l a : Addr} {D : Ends} {tz tu : TS} {t : TT} {R RA : Rp} {n : Num}
/-- x not in a list of whole numbers -/
theorem ev_notIn {ns : List Int} {i : Int} (ha : Ev ta σ W (int i)) (hb : Ev tb σ W (lstR K (ns.map int))) : Ev (tOp (rIn K true) ta tb) σ W (bl (!decide (i ∈ ns))) :=
  ev_op ha hb fun x y W1 _ hx hy W2 l Q q => by
    obtain ⟨b, us, rfl, h3, h4⟩ := hy
    rw [show x = V.int i from hx]
    have e := rpa_ints_eq h4
    subst e
    refine ⟨b, ns.map V.int, rfl, .inl (lsq (W2.ex _ _ (l.b _ _ h3))), rfl, by rw [List.all_map]; exact List.all_eq_true.mpr fun _ _ => rfl, q _ W2 (Le.refl _) ?_⟩
    have e2 : inV (V.int i) (ns.map V.int) = decide (i ∈ ns) := by
      unfold inV
      rw [List.any_map, Bool.eq_iff_iff, List.any_eq_true, decide_eq_true_iff]
      constructor
      · rintro ⟨y, hy, h⟩
        have : y = i := by simpa [eqV] using h
        exact this ▸ hy
      · intro h
        exact ⟨i, h, by simp [eqV]⟩
    show V.bl (if true = true then !inV (V.int i) (ns.map V.int) else inV (V.int i) (ns.map V.int)) = V.bl (!decide (i ∈ ns))
    rw [if_pos rfl, e2]
/-- reading a list that is being made -/
theorem ev_ixLoc {i : Nat} {j : Int} (hi : σ[i]? = some (some (.ref l))) (L : LocL W l rs) (hb : Ev tb σ W (int j)) (h0 : 0 ≤ j) (h1 : j < rs.length) (hr : rs[j.toNat]? = some R) : Ev (tOp (rIxL K) (tVar i) tb) σ W R := fun W1 l1 Q q =>
  ⟨_, hi, hb W1 l1 _ fun y W2 l2 ey => by
    obtain ⟨b, r, vs, g1, g2⟩ := L.le (l1.trans l2)
    obtain ⟨v, h3, h4⟩ := g2.at hr
    refine ⟨l, vs, j, v, rfl, ey, lsq g1, ?_, q v W2 l2 h4⟩
    unfold atI
    rw [g2.len, ixN_of h0 h1]
    exact h3⟩
theorem ev_lenLoc {i : Nat} (hi : σ[i]? = some (some (.ref l))) (L : LocL W l rs) : Ev (tCB (rLenQ K) (tCons (tVar i) tNil)) σ W (int (rs.length : Int)) := fun W1 l1 Q q =>
  ⟨_, hi, by
    obtain ⟨b, r, vs, g1, g2⟩ := L.le l1
    exact ⟨l, vs, rfl, .inl (lsq g1), q _ W1 (Le.refl _) (by rw [g2.len]; rfl)⟩⟩
theorem rpa_take {H : Hp} : ∀ {rs : List Rp} {vs : List V} (k : Nat), RpA rs H vs → RpA (rs.take k) H (vs.take k) ∧ RpA (rs.drop k) H (vs.drop k)
  | _, _, 0, h => ⟨by simp [RpA], by simpa using h⟩
  | [], [], k + 1, _ => by simp [RpA]
  | r :: rs, v :: vs, k + 1, h => by
    obtain ⟨h1, h2⟩ := rpa_take k h.2
    exact ⟨⟨h.1, h1⟩, h2⟩
abbrev rIns : V → List V → Hp → VK → Prop := fun x vs H Q => ∃ (l : Addr) (xs : List V) (i : Int) (y : V), x = .ref l ∧ vs = [.int i, y] ∧ H l = some (.lst xs) ∧ xs.length < sizeLine ∧ 0 ≤ i ∧ i < 2 ^ 63 ∧ Q .non (upd H l (.lst (xs.take i.toNat ++ [y] ++ xs.drop i.toNat)))
/-- l.insert(i, e) -/
theorem s_ins {i : Nat} {j : Int} (hi : σ[i]? = some (some (.ref l))) (L : LocL W l rs) (hb : Ev tb σ W (int j)) (h : Ev te σ W R) (h0 : 0 ≤ j) (h1 : j ≤ 100000) (hz : rs.length < 100000) (k : ∀ W1, Up l W W1 → LocL W1 l (rs.take j.toNat ++ [R] ++ rs.drop j.toNat) → D.nx σ W1.H) : tDrop (tBM K "list" rIns (tVar i) (tCons tb (tCons te tNil))) D σ W.H := by
  refine ⟨_, hi, ?_, ?_⟩
  · obtain ⟨b, r, vs, h1, h2⟩ := L
    exact tyl h1
  · refine hb W (Le.refl _) _ fun y W1 l1 ey => h W1 l1 _ fun v W2 l2 hv => ?_
    obtain ⟨b, r, vs, g1, g2⟩ := L.le (l1.trans l2)
    rw [show y = V.int j from ey]
    obtain ⟨t1, t2⟩ := rpa_take j.toNat g2
    refine ⟨l, vs, j, v, rfl, rfl, g1, by rw [g2.len]; exact Nat.lt_trans hz (by decide), h0, by omega, ?_⟩
    exact k (W2.mut l (.lst (vs.take j.toNat ++ [v] ++ vs.drop j.toNat)) b r ⟨_, g1, nl_lst⟩) ((l1.trans l2).up.trans (W2.mut_up b r ⟨_, g1, nl_lst⟩)) ⟨b, r, _, upd_same, (t1.snoc hv).app t2⟩
theorem q_ins {i : Nat} {j : Int} (hi : σ[i]? = some (some (.ref l))) (L : LocL W l rs) (hb : Ev tb σ W (int j)) (h : Ev te σ W R) (h0 : 0 ≤ j) (h1 : j ≤ 100000) (hz : rs.length < 100000) (k : ∀ W1, Up l W W1 → LocL W1 l (rs.take j.toNat ++ [R] ++ rs.drop j.toNat) → tz D σ W1.H) : tSeq (tDrop (tBM K "list" rIns (tVar i) (tCons tb (tCons te tNil)))) tz D σ W.H := s_ins (D := { D with nx := tz D }) hi L hb h h0 h1 hz k
end
def negT (p : Int) (t : Tm) : Tm := (t.1, ntimes p (-1, 1) t.2)
def mixD (p : Int) (sh : Num) (d e : Dct) : Dct := d.map fun t => (t.1, nplus p (ntimes p sh t.2) (ntimes p (nplus p (1, 1) (ntimes p (-1, 1) sh)) (getW e t.1)))
def calD (ord : List Int) (d : Dct) : Dct := d.map fun t => (renP ord t.1, t.2)
theorem ren_inj {n m : Int} {ord q r : List Int} (ho : OrdOk m ord) (hn : n ≤ ord.length) (hq : PdOk n q) (hr : PdOk n r) (e : renP ord q = renP ord r) : q = r := by
  have key : ∀ (a b : List Int), PdOk n a → PdOk n b → renP ord a = renP ord b → ∀ i ∈ a, i ∈ b := by
    intro a b ha hb e i hi
    have h1 : at_ ord i ∈ renP ord a := by unfold renP; rw [mem_usort]; exact List.mem_map.mpr ⟨i, hi, rfl⟩
    rw [e] at h1
    unfold renP at h1
    rw [mem_usort] at h1
    obtain ⟨k, hk, ek⟩ := List.mem_map.mp h1
    have b1 := ha.2 i hi
    have b2 := hb.2 k hk
    have := at_inj ho.1 b2.1 (by omega) b1.1 (by omega) ek
    exact this ▸ hk
  exact rising_ext hq.1 hr.1 fun k => ⟨key q r hq hr e k, key r q hr hq e.symm k⟩
theorem gd_rest {p : Int} {sh : Num} (hp : PrOk p) (h : Gd p 14 sh) : Gd p 15 (nplus p (1, 1) (ntimes p (-1, 1) sh)) :=
  (gc_plus hp ((gd_one hp).mono (Nat.zero_le 14)) (gd_neg hp h)).up (k := 1) (by decide)
theorem mixD_keys {p : Int} {sh : Num} {d e : Dct} : (mixD p sh d e).map (·.1) = d.map (·.1) := by
  unfold mixD
  rw [List.map_map]; rfl
theorem gd_mix {p : Int} {sh a b : Num} {c : Nat} (hp : PrOk p) (h : Gd p 14 sh) (ha : Gd p c a) (hb : Gd p c b) : Gd p (14 + c) (ntimes p sh a) ∧ Gd p (15 + c) (ntimes p (nplus p (1, 1) (ntimes p (-1, 1) sh)) b) ∧ Gd p (c + 16) (nplus p (ntimes p sh a) (ntimes p (nplus p (1, 1) (ntimes p (-1, 1) sh)) b)) := by
  have h1 := gd_times hp h ha
  have h2 := gd_times hp (gd_rest hp h) hb
  have h3 := (gc_plus hp (h1.mono (j' := 15 + c) (by omega)) h2).up (k := 1) (by decide)
  exact ⟨h1, h2, by rw [show c + 16 = 15 + c + 1 by omega]; exact h3⟩
theorem mem_valD {d : Dct} {q : List Int} (h : q ∈ d.map (·.1)) : ∃ v, valD d q = some v := by
  cases e : valD d q with
  | some v => exact ⟨v, rfl⟩
  | none =>
    exfalso
    unfold valD at e
    rw [Option.map_eq_none_iff, List.find?_eq_none] at e
    obtain ⟨t, ht, rfl⟩ := List.mem_map.mp h
    exact e t ht (decide_eq_true rfl)
theorem DicOk.keys {p n m : Int} {k : Nat} {d : Dct} (h : DicOk p n m k d) {q : List Int} (hq : PdOk n q) (hl : (q.length : Int) ≤ m) : q ∈ d.map (·.1) := by
  obtain ⟨v, e⟩ := h.2.2 q hq hl
  exact val_keys e
theorem mix_ok {p n m : Int} {sh : Num} {d e : Dct} {c : Nat} (hp : PrOk p) (h : Gd p 14 sh) (hd : DicOk p n m c d) (he : DicOk p n m c e) : DicOk p n m (c + 16) (mixD p sh d e) := by
  refine ⟨by unfold mixD; rw [List.length_map]; exact hd.1, fun t ht => ?_, fun q hq hl => mem_valD (by rw [mixD_keys]; exact hd.keys hq hl)⟩
  unfold mixD at ht
  obtain ⟨u, hu, rfl⟩ := List.mem_map.mp ht
  obtain ⟨h1, h2, h3⟩ := hd.2.1 u hu
  exact ⟨h1, h2, (gd_mix hp h h3 (he.get h1 h2).2).2.2⟩
local macro_rules | `(tactic| walk_at "up") => `(tactic| first
  | assumption
  | ((refine Rp.mono _ (by assumption : Same _ _) ?_); walk_at "up")
  | ((refine Rp.mono _ (Le.b (by assumption)) ?_); walk_at "up"))
local macro_rules | `(tactic| walk_at "ev") => `(tactic| first
  | ((with_reducible refine' ev_var ?h1 ?h2); (case h1 => rfl); (case h2 => walk_at "up"))
  | ((with_reducible refine' ev_vi ?h1); (case h1 => rfl))
  | with_reducible exact ev_ci
  | ((with_reducible refine' ev_get0 ?ea); (case ea => walk_at "ev"))
  | ((with_reducible refine' ev_get1 ?ea); (case ea => walk_at "ev"))
  | ((with_reducible refine' ev_I0 ?ea ?eb); (case ea => walk_at "ev"); (case eb => walk_at "ev"))
  | ((with_reducible refine' ev_notV ?ea); (case ea => walk_at "ev"))
  | ((with_reducible refine' eb_test ?ea); (case ea => walk_at "ev"))
  | ((with_reducible refine' eb_B ?ea); (case ea => walk_at "ev"))
  | ((with_reducible refine' eb_not ?ea); (case ea => walk_at "ev"))
  | ((with_reducible refine' ev_eq ?ea ?eb ?ec); (case ea => walk_at "ev"); (case eb => walk_at "ev"); (case ec => rfl))
  | ((with_reducible refine' ev_ne ?ea ?eb ?ec); (case ea => walk_at "ev"); (case eb => walk_at "ev"); (case ec => rfl))
  | ((with_reducible refine' ev_chainI ?ea ?eb ?ec); (case ea => walk_at "ev"); (case eb => walk_at "ev"); (case ec => walk_at "ev"))
  | with_reducible exact ea_nil
  | ((with_reducible refine' ea_cons ?ea ?eb); (case ea => walk_at "ev"); (case eb => walk_at "ev")))
section
variable {P : Program} {w : World} {K : PySem.W.Frag} {mg : Str → Option Value} {base : Heap}
/-- (p, places, level, level, row, row) -/
abbrev IMu := Int × Int × Nat × Nat × List Tm × List Tm
def MuOk (x : IMu) : Prop := PrOk x.1 ∧ 0 ≤ x.2.1 ∧ x.2.1 ≤ 30 ∧ x.2.2.1 + x.2.2.2.1 ≤ 190 ∧ RowOk x.1 x.2.1 x.2.2.1 x.2.2.2.2.1 ∧ RowOk x.1 x.2.1 x.2.2.2.1 x.2.2.2.2.2 ∧ x.2.2.2.2.1.length * x.2.2.2.2.2.length ≤ 256 ∧ x.2.2.2.2.1.length ≤ 256 ∧ x.2.2.2.2.2.length ≤ 256
def sp_l_mult (K : PySem.W.Frag) : Sp := spG (ι := IMu) (fun x => [int x.1, rows K x.2.2.2.2.1, rows K x.2.2.2.2.2]) (fun W x => MuOk x) fun x => rows K (gath x.1 (prodT x.1 x.2.2.2.2.1 x.2.2.2.2.2))
theorem ok_l_mult (T : Tx K mg) : Cal P w K mg base 5 "_law_mult" (sp_l_mult K) [] := by
  have h_l_times := ok_l_times (P := P) (w := w) (base := base) T
  have h_l_gather := ok_l_gather (P := P) (w := w) (base := base) T
  obtain ⟨fd, F⟩ := T.d_l_mult
  refine ⟨_, fd, ["_law_prime_here", "_law_one", "_law_other"], [], F.ok sc_l_mult (spG_len fun _ => rfl) (fun cdv A outer s H vs Q E hr h => ?_), T.g_l_mult, F.kp, F.bindsN (fun _ _ _ _ _ _ us hl => match us, hl with | [_, _, _], _ => rfl), .nil⟩
  obtain ⟨W, ⟨p, n, j, jj, r, s'⟩, rfl, ha, ⟨hpo, hn0, hn, hj, hr1, hr2, hz, hz1, hz2⟩, k⟩ := h
  dsimp only at hpo hn0 hn hj hr1 hr2 hz hz1 hz2
  obtain ⟨v0, v1, v2, rfl, rfl, h1, h2⟩ := ha.three
  dsimp only at h1 h2
  refine ⟨_, PSs.nox (pss_cons (ps_set (i := 3) sc_l_mult.nd rfl (Or.inl rfl) (pe_lst pa_nil))
    (pss_cons (ps_for PassesOwn.never rfl (pi_list (pv 1)) (pg_tup rfl (pgs_cons (pg_name (i := 4) sc_l_mult.nd rfl (Or.inl rfl)) (pgs_cons (pg_name (i := 5) sc_l_mult.nd rfl (Or.inl rfl)) pgs_nil))) (pss_one (ps_for PassesOwn.never rfl (pi_list (pv 2)) (pg_tup rfl (pgs_cons (pg_name (i := 6) sc_l_mult.nd rfl (Or.inl rfl)) (pgs_cons (pg_name (i := 7) sc_l_mult.nd rfl (Or.inl rfl)) pgs_nil))) (pss_cons (ps_set (i := 8) sc_l_mult.nd rfl (Or.inl rfl) (pe_callTy call_tuple_of (by rfl) T.b_tuple (by decide +kernel) (pa_cons (pe_callB (cr_sortedSet rfl) (by rfl) T.b_sorted (by decide +kernel) (pa_cons (pe_callTy (cr_setI rfl) (by rfl) T.b_set (by decide +kernel) (pa_cons (pe_op op_catA (pv 4) (pv 6)) pa_nil)) pa_nil)) pa_nil)))
    (pss_one (ps_expr (pe_bm PySem.F.plainAttrs_list PySem.F.slot_list_append PySem.F.type_list_append mt_append (pv 3) (pa_cons (pe_tup (pa_cons (pv 8) (pa_cons (pe_c h_l_times hr (by decide) rfl (pa_cons (pv 0) (pa_cons (pv 5) (pa_cons (pv 7) pa_nil)))) pa_nil))) pa_nil))))))))
    (pss_one (ps_ret (pe_c h_l_gather hr (by decide) rfl (pa_cons (pv 0) (pa_cons (pv 3) pa_nil))))))), ?_⟩
  try simp only [cxK, cxW, cxP]
  refine q_newL (rs := []) ea_nil (by decide) fun l W2 s2 l2 fr L2 => ?_
  refine q_forI (it_list (K := K) (rs := r.map (term K)) (ev_var rfl (Rp.mono _ l2.b h1))) (fun i σ' W' => ∃ o4 o5 o6 o7 o8 : Option V, σ' = [some (.int p), some v1, some v2, some (.ref l), o4, o5, o6, o7, o8] ∧ Le W W' ∧ LocL W' l ((prodT p (r.take i) s').map (term K))) (fun W3 l3 => ⟨none, none, none, none, none, rfl, l2.trans l3, L2.le l3⟩) ?_ ?_
  · rintro i r0 x σ' W' W4 N hi s ⟨o4, o5, o6, o7, o8, rfl, lw, L⟩ l4 hx nx
    obtain ⟨t, ht, rfl, hm⟩ := map_at hi
    refine g_pair hx fun x1 x2 hx1 hx2 => ?_
    have hlw := lw.trans l4
    refine s_forI (it_list (K := K) (rs := s'.map (term K)) (ev_var rfl (Rp.mono _ hlw.b h2))) (fun m σ' W' => ∃ o6 o7 o8 : Option V, σ' = [some (.int p), some v1, some v2, some (.ref l), some x1, some x2, o6, o7, o8] ∧ Le W W' ∧ LocL W' l ((prodT p (r.take i) s' ++ (s'.take m).map fun u => (usort (t.1 ++ u.1), ntimes p t.2 u.2)).map (term K))) (fun W5 l5 => ⟨o6, o7, o8, rfl, hlw.trans l5, by rw [List.take_zero, List.map_nil, List.append_nil]; exact (L.le l4).le l5⟩) ?_ ?_
    · rintro m r1 y σ' W5 W6 N2 hi2 s5 ⟨o6, o7, o8, rfl, lw5, L5⟩ l6 hy nx2
      obtain ⟨u, hu, rfl, hm2⟩ := map_at hi2
      refine g_pair hy fun y1 y2 hy1 hy2 => ?_
      have q1 := hr1 t hm
      have q2 := hr2 u hm2
      have c1 := q1.1.len hn0
      have c2 := q2.1.len hn0
      have hlen : (prodT p (r.take i) s' ++ (s'.take m).map fun u => (usort (t.1 ++ u.1), ntimes p t.2 u.2)).length ≤ 1000 := by
        rw [List.length_append, List.length_map, prodT_len, List.length_take, List.length_take]
        have : min i r.length * s'.length ≤ r.length * s'.length := Nat.mul_le_mul_right _ (by omega)
        omega
      refine q_asg (R := prod (usort (t.1 ++ u.1))) (ev_joined (ev_var rfl (Rp.mono _ (s5.trans l6.b) hx1)) (ev_var rfl hy1) (by omega)) fun v8 W7 l7 hv8 => ?_
      refine s_app (K := K) (rs := (prodT p (r.take i) s' ++ (s'.take m).map fun u => (usort (t.1 ++ u.1), ntimes p t.2 u.2)).map (term K)) (R := term K (usort (t.1 ++ u.1), ntimes p t.2 u.2)) rfl ((L5.le l6).le l7) (ev_tup (ea_cons (ev_var rfl hv8) (ea_cons (ev_call (x := (p, t.2, u.2)) (as := [int p, num K t.2, num K u.2]) (ea_cons (ev_vi rfl) (ea_cons (ev_var rfl ((num K t.2).mono ((s5.trans l6.b).trans l7.b) hx2)) (ea_cons (ev_var rfl ((num K u.2).mono l7.b hy2)) ea_nil))) rfl fun _ _ => ⟨hpo, q1.2.1.l, q2.2.1.l, q1.2.sz hpo (by omega), q2.2.sz hpo (by omega)⟩) ea_nil))) (by rw [List.length_map]; omega) fun W8 u8 L8 => ?_
      refine nx2 _ W8 (l7.b.trans u8.b) ⟨_, _, _, rfl, u8.le ((lw5.trans l6).trans l7) fr, ?_⟩
      rw [map_take hu, ← List.append_assoc, List.map_append]
      exact L8
    · rintro σ' W5 s5 ⟨o6, o7, o8, rfl, lw5, L5⟩
      rw [List.length_map, List.take_length, ← prodT_take ht] at L5
      exact nx _ W5 s5 ⟨_, _, _, _, _, rfl, lw5, L5⟩
  · rintro σ' W' s ⟨o4, o5, o6, o7, o8, rfl, lw, L⟩
    rw [List.length_map, List.take_length] at L
    obtain ⟨W3, e3, u3, hl3⟩ := L.frz (K := K)
    rw [← e3]
    have lw3 := u3.le lw fr
    exact s_ret (ev_call (x := (p, n, j + jj, prodT p r s')) (as := [int p, rows K (prodT p r s')]) (ea_cons (ev_vi rfl) (ea_cons (ev_var rfl hl3) ea_nil)) rfl fun W4 l4 => ⟨hpo, by show n ≤ 60; omega, hj, prodT_ok hpo hr1 hr2, by show (prodT p r s').length ≤ 256; rw [prodT_len]; exact hz⟩) fun v W4 l4 hv => k v W4 (lw3.trans l4) hv
def sp_l_all (K : PySem.W.Frag) : Sp := spG (ι := Int) (fun n => [int n]) (fun _ n => 0 ≤ n ∧ n ≤ 4) fun n => lstR K ((allF n.toNat).map prod)
theorem pow4 {k : Nat} (h : k ≤ 4) : 2 ^ k ≤ 16 := Nat.le_trans (Nat.pow_le_pow_right (by decide) h) (by decide)
theorem ok_l_all (T : Tx K mg) : Cal P w K mg base 1 "_law_all" (sp_l_all K) [] := by
  obtain ⟨fd, F⟩ := T.d_l_all
  refine ⟨_, fd, ["_law_many"], [], F.ok sc_l_all (spG_len fun _ => rfl) (fun cdv A outer s H vs Q E hr h => ?_), T.g_l_all, F.kp, F.bindsN (fun _ _ _ _ _ _ us hl => match us, hl with | [_], _ => rfl), .nil⟩
  obtain ⟨W, n, rfl, ha, ⟨hn0, hn⟩, k⟩ := h
  obtain ⟨v0, rfl, rfl⟩ := ha.one
  refine ⟨_, PSs.nox (pss_cons (ps_set (i := 1) sc_l_all.nd rfl (Or.inl rfl) (pe_lst (pa_cons (pe_tup pa_nil) pa_nil)))
    (pss_cons (ps_for PassesOwn.never rfl (pi_range1 (by rfl) T.b_range (pa_cons (pv 0) pa_nil)) (pg_name (i := 2) sc_l_all.nd rfl (Or.inl rfl)) (pss_cons (ps_set (i := 3) sc_l_all.nd rfl (Or.inl rfl) (pe_lst pa_nil))
    (pss_cons (ps_for PassesOwn.never rfl (pi_list (pv 1)) (pg_name (i := 4) sc_l_all.nd rfl (Or.inl rfl)) (pss_one (ps_set (i := 3) sc_l_all.nd rfl (Or.inl rfl) (pe_op op_cat (pv 3) (pe_lst (pa_cons (pe_op op_catA (pv 4) (pe_tup (pa_cons pe_int pa_nil))) (pa_cons (pe_op op_catA (pv 4) (pe_tup (pa_cons pe_int pa_nil))) pa_nil)))))))
    (pss_one (ps_set (i := 1) sc_l_all.nd rfl (Or.inl rfl) (pv 3))))))
    (pss_one (ps_ret (pv 1))))), ?_⟩
  try simp only [cxK, cxW, cxP]
  refine q_asg (R := lstR K ((allF 0).map prod)) (ev_lst (ea_cons (ev_tupI (ps := []) ea_nil (by decide)) ea_nil)) fun v1 W1 l1 hv1 => ?_
  refine q_forI (it_rng1 (n := n) (ea_cons (by walk_at "ev") ea_nil) (by omega)) (fun i σ' W' => ∃ (u : V) (o2 o3 o4 : Option V), σ' = [some (.int n), some u, o2, o3, o4] ∧ Le W W' ∧ (lstR K ((allF i).map prod)).p W'.B u) (fun W3 l3 => ⟨v1, none, none, none, rfl, l1.trans l3, (lstR K ((allF 0).map prod)).mono l3.b hv1⟩) ?_ ?_
  · rintro i r x σ' W' W4 N hi s ⟨u, o2, o3, o4, rfl, lw, hu⟩ l4 hx nx
    have hil : i < n.toNat := by
      have := (List.getElem?_eq_some_iff.mp hi).1
      rwa [List.length_map, upTo_len] at this
    have hs := allF_len i
    have hs2 := pow4 (show i ≤ 4 by omega)
    have hlw := lw.trans l4
    refine g_name ?_
    refine q_asg (R := lstR K []) (ev_lst ea_nil) fun v3 W5 l5 hv3 => ?_
    refine q_forI (it_list (K := K) (rs := (allF i).map prod) (ev_var rfl (Rp.mono _ (l4.trans l5).b hu))) (fun m σ' W' => ∃ (u3 : V) (o4 : Option V), σ' = [some (.int n), some u, some x, some u3, o4] ∧ Le W5 W' ∧ (lstR K ((((allF i).take m).flatMap fun r => [r ++ [0], r ++ [1]]).map prod)).p W'.B u3) (fun W6 l6 => ⟨v3, o4, rfl, l6, (lstR K []).mono l6.b hv3⟩) ?_ ?_
    · rintro m r1 y σ' W6 W7 N2 hi2 s6 ⟨u3, o4, rfl, lw6, hu3⟩ l7 hy nx2
      obtain ⟨q, hq, rfl, hm2⟩ := map_at hi2
      have hql := (allF_ok hm2).1
      have hlen : (((allF i).take m).flatMap fun r => [r ++ [0], r ++ [1]]).length ≤ 100 := by
        have h : ∀ L : List (List Int), (L.flatMap fun r => [r ++ [0], r ++ [1]]).length = L.length * 2 := by
          intro L
          induction L with
          | nil => rfl
          | cons r L ih => rw [List.flatMap_cons, List.length_append, ih]; show 2 + L.length * 2 = (L.length + 1) * 2; omega
        rw [h, List.length_take]
        omega
      refine g_name ?_
      refine s_asg (R := lstR K (((((allF i).take m).flatMap fun r => [r ++ [0], r ++ [1]]).map prod) ++ [prod (q ++ [0]), prod (q ++ [1])])) (ev_catL (ev_var rfl (Rp.mono _ l7.b hu3)) (ev_lst (ea_cons (ev_cat (K := K) (ev_var rfl hy) (ev_tupI (ps := [0]) (ea_cons ev_ci ea_nil) (by decide)) (by simp; omega)) (ea_cons (ev_cat (K := K) (ev_var rfl hy) (ev_tupI (ps := [1]) (ea_cons ev_ci ea_nil) (by decide)) (by simp; omega)) ea_nil))) (by rw [List.length_map]; simp only [List.length_cons, List.length_nil]; omega)) fun v W8 l8 hv => ?_
      refine nx2 _ W8 l8.b ⟨v, _, rfl, (lw6.trans l7).trans l8, ?_⟩
      rw [List.take_add_one, hq, List.flatMap_append, List.map_append]
      exact hv
    · rintro σ' W6 s6 ⟨u3, o4, rfl, lw6, hu3⟩
      rw [List.length_map, List.take_length] at hu3
      refine s_asg (R := lstR K ((allF (i + 1)).map prod)) (ev_var rfl hu3) fun v W7 l7 hv => ?_
      exact nx _ W7 ((l5.trans lw6).trans l7).b ⟨v, _, _, _, rfl, ((hlw.trans l5).trans lw6).trans l7, hv⟩
  · rintro σ' W' s ⟨u, o2, o3, o4, rfl, lw, hu⟩
    rw [List.length_map, upTo_len] at hu
    exact s_ret (ev_var rfl hu) fun v W4 l4 hv => k v W4 (lw.trans l4) hv
def sp_l_products (K : PySem.W.Frag) : Sp := spG (ι := Int × Int) (fun x => [int x.1, int x.2]) (fun _ x => 0 ≤ x.1 ∧ x.1 ≤ 4) fun x => lstR K ((prL x.2 x.1.toNat).map prod)
theorem ok_l_products (T : Tx K mg) : Cal P w K mg base 1 "_law_products" (sp_l_products K) [] := by
  obtain ⟨fd, F⟩ := T.d_l_products
  refine ⟨_, fd, ["_law_many", "_law_most"], [], F.ok sc_l_products (spG_len fun _ => rfl) (fun cdv A outer s H vs Q E hr h => ?_), T.g_l_products, F.kp, F.bindsN (fun _ _ _ _ _ _ us hl => match us, hl with | [_, _], _ => rfl), .nil⟩
  obtain ⟨W, ⟨n, m⟩, rfl, ha, ⟨hn0, hn⟩, k⟩ := h
  dsimp only at hn0 hn
  obtain ⟨v0, v1, rfl, rfl, rfl⟩ := ha.two
  refine ⟨_, PSs.nox (pss_cons (ps_set (i := 2) sc_l_products.nd rfl (Or.inl rfl) (pe_lst (pa_cons (pe_tup pa_nil) pa_nil)))
    (pss_cons (ps_for PassesOwn.never rfl (pi_range1 (by rfl) T.b_range (pa_cons (pv 0) pa_nil)) (pg_name (i := 3) sc_l_products.nd rfl (Or.inr rfl)) (pss_one (ps_set (i := 2) sc_l_products.nd rfl (Or.inl rfl) (pe_op op_cat (pv 2) (pe_lc (own := [("_law_product_here", 4)]) rfl sc_l_products.nd (pi_list (pv 2)) (blkOk_by (N := ["_law_many", "_law_most", "_law_found", "_law_place", "_law_product_here"]) (sc := defScope s_l_products) (by decide +kernel)) (fun _ _ _ _ _ => (pg_name (i := 4) sc_l_products.nd rfl (Or.inl rfl))) (fun _ _ _ _ _ => (pts_one (pt_cmpR op_lt (pe_callB (call_len_seq : CallR _ _ (rLenQ K)) (by rfl) T.b_len (by decide +kernel) (pa_cons (pv 4) pa_nil)) (pv 1) (nomark _)))) (fun _ _ _ _ _ => (pe_op (op_catA : OpR _ _ (rCatA K)) (pv 4) (pe_tup (pa_cons (pv 3) pa_nil)))))))))
    (pss_one (ps_ret (pv 2))))), ?_⟩
  try simp only [cxK, cxW, cxP]
  refine q_asg (R := lstR K ((prL m 0).map prod)) (ev_lst (ea_cons (ev_tupI (ps := []) ea_nil (by decide)) ea_nil)) fun v1 W1 l1 hv1 => ?_
  refine q_forI (it_rng1 (n := n) (ea_cons (by walk_at "ev") ea_nil) (by omega)) (fun i σ' W' => ∃ (u : V) (o3 o4 : Option V), σ' = [some (.int n), some (.int m), some u, o3, o4] ∧ Le W W' ∧ (lstR K ((prL m i).map prod)).p W'.B u) (fun W3 l3 => ⟨v1, none, none, rfl, l1.trans l3, (lstR K ((prL m 0).map prod)).mono l3.b hv1⟩) ?_ ?_
  · rintro i r x σ' W' W4 N hi s ⟨u, o3, o4, rfl, lw, hu⟩ l4 hx nx
    have hil : i < n.toNat := by
      have := (List.getElem?_eq_some_iff.mp hi).1
      rwa [List.length_map, upTo_len] at this
    obtain ⟨y, hy, rfl, hm⟩ := map_at hi
    cases hx
    obtain ⟨rfl, hlt⟩ := upTo_at hy
    have hs := prL_len (m := m) i
    have hs2 := pow4 (show i ≤ 4 by omega)
    have hlw := lw.trans l4
    have hfl := List.length_filter_le (fun q : List Int => decide ((q.length : Int) < m)) (prL m i)
    refine g_name ?_
    refine s_asg (R := lstR K (((prL m i).map prod) ++ (((prL m i).filter fun q => decide ((q.length : Int) < m)).map fun q => prod (q ++ [(i : Int)])))) (ev_catL (ev_var rfl (Rp.mono _ l4.b hu)) (ev_filI (F := prod) (G := fun q => prod (q ++ [(i : Int)])) (xs := prL m i) (p := fun q => decide ((q.length : Int) < m)) (it_list (K := K) (ev_var rfl (Rp.mono _ l4.b hu))) (by omega) ?_) (by rw [List.length_map, List.length_map]; omega)) fun v W8 l8 hv => ?_
    · intro q v W5 hq l5 hv Q q2
      have hql := (prL_pd hq).len (by omega)
      exact g_name (q2 _ rfl (eb_is (eb_test (ev_I0 (ev_lenT (K := K) (rs := q.map int) (ev_prodT (ev_var rfl hv))) (by walk_at "ev"))) (by rw [List.length_map])) fun _ => ev_cat (K := K) (ev_var rfl hv) (ev_tupI (ps := [(i : Int)]) (ea_cons (ev_is (ev_vi rfl) (by rw [Int.zero_add])) ea_nil) (by simp)) (by simp; omega))
    · refine nx _ W8 l8.b ⟨v, _, _, rfl, hlw.trans l8, ?_⟩
      show (lstR K ((prL m (i + 1)).map prod)).p W8.B v
      unfold prL
      rw [List.map_append, List.map_map]
      exact hv
  · rintro σ' W' s ⟨u, o3, o4, rfl, lw, hu⟩
    rw [List.length_map, upTo_len] at hu
    exact s_ret (ev_var rfl hu) fun v W4 l4 hv => k v W4 (lw.trans l4) hv
def sp_l_degree (K : PySem.W.Frag) : Sp := spG (ι := List Tm) (fun r => [rows K r]) (fun _ r => r.length ≤ 256) fun r => int (deg r)
theorem ok_l_degree (T : Tx K mg) : Cal P w K mg base 1 "_law_degree" (sp_l_degree K) [] := by
  obtain ⟨fd, F⟩ := T.d_l_degree
  refine ⟨_, fd, ["_law_rows"], [], F.ok sc_l_degree (spG_len fun _ => rfl) (fun cdv A outer s H vs Q E hr h => ?_), T.g_l_degree, F.kp, F.bindsN (fun _ _ _ _ _ _ us hl => match us, hl with | [_], _ => rfl), .nil⟩
  obtain ⟨W, r, rfl, ha, hz, k⟩ := h
  obtain ⟨v0, rfl, h0⟩ := ha.one
  refine ⟨_, PSs.nox (pss_one (ps_ret (pe_callB (cr_max rfl) (by rfl) T.b_max (by decide +kernel) (pa_cons (pe_op op_cat (pe_lc (own := [("_law_product_here", 1), ("_law_number_here", 2)]) rfl sc_l_degree.nd (pi_list (pv 0)) (blkOk_by (N := ["_law_rows", "_law_product_here", "_law_number_here"]) (sc := defScope s_l_degree) (by decide +kernel)) (fun _ _ _ _ _ => (pg_tup (n := 2) rfl (pgs_cons (pg_name (i := 1) sc_l_degree.nd rfl (Or.inl rfl)) (pgs_cons (pg_name (i := 2) sc_l_degree.nd rfl (Or.inl rfl)) pgs_nil)) : PG _ _ (gTup K 2 _))) (fun _ _ _ _ _ => pts_nil) (fun _ _ _ _ _ => (pe_callB (call_len_seq : CallR _ _ (rLenQ K)) (by rfl) T.b_len (by decide +kernel) (pa_cons (pv 1) pa_nil)))) (pe_lst (pa_cons pe_int pa_nil))) pa_nil)))), ?_⟩
  try simp only [cxK, cxW, cxP]
  refine s_ret (R := int (deg r)) (Ev.imp (ev_max1 (K := K) (ns := (r.map fun t => (t.1.length : Int)) ++ [0]) ?_ (by simp)) ?_) k
  · rw [List.map_append, List.map_map]
    refine ev_catL (ev_mapI (F := term K) (G := fun t => int (t.1.length : Int)) (xs := r) (it_list (K := K) (ev_var rfl h0)) (by omega) ?_) (ev_lst (rs := [int 0]) (ea_cons ev_ci ea_nil)) (by rw [List.length_map]; simp only [List.length_map, List.length_cons, List.length_nil]; omega)
    intro t v W1 hm l1 hv Q q
    exact g_pair hv fun x1 x2 hx1 hx2 => q _ rfl (ev_is (ev_lenT (K := K) (ev_prodT (ev_var rfl hx1))) (by rw [List.length_map]))
  · rintro W1 v _ ⟨m, ⟨hm, hy⟩, hv⟩
    have e := isMax1_mx (fun a ha => by
      rcases List.mem_append.mp ha with ha | ha
      · obtain ⟨t, _, rfl⟩ := List.mem_map.mp ha
        omega
      · rw [List.mem_singleton.mp ha]; decide) hm hy
    rw [mx_app0] at e
    show v = V.int (deg r)
    rw [show v = V.int m from hv, e]; rfl
end
end Fs

set_option Elab.async false
set_option linter.all false
set_option maxRecDepth 100000
set_option maxHeartbeats 2000000
namespace Fs
open PySem PySem.Spec PyProof.Rows L2 C8
theorem prL_nodup {n m : Int} (h0 : 0 ≤ n) (h1 : n ≤ 4) (m0 : 0 ≤ m) (m1 : m ≤ 8) : (prL m n.toNat).Nodup := (prL_ok h0 h1 m0 m1).nodup_iff.mpr (prods_at h0 h1 m0).1
theorem mem_prL {n m : Int} (h0 : 0 ≤ n) (h1 : n ≤ 4) (m0 : 0 ≤ m) (m1 : m ≤ 8) {q : List Int} : q ∈ prL m n.toNat ↔ PdOk n q ∧ (q.length : Int) ≤ m := by
  rw [(prL_ok h0 h1 m0 m1).mem_iff, mem_prodsOf]
  constructor
  · rintro ⟨h, hl⟩
    refine ⟨h, ?_⟩
    unfold kOf at hl
    split at hl <;> omega
  · rintro ⟨h, hl⟩
    refine ⟨h, ?_⟩
    have := h.len h0
    unfold kOf
    split <;> omega
theorem hasAll_nil (fs : List Int) : hasAll fs [] = true := rfl
/-- the worths that a filling gives -/
theorem fill_ok {p n m : Int} {fs : List Int} {qs : List (List Int)} (hp : PrOk p) (h0 : 0 ≤ n) (h1 : n ≤ 4) (m0 : 0 ≤ m) (h : qs.Perm (prodsOf n (kOf n m))) : DicOk p n m 0 (fillD fs qs) := by
  have hm : ∀ q, q ∈ qs ↔ PdOk n q ∧ (q.length : Int) ≤ m := by
    intro q
    rw [h.mem_iff, mem_prodsOf]
    constructor
    · rintro ⟨h, hl⟩
      refine ⟨h, ?_⟩
      unfold kOf at hl
      split at hl <;> omega
    · rintro ⟨h, hl⟩
      refine ⟨h, ?_⟩
      have := h.len h0
      unfold kOf
      split <;> omega
  refine ⟨by unfold fillD; rw [List.length_map, h.length_eq]; exact (prods_at h0 h1 m0).2.1, fun t ht => ?_, fun q hq hl => mem_valD (by rw [fill_keys]; exact (hm q).mpr ⟨hq, hl⟩)⟩
  unfold fillD at ht
  obtain ⟨q, hq, rfl⟩ := List.mem_map.mp ht
  refine ⟨((hm q).mp hq).1, ((hm q).mp hq).2, ?_⟩
  show Gd p 0 (if hasAll fs q = true then (1, 1) else (0, 1))
  split
  · exact gd_one hp
  · exact gd_zero hp
theorem cal_keys {ord : List Int} {d : Dct} : (calD ord d).map (·.1) = (d.map (·.1)).map (renP ord) := by
  unfold calD
  rw [List.map_map, List.map_map]; rfl
theorem cal_nodup {n : Int} {ord : List Int} {d : Dct} (ho : OrdP n ord) (h0 : 0 ≤ n) (hd : ∀ t ∈ d, PdOk n t.1) (hn : (d.map (·.1)).Nodup) : ((calD ord d).map (·.1)).Nodup := by
  rw [cal_keys]
  refine List.Pairwise.map _ ?_ (List.Pairwise.and_mem.mp hn)
  rintro a b ⟨ha, hb, hab⟩ e
  obtain ⟨t, ht, rfl⟩ := List.mem_map.mp ha
  obtain ⟨u, hu, rfl⟩ := List.mem_map.mp hb
  have hl := ho.len
  exact hab (ren_inj ho.ok (by omega) (hd t ht) (hd u hu) e)
theorem nodup_snoc {d : Dct} {t : Tm} {i : Nat} (h : (d.map (·.1)).Nodup) (hi : d[i]? = some t) : t.1 ∉ (d.take i).map (·.1) := by
  have h2 : ((d.take (i + 1)).map (·.1)).Nodup := h.sublist (List.Sublist.map _ (List.take_sublist ..))
  rw [List.take_add_one, hi, List.map_append, List.nodup_append] at h2
  exact fun hm => h2.2.2 _ hm _ (by simp) rfl
local macro_rules | `(tactic| walk_at "up") => `(tactic| first
  | assumption
  | ((refine Rp.mono _ (by assumption : Same _ _) ?_); walk_at "up")
  | ((refine Rp.mono _ (Le.b (by assumption)) ?_); walk_at "up"))
local macro_rules | `(tactic| walk_at "ev") => `(tactic| first
  | ((with_reducible refine' ev_var ?h1 ?h2); (case h1 => rfl); (case h2 => walk_at "up"))
  | ((with_reducible refine' ev_vi ?h1); (case h1 => rfl))
  | with_reducible exact ev_ci
  | ((with_reducible refine' ev_get0 ?ea); (case ea => walk_at "ev"))
  | ((with_reducible refine' ev_get1 ?ea); (case ea => walk_at "ev"))
  | ((with_reducible refine' ev_I0 ?ea ?eb); (case ea => walk_at "ev"); (case eb => walk_at "ev"))
  | ((with_reducible refine' ev_notV ?ea); (case ea => walk_at "ev"))
  | ((with_reducible refine' eb_test ?ea); (case ea => walk_at "ev"))
  | ((with_reducible refine' eb_B ?ea); (case ea => walk_at "ev"))
  | ((with_reducible refine' eb_not ?ea); (case ea => walk_at "ev"))
  | ((with_reducible refine' ev_eq ?ea ?eb ?ec); (case ea => walk_at "ev"); (case eb => walk_at "ev"); (case ec => rfl))
  | ((with_reducible refine' ev_ne ?ea ?eb ?ec); (case ea => walk_at "ev"); (case eb => walk_at "ev"); (case ec => rfl))
  | ((with_reducible refine' ev_chainI ?ea ?eb ?ec); (case ea => walk_at "ev"); (case eb => walk_at "ev"); (case ec => walk_at "ev"))
  | with_reducible exact ea_nil
  | ((with_reducible refine' ea_cons ?ea ?eb); (case ea => walk_at "ev"); (case eb => walk_at "ev")))
section
variable {P : Program} {w : World} {K : PySem.W.Frag} {mg : Str → Option Value} {base : Heap}
def sp_l_row_worths (K : PySem.W.Frag) : Sp := spG (ι := Int × Int × List Int) (fun x => [int x.1, int x.2.1, prod x.2.2]) (fun _ x => 0 ≤ x.1 ∧ x.1 ≤ 4 ∧ 0 ≤ x.2.1 ∧ x.2.1 ≤ 8 ∧ x.1 = (x.2.2.length : Int) ∧ FilOk x.2.2) fun x => dctR K (fillD x.2.2 (prL x.2.1 x.1.toNat))
theorem not_in0 {fs q : List Int} (h : ∀ i ∈ q, at_ fs i = 0 ∨ at_ fs i = 1) : (!decide ((0 : Int) ∈ q.map (at_ fs))) = hasAll fs q := by
  unfold hasAll
  rw [List.all_map, Bool.eq_iff_iff, Bool.not_eq_true', decide_eq_false_iff_not, List.all_eq_true]
  constructor
  · intro z i hi
    show decide (at_ fs i = 1) = true
    rw [decide_eq_true_eq]
    exact (h i hi).resolve_left fun e => z (List.mem_map.mpr ⟨i, hi, e⟩)
  · intro z hm
    obtain ⟨i, hi, e⟩ := List.mem_map.mp hm
    have : decide (at_ fs i = 1) = true := z i hi
    rw [decide_eq_true_eq] at this
    omega
theorem ok_l_row_worths (T : Tx K mg) : Cal P w K mg base 2 "_law_row_worths" (sp_l_row_worths K) [] := by
  have h_l_products := ok_l_products (P := P) (w := w) (base := base) T
  obtain ⟨fd, F⟩ := T.d_l_row_worths
  refine ⟨_, fd, ["_law_many", "_law_degree_here", "_law_row"], [], F.ok sc_l_row_worths (spG_len fun _ => rfl) (fun cdv A outer s H vs Q E hr h => ?_), T.g_l_row_worths, F.kp, F.bindsN (fun _ _ _ _ _ _ us hl => match us, hl with | [_, _, _], _ => rfl), .nil⟩
  obtain ⟨W, ⟨n, m, fs⟩, rfl, ha, ⟨hn0, hn, hm0, hm, hl, hf⟩, k⟩ := h
  dsimp only at hn0 hn hm0 hm hl hf
  obtain ⟨v0, v1, v2, rfl, rfl, rfl, h2⟩ := ha.three
  dsimp only at h2
  refine ⟨_, PSs.nox (pss_cons (ps_set (i := 3) sc_l_row_worths.nd rfl (Or.inl rfl) pe_dnewT)
    (pss_cons (ps_for PassesOwn.never rfl (pi_list (pe_c h_l_products hr (by decide) rfl (pa_cons (pv 0) (pa_cons (pv 1) pa_nil)))) (pg_name (i := 4) sc_l_row_worths.nd rfl (Or.inl rfl)) (pss_one (ps_dput (hu_of hr) (pv 3) (pv 4) (pe_tup (pa_cons (pe_callTy call_int1 (by rfl) T.b_int (by decide +kernel) (pa_cons (pe_cmpR op_notIn_seq pe_int (pe_lc (own := [("_law_place", 5)]) rfl sc_l_row_worths.nd (pi_tup (pv 4)) (blkOk_by (N := ["_law_many", "_law_degree_here", "_law_row", "_law_found", "_law_product_here", "_law_place"]) (sc := defScope s_l_row_worths) (by decide +kernel)) (fun _ _ _ _ _ => (pg_name (i := 5) sc_l_row_worths.nd rfl (Or.inl rfl))) (fun _ _ _ _ _ => pts_nil) (fun _ _ _ _ _ => (pe_ix (ix_tup : IxR _ (rIxT K)) (pv 2) (pv 5) (fun _ _ => rfl)))) (by rfl)) pa_nil)) (pa_cons pe_int pa_nil))) rfl)))
    (pss_one (ps_frz (ps_ret (pv 3)))))), ?_⟩
  try simp only [cxK, cxW, cxP]
  have hqn := prL_nodup hn0 hn hm0 hm
  have hqz := prL_len (m := m) n.toNat
  have hq4 := pow4 (show n.toNat ≤ 4 by omega)
  refine q_newD (K := K) fun l W4 s4 l4 fr L4 => ?_
  refine q_forI (it_list (K := K) (rs := (prL m n.toNat).map prod) (ev_call (x := (n, m)) (as := [int n, int m]) (ea_cons (by walk_at "ev") (ea_cons (by walk_at "ev") ea_nil)) rfl fun _ _ => ⟨hn0, hn⟩)) (fun i σ' W' => ∃ (o4 o5 : Option V), σ' = [some (.int n), some (.int m), some v2, some (.ref l), o4, o5] ∧ Le W W' ∧ LocD K W' l (fillD fs ((prL m n.toNat).take i))) (fun W3 l3 => ⟨none, none, rfl, l4.trans l3, L4.le l3⟩) ?_ ?_
  · rintro i r x σ' W' W5 N hi s ⟨o4, o5, rfl, lw, L⟩ l5 hx nx
    obtain ⟨q, hqi, rfl, hqm⟩ := map_at hi
    have hlw := lw.trans l5
    have hqp := ((mem_prL hn0 hn hm0 hm).mp hqm).1
    have hq60 := hqp.len60 (show n ≤ 60 by omega)
    have hfq : ∀ i ∈ q, at_ fs i = 0 ∨ at_ fs i = 1 := fun i hi => fil_at hf (hqp.2 i hi).1 (by have := (hqp.2 i hi).2; omega)
    refine g_name ?_
    refine s_dput (K := K) (d := fillD fs ((prL m n.toNat).take i)) (q := q) (n := if hasAll fs q = true then (1, 1) else (0, 1)) rfl (L.le l5) ?_ (ev_var rfl hx) (by unfold fillD; rw [List.length_map, List.length_take]; omega) fun W6 u6 L6 => ?_
    · have en : (if hasAll fs q = true then ((1, 1) : Num) else (0, 1)) = ((if hasAll fs q = true then 1 else 0), 1) := by split <;> rfl
      rw [en]
      refine ev_tup (ea_cons (ev_is (ev_intB (b := hasAll fs q) (ev_is (ev_notIn (K := K) (ns := q.map (at_ fs)) (i := 0) ev_ci ?_) (by rw [not_in0 hfq]))) rfl) (ea_cons ev_ci ea_nil))
      rw [List.map_map]
      refine ev_mapI (F := int) (xs := q) (it_prod (K := K) (ev_var rfl hx)) (by omega) ?_
      intro i v W6 hi l6 hv Q q2
      have hb := hqp.2 i hi
      exact g_name (q2 _ rfl (ev_ixP (K := K) (ev_var rfl (Rp.mono _ (hlw.trans l6).b h2)) (ev_var rfl hv) hb.1 (by omega)))
    · refine nx _ W6 u6.b ⟨_, _, rfl, u6.le hlw fr, ?_⟩
      have e : fillD fs ((prL m n.toNat).take (i + 1)) = putD (fillD fs ((prL m n.toNat).take i)) q (if hasAll fs q = true then (1, 1) else (0, 1)) := by
        rw [putD_new, List.take_add_one, hqi]
        · unfold fillD; rw [List.map_append]; rfl
        · rw [fill_keys]
          have h2 : ((prL m n.toNat).take (i + 1)).Nodup := hqn.sublist (List.take_sublist ..)
          rw [List.take_add_one, hqi, List.nodup_append] at h2
          exact fun hm => h2.2.2 _ hm _ (by simp) rfl
      rw [e]; exact L6
  · rintro σ' W' s ⟨o4, o5, rfl, lw, L⟩
    rw [List.length_map, List.take_length] at L
    exact s_frz (K := K) L fun W5 u5 h5 => s_ret (ev_var rfl h5) fun v W6 l6 hv => k v W6 ((u5.le lw fr).trans l6) hv
/-- (p, places, degree, level, share, one, other) -/
abbrev IMi := Int × Int × Int × Nat × Num × Dct × Dct
def MiOk (x : IMi) : Prop := PrOk x.1 ∧ x.2.2.2.1 ≤ 150 ∧ Gd x.1 14 x.2.2.2.2.1 ∧ DicOk x.1 x.2.1 x.2.2.1 x.2.2.2.1 x.2.2.2.2.2.1 ∧ DicOk x.1 x.2.1 x.2.2.1 x.2.2.2.1 x.2.2.2.2.2.2 ∧ (x.2.2.2.2.2.1.map (·.1)).Nodup ∧ x.2.2.2.2.2.1.length ≤ 1000
def sp_l_mixture (K : PySem.W.Frag) : Sp := spG (ι := IMi) (fun x => [int x.1, num K x.2.2.2.2.1, dctR K x.2.2.2.2.2.1, dctR K x.2.2.2.2.2.2]) (fun _ x => MiOk x) fun x => dctR K (mixD x.1 x.2.2.2.2.1 x.2.2.2.2.2.1 x.2.2.2.2.2.2)
theorem ok_l_mixture (T : Tx K mg) : Cal P w K mg base 4 "_law_mixture" (sp_l_mixture K) [] := by
  have h_l_plus := ok_l_plus (P := P) (w := w) (base := base) T
  have h_l_times := ok_l_times (P := P) (w := w) (base := base) T
  obtain ⟨fd, F⟩ := T.d_l_mixture
  refine ⟨_, fd, ["_law_prime_here", "_law_share", "_law_one", "_law_other"], [], F.ok sc_l_mixture (spG_len fun _ => rfl) (fun cdv A outer s H vs Q E hr h => ?_), T.g_l_mixture, F.kp, F.bindsN (fun _ _ _ _ _ _ us hl => match us, hl with | [_, _, _, _], _ => rfl), .nil⟩
  obtain ⟨W, ⟨p, n, m, c, sh, d, e⟩, rfl, ha, ⟨hpo, hc, hsh, hd, he, hnd, hz⟩, k⟩ := h
  dsimp only at hpo hc hsh hd he hnd hz
  obtain ⟨v0, v1, v2, v3, rfl, rfl, h1, h2, h3⟩ := ha.four
  dsimp only at h1 h2 h3
  refine ⟨_, PSs.nox (pss_cons (ps_set (i := 4) sc_l_mixture.nd rfl (Or.inl rfl) (pe_c h_l_plus hr (by decide) rfl (pa_cons (pv 0) (pa_cons (pe_tup (pa_cons pe_int (pa_cons pe_int pa_nil))) (pa_cons (pe_c h_l_times hr (by decide) rfl (pa_cons (pv 0) (pa_cons (pe_tup (pa_cons (pe_op op_sub pe_int pe_int) (pa_cons pe_int pa_nil))) (pa_cons (pv 1) pa_nil)))) pa_nil)))))
    (pss_cons (ps_set (i := 5) sc_l_mixture.nd rfl (Or.inl rfl) pe_dnewT)
    (pss_cons (ps_for PassesOwn.never rfl (pi_keys (pv 2)) (pg_name (i := 6) sc_l_mixture.nd rfl (Or.inl rfl)) (pss_cons (ps_set (i := 7) sc_l_mixture.nd rfl (Or.inl rfl) (pe_c h_l_times hr (by decide) rfl (pa_cons (pv 0) (pa_cons (pv 1) (pa_cons (pe_dget (hu_of hr) (pv 2) (pv 6) (fun _ _ => rfl)) pa_nil)))))
    (pss_one (ps_dput (hu_of hr) (pv 5) (pv 6) (pe_c h_l_plus hr (by decide) rfl (pa_cons (pv 0) (pa_cons (pv 7) (pa_cons (pe_c h_l_times hr (by decide) rfl (pa_cons (pv 0) (pa_cons (pv 4) (pa_cons (pe_dget (hu_of hr) (pv 3) (pv 6) (fun _ _ => rfl)) pa_nil)))) pa_nil)))) rfl))))
    (pss_one (ps_frz (ps_ret (pv 5))))))), ?_⟩
  try simp only [cxK, cxW, cxP]
  have hng := gd_neg hpo hsh
  have hrs := gd_rest hpo hsh
  have h1o := (gd_one hpo).mono (Nat.zero_le 14)
  refine q_asg (R := num K (nplus p (1, 1) (ntimes p (-1, 1) sh))) (ev_call (x := (p, (1, 1), ntimes p (-1, 1) sh)) (as := [int p, num K (1, 1), num K (ntimes p (-1, 1) sh)]) (ea_cons (by walk_at "ev") (ea_cons (ev_tup (ea_cons ev_ci (ea_cons ev_ci ea_nil))) (ea_cons (ev_call (x := (p, (-1, 1), sh)) (as := [int p, num K (-1, 1), num K sh]) (ea_cons (by walk_at "ev") (ea_cons (ev_tup (ea_cons (ev_is (ev_I0 (i := 0) (j := 1) ev_ci ev_ci) rfl) (ea_cons ev_ci ea_nil))) (ea_cons (ev_var rfl h1) ea_nil))) rfl fun _ _ => ⟨hpo, numL_neg, hsh.1.l, sz_neg, hsh.sz hpo (by decide)⟩) ea_nil))) rfl fun _ _ => ⟨hpo, h1o.1.l, hng.1.l, h1o.sz hpo (by decide), hng.sz hpo (by decide)⟩) fun v4 W1 l1 hv4 => ?_
  refine q_newD (K := K) fun l W2 s2 l2 fr L2 => ?_
  have l12 := l1.trans l2
  have frW : Fre W l := l1.free fr
  refine q_forI (it_keys (K := K) (d := d) (ev_var rfl (Rp.mono _ l12.b h2))) (fun i σ' W' => ∃ (o6 o7 : Option V), σ' = [some (.int p), some v1, some v2, some v3, some v4, some (.ref l), o6, o7] ∧ Le W1 W' ∧ LocD K W' l (mixD p sh (d.take i) e)) (fun W3 l3 => ⟨none, none, rfl, l2.trans l3, L2.le l3⟩) ?_ ?_
  · rintro i r x σ' W' W5 N hi s ⟨o6, o7, rfl, lw, L⟩ l5 hx nx
    obtain ⟨t, hti, rfl, htm⟩ := map_at hi
    have hlw := lw.trans l5
    have hLw := l1.trans hlw
    obtain ⟨d1, d2, d3⟩ := hd.2.1 t htm
    obtain ⟨e1, e2⟩ := he.get d1 d2
    obtain ⟨m1, m2, m3⟩ := gd_mix hpo hsh d3 e2
    refine g_name ?_
    refine q_asg (R := num K (ntimes p sh t.2)) (ev_call (x := (p, sh, t.2)) (as := [int p, num K sh, num K t.2]) (ea_cons (ev_vi rfl) (ea_cons (ev_var rfl (Rp.mono _ hLw.b h1)) (ea_cons (ev_dget (K := K) (d := d) (q := t.1) (ev_var rfl (Rp.mono _ hLw.b h2)) (ev_var rfl hx) (val_some hnd htm)) ea_nil))) rfl fun _ _ => ⟨hpo, hsh.1.l, d3.1.l, hsh.sz hpo (by decide), d3.sz hpo (by omega)⟩) fun v7 W6 l6 hv7 => ?_
    refine s_dput (K := K) (d := mixD p sh (d.take i) e) (q := t.1) (n := nplus p (ntimes p sh t.2) (ntimes p (nplus p (1, 1) (ntimes p (-1, 1) sh)) (getW e t.1))) rfl ((L.le l5).le l6) (ev_call (x := (p, ntimes p sh t.2, ntimes p (nplus p (1, 1) (ntimes p (-1, 1) sh)) (getW e t.1))) (as := [int p, num K (ntimes p sh t.2), num K (ntimes p (nplus p (1, 1) (ntimes p (-1, 1) sh)) (getW e t.1))]) (ea_cons (ev_vi rfl) (ea_cons (ev_var rfl hv7) (ea_cons (ev_call (x := (p, nplus p (1, 1) (ntimes p (-1, 1) sh), getW e t.1)) (as := [int p, num K (nplus p (1, 1) (ntimes p (-1, 1) sh)), num K (getW e t.1)]) (ea_cons (ev_vi rfl) (ea_cons (ev_var rfl (Rp.mono _ (hlw.trans l6).b hv4)) (ea_cons (ev_dget (K := K) (d := e) (q := t.1) (ev_var rfl (Rp.mono _ (hLw.trans l6).b h3)) (ev_var rfl (Rp.mono _ l6.b hx)) e1) ea_nil))) rfl fun _ _ => ⟨hpo, hrs.1.l, e2.1.l, hrs.sz hpo (by decide), e2.sz hpo (by omega)⟩) ea_nil))) rfl fun _ _ => ⟨hpo, m1.1.l, m2.1.l, m1.sz hpo (by omega), m2.sz hpo (by omega)⟩) (ev_var rfl (Rp.mono _ l6.b hx)) (by unfold mixD; rw [List.length_map, List.length_take]; omega) fun W7 u7 L7 => ?_
    refine nx _ W7 (l6.b.trans u7.b) ⟨_, _, rfl, u7.le (hlw.trans l6) fr, ?_⟩
    have eq : mixD p sh (d.take (i + 1)) e = putD (mixD p sh (d.take i) e) t.1 (nplus p (ntimes p sh t.2) (ntimes p (nplus p (1, 1) (ntimes p (-1, 1) sh)) (getW e t.1))) := by
      rw [putD_new (by rw [mixD_keys]; exact nodup_snoc hnd hti), List.take_add_one, hti]
      unfold mixD; rw [List.map_append]; rfl
    rw [eq]; exact L7
  · rintro σ' W' s ⟨o6, o7, rfl, lw, L⟩
    rw [List.length_map, List.take_length] at L
    exact s_frz (K := K) L fun W5 u5 h5 => s_ret (ev_var rfl h5) fun v W6 l6 hv => k v W6 ((u5.le (l1.trans lw) frW).trans l6) hv
/-- (places, worths, order) -/
abbrev ICa := Int × Dct × List Int
def CaOk (x : ICa) : Prop := 0 ≤ x.1 ∧ x.1 ≤ 60 ∧ OrdP x.1 x.2.2 ∧ (∀ t ∈ x.2.1, PdOk x.1 t.1) ∧ (x.2.1.map (·.1)).Nodup ∧ x.2.1.length ≤ 1000
def sp_l_called (K : PySem.W.Frag) : Sp := spG (ι := ICa) (fun x => [dctR K x.2.1, lstR K (x.2.2.map int)]) (fun _ x => CaOk x) fun x => dctR K (calD x.2.2 x.2.1)
theorem ok_l_called (T : Tx K mg) : Cal P w K mg base 1 "_law_called" (sp_l_called K) [] := by
  obtain ⟨fd, F⟩ := T.d_l_called
  refine ⟨_, fd, ["_law_worths", "_law_order"], [], F.ok sc_l_called (spG_len fun _ => rfl) (fun cdv A outer s H vs Q E hr h => ?_), T.g_l_called, F.kp, F.bindsN (fun _ _ _ _ _ _ us hl => match us, hl with | [_, _], _ => rfl), .nil⟩
  obtain ⟨W, ⟨n, d, ord⟩, rfl, ha, ⟨hn0, hn, ho, hd, hnd, hz⟩, k⟩ := h
  dsimp only at hn0 hn ho hd hnd hz
  obtain ⟨v0, v1, rfl, h0, h1⟩ := ha.two
  dsimp only at h0 h1
  refine ⟨_, PSs.nox (pss_cons (ps_set (i := 2) sc_l_called.nd rfl (Or.inl rfl) pe_dnewT)
    (pss_cons (ps_for PassesOwn.never rfl (pi_keys (pv 0)) (pg_name (i := 3) sc_l_called.nd rfl (Or.inl rfl)) (pss_one (ps_dput (hu_of hr) (pv 2) (pe_callTy call_tuple_of (by rfl) T.b_tuple (by decide +kernel) (pa_cons (pe_callB cr_sortedI (by rfl) T.b_sorted (by decide +kernel) (pa_cons (pe_lc (own := [("_law_place", 4)]) rfl sc_l_called.nd (pi_tup (pv 3)) (blkOk_by (N := ["_law_worths", "_law_order", "_law_found", "_law_product_here", "_law_place"]) (sc := defScope s_l_called) (by decide +kernel)) (fun _ _ _ _ _ => (pg_name (i := 4) sc_l_called.nd rfl (Or.inl rfl))) (fun _ _ _ _ _ => pts_nil) (fun _ _ _ _ _ => (pe_ix (ix_list : IxR _ (rIxL K)) (pv 1) (pv 4) (fun _ _ => rfl)))) pa_nil)) pa_nil)) (pe_dget (hu_of hr) (pv 0) (pv 3) (fun _ _ => rfl)) rfl)))
    (pss_one (ps_frz (ps_ret (pv 2)))))), ?_⟩
  try simp only [cxK, cxW, cxP]
  have hl := ho.len
  have hcn := cal_nodup ho hn0 hd hnd
  refine q_newD (K := K) fun l W2 s2 l2 fr L2 => ?_
  refine q_forI (it_keys (K := K) (d := d) (ev_var rfl (Rp.mono _ l2.b h0))) (fun i σ' W' => ∃ (o3 o4 : Option V), σ' = [some v0, some v1, some (.ref l), o3, o4] ∧ Le W W' ∧ LocD K W' l (calD ord (d.take i))) (fun W3 l3 => ⟨none, none, rfl, l2.trans l3, L2.le l3⟩) ?_ ?_
  · rintro i r x σ' W' W5 N hi s ⟨o3, o4, rfl, lw, L⟩ l5 hx nx
    obtain ⟨t, hti, rfl, htm⟩ := map_at hi
    have hlw := lw.trans l5
    have hq := hd t htm
    have hlen := hq.len60 hn
    refine g_name ?_
    refine s_dput (K := K) (d := calD ord (d.take i)) (q := renP ord t.1) (n := t.2) rfl (L.le l5) (ev_dget (K := K) (d := d) (q := t.1) (ev_var rfl (Rp.mono _ hlw.b h0)) (ev_var rfl hx) (val_some hnd htm)) (ev_tupOfI (ev_sortU (ns := t.1.map (at_ ord)) ?_ (ren_nodup ho.ok.1 hq (by omega)))) (by unfold calD; rw [List.length_map, List.length_take]; omega) fun W7 u7 L7 => ?_
    · rw [List.map_map]
      refine ev_mapI (F := int) (xs := t.1) (it_prod (K := K) (ev_var rfl hx)) (by omega) ?_
      intro i u W4 hi l4 hu Q2 q2
      have := hq.2 i hi
      exact g_name (q2 _ rfl (ev_ixI (K := K) (ev_var rfl (Rp.mono _ (hlw.trans l4).b h1)) (ev_var rfl hu) this.1 (by omega)))
    · refine nx _ W7 u7.b ⟨_, _, rfl, u7.le hlw fr, ?_⟩
      have eq : calD ord (d.take (i + 1)) = putD (calD ord (d.take i)) (renP ord t.1) t.2 := by
        have hti2 : (calD ord d)[i]? = some (renP ord t.1, t.2) := by
          unfold calD; rw [List.getElem?_map, hti]; rfl
        have := nodup_snoc hcn hti2
        have e3 : (calD ord d).take i = calD ord (d.take i) := by unfold calD; rw [List.map_take]
        rw [e3] at this
        rw [putD_new this, List.take_add_one, hti]
        unfold calD; rw [List.map_append]; rfl
      rw [eq]; exact L7
  · rintro σ' W' s ⟨o3, o4, rfl, lw, L⟩
    rw [List.length_map, List.take_length] at L
    exact s_frz (K := K) L fun W5 u5 h5 => s_ret (ev_var rfl h5) fun v W6 l6 hv => k v W6 ((u5.le lw fr).trans l6) hv
end
end Fs

set_option Elab.async false
set_option linter.all false
set_option maxRecDepth 100000
set_option maxHeartbeats 2000000
namespace Fs
open PySem PySem.Spec PyProof.Rows L2 C8
def Gat (p n k : Int) (r : List Tm) : Prop := ∃ ts, RowOk p n 14 ts ∧ (ts.length : Int) ≤ k ∧ r = gath p ts
theorem Gat.ok {p n k : Int} {r : List Tm} (hp : PrOk p) (hk : k ≤ 200) (h : Gat p n k r) : RowOk p n 22 r ∧ (r.length : Int) ≤ k := by
  obtain ⟨ts, h1, h2, rfl⟩ := h
  have := gath_len (p := p) (ts := ts)
  exact ⟨gath_ok hp h1 (by omega), by omega⟩
def totS (p : Int) (zs : Zs) : List Tm := zs.flatMap fun x => gath p (prodT p x.1 x.2)
def PairOk (p n : Int) (x : List Tm × List Tm) : Prop := Gat p n 3 x.1 ∧ Gat p n 2 x.2
def restT (p : Int) (zs : Zs) : List Tm := (totS p zs).map (negT p) ++ oneT
def lastZ (p : Int) (zs : Zs) : List Tm × List Tm := (gath p (restT p zs), oneT)
def ShP (p n : Int) (zs : Zs) : Prop := ∃ (z1 : Zs) (a : Nat), z1.length ≤ 2 ∧ (∀ x ∈ z1, PairOk p n x) ∧ zs = z1.take a ++ [lastZ p z1] ++ z1.drop a
theorem pair_ok {p n : Int} {x : List Tm × List Tm} (hp : PrOk p) (h : PairOk p n x) : RowOk p n 22 x.1 ∧ RowOk p n 22 x.2 ∧ x.1.length ≤ 3 ∧ x.2.length ≤ 2 ∧ x.1.length * x.2.length ≤ 6 := by
  obtain ⟨h1, h2⟩ := h.1.ok hp (by decide)
  obtain ⟨h3, h4⟩ := h.2.ok hp (by decide)
  exact ⟨h1, h3, by omega, by omega, Nat.mul_le_mul (show x.1.length ≤ 3 by omega) (show x.2.length ≤ 2 by omega)⟩
theorem totS_ok {p n : Int} (hp : PrOk p) : ∀ {zs : Zs}, (∀ x ∈ zs, PairOk p n x) → RowOk p n 52 (totS p zs) ∧ (totS p zs).length ≤ 6 * zs.length
  | [], _ => ⟨fun t ht => by simp [totS] at ht, by simp [totS]⟩
  | x :: zs, h => by
    obtain ⟨h1, h2⟩ := totS_ok hp (zs := zs) fun y hy => h y (List.mem_cons_of_mem _ hy)
    obtain ⟨g1, g2, g3, g4, g5⟩ := pair_ok hp (h x (List.mem_cons_self ..))
    have hl : (gath p (prodT p x.1 x.2)).length ≤ 6 := Nat.le_trans gath_len (by rw [prodT_len]; exact g5)
    have e : totS p (x :: zs) = gath p (prodT p x.1 x.2) ++ totS p zs := by unfold totS; rw [List.flatMap_cons]
    rw [e]
    exact ⟨(gath_ok hp (prodT_ok hp g1 g2) (by rw [prodT_len]; omega)).app h1, by rw [List.length_append, List.length_cons]; omega⟩
theorem rest_ok {p n : Int} (hp : PrOk p) {zs : Zs} (h : ∀ x ∈ zs, PairOk p n x) : RowOk p n 52 (restT p zs) ∧ (restT p zs).length ≤ 6 * zs.length + 1 := by
  obtain ⟨h1, h2⟩ := totS_ok hp h
  refine ⟨RowOk.app (fun t ht => ?_) (oneT_ok hp), by unfold restT oneT; rw [List.length_append, List.length_map, List.length_singleton]; omega⟩
  obtain ⟨u, hu, rfl⟩ := List.mem_map.mp ht
  exact ⟨(h1 u hu).1, gd_neg hp (h1 u hu).2⟩
theorem totS_snoc {p : Int} {zs : Zs} {x : List Tm × List Tm} : totS p (zs ++ [x]) = totS p zs ++ gath p (prodT p x.1 x.2) := by
  unfold totS; rw [List.flatMap_append]; simp
local macro_rules | `(tactic| walk_at "up") => `(tactic| first
  | assumption
  | ((refine Rp.mono _ (by assumption : Same _ _) ?_); walk_at "up")
  | ((refine Rp.mono _ (Le.b (by assumption)) ?_); walk_at "up"))
local macro_rules | `(tactic| walk_at "ev") => `(tactic| first
  | ((with_reducible refine' ev_var ?h1 ?h2); (case h1 => rfl); (case h2 => walk_at "up"))
  | ((with_reducible refine' ev_vi ?h1); (case h1 => rfl))
  | with_reducible exact ev_ci
  | ((with_reducible refine' ev_get0 ?ea); (case ea => walk_at "ev"))
  | ((with_reducible refine' ev_get1 ?ea); (case ea => walk_at "ev"))
  | ((with_reducible refine' ev_I0 ?ea ?eb); (case ea => walk_at "ev"); (case eb => walk_at "ev"))
  | ((with_reducible refine' ev_notV ?ea); (case ea => walk_at "ev"))
  | ((with_reducible refine' eb_test ?ea); (case ea => walk_at "ev"))
  | ((with_reducible refine' eb_B ?ea); (case ea => walk_at "ev"))
  | ((with_reducible refine' eb_not ?ea); (case ea => walk_at "ev"))
  | ((with_reducible refine' ev_eq ?ea ?eb ?ec); (case ea => walk_at "ev"); (case eb => walk_at "ev"); (case ec => rfl))
  | ((with_reducible refine' ev_ne ?ea ?eb ?ec); (case ea => walk_at "ev"); (case eb => walk_at "ev"); (case ec => rfl))
  | ((with_reducible refine' ev_chainI ?ea ?eb ?ec); (case ea => walk_at "ev"); (case eb => walk_at "ev"); (case ec => walk_at "ev"))
  | with_reducible exact ea_nil
  | ((with_reducible refine' ea_cons ?ea ?eb); (case ea => walk_at "ev"); (case eb => walk_at "ev")))
section
variable {P : Program} {w : World} {K : PySem.W.Frag} {mg : Str → Option Value} {base : Heap}
/-- (room, p, places) -/
abbrev ISb := Addr × Int × Int
abbrev rowsL (K : PySem.W.Frag) (rs : List (List Tm)) : Rp := lstR K (rs.map (rows K))
def sp_l_shown_by (K : PySem.W.Frag) : Sp := spG (ι := ISb) (fun x => [is (.ref x.1), int x.2.1, int x.2.2, int 3]) (fun W x => W.r = some x.1 ∧ PrF x.2.1 ∧ 0 ≤ x.2.2 ∧ x.2.2 ≤ 30) fun x => anyR (ShP x.2.1 x.2.2) fun zs => tupR K [rowsL K (zW zs), rowsL K (zS zs)]
theorem ok_l_shown_by (T : Tx K mg) : Cal P w K mg base 6 "_law_shown_by" (sp_l_shown_by K) [] := by
  have h_l_take := ok_l_take (P := P) (w := w) (base := base) T
  have h_l_terms := ok_l_terms (P := P) (w := w) (base := base) T
  have h_l_gather := ok_l_gather (P := P) (w := w) (base := base) T
  have h_l_mult := ok_l_mult (P := P) (w := w) (base := base) T
  have h_l_times := ok_l_times (P := P) (w := w) (base := base) T
  obtain ⟨fd, F⟩ := T.d_l_shown_by
  refine ⟨_, fd, ["_law_room_here", "_law_prime_here", "_law_many", "_law_most"], [], F.ok sc_l_shown_by (spG_len fun _ => rfl) (fun cdv A outer s H vs Q E hr h => ?_), T.g_l_shown_by, F.kp, F.bindsN (fun _ _ _ _ _ _ us hl => match us, hl with | [_, _, _, _], _ => rfl), .nil⟩
  obtain ⟨W, ⟨a, p, n⟩, rfl, ha, ⟨hr0, hp, hn0, hn⟩, k⟩ := h
  dsimp only at hr0 hp hn0 hn
  obtain ⟨v0, v1, v2, v3, rfl, rfl, rfl, rfl, rfl⟩ := ha.four
  refine ⟨_, PSs.nox (pss_cons (ps_set (i := 4) sc_l_shown_by.nd rfl (Or.inl rfl) (pe_lst pa_nil))
    (pss_cons (ps_set (i := 5) sc_l_shown_by.nd rfl (Or.inl rfl) (pe_lst pa_nil))
    (pss_cons (ps_set (i := 6) sc_l_shown_by.nd rfl (Or.inl rfl) (pe_lst pa_nil))
    (pss_cons (ps_for PassesOwn.never rfl (pi_range1 (by rfl) T.b_range (pa_cons (pe_c h_l_take hr (by decide) rfl (pa_cons (pv 0) (pa_cons (pv 3) pa_nil))) pa_nil)) (pg_name (i := 7) sc_l_shown_by.nd rfl (Or.inl rfl)) (pss_cons (ps_expr (pe_bm PySem.F.plainAttrs_list PySem.F.slot_list_append PySem.F.type_list_append mt_append (pv 4) (pa_cons (pe_c h_l_gather hr (by decide) rfl (pa_cons (pv 1) (pa_cons (pe_c h_l_terms hr (by decide) rfl (pa_cons (pv 0) (pa_cons (pv 1) (pa_cons (pv 2) (pa_cons pe_int pa_nil))))) pa_nil))) pa_nil)))
    (pss_cons (ps_expr (pe_bm PySem.F.plainAttrs_list PySem.F.slot_list_append PySem.F.type_list_append mt_append (pv 5) (pa_cons (pe_c h_l_gather hr (by decide) rfl (pa_cons (pv 1) (pa_cons (pe_c h_l_terms hr (by decide) rfl (pa_cons (pv 0) (pa_cons (pv 1) (pa_cons (pv 2) (pa_cons pe_int pa_nil))))) pa_nil))) pa_nil)))
    (pss_one (ps_set (i := 6) sc_l_shown_by.nd rfl (Or.inl rfl) (pe_op op_cat (pv 6) (pe_c h_l_mult hr (by decide) rfl (pa_cons (pv 1) (pa_cons (pe_ix ix_list (pv 4) (pv 7) (fun _ _ => rfl)) (pa_cons (pe_ix ix_list (pv 5) (pv 7) (fun _ _ => rfl)) pa_nil))))))))))
    (pss_cons (ps_setLc (i := 8) (own := [("_law_product_here", 9), ("_law_number_here", 10)]) rfl sc_l_shown_by.nd rfl rfl (sw_true rfl rfl rfl (by decide +kernel)) (pi_list (pv 6)) (blkOk_by (N := ["_law_room_here", "_law_prime_here", "_law_many", "_law_most", "_law_wishes", "_law_sums", "_law_total", "_law_k", "_law_rest", "_law_product_here", "_law_number_here", "_law_at"]) (sc := defScope s_l_shown_by) (by decide +kernel)) (fun _ _ _ _ _ => (pg_tup (n := 2) rfl (pgs_cons (pg_name (i := 9) sc_l_shown_by.nd rfl (Or.inl rfl)) (pgs_cons (pg_name (i := 10) sc_l_shown_by.nd rfl (Or.inl rfl)) pgs_nil)) : PG _ _ (gTup K 2 _))) (fun _ _ _ _ _ => pts_nil) (fun _ _ _ _ _ => (pe_tup (pa_cons (pv 9) (pa_cons (pe_c h_l_times hr (by decide) rfl (pa_cons (pv 1) (pa_cons (pe_tup (pa_cons (pe_op op_sub pe_int pe_int) (pa_cons pe_int pa_nil))) (pa_cons (pv 10) pa_nil)))) pa_nil)))))
    (pss_cons (ps_set (i := 11) sc_l_shown_by.nd rfl (Or.inl rfl) (pe_c h_l_take hr (by decide) rfl (pa_cons (pv 0) (pa_cons (pe_op op_add (pe_callB call_len_seq (by rfl) T.b_len (by decide +kernel) (pa_cons (pv 4) pa_nil)) pe_int) pa_nil))))
    (pss_cons (ps_expr (pe_bm PySem.F.plainAttrs_list PySem.F.slot_list_insert PySem.F.type_list_insert mt_insert (pv 4) (pa_cons (pv 11) (pa_cons (pe_c h_l_gather hr (by decide) rfl (pa_cons (pv 1) (pa_cons (pe_op op_cat (pv 8) (pe_lst (pa_cons (pe_tup (pa_cons (pe_tup pa_nil) (pa_cons (pe_tup (pa_cons pe_int (pa_cons pe_int pa_nil))) pa_nil))) pa_nil))) pa_nil))) pa_nil))))
    (pss_cons (ps_expr (pe_bm PySem.F.plainAttrs_list PySem.F.slot_list_insert PySem.F.type_list_insert mt_insert (pv 5) (pa_cons (pv 11) (pa_cons (pe_lst (pa_cons (pe_tup (pa_cons (pe_tup pa_nil) (pa_cons (pe_tup (pa_cons pe_int (pa_cons pe_int pa_nil))) pa_nil))) pa_nil)) pa_nil))))
    (pss_one (ps_ret (pe_tup (pa_cons (pv 4) (pa_cons (pv 5) pa_nil))))))))))))), ?_⟩
  try simp only [cxK, cxW, cxP]
  have hpo := hp.ok
  have gt : ∀ {W2 : Wd} {σ : L2.St} {m : Int}, Le W W2 → 0 ≤ m → m ≤ 30 → σ[0]? = some (some (.ref a)) → σ[1]? = some (some (.int p)) → σ[2]? = some (some (.int n)) → Ev (tCall (sp_l_gather K) [] E (tCons (tVar 1) (tCons (tCall (sp_l_terms K) [] E (tCons (tVar 0) (tCons (tVar 1) (tCons (tVar 2) (tCons (tC (.int m)) tNil))))) tNil))) σ W2 (anyR (Gat p n m) (rows K)) := by
    intro W2 σ m l hm0 hm e0 e1 e2
    refine ev_callX (as := [int p, anyR (fun r => RowOk p n 14 r ∧ (r.length : Int) ≤ m) (rows K)]) (ea_cons (ev_vi e1) (ea_cons (ev_callL (K := K) (as := [is (.ref a), int p, int n, int m]) (ea_cons (ev_vi e0) (ea_cons (ev_vi e1) (ea_cons (ev_vi e2) (ea_cons ev_ci ea_nil)))) (a, p, n, m) rfl fun W3 l3 => ⟨(l.trans l3).r.trans hr0, hp, hn0, by show n ≤ 60; omega, hm0, hm⟩) ea_nil)) ?_
    intro W3 vs l3 hvs
    obtain ⟨u0, u1, rfl, e3, r, ⟨h1, h2⟩, e4⟩ := hvs.two
    exact ⟨(p, n, 14, r), ⟨e3, e4, True.intro⟩, ⟨hpo, by show n ≤ 60; omega, by show 14 ≤ 190; decide, h1, by show r.length ≤ 256; omega⟩, fun W4 v hv => ⟨gath p r, ⟨r, h1, h2, rfl⟩, hv⟩⟩
  refine q_newL (rs := []) ea_nil (by decide) fun la W1 s1 l1 fra La1 => ?_
  refine q_newL (rs := []) ea_nil (by decide) fun lb W2 s2 l2 frb Lb2 => ?_
  have nab : la ≠ lb := La1.ne frb
  have frbW : Fre W lb := l1.free frb
  refine q_asg (R := rows K []) (ev_lst ea_nil) fun v6 W3 l3 hv6 => ?_
  have l12 := l1.trans l2
  have l13 := l12.trans l3
  refine q_forA (P := fun i => 0 ≤ i ∧ i < 3) (ev_take (K := K) (ea_cons (ev_vi rfl) (ea_cons (ev_vi rfl) ea_nil)) (l13.r.trans hr0) (by decide) (by decide)) fun c W4 l4 hc => ?_
  have l14 := l13.trans l4
  refine q_forI (it_rng1 (n := c) (ea_cons ev_ci ea_nil) (by omega)) (fun i σ' W' => ∃ (u6 : V) (o7 : Option V) (zs : Zs), σ' = [some (.ref a), some (.int p), some (.int n), some (.int 3), some (.ref la), some (.ref lb), some u6, o7, none, none, none, none] ∧ Le W W' ∧ LocL W' la ((zW zs).map (rows K)) ∧ LocL W' lb ((zS zs).map (rows K)) ∧ (rows K (totS p zs)).p W'.B u6 ∧ (∀ x ∈ zs, PairOk p n x) ∧ zs.length = i) (fun W5 l5 => ⟨v6, none, [], rfl, l14.trans l5, (((La1.le l2).le l3).le l4).le l5, ((Lb2.le l3).le l4).le l5, Rp.mono _ (l4.trans l5).b hv6, fun x hx => by simp at hx, rfl⟩) ?_ ?_
  · rintro i r x σ' W' W5 N hi s ⟨u6, o7, zs, rfl, lw, La, Lb, hu6, hzs, hlen⟩ l5 hx nx
    have hil : i < c.toNat := by
      have := (List.getElem?_eq_some_iff.mp hi).1
      rwa [List.length_map, upTo_len] at this
    obtain ⟨y, hy, rfl, hm⟩ := map_at hi
    cases hx
    obtain ⟨rfl, hlt⟩ := upTo_at hy
    have hlw := lw.trans l5
    refine g_name ?_
    refine q_appA (P := Gat p n 3) (f := rows K) rfl (La.le l5) (gt hlw (by decide) (by decide) rfl rfl rfl) (by rw [List.length_map, List.length_map]; omega) fun ra W6 hra u6' La6 => ?_
    have lw6 := u6'.le hlw fra
    have Lb6 := (Lb.le l5).up u6' nab.symm
    refine q_appA (P := Gat p n 2) (f := rows K) rfl Lb6 (gt lw6 (by decide) (by decide) rfl rfl rfl) (by rw [List.length_map, List.length_map]; omega) fun rb W7 hrb u7 Lb7 => ?_
    have lw7 := u7.le lw6 frbW
    have La7 := La6.up u7 nab
    have hpk : PairOk p n (ra, rb) := ⟨hra, hrb⟩
    obtain ⟨g1, g2, g3, g4, g5⟩ := pair_ok hpo hpk
    dsimp only at g1 g2 g3 g4 g5
    obtain ⟨t1, t2⟩ := totS_ok hpo hzs
    have hgl : (gath p (prodT p ra rb)).length ≤ 6 := Nat.le_trans gath_len (by rw [prodT_len]; exact g5)
    have eza : (zW (zs ++ [(ra, rb)])).map (rows K) = (zW zs).map (rows K) ++ [rows K ra] := by simp [zW]
    have ezb : (zS (zs ++ [(ra, rb)])).map (rows K) = (zS zs).map (rows K) ++ [rows K rb] := by simp [zS]
    have ex : ∀ {W8 : Wd} {σ : L2.St}, Le W7 W8 → σ[4]? = some (some (.ref la)) → σ[7]? = some (some (.int (0 + (i : Int)))) → Ev (tOp (rIxL K) (tVar 4) (tVar 7)) σ W8 (rows K ra) := fun l e1 e2 => ev_ixLoc e1 (La7.le l) (ev_vi e2) (by omega) (by rw [List.length_append, List.length_map, List.length_map, List.length_singleton]; omega) (by
      rw [Int.zero_add, Int.toNat_natCast, List.getElem?_append_right (by rw [List.length_map, List.length_map, hlen]; exact Nat.le_refl _), List.length_map, List.length_map, hlen, Nat.sub_self]; rfl)
    have ey : ∀ {W8 : Wd} {σ : L2.St}, Le W7 W8 → σ[5]? = some (some (.ref lb)) → σ[7]? = some (some (.int (0 + (i : Int)))) → Ev (tOp (rIxL K) (tVar 5) (tVar 7)) σ W8 (rows K rb) := fun l e1 e2 => ev_ixLoc e1 (Lb7.le l) (ev_vi e2) (by omega) (by rw [List.length_append, List.length_map, List.length_map, List.length_singleton]; omega) (by
      rw [Int.zero_add, Int.toNat_natCast, List.getElem?_append_right (by rw [List.length_map, List.length_map, hlen]; exact Nat.le_refl _), List.length_map, List.length_map, hlen, Nat.sub_self]; rfl)
    refine s_asg (R := lstR K ((totS p zs).map (term K) ++ (gath p (prodT p ra rb)).map (term K))) (ev_catL (ev_var rfl (Rp.mono _ ((l5.b.trans u6'.b).trans u7.b) hu6)) (ev_call (x := (p, n, 22, 22, ra, rb)) (as := [int p, rows K ra, rows K rb]) (ea_cons (ev_vi rfl) (ea_cons (ex (Le.refl _) rfl rfl) (ea_cons (ey (Le.refl _) rfl rfl) ea_nil))) rfl fun _ _ => ⟨hpo, hn0, hn, by show 22 + 22 ≤ 190; decide, g1, g2, by show ra.length * rb.length ≤ 256; omega, by show ra.length ≤ 256; omega, by show rb.length ≤ 256; omega⟩) (by rw [List.length_map, List.length_map]; omega)) fun v W8 l8 hv => ?_
    refine nx _ W8 ((u6'.b.trans u7.b).trans l8.b) ⟨v, _, zs ++ [(ra, rb)], rfl, lw7.trans l8, ?_, ?_, ?_, ?_, by rw [List.length_append, hlen]; rfl⟩
    · rw [eza]; exact La7.le l8
    · rw [ezb]; exact Lb7.le l8
    · rw [totS_snoc]
      show (lstR K ((totS p zs ++ gath p (prodT p ra rb)).map (term K))).p W8.B v
      rw [List.map_append]; exact hv
    · intro x hx
      rcases List.mem_append.mp hx with hx | hx
      · exact hzs x hx
      · rw [List.mem_singleton.mp hx]; exact hpk
  · rintro σ' W' s ⟨u6, o7, zs, rfl, lw, La, Lb, hu6, hzs, hlen⟩
    rw [List.length_map, upTo_len] at hlen
    have hl2 : zs.length ≤ 2 := by omega
    obtain ⟨t1, t2⟩ := totS_ok hpo hzs
    obtain ⟨r1, r2⟩ := rest_ok hpo hzs
    refine q_asg (R := lstR K ((totS p zs).map fun t => term K (negT p t))) (ev_mapI (F := term K) (G := fun t => term K (negT p t)) (xs := totS p zs) (it_list (K := K) (ev_var rfl hu6)) (by omega) ?_) fun v8 W5 l5 hv8 => ?_
    · intro t v W5 ht l5 hv Q q
      exact g_pair hv fun x1 x2 hx1 hx2 => q _ rfl (ev_tup (ea_cons (ev_var rfl hx1) (ea_cons (ev_call (x := (p, (-1, 1), t.2)) (as := [int p, num K (-1, 1), num K t.2]) (ea_cons (ev_vi rfl) (ea_cons (ev_tup (ea_cons (ev_is (ev_I0 (i := 0) (j := 1) ev_ci ev_ci) rfl) (ea_cons ev_ci ea_nil))) (ea_cons (ev_var rfl hx2) ea_nil))) rfl fun _ _ => ⟨hpo, numL_neg, (t1 t ht).2.1.l, sz_neg, (t1 t ht).2.sz hpo (by decide)⟩) ea_nil)))
    · have lw5 := lw.trans l5
      have La5 := La.le l5
      have Lb5 := Lb.le l5
      refine q_asg (R := anyR (fun i => 0 ≤ i ∧ i < (zs.length : Int) + 1) int) (ev_take (K := K) (ea_cons (ev_vi rfl) (ea_cons (ev_is (ev_I0 (ev_lenLoc (K := K) rfl La5) ev_ci) (by rw [List.length_map, List.length_map])) ea_nil)) (lw5.r.trans hr0) (by omega) (by omega)) ?_
      rintro _ W6 l6 ⟨j, hj, rfl⟩
      have lw6 := lw5.trans l6
      have oneE : ∀ {W2 : Wd} {σ : L2.St}, Ev (tLst (tCons (tTup (tCons (tTup tNil) (tCons (tTup (tCons (tC (.int 1)) (tCons (tC (.int 1)) tNil))) tNil))) tNil)) σ W2 (rows K oneT) := ev_lst (rs := [term K ([], (1, 1))]) (ea_cons (ev_tup (ea_cons (ev_tupI (ps := []) ea_nil (by decide)) (ea_cons (ev_tup (ea_cons ev_ci (ea_cons ev_ci ea_nil))) ea_nil))) ea_nil)
      refine q_ins (j := j) (R := rows K (gath p (restT p zs))) rfl (La5.le l6) (ev_vi rfl) (ev_call (x := (p, n, 52, restT p zs)) (as := [int p, rows K (restT p zs)]) (ea_cons (ev_vi rfl) (ea_cons ?_ ea_nil)) rfl fun _ _ => ⟨hpo, by show n ≤ 60; omega, by show 52 ≤ 190; decide, r1, by show (restT p zs).length ≤ 256; omega⟩) hj.1 (by omega) (by rw [List.length_map, List.length_map]; omega) fun W7 u7 La7 => ?_
      · show Ev _ _ _ (lstR K ((restT p zs).map (term K)))
        unfold restT
        rw [List.map_append, List.map_map]
        exact ev_catL (ev_var rfl (Rp.mono _ l6.b hv8)) oneE (by rw [List.length_map]; show _ + 1 ≤ _; omega)
      · have lw7 := u7.le lw6 fra
        refine q_ins (j := j) (R := rows K oneT) rfl ((Lb5.le l6).up u7 nab.symm) (ev_vi rfl) oneE hj.1 (by omega) (by rw [List.length_map, List.length_map]; omega) fun W8 u8 Lb8 => ?_
        have La8 := La7.up u8 nab
        obtain ⟨W9, e9, u9, h9⟩ := La8.frz (K := K)
        have Lb9 := Lb8.up u9 nab.symm
        obtain ⟨W10, e10, u10, h10⟩ := Lb9.frz (K := K)
        rw [← e9, ← e10]
        have lw10 := u10.le (u9.le (u8.le lw7 frbW) fra) frbW
        refine s_ret (R := anyR (ShP p n) fun zs => tupR K [rowsL K (zW zs), rowsL K (zS zs)]) (ev_any (a := zs.take j.toNat ++ [lastZ p zs] ++ zs.drop j.toNat) ?_ ⟨zs, j.toNat, hl2, hzs, rfl⟩) fun v W11 l11 hv => k v W11 (lw10.trans l11) hv
        refine ev_tup (ea_cons (ev_var rfl ?_) (ea_cons (ev_var rfl ?_) ea_nil))
        · have e : (zW (zs.take j.toNat ++ [lastZ p zs] ++ zs.drop j.toNat)).map (rows K) = ((zW zs).map (rows K)).take j.toNat ++ [rows K (gath p (restT p zs))] ++ ((zW zs).map (rows K)).drop j.toNat := by
            simp [zW, lastZ, List.map_take, List.map_drop]
          show (lstR K ((zW (zs.take j.toNat ++ [lastZ p zs] ++ zs.drop j.toNat)).map (rows K))).p _ _
          rw [e]
          exact Rp.mono _ u10.b h9
        · have e : (zS (zs.take j.toNat ++ [lastZ p zs] ++ zs.drop j.toNat)).map (rows K) = ((zS zs).map (rows K)).take j.toNat ++ [rows K oneT] ++ ((zS zs).map (rows K)).drop j.toNat := by
            simp [zS, lastZ, List.map_take, List.map_drop]
          show (lstR K ((zS (zs.take j.toNat ++ [lastZ p zs] ++ zs.drop j.toNat)).map (rows K))).p _ _
          rw [e]
          exact h10
end
end Fs

set_option Elab.async false
set_option linter.all false
set_option maxRecDepth 100000
set_option maxHeartbeats 2000000
namespace Fs
open PySem PySem.Spec PyProof.Rows L2 C8
section
variable {K : PySem.W.Frag} {σ : L2.St} {W W' W0 : Wd} {ta tb te : TE} {rs ss : List Rp} {ps : List Int} {l a : Addr} {D : Ends} {tz tu : TS} {t : TT} {R RA RB : Rp} {vs : List Nat} {g : TG}
/-- xs = [..], to be changed -/
theorem s_mapL {α : Type} {xs : List α} {F G : α → Rp} {wi : TI} {j : Nat} (h : ItW wi σ W (xs.map F)) (hz : xs.length ≤ 100000)
    (hs : ∀ (a : α) (x : V) (W1 : Wd), a ∈ xs → Le W W1 → (F a).p W1.B x → ∀ Q : L2.St → Hp → Prop, (∀ σ2, wipe σ2 vs = wipe σ vs → Ev te σ2 W1 (G a) → Q σ2 W1.H) → g x (wipe σ vs) W1.H Q)
    (k : ∀ l W1, Le W W1 → Fre W l → LocL W1 l (xs.map G) → D.nx (σ.set j (some (.ref l))) W1.H) : tAsg (tLc wi g tYes te vs) (gName j) D σ W.H :=
  h W (Le.refl _) _ fun J W1 l1 ⟨Gp, Y, w, hG, hY⟩ d hD => by
  rw [List.length_map] at w
  refine lc_it w (Cw W1 d fun i acc => acc = (xs.take i).map G) (cw_start hD rfl) (fun i H' _ ⟨W', _, e, l, _⟩ => by rw [← e]; exact hG W' l.b) ?_ ?_
  · rintro i x H' H'' hi ⟨W', acc, rfl, l, L, rfl, hl⟩ hy
    obtain ⟨a, ha⟩ : ∃ a, xs[i]? = some a := ⟨_, List.getElem?_eq_getElem hi⟩
    have e : (xs.map F)[i]? = some (F a) := by rw [List.getElem?_map, ha]; rfl
    obtain ⟨W4, rfl, l4, hx⟩ := hY i _ x W' H'' e l.b hy
    refine hs a x W4 (List.mem_of_getElem? ha) ((l1.trans l).trans l4) hx _ fun σ2 hw he => ⟨hw, cw_turn hD (l.trans l4) (L.le l4) hl (by omega) (turn_yes he ?_)⟩
    rw [List.take_add_one, ha, List.map_append]; rfl
  · rintro H' ⟨W', acc, rfl, l, L, rfl, hl⟩
    rw [List.take_length] at L
    exact k d W' (l1.trans l) (l1.free (Wd.fre hD)) L
theorem q_mapL {α : Type} {xs : List α} {F G : α → Rp} {wi : TI} {j : Nat} (h : ItW wi σ W (xs.map F)) (hz : xs.length ≤ 100000)
    (hs : ∀ (a : α) (x : V) (W1 : Wd), a ∈ xs → Le W W1 → (F a).p W1.B x → ∀ Q : L2.St → Hp → Prop, (∀ σ2, wipe σ2 vs = wipe σ vs → Ev te σ2 W1 (G a) → Q σ2 W1.H) → g x (wipe σ vs) W1.H Q)
    (k : ∀ l W1, Le W W1 → Fre W l → LocL W1 l (xs.map G) → tz D (σ.set j (some (.ref l))) W1.H) : tSeq (tAsg (tLc wi g tYes te vs) (gName j)) tz D σ W.H := s_mapL (D := { D with nx := tz D }) h hz hs k
/-- reading a list that is being made, at some place -/
theorem ev_ixLocA {α : Type} {xs : List α} {F : α → Rp} {P : α → Prop} {i : Nat} (hi : σ[i]? = some (some (.ref l))) (L : LocL W l (xs.map F)) (hb : Ev tb σ W (anyR (fun z => 0 ≤ z ∧ z < (xs.length : Int)) int)) (hP : ∀ x ∈ xs, P x) : Ev (tOp (rIxL K) (tVar i) tb) σ W (anyR P F) := fun W1 l1 Q q =>
  ⟨_, hi, hb W1 l1 _ fun y W2 l2 ⟨z, hz, ey⟩ => by
    obtain ⟨b, r, vs, g1, g2⟩ := L.le (l1.trans l2)
    have hlt : z.toNat < xs.length := by omega
    have hd : xs[z.toNat]? = some xs[z.toNat] := List.getElem?_eq_getElem hlt
    obtain ⟨v, h3, h4⟩ := g2.at (i := z.toNat) (r := F xs[z.toNat]) (by rw [List.getElem?_map, hd]; rfl)
    refine ⟨l, vs, z, v, rfl, ey, lsq g1, ?_, q v W2 l2 ⟨_, hP _ (List.getElem_mem hlt), h4⟩⟩
    unfold atI
    rw [g2.len, List.length_map, ixN_of hz.1 hz.2]
    exact h3⟩
/-- a, b = e, e a list -/
theorem q_unl {i j : Nat} (h : Ev te σ W (lstR K [RA, RB])) (k : ∀ x y W1, Le W W1 → RA.p W1.B x → RB.p W1.B y → tz D ((σ.set i (some x)).set j (some y)) W1.H) : tSeq (tAsg te (gUnl K 2 (gCons (gName i) (gCons (gName j) gNil)))) tz D σ W.H := h W (Le.refl _) _ fun v W1 l ⟨a, us, e, h1, h2⟩ => by
  obtain ⟨x, y, rfl, hx, hy⟩ := h2.two
  exact ⟨a, [x, y], e, lsq (W1.ex _ _ h1), rfl, x, [y], rfl, y, [], rfl, rfl, k x y W1 l hx hy⟩
theorem q_newDPA {i : Nat} {P : List Tm → Prop} (h : Ev ta σ W (anyR P (rows K))) (hz : ∀ ts, P ts → ts.length ≤ 100000) (k : ∀ ts l W1, P ts → Same W.B W1.B → Le W W1 → Fre W l → LocD K W1 l (mergeD [] ts) → tz D (σ.set i (some (.ref l))) W1.H) : tSeq (tAsg (tCB (rDictT K) (tCons ta tNil)) (gName i)) tz D σ W.H :=
  h W (Le.refl _) _ fun v W1 l1 ⟨ts, hts, hv⟩ => by
    have := q_newDP (K := K) (i := i) (tz := tz) (D := D) (σ := σ) (W := W1) (ta := tC v) (ts := ts) (ev_c hv) (hz ts hts) fun l W2 s2 l2 fr L => k ts l W2 hts (l1.b.trans s2) (l1.trans l2) (l1.free fr) L
    exact this
end
theorem DicOk.mono {p n m : Int} {k k' : Nat} {d : Dct} (h : DicOk p n m k d) (l : k ≤ k') : DicOk p n m k' d := ⟨h.1, fun t ht => ⟨(h.2.1 t ht).1, (h.2.1 t ht).2.1, (h.2.1 t ht).2.2.mono l⟩, h.2.2⟩
def DnOk (p n m : Int) (k : Nat) (d : Dct) : Prop := DicOk p n m k d ∧ (d.map (·.1)).Nodup
theorem rel_keys {P : List Int → Tm → Prop} (hP : ∀ q t, P q t → t.1 = q) : ∀ {qs : List (List Int)} {ts : List Tm}, Rel2 P qs ts → ts.map (·.1) = qs
  | [], [], _ => rfl
  | q :: qs, t :: ts, h => by rw [List.map_cons, rel_keys hP h.2, hP q t h.1]
theorem DicOk.small {p n m : Int} {k : Nat} {d : Dct} (h : DicOk p n m k d) (h0 : 0 ≤ n) (h1 : n ≤ 4) (m0 : 0 ≤ m) : d.length ≤ 16 := by
  have a := prods_at h0 h1 m0
  have b := h.1
  omega
/-- some worths, the first of them one -/
theorem some_ok {p n m : Int} {ts : List Tm} (hp : PrOk p) (h0 : 0 ≤ n) (h1 : n ≤ 4) (m0 : 0 ≤ m) (m1 : m ≤ 8) (h : Rel2 (fun q (t : Tm) => t.1 = q ∧ Gd p 14 t.2) (prL m n.toNat) ts) : DnOk p n m 14 (putD ts [] (1, 1)) := by
  have hk := rel_keys (fun q t h => h.1) h
  have hn : (ts.map (·.1)).Nodup := by rw [hk]; exact prL_nodup h0 h1 m0 m1
  have h0m : ([] : List Int) ∈ ts.map (·.1) := by rw [hk, mem_prL h0 h1 m0 m1]; exact ⟨⟨.nil, fun i hi => by simp at hi⟩, by simpa using m0⟩
  have hk2 : (putD ts [] (1, 1)).map (·.1) = prL m n.toNat := by rw [keys_putD, if_pos h0m, hk]
  have hl : (putD ts [] (1, 1)).length = (prodsOf n (kOf n m)).length := by
    rw [← (prL_ok h0 h1 m0 m1).length_eq, ← hk2, List.length_map]
  refine ⟨⟨by rw [hl]; exact (prods_at h0 h1 m0).2.1, fun t ht => ?_, fun q hq hql => mem_valD (by rw [hk2, mem_prL h0 h1 m0 m1]; exact ⟨hq, hql⟩)⟩, by rw [hk2]; exact prL_nodup h0 h1 m0 m1⟩
  have hm : t.1 ∈ prL m n.toNat := by rw [← hk2]; exact List.mem_map.mpr ⟨t, ht, rfl⟩
  have hm2 := (mem_prL h0 h1 m0 m1).mp hm
  refine ⟨hm2.1, hm2.2, ?_⟩
  rcases mem_putD ht with rfl | ht
  · exact (gd_one hp).mono (Nat.zero_le _)
  · obtain ⟨q, _, hp2⟩ := h.mem t ht
    exact hp2.2
local macro_rules | `(tactic| walk_at "up") => `(tactic| first
  | assumption
  | ((refine Rp.mono _ (by assumption : Same _ _) ?_); walk_at "up")
  | ((refine Rp.mono _ (Le.b (by assumption)) ?_); walk_at "up"))
local macro_rules | `(tactic| walk_at "ev") => `(tactic| first
  | ((with_reducible refine' ev_var ?h1 ?h2); (case h1 => rfl); (case h2 => walk_at "up"))
  | ((with_reducible refine' ev_vi ?h1); (case h1 => rfl))
  | with_reducible exact ev_ci
  | ((with_reducible refine' ev_get0 ?ea); (case ea => walk_at "ev"))
  | ((with_reducible refine' ev_get1 ?ea); (case ea => walk_at "ev"))
  | ((with_reducible refine' ev_I0 ?ea ?eb); (case ea => walk_at "ev"); (case eb => walk_at "ev"))
  | ((with_reducible refine' ev_notV ?ea); (case ea => walk_at "ev"))
  | ((with_reducible refine' eb_test ?ea); (case ea => walk_at "ev"))
  | ((with_reducible refine' eb_B ?ea); (case ea => walk_at "ev"))
  | ((with_reducible refine' eb_not ?ea); (case ea => walk_at "ev"))
  | ((with_reducible refine' ev_eq ?ea ?eb ?ec); (case ea => walk_at "ev"); (case eb => walk_at "ev"); (case ec => rfl))
  | ((with_reducible refine' ev_ne ?ea ?eb ?ec); (case ea => walk_at "ev"); (case eb => walk_at "ev"); (case ec => rfl))
  | ((with_reducible refine' ev_chainI ?ea ?eb ?ec); (case ea => walk_at "ev"); (case eb => walk_at "ev"); (case ec => walk_at "ev"))
  | with_reducible exact ea_nil
  | ((with_reducible refine' ea_cons ?ea ?eb); (case ea => walk_at "ev"); (case eb => walk_at "ev")))
section
variable {P : Program} {w : World} {K : PySem.W.Frag} {mg : Str → Option Value} {base : Heap}
/-- (room, p, places, level, rows, degree) -/
abbrev INo := Addr × Int × Int × Nat × List (List Tm) × Int
def NoOk (x : INo) : Prop := PrF x.2.1 ∧ 1 ≤ x.2.2.1 ∧ x.2.2.1 ≤ 4 ∧ x.2.2.2.1 ≤ 120 ∧ WsOk x.2.1 x.2.2.1 x.2.2.2.1 x.2.2.2.2.1 ∧ 0 ≤ x.2.2.2.2.2 ∧ x.2.2.2.2.2 ≤ 8 ∧ ∀ d, DicOk x.2.1 x.2.2.1 x.2.2.2.2.2 62 d → lwR x.2.1 x.2.2.1 x.2.2.2.2.2 d x.2.2.2.2.1 = false
def sp_l_no_worths (K : PySem.W.Frag) : Sp := spG (ι := INo) (fun x => [is (.ref x.1), sysR K (x.2.1, x.2.2.1, x.2.2.2.2.1), int x.2.1, int x.2.2.1, int x.2.2.2.2.2]) (fun W x => W.r = some x.1 ∧ NoOk x) fun _ => bl true
theorem ok_l_no_worths (T : Tx K mg) : Cal P w K mg base 6 "_law_no_worths" (sp_l_no_worths K) [] := by
  have h_l_take := ok_l_take (P := P) (w := w) (base := base) T
  have h_l_all := ok_l_all (P := P) (w := w) (base := base) T
  have h_l_row_worths := ok_l_row_worths (P := P) (w := w) (base := base) T
  have h_l_number := ok_l_number (P := P) (w := w) (base := base) T
  have h_l_mixture := ok_l_mixture (P := P) (w := w) (base := base) T
  have h_l_products := ok_l_products (P := P) (w := w) (base := base) T
  have h_lets_worths := ok_lets_worths (P := P) (w := w) (base := base) T
  obtain ⟨fd, F⟩ := T.d_l_no_worths
  refine ⟨_, fd, ["_law_room_here", "_law_system", "_law_prime_here", "_law_many", "_law_degree_here"], [], F.ok sc_l_no_worths (spG_len fun _ => rfl) (fun cdv A outer s H vs Q E hr h => ?_), T.g_l_no_worths, F.kp, F.bindsN (fun _ _ _ _ _ _ us hl => match us, hl with | [_, _, _, _, _], _ => rfl), .nil⟩
  obtain ⟨W, ⟨a, p, n, j, ws, m⟩, rfl, ha, ⟨hr0, hp, hn0, hn, hj, hw, hm0, hm, hno⟩, k⟩ := h
  dsimp only at hr0 hp hn0 hn hj hw hm0 hm hno
  obtain ⟨v0, v1, v2, v3, v4, rfl, rfl, h1, rfl, rfl, rfl⟩ := ha.five
  dsimp only at h1
  refine ⟨_, PSs.nox (pss_cons (ps_set (i := 5) sc_l_no_worths.nd rfl (Or.inr rfl) (pe_lc (own := [("_law_row", 6)]) rfl sc_l_no_worths.nd (pi_list (pe_c h_l_all hr (by decide) rfl (pa_cons (pv 3) pa_nil))) (blkOk_by (N := ["_law_room_here", "_law_system", "_law_prime_here", "_law_many", "_law_degree_here", "_law_rows", "_law_row", "_law_k", "_law_one", "_law_other", "_law_turn", "_law_some", "_law_product_here"]) (sc := defScope s_l_no_worths) (by decide +kernel)) (fun _ _ _ _ _ => (pg_name (i := 6) sc_l_no_worths.nd rfl (Or.inl rfl))) (fun _ _ _ _ _ => pts_nil) (fun _ _ _ _ _ => (pe_c h_l_row_worths hr (by decide) rfl (pa_cons (pv 3) (pa_cons (pv 4) (pa_cons (pv 6) pa_nil)))))))
    (pss_cons (ps_for PassesOwn.never rfl (pi_range1 (by rfl) T.b_range (pa_cons pe_int pa_nil)) (pg_name (i := 7) sc_l_no_worths.nd rfl (Or.inl rfl)) (pss_cons (ps_asg (pe_lc (own := [("_law_turn", 10)]) rfl sc_l_no_worths.nd (pi_range1 (by rfl) T.b_range (pa_cons pe_int pa_nil)) (blkOk_by (N := ["_law_room_here", "_law_system", "_law_prime_here", "_law_many", "_law_degree_here", "_law_rows", "_law_row", "_law_k", "_law_one", "_law_other", "_law_turn", "_law_some", "_law_product_here"]) (sc := defScope s_l_no_worths) (by decide +kernel)) (fun _ _ _ _ _ => (pg_name (i := 10) sc_l_no_worths.nd rfl (Or.inl rfl))) (fun _ _ _ _ _ => pts_nil) (fun _ _ _ _ _ => (pe_ix (ix_list : IxR _ (rIxL K)) (pv 5) (pe_c h_l_take hr (by decide) rfl (pa_cons (pv 0) (pa_cons (pe_callB (call_len_seq : CallR _ _ (rLenQ K)) (by rfl) T.b_len (by decide +kernel) (pa_cons (pv 5) pa_nil)) pa_nil))) (fun _ _ => rfl)))) (pg_unl rfl (pgs_cons (pg_name (i := 8) sc_l_no_worths.nd rfl (Or.inl rfl)) (pgs_cons (pg_name (i := 9) sc_l_no_worths.nd rfl (Or.inl rfl)) pgs_nil))))
    (pss_cons (ps_expr (pe_bm PySem.F.plainAttrs_list PySem.F.slot_list_append PySem.F.type_list_append mt_append (pv 5) (pa_cons (pe_c h_l_mixture hr (by decide) rfl (pa_cons (pv 2) (pa_cons (pe_c h_l_number hr (by decide) rfl (pa_cons (pv 0) (pa_cons (pv 2) pa_nil))) (pa_cons (pv 8) (pa_cons (pv 9) pa_nil))))) pa_nil)))
    (pss_cons (ps_set (i := 11) sc_l_no_worths.nd rfl (Or.inl rfl) (pe_callTy (call_dictPT (room_u3 hr) rfl) (by rfl) T.b_dict (by decide +kernel) (pa_cons (pe_lc (own := [("_law_product_here", 12)]) rfl sc_l_no_worths.nd (pi_list (pe_c h_l_products hr (by decide) rfl (pa_cons (pv 3) (pa_cons (pv 4) pa_nil)))) (blkOk_by (N := ["_law_room_here", "_law_system", "_law_prime_here", "_law_many", "_law_degree_here", "_law_rows", "_law_row", "_law_k", "_law_one", "_law_other", "_law_turn", "_law_some", "_law_product_here"]) (sc := defScope s_l_no_worths) (by decide +kernel)) (fun _ _ _ _ _ => (pg_name (i := 12) sc_l_no_worths.nd rfl (Or.inl rfl))) (fun _ _ _ _ _ => pts_nil) (fun _ _ _ _ _ => (pe_tup (pa_cons (pv 12) (pa_cons (pe_c h_l_number hr (by decide) rfl (pa_cons (pv 0) (pa_cons (pv 2) pa_nil))) pa_nil))))) pa_nil)))
    (pss_cons (ps_dput (hu_of hr) (pv 11) (pe_tup pa_nil) (pe_tup (pa_cons pe_int (pa_cons pe_int pa_nil))) rfl)
    (pss_one (ps_frz (ps_expr (pe_bm PySem.F.plainAttrs_list PySem.F.slot_list_append PySem.F.type_list_append mt_append (pv 5) (pa_cons (pv 11) pa_nil))))))))))
    (pss_one (ps_ret (pe_cmpR (op_eqD hr.units) (pe_lc (own := [("_law_row", 6)]) rfl sc_l_no_worths.nd (pi_list (pv 5)) (blkOk_by (N := ["_law_room_here", "_law_system", "_law_prime_here", "_law_many", "_law_degree_here", "_law_rows", "_law_row", "_law_k", "_law_one", "_law_other", "_law_turn", "_law_some", "_law_product_here"]) (sc := defScope s_l_no_worths) (by decide +kernel)) (fun _ _ _ _ _ => (pg_name (i := 6) sc_l_no_worths.nd rfl (Or.inl rfl))) (fun _ _ _ _ _ => (pts_one (pt_cmpR op_notBl (pe_c h_lets_worths hr (by decide) rfl (pa_cons (pv 1) (pa_cons (pv 4) (pa_cons (pv 6) pa_nil)))) pe_bl (nomark _)))) (fun _ _ _ _ _ => (pv 6))) (pe_lst pa_nil) (nomark _)))))), ?_⟩
  try simp only [cxK, cxW, cxP]
  have hpo := hp.ok
  have hn00 : 0 ≤ n := by omega
  have hpp := prL_ok hn00 hn hm0 hm
  refine q_mapL (F := prod) (G := fun r => dctR K (fillD r (prL m n.toNat))) (xs := allF n.toNat) (it_list (K := K) (ev_call (x := n) (as := [int n]) (ea_cons (by walk_at "ev") ea_nil) rfl fun _ _ => ⟨hn00, hn⟩)) (by have := allF_len n.toNat; have := pow4 (show n.toNat ≤ 4 by omega); omega) ?_ fun l W1 l1 fr L1 => ?_
  · intro r x W1 hr1 l1 hx Q q
    obtain ⟨r1, r2⟩ := allF_ok hr1
    exact g_name (q _ rfl (ev_call (x := (n, m, r)) (as := [int n, int m, prod r]) (ea_cons (ev_vi rfl) (ea_cons (ev_vi rfl) (ea_cons (ev_var rfl hx) ea_nil))) rfl fun _ _ => ⟨hn00, hn, hm0, hm, by show n = (r.length : Int); omega, r2⟩))
  have L1' : LocL W1 l (((allF n.toNat).map fun r => fillD r (prL m n.toNat)).map (dctR K)) := by rw [List.map_map]; exact L1
  refine q_forI (it_rng1 (n := 3) (ea_cons (by walk_at "ev") ea_nil) (by decide)) (fun i σ' W' => ∃ (o6 o7 o8 o9 o10 o11 o12 : Option V) (ds : List Dct), σ' = [some (.ref a), some v1, some (.int p), some (.int n), some (.int m), some (.ref l), o6, o7, o8, o9, o10, o11, o12] ∧ Le W W' ∧ LocL W' l (ds.map (dctR K)) ∧ (∀ d ∈ ds, DnOk p n m (14 + 16 * i) d) ∧ 1 ≤ ds.length ∧ ds.length ≤ 16 + 2 * i) (fun W3 l3 => ⟨none, none, none, none, none, none, none, (allF n.toNat).map fun r => fillD r (prL m n.toNat), rfl, l1.trans l3, L1'.le l3, fun d hd => ?_, ?_, ?_⟩) ?_ ?_
  · obtain ⟨r, hr1, rfl⟩ := List.mem_map.mp hd
    exact ⟨(fill_ok hpo hn00 hn hm0 hpp).mono (by omega), by rw [fill_keys]; exact prL_nodup hn00 hn hm0 hm⟩
  · rw [List.length_map, allF_len]; exact Nat.one_le_two_pow
  · rw [List.length_map, allF_len]; have := pow4 (show n.toNat ≤ 4 by omega); omega
  · rintro i r x σ' W' W5 N hi s ⟨o6, o7, o8, o9, o10, o11, o12, ds, rfl, lw, L, hds, hl0, hl1⟩ l5 hx nx
    have hil : i < 3 := by
      have := (List.getElem?_eq_some_iff.mp hi).1
      rwa [List.length_map, upTo_len] at this
    have hlw := lw.trans l5
    have L5 := L.le l5
    refine g_name ?_
    refine q_unl (K := K) (RA := anyR (DnOk p n m (14 + 16 * i)) (dctR K)) (RB := anyR (DnOk p n m (14 + 16 * i)) (dctR K)) (ev_mapI (F := int) (G := fun _ => anyR (DnOk p n m (14 + 16 * i)) (dctR K)) (xs := upTo 0 2) (it_rng1 (n := 2) (ea_cons (by walk_at "ev") ea_nil) (by decide)) (by decide) ?_) fun x y W6 l6 hx1 hx2 => ?_
    · intro c x W6 hc l6 hx Q q
      have L6 := L5.le l6
      refine g_name (q _ rfl ?_)
      exact ev_ixLocA (K := K) (l := l) (xs := ds) (F := dctR K) rfl L6 (ev_take (K := K) (ea_cons (ev_vi rfl) (ea_cons (ev_is (ev_lenLoc (K := K) (l := l) (rs := ds.map (dctR K)) rfl L6) (by rw [List.length_map])) ea_nil)) ((hlw.trans l6).r.trans hr0) (by omega) (by omega)) hds
    · obtain ⟨d1, ⟨D1, D1n⟩, hx1⟩ := hx1
      obtain ⟨d2, ⟨D2, D2n⟩, hx2⟩ := hx2
      have hlw6 := hlw.trans l6
      have dz := D1.small hn00 hn hm0
      refine q_appA (P := DnOk p n m (14 + 16 * (i + 1))) (f := dctR K) rfl (L5.le l6) (ev_callX (as := [int p, anyR (Gd p 14) (num K), dctR K d1, dctR K d2]) (ea_cons (ev_vi rfl) (ea_cons (ev_call (x := (a, p)) (as := [is (.ref a), int p]) (ea_cons (ev_vi rfl) (ea_cons (ev_vi rfl) ea_nil)) rfl fun W7 l7 => ⟨(hlw6.trans l7).r.trans hr0, hp⟩) (ea_cons (ev_var rfl hx1) (ea_cons (ev_var rfl hx2) ea_nil)))) ?_) (by rw [List.length_map]; omega) fun d3 W7 hd3 u7 L7 => ?_
      · intro W7 vs l7 hvs
        obtain ⟨u0, u1, u2, u3, rfl, e0, ⟨sh, hsh, e1⟩, e2, e3⟩ := hvs.four
        exact ⟨(p, n, m, 14 + 16 * i, sh, d1, d2), ⟨e0, e1, e2, e3, True.intro⟩, ⟨hpo, by show 14 + 16 * i ≤ 150; omega, hsh, D1, D2, D1n, by show d1.length ≤ 1000; omega⟩, fun W8 v hv => ⟨mixD p sh d1 d2, ⟨mix_ok hpo hsh D1 D2, by rw [mixD_keys]; exact D1n⟩, hv⟩⟩
      · have lw7 := u7.le hlw6 fr
        refine q_newDPA (K := K) (P := Rel2 (fun q (t : Tm) => t.1 = q ∧ Gd p 14 t.2) (prL m n.toNat)) (ev_mapA (K := K) (F := prod) (G := term K) (P := fun q (t : Tm) => t.1 = q ∧ Gd p 14 t.2) (xs := prL m n.toNat) (it_list (K := K) (ev_call (x := (n, m)) (as := [int n, int m]) (ea_cons (ev_vi rfl) (ea_cons (ev_vi rfl) ea_nil)) rfl fun _ _ => ⟨hn00, hn⟩)) (by have := prL_len (m := m) n.toNat; have := pow4 (show n.toNat ≤ 4 by omega); omega) ?_) (fun ts hts => by rw [hts.len]; have := prL_len (m := m) n.toNat; have := pow4 (show n.toNat ≤ 4 by omega); omega) fun ts l8 W8 hts s8 l8' fr8 L8 => ?_
        · intro q x W8 hq l8 hx Q q2
          exact g_name (q2 _ rfl (ev_termA (ev_var rfl hx) (ev_call (x := (a, p)) (as := [is (.ref a), int p]) (ea_cons (ev_vi rfl) (ea_cons (ev_vi rfl) ea_nil)) rfl fun W9 l9 => ⟨((lw7.trans l8).trans l9).r.trans hr0, hp⟩)))
        · have hk := rel_keys (fun q (t : Tm) (h : t.1 = q ∧ Gd p 14 t.2) => h.1) hts
          have hnd : (ts.map (·.1)).Nodup := by rw [hk]; exact prL_nodup hn00 hn hm0 hm
          rw [merge_id hnd] at L8
          have hso := some_ok hpo hn00 hn hm0 hm hts
          have hz : ts.length ≤ 16 := by rw [hts.len]; have := prL_len (m := m) n.toNat; have := pow4 (show n.toNat ≤ 4 by omega); omega
          refine q_dput (K := K) (d := ts) (q := []) (n := (1, 1)) rfl L8 (ev_tup (ea_cons ev_ci (ea_cons ev_ci ea_nil))) (ev_tupI (ps := []) ea_nil (by decide)) (by omega) fun W9 u9 L9 => ?_
          have frL : Fre W l8 := lw7.free fr8
          have nl8 : l ≠ l8 := L7.ne fr8
          refine s_frz (K := K) L9 fun W10 u10 h10 => ?_
          have lw10 := u10.le (u9.le (lw7.trans l8') frL) frL
          have L10 := ((L7.le l8').up u9 nl8).up u10 nl8
          refine s_app (R := dctR K (putD ts [] (1, 1))) rfl L10 (ev_var rfl h10) (by rw [List.length_append, List.length_map, List.length_singleton]; omega) fun W11 u11 L11 => ?_
          refine nx _ W11 ((((l6.b.trans u7.b).trans s8).trans (u9.b.trans u10.b)).trans u11.b) ⟨_, _, _, _, _, _, _, ds ++ [d3] ++ [putD ts [] (1, 1)], rfl, u11.le lw10 fr, ?_, ?_, ?_, ?_⟩
          · rw [List.map_append, List.map_append]; exact L11
          · intro d hd
            rcases List.mem_append.mp hd with hd | hd
            · rcases List.mem_append.mp hd with hd | hd
              · exact ⟨(hds d hd).1.mono (by omega), (hds d hd).2⟩
              · rw [List.mem_singleton.mp hd]; exact hd3
            · rw [List.mem_singleton.mp hd]; exact ⟨hso.1.mono (by omega), hso.2⟩
          · rw [List.length_append, List.length_append]; omega
          · rw [List.length_append, List.length_append, List.length_singleton, List.length_singleton]; omega
  · rintro σ' W' s ⟨o6, o7, o8, o9, o10, o11, o12, ds, rfl, lw, L, hds, hl0, hl1⟩
    rw [List.length_map, upTo_len] at hds hl1
    obtain ⟨W5, e5, u5, h5⟩ := L.frz (K := K)
    rw [← e5]
    have lw5 := u5.le lw fr
    have hef : ds.filter (fun d => !decide (lwR p n m d ws = false)) = [] := by
      rw [List.filter_eq_nil_iff]
      intro d hd
      rw [hno d ((hds d hd).1)]
      simp
    have e1 : lstR K [] = lstR K ((ds.filter fun d => !decide (lwR p n m d ws = false)).map (dctR K)) := by rw [hef]; rfl
    refine s_ret (R := bl true) (ev_is (ev_eqD (K := K) (RA := lstR K []) (RB := lstR K []) ?_ (ev_lst ea_nil) (dt_lst (n := 0) (ds := []) True.intro) (dt_lst (n := 0) (ds := []) True.intro) (by decide) (by decide)) rfl) fun v W6 l6 hv => k v W6 (lw5.trans l6) hv
    rw [e1]
    refine ev_filI (F := dctR K) (G := dctR K) (xs := ds) (p := fun d => !decide (lwR p n m d ws = false)) (it_list (K := K) (ev_var rfl h5)) (by omega) ?_
    intro d x W6 hd l6 hx Q q
    exact g_name (q _ rfl (eb_test (ev_notBl (ev_call (x := (p, n, j, 62, ws, m, d)) (as := [sysR K (p, n, ws), int m, dctR K d]) (ea_cons (ev_var rfl (Rp.mono _ (lw5.trans l6).b h1)) (ea_cons (ev_vi rfl) (ea_cons (ev_var rfl hx) ea_nil))) rfl fun _ _ => ⟨hp, hn0, hn, by show j + 62 ≤ 190; omega, hw, hm0, by show m ≤ 300; omega, (hds d hd).1⟩) ev_ci)) fun _ => ev_var rfl hx)
end
end Fs

set_option Elab.async false
set_option linter.all false
set_option maxRecDepth 100000
set_option maxHeartbeats 2000000
namespace Fs
open PySem PySem.Spec PyProof.Rows L2 C8
instance vlRing {p : Int} (L : Vl p) : Lean.Grind.CommRing L.R := L.ring
def RowL (p : Int) (r : List Tm) : Prop := ∀ t ∈ r, NumL p t.2
theorem RowOk.l {p n : Int} {j : Nat} {r : List Tm} (h : RowOk p n j r) : RowL p r := fun t ht => (h t ht).2.1.l
def sv {p : Int} (L : Vl p) (f : List Int → L.R) : List Tm → L.R
  | [] => 0
  | t :: r => L.v t.2 * f t.1 + sv L f r
section
variable {p : Int} {L : Vl p} {f g : List Int → L.R}
theorem sv_app : ∀ (r s : List Tm), sv L f (r ++ s) = sv L f r + sv L f s
  | [], s => by
    show sv L f s = 0 + sv L f s
    grind
  | t :: r, s => by
    show L.v t.2 * f t.1 + sv L f (r ++ s) = (L.v t.2 * f t.1 + sv L f r) + sv L f s
    rw [sv_app r s]
    grind
theorem sv_ext : ∀ {r : List Tm}, (∀ t ∈ r, f t.1 = g t.1) → sv L f r = sv L g r
  | [], _ => rfl
  | t :: r, h => by
    show L.v t.2 * f t.1 + sv L f r = L.v t.2 * g t.1 + sv L g r
    rw [h t (List.mem_cons_self ..), sv_ext fun u hu => h u (List.mem_cons_of_mem _ hu)]
theorem sv_zero : ∀ {r : List Tm}, (∀ t ∈ r, f t.1 = 0) → sv L f r = 0
  | [], _ => rfl
  | t :: r, h => by
    show L.v t.2 * f t.1 + sv L f r = 0
    rw [h t (List.mem_cons_self ..), sv_zero fun u hu => h u (List.mem_cons_of_mem _ hu)]
    grind
theorem sv_perm {r s : List Tm} (h : r.Perm s) : sv L f r = sv L f s := by
  induction h with
  | nil => rfl
  | cons t _ ih => show L.v t.2 * f t.1 + _ = L.v t.2 * f t.1 + _; rw [ih]
  | swap t u r => show L.v u.2 * f u.1 + (L.v t.2 * f t.1 + _) = L.v t.2 * f t.1 + (L.v u.2 * f u.1 + _); grind
  | trans _ _ a b => exact a.trans b
theorem putD_ne {d : Dct} {t : Tm} {q : List Int} {n : Num} (h : t.1 ≠ q) : putD (t :: d) q n = t :: putD d q n := by
  unfold putD
  rw [List.any_cons, decide_eq_false h, Bool.false_or]
  split
  · rw [List.map_cons, if_neg h]
  · rfl
theorem putD_eq {d : Dct} {t : Tm} {q : List Int} {n : Num} (h : t.1 = q) (hn : q ∉ d.map (·.1)) : putD (t :: d) q n = (q, n) :: d := by
  unfold putD
  rw [List.any_cons, decide_eq_true h, Bool.true_or, if_pos rfl, List.map_cons, if_pos h, h]
  congr 1
  have : d.map (fun t => if t.1 = q then (t.1, n) else t) = d.map id := List.map_congr_left fun u hu => by
    rw [if_neg fun e => hn (List.mem_map.mpr ⟨u, hu, e⟩)]; rfl
  rw [this, List.map_id]
theorem valD_ne {d : Dct} {t : Tm} {q : List Int} (h : t.1 ≠ q) : valD (t :: d) q = valD d q := by
  unfold valD
  rw [List.find?_cons, decide_eq_false h]
theorem valD_eq {d : Dct} {t : Tm} {q : List Int} (h : t.1 = q) : valD (t :: d) q = some t.2 := by
  unfold valD
  rw [List.find?_cons, decide_eq_true h]; rfl
theorem sv_put {q : List Int} {n : Num} : ∀ {d : Dct}, (d.map (·.1)).Nodup → sv L f (putD d q n) + L.v ((valD d q).getD (0, 1)) * f q = sv L f d + L.v n * f q
  | [], _ => by
    show (L.v n * f q + 0) + L.v (0, 1) * f q = 0 + L.v n * f q
    rw [L.zero]; grind
  | t :: d, h => by
    rw [List.map_cons, List.nodup_cons] at h
    by_cases e : t.1 = q
    · rw [putD_eq e (e ▸ h.1), valD_eq e]
      show (L.v n * f q + sv L f d) + L.v t.2 * f q = (L.v t.2 * f t.1 + sv L f d) + L.v n * f q
      rw [e]; grind
    · have ih := sv_put (q := q) (n := n) h.2
      rw [putD_ne e, valD_ne e]
      show (L.v t.2 * f t.1 + sv L f (putD d q n)) + _ = (L.v t.2 * f t.1 + sv L f d) + _
      grind
theorem old_l {d : Dct} {q : List Int} (hp : PrOk p) (h : RowL p d) : NumL p ((valD d q).getD (0, 1)) := by
  cases e : valD d q with
  | none => exact (numOk_zero hp).l
  | some n => exact h _ (val_mem e)
theorem sv_acc1 {d : Dct} {t : Tm} (hp : PrOk p) (hn : (d.map (·.1)).Nodup) (hd : RowL p d) (ht : NumL p t.2) : sv L f (acc1 p d t) = sv L f d + L.v t.2 * f t.1 := by
  have h := sv_put (L := L) (f := f) (q := t.1) (n := nplus p ((valD d t.1).getD (0, 1)) t.2) hn
  rw [L.plus (old_l hp hd) ht] at h
  unfold acc1
  grind
theorem sv_fold (hp : PrOk p) : ∀ (ts : List Tm) (d : Dct), (d.map (·.1)).Nodup → RowL p d → RowL p ts → sv L f (ts.foldl (acc1 p) d) = sv L f d + sv L f ts
  | [], d, _, _, _ => by
    show sv L f d = sv L f d + 0
    grind
  | t :: ts, d, hn, hd, ht => by
    rw [List.foldl_cons, sv_fold hp ts (acc1 p d t) (nodup_putD hn) ?_ fun u hu => ht u (List.mem_cons_of_mem _ hu), sv_acc1 hp hn hd (ht t (List.mem_cons_self ..))]
    · show (sv L f d + L.v t.2 * f t.1) + sv L f ts = sv L f d + (L.v t.2 * f t.1 + sv L f ts)
      grind
    · intro u hu
      rcases mem_putD hu with rfl | hu
      · exact (numOk_plus hp (old_l hp hd) (ht t (List.mem_cons_self ..))).l
      · exact hd u hu
theorem sv_nz : ∀ (d : List Tm), sv L f (d.filter nz) = sv L f d
  | [] => rfl
  | t :: d => by
    rw [List.filter_cons]
    by_cases e : t.2 = (0, 1)
    · have : nz t = false := by unfold nz; rw [decide_eq_true e]; rfl
      rw [this, if_neg (by decide), sv_nz d]
      show _ = L.v t.2 * f t.1 + sv L f d
      rw [e, L.zero]; grind
    · have : nz t = true := by unfold nz; rw [decide_eq_false e]; rfl
      rw [this, if_pos rfl]
      show L.v t.2 * f t.1 + _ = L.v t.2 * f t.1 + _
      rw [sv_nz d]
theorem sv_gath (hp : PrOk p) {ts : List Tm} (h : RowL p ts) : sv L f (gath p ts) = sv L f ts := by
  unfold gath srt
  rw [sv_perm (List.mergeSort_perm _ _), sv_nz]
  unfold accum
  rw [sv_fold hp ts [] .nil (fun t ht => by simp at ht) h]
  show 0 + _ = _
  grind
theorem sv_mul1 (hp : PrOk p) {t : Tm} (ht : NumL p t.2) : ∀ {s : List Tm}, RowL p s → sv L f (s.map fun u => (usort (t.1 ++ u.1), ntimes p t.2 u.2)) = L.v t.2 * sv L (fun b => f (usort (t.1 ++ b))) s
  | [], _ => by
    show 0 = L.v t.2 * 0
    grind
  | u :: s, h => by
    show L.v (ntimes p t.2 u.2) * f (usort (t.1 ++ u.1)) + sv L f (s.map fun u => (usort (t.1 ++ u.1), ntimes p t.2 u.2)) = L.v t.2 * (L.v u.2 * f (usort (t.1 ++ u.1)) + sv L (fun b => f (usort (t.1 ++ b))) s)
    rw [sv_mul1 hp ht fun u hu => h u (List.mem_cons_of_mem _ hu), L.times ht (h u (List.mem_cons_self ..))]
    grind
theorem sv_prod (hp : PrOk p) {s : List Tm} (hs : RowL p s) : ∀ {r : List Tm}, RowL p r → sv L f (prodT p r s) = sv L (fun a => sv L (fun b => f (usort (a ++ b))) s) r
  | [], _ => rfl
  | t :: r, h => by
    have e : prodT p (t :: r) s = (s.map fun u => (usort (t.1 ++ u.1), ntimes p t.2 u.2)) ++ prodT p r s := by unfold prodT; rw [List.flatMap_cons]
    rw [e, sv_app, sv_mul1 hp (h t (List.mem_cons_self ..)) hs, sv_prod hp hs fun u hu => h u (List.mem_cons_of_mem _ hu)]
    rfl
theorem sv_scale {c : L.R} : ∀ {r : List Tm}, sv L (fun a => c * f a) r = c * sv L f r
  | [] => by
    show 0 = c * 0
    grind
  | t :: r => by
    show L.v t.2 * (c * f t.1) + sv L (fun a => c * f a) r = c * (L.v t.2 * f t.1 + sv L f r)
    rw [sv_scale]; grind
theorem sv_add : ∀ {r : List Tm}, sv L (fun a => f a + g a) r = sv L f r + sv L g r
  | [] => by
    show 0 = (0 : L.R) + 0
    grind
  | t :: r => by
    show L.v t.2 * (f t.1 + g t.1) + sv L (fun a => f a + g a) r = (L.v t.2 * f t.1 + sv L f r) + (L.v t.2 * g t.1 + sv L g r)
    rw [sv_add]; grind
/-- the sums may be taken in the other order -/
theorem sv_swap {h : List Int → List Int → L.R} {s : List Tm} : ∀ {r : List Tm}, sv L (fun a => sv L (h a) s) r = sv L (fun b => sv L (fun a => h a b) r) s
  | [] => by
    show (0 : L.R) = sv L (fun b => sv L (fun a => h a b) []) s
    exact (sv_zero fun t _ => rfl).symm
  | t :: r => by
    show L.v t.2 * sv L (h t.1) s + sv L (fun a => sv L (h a) s) r = sv L (fun b => L.v t.2 * h t.1 b + sv L (fun a => h a b) r) s
    rw [sv_add, sv_scale, sv_swap]
theorem sv_neg (hp : PrOk p) : ∀ {r : List Tm}, RowL p r → sv L f (r.map (negT p)) = - sv L f r
  | [], _ => by
    show (0 : L.R) = - 0
    grind
  | t :: r, h => by
    show L.v (ntimes p (-1, 1) t.2) * f t.1 + sv L f (r.map (negT p)) = - (L.v t.2 * f t.1 + sv L f r)
    rw [sv_neg hp fun u hu => h u (List.mem_cons_of_mem _ hu), L.times numL_neg (h t (List.mem_cons_self ..)), L.neg]
    grind
theorem sv_one : sv L f oneT = f [] := by
  show L.v (1, 1) * f [] + 0 = f []
  rw [L.one]; grind
theorem sv_ren {ord : List Int} : ∀ {r : List Tm}, sv L f (renT ord r) = sv L (fun a => f (renP ord a)) r
  | [] => rfl
  | t :: r => by
    show L.v t.2 * f (renP ord t.1) + sv L f (renT ord r) = _
    rw [sv_ren]; rfl
/-- a fold that adds -/
theorem sv_worthR (hp : PrOk p) {fs : List Int} : ∀ {r : List Tm} {z : Num}, RowL p r → NumL p z → L.v (r.foldl (fun n t => if hasAll fs t.1 = true then nplus p n t.2 else n) z) = L.v z + sv L (fun q => if hasAll fs q = true then 1 else 0) r
  | [], z, _, _ => by
    show L.v z = L.v z + 0
    grind
  | t :: r, z, h, hz => by
    have ht := h t (List.mem_cons_self ..)
    rw [List.foldl_cons]
    show _ = L.v z + (L.v t.2 * (if hasAll fs t.1 = true then 1 else 0) + sv L _ r)
    split
    · rw [sv_worthR hp (fun u hu => h u (List.mem_cons_of_mem _ hu)) (numOk_plus hp hz ht).l, L.plus hz ht]; grind
    · rw [sv_worthR hp (fun u hu => h u (List.mem_cons_of_mem _ hu)) hz]; grind
theorem sv_worthB (hp : PrOk p) {d : Dct} {q : List Int} : ∀ {r : List Tm} {z : Num}, RowL p r → (∀ t ∈ r, NumL p (getW d (usort (t.1 ++ q)))) → NumL p z → L.v (r.foldl (fun n t => nplus p n (ntimes p t.2 (getW d (usort (t.1 ++ q))))) z) = L.v z + sv L (fun a => L.v (getW d (usort (a ++ q)))) r
  | [], z, _, _, _ => by
    show L.v z = L.v z + 0
    grind
  | t :: r, z, h, hw, hz => by
    have ht := h t (List.mem_cons_self ..)
    have hwt := hw t (List.mem_cons_self ..)
    have hm := (numOk_times hp ht hwt).l
    rw [List.foldl_cons, sv_worthB hp (fun u hu => h u (List.mem_cons_of_mem _ hu)) (fun u hu => hw u (List.mem_cons_of_mem _ hu)) (numOk_plus hp hz hm).l, L.plus hz hm, L.times ht hwt]
    show _ = L.v z + (L.v t.2 * L.v (getW d (usort (t.1 ++ q))) + sv L _ r)
    grind
theorem sv_tot (hp : PrOk p) : ∀ {zs : Zs} {z0 : List Tm}, (∀ x ∈ zs, RowL p x.1 ∧ RowL p x.2) → RowL p z0 → sv L f (zs.foldl (fun tot x => gath p (tot ++ gath p (prodT p x.1 x.2))) z0) = sv L f z0 + (zs.map fun x => sv L f (prodT p x.1 x.2)).foldr (· + ·) 0
  | [], z0, _, _ => by
    show sv L f z0 = sv L f z0 + 0
    grind
  | x :: zs, z0, h, h0 => by
    obtain ⟨h1, h2⟩ := h x (List.mem_cons_self ..)
    have hp1 : RowL p (prodT p x.1 x.2) := fun t ht => by
      unfold prodT at ht
      obtain ⟨a, ha, hm⟩ := List.mem_flatMap.mp ht
      obtain ⟨b, hb, rfl⟩ := List.mem_map.mp hm
      exact (numOk_times hp (h1 a ha) (h2 b hb)).l
    have hg : ∀ {ts : List Tm}, RowL p ts → RowL p (gath p ts) := fun {ts} hts t ht => by
      have := (mem_gath.mp ht).1
      have key : ∀ (us : List Tm) (d : Dct), RowL p d → RowL p us → RowL p (us.foldl (acc1 p) d) := by
        intro us
        induction us with
        | nil => exact fun d hd _ => hd
        | cons u us ih =>
          intro d hd hu
          rw [List.foldl_cons]
          refine ih _ (fun w hw => ?_) fun w hw => hu w (List.mem_cons_of_mem _ hw)
          rcases mem_putD hw with rfl | hw
          · exact (numOk_plus hp (old_l hp hd) (hu u (List.mem_cons_self ..))).l
          · exact hd w hw
      exact key ts [] (fun t ht => by simp at ht) hts t this
    have ha : RowL p (z0 ++ gath p (prodT p x.1 x.2)) := fun t ht => (List.mem_append.mp ht).elim (h0 t) (hg hp1 t)
    rw [List.foldl_cons, sv_tot hp (fun y hy => h y (List.mem_cons_of_mem _ hy)) (hg ha), sv_gath hp ha, sv_app, sv_gath hp hp1, List.map_cons, List.foldr_cons]
    grind
end
end Fs

set_option Elab.async false
set_option linter.all false
set_option maxRecDepth 100000
set_option maxHeartbeats 2000000
namespace Fs
open PySem PySem.Spec PyProof.Rows L2 C8
theorem keyLt_iff {q r : List Int} : keyLt q r = true ↔ q.length < r.length ∨ (q.length = r.length ∧ q < r) := by
  unfold keyLt
  rw [decide_eq_true_iff]
theorem keyLt_no {q r : List Int} : (!keyLt r q) = true ↔ q.length < r.length ∨ (q.length = r.length ∧ q ≤ r) := by
  rw [Bool.not_eq_true', ← Bool.not_eq_true, keyLt_iff]
  constructor
  · intro h
    by_cases e : q.length < r.length
    · exact .inl e
    · have e2 : ¬ r.length < q.length := fun z => h (.inl z)
      have e3 : q.length = r.length := by omega
      exact .inr ⟨e3, List.not_lt.mp fun z => h (.inr ⟨e3.symm, z⟩)⟩
  · rintro (h | ⟨h, g⟩) (k | ⟨k, m⟩)
    · omega
    · omega
    · omega
    · exact List.not_lt.mpr g m
theorem keyLe_trans {a b c : List Int} (h : (!keyLt b a) = true) (g : (!keyLt c b) = true) : (!keyLt c a) = true := by
  rw [keyLt_no] at h g ⊢
  rcases h with h | ⟨h, h2⟩ <;> rcases g with g | ⟨g, g2⟩
  · exact .inl (by omega)
  · exact .inl (by omega)
  · exact .inl (by omega)
  · exact .inr ⟨by omega, List.le_trans h2 g2⟩
theorem keyLe_total (a b : List Int) : ((!keyLt b a) || (!keyLt a b)) = true := by
  rw [Bool.or_eq_true, keyLt_no, keyLt_no]
  rcases Nat.lt_trichotomy a.length b.length with h | h | h
  · exact .inl (.inl h)
  · rcases List.le_total a b with g | g
    · exact .inl (.inr ⟨h, g⟩)
    · exact .inr (.inr ⟨h.symm, g⟩)
  · exact .inr (.inl h)
theorem keyLe_anti {a b : List Int} (h : (!keyLt b a) = true) (g : (!keyLt a b) = true) : a = b := by
  rw [keyLt_no] at h g
  rcases h with h | ⟨h, h2⟩ <;> rcases g with g | ⟨g, g2⟩
  · omega
  · omega
  · omega
  · exact List.le_antisymm h2 g2
theorem sv_ind {p : Int} {L : Vl p} {q : List Int} : ∀ {d : Dct}, (d.map (·.1)).Nodup → sv L (fun a => if a = q then 1 else 0) d = L.v ((valD d q).getD (0, 1))
  | [], _ => by
    show (0 : L.R) = L.v (0, 1)
    rw [L.zero]
  | t :: d, h => by
    rw [List.map_cons, List.nodup_cons] at h
    show L.v t.2 * (if t.1 = q then 1 else 0) + sv L _ d = _
    by_cases e : t.1 = q
    · rw [if_pos e, valD_eq e, sv_zero]
      · show _ = L.v t.2
        grind
      · intro u hu
        rw [if_neg]
        intro e2
        exact h.1 (List.mem_map.mpr ⟨u, hu, e2.trans e.symm⟩)
    · rw [if_neg e, valD_ne e, sv_ind h.2]
      grind
theorem nodup_map {α β : Type} {f : α → β} {l : List α} (h : (l.map f).Nodup) : l.Nodup := by
  unfold List.Nodup at h ⊢
  rw [List.pairwise_map] at h
  exact h.imp fun g e => g (congrArg f e)
theorem gath_ext {p n m : Int} {j k : Nat} {ts us : List Tm} (hp : PrOk p) (ht : RowOk p n j ts) (hu : RowOk p m k us) (h : ∀ (L : Vl p) (f : List Int → L.R), sv L f ts = sv L f us) : gath p ts = gath p us := by
  obtain ⟨L⟩ := vl_of hp
  have a1 := accum_ok0 hp ht
  have a2 := accum_ok0 hp hu
  have n1 : (((accum p ts).filter nz).map (·.1)).Nodup := a1.1.sublist (List.Sublist.map _ List.filter_sublist)
  have n2 : (((accum p us).filter nz).map (·.1)).Nodup := a2.1.sublist (List.Sublist.map _ List.filter_sublist)
  have o1 : ∀ t ∈ (accum p ts).filter nz, NumOk p t.2 := fun t ht => (a1.2 t (List.mem_filter.mp ht).1).2.1
  have o2 : ∀ t ∈ (accum p us).filter nz, NumOk p t.2 := fun t ht => (a2.2 t (List.mem_filter.mp ht).1).2.1
  have hs : ∀ f : List Int → L.R, sv L f ((accum p ts).filter nz) = sv L f ((accum p us).filter nz) := fun f => by
    have e1 := sv_gath (L := L) (f := f) hp ht.l
    have e2 := sv_gath (L := L) (f := f) hp hu.l
    unfold gath srt at e1 e2
    rw [sv_perm (List.mergeSort_perm _ _)] at e1 e2
    rw [e1, e2]
    exact h L f
  have oo : ∀ {d : Dct} {q : List Int}, (∀ t ∈ d, NumOk p t.2) → NumOk p ((valD d q).getD (0, 1)) := by
    intro d q hd
    cases e : valD d q with
    | none => exact numOk_zero hp
    | some n => exact hd _ (val_mem e)
  have hc : ∀ q, (valD ((accum p ts).filter nz) q).getD (0, 1) = (valD ((accum p us).filter nz) q).getD (0, 1) := fun q => by
    refine L.inj (oo o1) (oo o2) ?_
    rw [← sv_ind n1, ← sv_ind n2]
    exact hs _
  have key : ∀ {A B : Dct}, (A.map (·.1)).Nodup → (∀ q, (valD (A.filter nz) q).getD (0, 1) = (valD (B.filter nz) q).getD (0, 1)) → ((A.filter nz).map (·.1)).Nodup → ∀ t ∈ A.filter nz, t ∈ B.filter nz := by
    intro A B _ hc hn t htm
    have h1 := hc t.1
    rw [val_some hn htm] at h1
    have h2 : t.2 ≠ (0, 1) := by
      have := (List.mem_filter.mp htm).2
      unfold nz at this
      simpa using this
    cases e : valD (B.filter nz) t.1 with
    | none =>
      rw [e] at h1
      exact absurd h1 h2
    | some v =>
      rw [e] at h1
      have h3 : t.2 = v := h1
      have := val_mem e
      rw [← h3] at this
      exact this
  have hm : ∀ t, t ∈ (accum p ts).filter nz ↔ t ∈ (accum p us).filter nz := fun t => ⟨key a1.1 hc n1 t, key a2.1 (fun q => (hc q).symm) n2 t⟩
  have hperm : ((accum p ts).filter nz).Perm ((accum p us).filter nz) := (List.perm_ext_iff_of_nodup (nodup_map n1) (nodup_map n2)).mpr hm
  unfold gath srt
  refine List.Perm.eq_of_pairwise (le := fun a b : Tm => (!keyLt b.1 a.1) = true) ?_ (List.pairwise_mergeSort (le := fun a b : Tm => !keyLt b.1 a.1) (fun a b c h g => keyLe_trans h g) (fun a b => keyLe_total a.1 b.1) _) (List.pairwise_mergeSort (le := fun a b : Tm => !keyLt b.1 a.1) (fun a b c h g => keyLe_trans h g) (fun a b => keyLe_total a.1 b.1) _) ((List.mergeSort_perm _ _).trans (hperm.trans (List.mergeSort_perm _ _).symm))
  intro a b ha hb h1 h2
  have ha := (List.mergeSort_perm _ _).mem_iff.mp ha
  have hb := (hm b).mpr ((List.mergeSort_perm _ _).mem_iff.mp hb)
  have e := keyLe_anti h1 h2
  have v1 := val_some n1 ha
  have v2 := val_some n1 hb
  rw [e, v2] at v1
  exact Prod.ext e (Option.some.inj v1).symm
end Fs

set_option Elab.async false
set_option linter.all false
set_option maxRecDepth 100000
set_option maxHeartbeats 2000000
namespace Fs
open PySem PySem.Spec PyProof.Rows L2 C8
/-- all the values together -/
def sumT {p : Int} (L : Vl p) (f : List Int → L.R) (zs : Zs) : L.R := (zs.map fun x => sv L f (prodT p x.1 x.2)).foldr (· + ·) 0
section
variable {p : Int} {L : Vl p} {f g : List Int → L.R}
theorem sumT_cons {x : List Tm × List Tm} {zs : Zs} : sumT L f (x :: zs) = sv L f (prodT p x.1 x.2) + sumT L f zs := rfl
theorem sumT_app : ∀ (a b : Zs), sumT L f (a ++ b) = sumT L f a + sumT L f b
  | [], b => by
    show sumT L f b = 0 + sumT L f b
    grind
  | x :: a, b => by
    rw [List.cons_append, sumT_cons, sumT_cons, sumT_app a b]
    grind
theorem sumT_zero : ∀ {zs : Zs}, (∀ x ∈ zs, sv L f (prodT p x.1 x.2) = 0) → sumT L f zs = 0
  | [], _ => rfl
  | x :: zs, h => by
    rw [sumT_cons, h x (List.mem_cons_self ..), sumT_zero fun y hy => h y (List.mem_cons_of_mem _ hy)]
    grind
theorem sv_totF (hp : PrOk p) {zs : Zs} (h : ∀ x ∈ zs, RowL p x.1 ∧ RowL p x.2) : sv L f (totF p zs) = sumT L f zs := by
  have := sv_tot (L := L) (f := f) hp (z0 := []) h (fun t ht => by simp at ht)
  unfold totF
  rw [this]
  show 0 + sumT L f zs = sumT L f zs
  grind
theorem sumT_map {F : List Tm × List Tm → List Tm × List Tm} : ∀ {zs : Zs}, (∀ x ∈ zs, sv L f (prodT p (F x).1 (F x).2) = sv L g (prodT p x.1 x.2)) → sumT L f (zs.map F) = sumT L g zs
  | [], _ => rfl
  | x :: zs, h => by
    rw [List.map_cons, sumT_cons, sumT_cons, h x (List.mem_cons_self ..), sumT_map fun y hy => h y (List.mem_cons_of_mem _ hy)]
end
theorem oneL {p : Int} (hp : PrOk p) : RowL p oneT := (oneT_ok (n := 0) (j := 0) hp).l
theorem sv_gone {p : Int} {L : Vl p} {f : List Int → L.R} (hp : PrOk p) : sv L f (gath p oneT) = f [] := by rw [sv_gath hp (oneL hp), sv_one]
theorem v01 {p : Int} (hp : PrOk p) (L : Vl p) : (0 : L.R) ≠ 1 := fun e => by
  have : ((0, 1) : Num) = (1, 1) := L.inj (numOk_zero hp) (numOk_one hp) (by rw [L.zero, L.one, e])
  exact absurd this (by decide)
/-- where sums show that the wishes come to one, no worths let by -/
theorem no_worths {p n m : Int} {j jj k : Nat} {zs : Zs} {d : Dct} (hp : PrOk p) (hn : 0 ≤ n) (hm0 : 0 ≤ m) (hz : ∀ x ∈ zs, RowOk p n j x.1 ∧ RowOk p n jj x.2) (hmu : mulOk m zs = true) (hd : DicOk p n m k d) (ht : totF p zs = gath p oneT) : lwR p n m d (zW zs) = false := by
  obtain ⟨L⟩ := vl_of hp
  rw [← Bool.not_eq_true]
  intro hl
  unfold lwR at hl
  rw [Bool.and_eq_true, List.all_eq_true] at hl
  obtain ⟨h0, hl⟩ := hl
  have h0 := of_decide_eq_true h0
  have e1 : sv L (fun q => L.v (getW d q)) (totF p zs) = 0 := by
    rw [sv_totF hp fun x hx => ⟨(hz x hx).1.l, (hz x hx).2.l⟩]
    refine sumT_zero fun x hx => ?_
    obtain ⟨h1, h2⟩ := hz x hx
    rw [sv_prod hp h2.l h1.l, sv_swap]
    refine sv_zero fun u hu => ?_
    have hne : x.2 ≠ [] := fun e => by rw [e] at hu; simp at hu
    have hdeg : ¬ deg x.2 + deg x.1 > m := by
      unfold mulOk at hmu
      have := List.all_eq_true.mp hmu x hx
      rw [decide_eq_true hne, Bool.true_and, Bool.not_eq_true', decide_eq_false_iff_not] at this
      exact this
    have hul := len_deg hu
    have hup := (h2 u hu).1
    have hul2 := hup.len hn
    have hle : (u.1.length : Int) + deg x.1 ≤ m := by omega
    have hmem : u.1 ∈ pOf n m x.1 := mem_prodsOf.mpr ⟨hup, by split <;> omega⟩
    have hq := List.all_eq_true.mp (hl x.1 (List.mem_map.mpr ⟨x, hx, rfl⟩)) u.1 hmem
    rw [decide_eq_true hle, Bool.true_and, Bool.not_not] at hq
    have hq := of_decide_eq_true hq
    have hw := sv_worthB (L := L) (d := d) (q := u.1) (r := x.1) (z := (0, 1)) hp h1.l (fun t ht => by
      obtain ⟨a, b⟩ := join_in h1 hup hle ht
      exact (hd.get a b).2.1.l) (numOk_zero hp).l
    have : L.v (worthB p d x.1 u.1) = L.v (0, 1) := by rw [hq]
    unfold worthB at this
    rw [this, L.zero] at hw
    grind
  rw [ht, sv_gone hp, h0, L.one] at e1
  exact v01 hp L e1.symm
theorem all_usort {S : Int → Bool} {a b : List Int} : (usort (a ++ b)).all S = (a.all S && b.all S) := by
  rw [Bool.eq_iff_iff, Bool.and_eq_true, List.all_eq_true, List.all_eq_true, List.all_eq_true]
  constructor
  · intro h
    exact ⟨fun i hi => h i (mem_usort.mpr (List.mem_append.mpr (.inl hi))), fun i hi => h i (mem_usort.mpr (List.mem_append.mpr (.inr hi)))⟩
  · rintro ⟨h, g⟩ i hi
    exact (List.mem_append.mp (mem_usort.mp hi)).elim (h i) (g i)
def setS (fs : List Int) : Int → Bool := fun i => decide (at_ fs i = 1)
theorem hasAll_set {fs q : List Int} : hasAll fs q = q.all (setS fs) := by
  unfold hasAll
  rw [List.all_map]; rfl
/-- the value where the places of S are one, the others nought -/
def fS {p : Int} (L : Vl p) (S : Int → Bool) : List Int → L.R := fun q => if q.all S = true then 1 else 0
theorem fS_mul {p : Int} {L : Vl p} {S : Int → Bool} {a b : List Int} : fS L S (usort (a ++ b)) = fS L S a * fS L S b := by
  unfold fS
  rw [all_usort]
  cases a.all S <;> cases b.all S <;> simp <;> grind
theorem fS_nil {p : Int} {L : Vl p} {S : Int → Bool} : fS L S [] = 1 := rfl
theorem worthR_v {p : Int} {L : Vl p} {fs : List Int} {r : List Tm} (hp : PrOk p) (h : RowL p r) : L.v (worthR p r fs) = sv L (fS L (setS fs)) r := by
  unfold worthR
  rw [sv_worthR hp h (numOk_zero hp).l, L.zero]
  have : sv L (fun q => if hasAll fs q = true then 1 else 0) r = sv L (fS L (setS fs)) r := sv_ext fun t _ => by
    unfold fS; rw [hasAll_set]
  rw [this]; grind
theorem prod_fS {p : Int} {L : Vl p} {S : Int → Bool} {r s : List Tm} (hp : PrOk p) (hr : RowL p r) (hs : RowL p s) : sv L (fS L S) (prodT p r s) = sv L (fS L S) r * sv L (fS L S) s := by
  rw [sv_prod hp hs hr]
  have : sv L (fun a => sv L (fun b => fS L S (usort (a ++ b))) s) r = sv L (fun a => sv L (fS L S) s * fS L S a) r := sv_ext fun t _ => by
    have : sv L (fun b => fS L S (usort (t.1 ++ b))) s = sv L (fun b => fS L S t.1 * fS L S b) s := sv_ext fun u _ => fS_mul
    rw [this, sv_scale]; grind
  rw [this, sv_scale]; grind
/-- where a filling grants all wishes, no sums come to one -/
theorem no_show {p n : Int} {j jj : Nat} {zs : Zs} {fs : List Int} (hp : PrOk p) (hz : ∀ x ∈ zs, RowOk p n j x.1 ∧ RowOk p n jj x.2) (hw : ∀ x ∈ zs, worthR p x.1 fs = (0, 1)) : totF p zs ≠ gath p oneT := by
  obtain ⟨L⟩ := vl_of hp
  intro e
  have e1 : sv L (fS L (setS fs)) (totF p zs) = 0 := by
    rw [sv_totF hp fun x hx => ⟨(hz x hx).1.l, (hz x hx).2.l⟩]
    refine sumT_zero fun x hx => ?_
    rw [prod_fS hp (hz x hx).1.l (hz x hx).2.l, ← worthR_v hp (hz x hx).1.l, hw x hx, L.zero]
    grind
  rw [e, sv_gone hp, fS_nil] at e1
  exact v01 hp L e1.symm
/-- what a filling that grants all says, lets by -/
theorem planted_lets {p n m : Int} {j k : Nat} {ws : List (List Tm)} {d : Dct} (S : Int → Bool) (hp : PrOk p) (hn : 0 ≤ n) (hm : 0 ≤ m) (hd : DicOk p n m k d) (hS : ∀ q, PdOk n q → (q.length : Int) ≤ m → getW d q = if q.all S = true then (1, 1) else (0, 1)) (hw : ∀ r ∈ ws, RowOk p n j r ∧ ∀ L : Vl p, sv L (fS L S) r = 0) : lwR p n m d ws = true := by
  refine lw_yes ?_ fun r hr q hq => ?_
  · rw [hS [] ⟨.nil, fun i hi => by simp at hi⟩ (by simpa using hm)]; rfl
  · obtain ⟨L⟩ := vl_of hp
    obtain ⟨h1, h2⟩ := hw r hr
    have hqp := (mem_prodsOf.mp hq).1
    unfold lwQ
    by_cases hle : (q.length : Int) + deg r ≤ m
    · have hjn := fun t ht => join_in h1 hqp hle (t := t) ht
      have hv := sv_worthB (L := L) (d := d) (q := q) (r := r) (z := (0, 1)) hp h1.l (fun t ht => (hd.get (hjn t ht).1 (hjn t ht).2).2.1.l) (numOk_zero hp).l
      have he : sv L (fun a => L.v (getW d (usort (a ++ q)))) r = sv L (fun a => fS L S q * fS L S a) r := sv_ext fun t ht => by
        have h3 := hS _ (hjn t ht).1 (hjn t ht).2
        rw [h3]
        have h4 := fS_mul (L := L) (S := S) (a := t.1) (b := q)
        have h5 : L.v (if (usort (t.1 ++ q)).all S = true then ((1, 1) : Num) else (0, 1)) = fS L S (usort (t.1 ++ q)) := by
          unfold fS
          split
          · exact L.one
          · exact L.zero
        rw [h5, h4]; grind
      rw [he, sv_scale, h2 L, L.zero] at hv
      have hg := worthB_gc (z := (0, 1)) hp hd hqp h1 hjn (gd_zero (j := j + k) (c := 0) hp)
      have : worthB p d r q = (0, 1) := L.inj hg.1 (numOk_zero hp) (by
        rw [L.zero]
        unfold worthB
        rw [hv]; grind)
      rw [decide_eq_true this, decide_eq_true hle]; rfl
    · rw [decide_eq_false hle]; rfl
theorem tot_one {p n : Int} {j jj : Nat} {zs : Zs} (hp : PrOk p) (hz : ZsOk p n j jj zs) (hne : zs ≠ []) (h : ∀ (L : Vl p) (f : List Int → L.R), sumT L f zs = f []) : totF p zs = gath p oneT := by
  have hl : 0 < zs.length := List.length_pos_iff.mpr hne
  obtain ⟨x, hx⟩ : ∃ x, zs[zs.length - 1]? = some x := ⟨_, List.getElem?_eq_getElem (by omega)⟩
  have ht := tot_take (p := p) hx
  rw [Nat.sub_add_cancel hl, List.take_length] at ht
  obtain ⟨t1, t2⟩ := zs_take (n := n) hp hz (zs.length - 1)
  obtain ⟨g1, g2, g3, g4, g5⟩ := hz.2 x (List.mem_of_getElem? hx)
  have hr : RowOk p n (j + jj + 40) (totF p (zs.take (zs.length - 1)) ++ gath p (prodT p x.1 x.2)) := t1.app ((gath_ok hp (prodT_ok hp g1 g2) (by rw [prodT_len]; omega)).mono (by omega))
  rw [ht]
  refine gath_ext hp hr (oneT_ok (n := n) (j := 0) hp) fun L f => ?_
  rw [← sv_gath (L := L) (f := f) hp hr.l, ← ht, sv_totF hp fun x hx => ⟨(hz.2 x hx).1.l, (hz.2 x hx).2.1.l⟩, h L f, sv_one]
theorem accum_keys {p : Int} : ∀ (ts : List Tm) (d : Dct), ∀ t ∈ ts.foldl (acc1 p) d, t.1 ∈ d.map (·.1) ∨ t.1 ∈ ts.map (·.1)
  | [], d, t, h => .inl (List.mem_map.mpr ⟨t, h, rfl⟩)
  | u :: ts, d, t, h => by
    rw [List.foldl_cons] at h
    rcases accum_keys ts _ t h with h | h
    · obtain ⟨w, hw, e⟩ := List.mem_map.mp h
      rcases mem_putD hw with rfl | hw
      · exact .inr (by rw [← e]; exact List.mem_cons_self ..)
      · exact .inl (List.mem_map.mpr ⟨w, hw, e⟩)
    · exact .inr (List.mem_cons_of_mem _ h)
theorem gath_keys {p : Int} {ts : List Tm} {t : Tm} (h : t ∈ gath p ts) : t.1 ∈ ts.map (·.1) := by
  rcases accum_keys ts [] t (mem_gath.mp h).1 with h | h
  · simp at h
  · exact h
theorem deg_gath {p : Int} {ts : List Tm} : deg (gath p ts) ≤ deg ts := mx_le (fun a ha => by
  obtain ⟨t, ht, rfl⟩ := List.mem_map.mp ha
  obtain ⟨u, hu, e⟩ := List.mem_map.mp (gath_keys ht)
  have := len_deg hu
  show (t.1.length : Int) ≤ deg ts
  rw [← e]; exact this) deg_nn
theorem deg_ren {ord : List Int} {r : List Tm} : deg (renT ord r) ≤ deg r := mx_le (fun a ha => by
  obtain ⟨t, ht, rfl⟩ := List.mem_map.mp ha
  obtain ⟨u, hu, rfl⟩ := List.mem_map.mp ht
  have h1 := usort_len (u.1.map (at_ ord))
  rw [List.length_map] at h1
  have := len_deg hu
  show (((renP ord u.1).length : Nat) : Int) ≤ deg r
  unfold renP
  omega) deg_nn
theorem gath_nil {p : Int} : gath p [] = [] := by
  unfold gath accum srt; simp
theorem mul_map {m : Int} {zs : Zs} {F : List Tm → List Tm} (hF : ∀ r, deg (F r) ≤ deg r) (h0 : F [] = []) (h : mulOk m zs = true) : mulOk m (zs.map fun x => (F x.1, F x.2)) = true := by
  refine mulOk_yes fun y hy hne => ?_
  obtain ⟨x, hx, rfl⟩ := List.mem_map.mp hy
  have hne2 : x.2 ≠ [] := fun e => hne (by show F x.2 = []; rw [e]; exact h0)
  unfold mulOk at h
  have := List.all_eq_true.mp h x hx
  rw [decide_eq_true hne2, Bool.true_and, Bool.not_eq_true', decide_eq_false_iff_not] at this
  have h1 := hF x.1
  have h2 := hF x.2
  show ¬ deg (F x.2) + deg (F x.1) > m
  omega
end Fs

set_option Elab.async false
set_option linter.all false
set_option maxRecDepth 100000
set_option maxHeartbeats 2000000
namespace Fs
open PySem PySem.Spec PyProof.Rows L2 C8
theorem sh_ok {p n : Int} {zs : Zs} (hp : PrOk p) (h : ShP p n zs) : zs ≠ [] ∧ zs.length ≤ 3 ∧ ∀ x ∈ zs, RowOk p n 60 x.1 ∧ RowOk p n 22 x.2 ∧ x.1.length ≤ 13 ∧ x.2.length ≤ 2 ∧ x.1.length * x.2.length ≤ 13 := by
  obtain ⟨z1, a, hl, hz, rfl⟩ := h
  refine ⟨by simp, by simp only [List.length_append, List.length_take, List.length_drop, List.length_singleton]; omega, fun x hx => ?_⟩
  have hpair : ∀ x ∈ z1, RowOk p n 60 x.1 ∧ RowOk p n 22 x.2 ∧ x.1.length ≤ 13 ∧ x.2.length ≤ 2 ∧ x.1.length * x.2.length ≤ 13 := fun x hx => by
    obtain ⟨h1, h2, h3, h4, h5⟩ := pair_ok hp (hz x hx)
    exact ⟨h1.mono (by decide), h2, by omega, h4, by omega⟩
  rcases List.mem_append.mp hx with hx | hx
  · rcases List.mem_append.mp hx with hx | hx
    · exact hpair x (List.mem_of_mem_take hx)
    · rw [List.mem_singleton.mp hx]
      obtain ⟨r1, r2⟩ := rest_ok hp hz
      have hg := gath_len (p := p) (ts := restT p z1)
      have hl1 : (gath p (restT p z1)).length ≤ 13 := by omega
      exact ⟨gath_ok hp r1 (by omega), (oneT_ok (j := 0) hp).mono (by decide), hl1, (by decide : (1 : Nat) ≤ 2), by show (gath p (restT p z1)).length * 1 ≤ 13; omega⟩
  · exact hpair x (List.mem_of_mem_drop hx)
section
variable {p : Int} {L : Vl p} {f : List Int → L.R}
theorem totS_v {n : Int} (hp : PrOk p) : ∀ {zs : Zs}, (∀ x ∈ zs, PairOk p n x) → sv L f (totS p zs) = sumT L f zs
  | [], _ => rfl
  | x :: zs, h => by
    have e : totS p (x :: zs) = gath p (prodT p x.1 x.2) ++ totS p zs := by unfold totS; rw [List.flatMap_cons]
    obtain ⟨h1, h2, _⟩ := pair_ok hp (h x (List.mem_cons_self ..))
    rw [e, sv_app, sumT_cons, totS_v hp fun y hy => h y (List.mem_cons_of_mem _ hy), sv_gath hp (prodT_ok hp h1 h2).l]
/-- made sums come to one -/
theorem shown_v {n : Int} {zs : Zs} (hp : PrOk p) (h : ShP p n zs) : sumT L f zs = f [] := by
  obtain ⟨z1, a, hl, hz, rfl⟩ := h
  obtain ⟨r1, r2⟩ := rest_ok hp hz
  have e0 : sumT L f z1 = sumT L f (z1.take a) + sumT L f (z1.drop a) := by rw [← sumT_app, List.take_append_drop]
  have e1 : sumT L f [lastZ p z1] = - sumT L f z1 + f [] := by
    rw [sumT_cons]
    show sv L f (prodT p (gath p (restT p z1)) oneT) + 0 = _
    have hro : RowOk p n 60 (gath p (restT p z1)) := gath_ok hp r1 (by omega)
    rw [sv_prod hp (oneL hp) hro.l, sv_gath hp r1.l]
    have e2 : sv L (fun a => sv L (fun b => f (usort (a ++ b))) oneT) (restT p z1) = sv L f (restT p z1) := sv_ext fun t ht => by
      show sv L (fun b => f (usort (t.1 ++ b))) oneT = f t.1
      rw [sv_one, List.append_nil, usort_id (r1 t ht).1.1]
    rw [e2]
    unfold restT
    rw [sv_app, sv_neg hp (totS_ok hp hz).1.l, sv_one, totS_v hp hz]
    grind
  rw [sumT_app, sumT_app, e1, e0]
  grind
/-- both rows changed so that the value is that of the old at other products -/
theorem prod_change {P : List Int → List Int} {A B A' B' : List Tm} (hp : PrOk p) (hP : ∀ a b, usort (P a ++ P b) = P (usort (a ++ b))) (ha : RowL p A) (hb : RowL p B) (ha' : RowL p A') (hb' : RowL p B') (e1 : ∀ g : List Int → L.R, sv L g A' = sv L (fun a => g (P a)) A) (e2 : ∀ g : List Int → L.R, sv L g B' = sv L (fun a => g (P a)) B) : sv L f (prodT p A' B') = sv L (fun a => f (P a)) (prodT p A B) := by
  rw [sv_prod hp hb' ha', sv_prod hp hb ha, e1]
  refine sv_ext fun t _ => ?_
  rw [e2]
  refine sv_ext fun u _ => ?_
  rw [hP]
end
theorem ren_join {ord a b : List Int} : usort (renP ord a ++ renP ord b) = renP ord (usort (a ++ b)) := by
  refine rising_ext (usort_sorted _) (usort_sorted _) fun k => ?_
  unfold renP
  simp only [mem_usort, List.mem_append, List.mem_map]
  constructor
  · rintro (⟨i, hi, e⟩ | ⟨i, hi, e⟩)
    · exact ⟨i, .inl hi, e⟩
    · exact ⟨i, .inr hi, e⟩
  · rintro ⟨i, hi | hi, e⟩
    · exact .inl ⟨i, hi, e⟩
    · exact .inr ⟨i, hi, e⟩
theorem ren_nil {ord : List Int} : renP ord [] = [] := rfl
/-- the sums of the system and the sums shown -/
def gZ (p : Int) (zs : Zs) : Zs := zs.map fun x => (gath p x.1, gath p x.2)
def rG (p : Int) (ord : List Int) (r : List Tm) : List Tm := gath p (renT ord r)
def rZ (p : Int) (ord : List Int) (zs : Zs) : Zs := zs.map fun x => (rG p ord x.1, rG p ord x.2)
theorem gZ_ok {p n : Int} {zs : Zs} (hp : PrOk p) (h : ShP p n zs) : gZ p zs ≠ [] ∧ ZsOk p n 68 30 (gZ p zs) ∧ (gZ p zs).length ≤ 3 ∧ ∀ x ∈ gZ p zs, x.1.length ≤ 13 ∧ x.2.length ≤ 2 := by
  obtain ⟨h1, h2, h3⟩ := sh_ok hp h
  have key : ∀ x ∈ gZ p zs, (RowOk p n 68 x.1 ∧ RowOk p n 30 x.2 ∧ x.1.length ≤ 40 ∧ x.2.length ≤ 40 ∧ x.1.length * x.2.length ≤ 40) ∧ x.1.length ≤ 13 ∧ x.2.length ≤ 2 := fun y hy => by
    obtain ⟨x, hx, rfl⟩ := List.mem_map.mp hy
    obtain ⟨g1, g2, g3, g4, g5⟩ := h3 x hx
    have l1 := gath_len (p := p) (ts := x.1)
    have l2 := gath_len (p := p) (ts := x.2)
    have l3 := Nat.mul_le_mul l1 l2
    exact ⟨⟨gath_ok hp g1 (by omega), gath_ok hp g2 (by omega), by show (gath p x.1).length ≤ 40; omega, by show (gath p x.2).length ≤ 40; omega, by show (gath p x.1).length * (gath p x.2).length ≤ 40; omega⟩, by show (gath p x.1).length ≤ 13; omega, by show (gath p x.2).length ≤ 2; omega⟩
  refine ⟨fun e => h1 (List.map_eq_nil_iff.mp e), ⟨by unfold gZ; rw [List.length_map]; omega, fun x hx => (key x hx).1⟩, by unfold gZ; rw [List.length_map]; exact h2, fun x hx => (key x hx).2⟩
theorem rZ_ok {p n : Int} {zs : Zs} {ord : List Int} (hp : PrOk p) (hn : 0 ≤ n) (ho : OrdP n ord) (h : ShP p n zs) : rZ p ord (gZ p zs) ≠ [] ∧ ZsOk p n 76 38 (rZ p ord (gZ p zs)) := by
  obtain ⟨h1, h2, h3, h4⟩ := gZ_ok hp h
  have hl := ho.len
  refine ⟨fun e => h1 (List.map_eq_nil_iff.mp e), by unfold rZ; rw [List.length_map]; omega, fun y hy => ?_⟩
  obtain ⟨x, hx, rfl⟩ := List.mem_map.mp hy
  obtain ⟨g1, g2, g3, g4, g5⟩ := h2.2 x hx
  have hr : ∀ {r : List Tm} {j : Nat}, RowOk p n j r → r.length ≤ 40 → RowOk p n (j + 8) (rG p ord r) ∧ (rG p ord r).length ≤ r.length := fun {r j} hr hz => by
    have e : (renT ord r).length = r.length := by unfold renT; rw [List.length_map]
    exact ⟨gath_ok hp (renT_ok ho.ok hr (by omega)) (by omega), Nat.le_trans gath_len (by omega)⟩
  obtain ⟨a1, a2⟩ := hr g1 g3
  obtain ⟨b1, b2⟩ := hr g2 g4
  have l3 := Nat.mul_le_mul a2 b2
  exact ⟨a1, b1, by show (rG p ord x.1).length ≤ 40; omega, by show (rG p ord x.2).length ≤ 40; omega, by show (rG p ord x.1).length * (rG p ord x.2).length ≤ 40; omega⟩
theorem gZ_v {p n : Int} {L : Vl p} {f : List Int → L.R} {zs : Zs} (hp : PrOk p) (h : ShP p n zs) : sumT L f (gZ p zs) = f [] := by
  obtain ⟨h1, h2, h3⟩ := sh_ok hp h
  refine Eq.trans (sumT_map (g := f) fun x hx => ?_) (shown_v hp h)
  obtain ⟨g1, g2, g3, g4, g5⟩ := h3 x hx
  exact prod_change (P := id) hp (fun _ _ => rfl) g1.l g2.l (gath_ok hp g1 (by omega)).l (gath_ok hp g2 (by omega)).l (fun g => sv_gath hp g1.l) fun g => sv_gath hp g2.l
theorem shown_one {p n : Int} {zs : Zs} (hp : PrOk p) (h : ShP p n zs) : totF p (gZ p zs) = gath p oneT :=
  let ⟨h1, h2, _⟩ := gZ_ok hp h
  tot_one hp h2 h1 fun L f => gZ_v hp h
theorem renamed_one {p n : Int} {zs : Zs} {ord : List Int} (hp : PrOk p) (hn : 0 ≤ n) (ho : OrdP n ord) (h : ShP p n zs) : totF p (rZ p ord (gZ p zs)) = gath p oneT := by
  obtain ⟨h1, h2⟩ := rZ_ok hp hn ho h
  obtain ⟨_, g2, _, _⟩ := gZ_ok hp h
  have hl := ho.len
  refine tot_one hp h2 h1 fun L f => ?_
  have e : sumT L f (rZ p ord (gZ p zs)) = sumT L (fun a => f (renP ord a)) (gZ p zs) := by
    refine sumT_map fun x hx => ?_
    obtain ⟨q1, q2, q3, q4, q5⟩ := g2.2 x hx
    have hr : ∀ {r : List Tm} {j : Nat}, RowOk p n j r → r.length ≤ 40 → RowL p (rG p ord r) ∧ ∀ g : List Int → L.R, sv L g (rG p ord r) = sv L (fun a => g (renP ord a)) r := fun {r j} hr hz => by
      have e : (renT ord r).length = r.length := by unfold renT; rw [List.length_map]
      have hro := renT_ok ho.ok hr (show n ≤ (ord.length : Int) by omega)
      exact ⟨(gath_ok hp hro (by omega)).l, fun g => by unfold rG; rw [sv_gath hp hro.l, sv_ren]⟩
    exact prod_change hp (fun _ _ => ren_join) q1.l q2.l (hr q1 q3).1 (hr q2 q4).1 (hr q1 q3).2 (hr q2 q4).2
  rw [e, gZ_v hp h, ren_nil]
/-- a planted wish is granted -/
theorem plant_v {p n : Int} {L : Vl p} {ts : List Tm} {fs : List Int} (hp : PrOk p) (h : RowOk p n 14 ts) (hz : ts.length ≤ 200) : sv L (fS L (setS fs)) (gath p (plantT p ts fs)) = 0 := by
  have hw := worth_gc (fs := fs) hp h (gd_zero (j := 14) (c := 0) hp)
  rw [sv_gath hp (plant_ok hp h (by omega)).l]
  unfold plantT
  rw [sv_app]
  show _ + (L.v (ntimes p (-1, 1) (worthR p ts fs)) * fS L (setS fs) [] + 0) = 0
  have hwl : NumL p (worthR p ts fs) := hw.1.l
  rw [L.times numL_neg hwl, worthR_v hp h.l, L.neg, fS_nil]
  grind
theorem worth_zero {p n : Int} {j : Nat} {r : List Tm} {fs : List Int} (hp : PrOk p) (h : RowOk p n j r) (hv : ∀ L : Vl p, sv L (fS L (setS fs)) r = 0) : worthR p r fs = (0, 1) := by
  obtain ⟨L⟩ := vl_of hp
  refine L.inj (worth_gc (fs := fs) hp h (gd_zero (j := j) (c := 0) hp)).1 (numOk_zero hp) ?_
  rw [worthR_v hp h.l, hv L, L.zero]
theorem fill_get {fs : List Int} {qs : List (List Int)} {q : List Int} (hn : qs.Nodup) (h : q ∈ qs) : getW (fillD fs qs) q = if q.all (setS fs) = true then (1, 1) else (0, 1) := by
  have hm : (q, if hasAll fs q = true then ((1, 1) : Num) else (0, 1)) ∈ fillD fs qs := List.mem_map.mpr ⟨q, h, rfl⟩
  have := val_some (by rw [fill_keys]; exact hn) hm
  unfold getW
  rw [this, hasAll_set]; rfl
theorem mem_kOf {n m : Int} {q : List Int} (h0 : 0 ≤ n) (m0 : 0 ≤ m) : q ∈ prodsOf n (kOf n m) ↔ PdOk n q ∧ (q.length : Int) ≤ m := by
  rw [mem_prodsOf]
  constructor
  · rintro ⟨h, hl⟩
    refine ⟨h, ?_⟩
    unfold kOf at hl
    split at hl <;> omega
  · rintro ⟨h, hl⟩
    refine ⟨h, ?_⟩
    have := h.len h0
    unfold kOf
    split <;> omega
theorem cut_fill {n m : Int} {fs : List Int} (h0 : 0 ≤ n) (h1 : n ≤ 4) (m0 : 0 ≤ m) : ∃ qs : List (List Int), ((fillD fs (prodsOf n (kOf n (m + 1)))).filter fun t => decide ((t.1.length : Int) ≤ m)) = fillD fs qs ∧ qs.Perm (prodsOf n (kOf n m)) := by
  refine ⟨(prodsOf n (kOf n (m + 1))).filter fun q => decide ((q.length : Int) ≤ m), ?_, ?_⟩
  · unfold fillD
    rw [List.filter_map]; rfl
  · have n1 := (prods_at h0 h1 (show 0 ≤ m + 1 by omega)).1
    refine (List.perm_ext_iff_of_nodup (n1.sublist List.filter_sublist) (prods_at h0 h1 m0).1).mpr fun q => ?_
    rw [List.mem_filter, mem_kOf h0 (by omega), mem_kOf h0 m0, decide_eq_true_iff]
    constructor
    · rintro ⟨⟨h, _⟩, h2⟩; exact ⟨h, h2⟩
    · rintro ⟨h, h2⟩; exact ⟨⟨h, by omega⟩, h2⟩
/-- where a product comes from -/
theorem ren_from {n : Int} {ord q : List Int} (h0 : 0 ≤ n) (ho : OrdP n ord) (hq : PdOk n q) : ∃ r, PdOk n r ∧ renP ord r = q ∧ r.length = q.length := by
  have hl := ho.len
  have hr : PdOk n ((upTo 0 n.toNat).filter fun i => decide (at_ ord i ∈ q)) := upTo_pd h0 List.filter_sublist
  have e : renP ord ((upTo 0 n.toNat).filter fun i => decide (at_ ord i ∈ q)) = q := by
    refine rising_ext (usort_sorted _) hq.1 fun k => ?_
    unfold renP
    rw [mem_usort, List.mem_map]
    constructor
    · rintro ⟨i, hi, rfl⟩
      exact of_decide_eq_true (List.mem_filter.mp hi).2
    · intro hk
      have hb := hq.2 k hk
      have hko : k ∈ ord := ho.mem_iff.mpr (mem_upTo.mpr ⟨hb.1, by omega⟩)
      obtain ⟨i, hi, ei⟩ := List.getElem_of_mem hko
      have ea : at_ ord (i : Int) = k := by
        unfold at_
        rw [Int.toNat_natCast, List.getD_eq_getElem?_getD, List.getElem?_eq_getElem hi, ei]; rfl
      exact ⟨(i : Int), List.mem_filter.mpr ⟨mem_upTo.mpr ⟨by omega, by omega⟩, by rw [ea]; exact decide_eq_true hk⟩, ea⟩
  refine ⟨_, hr, e, ?_⟩
  have hnd := ren_nodup ho.ok.1 hr (show n ≤ (ord.length : Int) by omega)
  have hp2 : (renP ord ((upTo 0 n.toNat).filter fun i => decide (at_ ord i ∈ q))).Perm (((upTo 0 n.toNat).filter fun i => decide (at_ ord i ∈ q)).map (at_ ord)) := (List.perm_ext_iff_of_nodup ((usort_sorted _).imp fun h e => by subst e; exact Int.lt_irrefl _ h) hnd).mpr fun k => mem_usort
  rw [e] at hp2
  have := hp2.length_eq
  rw [List.length_map] at this
  exact this.symm
theorem cal_ok {p n m : Int} {k : Nat} {ord : List Int} {d : Dct} (h0 : 0 ≤ n) (ho : OrdP n ord) (hd : DicOk p n m k d) : DicOk p n m k (calD ord d) := by
  have hl := ho.len
  refine ⟨by unfold calD; rw [List.length_map]; exact hd.1, fun t ht => ?_, fun q hq hql => ?_⟩
  · obtain ⟨u, hu, rfl⟩ := List.mem_map.mp ht
    obtain ⟨h1, h2, h3⟩ := hd.2.1 u hu
    have h4 := usort_len (u.1.map (at_ ord))
    rw [List.length_map] at h4
    exact ⟨ren_pd ho.ok h1 (by omega), by show (((usort (u.1.map (at_ ord))).length : Nat) : Int) ≤ m; omega, h3⟩
  · obtain ⟨r, hr, rfl, hrl⟩ := ren_from h0 ho hq
    refine mem_valD ?_
    rw [cal_keys]
    exact List.mem_map.mpr ⟨r, hd.keys hr (by omega), rfl⟩
theorem cal_get {n m : Int} {p : Int} {k : Nat} {ord q : List Int} {d : Dct} (h0 : 0 ≤ n) (ho : OrdP n ord) (hd : DicOk p n m k d) (hn : (d.map (·.1)).Nodup) (hq : PdOk n q) (hl : (q.length : Int) ≤ m) : getW (calD ord d) (renP ord q) = getW d q := by
  obtain ⟨v, e⟩ := hd.2.2 q hq hl
  have hm : (renP ord q, v) ∈ calD ord d := List.mem_map.mpr ⟨(q, v), val_mem e, rfl⟩
  have := val_some (cal_nodup ho h0 (fun t ht => (hd.2.1 t ht).1) hn) hm
  unfold getW
  rw [this, e]
/-- the places of S, called by the order -/
def renS (n : Int) (ord : List Int) (S : Int → Bool) : Int → Bool := fun k => (upTo 0 n.toNat).any fun i => decide (at_ ord i = k) && S i
theorem renS_all {n : Int} {ord q : List Int} {S : Int → Bool} (ho : OrdP n ord) (hq : PdOk n q) : (renP ord q).all (renS n ord S) = q.all S := by
  have hl := ho.len
  rw [Bool.eq_iff_iff, List.all_eq_true, List.all_eq_true]
  constructor
  · intro h i hi
    have hb := hq.2 i hi
    have h1 := h (at_ ord i) (by unfold renP; rw [mem_usort]; exact List.mem_map.mpr ⟨i, hi, rfl⟩)
    obtain ⟨j, hj, h2⟩ := List.any_eq_true.mp h1
    rw [Bool.and_eq_true] at h2
    have hj2 := mem_upTo.mp hj
    have := at_inj ho.ok.1 (by omega) (by omega) hb.1 (by omega) (of_decide_eq_true h2.1)
    rw [← this]; exact h2.2
  · intro h k hk
    unfold renP at hk
    rw [mem_usort] at hk
    obtain ⟨i, hi, rfl⟩ := List.mem_map.mp hk
    have hb := hq.2 i hi
    exact List.any_eq_true.mpr ⟨i, mem_upTo.mpr ⟨hb.1, by omega⟩, by rw [decide_eq_true rfl, h i hi]; rfl⟩
theorem ren_v {p n : Int} {j : Nat} {L : Vl p} {ord : List Int} {S : Int → Bool} {r : List Tm} (hp : PrOk p) (ho : OrdP n ord) (hn : 0 ≤ n) (h : RowOk p n j r) : sv L (fS L (renS n ord S)) (gath p (renT ord r)) = sv L (fS L S) r := by
  have hl := ho.len
  rw [sv_gath hp (renT_ok ho.ok h (show n ≤ (ord.length : Int) by omega)).l, sv_ren]
  refine sv_ext fun t ht => ?_
  unfold fS
  rw [renS_all ho (h t ht).1]
end Fs

set_option Elab.async false
set_option linter.all false
set_option maxRecDepth 100000
set_option maxHeartbeats 2000000
namespace Fs
open PySem PySem.Spec PyProof.Rows L2 C8
section
variable {K : PySem.W.Frag} {σ : L2.St} {W W' W0 : Wd} {ta tb te te2 : TE} {rs ss : List Rp} {ps : List Int} {l a : Addr} {D : Ends} {tz tu : TS} {t : TT} {R RA RB : Rp} {vs : List Nat} {g gg : TG}
/-- y = [.. for x in range(e)], e not determined -/
theorem q_lcA {P : Int → Prop} (h : Ev te σ W (anyR P int)) (k : ∀ m W1, Le W W1 → P m → tSeq (tAsg (tLc (iRng1 (tCons (tC (.int m)) tNil)) g t te2 vs) gg) tz D σ W1.H) : tSeq (tAsg (tLc (iRng1 (tCons te tNil)) g t te2 vs) gg) tz D σ W.H :=
  h W (Le.refl _) _ fun v W1 l ⟨m, hm, e⟩ => by
    cases e
    exact k m W1 l hm
theorem ev_makeX {ι : Type} {args : ι → List Rp} {pre : Wd → ι → Prop} {res : ι → Rp} {t : TA} {E : XK} {C : Addr} {as : List Rp} (h : EvA t σ W as) (hx : ∀ W1 vs, Le W W1 → RpA as W1.B vs → ∃ x, RpA (args x) W1.B vs ∧ pre W1 x ∧ ∀ (W2 : Wd) v, (res x).p W2.B v → R.p W2.B v) : Ev (tMake C (spI C args pre res) [] E t) σ W R := fun W1 l Q q =>
  h W1 l _ fun vs W2 l2 hvs y dx hy hdx hne => by
    obtain ⟨x, h1, h2, h3⟩ := hx W2 vs (l.trans l2) hvs
    exact ⟨W2, x, y, dx, vs ++ [], rfl, hy, hdx, hne, rfl, by rw [List.append_nil]; exact h1, h2, fun W3 l3 hv => ⟨rfl, q _ W3 (l2.trans l3) (h3 W3 _ hv)⟩⟩
end
theorem wish_ok {a : Addr} {p n : Int} {fs : List Int} {r : List Tm} (hp : PrOk p) (h : WiP (a, p, n, 4, fs) r) : RowOk p n 30 r ∧ r.length ≤ 5 ∧ RowOk p n 38 (gath p r) ∧ (gath p r).length ≤ 5 ∧ ∀ L : Vl p, sv L (fS L (setS fs)) (gath p r) = 0 := by
  obtain ⟨ts, h1, h2, rfl⟩ := h
  dsimp only at h1 h2 ⊢
  have hl : (plantT p ts fs).length ≤ 5 := by unfold plantT; rw [List.length_append, List.length_singleton]; omega
  have g1 := gath_len (p := p) (ts := plantT p ts fs)
  have o1 := gath_ok hp (plant_ok (fs := fs) hp h1 (by omega)) (by omega)
  have g2 := gath_len (p := p) (ts := gath p (plantT p ts fs))
  exact ⟨o1, by omega, gath_ok hp o1 (by omega), by omega, fun L => by rw [sv_gath hp o1.l]; exact plant_v hp h1 (by omega)⟩
theorem zip_fst {xs ys : List (List Tm)} (h : ys.length = xs.length) : zW (xs.zip ys) = xs := List.map_fst_zip (by omega)
theorem zip_snd' {xs ys : List (List Tm)} (h : ys.length = xs.length) : zS (xs.zip ys) = ys := List.map_snd_zip (by omega)
local macro_rules | `(tactic| walk_at "up") => `(tactic| first
  | assumption
  | ((refine Rp.mono _ (by assumption : Same _ _) ?_); walk_at "up")
  | ((refine Rp.mono _ (Le.b (by assumption)) ?_); walk_at "up"))
local macro_rules | `(tactic| walk_at "ev") => `(tactic| first
  | ((with_reducible refine' ev_var ?h1 ?h2); (case h1 => rfl); (case h2 => walk_at "up"))
  | ((with_reducible refine' ev_vi ?h1); (case h1 => rfl))
  | with_reducible exact ev_ci
  | ((with_reducible refine' ev_get0 ?ea); (case ea => walk_at "ev"))
  | ((with_reducible refine' ev_get1 ?ea); (case ea => walk_at "ev"))
  | ((with_reducible refine' ev_I0 ?ea ?eb); (case ea => walk_at "ev"); (case eb => walk_at "ev"))
  | ((with_reducible refine' ev_notV ?ea); (case ea => walk_at "ev"))
  | ((with_reducible refine' eb_test ?ea); (case ea => walk_at "ev"))
  | ((with_reducible refine' eb_B ?ea); (case ea => walk_at "ev"))
  | ((with_reducible refine' eb_not ?ea); (case ea => walk_at "ev"))
  | ((with_reducible refine' ev_eq ?ea ?eb ?ec); (case ea => walk_at "ev"); (case eb => walk_at "ev"); (case ec => rfl))
  | ((with_reducible refine' ev_ne ?ea ?eb ?ec); (case ea => walk_at "ev"); (case eb => walk_at "ev"); (case ec => rfl))
  | ((with_reducible refine' ev_chainI ?ea ?eb ?ec); (case ea => walk_at "ev"); (case eb => walk_at "ev"); (case ec => walk_at "ev"))
  | with_reducible exact ea_nil
  | ((with_reducible refine' ea_cons ?ea ?eb); (case ea => walk_at "ev"); (case eb => walk_at "ev")))
section
variable {P : Program} {w : World} {K : PySem.W.Frag} {mg : Str → Option Value} {base : Heap}
/-- (room, p, places, order) -/
abbrev IFr := Addr × Int × Int × List Int
def sp_l_filled_right (K : PySem.W.Frag) : Sp := spG (ι := IFr) (fun x => [is (.ref x.1), int x.2.1, int x.2.2.1, lstR K (x.2.2.2.map int)]) (fun W x => W.r = some x.1 ∧ PrF x.2.1 ∧ 1 ≤ x.2.2.1 ∧ x.2.2.1 ≤ 4 ∧ OrdP x.2.2.1 x.2.2.2 ∧ Tk K W) fun _ => bl true
theorem ok_l_filled_right (T : Ty K mg base) : Cal P w K mg base 10 "_law_filled_right" (sp_l_filled_right K) [] := by
  have h_l_take := ok_l_take (P := P) (w := w) (base := base) T.toTx
  have h_l_filling := ok_l_filling (P := P) (w := w) (base := base) T.toTx
  have h_Field_mk := ok_Field_mk (P := P) (w := w) (base := base) T.toTx
  have h_l_wish := ok_l_wish (P := P) (w := w) (base := base) T.toTx
  have h_System_mk_d := ok_System_mk_d (P := P) (w := w) (base := base) T.toTx
  have h_Sum_mk := ok_Sum_mk (P := P) (w := w) (base := base) T
  have h_l_terms := ok_l_terms (P := P) (w := w) (base := base) T.toTx
  have h_lets_showing := ok_lets_showing (P := P) (w := w) (base := base) T
  have h_worths_of := ok_worths_of (P := P) (w := w) (base := base) T.toTx
  have h_l_row_worths := ok_l_row_worths (P := P) (w := w) (base := base) T.toTx
  have h_lets_worths := ok_lets_worths (P := P) (w := w) (base := base) T.toTx
  have h_System_renamed := ok_System_renamed (P := P) (w := w) (base := base) T
  have h_l_called := ok_l_called (P := P) (w := w) (base := base) T.toTx
  have h_cut := ok_cut (P := P) (w := w) (base := base) T.toTx
  obtain ⟨fd, F⟩ := T.d_l_filled_right
  refine ⟨_, fd, ["_law_room_here", "_law_prime_here", "_law_many", "_law_order"], [], F.ok sc_l_filled_right (spG_len fun _ => rfl) (fun cdv A outer s H vs Q E hr h => ?_), T.g_l_filled_right, F.kp, F.bindsN (fun _ _ _ _ _ _ us hl => match us, hl with | [_, _, _, _], _ => rfl), .nil⟩
  obtain ⟨W, ⟨a, p, n, ord⟩, rfl, ha, ⟨hr0, hp, hn0, hn, ho, hT⟩, k⟩ := h
  dsimp only at hr0 hp hn0 hn ho
  obtain ⟨v0, v1, v2, v3, rfl, rfl, rfl, rfl, h3⟩ := ha.four
  dsimp only at h3
  refine ⟨_, PSs.nox (pss_cons (ps_set (i := 4) sc_l_filled_right.nd rfl (Or.inr rfl) (pe_c h_l_filling hr (by decide) rfl (pa_cons (pv 0) (pa_cons (pv 2) pa_nil))))
    (pss_cons (ps_set (i := 5) sc_l_filled_right.nd rfl (Or.inr rfl) (pe_mk h_Field_mk hr (by decide) rfl (pa_cons (pv 1) pa_nil)))
    (pss_cons (ps_setLc (i := 6) (own := [("_law_k", 7)]) rfl sc_l_filled_right.nd rfl rfl (sw_true rfl rfl rfl (by decide +kernel)) (pi_range1 (by rfl) T.b_range (pa_cons (pe_op op_add pe_int (pe_c h_l_take hr (by decide) rfl (pa_cons (pv 0) (pa_cons pe_int pa_nil)))) pa_nil)) (blkOk_by (N := ["_law_room_here", "_law_prime_here", "_law_many", "_law_order", "_law_planted", "_law_field", "_law_wishes", "_law_k", "_law_system", "_law_rows", "_law_sums", "_law_degree_here", "_law_worths"]) (sc := defScope s_l_filled_right) (by decide +kernel)) (fun _ _ _ _ _ => (pg_name (i := 7) sc_l_filled_right.nd rfl (Or.inl rfl))) (fun _ _ _ _ _ => pts_nil) (fun _ _ _ _ _ => (pe_c h_l_wish hr (by decide) rfl (pa_cons (pv 0) (pa_cons (pv 1) (pa_cons (pv 2) (pa_cons pe_int (pa_cons (pv 4) pa_nil))))))))
    (pss_cons (ps_set (i := 8) sc_l_filled_right.nd rfl (Or.inl rfl) (pe_mk h_System_mk_d hr (by decide) rfl (pa_cons (pv 5) (pa_cons (pv 2) (pa_cons (pe_lc (own := [("_law_rows", 9)]) rfl sc_l_filled_right.nd (pi_list (pv 6)) (blkOk_by (N := ["_law_room_here", "_law_prime_here", "_law_many", "_law_order", "_law_planted", "_law_field", "_law_wishes", "_law_k", "_law_system", "_law_rows", "_law_sums", "_law_degree_here", "_law_worths"]) (sc := defScope s_l_filled_right) (by decide +kernel)) (fun _ _ _ _ _ => (pg_name (i := 9) sc_l_filled_right.nd rfl (Or.inl rfl))) (fun _ _ _ _ _ => pts_nil) (fun _ _ _ _ _ => (pe_mk h_Sum_mk hr (by decide) rfl (pa_cons (pv 5) (pa_cons (pv 9) pa_nil))))) pa_nil)))))
    (pss_cons (ps_for PassesOwn.never rfl (pi_range1 (by rfl) T.b_range (pa_cons pe_int pa_nil)) (pg_name (i := 7) sc_l_filled_right.nd rfl (Or.inl rfl)) (pss_cons (ps_setLc (i := 10) (own := [("_law_rows", 9)]) rfl sc_l_filled_right.nd rfl rfl (sw_true rfl rfl rfl (by decide +kernel)) (pi_list (pv 6)) (blkOk_by (N := ["_law_room_here", "_law_prime_here", "_law_many", "_law_order", "_law_planted", "_law_field", "_law_wishes", "_law_k", "_law_system", "_law_rows", "_law_sums", "_law_degree_here", "_law_worths"]) (sc := defScope s_l_filled_right) (by decide +kernel)) (fun _ _ _ _ _ => (pg_name (i := 9) sc_l_filled_right.nd rfl (Or.inl rfl))) (fun _ _ _ _ _ => pts_nil) (fun _ _ _ _ _ => (pe_mk h_Sum_mk hr (by decide) rfl (pa_cons (pv 5) (pa_cons (pe_c h_l_terms hr (by decide) rfl (pa_cons (pv 0) (pa_cons (pv 1) (pa_cons (pv 2) (pa_cons pe_int pa_nil))))) pa_nil)))))
    (pss_one (ps_if (pt_cmpR op_notBl (pe_c h_lets_showing hr (by decide) rfl (pa_cons (pv 8) (pa_cons pe_int (pa_cons (pv 10) pa_nil)))) pe_bl (nomark _)) (pss_one (ps_ret pe_bl)) pss_nil))))
    (pss_cons (ps_for PassesOwn.never rfl (pi_range1 (by rfl) T.b_range (pa_cons pe_int pa_nil)) (pg_name (i := 11) sc_l_filled_right.nd rfl (Or.inl rfl)) (pss_cons (ps_set (i := 12) sc_l_filled_right.nd rfl (Or.inl rfl) (pe_c h_worths_of hr (by decide) rfl (pa_cons (pv 8) (pa_cons (pv 11) (pa_cons (pv 4) pa_nil)))))
    (pss_cons (ps_if (PW.pt (pw_or (pt_cmpR (op_ne_dT hr) (pv 12) (pe_c h_l_row_worths hr (by decide) rfl (pa_cons (pv 2) (pa_cons (pv 11) (pa_cons (pv 4) pa_nil)))) (nomark _)) (pw_or1 (pt_not (pt_val (pe_c h_lets_worths hr (by decide) rfl (pa_cons (pv 8) (pa_cons (pv 11) (pa_cons (pv 12) pa_nil))))))))) (pss_one (ps_ret pe_bl)) pss_nil)
    (pss_cons (ps_if (pt_not (pt_val (pe_c h_lets_worths hr (by decide) rfl (pa_cons (pe_mt h_System_renamed hr (by decide) (pv 8) (pa_cons (pv 3) pa_nil)) (pa_cons (pv 11) (pa_cons (pe_c h_l_called hr (by decide) rfl (pa_cons (pv 12) (pa_cons (pv 3) pa_nil))) pa_nil)))))) (pss_one (ps_ret pe_bl)) pss_nil)
    (pss_one (ps_if (PW.pt (pw_and (pt_cmpR op_gt (pv 11) pe_int (nomark _)) (pw_and1 (pt_not (pt_val (pe_c h_lets_worths hr (by decide) rfl (pa_cons (pv 8) (pa_cons (pe_op op_sub (pv 11) pe_int) (pa_cons (pe_c h_cut hr (by decide) rfl (pa_cons (pv 12) (pa_cons (pe_op op_sub (pv 11) pe_int) pa_nil))) pa_nil))))))))) (pss_one (ps_ret pe_bl)) pss_nil))))))
    (pss_one (ps_ret pe_bl)))))))), ?_⟩
  try simp only [cxK, cxW, cxP]
  have hpo := hp.ok
  have hn00 : 0 ≤ n := by omega
  refine q_asg (R := anyR (fun fs : List Int => (fs.length : Int) = n ∧ FilOk fs) prod) (ev_call (x := (a, n)) (as := [is (.ref a), int n]) (ea_cons (ev_vi rfl) (ea_cons (ev_vi rfl) ea_nil)) rfl fun W1 l1 => ⟨l1.r.trans hr0, hn00, by show n ≤ 60; omega⟩) ?_
  rintro v4 W1 l1 ⟨fs, ⟨hfl, hff⟩, hv4⟩
  refine q_asg (R := fld K p) (ev_make (dvs := []) (as := [int p]) (ea_cons (ev_vi rfl) ea_nil) p rfl fun _ _ => hp) fun v5 W2 l2 hv5 => ?_
  have l12 := l1.trans l2
  refine q_lcA (P := fun i => 1 ≤ i ∧ i < 4) (ev_I0A (Pa := fun i => i = 1) (Pb := fun i => 0 ≤ i ∧ i < 3) (ev_anyI ev_ci rfl) (ev_take (K := K) (ea_cons (ev_vi rfl) (ea_cons ev_ci ea_nil)) (l12.r.trans hr0) (by decide) (by decide)) fun i j hi hj => by omega) fun c W3 l3 hc => ?_
  have l13 := l12.trans l3
  refine q_asg (R := anyR (Rel2 (fun _ r => WiP (a, p, n, 4, fs) r) (upTo 0 c.toNat)) fun rs => lstR K (rs.map (rows K))) (ev_mapA (K := K) (F := int) (G := rows K) (P := fun _ r => WiP (a, p, n, 4, fs) r) (xs := upTo 0 c.toNat) (it_rng1 (n := c) (ea_cons ev_ci ea_nil) (by omega)) (by rw [upTo_len]; omega) ?_) ?_
  · intro i x W4 hi l4 hx Q q
    exact g_name (q _ rfl (ev_call (x := (a, p, n, 4, fs)) (as := [is (.ref a), int p, int n, int 4, prod fs]) (ea_cons (ev_vi rfl) (ea_cons (ev_vi rfl) (ea_cons (ev_vi rfl) (ea_cons ev_ci (ea_cons (ev_var rfl (Rp.mono _ ((l2.trans l3).trans l4).b hv4)) ea_nil))))) rfl fun W5 l5 => ⟨((l13.trans l4).trans l5).r.trans hr0, hp, hn00, by show n ≤ 60; omega, by show (0 : Int) ≤ 4; decide, by show (4 : Int) ≤ 30; decide, hfl.symm, hff⟩))
  rintro v6 W4 l4 ⟨rs, hrs, hv6⟩
  have l14 := l13.trans l4
  have hrl : rs.length ≤ 3 := by rw [hrs.len, upTo_len]; omega
  have hwi : ∀ r ∈ rs, WiP (a, p, n, 4, fs) r := fun r hr => by obtain ⟨_, _, h⟩ := hrs.mem r hr; exact h
  have hws : WsOk p n 38 (rs.map (gath p)) := ⟨by rw [List.length_map]; omega, fun r hr => by
    obtain ⟨s, hs, rfl⟩ := List.mem_map.mp hr
    obtain ⟨_, _, h3, h4, _⟩ := wish_ok hpo (hwi s hs)
    exact ⟨h3, by omega⟩⟩
  have hv0 : ∀ r ∈ rs.map (gath p), ∀ L : Vl p, sv L (fS L (setS fs)) r = 0 := fun r hr => by
    obtain ⟨s, hs, rfl⟩ := List.mem_map.mp hr
    exact (wish_ok hpo (hwi s hs)).2.2.2.2
  have hw0 : ∀ r ∈ rs.map (gath p), worthR p r fs = (0, 1) := fun r hr => worth_zero hpo (hws.2 r hr).1 (hv0 r hr)
  have hso : SysOk (p, n, 38, rs.map (gath p)) := ⟨hp, hn0, by show n ≤ 60; omega, hws⟩
  refine q_asg (R := sysR K (p, n, rs.map (gath p))) (ev_make (dvs := [.non]) (as := [fld K p, int n, sums K p (rs.map (gath p))]) (ea_cons (ev_var rfl (Rp.mono _ (l3.trans l4).b hv5)) (ea_cons (ev_vi rfl) (ea_cons ?_ ea_nil))) (p, n, 38, rs.map (gath p)) rfl fun _ _ => hso) fun v8 W5 l5 hv8 => ?_
  · show Ev _ _ _ (lstR K ((rs.map (gath p)).map fun r => sumR K (p, r)))
    rw [List.map_map]
    refine ev_mapI (F := rows K) (xs := rs) (it_list (K := K) (ev_var rfl hv6)) (by omega) ?_
    intro r x W5 hr l5 hx Q q
    obtain ⟨h1, h2, _⟩ := wish_ok hpo (hwi r hr)
    exact g_name (q _ rfl (ev_make (dvs := []) (as := [fld K p, rows K r]) (ea_cons (ev_var rfl (Rp.mono _ ((l3.trans l4).trans l5).b hv5)) (ea_cons (ev_var rfl hx) ea_nil)) (p, n, 30, r) rfl fun W6 l6 => ⟨⟨hp, by show n ≤ 60; omega, by show 30 ≤ 190; decide, h1, by show r.length ≤ 256; omega⟩, hT.le ((l14.trans l5).trans l6)⟩))
  have l15 := l14.trans l5
  refine q_forI (it_rng1 (n := 4) (ea_cons ev_ci ea_nil) (by decide)) (fun i σ' W' => ∃ (o7 o10 : Option V), σ' = [some (.ref a), some (.int p), some (.int n), some v3, some v4, some v5, some v6, o7, some v8, none, o10, none, none] ∧ Le W5 W') (fun W6 l6 => ⟨none, none, rfl, l6⟩) ?_ ?_
  · rintro i r0 x σ' W' W6 N hi s ⟨o7, o10, rfl, lw⟩ l6 hx nx
    have h56 := lw.trans l6
    have hlw := l15.trans h56
    refine g_name ?_
    refine q_asg (R := anyR (Rel2 (fun _ r => Gat p n 4 r) rs) fun ss => lstR K (ss.map fun r => sumR K (p, r))) (ev_mapA (K := K) (F := rows K) (G := fun r => sumR K (p, r)) (P := fun _ r => Gat p n 4 r) (xs := rs) (it_list (K := K) (ev_var rfl (Rp.mono _ (l5.trans h56).b hv6))) (by omega) ?_) ?_
    · intro r x W7 hr l7 hx Q q
      refine g_name (q _ rfl (ev_makeX (as := [fld K p, anyR (fun r => RowOk p n 14 r ∧ (r.length : Int) ≤ 4) (rows K)]) (ea_cons (ev_var rfl (Rp.mono _ ((((l3.trans l4).trans l5).trans h56).trans l7).b hv5)) (ea_cons (ev_callL (K := K) (as := [is (.ref a), int p, int n, int 4]) (ea_cons (ev_vi rfl) (ea_cons (ev_vi rfl) (ea_cons (ev_vi rfl) (ea_cons ev_ci ea_nil)))) (a, p, n, 4) rfl fun W8 l8 => ⟨((hlw.trans l7).trans l8).r.trans hr0, hp, hn00, by show n ≤ 60; omega, by show (0 : Int) ≤ 4; decide, by show (4 : Int) ≤ 30; decide⟩) ea_nil)) ?_))
      intro W8 vs l8 hvs
      obtain ⟨u0, u1, rfl, e3, r, ⟨h1, h2⟩, e4⟩ := hvs.two
      exact ⟨(p, n, 14, r), ⟨e3, e4, True.intro⟩, ⟨⟨hp, by show n ≤ 60; omega, by show 14 ≤ 190; decide, h1, by show r.length ≤ 256; omega⟩, hT.le ((hlw.trans l7).trans l8)⟩, fun W9 v hv => ⟨gath p r, ⟨r, h1, h2, rfl⟩, hv⟩⟩
    · rintro v10 W7 l7 ⟨ss, hss, hv10⟩
      have hsl : ss.length = (rs.map (gath p)).length := by rw [hss.len, List.length_map]
      have hz1 := zip_fst hsl
      have hz2 := zip_snd' hsl
      have hzl : ((rs.map (gath p)).zip ss).length ≤ 3 := by rw [List.length_zip, List.length_map]; omega
      have hzo : ∀ x ∈ (rs.map (gath p)).zip ss, (RowOk p n 38 x.1 ∧ RowOk p n 22 x.2) ∧ x.1.length ≤ 5 ∧ x.2.length ≤ 4 ∧ worthR p x.1 fs = (0, 1) := fun x hx => by
        obtain ⟨h1, h2⟩ := List.of_mem_zip (a := x.1) (b := x.2) hx
        obtain ⟨_, _, hg⟩ := hss.mem x.2 h2
        obtain ⟨g1, g2⟩ := hg.ok hpo (by decide)
        obtain ⟨s, hs, e⟩ := List.mem_map.mp h1
        obtain ⟨_, _, _, h4, _⟩ := wish_ok hpo (hwi s hs)
        exact ⟨⟨(hws.2 x.1 h1).1, g1⟩, by rw [← e]; exact h4, by omega, hw0 x.1 h1⟩
      have hno := no_show hpo (fun x hx => (hzo x hx).1) fun x hx => (hzo x hx).2.2.2
      have hsh : ShOk (p, n, 38, 22, (rs.map (gath p)).zip ss, 20) := ⟨hp, hn00, by show n ≤ 30; omega, by show 38 + 22 ≤ 140; decide, by show ((rs.map (gath p)).zip ss).length ≤ 4; omega, fun x hx => by
        obtain ⟨⟨h1, h2⟩, h3, h4, _⟩ := hzo x hx
        have := Nat.mul_le_mul h3 h4
        exact ⟨h1, h2, by omega, by omega, by omega⟩⟩
      have h57 := h56.trans l7
      refine s_skip (eb_is (eb_test (ev_notBl (ev_call (x := (p, n, 38, 22, (rs.map (gath p)).zip ss, 20)) (as := [sysR K (p, n, rs.map (gath p)), int 20, sums K p ss]) (ea_cons (ev_var rfl (Rp.mono _ h57.b hv8)) (ea_cons ev_ci (ea_cons (ev_var rfl hv10) ea_nil))) (by
        show [sysR K (p, n, zW ((rs.map (gath p)).zip ss)), int 20, sums K p (zS ((rs.map (gath p)).zip ss))] = _
        rw [hz1, hz2]) fun W8 l8 => ⟨⟨hsh, by show (0 : Int) ≤ 20; decide, by show (20 : Int) ≤ 300; decide⟩, hT.le ((l15.trans h57).trans l8)⟩) ev_ci)) (by rw [decide_eq_false hno, Bool.and_false]; rfl)) fun W8 l8 => ?_
      exact nx _ W8 (l7.trans l8).b ⟨_, _, rfl, h57.trans l8⟩
  · rintro σ' W' s ⟨o7, o10, rfl, lw⟩
    refine q_forI (it_rng1 (n := 7) (ea_cons ev_ci ea_nil) (by decide)) (fun i σ' W' => ∃ (o11 o12 : Option V), σ' = [some (.ref a), some (.int p), some (.int n), some v3, some v4, some v5, some v6, o7, some v8, none, o10, o11, o12] ∧ Le W5 W') (fun W6 l6 => ⟨none, none, rfl, lw.trans l6⟩) ?_ ?_
    · rintro i r0 x σ' W'' W6 N hi s2 ⟨o11, o12, rfl, lw2⟩ l6 hx nx
      obtain ⟨y, hy, rfl, hm⟩ := map_at hi
      cases hx
      have hy2 := mem_upTo.mp hm
      have hy0 : 0 ≤ y := hy2.1
      have hy6 : y ≤ 6 := by omega
      clear hm hy hi
      have h56 := lw2.trans l6
      have hlw := l15.trans h56
      obtain ⟨qn, ql, qz⟩ := prods_at hn00 hn hy0
      have hfo : DicOk p n y 0 (fillD fs (prodsOf n (kOf n y))) := fill_ok hpo hn00 hn hy0 (List.Perm.refl _)
      have hfg : ∀ q, PdOk n q → (q.length : Int) ≤ y → getW (fillD fs (prodsOf n (kOf n y))) q = if q.all (setS fs) = true then (1, 1) else (0, 1) := fun q hq hl => fill_get qn ((mem_kOf hn00 hy0).mpr ⟨hq, hl⟩)
      have hnd : ((fillD fs (prodsOf n (kOf n y))).map (·.1)).Nodup := by rw [fill_keys]; exact qn
      have hfz : (fillD fs (prodsOf n (kOf n y))).length ≤ 16 := by unfold fillD; rw [List.length_map]; exact qz
      refine g_name ?_
      refine q_asg (R := dctR K (fillD fs (prodsOf n (kOf n y)))) (ev_call (x := (p, n, 38, rs.map (gath p), fs, y)) (as := [sysR K (p, n, rs.map (gath p)), int y, prod fs]) (ea_cons (ev_var rfl (Rp.mono _ h56.b hv8)) (ea_cons (ev_vi rfl) (ea_cons (ev_var rfl (Rp.mono _ ((((l2.trans l3).trans l4).trans l5).trans h56).b hv4)) ea_nil))) rfl fun _ _ => ⟨⟨hp, hn00, by show 38 ≤ 190; decide, hws, hfl.symm, by show fs.length ≤ 60; omega, hff, hw0⟩, hn, hy0, by show y ≤ 300; omega⟩) fun v12 W7 l7 hv12 => ?_
      have h57 := h56.trans l7
      have hl7 := l15.trans h57
      have hpp := prL_ok hn00 hn hy0 (show y ≤ 8 by omega)
      have hlet : lwR p n y (fillD fs (prodsOf n (kOf n y))) (rs.map (gath p)) = true := planted_lets (setS fs) hpo hn00 hy0 hfo hfg fun r hr => ⟨(hws.2 r hr).1, hv0 r hr⟩
      refine q_skip (eb_or (a := false) (eb_test (ev_neDT (K := K) (d := fillD fs (prodsOf n (kOf n y))) (e := fillD fs (prL y n.toNat)) (ev_var rfl hv12) (ev_call (x := (n, y, fs)) (as := [int n, int y, prod fs]) (ea_cons (ev_vi rfl) (ea_cons (ev_vi rfl) (ea_cons (ev_var rfl (Rp.mono _ ((((l2.trans l3).trans l4).trans l5).trans h57).b hv4)) ea_nil))) rfl fun _ _ => ⟨hn00, hn, hy0, by show y ≤ 8; omega, hfl.symm, hff⟩) (by unfold fillD; rw [List.length_map, List.length_map, hpp.length_eq]) fun t ht => ?_)) (fun _ => eb_is (eb_not (eb_B (ev_call (x := (p, n, 38, 0, rs.map (gath p), y, fillD fs (prodsOf n (kOf n y)))) (as := [sysR K (p, n, rs.map (gath p)), int y, dctR K (fillD fs (prodsOf n (kOf n y)))]) (ea_cons (ev_var rfl (Rp.mono _ h57.b hv8)) (ea_cons (ev_vi rfl) (ea_cons (ev_var rfl hv12) ea_nil))) rfl fun _ _ => ⟨hp, hn0, hn, by show 38 + 0 ≤ 190; decide, hws, hy0, by show y ≤ 300; omega, hfo⟩))) (by
        show (!lwR p n y (fillD fs (prodsOf n (kOf n y))) (rs.map (gath p))) = false
        rw [hlet]; rfl)) (fun e => nomatch e)) fun W8 l8 => ?_
      · obtain ⟨q, hq, rfl⟩ := List.mem_map.mp ht
        exact List.mem_map.mpr ⟨q, hpp.mem_iff.mpr hq, rfl⟩
      have h58 := h57.trans l8
      have hl8 := l15.trans h58
      have hco := cal_ok hn00 ho hfo
      have hrw := renW_ok hpo hws ho hn00
      have hlet2 : lwR p n y (calD ord (fillD fs (prodsOf n (kOf n y)))) (renW p ord (rs.map (gath p))) = true := by
        refine planted_lets (renS n ord (setS fs)) hpo hn00 hy0 hco (fun q hq hql => ?_) fun r hr => ⟨(hrw.2 r hr).1, fun L => ?_⟩
        · obtain ⟨r, hr, rfl, hrl2⟩ := ren_from hn00 ho hq
          rw [cal_get hn00 ho hfo hnd hr (by omega), hfg r hr (by omega), renS_all ho hr]
        · obtain ⟨s, hs, rfl⟩ := List.mem_map.mp hr
          rw [ren_v hpo ho hn00 (hws.2 s hs).1]
          exact hv0 s hs L
      refine q_skip (eb_is (eb_not (eb_B (ev_call (x := (p, n, 46, 0, renW p ord (rs.map (gath p)), y, calD ord (fillD fs (prodsOf n (kOf n y))))) (as := [sysR K (p, n, renW p ord (rs.map (gath p))), int y, dctR K (calD ord (fillD fs (prodsOf n (kOf n y))))]) (ea_cons (ev_meth (R := sysR K (p, n, rs.map (gath p))) (ev_var rfl (Rp.mono _ h58.b hv8)) (sys_no (by decide +kernel) (by decide +kernel) (by decide +kernel) (by decide +kernel)) (as := [lstR K (ord.map int)]) (ea_cons (ev_var rfl (Rp.mono _ hl8.b h3)) ea_nil) (p, n, 38, rs.map (gath p), ord) rfl fun W9 l9 => ⟨hso, by show 38 ≤ 190; decide, ho, hT.le (hl8.trans l9)⟩) (ea_cons (ev_vi rfl) (ea_cons (ev_call (x := (n, fillD fs (prodsOf n (kOf n y)), ord)) (as := [dctR K (fillD fs (prodsOf n (kOf n y))), lstR K (ord.map int)]) (ea_cons (ev_var rfl (Rp.mono _ l8.b hv12)) (ea_cons (ev_var rfl (Rp.mono _ hl8.b h3)) ea_nil)) rfl fun _ _ => ⟨hn00, by show n ≤ 60; omega, ho, fun t ht => (hfo.2.1 t ht).1, hnd, by show (fillD fs (prodsOf n (kOf n y))).length ≤ 1000; omega⟩) ea_nil))) rfl fun _ _ => ⟨hp, hn0, hn, by show 46 + 0 ≤ 190; decide, hrw, hy0, by show y ≤ 300; omega, hco⟩))) (by
        show (!lwR p n y (calD ord (fillD fs (prodsOf n (kOf n y)))) (renW p ord (rs.map (gath p)))) = false
        rw [hlet2]; rfl)) fun W9 l9 => ?_
      have h59 := h58.trans l9
      refine s_skip (eb_and (a := decide (y > 0)) (eb_is (by walk_at "ev") rfl) (fun hy1 => ?_) (fun _ => rfl)) fun W10 l10 => nx _ W10 (((l7.trans l8).trans l9).trans l10).b ⟨_, _, rfl, h59.trans l10⟩
      have hy1 := of_decide_eq_true hy1
      obtain ⟨qs, e1, e2⟩ := cut_fill (fs := fs) hn00 hn (show 0 ≤ y - 1 by omega)
      rw [Int.sub_add_cancel] at e1
      have hcd : DicOk p n (y - 1) 0 (fillD fs qs) := fill_ok hpo hn00 hn (by omega) e2
      have hqn : qs.Nodup := e2.nodup_iff.mpr (prods_at hn00 hn (show 0 ≤ y - 1 by omega)).1
      have hlet3 : lwR p n (y - 1) (fillD fs qs) (rs.map (gath p)) = true := planted_lets (setS fs) hpo hn00 (by omega) hcd (fun q hq hl => fill_get hqn (e2.mem_iff.mpr ((mem_kOf hn00 (by omega)).mpr ⟨hq, hl⟩))) fun r hr => ⟨(hws.2 r hr).1, hv0 r hr⟩
      have hcut := ev_call (E := E) (σ := [some (.ref a), some (.int p), some (.int n), some v3, some v4, some v5, some v6, o7, some v8, none, o10, some (.int y), some v12]) (W := W9) (args := fun x : Dct × Int => [dctR K x.1, int x.2]) (pre := fun _ x => (x.1.map (·.1)).Nodup ∧ x.1.length ≤ 1000 ∧ 0 ≤ x.2 ∧ x.2 ≤ 300) (res := fun x => dctR K (x.1.filter fun t => decide ((t.1.length : Int) ≤ x.2))) (t := tCons (tVar 12) (tCons (tOp (rI0 fun i j => .int (i - j)) (tVar 11) (tC (.int 1))) tNil)) (x := (fillD fs (prodsOf n (kOf n y)), y - 1)) (as := [dctR K (fillD fs (prodsOf n (kOf n y))), int (y - 1)]) (ea_cons (ev_var rfl (Rp.mono _ (l8.trans l9).b hv12)) (ea_cons (ev_I0 (ev_vi rfl) ev_ci) ea_nil)) rfl fun _ _ => ⟨hnd, by show (fillD fs (prodsOf n (kOf n y))).length ≤ 1000; omega, by show 0 ≤ y - 1; omega, by show y - 1 ≤ 300; omega⟩
      dsimp only at hcut
      rw [e1] at hcut
      refine eb_is (eb_not (eb_B (ev_call (x := (p, n, 38, 0, rs.map (gath p), y - 1, fillD fs qs)) (as := [sysR K (p, n, rs.map (gath p)), int (y - 1), dctR K (fillD fs qs)]) (ea_cons (ev_var rfl (Rp.mono _ h59.b hv8)) (ea_cons (ev_I0 (ev_vi rfl) ev_ci) (ea_cons hcut ea_nil))) rfl fun _ _ => ⟨hp, hn0, hn, by show 38 + 0 ≤ 190; decide, hws, by show 0 ≤ y - 1; omega, by show y - 1 ≤ 300; omega, hcd⟩))) ?_
      show (!lwR p n (y - 1) (fillD fs qs) (rs.map (gath p))) = false
      rw [hlet3]; rfl
    · rintro σ' W'' s2 ⟨o11, o12, rfl, lw2⟩
      exact s_ret (R := bl true) ev_ci fun v W6 l6 hv => k v W6 ((l15.trans lw2).trans l6) hv
end
end Fs

set_option Elab.async false
set_option linter.all false
set_option maxRecDepth 100000
set_option maxHeartbeats 2000000
namespace Fs
open PySem PySem.Spec PyProof.Rows L2 C8
/-- a world that has no room, and one that has -/
theorem room_in {W W1 : Wd} {l : Addr} {b : Int × Int} (hr : W.r = none) (l1 : Le W W1) (fr : Fre W l) (hb : RoomP b) (L : LocL W1 l [int b.1, int b.2]) : ∃ W2 : Wd, W2.H = W1.H ∧ W2.B = W1.B ∧ W2.T = W1.T ∧ W2.r = some l ∧ ∀ W3, Le W2 W3 → ∃ W4 : Wd, W4.H = W3.H ∧ Le W W4 := by
  obtain ⟨hB, _, vs, h1, h2⟩ := L
  obtain ⟨u, v, rfl, e1, e2⟩ := h2.two
  rw [show u = V.int b.1 from e1, show v = V.int b.2 from e2] at h1
  refine ⟨⟨W1.B, W1.H, some l, W1.T, W1.ex, (fun a e => by cases e; exact ⟨hB, b.1, b.2, h1, hb.1, hb.2.1, hb.2.2⟩), W1.nb, W1.tb⟩, rfl, rfl, rfl, rfl, fun W3 l3 => ⟨⟨W3.B, W3.H, none, W3.T, W3.ex, (fun a e => nomatch e), W3.nb, W3.tb⟩, rfl, l1.b.trans l3.b, fun c o n ho t => ?_, fun c o hc ho n t => ?_, hr.symm, l3.t.trans l1.t⟩⟩
  · have hne : c ≠ l := fr.ne ho t
    exact l3.h c o (fun e => hne (Option.some.inj e).symm) (l1.h c o n ho t) t
  · have hne : c ≠ l := fr.ne ho t
    exact l3.n c o (l1.n c o hc ho n t) (l1.h c o (by rw [hr]; exact fun e => nomatch e) ho t) n t
section
variable {K : PySem.W.Frag} {σ : L2.St} {W W' W0 : Wd} {ta tb te te2 : TE} {l a : Addr} {D : Ends} {tz tu : TS} {E : XK}
theorem q_listRgL {i : Nat} {n : Int} (h : Ev ta σ W (int n)) (h0 : 0 ≤ n) (h1 : n ≤ 1000) (k : ∀ l W1, Le W W1 → Fre W l → LocL W1 l ((upTo 0 n.toNat).map int) → tz D (σ.set i (some (.ref l))) W1.H) : tSeq (tAsg (tLstRg (tRg1 ta)) (gName i)) tz D σ W.H :=
  h W (Le.refl _) _ fun v W2 l2 hv => ⟨n, hv, RgOk.of_le (by decide) (by omega) (by decide) h0, fun p hp => by
    have e : rgV 0 n = (upTo 0 n.toNat).map V.int := by
      unfold rgV upTo
      rw [List.map_map, Int.sub_zero]; rfl
    exact k p (W2.loc p (.lst (rgV 0 n)) hp) (l2.trans (W2.loc_le hp)) (l2.free (Wd.fre hp)) ⟨W2.bfree hp, (Wd.fre hp).nr, rgV 0 n, upd_same, rpa_ints' e⟩⟩
theorem erase_perm {po re : List Int} {k : Nat} (h : k < re.length) : (po ++ [re[k]] ++ re.eraseIdx k).Perm (po ++ re) := by
  rw [List.append_assoc]
  refine List.Perm.append_left po ?_
  have key : ∀ (l : List Int) (k : Nat) (h : k < l.length), ([l[k]] ++ l.eraseIdx k).Perm l := by
    intro l
    induction l with
    | nil => intro k h; simp at h
    | cons x l ih =>
      intro k h
      cases k with
      | zero => exact List.Perm.refl _
      | succ k =>
        have := ih k (by simpa using h)
        exact (List.Perm.swap x (l[k]'(by simpa using h)) _).trans (List.Perm.cons x this)
  exact key re k h
/-- [l.pop(take(room, len(l))) for _ in range(n)] -/
theorem s_popG {wi : TI} {n : Int} {s0 s1 s3 s4 s7 s8 s9 s10 s11 s12 s13 s14 s15 s16 s17 : Option V} (l0 : Le W0 W) (fr : Fre W0 l) (L : LocL W l ((upTo 0 n.toNat).map int)) (hr : W.r = some a) (hit : ItW wi [s0, s1, some (.ref a), s3, s4, some (.int n), some (.ref l), s7, s8, s9, s10, s11, s12, s13, s14, s15, s16, s17] W ((upTo 0 n.toNat).map int)) (h0 : 1 ≤ n) (h1 : n ≤ 1000)
    (k : ∀ ord v W2, Le W0 W2 → OrdP n ord → (lstR K (ord.map int)).p W2.B v → D.nx [s0, s1, some (.ref a), s3, s4, some (.int n), some (.ref l), some v, s8, s9, s10, s11, s12, s13, s14, s15, s16, s17] W2.H) :
    (tAsg (tLc wi (gName 8) tYes (tBM K "list" rPopAt (tVar 6) (tCons (tCall (sp_l_take K) [] E (tCons (tVar 2) (tCons (tCB (rLenQ K) (tCons (tVar 6) tNil)) tNil))) tNil)) [8]) (gName 7)) D [s0, s1, some (.ref a), s3, s4, some (.int n), some (.ref l), s7, s8, s9, s10, s11, s12, s13, s14, s15, s16, s17] W.H :=
  hit W (Le.refl _) _ fun J W1 l1 hJ d hD => by
  obtain ⟨G, Y, w, hG, hY⟩ := hJ
  rw [List.length_map, upTo_len] at w
  have hl1 := l0.trans l1
  have frD : Fre W0 d := hl1.free (Wd.fre hD)
  have L1 := L.le l1
  have ndl : d ≠ l := fun e => by
    obtain ⟨_, _, vs, g1, _⟩ := L1
    rw [← e, hD] at g1; cases g1
  refine lc_it w (fun i H' => ∃ (W' : Wd) (po re : List Int), W'.H = H' ∧ Le W0 W' ∧ Same W1.B W'.B ∧ LocL W' d (po.map int) ∧ LocL W' l (re.map int) ∧ (po ++ re).Perm (upTo 0 n.toNat) ∧ po.length = i) ?_ (fun i H' _ ⟨W', _, _, e, _, s, _⟩ => by rw [← e]; exact hG W' s) ?_ ?_
  · have Ld : LocL (W1.loc d (.lst []) hD) d [] := ⟨W1.bfree hD, (Wd.fre hD).nr, [], upd_same, True.intro⟩
    exact ⟨W1.loc d (.lst []) hD, [], upTo 0 n.toNat, rfl, hl1.trans (W1.loc_le hD), (W1.loc_le hD).b, Ld, L1.le (W1.loc_le hD), List.Perm.refl _, rfl⟩
  · rintro i x H' H'' hi ⟨W', po, re, rfl, hw, s, Ld, Ll, hp, hlen⟩ hy
    obtain ⟨r, hri⟩ : ∃ r, ((upTo 0 n.toNat).map int)[i]? = some r := ⟨_, List.getElem?_eq_getElem (by rw [List.length_map, upTo_len]; exact hi)⟩
    obtain ⟨W4, rfl, l4, hx⟩ := hY i r x W' H'' hri s hy
    have Ld4 := Ld.le l4
    have Ll4 := Ll.le l4
    have hre : re.length = n.toNat - i := by
      have := hp.length_eq
      rw [List.length_append, upTo_len] at this
      omega
    refine ⟨rfl, ?_⟩
    show tBM K "list" rPopAt (tVar 6) _ _ W4.H _
    refine ⟨_, rfl, ?_, ?_⟩
    · obtain ⟨_, _, vs, g1, _⟩ := Ll4
      exact tyl g1
    · have hr4 : W4.r = some a := by
        have e1 := (hw.trans l4).r
        rw [e1, ← l0.r, hr]
      have ht : Ev (tCall (sp_l_take K) [] E (tCons (tVar 2) (tCons (tCB (rLenQ K) (tCons (tVar 6) tNil)) tNil))) [s0, s1, some (.ref a), s3, s4, some (.int n), some (.ref l), s7, some x, s9, s10, s11, s12, s13, s14, s15, s16, s17] W4 (anyR (fun z => 0 ≤ z ∧ z < (re.length : Int)) int) := ev_take (K := K) (ea_cons (ev_vi rfl) (ea_cons (ev_is (ev_lenLoc (K := K) rfl Ll4) (by rw [List.length_map])) ea_nil)) hr4 (by omega) (by omega)
      refine ht W4 (Le.refl _) _ fun y W5 l5 ⟨z, hz, ey⟩ => ?_
      have Ld5 := Ld4.le l5
      obtain ⟨b5, r5, vs, g1, g2⟩ := Ll4.le l5
      have ev := rpa_ints_eq g2
      subst ev
      rw [show y = V.int z from ey]
      have hlt : z.toNat < re.length := by omega
      refine ⟨l, re.map V.int, z, z.toNat, V.int re[z.toNat], rfl, rfl, g1, by omega, by omega, (ixN_seq (ixN_of hz.1 (by rw [List.length_map]; exact hz.2))).1, by rw [List.getElem?_map, List.getElem?_eq_getElem hlt]; rfl, ?_⟩
      have m6 : ∃ u, W5.H l = some u ∧ NL u := ⟨_, g1, nl_lst⟩
      have e6 : (re.map V.int).eraseIdx z.toNat = (re.eraseIdx z.toNat).map V.int := by simp [List.eraseIdx_eq_take_drop_succ, List.map_take, List.map_drop]
      rw [e6]
      have hw5 := (hw.trans l4).trans l5
      have l6 : Le W0 (W5.mut l (.lst ((re.eraseIdx z.toNat).map V.int)) b5 r5 m6) := Wd.mut_le hw5 b5 r5 m6 fr
      have Ld6 := Ld5.up (W5.mut_up (o := .lst ((re.eraseIdx z.toNat).map V.int)) b5 r5 m6) ndl
      have Ll6 : LocL (W5.mut l (.lst ((re.eraseIdx z.toNat).map V.int)) b5 r5 m6) l ((re.eraseIdx z.toNat).map int) := ⟨b5, r5, _, upd_same, rpa_ints⟩
      obtain ⟨b7, r7, ac, k1, k2⟩ := Ld6
      have m7 : ∃ u, (W5.mut l (.lst ((re.eraseIdx z.toNat).map V.int)) b5 r5 m6).H d = some u ∧ NL u := ⟨_, k1, nl_lst⟩
      refine ⟨ac, k1, by
        rw [k2.len, List.length_map, hlen]
        exact Nat.lt_of_lt_of_le (show i < 1000 by omega) (by decide), (W5.mut l (.lst ((re.eraseIdx z.toNat).map V.int)) b5 r5 m6).mut d (.lst (ac ++ [V.int re[z.toNat]])) b7 r7 m7, po ++ [re[z.toNat]], re.eraseIdx z.toNat, rfl, Wd.mut_le l6 b7 r7 m7 frD, (s.trans l4.b).trans l5.b, ⟨b7, r7, _, upd_same, ?_⟩, Ll6.up (Wd.mut_up _ b7 r7 m7) ndl.symm, (erase_perm hlt).trans hp, by rw [List.length_append, hlen]; rfl⟩
      rw [List.map_append]
      exact k2.snoc rfl
  · rintro H' ⟨W', po, re, rfl, hw, s, Ld, Ll, hp, hlen⟩
    have hre : re = [] := by
      have := hp.length_eq
      rw [List.length_append, upTo_len] at this
      exact List.length_eq_zero_iff.mp (by omega)
    subst hre
    rw [List.append_nil] at hp
    obtain ⟨W8, e8, u8, h8⟩ := Ld.frz (K := K)
    rw [← e8]
    exact k po _ W8 (u8.le hw frD) hp h8
theorem s_pop {n : Int} {s0 s1 s3 s4 s7 s8 s9 s10 s11 s12 s13 s14 s15 s16 s17 : Option V} (l0 : Le W0 W) (fr : Fre W0 l) (L : LocL W l ((upTo 0 n.toNat).map int)) (hr : W.r = some a) (h0 : 1 ≤ n) (h1 : n ≤ 1000)
    (k : ∀ ord v W2, Le W0 W2 → OrdP n ord → (lstR K (ord.map int)).p W2.B v → D.nx [s0, s1, some (.ref a), s3, s4, some (.int n), some (.ref l), some v, s8, s9, s10, s11, s12, s13, s14, s15, s16, s17] W2.H) :
    (tAsg (tLc (iRng1 (tCons (tVar 5) tNil)) (gName 8) tYes (tBM K "list" rPopAt (tVar 6) (tCons (tCall (sp_l_take K) [] E (tCons (tVar 2) (tCons (tCB (rLenQ K) (tCons (tVar 6) tNil)) tNil))) tNil)) [8]) (gName 7)) D [s0, s1, some (.ref a), s3, s4, some (.int n), some (.ref l), s7, s8, s9, s10, s11, s12, s13, s14, s15, s16, s17] W.H := s_popG l0 fr L hr (it_rng1 (ea_cons (ev_vi rfl) ea_nil) (by omega)) h0 h1 k
theorem q_pop {n : Int} {s0 s1 s3 s4 s7 s8 s9 s10 s11 s12 s13 s14 s15 s16 s17 : Option V} (l0 : Le W0 W) (fr : Fre W0 l) (L : LocL W l ((upTo 0 n.toNat).map int)) (hr : W.r = some a) (h0 : 1 ≤ n) (h1 : n ≤ 1000)
    (k : ∀ ord v W2, Le W0 W2 → OrdP n ord → (lstR K (ord.map int)).p W2.B v → tz D [s0, s1, some (.ref a), s3, s4, some (.int n), some (.ref l), some v, s8, s9, s10, s11, s12, s13, s14, s15, s16, s17] W2.H) :
    tSeq (tAsg (tLc (iRng1 (tCons (tVar 5) tNil)) (gName 8) tYes (tBM K "list" rPopAt (tVar 6) (tCons (tCall (sp_l_take K) [] E (tCons (tVar 2) (tCons (tCB (rLenQ K) (tCons (tVar 6) tNil)) tNil))) tNil)) [8]) (gName 7)) tz D [s0, s1, some (.ref a), s3, s4, some (.int n), some (.ref l), s7, s8, s9, s10, s11, s12, s13, s14, s15, s16, s17] W.H := s_pop (D := { D with nx := tz D }) l0 fr L hr h0 h1 k
end
end Fs

set_option Elab.async false
set_option linter.all false
set_option maxRecDepth 100000
set_option maxHeartbeats 4000000
namespace Fs
open PySem PySem.Spec PyProof.Rows L2 C8
section
variable {K : PySem.W.Frag} {σ : L2.St} {W W' W0 : Wd} {te : TE} {D : Ends} {tz : TS} {RA RB : Rp}
theorem q_asgT2 {α : Type} {P : α → Prop} {f g : α → Rp} {i j : Nat} (h : Ev te σ W (anyR P fun z => tupR K [f z, g z])) (k : ∀ z x y W1, P z → Le W W1 → (f z).p W1.B x → (g z).p W1.B y → tz D ((σ.set i (some x)).set j (some y)) W1.H) : tSeq (tAsg te (gTup K 2 (gCons (gName i) (gCons (gName j) gNil)))) tz D σ W.H :=
  h W (Le.refl _) _ fun v W1 l ⟨z, hz, hv⟩ => g_pair hv fun x y hx hy => k z x y W1 hz l hx hy
theorem prs_zs {F : List Tm → Rp} : ∀ {zs : Zs}, prs K ((zW zs).map F) ((zS zs).map F) = zs.map fun x => tupR K [F x.1, F x.2]
  | [] => rfl
  | x :: zs => by
    have := prs_zs (F := F) (zs := zs)
    unfold prs at this ⊢
    simp only [zW, zS, List.map_cons, List.zipWith_cons_cons] at this ⊢
    rw [this]
end
theorem pe_K {X : Cx} {K : PySem.W.Frag} {e : Expr} {T : String} {r : V → List V → Hp → VK → Prop} {to : TE} {t : TA} (h : PE X e (tBM X.K T r to t)) (hk : X.K = K) : PE X e (tBM K T r to t) := hk ▸ h
theorem zW_g {p : Int} {zs : Zs} : zW (gZ p zs) = (zW zs).map (gath p) := by simp [gZ, zW]
theorem zS_g {p : Int} {zs : Zs} : zS (gZ p zs) = (zS zs).map (gath p) := by simp [gZ, zS]
theorem zW_r {p : Int} {ord : List Int} {zs : Zs} : zW (rZ p ord zs) = renW p ord (zW zs) := by
  unfold renW rZ zW
  rw [List.map_map, List.map_map]; rfl
theorem zS_r {p : Int} {ord : List Int} {zs : Zs} : zS (rZ p ord zs) = renW p ord (zS zs) := by
  unfold renW rZ zS
  rw [List.map_map, List.map_map]; rfl
def degZ (zs : Zs) : List Int := (zs.filter fun x => !decide (x.2 = [])).map fun x => deg x.1 + deg x.2
theorem degZ_nn {zs : Zs} : ∀ a ∈ degZ zs, 0 ≤ a := fun a ha => by
  obtain ⟨x, _, rfl⟩ := List.mem_map.mp ha
  have h1 := deg_nn (r := x.1)
  have h2 := deg_nn (r := x.2)
  omega
theorem degZ_mul {zs : Zs} : mulOk (mx (degZ zs)) zs = true := mulOk_yes fun x hx hne => by
  have : deg x.1 + deg x.2 ∈ degZ zs := List.mem_map.mpr ⟨x, List.mem_filter.mpr ⟨hx, by rw [decide_eq_false hne]; rfl⟩, rfl⟩
  have := le_mx this
  omega
local macro_rules | `(tactic| walk_at "up") => `(tactic| first
  | assumption
  | ((refine Rp.mono _ (by assumption : Same _ _) ?_); walk_at "up")
  | ((refine Rp.mono _ (Le.b (by assumption)) ?_); walk_at "up"))
local macro_rules | `(tactic| walk_at "ev") => `(tactic| first
  | ((with_reducible refine' ev_var ?h1 ?h2); (case h1 => rfl); (case h2 => walk_at "up"))
  | ((with_reducible refine' ev_vi ?h1); (case h1 => rfl))
  | with_reducible exact ev_ci
  | ((with_reducible refine' ev_get0 ?ea); (case ea => walk_at "ev"))
  | ((with_reducible refine' ev_get1 ?ea); (case ea => walk_at "ev"))
  | ((with_reducible refine' ev_I0 ?ea ?eb); (case ea => walk_at "ev"); (case eb => walk_at "ev"))
  | ((with_reducible refine' ev_notV ?ea); (case ea => walk_at "ev"))
  | ((with_reducible refine' eb_test ?ea); (case ea => walk_at "ev"))
  | ((with_reducible refine' eb_B ?ea); (case ea => walk_at "ev"))
  | ((with_reducible refine' eb_not ?ea); (case ea => walk_at "ev"))
  | ((with_reducible refine' ev_eq ?ea ?eb ?ec); (case ea => walk_at "ev"); (case eb => walk_at "ev"); (case ec => rfl))
  | ((with_reducible refine' ev_ne ?ea ?eb ?ec); (case ea => walk_at "ev"); (case eb => walk_at "ev"); (case ec => rfl))
  | ((with_reducible refine' ev_chainI ?ea ?eb ?ec); (case ea => walk_at "ev"); (case eb => walk_at "ev"); (case ec => walk_at "ev"))
  | with_reducible exact ea_nil
  | ((with_reducible refine' ea_cons ?ea ?eb); (case ea => walk_at "ev"); (case eb => walk_at "ev")))
section
variable {P : Program} {w : World} {K : PySem.W.Frag} {mg : Str → Option Value} {base : Heap}
def sp_law (K : PySem.W.Frag) : Sp := spG (ι := List Int) (fun xs => [scr K xs]) (fun W _ => W.r = none ∧ Tk K W) fun _ => bl true
theorem ok_law (T : Ty K mg base) {fd : FuncData} (F : FunD K "law" "law" (defArgs s_law) (defBody s_law) (defScope s_law) [] [] (He.fAd K ("law", none)) fd) : FnOk P w K mg base C8.CX0 12 (He.fAd K ("law", none)) fd ["_law_script"] (sp_law K) := by
  have h_l_room := ok_l_room (P := P) (w := w) (base := base) T.toTx
  have h_l_prime := ok_l_prime (P := P) (w := w) (base := base) T.toTx
  have h_Field_mk := ok_Field_mk (P := P) (w := w) (base := base) T.toTx
  have h_l_take := ok_l_take (P := P) (w := w) (base := base) T.toTx
  have h_l_shown_by := ok_l_shown_by (P := P) (w := w) (base := base) T.toTx
  have h_System_mk_d := ok_System_mk_d (P := P) (w := w) (base := base) T.toTx
  have h_Sum_mk := ok_Sum_mk (P := P) (w := w) (base := base) T
  have h_l_degree := ok_l_degree (P := P) (w := w) (base := base) T.toTx
  have h_lets_showing := ok_lets_showing (P := P) (w := w) (base := base) T
  have h_l_no_worths := ok_l_no_worths (P := P) (w := w) (base := base) T.toTx
  have h_System_renamed := ok_System_renamed (P := P) (w := w) (base := base) T
  have h_Sum_renamed := ok_Sum_renamed (P := P) (w := w) (base := base) T
  have h_l_filled_right := ok_l_filled_right (P := P) (w := w) (base := base) T
  refine F.ok sc_law (spG_len fun _ => rfl) (fun cdv A outer s H vs Q E hr h => ?_)
  obtain ⟨W, xs, rfl, ha, ⟨hr0, hT⟩, k⟩ := h
  obtain ⟨v0, rfl, h0⟩ := ha.one
  refine ⟨_, PSs.nox (pss_cons (ps_for PassesOwn.never rfl (pi_range1 (by rfl) T.b_range (pa_cons (pe_callB (call_max2 rfl) (by rfl) T.b_max (by decide +kernel) (pa_cons pe_int (pa_cons (pe_callB (call_min2 rfl) (by rfl) T.b_min (by decide +kernel) (pa_cons (pe_callB call_len_seq (by rfl) T.b_len (by decide +kernel) (pa_cons (pv 0) pa_nil)) (pa_cons pe_int pa_nil))) pa_nil))) pa_nil)) (pg_name (i := 1) sc_law.nd rfl (Or.inl rfl)) (pss_cons (ps_set (i := 2) sc_law.nd rfl (Or.inr rfl) (pe_c h_l_room hr (by decide) rfl (pa_cons (pv 0) (pa_cons (pv 1) pa_nil))))
    (pss_cons (ps_set (i := 3) sc_law.nd rfl (Or.inl rfl) (pe_c h_l_prime hr (by decide) rfl (pa_cons (pv 2) pa_nil)))
    (pss_cons (ps_set (i := 4) sc_law.nd rfl (Or.inr rfl) (pe_mk h_Field_mk hr (by decide) rfl (pa_cons (pv 3) pa_nil)))
    (pss_cons (ps_set (i := 5) sc_law.nd rfl (Or.inl rfl) (pe_op op_add pe_int (pe_c h_l_take hr (by decide) rfl (pa_cons (pv 2) (pa_cons pe_int pa_nil)))))
    (pss_cons (ps_set (i := 6) sc_law.nd rfl (Or.inr rfl) (pe_listRg rfl rfl T.b_list (prg_1 rfl T.b_range (pv 5))))
    (pss_cons (ps_set (i := 7) sc_law.nd rfl (Or.inr rfl) (pe_lc (own := [("_law_place", 8)]) rfl sc_law.nd (pi_range1 (by rfl) T.b_range (pa_cons (pv 5) pa_nil)) (blkOk_by (N := ["_law_script", "_law_k", "_law_room_here", "_law_prime_here", "_law_field", "_law_many", "_law_left", "_law_order", "_law_place", "_law_noughts", "_law_rows", "_law_system", "_law_wish_here", "_law_sums", "_law_row", "_law_degree_here", "_law_one", "_law_two"]) (sc := defScope s_law) (by decide +kernel)) (fun _ _ _ _ _ => (pg_name (i := 8) sc_law.nd rfl (Or.inl rfl))) (fun _ _ _ _ _ => pts_nil) (fun _ _ _ _ _ => (pe_K (K := K) (pe_bm PySem.F.plainAttrs_list PySem.F.slot_list_pop PySem.F.type_list_pop mt_popAt (pv 6) (pa_cons (pe_c h_l_take hr (by decide) rfl (pa_cons (pv 2) (pa_cons (pe_callB (call_len_seq : CallR _ _ (rLenQ K)) (by rfl) T.b_len (by decide +kernel) (pa_cons (pv 6) pa_nil)) pa_nil))) pa_nil)) rfl))))
    (pss_cons (ps_asg (pe_c h_l_shown_by hr (by decide) rfl (pa_cons (pv 2) (pa_cons (pv 3) (pa_cons (pv 5) (pa_cons pe_int pa_nil))))) (pg_tup rfl (pgs_cons (pg_name (i := 9) sc_law.nd rfl (Or.inl rfl)) (pgs_cons (pg_name (i := 10) sc_law.nd rfl (Or.inl rfl)) pgs_nil))))
    (pss_cons (ps_set (i := 11) sc_law.nd rfl (Or.inl rfl) (pe_mk h_System_mk_d hr (by decide) rfl (pa_cons (pv 4) (pa_cons (pv 5) (pa_cons (pe_lc (own := [("_law_wish_here", 12)]) rfl sc_law.nd (pi_list (pv 9)) (blkOk_by (N := ["_law_script", "_law_k", "_law_room_here", "_law_prime_here", "_law_field", "_law_many", "_law_left", "_law_order", "_law_place", "_law_noughts", "_law_rows", "_law_system", "_law_wish_here", "_law_sums", "_law_row", "_law_degree_here", "_law_one", "_law_two"]) (sc := defScope s_law) (by decide +kernel)) (fun _ _ _ _ _ => (pg_name (i := 12) sc_law.nd rfl (Or.inl rfl))) (fun _ _ _ _ _ => pts_nil) (fun _ _ _ _ _ => (pe_mk h_Sum_mk hr (by decide) rfl (pa_cons (pv 4) (pa_cons (pv 12) pa_nil))))) pa_nil)))))
    (pss_cons (ps_setLc (i := 13) (own := [("_law_row", 14)]) rfl sc_law.nd rfl rfl (sw_true rfl rfl rfl (by decide +kernel)) (pi_list (pv 10)) (blkOk_by (N := ["_law_script", "_law_k", "_law_room_here", "_law_prime_here", "_law_field", "_law_many", "_law_left", "_law_order", "_law_place", "_law_noughts", "_law_rows", "_law_system", "_law_wish_here", "_law_sums", "_law_row", "_law_degree_here", "_law_one", "_law_two"]) (sc := defScope s_law) (by decide +kernel)) (fun _ _ _ _ _ => (pg_name (i := 14) sc_law.nd rfl (Or.inl rfl))) (fun _ _ _ _ _ => pts_nil) (fun _ _ _ _ _ => (pe_mk h_Sum_mk hr (by decide) rfl (pa_cons (pv 4) (pa_cons (pv 14) pa_nil)))))
    (pss_cons (ps_set (i := 15) sc_law.nd rfl (Or.inl rfl) (pe_callB (cr_max rfl) (by rfl) T.b_max (by decide +kernel) (pa_cons (pe_op op_cat (pe_lc (own := [("_law_one", 16), ("_law_two", 17)]) rfl sc_law.nd (pi_zip (by rfl) T.b_zip (pa_cons (pv 9) (pa_cons (pv 10) pa_nil))) (blkOk_by (N := ["_law_script", "_law_k", "_law_room_here", "_law_prime_here", "_law_field", "_law_many", "_law_left", "_law_order", "_law_place", "_law_noughts", "_law_rows", "_law_system", "_law_wish_here", "_law_sums", "_law_row", "_law_degree_here", "_law_one", "_law_two"]) (sc := defScope s_law) (by decide +kernel)) (fun _ _ _ _ _ => (pg_tup (n := 2) rfl (pgs_cons (pg_name (i := 16) sc_law.nd rfl (Or.inl rfl)) (pgs_cons (pg_name (i := 17) sc_law.nd rfl (Or.inl rfl)) pgs_nil)) : PG _ _ (gTup K 2 _))) (fun _ _ _ _ _ => (pts_one (pt_cmpR (op_neD hr.units : OpR _ _ (rNeD K)) (pv 17) (pe_lst pa_nil) (nomark _)))) (fun _ _ _ _ _ => (pe_op op_add (pe_c h_l_degree hr (by decide) rfl (pa_cons (pv 16) pa_nil)) (pe_c h_l_degree hr (by decide) rfl (pa_cons (pv 17) pa_nil))))) (pe_lst (pa_cons pe_int pa_nil))) pa_nil)))
    (pss_cons (ps_if (PW.pt (pw_or (pt_not (pt_val (pe_c h_lets_showing hr (by decide) rfl (pa_cons (pv 11) (pa_cons (pv 15) (pa_cons (pv 13) pa_nil)))))) (pw_or1 (pt_not (pt_val (pe_c h_l_no_worths hr (by decide) rfl (pa_cons (pv 2) (pa_cons (pv 11) (pa_cons (pv 3) (pa_cons (pv 5) (pa_cons (pv 15) pa_nil))))))))))) (pss_one (ps_ret pe_bl)) pss_nil)
    (pss_cons (ps_if (pt_not (pt_val (pe_c h_lets_showing hr (by decide) rfl (pa_cons (pe_mt h_System_renamed hr (by decide) (pv 11) (pa_cons (pv 7) pa_nil)) (pa_cons (pv 15) (pa_cons (pe_lc (own := [("_law_one", 16)]) rfl sc_law.nd (pi_list (pv 13)) (blkOk_by (N := ["_law_script", "_law_k", "_law_room_here", "_law_prime_here", "_law_field", "_law_many", "_law_left", "_law_order", "_law_place", "_law_noughts", "_law_rows", "_law_system", "_law_wish_here", "_law_sums", "_law_row", "_law_degree_here", "_law_one", "_law_two"]) (sc := defScope s_law) (by decide +kernel)) (fun _ _ _ _ _ => (pg_name (i := 16) sc_law.nd rfl (Or.inl rfl))) (fun _ _ _ _ _ => pts_nil) (fun _ _ _ _ _ => (pe_mt h_Sum_renamed hr (by decide) (pv 16) (pa_cons (pv 7) pa_nil)))) pa_nil)))))) (pss_one (ps_ret pe_bl)) pss_nil)
    (pss_one (ps_if (pt_not (pt_val (pe_c h_l_filled_right hr (by decide) rfl (pa_cons (pv 2) (pa_cons (pv 3) (pa_cons (pv 5) (pa_cons (pv 7) pa_nil))))))) (pss_one (ps_ret pe_bl)) pss_nil)))))))))))))))
    (pss_one (ps_ret pe_bl))), ?_⟩
  try simp only [cxK, cxW, cxP]
  have hb : 0 ≤ (if (if (10 : Int) < xs.length then 10 else (xs.length : Int)) > 1 then (if (10 : Int) < xs.length then 10 else (xs.length : Int)) else 1) ∧ (if (if (10 : Int) < xs.length then 10 else (xs.length : Int)) > 1 then (if (10 : Int) < xs.length then 10 else (xs.length : Int)) else 1) ≤ 10 := by split <;> split <;> omega
  refine q_forI (it_rng1 (n := if (if (10 : Int) < xs.length then 10 else (xs.length : Int)) > 1 then (if (10 : Int) < xs.length then 10 else (xs.length : Int)) else 1) (ea_cons (ev_max ev_ci (ev_min (ev_lenS (K := K) (xs := xs) (ev_var rfl h0)) ev_ci)) ea_nil) (by omega)) (fun i σ' W' => ∃ o1 o2 o3 o4 o5 o6 o7 o8 o9 o10 o11 o12 o13 o14 o15 o16 o17 : Option V, σ' = [some v0, o1, o2, o3, o4, o5, o6, o7, o8, o9, o10, o11, o12, o13, o14, o15, o16, o17] ∧ Le W W') (fun W1 l1 => ⟨none, none, none, none, none, none, none, none, none, none, none, none, none, none, none, none, none, rfl, l1⟩) ?_ ?_
  · rintro i r x σ' W' Wc N hi s ⟨o1, o2, o3, o4, o5, o6, o7, o8, o9, o10, o11, o12, o13, o14, o15, o16, o17, rfl, lw⟩ lc hx nx
    obtain ⟨y, hy, rfl, hm⟩ := map_at hi
    cases hx
    have hy2 := mem_upTo.mp hm
    have hy0 : 0 ≤ y := hy2.1
    have hy9 : y ≤ 10 := by omega
    clear hm hy hi
    have lwc := lw.trans lc
    have hrc : Wc.r = none := lwc.r.trans hr0
    refine g_name ?_
    refine q_asgL (as := [scr K xs, int y]) (ea_cons (ev_var rfl (Rp.mono _ lwc.b h0)) (ea_cons (ev_vi rfl) ea_nil)) (xs, y) rfl (fun _ _ => ⟨hy0, by show y ≤ 20; omega⟩) fun b a W1 l1 fr hbr L => ?_
    obtain ⟨W2, e2, eB, eT, er, back⟩ := room_in hrc l1 fr hbr L
    rw [← e2]
    have hT2 : Tk K W2 := by
      show W2.T = tabT K
      rw [eT, l1.t]; exact hT.le lwc
    refine q_asg (R := anyR PrF int) (ev_call (x := a) (as := [is (.ref a)]) (ea_cons (ev_vi rfl) ea_nil) rfl fun _ l => l.r.trans er) ?_
    rintro _ W3 l3 ⟨p, hp, rfl⟩
    have hpo := hp.ok
    refine q_asg (R := fld K p) (ev_make (dvs := []) (as := [int p]) (ea_cons (ev_vi rfl) ea_nil) p rfl fun _ _ => hp) fun v4 W4 l4 hv4 => ?_
    refine q_asg (R := anyR (fun i => 1 ≤ i ∧ i < 5) int) (ev_I0A (Pa := fun i => i = 1) (Pb := fun i => 0 ≤ i ∧ i < 4) (ev_anyI ev_ci rfl) (ev_take (K := K) (ea_cons (ev_vi rfl) (ea_cons ev_ci ea_nil)) ((l3.trans l4).r.trans er) (by decide) (by decide)) fun i j hi hj => by omega) ?_
    rintro _ W5 l5 ⟨n, ⟨hn0, hn4⟩, rfl⟩
    have hn : n ≤ 4 := by omega
    have hn00 : 0 ≤ n := by omega
    have l25 := (l3.trans l4).trans l5
    refine q_listRgL (n := n) (ev_vi rfl) hn00 (by omega) fun lf W6 l6 frl Lf => ?_
    refine q_pop (K := K) (W0 := W5) l6 frl Lf ((l25.trans l6).r.trans er) hn0 (by omega) fun ord v7 W7 l7 ho hv7 => ?_
    have l27 := l25.trans l7
    refine q_asgT2 (K := K) (P := ShP p n) (f := fun zs => rowsL K (zW zs)) (g := fun zs => rowsL K (zS zs)) (ev_call (x := (a, p, n)) (as := [is (.ref a), int p, int n, int 3]) (ea_cons (ev_vi rfl) (ea_cons (ev_vi rfl) (ea_cons (ev_vi rfl) (ea_cons ev_ci ea_nil)))) rfl fun W8 l8 => ⟨(l27.trans l8).r.trans er, hp, hn00, by show n ≤ 30; omega⟩) fun zs v9 v10 W8 hz l8 hv9 hv10 => ?_
    have l28 := l27.trans l8
    obtain ⟨z1, z2, z3⟩ := sh_ok hpo hz
    obtain ⟨g1, g2, g3, g4⟩ := gZ_ok hpo hz
    obtain ⟨r1, r2⟩ := rZ_ok hpo hn00 ho hz
    have hwz : ∀ r ∈ zW zs, RowOk p n 60 r ∧ r.length ≤ 13 := fun r hr => by
      obtain ⟨x, hx, rfl⟩ := List.mem_map.mp hr
      exact ⟨(z3 x hx).1, (z3 x hx).2.2.1⟩
    have hsz : ∀ r ∈ zS zs, RowOk p n 22 r ∧ r.length ≤ 2 := fun r hr => by
      obtain ⟨x, hx, rfl⟩ := List.mem_map.mp hr
      exact ⟨(z3 x hx).2.1, (z3 x hx).2.2.2.1⟩
    have hlz : (zW zs).length ≤ 3 ∧ (zS zs).length ≤ 3 := ⟨by rw [List.length_map]; exact z2, by rw [List.length_map]; exact z2⟩
    have hws : WsOk p n 68 (zW (gZ p zs)) := ⟨by rw [List.length_map]; omega, fun r hr => by
      obtain ⟨x, hx, rfl⟩ := List.mem_map.mp hr
      exact ⟨(g2.2 x hx).1, by have := (g4 x hx).1; omega⟩⟩
    have hso : SysOk (p, n, 68, zW (gZ p zs)) := ⟨hp, hn0, by show n ≤ 60; omega, hws⟩
    have h48 := (l5.trans l7).trans l8
    refine q_asg (R := sysR K (p, n, zW (gZ p zs))) (ev_make (dvs := [.non]) (as := [fld K p, int n, sums K p (zW (gZ p zs))]) (ea_cons (ev_var rfl (Rp.mono _ h48.b hv4)) (ea_cons (ev_vi rfl) (ea_cons ?_ ea_nil))) (p, n, 68, zW (gZ p zs)) rfl fun _ _ => hso) fun v11 W9 l9 hv11 => ?_
    · show Ev _ _ _ (lstR K ((zW (gZ p zs)).map fun r => sumR K (p, r)))
      rw [zW_g, List.map_map]
      refine ev_mapI (F := rows K) (xs := zW zs) (it_list (K := K) (ev_var rfl hv9)) (by omega) ?_
      intro r x W9 hr l9 hx Q q
      obtain ⟨h1, h2⟩ := hwz r hr
      exact g_name (q _ rfl (ev_make (dvs := []) (as := [fld K p, rows K r]) (ea_cons (ev_var rfl (Rp.mono _ (h48.trans l9).b hv4)) (ea_cons (ev_var rfl hx) ea_nil)) (p, n, 60, r) rfl fun W10 l10 => ⟨⟨hp, by show n ≤ 60; omega, by show 60 ≤ 190; decide, h1, by show r.length ≤ 256; omega⟩, hT2.le ((l28.trans l9).trans l10)⟩))
    have l29 := l28.trans l9
    refine q_asg (R := sums K p (zS (gZ p zs))) ?_ fun v13 W10 l10 hv13 => ?_
    · show Ev _ _ _ (lstR K ((zS (gZ p zs)).map fun r => sumR K (p, r)))
      rw [zS_g, List.map_map]
      refine ev_mapI (F := rows K) (xs := zS zs) (it_list (K := K) (ev_var rfl (Rp.mono _ l9.b hv10))) (by omega) ?_
      intro r x W10 hr l10 hx Q q
      obtain ⟨h1, h2⟩ := hsz r hr
      exact g_name (q _ rfl (ev_make (dvs := []) (as := [fld K p, rows K r]) (ea_cons (ev_var rfl (Rp.mono _ ((h48.trans l9).trans l10).b hv4)) (ea_cons (ev_var rfl hx) ea_nil)) (p, n, 22, r) rfl fun W11 l11 => ⟨⟨hp, by show n ≤ 60; omega, by show 22 ≤ 190; decide, h1, by show r.length ≤ 256; omega⟩, hT2.le ((l29.trans l10).trans l11)⟩))
    have l210 := l29.trans l10
    have h910 := l9.trans l10
    have hm0 : 0 ≤ mx (degZ zs) := mx_nonneg
    have hm8 : mx (degZ zs) ≤ 8 := mx_le (fun a ha => by
      obtain ⟨x, hx, rfl⟩ := List.mem_map.mp ha
      have hxz := z3 x (List.mem_filter.mp hx).1
      have h1 := deg_le hxz.1 hn00
      have h2 := deg_le hxz.2.1 hn00
      omega) (by decide)
    refine q_asg (R := int (mx (degZ zs))) (Ev.imp (ev_max1 (K := K) (ns := degZ zs ++ [0]) ?_ (by simp)) ?_) ?_
    · unfold degZ
      rw [List.map_append, List.map_map]
      refine ev_catL (ev_filI (F := fun x : List Tm × List Tm => tupR K [rows K x.1, rows K x.2]) (G := fun x => int (deg x.1 + deg x.2)) (xs := zs) (p := fun x => !decide (x.2 = [])) (by
        rw [← prs_zs (F := rows K)]
        exact it_zip (K := K) (ea_cons (ev_var rfl (Rp.mono _ h910.b hv9)) (ea_cons (ev_var rfl (Rp.mono _ h910.b hv10)) ea_nil))) (by omega) ?_) (ev_lst (rs := [int 0]) (ea_cons ev_ci ea_nil)) (by
          have := List.length_filter_le (fun x : List Tm × List Tm => !decide (x.2 = [])) zs
          simp only [List.length_map, List.length_cons, List.length_nil]; omega)
      intro x v W11 hx l11 hv Q q
      refine g_pair hv fun x1 x2 hx1 hx2 => q _ rfl (eb_is (eb_test (ev_neD (RA := rows K x.2) (RB := rows K []) (ev_var rfl hx2) (ev_lst ea_nil) dt_row dt_row (by decide) (by decide))) (by rw [eqv_row])) fun _ => ?_
      exact ev_I0 (ev_call (x := x.1) (as := [rows K x.1]) (ea_cons (ev_var rfl hx1) ea_nil) rfl fun _ _ => by show x.1.length ≤ 256; have := (z3 x hx).2.2.1; omega) (ev_call (x := x.2) (as := [rows K x.2]) (ea_cons (ev_var rfl hx2) ea_nil) rfl fun _ _ => by show x.2.length ≤ 256; have := (z3 x hx).2.2.2.1; omega)
    · rintro W11 v _ ⟨m, ⟨h1, h2⟩, hv⟩
      have e := isMax1_mx (fun a ha => by
        rcases List.mem_append.mp ha with ha | ha
        · exact degZ_nn a ha
        · rw [List.mem_singleton.mp ha]; decide) h1 h2
      rw [mx_app0] at e
      show v = V.int _
      rw [show v = V.int m from hv, e]
    rintro _ W11 l11 rfl
    have l211 := l210.trans l11
    have h911 := l10.trans l11
    have hmul : mulOk (mx (degZ zs)) (gZ p zs) = true := mul_map (F := gath p) (fun r => deg_gath) gath_nil degZ_mul
    have hmul2 : mulOk (mx (degZ zs)) (rZ p ord (gZ p zs)) = true := mul_map (F := rG p ord) (fun r => Int.le_trans deg_gath deg_ren) gath_nil hmul
    have hone := shown_one hpo hz
    have hone2 := renamed_one hpo hn00 ho hz
    have hsh : ShOk (p, n, 68, 30, gZ p zs, mx (degZ zs)) := ⟨hp, hn00, by show n ≤ 30; omega, by show 68 + 30 ≤ 140; decide, g2⟩
    have hsh2 : ShOk (p, n, 76, 38, rZ p ord (gZ p zs), mx (degZ zs)) := ⟨hp, hn00, by show n ≤ 30; omega, by show 76 + 38 ≤ 140; decide, r2⟩
    refine q_skip (eb_or (a := false) (eb_is (eb_not (eb_B (ev_call (x := (p, n, 68, 30, gZ p zs, mx (degZ zs))) (as := [sysR K (p, n, zW (gZ p zs)), int (mx (degZ zs)), sums K p (zS (gZ p zs))]) (ea_cons (ev_var rfl (Rp.mono _ h911.b hv11)) (ea_cons (ev_vi rfl) (ea_cons (ev_var rfl (Rp.mono _ l11.b hv13)) ea_nil))) rfl fun W12 l12 => ⟨⟨hsh, hm0, by show mx (degZ zs) ≤ 300; omega⟩, hT2.le (l211.trans l12)⟩))) (by
      show (!(mulOk (mx (degZ zs)) (gZ p zs) && decide (totF p (gZ p zs) = gath p oneT))) = false
      rw [hmul, decide_eq_true hone]; rfl)) (fun _ => eb_is (eb_not (eb_B (ev_call (x := (a, p, n, 68, zW (gZ p zs), mx (degZ zs))) (as := [is (.ref a), sysR K (p, n, zW (gZ p zs)), int p, int n, int (mx (degZ zs))]) (ea_cons (ev_vi rfl) (ea_cons (ev_var rfl (Rp.mono _ h911.b hv11)) (ea_cons (ev_vi rfl) (ea_cons (ev_vi rfl) (ea_cons (ev_vi rfl) ea_nil))))) rfl fun W12 l12 => ⟨(l211.trans l12).r.trans er, hp, hn0, hn, by show 68 ≤ 120; decide, hws, hm0, hm8, fun d hd => no_worths hpo hn00 hm0 (fun x hx => ⟨(g2.2 x hx).1, (g2.2 x hx).2.1⟩) hmul hd hone⟩))) rfl) (fun e => nomatch e)) fun W12 l12 => ?_
    have l212 := l211.trans l12
    have h912 := h911.trans l12
    have h712 := ((l8.trans l9).trans h911).trans l12
    have hres : Ev (tMeth (He.ga K "System") "renamed" (sp_System_renamed K) [] C8.E0 (tVar 11) (tCons (tVar 7) tNil)) [some v0, some (.int y), some (.ref a), some (.int p), some v4, some (.int n), some (.ref lf), some v7, o8, some v9, some v10, some v11, o12, some v13, o14, some (.int (mx (degZ zs))), o16, o17] W12 (sysR K (p, n, zW (rZ p ord (gZ p zs)))) := by
      rw [zW_r]
      exact ev_meth (R := sysR K (p, n, zW (gZ p zs))) (ev_var rfl (Rp.mono _ h912.b hv11)) (sys_no (by decide +kernel) (by decide +kernel) (by decide +kernel) (by decide +kernel)) (as := [lstR K (ord.map int)]) (ea_cons (ev_var rfl (Rp.mono _ h712.b hv7)) ea_nil) (p, n, 68, zW (gZ p zs), ord) rfl fun W13 l13 => ⟨hso, by show 68 ≤ 190; decide, ho, hT2.le (l212.trans l13)⟩
    refine q_skip (eb_is (eb_not (eb_B (ev_call (x := (p, n, 76, 38, rZ p ord (gZ p zs), mx (degZ zs))) (as := [sysR K (p, n, zW (rZ p ord (gZ p zs))), int (mx (degZ zs)), sums K p (zS (rZ p ord (gZ p zs)))]) (ea_cons hres (ea_cons (ev_vi rfl) (ea_cons ?_ ea_nil))) rfl fun W13 l13 => ⟨⟨hsh2, hm0, by show mx (degZ zs) ≤ 300; omega⟩, hT2.le (l212.trans l13)⟩))) (by
      show (!(mulOk (mx (degZ zs)) (rZ p ord (gZ p zs)) && decide (totF p (rZ p ord (gZ p zs)) = gath p oneT))) = false
      rw [hmul2, decide_eq_true hone2]; rfl)) fun W13 l13 => ?_
    · show Ev _ _ _ (lstR K ((zS (rZ p ord (gZ p zs))).map fun r => sumR K (p, r)))
      rw [zS_r]
      unfold renW
      rw [List.map_map]
      have hl := ho.len
      refine ev_mapI (F := fun r => sumR K (p, r)) (xs := zS (gZ p zs)) (it_list (K := K) (ev_var rfl (Rp.mono _ (l11.trans l12).b hv13))) (by rw [List.length_map]; omega) ?_
      intro r x W13 hr2 l13 hx Q q
      obtain ⟨y2, hy2, rfl⟩ := List.mem_map.mp hr2
      have hq1 := (g2.2 y2 hy2).2.1
      have hq2 := (g4 y2 hy2).2
      exact g_name (q _ rfl (ev_meth (R := sumR K (p, y2.2)) (ev_var rfl hx) (sum_no (by decide +kernel) (by decide +kernel)) (as := [lstR K (ord.map int)]) (ea_cons (ev_var rfl (Rp.mono _ (h712.trans l13).b hv7)) ea_nil) (p, n, 30, y2.2, ord, n) rfl fun W14 l14 => ⟨⟨hp, hn00, by show n ≤ 60; omega, by show 30 ≤ 190; decide, hq1, by show y2.2.length ≤ 256; omega, ho.ok, by show n ≤ 60; omega, by show n ≤ (ord.length : Int); omega, by show ord.length ≤ 60; omega⟩, hT2.le ((l212.trans l13).trans l14)⟩))
    have l213 := l212.trans l13
    refine s_skip (eb_is (eb_not (eb_B (ev_call (x := (a, p, n, ord)) (as := [is (.ref a), int p, int n, lstR K (ord.map int)]) (ea_cons (ev_vi rfl) (ea_cons (ev_vi rfl) (ea_cons (ev_vi rfl) (ea_cons (ev_var rfl (Rp.mono _ (h712.trans l13).b hv7)) ea_nil)))) rfl fun W14 l14 => ⟨(l213.trans l14).r.trans er, hp, hn0, hn, ho, hT2.le (l213.trans l14)⟩))) rfl) fun W14 l14 => ?_
    obtain ⟨W15, e15, l15⟩ := back W14 (l213.trans l14)
    rw [← e15]
    exact nx _ W15 l15.b ⟨_, _, _, _, _, _, _, _, _, _, _, _, _, _, _, _, _, rfl, lwc.trans l15⟩
  · rintro σ' W' s ⟨o1, o2, o3, o4, o5, o6, o7, o8, o9, o10, o11, o12, o13, o14, o15, o16, o17, rfl, lw⟩
    exact s_ret (R := bl true) ev_ci fun v W4 l4 hv => k v W4 (lw.trans l4) hv
end
end Fs

set_option Elab.async false
set_option linter.all false
set_option maxRecDepth 100000
set_option maxHeartbeats 0
namespace Fs
open PySem PySem.Spec PyProof.Rows L2 C8
theorem tx_of {w : World} {h : Heap} {K : PySem.W.Frag} {mg : Str → Option Value} (X : K.In h) (G : h.Ns mainGlobals mg) (c : He.SaysX fa fn [] tfs exB w h K) : Tx K mg where
  d_is_whole := c.t.d.def_ 0 (d := d_is_whole) rfl
  d_is_prime := c.t.d.def_ 1 (d := d_is_prime) rfl
  d_lowest := c.t.d.def_ 2 (d := d_lowest) rfl
  d_Field_mk := c.t.d.def_ 3 (d := d_Field_mk) rfl
  d_Field_eq := c.t.d.def_ 4 (d := d_Field_eq) rfl
  d_Field_prime := c.t.d.def_ 5 (d := d_Field_prime) rfl
  d_Field_made := c.t.d.def_ 6 (d := d_Field_made) rfl
  d_Field_plus := c.t.d.def_ 7 (d := d_Field_plus) rfl
  d_Field_times := c.t.d.def_ 8 (d := d_Field_times) rfl
  d_Field_is_number := c.t.d.def_ 9 (d := d_Field_is_number) rfl
  d_is_place := c.t.d.def_ 10 (d := d_is_place) rfl
  d_is_product := c.t.d.def_ 11 (d := d_is_product) rfl
  d_joined_product := c.t.d.def_ 12 (d := d_joined_product) rfl
  d_look_at_terms := c.t.d.def_ 13 (d := d_look_at_terms) rfl
  d_gathered := c.t.d.def_ 14 (d := d_gathered) rfl
  d_Sum_mk := c.t.d.def_ 15 (d := d_Sum_mk) rfl
  d_Sum_eq := c.t.d.def_ 16 (d := d_Sum_eq) rfl
  d_Sum_len := c.t.d.def_ 17 (d := d_Sum_len) rfl
  d_Sum_field := c.t.d.def_ 18 (d := d_Sum_field) rfl
  d_Sum_terms := c.t.d.def_ 19 (d := d_Sum_terms) rfl
  d_Sum_degree := c.t.d.def_ 20 (d := d_Sum_degree) rfl
  d_Sum_reach := c.t.d.def_ 21 (d := d_Sum_reach) rfl
  d_Sum_look_alike := c.t.d.def_ 22 (d := d_Sum_look_alike) rfl
  d_Sum_plus := c.t.d.def_ 23 (d := d_Sum_plus) rfl
  d_Sum_times := c.t.d.def_ 24 (d := d_Sum_times) rfl
  d_Sum_renamed := c.t.d.def_ 25 (d := d_Sum_renamed) rfl
  d_Sum_worth := c.t.d.def_ 26 (d := d_Sum_worth) rfl
  d_is_wish := c.t.d.def_ 27 (d := d_is_wish) rfl
  d_look_at_wishes := c.t.d.def_ 28 (d := d_look_at_wishes) rfl
  d_is_order := c.t.d.def_ 29 (d := d_is_order) rfl
  d_System_mk := c.t.d.def_ 30 (d := d_System_mk) rfl
  d_System_field := c.t.d.def_ 31 (d := d_System_field) rfl
  d_System_places := c.t.d.def_ 32 (d := d_System_places) rfl
  d_System_noughts := c.t.d.def_ 33 (d := d_System_noughts) rfl
  d_System_uppers := c.t.d.def_ 34 (d := d_System_uppers) rfl
  d_System_renamed := c.t.d.def_ 35 (d := d_System_renamed) rfl
  d_is_row := c.t.d.def_ 36 (d := d_is_row) rfl
  d_grants := c.t.d.def_ 37 (d := d_grants) rfl
  d_is_filling := c.t.d.def_ 38 (d := d_is_filling) rfl
  d_look_at_degree := c.t.d.def_ 39 (d := d_look_at_degree) rfl
  d_products_many := c.t.d.def_ 40 (d := d_products_many) rfl
  d_products_of := c.t.d.def_ 41 (d := d_products_of) rfl
  d_comes_to_one := c.t.d.def_ 42 (d := d_comes_to_one) rfl
  d_are_multipliers := c.t.d.def_ 43 (d := d_are_multipliers) rfl
  d_lets_showing := c.t.d.def_ 44 (d := d_lets_showing) rfl
  d_are_numbers := c.t.d.def_ 45 (d := d_are_numbers) rfl
  d_worth_beside := c.t.d.def_ 46 (d := d_worth_beside) rfl
  d_lets_worths := c.t.d.def_ 47 (d := d_lets_worths) rfl
  d_cut := c.t.d.def_ 48 (d := d_cut) rfl
  d_worths_of := c.t.d.def_ 49 (d := d_worths_of) rfl
  d_l_room := c.t.d.def_ 50 (d := d_l_room) rfl
  d_l_take := c.t.d.def_ 51 (d := d_l_take) rfl
  d_l_lowest := c.t.d.def_ 52 (d := d_l_lowest) rfl
  d_l_make := c.t.d.def_ 53 (d := d_l_make) rfl
  d_l_plus := c.t.d.def_ 54 (d := d_l_plus) rfl
  d_l_times := c.t.d.def_ 55 (d := d_l_times) rfl
  d_l_prime := c.t.d.def_ 56 (d := d_l_prime) rfl
  d_l_number := c.t.d.def_ 57 (d := d_l_number) rfl
  d_l_product := c.t.d.def_ 58 (d := d_l_product) rfl
  d_l_terms := c.t.d.def_ 59 (d := d_l_terms) rfl
  d_l_gather := c.t.d.def_ 60 (d := d_l_gather) rfl
  d_l_worth := c.t.d.def_ 61 (d := d_l_worth) rfl
  d_l_filling := c.t.d.def_ 62 (d := d_l_filling) rfl
  d_l_wish := c.t.d.def_ 63 (d := d_l_wish) rfl
  d_l_mult := c.t.d.def_ 64 (d := d_l_mult) rfl
  d_l_all := c.t.d.def_ 65 (d := d_l_all) rfl
  d_l_products := c.t.d.def_ 66 (d := d_l_products) rfl
  d_l_degree := c.t.d.def_ 67 (d := d_l_degree) rfl
  d_l_shown_by := c.t.d.def_ 68 (d := d_l_shown_by) rfl
  d_l_row_worths := c.t.d.def_ 69 (d := d_l_row_worths) rfl
  d_l_mixture := c.t.d.def_ 70 (d := d_l_mixture) rfl
  d_l_no_worths := c.t.d.def_ 71 (d := d_l_no_worths) rfl
  d_l_called := c.t.d.def_ 72 (d := d_l_called) rfl
  d_l_filled_right := c.t.d.def_ 73 (d := d_l_filled_right) rfl
  d_law := c.t.d.def_ 74 (d := d_law) rfl
  g_is_whole := He.glo_ok X G (c.t.d.fact 0 (f := .glo "is_whole") rfl)
  g_is_prime := He.glo_ok X G (c.t.d.fact 1 (f := .glo "is_prime") rfl)
  g_lowest := He.glo_ok X G (c.t.d.fact 2 (f := .glo "lowest") rfl)
  g_is_place := He.glo_ok X G (c.t.d.fact 3 (f := .glo "is_place") rfl)
  g_is_product := He.glo_ok X G (c.t.d.fact 4 (f := .glo "is_product") rfl)
  g_joined_product := He.glo_ok X G (c.t.d.fact 5 (f := .glo "joined_product") rfl)
  g_look_at_terms := He.glo_ok X G (c.t.d.fact 6 (f := .glo "look_at_terms") rfl)
  g_gathered := He.glo_ok X G (c.t.d.fact 7 (f := .glo "gathered") rfl)
  g_is_wish := He.glo_ok X G (c.t.d.fact 8 (f := .glo "is_wish") rfl)
  g_look_at_wishes := He.glo_ok X G (c.t.d.fact 9 (f := .glo "look_at_wishes") rfl)
  g_is_order := He.glo_ok X G (c.t.d.fact 10 (f := .glo "is_order") rfl)
  g_is_row := He.glo_ok X G (c.t.d.fact 11 (f := .glo "is_row") rfl)
  g_grants := He.glo_ok X G (c.t.d.fact 12 (f := .glo "grants") rfl)
  g_is_filling := He.glo_ok X G (c.t.d.fact 13 (f := .glo "is_filling") rfl)
  g_look_at_degree := He.glo_ok X G (c.t.d.fact 14 (f := .glo "look_at_degree") rfl)
  g_products_many := He.glo_ok X G (c.t.d.fact 15 (f := .glo "products_many") rfl)
  g_products_of := He.glo_ok X G (c.t.d.fact 16 (f := .glo "products_of") rfl)
  g_comes_to_one := He.glo_ok X G (c.t.d.fact 17 (f := .glo "comes_to_one") rfl)
  g_are_multipliers := He.glo_ok X G (c.t.d.fact 18 (f := .glo "are_multipliers") rfl)
  g_lets_showing := He.glo_ok X G (c.t.d.fact 19 (f := .glo "lets_showing") rfl)
  g_are_numbers := He.glo_ok X G (c.t.d.fact 20 (f := .glo "are_numbers") rfl)
  g_worth_beside := He.glo_ok X G (c.t.d.fact 21 (f := .glo "worth_beside") rfl)
  g_lets_worths := He.glo_ok X G (c.t.d.fact 22 (f := .glo "lets_worths") rfl)
  g_cut := He.glo_ok X G (c.t.d.fact 23 (f := .glo "cut") rfl)
  g_worths_of := He.glo_ok X G (c.t.d.fact 24 (f := .glo "worths_of") rfl)
  g_l_room := He.glo_ok X G (c.t.d.fact 25 (f := .glo "_law_room") rfl)
  g_l_take := He.glo_ok X G (c.t.d.fact 26 (f := .glo "_law_take") rfl)
  g_l_lowest := He.glo_ok X G (c.t.d.fact 27 (f := .glo "_law_lowest") rfl)
  g_l_make := He.glo_ok X G (c.t.d.fact 28 (f := .glo "_law_make") rfl)
  g_l_plus := He.glo_ok X G (c.t.d.fact 29 (f := .glo "_law_plus") rfl)
  g_l_times := He.glo_ok X G (c.t.d.fact 30 (f := .glo "_law_times") rfl)
  g_l_prime := He.glo_ok X G (c.t.d.fact 31 (f := .glo "_law_prime") rfl)
  g_l_number := He.glo_ok X G (c.t.d.fact 32 (f := .glo "_law_number") rfl)
  g_l_product := He.glo_ok X G (c.t.d.fact 33 (f := .glo "_law_product") rfl)
  g_l_terms := He.glo_ok X G (c.t.d.fact 34 (f := .glo "_law_terms") rfl)
  g_l_gather := He.glo_ok X G (c.t.d.fact 35 (f := .glo "_law_gather") rfl)
  g_l_worth := He.glo_ok X G (c.t.d.fact 36 (f := .glo "_law_worth") rfl)
  g_l_filling := He.glo_ok X G (c.t.d.fact 37 (f := .glo "_law_filling") rfl)
  g_l_wish := He.glo_ok X G (c.t.d.fact 38 (f := .glo "_law_wish") rfl)
  g_l_mult := He.glo_ok X G (c.t.d.fact 39 (f := .glo "_law_mult") rfl)
  g_l_all := He.glo_ok X G (c.t.d.fact 40 (f := .glo "_law_all") rfl)
  g_l_products := He.glo_ok X G (c.t.d.fact 41 (f := .glo "_law_products") rfl)
  g_l_degree := He.glo_ok X G (c.t.d.fact 42 (f := .glo "_law_degree") rfl)
  g_l_shown_by := He.glo_ok X G (c.t.d.fact 43 (f := .glo "_law_shown_by") rfl)
  g_l_row_worths := He.glo_ok X G (c.t.d.fact 44 (f := .glo "_law_row_worths") rfl)
  g_l_mixture := He.glo_ok X G (c.t.d.fact 45 (f := .glo "_law_mixture") rfl)
  g_l_no_worths := He.glo_ok X G (c.t.d.fact 46 (f := .glo "_law_no_worths") rfl)
  g_l_called := He.glo_ok X G (c.t.d.fact 47 (f := .glo "_law_called") rfl)
  g_l_filled_right := He.glo_ok X G (c.t.d.fact 48 (f := .glo "_law_filled_right") rfl)
  g_law := He.glo_ok X G (c.t.d.fact 49 (f := .glo "law") rfl)
  g_Field := He.glo_ok X G (c.t.d.fact 50 (f := .glo "Field") rfl)
  g_Sum := He.glo_ok X G (c.t.d.fact 51 (f := .glo "Sum") rfl)
  g_System := He.glo_ok X G (c.t.d.fact 52 (f := .glo "System") rfl)
  b_len := He.free_ok X G (c.t.d.fact 53 (f := .free "len") rfl)
  b_isinstance := He.free_ok X G (c.t.d.fact 54 (f := .free "isinstance") rfl)
  b_range := He.free_ok X G (c.t.d.fact 55 (f := .free "range") rfl)
  b_abs := He.free_ok X G (c.t.d.fact 56 (f := .free "abs") rfl)
  b_min := He.free_ok X G (c.t.d.fact 57 (f := .free "min") rfl)
  b_max := He.free_ok X G (c.t.d.fact 58 (f := .free "max") rfl)
  b_sorted := He.free_ok X G (c.t.d.fact 59 (f := .free "sorted") rfl)
  b_tuple := He.free_ok X G (c.t.d.fact 60 (f := .free "tuple") rfl)
  b_set := He.free_ok X G (c.t.d.fact 61 (f := .free "set") rfl)
  b_list := He.free_ok X G (c.t.d.fact 62 (f := .free "list") rfl)
  b_dict := He.free_ok X G (c.t.d.fact 63 (f := .free "dict") rfl)
  b_int := He.free_ok X G (c.t.d.fact 64 (f := .free "int") rfl)
  b_bool := He.free_ok X G (c.t.d.fact 65 (f := .free "bool") rfl)
  b_all := He.free_ok X G (c.t.d.fact 66 (f := .free "all") rfl)
  b_zip := He.free_ok X G (c.t.d.fact 67 (f := .free "zip") rfl)
  b_enumerate := He.free_ok X G (c.t.d.fact 68 (f := .free "enumerate") rfl)
  b_ZeroDivisionError := He.free_ok X G (c.t.d.fact 69 (f := .free "ZeroDivisionError") rfl)
  c_MOST_PRIME := (He.int_ok X G (c.t.d.fact 70 (f := .int "MOST_PRIME" 97) rfl)).elim fun t e => ⟨_, e, t, rfl⟩
  c_MOST_PLACES := (He.int_ok X G (c.t.d.fact 71 (f := .int "MOST_PLACES" 60) rfl)).elim fun t e => ⟨_, e, t, rfl⟩
  c_MOST_WISHES := (He.int_ok X G (c.t.d.fact 72 (f := .int "MOST_WISHES" 200) rfl)).elim fun t e => ⟨_, e, t, rfl⟩
  c_MOST_DEGREE := (He.int_ok X G (c.t.d.fact 73 (f := .int "MOST_DEGREE" 300) rfl)).elim fun t e => ⟨_, e, t, rfl⟩
  c_MOST_WRITTEN := (He.int_ok X G (c.t.d.fact 74 (f := .int "MOST_WRITTEN" 20000) rfl)).elim fun t e => ⟨_, e, t, rfl⟩
  c_ZERO := He.glo_ok X G (c.t.d.fact 75 (f := .glo "ZERO") rfl)
  t_ZERO := fun H => He.tupB_ok (x := "ZERO") (vs := [.int 0, .int 1]) (ex_ZERO c.more) H
  c_ONE := He.glo_ok X G (c.t.d.fact 76 (f := .glo "ONE") rfl)
  t_ONE := fun H => He.tupB_ok (x := "ONE") (vs := [.int 1, .int 1]) (ex_ONE c.more) H
  k_Field := He.cls_ok (c.t.d.fact 77 (f := .cls "Field") rfl)
  m_Field := He.mkr_ok (c.t.d.fact 78 (f := .mkr "Field") rfl)
  n_Field_own_prime := He.noat_ok (c.t.d.fact 79 (f := .noat "Field" "own_prime") rfl)
  h_Field_eq := He.meth_ok (c.t.d.fact 80 (f := .meth "Field" "__eq__") rfl)
  h_Field_prime := He.meth_ok (c.t.d.fact 81 (f := .meth "Field" "prime") rfl)
  h_Field_made := He.meth_ok (c.t.d.fact 82 (f := .meth "Field" "made") rfl)
  h_Field_plus := He.meth_ok (c.t.d.fact 83 (f := .meth "Field" "plus") rfl)
  h_Field_times := He.meth_ok (c.t.d.fact 84 (f := .meth "Field" "times") rfl)
  h_Field_is_number := He.meth_ok (c.t.d.fact 85 (f := .meth "Field" "is_number") rfl)
  i_Field := clsI_ok (ex_Field c.more)
  k_Sum := He.cls_ok (c.t.d.fact 86 (f := .cls "Sum") rfl)
  m_Sum := He.mkr_ok (c.t.d.fact 87 (f := .mkr "Sum") rfl)
  n_Sum_own_field := He.noat_ok (c.t.d.fact 88 (f := .noat "Sum" "own_field") rfl)
  n_Sum_row := He.noat_ok (c.t.d.fact 89 (f := .noat "Sum" "row") rfl)
  h_Sum_eq := He.meth_ok (c.t.d.fact 90 (f := .meth "Sum" "__eq__") rfl)
  h_Sum_len := He.meth_ok (c.t.d.fact 91 (f := .meth "Sum" "__len__") rfl)
  h_Sum_field := He.meth_ok (c.t.d.fact 92 (f := .meth "Sum" "field") rfl)
  h_Sum_terms := He.meth_ok (c.t.d.fact 93 (f := .meth "Sum" "terms") rfl)
  h_Sum_degree := He.meth_ok (c.t.d.fact 94 (f := .meth "Sum" "degree") rfl)
  h_Sum_reach := He.meth_ok (c.t.d.fact 95 (f := .meth "Sum" "reach") rfl)
  h_Sum_look_alike := He.meth_ok (c.t.d.fact 96 (f := .meth "Sum" "look_alike") rfl)
  h_Sum_plus := He.meth_ok (c.t.d.fact 97 (f := .meth "Sum" "plus") rfl)
  h_Sum_times := He.meth_ok (c.t.d.fact 98 (f := .meth "Sum" "times") rfl)
  h_Sum_renamed := He.meth_ok (c.t.d.fact 99 (f := .meth "Sum" "renamed") rfl)
  h_Sum_worth := He.meth_ok (c.t.d.fact 100 (f := .meth "Sum" "worth") rfl)
  i_Sum := clsI_ok (ex_Sum c.more)
  k_System := He.cls_ok (c.t.d.fact 101 (f := .cls "System") rfl)
  m_System := He.mkr_ok (c.t.d.fact 102 (f := .mkr "System") rfl)
  n_System_own_field := He.noat_ok (c.t.d.fact 103 (f := .noat "System" "own_field") rfl)
  n_System_many_places := He.noat_ok (c.t.d.fact 104 (f := .noat "System" "many_places") rfl)
  n_System_nought_sums := He.noat_ok (c.t.d.fact 105 (f := .noat "System" "nought_sums") rfl)
  n_System_upper_sums := He.noat_ok (c.t.d.fact 106 (f := .noat "System" "upper_sums") rfl)
  h_System_field := He.meth_ok (c.t.d.fact 107 (f := .meth "System" "field") rfl)
  h_System_places := He.meth_ok (c.t.d.fact 108 (f := .meth "System" "places") rfl)
  h_System_noughts := He.meth_ok (c.t.d.fact 109 (f := .meth "System" "noughts") rfl)
  h_System_uppers := He.meth_ok (c.t.d.fact 110 (f := .meth "System" "uppers") rfl)
  h_System_renamed := He.meth_ok (c.t.d.fact 111 (f := .meth "System" "renamed") rfl)
  i_System := clsI_ok (ex_System c.more)
/-- the law's promise where the run begins -/
theorem law_start {K : PySem.W.Frag} {H : Hp} {a : Addr} {ns : List Int} {E : XK} (hT : H (tG K) = some (.tbl #[])) (hS : SqL K H a (ns.map V.int)) : sp_law K [.ref a] H (fun v _ => v = .bl true) E := by
  have hB : ∀ b u, (match H b with | some (.tbl _) => none | x => x) = some u → H b = some u ∧ NB u := fun b u e => by
    split at e
    · cases e
    · rename_i hx
      exact ⟨e, fun ps z => by subst z; exact hx ps e⟩
  have hB2 : ∀ b u, H b = some u → NB u → (match H b with | some (.tbl _) => none | x => x) = some u := fun b u e n => by
    split
    · rename_i ps hx
      rw [e] at hx
      exact absurd (Option.some.inj hx) (n ps)
    · exact e
  refine ⟨⟨fun b => match H b with | some (.tbl _) => none | x => x, H, none, tabT K, fun b u e => (hB b u e).1, (fun a e => nomatch e), fun b u e => (hB b u e).2, fun p hp => ?_⟩, ns, rfl, ⟨⟨a, rfl, ?_⟩, True.intro⟩, ⟨rfl, rfl⟩, fun v W' _ hv => hv⟩
  · rw [List.mem_singleton.mp hp]
    exact ⟨#[], hT, by first | exact True.intro | constructor | simp [TriplesOk], fun pos cv hc => by first | cases hc | (unfold codeAmong at hc; cases hc)⟩
  · rcases hS with (h | ⟨o, h⟩) | h
    · exact .inl (.inl (hB2 _ _ h (fun _ z => nomatch z)))
    · exact .inl (.inr ⟨o, hB2 _ _ h (fun _ z => nomatch z)⟩)
    · exact .inr h
end Fs

set_option Elab.async false
set_option linter.all false
set_option maxRecDepth 100000
set_option maxHeartbeats 0
open PySem PySem.W PySem.Calls PyProof.Rows
theorem PySem.Challenge.cw_falsesums_k27_whole_never_both_holds : PySem.Challenge.rw_falsesums_k27_whole_never_both.Holds := by
  w_on; o_law
  refine HandSHeadRun.head_any (r := OpenLaw.row PySem.Challenge.rw_falsesums_k27_whole_never_both) (q := view (OpenLaw.row PySem.Challenge.rw_falsesums_k27_whole_never_both).prog [81]) (H := Fs.hk) (ob := Fs.ob) (M := 20000) (loose := Fs.names) (d := HandSHeadRun.topDef (OpenLaw.row PySem.Challenge.rw_falsesums_k27_whole_never_both).prog 81) (kwd := []) Fs.ob_eq
    (by kernel_rfl) (fun s => by kernel_rfl) Fs.run (by kernel_rfl) (by kernel_rfl) (by kernel_rfl) (by rfl) (by first | assumption | decide +kernel) (by decide +kernel) ⟨rfl, rfl, rfl, rfl, rfl, by decide +kernel⟩ ?hw ?hc
  case hw => w_witness2
  case hc =>
    refine LamX.walk_ofTsE (l := PySem.Challenge.rw_falsesums_k27_whole_never_both) (n := 63) (k := 12) (x := "_law_script") (CX := fun _ => C8.CX0) rfl (by decide) (by kernel_rfl) ⟨rfl, by decide, by decide⟩ ?F (fun _ _ _ _ _ z => z)
    intro w mg fa h Y G hmg0
    obtain ⟨K, KX, c⟩ := Y
    have hmg : mg ("law" : PySem.Str) = some (.ref fa) := by
      have e : (HandSHeadRun.topDef (OpenLaw.row PySem.Challenge.rw_falsesums_k27_whole_never_both).prog 81).name = ("law" : PySem.Str) := by kernel_rfl
      rw [← e]
      exact hmg0
    have T := Fs.tx_of KX G c
    obtain ⟨fd, F⟩ := T.d_law
    have e := hmg.symm.trans T.g_law
    cases e
    have hm : (("gathered", none) : He.Defn) ∈ Fs.tfs := List.mem_singleton.mpr rfl
    have b := L2.FunD.bindsA (ps := ["_law_script"]) F fun _ _ _ _ _ _ us hl => match us, hl with | [_], _ => rfl
    refine ⟨K, KX, fd, [(Fs.cG K, Fs.tG K)], Fs.sp_law K, fun p hp => ?_, fun p hp => ?_, fun p hp => ?_, fun s u => b s [u] rfl, fun H a ns _ _ hT hS => Fs.law_start (hT _ (List.mem_singleton.mpr rfl)) hS, fun base _ _ hB => ?_⟩
    · rw [List.mem_singleton.mp hp]; exact c.empty _ hm
    · rw [List.mem_singleton.mp hp]; exact c.out _ hm
    · rw [List.mem_singleton.mp hp]; exact PySem.W.codeHd_of_K KX (c.hd _ hm)
    · exact Fs.ok_law { toTx := T, tb := hB _ (List.mem_singleton.mpr rfl) } F

