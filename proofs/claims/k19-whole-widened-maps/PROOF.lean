import PyProof.Rows.All
import Wide.All
import OpenK.AllK
import Wide.FinOn
import HandS.ForMost
import HandS.Exc
import HandS.ExcInit
import HandS.ExcField
import HandS.Defaults
import HandS.Lambda
import HandS.EndTab
import HandS.Head0
import HandS.Head1
import HandS.Head2
import HandS.HeadEnd
import HandS.HeadHook1
import HandS.HeadHook2
import HandS.HeadHook3
import HandS.HeadHook4
import HandS.HeadWalk
import HandS.Wide
import HandS.Flow
import HandS.Style
import HandS.StrMore
import HandS.DeepEq
import HandS.DictComp
import HandS.NoneIn
import HandS.IsInst
import HandS.ExcIs
import KE.KIsAll
import HandS.Text
import PyProof.NeKinds
import HandS.Walk
import HandS.TryMany
import KE.DataEq
import HandS.NestedK
import PySem.Challenge.RW_alljourneys_k19_whole_widened_maps
set_option Elab.async false
set_option linter.all false
set_option maxRecDepth 100000
set_option maxHeartbeats 4000000
/-! JT: the text by names, the facts that the head's Hook reads (printed by gen_text.py). -/
namespace J
open PySem PySem.Spec PyProof.Rows L2
def top (i : Nat) : Stmt := PySem.Challenge.pw_alljourneys_k19_whole_widened_maps.main.body.getD i (.Pass ⟨0, 0, 0, 0⟩)
abbrev s_plus : Stmt := top 2
abbrev s_minus : Stmt := top 3
abbrev s_is_int : Stmt := top 4
abbrev s_is_cell : Stmt := top 5
abbrev s_determinant : Stmt := top 20
abbrev s_unapplied : Stmt := top 21
abbrev s_shares_of : Stmt := top 22
abbrev s_lattice_of : Stmt := top 23
abbrev s_remainder_of : Stmt := top 24
abbrev s_is_name : Stmt := top 29
abbrev s_line_of : Stmt := top 37
abbrev s_text_of : Stmt := top 38
abbrev s_read_shift : Stmt := top 39
abbrev s_read_road : Stmt := top 40
abbrev s_read_map : Stmt := top 41
abbrev s_check_shift : Stmt := top 43
abbrev s_check_price : Stmt := top 44
abbrev s_check_new : Stmt := top 45
abbrev s_check_road : Stmt := top 46
abbrev s_check_many : Stmt := top 47
abbrev s_map_of : Stmt := top 48
abbrev s_number_name : Stmt := top 50
abbrev s_widened : Stmt := top 51
abbrev s_widening : Stmt := top 54
abbrev s__law_pen : Stmt := top 56
abbrev s__law_draw : Stmt := top 57
abbrev s__law_pick : Stmt := top 58
abbrev s__law_plus : Stmt := top 59
abbrev s__law_is_int : Stmt := top 60
abbrev s__law_is_cell : Stmt := top 61
abbrev s__law_land_text : Stmt := top 62
abbrev s__law_name_row : Stmt := top 63
abbrev s__law_shift : Stmt := top 64
abbrev s__law_land : Stmt := top 65
abbrev s__law_fault : Stmt := top 66
abbrev s__law_same : Stmt := top 67
abbrev s__law_any_name : Stmt := top 68
abbrev s__law_any_shift : Stmt := top 69
abbrev s__law_any_road : Stmt := top 70
abbrev s__law_any_land : Stmt := top 71
abbrev s__law_rows_of : Stmt := top 72
abbrev s__law_is_land : Stmt := top 73
abbrev s__law_is_name : Stmt := top 74
abbrev s__law_road_fault : Stmt := top 75
abbrev s__law_land_fault : Stmt := top 76
abbrev s__law_made_right : Stmt := top 77
abbrev s__law_applied : Stmt := top 78
abbrev s__law_determinant : Stmt := top 79
abbrev s__law_product : Stmt := top 80
abbrev s__law_unimodular : Stmt := top 81
abbrev s__law_lattice_cell : Stmt := top 82
abbrev s__law_gcd : Stmt := top 83
abbrev s__law_remainders : Stmt := top 84
abbrev s__law_wide_land : Stmt := top 85
abbrev s__law_drawn_matrix : Stmt := top 86
abbrev s__law_too_large_right : Stmt := top 87
abbrev s_law : Stmt := top 88
abbrev s_Reader___init__ : Stmt := inClass (top 30) 0
abbrev s_Reader_seen : Stmt := inClass (top 30) 1
abbrev s_Reader_skip : Stmt := inClass (top 30) 3
abbrev s_Reader_has_words : Stmt := inClass (top 30) 4
abbrev s_Reader_has_more : Stmt := inClass (top 30) 5
abbrev s_Reader_need_space : Stmt := inClass (top 30) 6
abbrev s_Reader_end_line : Stmt := inClass (top 30) 7
abbrev s_Reader_word_of : Stmt := inClass (top 30) 8
abbrev s_Reader_number_of : Stmt := inClass (top 30) 9
abbrev s_Reader_new_name : Stmt := inClass (top 30) 10
abbrev s_Reader_goes_on : Stmt := inClass (top 30) 11
abbrev s_Road___init__ : Stmt := inClass (top 36) 0
abbrev s_Map___init__ : Stmt := inClass (top 42) 0
abbrev s_Matching___init__ : Stmt := inClass (top 53) 0
abbrev s_BadName___init__ : Stmt := inClass (top 9) 0
abbrev s_BadNumber___init__ : Stmt := inClass (top 10) 0
abbrev s_TooMany___init__ : Stmt := inClass (top 16) 0
abbrev s_TooLarge___init__ : Stmt := inClass (top 17) 0
def df_plus : He.DefD := ⟨("plus", none), "plus", "plus", defArgs s_plus, defBody s_plus, defScope s_plus, [], []⟩
def df_minus : He.DefD := ⟨("minus", none), "minus", "minus", defArgs s_minus, defBody s_minus, defScope s_minus, [], []⟩
def df_is_int : He.DefD := ⟨("is_int", none), "is_int", "is_int", defArgs s_is_int, defBody s_is_int, defScope s_is_int, [], []⟩
def df_is_cell : He.DefD := ⟨("is_cell", none), "is_cell", "is_cell", defArgs s_is_cell, defBody s_is_cell, defScope s_is_cell, [], []⟩
def df_determinant : He.DefD := ⟨("determinant", none), "determinant", "determinant", defArgs s_determinant, defBody s_determinant, defScope s_determinant, [], []⟩
def df_unapplied : He.DefD := ⟨("unapplied", none), "unapplied", "unapplied", defArgs s_unapplied, defBody s_unapplied, defScope s_unapplied, [], []⟩
def df_shares_of : He.DefD := ⟨("shares_of", none), "shares_of", "shares_of", defArgs s_shares_of, defBody s_shares_of, defScope s_shares_of, [], []⟩
def df_lattice_of : He.DefD := ⟨("lattice_of", none), "lattice_of", "lattice_of", defArgs s_lattice_of, defBody s_lattice_of, defScope s_lattice_of, [], []⟩
def df_remainder_of : He.DefD := ⟨("remainder_of", none), "remainder_of", "remainder_of", defArgs s_remainder_of, defBody s_remainder_of, defScope s_remainder_of, [], []⟩
def df_is_name : He.DefD := ⟨("is_name", none), "is_name", "is_name", defArgs s_is_name, defBody s_is_name, defScope s_is_name, [], []⟩
def df_line_of : He.DefD := ⟨("line_of", none), "line_of", "line_of", defArgs s_line_of, defBody s_line_of, defScope s_line_of, [], []⟩
def df_text_of : He.DefD := ⟨("text_of", none), "text_of", "text_of", defArgs s_text_of, defBody s_text_of, defScope s_text_of, [], []⟩
def df_read_shift : He.DefD := ⟨("read_shift", none), "read_shift", "read_shift", defArgs s_read_shift, defBody s_read_shift, defScope s_read_shift, [], []⟩
def df_read_road : He.DefD := ⟨("read_road", none), "read_road", "read_road", defArgs s_read_road, defBody s_read_road, defScope s_read_road, [.bl true], []⟩
def df_read_map : He.DefD := ⟨("read_map", none), "read_map", "read_map", defArgs s_read_map, defBody s_read_map, defScope s_read_map, [], []⟩
def df_check_shift : He.DefD := ⟨("check_shift", none), "check_shift", "check_shift", defArgs s_check_shift, defBody s_check_shift, defScope s_check_shift, [], []⟩
def df_check_price : He.DefD := ⟨("check_price", none), "check_price", "check_price", defArgs s_check_price, defBody s_check_price, defScope s_check_price, [], []⟩
def df_check_new : He.DefD := ⟨("check_new", none), "check_new", "check_new", defArgs s_check_new, defBody s_check_new, defScope s_check_new, [], []⟩
def df_check_road : He.DefD := ⟨("check_road", none), "check_road", "check_road", defArgs s_check_road, defBody s_check_road, defScope s_check_road, [], []⟩
def df_check_many : He.DefD := ⟨("check_many", none), "check_many", "check_many", defArgs s_check_many, defBody s_check_many, defScope s_check_many, [], []⟩
def df_map_of : He.DefD := ⟨("map_of", none), "map_of", "map_of", defArgs s_map_of, defBody s_map_of, defScope s_map_of, [], []⟩
def df_number_name : He.DefD := ⟨("number_name", none), "number_name", "number_name", defArgs s_number_name, defBody s_number_name, defScope s_number_name, [], []⟩
def df_widened : He.DefD := ⟨("widened", none), "widened", "widened", defArgs s_widened, defBody s_widened, defScope s_widened, [], []⟩
def df_widening : He.DefD := ⟨("widening", none), "widening", "widening", defArgs s_widening, defBody s_widening, defScope s_widening, [], []⟩
def df__law_pen : He.DefD := ⟨("_law_pen", none), "_law_pen", "_law_pen", defArgs s__law_pen, defBody s__law_pen, defScope s__law_pen, [], []⟩
def df__law_draw : He.DefD := ⟨("_law_draw", none), "_law_draw", "_law_draw", defArgs s__law_draw, defBody s__law_draw, defScope s__law_draw, [], []⟩
def df__law_pick : He.DefD := ⟨("_law_pick", none), "_law_pick", "_law_pick", defArgs s__law_pick, defBody s__law_pick, defScope s__law_pick, [], []⟩
def df__law_plus : He.DefD := ⟨("_law_plus", none), "_law_plus", "_law_plus", defArgs s__law_plus, defBody s__law_plus, defScope s__law_plus, [], []⟩
def df__law_is_int : He.DefD := ⟨("_law_is_int", none), "_law_is_int", "_law_is_int", defArgs s__law_is_int, defBody s__law_is_int, defScope s__law_is_int, [], []⟩
def df__law_is_cell : He.DefD := ⟨("_law_is_cell", none), "_law_is_cell", "_law_is_cell", defArgs s__law_is_cell, defBody s__law_is_cell, defScope s__law_is_cell, [], []⟩
def df__law_land_text : He.DefD := ⟨("_law_land_text", none), "_law_land_text", "_law_land_text", defArgs s__law_land_text, defBody s__law_land_text, defScope s__law_land_text, [], []⟩
def df__law_name_row : He.DefD := ⟨("_law_name_row", none), "_law_name_row", "_law_name_row", defArgs s__law_name_row, defBody s__law_name_row, defScope s__law_name_row, [], []⟩
def df__law_shift : He.DefD := ⟨("_law_shift", none), "_law_shift", "_law_shift", defArgs s__law_shift, defBody s__law_shift, defScope s__law_shift, [], []⟩
def df__law_land : He.DefD := ⟨("_law_land", none), "_law_land", "_law_land", defArgs s__law_land, defBody s__law_land, defScope s__law_land, [], []⟩
def df__law_fault : He.DefD := ⟨("_law_fault", none), "_law_fault", "_law_fault", defArgs s__law_fault, defBody s__law_fault, defScope s__law_fault, [], []⟩
def df__law_same : He.DefD := ⟨("_law_same", none), "_law_same", "_law_same", defArgs s__law_same, defBody s__law_same, defScope s__law_same, [], []⟩
def df__law_any_name : He.DefD := ⟨("_law_any_name", none), "_law_any_name", "_law_any_name", defArgs s__law_any_name, defBody s__law_any_name, defScope s__law_any_name, [], []⟩
def df__law_any_shift : He.DefD := ⟨("_law_any_shift", none), "_law_any_shift", "_law_any_shift", defArgs s__law_any_shift, defBody s__law_any_shift, defScope s__law_any_shift, [], []⟩
def df__law_any_road : He.DefD := ⟨("_law_any_road", none), "_law_any_road", "_law_any_road", defArgs s__law_any_road, defBody s__law_any_road, defScope s__law_any_road, [], []⟩
def df__law_any_land : He.DefD := ⟨("_law_any_land", none), "_law_any_land", "_law_any_land", defArgs s__law_any_land, defBody s__law_any_land, defScope s__law_any_land, [], []⟩
def df__law_rows_of : He.DefD := ⟨("_law_rows_of", none), "_law_rows_of", "_law_rows_of", defArgs s__law_rows_of, defBody s__law_rows_of, defScope s__law_rows_of, [], []⟩
def df__law_is_land : He.DefD := ⟨("_law_is_land", none), "_law_is_land", "_law_is_land", defArgs s__law_is_land, defBody s__law_is_land, defScope s__law_is_land, [], []⟩
def df__law_is_name : He.DefD := ⟨("_law_is_name", none), "_law_is_name", "_law_is_name", defArgs s__law_is_name, defBody s__law_is_name, defScope s__law_is_name, [], []⟩
def df__law_road_fault : He.DefD := ⟨("_law_road_fault", none), "_law_road_fault", "_law_road_fault", defArgs s__law_road_fault, defBody s__law_road_fault, defScope s__law_road_fault, [], []⟩
def df__law_land_fault : He.DefD := ⟨("_law_land_fault", none), "_law_land_fault", "_law_land_fault", defArgs s__law_land_fault, defBody s__law_land_fault, defScope s__law_land_fault, [], []⟩
def df__law_made_right : He.DefD := ⟨("_law_made_right", none), "_law_made_right", "_law_made_right", defArgs s__law_made_right, defBody s__law_made_right, defScope s__law_made_right, [], []⟩
def df__law_applied : He.DefD := ⟨("_law_applied", none), "_law_applied", "_law_applied", defArgs s__law_applied, defBody s__law_applied, defScope s__law_applied, [], []⟩
def df__law_determinant : He.DefD := ⟨("_law_determinant", none), "_law_determinant", "_law_determinant", defArgs s__law_determinant, defBody s__law_determinant, defScope s__law_determinant, [], []⟩
def df__law_product : He.DefD := ⟨("_law_product", none), "_law_product", "_law_product", defArgs s__law_product, defBody s__law_product, defScope s__law_product, [], []⟩
def df__law_unimodular : He.DefD := ⟨("_law_unimodular", none), "_law_unimodular", "_law_unimodular", defArgs s__law_unimodular, defBody s__law_unimodular, defScope s__law_unimodular, [], []⟩
def df__law_lattice_cell : He.DefD := ⟨("_law_lattice_cell", none), "_law_lattice_cell", "_law_lattice_cell", defArgs s__law_lattice_cell, defBody s__law_lattice_cell, defScope s__law_lattice_cell, [], []⟩
def df__law_gcd : He.DefD := ⟨("_law_gcd", none), "_law_gcd", "_law_gcd", defArgs s__law_gcd, defBody s__law_gcd, defScope s__law_gcd, [], []⟩
def df__law_remainders : He.DefD := ⟨("_law_remainders", none), "_law_remainders", "_law_remainders", defArgs s__law_remainders, defBody s__law_remainders, defScope s__law_remainders, [], []⟩
def df__law_wide_land : He.DefD := ⟨("_law_wide_land", none), "_law_wide_land", "_law_wide_land", defArgs s__law_wide_land, defBody s__law_wide_land, defScope s__law_wide_land, [], []⟩
def df__law_drawn_matrix : He.DefD := ⟨("_law_drawn_matrix", none), "_law_drawn_matrix", "_law_drawn_matrix", defArgs s__law_drawn_matrix, defBody s__law_drawn_matrix, defScope s__law_drawn_matrix, [], []⟩
def df__law_too_large_right : He.DefD := ⟨("_law_too_large_right", none), "_law_too_large_right", "_law_too_large_right", defArgs s__law_too_large_right, defBody s__law_too_large_right, defScope s__law_too_large_right, [], []⟩
def df_law : He.DefD := ⟨("law", none), "law", "law", defArgs s_law, defBody s_law, defScope s_law, [], []⟩
def df_Reader___init__ : He.DefD := ⟨("Reader", some "__init__"), "__init__", "Reader.__init__", defArgs s_Reader___init__, defBody s_Reader___init__, defScope s_Reader___init__, [], []⟩
def df_Reader_seen : He.DefD := ⟨("Reader", some "seen"), "seen", "Reader.seen", defArgs s_Reader_seen, defBody s_Reader_seen, defScope s_Reader_seen, [], []⟩
def df_Reader_skip : He.DefD := ⟨("Reader", some "skip"), "skip", "Reader.skip", defArgs s_Reader_skip, defBody s_Reader_skip, defScope s_Reader_skip, [], []⟩
def df_Reader_has_words : He.DefD := ⟨("Reader", some "has_words"), "has_words", "Reader.has_words", defArgs s_Reader_has_words, defBody s_Reader_has_words, defScope s_Reader_has_words, [], []⟩
def df_Reader_has_more : He.DefD := ⟨("Reader", some "has_more"), "has_more", "Reader.has_more", defArgs s_Reader_has_more, defBody s_Reader_has_more, defScope s_Reader_has_more, [], []⟩
def df_Reader_need_space : He.DefD := ⟨("Reader", some "need_space"), "need_space", "Reader.need_space", defArgs s_Reader_need_space, defBody s_Reader_need_space, defScope s_Reader_need_space, [], []⟩
def df_Reader_end_line : He.DefD := ⟨("Reader", some "end_line"), "end_line", "Reader.end_line", defArgs s_Reader_end_line, defBody s_Reader_end_line, defScope s_Reader_end_line, [], []⟩
def df_Reader_word_of : He.DefD := ⟨("Reader", some "word_of"), "word_of", "Reader.word_of", defArgs s_Reader_word_of, defBody s_Reader_word_of, defScope s_Reader_word_of, [], []⟩
def df_Reader_number_of : He.DefD := ⟨("Reader", some "number_of"), "number_of", "Reader.number_of", defArgs s_Reader_number_of, defBody s_Reader_number_of, defScope s_Reader_number_of, [], []⟩
def df_Reader_new_name : He.DefD := ⟨("Reader", some "new_name"), "new_name", "Reader.new_name", defArgs s_Reader_new_name, defBody s_Reader_new_name, defScope s_Reader_new_name, [.bl true], []⟩
def df_Reader_goes_on : He.DefD := ⟨("Reader", some "goes_on"), "goes_on", "Reader.goes_on", defArgs s_Reader_goes_on, defBody s_Reader_goes_on, defScope s_Reader_goes_on, [], []⟩
def df_Road___init__ : He.DefD := ⟨("Road", some "__init__"), "__init__", "Road.__init__", defArgs s_Road___init__, defBody s_Road___init__, defScope s_Road___init__, [.non], []⟩
def df_Map___init__ : He.DefD := ⟨("Map", some "__init__"), "__init__", "Map.__init__", defArgs s_Map___init__, defBody s_Map___init__, defScope s_Map___init__, [.non], []⟩
def df_Matching___init__ : He.DefD := ⟨("Matching", some "__init__"), "__init__", "Matching.__init__", defArgs s_Matching___init__, defBody s_Matching___init__, defScope s_Matching___init__, [], []⟩
def df_BadName___init__ : He.DefD := ⟨("BadName", some "__init__"), "__init__", "BadName.__init__", defArgs s_BadName___init__, defBody s_BadName___init__, defScope s_BadName___init__, [], []⟩
def df_BadNumber___init__ : He.DefD := ⟨("BadNumber", some "__init__"), "__init__", "BadNumber.__init__", defArgs s_BadNumber___init__, defBody s_BadNumber___init__, defScope s_BadNumber___init__, [], []⟩
def df_TooMany___init__ : He.DefD := ⟨("TooMany", some "__init__"), "__init__", "TooMany.__init__", defArgs s_TooMany___init__, defBody s_TooMany___init__, defScope s_TooMany___init__, [], []⟩
def df_TooLarge___init__ : He.DefD := ⟨("TooLarge", some "__init__"), "__init__", "TooLarge.__init__", defArgs s_TooLarge___init__, defBody s_TooLarge___init__, defScope s_TooLarge___init__, [], []⟩
def fnL0 : List He.DefD := [df_plus, df_minus, df_is_int, df_is_cell, df_determinant, df_unapplied, df_shares_of, df_lattice_of, df_remainder_of, df_is_name, df_line_of, df_text_of, df_read_shift, df_read_road, df_read_map, df_check_shift, df_check_price, df_check_new, df_check_road, df_check_many, df_map_of, df_number_name, df_widened, df_widening, df__law_pen, df__law_draw, df__law_pick, df__law_plus, df__law_is_int, df__law_is_cell]
def fnL1 : List He.DefD := [df__law_land_text, df__law_name_row, df__law_shift, df__law_land, df__law_fault, df__law_same, df__law_any_name, df__law_any_shift, df__law_any_road, df__law_any_land, df__law_rows_of, df__law_is_land, df__law_is_name, df__law_road_fault, df__law_land_fault, df__law_made_right, df__law_applied, df__law_determinant, df__law_product, df__law_unimodular, df__law_lattice_cell, df__law_gcd, df__law_remainders, df__law_wide_land, df__law_drawn_matrix, df__law_too_large_right, df_law, df_Reader___init__, df_Reader_seen, df_Reader_skip]
def fnL2 : List He.DefD := [df_Reader_has_words, df_Reader_has_more, df_Reader_need_space, df_Reader_end_line, df_Reader_word_of, df_Reader_number_of, df_Reader_new_name, df_Reader_goes_on, df_Road___init__, df_Map___init__, df_Matching___init__, df_BadName___init__, df_BadNumber___init__, df_TooMany___init__, df_TooLarge___init__]
def fnL : List He.DefD := fnL0 ++ fnL1 ++ fnL2
def faL0 : List He.Fa := [.glo "plus", .glo "minus", .glo "is_int", .glo "is_cell", .glo "determinant", .glo "unapplied", .glo "shares_of", .glo "lattice_of", .glo "remainder_of", .glo "is_name", .glo "line_of", .glo "text_of", .glo "read_shift", .glo "read_road", .glo "read_map", .glo "check_shift", .glo "check_price", .glo "check_new", .glo "check_road", .glo "check_many", .glo "map_of", .glo "number_name", .glo "widened", .glo "widening", .glo "_law_pen", .glo "_law_draw", .glo "_law_pick", .glo "_law_plus", .glo "_law_is_int", .glo "_law_is_cell"]
def faL1 : List He.Fa := [.glo "_law_land_text", .glo "_law_name_row", .glo "_law_shift", .glo "_law_land", .glo "_law_fault", .glo "_law_same", .glo "_law_any_name", .glo "_law_any_shift", .glo "_law_any_road", .glo "_law_any_land", .glo "_law_rows_of", .glo "_law_is_land", .glo "_law_is_name", .glo "_law_road_fault", .glo "_law_land_fault", .glo "_law_made_right", .glo "_law_applied", .glo "_law_determinant", .glo "_law_product", .glo "_law_unimodular", .glo "_law_lattice_cell", .glo "_law_gcd", .glo "_law_remainders", .glo "_law_wide_land", .glo "_law_drawn_matrix", .glo "_law_too_large_right", .glo "law", .glo "Reader", .glo "Road", .glo "Map"]
def faL2 : List He.Fa := [.glo "Matching", .glo "BadName", .glo "BadNumber", .glo "TooMany", .glo "TooLarge", .glo "JourneyError", .glo "BadText", .glo "TakenName", .glo "NoSpot", .glo "NoRoad", .glo "BadPlace", .glo "Unlike", .glo "BadJourney", .free "len", .free "isinstance", .free "int", .free "str", .free "bool", .free "tuple", .free "list", .free "dict", .free "abs", .free "range", .free "all", .free "repr", .free "enumerate", .int "MOST_SIGNS" 40, .int "MOST_SPOTS" 24, .int "MOST_ROADS" 160, .int "MOST_SHIFT" 9]
def faL3 : List He.Fa := [.int "MOST_PRICE" 99, .str "LETTERS" "abcdefghijklmnopqrstuvwxyz", .str "SIGNS" "abcdefghijklmnopqrstuvwxyz0123456789", .cls "Reader", .mkr "Reader", .noat "Reader" "whole", .noat "Reader" "reached", .cls "Road", .mkr "Road", .noat "Road" "name", .noat "Road" "start", .noat "Road" "end", .noat "Road" "shift", .noat "Road" "price", .noat "Road" "label", .cls "Map", .mkr "Map", .noat "Map" "spots", .noat "Map" "roads", .noat "Map" "text", .noat "Map" "by_name", .noat "Map" "by_start", .cls "Matching", .mkr "Matching", .noat "Matching" "matrix", .noat "Matching" "spots", .meth "Reader" "seen", .meth "Reader" "skip", .meth "Reader" "has_words", .meth "Reader" "has_more"]
def faL4 : List He.Fa := [.meth "Reader" "need_space", .meth "Reader" "end_line", .meth "Reader" "word_of", .meth "Reader" "number_of", .meth "Reader" "new_name", .meth "Reader" "goes_on", .exm "BadName" "BadText" false, .exm "BadName" "BadName" true, .exm "BadName" "TakenName" false, .exm "BadName" "NoSpot" false, .exm "BadName" "NoRoad" false, .exm "BadName" "BadNumber" false, .exm "BadName" "TooMany" false, .exm "BadName" "TooLarge" false, .exm "BadName" "BadPlace" false, .exm "BadName" "Unlike" false, .exm "BadName" "BadJourney" false, .exm "BadNumber" "BadText" false, .exm "BadNumber" "BadName" false, .exm "BadNumber" "TakenName" false, .exm "BadNumber" "NoSpot" false, .exm "BadNumber" "NoRoad" false, .exm "BadNumber" "BadNumber" true, .exm "BadNumber" "TooMany" false, .exm "BadNumber" "TooLarge" false, .exm "BadNumber" "BadPlace" false, .exm "BadNumber" "Unlike" false, .exm "BadNumber" "BadJourney" false, .exm "TooMany" "BadText" false, .exm "TooMany" "BadName" false]
def faL5 : List He.Fa := [.exm "TooMany" "TakenName" false, .exm "TooMany" "NoSpot" false, .exm "TooMany" "NoRoad" false, .exm "TooMany" "BadNumber" false, .exm "TooMany" "TooMany" true, .exm "TooMany" "TooLarge" false, .exm "TooMany" "BadPlace" false, .exm "TooMany" "Unlike" false, .exm "TooMany" "BadJourney" false, .exm "TooLarge" "BadText" false, .exm "TooLarge" "BadName" false, .exm "TooLarge" "TakenName" false, .exm "TooLarge" "NoSpot" false, .exm "TooLarge" "NoRoad" false, .exm "TooLarge" "BadNumber" false, .exm "TooLarge" "TooMany" false, .exm "TooLarge" "TooLarge" true, .exm "TooLarge" "BadPlace" false, .exm "TooLarge" "Unlike" false, .exm "TooLarge" "BadJourney" false]
def faL : List He.Fa := faL0 ++ faL1 ++ faL2 ++ faL3 ++ faL4 ++ faL5
/-! ### exception classes, JourneyError.__init__ -/
def oexB (K : PySem.W.Frag) (C : Addr) : Bool := (match K.lookup C with
  | some ⟨.type c, _, .cls cd, sl⟩ => (match cd.mro, sl.toList with
    | .ref C' :: bm, [_, _, _, _, some (.builtin n), _] => decide (c = "type") && (decide (C' = C) && (decide (n = "ValueError.__new__") && (cd.hasDict && (!cd.hasDel && PySem.HandSPX.refsVE bm))))
    | _, _ => false)
  | _ => false) && (He.eqO (PySem.W.findIn K (.ref C) "__setattr__") (some (some (.builtin "object.__setattr__"))) && (decide (PySem.W.subIn K (.ref C) (.type "BaseException") = some true) &&
    (decide (PySem.W.typeIn K (.ref C) = some (.type "type")) && (PySem.W.keepIn K (.ref C) && xfB K C))))
def initB (K : PySem.W.Frag) (C : Addr) : Bool := He.eqO (PySem.W.findIn K (.ref C) "__init__") (some (some (.ref (He.ma K C "__init__")))) && decide (PySem.W.typeIn K (.ref (He.ma K C "__init__")) = some (.type "function"))
def noB (K : PySem.W.Frag) (C : Addr) (f : Str) : Bool := He.eqO (PySem.W.findIn K (.ref C) f) (some none)
def jeB (K : PySem.W.Frag) (C : Addr) : Bool := decide (PySem.W.specialIn K (.ref C) "__getattribute__" = some (some (.builtin "type.__getattribute__"))) && (PySem.W.readsIn K C (.type "type") &&
  (match PySem.W.findCls K (.ref C) (.type "type") "__init__" with
    | some (.val (.builtin n)) => decide (n = "ValueError.__init__")
    | _ => false))
def insB (K : PySem.W.Frag) (C : Addr) : Bool := decide (PySem.W.findIn K (.ref C) "__class__" = some (some (.builtin "object.__class__"))) && (decide (PySem.W.specialIn K (.builtin "object.__class__") "__get__" = some (some (.builtin "getset_descriptor.__get__"))) && (decide (PySem.W.takesIn K (.builtin "object.__class__") = some true) && (decide (PySem.W.mroIn K C (.type "object") = some true) && decide (PySem.W.kitOne K (.ref C) (.ref C) = some true))))
def exL (K : PySem.W.Frag) : List Bool := [jeB K (He.ga K "JourneyError"), decide (PySem.W.nsIn K cStatics "sys.int_max_str_digits" = some none), oexB K (He.ga K "BadName"), initB K (He.ga K "BadName"), noB K (He.ga K "BadName") "name", oexB K (He.ga K "BadNumber"), initB K (He.ga K "BadNumber"), noB K (He.ga K "BadNumber") "what", noB K (He.ga K "BadNumber") "number", oexB K (He.ga K "TooMany"), initB K (He.ga K "TooMany"), noB K (He.ga K "TooMany") "what", noB K (He.ga K "TooMany") "many", noB K (He.ga K "TooMany") "limit", oexB K (He.ga K "TooLarge"), initB K (He.ga K "TooLarge"), noB K (He.ga K "TooLarge") "what", noB K (He.ga K "TooLarge") "number", noB K (He.ga K "TooLarge") "limit", insB K (He.ga K "Map"), insB K (He.ga K "Matching"), insB K (He.ga K "BadName"), decide ((He.cT K ("law", none)).2 ≠ (He.cT K ("_law_too_large_right", none)).2)]
def exB (K : PySem.W.Frag) : Bool := (exL K).all id
def tfL : List He.Defn := [("law", none), ("_law_too_large_right", none)]
def asK : List Addr := [2, 3, 20, 21, 27, 28, 34, 35, 41, 42, 48, 49, 58, 59, 75, 76, 78, 79, 94, 95, 97, 98, 113, 114, 116, 117, 132, 133, 135, 136, 151, 152, 154, 155, 170, 171, 173, 174, 189, 190] ++ [192, 193, 208, 209, 211, 212, 227, 228, 230, 231, 246, 247, 249, 250, 265, 266, 268, 269, 277, 278, 284, 285, 291, 292, 298, 299, 305, 306, 310, 311, 324, 325, 331, 332, 338, 339, 345, 346, 352, 353] ++ [359, 360, 366, 367, 373, 374, 378, 379, 383, 384, 385, 391, 392, 398, 399, 401, 402, 414, 420, 421, 427, 428, 430, 431, 441, 442, 446, 447, 453, 454, 455, 461, 462, 466, 467, 475, 479, 480, 486, 487] ++ [493, 494, 500, 501, 503, 504, 514, 515, 518, 521, 522, 528, 529, 535, 536, 542, 543, 549, 550, 556, 557, 561, 562, 573, 574, 580, 581, 587, 588, 594, 595, 597, 598, 608, 609, 615, 616, 622, 623, 629] ++ [630, 636, 637, 640, 643, 644, 647, 650, 651, 655, 656, 660, 661, 667, 668, 674, 675, 681, 682, 688, 689, 695, 696, 702, 703, 709, 710, 714, 715, 719, 720, 726, 727, 731, 732, 738, 739, 743, 744, 750] ++ [751, 757, 758, 761, 764, 765, 771, 772, 778, 779, 785, 786, 792, 793, 797, 798, 802, 803, 809, 810, 816, 817, 821, 822]
/-! ### the Hook -/
structure SaysJ (h : Heap) (K : PySem.W.Frag) : Prop where
  d : He.SaysD faL fnL K
  ex : exB K = true
  hd : ∀ p ∈ tfL, PySem.W.codeHdIn K (He.cT K p).1 (He.cT K p).2 = true
  out : ∀ p ∈ tfL, K.lookup (He.cT K p).2 = none
  empty : ∀ p ∈ tfL, h.get? (He.cT K p).2 = some { cls := .none, data := .fields #[] }
def outB (K : PySem.W.Frag) : Bool := tfL.all fun p => (K.lookup (He.cT K p).2).isNone
abbrev AlJ : Type := He.AlD × Bool × Bool × Bool
def obsK (g : Addr → Option Obj) (K : PySem.W.Frag) : AlJ := (He.obsD faL fnL K, exB K, outB K, He.tabsB g tfL K)
def obsJ (g : Addr → Option Obj) : AlJ := obsK g (He.frG g asK)
def valJ : AlJ := (He.valD fnL, true, true, true)
theorem saysJ_of {h : Heap} (e : obsJ h.get? = valJ) : SaysJ h (He.frG h.get? asK) := by
  have e1 : He.obsD faL fnL (He.frG h.get? asK) = He.valD fnL := congrArg (fun z : AlJ => z.1) e
  have e2 : exB (He.frG h.get? asK) = true := congrArg (fun z : AlJ => z.2.1) e
  have e3 : outB (He.frG h.get? asK) = true := congrArg (fun z : AlJ => z.2.2.1) e
  have e4 : He.tabsB h.get? tfL (He.frG h.get? asK) = true := congrArg (fun z : AlJ => z.2.2.2) e
  have key := fun p hp => He.ba (List.all_eq_true.mp e4 p hp)
  refine ⟨e1, e2, fun p hp => (key p hp).1, fun p hp => Option.isNone_iff_eq_none.mp (List.all_eq_true.mp e3 p hp), fun p hp => ?_⟩
  have k2 := (key p hp).2
  cases q : h.get? (He.cT (He.frG h.get? asK) p).2 with
  | none => rw [q] at k2; cases k2
  | some o => rw [q] at k2; rw [He.emptyTab_eq k2]
def hookJ : PySem.W.Hook where
  α := AlJ
  obs := fun s => obsJ s.heap.get?
  val := fun _ => valJ
  says := fun _ h => ∃ K : PySem.W.Frag, K.In h ∧ SaysJ h K
  of := fun _ _ e => ⟨_, He.frG_in, saysJ_of e⟩
  keeps := fun _ _ _ ⟨K, hK, c⟩ k => ⟨K, PySem.W.Frag.In.keeps hK k, ⟨c.d, c.ex, c.hd, c.out, fun p hp => k _ _ (c.empty p hp)⟩⟩
/-! ### what the text is -/
structure Tx (K : PySem.W.Frag) (mg : Str → Option Value) : Prop where
  says : He.SaysD faL fnL K
  ex : exB K = true
  at_ : ∃ h : Heap, K.In h ∧ h.Ns mainGlobals mg
section
variable {K : PySem.W.Frag} {mg : Str → Option Value}
theorem Tx.fact (T : Tx K mg) (i : Nat) {f : He.Fa} (h : faL[i]? = some f) : f.ok K = true := T.says.fact i h
noncomputable def Tx.hp (T : Tx K mg) : Heap := T.at_.choose
theorem Tx.X (T : Tx K mg) : K.In T.hp := T.at_.choose_spec.1
theorem Tx.G (T : Tx K mg) : T.hp.Ns mainGlobals mg := T.at_.choose_spec.2
theorem Tx.exs (T : Tx K mg) (i : Nat) {b : Bool} (h : (exL K)[i]? = some b) : b = true := List.all_eq_true.mp T.ex b (List.mem_of_getElem? h)
theorem Tx.g_plus (T : Tx K mg) : mg "plus" = some (.ref (He.ga K "plus")) := He.glo_ok T.X T.G (T.fact 0 rfl)
theorem Tx.g_minus (T : Tx K mg) : mg "minus" = some (.ref (He.ga K "minus")) := He.glo_ok T.X T.G (T.fact 1 rfl)
theorem Tx.g_is_int (T : Tx K mg) : mg "is_int" = some (.ref (He.ga K "is_int")) := He.glo_ok T.X T.G (T.fact 2 rfl)
theorem Tx.g_is_cell (T : Tx K mg) : mg "is_cell" = some (.ref (He.ga K "is_cell")) := He.glo_ok T.X T.G (T.fact 3 rfl)
theorem Tx.g_determinant (T : Tx K mg) : mg "determinant" = some (.ref (He.ga K "determinant")) := He.glo_ok T.X T.G (T.fact 4 rfl)
theorem Tx.g_unapplied (T : Tx K mg) : mg "unapplied" = some (.ref (He.ga K "unapplied")) := He.glo_ok T.X T.G (T.fact 5 rfl)
theorem Tx.g_shares_of (T : Tx K mg) : mg "shares_of" = some (.ref (He.ga K "shares_of")) := He.glo_ok T.X T.G (T.fact 6 rfl)
theorem Tx.g_lattice_of (T : Tx K mg) : mg "lattice_of" = some (.ref (He.ga K "lattice_of")) := He.glo_ok T.X T.G (T.fact 7 rfl)
theorem Tx.g_remainder_of (T : Tx K mg) : mg "remainder_of" = some (.ref (He.ga K "remainder_of")) := He.glo_ok T.X T.G (T.fact 8 rfl)
theorem Tx.g_is_name (T : Tx K mg) : mg "is_name" = some (.ref (He.ga K "is_name")) := He.glo_ok T.X T.G (T.fact 9 rfl)
theorem Tx.g_line_of (T : Tx K mg) : mg "line_of" = some (.ref (He.ga K "line_of")) := He.glo_ok T.X T.G (T.fact 10 rfl)
theorem Tx.g_text_of (T : Tx K mg) : mg "text_of" = some (.ref (He.ga K "text_of")) := He.glo_ok T.X T.G (T.fact 11 rfl)
theorem Tx.g_read_shift (T : Tx K mg) : mg "read_shift" = some (.ref (He.ga K "read_shift")) := He.glo_ok T.X T.G (T.fact 12 rfl)
theorem Tx.g_read_road (T : Tx K mg) : mg "read_road" = some (.ref (He.ga K "read_road")) := He.glo_ok T.X T.G (T.fact 13 rfl)
theorem Tx.g_read_map (T : Tx K mg) : mg "read_map" = some (.ref (He.ga K "read_map")) := He.glo_ok T.X T.G (T.fact 14 rfl)
theorem Tx.g_check_shift (T : Tx K mg) : mg "check_shift" = some (.ref (He.ga K "check_shift")) := He.glo_ok T.X T.G (T.fact 15 rfl)
theorem Tx.g_check_price (T : Tx K mg) : mg "check_price" = some (.ref (He.ga K "check_price")) := He.glo_ok T.X T.G (T.fact 16 rfl)
theorem Tx.g_check_new (T : Tx K mg) : mg "check_new" = some (.ref (He.ga K "check_new")) := He.glo_ok T.X T.G (T.fact 17 rfl)
theorem Tx.g_check_road (T : Tx K mg) : mg "check_road" = some (.ref (He.ga K "check_road")) := He.glo_ok T.X T.G (T.fact 18 rfl)
theorem Tx.g_check_many (T : Tx K mg) : mg "check_many" = some (.ref (He.ga K "check_many")) := He.glo_ok T.X T.G (T.fact 19 rfl)
theorem Tx.g_map_of (T : Tx K mg) : mg "map_of" = some (.ref (He.ga K "map_of")) := He.glo_ok T.X T.G (T.fact 20 rfl)
theorem Tx.g_number_name (T : Tx K mg) : mg "number_name" = some (.ref (He.ga K "number_name")) := He.glo_ok T.X T.G (T.fact 21 rfl)
theorem Tx.g_widened (T : Tx K mg) : mg "widened" = some (.ref (He.ga K "widened")) := He.glo_ok T.X T.G (T.fact 22 rfl)
theorem Tx.g_widening (T : Tx K mg) : mg "widening" = some (.ref (He.ga K "widening")) := He.glo_ok T.X T.G (T.fact 23 rfl)
theorem Tx.g__law_pen (T : Tx K mg) : mg "_law_pen" = some (.ref (He.ga K "_law_pen")) := He.glo_ok T.X T.G (T.fact 24 rfl)
theorem Tx.g__law_draw (T : Tx K mg) : mg "_law_draw" = some (.ref (He.ga K "_law_draw")) := He.glo_ok T.X T.G (T.fact 25 rfl)
theorem Tx.g__law_pick (T : Tx K mg) : mg "_law_pick" = some (.ref (He.ga K "_law_pick")) := He.glo_ok T.X T.G (T.fact 26 rfl)
theorem Tx.g__law_plus (T : Tx K mg) : mg "_law_plus" = some (.ref (He.ga K "_law_plus")) := He.glo_ok T.X T.G (T.fact 27 rfl)
theorem Tx.g__law_is_int (T : Tx K mg) : mg "_law_is_int" = some (.ref (He.ga K "_law_is_int")) := He.glo_ok T.X T.G (T.fact 28 rfl)
theorem Tx.g__law_is_cell (T : Tx K mg) : mg "_law_is_cell" = some (.ref (He.ga K "_law_is_cell")) := He.glo_ok T.X T.G (T.fact 29 rfl)
theorem Tx.g__law_land_text (T : Tx K mg) : mg "_law_land_text" = some (.ref (He.ga K "_law_land_text")) := He.glo_ok T.X T.G (T.fact 30 rfl)
theorem Tx.g__law_name_row (T : Tx K mg) : mg "_law_name_row" = some (.ref (He.ga K "_law_name_row")) := He.glo_ok T.X T.G (T.fact 31 rfl)
theorem Tx.g__law_shift (T : Tx K mg) : mg "_law_shift" = some (.ref (He.ga K "_law_shift")) := He.glo_ok T.X T.G (T.fact 32 rfl)
theorem Tx.g__law_land (T : Tx K mg) : mg "_law_land" = some (.ref (He.ga K "_law_land")) := He.glo_ok T.X T.G (T.fact 33 rfl)
theorem Tx.g__law_fault (T : Tx K mg) : mg "_law_fault" = some (.ref (He.ga K "_law_fault")) := He.glo_ok T.X T.G (T.fact 34 rfl)
theorem Tx.g__law_same (T : Tx K mg) : mg "_law_same" = some (.ref (He.ga K "_law_same")) := He.glo_ok T.X T.G (T.fact 35 rfl)
theorem Tx.g__law_any_name (T : Tx K mg) : mg "_law_any_name" = some (.ref (He.ga K "_law_any_name")) := He.glo_ok T.X T.G (T.fact 36 rfl)
theorem Tx.g__law_any_shift (T : Tx K mg) : mg "_law_any_shift" = some (.ref (He.ga K "_law_any_shift")) := He.glo_ok T.X T.G (T.fact 37 rfl)
theorem Tx.g__law_any_road (T : Tx K mg) : mg "_law_any_road" = some (.ref (He.ga K "_law_any_road")) := He.glo_ok T.X T.G (T.fact 38 rfl)
theorem Tx.g__law_any_land (T : Tx K mg) : mg "_law_any_land" = some (.ref (He.ga K "_law_any_land")) := He.glo_ok T.X T.G (T.fact 39 rfl)
theorem Tx.g__law_rows_of (T : Tx K mg) : mg "_law_rows_of" = some (.ref (He.ga K "_law_rows_of")) := He.glo_ok T.X T.G (T.fact 40 rfl)
theorem Tx.g__law_is_land (T : Tx K mg) : mg "_law_is_land" = some (.ref (He.ga K "_law_is_land")) := He.glo_ok T.X T.G (T.fact 41 rfl)
theorem Tx.g__law_is_name (T : Tx K mg) : mg "_law_is_name" = some (.ref (He.ga K "_law_is_name")) := He.glo_ok T.X T.G (T.fact 42 rfl)
theorem Tx.g__law_road_fault (T : Tx K mg) : mg "_law_road_fault" = some (.ref (He.ga K "_law_road_fault")) := He.glo_ok T.X T.G (T.fact 43 rfl)
theorem Tx.g__law_land_fault (T : Tx K mg) : mg "_law_land_fault" = some (.ref (He.ga K "_law_land_fault")) := He.glo_ok T.X T.G (T.fact 44 rfl)
theorem Tx.g__law_made_right (T : Tx K mg) : mg "_law_made_right" = some (.ref (He.ga K "_law_made_right")) := He.glo_ok T.X T.G (T.fact 45 rfl)
theorem Tx.g__law_applied (T : Tx K mg) : mg "_law_applied" = some (.ref (He.ga K "_law_applied")) := He.glo_ok T.X T.G (T.fact 46 rfl)
theorem Tx.g__law_determinant (T : Tx K mg) : mg "_law_determinant" = some (.ref (He.ga K "_law_determinant")) := He.glo_ok T.X T.G (T.fact 47 rfl)
theorem Tx.g__law_product (T : Tx K mg) : mg "_law_product" = some (.ref (He.ga K "_law_product")) := He.glo_ok T.X T.G (T.fact 48 rfl)
theorem Tx.g__law_unimodular (T : Tx K mg) : mg "_law_unimodular" = some (.ref (He.ga K "_law_unimodular")) := He.glo_ok T.X T.G (T.fact 49 rfl)
theorem Tx.g__law_lattice_cell (T : Tx K mg) : mg "_law_lattice_cell" = some (.ref (He.ga K "_law_lattice_cell")) := He.glo_ok T.X T.G (T.fact 50 rfl)
theorem Tx.g__law_gcd (T : Tx K mg) : mg "_law_gcd" = some (.ref (He.ga K "_law_gcd")) := He.glo_ok T.X T.G (T.fact 51 rfl)
theorem Tx.g__law_remainders (T : Tx K mg) : mg "_law_remainders" = some (.ref (He.ga K "_law_remainders")) := He.glo_ok T.X T.G (T.fact 52 rfl)
theorem Tx.g__law_wide_land (T : Tx K mg) : mg "_law_wide_land" = some (.ref (He.ga K "_law_wide_land")) := He.glo_ok T.X T.G (T.fact 53 rfl)
theorem Tx.g__law_drawn_matrix (T : Tx K mg) : mg "_law_drawn_matrix" = some (.ref (He.ga K "_law_drawn_matrix")) := He.glo_ok T.X T.G (T.fact 54 rfl)
theorem Tx.g__law_too_large_right (T : Tx K mg) : mg "_law_too_large_right" = some (.ref (He.ga K "_law_too_large_right")) := He.glo_ok T.X T.G (T.fact 55 rfl)
theorem Tx.g_law (T : Tx K mg) : mg "law" = some (.ref (He.ga K "law")) := He.glo_ok T.X T.G (T.fact 56 rfl)
theorem Tx.g_Reader (T : Tx K mg) : mg "Reader" = some (.ref (He.ga K "Reader")) := He.glo_ok T.X T.G (T.fact 57 rfl)
theorem Tx.g_Road (T : Tx K mg) : mg "Road" = some (.ref (He.ga K "Road")) := He.glo_ok T.X T.G (T.fact 58 rfl)
theorem Tx.g_Map (T : Tx K mg) : mg "Map" = some (.ref (He.ga K "Map")) := He.glo_ok T.X T.G (T.fact 59 rfl)
theorem Tx.g_Matching (T : Tx K mg) : mg "Matching" = some (.ref (He.ga K "Matching")) := He.glo_ok T.X T.G (T.fact 60 rfl)
theorem Tx.g_BadName (T : Tx K mg) : mg "BadName" = some (.ref (He.ga K "BadName")) := He.glo_ok T.X T.G (T.fact 61 rfl)
theorem Tx.g_BadNumber (T : Tx K mg) : mg "BadNumber" = some (.ref (He.ga K "BadNumber")) := He.glo_ok T.X T.G (T.fact 62 rfl)
theorem Tx.g_TooMany (T : Tx K mg) : mg "TooMany" = some (.ref (He.ga K "TooMany")) := He.glo_ok T.X T.G (T.fact 63 rfl)
theorem Tx.g_TooLarge (T : Tx K mg) : mg "TooLarge" = some (.ref (He.ga K "TooLarge")) := He.glo_ok T.X T.G (T.fact 64 rfl)
theorem Tx.g_JourneyError (T : Tx K mg) : mg "JourneyError" = some (.ref (He.ga K "JourneyError")) := He.glo_ok T.X T.G (T.fact 65 rfl)
theorem Tx.g_BadText (T : Tx K mg) : mg "BadText" = some (.ref (He.ga K "BadText")) := He.glo_ok T.X T.G (T.fact 66 rfl)
theorem Tx.g_TakenName (T : Tx K mg) : mg "TakenName" = some (.ref (He.ga K "TakenName")) := He.glo_ok T.X T.G (T.fact 67 rfl)
theorem Tx.g_NoSpot (T : Tx K mg) : mg "NoSpot" = some (.ref (He.ga K "NoSpot")) := He.glo_ok T.X T.G (T.fact 68 rfl)
theorem Tx.g_NoRoad (T : Tx K mg) : mg "NoRoad" = some (.ref (He.ga K "NoRoad")) := He.glo_ok T.X T.G (T.fact 69 rfl)
theorem Tx.g_BadPlace (T : Tx K mg) : mg "BadPlace" = some (.ref (He.ga K "BadPlace")) := He.glo_ok T.X T.G (T.fact 70 rfl)
theorem Tx.g_Unlike (T : Tx K mg) : mg "Unlike" = some (.ref (He.ga K "Unlike")) := He.glo_ok T.X T.G (T.fact 71 rfl)
theorem Tx.g_BadJourney (T : Tx K mg) : mg "BadJourney" = some (.ref (He.ga K "BadJourney")) := He.glo_ok T.X T.G (T.fact 72 rfl)
theorem Tx.f_len (T : Tx K mg) : mg "len" = none := He.free_ok T.X T.G (T.fact 73 rfl)
theorem Tx.f_isinstance (T : Tx K mg) : mg "isinstance" = none := He.free_ok T.X T.G (T.fact 74 rfl)
theorem Tx.f_int (T : Tx K mg) : mg "int" = none := He.free_ok T.X T.G (T.fact 75 rfl)
theorem Tx.f_str (T : Tx K mg) : mg "str" = none := He.free_ok T.X T.G (T.fact 76 rfl)
theorem Tx.f_bool (T : Tx K mg) : mg "bool" = none := He.free_ok T.X T.G (T.fact 77 rfl)
theorem Tx.f_tuple (T : Tx K mg) : mg "tuple" = none := He.free_ok T.X T.G (T.fact 78 rfl)
theorem Tx.f_list (T : Tx K mg) : mg "list" = none := He.free_ok T.X T.G (T.fact 79 rfl)
theorem Tx.f_dict (T : Tx K mg) : mg "dict" = none := He.free_ok T.X T.G (T.fact 80 rfl)
theorem Tx.f_abs (T : Tx K mg) : mg "abs" = none := He.free_ok T.X T.G (T.fact 81 rfl)
theorem Tx.f_range (T : Tx K mg) : mg "range" = none := He.free_ok T.X T.G (T.fact 82 rfl)
theorem Tx.f_all (T : Tx K mg) : mg "all" = none := He.free_ok T.X T.G (T.fact 83 rfl)
theorem Tx.f_repr (T : Tx K mg) : mg "repr" = none := He.free_ok T.X T.G (T.fact 84 rfl)
theorem Tx.f_enumerate (T : Tx K mg) : mg "enumerate" = none := He.free_ok T.X T.G (T.fact 85 rfl)
theorem Tx.i_MOST_SIGNS (T : Tx K mg) : ∃ t, mg "MOST_SIGNS" = some (.int 40 t) := He.int_ok T.X T.G (T.fact 86 rfl)
theorem Tx.i_MOST_SPOTS (T : Tx K mg) : ∃ t, mg "MOST_SPOTS" = some (.int 24 t) := He.int_ok T.X T.G (T.fact 87 rfl)
theorem Tx.i_MOST_ROADS (T : Tx K mg) : ∃ t, mg "MOST_ROADS" = some (.int 160 t) := He.int_ok T.X T.G (T.fact 88 rfl)
theorem Tx.i_MOST_SHIFT (T : Tx K mg) : ∃ t, mg "MOST_SHIFT" = some (.int 9 t) := He.int_ok T.X T.G (T.fact 89 rfl)
theorem Tx.i_MOST_PRICE (T : Tx K mg) : ∃ t, mg "MOST_PRICE" = some (.int 99 t) := He.int_ok T.X T.G (T.fact 90 rfl)
theorem Tx.z_LETTERS (T : Tx K mg) : ∃ t, mg "LETTERS" = some (.str "abcdefghijklmnopqrstuvwxyz" t) := He.str_ok T.X T.G (T.fact 91 rfl)
theorem Tx.z_SIGNS (T : Tx K mg) : ∃ t, mg "SIGNS" = some (.str "abcdefghijklmnopqrstuvwxyz0123456789" t) := He.str_ok T.X T.G (T.fact 92 rfl)
theorem Tx.c_Reader (T : Tx K mg) : Cls K (He.ga K "Reader") := He.cls_ok (T.fact 93 rfl)
theorem Tx.k_Reader (T : Tx K mg) : Mk K (He.ga K "Reader") (He.ma K (He.ga K "Reader") "__init__") := He.mkr_ok (T.fact 94 rfl)
theorem Tx.n_Reader_whole (T : Tx K mg) : NoAttr K (He.ga K "Reader") "whole" := He.noat_ok (T.fact 95 rfl)
theorem Tx.n_Reader_reached (T : Tx K mg) : NoAttr K (He.ga K "Reader") "reached" := He.noat_ok (T.fact 96 rfl)
theorem Tx.c_Road (T : Tx K mg) : Cls K (He.ga K "Road") := He.cls_ok (T.fact 97 rfl)
theorem Tx.k_Road (T : Tx K mg) : Mk K (He.ga K "Road") (He.ma K (He.ga K "Road") "__init__") := He.mkr_ok (T.fact 98 rfl)
theorem Tx.n_Road_name (T : Tx K mg) : NoAttr K (He.ga K "Road") "name" := He.noat_ok (T.fact 99 rfl)
theorem Tx.n_Road_start (T : Tx K mg) : NoAttr K (He.ga K "Road") "start" := He.noat_ok (T.fact 100 rfl)
theorem Tx.n_Road_end (T : Tx K mg) : NoAttr K (He.ga K "Road") "end" := He.noat_ok (T.fact 101 rfl)
theorem Tx.n_Road_shift (T : Tx K mg) : NoAttr K (He.ga K "Road") "shift" := He.noat_ok (T.fact 102 rfl)
theorem Tx.n_Road_price (T : Tx K mg) : NoAttr K (He.ga K "Road") "price" := He.noat_ok (T.fact 103 rfl)
theorem Tx.n_Road_label (T : Tx K mg) : NoAttr K (He.ga K "Road") "label" := He.noat_ok (T.fact 104 rfl)
theorem Tx.c_Map (T : Tx K mg) : Cls K (He.ga K "Map") := He.cls_ok (T.fact 105 rfl)
theorem Tx.k_Map (T : Tx K mg) : Mk K (He.ga K "Map") (He.ma K (He.ga K "Map") "__init__") := He.mkr_ok (T.fact 106 rfl)
theorem Tx.n_Map_spots (T : Tx K mg) : NoAttr K (He.ga K "Map") "spots" := He.noat_ok (T.fact 107 rfl)
theorem Tx.n_Map_roads (T : Tx K mg) : NoAttr K (He.ga K "Map") "roads" := He.noat_ok (T.fact 108 rfl)
theorem Tx.n_Map_text (T : Tx K mg) : NoAttr K (He.ga K "Map") "text" := He.noat_ok (T.fact 109 rfl)
theorem Tx.n_Map_by_name (T : Tx K mg) : NoAttr K (He.ga K "Map") "by_name" := He.noat_ok (T.fact 110 rfl)
theorem Tx.n_Map_by_start (T : Tx K mg) : NoAttr K (He.ga K "Map") "by_start" := He.noat_ok (T.fact 111 rfl)
theorem Tx.c_Matching (T : Tx K mg) : Cls K (He.ga K "Matching") := He.cls_ok (T.fact 112 rfl)
theorem Tx.k_Matching (T : Tx K mg) : Mk K (He.ga K "Matching") (He.ma K (He.ga K "Matching") "__init__") := He.mkr_ok (T.fact 113 rfl)
theorem Tx.n_Matching_matrix (T : Tx K mg) : NoAttr K (He.ga K "Matching") "matrix" := He.noat_ok (T.fact 114 rfl)
theorem Tx.n_Matching_spots (T : Tx K mg) : NoAttr K (He.ga K "Matching") "spots" := He.noat_ok (T.fact 115 rfl)
theorem Tx.m_Reader_seen (T : Tx K mg) : Meth K (He.ga K "Reader") "seen" (He.ma K (He.ga K "Reader") "seen") := He.meth_ok (T.fact 116 rfl)
theorem Tx.m_Reader_skip (T : Tx K mg) : Meth K (He.ga K "Reader") "skip" (He.ma K (He.ga K "Reader") "skip") := He.meth_ok (T.fact 117 rfl)
theorem Tx.m_Reader_has_words (T : Tx K mg) : Meth K (He.ga K "Reader") "has_words" (He.ma K (He.ga K "Reader") "has_words") := He.meth_ok (T.fact 118 rfl)
theorem Tx.m_Reader_has_more (T : Tx K mg) : Meth K (He.ga K "Reader") "has_more" (He.ma K (He.ga K "Reader") "has_more") := He.meth_ok (T.fact 119 rfl)
theorem Tx.m_Reader_need_space (T : Tx K mg) : Meth K (He.ga K "Reader") "need_space" (He.ma K (He.ga K "Reader") "need_space") := He.meth_ok (T.fact 120 rfl)
theorem Tx.m_Reader_end_line (T : Tx K mg) : Meth K (He.ga K "Reader") "end_line" (He.ma K (He.ga K "Reader") "end_line") := He.meth_ok (T.fact 121 rfl)
theorem Tx.m_Reader_word_of (T : Tx K mg) : Meth K (He.ga K "Reader") "word_of" (He.ma K (He.ga K "Reader") "word_of") := He.meth_ok (T.fact 122 rfl)
theorem Tx.m_Reader_number_of (T : Tx K mg) : Meth K (He.ga K "Reader") "number_of" (He.ma K (He.ga K "Reader") "number_of") := He.meth_ok (T.fact 123 rfl)
theorem Tx.m_Reader_new_name (T : Tx K mg) : Meth K (He.ga K "Reader") "new_name" (He.ma K (He.ga K "Reader") "new_name") := He.meth_ok (T.fact 124 rfl)
theorem Tx.m_Reader_goes_on (T : Tx K mg) : Meth K (He.ga K "Reader") "goes_on" (He.ma K (He.ga K "Reader") "goes_on") := He.meth_ok (T.fact 125 rfl)
theorem Tx.x_BadName_BadText (T : Tx K mg) : PySem.W.exmOne K (.ref (He.ga K "BadName")) (.ref (He.ga K "BadText")) = some false := He.exm_ok (T.fact 126 rfl)
theorem Tx.x_BadName_BadName (T : Tx K mg) : PySem.W.exmOne K (.ref (He.ga K "BadName")) (.ref (He.ga K "BadName")) = some true := He.exm_ok (T.fact 127 rfl)
theorem Tx.x_BadName_TakenName (T : Tx K mg) : PySem.W.exmOne K (.ref (He.ga K "BadName")) (.ref (He.ga K "TakenName")) = some false := He.exm_ok (T.fact 128 rfl)
theorem Tx.x_BadName_NoSpot (T : Tx K mg) : PySem.W.exmOne K (.ref (He.ga K "BadName")) (.ref (He.ga K "NoSpot")) = some false := He.exm_ok (T.fact 129 rfl)
theorem Tx.x_BadName_NoRoad (T : Tx K mg) : PySem.W.exmOne K (.ref (He.ga K "BadName")) (.ref (He.ga K "NoRoad")) = some false := He.exm_ok (T.fact 130 rfl)
theorem Tx.x_BadName_BadNumber (T : Tx K mg) : PySem.W.exmOne K (.ref (He.ga K "BadName")) (.ref (He.ga K "BadNumber")) = some false := He.exm_ok (T.fact 131 rfl)
theorem Tx.x_BadName_TooMany (T : Tx K mg) : PySem.W.exmOne K (.ref (He.ga K "BadName")) (.ref (He.ga K "TooMany")) = some false := He.exm_ok (T.fact 132 rfl)
theorem Tx.x_BadName_TooLarge (T : Tx K mg) : PySem.W.exmOne K (.ref (He.ga K "BadName")) (.ref (He.ga K "TooLarge")) = some false := He.exm_ok (T.fact 133 rfl)
theorem Tx.x_BadName_BadPlace (T : Tx K mg) : PySem.W.exmOne K (.ref (He.ga K "BadName")) (.ref (He.ga K "BadPlace")) = some false := He.exm_ok (T.fact 134 rfl)
theorem Tx.x_BadName_Unlike (T : Tx K mg) : PySem.W.exmOne K (.ref (He.ga K "BadName")) (.ref (He.ga K "Unlike")) = some false := He.exm_ok (T.fact 135 rfl)
theorem Tx.x_BadName_BadJourney (T : Tx K mg) : PySem.W.exmOne K (.ref (He.ga K "BadName")) (.ref (He.ga K "BadJourney")) = some false := He.exm_ok (T.fact 136 rfl)
theorem Tx.x_BadNumber_BadText (T : Tx K mg) : PySem.W.exmOne K (.ref (He.ga K "BadNumber")) (.ref (He.ga K "BadText")) = some false := He.exm_ok (T.fact 137 rfl)
theorem Tx.x_BadNumber_BadName (T : Tx K mg) : PySem.W.exmOne K (.ref (He.ga K "BadNumber")) (.ref (He.ga K "BadName")) = some false := He.exm_ok (T.fact 138 rfl)
theorem Tx.x_BadNumber_TakenName (T : Tx K mg) : PySem.W.exmOne K (.ref (He.ga K "BadNumber")) (.ref (He.ga K "TakenName")) = some false := He.exm_ok (T.fact 139 rfl)
theorem Tx.x_BadNumber_NoSpot (T : Tx K mg) : PySem.W.exmOne K (.ref (He.ga K "BadNumber")) (.ref (He.ga K "NoSpot")) = some false := He.exm_ok (T.fact 140 rfl)
theorem Tx.x_BadNumber_NoRoad (T : Tx K mg) : PySem.W.exmOne K (.ref (He.ga K "BadNumber")) (.ref (He.ga K "NoRoad")) = some false := He.exm_ok (T.fact 141 rfl)
theorem Tx.x_BadNumber_BadNumber (T : Tx K mg) : PySem.W.exmOne K (.ref (He.ga K "BadNumber")) (.ref (He.ga K "BadNumber")) = some true := He.exm_ok (T.fact 142 rfl)
theorem Tx.x_BadNumber_TooMany (T : Tx K mg) : PySem.W.exmOne K (.ref (He.ga K "BadNumber")) (.ref (He.ga K "TooMany")) = some false := He.exm_ok (T.fact 143 rfl)
theorem Tx.x_BadNumber_TooLarge (T : Tx K mg) : PySem.W.exmOne K (.ref (He.ga K "BadNumber")) (.ref (He.ga K "TooLarge")) = some false := He.exm_ok (T.fact 144 rfl)
theorem Tx.x_BadNumber_BadPlace (T : Tx K mg) : PySem.W.exmOne K (.ref (He.ga K "BadNumber")) (.ref (He.ga K "BadPlace")) = some false := He.exm_ok (T.fact 145 rfl)
theorem Tx.x_BadNumber_Unlike (T : Tx K mg) : PySem.W.exmOne K (.ref (He.ga K "BadNumber")) (.ref (He.ga K "Unlike")) = some false := He.exm_ok (T.fact 146 rfl)
theorem Tx.x_BadNumber_BadJourney (T : Tx K mg) : PySem.W.exmOne K (.ref (He.ga K "BadNumber")) (.ref (He.ga K "BadJourney")) = some false := He.exm_ok (T.fact 147 rfl)
theorem Tx.x_TooMany_BadText (T : Tx K mg) : PySem.W.exmOne K (.ref (He.ga K "TooMany")) (.ref (He.ga K "BadText")) = some false := He.exm_ok (T.fact 148 rfl)
theorem Tx.x_TooMany_BadName (T : Tx K mg) : PySem.W.exmOne K (.ref (He.ga K "TooMany")) (.ref (He.ga K "BadName")) = some false := He.exm_ok (T.fact 149 rfl)
theorem Tx.x_TooMany_TakenName (T : Tx K mg) : PySem.W.exmOne K (.ref (He.ga K "TooMany")) (.ref (He.ga K "TakenName")) = some false := He.exm_ok (T.fact 150 rfl)
theorem Tx.x_TooMany_NoSpot (T : Tx K mg) : PySem.W.exmOne K (.ref (He.ga K "TooMany")) (.ref (He.ga K "NoSpot")) = some false := He.exm_ok (T.fact 151 rfl)
theorem Tx.x_TooMany_NoRoad (T : Tx K mg) : PySem.W.exmOne K (.ref (He.ga K "TooMany")) (.ref (He.ga K "NoRoad")) = some false := He.exm_ok (T.fact 152 rfl)
theorem Tx.x_TooMany_BadNumber (T : Tx K mg) : PySem.W.exmOne K (.ref (He.ga K "TooMany")) (.ref (He.ga K "BadNumber")) = some false := He.exm_ok (T.fact 153 rfl)
theorem Tx.x_TooMany_TooMany (T : Tx K mg) : PySem.W.exmOne K (.ref (He.ga K "TooMany")) (.ref (He.ga K "TooMany")) = some true := He.exm_ok (T.fact 154 rfl)
theorem Tx.x_TooMany_TooLarge (T : Tx K mg) : PySem.W.exmOne K (.ref (He.ga K "TooMany")) (.ref (He.ga K "TooLarge")) = some false := He.exm_ok (T.fact 155 rfl)
theorem Tx.x_TooMany_BadPlace (T : Tx K mg) : PySem.W.exmOne K (.ref (He.ga K "TooMany")) (.ref (He.ga K "BadPlace")) = some false := He.exm_ok (T.fact 156 rfl)
theorem Tx.x_TooMany_Unlike (T : Tx K mg) : PySem.W.exmOne K (.ref (He.ga K "TooMany")) (.ref (He.ga K "Unlike")) = some false := He.exm_ok (T.fact 157 rfl)
theorem Tx.x_TooMany_BadJourney (T : Tx K mg) : PySem.W.exmOne K (.ref (He.ga K "TooMany")) (.ref (He.ga K "BadJourney")) = some false := He.exm_ok (T.fact 158 rfl)
theorem Tx.x_TooLarge_BadText (T : Tx K mg) : PySem.W.exmOne K (.ref (He.ga K "TooLarge")) (.ref (He.ga K "BadText")) = some false := He.exm_ok (T.fact 159 rfl)
theorem Tx.x_TooLarge_BadName (T : Tx K mg) : PySem.W.exmOne K (.ref (He.ga K "TooLarge")) (.ref (He.ga K "BadName")) = some false := He.exm_ok (T.fact 160 rfl)
theorem Tx.x_TooLarge_TakenName (T : Tx K mg) : PySem.W.exmOne K (.ref (He.ga K "TooLarge")) (.ref (He.ga K "TakenName")) = some false := He.exm_ok (T.fact 161 rfl)
theorem Tx.x_TooLarge_NoSpot (T : Tx K mg) : PySem.W.exmOne K (.ref (He.ga K "TooLarge")) (.ref (He.ga K "NoSpot")) = some false := He.exm_ok (T.fact 162 rfl)
theorem Tx.x_TooLarge_NoRoad (T : Tx K mg) : PySem.W.exmOne K (.ref (He.ga K "TooLarge")) (.ref (He.ga K "NoRoad")) = some false := He.exm_ok (T.fact 163 rfl)
theorem Tx.x_TooLarge_BadNumber (T : Tx K mg) : PySem.W.exmOne K (.ref (He.ga K "TooLarge")) (.ref (He.ga K "BadNumber")) = some false := He.exm_ok (T.fact 164 rfl)
theorem Tx.x_TooLarge_TooMany (T : Tx K mg) : PySem.W.exmOne K (.ref (He.ga K "TooLarge")) (.ref (He.ga K "TooMany")) = some false := He.exm_ok (T.fact 165 rfl)
theorem Tx.x_TooLarge_TooLarge (T : Tx K mg) : PySem.W.exmOne K (.ref (He.ga K "TooLarge")) (.ref (He.ga K "TooLarge")) = some true := He.exm_ok (T.fact 166 rfl)
theorem Tx.x_TooLarge_BadPlace (T : Tx K mg) : PySem.W.exmOne K (.ref (He.ga K "TooLarge")) (.ref (He.ga K "BadPlace")) = some false := He.exm_ok (T.fact 167 rfl)
theorem Tx.x_TooLarge_Unlike (T : Tx K mg) : PySem.W.exmOne K (.ref (He.ga K "TooLarge")) (.ref (He.ga K "Unlike")) = some false := He.exm_ok (T.fact 168 rfl)
theorem Tx.x_TooLarge_BadJourney (T : Tx K mg) : PySem.W.exmOne K (.ref (He.ga K "TooLarge")) (.ref (He.ga K "BadJourney")) = some false := He.exm_ok (T.fact 169 rfl)
theorem Tx.d_plus (T : Tx K mg) : ∃ fd, FunD K "plus" "plus" (defArgs s_plus) (defBody s_plus) (defScope s_plus) [] [] (He.fAd K ("plus", none)) fd := T.says.def_ 0 (d := df_plus) rfl
theorem Tx.d_minus (T : Tx K mg) : ∃ fd, FunD K "minus" "minus" (defArgs s_minus) (defBody s_minus) (defScope s_minus) [] [] (He.fAd K ("minus", none)) fd := T.says.def_ 1 (d := df_minus) rfl
theorem Tx.d_is_int (T : Tx K mg) : ∃ fd, FunD K "is_int" "is_int" (defArgs s_is_int) (defBody s_is_int) (defScope s_is_int) [] [] (He.fAd K ("is_int", none)) fd := T.says.def_ 2 (d := df_is_int) rfl
theorem Tx.d_is_cell (T : Tx K mg) : ∃ fd, FunD K "is_cell" "is_cell" (defArgs s_is_cell) (defBody s_is_cell) (defScope s_is_cell) [] [] (He.fAd K ("is_cell", none)) fd := T.says.def_ 3 (d := df_is_cell) rfl
theorem Tx.d_determinant (T : Tx K mg) : ∃ fd, FunD K "determinant" "determinant" (defArgs s_determinant) (defBody s_determinant) (defScope s_determinant) [] [] (He.fAd K ("determinant", none)) fd := T.says.def_ 4 (d := df_determinant) rfl
theorem Tx.d_unapplied (T : Tx K mg) : ∃ fd, FunD K "unapplied" "unapplied" (defArgs s_unapplied) (defBody s_unapplied) (defScope s_unapplied) [] [] (He.fAd K ("unapplied", none)) fd := T.says.def_ 5 (d := df_unapplied) rfl
theorem Tx.d_shares_of (T : Tx K mg) : ∃ fd, FunD K "shares_of" "shares_of" (defArgs s_shares_of) (defBody s_shares_of) (defScope s_shares_of) [] [] (He.fAd K ("shares_of", none)) fd := T.says.def_ 6 (d := df_shares_of) rfl
theorem Tx.d_lattice_of (T : Tx K mg) : ∃ fd, FunD K "lattice_of" "lattice_of" (defArgs s_lattice_of) (defBody s_lattice_of) (defScope s_lattice_of) [] [] (He.fAd K ("lattice_of", none)) fd := T.says.def_ 7 (d := df_lattice_of) rfl
theorem Tx.d_remainder_of (T : Tx K mg) : ∃ fd, FunD K "remainder_of" "remainder_of" (defArgs s_remainder_of) (defBody s_remainder_of) (defScope s_remainder_of) [] [] (He.fAd K ("remainder_of", none)) fd := T.says.def_ 8 (d := df_remainder_of) rfl
theorem Tx.d_is_name (T : Tx K mg) : ∃ fd, FunD K "is_name" "is_name" (defArgs s_is_name) (defBody s_is_name) (defScope s_is_name) [] [] (He.fAd K ("is_name", none)) fd := T.says.def_ 9 (d := df_is_name) rfl
theorem Tx.d_line_of (T : Tx K mg) : ∃ fd, FunD K "line_of" "line_of" (defArgs s_line_of) (defBody s_line_of) (defScope s_line_of) [] [] (He.fAd K ("line_of", none)) fd := T.says.def_ 10 (d := df_line_of) rfl
theorem Tx.d_text_of (T : Tx K mg) : ∃ fd, FunD K "text_of" "text_of" (defArgs s_text_of) (defBody s_text_of) (defScope s_text_of) [] [] (He.fAd K ("text_of", none)) fd := T.says.def_ 11 (d := df_text_of) rfl
theorem Tx.d_read_shift (T : Tx K mg) : ∃ fd, FunD K "read_shift" "read_shift" (defArgs s_read_shift) (defBody s_read_shift) (defScope s_read_shift) [] [] (He.fAd K ("read_shift", none)) fd := T.says.def_ 12 (d := df_read_shift) rfl
theorem Tx.d_read_road (T : Tx K mg) : ∃ fd, FunD K "read_road" "read_road" (defArgs s_read_road) (defBody s_read_road) (defScope s_read_road) [.bl true] [] (He.fAd K ("read_road", none)) fd := T.says.def_ 13 (d := df_read_road) rfl
theorem Tx.d_read_map (T : Tx K mg) : ∃ fd, FunD K "read_map" "read_map" (defArgs s_read_map) (defBody s_read_map) (defScope s_read_map) [] [] (He.fAd K ("read_map", none)) fd := T.says.def_ 14 (d := df_read_map) rfl
theorem Tx.d_check_shift (T : Tx K mg) : ∃ fd, FunD K "check_shift" "check_shift" (defArgs s_check_shift) (defBody s_check_shift) (defScope s_check_shift) [] [] (He.fAd K ("check_shift", none)) fd := T.says.def_ 15 (d := df_check_shift) rfl
theorem Tx.d_check_price (T : Tx K mg) : ∃ fd, FunD K "check_price" "check_price" (defArgs s_check_price) (defBody s_check_price) (defScope s_check_price) [] [] (He.fAd K ("check_price", none)) fd := T.says.def_ 16 (d := df_check_price) rfl
theorem Tx.d_check_new (T : Tx K mg) : ∃ fd, FunD K "check_new" "check_new" (defArgs s_check_new) (defBody s_check_new) (defScope s_check_new) [] [] (He.fAd K ("check_new", none)) fd := T.says.def_ 17 (d := df_check_new) rfl
theorem Tx.d_check_road (T : Tx K mg) : ∃ fd, FunD K "check_road" "check_road" (defArgs s_check_road) (defBody s_check_road) (defScope s_check_road) [] [] (He.fAd K ("check_road", none)) fd := T.says.def_ 18 (d := df_check_road) rfl
theorem Tx.d_check_many (T : Tx K mg) : ∃ fd, FunD K "check_many" "check_many" (defArgs s_check_many) (defBody s_check_many) (defScope s_check_many) [] [] (He.fAd K ("check_many", none)) fd := T.says.def_ 19 (d := df_check_many) rfl
theorem Tx.d_map_of (T : Tx K mg) : ∃ fd, FunD K "map_of" "map_of" (defArgs s_map_of) (defBody s_map_of) (defScope s_map_of) [] [] (He.fAd K ("map_of", none)) fd := T.says.def_ 20 (d := df_map_of) rfl
theorem Tx.d_number_name (T : Tx K mg) : ∃ fd, FunD K "number_name" "number_name" (defArgs s_number_name) (defBody s_number_name) (defScope s_number_name) [] [] (He.fAd K ("number_name", none)) fd := T.says.def_ 21 (d := df_number_name) rfl
theorem Tx.d_widened (T : Tx K mg) : ∃ fd, FunD K "widened" "widened" (defArgs s_widened) (defBody s_widened) (defScope s_widened) [] [] (He.fAd K ("widened", none)) fd := T.says.def_ 22 (d := df_widened) rfl
theorem Tx.d_widening (T : Tx K mg) : ∃ fd, FunD K "widening" "widening" (defArgs s_widening) (defBody s_widening) (defScope s_widening) [] [] (He.fAd K ("widening", none)) fd := T.says.def_ 23 (d := df_widening) rfl
theorem Tx.d__law_pen (T : Tx K mg) : ∃ fd, FunD K "_law_pen" "_law_pen" (defArgs s__law_pen) (defBody s__law_pen) (defScope s__law_pen) [] [] (He.fAd K ("_law_pen", none)) fd := T.says.def_ 24 (d := df__law_pen) rfl
theorem Tx.d__law_draw (T : Tx K mg) : ∃ fd, FunD K "_law_draw" "_law_draw" (defArgs s__law_draw) (defBody s__law_draw) (defScope s__law_draw) [] [] (He.fAd K ("_law_draw", none)) fd := T.says.def_ 25 (d := df__law_draw) rfl
theorem Tx.d__law_pick (T : Tx K mg) : ∃ fd, FunD K "_law_pick" "_law_pick" (defArgs s__law_pick) (defBody s__law_pick) (defScope s__law_pick) [] [] (He.fAd K ("_law_pick", none)) fd := T.says.def_ 26 (d := df__law_pick) rfl
theorem Tx.d__law_plus (T : Tx K mg) : ∃ fd, FunD K "_law_plus" "_law_plus" (defArgs s__law_plus) (defBody s__law_plus) (defScope s__law_plus) [] [] (He.fAd K ("_law_plus", none)) fd := T.says.def_ 27 (d := df__law_plus) rfl
theorem Tx.d__law_is_int (T : Tx K mg) : ∃ fd, FunD K "_law_is_int" "_law_is_int" (defArgs s__law_is_int) (defBody s__law_is_int) (defScope s__law_is_int) [] [] (He.fAd K ("_law_is_int", none)) fd := T.says.def_ 28 (d := df__law_is_int) rfl
theorem Tx.d__law_is_cell (T : Tx K mg) : ∃ fd, FunD K "_law_is_cell" "_law_is_cell" (defArgs s__law_is_cell) (defBody s__law_is_cell) (defScope s__law_is_cell) [] [] (He.fAd K ("_law_is_cell", none)) fd := T.says.def_ 29 (d := df__law_is_cell) rfl
theorem Tx.d__law_land_text (T : Tx K mg) : ∃ fd, FunD K "_law_land_text" "_law_land_text" (defArgs s__law_land_text) (defBody s__law_land_text) (defScope s__law_land_text) [] [] (He.fAd K ("_law_land_text", none)) fd := T.says.def_ 30 (d := df__law_land_text) rfl
theorem Tx.d__law_name_row (T : Tx K mg) : ∃ fd, FunD K "_law_name_row" "_law_name_row" (defArgs s__law_name_row) (defBody s__law_name_row) (defScope s__law_name_row) [] [] (He.fAd K ("_law_name_row", none)) fd := T.says.def_ 31 (d := df__law_name_row) rfl
theorem Tx.d__law_shift (T : Tx K mg) : ∃ fd, FunD K "_law_shift" "_law_shift" (defArgs s__law_shift) (defBody s__law_shift) (defScope s__law_shift) [] [] (He.fAd K ("_law_shift", none)) fd := T.says.def_ 32 (d := df__law_shift) rfl
theorem Tx.d__law_land (T : Tx K mg) : ∃ fd, FunD K "_law_land" "_law_land" (defArgs s__law_land) (defBody s__law_land) (defScope s__law_land) [] [] (He.fAd K ("_law_land", none)) fd := T.says.def_ 33 (d := df__law_land) rfl
theorem Tx.d__law_fault (T : Tx K mg) : ∃ fd, FunD K "_law_fault" "_law_fault" (defArgs s__law_fault) (defBody s__law_fault) (defScope s__law_fault) [] [] (He.fAd K ("_law_fault", none)) fd := T.says.def_ 34 (d := df__law_fault) rfl
theorem Tx.d__law_same (T : Tx K mg) : ∃ fd, FunD K "_law_same" "_law_same" (defArgs s__law_same) (defBody s__law_same) (defScope s__law_same) [] [] (He.fAd K ("_law_same", none)) fd := T.says.def_ 35 (d := df__law_same) rfl
theorem Tx.d__law_any_name (T : Tx K mg) : ∃ fd, FunD K "_law_any_name" "_law_any_name" (defArgs s__law_any_name) (defBody s__law_any_name) (defScope s__law_any_name) [] [] (He.fAd K ("_law_any_name", none)) fd := T.says.def_ 36 (d := df__law_any_name) rfl
theorem Tx.d__law_any_shift (T : Tx K mg) : ∃ fd, FunD K "_law_any_shift" "_law_any_shift" (defArgs s__law_any_shift) (defBody s__law_any_shift) (defScope s__law_any_shift) [] [] (He.fAd K ("_law_any_shift", none)) fd := T.says.def_ 37 (d := df__law_any_shift) rfl
theorem Tx.d__law_any_road (T : Tx K mg) : ∃ fd, FunD K "_law_any_road" "_law_any_road" (defArgs s__law_any_road) (defBody s__law_any_road) (defScope s__law_any_road) [] [] (He.fAd K ("_law_any_road", none)) fd := T.says.def_ 38 (d := df__law_any_road) rfl
theorem Tx.d__law_any_land (T : Tx K mg) : ∃ fd, FunD K "_law_any_land" "_law_any_land" (defArgs s__law_any_land) (defBody s__law_any_land) (defScope s__law_any_land) [] [] (He.fAd K ("_law_any_land", none)) fd := T.says.def_ 39 (d := df__law_any_land) rfl
theorem Tx.d__law_rows_of (T : Tx K mg) : ∃ fd, FunD K "_law_rows_of" "_law_rows_of" (defArgs s__law_rows_of) (defBody s__law_rows_of) (defScope s__law_rows_of) [] [] (He.fAd K ("_law_rows_of", none)) fd := T.says.def_ 40 (d := df__law_rows_of) rfl
theorem Tx.d__law_is_land (T : Tx K mg) : ∃ fd, FunD K "_law_is_land" "_law_is_land" (defArgs s__law_is_land) (defBody s__law_is_land) (defScope s__law_is_land) [] [] (He.fAd K ("_law_is_land", none)) fd := T.says.def_ 41 (d := df__law_is_land) rfl
theorem Tx.d__law_is_name (T : Tx K mg) : ∃ fd, FunD K "_law_is_name" "_law_is_name" (defArgs s__law_is_name) (defBody s__law_is_name) (defScope s__law_is_name) [] [] (He.fAd K ("_law_is_name", none)) fd := T.says.def_ 42 (d := df__law_is_name) rfl
theorem Tx.d__law_road_fault (T : Tx K mg) : ∃ fd, FunD K "_law_road_fault" "_law_road_fault" (defArgs s__law_road_fault) (defBody s__law_road_fault) (defScope s__law_road_fault) [] [] (He.fAd K ("_law_road_fault", none)) fd := T.says.def_ 43 (d := df__law_road_fault) rfl
theorem Tx.d__law_land_fault (T : Tx K mg) : ∃ fd, FunD K "_law_land_fault" "_law_land_fault" (defArgs s__law_land_fault) (defBody s__law_land_fault) (defScope s__law_land_fault) [] [] (He.fAd K ("_law_land_fault", none)) fd := T.says.def_ 44 (d := df__law_land_fault) rfl
theorem Tx.d__law_made_right (T : Tx K mg) : ∃ fd, FunD K "_law_made_right" "_law_made_right" (defArgs s__law_made_right) (defBody s__law_made_right) (defScope s__law_made_right) [] [] (He.fAd K ("_law_made_right", none)) fd := T.says.def_ 45 (d := df__law_made_right) rfl
theorem Tx.d__law_applied (T : Tx K mg) : ∃ fd, FunD K "_law_applied" "_law_applied" (defArgs s__law_applied) (defBody s__law_applied) (defScope s__law_applied) [] [] (He.fAd K ("_law_applied", none)) fd := T.says.def_ 46 (d := df__law_applied) rfl
theorem Tx.d__law_determinant (T : Tx K mg) : ∃ fd, FunD K "_law_determinant" "_law_determinant" (defArgs s__law_determinant) (defBody s__law_determinant) (defScope s__law_determinant) [] [] (He.fAd K ("_law_determinant", none)) fd := T.says.def_ 47 (d := df__law_determinant) rfl
theorem Tx.d__law_product (T : Tx K mg) : ∃ fd, FunD K "_law_product" "_law_product" (defArgs s__law_product) (defBody s__law_product) (defScope s__law_product) [] [] (He.fAd K ("_law_product", none)) fd := T.says.def_ 48 (d := df__law_product) rfl
theorem Tx.d__law_unimodular (T : Tx K mg) : ∃ fd, FunD K "_law_unimodular" "_law_unimodular" (defArgs s__law_unimodular) (defBody s__law_unimodular) (defScope s__law_unimodular) [] [] (He.fAd K ("_law_unimodular", none)) fd := T.says.def_ 49 (d := df__law_unimodular) rfl
theorem Tx.d__law_lattice_cell (T : Tx K mg) : ∃ fd, FunD K "_law_lattice_cell" "_law_lattice_cell" (defArgs s__law_lattice_cell) (defBody s__law_lattice_cell) (defScope s__law_lattice_cell) [] [] (He.fAd K ("_law_lattice_cell", none)) fd := T.says.def_ 50 (d := df__law_lattice_cell) rfl
theorem Tx.d__law_gcd (T : Tx K mg) : ∃ fd, FunD K "_law_gcd" "_law_gcd" (defArgs s__law_gcd) (defBody s__law_gcd) (defScope s__law_gcd) [] [] (He.fAd K ("_law_gcd", none)) fd := T.says.def_ 51 (d := df__law_gcd) rfl
theorem Tx.d__law_remainders (T : Tx K mg) : ∃ fd, FunD K "_law_remainders" "_law_remainders" (defArgs s__law_remainders) (defBody s__law_remainders) (defScope s__law_remainders) [] [] (He.fAd K ("_law_remainders", none)) fd := T.says.def_ 52 (d := df__law_remainders) rfl
theorem Tx.d__law_wide_land (T : Tx K mg) : ∃ fd, FunD K "_law_wide_land" "_law_wide_land" (defArgs s__law_wide_land) (defBody s__law_wide_land) (defScope s__law_wide_land) [] [] (He.fAd K ("_law_wide_land", none)) fd := T.says.def_ 53 (d := df__law_wide_land) rfl
theorem Tx.d__law_drawn_matrix (T : Tx K mg) : ∃ fd, FunD K "_law_drawn_matrix" "_law_drawn_matrix" (defArgs s__law_drawn_matrix) (defBody s__law_drawn_matrix) (defScope s__law_drawn_matrix) [] [] (He.fAd K ("_law_drawn_matrix", none)) fd := T.says.def_ 54 (d := df__law_drawn_matrix) rfl
theorem Tx.d__law_too_large_right (T : Tx K mg) : ∃ fd, FunD K "_law_too_large_right" "_law_too_large_right" (defArgs s__law_too_large_right) (defBody s__law_too_large_right) (defScope s__law_too_large_right) [] [] (He.fAd K ("_law_too_large_right", none)) fd := T.says.def_ 55 (d := df__law_too_large_right) rfl
theorem Tx.d_law (T : Tx K mg) : ∃ fd, FunD K "law" "law" (defArgs s_law) (defBody s_law) (defScope s_law) [] [] (He.fAd K ("law", none)) fd := T.says.def_ 56 (d := df_law) rfl
theorem Tx.d_Reader___init__ (T : Tx K mg) : ∃ fd, FunD K "__init__" "Reader.__init__" (defArgs s_Reader___init__) (defBody s_Reader___init__) (defScope s_Reader___init__) [] [] (He.fAd K ("Reader", some "__init__")) fd := T.says.def_ 57 (d := df_Reader___init__) rfl
theorem Tx.d_Reader_seen (T : Tx K mg) : ∃ fd, FunD K "seen" "Reader.seen" (defArgs s_Reader_seen) (defBody s_Reader_seen) (defScope s_Reader_seen) [] [] (He.fAd K ("Reader", some "seen")) fd := T.says.def_ 58 (d := df_Reader_seen) rfl
theorem Tx.d_Reader_skip (T : Tx K mg) : ∃ fd, FunD K "skip" "Reader.skip" (defArgs s_Reader_skip) (defBody s_Reader_skip) (defScope s_Reader_skip) [] [] (He.fAd K ("Reader", some "skip")) fd := T.says.def_ 59 (d := df_Reader_skip) rfl
theorem Tx.d_Reader_has_words (T : Tx K mg) : ∃ fd, FunD K "has_words" "Reader.has_words" (defArgs s_Reader_has_words) (defBody s_Reader_has_words) (defScope s_Reader_has_words) [] [] (He.fAd K ("Reader", some "has_words")) fd := T.says.def_ 60 (d := df_Reader_has_words) rfl
theorem Tx.d_Reader_has_more (T : Tx K mg) : ∃ fd, FunD K "has_more" "Reader.has_more" (defArgs s_Reader_has_more) (defBody s_Reader_has_more) (defScope s_Reader_has_more) [] [] (He.fAd K ("Reader", some "has_more")) fd := T.says.def_ 61 (d := df_Reader_has_more) rfl
theorem Tx.d_Reader_need_space (T : Tx K mg) : ∃ fd, FunD K "need_space" "Reader.need_space" (defArgs s_Reader_need_space) (defBody s_Reader_need_space) (defScope s_Reader_need_space) [] [] (He.fAd K ("Reader", some "need_space")) fd := T.says.def_ 62 (d := df_Reader_need_space) rfl
theorem Tx.d_Reader_end_line (T : Tx K mg) : ∃ fd, FunD K "end_line" "Reader.end_line" (defArgs s_Reader_end_line) (defBody s_Reader_end_line) (defScope s_Reader_end_line) [] [] (He.fAd K ("Reader", some "end_line")) fd := T.says.def_ 63 (d := df_Reader_end_line) rfl
theorem Tx.d_Reader_word_of (T : Tx K mg) : ∃ fd, FunD K "word_of" "Reader.word_of" (defArgs s_Reader_word_of) (defBody s_Reader_word_of) (defScope s_Reader_word_of) [] [] (He.fAd K ("Reader", some "word_of")) fd := T.says.def_ 64 (d := df_Reader_word_of) rfl
theorem Tx.d_Reader_number_of (T : Tx K mg) : ∃ fd, FunD K "number_of" "Reader.number_of" (defArgs s_Reader_number_of) (defBody s_Reader_number_of) (defScope s_Reader_number_of) [] [] (He.fAd K ("Reader", some "number_of")) fd := T.says.def_ 65 (d := df_Reader_number_of) rfl
theorem Tx.d_Reader_new_name (T : Tx K mg) : ∃ fd, FunD K "new_name" "Reader.new_name" (defArgs s_Reader_new_name) (defBody s_Reader_new_name) (defScope s_Reader_new_name) [.bl true] [] (He.fAd K ("Reader", some "new_name")) fd := T.says.def_ 66 (d := df_Reader_new_name) rfl
theorem Tx.d_Reader_goes_on (T : Tx K mg) : ∃ fd, FunD K "goes_on" "Reader.goes_on" (defArgs s_Reader_goes_on) (defBody s_Reader_goes_on) (defScope s_Reader_goes_on) [] [] (He.fAd K ("Reader", some "goes_on")) fd := T.says.def_ 67 (d := df_Reader_goes_on) rfl
theorem Tx.d_Road___init__ (T : Tx K mg) : ∃ fd, FunD K "__init__" "Road.__init__" (defArgs s_Road___init__) (defBody s_Road___init__) (defScope s_Road___init__) [.non] [] (He.fAd K ("Road", some "__init__")) fd := T.says.def_ 68 (d := df_Road___init__) rfl
theorem Tx.d_Map___init__ (T : Tx K mg) : ∃ fd, FunD K "__init__" "Map.__init__" (defArgs s_Map___init__) (defBody s_Map___init__) (defScope s_Map___init__) [.non] [] (He.fAd K ("Map", some "__init__")) fd := T.says.def_ 69 (d := df_Map___init__) rfl
theorem Tx.d_Matching___init__ (T : Tx K mg) : ∃ fd, FunD K "__init__" "Matching.__init__" (defArgs s_Matching___init__) (defBody s_Matching___init__) (defScope s_Matching___init__) [] [] (He.fAd K ("Matching", some "__init__")) fd := T.says.def_ 70 (d := df_Matching___init__) rfl
theorem Tx.d_BadName___init__ (T : Tx K mg) : ∃ fd, FunD K "__init__" "BadName.__init__" (defArgs s_BadName___init__) (defBody s_BadName___init__) (defScope s_BadName___init__) [] [] (He.fAd K ("BadName", some "__init__")) fd := T.says.def_ 71 (d := df_BadName___init__) rfl
theorem Tx.d_BadNumber___init__ (T : Tx K mg) : ∃ fd, FunD K "__init__" "BadNumber.__init__" (defArgs s_BadNumber___init__) (defBody s_BadNumber___init__) (defScope s_BadNumber___init__) [] [] (He.fAd K ("BadNumber", some "__init__")) fd := T.says.def_ 72 (d := df_BadNumber___init__) rfl
theorem Tx.d_TooMany___init__ (T : Tx K mg) : ∃ fd, FunD K "__init__" "TooMany.__init__" (defArgs s_TooMany___init__) (defBody s_TooMany___init__) (defScope s_TooMany___init__) [] [] (He.fAd K ("TooMany", some "__init__")) fd := T.says.def_ 73 (d := df_TooMany___init__) rfl
theorem Tx.d_TooLarge___init__ (T : Tx K mg) : ∃ fd, FunD K "__init__" "TooLarge.__init__" (defArgs s_TooLarge___init__) (defBody s_TooLarge___init__) (defScope s_TooLarge___init__) [] [] (He.fAd K ("TooLarge", some "__init__")) fd := T.says.def_ 74 (d := df_TooLarge___init__) rfl
theorem Tx.e0 (T : Tx K mg) : (jeB K (He.ga K "JourneyError")) = true := T.exs 0 rfl
theorem Tx.e1 (T : Tx K mg) : (decide (PySem.W.nsIn K cStatics "sys.int_max_str_digits" = some none)) = true := T.exs 1 rfl
theorem Tx.e19 (T : Tx K mg) : (insB K (He.ga K "Map")) = true := T.exs 19 rfl
theorem Tx.e20 (T : Tx K mg) : (insB K (He.ga K "Matching")) = true := T.exs 20 rfl
theorem Tx.e21 (T : Tx K mg) : (insB K (He.ga K "BadName")) = true := T.exs 21 rfl
theorem Tx.e22 (T : Tx K mg) : (decide ((He.cT K ("law", none)).2 ≠ (He.cT K ("_law_too_large_right", none)).2)) = true := T.exs 22 rfl
theorem Tx.e2 (T : Tx K mg) : (oexB K (He.ga K "BadName")) = true := T.exs 2 rfl
theorem Tx.e3 (T : Tx K mg) : (initB K (He.ga K "BadName")) = true := T.exs 3 rfl
theorem Tx.e4 (T : Tx K mg) : (noB K (He.ga K "BadName") "name") = true := T.exs 4 rfl
theorem Tx.e5 (T : Tx K mg) : (oexB K (He.ga K "BadNumber")) = true := T.exs 5 rfl
theorem Tx.e6 (T : Tx K mg) : (initB K (He.ga K "BadNumber")) = true := T.exs 6 rfl
theorem Tx.e7 (T : Tx K mg) : (noB K (He.ga K "BadNumber") "what") = true := T.exs 7 rfl
theorem Tx.e8 (T : Tx K mg) : (noB K (He.ga K "BadNumber") "number") = true := T.exs 8 rfl
theorem Tx.e9 (T : Tx K mg) : (oexB K (He.ga K "TooMany")) = true := T.exs 9 rfl
theorem Tx.e10 (T : Tx K mg) : (initB K (He.ga K "TooMany")) = true := T.exs 10 rfl
theorem Tx.e11 (T : Tx K mg) : (noB K (He.ga K "TooMany") "what") = true := T.exs 11 rfl
theorem Tx.e12 (T : Tx K mg) : (noB K (He.ga K "TooMany") "many") = true := T.exs 12 rfl
theorem Tx.e13 (T : Tx K mg) : (noB K (He.ga K "TooMany") "limit") = true := T.exs 13 rfl
theorem Tx.e14 (T : Tx K mg) : (oexB K (He.ga K "TooLarge")) = true := T.exs 14 rfl
theorem Tx.e15 (T : Tx K mg) : (initB K (He.ga K "TooLarge")) = true := T.exs 15 rfl
theorem Tx.e16 (T : Tx K mg) : (noB K (He.ga K "TooLarge") "what") = true := T.exs 16 rfl
theorem Tx.e17 (T : Tx K mg) : (noB K (He.ga K "TooLarge") "number") = true := T.exs 17 rfl
theorem Tx.e18 (T : Tx K mg) : (noB K (He.ga K "TooLarge") "limit") = true := T.exs 18 rfl
end
end J
set_option Elab.async false
set_option linter.all false
set_option maxRecDepth 100000
set_option maxHeartbeats 0
namespace J
open PySem PySem.Spec PyProof.Rows L2
abbrev R : PySem.W.OpenRow := PySem.W.OpenLaw.row PySem.Challenge.rw_alljourneys_k19_whole_widened_maps
def ob (s : PySem.W.SharedT) : AlJ := obsJ (HandSHeadRun.getT s)
theorem ob_eq (s : PySem.W.SharedT) : ob s = hookJ.obs s.abs := by
  have e : HandSHeadRun.getT s = s.abs.heap.get? := funext (HandSHeadRun.getT_eq s)
  show obsJ (HandSHeadRun.getT s) = obsJ s.abs.heap.get?
  rw [e]
def l1 : List Str := ["_wall", "plus", "minus", "is_int", "is_cell", "JourneyError", "BadText", "BadName", "BadNumber", "BadPlace", "BadJourney", "NoSpot", "NoRoad", "TakenName", "TooMany", "TooLarge", "Unlike", "determinant", "unapplied", "shares_of", "lattice_of", "remainder_of", "LETTERS", "SIGNS", "MOST_SIGNS", "is_name", "Reader"]
def l2 : List Str := ["MOST_SPOTS", "MOST_ROADS", "MOST_SHIFT", "MOST_PRICE", "Road", "line_of", "text_of", "read_shift", "read_road", "read_map", "Map", "check_shift", "check_price", "check_new", "check_road", "check_many", "map_of", "number_name", "widened", "Matching", "widening"]
def l3 : List Str := ["_law_pen", "_law_draw", "_law_pick", "_law_plus", "_law_is_int", "_law_is_cell", "_law_land_text", "_law_name_row", "_law_shift", "_law_land", "_law_fault", "_law_same", "_law_any_name", "_law_any_shift", "_law_any_road", "_law_any_land", "_law_rows_of", "_law_is_land", "_law_is_name", "_law_road_fault", "_law_land_fault", "_law_made_right", "_law_applied", "_law_determinant", "_law_product", "_law_unimodular", "_law_lattice_cell", "_law_gcd", "_law_remainders", "_law_wide_land", "_law_drawn_matrix", "_law_too_large_right"]
def names : List Str := l1 ++ l2 ++ l3
theorem run (w : World) : HandSHeadRun.RunEq R (PySem.W.view R.prog [88]) hookJ ob 40000 names w := by
  intro os
  kernel_rfl
end J
set_option Elab.async false
set_option linter.all false
set_option maxRecDepth 100000
set_option maxHeartbeats 4000000
/-! JB: a def by one hypothesis; cells, matrices. -/
namespace J
open PySem PySem.Spec PyProof.Rows L2
/-! ### callees by one hypothesis -/
structure Cl (P : Program) (w : World) (K : PySem.W.Frag) (mg : Str → Option Value) (base : Heap) (CX : CXT) (k : Nat) (x : Str) (sp : Sp) (dvs : List V) : Prop where
  ex : ∃ (f : Addr) (fd : FuncData) (ps : List Str) (ds : List Value), FnOk P w K mg base CX k f fd ps sp ∧ mg x = some (.ref f) ∧ PySem.W.keepIn K (.ref f) = true ∧ Binds K fd ps ds ∧ Vals dvs ds
structure Ml (P : Program) (w : World) (K : PySem.W.Frag) (mg : Str → Option Value) (base : Heap) (CX : CXT) (k : Nat) (C : Addr) (m : Str) (sp : Sp) (dvs : List V) : Prop where
  ex : ∃ (f : Addr) (fd : FuncData) (ps : List Str) (ds : List Value), Cls K C ∧ Meth K C m f ∧ FnOk P w K mg base CX k f fd ps sp ∧ Binds K fd ps ds ∧ Vals dvs ds
structure Mm (P : Program) (w : World) (K : PySem.W.Frag) (mg : Str → Option Value) (base : Heap) (CX : CXT) (k : Nat) (x : Str) (C : Addr) (sp : Sp) (dvs : List V) : Prop where
  ex : ∃ (f : Addr) (fd : FuncData) (ps : List Str) (ds : List Value), Mk K C f ∧ FnOk P w K mg base CX k f fd ps sp ∧ mg x = some (.ref C) ∧ Binds K fd ps ds ∧ Vals dvs ds
section
variable {X : Cx} {CX : CXT} {k j : Nat} {C : Addr} {x m : Str} {sp : Sp} {dvs : List V} {E : XK} {p pos apos : Pos} {e o : Expr} {es : List Expr} {ta : TE} {t : TA}
theorem pe_cl (c : Cl X.prog X.w X.K X.mg X.base CX k x sp dvs) (hr : Room j X.A) (hx : Passes CX X E) (ha : PA X (e :: es) t) (hk : k ≤ j := by decide) (hg : Gl X x := by rfl)
    (hdb : (x == ("__debug__" : Str)) = false := by decide) (he : starEach (e :: es) X.env = (false, eval e X.env) :: starEach es X.env := by rfl) (hpl : (backTo pos (starEach es X.env)).any (·.1) = false := by rfl) :
    PE X (.Call (.Name x p) (e :: es) [] pos) (tCall sp dvs E t) := by
  obtain ⟨f, fd, ps, ds, F, hm, kp, b, d⟩ := c.ex
  exact pe_call F (hr.mono hk) hg hm kp b d hx ha hdb he hpl
theorem pe_mm (c : Mm X.prog X.w X.K X.mg X.base CX k x C sp dvs) (hr : Room j X.A) (hx : Passes CX X E) (ha : PA X (e :: es) t) (hk : k + 1 ≤ j := by decide) (hg : Gl X x := by rfl)
    (hdb : (x == ("__debug__" : Str)) = false := by decide) (he : starEach (e :: es) X.env = (false, eval e X.env) :: starEach es X.env := by rfl) (hpl : (backTo pos (starEach es X.env)).any (·.1) = false := by rfl) :
    PE X (.Call (.Name x p) (e :: es) [] pos) (tMake C sp dvs E t) := by
  obtain ⟨f, fd, ps, ds, M, F, hm, b, d⟩ := c.ex
  exact pe_make M F (hr.mono hk) hg hm b d hx ha hdb he hpl
theorem pe_ml {pl : Sem Bool} (c : Ml X.prog X.w X.K X.mg X.base CX k C m sp dvs) (hr : Room j X.A) (hx : Passes CX X E) (he : PE X o ta) (ha : PA X (e :: es) t) (hk : k ≤ j := by decide)
    (hst : starEach (e :: es) X.env = (false, eval e X.env) :: starEach es X.env := by rfl) (hpl : (backTo pos (starEach es X.env)).any (·.1) = false := by rfl)
    (ht : eval (.Call (.Attribute o m apos) (e :: es) [] pos) X.env = (do
      let ov ← eval o X.env
      standAt apos.atName
      let (f, first) ← holding [ov] (getMethod ov m pl)
      callWith pos f first (backTo pos (starEach (e :: es) X.env)) (backToKw pos (keywordEach [] X.env))) := by rfl) :
    PE X (.Call (.Attribute o m apos) (e :: es) [] pos) (tMeth C m sp dvs E ta t) := by
  obtain ⟨f, fd, ps, ds, hc, hm, F, b, d⟩ := c.ex
  exact pe_meth (pl := pl) he hc hm F (hr.mono hk) b d hx ha hst hpl ht
theorem pe_ml0 {pl : Sem Bool} (c : Ml X.prog X.w X.K X.mg X.base CX k C m sp dvs) (hr : Room j X.A) (hx : Passes CX X E) (he : PE X o ta) (hk : k ≤ j := by decide)
    (ht : eval (.Call (.Attribute o m apos) [] [] pos) X.env = (do
      let ov ← eval o X.env
      standAt apos.atName
      let (f, first) ← holding [ov] (getMethod ov m pl)
      callWith pos f first (backTo pos (starEach [] X.env)) (backToKw pos (keywordEach [] X.env))) := by rfl) :
    PE X (.Call (.Attribute o m apos) [] [] pos) (tMeth C m sp dvs E ta tNil) := by
  obtain ⟨f, fd, ps, ds, hc, hm, F, b, d⟩ := c.ex
  exact pe_meth0 (pl := pl) he hc hm F (hr.mono hk) b d hx ht
end
section
variable {P : Program} {w : World} {K : PySem.W.Frag} {mg : Str → Option Value} {base : Heap}
/-- a def that lets nothing out -/
theorem FunD.cl0 {x qual : Str} {st : Stmt} {dvs : List V} {f : Addr} {fd : FuncData} {N ps : List Str} {k : Nat} {sp : Sp} (F : FunD K x qual (defArgs st) (defBody st) (defScope st) dvs [] f fd) (S : FnScope N ps (defScope st)) (len : ∀ vs H Q E, sp vs H Q E → vs.length = ps.length)
    (hbody : ∀ (cdv : Value) (A : Around) (outer : List Env) (s : Shared) (H : Hp) (vs : List V) (Q : VK) (E : XK), Room k (A.deeper (envOfC qual (defScope st) s.heap.objs.size f cdv)) → sp vs H Q E →
      ∃ t, PSs (cxOf CX0 P w K mg base N qual (defScope st) f cdv A outer s H E).nox (defBody st) t ∧ t { nx := fun _ H' => Q .non H', rt := Q } (start N vs) H) : FnOk P w K mg base CX0 (k + 1) f fd ps sp :=
  FunD.ok F S len fun cdv A outer s H vs Q E hr h => let ⟨t, a, b⟩ := hbody cdv A outer s H vs Q E hr h; ⟨t, a.nox, b⟩
/-- the same, named -/
theorem cl_of {CX : CXT} {x : Str} {st : Stmt} {f : Addr} {fd : FuncData} {ps : List Str} {k : Nat} {sp : Sp} (F : FunD K x x (defArgs st) (defBody st) (defScope st) [] [] f fd) (hm : mg x = some (.ref f)) (G : FnOk P w K mg base CX k f fd ps sp)
    (h : ∀ (kV doc pm : Value) (an : Option Addr) (cdv ct : Value) (us : List Value), us.length = ps.length → bindArgs (PySem.W.fnOf x x (defArgs st) (defBody st) (defScope st) .none kV doc pm an cdv ct) ⟨us, []⟩ = pure (ps.zip us)) : Cl P w K mg base CX k x sp [] :=
  ⟨f, fd, ps, [], G, hm, F.kp, FunD.bindsN F h, .nil⟩
theorem ml_of {CX : CXT} {m qual : Str} {C : Addr} {st : Stmt} {f : Addr} {fd : FuncData} {ps : List Str} {k : Nat} {sp : Sp} (F : FunD K m qual (defArgs st) (defBody st) (defScope st) [] [] f fd) (c : Cls K C) (hm : Meth K C m f) (G : FnOk P w K mg base CX k f fd ps sp)
    (h : ∀ (kV doc pm : Value) (an : Option Addr) (cdv ct : Value) (us : List Value), us.length = ps.length → bindArgs (PySem.W.fnOf m qual (defArgs st) (defBody st) (defScope st) .none kV doc pm an cdv ct) ⟨us, []⟩ = pure (ps.zip us)) : Ml P w K mg base CX k C m sp [] :=
  ⟨f, fd, ps, [], c, hm, G, FunD.bindsN F h, .nil⟩
theorem mm_of {CX : CXT} {x qual : Str} {C : Addr} {st : Stmt} {f : Addr} {fd : FuncData} {ps : List Str} {k : Nat} {sp : Sp} (F : FunD K "__init__" qual (defArgs st) (defBody st) (defScope st) [] [] f fd) (M : Mk K C f) (hm : mg x = some (.ref C)) (G : FnOk P w K mg base CX k f fd ps sp)
    (h : ∀ (kV doc pm : Value) (an : Option Addr) (cdv ct : Value) (us : List Value), us.length = ps.length → bindArgs (PySem.W.fnOf "__init__" qual (defArgs st) (defBody st) (defScope st) .none kV doc pm an cdv ct) ⟨us, []⟩ = pure (ps.zip us)) : Mm P w K mg base CX k x C sp [] :=
  ⟨f, fd, ps, [], M, G, hm, FunD.bindsN F h, .nil⟩
end
/-! ### heaps that grow -/
theorem same_new {H : Hp} {p : Addr} {o : HO} (h : H p = none) : Same H (upd H p o) := fun b u e => by
  rw [upd_ne (ne_of_none e h)]
  exact e
theorem Same.new {H H' : Hp} {p : Addr} {o : HO} (s : Same H H') (h : H' p = none) : Same H (upd H' p o) := s.trans (same_new h)
/-- an object that H does not know changes -/
theorem Same.mut {H H' : Hp} {p : Addr} {o : HO} (s : Same H H') (h : H p = none) : Same H (upd H' p o) := fun b u e => by
  rw [upd_ne (ne_of_none e h)]
  exact s b u e
/-! ### cells, rows, matrices -/
def CellAt (H : Hp) (v : V) (x y : Int) : Prop := ∃ p : Addr, v = .ref p ∧ H p = some (.tup [.int x, .int y])
/-- a tuple or a list -/
def SeqAt (H : Hp) (v : V) (xs : List V) : Prop := ∃ p : Addr, v = .ref p ∧ (H p = some (.tup xs) ∨ H p = some (.lst xs))
def RowAt (H : Hp) (v : V) (x y : Int) : Prop := SeqAt H v [.int x, .int y]
structure Mat where
  a : Int
  b : Int
  c : Int
  d : Int
def Mat.det (M : Mat) : Int := M.a * M.d - M.b * M.c
def MatAt (H : Hp) (v : V) (M : Mat) : Prop := ∃ r1 r2, SeqAt H v [r1, r2] ∧ RowAt H r1 M.a M.b ∧ RowAt H r2 M.c M.d
/-- of tuples alone -/
def MatT (H : Hp) (v : V) (M : Mat) : Prop := ∃ (p : Addr) (r1 r2 : V), v = .ref p ∧ H p = some (.tup [r1, r2]) ∧ CellAt H r1 M.a M.b ∧ CellAt H r2 M.c M.d
section
variable {K : PySem.W.Frag} {H H' : Hp} {v : V} {x y : Int} {M : Mat}
theorem CellAt.mono (h : CellAt H v x y) (s : Same H H') : CellAt H' v x y := let ⟨p, e, q⟩ := h; ⟨p, e, s _ _ q⟩
theorem SeqAt.mono {xs : List V} (h : SeqAt H v xs) (s : Same H H') : SeqAt H' v xs := let ⟨p, e, q⟩ := h; ⟨p, e, q.imp (s _ _) (s _ _)⟩
theorem RowAt.mono (h : RowAt H v x y) (s : Same H H') : RowAt H' v x y := SeqAt.mono h s
theorem MatAt.mono (h : MatAt H v M) (s : Same H H') : MatAt H' v M := let ⟨r1, r2, a, b, c⟩ := h; ⟨r1, r2, a.mono s, b.mono s, c.mono s⟩
theorem MatT.mono (h : MatT H v M) (s : Same H H') : MatT H' v M := let ⟨p, r1, r2, e, a, b, c⟩ := h; ⟨p, r1, r2, e, s _ _ a, b.mono s, c.mono s⟩
theorem CellAt.row (h : CellAt H v x y) : RowAt H v x y := let ⟨p, e, q⟩ := h; ⟨p, e, .inl q⟩
theorem MatT.mat (h : MatT H v M) : MatAt H v M := let ⟨p, r1, r2, e, a, b, c⟩ := h; ⟨r1, r2, ⟨p, e, .inl a⟩, b.row, c.row⟩
/-- xs[i], i written -/
theorem SeqAt.ix {xs : List V} {i : Nat} {u : V} {Q : VK} (h : SeqAt H v xs) (hi : xs[i]? = some u) (q : Q u H) : rIx K v (.int (i : Int)) H Q := by
  obtain ⟨p, rfl, h | h⟩ := h
  · exact .inr (.inl ⟨p, xs, (i : Int), u, rfl, rfl, SqT.of h, atI_nat hi, q⟩)
  · exact .inl ⟨p, xs, (i : Int), u, rfl, rfl, SqL.of h, atI_nat hi, q⟩
theorem CellAt.ix0 {Q : VK} (h : CellAt H v x y) (q : Q (.int x) H) : rIx K v (.int 0) H Q := SeqAt.ix (i := 0) h.row rfl q
theorem CellAt.ix1 {Q : VK} (h : CellAt H v x y) (q : Q (.int y) H) : rIx K v (.int 1) H Q := SeqAt.ix (i := 1) h.row rfl q
theorem RowAt.ix0 {Q : VK} (h : RowAt H v x y) (q : Q (.int x) H) : rIx K v (.int 0) H Q := SeqAt.ix (i := 0) h rfl q
theorem RowAt.ix1 {Q : VK} (h : RowAt H v x y) (q : Q (.int y) H) : rIx K v (.int 1) H Q := SeqAt.ix (i := 1) h rfl q
theorem MatAt.m00 {Q : VK} (h : MatAt H v M) (q : Q (.int M.a) H) : rIx K v (.int 0) H fun r H1 => rIx K r (.int 0) H1 Q := let ⟨_, _, a, b, _⟩ := h; SeqAt.ix (i := 0) a rfl (b.ix0 q)
theorem MatAt.m01 {Q : VK} (h : MatAt H v M) (q : Q (.int M.b) H) : rIx K v (.int 0) H fun r H1 => rIx K r (.int 1) H1 Q := let ⟨_, _, a, b, _⟩ := h; SeqAt.ix (i := 0) a rfl (b.ix1 q)
theorem MatAt.m10 {Q : VK} (h : MatAt H v M) (q : Q (.int M.c) H) : rIx K v (.int 1) H fun r H1 => rIx K r (.int 0) H1 Q := let ⟨_, _, a, _, b⟩ := h; SeqAt.ix (i := 1) a rfl (b.ix0 q)
theorem MatAt.m11 {Q : VK} (h : MatAt H v M) (q : Q (.int M.d) H) : rIx K v (.int 1) H fun r H1 => rIx K r (.int 1) H1 Q := let ⟨_, _, a, _, b⟩ := h; SeqAt.ix (i := 1) a rfl (b.ix1 q)
end
/-- an index with a number that is written -/
theorem pe_at {X : Cx} {a b : Expr} {ta tb : TE} {pos : Pos} (ha : PE X a ta) (hb : PE X b tb) (hs : PlainIx b := by exact fun _ _ => rfl) : PE X (.Subscript a b pos) (tOp (rIx X.K) ta tb) := pe_ix ix_seq ha hb hs
end J
namespace J
open PySem PySem.Spec PyProof.Rows L2
/-! ### isinstance with a built-in class -/
theorem isi_of {K : PySem.W.Frag} {H : Hp} {x : V} {a n : String} {b : Bool} {Q : VK} (ty : TyX K H x (.type a)) (h : kitB a n = some b) (q : Q (.bl b) H) : rIsi K [x, .ty n] H Q :=
  ⟨x, .ty n, .type a, .type n, b, rfl, .ty n, ty, kit_ty h, q⟩
theorem isi_int {K : PySem.W.Frag} {H : Hp} {i : Int} {n : String} {b : Bool} {Q : VK} (q : Q (.bl b) H) (h : kitB "int" n = some b := by decide +kernel) : rIsi K [.int i, .ty n] H Q := isi_of (.base (.int i)) h q
theorem isi_str {K : PySem.W.Frag} {H : Hp} {x : Str} {n : String} {b : Bool} {Q : VK} (q : Q (.bl b) H) (h : kitB "str" n = some b := by decide +kernel) : rIsi K [.str x, .ty n] H Q := isi_of (.base (.str x)) h q
theorem isi_tup {K : PySem.W.Frag} {H : Hp} {a : Addr} {xs : List V} {n : String} {b : Bool} {Q : VK} (e : H a = some (.tup xs)) (q : Q (.bl b) H) (h : kitB "tuple" n = some b := by decide +kernel) : rIsi K [.ref a, .ty n] H Q := isi_of (.base (.tup e)) h q
section
variable {X : Cx} {e : Expr} {te : TE} {p p2 pos : Pos}
theorem pe_isI (T : Tx X.K X.mg) (he : PE X e te) (hg : Gl X "isinstance" := by rfl) (hg2 : Gl X "int" := by rfl) (hs : starEach (e :: [.Name "int" p2]) X.env = (false, eval e X.env) :: starEach [.Name "int" p2] X.env := by rfl) :
    PE X (.Call (.Name "isinstance" p) [e, .Name "int" p2] [] pos) (tCB (rIsi X.K) (tCons te (tCons (tC (.ty "int")) tNil))) :=
  pe_callB call_isi hg T.f_isinstance boot_isinstance (pa_cons he (pa_cons (pe_bltn hg2 T.f_int boot_int rfl) pa_nil) hs) (he := hs)
theorem pe_isB (T : Tx X.K X.mg) (he : PE X e te) (hg : Gl X "isinstance" := by rfl) (hg2 : Gl X "bool" := by rfl) (hs : starEach (e :: [.Name "bool" p2]) X.env = (false, eval e X.env) :: starEach [.Name "bool" p2] X.env := by rfl) :
    PE X (.Call (.Name "isinstance" p) [e, .Name "bool" p2] [] pos) (tCB (rIsi X.K) (tCons te (tCons (tC (.ty "bool")) tNil))) :=
  pe_callB call_isi hg T.f_isinstance boot_isinstance (pa_cons he (pa_cons (pe_bltn hg2 T.f_bool boot_bool rfl) pa_nil) hs) (he := hs)
theorem pe_isS (T : Tx X.K X.mg) (he : PE X e te) (hg : Gl X "isinstance" := by rfl) (hg2 : Gl X "str" := by rfl) (hs : starEach (e :: [.Name "str" p2]) X.env = (false, eval e X.env) :: starEach [.Name "str" p2] X.env := by rfl) :
    PE X (.Call (.Name "isinstance" p) [e, .Name "str" p2] [] pos) (tCB (rIsi X.K) (tCons te (tCons (tC (.ty "str")) tNil))) :=
  pe_callB call_isi hg T.f_isinstance boot_isinstance (pa_cons he (pa_cons (pe_bltn hg2 T.f_str boot_str rfl) pa_nil) hs) (he := hs)
theorem pe_isT (T : Tx X.K X.mg) (he : PE X e te) (hg : Gl X "isinstance" := by rfl) (hg2 : Gl X "tuple" := by rfl) (hs : starEach (e :: [.Name "tuple" p2]) X.env = (false, eval e X.env) :: starEach [.Name "tuple" p2] X.env := by rfl) :
    PE X (.Call (.Name "isinstance" p) [e, .Name "tuple" p2] [] pos) (tCB (rIsi X.K) (tCons te (tCons (tC (.ty "tuple")) tNil))) :=
  pe_callB call_isi hg T.f_isinstance boot_isinstance (pa_cons he (pa_cons (pe_bltn hg2 T.f_tuple boot_tuple rfl) pa_nil) hs) (he := hs)
/-- len of a list, a tuple, a text -/
theorem pe_lenS (T : Tx X.K X.mg) (he : PE X e te) (hg : Gl X "len" := by rfl) (hs : starEach (e :: []) X.env = (false, eval e X.env) :: starEach [] X.env := by rfl) :
    PE X (.Call (.Name "len" p) [e] [] pos) (tCB (fun xs H Q => ∃ p ys, xs = [.ref p] ∧ (SqL X.K H p ys ∨ SqT X.K H p ys) ∧ Q (.int ys.length) H) (tCons te tNil)) :=
  pe_callB call_len_seq hg T.f_len PySem.boot_len (pa_cons he pa_nil hs) (he := hs)
theorem pe_lenT (T : Tx X.K X.mg) (he : PE X e te) (hg : Gl X "len" := by rfl) (hs : starEach (e :: []) X.env = (false, eval e X.env) :: starEach [] X.env := by rfl) :
    PE X (.Call (.Name "len" p) [e] [] pos) (tCB (fun xs H Q => ∃ z, xs = [.str z] ∧ z.length ≤ sizeLine ∧ Q (.int z.length) H) (tCons te tNil)) :=
  pe_callB call_len_str hg T.f_len PySem.boot_len (pa_cons he pa_nil hs) (he := hs)
theorem pe_abs (T : Tx X.K X.mg) (he : PE X e te) (hg : Gl X "abs" := by rfl) (hs : starEach (e :: []) X.env = (false, eval e X.env) :: starEach [] X.env := by rfl) :
    PE X (.Call (.Name "abs" p) [e] [] pos) (tCB (fun xs H Q => ∃ i, xs = [.int i] ∧ Q (.int (if i < 0 then -i else i)) H) (tCons te tNil)) :=
  pe_callB call_abs hg T.f_abs boot_abs (pa_cons he pa_nil hs) (he := hs)
theorem pe_intI (T : Tx X.K X.mg) (he : PE X e te) (hg : Gl X "int" := by rfl) (hs : starEach (e :: []) X.env = (false, eval e X.env) :: starEach [] X.env := by rfl) :
    PE X (.Call (.Name "int" p) [e] [] pos) (tCB (fun xs H Q => (∃ i, xs = [.int i] ∧ Q (.int i) H) ∨ ∃ k, xs = [.bl k] ∧ Q (.int (if k then 1 else 0)) H) (tCons te tNil)) :=
  pe_callTy call_int1 hg T.f_int boot_int (pa_cons he pa_nil hs) (he := hs)
theorem pe_strI (T : Tx X.K X.mg) (he : PE X e te) (hg : Gl X "str" := by rfl) (hs : starEach (e :: []) X.env = (false, eval e X.env) :: starEach [] X.env := by rfl) :
    PE X (.Call (.Name "str" p) [e] [] pos) (tCB (fun xs H Q => ∃ i, xs = [.int i] ∧ i.natAbs.log2 < 1920 ∧ Q (.str (toString i)) H) (tCons te tNil)) :=
  pe_callTy call_str_int hg T.f_str boot_str (pa_cons he pa_nil hs) (he := hs)
end
end J
namespace J
open PySem PySem.Spec PyProof.Rows L2
/-! ### targets by their slots -/
section
variable {X : Cx} {x : Str} {pos pos' : Pos} {e : Expr} {te : TE}
theorem gn (i : Nat) (hN : X.N.Nodup) (hi : X.N[i]? = some x := by rfl) (hx : Loc X.env.scope x := by first | exact Or.inl rfl | exact Or.inr rfl) (hf : X.fn x = true ∨ X.env.scope.names.lookup x = some .local := by first | exact Or.inl rfl | exact Or.inr rfl) : PG X (.Name x pos) (gName i) :=
  pg_name hN hi hx hf
theorem st (i : Nat) (hN : X.N.Nodup) (he : PE X e te) (hi : X.N[i]? = some x := by rfl) (hx : Loc X.env.scope x := by first | exact Or.inl rfl | exact Or.inr rfl) (hf : X.fn x = true ∨ X.env.scope.names.lookup x = some .local := by first | exact Or.inl rfl | exact Or.inr rfl)
    (hs : swapsWith e (some (.Name x pos')) pos.line X.env = pure false := by rfl) : PS X (.Assign [.Name x pos'] e pos) (tAsg te (gName i)) :=
  ps_asg he (gn i hN hi hx hf) hs
end
end J
set_option Elab.async false
set_option maxRecDepth 100000
/-! JM1: the lattice of a matrix, in plain Lean. -/
namespace J
def unap (M : Mat) (x y : Int) : Int × Int := ((M.d * x - M.b * y).fdiv M.det, (M.a * y - M.c * x).fdiv M.det)
def InLat (M : Mat) (x y : Int) : Prop := M.det ∣ M.d * x - M.b * y ∧ M.det ∣ M.a * y - M.c * x
instance (M : Mat) (x y : Int) : Decidable (InLat M x y) := inferInstanceAs (Decidable (_ ∧ _))
/-- the high and the wide of the remainders -/
def Mat.hi (M : Mat) : Int := (Int.gcd M.c M.d : Int)
def Mat.wi (M : Mat) : Int := (M.det.natAbs : Int) / M.hi
theorem abs_if (i : Int) : (if i < 0 then -i else i) = (i.natAbs : Int) := by
  by_cases h : i < 0
  · rw [if_pos h]; omega
  · rw [if_neg h]; omega
section
variable {M : Mat}
theorem hi_pos (h : M.det ≠ 0) : 0 < M.hi := by
  have h1 : Int.gcd M.c M.d ≠ 0 := fun z => by
    obtain ⟨hc, hd⟩ := Int.gcd_eq_zero_iff.mp z
    apply h
    unfold Mat.det
    rw [hc, hd]
    simp
  unfold Mat.hi
  omega
theorem hi_dvd_c : M.hi ∣ M.c := Int.gcd_dvd_left ..
theorem hi_dvd_d : M.hi ∣ M.d := Int.gcd_dvd_right ..
theorem hi_dvd_det : M.hi ∣ M.det := by
  unfold Mat.det
  exact Int.dvd_sub (Int.dvd_trans hi_dvd_d (Int.dvd_mul_left _ _)) (Int.dvd_trans hi_dvd_c (Int.dvd_mul_left _ _))
theorem wi_hi : M.wi * M.hi = (M.det.natAbs : Int) := Int.ediv_mul_cancel (Int.dvd_natAbs.mpr hi_dvd_det)
theorem wi_pos (h : M.det ≠ 0) : 0 < M.wi := by
  have h1 := hi_pos h
  have h2 := wi_hi (M := M)
  have h3 : (0 : Int) < (M.det.natAbs : Int) := by omega
  rw [← h2] at h3
  exact Int.pos_of_mul_pos_left h3 h1 |> fun z => z
/-- the numbers of the lattice's form: a combination for the high -/
structure Comb (M : Mat) (u v : Int) : Prop where
  e : u * M.c + v * M.d = M.hi
theorem rest_in {u v x y i j k n m q : Int} (C : Comb M u v) (hq : q = u * M.a + v * M.b - M.wi * n) (hj : y - j = M.hi * k) (hi : x - i = k * q + M.wi * m) : InLat M (x - i) (y - j) := by
  obtain ⟨c', hc⟩ := hi_dvd_c (M := M)
  obtain ⟨d', hd⟩ := hi_dvd_d (M := M)
  obtain ⟨e, he⟩ : ∃ e : Int, M.wi * M.hi = M.det * e := by
    rw [wi_hi]
    exact Int.dvd_natAbs_self
  have hC := C.e
  have hdet : M.det = M.a * M.d - M.b * M.c := rfl
  refine ⟨⟨k * u + d' * e * (m - k * n), ?_⟩, ⟨k * v - c' * e * (m - k * n), ?_⟩⟩
  · rw [hj, hi, hq]
    have e1 : M.d * (k * (u * M.a + v * M.b - M.wi * n) + M.wi * m) - M.b * (M.hi * k) = k * u * (M.a * M.d - M.b * M.c) + k * M.b * (u * M.c + v * M.d - M.hi) + M.d * M.wi * (m - k * n) := by grind
    have e2 : M.d * M.wi = d' * (M.det * e) := by rw [← he]; conv => lhs; rw [hd]
                                                  grind
    rw [e1, e2, hC, hdet]
    grind
  · rw [hj, hi, hq]
    have e1 : M.a * (M.hi * k) - M.c * (k * (u * M.a + v * M.b - M.wi * n) + M.wi * m) = k * v * (M.a * M.d - M.b * M.c) - k * M.a * (u * M.c + v * M.d - M.hi) - M.c * M.wi * (m - k * n) := by grind
    have e2 : M.c * M.wi = c' * (M.det * e) := by rw [← he]; conv => lhs; rw [hc]
                                                  grind
    rw [e1, e2, hC, hdet]
    grind
theorem lat_sub {x y x' y' : Int} (h : InLat M x y) (h' : InLat M x' y') : InLat M (x - x') (y - y') := by
  refine ⟨?_, ?_⟩
  · have e : M.d * (x - x') - M.b * (y - y') = (M.d * x - M.b * y) - (M.d * x' - M.b * y') := by grind
    rw [e]
    exact Int.dvd_sub h.1 h'.1
  · have e : M.a * (y - y') - M.c * (x - x') = (M.a * y - M.c * x) - (M.a * y' - M.c * x') := by grind
    rw [e]
    exact Int.dvd_sub h.2 h'.2
theorem lat_flat {x : Int} (hdet : M.det ≠ 0) {u v : Int} (C : Comb M u v) (h : InLat M x 0) : M.wi ∣ x := by
  obtain ⟨⟨al, ha⟩, ⟨be, hb⟩⟩ := h
  obtain ⟨c', hc⟩ := hi_dvd_c (M := M)
  obtain ⟨d', hd⟩ := hi_dvd_d (M := M)
  have hs := hi_pos hdet
  have hC := C.e
  have hD : M.det = M.a * M.d - M.b * M.c := rfl
  have n1 : M.d * x = M.det * al := by rw [← ha]; grind
  have n2 : -(M.c * x) = M.det * be := by rw [← hb]; grind
  have x1 : x = M.a * al + M.b * be := by
    apply Int.eq_of_mul_eq_mul_left hdet
    have : M.det * (M.a * al + M.b * be) = M.a * (M.det * al) + M.b * (M.det * be) := by grind
    rw [this, ← n1, ← n2, hD]
    grind
  have z : M.c * al + M.d * be = 0 := by
    have : M.det * (M.c * al + M.d * be) = M.c * (M.det * al) + M.d * (M.det * be) := by grind
    rw [← n1, ← n2] at this
    have e : M.det * (M.c * al + M.d * be) = 0 := by rw [this]; grind
    exact (Int.mul_eq_zero.mp e).resolve_left hdet
  have z' : c' * al + d' * be = 0 := by
    have : M.hi * (c' * al + d' * be) = 0 := by rw [← z]; conv => rhs; rw [hc, hd]
                                                grind
    exact (Int.mul_eq_zero.mp this).resolve_left (by omega)
  have uv : u * c' + v * d' = 1 := by
    apply Int.eq_of_mul_eq_mul_left (show M.hi ≠ 0 by omega)
    have : M.hi * (u * c' + v * d') = u * (M.hi * c') + v * (M.hi * d') := by grind
    rw [this, ← hc, ← hd, hC]
    grind
  have al' : al = d' * (v * al - u * be) := by
    have : al = al * (u * c' + v * d') := by rw [uv]; grind
    grind
  have be' : be = -(c' * (v * al - u * be)) := by
    have : be = be * (u * c' + v * d') := by rw [uv]; grind
    grind
  obtain ⟨t, ht⟩ : ∃ t : Int, t = v * al - u * be := ⟨_, rfl⟩
  rw [← ht] at al' be'
  have x2 : x = (M.a * d' - M.b * c') * t := by rw [x1, al', be']; grind
  have w : M.hi * (M.a * d' - M.b * c') = M.det := by
    have : M.hi * (M.a * d' - M.b * c') = M.a * (M.hi * d') - M.b * (M.hi * c') := by grind
    rw [this, ← hc, ← hd, hD]
  have dv : M.wi ∣ (M.a * d' - M.b * c') := by
    have h1 : M.hi * M.wi ∣ M.hi * (M.a * d' - M.b * c') := by
      rw [w, Int.mul_comm, wi_hi]
      exact Int.natAbs_dvd_self
    exact (Int.mul_dvd_mul_iff_left (show M.hi ≠ 0 by omega)).mp h1
  rw [x2]
  exact Int.dvd_trans dv (Int.dvd_mul_right _ _)
theorem lat_hi {x y : Int} (hdet : M.det ≠ 0) (h : InLat M x y) : M.hi ∣ y := by
  obtain ⟨⟨al, ha⟩, ⟨be, hb⟩⟩ := h
  have e : y = M.c * al + M.d * be := by
    apply Int.eq_of_mul_eq_mul_left hdet
    have : M.det * (M.c * al + M.d * be) = M.c * (M.det * al) + M.d * (M.det * be) := by grind
    rw [this, ← ha, ← hb]
    unfold Mat.det
    grind
  rw [e]
  exact Int.dvd_add (Int.dvd_trans hi_dvd_c (Int.dvd_mul_right _ _)) (Int.dvd_trans hi_dvd_d (Int.dvd_mul_right _ _))
/-- i, j is the remainder of the cell -/
structure RestIs (M : Mat) (x y i j : Int) : Prop where
  i0 : 0 ≤ i
  i1 : i < M.wi
  j0 : 0 ≤ j
  j1 : j < M.hi
  lat : InLat M (x - i) (y - j)
theorem small_dvd {a b : Int} (h : a ∣ b) (h1 : -a < b) (h2 : b < a) : b = 0 := by
  obtain ⟨k, rfl⟩ := h
  by_cases hk : k = 0
  · rw [hk]; grind
  · exfalso
    have ha : 0 < a := by omega
    rcases Int.lt_or_gt_of_ne hk with z | z
    · have : a * k ≤ a * (-1) := Int.mul_le_mul_of_nonneg_left (by omega) (by omega)
      omega
    · have : a * 1 ≤ a * k := Int.mul_le_mul_of_nonneg_left (by omega) (by omega)
      omega
theorem rest_uniq {u v x y i j i' j' : Int} (hdet : M.det ≠ 0) (C : Comb M u v) (h : RestIs M x y i j) (h' : RestIs M x y i' j') : i = i' ∧ j = j' := by
  have l := lat_sub h'.lat h.lat
  have e1 : x - i' - (x - i) = i - i' := by omega
  have e2 : y - j' - (y - j) = j - j' := by omega
  rw [e1, e2] at l
  have z := small_dvd (lat_hi hdet l) (by have := h.j0; have := h'.j1; omega) (by have := h.j1; have := h'.j0; omega)
  rw [z] at l
  have z2 := small_dvd (lat_flat hdet C l) (by have := h.i0; have := h'.i1; omega) (by have := h.i1; have := h'.i0; omega)
  omega
end
end J
set_option Elab.async false
set_option linter.all false
set_option maxRecDepth 100000
set_option maxHeartbeats 4000000
/-! JB2: rules in short. -/
namespace J
open PySem PySem.Spec PyProof.Rows L2
theorem sN {H H' : Hp} {p : Addr} {o : HO} (s : Same H H') (h : H' p = none) : Same H (upd H' p o) := s.trans (same_new h)
/-- an object that H does not know changes -/
theorem sM {H H' : Hp} {p : Addr} {o : HO} (s : Same H H') (h : H p = none) : Same H (upd H' p o) := fun b u e => by
  rw [upd_ne (ne_of_none e h)]
  exact s b u e
theorem pe_imp {X : Cx} {e : Expr} {t t' : TE} (h : PE X e t) (i : ∀ σ H Q, t' σ H Q → t σ H Q) : PE X e t' := ⟨fun pins s σ H Q I q => h.run pins s σ H Q I (i σ H Q q)⟩
def tMo (t : TE) : TE := fun σ H Q => ∃ Q0 : VK, t σ H Q0 ∧ ∀ x H1, Q0 x H1 → Q x H1
theorem pe_mo {X : Cx} {e : Expr} {t : TE} (h : PE X e t) : PE X e (tMo t) := ⟨fun pins s σ H Q I ⟨Q0, q, i⟩ => thn (h.run pins s σ H Q0 I q) fun _ _ ⟨x, H1, I1, r, q1⟩ => ⟨x, H1, I1, r, i x H1 q1⟩⟩
/-- isinstance of a number, a text, a tuple -/
def tIsI (b : Bool) (t : TE) : TE := fun σ H Q => t σ H fun x H1 => ∃ i, x = .int i ∧ Q (.bl b) H1
def tIsS (t : TE) : TE := fun σ H Q => t σ H fun x H1 => ∃ i, x = .str i ∧ Q (.bl true) H1
def tIsT (t : TE) : TE := fun σ H Q => t σ H fun x H1 => ∃ a xs, x = .ref a ∧ H1 a = some (.tup xs) ∧ Q (.bl true) H1
section
variable {X : Cx} {e : Expr} {te : TE} {p p2 pos : Pos}
theorem pe_iI (T : Tx X.K X.mg) (he : PE X e te) (hg : Gl X "isinstance" := by rfl) (hg2 : Gl X "int" := by rfl) (hs : starEach (e :: [.Name "int" p2]) X.env = (false, eval e X.env) :: starEach [.Name "int" p2] X.env := by rfl) :
    PE X (.Call (.Name "isinstance" p) [e, .Name "int" p2] [] pos) (tIsI true te) := pe_imp (pe_isI T (pe_mo he) hg hg2 hs) fun σ H Q h => ⟨_, h, fun x H1 ⟨i, e, q⟩ => e ▸ isi_of (a := "int") (.base (.int i)) (by decide +kernel) q⟩
theorem pe_iB (T : Tx X.K X.mg) (he : PE X e te) (hg : Gl X "isinstance" := by rfl) (hg2 : Gl X "bool" := by rfl) (hs : starEach (e :: [.Name "bool" p2]) X.env = (false, eval e X.env) :: starEach [.Name "bool" p2] X.env := by rfl) :
    PE X (.Call (.Name "isinstance" p) [e, .Name "bool" p2] [] pos) (tIsI false te) := pe_imp (pe_isB T (pe_mo he) hg hg2 hs) fun σ H Q h => ⟨_, h, fun x H1 ⟨i, e, q⟩ => e ▸ isi_of (a := "int") (.base (.int i)) (by decide +kernel) q⟩
theorem pe_iS (T : Tx X.K X.mg) (he : PE X e te) (hg : Gl X "isinstance" := by rfl) (hg2 : Gl X "str" := by rfl) (hs : starEach (e :: [.Name "str" p2]) X.env = (false, eval e X.env) :: starEach [.Name "str" p2] X.env := by rfl) :
    PE X (.Call (.Name "isinstance" p) [e, .Name "str" p2] [] pos) (tIsS te) := pe_imp (pe_isS T (pe_mo he) hg hg2 hs) fun σ H Q h => ⟨_, h, fun x H1 ⟨i, e, q⟩ => e ▸ isi_of (a := "str") (.base (.str i)) (by decide +kernel) q⟩
theorem pe_iT (T : Tx X.K X.mg) (he : PE X e te) (hg : Gl X "isinstance" := by rfl) (hg2 : Gl X "tuple" := by rfl) (hs : starEach (e :: [.Name "tuple" p2]) X.env = (false, eval e X.env) :: starEach [.Name "tuple" p2] X.env := by rfl) :
    PE X (.Call (.Name "isinstance" p) [e, .Name "tuple" p2] [] pos) (tIsT te) := pe_imp (pe_isT T (pe_mo he) hg hg2 hs) fun σ H Q h => ⟨_, h, fun x H1 ⟨a, xs, e, m, q⟩ => e ▸ isi_of (a := "tuple") (.base (.tup m)) (by decide +kernel) q⟩
end
section
variable {X : Cx} {a b c e o : Expr} {ta : TA} {te to : TE} {x y z : Str} {p pos px py pz pt apos : Pos} {kt k2 : Nat} {pt2 : Pos}
theorem par2 (i j : Nat) (hN : X.N.Nodup) (ha : PA X [a, b] ta) (hc : X.calm = true := by rfl) (hi : X.N[i]? = some x := by rfl) (hj : X.N[j]? = some y := by rfl) (hij : i ≠ j := by decide)
    (hx : X.env.scope.names.lookup x = some .local := by rfl) (hy : X.env.scope.names.lookup y = some .local := by rfl)
    (hw : swappedStores [.Tuple [.Name x px, .Name y py] kt pt] (.Tuple [a, b] k2 pt2) X.env = pure (some [x, y]) := by rfl)
    (hs : swapsWithSole [.Tuple [.Name x px, .Name y py] kt pt] (.Tuple [a, b] k2 pt2) pos.line X.env = pure false := by rfl) :
    PS X (.Assign [.Tuple [.Name x px, .Name y py] kt pt] (.Tuple [a, b] k2 pt2) pos) (tPar i j ta) := ps_par hc hN hi hj hij hx hy ha hw hs
theorem par3 (i j l : Nat) (hN : X.N.Nodup) (ha : PA X [a, b, c] ta) (hc : X.calm = true := by rfl) (hi : X.N[i]? = some x := by rfl) (hj : X.N[j]? = some y := by rfl) (hl : X.N[l]? = some z := by rfl) (hij : i ≠ j := by decide) (hil : i ≠ l := by decide) (hjl : j ≠ l := by decide)
    (hx : X.env.scope.names.lookup x = some .local := by rfl) (hy : X.env.scope.names.lookup y = some .local := by rfl) (hz : X.env.scope.names.lookup z = some .local := by rfl)
    (hw : swappedStores [.Tuple [.Name x px, .Name y py, .Name z pz] kt pt] (.Tuple [a, b, c] k2 pt2) X.env = pure (some [x, y, z]) := by rfl)
    (hs : swapsWithSole [.Tuple [.Name x px, .Name y py, .Name z pz] kt pt] (.Tuple [a, b, c] k2 pt2) pos.line X.env = pure false := by rfl) :
    PS X (.Assign [.Tuple [.Name x px, .Name y py, .Name z pz] kt pt] (.Tuple [a, b, c] k2 pt2) pos) (tPar3 i j l ta) := ps_par3 hc hN hi hj hl hij hil hjl hx hy hz ha hw hs
/-- a number, a text of the module -/
theorem pe_gi {i : Int} (hg : Gl X x) (h : ∃ t, X.mg x = some (.int i t)) (hd : (x == ("__debug__" : Str)) = false := by decide) : PE X (.Name x pos) (tC (.int i)) := let ⟨t, h⟩ := h; pe_glob hg h ⟨t, rfl⟩ hd
theorem pe_gs {i : Str} (hg : Gl X x) (h : ∃ t, X.mg x = some (.str i t)) (hd : (x == ("__debug__" : Str)) = false := by decide) : PE X (.Name x pos) (tC (.str i)) := let ⟨t, h⟩ := h; pe_glob hg h ⟨t, rfl⟩ hd
theorem pe_lstOf (T : Tx X.K X.mg) (he : PE X e te) (hg : Gl X "list" := by rfl) (hs : starEach (e :: []) X.env = (false, eval e X.env) :: starEach [] X.env := by rfl) :
    PE X (.Call (.Name "list" p) [e] [] pos) (tCB (fun xs H Q => ∃ p ys, xs = [.ref p] ∧ (SqL X.K H p ys ∨ SqT X.K H p ys) ∧ ∀ l, H l = none → Q (.ref l) (upd H l (.lst ys))) (tCons te tNil)) :=
  pe_callTy call_list_of hg T.f_list boot_list (pa_cons he pa_nil hs) (he := hs)
theorem pe_tupOf (T : Tx X.K X.mg) (he : PE X e te) (hg : Gl X "tuple" := by rfl) (hs : starEach (e :: []) X.env = (false, eval e X.env) :: starEach [] X.env := by rfl) :
    PE X (.Call (.Name "tuple" p) [e] [] pos) (tCB (fun xs H Q => ∃ p ys, xs = [.ref p] ∧ ((SqL X.K H p ys ∧ ∀ l, H l = none → Q (.ref l) (upd H l (.tup ys))) ∨ (SqT X.K H p ys ∧ Q (.ref p) H))) (tCons te tNil)) :=
  pe_callTy call_tuple_of hg T.f_tuple boot_tuple (pa_cons he pa_nil hs) (he := hs)
theorem pe_all (T : Tx X.K X.mg) (he : PE X e te) (hc : X.calm = true := by rfl) (hg : Gl X "all" := by rfl) (hs : starEach (e :: []) X.env = (false, eval e X.env) :: starEach [] X.env := by rfl) :
    PE X (.Call (.Name "all" p) [e] [] pos) (tCB (rAll X.K) (tCons te tNil)) :=
  pe_callB (cr_all hc) hg T.f_all boot_all (pa_cons he pa_nil hs) (he := hs)
theorem ps_app (ho : PE X o to) (he : PE X e te)
    (hbase : attributeBase o "append" X.env (eval o X.env) = eval o X.env := by rfl)
    (hline : (apos.endLine == p.line) = true := by rfl) (hst : starEach (e :: []) X.env = (false, eval e X.env) :: starEach [] X.env := by rfl)
    (hfew : ((backTo p (starEach [e] X.env)).all (fun x => !x.1) && (backToKw p (keywordEach [] X.env)).all (fun x => x.1.isSome)
      && decide (([e]).length + ([] : List Keyword).length + (if ([] : List Keyword).isEmpty then 0 else 1) < 30)) = true := by rfl)
    (hs : swapsWith (.Call (.Attribute o "append" apos) [e] [] p) none pos.line X.env = pure false := by rfl) :
    PS X (.Expr (.Call (.Attribute o "append" apos) [e] [] p) pos) (tDrop (tBM X.K "list" rAppend to (tCons te tNil))) :=
  ps_expr (pe_bm PySem.F.plainAttrs_list PySem.F.slot_list_append PySem.F.type_list_append mt_append ho (pa_cons he pa_nil hst) hbase hfew hline hst rfl) hs
end
end J
set_option Elab.async false
set_option linter.all false
set_option maxRecDepth 100000
set_option maxHeartbeats 4000000
set_option exponentiation.threshold 3000
namespace J
open PySem PySem.Spec PyProof.Rows L2 TL

/-! JX1: isinstance of a value of that very class. -/
theorem exact_ans {x t : Value} {H : Heap → Prop} (ty : ∀ (M : Model) (h : Heap), H h → PySem.W.Looks M h (typeOf x) t) (tk : Tok) :
    Meets (Builtin.«isinstance.nested» ⟨[x, t, .int 0 tk], []⟩) (fun _ R s => H s.heap ∧ ∀ tk', R (.ok (.ret (.bool true))) { s with toks := tk' }) := by
  intro prog w A R s hs
  obtain ⟨h, g, d, tt, os⟩ := s
  obtain ⟨p, hq⟩ := hs
  have LT := ty (model prog w) h p
  unfold Builtin.«isinstance.nested»
  refine wpAny_bind (LT.at ?_)
  rw [if_pos (beq_self_eq_true t)]
  refine wpAny_bind (wpAny_rule ?_)
  exact wpAny_pure (hq tt)
theorem kia_exact {prog : Program} {w : World} {A : Around} {E : Value → Shared → Prop} {s : Shared} {Q : Value → Shared → Prop} {x t : Value} {H : Heap → Prop} (ty : ∀ (M : Model) (h : Heap), H h → PySem.W.Looks M h (typeOf x) t) (p : H s.heap) (hx : x ≠ .builtin "__main__.__loader__#opaque")
    (h : ∀ tk, Q (.bool true) { s with toks := tk }) : wpAny (model prog w) A (call (.builtin "isinstance") [x, t]) Q E s :=
  call_isinstance (S := fun _ R s => H s.heap ∧ ∀ tk, R (.ok (.ret (.bool true))) { s with toks := tk })
    (fun prog w A R s hs => isinstance_outer (exact_ans ty _ prog w A R s hs) hx) ⟨p, h⟩
end J
set_option Elab.async false
set_option linter.all false
set_option maxRecDepth 100000
set_option maxHeartbeats 4000000
set_option exponentiation.threshold 3000
namespace J
open PySem PySem.Spec PyProof.Rows L2 TL

/-! JX2: isinstance of the error that a suite holds, its very class. -/
open L2
theorem call_isX {X : Cx} {a : Addr} {cls : Value} {d : Option Addr} {oe : Obj} {pn : List (Addr × Obj)} (hz : Zc cls d oe) : CallR (X.suite a ((a, oe) :: pn)) (.builtin "isinstance") (fun xs H Q => ∃ c : V, xs = [.ref a, c] ∧ (∀ u, RelV c u → u = cls) ∧ Q (.bl true) H) := by
  intro pins s σ H xs us Q I r h
  obtain ⟨c, rfl, hcv, q⟩ := h
  cases r with
  | cons rx rr =>
    cases rr with
    | cons rt rr =>
      cases rr
      cases rx
      have ec := hcv _ rt
      subst ec
      obtain ⟨hget, _⟩ := I.pin (a, oe) (List.mem_append.mpr (.inl List.mem_cons_self))
      refine kia_exact (H := fun h => h.get? a = some oe) (fun M h p A Q E s k q => wpAny_typeOf_ref (k _ _ p) (by rw [hz.1]; exact q)) hget (fun z => nomatch z) fun tk => ⟨.bl true, H, I.kept (t' := tk) fun _ _ z => z, rfl, q⟩
end J
set_option Elab.async false
set_option linter.all false
set_option maxRecDepth 100000
set_option maxHeartbeats 4000000
set_option exponentiation.threshold 3000
/-! J1: cells, determinants. -/
namespace J
open PySem PySem.Spec PyProof.Rows L2
section
variable {P : Program} {w : World} {K : PySem.W.Frag} {mg : Str → Option Value} {base : Heap}
/-- the sum of two cells -/
def sp_plus : Sp := fun vs H Q _ => ∃ (u v : V) (a b c d : Int), vs = [u, v] ∧ CellAt H u a b ∧ CellAt H v c d ∧ ∀ (H' : Hp) (r : V), Same H H' → CellAt H' r (a + c) (b + d) → Q r H'
theorem sc_plus : FnScope ["one", "other"] ["one", "other"] (defScope s_plus) := ⟨rfl, rfl, rfl, by decide +kernel, rfl, by decide +kernel, by decide +kernel⟩
theorem ok_plus (T : Tx K mg) : Cl P w K mg base CX0 1 "plus" sp_plus [] := by
  obtain ⟨fd, F⟩ := T.d_plus
  refine cl_of (ps := ["one", "other"]) F T.g_plus (FunD.cl0 F sc_plus (fun vs H Q E h => ?_) (fun cdv A outer s H vs Q E hr h => ?_)) fun _ _ _ _ _ _ us hl => match us, hl with | [_, _], _ => rfl
  · obtain ⟨u, v, a, b, c, d, rfl, _⟩ := h
    rfl
  · obtain ⟨u, v, a, b, c, d, rfl, hu, hv, k⟩ := h
    refine ⟨_, pss_one (ps_ret (pe_tup (pa_cons (pe_op op_add (pe_at (pv 0) pe_int) (pe_at (pv 1) pe_int)) (pa_cons (pe_op op_add (pe_at (pv 0) pe_int) (pe_at (pv 1) pe_int)) pa_nil)))), ?_⟩
    refine ⟨_, rfl, hu.ix0 ⟨_, rfl, hv.ix0 ⟨_, _, rfl, rfl, ⟨_, rfl, hu.ix1 ⟨_, rfl, hv.ix1 ⟨_, _, rfl, rfl, (by show 2 ≤ sizeLine; decide), fun p np => ?_⟩⟩⟩⟩⟩⟩
    exact k _ _ (same_new np) ⟨p, rfl, upd_same⟩
def sp_minus : Sp := fun vs H Q _ => ∃ (u v : V) (a b c d : Int), vs = [u, v] ∧ CellAt H u a b ∧ CellAt H v c d ∧ ∀ (H' : Hp) (r : V), Same H H' → CellAt H' r (a - c) (b - d) → Q r H'
theorem sc_minus : FnScope ["one", "other"] ["one", "other"] (defScope s_minus) := ⟨rfl, rfl, rfl, by decide +kernel, rfl, by decide +kernel, by decide +kernel⟩
theorem ok_minus (T : Tx K mg) : Cl P w K mg base CX0 1 "minus" sp_minus [] := by
  obtain ⟨fd, F⟩ := T.d_minus
  refine cl_of (ps := ["one", "other"]) F T.g_minus (FunD.cl0 F sc_minus (fun vs H Q E h => ?_) (fun cdv A outer s H vs Q E hr h => ?_)) fun _ _ _ _ _ _ us hl => match us, hl with | [_, _], _ => rfl
  · obtain ⟨u, v, a, b, c, d, rfl, _⟩ := h
    rfl
  · obtain ⟨u, v, a, b, c, d, rfl, hu, hv, k⟩ := h
    refine ⟨_, pss_one (ps_ret (pe_tup (pa_cons (pe_op op_sub (pe_at (pv 0) pe_int) (pe_at (pv 1) pe_int)) (pa_cons (pe_op op_sub (pe_at (pv 0) pe_int) (pe_at (pv 1) pe_int)) pa_nil)))), ?_⟩
    refine ⟨_, rfl, hu.ix0 ⟨_, rfl, hv.ix0 ⟨_, _, rfl, rfl, ⟨_, rfl, hu.ix1 ⟨_, rfl, hv.ix1 ⟨_, _, rfl, rfl, (by show 2 ≤ sizeLine; decide), fun p np => ?_⟩⟩⟩⟩⟩⟩
    exact k _ _ (same_new np) ⟨p, rfl, upd_same⟩
/-- the determinant of a matrix; its numbers below 2 ^ 1100 -/
def Mat.Fits (M : Mat) : Prop := M.a.natAbs < 2 ^ 1100 ∧ M.b.natAbs < 2 ^ 1100 ∧ M.c.natAbs < 2 ^ 1100 ∧ M.d.natAbs < 2 ^ 1100
theorem fits_mul {x y : Int} (hx : x.natAbs < 2 ^ 1100) (hy : y.natAbs < 2 ^ 1100) : CMulW x y := wide_mul hx hy (by decide) (by decide) (by decide)
def sp_determinant : Sp := fun vs H Q _ => ∃ (u : V) (M : Mat), vs = [u] ∧ MatAt H u M ∧ M.Fits ∧ Q (.int M.det) H
theorem sc_determinant : FnScope ["matrix"] ["matrix"] (defScope s_determinant) := ⟨rfl, rfl, rfl, by decide +kernel, rfl, by decide +kernel, by decide +kernel⟩
theorem ok_determinant (T : Tx K mg) : Cl P w K mg base CX0 1 "determinant" sp_determinant [] := by
  obtain ⟨fd, F⟩ := T.d_determinant
  refine cl_of (ps := ["matrix"]) F T.g_determinant (FunD.cl0 F sc_determinant (fun vs H Q E h => ?_) (fun cdv A outer s H vs Q E hr h => ?_)) fun _ _ _ _ _ _ us hl => match us, hl with | [_], _ => rfl
  · obtain ⟨u, M, rfl, _⟩ := h
    rfl
  · obtain ⟨u, M, rfl, hM, ⟨fa, fb, fc, fd'⟩, k⟩ := h
    refine ⟨_, pss_one (ps_ret (pe_op op_sub (pe_op op_mulW (pe_at (pe_at (pv 0) pe_int) pe_int) (pe_at (pe_at (pv 0) pe_int) pe_int)) (pe_op op_mulW (pe_at (pe_at (pv 0) pe_int) pe_int) (pe_at (pe_at (pv 0) pe_int) pe_int)))), ?_⟩
    exact ⟨_, rfl, hM.m00 ⟨_, rfl, hM.m11 ⟨_, _, rfl, rfl, fits_mul fa fd', ⟨_, rfl, hM.m01 ⟨_, rfl, hM.m10 ⟨_, _, rfl, rfl, fits_mul fb fc, ⟨_, _, rfl, rfl, k⟩⟩⟩⟩⟩⟩⟩
def sp__law_determinant : Sp := sp_determinant
theorem sc__law_determinant : FnScope ["_law_matrix"] ["_law_matrix"] (defScope s__law_determinant) := ⟨rfl, rfl, rfl, by decide +kernel, rfl, by decide +kernel, by decide +kernel⟩
theorem ok__law_determinant (T : Tx K mg) : Cl P w K mg base CX0 1 "_law_determinant" sp__law_determinant [] := by
  obtain ⟨fd, F⟩ := T.d__law_determinant
  refine cl_of (ps := ["_law_matrix"]) F T.g__law_determinant (FunD.cl0 F sc__law_determinant (fun vs H Q E h => ?_) (fun cdv A outer s H vs Q E hr h => ?_)) fun _ _ _ _ _ _ us hl => match us, hl with | [_], _ => rfl
  · obtain ⟨u, M, rfl, _⟩ := h
    rfl
  · obtain ⟨u, M, rfl, hM, ⟨fa, fb, fc, fd'⟩, k⟩ := h
    refine ⟨_, pss_one (ps_ret (pe_op op_sub (pe_op op_mulW (pe_at (pe_at (pv 0) pe_int) pe_int) (pe_at (pe_at (pv 0) pe_int) pe_int)) (pe_op op_mulW (pe_at (pe_at (pv 0) pe_int) pe_int) (pe_at (pe_at (pv 0) pe_int) pe_int)))), ?_⟩
    exact ⟨_, rfl, hM.m00 ⟨_, rfl, hM.m11 ⟨_, _, rfl, rfl, fits_mul fa fd', ⟨_, rfl, hM.m01 ⟨_, rfl, hM.m10 ⟨_, _, rfl, rfl, fits_mul fb fc, ⟨_, _, rfl, rfl, k⟩⟩⟩⟩⟩⟩⟩
def sp__law_plus : Sp := sp_plus
abbrev N__law_plus : List Str := ["_law_one", "_law_two"]
theorem sc__law_plus : FnScope N__law_plus ["_law_one", "_law_two"] (defScope s__law_plus) := ⟨rfl, rfl, rfl, by decide +kernel, rfl, by decide +kernel, by decide +kernel⟩
theorem ok__law_plus (T : Tx K mg) : Cl P w K mg base CX0 1 "_law_plus" sp__law_plus [] := by
  obtain ⟨fd, F⟩ := T.d__law_plus
  refine cl_of (ps := ["_law_one", "_law_two"]) F T.g__law_plus (FunD.cl0 F sc__law_plus (fun vs H Q E h => ?_) (fun cdv A outer s H vs Q E hr h => ?_)) fun _ _ _ _ _ _ us hl => match us, hl with | [_, _], _ => rfl
  · obtain ⟨u, v, a, b, c, d, rfl, _⟩ := h
    rfl
  · obtain ⟨u, v, a, b, c, d, rfl, hu, hv, k⟩ := h
    refine ⟨_, (pss_one (ps_ret (pe_tup (pa_cons (pe_op op_add (pe_at (pv 0) pe_int) (pe_at (pv 1) pe_int)) (pa_cons (pe_op op_add (pe_at (pv 0) pe_int) (pe_at (pv 1) pe_int)) pa_nil))))), ?_⟩
    refine ⟨_, rfl, hu.ix0 ⟨_, rfl, hv.ix0 ⟨_, _, rfl, rfl, ⟨_, rfl, hu.ix1 ⟨_, rfl, hv.ix1 ⟨_, _, rfl, rfl, (by show 2 ≤ sizeLine; decide), fun p np => ?_⟩⟩⟩⟩⟩⟩
    exact k _ _ (same_new np) ⟨p, rfl, upd_same⟩
/-! is_int, is_cell -/
def sp_is_int : Sp := fun vs H Q _ => ∃ i : Int, vs = [.int i] ∧ Q (.bl true) H
abbrev N_is_int : List Str := ["value"]
theorem sc_is_int : FnScope N_is_int ["value"] (defScope s_is_int) := ⟨rfl, rfl, rfl, by decide +kernel, rfl, by decide +kernel, by decide +kernel⟩
theorem ok_is_int (T : Tx K mg) : Cl P w K mg base CX0 1 "is_int" sp_is_int [] := by
  obtain ⟨fd, F⟩ := T.d_is_int
  refine cl_of (ps := ["value"]) F T.g_is_int (FunD.cl0 F sc_is_int (fun vs H Q E h => ?_) (fun cdv A outer s H vs Q E hr h => ?_)) fun _ _ _ _ _ _ us hl => match us, hl with | [_], _ => rfl
  · obtain ⟨i, rfl, _⟩ := h
    rfl
  · obtain ⟨i, rfl, k⟩ := h
    refine ⟨_, (pss_one (ps_ret (pe_and (pe_iI T (pv 0)) (pe_one (pe_not (pe_iB T (pv 0))))))), ?_⟩
    exact ⟨_, rfl, i, rfl, true, rfl, iteT ⟨_, rfl, i, rfl, false, rfl, k⟩⟩
def sp__law_is_int : Sp := sp_is_int
abbrev N__law_is_int : List Str := ["_law_value"]
theorem sc__law_is_int : FnScope N__law_is_int ["_law_value"] (defScope s__law_is_int) := ⟨rfl, rfl, rfl, by decide +kernel, rfl, by decide +kernel, by decide +kernel⟩
theorem ok__law_is_int (T : Tx K mg) : Cl P w K mg base CX0 1 "_law_is_int" sp__law_is_int [] := by
  obtain ⟨fd, F⟩ := T.d__law_is_int
  refine cl_of (ps := ["_law_value"]) F T.g__law_is_int (FunD.cl0 F sc__law_is_int (fun vs H Q E h => ?_) (fun cdv A outer s H vs Q E hr h => ?_)) fun _ _ _ _ _ _ us hl => match us, hl with | [_], _ => rfl
  · obtain ⟨i, rfl, _⟩ := h
    rfl
  · obtain ⟨i, rfl, k⟩ := h
    refine ⟨_, (pss_one (ps_ret (pe_and (pe_iI T (pv 0)) (pe_one (pe_not (pe_iB T (pv 0))))))), ?_⟩
    exact ⟨_, rfl, i, rfl, true, rfl, iteT ⟨_, rfl, i, rfl, false, rfl, k⟩⟩
def sp_is_cell : Sp := fun vs H Q _ => ∃ (u : V) (x y : Int), vs = [u] ∧ CellAt H u x y ∧ Q (.bl true) H
abbrev N_is_cell : List Str := ["value"]
theorem sc_is_cell : FnScope N_is_cell ["value"] (defScope s_is_cell) := ⟨rfl, rfl, rfl, by decide +kernel, rfl, by decide +kernel, by decide +kernel⟩
theorem ok_is_cell (T : Tx K mg) : Cl P w K mg base CX0 2 "is_cell" sp_is_cell [] := by
  obtain ⟨fd, F⟩ := T.d_is_cell
  refine cl_of (ps := ["value"]) F T.g_is_cell (FunD.cl0 F sc_is_cell (fun vs H Q E h => ?_) (fun cdv A outer s H vs Q E hr h => ?_)) fun _ _ _ _ _ _ us hl => match us, hl with | [_], _ => rfl
  · obtain ⟨u, x, y, rfl, _⟩ := h
    rfl
  · obtain ⟨u, x, y, rfl, ⟨p, rfl, hp⟩, k⟩ := h
    have hc : CellAt H (.ref p) x y := ⟨p, rfl, hp⟩
    refine ⟨_, (pss_one (ps_ret (pe_and (pe_iT T (pv 0)) (pe_and (pe_cmpR op_eq (pe_lenS T (pv 0)) pe_int (nomark _)) (pe_and (pe_cl (ok_is_int T) hr pass0 (pa_cons (pe_at (pv 0) pe_int) pa_nil)) (pe_one (pe_cl (ok_is_int T) hr pass0 (pa_cons (pe_at (pv 0) pe_int) pa_nil)))))))), ?_⟩
    exact ⟨_, rfl, p, _, rfl, hp, true, rfl, iteT ⟨_, rfl, p, [.int x, .int y], rfl, .inr (SqT.of hp), ⟨rfl, true, rfl, iteT ⟨_, rfl, hc.ix0 ⟨x, rfl, true, rfl, iteT ⟨_, rfl, hc.ix1 ⟨y, rfl, k⟩⟩⟩⟩⟩⟩⟩
def sp__law_is_cell : Sp := sp_is_cell
abbrev N__law_is_cell : List Str := ["_law_value"]
theorem sc__law_is_cell : FnScope N__law_is_cell ["_law_value"] (defScope s__law_is_cell) := ⟨rfl, rfl, rfl, by decide +kernel, rfl, by decide +kernel, by decide +kernel⟩
theorem ok__law_is_cell (T : Tx K mg) : Cl P w K mg base CX0 2 "_law_is_cell" sp__law_is_cell [] := by
  obtain ⟨fd, F⟩ := T.d__law_is_cell
  refine cl_of (ps := ["_law_value"]) F T.g__law_is_cell (FunD.cl0 F sc__law_is_cell (fun vs H Q E h => ?_) (fun cdv A outer s H vs Q E hr h => ?_)) fun _ _ _ _ _ _ us hl => match us, hl with | [_], _ => rfl
  · obtain ⟨u, x, y, rfl, _⟩ := h
    rfl
  · obtain ⟨u, x, y, rfl, ⟨p, rfl, hp⟩, k⟩ := h
    have hc : CellAt H (.ref p) x y := ⟨p, rfl, hp⟩
    refine ⟨_, (pss_one (ps_ret (pe_and (pe_iT T (pv 0)) (pe_and (pe_cmpR op_eq (pe_lenS T (pv 0)) pe_int (nomark _)) (pe_and (pe_cl (ok__law_is_int T) hr pass0 (pa_cons (pe_at (pv 0) pe_int) pa_nil)) (pe_one (pe_cl (ok__law_is_int T) hr pass0 (pa_cons (pe_at (pv 0) pe_int) pa_nil)))))))), ?_⟩
    exact ⟨_, rfl, p, _, rfl, hp, true, rfl, iteT ⟨_, rfl, p, [.int x, .int y], rfl, .inr (SqT.of hp), ⟨rfl, true, rfl, iteT ⟨_, rfl, hc.ix0 ⟨x, rfl, true, rfl, iteT ⟨_, rfl, hc.ix1 ⟨y, rfl, k⟩⟩⟩⟩⟩⟩⟩
/-! unapplied, _law_lattice_cell -/
def Sm (x : Int) : Prop := x.natAbs < 2 ^ 1100
theorem sm_of {x : Int} (h : x.natAbs < 2 ^ 30) : Sm x := Nat.lt_of_lt_of_le h (Nat.pow_le_pow_right (by decide) (by decide))
def sp_unapplied : Sp := fun vs H Q _ => ∃ (u v : V) (M : Mat) (x y : Int), vs = [u, v] ∧ MatAt H u M ∧ CellAt H v x y ∧ M.Fits ∧ Sm x ∧ Sm y ∧ M.det ≠ 0 ∧ M.det.natAbs < 1073741824 ∧
  ∀ (H' : Hp) (r : V), Same H H' → CellAt H' r (unap M x y).1 (unap M x y).2 → Q r H'
abbrev N_unapplied : List Str := ["matrix", "cell", "size", "x", "y"]
theorem sc_unapplied : FnScope N_unapplied ["matrix", "cell"] (defScope s_unapplied) := ⟨rfl, rfl, rfl, by decide +kernel, rfl, by decide +kernel, by decide +kernel⟩
theorem ok_unapplied (T : Tx K mg) : Cl P w K mg base CX0 2 "unapplied" sp_unapplied [] := by
  obtain ⟨fd, F⟩ := T.d_unapplied
  refine cl_of (ps := ["matrix", "cell"]) F T.g_unapplied (FunD.cl0 F sc_unapplied (fun vs H Q E h => ?_) (fun cdv A outer s H vs Q E hr h => ?_)) fun _ _ _ _ _ _ us hl => match us, hl with | [_, _], _ => rfl
  · obtain ⟨u, v, M, x, y, rfl, _⟩ := h
    rfl
  · obtain ⟨u, v, M, x, y, rfl, hM, ⟨p, rfl, hp⟩, hF, sx, sy, d0, d1, k⟩ := h
    have hF' := hF
    obtain ⟨fa, fb, fc, fd'⟩ := hF
    refine ⟨_, (pss_cons (ps_asg (pv 1) (pg_tup rfl (pgs_cons (gn 3 sc_unapplied.nd) (pgs_cons (gn 4 sc_unapplied.nd) pgs_nil))))
      (pss_cons (st 2 sc_unapplied.nd (pe_cl (ok_determinant T) hr pass0 (pa_cons (pv 0) pa_nil)))
      (pss_one (ps_ret (pe_tup (pa_cons (pe_op op_fdivN (pe_op op_sub (pe_op op_mulW (pe_at (pe_at (pv 0) pe_int) pe_int) (pv 3)) (pe_op op_mulW (pe_at (pe_at (pv 0) pe_int) pe_int) (pv 4))) (pv 2)) (pa_cons (pe_op op_fdivN (pe_op op_sub (pe_op op_mulW (pe_at (pe_at (pv 0) pe_int) pe_int) (pv 4)) (pe_op op_mulW (pe_at (pe_at (pv 0) pe_int) pe_int) (pv 3))) (pv 2)) pa_nil))))))), ?_⟩
    refine ⟨_, rfl, p, [.int x, .int y], rfl, SqT.of hp, rfl, _, _, rfl, _, _, rfl, rfl, _, rfl, _, M, rfl, hM, hF', ?_⟩
    refine ⟨_, rfl, hM.m11 ⟨_, rfl, _, _, rfl, rfl, fits_mul fd' sx, _, rfl, hM.m01 ⟨_, rfl, _, _, rfl, rfl, fits_mul fb sy, _, _, rfl, rfl, _, rfl, _, _, rfl, rfl, ⟨d0, d1⟩, ?_⟩⟩⟩
    refine ⟨_, rfl, hM.m00 ⟨_, rfl, _, _, rfl, rfl, fits_mul fa sy, _, rfl, hM.m10 ⟨_, rfl, _, _, rfl, rfl, fits_mul fc sx, _, _, rfl, rfl, _, rfl, _, _, rfl, rfl, ⟨d0, d1⟩, (by show 2 ≤ sizeLine; decide), fun q nq => ?_⟩⟩⟩
    exact k _ _ (same_new nq) ⟨q, rfl, upd_same⟩
def sp__law_lattice_cell : Sp := fun vs H Q _ => ∃ (u v : V) (M : Mat) (x y : Int), vs = [u, v] ∧ MatAt H u M ∧ CellAt H v x y ∧ M.Fits ∧ Sm x ∧ Sm y ∧ M.det ≠ 0 ∧ M.det.natAbs < 1073741824 ∧
  (InLat M x y → ∀ (H' : Hp) (r : V), Same H H' → CellAt H' r (unap M x y).1 (unap M x y).2 → Q r H') ∧ (¬ InLat M x y → Q .non H)
abbrev N__law_lattice_cell : List Str := ["_law_matrix", "_law_cell", "_law_size", "_law_one", "_law_two"]
theorem sc__law_lattice_cell : FnScope N__law_lattice_cell ["_law_matrix", "_law_cell"] (defScope s__law_lattice_cell) := ⟨rfl, rfl, rfl, by decide +kernel, rfl, by decide +kernel, by decide +kernel⟩
theorem mod_dvd {a d : Int} (hd : d ≠ 0) : decide (V.int (a % (if d < 0 then -d else d)) = V.int 0) = decide (d ∣ a) := by
  rw [abs_if]
  apply decide_eq_decide.mpr
  constructor
  · intro h
    injection h with h
    exact Int.natAbs_dvd.mp (Int.dvd_of_emod_eq_zero h)
  · intro h
    rw [Int.emod_eq_zero_of_dvd (Int.natAbs_dvd.mpr h)]
theorem abs_pos' {d : Int} (hd : d ≠ 0) : 0 < (if d < 0 then -d else d) := by
  rw [abs_if]
  omega
theorem ok__law_lattice_cell (T : Tx K mg) : Cl P w K mg base CX0 2 "_law_lattice_cell" sp__law_lattice_cell [] := by
  obtain ⟨fd, F⟩ := T.d__law_lattice_cell
  refine cl_of (ps := ["_law_matrix", "_law_cell"]) F T.g__law_lattice_cell (FunD.cl0 F sc__law_lattice_cell (fun vs H Q E h => ?_) (fun cdv A outer s H vs Q E hr h => ?_)) fun _ _ _ _ _ _ us hl => match us, hl with | [_, _], _ => rfl
  · obtain ⟨u, v, M, x, y, rfl, _⟩ := h
    rfl
  · obtain ⟨u, v, M, x, y, rfl, hM, hc, hF, sx, sy, d0, d1, k, k'⟩ := h
    have hF' := hF
    obtain ⟨fa, fb, fc, fd'⟩ := hF
    refine ⟨_, (pss_cons (st 2 sc__law_lattice_cell.nd (pe_cl (ok__law_determinant T) hr pass0 (pa_cons (pv 0) pa_nil)))
      (pss_cons (st 3 sc__law_lattice_cell.nd (pe_op op_sub (pe_op op_mulW (pe_at (pe_at (pv 0) pe_int) pe_int) (pe_at (pv 1) pe_int)) (pe_op op_mulW (pe_at (pe_at (pv 0) pe_int) pe_int) (pe_at (pv 1) pe_int))))
      (pss_cons (st 4 sc__law_lattice_cell.nd (pe_op op_sub (pe_op op_mulW (pe_at (pe_at (pv 0) pe_int) pe_int) (pe_at (pv 1) pe_int)) (pe_op op_mulW (pe_at (pe_at (pv 0) pe_int) pe_int) (pe_at (pv 1) pe_int))))
      (pss_cons (ps_if (pw_or (pt_cmpR op_ne (pe_op op_mod (pe_intI T (pv 3)) (pe_abs T (pv 2))) pe_int (nomark _)) (pw_or1 (pt_cmpR op_ne (pe_op op_mod (pe_intI T (pv 4)) (pe_abs T (pv 2))) pe_int (nomark _)))).pt (pss_one (ps_ret pe_non)) pss_nil)
      (pss_one (ps_ret (pe_tup (pa_cons (pe_op op_fdivN (pv 3) (pv 2)) (pa_cons (pe_op op_fdivN (pv 4) (pv 2)) pa_nil))))))))), ?_⟩
    refine ⟨_, rfl, _, M, rfl, hM, hF', ?_⟩
    refine ⟨_, rfl, hM.m11 ⟨_, rfl, hc.ix0 ⟨_, _, rfl, rfl, fits_mul fd' sx, _, rfl, hM.m01 ⟨_, rfl, hc.ix1 ⟨_, _, rfl, rfl, fits_mul fb sy, _, _, rfl, rfl, ?_⟩⟩⟩⟩⟩
    refine ⟨_, rfl, hM.m00 ⟨_, rfl, hc.ix1 ⟨_, _, rfl, rfl, fits_mul fa sy, _, rfl, hM.m10 ⟨_, rfl, hc.ix0 ⟨_, _, rfl, rfl, fits_mul fc sx, _, _, rfl, rfl, ?_⟩⟩⟩⟩⟩
    refine ⟨_, rfl, .inl ⟨_, rfl, _, rfl, _, rfl, _, _, rfl, rfl, abs_pos' d0, rfl, _, rfl, ?_⟩⟩
    rw [mod_dvd d0]
    refine ite2 (fun h1 => ?_) (fun h1 => ?_)
    · refine iteT (k' fun hl => ?_)
      rw [decide_eq_true hl.1] at h1
      cases h1
    · refine ⟨_, rfl, .inl ⟨_, rfl, _, rfl, _, rfl, _, _, rfl, rfl, abs_pos' d0, rfl, _, rfl, ?_⟩⟩
      rw [mod_dvd d0]
      refine ite2 (fun h2 => k' fun hl => ?_) (fun h2 => ?_)
      · rw [decide_eq_true hl.2] at h2
        cases h2
      · refine ⟨_, rfl, _, rfl, _, _, rfl, rfl, ⟨d0, d1⟩, _, rfl, _, rfl, _, _, rfl, rfl, ⟨d0, d1⟩, (by show 2 ≤ sizeLine; decide), fun q nq => ?_⟩
        refine k ⟨?_, ?_⟩ _ _ (same_new nq) ⟨q, rfl, upd_same⟩
        · simpa using h1
        · simpa using h2
end
end J
set_option Elab.async false
set_option linter.all false
set_option maxRecDepth 100000
set_option maxHeartbeats 4000000
set_option exponentiation.threshold 3000
/-! J2: the lattice's form, remainders. -/
namespace J
open PySem PySem.Spec PyProof.Rows L2
def TripAt (H : Hp) (v : V) (a b c : Int) : Prop := ∃ p : Addr, v = .ref p ∧ H p = some (.tup [.int a, .int b, .int c])
theorem TripAt.mono {H H' : Hp} {v : V} {a b c : Int} (h : TripAt H v a b c) (s : Same H H') : TripAt H' v a b c := let ⟨p, e, q⟩ := h; ⟨p, e, s _ _ q⟩
theorem TripAt.seq {H : Hp} {v : V} {a b c : Int} (h : TripAt H v a b c) : SeqAt H v [.int a, .int b, .int c] := let ⟨p, e, q⟩ := h; ⟨p, e, .inl q⟩
section
variable {K : PySem.W.Frag} {H : Hp} {v : V} {a b c : Int} {Q : VK}
theorem TripAt.ix0 (h : TripAt H v a b c) (q : Q (.int a) H) : rIx K v (.int 0) H Q := SeqAt.ix (i := 0) h.seq rfl q
theorem TripAt.ix1 (h : TripAt H v a b c) (q : Q (.int b) H) : rIx K v (.int 1) H Q := SeqAt.ix (i := 1) h.seq rfl q
theorem TripAt.ix2 (h : TripAt H v a b c) (q : Q (.int c) H) : rIx K v (.int 2) H Q := SeqAt.ix (i := 2) h.seq rfl q
end
/-! ### Euclid's step -/
structure Eu (one other f0 f1 f2 s0 s1 s2 : Int) : Prop where
  f : f0 = f1 * one + f2 * other
  s : s0 = s1 * one + s2 * other
  g : Int.gcd f0 s0 = Int.gcd one other
  fb : f0.natAbs < 2 ^ 20
  sb : s0.natAbs < 2 ^ 20
theorem gcd_step {f s k : Int} : Int.gcd s (f - k * s) = Int.gcd f s := by
  rw [Int.gcd_comm f s, Int.gcd_sub_mul_right_right]
theorem fmod_small {f s : Int} (h : s ≠ 0) : (f - f.fdiv s * s).natAbs < s.natAbs := by
  have e : f - f.fdiv s * s = f.fmod s := by
    have := Int.fmod_def f s
    rw [this, Int.mul_comm]
  rw [e]
  rcases Int.lt_or_gt_of_ne h with z | z
  · have h1 := Int.fmod_lt_of_pos (-f) (show 0 < -s by omega)
    have h2 := Int.fmod_nonneg_of_pos (-f) (show 0 < -s by omega)
    rw [Int.neg_fmod_neg] at h1 h2
    omega
  · have h1 := Int.fmod_lt_of_pos f z
    have h2 := Int.fmod_nonneg_of_pos f z
    omega
theorem Eu.step {one other f0 f1 f2 s0 s1 s2 : Int} (h : Eu one other f0 f1 f2 s0 s1 s2) (hs : s0 ≠ 0) :
    Eu one other s0 s1 s2 (f0 - f0.fdiv s0 * s0) (f1 - f0.fdiv s0 * s1) (f2 - f0.fdiv s0 * s2) := by
  refine ⟨h.s, ?_, ?_, h.sb, Nat.lt_trans (fmod_small hs) h.sb⟩
  · have h1 := h.f
    have h2 := h.s
    generalize f0.fdiv s0 = k
    grind
  · rw [gcd_step, h.g]
theorem fdiv_mulok {f s x : Int} (hf : f.natAbs < 2 ^ 20) : CMul (f.fdiv s) x := by
  refine .inl ?_
  have h : (f.fdiv s).natAbs ≤ f.natAbs + 1 := by
    rw [Int.fdiv_eq_ediv]
    have h1 : (f / s).natAbs ≤ f.natAbs := Int.natAbs_ediv_le_natAbs f s
    split <;> omega
  have : (2 : Int) ^ 64 = 18446744073709551616 := rfl
  omega
section
variable {P : Program} {w : World} {K : PySem.W.Frag} {mg : Str → Option Value} {base : Heap}
def sp_shares_of : Sp := fun vs H Q _ => ∃ (one other : Int), vs = [.int one, .int other] ∧ one.natAbs < 2 ^ 20 ∧ other.natAbs < 2 ^ 20 ∧
  ∀ (H' : Hp) (r : V) (g m i : Int), Same H H' → TripAt H' r g m i → m * one + i * other = g → g = (Int.gcd one other : Int) → Q r H'
abbrev N_shares_of : List Str := ["one", "other", "rows", "by", "size", "mine", "its", "first", "second"]
theorem sc_shares_of : FnScope N_shares_of ["one", "other"] (defScope s_shares_of) := ⟨rfl, rfl, rfl, by decide +kernel, rfl, by decide +kernel, by decide +kernel⟩
/-- the loop's word -/
def shW (one other : Int) (H : Hp) (m : Nat) (σ : L2.St) (H' : Hp) : Prop := ∃ (by1 fs sn : Option V) (l p1 p2 : Addr) (f0 f1 f2 s0 s1 s2 : Int), m = s0.natAbs ∧
  σ = [some (.int one), some (.int other), some (.ref l), by1, none, none, none, fs, sn] ∧ Same H H' ∧ H' l = some (.lst [.ref p1, .ref p2]) ∧
  H' p1 = some (.tup [.int f0, .int f1, .int f2]) ∧ H' p2 = some (.tup [.int s0, .int s1, .int s2]) ∧ Eu one other f0 f1 f2 s0 s1 s2
theorem ok_shares_of (T : Tx K mg) : Cl P w K mg base CX0 1 "shares_of" sp_shares_of [] := by
  obtain ⟨fd, F⟩ := T.d_shares_of
  refine cl_of (ps := ["one", "other"]) F T.g_shares_of (FunD.cl0 F sc_shares_of (fun vs H Q E h => ?_) (fun cdv A outer s H vs Q E hr h => ?_)) fun _ _ _ _ _ _ us hl => match us, hl with | [_, _], _ => rfl
  · obtain ⟨one, other, rfl, _⟩ := h
    rfl
  · obtain ⟨one, other, rfl, b1, b2, k⟩ := h
    refine ⟨_, (pss_cons (st 2 sc_shares_of.nd (pe_lst (pa_cons (pe_tup (pa_cons (pv 0) (pa_cons pe_int (pa_cons pe_int pa_nil)))) (pa_cons (pe_tup (pa_cons (pv 1) (pa_cons pe_int (pa_cons pe_int pa_nil)))) pa_nil))))
      (pss_cons (ps_while (PassesOwn.never) (pt_cmpR op_ne (pe_at (pe_at (pv 2) pe_int) pe_int) pe_int (nomark _)) (pss_cons (ps_asg (pv 2) (pg_unl rfl (pgs_cons (gn 7 sc_shares_of.nd) (pgs_cons (gn 8 sc_shares_of.nd) pgs_nil)))) (pss_cons (st 3 sc_shares_of.nd (pe_op op_fdivN (pe_at (pv 7) pe_int) (pe_at (pv 8) pe_int))) (pss_one (st 2 sc_shares_of.nd (pe_lst (pa_cons (pv 8) (pa_cons (pe_tup (pa_cons (pe_op op_sub (pe_at (pv 7) pe_int) (pe_op op_mul (pv 3) (pe_at (pv 8) pe_int))) (pa_cons (pe_op op_sub (pe_at (pv 7) pe_int) (pe_op op_mul (pv 3) (pe_at (pv 8) pe_int))) (pa_cons (pe_op op_sub (pe_at (pv 7) pe_int) (pe_op op_mul (pv 3) (pe_at (pv 8) pe_int))) pa_nil)))) pa_nil))))))))
      (pss_cons (ps_asg (pe_at (pv 2) pe_int) (pg_tup rfl (pgs_cons (gn 4 sc_shares_of.nd) (pgs_cons (gn 5 sc_shares_of.nd) (pgs_cons (gn 6 sc_shares_of.nd) pgs_nil)))))
      (pss_one (ps_ret (pe_ifExp (pt_cmpR op_gt (pv 4) pe_int (nomark _)) (pe_tup (pa_cons (pv 4) (pa_cons (pv 5) (pa_cons (pv 6) pa_nil)))) (pe_tup (pa_cons (pe_un un_neg (pv 4)) (pa_cons (pe_un un_neg (pv 5)) (pa_cons (pe_un un_neg (pv 6)) pa_nil)))))))))), ?_⟩
    refine ⟨_, rfl, (by show 3 ≤ sizeLine; decide), fun p1 n1 => ⟨_, rfl, (by show 3 ≤ sizeLine; decide), fun p2 n2 => ⟨(by show 2 ≤ sizeLine; decide), fun l nl => ?_⟩⟩⟩
    have e1 := ne_of_none (upd_same (H := H) (a := p1) (o := .tup [.int one, .int 1, .int 0])) n2
    have e2 := ne_of_none (upd_same (a := p2) (o := .tup [.int other, .int 0, .int 1])) nl
    have e3 := ne_of_none ((upd_ne e1).trans upd_same) nl
    refine ⟨shW one other H, ⟨_, none, none, none, l, p1, p2, one, 1, 0, other, 0, 1, rfl, rfl, sN (sN (same_new n1) n2) nl, upd_same, ?_, ?_, ?_⟩, ?_⟩
    · rw [upd_ne e3, upd_ne e1, upd_same]
    · rw [upd_ne e2, upd_same]
    · exact ⟨by omega, by omega, rfl, b1, b2⟩
    · rintro m σ H' ⟨by1, fs, sn, l, p1, p2, f0, f1, f2, s0, s1, s2, rfl, rfl, sm, hl, h1, h2, eu⟩
      refine ⟨_, rfl, SeqAt.ix (i := 1) ⟨l, rfl, .inr hl⟩ rfl (SeqAt.ix (i := 0) ⟨p2, rfl, .inl h2⟩ rfl ⟨rfl, _, rfl, ?_⟩)⟩
      refine ite2 (fun hb => ?_) (fun hb => ?_)
      · have hs : s0 ≠ 0 := fun z => by
          rw [z] at hb
          simp at hb
        refine ⟨fun σ' H'' => ∃ m', m' < s0.natAbs ∧ shW one other H m' σ' H'', fun _ _ h => h, ?_⟩
        have t1 : TripAt H' (.ref p1) f0 f1 f2 := ⟨p1, rfl, h1⟩
        have t2 : TripAt H' (.ref p2) s0 s1 s2 := ⟨p2, rfl, h2⟩
        have cm : ∀ x, CMul (f0.fdiv s0) x := fun x => fdiv_mulok eu.fb
        refine ⟨_, rfl, l, _, rfl, SqL.of hl, rfl, _, _, rfl, _, _, rfl, rfl, ?_⟩
        refine ⟨_, rfl, t1.ix0 ⟨_, rfl, t2.ix0 ⟨_, _, rfl, rfl, ⟨hs, by have := eu.sb; omega⟩, ?_⟩⟩⟩
        refine ⟨_, rfl, _, rfl, t1.ix0 ⟨_, rfl, _, rfl, t2.ix0 ⟨_, _, rfl, rfl, cm _, _, _, rfl, rfl, ?_⟩⟩⟩
        refine ⟨_, rfl, t1.ix1 ⟨_, rfl, _, rfl, t2.ix1 ⟨_, _, rfl, rfl, cm _, _, _, rfl, rfl, ?_⟩⟩⟩
        refine ⟨_, rfl, t1.ix2 ⟨_, rfl, _, rfl, t2.ix2 ⟨_, _, rfl, rfl, cm _, _, _, rfl, rfl, (by show 3 ≤ sizeLine; decide), fun p3 n3 => ⟨(by show 2 ≤ sizeLine; decide), fun l2 nl => ?_⟩⟩⟩⟩
        have e3 := ne_of_none (upd_same (H := H') (a := p3)) nl
        have e4 := ne_of_none h2 n3
        have e5 := ne_of_none ((upd_ne e4).trans h2) nl
        refine ⟨_, fmod_small hs, _, _, _, l2, p2, p3, _, _, _, _, _, _, rfl, rfl, sN (sN sm n3) nl, upd_same, ?_, ?_, eu.step hs⟩
        · rw [upd_ne e5, upd_ne e4]
          exact h2
        · rw [upd_ne e3, upd_same]
      · have hs : s0 = 0 := by simpa using hb
        have t1 : TripAt H' (.ref p1) f0 f1 f2 := ⟨p1, rfl, h1⟩
        have eg : Int.gcd one other = f0.natAbs := by
          have := eu.g
          rw [hs, Int.gcd_zero_right] at this
          exact this.symm
        have ef := eu.f
        refine ⟨_, rfl, SeqAt.ix (i := 0) ⟨l, rfl, .inr hl⟩ rfl ⟨p1, _, rfl, SqT.of h1, rfl, _, _, rfl, _, _, rfl, _, _, rfl, rfl, ?_⟩⟩
        refine ⟨_, rfl, _, _, rfl, rfl, _, rfl, ?_⟩
        refine ite2 (fun hp => ?_) (fun hp => ?_)
        · have hp : 0 < f0 := by simpa using hp
          refine ⟨_, rfl, _, rfl, _, rfl, (by show 3 ≤ sizeLine; decide), fun q nq => k _ _ f0 f1 f2 (sN sm nq) ⟨q, rfl, upd_same⟩ ef.symm ?_⟩
          rw [eg]
          omega
        · have hp : ¬ 0 < f0 := by simpa using hp
          refine ⟨_, rfl, _, rfl, _, rfl, _, rfl, _, rfl, _, rfl, (by show 3 ≤ sizeLine; decide), fun q nq => k _ _ (-f0) (-f1) (-f2) (sN sm nq) ⟨q, rfl, upd_same⟩ ?_ ?_⟩
          · rw [ef]
            grind
          · rw [eg]
            omega
end
end J
set_option Elab.async false
set_option linter.all false
set_option maxRecDepth 100000
set_option maxHeartbeats 4000000
set_option exponentiation.threshold 3000
namespace J
open PySem PySem.Spec PyProof.Rows L2 TL

/-! JS: texts as lists of signs; names. -/
theorem tl_cut_from (z : Str) (r : Nat) : tl (cutS z (some (r : Int)) none) = (tl z).drop r := by
  show ((tl z).drop (HT.sIx z.length 0 (some (r : Int)))).take (HT.sIx z.length z.length none - HT.sIx z.length 0 (some (r : Int))) = _
  rw [HT.sIx_nat, HT.sIx_none, len_tl]
  by_cases h : r ≤ (tl z).length
  · rw [Nat.min_eq_left h, List.take_of_length_le (by rw [List.length_drop]; omega)]
  · rw [Nat.min_eq_right (by omega), List.drop_of_length_le (Nat.le_refl _), List.drop_of_length_le (by omega), List.take_nil]
theorem tl_cut_to (z : Str) (r : Nat) : tl (cutS z none (some (r : Int))) = (tl z).take r := by
  show ((tl z).drop (HT.sIx z.length 0 none)).take (HT.sIx z.length z.length (some (r : Int)) - HT.sIx z.length 0 none) = _
  rw [HT.sIx_nat, HT.sIx_none, len_tl, List.drop_zero, Nat.sub_zero]
  by_cases h : r ≤ (tl z).length
  · rw [Nat.min_eq_left h]
  · rw [Nat.min_eq_right (by omega), List.take_of_length_le (Nat.le_refl _), List.take_of_length_le (by omega)]
theorem tl_cut_one (z : Str) (r : Nat) : tl (cutS z (some (r : Int)) (some ((r : Int) + 1))) = ((tl z).drop r).take 1 := by
  have e : (r : Int) + 1 = ((r + 1 : Nat) : Int) := rfl
  rw [e]
  show ((tl z).drop (HT.sIx z.length 0 (some (r : Int)))).take (HT.sIx z.length z.length (some ((r + 1 : Nat) : Int)) - HT.sIx z.length 0 (some (r : Int))) = _
  rw [HT.sIx_nat, HT.sIx_nat, len_tl]
  by_cases h : r + 1 ≤ (tl z).length
  · have e1 : min r (tl z).length = r := by omega
    have e2 : min (r + 1) (tl z).length = r + 1 := by omega
    rw [e1, e2, Nat.add_sub_cancel_left]
  · rw [Nat.min_eq_right (show (tl z).length ≤ r + 1 by omega)]
    have e1 : (tl z).drop r = [] := List.drop_of_length_le (by omega)
    have e2 : min r (tl z).length = (tl z).length := by omega
    rw [e1, e2, List.drop_of_length_le (Nat.le_refl _), List.take_nil, List.take_nil]
theorem tl_cut_last (z : Str) : tl (cutS z (some (-1)) none) = (tl z).drop ((tl z).length - 1) := by
  show ((tl z).drop (HT.sIx z.length 0 (some (-1)))).take (HT.sIx z.length z.length none - HT.sIx z.length 0 (some (-1))) = _
  have e : HT.sIx z.length 0 (some (-1)) = (tl z).length - 1 := by
    show (if (-1 : Int) < 0 then ((-1 : Int) + (z.length : Int)).toNat else min (-1 : Int).toNat z.length) = _
    rw [if_pos (by decide), len_tl]
    omega
  rw [e, HT.sIx_none, len_tl, List.take_of_length_le]
  rw [List.length_drop]
  exact Nat.le_refl _
theorem tl_cut_init (z : Str) : tl (cutS z none (some (-1))) = (tl z).take ((tl z).length - 1) := by
  show ((tl z).drop (HT.sIx z.length 0 none)).take (HT.sIx z.length z.length (some (-1)) - HT.sIx z.length 0 none) = _
  have e : HT.sIx z.length z.length (some (-1)) = (tl z).length - 1 := by
    show (if (-1 : Int) < 0 then ((-1 : Int) + (z.length : Int)).toNat else min (-1 : Int).toNat z.length) = _
    rw [if_pos (by decide), len_tl]
    omega
  rw [e, HT.sIx_none, Nat.sub_zero, List.drop_zero]
theorem tl_rstrip (x y : Str) : tl (Txt.rstripChars x y) = (tl x).take ((tl x).length - ((tl x).reverse.takeWhile y.cps.contains).length) := by
  have h0 : stripLo y.cps.contains false x = 0 := rfl
  have h1 : stripHi y.cps.contains true x 0 = (tl x).length - ((tl x).reverse.takeWhile y.cps.contains).length := by
    show x.length - ((x.cps.toList.drop 0).reverse.takeWhile _).length = _
    rw [List.drop_zero, len_tl]
  show tl (if stripSame y.cps.contains false true x then x else stripped y.cps.contains false true x) = _
  unfold stripSame stripped
  rw [h0, h1]
  split
  · rename_i h
    have h : (tl x).length - ((tl x).reverse.takeWhile y.cps.contains).length = x.length := by simpa using h
    rw [h, len_tl, List.take_of_length_le (Nat.le_refl _)]
  · rw [tl_strSub, List.drop_zero, Nat.sub_zero]
theorem tw_imp {p : Nat → Bool} {c : Nat} : ∀ {l : List Nat}, c ∈ l.takeWhile p → p c = true
  | [], h => nomatch h
  | a :: r, h => by
    rw [List.takeWhile_cons] at h
    cases ha : p a with
    | false =>
      rw [ha] at h
      cases h
    | true =>
      rw [ha] at h
      rcases List.mem_cons.mp h with e | q
      · rw [e]
        exact ha
      · exact tw_imp q
theorem tl_one (c : Nat) : tl ⟨#[c]⟩ = [c] := rfl
theorem strip_empty (x y : Str) (h : tl x = []) : tl (Txt.stripChars x y) = [] := by
  have h0 : x = ⟨#[]⟩ := ext_tl h
  subst h0
  rfl
/-- something stays -/
theorem strip_some (x y : Str) {c : Nat} (hc : c ∈ tl x) (hn : y.cps.contains c = false) : tl (Txt.stripChars x y) ≠ [] := by
  show tl (if stripSame y.cps.contains true true x then x else stripped y.cps.contains true true x) ≠ []
  split
  · intro z
    rw [z] at hc
    cases hc
  · unfold stripped
    rw [tl_strSub]
    have e : stripLo y.cps.contains true x = ((tl x).takeWhile y.cps.contains).length := rfl
    have e2 : stripHi y.cps.contains true x (stripLo y.cps.contains true x) = (tl x).length - (((tl x).drop (stripLo y.cps.contains true x)).reverse.takeWhile y.cps.contains).length := by
      show x.length - _ = _
      rw [len_tl]
    rw [e2, e]
    generalize hl : tl x = l at hc
    have hd : c ∈ l.dropWhile y.cps.contains := by
      have := List.takeWhile_append_dropWhile (p := y.cps.contains) (l := l)
      rw [← this] at hc
      rcases List.mem_append.mp hc with q | q
      · have := tw_imp q
        rw [hn] at this
        cases this
      · exact q
    have hdl : l.drop (l.takeWhile y.cps.contains).length = l.dropWhile y.cps.contains := by
      have h9 := List.drop_left (l₁ := l.takeWhile y.cps.contains) (l₂ := l.dropWhile y.cps.contains)
      rw [List.takeWhile_append_dropWhile] at h9
      exact h9
    have hle : (l.takeWhile y.cps.contains).length + (l.dropWhile y.cps.contains).length = l.length := by
      rw [← List.length_append, List.takeWhile_append_dropWhile]
    rw [hdl]
    generalize hm : l.dropWhile y.cps.contains = m at hd hle
    have h2 : (m.reverse.takeWhile y.cps.contains).length < m.length := by
      have h3 : (m.reverse.takeWhile y.cps.contains).length ≤ m.reverse.length := (List.takeWhile_sublist _).length_le
      rw [List.length_reverse] at h3
      rcases Nat.lt_or_eq_of_le h3 with q | q
      · exact q
      · exfalso
        have h4 : m.reverse.takeWhile y.cps.contains = m.reverse := (List.takeWhile_prefix _).eq_of_length (by rw [q, List.length_reverse])
        have h5 : c ∈ m.reverse.takeWhile y.cps.contains := by
          rw [h4]
          exact List.mem_reverse.mpr hd
        have := tw_imp h5
        rw [hn] at this
        cases this
    intro z
    have := congrArg List.length z
    rw [List.length_take, List.length_nil] at this
    omega
/-! ### names -/
def Let (c : Nat) : Prop := 97 ≤ c ∧ c ≤ 122
def Sig (c : Nat) : Prop := (97 ≤ c ∧ c ≤ 122) ∨ (48 ≤ c ∧ c ≤ 57) ∨ c = 46
structure NmL (l : List Nat) : Prop where
  hd : ∃ c r, l = c :: r ∧ Let c
  nd : ∀ i, l[i]? = some 46 → l[i + 1]? ≠ some 46
  al : ∀ c ∈ l, Sig c
structure NameL (l : List Nat) : Prop extends NmL l where
  la : l.getLast? ≠ some 46
theorem NmL.ne {l : List Nat} (h : NmL l) : l ≠ [] := by
  obtain ⟨c, r, rfl, _⟩ := h.hd
  simp
theorem NmL.one {c : Nat} (h : Let c) : NmL [c] := by
  refine ⟨⟨c, [], rfl, h⟩, fun i e => ?_, fun d hd => ?_⟩
  · simp
  · rw [List.mem_singleton.mp hd]
    exact .inl h
theorem NmL.snoc {l : List Nat} {c : Nat} (h : NmL l) (hc : Sig c) (hd : c = 46 → l.getLast? ≠ some 46) : NmL (l ++ [c]) := by
  obtain ⟨d, r, e, hd'⟩ := h.hd
  refine ⟨⟨d, r ++ [c], by rw [e]; rfl, hd'⟩, fun i h1 h2 => ?_, fun x hx => ?_⟩
  · by_cases hi : i + 1 < l.length
    · rw [List.getElem?_append_left hi] at h2
      rw [List.getElem?_append_left (by omega)] at h1
      exact h.nd i h1 h2
    · have hi2 : i + 1 = l.length := by
        have := (List.getElem?_eq_some_iff.mp h2).1
        rw [List.length_append] at this
        simp at this
        omega
      rw [hi2] at h2
      simp at h2
      rw [List.getElem?_append_left (by omega)] at h1
      refine hd h2 ?_
      rw [List.getLast?_eq_getElem?]
      have : l.length - 1 = i := by omega
      rw [this]
      exact h1
  · rcases List.mem_append.mp hx with q | q
    · exact h.al x q
    · rw [List.mem_singleton.mp q]
      exact hc
theorem NmL.take {l : List Nat} {k : Nat} (h : NmL l) (hk : 0 < k) : NmL (l.take k) := by
  obtain ⟨c, r, e, hc⟩ := h.hd
  refine ⟨⟨c, r.take (k - 1), ?_, hc⟩, fun i h1 h2 => ?_, fun x hx => h.al x (List.mem_of_mem_take hx)⟩
  · rw [e]
    obtain ⟨j, rfl⟩ : ∃ j, k = j + 1 := ⟨k - 1, by omega⟩
    rfl
  · have hi := (List.getElem?_eq_some_iff.mp h2).1
    rw [List.length_take] at hi
    rw [List.getElem?_take_of_lt (by omega)] at h1 h2
    exact h.nd i h1 h2
theorem NameL.dig {l : List Nat} {c : Nat} (h : NmL l) (hc : 48 ≤ c ∧ c ≤ 57) : NameL (l ++ [c]) :=
  { h.snoc (.inr (.inl hc)) (fun z => by omega) with la := by rw [List.getLast?_concat]; intro z; cases z; omega }
/-- digits behind a name's last sign -/
theorem NameL.digs {l : List Nat} (h : NmL l) : ∀ {d : List Nat}, d ≠ [] → (∀ c ∈ d, 48 ≤ c ∧ c ≤ 57) → NameL (l ++ d)
  | [], z, _ => absurd rfl z
  | [c], _, hd => NameL.dig h (hd c (List.mem_singleton.mpr rfl))
  | c :: e :: r, _, hd => by
    have := NameL.digs (NameL.dig h (hd c (List.mem_cons_self ..))).toNmL (d := e :: r) (by simp) fun x hx => hd x (List.mem_cons_of_mem _ hx)
    rw [List.append_assoc] at this
    exact this
/-- name '.' digits -/
theorem NameL.sub {l d : List Nat} (h : NameL l) (hd : d ≠ []) (hc : ∀ c ∈ d, 48 ≤ c ∧ c ≤ 57) : NameL (l ++ (46 :: d)) := by
  have h1 : NmL (l ++ [46]) := h.toNmL.snoc (.inr (.inr rfl)) fun _ => h.la
  have := NameL.digs h1 hd hc
  rw [List.append_assoc] at this
  exact this
/-- dots at the end go -/
theorem NmL.rstrip {x : Str} (h : NmL (tl x)) : NameL (tl (Txt.rstripChars x ".")) := by
  rw [tl_rstrip]
  obtain ⟨c, r, e, hc⟩ := h.hd
  have hcon : ∀ d : Nat, (("." : Str).cps.contains d) = decide (d = 46) := fun d => by
    have : ("." : Str).cps = #[46] := by decide +kernel
    rw [this]
    simp [Array.contains_iff]
  by_cases hl : (tl x).getLast? = some 46
  · obtain ⟨p, hp⟩ := List.getLast?_eq_some_iff.mp hl
    have hp46 : p.getLast? ≠ some 46 := fun z => by
      obtain ⟨q, hq⟩ := List.getLast?_eq_some_iff.mp z
      refine h.nd q.length ?_ ?_
      · rw [hp, hq]
        simp
      · rw [hp, hq]
        simp
    have hpne : p ≠ [] := fun z => by
      rw [z] at hp
      rw [hp] at e
      cases e
      unfold Let at hc
      omega
    have ht : ((tl x).reverse.takeWhile ("." : Str).cps.contains).length = 1 := by
      rw [hp, List.reverse_append]
      show ((46 :: p.reverse).takeWhile _).length = 1
      rw [List.takeWhile_cons, hcon]
      simp only [decide_true, if_true]
      cases hr : p.reverse with
      | nil => rfl
      | cons a b =>
        have : a ≠ 46 := fun z => by
          apply hp46
          rw [← List.head?_reverse, hr, z]
          rfl
        rw [List.takeWhile_cons, hcon, decide_eq_false this]
        rfl
    rw [ht]
    have hlen : (tl x).length - 1 = p.length := by
      rw [hp, List.length_append]
      simp
    have e2 : (tl x).take p.length = p := by
      rw [hp]
      exact List.take_left ..
    rw [hlen]
    have h3 := h.take (k := p.length) (List.length_pos_iff.mpr hpne)
    rw [e2] at h3 ⊢
    exact { h3 with la := hp46 }
  · have ht : ((tl x).reverse.takeWhile ("." : Str).cps.contains).length = 0 := by
      cases hr : (tl x).reverse with
      | nil => rfl
      | cons a b =>
        have : a ≠ 46 := fun z => by
          apply hl
          rw [← List.head?_reverse, hr, z]
          rfl
        rw [List.takeWhile_cons, hcon, decide_eq_false this]
        rfl
    rw [ht, Nat.sub_zero, List.take_of_length_le (Nat.le_refl _)]
    exact { h with la := hl }
def NameS (x : Str) : Prop := NameL (tl x)
def NameOk (x : Str) : Prop := NameS x ∧ x.length ≤ 40
end J
set_option Elab.async false
set_option linter.all false
set_option maxRecDepth 100000
set_option maxHeartbeats 4000000
set_option exponentiation.threshold 3000
namespace J
open PySem PySem.Spec PyProof.Rows L2

/-! J3: the lattice's form, remainders, products. -/
def Mat.Small (M : Mat) : Prop := M.a.natAbs < 2 ^ 20 ∧ M.b.natAbs < 2 ^ 20 ∧ M.c.natAbs < 2 ^ 20 ∧ M.d.natAbs < 2 ^ 20
theorem Mat.Small.fits {M : Mat} (h : M.Small) : M.Fits := by
  have e : ∀ {n : Nat}, n < 2 ^ 20 → n < 2 ^ 1100 := fun q => Nat.lt_trans q (Nat.pow_lt_pow_right (by decide) (by decide))
  exact ⟨e h.1, e h.2.1, e h.2.2.1, e h.2.2.2⟩
theorem hi_small {M : Mat} (h : M.Small) (d0 : M.det ≠ 0) : M.hi < 1073741824 := by
  have h1 := hi_pos d0
  unfold Mat.hi at h1 ⊢
  by_cases hc : M.c = 0
  · have hd : M.d ≠ 0 := fun z => by
      rw [hc, z] at h1
      simp at h1
    have := Int.gcd_le_natAbs_right M.c hd
    have := h.2.2.2
    omega
  · have := Int.gcd_le_natAbs_left M.d hc
    have := h.2.2.1
    omega
theorem cmul_r {i j : Int} (h : j.natAbs < 2 ^ 60) : CMul i j := .inr (by
  have : (2 : Int) ^ 64 = 18446744073709551616 := rfl
  omega)
theorem cmul_l {i j : Int} (h : i.natAbs < 2 ^ 60) : CMul i j := .inl (by
  have : (2 : Int) ^ 64 = 18446744073709551616 := rfl
  omega)
theorem det_small {M : Mat} (h : M.Small) : M.det.natAbs < 2 ^ 42 := by
  have e : ∀ {a b : Int}, a.natAbs < 2 ^ 20 → b.natAbs < 2 ^ 20 → (a * b).natAbs < 2 ^ 40 := fun {a b} ha hb => by
    rw [Int.natAbs_mul]
    have := Nat.mul_lt_mul'' ha hb
    omega
  have h1 := e h.1 h.2.2.2
  have h2 := e h.2.1 h.2.2.1
  unfold Mat.det
  omega
theorem wi_le {M : Mat} (d0 : M.det ≠ 0) : M.wi ≤ (M.det.natAbs : Int) := Int.ediv_le_self _ (by omega)
/-- the lean of a form -/
structure Lean (M : Mat) (q : Int) : Prop where
  ex : ∃ u v n : Int, Comb M u v ∧ q = u * M.a + v * M.b - M.wi * n
  lo : 0 ≤ q
  hi : q < M.wi
section
variable {P : Program} {w : World} {K : PySem.W.Frag} {mg : Str → Option Value} {base : Heap}
def sp_lattice_of : Sp := fun vs H Q _ => ∃ (u : V) (M : Mat), vs = [u] ∧ MatAt H u M ∧ M.Small ∧ M.det ≠ 0 ∧ ∀ (H' : Hp) (r : V) (q : Int), Same H H' → TripAt H' r M.wi q M.hi → Lean M q → Q r H'
abbrev N_lattice_of : List Str := ["matrix", "wide", "step", "mine", "its"]
theorem sc_lattice_of : FnScope N_lattice_of ["matrix"] (defScope s_lattice_of) := ⟨rfl, rfl, rfl, by decide +kernel, rfl, by decide +kernel, by decide +kernel⟩
theorem ok_lattice_of (T : Tx K mg) : Cl P w K mg base CX0 2 "lattice_of" sp_lattice_of [] := by
  obtain ⟨fd, F⟩ := T.d_lattice_of
  refine cl_of (ps := ["matrix"]) F T.g_lattice_of (FunD.cl0 F sc_lattice_of (fun vs H Q E h => ?_) (fun cdv A outer s H vs Q E hr h => ?_)) fun _ _ _ _ _ _ us hl => match us, hl with | [_], _ => rfl
  · obtain ⟨u, M, rfl, _⟩ := h
    rfl
  · obtain ⟨u, M, rfl, hM, hS, d0, k⟩ := h
    refine ⟨_, (pss_cons (ps_asg (pe_cl (ok_shares_of T) hr pass0 (pa_cons (pe_at (pe_at (pv 0) pe_int) pe_int) (pa_cons (pe_at (pe_at (pv 0) pe_int) pe_int) pa_nil))) (pg_tup rfl (pgs_cons (gn 2 sc_lattice_of.nd) (pgs_cons (gn 3 sc_lattice_of.nd) (pgs_cons (gn 4 sc_lattice_of.nd) pgs_nil)))))
      (pss_cons (st 1 sc_lattice_of.nd (pe_op op_fdiv (pe_abs T (pe_cl (ok_determinant T) hr pass0 (pa_cons (pv 0) pa_nil))) (pv 2)))
      (pss_one (ps_ret (pe_tup (pa_cons (pv 1) (pa_cons (pe_op op_mod (pe_op op_add (pe_op op_mul (pv 3) (pe_at (pe_at (pv 0) pe_int) pe_int)) (pe_op op_mul (pv 4) (pe_at (pe_at (pv 0) pe_int) pe_int))) (pv 1)) (pa_cons (pv 2) pa_nil)))))))), ?_⟩
    have h1 := hi_pos d0
    have h2 := wi_pos d0
    refine ⟨_, rfl, hM.m10 ⟨_, rfl, hM.m11 ⟨M.c, M.d, rfl, hS.2.2.1, hS.2.2.2, fun H1 r g m i sm tr hg hg2 => ?_⟩⟩⟩
    have hM1 := hM.mono sm
    obtain ⟨p, rfl, hp⟩ := tr
    refine ⟨p, _, rfl, SqT.of hp, rfl, _, _, rfl, _, _, rfl, _, _, rfl, rfl, ?_⟩
    refine ⟨_, rfl, _, M, rfl, hM1, hS.fits, _, rfl, ?_⟩
    rw [abs_if]
    refine ⟨_, rfl, _, _, rfl, rfl, ⟨by rw [hg2]; exact h1, by rw [hg2]; exact hi_small hS d0⟩, ?_⟩
    subst hg2
    refine ⟨_, rfl, _, rfl, _, rfl, hM1.m00 ⟨_, _, rfl, rfl, cmul_r (Nat.lt_trans hS.1 (by decide)), _, rfl, _, rfl, hM1.m01 ⟨_, _, rfl, rfl, cmul_r (Nat.lt_trans hS.2.1 (by decide)), _, _, rfl, rfl, _, rfl, _, _, rfl, rfl, h2, _, rfl, (by show 3 ≤ sizeLine; decide), fun q nq => ?_⟩⟩⟩
    refine k _ _ ((m * M.a + i * M.b) % M.wi) (sN sm nq) ⟨q, rfl, upd_same⟩ ⟨⟨m, i, (m * M.a + i * M.b) / M.wi, ⟨hg⟩, ?_⟩, Int.emod_nonneg _ (by omega), Int.emod_lt_of_pos _ h2⟩
    rw [Int.emod_def]
def sp_remainder_of : Sp := fun vs H Q _ => ∃ (f c : V) (M : Mat) (q x y : Int), vs = [f, c] ∧ TripAt H f M.wi q M.hi ∧ CellAt H c x y ∧ M.Small ∧ M.det ≠ 0 ∧ Lean M q ∧
  ∀ (H' : Hp) (r : V) (i j : Int), Same H H' → CellAt H' r i j → RestIs M x y i j → Q r H'
abbrev N_remainder_of : List Str := ["form", "cell", "rest", "wide", "lean", "step"]
theorem sc_remainder_of : FnScope N_remainder_of ["form", "cell"] (defScope s_remainder_of) := ⟨rfl, rfl, rfl, by decide +kernel, rfl, by decide +kernel, by decide +kernel⟩
theorem ok_remainder_of (T : Tx K mg) : Cl P w K mg base CX0 1 "remainder_of" sp_remainder_of [] := by
  obtain ⟨fd, F⟩ := T.d_remainder_of
  refine cl_of (ps := ["form", "cell"]) F T.g_remainder_of (FunD.cl0 F sc_remainder_of (fun vs H Q E h => ?_) (fun cdv A outer s H vs Q E hr h => ?_)) fun _ _ _ _ _ _ us hl => match us, hl with | [_, _], _ => rfl
  · obtain ⟨f, c, M, q, x, y, rfl, _⟩ := h
    rfl
  · obtain ⟨f, c, M, q, x, y, rfl, ⟨p, rfl, hp⟩, hc, hS, d0, hL, k⟩ := h
    refine ⟨_, (pss_cons (ps_asg (pv 0) (pg_tup rfl (pgs_cons (gn 3 sc_remainder_of.nd) (pgs_cons (gn 4 sc_remainder_of.nd) (pgs_cons (gn 5 sc_remainder_of.nd) pgs_nil)))))
      (pss_cons (st 2 sc_remainder_of.nd (pe_op op_mod (pe_at (pv 1) pe_int) (pv 5)))
      (pss_one (ps_ret (pe_tup (pa_cons (pe_op op_mod (pe_op op_sub (pe_at (pv 1) pe_int) (pe_op op_mul (pe_op op_fdiv (pe_op op_sub (pe_at (pv 1) pe_int) (pv 2)) (pv 5)) (pv 4))) (pv 3)) (pa_cons (pv 2) pa_nil))))))), ?_⟩
    have h1 := hi_pos d0
    have h2 := wi_pos d0
    have h3 := hi_small hS d0
    obtain ⟨⟨u, v, n, C, eq⟩, l0, l1⟩ := hL
    have l2 : q.natAbs < 2 ^ 60 := by
      have := wi_le d0
      have := det_small hS
      omega
    refine ⟨_, rfl, p, _, rfl, SqT.of hp, rfl, _, _, rfl, _, _, rfl, _, _, rfl, rfl, ?_⟩
    refine ⟨_, rfl, hc.ix1 ⟨_, rfl, _, _, rfl, rfl, h1, ?_⟩⟩
    refine ⟨_, rfl, hc.ix0 ⟨_, rfl, hc.ix1 ⟨_, rfl, _, _, rfl, rfl, _, rfl, _, _, rfl, rfl, ⟨h1, h3⟩, _, rfl, _, _, rfl, rfl, cmul_r l2, _, _, rfl, rfl, _, rfl, _, _, rfl, rfl, h2, _, rfl, (by show 2 ≤ sizeLine; decide), fun r nr => ?_⟩⟩⟩
    refine k _ _ _ _ (same_new nr) ⟨r, rfl, upd_same⟩ ⟨Int.emod_nonneg _ (by omega), Int.emod_lt_of_pos _ h2, Int.emod_nonneg _ (by omega), Int.emod_lt_of_pos _ h1, ?_⟩
    have e1 : y - y % M.hi = M.hi * (y / M.hi) := by
      have := Int.emod_add_mul_ediv y M.hi
      omega
    refine rest_in (k := y / M.hi) (m := (x - (y - y % M.hi) / M.hi * q) / M.wi) C eq e1 ?_
    have e2 : (y - y % M.hi) / M.hi = y / M.hi := by
      rw [e1]
      exact Int.mul_ediv_cancel_left _ (by omega)
    rw [e2]
    have := Int.emod_add_mul_ediv (x - y / M.hi * q) M.wi
    omega
def Mat.mul (A B : Mat) : Mat := ⟨A.a * B.a + A.b * B.c, A.a * B.b + A.b * B.d, A.c * B.a + A.d * B.c, A.c * B.b + A.d * B.d⟩
theorem det_mul (A B : Mat) : (A.mul B).det = A.det * B.det := by
  unfold Mat.det Mat.mul
  grind
def sp__law_applied : Sp := fun vs H Q _ => ∃ (u v : V) (M : Mat) (x y : Int), vs = [u, v] ∧ MatT H u M ∧ CellAt H v x y ∧ M.Small ∧ ∀ (H' : Hp) (r : V), Same H H' → CellAt H' r (M.a * x + M.b * y) (M.c * x + M.d * y) → Q r H'
abbrev N__law_applied : List Str := ["_law_matrix", "_law_cell", "_law_one", "_law_two"]
theorem sc__law_applied : FnScope N__law_applied ["_law_matrix", "_law_cell"] (defScope s__law_applied) := ⟨rfl, rfl, rfl, by decide +kernel, rfl, by decide +kernel, by decide +kernel⟩
theorem ok__law_applied (T : Tx K mg) : Cl P w K mg base CX0 1 "_law_applied" sp__law_applied [] := by
  obtain ⟨fd, F⟩ := T.d__law_applied
  refine cl_of (ps := ["_law_matrix", "_law_cell"]) F T.g__law_applied (FunD.cl0 F sc__law_applied (fun vs H Q E h => ?_) (fun cdv A outer s H vs Q E hr h => ?_)) fun _ _ _ _ _ _ us hl => match us, hl with | [_, _], _ => rfl
  · obtain ⟨u, v, M, x, y, rfl, _⟩ := h
    rfl
  · obtain ⟨u, v, M, x, y, rfl, ⟨p, r1, r2, rfl, hp, ha, hb⟩, hc, hS, k⟩ := h
    refine ⟨_, (pss_cons (ps_asg (pv 0) (pg_tup rfl (pgs_cons (gn 2 sc__law_applied.nd) (pgs_cons (gn 3 sc__law_applied.nd) pgs_nil))))
      (pss_one (ps_ret (pe_tup (pa_cons (pe_op op_add (pe_op op_mul (pe_at (pv 2) pe_int) (pe_at (pv 1) pe_int)) (pe_op op_mul (pe_at (pv 2) pe_int) (pe_at (pv 1) pe_int))) (pa_cons (pe_op op_add (pe_op op_mul (pe_at (pv 3) pe_int) (pe_at (pv 1) pe_int)) (pe_op op_mul (pe_at (pv 3) pe_int) (pe_at (pv 1) pe_int))) pa_nil)))))), ?_⟩
    have sm : ∀ {z t : Int}, z.natAbs < 2 ^ 20 → CMul z t := fun h => cmul_l (Nat.lt_trans h (by decide))
    refine ⟨_, rfl, p, _, rfl, SqT.of hp, rfl, _, _, rfl, _, _, rfl, rfl, ?_⟩
    refine ⟨_, rfl, ha.ix0 ⟨_, rfl, hc.ix0 ⟨_, _, rfl, rfl, sm hS.1, _, rfl, ha.ix1 ⟨_, rfl, hc.ix1 ⟨_, _, rfl, rfl, sm hS.2.1, _, _, rfl, rfl, ?_⟩⟩⟩⟩⟩
    refine ⟨_, rfl, hb.ix0 ⟨_, rfl, hc.ix0 ⟨_, _, rfl, rfl, sm hS.2.2.1, _, rfl, hb.ix1 ⟨_, rfl, hc.ix1 ⟨_, _, rfl, rfl, sm hS.2.2.2, _, _, rfl, rfl, (by show 2 ≤ sizeLine; decide), fun r nr => ?_⟩⟩⟩⟩⟩
    exact k _ _ (same_new nr) ⟨r, rfl, upd_same⟩
def sp__law_product : Sp := fun vs H Q _ => ∃ (u v : V) (A B : Mat), vs = [u, v] ∧ MatT H u A ∧ MatT H v B ∧ A.Small ∧ ∀ (H' : Hp) (r : V), Same H H' → MatT H' r (A.mul B) → Q r H'
abbrev N__law_product : List Str := ["_law_one", "_law_other", "_law_left", "_law_right"]
theorem sc__law_product : FnScope N__law_product ["_law_one", "_law_other"] (defScope s__law_product) := ⟨rfl, rfl, rfl, by decide +kernel, rfl, by decide +kernel, by decide +kernel⟩
theorem ok__law_product (T : Tx K mg) : Cl P w K mg base CX0 2 "_law_product" sp__law_product [] := by
  obtain ⟨fd, F⟩ := T.d__law_product
  refine cl_of (ps := ["_law_one", "_law_other"]) F T.g__law_product (FunD.cl0 F sc__law_product (fun vs H Q E h => ?_) (fun cdv A outer s H vs Q E hr h => ?_)) fun _ _ _ _ _ _ us hl => match us, hl with | [_, _], _ => rfl
  · obtain ⟨u, v, A, B, rfl, _⟩ := h
    rfl
  · obtain ⟨u, v, A0, B, rfl, hA, hB, hS, k⟩ := h
    refine ⟨_, (pss_cons (par2 2 3 sc__law_product.nd (pa_cons (pe_cl (ok__law_applied T) hr pass0 (pa_cons (pv 0) (pa_cons (pe_tup (pa_cons (pe_at (pe_at (pv 1) pe_int) pe_int) (pa_cons (pe_at (pe_at (pv 1) pe_int) pe_int) pa_nil))) pa_nil))) (pa_cons (pe_cl (ok__law_applied T) hr pass0 (pa_cons (pv 0) (pa_cons (pe_tup (pa_cons (pe_at (pe_at (pv 1) pe_int) pe_int) (pa_cons (pe_at (pe_at (pv 1) pe_int) pe_int) pa_nil))) pa_nil))) pa_nil)))
      (pss_one (ps_ret (pe_tup (pa_cons (pe_tup (pa_cons (pe_at (pv 2) pe_int) (pa_cons (pe_at (pv 3) pe_int) pa_nil))) (pa_cons (pe_tup (pa_cons (pe_at (pv 2) pe_int) (pa_cons (pe_at (pv 3) pe_int) pa_nil))) pa_nil)))))), ?_⟩
    have hb := hB.mat
    refine ⟨_, rfl, _, rfl, hb.m00 ⟨_, rfl, hb.m10 ⟨(by show 2 ≤ sizeLine; decide), fun p np => ⟨_, _, A0, B.a, B.c, rfl, hA.mono (same_new np), ⟨p, rfl, upd_same⟩, hS, fun H1 l s1 c1 => ?_⟩⟩⟩⟩
    have s1' := (same_new np).trans s1
    have hb1 := hb.mono s1'
    refine ⟨_, rfl, _, rfl, hb1.m01 ⟨_, rfl, hb1.m11 ⟨(by show 2 ≤ sizeLine; decide), fun q nq => ⟨_, _, A0, B.b, B.d, rfl, (hA.mono s1').mono (same_new nq), ⟨q, rfl, upd_same⟩, hS, fun H2 r s2 c2 => ?_⟩⟩⟩⟩
    have s2' := (same_new nq).trans s2
    have c1' := c1.mono s2'
    refine ⟨_, _, rfl, _, rfl, c1'.ix0 ⟨_, rfl, c2.ix0 ⟨(by show 2 ≤ sizeLine; decide), fun t1 n1 => ⟨_, rfl, (c1'.mono (same_new n1)).ix1 ⟨_, rfl, (c2.mono (same_new n1)).ix1 ⟨(by show 2 ≤ sizeLine; decide), fun t2 n2 => ⟨(by show 2 ≤ sizeLine; decide), fun t3 n3 => ?_⟩⟩⟩⟩⟩⟩⟩
    have e1 := ne_of_none (upd_same (H := H2) (a := t1)) n2
    have e2 := ne_of_none (upd_same (a := t2)) n3
    have e3 := ne_of_none ((upd_ne e1).trans upd_same) n3
    refine k _ _ (sN (sN (sN (s1'.trans s2') n1) n2) n3) ⟨t3, .ref t1, .ref t2, rfl, upd_same, ⟨t1, rfl, ?_⟩, ⟨t2, rfl, ?_⟩⟩
    · rw [upd_ne e3, upd_ne e1, upd_same]
      rfl
    · rw [upd_ne e2, upd_same]
      rfl
end
end J
set_option Elab.async false
set_option linter.all false
set_option maxRecDepth 100000
set_option maxHeartbeats 4000000
set_option exponentiation.threshold 3000
namespace J
open PySem PySem.Spec PyProof.Rows L2

/-! J4: the law's gcd and remainders. -/
/-- Euclid's lap: the product halves -/
structure Lap (one two : Int) (i : Nat) (a b : Nat) : Prop where
  g : Nat.gcd a b = Int.gcd one two
  st : i ≤ 1 ∨ b ≤ a
  pr : a * b * 2 ^ (i - 2) ≤ 2 ^ 40
theorem Lap.next {one two : Int} {i a b : Nat} (h : Lap one two i a b) (hb : b ≠ 0) : Lap one two (i + 1) b (a % b) := by
  have hm : a % b < b := Nat.mod_lt _ (by omega)
  refine ⟨?_, .inr (by omega), ?_⟩
  · rw [← h.g, Nat.gcd_comm b, ← Nat.gcd_rec, Nat.gcd_comm]
  · by_cases hi : i ≤ 1
    · have e : i + 1 - 2 = 0 := by omega
      have e' : i - 2 = 0 := by omega
      have hp := h.pr
      rw [e'] at hp
      rw [e]
      have : a % b ≤ a := Nat.mod_le _ _
      have : b * (a % b) ≤ b * a := Nat.mul_le_mul_left _ this
      rw [Nat.mul_comm b a] at this
      omega
    · have hab : b ≤ a := h.st.resolve_left hi
      have e : 2 ^ (i + 1 - 2) = 2 * 2 ^ (i - 2) := by
        have : i + 1 - 2 = (i - 2) + 1 := by omega
        rw [this, Nat.pow_succ, Nat.mul_comm]
      have h2 : 2 * (a % b) ≤ a := by
        have h3 := Nat.div_add_mod a b
        have h4 : 1 ≤ a / b := Nat.div_pos hab (by omega)
        have h5 : b * 1 ≤ b * (a / b) := Nat.mul_le_mul_left _ h4
        omega
      rw [e]
      have : b * (a % b) * (2 * 2 ^ (i - 2)) = b * (2 * (a % b)) * 2 ^ (i - 2) := by
        rw [← Nat.mul_assoc, Nat.mul_comm 2, Nat.mul_assoc b]
      rw [this]
      refine Nat.le_trans (Nat.mul_le_mul_right _ (Nat.mul_le_mul_left b h2)) ?_
      rw [Nat.mul_comm b a]
      exact h.pr
theorem Lap.stop {one two : Int} {a b : Nat} (h : Lap one two 2000 a b) (hb : b ≠ 0) : False := by
  have hab : b ≤ a := h.st.resolve_left (by decide)
  have h1 : 1 ≤ a * b := Nat.mul_pos (by omega) (by omega)
  have h2 := h.pr
  have h3 : 1 * 2 ^ (2000 - 2) ≤ a * b * 2 ^ (2000 - 2) := Nat.mul_le_mul_right _ h1
  have h4 : 2 ^ 40 < 1 * 2 ^ (2000 - 2) := by
    rw [Nat.one_mul]
    exact Nat.pow_lt_pow_right (by decide) (by decide)
  omega
section
variable {P : Program} {w : World} {K : PySem.W.Frag} {mg : Str → Option Value} {base : Heap}
def sp__law_gcd : Sp := fun vs H Q _ => ∃ one two : Int, vs = [.int one, .int two] ∧ one.natAbs < 2 ^ 20 ∧ two.natAbs < 2 ^ 20 ∧ Q (.int (Int.gcd one two)) H
def gcW (one two : Int) (H : Hp) (i : Nat) (σ : L2.St) (H' : Hp) : Prop := ∃ (a b : Nat) (l : Option V), H' = H ∧ σ = [some (.int a), some (.int b), l] ∧ Lap one two i a b
abbrev N__law_gcd : List Str := ["_law_one", "_law_two", "_law_lap"]
theorem sc__law_gcd : FnScope N__law_gcd ["_law_one", "_law_two"] (defScope s__law_gcd) := ⟨rfl, rfl, rfl, by decide +kernel, rfl, by decide +kernel, by decide +kernel⟩
theorem ok__law_gcd (T : Tx K mg) : Cl P w K mg base CX0 1 "_law_gcd" sp__law_gcd [] := by
  obtain ⟨fd, F⟩ := T.d__law_gcd
  refine cl_of (ps := ["_law_one", "_law_two"]) F T.g__law_gcd (FunD.cl0 F sc__law_gcd (fun vs H Q E h => ?_) (fun cdv A outer s H vs Q E hr h => ?_)) fun _ _ _ _ _ _ us hl => match us, hl with | [_, _], _ => rfl
  · obtain ⟨one, two, rfl, _⟩ := h
    rfl
  · obtain ⟨one, two, rfl, b1, b2, k⟩ := h
    refine ⟨_, (pss_cons (par2 0 1 sc__law_gcd.nd (pa_cons (pe_abs T (pv 0)) (pa_cons (pe_abs T (pv 1)) pa_nil)))
      (pss_cons (ps_for (PassesOwn.never) rfl (pi_range1 rfl T.f_range (pa_cons pe_int pa_nil)) (gn 2 sc__law_gcd.nd) (pss_cons (ps_if (pt_cmpR op_eq (pv 1) pe_int (nomark _)) (pss_one (ps_break)) pss_nil) (pss_one (par2 0 1 sc__law_gcd.nd (pa_cons (pv 1) (pa_cons (pe_op op_mod (pe_intI T (pv 0)) (pv 1)) pa_nil))))))
      (pss_one (ps_ret (pv 0))))), ?_⟩
    refine ⟨_, rfl, _, rfl, _, rfl, _, rfl, _, _, rfl, ?_⟩
    rw [abs_if, abs_if]
    refine ⟨2000, rfl, by decide, by decide, ?_⟩
    refine for_range (lo := 0) (n := 2000) (gcW one two H) ⟨one.natAbs, two.natAbs, none, rfl, rfl, rfl, .inl (by decide), ?_⟩ ?_ ?_
    · show one.natAbs * two.natAbs * 1 ≤ 2 ^ 40
      have := Nat.mul_lt_mul'' b1 b2
      omega
    · rintro i σ H' hi ⟨a, b, l, rfl, rfl, L⟩
      refine ⟨_, rfl, rfl, _, rfl, ?_⟩
      refine ite2 (fun hb => ?_) (fun hb => ?_)
      · have hb : b = 0 := by simpa using hb
        subst hb
        refine ⟨_, rfl, ?_⟩
        have e := L.g
        rw [Nat.gcd_zero_right] at e
        rw [← e] at k
        exact k
      · have hb : b ≠ 0 := by simpa using hb
        refine ⟨_, rfl, _, rfl, .inl ⟨_, rfl, _, rfl, _, _, rfl, rfl, (by omega : (0 : Int) < (b : Int)), _, _, rfl, ?_⟩⟩
        exact ⟨b, a % b, _, rfl, rfl, L.next hb⟩
    · rintro σ H' ⟨a, b, l, rfl, rfl, L⟩
      refine ⟨_, rfl, ?_⟩
      by_cases hb : b = 0
      · subst hb
        have e := L.g
        rw [Nat.gcd_zero_right] at e
        rw [← e] at k
        exact k
      · exact (L.stop hb).elim
/-- the remainders, as a list of cells -/
def RestsAt (H : Hp) (v : V) (M : Mat) : Prop := ∃ (l : Addr) (xs : List V), v = .ref l ∧ H l = some (.lst xs) ∧ xs.length = M.det.natAbs ∧ ∀ (i : Nat) (x : V), xs[i]? = some x → CellAt H x ((i : Int) % M.wi) ((i : Int) / M.wi)
theorem RestsAt.mono {H H' : Hp} {v : V} {M : Mat} (h : RestsAt H v M) (s : Same H H') : RestsAt H' v M := let ⟨l, xs, e, q, n, c⟩ := h; ⟨l, xs, e, s _ _ q, n, fun i x hx => (c i x hx).mono s⟩
theorem CellAt.upd {H : Hp} {v : V} {x y : Int} {l : Addr} {acc : List V} {o : HO} (h : CellAt H v x y) (hl : H l = some (.lst acc)) : CellAt (upd H l o) v x y := by
  obtain ⟨p, e, q⟩ := h
  refine ⟨p, e, ?_⟩
  rw [upd_ne (ne_of q hl (by intro z; cases z))]
  exact q
theorem get_snoc {α : Type} {xs : List α} {x y : α} {i : Nat} (h : (xs ++ [y])[i]? = some x) : xs[i]? = some x ∨ (i = xs.length ∧ x = y) := by
  by_cases hi : i < xs.length
  · rw [List.getElem?_append_left hi] at h
    exact .inl h
  · have : i = xs.length := by
      have := (List.getElem?_eq_some_iff.mp h).1
      rw [List.length_append] at this
      simp at this
      omega
    subst this
    simp at h
    exact .inr ⟨rfl, h.symm⟩
def rsW (M : Mat) (H : Hp) (D : Addr) (i : Nat) (H' : Hp) : Prop := Same H H' ∧ ∃ xs : List V, H' D = some (.lst xs) ∧ xs.length = i ∧ ∀ (j : Nat) (x : V), xs[j]? = some x → CellAt H' x ((j : Int) % M.wi) ((j : Int) / M.wi)
def sp__law_remainders : Sp := fun vs H Q _ => ∃ (u : V) (M : Mat), vs = [u] ∧ MatAt H u M ∧ M.Small ∧ M.det ≠ 0 ∧ M.det.natAbs ≤ 1000 ∧ ∀ (H' : Hp) (r : V), Same H H' → RestsAt H' r M → Q r H'
theorem wi_hi_toNat {M : Mat} : (M.wi * M.hi).toNat = M.det.natAbs := by
  rw [wi_hi]
  omega
abbrev N__law_remainders : List Str := ["_law_matrix", "_law_high", "_law_wide", "_law_k"]
theorem sc__law_remainders : FnScope N__law_remainders ["_law_matrix"] (defScope s__law_remainders) := ⟨rfl, rfl, rfl, by decide +kernel, rfl, by decide +kernel, by decide +kernel⟩
theorem ok__law_remainders (T : Tx K mg) : Cl P w K mg base CX0 2 "_law_remainders" sp__law_remainders [] := by
  obtain ⟨fd, F⟩ := T.d__law_remainders
  refine cl_of (ps := ["_law_matrix"]) F T.g__law_remainders (FunD.cl0 F sc__law_remainders (fun vs H Q E h => ?_) (fun cdv A outer s H vs Q E hr h => ?_)) fun _ _ _ _ _ _ us hl => match us, hl with | [_], _ => rfl
  · obtain ⟨u, M, rfl, _⟩ := h
    rfl
  · obtain ⟨u, M, rfl, hM, hS, d0, d1, k⟩ := h
    refine ⟨_, (pss_cons (st 1 sc__law_remainders.nd (pe_cl (ok__law_gcd T) hr pass0 (pa_cons (pe_at (pe_at (pv 0) pe_int) pe_int) (pa_cons (pe_at (pe_at (pv 0) pe_int) pe_int) pa_nil))))
      (pss_cons (st 2 sc__law_remainders.nd (pe_op op_fdiv (pe_abs T (pe_cl (ok__law_determinant T) hr pass0 (pa_cons (pv 0) pa_nil))) (pv 1)))
      (pss_one (ps_ret (pe_lc rfl sc__law_remainders.nd (pi_range1 rfl T.f_range (pa_cons (pe_op op_mul (pv 2) (pv 1)) pa_nil)) (blkOk_by (own := [("_law_k", 3)]) (N := N__law_remainders) (sc := defScope s__law_remainders) (by decide +kernel)) (fun _ _ _ _ _ => (gn 3 sc__law_remainders.nd)) (fun _ _ _ _ _ => pts_nil) (fun _ _ _ _ _ => (pe_tup (pa_cons (pe_op op_mod (pe_intI T (pv 3)) (pv 2)) (pa_cons (pe_op op_fdiv (pv 3) (pv 2)) pa_nil))))))))), ?_⟩
    have h1 := hi_pos d0
    have h2 := wi_pos d0
    have h3 := hi_small hS d0
    have h4 := wi_le d0
    have h5 : M.wi < 1073741824 := by omega
    refine ⟨_, rfl, hM.m10 ⟨_, rfl, hM.m11 ⟨M.c, M.d, rfl, hS.2.2.1, hS.2.2.2, ?_⟩⟩⟩
    refine ⟨_, rfl, _, M, rfl, hM, hS.fits, _, rfl, ?_⟩
    rw [abs_if]
    refine ⟨_, rfl, _, _, rfl, rfl, ⟨h1, h3⟩, ?_⟩
    refine ⟨_, rfl, _, rfl, _, _, rfl, rfl, cmul_l (i := M.wi) (by omega), ?_⟩
    have e := wi_hi (M := M)
    refine ⟨M.wi * M.hi, rfl, by omega, by omega, ?_⟩
    intro D hD
    refine lc_range (rsW M H D) ⟨same_new hD, [], upd_same, rfl, fun j x hx => by simp at hx⟩ ?_ ?_
    · rintro i H' hi ⟨sm, xs, hl, hn, hc⟩
      refine ⟨rfl, ?_⟩
      have z0 : (0 : Int) + (i : Int) = (i : Int) := by omega
      rw [z0]
      refine ⟨_, rfl, .inl ⟨_, rfl, _, rfl, _, _, rfl, rfl, h2, _, rfl, _, rfl, _, _, rfl, rfl, ⟨h2, h5⟩, (by show 2 ≤ sizeLine; decide), fun p np => ?_⟩⟩
      have e1 := ne_of_none hl np
      have el : upd H' p (HO.tup [V.int (↑i % M.wi), V.int (↑i / M.wi)]) D = some (.lst xs) := by
        rw [upd_ne e1]
        exact hl
      refine ⟨xs, el, ?_, ?_⟩
      · rw [hn]
        rw [wi_hi_toNat] at hi
        exact Nat.lt_of_lt_of_le hi (Nat.le_trans d1 (by decide))
      · refine ⟨sM (sN sm np) hD, xs ++ [.ref p], upd_same, by rw [List.length_append, hn]; rfl, fun j x hx => ?_⟩
        rcases get_snoc hx with q | ⟨q, rfl⟩
        · exact ((hc j x q).mono (same_new np)).upd el
        · rw [q, hn]
          exact CellAt.upd ⟨p, rfl, upd_same⟩ el
    · rintro H' ⟨sm, xs, hl, hn, hc⟩
      refine k _ _ sm ⟨D, xs, rfl, hl, ?_, hc⟩
      rw [hn, wi_hi_toNat]
end
end J
set_option Elab.async false
set_option linter.all false
set_option maxRecDepth 100000
set_option maxHeartbeats 4000000
set_option exponentiation.threshold 3000
namespace J
open PySem PySem.Spec PyProof.Rows L2 TL

/-! J5: the pen. -/
/-- all but the object at a stays -/
def But (a : Addr) (H H' : Hp) : Prop := ∀ b o, b ≠ a → H b = some o → H' b = some o
theorem But.refl {a : Addr} (H : Hp) : But a H H := fun _ _ _ h => h
theorem But.trans {a : Addr} {H H1 H2 : Hp} (x : But a H H1) (y : But a H1 H2) : But a H H2 := fun b o n h => y b o n (x b o n h)
theorem But.of {a : Addr} {H H1 : Hp} (x : Same H H1) : But a H H1 := fun b o _ h => x b o h
theorem But.put {a : Addr} {H H1 : Hp} {o : HO} (x : But a H H1) : But a H (upd H1 a o) := fun b u n h => by
  rw [upd_ne n]
  exact x b u n h
theorem But.new {a p : Addr} {H H1 : Hp} {o : HO} (x : But a H H1) (h : H1 p = none) : But a H (upd H1 p o) := x.trans (But.of (same_new h))
/-- an object that H does not know changes -/
theorem But.mut {a p : Addr} {H H1 : Hp} {o : HO} (x : But a H H1) (h : H p = none) : But a H (upd H1 p o) := fun b u n e => by
  rw [upd_ne (ne_of_none e h)]
  exact x b u n e
def penKv (l : Addr) (at' dg ct fo : Int) : List (Key × V) := [(.inr "cells", .ref l), (.inr "at", .int at'), (.inr "digits", .int dg), (.inr "count", .int ct), (.inr "fold", .int fo)]
section
variable {H : Hp} {a l : Addr} {x y z t : Int} (h : H a = some (.dK (penKv l x y z t)))
include h
theorem pen_cells : DGet H a (.str "cells") (some (.ref l)) := DGet.k (k := .inr "cells") h
theorem pen_at : DGet H a (.str "at") (some (.int x)) := DGet.k (k := .inr "at") h
theorem pen_digits : DGet H a (.str "digits") (some (.int y)) := DGet.k (k := .inr "digits") h
theorem pen_count : DGet H a (.str "count") (some (.int z)) := DGet.k (k := .inr "count") h
theorem pen_fold : DGet H a (.str "fold") (some (.int t)) := DGet.k (k := .inr "fold") h
theorem put_at {i : Int} : DPut H a (.str "at") (.int i) (upd H a (.dK (penKv l i y z t))) := DPut.k (k := .inr "at") h (by show 5 < sizeLine; decide)
theorem put_digits {i : Int} : DPut H a (.str "digits") (.int i) (upd H a (.dK (penKv l x i z t))) := DPut.k (k := .inr "digits") h (by show 5 < sizeLine; decide)
theorem put_count {i : Int} : DPut H a (.str "count") (.int i) (upd H a (.dK (penKv l x y i t))) := DPut.k (k := .inr "count") h (by show 5 < sizeLine; decide)
theorem put_fold {i : Int} : DPut H a (.str "fold") (.int i) (upd H a (.dK (penKv l x y z i))) := DPut.k (k := .inr "fold") h (by show 5 < sizeLine; decide)
end
/-- the pen, with room for B draws; l: its cells -/
structure PenAt (H : Hp) (a l : Addr) (B : Nat) : Prop where
  ex : ∃ (cells : List Int) (at' dg ct fo : Int), H a = some (.dK (penKv l at' dg ct fo)) ∧ H l = some (.lst (cells.map V.int)) ∧ 0 ≤ at' ∧ 0 ≤ dg ∧ 0 ≤ ct ∧ ct + B ≤ 100000 ∧ 0 ≤ fo ∧ fo < 2147483647
section
variable {H H' H1 : Hp} {a l D p : Addr} {B C : Nat} {o : HO}
theorem PenAt.less (h : PenAt H a l B) (hc : C ≤ B) : PenAt H a l C := by
  obtain ⟨cells, at', dg, ct, fo, h1, h2, h3, h4, h5, h6, h7⟩ := h.ex
  exact ⟨cells, at', dg, ct, fo, h1, h2, h3, h4, h5, by omega, h7⟩
theorem PenAt.mono (h : PenAt H a l B) (s : Same H H') : PenAt H' a l B := by
  obtain ⟨cells, at', dg, ct, fo, h1, h2, h3⟩ := h.ex
  exact ⟨cells, at', dg, ct, fo, s _ _ h1, s _ _ h2, h3⟩
theorem PenAt.has (h : PenAt H a l B) : ∃ kvs, H a = some (.dK kvs) := by
  obtain ⟨cells, at', dg, ct, fo, h1, _⟩ := h.ex
  exact ⟨_, h1⟩
theorem PenAt.ne (h : PenAt H a l B) (hn : H D = none) : D ≠ a ∧ D ≠ l := by
  obtain ⟨cells, at', dg, ct, fo, h1, h2, _⟩ := h.ex
  exact ⟨fun z => (by rw [z, h1] at hn; cases hn), fun z => (by rw [z, h2] at hn; cases hn)⟩
/-- an object that is not the pen's changes -/
theorem PenAt.upd (h : PenAt H a l B) (ha : D ≠ a) (hl : D ≠ l) : PenAt (upd H D o) a l B := by
  obtain ⟨cells, at', dg, ct, fo, h1, h2, h3⟩ := h.ex
  exact ⟨cells, at', dg, ct, fo, by rw [upd_ne ha.symm]; exact h1, by rw [upd_ne hl.symm]; exact h2, h3⟩
theorem PenAt.mut (h : PenAt H a l B) (h0 : PenAt H1 a l C) (hn : H1 D = none) : PenAt (L2.upd H D o) a l B := h.upd (h0.ne hn).1 (h0.ne hn).2
theorem But.free (b : But a H H1) (h : PenAt H1 a l B) (hn : H1 D = none) : H D = none := by
  cases hz : H D with
  | none => rfl
  | some u =>
    have := b _ _ (h.ne hn).1 hz
    rw [hn] at this
    cases this
/-- a list, a dict that is not the pen -/
theorem But.lst {xs : List V} (b : But a H H1) (h : PenAt H a l B) (e : H p = some (.lst xs)) : H1 p = some (.lst xs) := by
  obtain ⟨kvs, hk⟩ := h.has
  exact b _ _ (ne_of e hk (by intro z; cases z)) e
end
section
variable {P : Program} {w : World} {K : PySem.W.Frag} {mg : Str → Option Value} {base : Heap}
def sp__law_draw : Sp := fun vs H Q _ => ∃ (a l : Addr) (many : Int) (B : Nat), vs = [.ref a, .int many] ∧ PenAt H a l (B + 1) ∧ 0 < many ∧ many < 1073741824 ∧ ∀ (H' : Hp) (v : Int), But a H H' → PenAt H' a l B → 0 ≤ v → v < many → Q (.int v) H'
abbrev N__law_draw : List Str := ["_law_pen_here", "_law_many", "_law_mixed", "_law_cell", "_law_digit"]
theorem sc__law_draw : FnScope N__law_draw ["_law_pen_here", "_law_many"] (defScope s__law_draw) := ⟨rfl, rfl, rfl, by decide +kernel, rfl, by decide +kernel, by decide +kernel⟩
theorem ok__law_draw (T : Tx K mg) : Cl P w K mg base CX0 1 "_law_draw" sp__law_draw [] := by
  obtain ⟨fd, F⟩ := T.d__law_draw
  refine cl_of (ps := ["_law_pen_here", "_law_many"]) F T.g__law_draw (FunD.cl0 F sc__law_draw (fun vs H Q E h => ?_) (fun cdv A outer s H vs Q E hr h => ?_)) fun _ _ _ _ _ _ us hl => match us, hl with | [_, _], _ => rfl
  · obtain ⟨a, l, many, B, rfl, _⟩ := h
    rfl
  · obtain ⟨a, l, many, B, rfl, hp, m0, m1, k⟩ := h
    have hu := hu_of hr
    refine ⟨_, (pss_cons (ps_dput hu (pv 0) pe_str (pe_op op_add (pe_dget hu (pv 0) pe_str (fun _ _ => rfl)) pe_int) rfl)
      (pss_cons (ps_if (pw_and (pt_cmpR op_eq (pe_dget hu (pv 0) pe_str (fun _ _ => rfl)) pe_int (nomark _)) (pw_and1 (pt_cmpR op_lt (pe_dget hu (pv 0) pe_str (fun _ _ => rfl)) (pe_lenS T (pe_dget hu (pv 0) pe_str (fun _ _ => rfl))) (nomark _)))).pt (pss_cons (st 3 sc__law_draw.nd (pe_at (pe_dget hu (pv 0) pe_str (fun _ _ => rfl)) (pe_dget hu (pv 0) pe_str (fun _ _ => rfl)))) (pss_cons (ps_dput hu (pv 0) pe_str (pe_op op_add (pe_dget hu (pv 0) pe_str (fun _ _ => rfl)) pe_int) rfl) (pss_one (ps_if (pt_cmpR op_ge (pv 3) (pe_op op_pow pe_int pe_int) (nomark _)) (pss_one (ps_dput hu (pv 0) pe_str (pe_op op_sub (pv 3) (pe_op op_pow pe_int pe_int)) rfl)) (pss_one (ps_dput hu (pv 0) pe_str (pe_op op_mod (pe_intI T (pe_op op_add (pe_op op_mul (pe_dget hu (pv 0) pe_str (fun _ _ => rfl)) pe_int) (pv 3))) pe_int) rfl)))))) pss_nil)
      (pss_cons (ps_if (pt_cmpR op_gt (pe_dget hu (pv 0) pe_str (fun _ _ => rfl)) pe_int (nomark _)) (pss_cons (st 4 sc__law_draw.nd (pe_op op_mod (pe_intI T (pe_dget hu (pv 0) pe_str (fun _ _ => rfl))) (pv 1))) (pss_cons (ps_dput hu (pv 0) pe_str (pe_op op_fdiv (pe_dget hu (pv 0) pe_str (fun _ _ => rfl)) (pv 1)) rfl) (pss_one (ps_ret (pv 4))))) pss_nil)
      (pss_cons (st 2 sc__law_draw.nd (pe_op op_add (pe_op op_add (pe_dget hu (pv 0) pe_str (fun _ _ => rfl)) (pe_op op_mul (pe_dget hu (pv 0) pe_str (fun _ _ => rfl)) pe_int)) pe_int))
      (pss_one (ps_ret (pe_op op_mod (pe_op op_fdiv (pe_intI T (pe_op op_mod (pe_op op_pow (pv 2) pe_int) pe_int)) pe_int) (pv 1)))))))), ?_⟩
    obtain ⟨cells, at', dg, ct, fo, hd, hl, a0, d0, c0, c1, f0, f1⟩ := hp.ex
    have nal : a ≠ l := ne_of hd hl (by intro z; cases z)
    refine ⟨_, rfl, a, _, rfl, pen_count hd, _, _, rfl, rfl, _, rfl, a, _, rfl, put_count hd, ?_⟩
    have hl1 : upd H a (.dK (penKv l at' dg (ct + 1) fo)) l = some (.lst (cells.map V.int)) := by
      rw [upd_ne nal.symm]
      exact hl
    have b1 : But a H (upd H a (.dK (penKv l at' dg (ct + 1) fo))) := (But.refl H).put
    revert b1 hl1
    generalize hg : upd H a (.dK (penKv l at' dg (ct + 1) fo)) = H1
    intro hl1 b1
    have hd1 : H1 a = some (.dK (penKv l at' dg (ct + 1) fo)) := by
      rw [← hg, upd_same]
    have fin : ∀ (H2 : Hp) (lc : Option V) (at' dg fo : Int), But a H H2 → H2 a = some (.dK (penKv l at' dg (ct + 1) fo)) → H2 l = some (.lst (cells.map V.int)) → 0 ≤ at' → 0 ≤ dg → 0 ≤ fo → fo < 2147483647 →
      tSeq (tIfS (tTest (tOp (rI0 fun i j => .bl (decide (j < i))) (tDGet (tVar 0) (tC (.str "digits"))) (tC (.int 0)))) (tSeq (tAsg (tOp (rI (fun _ j => 0 < j) fun i j => .int (i % j)) (tCB (fun xs H Q => (∃ i, xs = [.int i] ∧ Q (.int i) H) ∨ ∃ k, xs = [.bl k] ∧ Q (.int (if k then 1 else 0)) H) (tCons (tDGet (tVar 0) (tC (.str "digits"))) tNil)) (tVar 1)) (gName 4)) (tSeq (sDPut (tVar 0) (tC (.str "digits")) (tOp (rI CDiv fun i j => .int (i / j)) (tDGet (tVar 0) (tC (.str "digits"))) (tVar 1))) (tRet (tVar 4)))) tNext)
        (tSeq (tAsg (tOp (rI0 fun i j => .int (i + j)) (tOp (rI0 fun i j => .int (i + j)) (tDGet (tVar 0) (tC (.str "fold"))) (tOp (rI CMul fun i j => .int (i * j)) (tDGet (tVar 0) (tC (.str "count"))) (tC (.int 7907)))) (tC (.int 37))) (gName 2))
        (tRet (tOp (rI (fun _ j => 0 < j) fun i j => .int (i % j)) (tOp (rI CDiv fun i j => .int (i / j)) (tCB (fun xs H Q => (∃ i, xs = [.int i] ∧ Q (.int i) H) ∨ ∃ k, xs = [.bl k] ∧ Q (.int (if k then 1 else 0)) H) (tCons (tOp (rI (fun _ j => 0 < j) fun i j => .int (i % j)) (tOp (rI CPow fun i j => .int (i ^ j.toNat)) (tVar 2) (tC (.int 17))) (tC (.int 2305843009213693951))) tNil)) (tC (.int 128))) (tVar 1))))
        { nx := fun _ H' => Q .non H', rt := Q } [some (.ref a), some (.int many), none, lc, none] H2 := by
      intro H2 lc at' dg fo b2 hd2 hl2 a2 d2 f2 f3
      refine ⟨_, rfl, a, _, rfl, pen_digits hd2, _, _, rfl, rfl, _, rfl, ?_⟩
      refine ite2 (fun hb => ?_) (fun hb => ?_)
      · refine ⟨_, rfl, a, _, rfl, pen_digits hd2, .inl ⟨_, rfl, _, rfl, _, _, rfl, rfl, m0, ?_⟩⟩
        refine ⟨_, rfl, a, _, rfl, pen_digits hd2, _, rfl, _, _, rfl, rfl, ⟨m0, m1⟩, _, rfl, a, _, rfl, put_digits hd2, _, rfl, ?_⟩
        refine k _ _ b2.put ⟨cells, at', dg / many, ct + 1, fo, upd_same, ?_, a2, Int.ediv_nonneg d2 (by omega), by omega, by omega, f2, f3⟩ (Int.emod_nonneg _ (by omega)) (Int.emod_lt_of_pos _ m0)
        rw [upd_ne nal.symm]
        exact hl2
      · refine ⟨_, rfl, a, _, rfl, pen_fold hd2, _, rfl, a, _, rfl, pen_count hd2, _, _, rfl, rfl, cmul_r (by decide), _, _, rfl, rfl, _, _, rfl, rfl, ?_⟩
        refine ⟨_, rfl, _, _, rfl, rfl, ⟨by decide, by decide, ?_⟩, _, _, rfl, rfl, (show (0 : Int) < 2305843009213693951 by decide), .inl ⟨_, rfl, _, _, rfl, rfl, ⟨by decide, by decide⟩, _, rfl, _, _, rfl, rfl, m0, ?_⟩⟩
        · have : (2 : Nat) ^ 64 = 18446744073709551616 := rfl
          omega
        · exact k _ _ b2 ⟨cells, at', dg, ct + 1, fo, hd2, hl2, a2, d2, by omega, by omega, f2, f3⟩ (Int.emod_nonneg _ (by omega)) (Int.emod_lt_of_pos _ m0)
    refine ⟨_, rfl, a, _, rfl, pen_digits hd1, rfl, _, rfl, ?_⟩
    refine ite2 (fun hb => ?_) (fun hb => ?_)
    · refine ⟨_, rfl, a, _, rfl, pen_at hd1, _, rfl, a, _, rfl, pen_cells hd1, l, _, rfl, .inl (SqL.of hl1), _, _, rfl, rfl, _, rfl, ?_⟩
      refine ite2 (fun hc => ?_) (fun hc => ?_)
      · have hc : at' < (cells.length : Int) := by simpa using hc
        obtain ⟨n, rfl⟩ : ∃ n : Nat, at' = (n : Int) := ⟨at'.toNat, by omega⟩
        have hn : n < cells.length := by omega
        refine ⟨_, rfl, a, _, rfl, pen_cells hd1, _, rfl, a, _, rfl, pen_at hd1, SeqAt.ix (i := n) ⟨l, rfl, .inr hl1⟩ (by rw [List.getElem?_map, List.getElem?_eq_getElem hn]; rfl) ?_⟩
        refine ⟨_, rfl, a, _, rfl, pen_at hd1, _, _, rfl, rfl, _, rfl, a, _, rfl, put_at hd1, ?_⟩
        refine ⟨_, rfl, _, _, rfl, rfl, ⟨by decide, by decide, by decide⟩, _, _, rfl, rfl, _, rfl, ?_⟩
        have hd3 : upd H1 a (.dK (penKv l ((n : Int) + 1) dg (ct + 1) fo)) a = _ := upd_same
        have hl3 : upd H1 a (.dK (penKv l ((n : Int) + 1) dg (ct + 1) fo)) l = some (.lst (cells.map V.int)) := by
          rw [upd_ne nal.symm]
          exact hl1
        refine ite2 (fun he => ?_) (fun he => ?_)
        · have he : (10 : Int) ^ (18 : Int).toNat ≤ cells[n] := by simpa using he
          refine ⟨_, rfl, _, _, rfl, rfl, ⟨by decide, by decide, by decide⟩, _, _, rfl, rfl, _, rfl, a, _, rfl, put_digits hd3, ?_⟩
          refine fin _ _ _ _ _ b1.put.put upd_same ?_ (by omega) (by omega) f0 f1
          rw [upd_ne nal.symm]
          exact hl3
        · refine ⟨_, rfl, a, _, rfl, pen_fold hd3, _, _, rfl, rfl, cmul_r (by decide), _, rfl, _, _, rfl, rfl, .inl ⟨_, rfl, _, _, rfl, rfl, (show (0 : Int) < 2147483587 by decide), _, rfl, a, _, rfl, put_fold hd3, ?_⟩⟩
          refine fin _ _ _ _ _ b1.put.put upd_same ?_ (by omega) d0 (Int.emod_nonneg _ (by decide)) (Int.lt_of_lt_of_le (Int.emod_lt_of_pos _ (by decide)) (by decide))
          rw [upd_ne nal.symm]
          exact hl3
      · exact fin _ _ _ _ _ b1 hd1 hl1 a0 d0 f0 f1
    · exact fin _ _ _ _ _ b1 hd1 hl1 a0 d0 f0 f1
def sp__law_pick : Sp := fun vs H Q _ => ∃ (a l : Addr) (u : V) (xs : List V) (B : Nat), vs = [.ref a, u] ∧ PenAt H a l (B + 1) ∧ SeqAt H u xs ∧ 0 < xs.length ∧ xs.length < 1073741824 ∧
  ∀ (H' : Hp) (i : Nat) (x : V), But a H H' → PenAt H' a l B → xs[i]? = some x → Q x H'
theorem SeqAt.but {a l : Addr} {H H' : Hp} {v : V} {xs : List V} {B : Nat} (h : SeqAt H v xs) (hp : PenAt H a l B) (b : But a H H') : SeqAt H' v xs := by
  obtain ⟨kvs, hk⟩ := hp.has
  obtain ⟨p, e, q⟩ := h
  refine ⟨p, e, q.imp (fun z => b _ _ (ne_of z hk (by intro z; cases z)) z) (fun z => b _ _ (ne_of z hk (by intro z; cases z)) z)⟩
abbrev N__law_pick : List Str := ["_law_pen_here", "_law_some"]
theorem sc__law_pick : FnScope N__law_pick ["_law_pen_here", "_law_some"] (defScope s__law_pick) := ⟨rfl, rfl, rfl, by decide +kernel, rfl, by decide +kernel, by decide +kernel⟩
theorem ok__law_pick (T : Tx K mg) : Cl P w K mg base CX0 2 "_law_pick" sp__law_pick [] := by
  obtain ⟨fd, F⟩ := T.d__law_pick
  refine cl_of (ps := ["_law_pen_here", "_law_some"]) F T.g__law_pick (FunD.cl0 F sc__law_pick (fun vs H Q E h => ?_) (fun cdv A outer s H vs Q E hr h => ?_)) fun _ _ _ _ _ _ us hl => match us, hl with | [_, _], _ => rfl
  · obtain ⟨a, l, u, xs, B, rfl, _⟩ := h
    rfl
  · obtain ⟨a, l, u, xs, B, rfl, hp, hs, n0, n1, k⟩ := h
    refine ⟨_, (pss_one (ps_ret (pe_at (pv 1) (pe_cl (ok__law_draw T) hr pass0 (pa_cons (pv 0) (pa_cons (pe_lenS T (pv 1)) pa_nil)))))), ?_⟩
    obtain ⟨p, rfl, hq⟩ := id hs
    refine ⟨_, rfl, _, rfl, _, rfl, p, xs, rfl, hq.symm.imp (SqL.of) (SqT.of), a, l, xs.length, B, rfl, hp, by omega, by omega, fun H' v b1 hp' v0 v1 => ?_⟩
    obtain ⟨n, rfl⟩ : ∃ n : Nat, v = (n : Int) := ⟨v.toNat, by omega⟩
    have hn : n < xs.length := by omega
    exact SeqAt.ix (i := n) (hs.but hp b1) (List.getElem?_eq_getElem hn) (k _ n _ b1 hp' (List.getElem?_eq_getElem hn))
end
end J
set_option Elab.async false
set_option linter.all false
set_option maxRecDepth 100000
set_option maxHeartbeats 4000000
set_option exponentiation.threshold 3000
namespace J
open PySem PySem.Spec PyProof.Rows L2 TL

/-! J6: lands; the law's small land. -/
structure Rd where
  name : Str
  start : Str
  fin : Str
  sx : Int
  sy : Int
  price : Int
  label : Option Str
structure Land where
  spots : List Str
  roads : List Rd
def labV : Option Str → V
  | none => .non
  | some x => .str x
/-- tuples stay -/
def Tup (H H' : Hp) : Prop := ∀ b xs, H b = some (.tup xs) → H' b = some (.tup xs)
theorem Tup.refl (H : Hp) : Tup H H := fun _ _ h => h
theorem Tup.trans {H H1 H2 : Hp} (x : Tup H H1) (y : Tup H1 H2) : Tup H H2 := fun b xs h => y b xs (x b xs h)
theorem Tup.of {H H1 : Hp} (x : Same H H1) : Tup H H1 := fun b xs h => x b _ h
theorem Tup.but {a l : Addr} {H H1 : Hp} {B : Nat} (x : But a H H1) (p : PenAt H a l B) : Tup H H1 := fun b xs h => by
  obtain ⟨kvs, hk⟩ := p.has
  exact x b _ (ne_of h hk (by intro z; cases z)) h
theorem Tup.put {H H1 : Hp} {l : Addr} {o u : HO} (x : Tup H H1) (h : H1 l = some o) (hn : ∀ xs, o ≠ .tup xs) : Tup H (upd H1 l u) := fun b xs e => by
  rw [upd_ne (ne_of (x b xs e) h (fun z => hn _ z.symm))]
  exact x b xs e
theorem CellAt.tup {H H' : Hp} {v : V} {x y : Int} (h : CellAt H v x y) (t : Tup H H') : CellAt H' v x y := let ⟨p, e, q⟩ := h; ⟨p, e, t _ _ q⟩
theorem MatT.tup {H H' : Hp} {v : V} {M : Mat} (h : MatT H v M) (t : Tup H H') : MatT H' v M := let ⟨p, r1, r2, e, a, b, c⟩ := h; ⟨p, r1, r2, e, t _ _ a, b.tup t, c.tup t⟩
/-- a road's row -/
def RoadT (H : Hp) (v : V) (r : Rd) : Prop := ∃ (p : Addr) (q : V), v = .ref p ∧ H p = some (.tup [.str r.name, .str r.start, .str r.fin, q, .int r.price, labV r.label]) ∧ CellAt H q r.sx r.sy
theorem RoadT.tup {H H' : Hp} {v : V} {r : Rd} (h : RoadT H v r) (t : Tup H H') : RoadT H' v r := let ⟨p, q, e, a, b⟩ := h; ⟨p, q, e, t _ _ a, b.tup t⟩
theorem rows_tup {H H' : Hp} {xs : List V} {rs : List Rd} (h : Paired (RoadT H) xs rs) (t : Tup H H') : Paired (RoadT H') xs rs := L2.Paired.mapP h fun _ _ z => z.tup t
theorem paired_len {α β : Type} {F : α → β → Prop} : ∀ {l : List α} {m : List β}, Paired F l m → l.length = m.length
  | _, _, .nil => rfl
  | _, _, .cons _ t => congrArg (· + 1) (paired_len t)
theorem paired_at {α β : Type} {F : α → β → Prop} : ∀ {l : List α} {m : List β} {i : Nat} {x : α}, Paired F l m → l[i]? = some x → ∃ y, m[i]? = some y ∧ F x y
  | _, _, _, _, .nil, h => nomatch h
  | _, _, 0, _, .cons r t, h => ⟨_, rfl, by injection h with h; exact h ▸ r⟩
  | _, _, i + 1, _, .cons r t, h => paired_at (i := i) t h
theorem paired_at' {α β : Type} {F : α → β → Prop} : ∀ {l : List α} {m : List β} {i : Nat} {y : β}, Paired F l m → m[i]? = some y → ∃ x, l[i]? = some x ∧ F x y
  | _, _, _, _, .nil, h => nomatch h
  | _, _, 0, _, .cons r t, h => ⟨_, rfl, by injection h with h; exact h ▸ r⟩
  | _, _, i + 1, _, .cons r t, h => paired_at' (i := i) t h
structure RdOk (spots : List Str) (r : Rd) : Prop where
  nm : NameOk r.name
  st : r.start ∈ spots
  fn : r.fin ∈ spots
  x9 : r.sx.natAbs ≤ 9
  y9 : r.sy.natAbs ≤ 9
  p1 : 1 ≤ r.price
  p99 : r.price ≤ 99
  lb : ∀ x, r.label = some x → NameOk x
structure Land.Ok (L : Land) : Prop where
  s0 : L.spots ≠ []
  s3 : L.spots.length ≤ 3
  sn : ∀ x ∈ L.spots, NameOk x
  sd : L.spots.Nodup
  rn : ∀ r ∈ L.roads, RdOk L.spots r
  rd : (L.roads.map (·.name)).Nodup
  r6 : L.roads.length ≤ 6
def landKv (l1 l2 : Addr) : List (Key × V) := [(.inr "spots", .ref l1), (.inr "roads", .ref l2)]
def LandAt (H : Hp) (v : V) (L : Land) : Prop := ∃ (a l1 l2 : Addr) (xs : List V), v = .ref a ∧ H a = some (.dK (landKv l1 l2)) ∧ H l1 = some (.lst (L.spots.map V.str)) ∧ H l2 = some (.lst xs) ∧ Paired (RoadT H) xs L.roads
theorem LandAt.mono {H H' : Hp} {v : V} {L : Land} (h : LandAt H v L) (s : Same H H') : LandAt H' v L :=
  let ⟨a, l1, l2, xs, e, h1, h2, h3, h4⟩ := h; ⟨a, l1, l2, xs, e, s _ _ h1, s _ _ h2, s _ _ h3, rows_tup h4 (Tup.of s)⟩
theorem land_spots {H : Hp} {a l1 l2 : Addr} (h : H a = some (.dK (landKv l1 l2))) : DGet H a (.str "spots") (some (.ref l1)) := DGet.k (k := .inr "spots") h
theorem land_roads {H : Hp} {a l1 l2 : Addr} (h : H a = some (.dK (landKv l1 l2))) : DGet H a (.str "roads") (some (.ref l2)) := DGet.k (k := .inr "roads") h
theorem len_append (x y : Str) : (x ++ y).length = x.length + y.length := by
  rw [len_tl, len_tl, len_tl, tl_append, List.length_append]
section
variable {P : Program} {w : World} {K : PySem.W.Frag} {mg : Str → Option Value} {base : Heap}
def sp__law_pen (K : PySem.W.Frag) : Sp := fun vs H Q _ => ∃ (s : Addr) (ns : List Int), vs = [.ref s] ∧ SqL K H s (ns.map V.int) ∧ ∀ (H' : Hp) (a l : Addr), H a = none → H l = none → Same H H' → PenAt H' a l 50000 → Q (.ref a) H'
abbrev N__law_pen : List Str := ["_law_script", "_law_fold", "_law_cell"]
theorem sc__law_pen : FnScope N__law_pen ["_law_script"] (defScope s__law_pen) := ⟨rfl, rfl, rfl, by decide +kernel, rfl, by decide +kernel, by decide +kernel⟩
theorem ok__law_pen (T : Tx K mg) : Cl P w K mg base CX0 1 "_law_pen" (sp__law_pen K) [] := by
  obtain ⟨fd, F⟩ := T.d__law_pen
  refine cl_of (ps := ["_law_script"]) F T.g__law_pen (FunD.cl0 F sc__law_pen (fun vs H Q E h => ?_) (fun cdv A outer s H vs Q E hr h => ?_)) fun _ _ _ _ _ _ us hl => match us, hl with | [_], _ => rfl
  · obtain ⟨s0, ns, rfl, _⟩ := h
    rfl
  · obtain ⟨s0, ns, rfl, hs, k⟩ := h
    refine ⟨_, (pss_cons (st 1 sc__law_pen.nd pe_int)
      (pss_cons (ps_for (PassesOwn.never) rfl (pi_list (pv 0)) (gn 2 sc__law_pen.nd) (pss_one (st 1 sc__law_pen.nd (pe_op op_mod (pe_intI T (pe_op op_add (pe_op op_mul (pv 1) pe_int) (pv 2))) pe_int))))
      (pss_one (ps_ret (pe_disp (pps_cons pe_str (pe_lstOf T (pv 0)) (pps_cons pe_str pe_int (pps_cons pe_str pe_int (pps_cons pe_str pe_int (pps_cons pe_str (pv 1) pps_nil))))) rfl rfl (by simp) (by decide)))))), ?_⟩
    refine ⟨_, rfl, s0, rfl, ⟨_, hs⟩, for_list (xs := ns.map V.int) (fun _ σ H' => ∃ (f : Int) (c : Option V), σ = [some (.ref s0), some (.int f), c] ∧ H' = H ∧ 0 ≤ f ∧ f < 1000000007) ⟨0, none, rfl, rfl, by decide, by decide⟩ ?_ ?_ ?_⟩
    · rintro i σ H' hi ⟨f, c, rfl, rfl, _⟩
      exact hs
    · rintro i x σ H' hx ⟨f, c, rfl, rfl, f0, f1⟩
      obtain ⟨n, hn, rfl⟩ : ∃ n : Int, ns[i]? = some n ∧ x = .int n := by
        rw [List.getElem?_map] at hx
        cases hq : ns[i]? with
        | none => rw [hq] at hx; cases hx
        | some n => rw [hq] at hx; injection hx with hx; exact ⟨n, rfl, hx.symm⟩
      refine ⟨_, rfl, _, _, rfl, rfl, cmul_r (by decide), _, rfl, _, _, rfl, rfl, .inl ⟨_, rfl, _, _, rfl, rfl, (show (0 : Int) < 1000000007 by decide), ?_⟩⟩
      exact ⟨_, _, rfl, rfl, Int.emod_nonneg _ (by decide), Int.emod_lt_of_pos _ (by decide)⟩
    · rintro σ H' ⟨f, c, rfl, rfl, f0, f1⟩
      intro p np
      have hs1 : SqL K (upd H' p (.dK [])) s0 (ns.map V.int) := (same_new np).seq hs
      refine ⟨_, rfl, s0, _, rfl, .inl hs1, fun l nl => ⟨_, rfl, ?_⟩⟩
      have npl : p ≠ l := ne_of_none upd_same nl
      have hp2 : upd (upd H' p (.dK [])) l (.lst (ns.map V.int)) p = some (.dK []) := by
        rw [upd_ne npl, upd_same]
      have nl' : H' l = none := by
        rw [upd_ne npl.symm] at nl
        exact nl
      refine ⟨hp2, penKv l 0 0 0 f, rfl, (by show 5 ≤ 15; decide), ?_⟩
      refine k _ p l np nl' ?_ ⟨ns, 0, 0, 0, f, upd_same, ?_, by decide, by decide, by decide, by decide, f0, by omega⟩
      · exact sM (sN (same_new np) nl) np
      · rw [upd_ne npl.symm, upd_same]
end
end J
set_option Elab.async false
set_option linter.all false
set_option maxRecDepth 100000
set_option maxHeartbeats 4000000
set_option exponentiation.threshold 3000
namespace J
open PySem PySem.Spec PyProof.Rows L2 TL

/-! J7: the law's small land. -/
theorem log_ok {i : Int} (h : i.natAbs < 2 ^ 1920) : i.natAbs.log2 < 1920 := by
  by_cases h0 : i.natAbs = 0
  · rw [h0]
    decide
  · exact (Nat.log2_lt h0).mpr h
theorem log_sm {i : Int} (h : i.natAbs < 2 ^ 30) : i.natAbs.log2 < 1920 := log_ok (Nat.lt_of_lt_of_le h (Nat.pow_le_pow_right (by decide) (by decide)))
theorem map_at {α β : Type} {f : α → β} {xs : List α} {i : Nat} {y : β} (h : (xs.map f)[i]? = some y) : ∃ x, xs[i]? = some x ∧ y = f x := by
  rw [List.getElem?_map] at h
  cases hq : xs[i]? with
  | none => rw [hq] at h; cases h
  | some x => rw [hq] at h; injection h with h; exact ⟨x, rfl, h.symm⟩
theorem mem_at {α : Type} {xs : List α} {i : Nat} {x : α} (h : xs[i]? = some x) : x ∈ xs := List.mem_of_getElem? h
theorem at_of_lt {α : Type} {xs : List α} {i : Nat} (h : i < xs.length) : ∃ x, xs[i]? = some x := ⟨_, List.getElem?_eq_getElem h⟩
theorem xb_at {i : Nat} (h : i < 5) : ∃ c, atI ("xbqmd" : Str).cps.toList (i : Int) = some c ∧ Let c := by
  have hl : ("xbqmd" : Str).cps.toList = [120, 98, 113, 109, 100] := by decide +kernel
  rw [hl]
  match i, h with
  | 0, _ => exact ⟨120, rfl, by unfold Let; omega⟩
  | 1, _ => exact ⟨98, rfl, by unfold Let; omega⟩
  | 2, _ => exact ⟨113, rfl, by unfold Let; omega⟩
  | 3, _ => exact ⟨109, rfl, by unfold Let; omega⟩
  | 4, _ => exact ⟨100, rfl, by unfold Let; omega⟩
theorem tl_nat (n : Nat) : tl (Str.ofString (toString ((n : Nat) : Int))) = numL n := tl_num n
theorem numL_dig (n : Nat) : ∀ c ∈ numL n, 48 ≤ c ∧ c ≤ 57 := fun c hc => numL_digits n c hc
theorem nodup_at {α : Type} {xs : List α} (h : ∀ (i j : Nat) (x : α), xs[i]? = some x → xs[j]? = some x → i = j) : xs.Nodup := by
  refine List.pairwise_iff_getElem.mpr fun i j hi hj hij e => ?_
  have := h i j xs[i] (List.getElem?_eq_getElem hi) (by rw [e]; exact List.getElem?_eq_getElem hj)
  omega
/-- a row of names, each with its number at its end -/
structure NRow (xs : List Str) : Prop where
  nm : ∀ x ∈ xs, NameOk x
  la : ∀ (i : Nat) (x : Str), xs[i]? = some x → (tl x).getLast? = some (48 + i)
theorem NRow.nd {xs : List Str} (h : NRow xs) : xs.Nodup := nodup_at fun i j x h1 h2 => by
  have e := (h.la i x h1).symm.trans (h.la j x h2)
  injection e with e
  omega
theorem name_of {h c d : Str} {e : Nat} {k : Nat} (hh : NameL (tl h)) (h2 : (tl h).length ≤ 2) (hc : Let e) (hce : tl c = [e]) (hd : d = Str.ofString (toString ((k : Nat) : Int))) {n : Nat} (hk : k < 10) (hn : n < 10) :
    NameOk (((h ++ c) ++ d) ++ Str.ofString (toString ((n : Nat) : Int))) ∧ (tl (((h ++ c) ++ d) ++ Str.ofString (toString ((n : Nat) : Int)))).getLast? = some (48 + n) := by
  have e1 : tl (((h ++ c) ++ d) ++ Str.ofString (toString ((n : Nat) : Int))) = tl h ++ [e] ++ [48 + k] ++ [48 + n] := by
    rw [tl_append, tl_append, tl_append, hce, hd, tl_nat, tl_nat, numL_lt hk, numL_lt hn]
  refine ⟨⟨?_, ?_⟩, ?_⟩
  · show NameL (tl _)
    rw [e1]
    have a1 : NmL (tl h ++ [e]) := hh.toNmL.snoc (.inl hc) fun _ => hh.la
    have a2 := NameL.dig a1 (c := 48 + k) (by omega)
    exact NameL.dig a2.toNmL (c := 48 + n) (by omega)
  · rw [len_tl, e1]
    simp only [List.length_append, List.length_cons, List.length_nil]
    omega
  · rw [e1]
    exact List.getLast?_concat ..
section
variable {P : Program} {w : World} {K : PySem.W.Frag} {mg : Str → Option Value} {base : Heap}
def sp__law_name_row : Sp := fun vs H Q _ => ∃ (a l p : Addr) (n : Nat) (hs : List Str) (B : Nat), vs = [.ref a, .int n, .ref p] ∧ PenAt H a l (B + (1 + 2 * n)) ∧ n ≤ 9 ∧ H p = some (.lst (hs.map V.str)) ∧ hs ≠ [] ∧ hs.length < 100 ∧ (∀ h ∈ hs, NameL (tl h) ∧ (tl h).length ≤ 2) ∧
  ∀ (H' : Hp) (q : Addr) (xs : List Str), But a H H' → PenAt H' a l B → H q = none → H' q = some (.lst (xs.map V.str)) → xs.length = n → NRow xs → Q (.ref q) H'
abbrev N__law_name_row : List Str := ["_law_pen_here", "_law_many", "_law_heads", "_law_turn", "_law_k"]
theorem sc__law_name_row : FnScope N__law_name_row ["_law_pen_here", "_law_many", "_law_heads"] (defScope s__law_name_row) := ⟨rfl, rfl, rfl, by decide +kernel, rfl, by decide +kernel, by decide +kernel⟩
theorem ok__law_name_row (T : Tx K mg) : Cl P w K mg base CX0 3 "_law_name_row" sp__law_name_row [] := by
  obtain ⟨fd, F⟩ := T.d__law_name_row
  refine cl_of (ps := ["_law_pen_here", "_law_many", "_law_heads"]) F T.g__law_name_row (FunD.cl0 F sc__law_name_row (fun vs H Q E h => ?_) (fun cdv A outer s H vs Q E hr h => ?_)) fun _ _ _ _ _ _ us hl => match us, hl with | [_, _, _], _ => rfl
  · obtain ⟨a, l, p, n, hs, B, rfl, _⟩ := h
    rfl
  · obtain ⟨a, l, p, n, hs, B, rfl, hp, n9, hh, h0, h1, hw, k⟩ := h
    refine ⟨_, (pss_cons (st 3 sc__law_name_row.nd (pe_cl (ok__law_draw T) hr pass0 (pa_cons (pv 0) (pa_cons pe_int pa_nil))))
      (pss_one (ps_ret (pe_lc rfl sc__law_name_row.nd (pi_range1 rfl T.f_range (pa_cons (pv 1) pa_nil)) (blkOk_by (own := [("_law_k", 4)]) (N := N__law_name_row) (sc := defScope s__law_name_row) (by decide +kernel)) (fun _ _ _ _ _ => (gn 4 sc__law_name_row.nd)) (fun _ _ _ _ _ => pts_nil) (fun _ _ _ _ _ => (pe_op op_add_str (pe_op op_add_str (pe_op op_add_str (pe_cl (ok__law_pick T) hr pass0 (pa_cons (pv 0) (pa_cons (pv 2) pa_nil))) (pe_ix ix_str pe_str (pe_op op_mod (pe_op op_add (pv 4) (pv 3)) pe_int) (fun _ _ => rfl))) (pe_strI T (pe_cl (ok__law_draw T) hr pass0 (pa_cons (pv 0) (pa_cons pe_int pa_nil))))) (pe_strI T (pv 4)))))))), ?_⟩
    refine ⟨_, rfl, a, l, 5, B + 2 * n, rfl, by rw [show B + 2 * n + 1 = B + (1 + 2 * n) by omega]; exact hp, by decide, by decide, fun H1 v b1 p1 v0 v1 => ?_⟩
    obtain ⟨t, rfl⟩ : ∃ t : Nat, v = (t : Int) := ⟨v.toNat, by omega⟩
    have hh1 : H1 p = some (.lst (hs.map V.str)) := b1.lst hp hh
    refine ⟨_, rfl, n, rfl, by omega, by omega, ?_⟩
    intro D hD
    have hDn := b1.free p1 hD
    refine lc_range (fun i H' => But a H H' ∧ PenAt H' a l (B + 2 * (n - i)) ∧ H' p = some (.lst (hs.map V.str)) ∧ ∃ xs : List Str, H' D = some (.lst (xs.map V.str)) ∧ xs.length = i ∧ NRow xs) ?_ ?_ ?_
    · refine ⟨b1.new hD, (p1.mono (same_new hD)), (same_new hD) _ _ hh1, [], upd_same, rfl, ⟨fun x hx => (nomatch hx), fun i x hx => (by simp at hx)⟩⟩
    · rintro i H' hi ⟨b2, p2, hh2, xs, hx, hl, hr'⟩
      have hi : i < n := by simpa using hi
      refine ⟨rfl, ?_⟩
      have z0 : (0 : Int) + (i : Int) = (i : Int) := by omega
      rw [z0]
      refine ⟨_, rfl, _, rfl, a, l, .ref p, hs.map V.str, B + 2 * (n - i) - 1, rfl, by rw [show B + 2 * (n - i) - 1 + 1 = B + 2 * (n - i) by omega]; exact p2, ⟨p, rfl, .inr hh2⟩, by rw [List.length_map]; exact List.length_pos_iff.mpr h0, by rw [List.length_map]; omega, fun H3 j x b3 p3 hx3 => ?_⟩
      obtain ⟨h, hj, rfl⟩ := map_at hx3
      obtain ⟨hw1, hw2⟩ := hw h (mem_at hj)
      obtain ⟨c, hc, hcl⟩ := xb_at (i := (i + t) % 5) (Nat.mod_lt _ (by decide))
      refine ⟨_, rfl, _, rfl, _, _, rfl, rfl, _, _, rfl, rfl, (show (0 : Int) < 5 by decide), "xbqmd", _, c, rfl, rfl, by decide +kernel, hc, _, _, rfl, rfl, ?_, ?_⟩
      · rw [len_tl, len_tl]
        show _ + 1 ≤ _
        have : sizeLine = 16777216 := rfl
        omega
      · refine ⟨_, rfl, a, l, 10, B + 2 * (n - (i + 1)), rfl, ?_, by decide, by decide, fun H4 v b4 p4 v0' v1' => ?_⟩
        · rw [show B + 2 * (n - (i + 1)) + 1 = B + 2 * (n - i) - 1 by omega]
          exact p3
        · obtain ⟨q, rfl⟩ : ∃ q : Nat, v = (q : Int) := ⟨v.toNat, by omega⟩
          have hq : q < 10 := by omega
          have i10 : i < 10 := by omega
          have hD3 : H4 D = some (.lst (xs.map V.str)) := b4.lst p3 (b3.lst p2 hx)
          have hh4 : H4 p = some (.lst (hs.map V.str)) := b4.lst p3 (b3.lst p2 hh2)
          have hpD : p ≠ D := ne_of_none hh1 hD
          have e3 : tl (h ++ ⟨#[c]⟩) = tl h ++ [c] := tl_append ..
          have ok := name_of (h := h) (c := ⟨#[c]⟩) hw1 hw2 hcl (tl_one c) rfl hq i10
          refine ⟨_, rfl, log_sm (by omega), _, _, rfl, rfl, ?_, _, rfl, _, rfl, log_sm (by omega), _, _, rfl, rfl, ?_, xs.map V.str, hD3, by rw [List.length_map]; exact small1000 (by omega), ?_⟩
          · rw [len_tl, len_tl, e3, tl_nat, numL_lt hq, List.length_append]
            have : sizeLine = 16777216 := rfl
            simp only [List.length_cons, List.length_nil]
            omega
          · rw [← len_append]
            exact Nat.le_trans ok.1.2 (by decide)
          · refine ⟨((b2.trans b3).trans b4).mut hDn, p4.mut p1 hD, ?_, xs ++ [_], by rw [upd_same, List.map_append]; rfl, by rw [List.length_append, hl]; rfl, ⟨?_, ?_⟩⟩
            · rw [upd_ne hpD]
              exact hh4
            · intro x hx
              rcases List.mem_append.mp hx with z | z
              · exact hr'.nm x z
              · rw [List.mem_singleton.mp z]
                exact ok.1
            · intro j x hx
              rcases get_snoc hx with z | ⟨z, rfl⟩
              · exact hr'.la j x z
              · rw [z, hl]
                exact ok.2
    · rintro H' ⟨b2, p2, hh2, xs, hx, hl, hr'⟩
      exact k _ _ xs b2 (p2.less (by omega)) hDn hx (by simpa using hl) hr'
end
end J
set_option Elab.async false
set_option linter.all false
set_option maxRecDepth 100000
set_option maxHeartbeats 4000000
set_option exponentiation.threshold 3000
namespace J
open PySem PySem.Spec PyProof.Rows L2 TL

/-! J8: the law's small land, whole. -/
section
variable {P : Program} {w : World} {K : PySem.W.Frag} {mg : Str → Option Value} {base : Heap}
def sp__law_shift : Sp := fun vs H Q _ => ∃ (a l : Addr) (wide : Bool) (B : Nat), vs = [.ref a, .bl wide] ∧ PenAt H a l (B + 4) ∧ ∀ (H' : Hp) (r : V) (x y : Int), But a H H' → PenAt H' a l B → CellAt H' r x y → x.natAbs ≤ 2 → y.natAbs ≤ 2 → Q r H'
abbrev N__law_shift : List Str := ["_law_pen_here", "_law_wide", "_law_one"]
theorem sc__law_shift : FnScope N__law_shift ["_law_pen_here", "_law_wide"] (defScope s__law_shift) := ⟨rfl, rfl, rfl, by decide +kernel, rfl, by decide +kernel, by decide +kernel⟩
theorem ok__law_shift (T : Tx K mg) : Cl P w K mg base CX0 3 "_law_shift" sp__law_shift [] := by
  obtain ⟨fd, F⟩ := T.d__law_shift
  refine cl_of (ps := ["_law_pen_here", "_law_wide"]) F T.g__law_shift (FunD.cl0 F sc__law_shift (fun vs H Q E h => ?_) (fun cdv A outer s H vs Q E hr h => ?_)) fun _ _ _ _ _ _ us hl => match us, hl with | [_, _], _ => rfl
  · obtain ⟨a, l, wide, B, rfl, _⟩ := h
    rfl
  · obtain ⟨a, l, wide, B, rfl, hp, k⟩ := h
    refine ⟨_, (pss_cons (st 2 sc__law_shift.nd (pe_tup (pa_cons (pe_op op_sub (pe_cl (ok__law_draw T) hr pass0 (pa_cons (pv 0) (pa_cons pe_int pa_nil))) pe_int) (pa_cons (pe_op op_sub (pe_cl (ok__law_draw T) hr pass0 (pa_cons (pv 0) (pa_cons pe_int pa_nil))) pe_int) pa_nil))))
      (pss_cons (ps_if (pw_and (pt_val (pv 1)) (pw_and1 (pt_cmpR op_eq (pe_cl (ok__law_draw T) hr pass0 (pa_cons (pv 0) (pa_cons pe_int pa_nil))) pe_int (nomark _)))).pt (pss_one (st 2 sc__law_shift.nd (pe_cl (ok__law_pick T) hr pass0 (pa_cons (pv 0) (pa_cons (pe_lst (pa_cons (pe_tup (pa_cons (pe_op op_mul pe_int (pe_at (pv 2) pe_int)) (pa_cons (pe_at (pv 2) pe_int) pa_nil))) (pa_cons (pe_tup (pa_cons (pe_at (pv 2) pe_int) (pa_cons (pe_op op_mul pe_int (pe_at (pv 2) pe_int)) pa_nil))) (pa_cons (pe_tup (pa_cons pe_int (pa_cons pe_int pa_nil))) (pa_cons (pe_tup (pa_cons (pe_un un_neg pe_int) (pa_cons pe_int pa_nil))) pa_nil))))) pa_nil))))) pss_nil)
      (pss_one (ps_ret (pv 2))))), ?_⟩
    refine ⟨_, rfl, a, l, 3, B + 3, rfl, hp, by decide, by decide, fun H1 v b1 p1 v0 v1 => ⟨_, _, rfl, rfl, ?_⟩⟩
    refine ⟨_, rfl, a, l, 3, B + 2, rfl, p1, by decide, by decide, fun H2 u b2 p2 u0 u1 => ⟨_, _, rfl, rfl, (by show 2 ≤ sizeLine; decide), fun p np => ?_⟩⟩
    have b3 := (b1.trans b2).new (p := p) (o := .tup [.int (v - 1), .int (u - 1)]) np
    have p3 := p2.mono (same_new (o := .tup [.int (v - 1), .int (u - 1)]) np)
    have c3 : CellAt (upd H2 p (.tup [.int (v - 1), .int (u - 1)])) (.ref p) (v - 1) (u - 1) := ⟨p, rfl, upd_same⟩
    revert b3 p3 c3
    generalize upd H2 p (.tup [.int (v - 1), .int (u - 1)]) = H3
    intro b3 p3 c3
    have dn : ∀ (H4 : Hp) (r : V) (x y : Int), But a H H4 → PenAt H4 a l B → CellAt H4 r x y → x.natAbs ≤ 2 → y.natAbs ≤ 2 → tRet (tVar 2) { nx := fun _ H' => Q .non H', rt := Q } [some (.ref a), some (.bl wide), some r] H4 :=
      fun H4 r x y b p c hx hy => ⟨_, rfl, k _ _ _ _ b p c hx hy⟩
    refine ⟨_, rfl, wide, rfl, ?_⟩
    cases wide with
    | false => exact iteF (iteF (dn _ _ _ _ b3 (p3.less (by omega)) c3 (by omega) (by omega)))
    | true =>
      refine iteT ⟨_, rfl, a, l, 3, B + 1, rfl, p3, by decide, by decide, fun H4 t b4 p4 t0 t1 => ⟨rfl, _, rfl, ?_⟩⟩
      have c4 := c3.tup (Tup.but b4 p3)
      refine ite2 (fun _ => ?_) (fun _ => dn _ _ _ _ (b3.trans b4) (p4.less (by omega)) c4 (by omega) (by omega))
      refine ⟨_, rfl, _, rfl, c4.ix0 ⟨_, _, rfl, rfl, cmul_l (by decide), _, rfl, c4.ix1 ⟨(by show 2 ≤ sizeLine; decide), fun q1 n1 => ?_⟩⟩⟩
      have c5 := c4.mono (same_new (o := .tup [.int (2 * (v - 1)), .int (u - 1)]) n1)
      refine ⟨_, rfl, c5.ix0 ⟨_, rfl, c5.ix1 ⟨_, _, rfl, rfl, cmul_l (by decide), (by show 2 ≤ sizeLine; decide), fun q2 n2 => ⟨(by show 2 ≤ sizeLine; decide), fun q3 n3 => ⟨_, rfl, (by show 2 ≤ sizeLine; decide), fun q4 n4 => ⟨(by show 4 ≤ sizeLine; decide), fun q5 n5 => ?_⟩⟩⟩⟩⟩⟩
      have s5 := sN (sN (sN (sN (same_new (o := .tup [.int (2 * (v - 1)), .int (u - 1)]) n1) (o := .tup [.int (v - 1), .int (2 * (u - 1))]) n2) (o := .tup [.int 2, .int 1]) n3) (o := .tup [.int (-1), .int 2]) n4) (o := .lst [.ref q1, .ref q2, .ref q3, .ref q4]) n5
      refine ⟨a, l, .ref q5, _, B, rfl, p4.mono s5, ⟨q5, rfl, .inr upd_same⟩, (by show 0 < 4; decide), (by show 4 < 1073741824; decide), fun H6 i x b6 p6 hx => ?_⟩
      have t6 := Tup.but b6 (p4.mono s5)
      have b7 := ((b3.trans b4).trans (But.of s5)).trans b6
      have g4 : ∀ {H0 : Hp} {o : HO} {q : Addr}, H0 q = none → (upd H0 q o) q = some o := fun _ => upd_same
      have d1 : CellAt H6 (.ref q1) (2 * (v - 1)) (u - 1) := CellAt.tup ((CellAt.mono ⟨q1, rfl, upd_same⟩ (sN (sN (sN (same_new n2) n3) n4) n5))) t6
      have d2 : CellAt H6 (.ref q2) (v - 1) (2 * (u - 1)) := CellAt.tup ((CellAt.mono ⟨q2, rfl, upd_same⟩ (sN (sN (same_new n3) n4) n5))) t6
      have d3 : CellAt H6 (.ref q3) 2 1 := CellAt.tup ((CellAt.mono ⟨q3, rfl, upd_same⟩ (sN (same_new n4) n5))) t6
      have d4 : CellAt H6 (.ref q4) (-1) 2 := CellAt.tup ((CellAt.mono ⟨q4, rfl, upd_same⟩ (same_new n5))) t6
      match i, hx with
      | 0, hx => injection hx with hx; rw [← hx]; exact dn _ _ _ _ b7 p6 d1 (by omega) (by omega)
      | 1, hx => injection hx with hx; rw [← hx]; exact dn _ _ _ _ b7 p6 d2 (by omega) (by omega)
      | 2, hx => injection hx with hx; rw [← hx]; exact dn _ _ _ _ b7 p6 d3 (by omega) (by omega)
      | 3, hx => injection hx with hx; rw [← hx]; exact dn _ _ _ _ b7 p6 d4 (by omega) (by omega)
      | i + 4, hx => simp at hx
end
end J
set_option Elab.async false
set_option linter.all false
set_option maxRecDepth 100000
set_option maxHeartbeats 4000000
set_option exponentiation.threshold 3000
namespace J
open PySem PySem.Spec PyProof.Rows L2 TL

/-! J9: the law's small land, made. -/
/-- a word between two statements -/
def tMid (t u : TS) : TS := fun D σ H => ∃ M : L2.St → Hp → Prop, t { D with nx := M } σ H ∧ ∀ σ' H', M σ' H' → u D σ' H'
theorem pss_mid {X : Cx} {st : Stmt} {rest : List Stmt} {t u : TS} (h1 : PS X st t) (h2 : PSs X rest u) : PSs X (st :: rest) (tMid t u) := by
  refine ⟨fun pins s σ H D I h => ?_⟩
  obtain ⟨M, hm, hu⟩ := h
  refine wpAny_execs_cons (thn (h1.run pins s σ H { D with nx := M } I hm) fun f s1 q => ?_)
  cases f with
  | next => obtain ⟨σ', H', I', q⟩ := q; exact h2.run pins s1 σ' H' D I' (hu σ' H' q)
  | ret v => exact q
  | brk => exact q
  | cont => exact q
theorem nodup_snoc {α : Type} {xs : List α} {y : α} (h : xs.Nodup) (hy : y ∉ xs) : (xs ++ [y]).Nodup := by
  refine List.pairwise_append.mpr ⟨h, List.pairwise_singleton _ _, fun a ha b hb e => ?_⟩
  rw [List.mem_singleton.mp hb] at e
  exact hy (e ▸ ha)
theorem NRow.inj {xs : List Str} (h : NRow xs) {i j : Nat} {x : Str} (h1 : xs[i]? = some x) (h2 : xs[j]? = some x) : i = j := by
  have e := (h.la i x h1).symm.trans (h.la j x h2)
  injection e with e
  omega
/-- rows under way -/
structure Rw (H : Hp) (r : Addr) (rs : List Rd) (names calls : List Str) (c : Nat) : Prop where
  at_ : ∃ xs : List V, H r = some (.lst xs) ∧ Paired (RoadT H) xs rs
  ok : ∀ x ∈ rs, RdOk names x
  nd : (rs.map (·.name)).Nodup
  ix : ∀ x ∈ rs.map (·.name), ∃ i, i < c ∧ calls[i]? = some x
  len : rs.length ≤ c
theorem Rw.next {H H' : Hp} {r : Addr} {rs : List Rd} {names calls : List Str} {c : Nat} (h : Rw H r rs names calls c) (hc : NRow calls) {x : Rd} (hx : calls[c]? = some x.name) (ho : RdOk names x) {p : Addr} {xs : List V} {v : V}
    (e : H' p = some (.lst (xs ++ [v]))) (hxs : Paired (RoadT H') xs rs) (hv : RoadT H' v x) : Rw H' p (rs ++ [x]) names calls (c + 1) := by
  refine ⟨⟨_, e, Paired.snoc hxs hv⟩, ?_, ?_, ?_, ?_⟩
  · intro y hy
    rcases List.mem_append.mp hy with z | z
    · exact h.ok y z
    · rw [List.mem_singleton.mp z]
      exact ho
  · rw [List.map_append]
    refine nodup_snoc h.nd fun z => ?_
    obtain ⟨i, hi, hj⟩ := h.ix _ z
    have := hc.inj hj hx
    omega
  · intro y hy
    rw [List.map_append] at hy
    rcases List.mem_append.mp hy with z | z
    · obtain ⟨i, hi, hj⟩ := h.ix _ z
      exact ⟨i, by omega, hj⟩
    · rw [List.mem_singleton.mp z]
      exact ⟨c, by omega, hx⟩
  · have := h.len
    rw [List.length_append]
    simp only [List.length_cons, List.length_nil]
    omega
theorem heads1 : ∀ h ∈ (["s", "sp", "t"] : List Str), NameL (tl h) ∧ (tl h).length ≤ 2 := by
  have e1 : tl ("s" : Str) = [115] := by decide +kernel
  have e2 : tl ("sp" : Str) = [115] ++ [112] := by decide +kernel
  have e3 : tl ("t" : Str) = [116] := by decide +kernel
  have o : ∀ {c : Nat}, Let c → NameL [c] := fun {c} h => { NmL.one h with la := by intro z; have z : c = 46 := (by simpa using z); unfold Let at h; omega }
  intro h hh
  rcases List.mem_cons.mp hh with rfl | hh
  · rw [e1]; exact ⟨o (by unfold Let; omega), by decide⟩
  rcases List.mem_cons.mp hh with rfl | hh
  · rw [e2]
    refine ⟨{ (NmL.one (show Let 115 by unfold Let; omega)).snoc (c := 112) (.inl ⟨by decide, by decide⟩) (fun z => by omega) with la := by intro z; cases z }, by decide⟩
  · rw [List.mem_singleton.mp hh, e3]; exact ⟨o (by unfold Let; omega), by decide⟩
theorem heads2 : ∀ h ∈ (["r", "ro", "v"] : List Str), NameL (tl h) ∧ (tl h).length ≤ 2 := by
  have e1 : tl ("r" : Str) = [114] := by decide +kernel
  have e2 : tl ("ro" : Str) = [114] ++ [111] := by decide +kernel
  have e3 : tl ("v" : Str) = [118] := by decide +kernel
  have o : ∀ {c : Nat}, Let c → NameL [c] := fun {c} h => { NmL.one h with la := by intro z; have z : c = 46 := (by simpa using z); unfold Let at h; omega }
  intro h hh
  rcases List.mem_cons.mp hh with rfl | hh
  · rw [e1]; exact ⟨o (by unfold Let; omega), by decide⟩
  rcases List.mem_cons.mp hh with rfl | hh
  · rw [e2]
    refine ⟨{ (NmL.one (show Let 114 by unfold Let; omega)).snoc (c := 111) (.inl ⟨by decide, by decide⟩) (fun z => by omega) with la := by intro z; cases z }, by decide⟩
  · rw [List.mem_singleton.mp hh, e3]; exact ⟨o (by unfold Let; omega), by decide⟩
/-- a row behind the rows -/
theorem row_made {H5 : Hp} {r0 : Addr} {H0 : Hp} {t w z : Addr} {xs : List V} {rs : List Rd} {names calls : List Str} {c : Nat} {sh : V} {x : Rd} (h : Rw H0 r0 rs names calls c) (hc : NRow calls) (hx : calls[c]? = some x.name) (ho : RdOk names x)
    (hp : Paired (RoadT H5) xs rs) (cs : CellAt H5 sh x.sx x.sy) (nt : H5 t = none)
    (nw : upd H5 t (.tup [.str x.name, .str x.start, .str x.fin, sh, .int x.price, labV x.label]) w = none)
    (nz : upd (upd H5 t (.tup [.str x.name, .str x.start, .str x.fin, sh, .int x.price, labV x.label])) w (.lst [.ref t]) z = none) :
    Rw (upd (upd (upd H5 t (.tup [.str x.name, .str x.start, .str x.fin, sh, .int x.price, labV x.label])) w (.lst [.ref t])) z (.lst (xs ++ [.ref t]))) z (rs ++ [x]) names calls (c + 1) ∧
    Same H5 (upd (upd (upd H5 t (.tup [.str x.name, .str x.start, .str x.fin, sh, .int x.price, labV x.label])) w (.lst [.ref t])) z (.lst (xs ++ [.ref t]))) := by
  have s6 := sN (o := .lst (xs ++ [.ref t])) (sN (o := .lst [.ref t]) (same_new (o := .tup [.str x.name, .str x.start, .str x.fin, sh, .int x.price, labV x.label]) nt) nw) nz
  have s7 := sN (o := .lst (xs ++ [.ref t])) (same_new (o := .lst [.ref t]) nw) nz
  refine ⟨h.next hc hx ho upd_same (rows_tup hp (Tup.of s6)) ⟨t, sh, rfl, s7 _ _ upd_same, cs.mono s6⟩, s6⟩
section
variable {P : Program} {w : World} {K : PySem.W.Frag} {mg : Str → Option Value} {base : Heap}
theorem str_ix {H : Hp} {q : Addr} {xs : List Str} {i : Nat} {x : Str} {Q : VK} (h : H q = some (.lst (xs.map V.str))) (hi : xs[i]? = some x) (k : Q (.str x) H) : rIx K (.ref q) (.int (i : Int)) H Q :=
  SeqAt.ix (i := i) ⟨q, rfl, .inr h⟩ (by rw [List.getElem?_map, hi]; rfl) k
def sp__law_land : Sp := fun vs H Q _ => ∃ (a l : Addr) (n : Nat) (B : Nat), vs = [.ref a, .int n, .int 3, .int 9] ∧ PenAt H a l (B + 1000) ∧ 1 ≤ n ∧ n ≤ 3 ∧ ∀ (H' : Hp) (r : V) (L : Land), But a H H' → PenAt H' a l B → LandAt H' r L → L.Ok → Q r H'
abbrev N__law_land : List Str := ["_law_pen_here", "_law_spots", "_law_roads", "_law_price", "_law_names", "_law_calls", "_law_rows", "_law_k", "_law_end", "_law_start"]
theorem sc__law_land : FnScope N__law_land ["_law_pen_here", "_law_spots", "_law_roads", "_law_price"] (defScope s__law_land) := ⟨rfl, rfl, rfl, by decide +kernel, rfl, by decide +kernel, by decide +kernel⟩
theorem ok__law_land (T : Tx K mg) : Cl P w K mg base CX0 4 "_law_land" sp__law_land [] := by
  obtain ⟨fd, F⟩ := T.d__law_land
  refine cl_of (ps := ["_law_pen_here", "_law_spots", "_law_roads", "_law_price"]) F T.g__law_land (FunD.cl0 F sc__law_land (fun vs H Q E h => ?_) (fun cdv A outer s H vs Q E hr h => ?_)) fun _ _ _ _ _ _ us hl => match us, hl with | [_, _, _, _], _ => rfl
  · obtain ⟨a, l, n, B, rfl, _⟩ := h
    rfl
  · obtain ⟨a, l, n, B, rfl, hp, n1, n3, k⟩ := h
    refine ⟨_, (pss_cons (st 4 sc__law_land.nd (pe_cl (ok__law_name_row T) hr pass0 (pa_cons (pv 0) (pa_cons (pv 1) (pa_cons (pe_lst (pa_cons pe_str (pa_cons pe_str (pa_cons pe_str pa_nil)))) pa_nil)))))
      (pss_cons (st 5 sc__law_land.nd (pe_cl (ok__law_name_row T) hr pass0 (pa_cons (pv 0) (pa_cons (pe_op op_add (pv 1) (pv 2)) (pa_cons (pe_lst (pa_cons pe_str (pa_cons pe_str (pa_cons pe_str pa_nil)))) pa_nil)))))
      (pss_cons (st 6 sc__law_land.nd (pe_lst pa_nil))
      (pss_mid (ps_for (PassesOwn.never) rfl (pi_range1 rfl T.f_range (pa_cons (pe_ifExp (pt_cmpR op_gt (pv 1) pe_int (nomark _)) (pv 1) pe_int) pa_nil)) (gn 7 sc__law_land.nd) (pss_mid (st 8 sc__law_land.nd (pe_ifExp (pw_and (pt_cmpR op_eq (pv 7) (pe_op op_sub (pv 1) pe_int) (nomark _)) (pw_and1 (pt_cmpR op_eq (pe_cl (ok__law_draw T) hr pass0 (pa_cons (pv 0) (pa_cons pe_int pa_nil))) pe_int (nomark _)))).pt (pe_at (pv 4) (pv 7)) (pe_at (pv 4) (pe_op op_mod (pe_op op_add (pv 7) pe_int) (pv 1))))) (pss_one (st 6 sc__law_land.nd (pe_op op_cat (pv 6) (pe_lst (pa_cons (pe_tup (pa_cons (pe_at (pv 5) (pv 7)) (pa_cons (pe_at (pv 4) (pv 7)) (pa_cons (pv 8) (pa_cons (pe_cl (ok__law_shift T) hr pass0 (pa_cons (pv 0) (pa_cons pe_bl pa_nil))) (pa_cons (pe_op op_add pe_int (pe_cl (ok__law_draw T) hr pass0 (pa_cons (pv 0) (pa_cons (pv 3) pa_nil)))) (pa_cons pe_non pa_nil))))))) pa_nil)))))))
      (pss_cons (ps_for (PassesOwn.never) rfl (pi_range1 rfl T.f_range (pa_cons (pv 2) pa_nil)) (gn 7 sc__law_land.nd) (pss_cons (par2 9 8 sc__law_land.nd (pa_cons (pe_cl (ok__law_pick T) hr pass0 (pa_cons (pv 0) (pa_cons (pv 4) pa_nil))) (pa_cons (pe_cl (ok__law_pick T) hr pass0 (pa_cons (pv 0) (pa_cons (pv 4) pa_nil))) pa_nil))) (pss_one (st 6 sc__law_land.nd (pe_op op_cat (pv 6) (pe_lst (pa_cons (pe_tup (pa_cons (pe_at (pv 5) (pe_op op_add (pv 1) (pv 7))) (pa_cons (pv 9) (pa_cons (pv 8) (pa_cons (pe_cl (ok__law_shift T) hr pass0 (pa_cons (pv 0) (pa_cons (pe_cmpR op_eq (pv 7) pe_int (nomark _)) pa_nil))) (pa_cons (pe_op op_add pe_int (pe_cl (ok__law_draw T) hr pass0 (pa_cons (pv 0) (pa_cons (pv 3) pa_nil)))) (pa_cons pe_non pa_nil))))))) pa_nil)))))))
      (pss_one (ps_ret (pe_disp (pps_cons pe_str (pv 4) (pps_cons pe_str (pv 6) pps_nil)) rfl rfl (by simp) (by decide))))))))), ?_⟩
    refine ⟨_, rfl, _, rfl, (by show 3 ≤ sizeLine; decide), fun p1 f1 => ⟨a, l, p1, n, ["s", "sp", "t"], B + 900, rfl, (hp.mono (same_new f1)).less (by omega), by omega, upd_same, by simp, by decide, heads1, fun H1 q1 names b1 pn1 fq1 hl1 len1 row1 => ?_⟩⟩
    have c1 := (But.of (a := a) (same_new (o := .lst [.str "s", .str "sp", .str "t"]) f1)).trans b1
    refine ⟨_, rfl, _, rfl, _, rfl, _, _, rfl, rfl, (by show 3 ≤ sizeLine; decide), fun p2 f2 => ⟨a, l, p2, n + 3, ["r", "ro", "v"], B + 800, by rw [show ((n + 3 : Nat) : Int) = (n : Int) + 3 from rfl]; rfl, (pn1.mono (same_new f2)).less (by omega), by omega, upd_same, by simp, by decide, heads2, fun H2 q2 calls b2 pn2 fq2 hl2 len2 row2 => ?_⟩⟩
    have c2 := (But.of (a := a) (same_new (o := .lst [.str "r", .str "ro", .str "v"]) f2)).trans b2
    have hn2 : H2 q1 = some (.lst (names.map V.str)) := c2.lst pn1 hl1
    refine ⟨by show 0 ≤ sizeLine; decide, fun r0 fr => ?_⟩
    have pn3 := pn2.mono (same_new (o := .lst []) fr)
    have c3 := ((c1.trans c2).trans (But.of (same_new (o := .lst []) fr)))
    refine ⟨fun σ H' => ∃ (k7 e8 : Option V) (r : Addr) (rs : List Rd), σ = [some (.ref a), some (.int n), some (.int 3), some (.int 9), some (.ref q1), some (.ref q2), some (.ref r), k7, e8, none] ∧ But a H H' ∧ PenAt H' a l (B + 400) ∧ H' q1 = some (.lst (names.map V.str)) ∧ H' q2 = some (.lst (calls.map V.str)) ∧ Rw H' r rs names calls n, ?_, ?_⟩
    · have hs0 : Rw (upd H2 r0 (.lst [])) r0 [] names calls 0 := ⟨⟨[], upd_same, .nil⟩, fun x hx => (nomatch hx), List.nodup_nil, fun x hx => (nomatch hx), Nat.le_refl _⟩
      refine ⟨_, rfl, _, _, rfl, rfl, _, rfl, ?_⟩
      refine ite2 (fun hn => ?_) (fun hn => ?_)
      · refine ⟨_, rfl, n, rfl, by omega, by omega, ?_⟩
        refine for_range (fun i σ H' => ∃ (k7 e8 : Option V) (r : Addr) (rs : List Rd), σ = [some (.ref a), some (.int n), some (.int 3), some (.int 9), some (.ref q1), some (.ref q2), some (.ref r), k7, e8, none] ∧ But a H H' ∧ PenAt H' a l (B + 400 + 100 * (n - i)) ∧ H' q1 = some (.lst (names.map V.str)) ∧ H' q2 = some (.lst (calls.map V.str)) ∧ Rw H' r rs names calls i) ?_ ?_ ?_
        · exact ⟨none, none, r0, [], rfl, c3, pn3.less (by omega), (same_new fr) _ _ hn2, (same_new fr) _ _ hl2, hs0⟩
        · rintro i σ H' hi ⟨k7, e8, r, rs, rfl, b, pn, hq1, hq2, rw1⟩
          have hi : i < n := by simpa using hi
          have z0 : (0 : Int) + (i : Int) = (i : Int) := by omega
          rw [z0]
          obtain ⟨nk, hnk⟩ := at_of_lt (xs := names) (i := i) (by omega)
          obtain ⟨ck, hck⟩ := at_of_lt (xs := calls) (i := i) (by omega)
          refine ⟨fun σ H'' => ∃ e : Str, e ∈ names ∧ σ = [some (.ref a), some (.int n), some (.int 3), some (.int 9), some (.ref q1), some (.ref q2), some (.ref r), some (.int i), some (.str e), none] ∧ But a H H'' ∧ PenAt H'' a l (B + 400 + 100 * (n - i) - 1) ∧ H'' q1 = some (.lst (names.map V.str)) ∧ H'' q2 = some (.lst (calls.map V.str)) ∧ Rw H'' r rs names calls i, ?_, ?_⟩
          · have oth : ∀ H'', But a H H'' → PenAt H'' a l (B + 400 + 100 * (n - i) - 1) → H'' q1 = some (.lst (names.map V.str)) → H'' q2 = some (.lst (calls.map V.str)) → Rw H'' r rs names calls i → ∀ Q : VK, (∀ e, e ∈ names → Q (.str e) H'') →
                tOp (rIx K) (tVar 4) (tOp (rI (fun _ j => 0 < j) fun i j => .int (i % j)) (tOp (rI0 fun i j => .int (i + j)) (tVar 7) (tC (.int 1))) (tVar 1)) [some (.ref a), some (.int n), some (.int 3), some (.int 9), some (.ref q1), some (.ref q2), some (.ref r), some (.int i), e8, none] H'' Q := by
              intro H'' b' p' h1 h2 r' Q kq
              obtain ⟨nk', hnk'⟩ := at_of_lt (xs := names) (i := (i + 1) % n) (by rw [len1]; exact Nat.mod_lt _ (by omega))
              refine ⟨_, rfl, _, rfl, _, _, rfl, rfl, _, rfl, _, _, rfl, rfl, (by omega : (0 : Int) < (n : Int)), str_ix (i := (i + 1) % n) h1 hnk' (kq _ (mem_at hnk'))⟩
            refine ⟨_, rfl, _, rfl, _, _, rfl, rfl, rfl, _, rfl, ?_⟩
            refine ite2 (fun he => ?_) (fun he => ?_)
            · refine ⟨_, rfl, a, l, 6, B + 400 + 100 * (n - i) - 1, rfl, by rw [show B + 400 + 100 * (n - i) - 1 + 1 = B + 400 + 100 * (n - i) by omega]; exact pn, by decide, by decide, fun H4 v b4 p4 v0 v1 => ⟨rfl, _, rfl, ?_⟩⟩
              have r4 : Rw H4 r rs names calls i := ⟨by obtain ⟨xs, hx, hpx⟩ := rw1.at_; exact ⟨xs, b4.lst pn hx, rows_tup hpx (Tup.but b4 pn)⟩, rw1.ok, rw1.nd, rw1.ix, rw1.len⟩
              refine ite2 (fun _ => ?_) (fun _ => ?_)
              · exact ⟨_, rfl, _, rfl, str_ix (b4.lst pn hq1) hnk ⟨nk, mem_at hnk, rfl, b.trans b4, p4, b4.lst pn hq1, b4.lst pn hq2, r4⟩⟩
              · exact oth H4 (b.trans b4) p4 (b4.lst pn hq1) (b4.lst pn hq2) r4 _ fun e he => ⟨e, he, rfl, b.trans b4, p4, b4.lst pn hq1, b4.lst pn hq2, r4⟩
            · exact iteF (oth H' b (pn.less (by omega)) hq1 hq2 rw1 _ fun e he => ⟨e, he, rfl, b, pn.less (by omega), hq1, hq2, rw1⟩)
          · rintro σ H'' ⟨e, he, rfl, b', pn', hq1', hq2', rw2⟩
            obtain ⟨xs, hxs, hpx⟩ := rw2.at_
            refine ⟨_, rfl, _, rfl, _, rfl, str_ix hq2' hck ⟨_, rfl, _, rfl, str_ix hq1' hnk ⟨_, rfl, _, rfl, a, l, false, B + 400 + 100 * (n - i) - 5, rfl, by rw [show B + 400 + 100 * (n - i) - 5 + 4 = B + 400 + 100 * (n - i) - 1 by omega]; exact pn', fun H4 sh x y b4 p4 cs x2 y2 => ?_⟩⟩⟩
            refine ⟨_, rfl, _, rfl, a, l, 9, B + 400 + 100 * (n - i) - 6, rfl, by rw [show B + 400 + 100 * (n - i) - 6 + 1 = B + 400 + 100 * (n - i) - 5 by omega]; exact p4, by decide, by decide, fun H5 v b5 p5 v0 v1 => ⟨_, _, rfl, rfl, (by show 6 ≤ sizeLine; decide), fun t nt => ⟨by show 1 ≤ sizeLine; decide, fun w nw => ?_⟩⟩⟩
            have hx5 : H5 r = some (.lst xs) := b5.lst p4 (b4.lst pn' hxs)
            have e1 := ne_of_none hx5 nt
            have e2 := ne_of_none ((upd_ne e1).trans hx5) nw
            have hlen : xs.length ≤ i := by
              rw [paired_len hpx]
              exact rw2.len
            have t5 := (Tup.but b4 pn').trans (Tup.but b5 p4)
            refine ⟨r, w, xs, [.ref t], rfl, rfl, by rw [upd_ne e2, upd_ne e1]; exact hx5, upd_same, (by have : sizeLine = 16777216 := rfl; simp only [List.length_cons, List.length_nil]; omega), fun z nz => ?_⟩
            obtain ⟨r6, s6⟩ := row_made (x := ⟨ck, nk, e, x, y, 1 + v, none⟩) rw2 row2 hck ⟨row2.nm _ (mem_at hck), mem_at hnk, he, by show x.natAbs ≤ 9; omega, by show y.natAbs ≤ 9; omega, by show 1 ≤ 1 + v; omega, by show 1 + v ≤ 99; omega, fun q hq => nomatch hq⟩ (rows_tup hpx t5) (cs.tup (Tup.but b5 p4)) nt nw nz
            have b6 := (b4.trans b5).trans (But.of s6)
            exact ⟨_, _, z, _, rfl, b'.trans b6, (p5.mono s6).less (by omega), s6 _ _ (b5.lst p4 (b4.lst pn' hq1')), s6 _ _ (b5.lst p4 (b4.lst pn' hq2')), r6⟩
        · rintro σ H' ⟨k7, e8, r, rs, rfl, b, pn, hq1, hq2, rw1⟩
          exact ⟨k7, e8, r, rs, rfl, b, pn.less (by omega), hq1, hq2, rw1⟩
      · refine ⟨0, rfl, by decide, by decide, ?_⟩
        refine for_range (n := 0) (fun i σ H' => σ = [some (.ref a), some (.int n), some (.int 3), some (.int 9), some (.ref q1), some (.ref q2), some (.ref r0), none, none, none] ∧ H' = upd H2 r0 (.lst [])) ⟨rfl, rfl⟩ (fun i _ _ hi _ => absurd hi (by omega)) ?_
        rintro σ H' ⟨rfl, rfl⟩
        exact ⟨none, none, r0, [], rfl, c3, pn3.less (by omega), (same_new fr) _ _ hn2, (same_new fr) _ _ hl2, ⟨hs0.at_, hs0.ok, hs0.nd, fun x hx => (nomatch hx), Nat.zero_le _⟩⟩
    · rintro σ H' ⟨k7, e8, r, rs, rfl, b, pn, hq1, hq2, rw1⟩
      refine ⟨_, rfl, 3, rfl, by decide, by decide, ?_⟩
      refine for_range (n := 3) (fun i σ H' => ∃ (k7 e8 s9 : Option V) (r : Addr) (rs : List Rd), σ = [some (.ref a), some (.int n), some (.int 3), some (.int 9), some (.ref q1), some (.ref q2), some (.ref r), k7, e8, s9] ∧ But a H H' ∧ PenAt H' a l (B + 100 * (3 - i)) ∧ H' q1 = some (.lst (names.map V.str)) ∧ H' q2 = some (.lst (calls.map V.str)) ∧ Rw H' r rs names calls (n + i)) ?_ ?_ ?_
      · exact ⟨k7, e8, none, r, rs, rfl, b, pn.less (by omega), hq1, hq2, rw1⟩
      · rintro i σ H' hi ⟨k7, e8, s9, r, rs, rfl, b, pn, hq1, hq2, rw1⟩
        have z0 : (0 : Int) + (i : Int) = (i : Int) := by omega
        rw [z0]
        obtain ⟨ck, hck⟩ := at_of_lt (xs := calls) (i := n + i) (by omega)
        have nl : 0 < (names.map V.str).length := by rw [List.length_map]; omega
        have nl2 : (names.map V.str).length < 1073741824 := by rw [List.length_map]; omega
        refine ⟨_, rfl, _, rfl, a, l, .ref q1, names.map V.str, B + 100 * (3 - i) - 1, rfl, by rw [show B + 100 * (3 - i) - 1 + 1 = B + 100 * (3 - i) by omega]; exact pn, ⟨q1, rfl, .inr hq1⟩, nl, nl2, fun H3 j1 x1 b3 p3 hx1 => ?_⟩
        obtain ⟨st, hst, rfl⟩ := map_at hx1
        have hq1a := b3.lst pn hq1
        refine ⟨_, rfl, _, rfl, a, l, .ref q1, names.map V.str, B + 100 * (3 - i) - 2, rfl, by rw [show B + 100 * (3 - i) - 2 + 1 = B + 100 * (3 - i) - 1 by omega]; exact p3, ⟨q1, rfl, .inr hq1a⟩, nl, nl2, fun H4 j2 x2 b4 p4 hx2 => ?_⟩
        obtain ⟨fn, hfn, rfl⟩ := map_at hx2
        have hq1b := b4.lst p3 hq1a
        have hq2b := b4.lst p3 (b3.lst pn hq2)
        obtain ⟨xs, hxs, hpx⟩ := rw1.at_
        have hxs4 := b4.lst p3 (b3.lst pn hxs)
        have hin : (n : Int) + (i : Int) = ((n + i : Nat) : Int) := rfl
        refine ⟨_, _, rfl, _, rfl, _, rfl, _, rfl, _, rfl, _, _, rfl, rfl, str_ix (i := n + i) hq2b hck ⟨_, rfl, _, rfl, _, rfl, _, rfl, rfl, ?_⟩⟩
        refine ⟨a, l, _, B + 100 * (3 - i) - 6, rfl, by rw [show B + 100 * (3 - i) - 6 + 4 = B + 100 * (3 - i) - 2 by omega]; exact p4, fun H5 sh x y b5 p5 cs x2' y2' => ?_⟩
        refine ⟨_, rfl, _, rfl, a, l, 9, B + 100 * (3 - i) - 7, rfl, by rw [show B + 100 * (3 - i) - 7 + 1 = B + 100 * (3 - i) - 6 by omega]; exact p5, by decide, by decide, fun H6 v b6 p6 v0 v1 => ⟨_, _, rfl, rfl, (by show 6 ≤ sizeLine; decide), fun t nt => ⟨by show 1 ≤ sizeLine; decide, fun w nw => ?_⟩⟩⟩
        have hx6 : H6 r = some (.lst xs) := b6.lst p5 (b5.lst p4 hxs4)
        have e1 := ne_of_none hx6 nt
        have e2 := ne_of_none ((upd_ne e1).trans hx6) nw
        have hlen : xs.length ≤ n + i := by
          rw [paired_len hpx]
          exact rw1.len
        have t6 := (((Tup.but b3 pn).trans (Tup.but b4 p3)).trans (Tup.but b5 p4)).trans (Tup.but b6 p5)
        refine ⟨r, w, xs, [.ref t], rfl, rfl, by rw [upd_ne e2, upd_ne e1]; exact hx6, upd_same, (by have : sizeLine = 16777216 := rfl; simp only [List.length_cons, List.length_nil]; omega), fun z nz => ?_⟩
        obtain ⟨r7, s7⟩ := row_made (x := ⟨ck, st, fn, x, y, 1 + v, none⟩) rw1 row2 hck ⟨row2.nm _ (mem_at hck), mem_at hst, mem_at hfn, by show x.natAbs ≤ 9; omega, by show y.natAbs ≤ 9; omega, by show 1 ≤ 1 + v; omega, by show 1 + v ≤ 99; omega, fun q hq => nomatch hq⟩ (rows_tup hpx t6) (cs.tup (Tup.but b6 p5)) nt nw nz
        exact ⟨_, _, _, z, _, rfl, ((((b.trans b3).trans b4).trans b5).trans b6).trans (But.of s7), (p6.mono s7).less (by omega), s7 _ _ (b6.lst p5 (b5.lst p4 hq1b)), s7 _ _ (b6.lst p5 (b5.lst p4 hq2b)), r7⟩
      · rintro σ H' ⟨k7, e8, s9, r, rs, rfl, b, pn, hq1, hq2, rw1⟩
        intro d nd
        obtain ⟨xs, hxs, hpx⟩ := rw1.at_
        refine ⟨_, rfl, _, rfl, upd_same, landKv q1 r, rfl, (by show 2 ≤ 15; decide), ?_⟩
        refine k _ _ ⟨names, rs⟩ ?_ ?_ ⟨d, q1, r, xs, rfl, upd_same, ?_, ?_, ?_⟩ ⟨?_, ?_, row1.nm, row1.nd, rw1.ok, rw1.nd, ?_⟩
        · rw [upd_upd]
          exact b.new nd
        · rw [upd_upd]
          exact (pn.mono (same_new nd)).less (by omega)
        · rw [upd_upd]
          exact (same_new nd) _ _ hq1
        · rw [upd_upd]
          exact (same_new nd) _ _ hxs
        · rw [upd_upd]
          exact rows_tup hpx (Tup.of (same_new nd))
        · intro z
          have z : names = [] := z
          rw [z] at len1
          simp at len1
          omega
        · show names.length ≤ 3
          omega
        · show rs.length ≤ 6
          have := rw1.len
          omega
end
end J
set_option Elab.async false
set_option linter.all false
set_option maxRecDepth 100000
set_option maxHeartbeats 4000000
set_option exponentiation.threshold 3000
namespace J
open PySem PySem.Spec PyProof.Rows L2 TL

/-! J10: any name. -/
theorem nodup_le {α : Type} : ∀ {xs ys : List α}, xs.Nodup → (∀ x ∈ xs, x ∈ ys) → xs.length ≤ ys.length
  | [], _, _, _ => Nat.zero_le _
  | x :: xs, ys, h, s => by
    obtain ⟨a, b, e⟩ := List.append_of_mem (s x (List.mem_cons_self ..))
    have h1 := List.nodup_cons.mp h
    have := nodup_le (ys := a ++ b) h1.2 fun y hy => by
      have := s y (List.mem_cons_of_mem _ hy)
      rw [e] at this
      rcases List.mem_append.mp this with q | q
      · exact List.mem_append_left _ q
      · rcases List.mem_cons.mp q with z | z
        · exact absurd (z ▸ hy) h1.1
        · exact List.mem_append_right _ z
    rw [e, List.length_append, List.length_cons]
    rw [List.length_append] at this
    simp only [List.length_cons]
    omega
theorem inV_str {x : Str} {ys : List Str} : inV (.str x) (ys.map V.str) = decide (x ∈ ys) := by
  unfold inV
  rw [List.any_map]
  by_cases h : x ∈ ys
  · rw [decide_eq_true h, List.any_eq_true]
    exact ⟨x, h, by show (x == x) = true; simp⟩
  · rw [decide_eq_false h]
    rw [List.any_eq_false]
    intro y hy z
    have z : (y == x) = true := z
    have z : y = x := by simpa using z
    exact h (z ▸ hy)
theorem flat_strs {ys : List Str} : (ys.map V.str).all flatV = true := by
  rw [List.all_map, List.all_eq_true]
  intro x _
  rfl
theorem NameL.stay {x : Str} (h : NameL (tl x)) : tl (Txt.rstripChars x ".") = tl x := by
  rw [tl_rstrip]
  have hcon : ∀ d : Nat, (("." : Str).cps.contains d) = decide (d = 46) := fun d => by
    have : ("." : Str).cps = #[46] := by decide +kernel
    rw [this]
    simp [Array.contains_iff]
  have ht : ((tl x).reverse.takeWhile ("." : Str).cps.contains).length = 0 := by
    cases hr : (tl x).reverse with
    | nil => rfl
    | cons a b =>
      have : a ≠ 46 := fun z => by
        apply h.la
        rw [← List.head?_reverse, hr, z]
        rfl
      rw [List.takeWhile_cons, hcon, decide_eq_false this]
      rfl
  rw [ht, Nat.sub_zero, List.take_of_length_le (Nat.le_refl _)]
theorem rstrip_le (x y : Str) : (tl (Txt.rstripChars x y)).length ≤ (tl x).length := by
  rw [tl_rstrip, List.length_take]
  omega
/-- the next name to try -/
def nextName (x : Str) (i : Nat) : Str := Txt.rstripChars (cutS x none (some 36)) "." ++ Str.ofString (toString ((i : Nat) : Int))
structure Try (n0 : Str) (taken : List Str) (i : Nat) (x : Str) (seen : List Str) : Prop where
  ok : NameOk x
  sl : seen.length = i
  st : ∀ y ∈ seen, y ∈ taken
  nd : seen.Nodup
  z : i = 0 → x = n0
  p : 0 < i → (tl x).getLast? = some (48 + (i - 1)) ∧ ((n0.length ≤ 5 ∧ n0.length < x.length ∧ x.length ≤ n0.length + i) ∨ (39 ≤ n0.length ∧ x.length ≤ 37))
  sn : ∀ y ∈ seen, y = n0 ∨ ∃ j, j + 1 < i ∧ (tl y).getLast? = some (48 + j)
theorem Try.new {n0 x : Str} {taken seen : List Str} {i : Nat} (h : Try n0 taken i x seen) : x ∉ seen := fun m => by
  by_cases hi : i = 0
  · have := h.sl
    rw [hi] at this
    rw [List.length_eq_zero_iff.mp this] at m
    cases m
  · obtain ⟨h1, h2⟩ := h.p (by omega)
    rcases h.sn x m with e | ⟨j, hj, e⟩
    · rw [e] at h2
      omega
    · rw [h1] at e
      injection e with e
      omega
theorem Try.next {n0 x : Str} {taken seen : List Str} {i : Nat} (h : Try n0 taken i x seen) (hn : n0.length ≤ 5 ∨ 39 ≤ n0.length) (hi : i < 9) (hx : x ∈ taken) : Try n0 taken (i + 1) (nextName x i) (seen ++ [x]) := by
  have hc : tl (cutS x none (some 36)) = (tl x).take 36 := tl_cut_to x 36
  have hN : NmL (tl (cutS x none (some 36))) := by
    rw [hc]
    exact h.ok.1.toNmL.take (by decide)
  have hb := hN.rstrip
  have e1 : tl (nextName x i) = tl (Txt.rstripChars (cutS x none (some 36)) ".") ++ [48 + i] := by
    unfold nextName
    rw [tl_append, tl_nat, numL_lt (by omega)]
  have hl := rstrip_le (cutS x none (some 36)) "."
  rw [hc, List.length_take] at hl
  have hlen : (nextName x i).length = (tl (Txt.rstripChars (cutS x none (some 36)) ".")).length + 1 := by
    rw [len_tl, e1, List.length_append]
    rfl
  refine ⟨⟨?_, by rw [hlen]; omega⟩, by rw [List.length_append, h.sl]; rfl, ?_, nodup_snoc h.nd h.new, fun z => absurd z (by omega), fun _ => ⟨?_, ?_⟩, ?_⟩
  · show NameL (tl _)
    rw [e1]
    exact NameL.dig hb.toNmL (by omega)
  · intro y hy
    rcases List.mem_append.mp hy with q | q
    · exact h.st y q
    · rw [List.mem_singleton.mp q]
      exact hx
  · rw [e1, List.getLast?_concat]
    rfl
  · rcases hn with hn | hn
    · refine .inl ⟨hn, ?_⟩
      have hxl : x.length ≤ n0.length + i ∧ n0.length ≤ x.length := by
        by_cases h0 : i = 0
        · rw [h.z h0]
          omega
        · have := (h.p (by omega)).2
          omega
      have hx36 : (tl x).take 36 = tl x := List.take_of_length_le (by rw [← len_tl]; omega)
      have e2 : cutS x none (some 36) = x := ext_tl (hc.trans hx36)
      rw [hlen, e2, NameL.stay h.ok.1, ← len_tl]
      omega
    · exact .inr ⟨hn, by rw [hlen]; omega⟩
  · intro y hy
    rcases List.mem_append.mp hy with q | q
    · rcases h.sn y q with e | ⟨j, hj, e⟩
      · exact .inl e
      · exact .inr ⟨j, by omega, e⟩
    · rw [List.mem_singleton.mp q]
      by_cases h0 : i = 0
      · exact .inl (h.z h0)
      · exact .inr ⟨i - 1, by omega, (h.p (by omega)).1⟩
theorem Try.full {n0 x : Str} {taken seen : List Str} (h : Try n0 taken (taken.length + 1) x seen) : False := by
  have := nodup_le h.nd h.st
  rw [h.sl] at this
  omega
theorem letters_at {i : Nat} (h : i < 26) : ∃ c, atI ("abcdefghijklmnopqrstuvwxyz" : Str).cps.toList (i : Int) = some c ∧ Let c := by
  have hl : ("abcdefghijklmnopqrstuvwxyz" : Str).cps.toList = (List.range 26).map (97 + ·) := by decide +kernel
  have : (("abcdefghijklmnopqrstuvwxyz" : Str).cps.toList)[i]? = some (97 + i) := by
    rw [hl, List.getElem?_map, List.getElem?_range h]
    rfl
  exact ⟨97 + i, atI_nat this, by unfold Let; omega⟩
theorem signs_tl : tl (("abcdefghijklmnopqrstuvwxyz" ++ "0123456789") ++ "..." : Str) = (List.range 26).map (97 + ·) ++ (List.range 10).map (48 + ·) ++ [46, 46, 46] := by decide +kernel
theorem signs_at {i : Nat} (h : i < 39) : ∃ c, atI (("abcdefghijklmnopqrstuvwxyz" ++ "0123456789") ++ "..." : Str).cps.toList (i : Int) = some c ∧ Sig c := by
  have hl : (tl (("abcdefghijklmnopqrstuvwxyz" ++ "0123456789") ++ "..." : Str)).length = 39 := by rw [signs_tl]; rfl
  obtain ⟨c, hc⟩ := at_of_lt (xs := tl (("abcdefghijklmnopqrstuvwxyz" ++ "0123456789") ++ "..." : Str)) (i := i) (by omega)
  refine ⟨c, atI_nat hc, ?_⟩
  have hm := mem_at hc
  rw [signs_tl] at hm
  rcases List.mem_append.mp hm with q | q
  · rcases List.mem_append.mp q with q | q
    · obtain ⟨j, hj, rfl⟩ := List.mem_map.mp q
      have := List.mem_range.mp hj
      exact .inl (by omega)
    · obtain ⟨j, hj, rfl⟩ := List.mem_map.mp q
      have := List.mem_range.mp hj
      exact .inr (.inl (by omega))
  · refine .inr (.inr ?_)
    simpa using q
theorem dot_eq {c : Nat} : decide (V.str ⟨#[c]⟩ = V.str ".") = decide (c = 46) := by
  apply decide_eq_decide.mpr
  have e : ("." : Str) = ⟨#[46]⟩ := by decide +kernel
  rw [e]
  constructor
  · intro h
    injection h with h
    injection h with h
    injection h with h
    injection h
  · rintro rfl
    rfl
theorem last_dot {x : Str} : decide (V.str (cutS x (some (-1)) none) = V.str ".") = decide ((tl x).getLast? = some 46) := by
  apply decide_eq_decide.mpr
  have e : tl ("." : Str) = [46] := by decide +kernel
  constructor
  · intro h
    injection h with h
    have h := congrArg tl h
    rw [tl_cut_last, e] at h
    rw [List.getLast?_eq_getElem?]
    have h2 : ((tl x).drop ((tl x).length - 1))[0]? = some 46 := by rw [h]; rfl
    rw [List.getElem?_drop] at h2
    exact h2
  · intro h
    obtain ⟨p, hp⟩ := List.getLast?_eq_some_iff.mp h
    refine congrArg V.str (ext_tl ?_)
    rw [tl_cut_last, e, hp, List.length_append]
    show (p ++ [46]).drop (p.length + 1 - 1) = [46]
    rw [Nat.add_sub_cancel, List.drop_left]
theorem atI_last {l : List Nat} (h : l ≠ []) : ∃ c, atI l (-1) = some c ∧ l.getLast? = some c := by
  have hl : 0 < l.length := List.length_pos_iff.mpr h
  obtain ⟨c, hc⟩ := at_of_lt (xs := l) (i := l.length - 1) (by omega)
  refine ⟨c, ?_, by rw [List.getLast?_eq_getElem?]; exact hc⟩
  have e : ixN l.length (-1) = some (l.length - 1) := by
    unfold ixN
    rw [if_neg (by decide), if_pos (by omega)]
    congr 1
    omega
  unfold atI
  rw [e]
  exact hc
theorem pick_len {i : Nat} {x : V} (h : ([.int 1, .int 1, .int 2, .int 2, .int 3, .int 5, .int 39, .int 40] : List V)[i]? = some x) : ∃ n : Nat, x = .int n ∧ 1 ≤ n ∧ n ≤ 40 ∧ (n ≤ 5 ∨ 39 ≤ n) := by
  match i, h with
  | 0, h => injection h with h; exact ⟨1, h.symm, by omega⟩
  | 1, h => injection h with h; exact ⟨1, h.symm, by omega⟩
  | 2, h => injection h with h; exact ⟨2, h.symm, by omega⟩
  | 3, h => injection h with h; exact ⟨2, h.symm, by omega⟩
  | 4, h => injection h with h; exact ⟨3, h.symm, by omega⟩
  | 5, h => injection h with h; exact ⟨5, h.symm, by omega⟩
  | 6, h => injection h with h; exact ⟨39, h.symm, by omega⟩
  | 7, h => injection h with h; exact ⟨40, h.symm, by omega⟩
  | i + 8, h => simp at h
theorem short_le {x : Str} (h : x.length ≤ 100000) : x.length ≤ sizeLine := Nat.le_trans h (by decide)
section
variable {P : Program} {w : World} {K : PySem.W.Frag} {mg : Str → Option Value} {base : Heap}
def sp__law_any_name : Sp := fun vs H Q _ => ∃ (a l tk : Addr) (taken : List Str) (B : Nat), vs = [.ref a, .ref tk, .bl true] ∧ PenAt H a l (B + 50) ∧ H tk = some (.lst (taken.map V.str)) ∧ taken.length ≤ 6 ∧
  ∀ (H' : Hp) (x : Str), But a H H' → PenAt H' a l B → NameOk x → x ∉ taken → Q (.str x) H'
abbrev N__law_any_name : List Str := ["_law_pen_here", "_law_taken", "_law_dots", "_law_signs", "_law_k", "_law_letters", "_law_name", "_law_sign"]
theorem sc__law_any_name : FnScope N__law_any_name ["_law_pen_here", "_law_taken", "_law_dots"] (defScope s__law_any_name) := ⟨rfl, rfl, rfl, by decide +kernel, rfl, by decide +kernel, by decide +kernel⟩
theorem ok__law_any_name (T : Tx K mg) : Cl P w K mg base CX0 3 "_law_any_name" sp__law_any_name [] := by
  obtain ⟨fd, F⟩ := T.d__law_any_name
  refine cl_of (ps := ["_law_pen_here", "_law_taken", "_law_dots"]) F T.g__law_any_name (FunD.cl0 F sc__law_any_name (fun vs H Q E h => ?_) (fun cdv A outer s H vs Q E hr h => ?_)) fun _ _ _ _ _ _ us hl => match us, hl with | [_, _, _], _ => rfl
  · obtain ⟨a, l, tk, taken, B, rfl, _⟩ := h
    rfl
  · obtain ⟨a, l, tk, taken, B, rfl, hp, ht, t6, k⟩ := h
    refine ⟨_, (pss_cons (ps_asg (pe_tup (pa_cons pe_str (pa_cons pe_str pa_nil))) (pg_tup rfl (pgs_cons (gn 5 sc__law_any_name.nd) (pgs_cons (gn 6 sc__law_any_name.nd) pgs_nil))))
      (pss_cons (st 3 sc__law_any_name.nd (pe_op op_add_str (pe_op op_add_str (pv 5) pe_str) (pe_ifExp (pt_val (pv 2)) pe_str pe_str)))
      (pss_mid (ps_for (PassesOwn.never) rfl (pi_range1 rfl T.f_range (pa_cons (pe_cl (ok__law_pick T) hr pass0 (pa_cons (pv 0) (pa_cons (pe_lst (pa_cons pe_int (pa_cons pe_int (pa_cons pe_int (pa_cons pe_int (pa_cons pe_int (pa_cons pe_int (pa_cons pe_int (pa_cons pe_int pa_nil))))))))) pa_nil))) pa_nil)) (gn 4 sc__law_any_name.nd) (pss_mid (st 7 sc__law_any_name.nd (pe_ifExp (pt_cmpR op_gt (pv 4) pe_int (nomark _)) (pe_ix ix_str (pv 3) (pe_cl (ok__law_draw T) hr pass0 (pa_cons (pv 0) (pa_cons (pe_lenT T (pv 3)) pa_nil))) (fun _ _ => rfl)) (pe_ix ix_str (pv 5) (pe_cl (ok__law_draw T) hr pass0 (pa_cons (pv 0) (pa_cons pe_int pa_nil))) (fun _ _ => rfl)))) (pss_one (st 6 sc__law_any_name.nd (pe_op op_add_str (pv 6) (pe_ifExp (pw_and (pt_cmpR op_eq (pv 7) pe_str (nomark _)) (pw_and1 (pt_cmpR op_eq (pe_slice sl_str (pv 6) (po_some (pe_un un_neg pe_int)) po_none) pe_str (nomark _)))).pt pe_str (pv 7)))))))
      (pss_mid (ps_if (pt_cmpR op_eq (pe_ix ix_str (pv 6) (pe_un un_neg pe_int) (fun _ _ => rfl)) pe_str (nomark _)) (pss_one (st 6 sc__law_any_name.nd (pe_op op_add_str (pe_slice sl_str (pv 6) po_none (po_some (pe_un un_neg pe_int))) pe_str))) pss_nil)
      (pss_cons (ps_for (PassesOwn.never) rfl (pi_range1 rfl T.f_range (pa_cons (pe_op op_add (pe_lenS T (pv 1)) pe_int) pa_nil)) (gn 4 sc__law_any_name.nd) (pss_cons (ps_if (pt_cmpR op_notIn_seq (pv 6) (pv 1) rfl) (pss_one (ps_break)) pss_nil) (pss_one (st 6 sc__law_any_name.nd (pe_op op_add_str (pe_bm PySem.F.plainAttrs_str PySem.F.slot_str_rstrip PySem.F.type_str_rstrip mt_rstripChars (pe_slice sl_str (pv 6) po_none (po_some pe_int)) (pa_cons pe_str pa_nil)) (pe_strI T (pv 4)))))))
      (pss_one (ps_ret (pv 6)))))))), ?_⟩
    have sl26 : ("abcdefghijklmnopqrstuvwxyz" : Str).length = 26 := by decide +kernel
    have sl39 : (("abcdefghijklmnopqrstuvwxyz" ++ "0123456789") ++ "..." : Str).length = 39 := by decide +kernel
    refine ⟨by show 2 ≤ sizeLine; decide, fun p np => ⟨p, _, rfl, SqT.of upd_same, rfl, _, _, rfl, _, _, rfl, rfl, ?_⟩⟩
    refine ⟨_, rfl, _, _, rfl, rfl, by decide +kernel, _, rfl, true, rfl, iteT ⟨_, _, rfl, rfl, by decide +kernel, ?_⟩⟩
    have b1 := (But.refl H (a := a)).new (o := .tup [.str "abcdefghijklmnopqrstuvwxyz", .str ""]) np
    have p1 := hp.mono (same_new (o := .tup [.str "abcdefghijklmnopqrstuvwxyz", .str ""]) np)
    have t1 : upd H p (.tup [.str "abcdefghijklmnopqrstuvwxyz", .str ""]) tk = some (.lst (taken.map V.str)) := (same_new np) _ _ ht
    revert b1 p1 t1
    generalize upd H p (.tup [.str "abcdefghijklmnopqrstuvwxyz", .str ""]) = H1
    intro b1 p1 t1
    generalize hS : (("abcdefghijklmnopqrstuvwxyz" ++ "0123456789") ++ "..." : Str) = S at sl39
    have hat : ∀ {i : Nat}, i < 39 → ∃ c, atI S.cps.toList (i : Int) = some c ∧ Sig c := fun h => by
      rw [← hS]
      exact signs_at h
    generalize hL : ("abcdefghijklmnopqrstuvwxyz" : Str) = L at sl26
    have hatL : ∀ {i : Nat}, i < 26 → ∃ c, atI L.cps.toList (i : Int) = some c ∧ Let c := fun h => by
      rw [← hL]
      exact letters_at h
    refine ⟨fun σ H' => ∃ (k4 s7 : Option V) (x : Str), σ = [some (.ref a), some (.ref tk), some (.bl true), some (.str S), k4, some (.str L), some (.str x), s7] ∧ But a H H' ∧ PenAt H' a l (B + 8) ∧ H' tk = some (.lst (taken.map V.str)) ∧ NmL (tl x) ∧ x.length ≤ 40 ∧ (x.length ≤ 5 ∨ 39 ≤ x.length), ?_, ?_⟩
    · refine ⟨_, rfl, by show 8 ≤ sizeLine; decide, fun p2 n2 => ⟨a, l, .ref p2, _, B + 49, rfl, p1.mono (same_new n2), ⟨p2, rfl, .inr upd_same⟩, by show 0 < 8; decide, by show 8 < 1073741824; decide, fun H2 i0 x0 b2 p2' hx0 => ?_⟩⟩
      obtain ⟨n, rfl, n1, n40, n5⟩ := pick_len hx0
      have t2 : H2 tk = some (.lst (taken.map V.str)) := b2.lst (p1.mono (same_new n2)) ((same_new n2) _ _ t1)
      have b2' := (b1.new (o := .lst [.int 1, .int 1, .int 2, .int 2, .int 3, .int 5, .int 39, .int 40]) n2).trans b2
      refine ⟨n, rfl, by omega, by omega, ?_⟩
      refine for_range (fun i σ H' => ∃ (k4 s7 : Option V) (x : Str), σ = [some (.ref a), some (.ref tk), some (.bl true), some (.str S), k4, some (.str L), some (.str x), s7] ∧ But a H H' ∧ PenAt H' a l (B + 8 + (40 - i)) ∧ H' tk = some (.lst (taken.map V.str)) ∧ x.length = i ∧ (i = 0 ∨ NmL (tl x))) ?_ ?_ ?_
      · exact ⟨none, none, "", rfl, b2', p2'.less (by omega), t2, rfl, .inl rfl⟩
      · rintro i σ H' hi ⟨k4, s7, x, rfl, b, pn, tt, xl, xn⟩
        have hi : i < n := by simpa using hi
        have z0 : (0 : Int) + (i : Int) = (i : Int) := by omega
        rw [z0]
        refine ⟨fun σ H'' => ∃ c : Nat, σ = [some (.ref a), some (.ref tk), some (.bl true), some (.str S), some (.int i), some (.str L), some (.str x), some (.str ⟨#[c]⟩)] ∧ But a H H'' ∧ PenAt H'' a l (B + 8 + (40 - i) - 1) ∧ H'' tk = some (.lst (taken.map V.str)) ∧ Sig c ∧ (i = 0 → Let c), ?_, ?_⟩
        · refine ⟨_, rfl, _, _, rfl, rfl, _, rfl, ?_⟩
          refine ite2 (fun h => ?_) (fun h => ?_)
          · have h : 0 < i := by simpa using h
            refine ⟨_, rfl, _, rfl, _, rfl, _, rfl, short_le (by omega), a, l, _, B + 8 + (40 - i) - 1, rfl, by rw [show B + 8 + (40 - i) - 1 + 1 = B + 8 + (40 - i) by omega]; exact pn, by omega, by omega, fun H4 v b4 p4 v0 v1 => ?_⟩
            obtain ⟨q, rfl⟩ : ∃ q : Nat, v = (q : Int) := ⟨v.toNat, by omega⟩
            obtain ⟨c, hc, hs⟩ := hat (i := q) (by omega)
            exact ⟨S, q, c, rfl, rfl, short_le (by omega), hc, c, rfl, b.trans b4, p4, b4.lst pn tt, hs, fun z => by omega⟩
          · have h : i = 0 := by
              have : ¬ 0 < i := by simpa using h
              omega
            refine ⟨_, rfl, _, rfl, a, l, 26, B + 8 + (40 - i) - 1, rfl, by rw [show B + 8 + (40 - i) - 1 + 1 = B + 8 + (40 - i) by omega]; exact pn, by decide, by decide, fun H4 v b4 p4 v0 v1 => ?_⟩
            obtain ⟨q, rfl⟩ : ∃ q : Nat, v = (q : Int) := ⟨v.toNat, by omega⟩
            obtain ⟨c, hc, hs⟩ := hatL (i := q) (by omega)
            exact ⟨L, q, c, rfl, rfl, short_le (by omega), hc, c, rfl, b.trans b4, p4, b4.lst pn tt, .inl hs, fun _ => hs⟩
        · rintro σ H'' ⟨c, rfl, b', pn', tt', hs, hl0⟩
          have fin : ∀ d : Nat, Sig d → (i = 0 → Let d) → (d = 46 → (tl x).getLast? ≠ some 46) → (x.length + (⟨#[d]⟩ : Str).length ≤ sizeLine ∧ ∃ (k4 s7 : Option V) (y : Str), [some (.ref a), some (.ref tk), some (.bl true), some (.str S), some (.int i), some (.str L), some (V.str (x ++ ⟨#[d]⟩)), some (.str ⟨#[c]⟩)] = [some (.ref a), some (.ref tk), some (.bl true), some (.str S), k4, some (.str L), some (V.str y), s7] ∧ But a H H'' ∧ PenAt H'' a l (B + 8 + (40 - (i + 1))) ∧ H'' tk = some (.lst (taken.map V.str)) ∧ y.length = i + 1 ∧ (i + 1 = 0 ∨ NmL (tl y))) := by
            intro d hd h0 h46
            have e1 : (⟨#[d]⟩ : Str).length = 1 := rfl
            refine ⟨by rw [e1, xl]; have : sizeLine = 16777216 := rfl; omega, _, _, x ++ ⟨#[d]⟩, rfl, b', pn'.less (by omega), tt', by rw [len_append, xl]; rfl, .inr ?_⟩
            rw [tl_append, tl_one]
            rcases xn with z | z
            · have : tl x = [] := List.length_eq_zero_iff.mp (by rw [← len_tl, xl, z])
              rw [this]
              exact NmL.one (h0 z)
            · exact z.snoc hd h46
          refine ⟨_, rfl, _, rfl, rfl, _, rfl, ?_⟩
          rw [dot_eq]
          refine ite2 (fun h => ?_) (fun h => ?_)
          · have hc : c = 46 := by simpa using h
            refine ⟨_, rfl, 1, rfl, -1, rfl, x, rfl, short_le (by omega), rfl, _, rfl, ?_⟩
            rw [last_dot]
            refine ite2 (fun h2 => ?_) (fun h2 => ?_)
            · have e : ("x" : Str) = ⟨#[120]⟩ := by decide +kernel
              rw [e]
              obtain ⟨f1, f2⟩ := fin 120 (.inl (by decide)) (fun _ => by unfold Let; omega) (fun z => by omega)
              exact ⟨_, _, rfl, rfl, f1, f2⟩
            · have h2 : (tl x).getLast? ≠ some 46 := by simpa using h2
              obtain ⟨f1, f2⟩ := fin c hs hl0 (fun _ => h2)
              exact ⟨_, rfl, _, _, rfl, rfl, f1, f2⟩
          · have hc : c ≠ 46 := by simpa using h
            obtain ⟨f1, f2⟩ := fin c hs hl0 (fun z => absurd z hc)
            exact iteF ⟨_, rfl, _, _, rfl, rfl, f1, f2⟩
      · rintro σ H' ⟨k4, s7, x, rfl, b, pn, tt, xl, xn⟩
        have xl : x.length = n := by simpa using xl
        refine ⟨k4, s7, x, rfl, b, pn.less (by omega), tt, ?_, by omega, by omega⟩
        rcases xn with z | z
        · exfalso
          have z : n = 0 := by simpa using z
          omega
        · exact z
    · rintro σ H' ⟨k4, s7, x, rfl, b, pn, tt, xn, x40, x5⟩
      refine ⟨fun σ H' => ∃ (k4 s7 : Option V) (x : Str), σ = [some (.ref a), some (.ref tk), some (.bl true), some (.str S), k4, some (.str L), some (.str x), s7] ∧ But a H H' ∧ PenAt H' a l (B + 8) ∧ H' tk = some (.lst (taken.map V.str)) ∧ NameOk x ∧ (x.length ≤ 5 ∨ 39 ≤ x.length), ?_, ?_⟩
      · obtain ⟨c, hc, hlast⟩ := atI_last xn.ne
        refine ⟨_, rfl, 1, rfl, x, -1, c, rfl, rfl, short_le (by omega), hc, rfl, _, rfl, ?_⟩
        rw [dot_eq]
        refine ite2 (fun h => ?_) (fun h => ?_)
        · have h : c = 46 := by simpa using h
          subst h
          obtain ⟨q, hq⟩ := List.getLast?_eq_some_iff.mp hlast
          have hlen : (tl x).length = q.length + 1 := by rw [hq, List.length_append]; rfl
          have hq0 : q ≠ [] := fun z => by
            obtain ⟨d, r, e, hd⟩ := xn.hd
            rw [hq, z] at e
            cases e
            unfold Let at hd
            omega
          have e1 : tl (cutS x none (some (-1))) = q := by
            rw [tl_cut_init, hq, List.length_append]
            show (q ++ [46]).take (q.length + 1 - 1) = q
            rw [Nat.add_sub_cancel, List.take_left]
          have hN : NmL q := by
            have := xn.take (k := q.length) (List.length_pos_iff.mpr hq0)
            rw [hq, List.take_left] at this
            exact this
          have e0 : tl ("0" : Str) = [48] := by decide +kernel
          have e2 : tl (cutS x none (some (-1)) ++ "0") = q ++ [48] := by rw [tl_append, e1, e0]
          have e3 : (cutS x none (some (-1)) ++ "0" : Str).length = x.length := by rw [len_tl, e2, len_tl, hlen, List.length_append]; rfl
          refine ⟨_, rfl, 1, rfl, -1, rfl, x, rfl, short_le (by omega), _, _, rfl, rfl, by rw [← len_append, e3]; exact short_le (by omega), k4, s7, _, rfl, b, pn, tt, ⟨?_, by rw [e3]; exact x40⟩, by rw [e3]; exact x5⟩
          show NameL (tl _)
          rw [e2]
          exact NameL.dig hN (by omega)
        · have h : c ≠ 46 := by simpa using h
          refine ⟨k4, s7, x, rfl, b, pn, tt, ⟨{ xn with la := ?_ }, x40⟩, x5⟩
          rw [hlast]
          intro z
          injection z with z
          exact h z
      · rintro σ H' ⟨k4, s7, n0, rfl, b, pn, tt, xn, x5⟩
        refine ⟨_, rfl, tk, _, rfl, .inl (SqL.of tt), _, _, rfl, rfl, _, rfl, by rw [List.length_map]; omega, by rw [List.length_map]; omega, ?_⟩
        refine for_range (fun i σ H'' => H'' = H' ∧ ∃ (k4 : Option V) (x : Str) (seen : List Str), σ = [some (.ref a), some (.ref tk), some (.bl true), some (.str S), k4, some (.str L), some (.str x), s7] ∧ Try n0 taken i x seen) ?_ ?_ ?_
        · exact ⟨rfl, k4, n0, [], rfl, xn, rfl, fun y hy => (nomatch hy), List.nodup_nil, fun _ => rfl, fun z => absurd z (by omega), fun y hy => (nomatch hy)⟩
        · rintro i σ H'' hi ⟨rfl, k4', x, seen, rfl, tr⟩
          have hi : i < taken.length + 1 := by
            rw [List.length_map] at hi
            omega
          have z0 : (0 : Int) + (i : Int) = (i : Int) := by omega
          rw [z0]
          refine ⟨_, rfl, _, rfl, tk, _, rfl, .inl (SqL.of tt), rfl, flat_strs, _, rfl, ?_⟩
          refine ite2 (fun h => ?_) (fun h => ?_)
          · have h : x ∉ taken := by simpa [inV_str] using h
            exact ⟨_, rfl, k _ _ b (pn.less (by omega)) tr.ok h⟩
          · have h : x ∈ taken := by simpa [inV_str] using h
            have nx := tr.next x5 (by omega) h
            have hl : (Txt.rstripChars (cutS x none (some 36)) ".").length + (Str.ofString (toString ((i : Nat) : Int))).length ≤ sizeLine := by
              rw [← len_append]
              exact short_le (Nat.le_trans nx.ok.2 (by decide))
            refine ⟨_, rfl, 36, rfl, x, rfl, short_le (Nat.le_trans tr.ok.2 (by decide)), rfl, _, _, rfl, rfl, ?_, _, rfl, _, rfl, log_sm (by omega), _, _, rfl, rfl, hl, rfl, _, _, _, rfl, nx⟩
            exact short_le (Nat.le_trans (cutS_length _ _ _) (Nat.le_trans tr.ok.2 (by decide)))
        · rintro σ H'' ⟨rfl, k4', x, seen, rfl, tr⟩
          have e : (((taken.map V.str).length : Int) + 1).toNat = taken.length + 1 := by rw [List.length_map]; omega
          rw [e] at tr
          exact tr.full.elim
end
end J
set_option Elab.async false
set_option linter.all false
set_option maxRecDepth 100000
set_option maxHeartbeats 4000000
set_option exponentiation.threshold 3000
namespace J
open PySem PySem.Spec PyProof.Rows L2 TL

/-! J11: any land. -/
theorem one_of4 {i : Nat} {x : V} {p q r s : V} (h : [p, q, r, s][i]? = some x) : x = p ∨ x = q ∨ x = r ∨ x = s := by
  match i, h with
  | 0, h => injection h with h; exact .inl h.symm
  | 1, h => injection h with h; exact .inr (.inl h.symm)
  | 2, h => injection h with h; exact .inr (.inr (.inl h.symm))
  | 3, h => injection h with h; exact .inr (.inr (.inr h.symm))
  | i + 4, h => simp at h
theorem one_of3 {i : Nat} {x : V} {p q r : V} (h : [p, q, r][i]? = some x) : x = p ∨ x = q ∨ x = r := by
  match i, h with
  | 0, h => injection h with h; exact .inl h.symm
  | 1, h => injection h with h; exact .inr (.inl h.symm)
  | 2, h => injection h with h; exact .inr (.inr h.symm)
  | i + 3, h => simp at h
section
variable {P : Program} {w : World} {K : PySem.W.Frag} {mg : Str → Option Value} {base : Heap}
def sp__law_any_shift : Sp := fun vs H Q _ => ∃ (a l : Addr) (B : Nat), vs = [.ref a] ∧ PenAt H a l (B + 3) ∧ ∀ (H' : Hp) (r : V) (x y : Int), But a H H' → PenAt H' a l B → CellAt H' r x y → x.natAbs ≤ 9 → y.natAbs ≤ 9 → Q r H'
abbrev N__law_any_shift : List Str := ["_law_pen_here", "_law_wide"]
theorem sc__law_any_shift : FnScope N__law_any_shift ["_law_pen_here"] (defScope s__law_any_shift) := ⟨rfl, rfl, rfl, by decide +kernel, rfl, by decide +kernel, by decide +kernel⟩
theorem ok__law_any_shift (T : Tx K mg) : Cl P w K mg base CX0 3 "_law_any_shift" sp__law_any_shift [] := by
  obtain ⟨fd, F⟩ := T.d__law_any_shift
  refine cl_of (ps := ["_law_pen_here"]) F T.g__law_any_shift (FunD.cl0 F sc__law_any_shift (fun vs H Q E h => ?_) (fun cdv A outer s H vs Q E hr h => ?_)) fun _ _ _ _ _ _ us hl => match us, hl with | [_], _ => rfl
  · obtain ⟨a, l, B, rfl, _⟩ := h
    rfl
  · obtain ⟨a, l, B, rfl, hp, k⟩ := h
    refine ⟨_, (pss_cons (st 1 sc__law_any_shift.nd (pe_cl (ok__law_pick T) hr pass0 (pa_cons (pv 0) (pa_cons (pe_lst (pa_cons pe_int (pa_cons pe_int (pa_cons pe_int (pa_cons pe_int pa_nil))))) pa_nil))))
      (pss_one (ps_ret (pe_tup (pa_cons (pe_op op_sub (pe_cl (ok__law_draw T) hr pass0 (pa_cons (pv 0) (pa_cons (pe_op op_add (pe_op op_mul pe_int (pv 1)) pe_int) pa_nil))) (pv 1)) (pa_cons (pe_op op_sub (pe_cl (ok__law_draw T) hr pass0 (pa_cons (pv 0) (pa_cons (pe_op op_add (pe_op op_mul pe_int (pv 1)) pe_int) pa_nil))) (pv 1)) pa_nil)))))), ?_⟩
    refine ⟨_, rfl, by show 4 ≤ sizeLine; decide, fun p np => ⟨a, l, .ref p, _, B + 2, rfl, hp.mono (same_new np), ⟨p, rfl, .inr upd_same⟩, by show 0 < 4; decide, by show 4 < 1073741824; decide, fun H1 i x b1 p1 hx => ?_⟩⟩
    obtain ⟨n, rfl, n1, n9⟩ : ∃ n : Int, x = .int n ∧ 1 ≤ n ∧ n ≤ 9 := by
      rcases one_of4 hx with h | h | h | h
      · exact ⟨1, h, by decide⟩
      · exact ⟨1, h, by decide⟩
      · exact ⟨2, h, by decide⟩
      · exact ⟨9, h, by decide⟩
    have b1' := (But.of (a := a) (same_new (o := .lst [.int 1, .int 1, .int 2, .int 9]) np)).trans b1
    refine ⟨_, rfl, _, rfl, _, _, rfl, rfl, cmul_l (by decide), _, _, rfl, rfl, a, l, 2 * n + 1, B + 1, rfl, p1, by omega, by omega, fun H2 v b2 p2 v0 v1 => ⟨_, rfl, _, _, rfl, rfl, ?_⟩⟩
    refine ⟨_, rfl, _, rfl, _, _, rfl, rfl, cmul_l (by decide), _, _, rfl, rfl, a, l, 2 * n + 1, B, rfl, p2, by omega, by omega, fun H3 u b3 p3 u0 u1 => ⟨_, rfl, _, _, rfl, rfl, by show 2 ≤ sizeLine; decide, fun q nq => ?_⟩⟩
    exact k _ _ _ _ (((b1'.trans b2).trans b3).new nq) (p3.mono (same_new nq)) ⟨q, rfl, upd_same⟩ (by omega) (by omega)
def sp__law_any_road : Sp := fun vs H Q _ => ∃ (a l sp tk : Addr) (spots taken : List Str) (B : Nat), vs = [.ref a, .ref sp, .ref tk, .bl true] ∧ PenAt H a l (B + 120) ∧ H sp = some (.lst (spots.map V.str)) ∧ spots ≠ [] ∧ spots.length ≤ 6 ∧ (∀ x ∈ spots, NameOk x) ∧ H tk = some (.lst (taken.map V.str)) ∧ taken.length ≤ 6 ∧
  ∀ (H' : Hp) (r : V) (x : Rd), But a H H' → PenAt H' a l B → RoadT H' r x → RdOk spots x → x.name ∉ taken → Q r H'
abbrev N__law_any_road : List Str := ["_law_pen_here", "_law_spots", "_law_taken", "_law_dots", "_law_price", "_law_name", "_law_label", "_law_start", "_law_end", "_law_shift_here"]
theorem sc__law_any_road : FnScope N__law_any_road ["_law_pen_here", "_law_spots", "_law_taken", "_law_dots"] (defScope s__law_any_road) := ⟨rfl, rfl, rfl, by decide +kernel, rfl, by decide +kernel, by decide +kernel⟩
theorem ok__law_any_road (T : Tx K mg) : Cl P w K mg base CX0 4 "_law_any_road" sp__law_any_road [] := by
  obtain ⟨fd, F⟩ := T.d__law_any_road
  refine cl_of (ps := ["_law_pen_here", "_law_spots", "_law_taken", "_law_dots"]) F T.g__law_any_road (FunD.cl0 F sc__law_any_road (fun vs H Q E h => ?_) (fun cdv A outer s H vs Q E hr h => ?_)) fun _ _ _ _ _ _ us hl => match us, hl with | [_, _, _, _], _ => rfl
  · obtain ⟨a, l, sp, tk, spots, taken, B, rfl, _⟩ := h
    rfl
  · obtain ⟨a, l, sp, tk, spots, taken, B, rfl, hp, hs, s0, s6, sok, ht, t6, k⟩ := h
    refine ⟨_, (pss_cons (par2 5 6 sc__law_any_road.nd (pa_cons (pe_cl (ok__law_any_name T) hr pass0 (pa_cons (pv 0) (pa_cons (pv 2) (pa_cons (pv 3) pa_nil)))) (pa_cons pe_non pa_nil)))
      (pss_cons (par3 7 8 9 sc__law_any_road.nd (pa_cons (pe_cl (ok__law_pick T) hr pass0 (pa_cons (pv 0) (pa_cons (pv 1) pa_nil))) (pa_cons (pe_cl (ok__law_pick T) hr pass0 (pa_cons (pv 0) (pa_cons (pv 1) pa_nil))) (pa_cons (pe_cl (ok__law_any_shift T) hr pass0 (pa_cons (pv 0) pa_nil)) pa_nil))))
      (pss_mid (ps_if (pw_and (pt_val (pv 3)) (pw_and (pt_cmpR op_eq (pe_cl (ok__law_draw T) hr pass0 (pa_cons (pv 0) (pa_cons pe_int pa_nil))) pe_int (nomark _)) (pw_and1 (pt_cmpR op_notIn_seq (pv 7) (pv 2) rfl)))).pt (pss_one (st 5 sc__law_any_road.nd (pv 7))) pss_nil)
      (pss_cons (st 4 sc__law_any_road.nd (pe_op op_add pe_int (pe_cl (ok__law_draw T) hr pass0 (pa_cons (pv 0) (pa_cons (pe_cl (ok__law_pick T) hr pass0 (pa_cons (pv 0) (pa_cons (pe_lst (pa_cons pe_int (pa_cons pe_int (pa_cons pe_int pa_nil)))) pa_nil))) pa_nil)))))
      (pss_mid (ps_if (pt_cmpR op_eq (pe_cl (ok__law_draw T) hr pass0 (pa_cons (pv 0) (pa_cons pe_int pa_nil))) pe_int (nomark _)) (pss_one (st 6 sc__law_any_road.nd (pe_cl (ok__law_any_name T) hr pass0 (pa_cons (pv 0) (pa_cons (pe_lst pa_nil) (pa_cons pe_bl pa_nil)))))) pss_nil)
      (pss_one (ps_ret (pe_tup (pa_cons (pv 5) (pa_cons (pv 7) (pa_cons (pv 8) (pa_cons (pv 9) (pa_cons (pv 4) (pa_cons (pv 6) pa_nil)))))))))))))), ?_⟩
    have sl0 : 0 < (spots.map V.str).length := by rw [List.length_map]; exact List.length_pos_iff.mpr s0
    have sl1 : (spots.map V.str).length < 1073741824 := by rw [List.length_map]; omega
    refine ⟨_, rfl, _, rfl, _, rfl, a, l, tk, taken, B + 70, rfl, hp.less (by omega), ht, t6, fun H1 nm b1 p1 no nn => ⟨_, _, rfl, ?_⟩⟩
    have hs1 := b1.lst hp hs
    refine ⟨_, rfl, _, rfl, a, l, .ref sp, _, B + 69, rfl, p1, ⟨sp, rfl, .inr hs1⟩, sl0, sl1, fun H2 i x b2 p2 hx => ?_⟩
    obtain ⟨st, hst, rfl⟩ := map_at hx
    have hs2 := b2.lst p1 hs1
    refine ⟨_, rfl, _, rfl, a, l, .ref sp, _, B + 68, rfl, p2, ⟨sp, rfl, .inr hs2⟩, sl0, sl1, fun H3 i x b3 p3 hx => ?_⟩
    obtain ⟨fn, hfn, rfl⟩ := map_at hx
    refine ⟨_, rfl, a, l, B + 65, rfl, p3, fun H4 sh x y b4 p4 cs x9 y9 => ⟨_, _, _, rfl, ?_⟩⟩
    have b5 := ((b1.trans b2).trans b3).trans b4
    have ht4 := b5.lst hp ht
    refine ⟨fun σ H' => ∃ nm : Str, σ = [some (.ref a), some (.ref sp), some (.ref tk), some (.bl true), none, some (.str nm), some .non, some (.str st), some (.str fn), some sh] ∧ But a H H' ∧ PenAt H' a l (B + 64) ∧ CellAt H' sh x y ∧ NameOk nm ∧ nm ∉ taken, ?_, ?_⟩
    · refine ⟨_, rfl, true, rfl, iteT ⟨_, rfl, a, l, 5, B + 64, rfl, p4, by decide, by decide, fun H5 v b6 p5 v0 v1 => ⟨rfl, _, rfl, ?_⟩⟩⟩
      have c5 := cs.tup (Tup.but b6 p4)
      refine ite2 (fun h => ?_) (fun h => ?_)
      · refine ⟨_, rfl, _, rfl, tk, _, rfl, .inl (SqL.of (b6.lst p4 ht4)), rfl, flat_strs, _, rfl, ?_⟩
        refine ite2 (fun h => ?_) (fun h => ?_)
        · exact ⟨_, rfl, st, rfl, b5.trans b6, p5, c5, sok _ (mem_at hst), by simpa [inV_str] using h⟩
        · exact ⟨nm, rfl, b5.trans b6, p5, c5, no, nn⟩
      · exact iteF ⟨nm, rfl, b5.trans b6, p5, c5, no, nn⟩
    · rintro σ H' ⟨nm, rfl, b6, p5, c5, no, nn⟩
      refine ⟨_, rfl, _, rfl, by show 3 ≤ sizeLine; decide, fun p np => ⟨a, l, .ref p, _, B + 63, rfl, p5.mono (same_new np), ⟨p, rfl, .inr upd_same⟩, by show 0 < 3; decide, by show 3 < 1073741824; decide, fun H7 i q b7 p7 hq => ?_⟩⟩
      obtain ⟨n, rfl, n1, n99⟩ : ∃ n : Int, q = .int n ∧ 1 ≤ n ∧ n ≤ 99 := by
        rcases one_of3 hq with h | h | h
        · exact ⟨3, h, by decide⟩
        · exact ⟨9, h, by decide⟩
        · exact ⟨99, h, by decide⟩
      have c7 := (c5.mono (same_new (o := .lst [.int 3, .int 9, .int 99]) np)).tup (Tup.but b7 (p5.mono (same_new np)))
      have b7' := (b6.new (o := .lst [.int 3, .int 9, .int 99]) np).trans b7
      refine ⟨a, l, n, B + 62, rfl, p7, by omega, by omega, fun H8 pr b8 p8 pr0 pr1 => ⟨_, _, rfl, rfl, ?_⟩⟩
      have c8 := c7.tup (Tup.but b8 p7)
      refine ⟨fun σ H' => ∃ lb : Option Str, σ = [some (.ref a), some (.ref sp), some (.ref tk), some (.bl true), some (.int (1 + pr)), some (.str nm), some (labV lb), some (.str st), some (.str fn), some sh] ∧ But a H H' ∧ PenAt H' a l B ∧ CellAt H' sh x y ∧ ∀ x, lb = some x → NameOk x, ?_, ?_⟩
      · refine ⟨_, rfl, a, l, 3, B + 61, rfl, p8, by decide, by decide, fun H9 v b9 p9 v0 v1 => ⟨rfl, _, rfl, ?_⟩⟩
        have c9 := c8.tup (Tup.but b9 p8)
        refine ite2 (fun h => ?_) (fun h => ?_)
        · refine ⟨_, rfl, by show 0 ≤ sizeLine; decide, fun e ne => ⟨a, l, e, [], B + 11, rfl, p9.mono (same_new ne), upd_same, by decide, fun H10 lb b10 p10 lo _ => ?_⟩⟩
          refine ⟨some lb, rfl, ((b7'.trans b8).trans b9).trans ((But.of (same_new ne)).trans b10), p10.less (by omega), (c9.mono (same_new ne)).tup (Tup.but b10 (p9.mono (same_new ne))), fun x hx => ?_⟩
          injection hx with hx
          exact hx ▸ lo
        · exact ⟨none, rfl, (b7'.trans b8).trans b9, p9.less (by omega), c9, fun x hx => nomatch hx⟩
      · rintro σ H' ⟨lb, rfl, b10, p10, c10, lo⟩
        refine ⟨_, rfl, _, rfl, _, rfl, _, rfl, _, rfl, _, rfl, by show 6 ≤ sizeLine; decide, fun t nt => ?_⟩
        refine k _ _ ⟨nm, st, fn, x, y, 1 + pr, lb⟩ (b10.new nt) (p10.mono (same_new nt)) ⟨t, sh, rfl, upd_same, c10.mono (same_new nt)⟩ ⟨no, mem_at hst, mem_at hfn, x9, y9, ?_, ?_, lo⟩ nn
        · show 1 ≤ 1 + pr
          omega
        · show 1 + pr ≤ 99
          omega
end
end J
set_option Elab.async false
set_option linter.all false
set_option maxRecDepth 100000
set_option maxHeartbeats 4000000
set_option exponentiation.threshold 3000
namespace J
open PySem PySem.Spec PyProof.Rows L2 TL

/-! J12: any land; the law's matrices. -/
section
variable {P : Program} {w : World} {K : PySem.W.Frag} {mg : Str → Option Value} {base : Heap}
theorem road_name {H : Hp} {v : V} {r : Rd} {Q : VK} (h : RoadT H v r) (q : Q (.str r.name) H) : rIx K v (.int 0) H Q := by
  obtain ⟨p, c, rfl, e, _⟩ := h
  exact SeqAt.ix (i := 0) ⟨p, rfl, .inl e⟩ rfl q
/-- a land under way -/
structure LandW (H : Hp) (d l1 l2 : Addr) (L : Land) : Prop where
  hd : H d = some (.dK (landKv l1 l2))
  h1 : H l1 = some (.lst (L.spots.map V.str))
  h2 : ∃ xs, H l2 = some (.lst xs) ∧ Paired (RoadT H) xs L.roads
theorem LandW.but {H H' : Hp} {d l1 l2 a l : Addr} {L : Land} {B : Nat} (h : LandW H d l1 l2 L) (b : But a H H') (p : PenAt H a l B) (hda : d ≠ a) : LandW H' d l1 l2 L := by
  obtain ⟨xs, h2, hp⟩ := h.h2
  exact ⟨b _ _ hda h.hd, b.lst p h.h1, xs, b.lst p h2, rows_tup hp (Tup.but b p)⟩
def sp__law_any_land : Sp := fun vs H Q _ => ∃ (a l : Addr) (B : Nat), vs = [.ref a, .int 3, .int 4] ∧ PenAt H a l (B + 1000) ∧ ∀ (H' : Hp) (r : V) (L : Land), But a H H' → PenAt H' a l B → LandAt H' r L → L.Ok → Q r H'
abbrev N__law_any_land : List Str := ["_law_pen_here", "_law_many", "_law_roads", "_law_land_here", "_law_k", "_law_taken", "_law_road"]
theorem sc__law_any_land : FnScope N__law_any_land ["_law_pen_here", "_law_many", "_law_roads"] (defScope s__law_any_land) := ⟨rfl, rfl, rfl, by decide +kernel, rfl, by decide +kernel, by decide +kernel⟩
theorem ok__law_any_land (T : Tx K mg) : Cl P w K mg base CX0 5 "_law_any_land" sp__law_any_land [] := by
  obtain ⟨fd, F⟩ := T.d__law_any_land
  refine cl_of (ps := ["_law_pen_here", "_law_many", "_law_roads"]) F T.g__law_any_land (FunD.cl0 F sc__law_any_land (fun vs H Q E h => ?_) (fun cdv A outer s H vs Q E hr h => ?_)) fun _ _ _ _ _ _ us hl => match us, hl with | [_, _, _], _ => rfl
  · obtain ⟨a, l, B, rfl, _⟩ := h
    rfl
  · obtain ⟨a, l, B, rfl, hp, k⟩ := h
    have hu := hu_of hr
    refine ⟨_, (pss_cons (st 3 sc__law_any_land.nd (pe_disp (pps_cons pe_str (pe_lst pa_nil) (pps_cons pe_str (pe_lst pa_nil) pps_nil)) rfl rfl (by simp) (by decide)))
      (pss_mid (ps_for (PassesOwn.never) rfl (pi_range1 rfl T.f_range (pa_cons (pe_op op_add pe_int (pe_cl (ok__law_draw T) hr pass0 (pa_cons (pv 0) (pa_cons (pv 1) pa_nil)))) pa_nil)) (gn 4 sc__law_any_land.nd) (pss_one (ps_app (pe_dget hu (pv 3) pe_str (fun _ _ => rfl)) (pe_cl (ok__law_any_name T) hr pass0 (pa_cons (pv 0) (pa_cons (pe_dget hu (pv 3) pe_str (fun _ _ => rfl)) (pa_cons pe_bl pa_nil)))))))
      (pss_cons (ps_for (PassesOwn.never) rfl (pi_range1 rfl T.f_range (pa_cons (pe_cl (ok__law_draw T) hr pass0 (pa_cons (pv 0) (pa_cons (pe_op op_add (pv 2) pe_int) pa_nil))) pa_nil)) (gn 4 sc__law_any_land.nd) (pss_cons (ps_setLc (te := tOp (rIx K) (tVar 6) (tC (.int 0))) (i := 5) rfl sc__law_any_land.nd rfl rfl (sw_true rfl rfl rfl (by decide +kernel)) (pi_list (pe_dget hu (pv 3) pe_str (fun _ _ => rfl))) (blkOk_by (own := [("_law_road", 6)]) (N := N__law_any_land) (sc := defScope s__law_any_land) (by decide +kernel)) (fun _ _ _ _ _ => (gn 6 sc__law_any_land.nd)) (fun _ _ _ _ _ => pts_nil) (fun _ _ _ _ _ => (pe_at (pv 6) pe_int))) (pss_one (ps_app (pe_dget hu (pv 3) pe_str (fun _ _ => rfl)) (pe_cl (ok__law_any_road T) hr pass0 (pa_cons (pv 0) (pa_cons (pe_dget hu (pv 3) pe_str (fun _ _ => rfl)) (pa_cons (pv 5) (pa_cons pe_bl pa_nil)))))))))
      (pss_one (ps_ret (pv 3)))))), ?_⟩
    refine fun d nd => ⟨by show 0 ≤ sizeLine; decide, fun l1 n1 => ⟨by show 0 ≤ sizeLine; decide, fun l2 n2 => ?_⟩⟩
    have d1 : d ≠ l1 := ne_of_none upd_same n1
    have l12 : l1 ≠ l2 := ne_of_none upd_same n2
    have e1 : upd (upd H d (.dK [])) l1 (.lst []) d = some (.dK []) := by rw [upd_ne d1, upd_same]
    have d2 : d ≠ l2 := ne_of_none e1 n2
    have n1' : H l1 = none := by rw [upd_ne d1.symm] at n1; exact n1
    have n2' : H l2 = none := by rw [upd_ne l12.symm, upd_ne d2.symm] at n2; exact n2
    refine ⟨by rw [upd_ne d2]; exact e1, landKv l1 l2, rfl, by show 2 ≤ 15; decide, ?_⟩
    have em : mergeK [] (landKv l1 l2) = landKv l1 l2 := rfl
    rw [em]
    have b0 : But a H (upd (upd (upd (upd H d (.dK [])) l1 (.lst [])) l2 (.lst [])) d (.dK (landKv l1 l2))) := ((((But.refl H).new nd).mut n1').mut n2').mut nd
    have p0 : PenAt (upd (upd (upd (upd H d (.dK [])) l1 (.lst [])) l2 (.lst [])) d (.dK (landKv l1 l2))) a l (B + 1000) := (((hp.mut hp nd).mut hp n1').mut hp n2').mut hp nd
    have w0 : LandW (upd (upd (upd (upd H d (.dK [])) l1 (.lst [])) l2 (.lst [])) d (.dK (landKv l1 l2))) d l1 l2 ⟨[], []⟩ := ⟨upd_same, by rw [upd_ne d1.symm, upd_ne l12, upd_same]; rfl, [], by rw [upd_ne d2.symm, upd_same], .nil⟩
    have hda : d ≠ a := (hp.ne nd).1
    revert b0 p0 w0
    generalize upd (upd (upd (upd H d (.dK [])) l1 (.lst [])) l2 (.lst [])) d (.dK (landKv l1 l2)) = H0
    intro b0 p0 w0
    refine ⟨fun σ H' => ∃ (k4 : Option V) (sp : List Str), σ = [some (.ref a), some (.int 3), some (.int 4), some (.ref d), k4, none, none] ∧ But a H H' ∧ PenAt H' a l (B + 600) ∧ LandW H' d l1 l2 ⟨sp, []⟩ ∧ sp ≠ [] ∧ sp.length ≤ 3 ∧ (∀ x ∈ sp, NameOk x) ∧ sp.Nodup, ?_, ?_⟩
    · refine ⟨_, rfl, _, rfl, a, l, 3, B + 999, rfl, p0, by decide, by decide, fun H1 v b1 p1 v0 v1 => ⟨_, _, rfl, rfl, _, rfl, by omega, by omega, ?_⟩⟩
      refine for_range (fun i σ H' => ∃ (k4 : Option V) (sp : List Str), σ = [some (.ref a), some (.int 3), some (.int 4), some (.ref d), k4, none, none] ∧ But a H H' ∧ PenAt H' a l (B + 600 + 100 * (3 - i)) ∧ LandW H' d l1 l2 ⟨sp, []⟩ ∧ sp.length = i ∧ (∀ x ∈ sp, NameOk x) ∧ sp.Nodup) ?_ ?_ ?_
      · exact ⟨none, [], rfl, b0.trans b1, p1.less (by omega), w0.but b1 p0 hda, rfl, fun x hx => (nomatch hx), List.nodup_nil⟩
      · rintro i σ H' hi ⟨k4, sp, rfl, b, pn, w1, sl, so, sn⟩
        have hi : i < 3 := by omega
        refine ⟨_, rfl, d, _, rfl, land_spots w1.hd, .inl ⟨rfl, _, SqL.of w1.h1⟩, ?_⟩
        refine ⟨_, rfl, _, rfl, d, _, rfl, land_spots w1.hd, a, l, l1, sp, B + 600 + 100 * (3 - i) - 50, rfl, pn.less (by omega), w1.h1, by omega, fun H2 x b2 p2 xo xn => ?_⟩
        have w2 := w1.but b2 (pn) hda
        refine ⟨l1, _, _, rfl, rfl, w2.h1, by rw [List.length_map]; exact small1000 (by show sp.length ≤ 1000; omega), ?_⟩
        obtain ⟨xs, h2, hpx⟩ := w2.h2
        refine ⟨_, sp ++ [x], rfl, (b.trans b2).mut n1', (p2.mut hp n1').less (by omega), ⟨by rw [upd_ne d1]; exact w2.hd, by rw [upd_same, List.map_append]; rfl, xs, by rw [upd_ne l12.symm]; exact h2, rows_tup hpx ((Tup.refl _).put w2.h1 (fun _ z => by cases z))⟩, by rw [List.length_append, sl]; rfl, ?_, nodup_snoc sn xn⟩
        intro y hy
        rcases List.mem_append.mp hy with q | q
        · exact so y q
        · rw [List.mem_singleton.mp q]
          exact xo
      · rintro σ H' ⟨k4, sp, rfl, b, pn, w1, sl, so, sn⟩
        refine ⟨k4, sp, rfl, b, pn.less (by omega), w1, fun z => ?_, by omega, so, sn⟩
        rw [z] at sl
        simp at sl
        omega
    · rintro σ H' ⟨k4, sp, rfl, b, pn, w1, s0, s3, so, sn⟩
      refine ⟨_, rfl, _, rfl, _, _, rfl, rfl, a, l, 5, B + 599, rfl, pn, by decide, by decide, fun H1 v b1 p1 v0 v1 => ⟨_, rfl, by omega, by omega, ?_⟩⟩
      refine for_range (fun i σ H' => ∃ (k4 t5 : Option V) (rs : List Rd), σ = [some (.ref a), some (.int 3), some (.int 4), some (.ref d), k4, t5, none] ∧ But a H H' ∧ PenAt H' a l (B + 130 * (4 - i)) ∧ LandW H' d l1 l2 ⟨sp, rs⟩ ∧ rs.length = i ∧ (∀ x ∈ rs, RdOk sp x) ∧ (rs.map (·.name)).Nodup) ?_ ?_ ?_
      · exact ⟨k4, none, [], rfl, b.trans b1, p1.less (by omega), w1.but b1 pn hda, rfl, fun x hx => (nomatch hx), List.nodup_nil⟩
      · rintro i σ H' hi ⟨k4', t5, rs, rfl, b, pn, w1, sl, ro, rn⟩
        have hi : i < 4 := by omega
        obtain ⟨xs, h2, hpx⟩ := w1.h2
        refine ⟨_, rfl, d, _, rfl, land_roads w1.hd, l2, rfl, ⟨xs, SqL.of h2⟩, ?_⟩
        intro D hD
        have hDn : H D = none := b.free pn hD
        have hDd : d ≠ D := ne_of_none w1.hd hD
        have hD1 : l1 ≠ D := ne_of_none w1.h1 hD
        have hD2 : l2 ≠ D := ne_of_none h2 hD
        refine lc_list (xs := xs) (fun j H'' => Same H' H'' ∧ H'' D = some (.lst ((rs.take j).map fun r => V.str r.name))) ⟨same_new hD, upd_same⟩ ?_ ?_ ?_
        · rintro j H'' hj ⟨s1, e⟩
          exact SqL.of (s1 _ _ h2)
        · rintro j x H'' hx ⟨s1, e⟩
          obtain ⟨r, hr1, hr2⟩ := paired_at hpx hx
          refine ⟨rfl, _, rfl, road_name (hr2.tup (Tup.of s1)) ⟨_, e, by rw [List.length_map, List.length_take]; exact small1000 (by omega), sM s1 hD, ?_⟩⟩
          rw [upd_same]
          have e3 : rs.take (j + 1) = rs.take j ++ [r] := by rw [List.take_succ, hr1]; rfl
          rw [e3, List.map_append]
          rfl
        · rintro H'' ⟨s1, e⟩
          have el : rs.take xs.length = rs := by
            rw [paired_len hpx]
            exact List.take_length
          rw [el] at e
          have e : H'' D = some (.lst ((rs.map (·.name)).map V.str)) := by
            rw [e, List.map_map]
            rfl
          refine ⟨_, rfl, d, _, rfl, land_roads (s1 _ _ w1.hd), .inl ⟨rfl, _, SqL.of (s1 _ _ h2)⟩, ?_⟩
          have pn2 := pn.mono s1
          refine ⟨_, rfl, _, rfl, d, _, rfl, land_spots (s1 _ _ w1.hd), _, rfl, a, l, l1, D, sp, rs.map (·.name), B + 130 * (4 - i) - 120, rfl, pn2.less (by omega), s1 _ _ w1.h1, s0, by omega, so, e, by rw [List.length_map]; omega, fun H3 r x b3 p3 hx xo xn => ?_⟩
          have w2 : LandW H'' d l1 l2 ⟨sp, rs⟩ := ⟨s1 _ _ w1.hd, s1 _ _ w1.h1, xs, s1 _ _ h2, rows_tup hpx (Tup.of s1)⟩
          have w3 := w2.but b3 pn2 hda
          obtain ⟨ys, h3, hpy⟩ := w3.h2
          have hyl := paired_len hpy
          refine ⟨l2, _, _, rfl, rfl, h3, by rw [hyl]; exact small1000 (by show rs.length ≤ 1000; omega), ?_⟩
          have tt : Tup H3 (upd H3 l2 (.lst (ys ++ [r]))) := (Tup.refl _).put h3 (fun _ z => by cases z)
          refine ⟨_, _, rs ++ [x], rfl, ((b.trans (But.of s1)).trans b3).mut n2', (p3.mut hp n2').less (by omega), ⟨by rw [upd_ne d2]; exact w3.hd, by rw [upd_ne l12]; exact w3.h1, _, upd_same, Paired.snoc (rows_tup hpy tt) (hx.tup tt)⟩, by rw [List.length_append, sl]; rfl, ?_, ?_⟩
          · intro y hy
            rcases List.mem_append.mp hy with q | q
            · exact ro y q
            · rw [List.mem_singleton.mp q]
              exact xo
          · rw [List.map_append]
            exact nodup_snoc rn xn
      · rintro σ H' ⟨k4', t5, rs, rfl, b, pn, w1, sl, ro, rn⟩
        obtain ⟨xs, h2, hpx⟩ := w1.h2
        exact ⟨_, rfl, k _ _ ⟨sp, rs⟩ b (pn.less (by omega)) ⟨d, l1, l2, xs, rfl, w1.hd, w1.h1, h2, hpx⟩ ⟨s0, s3, so, sn, ro, rn, by show rs.length ≤ 6; omega⟩⟩
end
end J
set_option Elab.async false
set_option linter.all false
set_option maxRecDepth 100000
set_option maxHeartbeats 4000000
set_option exponentiation.threshold 3000
namespace J
open PySem PySem.Spec PyProof.Rows L2 TL

/-! J13: the law's matrices. -/
def LitI (e : TE) (σ : L2.St) (i : Int) : Prop := ∀ H Q, Q (.int i) H → e σ H Q
theorem lit_c {σ : L2.St} {i : Int} : LitI (tC (.int i)) σ i := fun _ _ q => q
theorem lit_neg {σ : L2.St} {i : Int} : LitI (tUn (rU fun i => .int (-i)) (tC (.int i))) σ (-i) := fun _ _ q => ⟨i, rfl, q⟩
theorem lit_v {σ : L2.St} {i : Int} {n : Nat} (h : σ[n]? = some (some (.int i))) : LitI (tVar n) σ i := fun _ _ q => ⟨_, h, q⟩
theorem cell_lit {e1 e2 : TE} {σ : L2.St} {H : Hp} {Q : VK} {a b : Int} (h1 : LitI e1 σ a) (h2 : LitI e2 σ b) (k : ∀ (H' : Hp) (r : V), Same H H' → CellAt H' r a b → Q r H') : tTup (tCons e1 (tCons e2 tNil)) σ H Q :=
  h1 _ _ (h2 _ _ ⟨by show 2 ≤ sizeLine; decide, fun p np => k _ _ (same_new np) ⟨p, rfl, upd_same⟩⟩)
theorem mat_lit {e1 e2 e3 e4 : TE} {σ : L2.St} {H : Hp} {Q : VK} {a b c d : Int} (h1 : LitI e1 σ a) (h2 : LitI e2 σ b) (h3 : LitI e3 σ c) (h4 : LitI e4 σ d) (k : ∀ (H' : Hp) (r : V), Same H H' → MatT H' r ⟨a, b, c, d⟩ → Q r H') :
    tTup (tCons (tTup (tCons e1 (tCons e2 tNil))) (tCons (tTup (tCons e3 (tCons e4 tNil))) tNil)) σ H Q :=
  h1 _ _ (h2 _ _ ⟨by show 2 ≤ sizeLine; decide, fun p1 n1 => h3 _ _ (h4 _ _ ⟨by show 2 ≤ sizeLine; decide, fun p2 n2 => ⟨by show 2 ≤ sizeLine; decide, fun p np =>
    k _ _ (sN (sN (same_new n1) n2) np) ⟨p, .ref p1, .ref p2, rfl, upd_same, CellAt.mono ⟨p1, rfl, upd_same⟩ (sN (same_new n2) np), CellAt.mono ⟨p2, rfl, upd_same⟩ (same_new np)⟩⟩⟩)⟩)
def tMat (e1 e2 e3 e4 : TE) : TE := fun σ H Q => ∃ a b c d, LitI e1 σ a ∧ LitI e2 σ b ∧ LitI e3 σ c ∧ LitI e4 σ d ∧ ∀ (H' : Hp) (r : V), Same H H' → MatT H' r ⟨a, b, c, d⟩ → Q r H'
theorem pe_mat {X : Cx} {e : Expr} {e1 e2 e3 e4 : TE} (h : PE X e (tTup (tCons (tTup (tCons e1 (tCons e2 tNil))) (tCons (tTup (tCons e3 (tCons e4 tNil))) tNil)))) : PE X e (tMat e1 e2 e3 e4) :=
  pe_imp h fun _ _ _ ⟨_, _, _, _, h1, h2, h3, h4, k⟩ => mat_lit h1 h2 h3 h4 k
def tCel (e1 e2 : TE) : TE := fun σ H Q => ∃ a b, LitI e1 σ a ∧ LitI e2 σ b ∧ ∀ (H' : Hp) (r : V), Same H H' → CellAt H' r a b → Q r H'
theorem pe_cel {X : Cx} {e : Expr} {e1 e2 : TE} (h : PE X e (tTup (tCons e1 (tCons e2 tNil)))) : PE X e (tCel e1 e2) := pe_imp h fun _ _ _ ⟨_, _, h1, h2, k⟩ => cell_lit h1 h2 k
def Mat.Bd (M : Mat) (n : Nat) : Prop := M.a.natAbs ≤ n ∧ M.b.natAbs ≤ n ∧ M.c.natAbs ≤ n ∧ M.d.natAbs ≤ n
theorem Mat.Bd.small {M : Mat} {n : Nat} (h : M.Bd n) (hn : n < 2 ^ 20) : M.Small := by
  obtain ⟨h1, h2, h3, h4⟩ := h
  exact ⟨by omega, by omega, by omega, by omega⟩
theorem Mat.Bd.mono {M : Mat} {n m : Nat} (h : M.Bd n) (hn : n ≤ m) : M.Bd m := by
  obtain ⟨h1, h2, h3, h4⟩ := h
  exact ⟨by omega, by omega, by omega, by omega⟩
theorem bd_mul {A B : Mat} {n m : Nat} (hA : A.Bd n) (hB : B.Bd m) : (A.mul B).Bd (2 * (n * m)) := by
  have e : ∀ {x y z t : Int}, x.natAbs ≤ n → y.natAbs ≤ m → z.natAbs ≤ n → t.natAbs ≤ m → (x * y + z * t).natAbs ≤ 2 * (n * m) := fun {x y z t} h1 h2 h3 h4 => by
    have q1 : (x * y).natAbs ≤ n * m := by rw [Int.natAbs_mul]; exact Nat.mul_le_mul h1 h2
    have q2 : (z * t).natAbs ≤ n * m := by rw [Int.natAbs_mul]; exact Nat.mul_le_mul h3 h4
    omega
  obtain ⟨a1, a2, a3, a4⟩ := hA
  obtain ⟨b1, b2, b3, b4⟩ := hB
  exact ⟨e a1 b1 a2 b3, e a1 b2 a2 b4, e a3 b1 a4 b3, e a3 b2 a4 b4⟩
/-- a step's matrix times another -/
theorem bd_step1 {B : Mat} {l : Int} {m : Nat} (hl : l.natAbs ≤ 2) (hB : B.Bd m) : (Mat.mul ⟨1, l, 0, 1⟩ B).Bd (3 * m) ∧ (Mat.mul ⟨1, l, 0, 1⟩ B).det = B.det := by
  obtain ⟨b1, b2, b3, b4⟩ := hB
  have e : ∀ {x y : Int}, x.natAbs ≤ m → y.natAbs ≤ m → (1 * x + l * y).natAbs ≤ 3 * m := fun {x y} h1 h2 => by
    have q2 : (l * y).natAbs ≤ 2 * m := by rw [Int.natAbs_mul]; exact Nat.mul_le_mul hl h2
    omega
  refine ⟨⟨e b1 b3, e b2 b4, ?_, ?_⟩, ?_⟩
  · show (0 * B.a + 1 * B.c).natAbs ≤ 3 * m
    omega
  · show (0 * B.b + 1 * B.d).natAbs ≤ 3 * m
    omega
  · rw [det_mul]
    show (1 * 1 - l * 0) * B.det = B.det
    grind
theorem bd_step2 {B : Mat} {l : Int} {m : Nat} (hl : l.natAbs ≤ 2) (hB : B.Bd m) : (Mat.mul ⟨1, 0, l, 1⟩ B).Bd (3 * m) ∧ (Mat.mul ⟨1, 0, l, 1⟩ B).det = B.det := by
  obtain ⟨b1, b2, b3, b4⟩ := hB
  have e : ∀ {x y : Int}, x.natAbs ≤ m → y.natAbs ≤ m → (l * x + 1 * y).natAbs ≤ 3 * m := fun {x y} h1 h2 => by
    have q2 : (l * x).natAbs ≤ 2 * m := by rw [Int.natAbs_mul]; exact Nat.mul_le_mul hl h1
    omega
  refine ⟨⟨?_, ?_, e b1 b3, e b2 b4⟩, ?_⟩
  · show (1 * B.a + 0 * B.c).natAbs ≤ 3 * m
    omega
  · show (1 * B.b + 0 * B.d).natAbs ≤ 3 * m
    omega
  · rw [det_mul]
    show (1 * 1 - 0 * l) * B.det = B.det
    grind
def Unit1 (x : Int) : Prop := x = 1 ∨ x = -1
section
variable {P : Program} {w : World} {K : PySem.W.Frag} {mg : Str → Option Value} {base : Heap}
def sp__law_unimodular : Sp := fun vs H Q _ => ∃ (a l : Addr) (B : Nat), vs = [.ref a, .int 2] ∧ PenAt H a l (B + 10) ∧ ∀ (H' : Hp) (r : V) (M : Mat), But a H H' → PenAt H' a l B → MatT H' r M → M.Bd 9 → Unit1 M.det → Q r H'
abbrev N__law_unimodular : List Str := ["_law_pen_here", "_law_many", "_law_matrix", "_law_k", "_law_lean"]
theorem sc__law_unimodular : FnScope N__law_unimodular ["_law_pen_here", "_law_many"] (defScope s__law_unimodular) := ⟨rfl, rfl, rfl, by decide +kernel, rfl, by decide +kernel, by decide +kernel⟩
theorem ok__law_unimodular (T : Tx K mg) : Cl P w K mg base CX0 3 "_law_unimodular" sp__law_unimodular [] := by
  obtain ⟨fd, F⟩ := T.d__law_unimodular
  refine cl_of (ps := ["_law_pen_here", "_law_many"]) F T.g__law_unimodular (FunD.cl0 F sc__law_unimodular (fun vs H Q E h => ?_) (fun cdv A outer s H vs Q E hr h => ?_)) fun _ _ _ _ _ _ us hl => match us, hl with | [_, _], _ => rfl
  · obtain ⟨a, l, B, rfl, _⟩ := h
    rfl
  · obtain ⟨a, l, B, rfl, hp, k⟩ := h
    refine ⟨_, (pss_cons (st 2 sc__law_unimodular.nd (pe_cl (ok__law_pick T) hr pass0 (pa_cons (pv 0) (pa_cons (pe_lst (pa_cons (pe_mat (pe_tup (pa_cons (pe_tup (pa_cons pe_int (pa_cons pe_int pa_nil))) (pa_cons (pe_tup (pa_cons pe_int (pa_cons pe_int pa_nil))) pa_nil)))) (pa_cons (pe_mat (pe_tup (pa_cons (pe_tup (pa_cons pe_int (pa_cons pe_int pa_nil))) (pa_cons (pe_tup (pa_cons pe_int (pa_cons pe_int pa_nil))) pa_nil)))) (pa_cons (pe_mat (pe_tup (pa_cons (pe_tup (pa_cons (pe_un un_neg pe_int) (pa_cons pe_int pa_nil))) (pa_cons (pe_tup (pa_cons pe_int (pa_cons pe_int pa_nil))) pa_nil)))) (pa_cons (pe_mat (pe_tup (pa_cons (pe_tup (pa_cons pe_int (pa_cons (pe_un un_neg pe_int) pa_nil))) (pa_cons (pe_tup (pa_cons pe_int (pa_cons pe_int pa_nil))) pa_nil)))) pa_nil))))) pa_nil))))
      (pss_cons (ps_for (PassesOwn.never) rfl (pi_range1 rfl T.f_range (pa_cons (pe_cl (ok__law_draw T) hr pass0 (pa_cons (pv 0) (pa_cons (pe_op op_add (pv 1) pe_int) pa_nil))) pa_nil)) (gn 3 sc__law_unimodular.nd) (pss_cons (st 4 sc__law_unimodular.nd (pe_cl (ok__law_pick T) hr pass0 (pa_cons (pv 0) (pa_cons (pe_lst (pa_cons pe_int (pa_cons (pe_un un_neg pe_int) (pa_cons pe_int pa_nil)))) pa_nil)))) (pss_one (st 2 sc__law_unimodular.nd (pe_cl (ok__law_product T) hr pass0 (pa_cons (pe_cl (ok__law_pick T) hr pass0 (pa_cons (pv 0) (pa_cons (pe_lst (pa_cons (pe_mat (pe_tup (pa_cons (pe_tup (pa_cons pe_int (pa_cons (pv 4) pa_nil))) (pa_cons (pe_tup (pa_cons pe_int (pa_cons pe_int pa_nil))) pa_nil)))) (pa_cons (pe_mat (pe_tup (pa_cons (pe_tup (pa_cons pe_int (pa_cons pe_int pa_nil))) (pa_cons (pe_tup (pa_cons (pv 4) (pa_cons pe_int pa_nil))) pa_nil)))) pa_nil))) pa_nil))) (pa_cons (pv 2) pa_nil)))))))
      (pss_one (ps_ret (pv 2))))), ?_⟩
    refine ⟨_, rfl, ⟨_, _, _, _, lit_c, lit_c, lit_c, lit_c, fun G1 m1 s1 w1 => ⟨_, _, _, _, lit_c, lit_c, lit_c, lit_c, fun G2 m2 s2 w2 => ⟨_, _, _, _, lit_neg, lit_c, lit_c, lit_c, fun G3 m3 s3 w3 => ⟨_, _, _, _, lit_c, lit_neg, lit_c, lit_c, fun G4 m4 s4 w4 => ⟨by show 4 ≤ sizeLine; decide, fun p np => ?_⟩⟩⟩⟩⟩⟩
    have s5 := same_new (o := .lst [m1, m2, m3, m4]) np
    have sA := (((s1.trans s2).trans s3).trans s4).trans s5
    refine ⟨a, l, .ref p, _, B + 9, rfl, hp.mono sA, ⟨p, rfl, .inr upd_same⟩, by show 0 < 4; decide, by show 4 < 1073741824; decide, fun H1 i x b1 p1 hx => ?_⟩
    have t5 := Tup.but b1 (hp.mono sA)
    have b1' := (But.of sA).trans b1
    obtain ⟨M0, hM0, hB0, hU0⟩ : ∃ M, MatT H1 x M ∧ M.Bd 1 ∧ Unit1 M.det := by
      rcases one_of4 hx with rfl | rfl | rfl | rfl
      · exact ⟨_, (w1.mono (((s2.trans s3).trans s4).trans s5)).tup t5, by unfold Mat.Bd; decide, .inl (by decide)⟩
      · exact ⟨_, (w2.mono ((s3.trans s4).trans s5)).tup t5, by unfold Mat.Bd; decide, .inr (by decide)⟩
      · exact ⟨_, (w3.mono (s4.trans s5)).tup t5, by unfold Mat.Bd; decide, .inr (by decide)⟩
      · exact ⟨_, (w4.mono s5).tup t5, by unfold Mat.Bd; decide, .inl (by decide)⟩
    refine ⟨_, rfl, _, rfl, _, _, rfl, rfl, a, l, 3, B + 8, rfl, p1, by decide, by decide, fun H2 v b2 p2 v0 v1 => ⟨v, rfl, by omega, by omega, ?_⟩⟩
    refine for_range (fun i σ H' => ∃ (k3 l4 : Option V) (r : V) (M : Mat), σ = [some (.ref a), some (.int 2), some r, k3, l4] ∧ But a H H' ∧ PenAt H' a l (B + (4 - i) * 2) ∧ MatT H' r M ∧ M.Bd (3 ^ i) ∧ Unit1 M.det) ?_ ?_ ?_
    · exact ⟨none, none, x, M0, rfl, b1'.trans b2, p2, hM0.tup (Tup.but b2 p1), hB0, hU0⟩
    · rintro i σ H' hi ⟨k3, l4, r, M, rfl, b, pn, hM, hB, hU⟩
      have hi : i < 2 := by omega
      refine ⟨_, rfl, 1, rfl, by show 3 ≤ sizeLine; decide, fun p np => ⟨a, l, .ref p, _, B + (4 - i) * 2 - 1, rfl, (pn.mono (same_new np)).less (by omega), ⟨p, rfl, .inr upd_same⟩, by show 0 < 3; decide, by show 3 < 1073741824; decide, fun H3 j y b3 p3 hy => ?_⟩⟩
      obtain ⟨ln, rfl, hln⟩ : ∃ n : Int, y = .int n ∧ n.natAbs ≤ 2 := by
        rcases one_of3 hy with h | h | h
        · exact ⟨1, h, by decide⟩
        · exact ⟨-1, h, by decide⟩
        · exact ⟨2, h, by decide⟩
      have hM3 := (hM.mono (same_new (o := .lst [.int 1, .int (-1), .int 2]) np)).tup (Tup.but b3 (pn.mono (same_new np)))
      have b3' := (b.new (o := .lst [.int 1, .int (-1), .int 2]) np).trans b3
      refine ⟨_, rfl, ⟨_, _, _, _, lit_c, lit_v rfl, lit_c, lit_c, fun G1 m1 s1 w1 => ⟨_, _, _, _, lit_c, lit_c, lit_v rfl, lit_c, fun G2 m2 s2 w2 => ⟨by show 2 ≤ sizeLine; decide, fun p2 np2 => ?_⟩⟩⟩⟩
      have s3 := same_new (o := .lst [m1, m2]) np2
      have sA := (s1.trans s2).trans s3
      refine ⟨a, l, .ref p2, _, B + (4 - i) * 2 - 2, rfl, (p3.mono sA).less (by omega), ⟨p2, rfl, .inr upd_same⟩, by show 0 < 2; decide, by show 2 < 1073741824; decide, fun H4 j z b4 p4 hz => ?_⟩
      have t4 := Tup.but b4 (p3.mono sA)
      have hM4 := (hM3.mono sA).tup t4
      have b4' := (b3'.trans (But.of sA)).trans b4
      have dn : ∀ (C : Mat), MatT H4 z C → C.Small → (C.mul M).Bd (3 * 3 ^ i) → (C.mul M).det = M.det → ∃ v, [some (V.ref a), some (V.int 2), some r, some (V.int (0 + (i : Int))), some (V.int ln)][2]? = some (some v) ∧
          tNil [some (V.ref a), some (V.int 2), some r, some (V.int (0 + (i : Int))), some (V.int ln)] H4 fun xs H5 => sp__law_product ((z :: (v :: xs)) ++ []) H5 (fun x H6 => gName 2 x [some (V.ref a), some (V.int 2), some r, some (V.int (0 + (i : Int))), some (V.int ln)] H6 fun σ' H' => ∃ (k3 l4 : Option V) (r : V) (M : Mat), σ' = [some (.ref a), some (.int 2), some r, k3, l4] ∧ But a H H' ∧ PenAt H' a l (B + (4 - (i + 1)) * 2) ∧ MatT H' r M ∧ M.Bd (3 ^ (i + 1)) ∧ Unit1 M.det) E0 := by
        intro C hC hS hbd hdt
        refine ⟨r, rfl, z, r, C, M, rfl, hC, hM4, hS, fun H5 q s5 w5 => ⟨_, _, q, _, rfl, b4'.trans (But.of s5), (p4.mono s5).less (by omega), w5, ?_, by rw [hdt]; exact hU⟩⟩
        rw [Nat.pow_succ, Nat.mul_comm]
        exact hbd
      match j, hz with
      | 0, hz =>
        injection hz with hz
        subst hz
        obtain ⟨q1, q2⟩ := bd_step1 hln hB
        exact dn _ ((w1.mono (s2.trans s3)).tup t4) (Mat.Bd.small (n := 2) ⟨(by decide : (1 : Int).natAbs ≤ 2), hln, (by decide : (0 : Int).natAbs ≤ 2), (by decide : (1 : Int).natAbs ≤ 2)⟩ (by decide)) q1 q2
      | 1, hz =>
        injection hz with hz
        subst hz
        obtain ⟨q1, q2⟩ := bd_step2 hln hB
        exact dn _ ((w2.mono s3).tup t4) (Mat.Bd.small (n := 2) ⟨(by decide : (1 : Int).natAbs ≤ 2), (by decide : (0 : Int).natAbs ≤ 2), hln, (by decide : (1 : Int).natAbs ≤ 2)⟩ (by decide)) q1 q2
      | j + 2, hz => simp at hz
    · rintro σ H' ⟨k3, l4, r, M, rfl, b, pn, hM, hB, hU⟩
      refine ⟨_, rfl, k _ _ M b (pn.less (by omega)) hM (hB.mono ?_) hU⟩
      have : v.toNat ≤ 2 := by omega
      exact Nat.le_trans (Nat.pow_le_pow_right (by decide) this) (by decide)
theorem one_of11 {i : Nat} {x : V} {l : List V} (h : l[i]? = some x) : x ∈ l := List.mem_of_getElem? h
/-- what the law draws -/
structure Drawn (M : Mat) : Prop where
  bd : M.Bd 7776
  d0 : M.det ≠ 0
  d1 : M.det.natAbs ≤ 25
def sp__law_drawn_matrix : Sp := fun vs H Q _ => ∃ (a l : Addr) (B : Nat), vs = [.ref a] ∧ PenAt H a l (B + 30) ∧ ∀ (H' : Hp) (r : V) (M : Mat), But a H H' → PenAt H' a l B → MatT H' r M → Drawn M → Q r H'
abbrev N__law_drawn_matrix : List Str := ["_law_pen_here", "_law_matrix", "_law_one", "_law_two"]
theorem sc__law_drawn_matrix : FnScope N__law_drawn_matrix ["_law_pen_here"] (defScope s__law_drawn_matrix) := ⟨rfl, rfl, rfl, by decide +kernel, rfl, by decide +kernel, by decide +kernel⟩
theorem ok__law_drawn_matrix (T : Tx K mg) : Cl P w K mg base CX0 4 "_law_drawn_matrix" sp__law_drawn_matrix [] := by
  obtain ⟨fd, F⟩ := T.d__law_drawn_matrix
  refine cl_of (ps := ["_law_pen_here"]) F T.g__law_drawn_matrix (FunD.cl0 F sc__law_drawn_matrix (fun vs H Q E h => ?_) (fun cdv A outer s H vs Q E hr h => ?_)) fun _ _ _ _ _ _ us hl => match us, hl with | [_], _ => rfl
  · obtain ⟨a, l, B, rfl, _⟩ := h
    rfl
  · obtain ⟨a, l, B, rfl, hp, k⟩ := h
    refine ⟨_, (pss_cons (ps_asg (pe_cl (ok__law_pick T) hr pass0 (pa_cons (pv 0) (pa_cons (pe_lst (pa_cons (pe_cel (pe_tup (pa_cons pe_int (pa_cons pe_int pa_nil)))) (pa_cons (pe_cel (pe_tup (pa_cons pe_int (pa_cons pe_int pa_nil)))) (pa_cons (pe_cel (pe_tup (pa_cons pe_int (pa_cons pe_int pa_nil)))) (pa_cons (pe_cel (pe_tup (pa_cons pe_int (pa_cons pe_int pa_nil)))) (pa_cons (pe_cel (pe_tup (pa_cons pe_int (pa_cons pe_int pa_nil)))) (pa_cons (pe_cel (pe_tup (pa_cons pe_int (pa_cons pe_int pa_nil)))) (pa_cons (pe_cel (pe_tup (pa_cons pe_int (pa_cons pe_int pa_nil)))) (pa_cons (pe_cel (pe_tup (pa_cons pe_int (pa_cons pe_int pa_nil)))) (pa_cons (pe_cel (pe_tup (pa_cons pe_int (pa_cons pe_int pa_nil)))) (pa_cons (pe_cel (pe_tup (pa_cons pe_int (pa_cons pe_int pa_nil)))) (pa_cons (pe_cel (pe_tup (pa_cons pe_int (pa_cons pe_int pa_nil)))) pa_nil)))))))))))) pa_nil))) (pg_tup rfl (pgs_cons (gn 2 sc__law_drawn_matrix.nd) (pgs_cons (gn 3 sc__law_drawn_matrix.nd) pgs_nil))))
      (pss_cons (st 1 sc__law_drawn_matrix.nd (pe_cl (ok__law_product T) hr pass0 (pa_cons (pe_cl (ok__law_unimodular T) hr pass0 (pa_cons (pv 0) (pa_cons pe_int pa_nil))) (pa_cons (pe_mat (pe_tup (pa_cons (pe_tup (pa_cons (pv 2) (pa_cons pe_int pa_nil))) (pa_cons (pe_tup (pa_cons pe_int (pa_cons (pv 3) pa_nil))) pa_nil)))) pa_nil))))
      (pss_one (ps_ret (pe_cl (ok__law_product T) hr pass0 (pa_cons (pv 1) (pa_cons (pe_cl (ok__law_unimodular T) hr pass0 (pa_cons (pv 0) (pa_cons pe_int pa_nil))) pa_nil))))))), ?_⟩
    refine ⟨_, rfl, _, _, lit_c, lit_c, fun G1 r1 s1 w1 => ⟨_, _, lit_c, lit_c, fun G2 r2 s2 w2 => ⟨_, _, lit_c, lit_c, fun G3 r3 s3 w3 => ⟨_, _, lit_c, lit_c, fun G4 r4 s4 w4 => ⟨_, _, lit_c, lit_c, fun G5 r5 s5 w5 => ⟨_, _, lit_c, lit_c, fun G6 r6 s6 w6 => ⟨_, _, lit_c, lit_c, fun G7 r7 s7 w7 => ⟨_, _, lit_c, lit_c, fun G8 r8 s8 w8 => ⟨_, _, lit_c, lit_c, fun G9 r9 s9 w9 => ⟨_, _, lit_c, lit_c, fun G10 r10 s10 w10 => ⟨_, _, lit_c, lit_c, fun G11 r11 s11 w11 => ⟨by show 11 ≤ sizeLine; decide, fun p np => ?_⟩⟩⟩⟩⟩⟩⟩⟩⟩⟩⟩⟩
    have z := same_new (o := .lst [r1, r2, r3, r4, r5, r6, r7, r8, r9, r10, r11]) np
    have z11 := s11.trans z
    have z10 := s10.trans z11
    have z9 := s9.trans z10
    have z8 := s8.trans z9
    have z7 := s7.trans z8
    have z6 := s6.trans z7
    have z5 := s5.trans z6
    have z4 := s4.trans z5
    have z3 := s3.trans z4
    have z2 := s2.trans z3
    have z1 := s1.trans z2
    refine ⟨a, l, .ref p, _, B + 29, rfl, hp.mono z1, ⟨p, rfl, .inr upd_same⟩, by show 0 < 11; decide, by show 11 < 1073741824; decide, fun H1 i x b1 p1 hx => ?_⟩
    have t1 := Tup.but b1 (hp.mono z1)
    have b1' := (But.of (a := a) z1).trans b1
    obtain ⟨u, v, hc, u1, v1, uv⟩ : ∃ u v : Int, CellAt H1 x u v ∧ (1 ≤ u ∧ u ≤ 24) ∧ (1 ≤ v ∧ v ≤ 24) ∧ u * v ≤ 25 := by
      have hm := one_of11 hx
      simp only [List.mem_cons, List.not_mem_nil, or_false] at hm
      rcases hm with rfl | rfl | rfl | rfl | rfl | rfl | rfl | rfl | rfl | rfl | rfl
      · exact ⟨_, _, (w1.mono z2).tup t1, by decide, by decide, by decide⟩
      · exact ⟨_, _, (w2.mono z3).tup t1, by decide, by decide, by decide⟩
      · exact ⟨_, _, (w3.mono z4).tup t1, by decide, by decide, by decide⟩
      · exact ⟨_, _, (w4.mono z5).tup t1, by decide, by decide, by decide⟩
      · exact ⟨_, _, (w5.mono z6).tup t1, by decide, by decide, by decide⟩
      · exact ⟨_, _, (w6.mono z7).tup t1, by decide, by decide, by decide⟩
      · exact ⟨_, _, (w7.mono z8).tup t1, by decide, by decide, by decide⟩
      · exact ⟨_, _, (w8.mono z9).tup t1, by decide, by decide, by decide⟩
      · exact ⟨_, _, (w9.mono z10).tup t1, by decide, by decide, by decide⟩
      · exact ⟨_, _, (w10.mono z11).tup t1, by decide, by decide, by decide⟩
      · exact ⟨_, _, (w11.mono z).tup t1, by decide, by decide, by decide⟩
    obtain ⟨q, rfl, hq⟩ := hc
    refine ⟨q, _, rfl, SqT.of hq, rfl, _, _, rfl, _, _, rfl, rfl, ?_⟩
    refine ⟨_, rfl, a, l, B + 19, rfl, p1, fun H2 m1 M1 b2 p2 hM1 bd1 un1 => ⟨u, 0, 0, v, lit_v rfl, lit_c, lit_c, lit_v rfl, fun H3 m2 s3 hM2 => ?_⟩⟩
    refine ⟨m1, m2, M1, _, rfl, hM1.mono s3, hM2, bd1.small (by decide), fun H4 m3 s4 hM3 => ?_⟩
    refine ⟨_, rfl, _, rfl, a, l, B + 9, rfl, (p2.mono s3).mono s4, fun H5 m4 M4 b5 p5 hM4 bd4 un4 => ?_⟩
    have bdD : Mat.Bd ⟨u, 0, 0, v⟩ 24 := by
      refine ⟨?_, by show 0 ≤ 24; decide, by show 0 ≤ 24; decide, ?_⟩
      · show u.natAbs ≤ 24
        omega
      · show v.natAbs ≤ 24
        omega
    have bd3 := bd_mul bd1 bdD
    have bd5 := bd_mul bd3 bd4
    have dD : Mat.det ⟨u, 0, 0, v⟩ = u * v := by
      show u * v - 0 * 0 = u * v
      omega
    have hd : (Mat.mul (Mat.mul M1 ⟨u, 0, 0, v⟩) M4).det = M1.det * (u * v) * M4.det := by rw [det_mul, det_mul, dD]
    have huv : 0 < u * v := Int.mul_pos (by omega) (by omega)
    refine ⟨m3, m4, _, M4, rfl, hM3.tup (Tup.but b5 ((p2.mono s3).mono s4)), hM4, bd3.small (by decide), fun H6 m5 s6 hM5 => k _ _ _ ((((b1'.trans b2).trans (But.of s3)).trans (But.of s4)).trans (b5.trans (But.of s6))) ((p5.mono s6).less (by omega)) hM5 ⟨bd5, ?_, ?_⟩⟩
    · rw [hd]
      generalize u * v = w at huv
      rcases un1 with e | e <;> rcases un4 with e' | e' <;> rw [e, e'] <;> omega
    · rw [hd]
      generalize u * v = w at huv uv
      rcases un1 with e | e <;> rcases un4 with e' | e' <;> rw [e, e'] <;> omega
end
end J
set_option Elab.async false
set_option linter.all false
set_option maxRecDepth 100000
set_option maxHeartbeats 4000000
set_option exponentiation.threshold 3000
namespace J
open PySem PySem.Spec PyProof.Rows L2 TL

/-! JB3: == of a list with an empty one. -/
def rEqNil (K : PySem.W.Frag) : R2 := fun x y H Q => ∃ a b xs, x = .ref a ∧ y = .ref b ∧ SqL K H a xs ∧ SqL K H b [] ∧ Q (.bl xs.isEmpty) H
theorem op_eqNil {X : Cx} (hu : X.A.units + 1 < cLine) : OpR X (compareOp .Eq) (rEqNil X.K) := by
  intro pins s σ H x y v u Q I rx ry h
  obtain ⟨a, b, xs, rfl, rfl, ha, hb, q⟩ := h
  cases rx
  cases ry
  obtain ⟨us, r1, p1, _⟩ := I.list ha
  obtain ⟨ws, r2, p2, _⟩ := I.list hb
  cases r2
  cases xs with
  | nil =>
    cases r1
    exact SeqAt.eq_listAt (e := fun _ => true) p1.isList p2.isList rfl (by omega) (fun j h1 => absurd h1 (Nat.not_lt_zero j)) ⟨.bl true, H, I, rfl, q⟩
  | cons z zs =>
    cases r1
    exact SeqAt.eq_list_lengthsAt p1.isList p2.isList (by simp) (by omega) ⟨.bl false, H, I, rfl, q⟩
end J
set_option Elab.async false
set_option linter.all false
set_option maxRecDepth 100000
set_option maxHeartbeats 4000000
set_option exponentiation.threshold 3000
namespace J
open PySem PySem.Spec PyProof.Rows L2 TL

/-! J14: the reader. -/
theorem upd_id {H : Hp} {p : Addr} {o : HO} (h : H p = some o) : upd H p o = H := funext fun b => by
  unfold upd
  by_cases e : b = p
  · rw [if_pos e, e, h]
  · rw [if_neg e]
def rdr (K : PySem.W.Frag) (dx : Addr) (W : Str) (r : Nat) : HO := .ins (He.ga K "Reader") dx [("whole", .str W), ("reached", .int r)]
/-- what is left -/
abbrev lft (W : Str) (r : Nat) : List Nat := (tl W).drop r
theorem lft_add (W : Str) (r k : Nat) : (lft W r).drop k = lft W (r + k) := List.drop_drop ..
theorem lft_tail {W : Str} {r c : Nat} {s : List Nat} (h : lft W r = c :: s) : lft W (r + 1) = s := by
  rw [← lft_add, h]
  rfl
theorem seen_nil {W : Str} {r : Nat} (h : lft W r = []) : cutS W (some (r : Int)) (some ((r : Int) + 1)) = "" := ext_tl (by
  rw [tl_cut_one]
  show (lft W r).take 1 = _
  rw [h]
  decide +kernel)
theorem seen_cons {W : Str} {r c : Nat} {s : List Nat} (h : lft W r = c :: s) : cutS W (some (r : Int)) (some ((r : Int) + 1)) = ⟨#[c]⟩ := ext_tl (by
  rw [tl_cut_one]
  show (lft W r).take 1 = _
  rw [h]
  rfl)
theorem chr_eq {c d : Nat} : decide (V.str ⟨#[c]⟩ = V.str ⟨#[d]⟩) = decide (c = d) := by
  apply decide_eq_decide.mpr
  constructor
  · intro h
    injection h with h
    injection h with h
    injection h with h
    injection h
  · rintro rfl
    rfl
theorem sp_chr : (" " : Str) = ⟨#[32]⟩ := by decide +kernel
theorem nl_chr : ("\n" : Str) = ⟨#[10]⟩ := by decide +kernel
theorem dot_chr : ("." : Str) = ⟨#[46]⟩ := by decide +kernel
theorem emp_tl : tl ("" : Str) = [] := by decide +kernel
theorem emp_eq {x : Str} : decide (V.str x = V.str "") = decide (tl x = []) := by
  apply decide_eq_decide.mpr
  constructor
  · intro h
    injection h with h
    rw [h, emp_tl]
  · intro h
    exact congrArg V.str (ext_tl (h.trans emp_tl.symm))
theorem in_one {x : Str} {c : Nat} : (!(Builtin.Str.occurrences x ⟨#[c]⟩ 0 x.length 1).isEmpty) = decide (c ∈ tl x) := StrLaws.found_one x c
section
variable {P : Program} {w : World} {K : PySem.W.Frag} {mg : Str → Option Value} {base : Heap}
def sp_Reader_init (K : PySem.W.Frag) : Sp := fun vs H Q _ => ∃ (p dx : Addr) (W : Str), vs = [.ref p, .str W] ∧ H p = some (.ins (He.ga K "Reader") dx []) ∧ ∀ H', But p H H' → H' p = some (rdr K dx W 0) → Q .non H'
abbrev N_Reader___init__ : List Str := ["self", "text"]
theorem sc_Reader___init__ : FnScope N_Reader___init__ ["self", "text"] (defScope s_Reader___init__) := ⟨rfl, rfl, rfl, by decide +kernel, rfl, by decide +kernel, by decide +kernel⟩
theorem ok_Reader_init (T : Tx K mg) : Mm P w K mg base CX0 1 "Reader" (He.ga K "Reader") (sp_Reader_init K) [] := by
  obtain ⟨fd, F⟩ := T.d_Reader___init__
  refine mm_of (ps := ["self", "text"]) F T.k_Reader T.g_Reader (FunD.cl0 F sc_Reader___init__ (fun vs H Q E h => ?_) (fun cdv A outer s H vs Q E hr h => ?_)) fun _ _ _ _ _ _ us hl => match us, hl with | [_, _], _ => rfl
  · obtain ⟨p, dx, W, rfl, _⟩ := h
    rfl
  · obtain ⟨p, dx, W, rfl, hp, k⟩ := h
    refine ⟨_, (pss_cons (ps_fld (pv 0) (pv 1) rfl)
      (pss_one (ps_fld (pv 0) pe_int rfl))), ?_⟩
    exact ⟨_, rfl, _, rfl, p, _, dx, _, rfl, hp, T.c_Reader, T.n_Reader_whole, by decide, _, rfl, p, _, dx, _, rfl, upd_same, T.c_Reader, T.n_Reader_reached, by show 1 < 1000; decide, k _ (But.refl H).put.put upd_same⟩
def sp_Reader_seen (K : PySem.W.Frag) : Sp := fun vs H Q _ => ∃ (p dx : Addr) (W : Str) (r : Nat), vs = [.ref p] ∧ H p = some (rdr K dx W r) ∧ W.length ≤ 100000 ∧ (lft W r = [] → Q (.str "") H) ∧ ∀ c s, lft W r = c :: s → Q (.str ⟨#[c]⟩) H
abbrev N_Reader_seen : List Str := ["self"]
theorem sc_Reader_seen : FnScope N_Reader_seen ["self"] (defScope s_Reader_seen) := ⟨rfl, rfl, rfl, by decide +kernel, rfl, by decide +kernel, by decide +kernel⟩
theorem ok_Reader_seen (T : Tx K mg) : Ml P w K mg base CX0 1 (He.ga K "Reader") "seen" (sp_Reader_seen K) [] := by
  obtain ⟨fd, F⟩ := T.d_Reader_seen
  refine ml_of (ps := ["self"]) F T.c_Reader T.m_Reader_seen (FunD.cl0 F sc_Reader_seen (fun vs H Q E h => ?_) (fun cdv A outer s H vs Q E hr h => ?_)) fun _ _ _ _ _ _ us hl => match us, hl with | [_], _ => rfl
  · obtain ⟨p, dx, W, r, rfl, _⟩ := h
    rfl
  · obtain ⟨p, dx, W, r, rfl, hp, hW, k0, k1⟩ := h
    refine ⟨_, (pss_one (ps_ret (pe_slice sl_str (pe_fld (pv 0) rfl) (po_some (pe_fld (pv 0) rfl)) (po_some (pe_op op_add (pe_fld (pv 0) rfl) pe_int))))), ?_⟩
    refine ⟨_, rfl, p, _, dx, _, _, rfl, hp, T.c_Reader, T.n_Reader_whole, rfl, _, rfl, p, _, dx, _, _, rfl, hp, T.c_Reader, T.n_Reader_reached, rfl, _, rfl, _, rfl, p, _, dx, _, _, rfl, hp, T.c_Reader, T.n_Reader_reached, rfl, _, _, rfl, rfl, _, rfl, W, rfl, short_le hW, ?_⟩
    cases h : lft W r with
    | nil =>
      rw [seen_nil h]
      exact k0 h
    | cons c s =>
      rw [seen_cons h]
      exact k1 c s h
theorem rdr_lk {K : PySem.W.Frag} {H : Hp} {p dx : Addr} {W : Str} {r : Nat} (h : H p = some (rdr K dx W r)) : H p = some (.ins (He.ga K "Reader") dx [("whole", .str W), ("reached", .int r)]) := h
/-- spaces ahead -/
def sp_Reader_skip (K : PySem.W.Frag) : Sp := fun vs H Q _ => ∃ (p dx : Addr) (W : Str) (r k : Nat) (s : List Nat), vs = [.ref p] ∧ H p = some (rdr K dx W r) ∧ W.length ≤ 100000 ∧ lft W r = List.replicate k 32 ++ s ∧ s.head? ≠ some 32 ∧ ∀ H', H' = upd H p (rdr K dx W (r + k)) → Q .non H'
abbrev N_Reader_skip : List Str := ["self"]
theorem sc_Reader_skip : FnScope N_Reader_skip ["self"] (defScope s_Reader_skip) := ⟨rfl, rfl, rfl, by decide +kernel, rfl, by decide +kernel, by decide +kernel⟩
theorem ok_Reader_skip (T : Tx K mg) : Ml P w K mg base CX0 2 (He.ga K "Reader") "skip" (sp_Reader_skip K) [] := by
  obtain ⟨fd, F⟩ := T.d_Reader_skip
  refine ml_of (ps := ["self"]) F T.c_Reader T.m_Reader_skip (FunD.cl0 F sc_Reader_skip (fun vs H Q E h => ?_) (fun cdv A outer s H vs Q E hr h => ?_)) fun _ _ _ _ _ _ us hl => match us, hl with | [_], _ => rfl
  · obtain ⟨p, dx, W, r, k, s, rfl, _⟩ := h
    rfl
  · obtain ⟨p, dx, W, r, k, s, rfl, hp, hW, hl, hs, kk⟩ := h
    refine ⟨_, (pss_one (ps_while (PassesOwn.never) (pt_cmpR op_eq (pe_ml0 (ok_Reader_seen T) hr pass0 (pv 0)) pe_str (nomark _)) (pss_one (ps_fldaug (pv 0) pe_int in_add)))), ?_⟩
    refine ⟨fun m σ H' => ∃ j, j ≤ k ∧ m = k - j ∧ σ = [some (.ref p)] ∧ H' = upd H p (rdr K dx W (r + j)), ⟨k, 0, Nat.zero_le _, rfl, rfl, (upd_id hp).symm⟩, ?_⟩
    rintro m σ H' ⟨j, hj, rfl, rfl, rfl⟩
    have e : lft W (r + j) = List.replicate (k - j) 32 ++ s := by
      rw [← lft_add, hl, List.drop_append, List.drop_replicate, List.length_replicate, Nat.sub_eq_zero_of_le hj, List.drop_zero]
    refine ⟨_, rfl, p, dx, _, rfl, upd_same, rfl, p, dx, W, r + j, rfl, upd_same, hW, fun h => ?_, fun c t h => ?_⟩
    · refine ⟨rfl, _, rfl, ?_⟩
      have hk : j = k := by
        rw [e] at h
        have := congrArg List.length h
        rw [List.length_append, List.length_replicate] at this
        simp at this
        omega
      subst hk
      exact kk _ rfl
    · refine ⟨rfl, _, rfl, ?_⟩
      rw [sp_chr, chr_eq]
      refine ite2 (fun h2 => ?_) (fun h2 => ?_)
      · have h2 : c = 32 := by simpa using h2
        have hk : j < k := by
          rcases Nat.lt_or_eq_of_le hj with q | q
          · exact q
          · exfalso
            rw [e, q, Nat.sub_self] at h
            have h : s = c :: t := h
            rw [h, h2] at hs
            exact hs rfl
        refine ⟨fun σ' H' => ∃ m', m' < k - j ∧ ∃ j, j ≤ k ∧ m' = k - j ∧ σ' = [some (.ref p)] ∧ H' = upd H p (rdr K dx W (r + j)), fun _ _ h => h, ?_⟩
        refine ⟨_, rfl, p, _, dx, _, _, rfl, upd_same, T.c_Reader, T.n_Reader_reached, rfl, _, _, rfl, rfl, dx, _, upd_same, by show 2 < 1000; decide, ?_⟩
        refine ⟨k - (j + 1), by omega, j + 1, hk, rfl, rfl, ?_⟩
        rw [upd_upd]
        rfl
      · have h2 : c ≠ 32 := by simpa using h2
        have hk : j = k := by
          rcases Nat.lt_or_eq_of_le hj with q | q
          · exfalso
            rw [e] at h
            obtain ⟨n, hn⟩ : ∃ n, k - j = n + 1 := ⟨k - j - 1, by omega⟩
            rw [hn, List.replicate_succ] at h
            injection h with h
            exact h2 h.symm
          · exact q
        subst hk
        exact kk _ rfl
end
end J
set_option Elab.async false
set_option linter.all false
set_option maxRecDepth 100000
set_option maxHeartbeats 4000000
set_option exponentiation.threshold 3000
namespace J
open PySem PySem.Spec PyProof.Rows L2 TL

/-! J15: the reader's other ways. -/
theorem lft_end {W : Str} {r : Nat} : lft W r = [] ↔ W.length ≤ r := by
  rw [len_tl]
  exact List.drop_eq_nil_iff
theorem spl_head {l : List Nat} : ∀ acc : List Nat, ∃ t, spl [10] 0 acc l = (acc ++ l.takeWhile (fun c => c != 10)) :: t := by
  induction l with
  | nil =>
    intro acc
    exact ⟨[], by rw [spl_nil, List.takeWhile_nil, List.append_nil]⟩
  | cons c r ih =>
    intro acc
    by_cases h : c = 10
    · subst h
      refine ⟨spl [10] 0 [] r, ?_⟩
      rw [spl_hit (by rfl), List.takeWhile_cons]
      show acc :: _ = _
      simp
    · obtain ⟨t, ht⟩ := ih (acc ++ [c])
      refine ⟨t, ?_⟩
      rw [spl_miss (pre_of_head [] r h), ht, List.takeWhile_cons]
      have : (c != 10) = true := by simpa using h
      rw [if_pos this, List.append_assoc]
      rfl
theorem split_head (x : Str) : ∃ y t, Txt.split x "\n" = y :: t ∧ tl y = (tl x).takeWhile (fun c => c != 10) := by
  have e : tl ("\n" : Str) = [10] := by decide +kernel
  have h := split_spl x "\n" (by rw [e]; simp) (kind_ok (by decide +kernel))
  rw [e] at h
  obtain ⟨t, ht⟩ := spl_head (l := tl x) []
  rw [ht, List.nil_append] at h
  cases hs : Txt.split x "\n" with
  | nil => rw [hs] at h; cases h
  | cons y t' =>
    rw [hs] at h
    injection h with h1 h2
    exact ⟨y, t', rfl, h1⟩
/-- does the name go on? -/
def goesB (told : List Nat) (c : Nat) : Bool :=
  if told = [] then decide (97 ≤ c ∧ c ≤ 122) else if c = 46 then (decide (told.getLast? ≠ some 46) && decide (told.length < 39)) else (decide ((97 ≤ c ∧ c ≤ 122) ∨ (48 ≤ c ∧ c ≤ 57)) && decide (told.length < 40))
theorem letters_mem {c : Nat} : decide (c ∈ tl ("abcdefghijklmnopqrstuvwxyz" : Str)) = decide (97 ≤ c ∧ c ≤ 122) := by
  apply decide_eq_decide.mpr
  have hl : tl ("abcdefghijklmnopqrstuvwxyz" : Str) = (List.range 26).map (97 + ·) := by decide +kernel
  rw [hl, List.mem_map]
  constructor
  · rintro ⟨j, hj, rfl⟩
    have := List.mem_range.mp hj
    omega
  · intro h
    exact ⟨c - 97, List.mem_range.mpr (by omega), by omega⟩
theorem signs_mem {c : Nat} : decide (c ∈ tl ("abcdefghijklmnopqrstuvwxyz0123456789" : Str)) = decide ((97 ≤ c ∧ c ≤ 122) ∨ (48 ≤ c ∧ c ≤ 57)) := by
  apply decide_eq_decide.mpr
  have hl : tl ("abcdefghijklmnopqrstuvwxyz0123456789" : Str) = (List.range 26).map (97 + ·) ++ (List.range 10).map (48 + ·) := by decide +kernel
  rw [hl, List.mem_append, List.mem_map, List.mem_map]
  constructor
  · rintro (⟨j, hj, rfl⟩ | ⟨j, hj, rfl⟩)
    · have := List.mem_range.mp hj
      omega
    · have := List.mem_range.mp hj
      omega
  · rintro (h | h)
    · exact .inl ⟨c - 97, List.mem_range.mpr (by omega), by omega⟩
    · exact .inr ⟨c - 48, List.mem_range.mpr (by omega), by omega⟩
section
variable {P : Program} {w : World} {K : PySem.W.Frag} {mg : Str → Option Value} {base : Heap}
def sp_Reader_has_words (K : PySem.W.Frag) : Sp := fun vs H Q _ => ∃ (p dx : Addr) (W : Str) (r : Nat), vs = [.ref p] ∧ H p = some (rdr K dx W r) ∧ W.length ≤ 100000 ∧ (∀ c s, lft W r = c :: s → c ≠ 32 ∧ c ≠ 10) ∧ Q (.bl (!(lft W r).isEmpty)) H
abbrev N_Reader_has_words : List Str := ["self"]
theorem sc_Reader_has_words : FnScope N_Reader_has_words ["self"] (defScope s_Reader_has_words) := ⟨rfl, rfl, rfl, by decide +kernel, rfl, by decide +kernel, by decide +kernel⟩
theorem ok_Reader_has_words (T : Tx K mg) : Ml P w K mg base CX0 2 (He.ga K "Reader") "has_words" (sp_Reader_has_words K) [] := by
  obtain ⟨fd, F⟩ := T.d_Reader_has_words
  refine ml_of (ps := ["self"]) F T.c_Reader T.m_Reader_has_words (FunD.cl0 F sc_Reader_has_words (fun vs H Q E h => ?_) (fun cdv A outer s H vs Q E hr h => ?_)) fun _ _ _ _ _ _ us hl => match us, hl with | [_], _ => rfl
  · obtain ⟨p, dx, W, r, rfl, _⟩ := h
    rfl
  · obtain ⟨p, dx, W, r, rfl, hp, hW, hc, k⟩ := h
    refine ⟨_, (pss_cons (ps_while (PassesOwn.never) (pw_and (pt_cmpR op_ne (pe_ml0 (ok_Reader_seen T) hr pass0 (pv 0)) pe_str (nomark _)) (pw_and1 (pt_cmpR op_in_str (pe_ml0 (ok_Reader_seen T) hr pass0 (pv 0)) pe_str rfl))).pt (pss_one (ps_fldaug (pv 0) pe_int in_add)))
      (pss_one (ps_ret (pe_cmpR op_lt (pe_fld (pv 0) rfl) (pe_lenT T (pe_fld (pv 0) rfl)) (nomark _))))), ?_⟩
    refine ⟨fun m σ H' => σ = [some (.ref p)] ∧ H' = H, ⟨0, rfl, rfl⟩, ?_⟩
    rintro m σ H' ⟨rfl, rfl⟩
    have fin : tRet (tOp (rI0 fun i j => .bl (decide (i < j))) (tFld K (tVar 0) "reached") (tCB (fun xs H Q => ∃ z, xs = [.str z] ∧ z.length ≤ sizeLine ∧ Q (.int z.length) H) (tCons (tFld K (tVar 0) "whole") tNil))) { nx := fun _ H' => Q .non H', rt := Q } [some (.ref p)] H' := by
      refine ⟨_, rfl, p, _, dx, _, _, rfl, hp, T.c_Reader, T.n_Reader_reached, rfl, _, rfl, p, _, dx, _, _, rfl, hp, T.c_Reader, T.n_Reader_whole, rfl, W, rfl, short_le hW, _, _, rfl, rfl, ?_⟩
      have e : decide ((r : Int) < (W.length : Int)) = !(lft W r).isEmpty := by
        by_cases h : lft W r = []
        · have h1 := lft_end.mp h
          rw [h, decide_eq_false (by omega)]
          rfl
        · have h1 : ¬ W.length ≤ r := fun z => h (lft_end.mpr z)
          rw [decide_eq_true (by omega)]
          cases hl : lft W r with
          | nil => exact absurd hl h
          | cons => rfl
      show Q (.bl (decide ((r : Int) < (W.length : Int)))) H'
      rw [e]
      exact k
    refine ⟨_, rfl, p, dx, _, rfl, hp, rfl, p, dx, W, r, rfl, hp, hW, fun h => ?_, fun c s h => ?_⟩
    · refine ⟨rfl, _, rfl, ?_⟩
      exact iteF (iteF fin)
    · refine ⟨rfl, _, rfl, ?_⟩
      obtain ⟨h1, h2⟩ := hc c s h
      refine iteT ⟨_, rfl, p, dx, _, rfl, hp, rfl, p, dx, W, r, rfl, hp, hW, fun h' => absurd (h'.symm.trans h) (by simp), fun c' s' h' => ?_⟩
      rw [h] at h'
      injection h' with e1 e2
      subst e1
      refine ⟨_, _, rfl, rfl, _, rfl, ?_⟩
      rw [in_one]
      have e : tl (" \n" : Str) = [32, 10] := by decide +kernel
      rw [e]
      refine ite2 (fun z => ?_) (fun _ => fin)
      exfalso
      have z : c = 32 ∨ c = 10 := by simpa using z
      omega
def sp_Reader_has_more (K : PySem.W.Frag) : Sp := fun vs H Q _ => ∃ (p dx : Addr) (W : Str) (r : Nat), vs = [.ref p] ∧ H p = some (rdr K dx W r) ∧ W.length ≤ 100000 ∧
  (((lft W r = [] ∨ ∃ s, lft W r = 10 :: s) ∧ ∀ H', Same H H' → Q (.bl false) H') ∨ ((∃ c s, lft W r = 32 :: c :: s ∧ c ≠ 32 ∧ c ≠ 10) ∧ ∀ H', Same H H' → Q (.bl true) H'))
abbrev N_Reader_has_more : List Str := ["self", "rest"]
theorem sc_Reader_has_more : FnScope N_Reader_has_more ["self"] (defScope s_Reader_has_more) := ⟨rfl, rfl, rfl, by decide +kernel, rfl, by decide +kernel, by decide +kernel⟩
theorem ok_Reader_has_more (T : Tx K mg) : Ml P w K mg base CX0 1 (He.ga K "Reader") "has_more" (sp_Reader_has_more K) [] := by
  obtain ⟨fd, F⟩ := T.d_Reader_has_more
  refine ml_of (ps := ["self"]) F T.c_Reader T.m_Reader_has_more (FunD.cl0 F sc_Reader_has_more (fun vs H Q E h => ?_) (fun cdv A outer s H vs Q E hr h => ?_)) fun _ _ _ _ _ _ us hl => match us, hl with | [_], _ => rfl
  · obtain ⟨p, dx, W, r, rfl, _⟩ := h
    rfl
  · obtain ⟨p, dx, W, r, rfl, hp, hW, k⟩ := h
    refine ⟨_, (pss_cons (st 1 sc_Reader_has_more.nd (pe_at (pe_bm PySem.F.plainAttrs_str PySem.F.slot_str_split PySem.F.type_str_split mt_split (pe_slice sl_str (pe_fld (pv 0) rfl) (po_some (pe_fld (pv 0) rfl)) po_none) (pa_cons pe_str pa_nil)) pe_int))
      (pss_one (ps_ret (pe_cmpR op_ne (pe_bm PySem.F.plainAttrs_str PySem.F.slot_str_strip PySem.F.type_str_strip mt_stripChars (pv 1) (pa_cons pe_str pa_nil)) pe_str (nomark _))))), ?_⟩
    have e0 := tl_cut_from W r
    have hl : (cutS W (some (r : Int)) none).length ≤ 100000 := Nat.le_trans (cutS_length _ _ _) hW
    obtain ⟨y, t, hs, hy⟩ := split_head (cutS W (some (r : Int)) none)
    have hyl : y.length ≤ 100000 := by
      rw [len_tl, hy]
      exact Nat.le_trans (List.takeWhile_sublist _).length_le (by rw [← len_tl]; exact hl)
    refine ⟨_, rfl, p, _, dx, _, _, rfl, hp, T.c_Reader, T.n_Reader_whole, rfl, _, rfl, p, _, dx, _, _, rfl, hp, T.c_Reader, T.n_Reader_reached, rfl, _, rfl, W, rfl, short_le hW, rfl, _, _, rfl, rfl, by decide +kernel, by have : sizeLine = 16777216 := rfl; omega, fun l nl => ?_⟩
    refine SeqAt.ix (i := 0) ⟨l, rfl, .inr upd_same⟩ (by rw [hs]; rfl) ?_
    refine ⟨_, rfl, rfl, _, _, rfl, rfl, short_le hyl, rfl, ?_⟩
    have en : (!decide (V.str (Txt.stripChars y " ") = V.str "")) = !decide (tl (Txt.stripChars y " ") = []) := by rw [emp_eq]
    rw [en]
    rw [e0] at hy
    rcases k with ⟨h, k⟩ | ⟨⟨c, s, h, c1, c2⟩, k⟩
    · have hy0 : tl y = [] := by
        rw [hy]
        rcases h with h | ⟨s, h⟩
        · show (lft W r).takeWhile _ = []
          rw [h]
          rfl
        · show (lft W r).takeWhile _ = []
          rw [h]
          rfl
      rw [strip_empty y " " hy0]
      exact k _ (same_new nl)
    · have hm : c ∈ tl y := by
        rw [hy]
        show c ∈ (lft W r).takeWhile _
        rw [h, List.takeWhile_cons, List.takeWhile_cons]
        have : (c != 10) = true := by simpa using c2
        rw [this]
        simp
      have hne := strip_some y " " hm (by
        have e : (" " : Str).cps = #[32] := by decide +kernel
        rw [e]
        simpa [Array.contains_iff] using c1)
      rw [decide_eq_false hne]
      exact k _ (same_new nl)
def sp_Reader_need_space (K : PySem.W.Frag) : Sp := fun vs H Q _ => ∃ (p dx : Addr) (W : Str) (r : Nat) (s : List Nat), vs = [.ref p] ∧ H p = some (rdr K dx W r) ∧ W.length ≤ 100000 ∧ lft W r = 32 :: s ∧ s.head? ≠ some 32 ∧ ∀ H', H' = upd H p (rdr K dx W (r + 1)) → Q .non H'
abbrev N_Reader_need_space : List Str := ["self"]
theorem sc_Reader_need_space : FnScope N_Reader_need_space ["self"] (defScope s_Reader_need_space) := ⟨rfl, rfl, rfl, by decide +kernel, rfl, by decide +kernel, by decide +kernel⟩
theorem ok_Reader_need_space (T : Tx K mg) : Ml P w K mg base CX0 4 (He.ga K "Reader") "need_space" (sp_Reader_need_space K) [] := by
  obtain ⟨fd, F⟩ := T.d_Reader_need_space
  refine ml_of (ps := ["self"]) F T.c_Reader T.m_Reader_need_space (FunD.cl0 F sc_Reader_need_space (fun vs H Q E h => ?_) (fun cdv A outer s H vs Q E hr h => ?_)) fun _ _ _ _ _ _ us hl => match us, hl with | [_], _ => rfl
  · obtain ⟨p, dx, W, r, s, rfl, _⟩ := h
    rfl
  · obtain ⟨p, dx, W, r, s', rfl, hp, hW, hl, hs, k⟩ := h
    refine ⟨_, (pss_cons (ps_if (pt_cmpR op_ne (pe_ml0 (ok_Reader_seen T) hr pass0 (pv 0)) pe_str (nomark _)) (pss_one (ps_never)) pss_nil)
      (pss_one (ps_expr (pe_ml0 (ok_Reader_skip T) hr pass0 (pv 0))))), ?_⟩
    refine ⟨_, rfl, p, dx, _, rfl, hp, rfl, p, dx, W, r, rfl, hp, hW, fun h => absurd (h.symm.trans hl) (by simp), fun c t h => ?_⟩
    rw [hl] at h
    injection h with h1 h2
    subst h1
    refine ⟨rfl, _, rfl, ?_⟩
    rw [sp_chr, chr_eq]
    refine iteF ⟨_, rfl, p, dx, _, rfl, hp, rfl, p, dx, W, r, 1, s', rfl, hp, hW, hl, hs, k⟩
def sp_Reader_end_line (K : PySem.W.Frag) : Sp := fun vs H Q _ => ∃ (p dx : Addr) (W : Str) (r : Nat), vs = [.ref p] ∧ H p = some (rdr K dx W r) ∧ W.length ≤ 100000 ∧ ((lft W r = [] ∧ Q .non H) ∨ ((∃ s, lft W r = 10 :: s) ∧ ∀ H', H' = upd H p (rdr K dx W (r + 1)) → Q .non H'))
abbrev N_Reader_end_line : List Str := ["self"]
theorem sc_Reader_end_line : FnScope N_Reader_end_line ["self"] (defScope s_Reader_end_line) := ⟨rfl, rfl, rfl, by decide +kernel, rfl, by decide +kernel, by decide +kernel⟩
theorem ok_Reader_end_line (T : Tx K mg) : Ml P w K mg base CX0 4 (He.ga K "Reader") "end_line" (sp_Reader_end_line K) [] := by
  obtain ⟨fd, F⟩ := T.d_Reader_end_line
  refine ml_of (ps := ["self"]) F T.c_Reader T.m_Reader_end_line (FunD.cl0 F sc_Reader_end_line (fun vs H Q E h => ?_) (fun cdv A outer s H vs Q E hr h => ?_)) fun _ _ _ _ _ _ us hl => match us, hl with | [_], _ => rfl
  · obtain ⟨p, dx, W, r, rfl, _⟩ := h
    rfl
  · obtain ⟨p, dx, W, r, rfl, hp, hW, k⟩ := h
    refine ⟨_, (pss_cons (ps_expr (pe_ml0 (ok_Reader_skip T) hr pass0 (pv 0)))
      (pss_one (ps_if (pt_cmpR op_lt (pe_fld (pv 0) rfl) (pe_lenT T (pe_fld (pv 0) rfl)) (nomark _)) (pss_cons (ps_if (pt_cmpR op_ne (pe_ml0 (ok_Reader_seen T) hr pass0 (pv 0)) pe_str (nomark _)) (pss_one (ps_never)) pss_nil) (pss_one (ps_fldaug (pv 0) pe_int in_add))) pss_nil))), ?_⟩
    have hd : (lft W r).head? ≠ some 32 := by
      rcases k with ⟨h, _⟩ | ⟨⟨s, h⟩, _⟩
      · rw [h]
        intro z
        cases z
      · rw [h]
        intro z
        cases z
    have e1 : upd H p (rdr K dx W (r + 0)) = H := upd_id hp
    refine ⟨_, rfl, p, dx, _, rfl, hp, rfl, p, dx, W, r, 0, lft W r, rfl, hp, hW, rfl, hd, fun H' e => ?_⟩
    obtain rfl : H' = H := e.trans e1
    refine ⟨_, rfl, p, _, dx, _, _, rfl, hp, T.c_Reader, T.n_Reader_reached, rfl, _, rfl, p, _, dx, _, _, rfl, hp, T.c_Reader, T.n_Reader_whole, rfl, W, rfl, short_le hW, _, _, rfl, rfl, _, rfl, ?_⟩
    rcases k with ⟨h, k⟩ | ⟨⟨s, h⟩, k⟩
    · have := lft_end.mp h
      rw [decide_eq_false (by omega)]
      exact iteF k
    · have h0 : ¬ W.length ≤ r := fun z => by
        rw [lft_end.mpr z] at h
        cases h
      rw [decide_eq_true (by omega)]
      refine iteT ⟨_, rfl, p, dx, _, rfl, hp, rfl, p, dx, W, r, rfl, hp, hW, fun h' => absurd (h'.symm.trans h) (by simp), fun c t h' => ?_⟩
      rw [h] at h'
      injection h' with h1 h2
      subst h1
      refine ⟨rfl, _, rfl, ?_⟩
      rw [nl_chr, chr_eq]
      exact iteF ⟨_, rfl, p, _, dx, _, _, rfl, hp, T.c_Reader, T.n_Reader_reached, rfl, _, _, rfl, rfl, dx, _, hp, by show 2 < 1000; decide, k _ rfl⟩
def sp_Reader_goes_on (K : PySem.W.Frag) : Sp := fun vs H Q _ => ∃ (p dx : Addr) (W told : Str) (r c : Nat) (s : List Nat), vs = [.ref p, .str told, .bl true] ∧ H p = some (rdr K dx W r) ∧ W.length ≤ 100000 ∧ lft W r = c :: s ∧ told.length ≤ 100000 ∧ Q (.bl (goesB (tl told) c)) H
abbrev N_Reader_goes_on : List Str := ["self", "told", "dots", "sign"]
theorem sc_Reader_goes_on : FnScope N_Reader_goes_on ["self", "told", "dots"] (defScope s_Reader_goes_on) := ⟨rfl, rfl, rfl, by decide +kernel, rfl, by decide +kernel, by decide +kernel⟩
theorem ok_Reader_goes_on (T : Tx K mg) : Ml P w K mg base CX0 2 (He.ga K "Reader") "goes_on" (sp_Reader_goes_on K) [] := by
  obtain ⟨fd, F⟩ := T.d_Reader_goes_on
  refine ml_of (ps := ["self", "told", "dots"]) F T.c_Reader T.m_Reader_goes_on (FunD.cl0 F sc_Reader_goes_on (fun vs H Q E h => ?_) (fun cdv A outer s H vs Q E hr h => ?_)) fun _ _ _ _ _ _ us hl => match us, hl with | [_, _, _], _ => rfl
  · obtain ⟨p, dx, W, told, r, c, s, rfl, _⟩ := h
    rfl
  · obtain ⟨p, dx, W, told, r, c, s', rfl, hp, hW, hl, ht, k⟩ := h
    refine ⟨_, (pss_cons (st 3 sc_Reader_goes_on.nd (pe_ml0 (ok_Reader_seen T) hr pass0 (pv 0)))
      (pss_cons (ps_if (pt_cmpR op_eq (pv 1) pe_str (nomark _)) (pss_one (ps_ret (pe_cmpR op_in_str (pv 3) (pe_gs rfl T.z_LETTERS) rfl))) pss_nil)
      (pss_cons (ps_if (pt_cmpR op_eq (pv 3) pe_str (nomark _)) (pss_one (ps_ret (pe_and (pv 2) (pe_and (pe_cmpR op_ne (pe_ix ix_str (pv 1) (pe_un un_neg pe_int) (fun _ _ => rfl)) pe_str (nomark _)) (pe_one (pe_cmpR op_lt (pe_lenT T (pv 1)) (pe_op op_sub (pe_gi rfl T.i_MOST_SIGNS) pe_int) (nomark _))))))) pss_nil)
      (pss_one (ps_ret (pe_and (pe_cmpR op_in_str (pv 3) (pe_gs rfl T.z_SIGNS) rfl) (pe_one (pe_cmpR op_lt (pe_lenT T (pv 1)) (pe_gi rfl T.i_MOST_SIGNS) (nomark _))))))))), ?_⟩
    refine ⟨_, rfl, p, dx, _, rfl, hp, rfl, p, dx, W, r, rfl, hp, hW, fun h' => absurd (h'.symm.trans hl) (by simp), fun c' t h' => ?_⟩
    rw [hl] at h'
    injection h' with h1 h2
    subst h1
    unfold goesB at k
    refine ⟨_, rfl, rfl, _, rfl, ?_⟩
    rw [emp_eq]
    refine ite2 (fun h => ?_) (fun h => ?_)
    · have h : tl told = [] := by simpa using h
      rw [if_pos h] at k
      refine ⟨_, rfl, _, _, rfl, rfl, ?_⟩
      rw [in_one, letters_mem]
      exact k
    · have h : tl told ≠ [] := by simpa using h
      rw [if_neg h] at k
      refine ⟨_, rfl, rfl, _, rfl, ?_⟩
      rw [dot_chr, chr_eq]
      refine ite2 (fun h2 => ?_) (fun h2 => ?_)
      · have h2 : c = 46 := by simpa using h2
        rw [if_pos h2] at k
        obtain ⟨d, hd, hla⟩ := atI_last h
        refine ⟨_, rfl, true, rfl, iteT ⟨_, rfl, 1, rfl, told, -1, d, rfl, rfl, short_le ht, hd, rfl, ?_⟩⟩
        refine ⟨_, rfl, ?_⟩
        rw [chr_eq]
        rw [hla] at k
        by_cases h3 : d = 46
        · rw [decide_eq_true h3]
          have e : decide ((some d : Option Nat) ≠ some 46) = false := by rw [h3]; rfl
          rw [e] at k
          exact iteF k
        · rw [decide_eq_false h3]
          have e : decide ((some d : Option Nat) ≠ some 46) = true := decide_eq_true (fun z => h3 (by injection z))
          rw [e, Bool.true_and] at k
          refine iteT ⟨_, rfl, told, rfl, short_le ht, _, _, rfl, rfl, _, _, rfl, rfl, ?_⟩
          have e2 : decide ((told.length : Int) < (40 : Int) - 1) = decide ((tl told).length < 39) := by
            apply decide_eq_decide.mpr
            rw [len_tl]
            omega
          show Q (.bl (decide ((told.length : Int) < (40 : Int) - 1))) _
          rw [e2]
          exact k
      · have h2 : c ≠ 46 := by simpa using h2
        rw [if_neg h2] at k
        refine ⟨_, rfl, _, _, rfl, rfl, _, rfl, ?_⟩
        rw [in_one, signs_mem]
        refine ite2 (fun h3 => ?_) (fun h3 => ?_)
        · rw [h3, Bool.true_and] at k
          refine ⟨_, rfl, told, rfl, short_le ht, _, _, rfl, rfl, ?_⟩
          have e2 : decide ((told.length : Int) < (40 : Int)) = decide ((tl told).length < 40) := by
            apply decide_eq_decide.mpr
            rw [len_tl]
            omega
          show Q (.bl (decide ((told.length : Int) < (40 : Int)))) _
          rw [e2]
          exact k
        · have h3 := Bool.eq_false_iff.mpr h3
          rw [h3, Bool.false_and] at k
          exact k
end
end J
set_option Elab.async false
set_option linter.all false
set_option maxRecDepth 100000
set_option maxHeartbeats 4000000
set_option exponentiation.threshold 3000
namespace J
open PySem PySem.Spec PyProof.Rows L2 TL

/-! J16: words, numbers, names read. -/
def numS (n : Int) : Str := Str.ofString (toString n)
def numCheck (n : Int) : Bool := (intText? (numS n) == some n) && (tl (numS n)).all (fun c => c != 32 && c != 10) && !(tl (numS n)).isEmpty && decide ((numS n).length ≤ 640)
theorem num_all : ((List.range 199).all fun k => numCheck ((k : Int) - 99)) = true := by decide +kernel
theorem num_ok {n : Int} (h : n.natAbs ≤ 99) : intText? (numS n) = some n ∧ (∀ c ∈ tl (numS n), c ≠ 32 ∧ c ≠ 10) ∧ tl (numS n) ≠ [] ∧ (numS n).length ≤ 640 := by
  have h1 := List.all_eq_true.mp num_all (n + 99).toNat (List.mem_range.mpr (by omega))
  have e : ((n + 99).toNat : Int) - 99 = n := by omega
  rw [e] at h1
  unfold numCheck at h1
  simp only [Bool.and_eq_true, beq_iff_eq, decide_eq_true_eq, List.all_eq_true, bne_iff_ne, Bool.not_eq_true'] at h1
  obtain ⟨⟨⟨h1, h2⟩, h3⟩, h4⟩ := h1
  refine ⟨h1, h2, fun z => ?_, h4⟩
  rw [z] at h3
  cases h3
/-- what stands behind a word -/
def Stop (s : List Nat) : Prop := ∀ c t, s = c :: t → c = 32 ∨ c = 10
theorem goes_in {l : List Nat} (h : NameL l) (h40 : l.length ≤ 40) {i c : Nat} (hc : l[i]? = some c) : goesB (l.take i) c = true := by
  have hi := (List.getElem?_eq_some_iff.mp hc).1
  unfold goesB
  by_cases h0 : i = 0
  · subst h0
    obtain ⟨d, r, e, hd⟩ := h.hd
    rw [e] at hc
    injection hc with hc
    rw [List.take_zero, if_pos rfl, ← hc]
    exact decide_eq_true hd
  · have hne : l.take i ≠ [] := fun z => by
      have := congrArg List.length z
      rw [List.length_take, List.length_nil] at this
      omega
    rw [if_neg hne]
    have hlast : (l.take i).getLast? = l[i - 1]? := by
      rw [List.getLast?_eq_getElem?, List.length_take, List.getElem?_take_of_lt (by omega)]
      congr 1
      omega
    by_cases hc46 : c = 46
    · rw [if_pos hc46, hlast, List.length_take]
      have a1 : l[i - 1]? ≠ some 46 := fun z => h.nd (i - 1) z (by rw [show i - 1 + 1 = i by omega, hc, hc46])
      have a2 : i < 39 := by
        rcases Nat.lt_or_ge (i + 1) l.length with q | q
        · omega
        · exfalso
          apply h.la
          rw [List.getLast?_eq_getElem?, show l.length - 1 = i by omega, hc, hc46]
      rw [decide_eq_true a1, decide_eq_true (by omega)]
      rfl
    · rw [if_neg hc46, List.length_take]
      have a1 : (97 ≤ c ∧ c ≤ 122) ∨ (48 ≤ c ∧ c ≤ 57) := by
        rcases h.al c (mem_at hc) with q | q | q
        · exact .inl q
        · exact .inr q
        · exact absurd q hc46
      rw [decide_eq_true a1, decide_eq_true (by omega)]
      rfl
theorem goes_out {l : List Nat} (h : l ≠ []) {c : Nat} (hc : c = 32 ∨ c = 10) : goesB l c = false := by
  unfold goesB
  rw [if_neg h, if_neg (by omega), decide_eq_false (by omega)]
  rfl
theorem lft_word {W : Str} {r j : Nat} {l s : List Nat} (h : lft W r = l ++ s) (hj : j ≤ l.length) : lft W (r + j) = l.drop j ++ s := by
  rw [← lft_add, h, List.drop_append, Nat.sub_eq_zero_of_le hj, List.drop_zero]
theorem take_snoc {l : List Nat} {j c : Nat} (h : l[j]? = some c) : l.take (j + 1) = l.take j ++ [c] := by
  rw [List.take_succ, h]
  rfl
theorem lft_at {W : Str} {r j : Nat} {l s : List Nat} (h : lft W r = l ++ s) {c : Nat} {t : List Nat} (e : lft W (r + j) = c :: t) (hj : j < l.length) : l[j]? = some c := by
  rw [lft_word h (by omega)] at e
  have := congrArg (fun z => z[0]?) e
  simp only [List.getElem?_cons_zero] at this
  rw [List.getElem?_append_left (by rw [List.length_drop]; omega), List.getElem?_drop] at this
  exact this
section
variable {P : Program} {w : World} {K : PySem.W.Frag} {mg : Str → Option Value} {base : Heap}
def sp_Reader_new_name (K : PySem.W.Frag) : Sp := fun vs H Q _ => ∃ (p dx tk : Addr) (W : Str) (r : Nat) (x : Str) (s : List Nat) (taken : List Str), vs = [.ref p, .ref tk, .bl true] ∧ H p = some (rdr K dx W r) ∧ W.length ≤ 100000 ∧ lft W r = tl x ++ s ∧ NameOk x ∧ Stop s ∧ H tk = some (.lst (taken.map V.str)) ∧ x ∉ taken ∧
  ∀ H', H' = upd H p (rdr K dx W (r + x.length)) → Q (.str x) H'
abbrev N_Reader_new_name : List Str := ["self", "taken", "dots", "told"]
theorem sc_Reader_new_name : FnScope N_Reader_new_name ["self", "taken", "dots"] (defScope s_Reader_new_name) := ⟨rfl, rfl, rfl, by decide +kernel, rfl, by decide +kernel, by decide +kernel⟩
theorem fn_Reader_new_name (T : Tx K mg) : ∃ fd, FunD K "new_name" "Reader.new_name" (defArgs s_Reader_new_name) (defBody s_Reader_new_name) (defScope s_Reader_new_name) [.bl true] [] (He.fAd K ("Reader", some "new_name")) fd ∧ FnOk P w K mg base CX0 4 (He.fAd K ("Reader", some "new_name")) fd ["self", "taken", "dots"] (sp_Reader_new_name K) := by
  obtain ⟨fd, F⟩ := T.d_Reader_new_name
  refine ⟨fd, F, FunD.cl0 F sc_Reader_new_name (fun vs H Q E h => ?_) (fun cdv A outer s H vs Q E hr h => ?_)⟩
  · obtain ⟨p, dx, tk, W, r, x, s, taken, rfl, _⟩ := h
    rfl
  · obtain ⟨p, dx, tk, W, r, x, s', taken, rfl, hp, hW, hl, hx, hs, ht, hn, k⟩ := h
    refine ⟨_, (pss_cons (st 3 sc_Reader_new_name.nd pe_str)
      (pss_cons (ps_while (PassesOwn.never) (pw_and (pt_cmpR op_ne (pe_ml0 (ok_Reader_seen T) hr pass0 (pv 0)) pe_str (nomark _)) (pw_and1 (pt_val (pe_ml (ok_Reader_goes_on T) hr pass0 (pv 0) (pa_cons (pv 3) (pa_cons (pv 2) pa_nil)))))).pt (pss_cons (ps_aug (i := 3) sc_Reader_new_name.nd rfl (.inl rfl) (pe_ml0 (ok_Reader_seen T) hr pass0 (pv 0)) iop_add_str) (pss_one (ps_fldaug (pv 0) pe_int in_add))))
      (pss_cons (ps_if (pw_or (pt_cmpR op_eq (pv 3) pe_str (nomark _)) (pw_or (pt_cmpR op_eq (pe_ix ix_str (pv 3) (pe_un un_neg pe_int) (fun _ _ => rfl)) pe_str (nomark _)) (pw_or1 (pt_cmpR op_in_seq (pv 3) (pv 1) rfl)))).pt (pss_one (ps_never)) pss_nil)
      (pss_one (ps_ret (pv 3)))))), ?_⟩
    have hne := hx.1.toNmL.ne
    have hxl : x.length = (tl x).length := len_tl x
    refine ⟨fun m σ H' => ∃ (j : Nat) (told : Str), j ≤ x.length ∧ m = x.length - j ∧ σ = [some (.ref p), some (.ref tk), some (.bl true), some (.str told)] ∧ tl told = (tl x).take j ∧ H' = upd H p (rdr K dx W (r + j)), ⟨x.length, 0, "", Nat.zero_le _, rfl, rfl, emp_tl, (upd_id hp).symm⟩, ?_⟩
    rintro m σ H' ⟨j, told, hj, rfl, rfl, hto, rfl⟩
    have htl : told.length ≤ 40 := by
      have := hx.2
      rw [len_tl, hto, List.length_take]
      omega
    have stop : j = x.length → (tIfS (tOr (tTest (tOp rEq (tVar 3) (tC (.str "")))) (tOr (tTest (tOp rEq (tOp rIxS (tVar 3) (tUn (rU fun i => .int (-i)) (tC (.int 1)))) (tC (.str ".")))) (tTest (tOp (rIn K false) (tVar 3) (tVar 1))))) tNever tNext) { nx := tRet (tVar 3) { nx := fun _ H' => Q .non H', rt := Q }, rt := Q } [some (.ref p), some (.ref tk), some (.bl true), some (.str told)] (upd H p (rdr K dx W (r + j))) := by
      rintro rfl
      have et : told = x := ext_tl (hto.trans (List.take_of_length_le (by omega)))
      subst et
      have htk : upd H p (rdr K dx W (r + told.length)) tk = some (.lst (taken.map V.str)) := by
        rw [upd_ne (ne_of ht hp (by intro z; cases z))]
        exact ht
      refine ⟨_, rfl, rfl, _, rfl, ?_⟩
      rw [emp_eq, decide_eq_false hne]
      obtain ⟨d, hd, hla⟩ := atI_last hne
      refine iteF ⟨_, rfl, 1, rfl, told, -1, d, rfl, rfl, short_le (by omega), hd, rfl, _, rfl, ?_⟩
      rw [dot_chr, chr_eq, decide_eq_false (fun z => hx.1.la (by rw [hla, z]))]
      refine iteF ⟨_, rfl, _, rfl, tk, _, rfl, .inl (SqL.of htk), rfl, flat_strs, _, rfl, ?_⟩
      have e : (if false = true then !inV (V.str told) (taken.map V.str) else inV (V.str told) (taken.map V.str)) = false := by
        rw [if_neg Bool.false_ne_true, inV_str, decide_eq_false hn]
      rw [e]
      exact iteF ⟨_, rfl, k _ rfl⟩
    refine ⟨_, rfl, p, dx, _, rfl, upd_same, rfl, p, dx, W, r + j, rfl, upd_same, hW, fun h => ?_, fun c t h => ?_⟩
    · refine ⟨rfl, _, rfl, iteF (iteF ?_)⟩
      refine stop ?_
      rw [lft_word hl (by omega)] at h
      have := congrArg List.length h
      rw [List.length_append, List.length_drop, List.length_nil] at this
      omega
    · refine ⟨rfl, _, rfl, ?_⟩
      have e1 : (!decide (V.str ⟨#[c]⟩ = V.str "")) = true := by
        rw [emp_eq, tl_one]
        rfl
      rw [e1]
      refine iteT ⟨_, rfl, p, dx, _, rfl, upd_same, rfl, _, rfl, _, rfl, p, dx, W, told, r + j, c, t, rfl, upd_same, hW, h, by omega, _, rfl, ?_⟩
      rw [hto]
      by_cases hjl : j < x.length
      · have hc := lft_at hl h (by omega)
        rw [goes_in hx.1 (by have := hx.2; omega) hc]
        refine iteT ⟨fun σ' H' => ∃ m', m' < x.length - j ∧ ∃ (j : Nat) (told : Str), j ≤ x.length ∧ m' = x.length - j ∧ σ' = [some (.ref p), some (.ref tk), some (.bl true), some (.str told)] ∧ tl told = (tl x).take j ∧ H' = upd H p (rdr K dx W (r + j)), fun _ _ h => h, ?_⟩
        refine ⟨_, rfl, _, rfl, p, dx, _, rfl, upd_same, rfl, p, dx, W, r + j, rfl, upd_same, hW, fun h' => absurd (h'.symm.trans h) (by simp), fun c' t' h' => ?_⟩
        rw [h] at h'
        injection h' with h1 h2
        subst h1
        have e2 : tl (told ++ ⟨#[c]⟩) = (tl x).take (j + 1) := by
          rw [tl_append, hto, take_snoc hc]
        refine ⟨_, _, rfl, rfl, by show told.length + 1 ≤ _; have : sizeLine = 16777216 := rfl; omega, ?_⟩
        refine ⟨_, rfl, p, _, dx, _, _, rfl, upd_same, T.c_Reader, T.n_Reader_reached, rfl, _, _, rfl, rfl, dx, _, upd_same, by show 2 < 1000; decide, ?_⟩
        refine ⟨x.length - (j + 1), by omega, j + 1, _, hjl, rfl, rfl, e2, ?_⟩
        rw [upd_upd]
        rfl
      · have hje : j = x.length := by omega
        rw [goes_out (l := (tl x).take j) (by rw [List.take_of_length_le (by omega)]; exact hne) (hs c t (by
          rw [lft_word hl (by omega), List.drop_of_length_le (by omega)] at h
          exact h))]
        exact iteF (stop hje)
theorem ok_Reader_new_name (T : Tx K mg) : Ml P w K mg base CX0 4 (He.ga K "Reader") "new_name" (sp_Reader_new_name K) [] := by
  obtain ⟨fd, F, G⟩ := fn_Reader_new_name (P := P) (w := w) (base := base) T
  obtain ⟨ds, v, b⟩ := F.binds1 (ps := ["self", "taken", "dots"]) 3 1 (by simp) rfl fun T kV doc pm an cdv ct us its h1 h2 => match us, its, h1, h2 with
    | [_, _, _], [_], _, _ => ⟨_, rfl, rfl⟩
  exact ⟨_, fd, _, ds, T.c_Reader, T.m_Reader_new_name, G, b, v⟩
theorem ok_Reader_new_name2 (T : Tx K mg) : Ml P w K mg base CX0 4 (He.ga K "Reader") "new_name" (sp_Reader_new_name K) [.bl true] := by
  obtain ⟨fd, F, G⟩ := fn_Reader_new_name (P := P) (w := w) (base := base) T
  obtain ⟨ds, v, b⟩ := F.binds1 (ps := ["self", "taken", "dots"]) 2 0 (by simp) rfl fun T kV doc pm an cdv ct us its h1 h2 => match us, its, h1, h2 with
    | [_, _], [_], _, _ => ⟨_, rfl, rfl⟩
  exact ⟨_, fd, _, ds, T.c_Reader, T.m_Reader_new_name, G, b, v⟩
end
end J
set_option Elab.async false
set_option linter.all false
set_option maxRecDepth 100000
set_option maxHeartbeats 4000000
set_option exponentiation.threshold 3000
namespace J
open PySem PySem.Spec PyProof.Rows L2 TL

/-! J17: words, numbers. -/
theorem tl_cut_len (z y : Str) : tl (cutS z none (some ((y.length : Nat) : Int))) = (tl z).take y.length := tl_cut_to z y.length
theorem cut_eq {z y : Str} : decide (V.str (cutS z none (some ((y.length : Nat) : Int))) = V.str y) = decide ((tl z).take (tl y).length = tl y) := by
  apply decide_eq_decide.mpr
  constructor
  · intro h
    injection h with h
    have := congrArg tl h
    rw [tl_cut_len, len_tl] at this
    exact this
  · intro h
    refine congrArg V.str (ext_tl ?_)
    rw [tl_cut_len, len_tl]
    exact h
theorem filter_take_succ {α : Type} {P : α → Bool} {xs : List α} {i : Nat} {x : α} (h : xs[i]? = some x) : (xs.take (i + 1)).filter P = (xs.take i).filter P ++ (if P x = true then [x] else []) := by
  have e : xs.take (i + 1) = xs.take i ++ [x] := by rw [List.take_succ, h]; rfl
  rw [e, List.filter_append]
  congr 1
  cases hP : P x with
  | true => rw [if_pos rfl, List.filter_cons_of_pos hP]; rfl
  | false => rw [if_neg Bool.false_ne_true, List.filter_cons_of_neg (by rw [hP]; exact Bool.false_ne_true)]; rfl
/-- the words that begin so -/
def fitsW (words : List Str) (l : List Nat) : List Str := words.filter fun w => decide ((tl w).take l.length = l)
theorem fitsW_snoc {words : List Str} {l : List Nat} {c : Nat} : (fitsW words l).filter (fun w => decide ((tl w).take (l ++ [c]).length = l ++ [c])) = fitsW words (l ++ [c]) := by
  unfold fitsW
  rw [List.filter_filter]
  refine List.filter_congr fun w _ => ?_
  by_cases h : (tl w).take (l ++ [c]).length = l ++ [c]
  · have h2 : (tl w).take l.length = l := by
      have := congrArg (List.take l.length) h
      rw [List.take_take, List.length_append, List.take_left] at this
      rw [Nat.min_eq_left (by omega)] at this
      exact this
    rw [decide_eq_true h, decide_eq_true h2]
    rfl
  · rw [decide_eq_false h]
    rfl
theorem fitsW_nil {words : List Str} : fitsW words [] = words := by
  unfold fitsW
  rw [List.filter_eq_self]
  intro w _
  exact decide_eq_true (List.take_zero ..)
theorem fitsW_sep {words : List Str} {l : List Nat} {c : Nat} (h : ∀ w ∈ words, ∀ d ∈ tl w, d ≠ 32 ∧ d ≠ 10) (hc : c = 32 ∨ c = 10) : fitsW words (l ++ [c]) = [] := by
  unfold fitsW
  rw [List.filter_eq_nil_iff]
  intro w hw z
  have z : (tl w).take (l ++ [c]).length = l ++ [c] := of_decide_eq_true z
  have hm : c ∈ tl w := by
    have : c ∈ (tl w).take (l ++ [c]).length := by
      rw [z]
      exact List.mem_append_right _ (List.mem_singleton.mpr rfl)
    exact List.mem_of_mem_take this
  have := h w hw c hm
  omega
section
variable {P : Program} {w : World} {K : PySem.W.Frag} {mg : Str → Option Value} {base : Heap}
def sp_Reader_word_of (K : PySem.W.Frag) : Sp := fun vs H Q _ => ∃ (p dx l : Addr) (W : Str) (r : Nat) (words : List Str) (t : Str) (s : List Nat), vs = [.ref p, .ref l] ∧ H p = some (rdr K dx W r) ∧ W.length ≤ 100000 ∧ H l = some (.lst (words.map V.str)) ∧ words.length ≤ 1000 ∧
  (∀ w ∈ words, (∀ d ∈ tl w, d ≠ 32 ∧ d ≠ 10) ∧ w.length ≤ 1000) ∧ t ∈ words ∧ tl t ≠ [] ∧ lft W r = tl t ++ s ∧ Stop s ∧ ∀ H', But p H H' → H' p = some (rdr K dx W (r + t.length)) → Q (.str t) H'
theorem But.at {p q : Addr} {H H' : Hp} {o u : HO} (b : But p H H') (hq : H q = some o) (hp : H p = some u) (hne : o ≠ u) : H' q = some o := b _ _ (ne_of hq hp hne) hq
abbrev N_Reader_word_of : List Str := ["self", "words", "told", "left", "more", "fitting", "word"]
theorem sc_Reader_word_of : FnScope N_Reader_word_of ["self", "words"] (defScope s_Reader_word_of) := ⟨rfl, rfl, rfl, by decide +kernel, rfl, by decide +kernel, by decide +kernel⟩
theorem ok_Reader_word_of (T : Tx K mg) : Ml P w K mg base CX0 4 (He.ga K "Reader") "word_of" (sp_Reader_word_of K) [] := by
  obtain ⟨fd, F⟩ := T.d_Reader_word_of
  refine ml_of (ps := ["self", "words"]) F T.c_Reader T.m_Reader_word_of (FunD.cl0 F sc_Reader_word_of (fun vs H Q E h => ?_) (fun cdv A outer s H vs Q E hr h => ?_)) fun _ _ _ _ _ _ us hl => match us, hl with | [_, _], _ => rfl
  · obtain ⟨p, dx, l, W, r, words, t, s, rfl, _⟩ := h
    rfl
  · obtain ⟨p, dx, l, W, r, words, t, s', rfl, hp, hW, hl, w1, wo, ht, t0, hf, hs, k⟩ := h
    have hu := hu_of hr
    refine ⟨_, (pss_cons (par2 2 3 sc_Reader_word_of.nd (pa_cons pe_str (pa_cons (pe_lstOf T (pv 1)) pa_nil)))
      (pss_cons (ps_while (PassesOwn.never) (pt_val pe_bl) (pss_cons (st 4 sc_Reader_word_of.nd (pe_op op_add_str (pv 2) (pe_ml0 (ok_Reader_seen T) hr pass0 (pv 0)))) (pss_cons (st 5 sc_Reader_word_of.nd (pe_ifExp (pt_cmpR op_gt (pe_lenT T (pv 4)) (pe_lenT T (pv 2)) (nomark _)) (pe_lc rfl sc_Reader_word_of.nd (pi_list (pv 3)) (blkOk_by (own := [("word", 6)]) (N := N_Reader_word_of) (sc := defScope s_Reader_word_of) (by decide +kernel)) (fun _ _ _ _ _ => (gn 6 sc_Reader_word_of.nd)) (fun _ _ _ _ _ => pts_one (pt_cmpR op_eq (pe_slice sl_str (pv 6) po_none (po_some (pe_lenT T (pv 4)))) (pv 4) (nomark _))) (fun _ _ _ _ _ => (pv 6))) (pe_lst pa_nil))) (pss_cons (ps_if (pt_cmpR (op_eqNil hu) (pv 5) (pe_lst pa_nil) (nomark _)) (pss_one (ps_break)) pss_nil) (pss_cons (par2 2 3 sc_Reader_word_of.nd (pa_cons (pv 4) (pa_cons (pv 5) pa_nil))) (pss_one (ps_fldaug (pv 0) pe_int in_add)))))))
      (pss_cons (ps_if (pw_or (pt_cmpR op_eq (pv 2) pe_str (nomark _)) (pw_or1 (pt_cmpR op_notIn_seq (pv 2) (pv 3) rfl))).pt (pss_one (ps_never)) pss_nil)
      (pss_one (ps_ret (pv 2)))))), ?_⟩
    have htl : t.length ≤ 1000 := (wo t ht).2
    have hxl : t.length = (tl t).length := len_tl t
    refine ⟨_, rfl, l, _, rfl, .inl (SqL.of hl), fun l0 n0 => ⟨_, _, rfl, ?_⟩⟩
    have pl0 : p ≠ l0 := ne_of_none hp n0
    refine ⟨fun m σ H' => ∃ (j : Nat) (told : Str) (lf : Addr) (mo fi : Option V), j ≤ t.length ∧ m = t.length - j ∧ σ = [some (.ref p), some (.ref l), some (.str told), some (.ref lf), mo, fi, none] ∧ tl told = (tl t).take j ∧ But p H H' ∧ H' p = some (rdr K dx W (r + j)) ∧ H' lf = some (.lst ((fitsW words ((tl t).take j)).map V.str)) ∧ H lf = none, ⟨t.length, 0, "", l0, none, none, Nat.zero_le _, rfl, rfl, emp_tl, (But.refl H).new n0, by rw [upd_ne pl0]; exact hp, by rw [upd_same, List.take_zero, fitsW_nil], n0⟩, ?_⟩
    rintro m σ H' ⟨j, told, lf, mo, fi, hj, rfl, rfl, hto, b, hr', hlf, hlfn⟩
    have hpl : p ≠ lf := ne_of_none hp hlfn
    have htol : told.length ≤ 1000 := by
      rw [len_tl, hto, List.length_take]
      omega
    refine ⟨true, rfl, iteT ⟨fun σ' H' => ∃ m', m' < t.length - j ∧ ∃ (j : Nat) (told : Str) (lf : Addr) (mo fi : Option V), j ≤ t.length ∧ m' = t.length - j ∧ σ' = [some (.ref p), some (.ref l), some (.str told), some (.ref lf), mo, fi, none] ∧ tl told = (tl t).take j ∧ But p H H' ∧ H' p = some (rdr K dx W (r + j)) ∧ H' lf = some (.lst ((fitsW words ((tl t).take j)).map V.str)) ∧ H lf = none, fun _ _ h => h, ?_⟩⟩
    have stop : j = t.length → ∀ (mo fi : Option V) (H2 : Hp), Same H' H2 → (tIfS (tOr (tTest (tOp rEq (tVar 2) (tC (.str "")))) (tTest (tOp (rIn K true) (tVar 2) (tVar 3)))) tNever tNext) { nx := tRet (tVar 2) { nx := fun _ H' => Q .non H', rt := Q }, rt := Q } [some (.ref p), some (.ref l), some (.str told), some (.ref lf), mo, fi, none] H2 := by
      rintro rfl mo fi H2 s2
      have et : told = t := ext_tl (hto.trans (List.take_of_length_le (by omega)))
      subst et
      refine ⟨_, rfl, rfl, _, rfl, ?_⟩
      rw [emp_eq, decide_eq_false t0]
      refine iteF ⟨_, rfl, _, rfl, lf, _, rfl, .inl (SqL.of (s2 _ _ hlf)), rfl, flat_strs, _, rfl, ?_⟩
      have hm : told ∈ fitsW words ((tl told).take told.length) := by
        unfold fitsW
        refine List.mem_filter.mpr ⟨ht, ?_⟩
        rw [← hto]
        exact decide_eq_true List.take_length
      have e : (if true = true then !inV (V.str told) ((fitsW words ((tl told).take told.length)).map V.str) else inV (V.str told) ((fitsW words ((tl told).take told.length)).map V.str)) = false := by
        rw [if_pos rfl, inV_str, decide_eq_true hm]
        rfl
      rw [e]
      exact iteF ⟨_, rfl, k _ (b.trans (But.of s2)) (s2 _ _ hr')⟩
    have hfl : lft W (r + j) = (tl t).drop j ++ s' := lft_word hf (by omega)
    refine ⟨_, rfl, _, rfl, p, dx, _, rfl, hr', rfl, p, dx, W, r + j, rfl, hr', hW, fun h => ?_, fun c u h => ?_⟩
    · have hje : j = t.length := by
        rw [hfl] at h
        have := congrArg List.length h
        rw [List.length_append, List.length_drop, List.length_nil] at this
        omega
      have ee : (told ++ "" : Str) = told := ext_tl (by rw [tl_append, emp_tl, List.append_nil])
      refine ⟨_, _, rfl, rfl, by rw [← len_append, ee]; exact short_le (by omega), ?_⟩
      rw [ee]
      refine ⟨_, rfl, told, rfl, short_le (by omega), _, rfl, told, rfl, short_le (by omega), _, _, rfl, rfl, _, rfl, ?_⟩
      rw [decide_eq_false (by omega)]
      refine iteF ⟨by show 0 ≤ sizeLine; decide, fun q nq => ?_⟩
      refine ⟨_, rfl, by show 0 ≤ sizeLine; decide, fun q2 nq2 => ⟨q, q2, [], rfl, rfl, SqL.of ((same_new nq2) _ _ upd_same), SqL.of upd_same, _, rfl, iteT ?_⟩⟩
      exact stop hje _ _ _ (sN (same_new nq) nq2)
    · have e1 : tl (told ++ ⟨#[c]⟩ : Str) = (tl t).take j ++ [c] := by rw [tl_append, hto]
      have e2 : (told ++ ⟨#[c]⟩ : Str).length = told.length + 1 := len_append ..
      refine ⟨_, _, rfl, rfl, by rw [← len_append, e2]; have : sizeLine = 16777216 := rfl; omega, ?_⟩
      refine ⟨_, rfl, _, rfl, short_le (by omega), _, rfl, told, rfl, short_le (by omega), _, _, rfl, rfl, _, rfl, ?_⟩
      rw [e2, decide_eq_true (by omega)]
      refine iteT ⟨_, rfl, lf, rfl, ⟨_, SqL.of hlf⟩, ?_⟩
      intro D hD
      have hDn : H D = none := by
        cases hz : H D with
        | none => rfl
        | some o =>
          by_cases hDp : D = p
          · rw [hDp, hr'] at hD
            cases hD
          · have := b _ _ hDp hz
            rw [hD] at this
            cases this
      have hlen : (fitsW words ((tl t).take j)).length ≤ 1000 := Nat.le_trans (List.length_filter_le _ _) w1
      refine lc_list (xs := (fitsW words ((tl t).take j)).map V.str) (fun i H'' => Same H' H'' ∧ H'' D = some (.lst ((((fitsW words ((tl t).take j)).take i).filter (fun w => decide ((tl w).take ((tl t).take j ++ [c]).length = (tl t).take j ++ [c]))).map V.str))) ⟨same_new hD, upd_same⟩ ?_ ?_ ?_
      · rintro i H'' hi ⟨s1, e⟩
        exact SqL.of (s1 _ _ hlf)
      · rintro i x H'' hx ⟨s1, e⟩
        obtain ⟨w, hw, rfl⟩ := map_at hx
        have hwm : w ∈ words := (List.mem_filter.mp (mem_at hw)).1
        refine ⟨rfl, _, rfl, _, rfl, _, rfl, short_le (by omega), _, rfl, w, rfl, short_le (Nat.le_trans (wo w hwm).2 (by decide)), _, rfl, rfl, _, rfl, ?_⟩
        rw [cut_eq, e1]
        have ef := filter_take_succ (P := fun w => decide ((tl w).take ((tl t).take j ++ [c]).length = (tl t).take j ++ [c])) hw
        refine ite2 (fun h2 => ?_) (fun h2 => ?_)
        · refine ⟨_, rfl, _, e, by rw [List.length_map]; exact small1000 (Nat.le_trans (List.length_filter_le _ _) (Nat.le_trans (List.length_take_le' ..) hlen)), sM s1 hD, ?_⟩
          rw [upd_same, ef]
          rw [if_pos h2, List.map_append]
          rfl
        · refine ⟨s1, ?_⟩
          rw [ef]
          rw [if_neg h2, List.append_nil]
          exact e
      · rintro H'' ⟨s1, e⟩
        rw [List.length_map, List.take_length, fitsW_snoc] at e
        refine ⟨_, rfl, by show 0 ≤ sizeLine; decide, fun q2 nq2 => ⟨D, q2, _, rfl, rfl, SqL.of ((same_new nq2) _ _ e), SqL.of upd_same, _, rfl, ?_⟩⟩
        have s2 : Same H' (upd H'' q2 (.lst [])) := sN s1 nq2
        by_cases hjl : j < t.length
        · have hc := lft_at hf h (by omega)
          have e3 : (tl t).take j ++ [c] = (tl t).take (j + 1) := (take_snoc hc).symm
          rw [e3] at e e1
          have hm : t ∈ fitsW words ((tl t).take (j + 1)) := by
            unfold fitsW
            refine List.mem_filter.mpr ⟨ht, decide_eq_true ?_⟩
            rw [List.length_take, Nat.min_eq_left (by omega)]
          have en : ((fitsW words ((tl t).take j ++ [c])).map V.str).isEmpty = false := by
            rw [e3]
            cases hq : fitsW words ((tl t).take (j + 1)) with
            | nil => rw [hq] at hm; cases hm
            | cons => rfl
          rw [en]
          refine iteF ⟨_, rfl, _, rfl, _, _, rfl, ?_⟩
          refine ⟨_, rfl, p, _, dx, _, _, rfl, s2 _ _ hr', T.c_Reader, T.n_Reader_reached, rfl, _, _, rfl, rfl, dx, _, s2 _ _ hr', by show 2 < 1000; decide, ?_⟩
          have hDp : D ≠ p := fun z => by
            rw [z, hr'] at hD
            cases hD
          refine ⟨t.length - (j + 1), by omega, j + 1, _, D, _, _, hjl, rfl, rfl, e1, (b.trans (But.of s2)).put, upd_same, ?_, hDn⟩
          rw [upd_ne hDp]
          exact (same_new nq2) _ _ e
        · have hje : j = t.length := by omega
          have hc : c = 32 ∨ c = 10 := hs c u (by
            rw [hfl, List.drop_of_length_le (by omega)] at h
            exact h)
          rw [fitsW_sep (fun w hw => (wo w hw).1) hc]
          exact iteT (stop hje _ _ _ s2)
end
end J
set_option Elab.async false
set_option linter.all false
set_option maxRecDepth 100000
set_option maxHeartbeats 4000000
set_option exponentiation.threshold 3000
namespace J
open PySem PySem.Spec PyProof.Rows L2 TL

/-! JB4: an attribute as a target within a tuple; int of a text. -/
/-- o.f as a target -/
def gFld (K : PySem.W.Frag) (to : TE) (f : Str) : TG := fun v σ H Q => to σ H fun x H1 => ∃ a C dx fs, x = .ref a ∧ H1 a = some (.ins C dx fs) ∧ Cls K C ∧ NoAttr K C f ∧ fs.length < 1000 ∧ Q σ (upd H1 a (.ins C dx (putF f v fs)))
theorem pg_fld {X : Cx} {o : Expr} {f : Str} {pos : Pos} {to : TE} (ho : PE X o to) : PG X (.Attribute o f pos) (gFld X.K to f) := by
  refine ⟨fun pins s σ H v u Q I r h => ?_⟩
  rw [assign_Attribute]
  refine wpAny_bind (wpAny_holding (thn (ho.run pins s σ H _ I h) fun ov s1 ⟨x, H1, I1, r1, q1⟩ => ?_))
  obtain ⟨a, C, dx, fs, ex, ea, c, n, l, q2⟩ := q1
  subst ex
  obtain rfl : ov = Value.ref a := r1
  first
    | exact wpAny_bind (wpAny_standAt (wpAny_bind (wpAny_holding (setattr_ok I1 ea c n l r fun s3 I3 => wpAny_release ⟨σ, _, I3, q2⟩))))
    | exact wpAny_bind (wpAny_standAt (wpAny_bind (wpAny_holding (setattr_ok I1 ea c n l r fun s3 I3 => ⟨σ, _, I3, q2⟩))))
theorem pe_intT {X : Cx} {e : Expr} {te : TE} {p pos : Pos} (T : Tx X.K X.mg) (he : PE X e te) (hg : Gl X "int" := by rfl) (hs : starEach (e :: []) X.env = (false, eval e X.env) :: starEach [] X.env := by rfl) :
    PE X (.Call (.Name "int" p) [e] [] pos) (tCB (fun xs H Q => ∃ a n, xs = [.str a] ∧ intText? a = some n ∧ a.length ≤ 640 ∧ Q (.int n) H) (tCons te tNil)) :=
  pe_callTy call_int_str hg T.f_int boot_int (pa_cons he pa_nil hs) (he := hs)
end J
set_option Elab.async false
set_option linter.all false
set_option maxRecDepth 100000
set_option maxHeartbeats 4000000
set_option exponentiation.threshold 3000
namespace J
open PySem PySem.Spec PyProof.Rows L2 TL

/-! J18: numbers, shifts, roads read. -/
def roadO (K : PySem.W.Frag) (dx : Addr) (r : Rd) (q : V) : HO := .ins (He.ga K "Road") dx [("name", .str r.name), ("start", .str r.start), ("end", .str r.fin), ("shift", q), ("price", .int r.price), ("label", labV r.label)]
def RoadO (K : PySem.W.Frag) (H : Hp) (v : V) (r : Rd) : Prop := ∃ (p dx : Addr) (q : V), v = .ref p ∧ H p = some (roadO K dx r q) ∧ CellAt H q r.sx r.sy
theorem RoadO.mono {K : PySem.W.Frag} {H H' : Hp} {v : V} {r : Rd} (h : RoadO K H v r) (s : Same H H') : RoadO K H' v r := let ⟨p, dx, q, e, a, b⟩ := h; ⟨p, dx, q, e, s _ _ a, b.mono s⟩
theorem CellAt.but {p : Addr} {H H' : Hp} {v : V} {x y : Int} {o : HO} (h : CellAt H v x y) (b : But p H H') (hp : H p = some o) (hn : ∀ xs, o ≠ .tup xs) : CellAt H' v x y := by
  obtain ⟨q, e, hq⟩ := h
  exact ⟨q, e, b _ _ (ne_of hq hp (fun z => hn _ z.symm)) hq⟩
theorem road_rdr {K : PySem.W.Frag} {dx dx' : Addr} {r : Rd} {q : V} {W : Str} {n : Nat} : roadO K dx r q ≠ rdr K dx' W n := by
  intro z
  unfold roadO rdr at z
  injection z with _ _ z
  injection z with z
  injection z with z _
  exact absurd z (by decide +kernel)
theorem rdr_tup {K : PySem.W.Frag} {dx : Addr} {W : Str} {n : Nat} (xs : List V) : rdr K dx W n ≠ .tup xs := by
  intro z
  cases z
theorem RoadO.but {K : PySem.W.Frag} {p dx : Addr} {W : Str} {n : Nat} {H H' : Hp} {v : V} {r : Rd} (h : RoadO K H v r) (b : But p H H') (hp : H p = some (rdr K dx W n)) : RoadO K H' v r := by
  obtain ⟨q, d, c, e, a, hc⟩ := h
  exact ⟨q, d, c, e, b _ _ (ne_of a hp road_rdr) a, hc.but b hp rdr_tup⟩
/-- a new instance's doings -/
theorem but_same {x : Addr} {H1 G H2 : Hp} {o : HO} (b : But x (upd G x o) H2) (s : Same H1 G) (h : H1 x = none) : Same H1 H2 := fun q u e => by
  have hne : q ≠ x := ne_of_none e h
  refine b q u hne ?_
  rw [upd_ne hne]
  exact s q u e
theorem But.free' {p D : Addr} {H H1 : Hp} {o : HO} (b : But p H H1) (hp : H1 p = some o) (hn : H1 D = none) : H D = none := by
  cases hz : H D with
  | none => rfl
  | some u =>
    have hne : D ≠ p := fun z => by
      rw [z, hp] at hn
      cases hn
    have := b _ _ hne hz
    rw [hn] at this
    cases this
theorem stop32 {s : List Nat} : Stop (32 :: s) := fun c t h => by
  injection h with h _
  exact .inl h.symm
section
variable {P : Program} {w : World} {K : PySem.W.Frag} {mg : Str → Option Value} {base : Heap}
def sp_Reader_number_of (K : PySem.W.Frag) : Sp := fun vs H Q _ => ∃ (p dx : Addr) (W : Str) (r : Nat) (lo hi n : Int) (s : List Nat), vs = [.ref p, .int lo, .int hi] ∧ H p = some (rdr K dx W r) ∧ W.length ≤ 100000 ∧ -99 ≤ lo ∧ lo ≤ n ∧ n ≤ hi ∧ hi ≤ 99 ∧ lft W r = tl (numS n) ++ s ∧ Stop s ∧
  ∀ H', But p H H' → H' p = some (rdr K dx W (r + (numS n).length)) → Q (.int n) H'
abbrev N_Reader_number_of : List Str := ["self", "low", "high", "number"]
theorem sc_Reader_number_of : FnScope N_Reader_number_of ["self", "low", "high"] (defScope s_Reader_number_of) := ⟨rfl, rfl, rfl, by decide +kernel, rfl, by decide +kernel, by decide +kernel⟩
theorem ok_Reader_number_of (T : Tx K mg) : Ml P w K mg base CX0 5 (He.ga K "Reader") "number_of" (sp_Reader_number_of K) [] := by
  obtain ⟨fd, F⟩ := T.d_Reader_number_of
  refine ml_of (ps := ["self", "low", "high"]) F T.c_Reader T.m_Reader_number_of (FunD.cl0 F sc_Reader_number_of (fun vs H Q E h => ?_) (fun cdv A outer s H vs Q E hr h => ?_)) fun _ _ _ _ _ _ us hl => match us, hl with | [_, _, _], _ => rfl
  · obtain ⟨p, dx, W, r, lo, hi, n, s, rfl, _⟩ := h
    rfl
  · obtain ⟨p, dx, W, r, lo, hi, n, s', rfl, hp, hW, l0, ln, nh, h9, hl, hs, k⟩ := h
    refine ⟨_, (pss_one (ps_ret (pe_intT T (pe_ml (ok_Reader_word_of T) hr pass0 (pv 0) (pa_cons (pe_lc rfl sc_Reader_number_of.nd (pi_range2 rfl T.f_range (pa_cons (pv 1) (pa_cons (pe_op op_add (pv 2) pe_int) pa_nil))) (blkOk_by (own := [("number", 3)]) (N := N_Reader_number_of) (sc := defScope s_Reader_number_of) (by decide +kernel)) (fun _ _ _ _ _ => (gn 3 sc_Reader_number_of.nd)) (fun _ _ _ _ _ => pts_nil) (fun _ _ _ _ _ => (pe_strI T (pv 3)))) pa_nil))))), ?_⟩
    refine ⟨_, rfl, p, dx, _, rfl, hp, rfl, _, rfl, _, rfl, _, _, rfl, rfl, lo, hi + 1, rfl, ⟨by omega, by omega, by omega, by omega⟩, ?_⟩
    intro D hD
    have hpD : p ≠ D := ne_of_none hp hD
    refine lc_range (fun i H' => Same H H' ∧ H' D = some (.lst (((List.range i).map fun k : Nat => numS (lo + (k : Int))).map V.str))) ⟨same_new hD, upd_same⟩ ?_ ?_
    · rintro i H' hi' ⟨s1, e⟩
      have hi' : i < 200 := by omega
      refine ⟨rfl, _, rfl, _, rfl, log_sm (by omega), _, e, by rw [List.length_map, List.length_map, List.length_range]; exact small1000 (by omega), sM s1 hD, ?_⟩
      rw [upd_same, List.range_succ, List.map_append, List.map_append]
      rfl
    · rintro H' ⟨s1, e⟩
      have hnum := num_ok (n := n) (by omega)
      refine ⟨p, dx, D, W, r, _, numS n, s', rfl, s1 _ _ hp, hW, e, by rw [List.length_map, List.length_range]; omega, ?_, ?_, hnum.2.2.1, hl, hs, fun H2 b2 e2 => ⟨numS n, n, rfl, hnum.1, hnum.2.2.2, k _ ((But.of s1).trans b2) e2⟩⟩
      · intro w hw
        obtain ⟨i, hi', rfl⟩ := List.mem_map.mp hw
        have := List.mem_range.mp hi'
        have h1 := num_ok (n := lo + (i : Int)) (by omega)
        exact ⟨h1.2.1, Nat.le_trans h1.2.2.2 (by decide)⟩
      · refine List.mem_map.mpr ⟨(n - lo).toNat, List.mem_range.mpr (by omega), ?_⟩
        have : lo + ((n - lo).toNat : Int) = n := by omega
        rw [this]
def sp_read_shift (K : PySem.W.Frag) : Sp := fun vs H Q _ => ∃ (p dx : Addr) (W : Str) (r : Nat) (x y : Int) (s : List Nat), vs = [.ref p] ∧ H p = some (rdr K dx W r) ∧ W.length ≤ 100000 ∧ x.natAbs ≤ 9 ∧ y.natAbs ≤ 9 ∧ lft W r = tl (numS x) ++ (32 :: (tl (numS y) ++ s)) ∧ Stop s ∧
  ∀ (H' : Hp) (v : V), But p H H' → H' p = some (rdr K dx W (r + ((numS x).length + (1 + (numS y).length)))) → CellAt H' v x y → Q v H'
theorem num_head {x : Int} (h : x.natAbs ≤ 99) {s : List Nat} : (tl (numS x) ++ s).head? ≠ some 32 := by
  obtain ⟨_, h2, h3, _⟩ := num_ok h
  cases e : tl (numS x) with
  | nil => exact absurd e h3
  | cons c t =>
    intro z
    injection z with z
    exact (h2 c (by rw [e]; exact List.mem_cons_self ..)).1 z
theorem lft_skip {W : Str} {r n : Nat} {l s : List Nat} (h : lft W r = l ++ s) (hn : n = l.length) : lft W (r + n) = s := by
  rw [← lft_add, h, hn, List.drop_left]
abbrev N_read_shift : List Str := ["reader", "first"]
theorem sc_read_shift : FnScope N_read_shift ["reader"] (defScope s_read_shift) := ⟨rfl, rfl, rfl, by decide +kernel, rfl, by decide +kernel, by decide +kernel⟩
theorem ok_read_shift (T : Tx K mg) : Cl P w K mg base CX0 6 "read_shift" (sp_read_shift K) [] := by
  obtain ⟨fd, F⟩ := T.d_read_shift
  refine cl_of (ps := ["reader"]) F T.g_read_shift (FunD.cl0 F sc_read_shift (fun vs H Q E h => ?_) (fun cdv A outer s H vs Q E hr h => ?_)) fun _ _ _ _ _ _ us hl => match us, hl with | [_], _ => rfl
  · obtain ⟨p, dx, W, r, x, y, s, rfl, _⟩ := h
    rfl
  · obtain ⟨p, dx, W, r, x, y, s', rfl, hp, hW, x9, y9, hl, hs, k⟩ := h
    refine ⟨_, (pss_cons (st 1 sc_read_shift.nd (pe_ml (ok_Reader_number_of T) hr pass0 (pv 0) (pa_cons (pe_un un_neg (pe_gi rfl T.i_MOST_SHIFT)) (pa_cons (pe_gi rfl T.i_MOST_SHIFT) pa_nil))))
      (pss_cons (ps_expr (pe_ml0 (ok_Reader_need_space T) hr pass0 (pv 0)))
      (pss_one (ps_ret (pe_tup (pa_cons (pv 1) (pa_cons (pe_ml (ok_Reader_number_of T) hr pass0 (pv 0) (pa_cons (pe_un un_neg (pe_gi rfl T.i_MOST_SHIFT)) (pa_cons (pe_gi rfl T.i_MOST_SHIFT) pa_nil))) pa_nil))))))), ?_⟩
    refine ⟨_, rfl, p, dx, _, rfl, hp, rfl, _, rfl, p, dx, W, r, -9, 9, x, _, rfl, hp, hW, by decide, by omega, by omega, by decide, hl, stop32, fun H1 b1 p1 => ?_⟩
    have l1 : lft W (r + (numS x).length) = 32 :: (tl (numS y) ++ s') := lft_skip hl (len_tl _)
    refine ⟨_, rfl, p, dx, _, rfl, p1, rfl, p, dx, W, _, _, rfl, p1, hW, l1, num_head (by omega), fun H2 e2 => ?_⟩
    have p2 : H2 p = some (rdr K dx W (r + (numS x).length + 1)) := by rw [e2]; exact upd_same
    have b2 : But p H1 H2 := by rw [e2]; exact (But.refl H1).put
    have l2 : lft W (r + (numS x).length + 1) = tl (numS y) ++ s' := lft_tail l1
    refine ⟨_, rfl, _, rfl, p, dx, _, rfl, p2, rfl, _, rfl, p, dx, W, _, -9, 9, y, _, rfl, p2, hW, by decide, by omega, by omega, by decide, l2, hs, fun H3 b3 p3 => ⟨by show 2 ≤ sizeLine; decide, fun t nt => ?_⟩⟩
    refine k _ _ (((b1.trans b2).trans b3).new nt) ?_ ⟨t, rfl, upd_same⟩
    rw [upd_ne (ne_of_none p3 nt), p3]
    have : r + (numS x).length + 1 + (numS y).length = r + ((numS x).length + (1 + (numS y).length)) := by omega
    rw [this]
    rfl
def sp_Road_init (K : PySem.W.Frag) : Sp := fun vs H Q _ => ∃ (p dx : Addr) (r : Rd) (q : V), vs = [.ref p, .str r.name, .str r.start, .str r.fin, q, .int r.price, labV r.label] ∧ H p = some (.ins (He.ga K "Road") dx []) ∧ ∀ H', But p H H' → H' p = some (roadO K dx r q) → Q .non H'
abbrev N_Road___init__ : List Str := ["self", "name", "start", "end", "shift", "price", "label"]
theorem sc_Road___init__ : FnScope N_Road___init__ ["self", "name", "start", "end", "shift", "price", "label"] (defScope s_Road___init__) := ⟨rfl, rfl, rfl, by decide +kernel, rfl, by decide +kernel, by decide +kernel⟩
theorem fn_Road___init__ (T : Tx K mg) : ∃ fd, FunD K "__init__" "Road.__init__" (defArgs s_Road___init__) (defBody s_Road___init__) (defScope s_Road___init__) [.non] [] (He.fAd K ("Road", some "__init__")) fd ∧ FnOk P w K mg base CX0 1 (He.fAd K ("Road", some "__init__")) fd ["self", "name", "start", "end", "shift", "price", "label"] (sp_Road_init K) := by
  obtain ⟨fd, F⟩ := T.d_Road___init__
  refine ⟨fd, F, FunD.cl0 F sc_Road___init__ (fun vs H Q E h => ?_) (fun cdv A outer s H vs Q E hr h => ?_)⟩
  · obtain ⟨p, dx, r, q, rfl, _⟩ := h
    rfl
  · obtain ⟨p, dx, r, q, rfl, hp, k⟩ := h
    refine ⟨_, (pss_cons (ps_asg (pe_tup (pa_cons (pv 1) (pa_cons (pv 2) (pa_cons (pv 3) pa_nil)))) (pg_tup rfl (pgs_cons (pg_fld (pv 0)) (pgs_cons (pg_fld (pv 0)) (pgs_cons (pg_fld (pv 0)) pgs_nil)))))
      (pss_one (ps_asg (pe_tup (pa_cons (pv 4) (pa_cons (pv 5) (pa_cons (pv 6) pa_nil)))) (pg_tup rfl (pgs_cons (pg_fld (pv 0)) (pgs_cons (pg_fld (pv 0)) (pgs_cons (pg_fld (pv 0)) pgs_nil))))))), ?_⟩
    refine ⟨_, rfl, _, rfl, _, rfl, by show 3 ≤ sizeLine; decide, fun t nt => ⟨t, _, rfl, SqT.of upd_same, rfl, ?_⟩⟩
    have pt := ne_of_none hp nt
    refine ⟨_, _, rfl, _, rfl, p, _, dx, _, rfl, by rw [upd_ne pt]; exact hp, T.c_Road, T.n_Road_name, by decide, ?_⟩
    refine ⟨_, _, rfl, _, rfl, p, _, dx, _, rfl, upd_same, T.c_Road, T.n_Road_start, by show 1 < 1000; decide, ?_⟩
    refine ⟨_, _, rfl, _, rfl, p, _, dx, _, rfl, upd_same, T.c_Road, T.n_Road_end, by show 2 < 1000; decide, rfl, ?_⟩
    refine ⟨_, rfl, _, rfl, _, rfl, by show 3 ≤ sizeLine; decide, fun t2 nt2 => ⟨t2, _, rfl, SqT.of upd_same, rfl, ?_⟩⟩
    have pt2 := ne_of_none upd_same nt2
    refine ⟨_, _, rfl, _, rfl, p, _, dx, _, rfl, by rw [upd_ne pt2, upd_same], T.c_Road, T.n_Road_shift, by show 3 < 1000; decide, ?_⟩
    refine ⟨_, _, rfl, _, rfl, p, _, dx, _, rfl, upd_same, T.c_Road, T.n_Road_price, by show 4 < 1000; decide, ?_⟩
    refine ⟨_, _, rfl, _, rfl, p, _, dx, _, rfl, upd_same, T.c_Road, T.n_Road_label, by show 5 < 1000; decide, rfl, ?_⟩
    exact k _ (((((((But.refl H).new nt).put).put).put).new nt2).put.put.put) upd_same
theorem ok_Road_init (T : Tx K mg) : Mm P w K mg base CX0 1 "Road" (He.ga K "Road") (sp_Road_init K) [] := by
  obtain ⟨fd, F, G⟩ := fn_Road___init__ (P := P) (w := w) (base := base) T
  obtain ⟨ds, v, b⟩ := F.binds1 (ps := ["self", "name", "start", "end", "shift", "price", "label"]) 7 1 (by simp) rfl fun T kV doc pm an cdv ct us its h1 h2 => match us, its, h1, h2 with
    | [_, _, _, _, _, _, _], [_], _, _ => ⟨_, rfl, rfl⟩
  exact ⟨_, fd, _, ds, T.k_Road, G, T.g_Road, b, v⟩
end
end J
set_option Elab.async false
set_option linter.all false
set_option maxRecDepth 100000
set_option maxHeartbeats 4000000
set_option exponentiation.threshold 3000
namespace J
open PySem PySem.Spec PyProof.Rows L2 TL

/-! J19: a road read. -/
def labL : Option Str → List Nat
  | none => []
  | some x => 32 :: tl x
def roadL (r : Rd) : List Nat := tl r.name ++ 32 :: (tl r.start ++ 32 :: (tl r.fin ++ 32 :: (tl (numS r.sx) ++ 32 :: (tl (numS r.sy) ++ 32 :: (tl (numS r.price) ++ labL r.label)))))
/-- a line's end -/
def Eol (s : List Nat) : Prop := s = [] ∨ ∃ t, s = 10 :: t
theorem Eol.stop {s : List Nat} (h : Eol s) : Stop s := by
  rintro c t rfl
  rcases h with h | ⟨u, h⟩
  · cases h
  · injection h with h _
    exact .inr h
theorem name_head {x : Str} (h : NameS x) {s : List Nat} : (tl x ++ s).head? ≠ some 32 := by
  obtain ⟨c, t, e, hc⟩ := h.hd
  rw [e]
  intro z
  injection z with z
  unfold Let at hc
  omega
theorem name_word {x : Str} (h : NameOk x) : (∀ d ∈ tl x, d ≠ 32 ∧ d ≠ 10) ∧ x.length ≤ 1000 := by
  refine ⟨fun d hd => ?_, Nat.le_trans h.2 (by decide)⟩
  rcases h.1.al d hd with q | q | q
  · omega
  · omega
  · omega
theorem eq_len (x : Str) : x.length = (tl x).length := len_tl x
section
variable {P : Program} {w : World} {K : PySem.W.Frag} {mg : Str → Option Value} {base : Heap}
def sp_read_road (K : PySem.W.Frag) : Sp := fun vs H Q _ => ∃ (p dx sp tk : Addr) (W : Str) (n : Nat) (x : Rd) (s : List Nat) (spots taken : List Str), vs = [.ref p, .ref sp, .ref tk, .bl true] ∧ H p = some (rdr K dx W n) ∧ W.length ≤ 100000 ∧ lft W n = roadL x ++ s ∧ Eol s ∧
  H sp = some (.lst (spots.map V.str)) ∧ (∀ y ∈ spots, NameOk y) ∧ spots.length ≤ 1000 ∧ RdOk spots x ∧ H tk = some (.lst (taken.map V.str)) ∧ x.name ∉ taken ∧ ∀ (H' : Hp) (v : V), But p H H' → H' p = some (rdr K dx W (n + (roadL x).length)) → RoadO K H' v x → Q v H'
abbrev N_read_road : List Str := ["reader", "spots", "taken", "dots", "name", "start", "end", "shift", "price", "label"]
theorem sc_read_road : FnScope N_read_road ["reader", "spots", "taken", "dots"] (defScope s_read_road) := ⟨rfl, rfl, rfl, by decide +kernel, rfl, by decide +kernel, by decide +kernel⟩
theorem fn_read_road (T : Tx K mg) : ∃ fd, FunD K "read_road" "read_road" (defArgs s_read_road) (defBody s_read_road) (defScope s_read_road) [.bl true] [] (He.fAd K ("read_road", none)) fd ∧ FnOk P w K mg base CX0 7 (He.fAd K ("read_road", none)) fd ["reader", "spots", "taken", "dots"] (sp_read_road K) := by
  obtain ⟨fd, F⟩ := T.d_read_road
  refine ⟨fd, F, FunD.cl0 F sc_read_road (fun vs H Q E h => ?_) (fun cdv A outer s H vs Q E hr h => ?_)⟩
  · obtain ⟨p, dx, sp, tk, W, n, x, s, spots, taken, rfl, _⟩ := h
    rfl
  · obtain ⟨p, dx, sp, tk, W, n, x, s', spots, taken, rfl, hp, hW, hl, he, hsp, son, sol, ok, htk, hnt, k⟩ := h
    refine ⟨_, (pss_cons (st 4 sc_read_road.nd (pe_ml (ok_Reader_new_name T) hr pass0 (pv 0) (pa_cons (pv 2) (pa_cons (pv 3) pa_nil))))
      (pss_cons (ps_expr (pe_ml0 (ok_Reader_need_space T) hr pass0 (pv 0)))
      (pss_cons (st 5 sc_read_road.nd (pe_ml (ok_Reader_word_of T) hr pass0 (pv 0) (pa_cons (pv 1) pa_nil)))
      (pss_cons (ps_expr (pe_ml0 (ok_Reader_need_space T) hr pass0 (pv 0)))
      (pss_cons (st 6 sc_read_road.nd (pe_ml (ok_Reader_word_of T) hr pass0 (pv 0) (pa_cons (pv 1) pa_nil)))
      (pss_cons (ps_expr (pe_ml0 (ok_Reader_need_space T) hr pass0 (pv 0)))
      (pss_cons (st 7 sc_read_road.nd (pe_cl (ok_read_shift T) hr pass0 (pa_cons (pv 0) pa_nil)))
      (pss_cons (ps_expr (pe_ml0 (ok_Reader_need_space T) hr pass0 (pv 0)))
      (pss_cons (st 8 sc_read_road.nd (pe_ml (ok_Reader_number_of T) hr pass0 (pv 0) (pa_cons pe_int (pa_cons (pe_gi rfl T.i_MOST_PRICE) pa_nil))))
      (pss_cons (st 9 sc_read_road.nd pe_non)
      (pss_mid (ps_if (pt_val (pe_ml0 (ok_Reader_has_more T) hr pass0 (pv 0))) (pss_cons (ps_expr (pe_ml0 (ok_Reader_need_space T) hr pass0 (pv 0))) (pss_one (st 9 sc_read_road.nd (pe_ml (ok_Reader_new_name2 T) hr pass0 (pv 0) (pa_cons (pe_lst pa_nil) pa_nil))))) pss_nil)
      (pss_one (ps_ret (pe_mm (ok_Road_init T) hr pass0 (pa_cons (pv 4) (pa_cons (pv 5) (pa_cons (pv 6) (pa_cons (pv 7) (pa_cons (pv 8) (pa_cons (pv 9) pa_nil)))))))))))))))))))), ?_⟩
    have st : ∀ {q : Addr} {l : List V} {H' : Hp}, But p H H' → H q = some (.lst l) → H' q = some (.lst l) := fun b h => b _ _ (ne_of h hp (by intro z; cases z)) h
    unfold roadL at hl
    simp only [List.append_assoc, List.cons_append] at hl
    refine ⟨_, rfl, p, dx, _, rfl, hp, rfl, _, rfl, _, rfl, p, dx, tk, W, n, x.name, _, taken, rfl, hp, hW, hl, ok.nm, stop32, htk, hnt, fun H1 e1 => ?_⟩
    have p1 : H1 p = some (rdr K dx W (n + x.name.length)) := by rw [e1]; exact upd_same
    have b1 : But p H H1 := by rw [e1]; exact (But.refl H).put
    have l1 := lft_skip hl (eq_len _)
    refine ⟨_, rfl, p, dx, _, rfl, p1, rfl, p, dx, W, _, _, rfl, p1, hW, l1, name_head (son _ ok.st).1, fun H2 e2 => ?_⟩
    have p2 : H2 p = some (rdr K dx W (n + x.name.length + 1)) := by rw [e2]; exact upd_same
    have b2 : But p H H2 := b1.trans (by rw [e2]; exact (But.refl H1).put)
    have l2 := lft_tail l1
    refine ⟨_, rfl, p, dx, _, rfl, p2, rfl, _, rfl, p, dx, sp, W, _, spots, x.start, _, rfl, p2, hW, st b2 hsp, sol, fun w hw => name_word (son w hw), ok.st, (son _ ok.st).1.toNmL.ne, l2, stop32, fun H3 c3 p3 => ?_⟩
    have p3 : H3 p = some (rdr K dx W (n + x.name.length + 1 + x.start.length)) := p3
    have b3 := b2.trans c3
    have l3 := lft_skip l2 (eq_len _)
    refine ⟨_, rfl, p, dx, _, rfl, p3, rfl, p, dx, W, _, _, rfl, p3, hW, l3, name_head (son _ ok.fn).1, fun H4 e4 => ?_⟩
    have p4 : H4 p = some (rdr K dx W (n + x.name.length + 1 + x.start.length + 1)) := by rw [e4]; exact upd_same
    have b4 : But p H H4 := b3.trans (by rw [e4]; exact (But.refl H3).put)
    have l4 := lft_tail l3
    refine ⟨_, rfl, p, dx, _, rfl, p4, rfl, _, rfl, p, dx, sp, W, _, spots, x.fin, _, rfl, p4, hW, st b4 hsp, sol, fun w hw => name_word (son w hw), ok.fn, (son _ ok.fn).1.toNmL.ne, l4, stop32, fun H5 c5 p5 => ?_⟩
    have p5 : H5 p = some (rdr K dx W (n + x.name.length + 1 + x.start.length + 1 + x.fin.length)) := p5
    have b5 := b4.trans c5
    have l5 := lft_skip l4 (eq_len _)
    have x9 := ok.x9
    have y9 := ok.y9
    have pr1 := ok.p1
    have pr2 := ok.p99
    refine ⟨_, rfl, p, dx, _, rfl, p5, rfl, p, dx, W, _, _, rfl, p5, hW, l5, num_head (by omega), fun H6 e6 => ?_⟩
    have p6 : H6 p = some (rdr K dx W (n + x.name.length + 1 + x.start.length + 1 + x.fin.length + 1)) := by rw [e6]; exact upd_same
    have b6 : But p H H6 := b5.trans (by rw [e6]; exact (But.refl H5).put)
    have l6 := lft_tail l5
    refine ⟨_, rfl, p, dx, W, _, x.sx, x.sy, _, rfl, p6, hW, x9, y9, l6, stop32, fun H7 sh c7 p7 cs => ?_⟩
    have p7 : H7 p = some (rdr K dx W (n + x.name.length + 1 + x.start.length + 1 + x.fin.length + 1 + ((numS x.sx).length + (1 + (numS x.sy).length)))) := p7
    have b7 := b6.trans c7
    have l7 := lft_skip (lft_tail (lft_skip l6 (eq_len _))) (eq_len _)
    have en : n + x.name.length + 1 + x.start.length + 1 + x.fin.length + 1 + (numS x.sx).length + 1 + (numS x.sy).length = n + x.name.length + 1 + x.start.length + 1 + x.fin.length + 1 + ((numS x.sx).length + (1 + (numS x.sy).length)) := by omega
    rw [en] at l7
    refine ⟨_, rfl, p, dx, _, rfl, p7, rfl, p, dx, W, _, _, rfl, p7, hW, l7, num_head (by omega), fun H8 e8 => ?_⟩
    have p8 : H8 p = some (rdr K dx W (n + x.name.length + 1 + x.start.length + 1 + x.fin.length + 1 + ((numS x.sx).length + (1 + (numS x.sy).length)) + 1)) := by rw [e8]; exact upd_same
    have c8 : But p H7 H8 := by rw [e8]; exact (But.refl H7).put
    have b8 : But p H H8 := b7.trans c8
    have cs8 := cs.but c8 p7 rdr_tup
    have l8 := lft_tail l7
    have stp : Stop (labL x.label ++ s') := by
      cases hlb : x.label with
      | none => exact he.stop
      | some y => exact stop32
    refine ⟨_, rfl, p, dx, _, rfl, p8, rfl, p, dx, W, _, 1, 99, x.price, _, rfl, p8, hW, by decide, by omega, by omega, by decide, l8, stp, fun H9 c9 p9 => ?_⟩
    have p9 : H9 p = some (rdr K dx W (n + x.name.length + 1 + x.start.length + 1 + x.fin.length + 1 + ((numS x.sx).length + (1 + (numS x.sy).length)) + 1 + (numS x.price).length)) := p9
    have b9 := b8.trans c9
    have cs9 := cs8.but c9 p8 rdr_tup
    have l9 := lft_skip l8 (eq_len _)
    have elen : (roadL x).length = x.name.length + 1 + x.start.length + 1 + x.fin.length + 1 + ((numS x.sx).length + (1 + (numS x.sy).length)) + 1 + (numS x.price).length + (labL x.label).length := by
      unfold roadL
      simp only [List.length_append, List.length_cons]
      rw [← eq_len, ← eq_len, ← eq_len, ← eq_len, ← eq_len, ← eq_len]
      omega
    refine ⟨fun σ H' => σ = [some (.ref p), some (.ref sp), some (.ref tk), some (.bl true), some (.str x.name), some (.str x.start), some (.str x.fin), some sh, some (.int x.price), some (labV x.label)] ∧ But p H H' ∧ H' p = some (rdr K dx W (n + (roadL x).length)) ∧ CellAt H' sh x.sx x.sy, ?_, ?_⟩
    · cases hlb : x.label with
      | none =>
        rw [hlb] at elen l9
        have l9 : lft W (n + x.name.length + 1 + x.start.length + 1 + x.fin.length + 1 + ((numS x.sx).length + (1 + (numS x.sy).length)) + 1 + (numS x.price).length) = s' := l9
        refine ⟨_, rfl, p, dx, _, rfl, p9, rfl, p, dx, W, _, rfl, p9, hW, .inl ⟨?_, fun H10 s10 => ⟨false, rfl, iteF ⟨rfl, b9.trans (But.of s10), ?_, cs9.mono s10⟩⟩⟩⟩
        · rw [l9]
          exact he
        · rw [s10 _ _ p9, elen]
          show some (rdr K dx W _) = some (rdr K dx W _)
          congr 2
          show _ = n + (_ + ([] : List Nat).length)
          rw [List.length_nil]
          omega
      | some lb =>
        rw [hlb] at elen l9
        have l9 : lft W (n + x.name.length + 1 + x.start.length + 1 + x.fin.length + 1 + ((numS x.sx).length + (1 + (numS x.sy).length)) + 1 + (numS x.price).length) = 32 :: (tl lb ++ s') := l9
        have lok := ok.lb lb hlb
        obtain ⟨c, t, ec, hc⟩ := lok.1.hd
        refine ⟨_, rfl, p, dx, _, rfl, p9, rfl, p, dx, W, _, rfl, p9, hW, .inr ⟨⟨c, t ++ s', by rw [l9, ec]; rfl, by unfold Let at hc; omega, by unfold Let at hc; omega⟩, fun H10 s10 => ⟨true, rfl, iteT ?_⟩⟩⟩
        have p10 := s10 _ _ p9
        refine ⟨_, rfl, p, dx, _, rfl, p10, rfl, p, dx, W, _, _, rfl, p10, hW, l9, name_head lok.1, fun H11 e11 => ?_⟩
        have p11 : H11 p = some (rdr K dx W (n + x.name.length + 1 + x.start.length + 1 + x.fin.length + 1 + ((numS x.sx).length + (1 + (numS x.sy).length)) + 1 + (numS x.price).length + 1)) := by rw [e11]; exact upd_same
        have c11 : But p H9 H11 := (But.of s10).trans (by rw [e11]; exact (But.refl H10).put)
        have l11 := lft_tail l9
        refine ⟨_, rfl, p, dx, _, rfl, p11, rfl, by show 0 ≤ sizeLine; decide, fun e ne => ?_⟩
        have pe := ne_of_none p11 ne
        refine ⟨p, dx, e, W, _, lb, s', [], rfl, by rw [upd_ne pe]; exact p11, hW, l11, lok, he.stop, upd_same, by simp, fun H12 e12 => ?_⟩
        have p12 : H12 p = some (rdr K dx W (n + x.name.length + 1 + x.start.length + 1 + x.fin.length + 1 + ((numS x.sx).length + (1 + (numS x.sy).length)) + 1 + (numS x.price).length + 1 + lb.length)) := by rw [e12]; exact upd_same
        have c12 : But p H9 H12 := (c11.new (o := .lst []) ne).trans (by rw [e12]; exact (But.refl _).put)
        refine ⟨rfl, b9.trans c12, ?_, cs9.but c12 p9 rdr_tup⟩
        rw [p12, elen]
        congr 2
        show _ = n + (_ + (32 :: tl lb).length)
        rw [List.length_cons, ← eq_len]
        omega
    · rintro σ H' ⟨rfl, b10, p10, c10⟩
      refine ⟨_, rfl, _, rfl, _, rfl, _, rfl, _, rfl, _, rfl, fun q dq nq ndq hne => ⟨q, dq, x, sh, rfl, upd_same, fun H11 b11 e11 => ⟨rfl, ?_⟩⟩⟩
      have s11 := but_same b11 (same_new ndq) nq
      exact k _ _ (b10.trans (But.of s11)) (s11 _ _ p10) ⟨q, dq, sh, rfl, e11, c10.mono s11⟩
theorem ok_read_road (T : Tx K mg) : Cl P w K mg base CX0 7 "read_road" (sp_read_road K) [.bl true] := by
  obtain ⟨fd, F, G⟩ := fn_read_road (P := P) (w := w) (base := base) T
  obtain ⟨ds, v, b⟩ := F.binds1 (ps := ["reader", "spots", "taken", "dots"]) 3 0 (by simp) rfl fun T kV doc pm an cdv ct us its h1 h2 => match us, its, h1, h2 with
    | [_, _, _], [_], _, _ => ⟨_, rfl, rfl⟩
  exact ⟨_, fd, _, ds, G, T.g_read_road, F.kp, b, v⟩
end
end J
set_option Elab.async false
set_option linter.all false
set_option maxRecDepth 100000
set_option maxHeartbeats 4000000
set_option exponentiation.threshold 3000
namespace J
open PySem PySem.Spec PyProof.Rows L2 TL

/-! J20: lines, texts. -/
structure RdSz (r : Rd) : Prop where
  n : r.name.length ≤ 40
  s : r.start.length ≤ 40
  f : r.fin.length ≤ 40
  x : r.sx.natAbs ≤ 99
  y : r.sy.natAbs ≤ 99
  p : r.price.natAbs ≤ 99
  l : ∀ z, r.label = some z → z.length ≤ 40
theorem RdOk.sz {spots : List Str} {r : Rd} (h : RdOk spots r) (hs : ∀ x ∈ spots, NameOk x) : RdSz r := by
  have := h.x9
  have := h.y9
  have := h.p1
  have := h.p99
  exact ⟨h.nm.2, (hs _ h.st).2, (hs _ h.fn).2, by omega, by omega, by omega, fun z hz => (h.lb z hz).2⟩
def labW : Option Str → List Str
  | none => []
  | some x => [x]
def wordsOf (r : Rd) : List Str := ([("road" : Str), r.name, r.start, r.fin, numS r.sx, numS r.sy, numS r.price] : List Str) ++ labW r.label
def roadLine (r : Rd) : Str := Txt.join " " (wordsOf r)
theorem join_list {y : Str} {parts : List Str} : tl (Txt.join y parts) = joinL (tl y) (parts.map tl) := by rw [join_eq, tl_join]
theorem road_tl : tl ("road" : Str) = [114, 111, 97, 100] := by decide +kernel
theorem spot_tl : tl ("spot " : Str) = [115, 112, 111, 116, 32] := by decide +kernel
theorem spot_tl' : tl ("spot" : Str) = [115, 112, 111, 116] := by decide +kernel
theorem space_tl : tl (" " : Str) = [32] := by decide +kernel
theorem nl_tl : tl ("\n" : Str) = [10] := by decide +kernel
theorem roadLine_tl (r : Rd) : tl (roadLine r) = tl ("road" : Str) ++ 32 :: roadL r := by
  unfold roadLine
  rw [join_list, space_tl]
  unfold wordsOf roadL
  cases r.label with
  | none => simp [joinL, labW, labL]
  | some x => simp [joinL, labW, labL]
def wsum (ys : List Str) (n : Nat) : Nat := (ys.map (·.length)).sum + ys.length * n
theorem words_sum {r : Rd} (h : RdSz r) : wsum (wordsOf r) 1 ≤ 2500 := by
  have h1 := (num_ok h.x).2.2.2
  have h2 := (num_ok h.y).2.2.2
  have h3 := (num_ok h.p).2.2.2
  have := h.n
  have := h.s
  have := h.f
  have e0 : ("road" : Str).length = 4 := by decide +kernel
  unfold wsum wordsOf
  cases hl : r.label with
  | none =>
    simp only [labW, List.append_nil, List.map_cons, List.map_nil, List.sum_cons, List.sum_nil, List.length_cons, List.length_nil, e0]
    omega
  | some x =>
    have := h.l x hl
    simp only [labW, List.cons_append, List.nil_append, List.map_cons, List.map_nil, List.sum_cons, List.sum_nil, List.length_cons, List.length_nil, e0]
    omega
theorem join_len (y : Str) (parts : List Str) : (Txt.join y parts).length ≤ wsum parts y.length := by
  rw [len_tl, join_list]
  unfold wsum
  induction parts with
  | nil => exact Nat.zero_le _
  | cons x r ih =>
    cases r with
    | nil =>
      show (tl x).length ≤ _
      rw [← len_tl]
      simp only [List.map_cons, List.map_nil, List.sum_cons, List.sum_nil, List.length_cons, List.length_nil]
      omega
    | cons z t =>
      show (tl x ++ (tl y ++ joinL (tl y) ((z :: t).map tl))).length ≤ _
      rw [List.length_append, List.length_append, ← len_tl, ← len_tl]
      have e : (z :: t).map (·.length) = z.length :: t.map (·.length) := rfl
      simp only [List.map_cons, List.sum_cons, List.length_cons] at ih ⊢
      rw [Nat.succ_mul] at ih ⊢
      rw [Nat.succ_mul]
      omega
theorem roadLine_len {r : Rd} (h : RdSz r) : (roadLine r).length ≤ 2500 := by
  refine Nat.le_trans (join_len " " _) ?_
  have : (" " : Str).length = 1 := by decide +kernel
  rw [this]
  exact words_sum h
def linesOf (L : Land) : List Str := L.spots.map (fun s => ("spot " : Str) ++ s) ++ L.roads.map roadLine
def lawText (L : Land) : Str := Txt.join "\n" (linesOf L)
def progText (L : Land) : Str := Txt.join "" ((linesOf L).map fun l => l ++ "\n")
theorem joinL_nil : ∀ l : List (List Nat), joinL [] l = l.flatten
  | [] => rfl
  | [p] => by simp [joinL]
  | p :: q :: r => by
    show p ++ ([] ++ joinL [] (q :: r)) = _
    rw [joinL_nil (q :: r)]
    rfl
theorem joinL_lines : ∀ l : List (List Nat), l ≠ [] → joinL [10] l ++ [10] = (l.map fun p => p ++ [10]).flatten
  | [], h => absurd rfl h
  | [p], _ => by simp [joinL]
  | p :: q :: r, _ => by
    show p ++ ([10] ++ joinL [10] (q :: r)) ++ [10] = _
    rw [List.map_cons, List.flatten_cons, ← joinL_lines (q :: r) (by simp)]
    simp
theorem lines_ne {L : Land} (h : L.spots ≠ []) : linesOf L ≠ [] := by
  unfold linesOf
  cases e : L.spots with
  | nil => exact absurd e h
  | cons => simp
theorem prog_law {L : Land} (h : L.spots ≠ []) : progText L = lawText L ++ "\n" := ext_tl (by
  unfold progText lawText
  rw [tl_append, join_list, join_list, nl_tl, emp_tl, joinL_nil, joinL_lines _ (by simpa using lines_ne h), List.map_map, List.map_map]
  congr 1
  refine List.map_congr_left fun x _ => ?_
  show tl (x ++ "\n") = tl x ++ [10]
  rw [tl_append, nl_tl])
/-- a land's sizes -/
structure LandSz (L : Land) : Prop where
  s : L.spots.length ≤ 24
  r : L.roads.length ≤ 160
  n : ∀ x ∈ L.spots, x.length ≤ 40
  q : ∀ r ∈ L.roads, RdSz r
theorem sum_le {α : Type} {f : α → Nat} {b : Nat} : ∀ {l : List α}, (∀ x ∈ l, f x ≤ b) → (l.map f).sum ≤ l.length * b
  | [], _ => Nat.zero_le _
  | x :: r, h => by
    have := sum_le (l := r) fun y hy => h y (List.mem_cons_of_mem _ hy)
    have := h x (List.mem_cons_self ..)
    rw [List.map_cons, List.sum_cons, List.length_cons, Nat.succ_mul]
    omega
theorem lines_len {L : Land} (h : LandSz L) : (∀ l ∈ linesOf L, l.length ≤ 2500) ∧ (linesOf L).length ≤ 184 := by
  have e0 : ("spot " : Str).length = 5 := by decide +kernel
  unfold linesOf
  refine ⟨fun l hl => ?_, ?_⟩
  · rcases List.mem_append.mp hl with q | q
    · obtain ⟨x, hx, rfl⟩ := List.mem_map.mp q
      rw [len_append, e0]
      have := h.n x hx
      omega
    · obtain ⟨x, hx, rfl⟩ := List.mem_map.mp q
      exact roadLine_len (h.q x hx)
  · rw [List.length_append, List.length_map, List.length_map]
    have := h.s
    have := h.r
    omega
theorem lines_sum {L : Land} (h : LandSz L) : wsum (linesOf L) 1 ≤ 500000 ∧ wsum ((linesOf L).map fun l => l ++ "\n") 0 ≤ 500000 := by
  obtain ⟨h1, h2⟩ := lines_len h
  have e1 : ("\n" : Str).length = 1 := by decide +kernel
  unfold wsum
  refine ⟨?_, ?_⟩
  · have := sum_le (f := fun x : Str => x.length) h1
    have := Nat.mul_le_mul_right 2500 h2
    omega
  · rw [List.map_map, Nat.mul_zero, Nat.add_zero]
    have : (∀ l ∈ linesOf L, ((fun x : Str => x.length) ∘ fun l => l ++ "\n") l ≤ 2501) := fun l hl => by
      show (l ++ "\n" : Str).length ≤ 2501
      rw [len_append, e1]
      have := h1 l hl
      omega
    have := sum_le this
    have := Nat.mul_le_mul_right 2501 h2
    omega
theorem lab_non (o : Option Str) : decide (labV o = .non) = o.isNone := by
  cases o with
  | none => rfl
  | some x => rfl
section
variable {P : Program} {w : World} {K : PySem.W.Frag} {mg : Str → Option Value} {base : Heap}
theorem road_f {K : PySem.W.Frag} {H : Hp} {v : V} {r : Rd} (h : RoadO K H v r) : ∃ (p dx : Addr) (q : V), v = .ref p ∧ H p = some (roadO K dx r q) ∧ CellAt H q r.sx r.sy := h
def sp_line_of (K : PySem.W.Frag) : Sp := fun vs H Q _ => ∃ (v : V) (r : Rd), vs = [v] ∧ RoadO K H v r ∧ RdSz r ∧ ∀ H', Same H H' → Q (.str (roadLine r)) H'
abbrev N_line_of : List Str := ["road", "words"]
theorem sc_line_of : FnScope N_line_of ["road"] (defScope s_line_of) := ⟨rfl, rfl, rfl, by decide +kernel, rfl, by decide +kernel, by decide +kernel⟩
theorem ok_line_of (T : Tx K mg) : Cl P w K mg base CX0 1 "line_of" (sp_line_of K) [] := by
  obtain ⟨fd, F⟩ := T.d_line_of
  refine cl_of (ps := ["road"]) F T.g_line_of (FunD.cl0 F sc_line_of (fun vs H Q E h => ?_) (fun cdv A outer s H vs Q E hr h => ?_)) fun _ _ _ _ _ _ us hl => match us, hl with | [_], _ => rfl
  · obtain ⟨v, r, rfl, _⟩ := h
    rfl
  · obtain ⟨v, r, rfl, ⟨p, dx, q, rfl, hp, hc⟩, hz, k⟩ := h
    refine ⟨_, (pss_cons (st 1 sc_line_of.nd (pe_lst (pa_cons pe_str (pa_cons (pe_fld (pv 0) rfl) (pa_cons (pe_fld (pv 0) rfl) (pa_cons (pe_fld (pv 0) rfl) (pa_cons (pe_strI T (pe_at (pe_fld (pv 0) rfl) pe_int)) (pa_cons (pe_strI T (pe_at (pe_fld (pv 0) rfl) pe_int)) (pa_cons (pe_strI T (pe_fld (pv 0) rfl)) pa_nil)))))))))
      (pss_mid (ps_if (pt_cmpR op_notN (pe_fld (pv 0) rfl) pe_non (nomark _)) (pss_one (ps_app (pv 1) (pe_fld (pv 0) rfl))) pss_nil)
      (pss_one (ps_ret (pe_bm PySem.F.plainAttrs_str PySem.F.slot_str_join PySem.F.type_str_join mt_join pe_str (pa_cons (pv 1) pa_nil)))))), ?_⟩
    refine ⟨_, rfl, p, _, dx, _, _, rfl, hp, T.c_Road, T.n_Road_name, rfl, _, rfl, p, _, dx, _, _, rfl, hp, T.c_Road, T.n_Road_start, rfl, _, rfl, p, _, dx, _, _, rfl, hp, T.c_Road, T.n_Road_end, rfl, ?_⟩
    have hx := hz.x
    have hy := hz.y
    have hp9 := hz.p
    refine ⟨_, rfl, p, _, dx, _, _, rfl, hp, T.c_Road, T.n_Road_shift, rfl, hc.ix0 ⟨_, rfl, log_sm (by omega), _, rfl, p, _, dx, _, _, rfl, hp, T.c_Road, T.n_Road_shift, rfl, hc.ix1 ⟨_, rfl, log_sm (by omega), _, rfl, p, _, dx, _, _, rfl, hp, T.c_Road, T.n_Road_price, rfl, _, rfl, log_sm (by omega), by show 7 ≤ sizeLine; decide, fun l nl => ?_⟩⟩⟩
    have pl := ne_of_none hp nl
    refine ⟨fun σ H' => σ = [some (.ref p), some (.ref l)] ∧ Same H H' ∧ H' l = some (.lst ((wordsOf r).map V.str)), ?_, ?_⟩
    · refine ⟨_, rfl, p, _, dx, _, _, rfl, by rw [upd_ne pl]; exact hp, T.c_Road, T.n_Road_label, rfl, rfl, _, rfl, ?_⟩
      rw [lab_non]
      cases hl : r.label with
      | none =>
        refine iteF ⟨rfl, same_new nl, ?_⟩
        rw [upd_same]
        unfold wordsOf
        rw [hl]
        rfl
      | some z =>
        refine iteT ⟨_, rfl, .inl ⟨rfl, _, SqL.of upd_same⟩, _, rfl, p, _, dx, _, _, rfl, by rw [upd_ne pl]; exact hp, T.c_Road, T.n_Road_label, rfl, l, _, _, rfl, rfl, upd_same, by show 7 < sizeLine; decide, rfl, sM (same_new nl) nl, ?_⟩
        rw [upd_same]
        unfold wordsOf
        rw [hl]
        rfl
    · rintro σ H' ⟨rfl, s1, e⟩
      refine ⟨rfl, _, rfl, " ", l, wordsOf r, rfl, rfl, .inl (SqL.of e), ?_, k _ s1⟩
      have e1 : (" " : Str).length = 1 := by decide +kernel
      rw [e1]
      exact Nat.le_trans (words_sum hz) (by decide)
end
end J
set_option Elab.async false
set_option linter.all false
set_option maxRecDepth 100000
set_option maxHeartbeats 4000000
set_option exponentiation.threshold 3000
namespace J
open PySem PySem.Spec PyProof.Rows L2 TL

/-! J21: a land's text, told by both. -/
theorem take_map_snoc {α β : Type} {f : α → β} {xs : List α} {i : Nat} {x : α} (h : xs[i]? = some x) : (xs.take (i + 1)).map f = (xs.take i).map f ++ [f x] := by
  rw [List.take_succ, h, List.map_append]
  rfl
section
variable {P : Program} {w : World} {K : PySem.W.Frag} {mg : Str → Option Value} {base : Heap}
def sp_text_of (K : PySem.W.Frag) : Sp := fun vs H Q _ => ∃ (t1 t2 : Addr) (xs : List V) (L : Land), vs = [.ref t1, .ref t2] ∧ H t1 = some (.tup (L.spots.map V.str)) ∧ H t2 = some (.tup xs) ∧ Paired (RoadO K H) xs L.roads ∧ LandSz L ∧ ∀ H', Same H H' → Q (.str (progText L)) H'
abbrev N_text_of : List Str := ["spots", "roads", "lines", "name", "road", "line"]
theorem sc_text_of : FnScope N_text_of ["spots", "roads"] (defScope s_text_of) := ⟨rfl, rfl, rfl, by decide +kernel, rfl, by decide +kernel, by decide +kernel⟩
theorem ok_text_of (T : Tx K mg) : Cl P w K mg base CX0 2 "text_of" (sp_text_of K) [] := by
  obtain ⟨fd, F⟩ := T.d_text_of
  refine cl_of (ps := ["spots", "roads"]) F T.g_text_of (FunD.cl0 F sc_text_of (fun vs H Q E h => ?_) (fun cdv A outer s H vs Q E hr h => ?_)) fun _ _ _ _ _ _ us hl => match us, hl with | [_, _], _ => rfl
  · obtain ⟨t1, t2, xs, L, rfl, _⟩ := h
    rfl
  · obtain ⟨t1, t2, xs, L, rfl, h1, h2, hx, hz, k⟩ := h
    refine ⟨_, (pss_cons (st 2 sc_text_of.nd (pe_op op_cat (pe_lc rfl sc_text_of.nd (pi_tup (pv 0)) (blkOk_by (own := [("name", 3)]) (N := N_text_of) (sc := defScope s_text_of) (by decide +kernel)) (fun _ _ _ _ _ => (gn 3 sc_text_of.nd)) (fun _ _ _ _ _ => pts_nil) (fun _ _ _ _ _ => (pe_op op_add_str pe_str (pv 3)))) (pe_lc rfl sc_text_of.nd (pi_tup (pv 1)) (blkOk_by (own := [("road", 4)]) (N := N_text_of) (sc := defScope s_text_of) (by decide +kernel)) (fun _ _ _ _ _ => (gn 4 sc_text_of.nd)) (fun _ _ _ _ _ => pts_nil) (fun _ _ _ _ _ => (pe_cl (ok_line_of T) hr pass0 (pa_cons (pv 4) pa_nil))))))
      (pss_one (ps_ret (pe_bm PySem.F.plainAttrs_str PySem.F.slot_str_join PySem.F.type_str_join mt_join pe_str (pa_cons (pe_lc rfl sc_text_of.nd (pi_list (pv 2)) (blkOk_by (own := [("line", 5)]) (N := N_text_of) (sc := defScope s_text_of) (by decide +kernel)) (fun _ _ _ _ _ => (gn 5 sc_text_of.nd)) (fun _ _ _ _ _ => pts_nil) (fun _ _ _ _ _ => (pe_op op_add_str (pv 5) pe_str))) pa_nil))))), ?_⟩
    have e0 : ("spot " : Str).length = 5 := by decide +kernel
    have e1 : ("\n" : Str).length = 1 := by decide +kernel
    have zs := hz.s
    have zr := hz.r
    refine ⟨_, rfl, t1, rfl, ⟨_, SqT.of h1⟩, fun D1 n1 => ?_⟩
    refine lc_tup (xs := L.spots.map V.str) (fun i H' => Same H H' ∧ H' D1 = some (.lst (((L.spots.take i).map fun s => ("spot " : Str) ++ s).map V.str))) ⟨same_new n1, upd_same⟩ ?_ ?_ ?_
    · rintro i H' hi ⟨s1, e⟩
      exact SqT.of (s1 _ _ h1)
    · rintro i x H' hx ⟨s1, e⟩
      obtain ⟨y, hy, rfl⟩ := map_at hx
      have hyl := hz.n y (mem_at hy)
      refine ⟨rfl, _, rfl, _, _, rfl, rfl, by rw [e0]; have : sizeLine = 16777216 := rfl; omega, _, e, by rw [List.length_map, List.length_map]; exact small1000 (Nat.le_trans (List.length_take_le' ..) (by omega)), sM s1 n1, ?_⟩
      rw [upd_same, take_map_snoc hy, List.map_append]
      rfl
    · rintro H1 ⟨s1, e⟩
      rw [List.length_map, List.take_length] at e
      have hx1 := L2.Paired.mapP hx (fun _ _ z => RoadO.mono z s1)
      refine ⟨_, rfl, t2, rfl, ⟨_, SqT.of (s1 _ _ h2)⟩, fun D2 n2 => ?_⟩
      refine lc_tup (xs := xs) (fun i H' => Same H1 H' ∧ H' D2 = some (.lst (((L.roads.take i).map roadLine).map V.str))) ⟨same_new n2, upd_same⟩ ?_ ?_ ?_
      · rintro i H' hi ⟨s2, e2⟩
        exact SqT.of (s2 _ _ (s1 _ _ h2))
      · rintro i x H' hxi ⟨s2, e2⟩
        obtain ⟨r, hr', hro⟩ := paired_at hx1 hxi
        refine ⟨rfl, _, rfl, x, r, rfl, hro.mono s2, hz.q r (mem_at hr'), fun H3 s3 => ⟨_, s3 _ _ e2, by rw [List.length_map, List.length_map]; exact small1000 (Nat.le_trans (List.length_take_le' ..) (by omega)), sM (s2.trans s3) n2, ?_⟩⟩
        rw [upd_same, take_map_snoc hr', List.map_append]
        rfl
      · rintro H2 ⟨s2, e2⟩
        rw [paired_len hx, List.take_length] at e2
        refine ⟨D1, D2, _, _, rfl, rfl, s2 _ _ e, e2, by rw [List.length_map, List.length_map, List.length_map, List.length_map]; have : sizeLine = 16777216 := rfl; omega, fun D3 n3 => ?_⟩
        have e3 : upd H2 D3 (.lst ((L.spots.map fun s => ("spot " : Str) ++ s).map V.str ++ (L.roads.map roadLine).map V.str)) D3 = some (.lst ((linesOf L).map V.str)) := by
          rw [upd_same, ← List.map_append]
          rfl
        have s3 := same_new (o := .lst ((L.spots.map fun s => ("spot " : Str) ++ s).map V.str ++ (L.roads.map roadLine).map V.str)) n3
        revert e3 s3
        generalize upd H2 D3 (.lst ((L.spots.map fun s => ("spot " : Str) ++ s).map V.str ++ (L.roads.map roadLine).map V.str)) = H3
        intro e3 s3
        obtain ⟨l1, l2⟩ := lines_len hz
        refine ⟨rfl, _, rfl, D3, rfl, ⟨_, SqL.of e3⟩, fun D4 n4 => ?_⟩
        refine lc_list (xs := (linesOf L).map V.str) (fun i H' => Same H3 H' ∧ H' D4 = some (.lst ((((linesOf L).take i).map fun l : Str => l ++ ("\n" : Str)).map V.str))) ⟨same_new n4, upd_same⟩ ?_ ?_ ?_
        · rintro i H' hi ⟨s4, e4⟩
          exact SqL.of (s4 _ _ e3)
        · rintro i x H' hx ⟨s4, e4⟩
          obtain ⟨y, hy, rfl⟩ := map_at hx
          have hyl := l1 y (mem_at hy)
          refine ⟨rfl, _, rfl, _, _, rfl, rfl, by rw [e1]; have : sizeLine = 16777216 := rfl; omega, _, e4, by rw [List.length_map, List.length_map]; exact small1000 (Nat.le_trans (List.length_take_le' ..) (by omega)), sM s4 n4, ?_⟩
          rw [upd_same, take_map_snoc hy, List.map_append]
          rfl
        · rintro H4 ⟨s4, e4⟩
          rw [List.length_map, List.take_length] at e4
          refine ⟨"", D4, (linesOf L).map (fun l : Str => l ++ ("\n" : Str)), rfl, rfl, .inl (SqL.of e4), ?_, k _ (((s1.trans s2).trans s3).trans s4)⟩
          have e5 : ("" : Str).length = 0 := by decide +kernel
          rw [e5]
          exact Nat.le_trans (lines_sum hz).2 (by decide)
def sp__law_land_text : Sp := fun vs H Q _ => ∃ (v : V) (L : Land), vs = [v] ∧ LandAt H v L ∧ LandSz L ∧ ∀ H', Same H H' → Q (.str (lawText L)) H'
abbrev N__law_land_text : List Str := ["_law_land_here", "_law_rows", "_law_name", "_law_start", "_law_end", "_law_shift_here", "_law_price", "_law_label", "_law_words"]
theorem sc__law_land_text : FnScope N__law_land_text ["_law_land_here"] (defScope s__law_land_text) := ⟨rfl, rfl, rfl, by decide +kernel, rfl, by decide +kernel, by decide +kernel⟩
theorem ok__law_land_text (T : Tx K mg) : Cl P w K mg base CX0 1 "_law_land_text" sp__law_land_text [] := by
  obtain ⟨fd, F⟩ := T.d__law_land_text
  refine cl_of (ps := ["_law_land_here"]) F T.g__law_land_text (FunD.cl0 F sc__law_land_text (fun vs H Q E h => ?_) (fun cdv A outer s H vs Q E hr h => ?_)) fun _ _ _ _ _ _ us hl => match us, hl with | [_], _ => rfl
  · obtain ⟨v, L, rfl, _⟩ := h
    rfl
  · obtain ⟨v, L, rfl, ⟨a, l1, l2, xs, rfl, ha, h1, h2, hx⟩, hz, k⟩ := h
    have hu := hu_of hr
    refine ⟨_, (pss_cons (ps_setLc (i := 1) rfl sc__law_land_text.nd rfl rfl (sw_true rfl rfl rfl (by decide +kernel)) (pi_list (pe_dget hu (pv 0) pe_str (fun _ _ => rfl))) (blkOk_by (own := [("_law_name", 2)]) (N := N__law_land_text) (sc := defScope s__law_land_text) (by decide +kernel)) (fun _ _ _ _ _ => (gn 2 sc__law_land_text.nd)) (fun _ _ _ _ _ => pts_nil) (fun _ _ _ _ _ => (pe_op op_add_str pe_str (pv 2))))
      (pss_cons (ps_for (PassesOwn.never) rfl (pi_list (pe_dget hu (pv 0) pe_str (fun _ _ => rfl))) (pg_tup rfl (pgs_cons (gn 2 sc__law_land_text.nd) (pgs_cons (gn 3 sc__law_land_text.nd) (pgs_cons (gn 4 sc__law_land_text.nd) (pgs_cons (gn 5 sc__law_land_text.nd) (pgs_cons (gn 6 sc__law_land_text.nd) (pgs_cons (gn 7 sc__law_land_text.nd) pgs_nil))))))) (pss_mid (st 8 sc__law_land_text.nd (pe_lst (pa_cons pe_str (pa_cons (pv 2) (pa_cons (pv 3) (pa_cons (pv 4) (pa_cons (pe_strI T (pe_at (pv 5) pe_int)) (pa_cons (pe_strI T (pe_at (pv 5) pe_int)) (pa_cons (pe_strI T (pv 6)) pa_nil))))))))) (pss_one (st 1 sc__law_land_text.nd (pe_op op_cat (pv 1) (pe_lst (pa_cons (pe_bm PySem.F.plainAttrs_str PySem.F.slot_str_join PySem.F.type_str_join mt_join pe_str (pa_cons (pe_op op_cat (pv 8) (pe_ifExp (pt_cmpR op_notN (pv 7) pe_non (nomark _)) (pe_lst (pa_cons (pv 7) pa_nil)) (pe_lst pa_nil))) pa_nil)) pa_nil)))))))
      (pss_one (ps_ret (pe_bm PySem.F.plainAttrs_str PySem.F.slot_str_join PySem.F.type_str_join mt_join pe_str (pa_cons (pv 1) pa_nil)))))), ?_⟩
    have e0 : ("spot " : Str).length = 5 := by decide +kernel
    have zs := hz.s
    have zr := hz.r
    refine ⟨_, rfl, a, _, rfl, land_spots ha, l1, rfl, ⟨_, SqL.of h1⟩, fun D1 n1 => ?_⟩
    refine lc_list (xs := L.spots.map V.str) (fun i H' => Same H H' ∧ H' D1 = some (.lst (((L.spots.take i).map fun s => ("spot " : Str) ++ s).map V.str))) ⟨same_new n1, upd_same⟩ ?_ ?_ ?_
    · rintro i H' hi ⟨s1, e⟩
      exact SqL.of (s1 _ _ h1)
    · rintro i x H' hx ⟨s1, e⟩
      obtain ⟨y, hy, rfl⟩ := map_at hx
      have hyl := hz.n y (mem_at hy)
      refine ⟨rfl, _, rfl, _, _, rfl, rfl, by rw [e0]; have : sizeLine = 16777216 := rfl; omega, _, e, by rw [List.length_map, List.length_map]; exact small1000 (Nat.le_trans (List.length_take_le' ..) (by omega)), sM s1 n1, ?_⟩
      rw [upd_same, take_map_snoc hy, List.map_append]
      rfl
    · rintro H1 ⟨s1, e⟩
      rw [List.length_map, List.take_length] at e
      have hx1 := rows_tup hx (Tup.of s1)
      refine ⟨_, rfl, a, _, rfl, land_roads (s1 _ _ ha), l2, rfl, ⟨_, SqL.of (s1 _ _ h2)⟩, ?_⟩
      refine for_list (xs := xs) (fun i σ H' => ∃ (o2 o3 o4 o5 o6 o7 o8 : Option V) (D : Addr), σ = [some (.ref a), some (.ref D), o2, o3, o4, o5, o6, o7, o8] ∧ Same H1 H' ∧ H' D = some (.lst ((L.spots.map (fun s => ("spot " : Str) ++ s) ++ (L.roads.take i).map roadLine).map V.str))) ?_ ?_ ?_ ?_
      · exact ⟨none, none, none, none, none, none, none, D1, rfl, Same.refl _, by rw [e, List.take_zero, List.map_nil, List.append_nil]⟩
      · rintro i σ H' hi ⟨o2, o3, o4, o5, o6, o7, o8, D, rfl, s2, e2⟩
        exact SqL.of (s2 _ _ (s1 _ _ h2))
      · rintro i x σ H' hxi ⟨o2, o3, o4, o5, o6, o7, o8, D, rfl, s2, e2⟩
        obtain ⟨r, hr', hro⟩ := paired_at hx1 hxi
        obtain ⟨p, q, rfl, hp, hc⟩ := hro.tup (Tup.of s2)
        have hzr := hz.q r (mem_at hr')
        have zx := hzr.x
        have zy := hzr.y
        have zp := hzr.p
        refine ⟨p, _, rfl, SqT.of hp, rfl, _, _, rfl, _, _, rfl, _, _, rfl, _, _, rfl, _, _, rfl, _, _, rfl, rfl, ?_⟩
        refine ⟨fun σ H'' => ∃ W : Addr, σ = [some (.ref a), some (.ref D), some (.str r.name), some (.str r.start), some (.str r.fin), some q, some (.int r.price), some (labV r.label), some (.ref W)] ∧ Same H' H'' ∧ H'' W = some (.lst [.str "road", .str r.name, .str r.start, .str r.fin, .str (numS r.sx), .str (numS r.sy), .str (numS r.price)]), ?_, ?_⟩
        · refine ⟨_, rfl, _, rfl, _, rfl, _, rfl, hc.ix0 ⟨_, rfl, log_sm (by omega), _, rfl, hc.ix1 ⟨_, rfl, log_sm (by omega), _, rfl, _, rfl, log_sm (by omega), by show 7 ≤ sizeLine; decide, fun W nW => ⟨W, rfl, same_new nW, upd_same⟩⟩⟩⟩
        · rintro σ H'' ⟨W, rfl, s3, eW⟩
          have e1 : (" " : Str).length = 1 := by decide +kernel
          have hsum : ((wordsOf r).map (·.length)).sum + (wordsOf r).length * (" " : Str).length ≤ 16777216 := by
            rw [e1]
            exact Nat.le_trans (words_sum hzr) (by decide)
          have fin2 : ∀ (H5 : Hp), Same H'' H5 → ∀ u, H5 u = none → rCat (.ref D) (.ref u) (upd H5 u (.lst [.str (roadLine r)])) fun x H6 =>
              ∃ (o2 o3 o4 o5 o6 o7 o8 : Option V) (D : Addr), [some (.ref a), some x, some (.str r.name), some (.str r.start), some (.str r.fin), some q, some (.int r.price), some (labV r.label), some (.ref W)] = [some (.ref a), some (.ref D), o2, o3, o4, o5, o6, o7, o8] ∧ Same H1 H6 ∧ H6 D = some (.lst ((L.spots.map (fun s => ("spot " : Str) ++ s) ++ (L.roads.take (i + 1)).map roadLine).map V.str)) := by
            intro H5 s5 u nu
            refine ⟨D, u, _, _, rfl, rfl, (same_new nu) _ _ (s5 _ _ (s3 _ _ e2)), upd_same, ?_, fun y ny => ⟨_, _, _, _, _, _, _, y, rfl, ((s2.trans s3).trans s5).trans (sN (same_new nu) ny), ?_⟩⟩
            · rw [List.length_map, List.length_append, List.length_map, List.length_map]
              have := List.length_take_le' i L.roads
              have : sizeLine = 16777216 := rfl
              simp only [List.length_cons, List.length_nil]
              omega
            · rw [upd_same, take_map_snoc hr', ← List.append_assoc, List.map_append (l₁ := L.spots.map (fun s => ("spot " : Str) ++ s) ++ (L.roads.take i).map roadLine)]
              rfl
          cases hlb : r.label with
          | none =>
            refine ⟨_, rfl, rfl, _, rfl, _, rfl, rfl, _, rfl, iteF ⟨by show 0 ≤ sizeLine; decide, fun z nz => ⟨W, z, _, _, rfl, rfl, (same_new nz) _ _ eW, upd_same, by show 7 ≤ sizeLine; decide, fun y ny => ?_⟩⟩⟩
            refine ⟨" ", y, wordsOf r, rfl, rfl, .inl (SqL.of ?_), hsum, by show 1 ≤ sizeLine; decide, fun u nu => ?_⟩
            · rw [upd_same]
              unfold wordsOf
              rw [hlb]
              rfl
            · have := fin2 _ (sN (same_new nz) ny) u nu
              rw [hlb] at this
              exact this
          | some lb =>
            refine ⟨_, rfl, rfl, _, rfl, _, rfl, rfl, _, rfl, iteT ⟨_, rfl, by show 1 ≤ sizeLine; decide, fun z nz => ⟨W, z, _, _, rfl, rfl, (same_new nz) _ _ eW, upd_same, by show 8 ≤ sizeLine; decide, fun y ny => ?_⟩⟩⟩
            refine ⟨" ", y, wordsOf r, rfl, rfl, .inl (SqL.of ?_), hsum, by show 1 ≤ sizeLine; decide, fun u nu => ?_⟩
            · rw [upd_same]
              unfold wordsOf
              rw [hlb]
              rfl
            · have := fin2 _ (sN (same_new nz) ny) u nu
              rw [hlb] at this
              exact this
      · rintro σ H' ⟨o2, o3, o4, o5, o6, o7, o8, D, rfl, s2, e2⟩
        rw [paired_len hx, List.take_length] at e2
        refine ⟨rfl, _, rfl, "\n", D, linesOf L, rfl, rfl, .inl (SqL.of e2), ?_, k _ (s1.trans s2)⟩
        have e5 : ("\n" : Str).length = 1 := by decide +kernel
        rw [e5]
        exact Nat.le_trans (lines_sum hz).1 (by decide)
end
end J
set_option Elab.async false
set_option linter.all false
set_option maxRecDepth 100000
set_option maxHeartbeats 4000000
set_option exponentiation.threshold 3000
namespace J
open PySem PySem.Spec PyProof.Rows L2 TL

/-! JB5: != of a list with an empty one. -/
def rNeNil (K : PySem.W.Frag) : R2 := fun x y H Q => ∃ a b xs, x = .ref a ∧ y = .ref b ∧ SqL K H a xs ∧ SqL K H b [] ∧ Q (.bl (!xs.isEmpty)) H
theorem op_neNil {X : Cx} (hu : X.A.units + 1 < cLine) : OpR X (compareOp .NotEq) (rNeNil X.K) := by
  intro pins s σ H x y v u Q I rx ry h
  obtain ⟨a, b, xs, rfl, rfl, ha, hb, q⟩ := h
  cases rx
  cases ry
  obtain ⟨us, r1, p1, _⟩ := I.list ha
  obtain ⟨ws, r2, p2, _⟩ := I.list hb
  cases r2
  cases xs with
  | nil =>
    cases r1
    exact SeqAt.RcNeAt.lists (e := fun _ => true) p1.isList p2.isList rfl (by omega) (fun j h1 => absurd h1 (Nat.not_lt_zero j)) _ _ _ _ ⟨.bl false, H, I, rfl, q⟩
  | cons z zs =>
    cases r1
    exact SeqAt.RcNeAt.lists_lengths p1.isList p2.isList (by simp) (by omega) _ _ _ _ ⟨.bl true, H, I, rfl, q⟩
end J
set_option Elab.async false
set_option linter.all false
set_option maxRecDepth 100000
set_option maxHeartbeats 4000000
set_option exponentiation.threshold 3000
namespace J
open PySem PySem.Spec PyProof.Rows L2 TL

/-! J22: a map read. -/
def LL (L : Land) : List (List Nat) := (linesOf L).map tl
theorem lawText_tl (L : Land) : tl (lawText L) = joinL [10] (LL L) := by
  unfold lawText LL
  rw [join_list, nl_tl]
/-- behind a line -/
def tailL : List (List Nat) → List Nat
  | [] => []
  | p :: r => 10 :: joinL [10] (p :: r)
theorem joinL_cons (a : List Nat) : ∀ l : List (List Nat), joinL [10] (a :: l) = a ++ tailL l
  | [] => by simp [joinL, tailL]
  | p :: r => rfl
theorem tail_eol (l : List (List Nat)) : Eol (tailL l) := by
  cases l with
  | nil => exact .inl rfl
  | cons p r => exact .inr ⟨_, rfl⟩
theorem Land.Ok.sz {L : Land} (h : L.Ok) : LandSz L := by
  have := h.s3
  have := h.r6
  exact ⟨by omega, by omega, fun x hx => (h.sn x hx).2, fun r hr => (h.rn r hr).sz h.sn⟩
theorem lawText_len {L : Land} (h : L.Ok) : (lawText L).length ≤ 100000 := by
  obtain ⟨h1, _⟩ := lines_len h.sz
  have h2 : (linesOf L).length ≤ 9 := by
    unfold linesOf
    rw [List.length_append, List.length_map, List.length_map]
    have := h.s3
    have := h.r6
    omega
  have h3 := join_len "\n" (linesOf L)
  have e1 : ("\n" : Str).length = 1 := by decide +kernel
  rw [e1] at h3
  unfold wsum at h3
  have := sum_le (f := fun x : Str => x.length) h1
  have := Nat.mul_le_mul_right 2500 h2
  unfold lawText
  omega
theorem lines_at {L : Land} {i : Nat} (h : i < (linesOf L).length) : (∃ x, L.spots[i]? = some x ∧ (LL L)[i]? = some (tl ("spot" : Str) ++ 32 :: tl x)) ∨
    (L.spots.length ≤ i ∧ ∃ r, L.roads[i - L.spots.length]? = some r ∧ (LL L)[i]? = some (tl ("road" : Str) ++ 32 :: roadL r)) := by
  unfold linesOf at h
  rw [List.length_append, List.length_map, List.length_map] at h
  unfold LL linesOf
  by_cases hi : i < L.spots.length
  · obtain ⟨x, hx⟩ := at_of_lt hi
    refine .inl ⟨x, hx, ?_⟩
    rw [List.getElem?_map, List.getElem?_append_left (by rw [List.length_map]; exact hi), List.getElem?_map, hx]
    show some (tl (("spot " : Str) ++ x)) = _
    rw [tl_append, spot_tl, spot_tl']
    rfl
  · obtain ⟨r, hr⟩ := at_of_lt (xs := L.roads) (i := i - L.spots.length) (by omega)
    refine .inr ⟨by omega, r, hr, ?_⟩
    rw [List.getElem?_map, List.getElem?_append_right (by rw [List.length_map]; omega), List.getElem?_map, List.length_map, hr]
    show some (tl (roadLine r)) = _
    rw [roadLine_tl]
theorem drop_at {α : Type} {xs : List α} {i : Nat} {x : α} (h : xs[i]? = some x) : xs.drop i = x :: xs.drop (i + 1) := by
  obtain ⟨hi, e⟩ := List.getElem?_eq_some_iff.mp h
  rw [List.drop_eq_getElem_cons hi, e]
theorem RoadO.updL {K : PySem.W.Frag} {H : Hp} {v : V} {r : Rd} {l : Addr} {xs : List V} {o : HO} (h : RoadO K H v r) (hl : H l = some (.lst xs)) : RoadO K (upd H l o) v r := by
  obtain ⟨p, d, q, e, a, c⟩ := h
  refine ⟨p, d, q, e, ?_, c.upd hl⟩
  rw [upd_ne (ne_of a hl (by intro z; cases z))]
  exact a
theorem same_but {p : Addr} {H H1 H2 : Hp} (s : Same H H1) (b : But p H1 H2) (hn : H p = none) : Same H H2 := fun q u e => b q u (ne_of_none e hn) (s q u e)
theorem not_mem_take {α : Type} {xs : List α} {i : Nat} {x : α} (h : xs.Nodup) (hx : xs[i]? = some x) : x ∉ xs.take i := fun m => by
  obtain ⟨j, hj⟩ := List.getElem?_of_mem m
  have hji := (List.getElem?_eq_some_iff.mp hj).1
  rw [List.length_take] at hji
  rw [List.getElem?_take_of_lt (by omega)] at hj
  have hi := (List.getElem?_eq_some_iff.mp hx)
  have hjj := (List.getElem?_eq_some_iff.mp hj)
  have := List.pairwise_iff_getElem.mp h j i hjj.1 hi.1 (by omega)
  exact this (hjj.2.trans hi.2.symm)
section
variable {P : Program} {w : World} {K : PySem.W.Frag} {mg : Str → Option Value} {base : Heap}
def sp_read_map (K : PySem.W.Frag) : Sp := fun vs H Q _ => ∃ (L : Land), vs = [.str (lawText L)] ∧ L.Ok ∧ ∀ (H' : Hp) (t sl rl : Addr) (xs : List V), Same H H' → H' t = some (.tup [.ref sl, .ref rl]) → H' sl = some (.lst (L.spots.map V.str)) → H' rl = some (.lst xs) → Paired (RoadO K H') xs L.roads → Q (.ref t) H'
/-- the loop's word -/
structure RmW (K : PySem.W.Frag) (L : Land) (H : Hp) (p dx sl rl : Addr) (i : Nat) (H' : Hp) : Prop where
  le : i ≤ (linesOf L).length
  sm : Same H H'
  at_ : ∃ n, H' p = some (rdr K dx (lawText L) n) ∧ lft (lawText L) n = joinL [10] ((LL L).drop i)
  s : H' sl = some (.lst ((L.spots.take i).map V.str))
  r : ∃ xs, H' rl = some (.lst xs) ∧ Paired (RoadO K H') xs (L.roads.take (i - L.spots.length))
abbrev N_read_map : List Str := ["text", "reader", "spots", "roads", "words", "word", "road"]
theorem sc_read_map : FnScope N_read_map ["text"] (defScope s_read_map) := ⟨rfl, rfl, rfl, by decide +kernel, rfl, by decide +kernel, by decide +kernel⟩
theorem ok_read_map (T : Tx K mg) : Cl P w K mg base CX0 8 "read_map" (sp_read_map K) [] := by
  obtain ⟨fd, F⟩ := T.d_read_map
  refine cl_of (ps := ["text"]) F T.g_read_map (FunD.cl0 F sc_read_map (fun vs H Q E h => ?_) (fun cdv A outer s H vs Q E hr h => ?_)) fun _ _ _ _ _ _ us hl => match us, hl with | [_], _ => rfl
  · obtain ⟨L, rfl, _⟩ := h
    rfl
  · obtain ⟨L, rfl, ok, k⟩ := h
    have hu := hu_of hr
    refine ⟨_, (pss_cons (par3 1 2 3 sc_read_map.nd (pa_cons (pe_mm (ok_Reader_init T) hr pass0 (pa_cons (pv 0) pa_nil)) (pa_cons (pe_lst pa_nil) (pa_cons (pe_lst pa_nil) pa_nil))))
      (pss_cons (ps_while (PassesOwn.never) (pt_val (pe_ml0 (ok_Reader_has_words T) hr pass0 (pv 1))) (pss_mid (st 4 sc_read_map.nd (pe_ifExp (pw_and (pt_cmpR (op_eqNil hu) (pv 3) (pe_lst pa_nil) (nomark _)) (pw_and1 (pt_cmpR op_lt (pe_lenS T (pv 2)) (pe_gi (by rfl) T.i_MOST_SPOTS) (nomark _)))).pt (pe_lst (pa_cons pe_str pa_nil)) (pe_lst pa_nil))) (pss_mid (ps_if (pw_and (pt_cmpR (op_neNil hu) (pv 2) (pe_lst pa_nil) (nomark _)) (pw_and1 (pt_cmpR op_lt (pe_lenS T (pv 3)) (pe_gi (by rfl) T.i_MOST_ROADS) (nomark _)))).pt (pss_one (ps_app (pv 4) pe_str)) pss_nil) (pss_cons (st 5 sc_read_map.nd (pe_ml (ok_Reader_word_of T) hr pass0 (pv 1) (pa_cons (pv 4) pa_nil))) (pss_cons (ps_expr (pe_ml0 (ok_Reader_need_space T) hr pass0 (pv 1))) (pss_mid (ps_if (pt_cmpR op_eq (pv 5) pe_str (nomark _)) (pss_one (ps_app (pv 2) (pe_ml (ok_Reader_new_name2 T) hr pass0 (pv 1) (pa_cons (pv 2) pa_nil)))) (pss_one (ps_app (pv 3) (pe_cl (ok_read_road T) hr pass0 (pa_cons (pv 1) (pa_cons (pv 2) (pa_cons (pe_lc (te := tFld K (tVar 6) "name") rfl sc_read_map.nd (pi_list (pv 3)) (blkOk_by (own := [("road", 6)]) (N := N_read_map) (sc := defScope s_read_map) (by decide +kernel)) (fun _ _ _ _ _ => (gn 6 sc_read_map.nd)) (fun _ _ _ _ _ => pts_nil) (fun _ _ _ _ _ => (pe_fld (pv 6) rfl))) pa_nil))))))) (pss_one (ps_expr (pe_ml0 (ok_Reader_end_line T) hr pass0 (pv 1))))))))))
      (pss_cons (ps_if (pt_cmpR (op_eqNil hu) (pv 2) (pe_lst pa_nil) (nomark _)) (pss_one (ps_never)) pss_nil)
      (pss_one (ps_ret (pe_tup (pa_cons (pv 2) (pa_cons (pv 3) pa_nil)))))))), ?_⟩
    have hW := lawText_len ok
    have hns := ok.s3
    have hnr := ok.r6
    have hlen : (linesOf L).length = L.spots.length + L.roads.length := by
      unfold linesOf
      rw [List.length_append, List.length_map, List.length_map]
    refine ⟨_, rfl, fun p dx np ndx hne => ⟨p, dx, lawText L, rfl, upd_same, fun H0 b0 e0 => ⟨rfl, by show 0 ≤ sizeLine; decide, fun sl nsl => ⟨by show 0 ≤ sizeLine; decide, fun rl nrl => ⟨_, _, _, rfl, ?_⟩⟩⟩⟩⟩
    have e0 : H0 p = some (rdr K dx (lawText L) 0) := e0
    have s0 : Same H H0 := but_same b0 (same_new ndx) np
    have psl : p ≠ sl := ne_of_none e0 nsl
    have slr : sl ≠ rl := ne_of_none upd_same nrl
    have nrl0 : H0 rl = none := by
      rw [upd_ne slr.symm] at nrl
      exact nrl
    have prl : p ≠ rl := ne_of_none e0 nrl0
    have hsl := s0.free nsl
    have hrl := s0.free nrl0
    refine ⟨fun m σ H' => ∃ (i : Nat) (o4 o5 : Option V), m = (linesOf L).length - i ∧ σ = [some (.str (lawText L)), some (.ref p), some (.ref sl), some (.ref rl), o4, o5, none] ∧ RmW K L H p dx sl rl i H', ⟨_, 0, none, none, rfl, rfl, Nat.zero_le _, sN (sN s0 nsl) nrl, ⟨0, ?_, ?_⟩, ?_, [], upd_same, ?_⟩, ?_⟩
    · show upd (upd H0 sl (.lst [])) rl (.lst []) p = _
      rw [upd_ne prl, upd_ne psl]
      exact e0
    · rw [List.drop_zero, ← lawText_tl]
      exact List.drop_zero
    · show upd (upd H0 sl (.lst [])) rl (.lst []) sl = _
      rw [upd_ne slr, upd_same]
      rfl
    · rw [Nat.zero_sub, List.take_zero]
      exact .nil
    rintro m σ H' ⟨i, o4, o5, rfl, rfl, ⟨hi, sm, ⟨n, hp, hl⟩, hs, xs, hr1, hrs⟩⟩
    by_cases hin : i < (linesOf L).length
    · obtain ⟨ln, hln⟩ : ∃ ln, (LL L)[i]? = some ln := at_of_lt (by unfold LL; rw [List.length_map]; exact hin)
      rw [drop_at hln, joinL_cons] at hl
      have hcase := lines_at hin
      have hhead : ∃ c t, ln = c :: t ∧ c ≠ 32 ∧ c ≠ 10 := by
        rcases hcase with ⟨x, _, e⟩ | ⟨_, r, _, e⟩
        · rw [hln] at e
          injection e with e
          exact ⟨115, _, by rw [e, spot_tl']; rfl, by decide, by decide⟩
        · rw [hln] at e
          injection e with e
          exact ⟨114, _, by rw [e, road_tl]; rfl, by decide, by decide⟩
      obtain ⟨c0, t0, ec, c32, c10⟩ := hhead
      refine ⟨_, rfl, p, dx, _, rfl, hp, rfl, p, dx, lawText L, n, rfl, hp, hW, fun c s h => ?_, _, rfl, ?_⟩
      · rw [hl, ec] at h
        injection h with h _
        rw [← h]
        exact ⟨c32, c10⟩
      have ne0 : (!(lft (lawText L) n).isEmpty) = true := by
        rw [hl, ec]
        rfl
      rw [ne0]
      refine iteT ⟨fun σ' H' => ∃ m', m' < (linesOf L).length - i ∧ ∃ (i : Nat) (o4 o5 : Option V), m' = (linesOf L).length - i ∧ σ' = [some (.str (lawText L)), some (.ref p), some (.ref sl), some (.ref rl), o4, o5, none] ∧ RmW K L H p dx sl rl i H', fun _ _ h => h, ?_⟩
      have xl := paired_len hrs
      rw [List.length_take] at xl
      have tl0 : ((L.spots.take i).map V.str).length ≤ 3 := by
        rw [List.length_map]
        exact Nat.le_trans (List.length_take_le' ..) hns
      refine ⟨fun σ H2 => ∃ (wl : Addr) (ws : List Str), σ = [some (.str (lawText L)), some (.ref p), some (.ref sl), some (.ref rl), some (.ref wl), o5, none] ∧ Same H' H2 ∧ H' wl = none ∧ H2 wl = some (.lst (ws.map V.str)) ∧ ws = (if i ≤ L.spots.length then [("spot" : Str)] else []), ?_, ?_⟩
      · refine ⟨_, rfl, by show 0 ≤ sizeLine; decide, fun q nq => ⟨rl, q, xs, rfl, rfl, SqL.of ((same_new nq) _ _ hr1), SqL.of upd_same, _, rfl, ?_⟩⟩
        by_cases his : i ≤ L.spots.length
        · have ex : xs = [] := List.length_eq_zero_iff.mp (by omega)
          rw [ex]
          refine iteT ⟨_, rfl, sl, _, rfl, .inl (SqL.of ((same_new nq) _ _ hs)), _, _, rfl, rfl, _, rfl, ?_⟩
          rw [decide_eq_true (by omega)]
          refine iteT ⟨by show 1 ≤ sizeLine; decide, fun wl nwl => ⟨wl, ["spot"], rfl, sN (same_new nq) nwl, (same_new nq).free nwl, upd_same, by rw [if_pos his]⟩⟩
        · have ex : xs.isEmpty = false := by
            cases xs with
            | nil =>
              simp only [List.length_nil] at xl
              omega
            | cons => rfl
          rw [ex]
          refine iteF (iteF ⟨by show 0 ≤ sizeLine; decide, fun wl nwl => ⟨wl, [], rfl, sN (same_new nq) nwl, (same_new nq).free nwl, upd_same, by rw [if_neg his]⟩⟩)
      rintro σ H2 ⟨wl, ws, rfl, s2, nwl, hwl, ews⟩
      refine ⟨fun σ H3 => ∃ (ws' : List Str), σ = [some (.str (lawText L)), some (.ref p), some (.ref sl), some (.ref rl), some (.ref wl), o5, none] ∧ Same H' H3 ∧ H3 wl = some (.lst (ws'.map V.str)) ∧ (∀ w ∈ ws', w = "spot" ∨ w = "road") ∧ ws'.length ≤ 2 ∧ (i < L.spots.length → ("spot" : Str) ∈ ws') ∧ (L.spots.length ≤ i → ("road" : Str) ∈ ws'), ?_, ?_⟩
      · refine ⟨_, rfl, by show 0 ≤ sizeLine; decide, fun q nq => ⟨sl, q, _, rfl, rfl, SqL.of ((same_new nq) _ _ (s2 _ _ hs)), SqL.of upd_same, _, rfl, ?_⟩⟩
        have s0' : 0 < L.spots.length := List.length_pos_iff.mpr ok.s0
        by_cases hi0 : i = 0
        · subst hi0
          rw [List.take_zero]
          refine iteF (iteF ⟨ws, rfl, sN s2 nq, (same_new nq) _ _ hwl, ?_, ?_, ?_, fun h => by omega⟩)
          · intro w hw
            rw [ews, if_pos (Nat.zero_le _)] at hw
            exact .inl (List.mem_singleton.mp hw)
          · rw [ews, if_pos (Nat.zero_le _)]
            decide
          · intro _
            rw [ews, if_pos (Nat.zero_le _)]
            exact List.mem_singleton.mpr rfl
        · have en : (!((L.spots.take i).map V.str).isEmpty) = true := by
            cases e : L.spots with
            | nil => exact absurd e ok.s0
            | cons a b =>
              obtain ⟨j, rfl⟩ : ∃ j, i = j + 1 := ⟨i - 1, by omega⟩
              rfl
          rw [en]
          refine iteT ⟨_, rfl, rl, _, rfl, .inl (SqL.of ((same_new nq) _ _ (s2 _ _ hr1))), _, _, rfl, rfl, _, rfl, ?_⟩
          rw [decide_eq_true (by omega)]
          have hwl2 := (same_new (o := .lst []) nq) _ _ hwl
          have wsl : ws.length ≤ 1 := by
            rw [ews]
            split <;> decide
          refine iteT ⟨_, rfl, .inl ⟨rfl, _, SqL.of hwl2⟩, wl, _, _, rfl, rfl, hwl2, by rw [List.length_map]; exact small1000 (by omega), ws ++ [("road" : Str)], rfl, sM (sN s2 nq) nwl, by rw [upd_same, List.map_append]; rfl, ?_, ?_, ?_, ?_⟩
          · intro w hw
            rcases List.mem_append.mp hw with z | z
            · rw [ews] at z
              split at z
              · exact .inl (List.mem_singleton.mp z)
              · cases z
            · exact .inr (List.mem_singleton.mp z)
          · rw [List.length_append]
            simp only [List.length_cons, List.length_nil]
            omega
          · intro h
            refine List.mem_append_left _ ?_
            rw [ews, if_pos (by omega)]
            exact List.mem_singleton.mpr rfl
          · intro _
            exact List.mem_append_right _ (List.mem_singleton.mpr rfl)
      rintro σ H3 ⟨ws', rfl, s3, hwl3, wok, wl2, wsp, wrd⟩
      have spl : ("spot" : Str).length = 4 := by decide +kernel
      have rdl : ("road" : Str).length = 4 := by decide +kernel
      have wok' : ∀ w ∈ ws', (∀ d ∈ tl w, d ≠ 32 ∧ d ≠ 10) ∧ w.length ≤ 1000 := by
        intro w hw
        rcases wok w hw with rfl | rfl
        · refine ⟨fun d hd => ?_, by rw [spl]; decide⟩
          rw [spot_tl'] at hd
          simp at hd
          omega
        · refine ⟨fun d hd => ?_, by rw [rdl]; decide⟩
          rw [road_tl] at hd
          simp at hd
          omega
      have hp3 := s3 _ _ hp
      have hs3 := s3 _ _ hs
      have hr3 := s3 _ _ hr1
      have sm3 := sm.trans s3
      have hrs3 := L2.Paired.mapP hrs (fun _ _ z => RoadO.mono z s3)
      have fin : ∀ (o4 o5 : Option V) (H9 : Hp) (n9 : Nat), Same H H9 → H9 p = some (rdr K dx (lawText L) n9) → lft (lawText L) n9 = tailL ((LL L).drop (i + 1)) → H9 sl = some (.lst ((L.spots.take (i + 1)).map V.str)) → (∃ xs, H9 rl = some (.lst xs) ∧ Paired (RoadO K H9) xs (L.roads.take (i + 1 - L.spots.length))) →
          tDrop (tMeth (He.ga K "Reader") "end_line" (sp_Reader_end_line K) [] E0 (tVar 1) tNil) { nx := fun σ' H' => ∃ m', m' < (linesOf L).length - i ∧ ∃ (i : Nat) (o4 o5 : Option V), m' = (linesOf L).length - i ∧ σ' = [some (.str (lawText L)), some (.ref p), some (.ref sl), some (.ref rl), o4, o5, none] ∧ RmW K L H p dx sl rl i H', rt := Q } [some (.str (lawText L)), some (.ref p), some (.ref sl), some (.ref rl), o4, o5, none] H9 := by
        intro o4 o5 H9 n9 s9 p9 l9 sl9 rl9
        refine ⟨_, rfl, p, dx, _, rfl, p9, rfl, p, dx, lawText L, n9, rfl, p9, hW, ?_⟩
        cases hd : (LL L).drop (i + 1) with
        | nil =>
          rw [hd] at l9
          exact .inl ⟨l9, (linesOf L).length - (i + 1), by omega, i + 1, o4, o5, rfl, rfl, hin, s9, ⟨n9, p9, by rw [hd]; exact l9⟩, sl9, rl9⟩
        | cons a b =>
          rw [hd] at l9
          refine .inr ⟨⟨_, l9⟩, fun H10 e10 => ⟨(linesOf L).length - (i + 1), by omega, i + 1, o4, o5, rfl, rfl, hin, ?_, ⟨n9 + 1, ?_, ?_⟩, ?_, ?_⟩⟩
          · rw [e10]
            exact sM s9 np
          · rw [e10]
            exact upd_same
          · rw [hd]
            exact lft_tail l9
          · rw [e10, upd_ne psl.symm]
            exact sl9
          · obtain ⟨ys, h1, h2⟩ := rl9
            refine ⟨ys, by rw [e10, upd_ne prl.symm]; exact h1, L2.Paired.mapP h2 (fun _ _ z => ?_)⟩
            rw [e10]
            exact z.but ((But.refl H9).put) p9
      rcases hcase with ⟨x, hx, e⟩ | ⟨hge, r, hr', e⟩
      · rw [hln] at e
        injection e with e
        have hi2 : i < L.spots.length := (List.getElem?_eq_some_iff.mp hx).1
        rw [e, List.append_assoc] at hl
        refine ⟨_, rfl, p, dx, _, rfl, hp3, rfl, _, rfl, p, dx, wl, lawText L, n, ws', "spot", _, rfl, hp3, hW, hwl3, by omega, wok', wsp hi2, by rw [spot_tl']; simp, hl, stop32, fun H4 b4 p4 => ?_⟩
        have p4 : H4 p = some (rdr K dx (lawText L) (n + ("spot" : Str).length)) := p4
        have l4 := lft_skip hl (eq_len _)
        have xok := ok.sn x (mem_at hx)
        refine ⟨_, rfl, p, dx, _, rfl, p4, rfl, p, dx, lawText L, _, _, rfl, p4, hW, l4, name_head xok.1, fun H5 e5 => ?_⟩
        have p5 : H5 p = some (rdr K dx (lawText L) (n + ("spot" : Str).length + 1)) := by rw [e5]; exact upd_same
        have b5 : But p H3 H5 := b4.trans (by rw [e5]; exact (But.refl H4).put)
        have l5 := lft_tail l4
        have hs5 := b5 _ _ psl.symm hs3
        have hr5 := b5 _ _ prl.symm hr3
        have hrs5 := L2.Paired.mapP hrs3 (fun _ _ z => RoadO.but z b5 hp3)
        have sm5 := same_but sm3 b5 np
        refine ⟨fun σ H9 => ∃ (o4 o5 : Option V) (n9 : Nat), σ = [some (.str (lawText L)), some (.ref p), some (.ref sl), some (.ref rl), o4, o5, none] ∧ Same H H9 ∧ H9 p = some (rdr K dx (lawText L) n9) ∧ lft (lawText L) n9 = tailL ((LL L).drop (i + 1)) ∧ H9 sl = some (.lst ((L.spots.take (i + 1)).map V.str)) ∧ (∃ xs, H9 rl = some (.lst xs) ∧ Paired (RoadO K H9) xs (L.roads.take (i + 1 - L.spots.length))), ?_, ?_⟩
        · refine ⟨_, rfl, rfl, _, rfl, ?_⟩
          rw [decide_eq_true (rfl : V.str "spot" = V.str "spot")]
          refine iteT ⟨_, rfl, .inl ⟨rfl, _, SqL.of hs5⟩, _, rfl, p, dx, _, rfl, p5, rfl, _, rfl, p, dx, sl, lawText L, _, x, _, L.spots.take i, rfl, p5, hW, l5, xok, (tail_eol _).stop, hs5, not_mem_take ok.sd hx, fun H6 e6 => ?_⟩
          have p6 : H6 p = some (rdr K dx (lawText L) (n + ("spot" : Str).length + 1 + x.length)) := by rw [e6]; exact upd_same
          have b6 : But p H5 H6 := by rw [e6]; exact (But.refl H5).put
          have hs6 := b6 _ _ psl.symm hs5
          have hr6 := b6 _ _ prl.symm hr5
          have hrs6 := L2.Paired.mapP hrs5 (fun _ _ z => RoadO.but z b6 p5)
          refine ⟨sl, _, _, rfl, rfl, hs6, by exact small1000 (by omega), _, _, _, rfl, sM (same_but sm5 b6 np) hsl, by rw [upd_ne psl]; exact p6, lft_skip l5 (eq_len _), ?_, xs, by rw [upd_ne slr.symm]; exact hr6, ?_⟩
          · rw [upd_same, take_map_snoc hx]
          · have e7 : i + 1 - L.spots.length = i - L.spots.length := by omega
            rw [e7]
            exact L2.Paired.mapP hrs6 (fun _ _ z => RoadO.updL z hs6)
        · rintro σ H9 ⟨o4', o5', n9, rfl, h1, h2, h3, h4, h5⟩
          exact fin o4' o5' H9 n9 h1 h2 h3 h4 h5
      · rw [hln] at e
        injection e with e
        rw [e, List.append_assoc] at hl
        refine ⟨_, rfl, p, dx, _, rfl, hp3, rfl, _, rfl, p, dx, wl, lawText L, n, ws', "road", _, rfl, hp3, hW, hwl3, by omega, wok', wrd hge, by rw [road_tl]; simp, hl, stop32, fun H4 b4 p4 => ?_⟩
        have p4 : H4 p = some (rdr K dx (lawText L) (n + ("road" : Str).length)) := p4
        have l4 := lft_skip hl (eq_len _)
        have rok := ok.rn r (mem_at hr')
        have rh : (roadL r ++ tailL ((LL L).drop (i + 1))).head? ≠ some 32 := by
          unfold roadL
          rw [List.append_assoc]
          exact name_head rok.nm.1
        refine ⟨_, rfl, p, dx, _, rfl, p4, rfl, p, dx, lawText L, _, _, rfl, p4, hW, l4, rh, fun H5 e5 => ?_⟩
        have p5 : H5 p = some (rdr K dx (lawText L) (n + ("road" : Str).length + 1)) := by rw [e5]; exact upd_same
        have b5 : But p H3 H5 := b4.trans (by rw [e5]; exact (But.refl H4).put)
        have l5 := lft_tail l4
        have ts : L.spots.take i = L.spots := List.take_of_length_le hge
        have hs5 := b5 _ _ psl.symm hs3
        rw [ts] at hs5
        have hr5 := b5 _ _ prl.symm hr3
        have hrs5 := L2.Paired.mapP hrs3 (fun _ _ z => RoadO.but z b5 hp3)
        have sm5 := same_but sm3 b5 np
        refine ⟨fun σ H9 => ∃ (o4 o5 : Option V) (n9 : Nat), σ = [some (.str (lawText L)), some (.ref p), some (.ref sl), some (.ref rl), o4, o5, none] ∧ Same H H9 ∧ H9 p = some (rdr K dx (lawText L) n9) ∧ lft (lawText L) n9 = tailL ((LL L).drop (i + 1)) ∧ H9 sl = some (.lst ((L.spots.take (i + 1)).map V.str)) ∧ (∃ xs, H9 rl = some (.lst xs) ∧ Paired (RoadO K H9) xs (L.roads.take (i + 1 - L.spots.length))), ?_, ?_⟩
        · refine ⟨_, rfl, rfl, _, rfl, ?_⟩
          have hne2 : ¬ V.str "road" = V.str "spot" := fun z => by
            injection z with z
            have := congrArg tl z
            rw [road_tl, spot_tl'] at this
            simp at this
          rw [decide_eq_false hne2]
          refine iteF ⟨_, rfl, .inl ⟨rfl, _, SqL.of hr5⟩, _, rfl, _, rfl, _, rfl, rl, rfl, ⟨_, SqL.of hr5⟩, fun D hD => ?_⟩
          refine lc_list (xs := xs) (fun j H'' => Same H5 H'' ∧ H'' D = some (.lst ((((L.roads.take (i - L.spots.length)).take j).map (·.name)).map V.str))) ⟨same_new hD, upd_same⟩ ?_ ?_ ?_
          · rintro j H'' hj ⟨s1, e⟩
            exact SqL.of (s1 _ _ hr5)
          · rintro j y H'' hy ⟨s1, e⟩
            obtain ⟨z, hz, hzo⟩ := paired_at hrs5 hy
            obtain ⟨q, dq, c, rfl, hq, _⟩ := hzo.mono s1
            refine ⟨rfl, _, rfl, q, _, dq, _, _, rfl, hq, T.c_Road, T.n_Road_name, rfl, _, e, by rw [List.length_map, List.length_map]; exact small1000 (Nat.le_trans (List.length_take_le' ..) (Nat.le_trans (List.length_take_le' ..) (by omega))), sM s1 hD, ?_⟩
            rw [upd_same, take_map_snoc hz, List.map_append]
            rfl
          · rintro H'' ⟨s1, e⟩
            rw [paired_len hrs5, List.take_length] at e
            have p6 := s1 _ _ p5
            refine ⟨p, dx, sl, D, lawText L, _, r, _, L.spots, (L.roads.take (i - L.spots.length)).map (·.name), rfl, p6, hW, l5, tail_eol _, s1 _ _ hs5, ok.sn, by omega, rok, e, ?_, fun H7 v b7 p7 ro7 => ?_⟩
            · rw [List.map_take]
              exact not_mem_take ok.rd (by rw [List.getElem?_map, hr']; rfl)
            · have p7 : H7 p = some (rdr K dx (lawText L) (n + ("road" : Str).length + 1 + (roadL r).length)) := p7
              have hr7 := b7 _ _ prl.symm (s1 _ _ hr5)
              have hs7 := b7 _ _ psl.symm (s1 _ _ hs5)
              have hrs7 := L2.Paired.mapP hrs5 (fun _ _ z => (RoadO.mono z s1).but b7 p6)
              refine ⟨rl, _, _, rfl, rfl, hr7, by exact small1000 (by omega), _, _, _, rfl, sM (same_but (sm5.trans s1) b7 np) hrl, by rw [upd_ne prl]; exact p7, lft_skip l5 rfl, by rw [upd_ne slr, List.take_of_length_le (by omega)]; exact hs7, _, upd_same, ?_⟩
              have e8 : i + 1 - L.spots.length = (i - L.spots.length) + 1 := by omega
              rw [e8, List.take_succ, hr']
              exact Paired.snoc (L2.Paired.mapP hrs7 (fun _ _ z => RoadO.updL z hr7)) (ro7.updL hr7)
        · rintro σ H9 ⟨o4', o5', n9, rfl, h1, h2, h3, h4, h5⟩
          exact fin o4' o5' H9 n9 h1 h2 h3 h4 h5
    · have hie : i = (linesOf L).length := by omega
      have hle : lft (lawText L) n = [] := by
        rw [hl, List.drop_of_length_le (by unfold LL; rw [List.length_map]; omega)]
        rfl
      refine ⟨_, rfl, p, dx, _, rfl, hp, rfl, p, dx, lawText L, n, rfl, hp, hW, fun c s h => absurd (h.symm.trans hle) (by simp), _, rfl, ?_⟩
      rw [hle]
      have ts : L.spots.take i = L.spots := List.take_of_length_le (by omega)
      have tr : L.roads.take (i - L.spots.length) = L.roads := List.take_of_length_le (by omega)
      rw [ts] at hs
      rw [tr] at hrs
      refine iteF ⟨_, rfl, by show 0 ≤ sizeLine; decide, fun q nq => ⟨sl, q, _, rfl, rfl, SqL.of ((same_new nq) _ _ hs), SqL.of upd_same, _, rfl, ?_⟩⟩
      have en : (L.spots.map V.str).isEmpty = false := by
        cases e : L.spots with
        | nil => exact absurd e ok.s0
        | cons a b => rfl
      rw [en]
      refine iteF ⟨_, rfl, _, rfl, by show 2 ≤ sizeLine; decide, fun t nt => ?_⟩
      have s9 := sN (same_new (o := .lst []) nq) (o := .tup [.ref sl, .ref rl]) nt
      exact k _ t sl rl xs (sm.trans s9) upd_same (s9 _ _ hs) (s9 _ _ hr1) (L2.Paired.mapP hrs fun _ _ z => RoadO.mono z s9)
end
end J
set_option Elab.async false
set_option linter.all false
set_option maxRecDepth 100000
set_option maxHeartbeats 4000000
set_option exponentiation.threshold 3000
namespace J
open PySem PySem.Spec PyProof.Rows L2 TL

/-! J23: a map made. -/
def dcSc (b : List Stmt) (j : Nat) : Scope := match b.getD j (.Pass ⟨0, 0, 0, 0⟩) with
  | .Assign _ (.DictComp _ _ _ sc _) _ => sc
  | _ => { kind := .function, names := [], isGenerator := false, isCoroutine := false }
def mapO (K : PySem.W.Frag) (dx t1 t2 : Addr) (x : Str) (d1 d2 : Addr) : HO := .ins (He.ga K "Map") dx [("spots", .ref t1), ("roads", .ref t2), ("text", .str x), ("by_name", .ref d1), ("by_start", .ref d2)]
def MapO (K : PySem.W.Frag) (H : Hp) (v : V) (L : Land) : Prop := ∃ (p dx t1 t2 d1 d2 : Addr) (xs : List V), v = .ref p ∧ H p = some (mapO K dx t1 t2 (progText L) d1 d2) ∧ H t1 = some (.tup (L.spots.map V.str)) ∧ H t2 = some (.tup xs) ∧ Paired (RoadO K H) xs L.roads
theorem MapO.mono {K : PySem.W.Frag} {H H' : Hp} {v : V} {L : Land} (h : MapO K H v L) (s : Same H H') : MapO K H' v L :=
  let ⟨p, dx, t1, t2, d1, d2, xs, e, h0, h1, h2, h3⟩ := h; ⟨p, dx, t1, t2, d1, d2, xs, e, s _ _ h0, s _ _ h1, s _ _ h2, L2.Paired.mapP h3 fun _ _ z => RoadO.mono z s⟩
theorem road_few {K : PySem.W.Frag} {dx : Addr} {r : Rd} {q : V} {C d : Addr} {fs : List (Str × V)} (h : fs.length ≠ 6) : roadO K dx r q ≠ .ins C d fs := by
  intro z
  unfold roadO at z
  injection z with _ _ z
  rw [← z] at h
  exact h rfl
theorem RoadO.butI {K : PySem.W.Frag} {p C d : Addr} {fs : List (Str × V)} {H H' : Hp} {v : V} {r : Rd} (h : RoadO K H v r) (b : But p H H') (hp : H p = some (.ins C d fs)) (hf : fs.length ≠ 6) : RoadO K H' v r := by
  obtain ⟨q, dq, c, e, a, hc⟩ := h
  exact ⟨q, dq, c, e, b _ _ (ne_of a hp (road_few hf)) a, hc.but b hp (fun _ z => by cases z)⟩
theorem But.tupl {p : Addr} {H H' : Hp} {C d : Addr} {fs : List (Str × V)} {q : Addr} {xs : List V} (b : But p H H') (hp : H p = some (.ins C d fs)) (h : H q = some (.tup xs)) : H' q = some (.tup xs) := b _ _ (ne_of h hp (by intro z; cases z)) h
/-- a map under way -/
structure MapW (K : PySem.W.Frag) (L : Land) (H : Hp) (p dx t1 t2 : Addr) (more : List (Str × V)) (H' : Hp) : Prop where
  b : But p H H'
  hp : H' p = some (.ins (He.ga K "Map") dx (("spots", V.ref t1) :: ("roads", V.ref t2) :: more))
  h1 : H' t1 = some (.tup (L.spots.map V.str))
  h2 : ∃ xs, H' t2 = some (.tup xs) ∧ Paired (RoadO K H') xs L.roads
theorem MapW.same {K : PySem.W.Frag} {L : Land} {H : Hp} {p dx t1 t2 : Addr} {more : List (Str × V)} {H' H2 : Hp} (h : MapW K L H p dx t1 t2 more H') (s : Same H' H2) : MapW K L H p dx t1 t2 more H2 := by
  obtain ⟨xs, h2, hx⟩ := h.h2
  exact ⟨h.b.trans (But.of s), s _ _ h.hp, s _ _ h.h1, xs, s _ _ h2, L2.Paired.mapP hx fun _ _ z => RoadO.mono z s⟩
theorem MapW.put {K : PySem.W.Frag} {L : Land} {H : Hp} {p dx t1 t2 : Addr} {more more' : List (Str × V)} {H' : Hp} (h : MapW K L H p dx t1 t2 more H') (hm : more.length ≤ 3) : MapW K L H p dx t1 t2 more' (upd H' p (.ins (He.ga K "Map") dx (("spots", V.ref t1) :: ("roads", V.ref t2) :: more'))) := by
  obtain ⟨xs, h2, hx⟩ := h.h2
  have b1 : But p H' (upd H' p (.ins (He.ga K "Map") dx (("spots", V.ref t1) :: ("roads", V.ref t2) :: more'))) := (But.refl H').put
  have hf : (("spots", V.ref t1) :: ("roads", V.ref t2) :: more : List (Str × V)).length ≠ 6 := by
    simp only [List.length_cons]
    omega
  exact ⟨h.b.trans b1, upd_same, b1.tupl h.hp h.h1, xs, b1.tupl h.hp h2, L2.Paired.mapP hx fun _ _ z => RoadO.butI z b1 h.hp hf⟩
theorem putK_le {κ : Type} [DecidableEq κ] (kvs : List (κ × V)) (k : κ) (v : V) : (putK kvs k v).length ≤ kvs.length + 1 := by
  unfold putK
  split
  · rw [List.length_map]
    omega
  · rw [List.length_append]
    exact Nat.le_refl _
section
variable {P : Program} {w : World} {K : PySem.W.Frag} {mg : Str → Option Value} {base : Heap}
def sp_Map_init (K : PySem.W.Frag) : Sp := fun vs H Q _ => ∃ (p dx : Addr) (x : Str) (mk : V) (L : Land), vs = [.ref p, .str x, mk] ∧ H p = some (.ins (He.ga K "Map") dx []) ∧
  ((x = lawText L ∧ mk = .non ∧ L.Ok) ∨ ∃ (t sl rl : Addr) (xs : List V), mk = .ref t ∧ H t = some (.tup [.ref sl, .ref rl]) ∧ H sl = some (.lst (L.spots.map V.str)) ∧ H rl = some (.lst xs) ∧ Paired (RoadO K H) xs L.roads ∧ LandSz L) ∧
  ∀ H', But p H H' → MapO K H' (.ref p) L → Q .non H'
abbrev N_Map___init__ : List Str := ["self", "text", "made", "spots", "roads", "road", "spot"]
theorem sc_Map___init__ : FnScope N_Map___init__ ["self", "text", "made"] (defScope s_Map___init__) := ⟨rfl, rfl, rfl, by decide +kernel, rfl, by decide +kernel, by decide +kernel⟩
theorem fn_Map___init__ (T : Tx K mg) : ∃ fd, FunD K "__init__" "Map.__init__" (defArgs s_Map___init__) (defBody s_Map___init__) (defScope s_Map___init__) [.non] [] (He.fAd K ("Map", some "__init__")) fd ∧ FnOk P w K mg base CX0 9 (He.fAd K ("Map", some "__init__")) fd ["self", "text", "made"] (sp_Map_init K) := by
  obtain ⟨fd, F⟩ := T.d_Map___init__
  refine ⟨fd, F, FunD.cl0 F sc_Map___init__ (fun vs H Q E h => ?_) (fun cdv A outer s H vs Q E hr h => ?_)⟩
  · obtain ⟨p, dx, x, mk, L, rfl, _⟩ := h
    rfl
  · obtain ⟨p, dx, x, mk, L, rfl, hp, hm, k⟩ := h
    refine ⟨_, (pss_mid (ps_asg (pe_ifExp (pt_cmpR op_isN (pv 2) pe_non (nomark _)) (pe_cl (ok_read_map T) hr pass0 (pa_cons (pv 1) pa_nil)) (pv 2)) (pg_tup rfl (pgs_cons (gn 3 sc_Map___init__.nd) (pgs_cons (gn 4 sc_Map___init__.nd) pgs_nil))))
      (pss_mid (ps_asg (pe_tup (pa_cons (pe_tupOf T (pv 3)) (pa_cons (pe_tupOf T (pv 4)) pa_nil))) (pg_tup rfl (pgs_cons (pg_fld (pv 0)) (pgs_cons (pg_fld (pv 0)) pgs_nil))))
      (pss_mid (ps_fld (pv 0) (pe_cl (ok_text_of T) hr pass0 (pa_cons (pe_fld (pv 0) rfl) (pa_cons (pe_fld (pv 0) rfl) pa_nil))) rfl)
      (pss_mid (ps_fld (pv 0) (pe_dc (tk := tFld K (tVar 5) "name") rfl sc_Map___init__.nd (pi_tup (pe_fld (pv 0) rfl)) (blkOk_by (own := [("road", 5)]) (N := N_Map___init__) (sc := defScope s_Map___init__) (by decide +kernel)) (fun _ _ _ _ _ => (gn 5 sc_Map___init__.nd)) (fun _ _ _ _ _ => pts_nil) (fun _ _ _ _ _ => (pe_fld (pv 5) rfl)) (fun _ _ _ _ _ => (pv 5))) rfl)
      (pss_one (ps_fld (pv 0) (pe_dc (tv := tLc (iTup K (tFld K (tVar 0) "roads")) (gName 5) (tTest (tOp rEq (tFld K (tVar 5) "start") (tVar 6))) (tVar 5) (([("road", 5)] : List (Str × Nat)).map (·.2))) rfl sc_Map___init__.nd (pi_tup (pe_fld (pv 0) rfl)) (blkOk_by (own := [("spot", 6)]) (N := N_Map___init__) (sc := defScope s_Map___init__) (by decide +kernel)) (fun _ _ _ _ _ => (gn 6 sc_Map___init__.nd)) (fun _ _ _ _ _ => pts_nil) (fun _ _ _ _ _ => (pv 6)) (fun _ _ _ _ _ => (pe_lc rfl sc_Map___init__.nd (pi_tup (pe_fld (pv 0) rfl)) (blkOk_by (own := [("road", 5)]) (N := N_Map___init__) (sc := relS (dcSc (defBody s_Map___init__) 4) (defScope s_Map___init__)) (by decide +kernel)) (fun _ _ _ _ _ => (gn 5 sc_Map___init__.nd)) (fun _ _ _ _ _ => pts_one (pt_cmpR op_eq (pe_fld (pv 5) rfl) (pv 6) (nomark _))) (fun _ _ _ _ _ => (pv 5))))) rfl)))))), ?_⟩
    have hz : LandSz L := by
      rcases hm with ⟨_, _, ok⟩ | ⟨_, _, _, _, _, _, _, _, _, hz⟩
      · exact ok.sz
      · exact hz
    have zs := hz.s
    have zr := hz.r
    refine ⟨fun σ H' => ∃ (sl rl : Addr) (xs : List V), σ = [some (.ref p), some (.str x), some mk, some (.ref sl), some (.ref rl), none, none] ∧ Same H H' ∧ H' sl = some (.lst (L.spots.map V.str)) ∧ H' rl = some (.lst xs) ∧ Paired (RoadO K H') xs L.roads, ?_, ?_⟩
    · rcases hm with ⟨rfl, rfl, ok⟩ | ⟨t, sl, rl, xs, rfl, ht, hs, hr', hx, _⟩
      · refine ⟨_, rfl, rfl, _, rfl, ?_⟩
        rw [decide_eq_true (rfl : V.non = V.non)]
        exact iteT ⟨_, rfl, L, rfl, ok, fun H' t sl rl xs s1 ht hs hr' hx => ⟨t, _, rfl, SqT.of ht, rfl, _, _, rfl, _, _, rfl, rfl, sl, rl, xs, rfl, s1, hs, hr', hx⟩⟩
      · refine ⟨_, rfl, rfl, _, rfl, ?_⟩
        rw [decide_eq_false (show ¬ V.ref t = V.non from fun z => by cases z)]
        exact iteF ⟨_, rfl, t, _, rfl, SqT.of ht, rfl, _, _, rfl, _, _, rfl, rfl, sl, rl, xs, rfl, Same.refl H, hs, hr', hx⟩
    rintro σ H1 ⟨sl, rl, xs, rfl, s1, hs, hr1, hx⟩
    have hp1 := s1 _ _ hp
    refine ⟨fun σ H' => ∃ t1 t2, σ = [some (.ref p), some (.str x), some mk, some (.ref sl), some (.ref rl), none, none] ∧ MapW K L H p dx t1 t2 [] H', ?_, ?_⟩
    · refine ⟨_, rfl, sl, _, rfl, .inl ⟨SqL.of hs, fun t1 n1 => ⟨_, rfl, rl, _, rfl, .inl ⟨SqL.of ((same_new n1) _ _ hr1), fun t2 n2 => ⟨by show 2 ≤ sizeLine; decide, fun tt ntt => ?_⟩⟩⟩⟩⟩
      have s2 := sN (sN (same_new (o := .tup (L.spots.map V.str)) n1) (o := .tup xs) n2) (o := .tup [.ref t1, .ref t2]) ntt
      have a1 : upd (upd (upd H1 t1 (.tup (L.spots.map V.str))) t2 (.tup xs)) tt (.tup [.ref t1, .ref t2]) t1 = some (.tup (L.spots.map V.str)) := (sN (same_new n2) ntt) _ _ upd_same
      have a2 : upd (upd (upd H1 t1 (.tup (L.spots.map V.str))) t2 (.tup xs)) tt (.tup [.ref t1, .ref t2]) t2 = some (.tup xs) := (same_new ntt) _ _ upd_same
      refine ⟨tt, _, rfl, SqT.of upd_same, rfl, ?_⟩
      revert s2 a1 a2
      generalize upd (upd (upd H1 t1 (.tup (L.spots.map V.str))) t2 (.tup xs)) tt (.tup [.ref t1, .ref t2]) = H2
      intro s2 a1 a2
      have hp2 := s2 _ _ hp1
      refine ⟨_, _, rfl, _, rfl, p, _, dx, _, rfl, hp2, T.c_Map, T.n_Map_spots, by decide, _, _, rfl, _, rfl, p, _, dx, _, rfl, upd_same, T.c_Map, T.n_Map_roads, by show 1 < 1000; decide, rfl, t1, t2, rfl, ?_⟩
      have b2 : But p H2 (upd (upd H2 p (.ins (He.ga K "Map") dx [("spots", .ref t1)])) p (.ins (He.ga K "Map") dx [("spots", .ref t1), ("roads", .ref t2)])) := (But.refl H2).put.put
      exact ⟨((But.of s1).trans (But.of s2)).trans b2, upd_same, b2.tupl hp2 a1, xs, b2.tupl hp2 a2, L2.Paired.mapP hx fun _ _ z => (RoadO.mono z s2).butI b2 hp2 (by decide)⟩
    rintro σ H2 ⟨t1, t2, rfl, W⟩
    refine ⟨fun σ H' => σ = [some (.ref p), some (.str x), some mk, some (.ref sl), some (.ref rl), none, none] ∧ MapW K L H p dx t1 t2 [("text", .str (progText L))] H', ?_, ?_⟩
    · obtain ⟨ys, h2, hy⟩ := W.h2
      refine ⟨_, rfl, p, _, dx, _, _, rfl, W.hp, T.c_Map, T.n_Map_spots, rfl, _, rfl, p, _, dx, _, _, rfl, W.hp, T.c_Map, T.n_Map_roads, rfl, t1, t2, ys, L, rfl, W.h1, h2, hy, hz, fun H3 s3 => ⟨_, rfl, p, _, dx, _, rfl, s3 _ _ W.hp, T.c_Map, T.n_Map_text, by show 2 < 1000; decide, rfl, (W.same s3).put (by decide)⟩⟩
    rintro σ H3 ⟨rfl, W3⟩
    refine ⟨fun σ H' => ∃ d1, σ = [some (.ref p), some (.str x), some mk, some (.ref sl), some (.ref rl), none, none] ∧ MapW K L H p dx t1 t2 [("text", .str (progText L)), ("by_name", .ref d1)] H', ?_, ?_⟩
    · obtain ⟨ys, h2, hy⟩ := W3.h2
      have hyl := paired_len hy
      refine ⟨_, rfl, p, _, dx, _, _, rfl, W3.hp, T.c_Map, T.n_Map_roads, rfl, t2, rfl, ⟨_, SqT.of h2⟩, fun D hD => ?_⟩
      refine dc_tup (xs := ys) (fun i H' => Same H3 H' ∧ ∃ kvs, H' D = some (.dK kvs) ∧ kvs.length ≤ i) ⟨same_new hD, [], upd_same, Nat.le_refl _⟩ ?_ ?_ ?_
      · rintro i H' hi ⟨s4, _⟩
        exact SqT.of (s4 _ _ h2)
      · rintro i v H' hv ⟨s4, kvs, e4, l4⟩
        obtain ⟨r, hr4, hro⟩ := paired_at hy hv
        obtain ⟨q, dq, c, rfl, hq, _⟩ := hro.mono s4
        have hi := (List.getElem?_eq_some_iff.mp hv).1
        refine ⟨rfl, _, rfl, q, _, dq, _, _, rfl, hq, T.c_Road, T.n_Road_name, rfl, _, rfl, kvs, .inr r.name, rfl, e4, small1000 (by omega), sM s4 hD, _, upd_same, Nat.le_trans (putK_le ..) (by omega)⟩
      · rintro H' ⟨s4, _⟩
        exact ⟨_, rfl, p, _, dx, _, rfl, s4 _ _ W3.hp, T.c_Map, T.n_Map_by_name, by show 3 < 1000; decide, D, rfl, (W3.same s4).put (by show 1 ≤ 3; decide)⟩
    rintro σ H4 ⟨d1, rfl, W4⟩
    obtain ⟨ys, h2, hy⟩ := W4.h2
    have hyl := paired_len hy
    refine ⟨_, rfl, p, _, dx, _, _, rfl, W4.hp, T.c_Map, T.n_Map_spots, rfl, t1, rfl, ⟨_, SqT.of W4.h1⟩, fun D hD => ?_⟩
    refine dc_tup (xs := L.spots.map V.str) (fun i H' => Same H4 H' ∧ ∃ kvs, H' D = some (.dK kvs) ∧ kvs.length ≤ i) ⟨same_new hD, [], upd_same, Nat.le_refl _⟩ ?_ ?_ ?_
    · rintro i H' hi ⟨s5, _⟩
      exact SqT.of (s5 _ _ W4.h1)
    · rintro i v H' hv ⟨s5, kvs, e5, l5⟩
      obtain ⟨sp, hsp, rfl⟩ := map_at hv
      have hi := (List.getElem?_eq_some_iff.mp hsp).1
      refine ⟨rfl, _, rfl, _, rfl, p, _, dx, _, _, rfl, s5 _ _ W4.hp, T.c_Map, T.n_Map_roads, rfl, t2, rfl, ⟨_, SqT.of (s5 _ _ h2)⟩, fun E hE => ?_⟩
      refine lc_tup (xs := ys) (fun j H'' => Same H' H'' ∧ ∃ zs, H'' E = some (.lst zs) ∧ zs.length ≤ j) ⟨same_new hE, [], upd_same, Nat.le_refl _⟩ ?_ ?_ ?_
      · rintro j H'' hj ⟨s6, _⟩
        exact SqT.of (s6 _ _ (s5 _ _ h2))
      · rintro j v H'' hv ⟨s6, zs, e6, l6⟩
        obtain ⟨r, hr4, hro⟩ := paired_at hy hv
        obtain ⟨q, dq, c, rfl, hq, _⟩ := (hro.mono s5).mono s6
        have hj := (List.getElem?_eq_some_iff.mp hv).1
        refine ⟨rfl, _, rfl, q, _, dq, _, _, rfl, hq, T.c_Road, T.n_Road_start, rfl, _, rfl, rfl, _, rfl, ?_⟩
        refine ite2 (fun _ => ?_) (fun _ => ⟨s6, zs, e6, by omega⟩)
        exact ⟨_, rfl, _, e6, small1000 (by omega), sM s6 hE, _, upd_same, by rw [List.length_append]; simp only [List.length_cons, List.length_nil]; omega⟩
      · rintro H'' ⟨s6, zs, e6, l6⟩
        refine ⟨kvs, .inr sp, rfl, s6 _ _ e5, small1000 (by omega), sM (s5.trans s6) hD, _, upd_same, Nat.le_trans (putK_le ..) (by omega)⟩
    · rintro H' ⟨s5, _⟩
      refine ⟨_, rfl, p, _, dx, _, rfl, s5 _ _ W4.hp, T.c_Map, T.n_Map_by_start, by show 4 < 1000; decide, ?_⟩
      have W5 := (W4.same s5).put (more' := [("text", .str (progText L)), ("by_name", .ref d1), ("by_start", .ref D)]) (by show 2 ≤ 3; decide)
      obtain ⟨zs, h5, hz5⟩ := W5.h2
      exact k _ W5.b ⟨p, dx, t1, t2, d1, D, zs, rfl, W5.hp, W5.h1, h5, hz5⟩
theorem ok_Map_init (T : Tx K mg) : Mm P w K mg base CX0 9 "Map" (He.ga K "Map") (sp_Map_init K) [] := by
  obtain ⟨fd, F, G⟩ := fn_Map___init__ (P := P) (w := w) (base := base) T
  obtain ⟨ds, v, b⟩ := F.binds1 (ps := ["self", "text", "made"]) 3 1 (by simp) rfl fun T kV doc pm an cdv ct us its h1 h2 => match us, its, h1, h2 with
    | [_, _, _], [_], _, _ => ⟨_, rfl, rfl⟩
  exact ⟨_, fd, _, ds, T.k_Map, G, T.g_Map, b, v⟩
theorem ok_Map_init2 (T : Tx K mg) : Mm P w K mg base CX0 9 "Map" (He.ga K "Map") (sp_Map_init K) [.non] := by
  obtain ⟨fd, F, G⟩ := fn_Map___init__ (P := P) (w := w) (base := base) T
  obtain ⟨ds, v, b⟩ := F.binds1 (ps := ["self", "text", "made"]) 2 0 (by simp) rfl fun T kV doc pm an cdv ct us its h1 h2 => match us, its, h1, h2 with
    | [_, _], [_], _, _ => ⟨_, rfl, rfl⟩
  exact ⟨_, fd, _, ds, T.k_Map, G, T.g_Map, b, v⟩
end
end J
set_option Elab.async false
set_option linter.all false
set_option maxRecDepth 100000
set_option maxHeartbeats 4000000
set_option exponentiation.threshold 3000
namespace J
open PySem PySem.Spec PyProof.Rows L2 TL

/-! JE1: the errors. -/
theorem oex_ok {K : PySem.W.Frag} {C : Addr} (h : oexB K C = true) : OexC K C ∧ XfC K C := by
  unfold oexB at h
  rw [Bool.and_eq_true, Bool.and_eq_true, Bool.and_eq_true, Bool.and_eq_true, Bool.and_eq_true] at h
  obtain ⟨h1, h2, h3, h4, h5, h6⟩ := h
  refine ⟨⟨?_, He.eqO_ok h2, of_decide_eq_true h3, of_decide_eq_true h4, h5⟩, xfB_ok h6⟩
  split at h1
  · rename_i c dd cd sl hk
    split at h1
    · rename_i C' bm a0 a1 a2 a3 n a5 e1 e2
      simp only [Bool.and_eq_true, decide_eq_true_eq, Bool.not_eq_true'] at h1
      obtain ⟨rfl, rfl, rfl, hd, hdel, hr⟩ := h1
      refine ⟨cd.name, cd.qualname, cd.ns, cd.bases, bm, cd.slotNames, cd.subclasses, cd.abstract, cd.collection, dd, a0, a1, a2, a3, a5, ?_, hr⟩
      rw [hk]
      obtain ⟨l⟩ := sl
      obtain ⟨nm, bs, mro, ns, qn, hdc, sn, sc, ab, co, de⟩ := cd
      simp only at e1 e2 hd hdel
      subst e1 e2 hd hdel
      rfl
    · cases h1
  · cases h1
theorem init_ok {K : PySem.W.Frag} {C : Addr} (h : initB K C = true) : PySem.W.findIn K (.ref C) "__init__" = some (some (.ref (He.ma K C "__init__"))) ∧ PySem.W.typeIn K (.ref (He.ma K C "__init__")) = some (.type "function") := by
  unfold initB at h
  rw [Bool.and_eq_true] at h
  exact ⟨He.eqO_ok h.1, of_decide_eq_true h.2⟩
theorem no_ok {K : PySem.W.Frag} {C : Addr} {f : Str} (h : noB K C f = true) : PySem.W.findIn K (.ref C) f = some none := He.eqO_ok h
theorem je_ok {K : PySem.W.Frag} {C : Addr} (h : jeB K C = true) : PySem.W.specialIn K (.ref C) "__getattribute__" = some (some (.builtin "type.__getattribute__")) ∧ PySem.W.readsIn K C (.type "type") = true ∧ PySem.W.findCls K (.ref C) (.type "type") "__init__" = some (.val (.builtin "ValueError.__init__")) := by
  unfold jeB at h
  rw [Bool.and_eq_true, Bool.and_eq_true] at h
  obtain ⟨h1, h2, h3⟩ := h
  refine ⟨of_decide_eq_true h1, h2, ?_⟩
  split at h3
  · rename_i n e
    rw [e, of_decide_eq_true h3]
  · cases h3
theorem pe_jeinit {X : Cx} {e : Expr} {es : List Expr} {ta : TA} {p1 p2 pos : Pos} {pl : Sem Bool} (T : Tx X.K X.mg) (ha : PA X (e :: es) ta) (hg : Gl X "JourneyError" := by rfl)
    (hc : eval (.Call (.Attribute (.Name "JourneyError" p1) "__init__" p2) (e :: es) [] pos) X.env = (do
      let ov ← eval (.Name "JourneyError" p1) X.env
      standAt p2.atName
      let (f, first) ← holding [ov] (getMethod ov "__init__" pl)
      callWith pos f first (backTo pos (starEach (e :: es) X.env)) (backToKw pos (keywordEach [] X.env))) := by rfl)
    (he : starEach (e :: es) X.env = (false, eval e X.env) :: starEach es X.env := by rfl) (hpl : (backTo pos (starEach es X.env)).any (·.1) = false := by rfl) :
    PE X (.Call (.Attribute (.Name "JourneyError" p1) "__init__" p2) (e :: es) [] pos) (tVeI X.K ta) := by
  obtain ⟨j1, j2, j3⟩ := je_ok T.e0
  refine ⟨fun pins s σ H Q I h => ?_⟩
  refine PySem.W.methodCall_KW (ld_glob I hg T.g_JourneyError ?_ (by decide)) hc
  refine PySem.W.method_cls I.kIn j1 (PySem.W.cls_value I.kIn j2 j3 (by decide +kernel) ?_)
  show wpAny _ _ (callWith pos (Value.builtin "ValueError.__init__") [] (backTo pos (starEach (e :: es) X.env)) []) _ _ _
  refine PyProof.Rows.callWith_method1 (thn (ha.run pos pins _ σ H _ (I.tok _) h) fun us s1 ⟨vs, H1, I1, r1, a, C, ws, ev, hl, T, ea, q⟩ => ?_) he hpl
  subst ev
  cases r1 with
  | @cons _ u0 _ ur ra rw' =>
    obtain rfl : u0 = Value.ref a := ra
    have hlen : ur.length ≤ sizeLine := by
      rw [← Paired.length rw', sizeLine_eq]
      omega
    exact oinit_ok T I1 ea hlen fun s' J => ⟨.non, H1, J, rfl, q⟩
/-! ### the errors' own making -/
def fl1 (f : Str) : List V → Option (List (Str × V))
  | [v] => some [(f, v)]
  | _ => none
def fl2 (f g : Str) : List V → Option (List (Str × V))
  | [v, w] => some [(g, w), (f, v)]
  | _ => none
def fl3 (f g h : Str) : List V → Option (List (Str × V))
  | [v, w, u] => some [(h, u), (g, w), (f, v)]
  | _ => none
def spEr (C : Addr) (fl : List V → Option (List (Str × V))) : Sp := fun vs H Q _ => ∃ (a : Addr) (ws : List V) (fs : List (Str × V)), vs = .ref a :: ws ∧ fl ws = some fs ∧ H a = some (exo a C none) ∧
  ∀ (H' : Hp) (d : Addr), d ≠ a → H d = none → But a H H' → H' a = some (exo a C (some d)) → H' d = some (exd d fs) → Q .non H'
theorem fl1_of {f : Str} {ws : List V} {fs : List (Str × V)} (h : fl1 f ws = some fs) : ∃ v, ws = [v] ∧ fs = [(f, v)] := by
  match ws, h with
  | [v], h => injection h with h; exact ⟨v, rfl, h.symm⟩
theorem fl2_of {f g : Str} {ws : List V} {fs : List (Str × V)} (h : fl2 f g ws = some fs) : ∃ v w, ws = [v, w] ∧ fs = [(g, w), (f, v)] := by
  match ws, h with
  | [v, w], h => injection h with h; exact ⟨v, w, rfl, h.symm⟩
theorem fl3_of {f g k : Str} {ws : List V} {fs : List (Str × V)} (h : fl3 f g k ws = some fs) : ∃ v w u, ws = [v, w, u] ∧ fs = [(k, u), (g, w), (f, v)] := by
  match ws, h with
  | [v, w, u], h => injection h with h; exact ⟨v, w, u, rfl, h.symm⟩
theorem But.put2 {a d : Addr} {H : Hp} {o u : HO} (hd : H d = none) : But a H (upd (upd H d o) a u) := ((But.refl H).new hd).put
section
variable {P : Program} {w : World} {K : PySem.W.Frag} {mg : Str → Option Value} {base : Heap}
abbrev N_BadName___init__ : List Str := ["self", "name"]
theorem sc_BadName___init__ : FnScope N_BadName___init__ ["self", "name"] (defScope s_BadName___init__) := ⟨rfl, rfl, rfl, by decide +kernel, rfl, by decide +kernel, by decide +kernel⟩
theorem fn_BadName___init__ (T : Tx K mg) : ∃ fd, FunD K "__init__" "BadName.__init__" (defArgs s_BadName___init__) (defBody s_BadName___init__) (defScope s_BadName___init__) [] [] (He.fAd K ("BadName", some "__init__")) fd ∧ FnOk P w K mg base CX0 1 (He.fAd K ("BadName", some "__init__")) fd ["self", "name"] (spEr (He.ga K "BadName") (fl1 "name")) := by
  obtain ⟨fd, F⟩ := T.d_BadName___init__
  refine ⟨fd, F, FunD.cl0 F sc_BadName___init__ (fun vs H Q E h => ?_) (fun cdv A outer s H vs Q E hr h => ?_)⟩
  · obtain ⟨a, ws, fs, rfl, hf, _⟩ := h
    obtain ⟨v, rfl, rfl⟩ := fl1_of hf; rfl
  · obtain ⟨a, ws, fs, rfl, hf, ha, k⟩ := h
    refine ⟨_, (pss_cons (ps_expr (pe_jeinit T (pa_cons (pv 0) (pa_cons pe_str pa_nil))))
      (pss_one (ps_ost (pv 0) (pv 1)))), ?_⟩
    obtain ⟨v, rfl, rfl⟩ := fl1_of hf
    obtain ⟨O, _⟩ := oex_ok T.e2
    refine ⟨_, rfl, a, _, _, rfl, by show 1 ≤ 1000; decide, O, ha, _, rfl, _, rfl, a, _, rfl, O, no_ok T.e4, .inl ⟨ha, fun d hd hne => ?_⟩⟩
    exact k _ d hne hd (But.put2 hd) upd_same (by rw [upd_ne hne, upd_same])
abbrev N_BadNumber___init__ : List Str := ["self", "what", "number"]
theorem sc_BadNumber___init__ : FnScope N_BadNumber___init__ ["self", "what", "number"] (defScope s_BadNumber___init__) := ⟨rfl, rfl, rfl, by decide +kernel, rfl, by decide +kernel, by decide +kernel⟩
theorem fn_BadNumber___init__ (T : Tx K mg) : ∃ fd, FunD K "__init__" "BadNumber.__init__" (defArgs s_BadNumber___init__) (defBody s_BadNumber___init__) (defScope s_BadNumber___init__) [] [] (He.fAd K ("BadNumber", some "__init__")) fd ∧ FnOk P w K mg base CX0 1 (He.fAd K ("BadNumber", some "__init__")) fd ["self", "what", "number"] (spEr (He.ga K "BadNumber") (fl2 "what" "number")) := by
  obtain ⟨fd, F⟩ := T.d_BadNumber___init__
  refine ⟨fd, F, FunD.cl0 F sc_BadNumber___init__ (fun vs H Q E h => ?_) (fun cdv A outer s H vs Q E hr h => ?_)⟩
  · obtain ⟨a, ws, fs, rfl, hf, _⟩ := h
    obtain ⟨v, u, rfl, rfl⟩ := fl2_of hf; rfl
  · obtain ⟨a, ws, fs, rfl, hf, ha, k⟩ := h
    refine ⟨_, (pss_cons (ps_expr (pe_jeinit T (pa_cons (pv 0) (pa_cons pe_str pa_nil))))
      (pss_cons (ps_ost (pv 0) (pv 1))
      (pss_one (ps_ost (pv 0) (pv 2))))), ?_⟩
    obtain ⟨v, u, rfl, rfl⟩ := fl2_of hf
    obtain ⟨O, _⟩ := oex_ok T.e5
    refine ⟨_, rfl, a, _, _, rfl, by show 1 ≤ 1000; decide, O, ha, _, rfl, _, rfl, a, _, rfl, O, no_ok T.e7, .inl ⟨ha, fun d hd hne => ?_⟩⟩
    refine ⟨_, rfl, _, rfl, a, _, rfl, O, no_ok T.e8, .inr ⟨d, _, upd_same, by rw [upd_ne hne, upd_same], by show 1 ≤ 900; decide, ?_⟩⟩
    exact k _ d hne hd ((But.put2 hd).mut hd) (by rw [upd_ne hne.symm, upd_same]) upd_same
abbrev N_TooMany___init__ : List Str := ["self", "what", "many", "limit"]
theorem sc_TooMany___init__ : FnScope N_TooMany___init__ ["self", "what", "many", "limit"] (defScope s_TooMany___init__) := ⟨rfl, rfl, rfl, by decide +kernel, rfl, by decide +kernel, by decide +kernel⟩
theorem fn_TooMany___init__ (T : Tx K mg) : ∃ fd, FunD K "__init__" "TooMany.__init__" (defArgs s_TooMany___init__) (defBody s_TooMany___init__) (defScope s_TooMany___init__) [] [] (He.fAd K ("TooMany", some "__init__")) fd ∧ FnOk P w K mg base CX0 1 (He.fAd K ("TooMany", some "__init__")) fd ["self", "what", "many", "limit"] (spEr (He.ga K "TooMany") (fl3 "what" "many" "limit")) := by
  obtain ⟨fd, F⟩ := T.d_TooMany___init__
  refine ⟨fd, F, FunD.cl0 F sc_TooMany___init__ (fun vs H Q E h => ?_) (fun cdv A outer s H vs Q E hr h => ?_)⟩
  · obtain ⟨a, ws, fs, rfl, hf, _⟩ := h
    obtain ⟨v, u, t, rfl, rfl⟩ := fl3_of hf; rfl
  · obtain ⟨a, ws, fs, rfl, hf, ha, k⟩ := h
    refine ⟨_, (pss_cons (ps_expr (pe_jeinit T (pa_cons (pv 0) (pa_cons pe_str pa_nil))))
      (pss_cons (ps_ost (pv 0) (pv 1))
      (pss_cons (ps_ost (pv 0) (pv 2))
      (pss_one (ps_ost (pv 0) (pv 3)))))), ?_⟩
    obtain ⟨v, u, t, rfl, rfl⟩ := fl3_of hf
    obtain ⟨O, _⟩ := oex_ok T.e9
    refine ⟨_, rfl, a, _, _, rfl, by show 1 ≤ 1000; decide, O, ha, _, rfl, _, rfl, a, _, rfl, O, no_ok T.e11, .inl ⟨ha, fun d hd hne => ?_⟩⟩
    refine ⟨_, rfl, _, rfl, a, _, rfl, O, no_ok T.e12, .inr ⟨d, _, upd_same, by rw [upd_ne hne, upd_same], by show 1 ≤ 900; decide, ?_⟩⟩
    refine ⟨_, rfl, _, rfl, a, _, rfl, O, no_ok T.e13, .inr ⟨d, _, by rw [upd_ne hne.symm, upd_same], upd_same, by show 2 ≤ 900; decide, ?_⟩⟩
    exact k _ d hne hd (((But.put2 hd).mut hd).mut hd) (by rw [upd_ne hne.symm, upd_ne hne.symm, upd_same]) upd_same
abbrev N_TooLarge___init__ : List Str := ["self", "what", "number", "limit"]
theorem sc_TooLarge___init__ : FnScope N_TooLarge___init__ ["self", "what", "number", "limit"] (defScope s_TooLarge___init__) := ⟨rfl, rfl, rfl, by decide +kernel, rfl, by decide +kernel, by decide +kernel⟩
theorem fn_TooLarge___init__ (T : Tx K mg) : ∃ fd, FunD K "__init__" "TooLarge.__init__" (defArgs s_TooLarge___init__) (defBody s_TooLarge___init__) (defScope s_TooLarge___init__) [] [] (He.fAd K ("TooLarge", some "__init__")) fd ∧ FnOk P w K mg base CX0 1 (He.fAd K ("TooLarge", some "__init__")) fd ["self", "what", "number", "limit"] (spEr (He.ga K "TooLarge") (fl3 "what" "number" "limit")) := by
  obtain ⟨fd, F⟩ := T.d_TooLarge___init__
  refine ⟨fd, F, FunD.cl0 F sc_TooLarge___init__ (fun vs H Q E h => ?_) (fun cdv A outer s H vs Q E hr h => ?_)⟩
  · obtain ⟨a, ws, fs, rfl, hf, _⟩ := h
    obtain ⟨v, u, t, rfl, rfl⟩ := fl3_of hf; rfl
  · obtain ⟨a, ws, fs, rfl, hf, ha, k⟩ := h
    refine ⟨_, (pss_cons (ps_expr (pe_jeinit T (pa_cons (pv 0) (pa_cons pe_str pa_nil))))
      (pss_cons (ps_ost (pv 0) (pv 1))
      (pss_cons (ps_ost (pv 0) (pv 2))
      (pss_one (ps_ost (pv 0) (pv 3)))))), ?_⟩
    obtain ⟨v, u, t, rfl, rfl⟩ := fl3_of hf
    obtain ⟨O, _⟩ := oex_ok T.e14
    refine ⟨_, rfl, a, _, _, rfl, by show 1 ≤ 1000; decide, O, ha, _, rfl, _, rfl, a, _, rfl, O, no_ok T.e16, .inl ⟨ha, fun d hd hne => ?_⟩⟩
    refine ⟨_, rfl, _, rfl, a, _, rfl, O, no_ok T.e17, .inr ⟨d, _, upd_same, by rw [upd_ne hne, upd_same], by show 1 ≤ 900; decide, ?_⟩⟩
    refine ⟨_, rfl, _, rfl, a, _, rfl, O, no_ok T.e18, .inr ⟨d, _, by rw [upd_ne hne.symm, upd_same], upd_same, by show 2 ≤ 900; decide, ?_⟩⟩
    exact k _ d hne hd (((But.put2 hd).mut hd).mut hd) (by rw [upd_ne hne.symm, upd_ne hne.symm, upd_same]) upd_same
/-! ### raise -/
def tRz (C : Addr) (fl : List V → Option (List (Str × V))) (ta : TA) (W : WX) : TS := fun _ σ H => ta σ H fun vs H1 => ∃ fs, fl vs = some fs ∧ vs.length ≤ 1000 ∧ ∀ (H' : Hp) (d : Addr), H1 d = none → Same H1 H' → H' d = some (.xd fs) → W (.ref C) (some d) σ H'
/-- an error's class, by what is known of it -/
structure Er (P : Program) (w : World) (K : PySem.W.Frag) (mg : Str → Option Value) (base : Heap) (x : Str) (C : Addr) (fl : List V → Option (List (Str × V))) (n : Nat) : Prop where
  o : OexC K C
  i : PySem.W.findIn K (.ref C) "__init__" = some (some (.ref (He.ma K C "__init__"))) ∧ PySem.W.typeIn K (.ref (He.ma K C "__init__")) = some (.type "function")
  f : ∃ (fd : FuncData) (ps : List Str), FnOk P w K mg base CX0 1 (He.ma K C "__init__") fd ps (spEr C fl) ∧ Binds K fd ps []
  g : mg x = some (.ref C)
def tMoA (t : TA) : TA := fun σ H Q => ∃ Q0 : List V → Hp → Prop, t σ H Q0 ∧ ∀ vs H1, Q0 vs H1 → Q vs H1
theorem pa_mo {X : Cx} {es : List Expr} {t : TA} (h : PA X es t) : PA X es (tMoA t) := ⟨fun pos pins s σ H Q I ⟨Q0, q, i⟩ => thn (h.run pos pins s σ H Q0 I q) fun _ _ ⟨vs, H1, I1, r, q1⟩ => ⟨vs, H1, I1, r, i vs H1 q1⟩⟩
theorem ps_err {X : Cx} {x : Str} {C : Addr} {fl : List V → Option (List (Str × V))} {n j : Nat} {W : WX} {e : Expr} {es : List Expr} {ta : TA} {p pos' pos : Pos} (E : Er X.prog X.w X.K X.mg X.base x C fl n) (hr : Room j X.A) (tk : Takes X W) (ha : PA X (e :: es) ta) (hj : 2 ≤ j := by decide) (hc : X.calm = true := by rfl) (hg : Gl X x := by rfl)
    (hdb : (x == ("__debug__" : Str)) = false := by decide) (he : starEach (e :: es) X.env = (false, eval e X.env) :: starEach es X.env := by rfl) (hpl : (backTo pos' (starEach es X.env)).any (·.1) = false := by rfl) :
    PS X (.Raise (some (.Call (.Name x p) (e :: es) [] pos')) none pos) (tRz C fl ta W) := by
  obtain ⟨fd, ps, F, b⟩ := E.f
  have h := ps_raise (pos := pos) hc tk (pmk_oex (p := p) (sp := spEr C fl) (ds := []) (dvs := []) E.o E.i.1 E.i.2 F (hr.mono hj) b .nil pass0 hg E.g (pa_mo ha) hdb he hpl)
  refine ⟨fun pins s σ H D I q => h.run pins s σ H D I ?_⟩
  refine ⟨_, q, fun vs H1 ⟨fs, hf, hl, k⟩ => ⟨hl, fun a na => ⟨a, vs, fs, by rw [List.append_nil], hf, upd_same, fun H2 d hne hd b2 ha2 hd2 => ⟨rfl, d, fs, ha2, hd2, ?_, ?_⟩⟩⟩⟩
  · rw [upd_ne hne] at hd
    exact hd
  · rw [upd_ne hne] at hd
    refine k _ d hd (fun b u hb => ?_) upd_same
    have hba : b ≠ a := ne_of_none hb na
    have hbd : b ≠ d := ne_of_none hb hd
    rw [upd_ne hbd, del_ne hba]
    refine b2 b u hba ?_
    rw [upd_ne hba]
    exact hb
section
variable {P : Program} {w : World} {K : PySem.W.Frag} {mg : Str → Option Value} {base : Heap}
theorem er_BadName (T : Tx K mg) : Er P w K mg base "BadName" (He.ga K "BadName") (fl1 "name") 0 := by
  obtain ⟨fd, F, G⟩ := fn_BadName___init__ (P := P) (w := w) (base := base) T
  exact ⟨(oex_ok T.e2).1, init_ok T.e3, ⟨fd, _, G, FunD.bindsN F fun _ _ _ _ _ _ us hl => match us, hl with | [_, _], _ => rfl⟩, T.g_BadName⟩
theorem er_BadNumber (T : Tx K mg) : Er P w K mg base "BadNumber" (He.ga K "BadNumber") (fl2 "what" "number") 0 := by
  obtain ⟨fd, F, G⟩ := fn_BadNumber___init__ (P := P) (w := w) (base := base) T
  exact ⟨(oex_ok T.e5).1, init_ok T.e6, ⟨fd, _, G, FunD.bindsN F fun _ _ _ _ _ _ us hl => match us, hl with | [_, _, _], _ => rfl⟩, T.g_BadNumber⟩
theorem er_TooMany (T : Tx K mg) : Er P w K mg base "TooMany" (He.ga K "TooMany") (fl3 "what" "many" "limit") 0 := by
  obtain ⟨fd, F, G⟩ := fn_TooMany___init__ (P := P) (w := w) (base := base) T
  exact ⟨(oex_ok T.e9).1, init_ok T.e10, ⟨fd, _, G, FunD.bindsN F fun _ _ _ _ _ _ us hl => match us, hl with | [_, _, _, _], _ => rfl⟩, T.g_TooMany⟩
theorem er_TooLarge (T : Tx K mg) : Er P w K mg base "TooLarge" (He.ga K "TooLarge") (fl3 "what" "number" "limit") 0 := by
  obtain ⟨fd, F, G⟩ := fn_TooLarge___init__ (P := P) (w := w) (base := base) T
  exact ⟨(oex_ok T.e14).1, init_ok T.e15, ⟨fd, _, G, FunD.bindsN F fun _ _ _ _ _ _ us hl => match us, hl with | [_, _, _, _], _ => rfl⟩, T.g_TooLarge⟩
end
end
end J
set_option Elab.async false
set_option linter.all false
set_option maxRecDepth 100000
set_option maxHeartbeats 4000000
set_option exponentiation.threshold 3000
namespace J
open PySem PySem.Spec PyProof.Rows L2 TL

/-! J24: is_name, told by both. -/
theorem dots_in {x : Str} (h : NmL (tl x)) : (!(Builtin.Str.occurrences x ".." 0 x.length 1).isEmpty) = false := by
  have e : tl (".." : Str) = [46, 46] := by decide +kernel
  cases hb : (!(Builtin.Str.occurrences x ".." 0 x.length 1).isEmpty) with
  | false => rfl
  | true =>
    exfalso
    obtain ⟨i, h1, h2⟩ := (StrLaws.found_iff x "..").mp hb
    have hp := (at_iff (x := x) (y := "..") (by rw [e]; simp) i).mp ⟨h1, h2⟩
    rw [e] at hp
    have hp : ((tl x).drop i).take 2 = [46, 46] := by simpa [pre] using hp
    have a0 : ((tl x).drop i)[0]? = some 46 := by
      have := congrArg (fun z => z[0]?) hp
      simpa [List.getElem?_take] using this
    have a1 : ((tl x).drop i)[1]? = some 46 := by
      have := congrArg (fun z => z[1]?) hp
      simpa [List.getElem?_take] using this
    rw [List.getElem?_drop] at a0 a1
    exact h.nd i a0 a1
theorem one_lt {c d : Nat} : decide (([c] : List Nat) < [d]) = decide (c < d) := by
  apply decide_eq_decide.mpr
  constructor
  · intro h
    cases h with
    | rel h => exact h
    | cons h => cases h
  · intro h
    exact .rel h
theorem a_tl : ("a" : Str).cps.toList = [97] := by decide +kernel
theorem z_tl : ("z" : Str).cps.toList = [122] := by decide +kernel
theorem n0_tl : ("0" : Str).cps.toList = [48] := by decide +kernel
theorem n9_tl : ("9" : Str).cps.toList = [57] := by decide +kernel
theorem all_true : ∀ n : Nat, (List.replicate n true).all id = true
  | 0 => rfl
  | n + 1 => by rw [List.replicate_succ, List.all_cons, all_true n]; rfl
theorem rep_snoc (n : Nat) : (List.replicate (n + 1) true).map V.bl = (List.replicate n true).map V.bl ++ [V.bl true] := by
  rw [List.replicate_succ', List.map_append]
  rfl
section
variable {P : Program} {w : World} {K : PySem.W.Frag} {mg : Str → Option Value} {base : Heap}
def sp_is_name : Sp := fun vs H Q _ => ∃ (x : Str), vs = [.str x] ∧ NameS x ∧ x.length ≤ 1000 ∧ ∀ H', Same H H' → Q (.bl (decide (x.length ≤ 40))) H'
abbrev N_is_name : List Str := ["value", "sign"]
theorem sc_is_name : FnScope N_is_name ["value"] (defScope s_is_name) := ⟨rfl, rfl, rfl, by decide +kernel, rfl, by decide +kernel, by decide +kernel⟩
theorem ok_is_name (T : Tx K mg) : Cl P w K mg base CX0 1 "is_name" sp_is_name [] := by
  obtain ⟨fd, F⟩ := T.d_is_name
  refine cl_of (ps := ["value"]) F T.g_is_name (FunD.cl0 F sc_is_name (fun vs H Q E h => ?_) (fun cdv A outer s H vs Q E hr h => ?_)) fun _ _ _ _ _ _ us hl => match us, hl with | [_], _ => rfl
  · obtain ⟨x, rfl, _⟩ := h
    rfl
  · obtain ⟨x, rfl, hx, hl, k⟩ := h
    refine ⟨_, (pss_cons (ps_if (pw_or (pt_not (pt_val (pe_iS T (pv 0)))) (pw_or1 (pt_not (pt_chain op_le op_le pe_int (pe_lenT T (pv 0)) (pe_gi (by rfl) T.i_MOST_SIGNS))))).pt (pss_one (ps_ret pe_bl)) pss_nil)
      (pss_cons (ps_if (pw_or (pt_cmpR op_notIn_str (pe_ix ix_str (pv 0) pe_int (fun _ _ => rfl)) (pe_gs (by rfl) T.z_LETTERS) rfl) (pw_or (pt_cmpR op_eq (pe_ix ix_str (pv 0) (pe_un un_neg pe_int) (fun _ _ => rfl)) pe_str (nomark _)) (pw_or1 (pt_cmpR op_in_str pe_str (pv 0) rfl)))).pt (pss_one (ps_ret pe_bl)) pss_nil)
      (pss_one (ps_ret (pe_all T (pe_lc rfl sc_is_name.nd (pi_str (pv 0)) (blkOk_by (own := [("sign", 1)]) (N := N_is_name) (sc := defScope s_is_name) (by decide +kernel)) (fun _ _ _ _ _ => (gn 1 sc_is_name.nd)) (fun _ _ _ _ _ => pts_nil) (fun _ _ _ _ _ => (pe_or (pe_cmpR op_in_str (pv 1) (pe_gs (by rfl) T.z_SIGNS) rfl) (pe_one (pe_cmpR op_eq (pv 1) pe_str (nomark _))))))))))), ?_⟩
    have hne := hx.toNmL.ne
    obtain ⟨c, r, ec, hc⟩ := hx.hd
    have h0 : atI x.cps.toList 0 = some c := atI_nat (j := 0) (by show (tl x)[0]? = some c; rw [ec]; rfl)
    have hpos : 1 ≤ x.length := by rw [len_tl, ec]; simp
    refine ⟨_, rfl, x, rfl, true, rfl, ?_⟩
    refine iteF ⟨_, rfl, x, rfl, short_le (by omega), _, _, rfl, rfl, _, rfl, ?_⟩
    rw [decide_eq_true (by omega)]
    refine iteT ⟨_, _, rfl, rfl, _, rfl, ?_⟩
    by_cases h40 : x.length ≤ 40
    · rw [decide_eq_true (by omega)]
      refine iteF ⟨_, rfl, x, 0, c, rfl, rfl, short_le (by omega), h0, _, _, rfl, rfl, _, rfl, ?_⟩
      rw [in_one, letters_mem, decide_eq_true (show 97 ≤ c ∧ c ≤ 122 from hc)]
      obtain ⟨d, hd, hla⟩ := atI_last hne
      refine iteF ⟨_, rfl, 1, rfl, x, -1, d, rfl, rfl, short_le (by omega), hd, rfl, _, rfl, ?_⟩
      rw [dot_chr, chr_eq, decide_eq_false (fun z => hx.la (by rw [hla, z]))]
      refine iteF ⟨_, rfl, _, _, rfl, rfl, _, rfl, ?_⟩
      rw [dots_in hx.toNmL]
      refine iteF ⟨_, rfl, x, rfl, fun D hD => ?_⟩
      refine lc_it (walk_str (z := x)) (fun i H' => Same H H' ∧ H' D = some (.lst ((List.replicate i true).map V.bl))) ⟨same_new hD, upd_same⟩ (fun _ _ _ _ => trivial) ?_ ?_
      · rintro i y H' H2 hi ⟨s1, e1⟩ ⟨rfl, e, he, rfl⟩
        have hi : i < x.length := hi
        have hs := hx.al e (mem_at (i := i) (by simpa using he))
        refine ⟨rfl, ?_⟩
        have fin : ∃ acc, H2 D = some (.lst acc) ∧ acc.length < sizeLine ∧ Same H (upd H2 D (.lst (acc ++ [V.bl true]))) ∧ upd H2 D (.lst (acc ++ [V.bl true])) D = some (.lst ((List.replicate (i + 1) true).map V.bl)) :=
          ⟨_, e1, by rw [List.length_map, List.length_replicate]; exact small1000 (by omega), sM s1 hD, by rw [upd_same, rep_snoc]⟩
        refine ⟨_, rfl, _, _, rfl, rfl, _, rfl, ?_⟩
        rw [in_one, signs_mem]
        refine ite2 (fun _ => fin) (fun h => ?_)
        have he46 : e = 46 := by
          have h : ¬ ((97 ≤ e ∧ e ≤ 122) ∨ (48 ≤ e ∧ e ≤ 57)) := by simpa using h
          rcases hs with q | q | q
          · exact absurd (.inl q) h
          · exact absurd (.inr q) h
          · exact q
        refine ⟨_, rfl, rfl, ?_⟩
        rw [chr_eq, decide_eq_true he46]
        exact fin
      · rintro H' ⟨s1, e1⟩
        refine ⟨D, _, rfl, SqL.of e1, ?_⟩
        have := k H' s1
        rw [decide_eq_true h40] at this
        rw [all_true]
        exact this
    · rw [decide_eq_false (by omega)]
      have := k H (Same.refl H)
      rw [decide_eq_false h40] at this
      exact iteT this
def sp__law_is_name : Sp := sp_is_name
abbrev N__law_is_name : List Str := ["_law_value", "_law_sign"]
theorem sc__law_is_name : FnScope N__law_is_name ["_law_value"] (defScope s__law_is_name) := ⟨rfl, rfl, rfl, by decide +kernel, rfl, by decide +kernel, by decide +kernel⟩
theorem ok__law_is_name (T : Tx K mg) : Cl P w K mg base CX0 1 "_law_is_name" sp__law_is_name [] := by
  obtain ⟨fd, F⟩ := T.d__law_is_name
  refine cl_of (ps := ["_law_value"]) F T.g__law_is_name (FunD.cl0 F sc__law_is_name (fun vs H Q E h => ?_) (fun cdv A outer s H vs Q E hr h => ?_)) fun _ _ _ _ _ _ us hl => match us, hl with | [_], _ => rfl
  · obtain ⟨x, rfl, _⟩ := h
    rfl
  · obtain ⟨x, rfl, hx, hl, k⟩ := h
    refine ⟨_, (pss_cons (ps_if (pw_or (pt_not (pt_val (pe_iS T (pv 0)))) (pw_or (pt_not (pt_chain op_le op_le pe_int (pe_lenT T (pv 0)) pe_int)) (pw_or1 (pt_not (pt_chain op_le_str op_le_str pe_str (pe_ix ix_str (pv 0) pe_int (fun _ _ => rfl)) pe_str))))).pt (pss_one (ps_ret pe_bl)) pss_nil)
      (pss_cons (ps_if (pw_or (pt_cmpR op_eq (pe_ix ix_str (pv 0) (pe_un un_neg pe_int) (fun _ _ => rfl)) pe_str (nomark _)) (pw_or1 (pt_cmpR op_in_str pe_str (pv 0) rfl))).pt (pss_one (ps_ret pe_bl)) pss_nil)
      (pss_one (ps_ret (pe_all T (pe_lc rfl sc__law_is_name.nd (pi_str (pv 0)) (blkOk_by (own := [("_law_sign", 1)]) (N := N__law_is_name) (sc := defScope s__law_is_name) (by decide +kernel)) (fun _ _ _ _ _ => (gn 1 sc__law_is_name.nd)) (fun _ _ _ _ _ => pts_nil) (fun _ _ _ _ _ => (pe_or (pe_chain op_le_str op_le_str pe_str (pv 1) pe_str) (pe_or (pe_chain op_le_str op_le_str pe_str (pv 1) pe_str) (pe_one (pe_cmpR op_eq (pv 1) pe_str (nomark _)))))))))))), ?_⟩
    have hne := hx.toNmL.ne
    obtain ⟨c, r, ec, hc⟩ := hx.hd
    have h0 : atI x.cps.toList 0 = some c := atI_nat (j := 0) (by show (tl x)[0]? = some c; rw [ec]; rfl)
    have hpos : 1 ≤ x.length := by rw [len_tl, ec]; simp
    refine ⟨_, rfl, x, rfl, true, rfl, ?_⟩
    refine iteF ⟨_, rfl, x, rfl, short_le (by omega), _, _, rfl, rfl, _, rfl, ?_⟩
    rw [decide_eq_true (by omega)]
    refine iteT ⟨_, _, rfl, rfl, _, rfl, ?_⟩
    by_cases h40 : x.length ≤ 40
    · rw [decide_eq_true (by omega)]
      have hc1 : (!decide (([c] : List Nat) < ("a" : Str).cps.toList)) = true := by
        rw [a_tl, one_lt, decide_eq_false (by unfold Let at hc; omega)]
        rfl
      have hc2 : (!decide (("z" : Str).cps.toList < ([c] : List Nat))) = true := by
        rw [z_tl, one_lt, decide_eq_false (by unfold Let at hc; omega)]
        rfl
      refine iteF ⟨_, rfl, x, 0, c, rfl, rfl, short_le (by omega), h0, _, _, rfl, rfl, _, rfl, ?_⟩
      refine Eq.mpr (congrArg (fun z => if z = true then _ else _) hc1) ?_
      refine iteT ⟨_, _, rfl, rfl, _, rfl, ?_⟩
      refine Eq.mpr (congrArg (fun z => if (!z) = true then _ else _) hc2) ?_
      obtain ⟨d, hd, hla⟩ := atI_last hne
      refine iteF ⟨_, rfl, 1, rfl, x, -1, d, rfl, rfl, short_le (by omega), hd, rfl, _, rfl, ?_⟩
      rw [dot_chr, chr_eq, decide_eq_false (fun z => hx.la (by rw [hla, z]))]
      refine iteF ⟨_, rfl, _, _, rfl, rfl, _, rfl, ?_⟩
      rw [dots_in hx.toNmL]
      refine iteF ⟨_, rfl, x, rfl, fun D hD => ?_⟩
      refine lc_it (walk_str (z := x)) (fun i H' => Same H H' ∧ H' D = some (.lst ((List.replicate i true).map V.bl))) ⟨same_new hD, upd_same⟩ (fun _ _ _ _ => trivial) ?_ ?_
      · rintro i y H' H2 hi ⟨s1, e1⟩ ⟨rfl, e, he, rfl⟩
        have hi : i < x.length := hi
        have hs := hx.al e (mem_at (i := i) (by simpa using he))
        refine ⟨rfl, ?_⟩
        have fin : ∃ acc, H2 D = some (.lst acc) ∧ acc.length < sizeLine ∧ Same H (upd H2 D (.lst (acc ++ [V.bl true]))) ∧ upd H2 D (.lst (acc ++ [V.bl true])) D = some (.lst ((List.replicate (i + 1) true).map V.bl)) :=
          ⟨_, e1, by rw [List.length_map, List.length_replicate]; exact small1000 (by omega), sM s1 hD, by rw [upd_same, rep_snoc]⟩
        have l1 : (!decide (([e] : List Nat) < ("a" : Str).cps.toList)) = decide (97 ≤ e) := by
          rw [a_tl, one_lt, ← decide_not]
          exact decide_eq_decide.mpr (by omega)
        have l2 : (!decide (("z" : Str).cps.toList < ([e] : List Nat))) = decide (e ≤ 122) := by
          rw [z_tl, one_lt, ← decide_not]
          exact decide_eq_decide.mpr (by omega)
        have l3 : (!decide (([e] : List Nat) < ("0" : Str).cps.toList)) = decide (48 ≤ e) := by
          rw [n0_tl, one_lt, ← decide_not]
          exact decide_eq_decide.mpr (by omega)
        have l4 : (!decide (("9" : Str).cps.toList < ([e] : List Nat))) = decide (e ≤ 57) := by
          rw [n9_tl, one_lt, ← decide_not]
          exact decide_eq_decide.mpr (by omega)
        have dig : (48 ≤ e ∧ e ≤ 57) ∨ e = 46 → tOrV (tChain (fun x y H Q => ∃ i j, x = .str i ∧ y = .str j ∧ Q (.bl (!decide (j.cps.toList < i.cps.toList))) H) (fun x y H Q => ∃ i j, x = .str i ∧ y = .str j ∧ Q (.bl (!decide (j.cps.toList < i.cps.toList))) H) (tC (.str "0")) (tVar 1) (tC (.str "9"))) (tOp rEq (tVar 1) (tC (.str "."))) [some (.str x), some (.str ⟨#[e]⟩)] H2 fun y H4 => ∃ acc, H4 D = some (.lst acc) ∧ acc.length < sizeLine ∧ Same H (upd H4 D (.lst (acc ++ [y]))) ∧ upd H4 D (.lst (acc ++ [y])) D = some (.lst ((List.replicate (i + 1) true).map V.bl)) := by
          intro hd
          refine ⟨_, rfl, _, _, rfl, rfl, _, rfl, ?_⟩
          by_cases h1 : 48 ≤ e
          · refine ite2 (fun _ => ⟨_, _, rfl, rfl, _, rfl, ?_⟩) (fun h => absurd (l3.trans (decide_eq_true h1)) h)
            by_cases h2 : e ≤ 57
            · exact ite2 (fun _ => fin) (fun h => absurd (l4.trans (decide_eq_true h2)) h)
            · refine ite2 (fun h => absurd (l4.symm.trans h) (by rw [decide_eq_false h2]; decide)) (fun h => ?_)
              refine ⟨_, rfl, rfl, ?_⟩
              rw [dot_chr, chr_eq, decide_eq_true (by omega : e = 46)]
              exact fin
          · refine ite2 (fun h => absurd (l3.symm.trans h) (by rw [decide_eq_false h1]; decide)) (fun h => ⟨_, rfl, iteF ?_⟩)
            refine ⟨_, rfl, rfl, ?_⟩
            rw [dot_chr, chr_eq, decide_eq_true (by omega : e = 46)]
            exact fin
        refine ⟨_, rfl, _, _, rfl, rfl, _, rfl, ?_⟩
        by_cases h1 : 97 ≤ e
        · have h2 : e ≤ 122 := by
            rcases hs with q | q | q <;> omega
          refine ite2 (fun _ => ⟨_, _, rfl, rfl, _, rfl, ?_⟩) (fun h => absurd (l1.trans (decide_eq_true h1)) h)
          exact ite2 (fun _ => fin) (fun h => absurd (l2.trans (decide_eq_true h2)) h)
        · refine ite2 (fun h => absurd (l1.symm.trans h) (by rw [decide_eq_false h1]; decide)) (fun h => ⟨_, rfl, iteF ?_⟩)
          refine dig ?_
          rcases hs with q | q | q
          · omega
          · exact .inl q
          · exact .inr q
      · rintro H' ⟨s1, e1⟩
        refine ⟨D, _, rfl, SqL.of e1, ?_⟩
        have := k H' s1
        rw [decide_eq_true h40] at this
        rw [all_true]
        exact this
    · rw [decide_eq_false (by omega)]
      have := k H (Same.refl H)
      rw [decide_eq_false h40] at this
      exact iteT this
end
end J
set_option Elab.async false
set_option linter.all false
set_option maxRecDepth 100000
set_option maxHeartbeats 4000000
set_option exponentiation.threshold 3000
namespace J
open PySem PySem.Spec PyProof.Rows L2 TL

/-! J25: the checks. -/
inductive Fault where
  | name (x : Str)
  | large (n : Int)
  | many (n : Int)
  | flat
/-- the error that tells a fault -/
def ErrAt (K : PySem.W.Frag) (f : Fault) (cls : Value) (d : Option Addr) (H : Hp) : Prop := match f with
  | .name x => cls = .ref (He.ga K "BadName") ∧ ∃ a, d = some a ∧ H a = some (.xd [("name", .str x)])
  | .large n => cls = .ref (He.ga K "TooLarge") ∧ ∃ a, d = some a ∧ H a = some (.xd [("limit", .int 9), ("number", .int n), ("what", .str "shift")])
  | .many n => cls = .ref (He.ga K "TooMany") ∧ ∃ a, d = some a ∧ H a = some (.xd [("limit", .int 24), ("many", .int n), ("what", .str "spots")])
  | .flat => cls = .ref (He.ga K "BadNumber") ∧ ∃ a, d = some a ∧ H a = some (.xd [("number", .int 0), ("what", .str "matrix")])
/-- what a call ends in -/
def Ends1 (K : PySem.W.Frag) (o : Option Fault) (H : Hp) (Q : VK) (E : XK) : Prop := (o = none → ∀ H', Same H H' → Q .non H') ∧ ∀ f, o = some f → ∀ (H' : Hp) (cls : Value) (d : Option Addr), Same H H' → ErrAt K f cls d H' → E cls d H'
def nmFault (x : Str) : Option Fault := if x.length ≤ 40 then none else some (.name x)
def shFault (x y : Int) : Option Fault := if 9 < x.natAbs then some (.large x) else if 9 < y.natAbs then some (.large y) else none
def roadFault (r : Rd) : Option Fault := match nmFault r.name with
  | some f => some f
  | none => shFault r.sx r.sy
def firstF : List (Option Fault) → Option Fault
  | [] => none
  | none :: r => firstF r
  | some f :: _ => some f
def landFault (L : Land) : Option Fault := firstF (L.spots.map nmFault ++ L.roads.map roadFault)
theorem firstF_at : ∀ {l : List (Option Fault)} {i : Nat} {f : Fault}, (∀ j, j < i → l[j]? = some none) → l[i]? = some (some f) → firstF l = some f
  | [], _, _, _, h => nomatch h
  | none :: r, 0, _, _, h => by simp at h
  | some g :: r, 0, f, _, h => by
    have h : g = f := by simpa using h
    rw [h]
    rfl
  | none :: r, i + 1, f, h0, h => firstF_at (l := r) (i := i) (fun j hj => h0 (j + 1) (by omega)) h
  | some g :: r, i + 1, f, h0, h => by
    have := h0 0 (by omega)
    simp at this
theorem firstF_none : ∀ {l : List (Option Fault)}, (∀ x ∈ l, x = none) → firstF l = none
  | [], _ => rfl
  | none :: r, h => firstF_none (l := r) fun x hx => h x (List.mem_cons_of_mem _ hx)
  | some g :: r, h => by
    have := h (some g) (List.mem_cons_self ..)
    cases this
theorem firstF_all : ∀ {l : List (Option Fault)}, firstF l = none → ∀ x ∈ l, x = none
  | [], _, _, h => nomatch h
  | none :: r, h, x, hx => by
    rcases List.mem_cons.mp hx with e | q
    · exact e
    · exact firstF_all (l := r) h x q
  | some g :: r, h, _, _ => by cases h
/-- a wide land's road -/
structure RdW (spots : List Str) (r : Rd) : Prop where
  nm : NameS r.name
  nl : r.name.length ≤ 1000
  st : r.start ∈ spots
  fn : r.fin ∈ spots
  p1 : 1 ≤ r.price
  p99 : r.price ≤ 99
  lb : ∀ x, r.label = some x → NameOk x
structure WOk (L : Land) : Prop where
  s0 : L.spots ≠ []
  s24 : L.spots.length ≤ 24
  sn : ∀ x ∈ L.spots, NameS x ∧ x.length ≤ 1000
  sd : L.spots.Nodup
  rn : ∀ r ∈ L.roads, RdW L.spots r
  rd : (L.roads.map (·.name)).Nodup
  r160 : L.roads.length ≤ 160
theorem natAbs_if (i : Int) : (if i < 0 then -i else i) = (i.natAbs : Int) := abs_if i
section
variable {P : Program} {w : World} {K : PySem.W.Frag} {mg : Str → Option Value} {base : Heap}
def sp_check_new (K : PySem.W.Frag) : Sp := fun vs H Q E => ∃ (x : Str) (tk : Addr) (taken : List Str), vs = [.str x, .ref tk] ∧ NameS x ∧ x.length ≤ 1000 ∧ H tk = some (.lst (taken.map V.str)) ∧ x ∉ taken ∧ Ends1 K (nmFault x) H Q E
abbrev N_check_new : List Str := ["name", "taken"]
theorem sc_check_new : FnScope N_check_new ["name", "taken"] (defScope s_check_new) := ⟨rfl, rfl, rfl, by decide +kernel, rfl, by decide +kernel, by decide +kernel⟩
theorem ok_check_new (T : Tx K mg) : Cl P w K mg base (L2.CX P w) 3 "check_new" (sp_check_new K) [] := by
  obtain ⟨fd, F⟩ := T.d_check_new
  refine cl_of (ps := ["name", "taken"]) F T.g_check_new (FunD.ok F sc_check_new (fun vs H Q E h => ?_) (fun cdv A outer s H vs Q E hr h => ?_)) fun _ _ _ _ _ _ us hl => match us, hl with | [_, _], _ => rfl
  · obtain ⟨x, tk, taken, rfl, _⟩ := h
    rfl
  · obtain ⟨x, tk, taken, rfl, hx, hl, ht, hn, k0, k1⟩ := h
    refine ⟨_, (pss_cons (ps_if (pt_not (pt_val (pe_cl (ok_is_name T) hr pass0 (pa_cons (pv 0) pa_nil)))) (pss_one (ps_err (er_BadName T) hr (takes_of rfl rfl rfl rfl) (pa_cons (pv 0) pa_nil))) pss_nil)
      (pss_one (ps_if (pt_cmpR op_in_seq (pv 0) (pv 1) rfl) (pss_one (ps_never)) pss_nil))), ?_⟩
    refine ⟨_, rfl, x, rfl, hx, hl, fun H1 s1 => ⟨_, rfl, ?_⟩⟩
    by_cases h : x.length ≤ 40
    · rw [decide_eq_true h]
      refine iteF ⟨_, rfl, _, rfl, tk, _, rfl, .inl (SqL.of (s1 _ _ ht)), rfl, flat_strs, _, rfl, ?_⟩
      have e : (if false = true then !inV (V.str x) (taken.map V.str) else inV (V.str x) (taken.map V.str)) = false := by
        rw [if_neg Bool.false_ne_true, inV_str, decide_eq_false hn]
      rw [e]
      exact iteF (k0 (if_pos h) _ s1)
    · rw [decide_eq_false h]
      exact iteT ⟨_, rfl, _, rfl, by show 1 ≤ 1000; decide, fun H2 d hd s2 e2 => k1 _ (if_neg h) _ _ _ (s1.trans s2) ⟨rfl, d, rfl, e2⟩⟩
def sp_check_price : Sp := fun vs H Q _ => ∃ (p : Int), vs = [.int p] ∧ 1 ≤ p ∧ p ≤ 99 ∧ Q .non H
abbrev N_check_price : List Str := ["price"]
theorem sc_check_price : FnScope N_check_price ["price"] (defScope s_check_price) := ⟨rfl, rfl, rfl, by decide +kernel, rfl, by decide +kernel, by decide +kernel⟩
theorem ok_check_price (T : Tx K mg) : Cl P w K mg base CX0 3 "check_price" sp_check_price [] := by
  obtain ⟨fd, F⟩ := T.d_check_price
  refine cl_of (ps := ["price"]) F T.g_check_price (FunD.cl0 F sc_check_price (fun vs H Q E h => ?_) (fun cdv A outer s H vs Q E hr h => ?_)) fun _ _ _ _ _ _ us hl => match us, hl with | [_], _ => rfl
  · obtain ⟨p, rfl, _⟩ := h
    rfl
  · obtain ⟨p, rfl, h1, h2, k⟩ := h
    refine ⟨_, (pss_cons (ps_if (pw_or (pt_not (pt_val (pe_cl (ok_is_int T) hr pass0 (pa_cons (pv 0) pa_nil)))) (pw_or1 (pt_cmpR op_lt (pv 0) pe_int (nomark _)))).pt (pss_one (ps_never)) pss_nil)
      (pss_one (ps_if (pt_cmpR op_gt (pv 0) (pe_gi (by rfl) T.i_MOST_PRICE) (nomark _)) (pss_one (ps_never)) pss_nil))), ?_⟩
    refine ⟨_, rfl, p, rfl, true, rfl, iteF ⟨_, rfl, _, _, rfl, rfl, _, rfl, ?_⟩⟩
    rw [decide_eq_false (by omega)]
    refine iteF ⟨_, rfl, _, _, rfl, rfl, _, rfl, ?_⟩
    rw [decide_eq_false (by omega)]
    exact iteF k
def sp_check_shift (K : PySem.W.Frag) : Sp := fun vs H Q E => ∃ (v : V) (x y : Int), vs = [v] ∧ CellAt H v x y ∧ Ends1 K (shFault x y) H Q E
abbrev N_check_shift : List Str := ["shift", "number"]
theorem sc_check_shift : FnScope N_check_shift ["shift"] (defScope s_check_shift) := ⟨rfl, rfl, rfl, by decide +kernel, rfl, by decide +kernel, by decide +kernel⟩
theorem ok_check_shift (T : Tx K mg) : Cl P w K mg base (L2.CX P w) 3 "check_shift" (sp_check_shift K) [] := by
  obtain ⟨fd, F⟩ := T.d_check_shift
  refine cl_of (ps := ["shift"]) F T.g_check_shift (FunD.ok F sc_check_shift (fun vs H Q E h => ?_) (fun cdv A outer s H vs Q E hr h => ?_)) fun _ _ _ _ _ _ us hl => match us, hl with | [_], _ => rfl
  · obtain ⟨v, x, y, rfl, _⟩ := h
    rfl
  · obtain ⟨v, x, y, rfl, hc, k0, k1⟩ := h
    refine ⟨_, (pss_cons (ps_if (pt_not (pt_val (pe_cl (ok_is_cell T) hr pass0 (pa_cons (pv 0) pa_nil)))) (pss_one (ps_err (er_BadNumber T) hr (takes_of rfl rfl rfl rfl) (pa_cons pe_str (pa_cons (pv 0) pa_nil)))) pss_nil)
      (pss_one (ps_for (passes_of rfl) rfl (pi_tup (pv 0)) (gn 1 sc_check_shift.nd) (pss_one (ps_if (pt_cmpR op_gt (pe_abs T (pv 1)) (pe_gi (by rfl) T.i_MOST_SHIFT) (nomark _)) (pss_one (ps_err (er_TooLarge T) hr (takes_of rfl rfl rfl rfl) (pa_cons pe_str (pa_cons (pv 1) (pa_cons (pe_gi (by rfl) T.i_MOST_SHIFT) pa_nil))))) pss_nil))))), ?_⟩
    obtain ⟨p, rfl, hp⟩ := id hc
    refine ⟨_, rfl, _, x, y, rfl, hc, true, rfl, iteF ?_⟩
    refine ⟨_, rfl, p, rfl, ⟨_, SqT.of hp⟩, for_tup (xs := [.int x, .int y]) (fun i σ H' => ∃ n : Option V, σ = [some (.ref p), n] ∧ H' = H ∧ (0 < i → x.natAbs ≤ 9) ∧ (1 < i → y.natAbs ≤ 9)) ⟨none, rfl, rfl, fun h => by omega, fun h => by omega⟩ ?_ ?_ ?_⟩
    · rintro i σ H' hi ⟨n, rfl, rfl, _⟩
      exact SqT.of hp
    · rintro i z σ H' hz ⟨n, rfl, rfl, h0, h1⟩
      match i, hz with
      | 0, hz =>
        injection hz with hz
        subst hz
        refine ⟨_, rfl, x, rfl, _, _, rfl, rfl, _, rfl, ?_⟩
        rw [natAbs_if]
        by_cases hb : 9 < x.natAbs
        · rw [decide_eq_true (by omega)]
          exact iteT ⟨_, rfl, _, rfl, by show 3 ≤ 1000; decide, fun H2 d hd s2 e2 => k1 _ (if_pos hb) _ _ _ s2 ⟨rfl, d, rfl, e2⟩⟩
        · rw [decide_eq_false (by omega)]
          exact iteF ⟨_, rfl, rfl, fun _ => by omega, fun h => by omega⟩
      | 1, hz =>
        injection hz with hz
        subst hz
        have hx9 := h0 (by omega)
        refine ⟨_, rfl, y, rfl, _, _, rfl, rfl, _, rfl, ?_⟩
        rw [natAbs_if]
        by_cases hb : 9 < y.natAbs
        · rw [decide_eq_true (by omega)]
          exact iteT ⟨_, rfl, _, rfl, by show 3 ≤ 1000; decide, fun H2 d hd s2 e2 => k1 (.large y) (by unfold shFault; rw [if_neg (by omega), if_pos hb]) _ _ _ s2 ⟨rfl, d, rfl, e2⟩⟩
        · rw [decide_eq_false (by omega)]
          exact iteF ⟨_, rfl, rfl, fun _ => hx9, fun _ => by omega⟩
      | i + 2, hz => simp at hz
    · rintro σ H' ⟨n, rfl, rfl, h0, h1⟩
      have a := h0 (by show 0 < 2; decide)
      have b := h1 (by show 1 < 2; decide)
      exact k0 (by unfold shFault; rw [if_neg (by omega), if_neg (by omega)]) _ (Same.refl _)
def sp_check_road (K : PySem.W.Frag) : Sp := fun vs H Q E => ∃ (v : V) (sl tk : Addr) (r : Rd) (spots taken : List Str), vs = [v, .ref sl, .ref tk] ∧ RoadO K H v r ∧ RdW spots r ∧ H sl = some (.lst (spots.map V.str)) ∧ H tk = some (.lst (taken.map V.str)) ∧ r.name ∉ taken ∧ Ends1 K (roadFault r) H Q E
abbrev N_check_road : List Str := ["road", "spots", "taken", "spot"]
theorem sc_check_road : FnScope N_check_road ["road", "spots", "taken"] (defScope s_check_road) := ⟨rfl, rfl, rfl, by decide +kernel, rfl, by decide +kernel, by decide +kernel⟩
theorem ok_check_road (T : Tx K mg) : Cl P w K mg base (L2.CX P w) 4 "check_road" (sp_check_road K) [] := by
  obtain ⟨fd, F⟩ := T.d_check_road
  refine cl_of (ps := ["road", "spots", "taken"]) F T.g_check_road (FunD.ok F sc_check_road (fun vs H Q E h => ?_) (fun cdv A outer s H vs Q E hr h => ?_)) fun _ _ _ _ _ _ us hl => match us, hl with | [_, _, _], _ => rfl
  · obtain ⟨v, sl, tk, r, spots, taken, rfl, _⟩ := h
    rfl
  · obtain ⟨v, sl, tk, r, spots, taken, rfl, ⟨p, dx, q, rfl, hp, hc⟩, hw, hs, ht, hn, k0, k1⟩ := h
    refine ⟨_, (pss_cons (ps_expr (pe_cl (ok_check_new T) hr (passes_call (takes_of rfl rfl rfl rfl) (fun _ _ _ _ h => h)) (pa_cons (pe_fld (pv 0) rfl) (pa_cons (pv 2) pa_nil))))
      (pss_cons (ps_for (passes_of rfl) rfl (pi_tup (pe_tup (pa_cons (pe_fld (pv 0) rfl) (pa_cons (pe_fld (pv 0) rfl) pa_nil)))) (gn 3 sc_check_road.nd) (pss_one (ps_if (pw_or (pt_not (pt_val (pe_iS T (pv 3)))) (pw_or1 (pt_cmpR op_notIn_seq (pv 3) (pv 1) rfl))).pt (pss_one (ps_never)) pss_nil)))
      (pss_cons (ps_expr (pe_cl (ok_check_shift T) hr (passes_call (takes_of rfl rfl rfl rfl) (fun _ _ _ _ h => h)) (pa_cons (pe_fld (pv 0) rfl) pa_nil)))
      (pss_cons (ps_expr (pe_cl (ok_check_price T) hr pass0 (pa_cons (pe_fld (pv 0) rfl) pa_nil)))
      (pss_one (ps_if (pw_and (pt_cmpR op_notN (pe_fld (pv 0) rfl) pe_non (nomark _)) (pw_and1 (pt_not (pt_val (pe_cl (ok_is_name T) hr pass0 (pa_cons (pe_fld (pv 0) rfl) pa_nil)))))).pt (pss_one (ps_err (er_BadName T) hr (takes_of rfl rfl rfl rfl) (pa_cons (pe_fld (pv 0) rfl) pa_nil))) pss_nil)))))), ?_⟩
    refine ⟨_, rfl, p, _, dx, _, _, rfl, hp, T.c_Road, T.n_Road_name, rfl, _, rfl, r.name, tk, taken, rfl, hw.nm, hw.nl, ht, hn, fun e1 H1 s1 => ?_, fun f ef H1 cls d s1 er => k1 f (by unfold roadFault; rw [ef]) _ _ _ s1 er⟩
    have hp1 := s1 _ _ hp
    refine ⟨_, rfl, p, _, dx, _, _, rfl, hp1, T.c_Road, T.n_Road_start, rfl, _, rfl, p, _, dx, _, _, rfl, hp1, T.c_Road, T.n_Road_end, rfl, by show 2 ≤ sizeLine; decide, fun t nt => ?_⟩
    refine ⟨t, rfl, ⟨_, SqT.of upd_same⟩, for_tup (xs := [.str r.start, .str r.fin]) (fun i σ H' => ∃ n : Option V, σ = [some (.ref p), some (.ref sl), some (.ref tk), n] ∧ H' = upd H1 t (.tup [.str r.start, .str r.fin])) ⟨none, rfl, rfl⟩ ?_ ?_ ?_⟩
    · rintro i σ H' hi ⟨n, rfl, rfl⟩
      exact SqT.of upd_same
    · rintro i z σ H' hz ⟨n, rfl, rfl⟩
      obtain ⟨y, rfl, hy⟩ : ∃ y, z = .str y ∧ y ∈ spots := by
        match i, hz with
        | 0, hz => injection hz with hz; exact ⟨_, hz.symm, hw.st⟩
        | 1, hz => injection hz with hz; exact ⟨_, hz.symm, hw.fn⟩
        | i + 2, hz => simp at hz
      refine ⟨_, rfl, y, rfl, true, rfl, iteF ⟨_, rfl, _, rfl, sl, _, rfl, .inl (SqL.of ((same_new nt) _ _ (s1 _ _ hs))), rfl, flat_strs, _, rfl, ?_⟩⟩
      have e : (if true = true then !inV (V.str y) (spots.map V.str) else inV (V.str y) (spots.map V.str)) = false := by
        rw [if_pos rfl, inV_str, decide_eq_true hy]
        rfl
      rw [e]
      exact iteF ⟨_, rfl, rfl⟩
    · rintro σ H' ⟨n, rfl, rfl⟩
      have s2 := s1.trans (same_new (o := .tup [.str r.start, .str r.fin]) nt)
      have hp2 := s2 _ _ hp
      refine ⟨_, rfl, p, _, dx, _, _, rfl, hp2, T.c_Road, T.n_Road_shift, rfl, _, _, _, rfl, hc.mono s2, fun e2 H3 s3 => ?_, fun f ef H3 cls d s3 er => k1 f (by unfold roadFault; rw [e1]; exact ef) _ _ _ (s2.trans s3) er⟩
      have s3' := s2.trans s3
      have hp3 := s3' _ _ hp
      have e0 : roadFault r = none := by
        unfold roadFault
        rw [e1]
        exact e2
      refine ⟨_, rfl, p, _, dx, _, _, rfl, hp3, T.c_Road, T.n_Road_price, rfl, _, rfl, hw.p1, hw.p99, ?_⟩
      refine ⟨_, rfl, p, _, dx, _, _, rfl, hp3, T.c_Road, T.n_Road_label, rfl, rfl, _, rfl, ?_⟩
      rw [lab_non]
      cases hlb : r.label with
      | none => exact iteF (iteF (k0 e0 _ s3'))
      | some y =>
        have yo := hw.lb y hlb
        have lk : List.lookup ("label" : Str) [("name", V.str r.name), ("start", .str r.start), ("end", .str r.fin), ("shift", q), ("price", .int r.price), ("label", labV r.label)] = some (.str y) := by
          rw [hlb]
          rfl
        refine iteT ⟨_, rfl, p, _, dx, _, _, rfl, hp3, T.c_Road, T.n_Road_label, lk, y, rfl, yo.1, Nat.le_trans yo.2 (by decide), fun H4 s4 => ⟨_, rfl, ?_⟩⟩
        rw [decide_eq_true yo.2]
        exact iteF (k0 e0 _ (s3'.trans s4))
def sp_check_many (K : PySem.W.Frag) : Sp := fun vs H Q E => ∃ (n m : Int), vs = [.int n, .int m] ∧ n ≠ 0 ∧ (n ≤ 24 → m ≤ 160) ∧ (n ≤ 24 → Q .non H) ∧ (24 < n → ∀ (H' : Hp) (cls : Value) (d : Option Addr), Same H H' → ErrAt K (.many n) cls d H' → E cls d H')
abbrev N_check_many : List Str := ["spots", "roads"]
theorem sc_check_many : FnScope N_check_many ["spots", "roads"] (defScope s_check_many) := ⟨rfl, rfl, rfl, by decide +kernel, rfl, by decide +kernel, by decide +kernel⟩
theorem ok_check_many (T : Tx K mg) : Cl P w K mg base (L2.CX P w) 3 "check_many" (sp_check_many K) [] := by
  obtain ⟨fd, F⟩ := T.d_check_many
  refine cl_of (ps := ["spots", "roads"]) F T.g_check_many (FunD.ok F sc_check_many (fun vs H Q E h => ?_) (fun cdv A outer s H vs Q E hr h => ?_)) fun _ _ _ _ _ _ us hl => match us, hl with | [_, _], _ => rfl
  · obtain ⟨n, m, rfl, _⟩ := h
    rfl
  · obtain ⟨n, m, rfl, n0, hm, k0, k1⟩ := h
    refine ⟨_, (pss_cons (ps_if (pt_cmpR op_eq (pv 0) pe_int (nomark _)) (pss_one (ps_err (er_BadNumber T) hr (takes_of rfl rfl rfl rfl) (pa_cons pe_str (pa_cons pe_int pa_nil)))) pss_nil)
      (pss_cons (ps_if (pt_cmpR op_gt (pv 0) (pe_gi (by rfl) T.i_MOST_SPOTS) (nomark _)) (pss_one (ps_err (er_TooMany T) hr (takes_of rfl rfl rfl rfl) (pa_cons pe_str (pa_cons (pv 0) (pa_cons (pe_gi (by rfl) T.i_MOST_SPOTS) pa_nil))))) pss_nil)
      (pss_one (ps_if (pt_cmpR op_gt (pv 1) (pe_gi (by rfl) T.i_MOST_ROADS) (nomark _)) (pss_one (ps_err (er_TooMany T) hr (takes_of rfl rfl rfl rfl) (pa_cons pe_str (pa_cons (pv 1) (pa_cons (pe_gi (by rfl) T.i_MOST_ROADS) pa_nil))))) pss_nil)))), ?_⟩
    refine ⟨_, rfl, rfl, _, rfl, ?_⟩
    rw [decide_eq_false (by intro z; injection z with z; exact n0 z : ¬ V.int n = V.int 0)]
    refine iteF ⟨_, rfl, _, _, rfl, rfl, _, rfl, ?_⟩
    by_cases h : 24 < n
    · rw [decide_eq_true h]
      exact iteT ⟨_, rfl, _, rfl, by show 3 ≤ 1000; decide, fun H2 d hd s2 e2 => k1 h _ _ _ s2 ⟨rfl, d, rfl, e2⟩⟩
    · rw [decide_eq_false h]
      have := hm (by omega)
      refine iteF ⟨_, rfl, _, _, rfl, rfl, _, rfl, ?_⟩
      rw [decide_eq_false (by omega)]
      exact iteF (k0 (by omega))
end
end J
set_option Elab.async false
set_option linter.all false
set_option maxRecDepth 100000
set_option maxHeartbeats 4000000
set_option exponentiation.threshold 3000
namespace J
open PySem PySem.Spec PyProof.Rows L2 TL

/-! J26: a map of rows. -/
theorem fault_spot {L : Land} {i : Nat} {x : Str} {f : Fault} (h0 : ∀ j y, j < i → L.spots[j]? = some y → nmFault y = none) (hx : L.spots[i]? = some x) (hf : nmFault x = some f) : landFault L = some f := by
  have hi := (List.getElem?_eq_some_iff.mp hx).1
  refine firstF_at (i := i) (fun j hj => ?_) ?_
  · obtain ⟨y, hy⟩ := at_of_lt (xs := L.spots) (i := j) (by omega)
    rw [List.getElem?_append_left (by rw [List.length_map]; omega), List.getElem?_map, hy]
    exact congrArg some (h0 j y hj hy)
  · rw [List.getElem?_append_left (by rw [List.length_map]; omega), List.getElem?_map, hx]
    exact congrArg some hf
theorem fault_road {L : Land} {i : Nat} {r : Rd} {f : Fault} (hs : ∀ x ∈ L.spots, nmFault x = none) (h0 : ∀ j y, j < i → L.roads[j]? = some y → roadFault y = none) (hx : L.roads[i]? = some r) (hf : roadFault r = some f) : landFault L = some f := by
  have hi := (List.getElem?_eq_some_iff.mp hx).1
  refine firstF_at (i := L.spots.length + i) (fun j hj => ?_) ?_
  · by_cases hjs : j < L.spots.length
    · obtain ⟨y, hy⟩ := at_of_lt (xs := L.spots) (i := j) hjs
      rw [List.getElem?_append_left (by rw [List.length_map]; omega), List.getElem?_map, hy]
      exact congrArg some (hs y (mem_at hy))
    · obtain ⟨y, hy⟩ := at_of_lt (xs := L.roads) (i := j - L.spots.length) (by omega)
      rw [List.getElem?_append_right (by rw [List.length_map]; omega), List.length_map, List.getElem?_map, hy]
      exact congrArg some (h0 _ y (by omega) hy)
  · rw [List.getElem?_append_right (by rw [List.length_map]; omega), List.length_map, List.getElem?_map, Nat.add_sub_cancel_left, hx]
    exact congrArg some hf
theorem fault_none {L : Land} (hs : ∀ x ∈ L.spots, nmFault x = none) (hr : ∀ r ∈ L.roads, roadFault r = none) : landFault L = none := firstF_none fun x hx => by
  rcases List.mem_append.mp hx with q | q
  · obtain ⟨y, hy, rfl⟩ := List.mem_map.mp q
    exact hs y hy
  · obtain ⟨y, hy, rfl⟩ := List.mem_map.mp q
    exact hr y hy
theorem fault_all {L : Land} (h : landFault L = none) : (∀ x ∈ L.spots, nmFault x = none) ∧ ∀ r ∈ L.roads, roadFault r = none :=
  ⟨fun x hx => firstF_all h _ (List.mem_append_left _ (List.mem_map.mpr ⟨x, hx, rfl⟩)), fun r hr => firstF_all h _ (List.mem_append_right _ (List.mem_map.mpr ⟨r, hr, rfl⟩))⟩
theorem nm_len {x : Str} (h : nmFault x = none) : x.length ≤ 40 := by
  unfold nmFault at h
  by_cases hl : x.length ≤ 40
  · exact hl
  · rw [if_neg hl] at h
    cases h
theorem road_len {r : Rd} (h : roadFault r = none) : r.name.length ≤ 40 ∧ r.sx.natAbs ≤ 9 ∧ r.sy.natAbs ≤ 9 := by
  unfold roadFault at h
  cases hn : nmFault r.name with
  | some f => rw [hn] at h; cases h
  | none =>
    rw [hn] at h
    have h : shFault r.sx r.sy = none := h
    refine ⟨nm_len hn, ?_⟩
    unfold shFault at h
    by_cases a : 9 < r.sx.natAbs
    · rw [if_pos a] at h
      cases h
    · rw [if_neg a] at h
      by_cases b : 9 < r.sy.natAbs
      · rw [if_pos b] at h
        cases h
      · omega
theorem WOk.sz {L : Land} (h : WOk L) (hf : landFault L = none) : LandSz L := by
  obtain ⟨h1, h2⟩ := fault_all hf
  refine ⟨h.s24, h.r160, fun x hx => nm_len (h1 x hx), fun r hr => ?_⟩
  obtain ⟨a, b, c⟩ := road_len (h2 r hr)
  have w := h.rn r hr
  have := w.p1
  have := w.p99
  exact ⟨a, nm_len (h1 _ w.st), nm_len (h1 _ w.fn), by omega, by omega, by omega, fun z hz => (w.lb z hz).2⟩
/-- a made value or an error -/
def Ends2 (K : PySem.W.Frag) (o : Option Fault) (H : Hp) (R : Hp → V → Prop) (Q : VK) (E : XK) : Prop := (o = none → ∀ (H' : Hp) (v : V), Same H H' → R H' v → Q v H') ∧ ∀ f, o = some f → ∀ (H' : Hp) (cls : Value) (d : Option Addr), Same H H' → ErrAt K f cls d H' → E cls d H'
section
variable {P : Program} {w : World} {K : PySem.W.Frag} {mg : Str → Option Value} {base : Heap}
def sp_map_of (K : PySem.W.Frag) : Sp := fun vs H Q E => ∃ (sl rl : Addr) (xs : List V) (L : Land), vs = [.ref sl, .ref rl] ∧ H sl = some (.lst (L.spots.map V.str)) ∧ H rl = some (.lst xs) ∧ Paired (RoadO K H) xs L.roads ∧ WOk L ∧ Ends2 K (landFault L) H (fun H' v => MapO K H' v L) Q E
abbrev N_map_of : List Str := ["spots", "roads", "names", "name", "taken", "road"]
theorem sc_map_of : FnScope N_map_of ["spots", "roads"] (defScope s_map_of) := ⟨rfl, rfl, rfl, by decide +kernel, rfl, by decide +kernel, by decide +kernel⟩
theorem ok_map_of (T : Tx K mg) : Cl P w K mg base (L2.CX P w) 11 "map_of" (sp_map_of K) [] := by
  obtain ⟨fd, F⟩ := T.d_map_of
  refine cl_of (ps := ["spots", "roads"]) F T.g_map_of (FunD.ok F sc_map_of (fun vs H Q E h => ?_) (fun cdv A outer s H vs Q E hr h => ?_)) fun _ _ _ _ _ _ us hl => match us, hl with | [_, _], _ => rfl
  · obtain ⟨sl, rl, xs, L, rfl, _⟩ := h
    rfl
  · obtain ⟨sl, rl, xs, L, rfl, hs, hr', hx, ok, k0, k1⟩ := h
    refine ⟨_, (pss_cons (ps_expr (pe_cl (ok_check_many T) hr (passes_call (takes_of rfl rfl rfl rfl) (fun _ _ _ _ h => h)) (pa_cons (pe_lenS T (pv 0)) (pa_cons (pe_lenS T (pv 1)) pa_nil))))
      (pss_cons (st 2 sc_map_of.nd (pe_lst pa_nil))
      (pss_cons (ps_for (passes_of rfl) rfl (pi_list (pv 0)) (gn 3 sc_map_of.nd) (pss_cons (ps_expr (pe_cl (ok_check_new T) hr (passes_call (takes_of rfl rfl rfl rfl) (fun _ _ _ _ h => h)) (pa_cons (pv 3) (pa_cons (pv 2) pa_nil)))) (pss_one (ps_app (pv 2) (pv 3)))))
      (pss_cons (st 4 sc_map_of.nd (pe_lst pa_nil))
      (pss_cons (ps_for (passes_of rfl) rfl (pi_list (pv 1)) (gn 5 sc_map_of.nd) (pss_cons (ps_expr (pe_cl (ok_check_road T) hr (passes_call (takes_of rfl rfl rfl rfl) (fun _ _ _ _ h => h)) (pa_cons (pv 5) (pa_cons (pv 2) (pa_cons (pv 4) pa_nil))))) (pss_one (ps_app (pv 4) (pe_fld (pv 5) rfl)))))
      (pss_one (ps_ret (pe_mm (ok_Map_init T) hr pass0 (pa_cons pe_str (pa_cons (pe_tup (pa_cons (pv 2) (pa_cons (pe_lstOf T (pv 1)) pa_nil))) pa_nil)))))))))), ?_⟩
    have hxl := paired_len hx
    have s24 := ok.s24
    have r160 := ok.r160
    have s0 : L.spots.length ≠ 0 := fun z => ok.s0 (List.length_eq_zero_iff.mp z)
    refine ⟨_, rfl, sl, _, rfl, .inl (SqL.of hs), _, rfl, rl, _, rfl, .inl (SqL.of hr'), _, _, rfl, by rw [List.length_map]; omega, fun _ => by omega, fun _ => ?_, fun h => by rw [List.length_map] at h; omega⟩
    refine ⟨by show 0 ≤ sizeLine; decide, fun nm nn => ?_⟩
    have snm : sl ≠ nm := ne_of_none hs nn
    refine ⟨_, rfl, sl, rfl, ⟨_, SqL.of ((same_new nn) _ _ hs)⟩, for_list (xs := L.spots.map V.str) (fun i σ H' => ∃ n : Option V, σ = [some (.ref sl), some (.ref rl), some (.ref nm), n, none, none] ∧ Same H H' ∧ H' nm = some (.lst ((L.spots.take i).map V.str)) ∧ ∀ j y, j < i → L.spots[j]? = some y → nmFault y = none) ⟨none, rfl, same_new nn, upd_same, fun j y h => by omega⟩ ?_ ?_ ?_⟩
    · rintro i σ H' hi ⟨n, rfl, s1, _⟩
      exact SqL.of (s1 _ _ hs)
    · rintro i z σ H' hz ⟨n, rfl, s1, e1, h0⟩
      obtain ⟨y, hy, rfl⟩ := map_at hz
      have hyn := ok.sn y (mem_at hy)
      refine ⟨_, rfl, _, rfl, y, nm, L.spots.take i, rfl, hyn.1, hyn.2, e1, not_mem_take ok.sd hy, fun ef H1 s2 => ?_, fun f ef H1 cls d s2 er => k1 f (fault_spot h0 hy ef) _ _ _ (s1.trans s2) er⟩
      have e2 := s2 _ _ e1
      refine ⟨_, rfl, .inl ⟨rfl, _, SqL.of e2⟩, _, rfl, nm, _, _, rfl, rfl, e2, by rw [List.length_map]; exact small1000 (Nat.le_trans (List.length_take_le' ..) (by omega)), _, rfl, sM (s1.trans s2) nn, by rw [upd_same, take_map_snoc hy], fun j y' hj hy' => ?_⟩
      by_cases hji : j < i
      · exact h0 j y' hji hy'
      · have : j = i := by omega
        subst this
        rw [hy] at hy'
        injection hy' with hy'
        rw [← hy']
        exact ef
    · rintro σ H1 ⟨n, rfl, s1, e1, h0⟩
      rw [List.length_map, List.take_length] at e1
      rw [List.length_map] at h0
      have hsf : ∀ x ∈ L.spots, nmFault x = none := fun x hx => by
        obtain ⟨j, hj⟩ := List.getElem?_of_mem hx
        exact h0 j x (List.getElem?_eq_some_iff.mp hj).1 hj
      refine ⟨by show 0 ≤ sizeLine; decide, fun tk nt => ?_⟩
      have ntk : nm ≠ tk := ne_of_none e1 nt
      have nt0 := s1.free nt
      have hx1 := L2.Paired.mapP hx fun _ _ z => RoadO.mono z s1
      refine ⟨_, rfl, rl, rfl, ⟨_, SqL.of ((same_new nt) _ _ (s1 _ _ hr'))⟩, for_list (xs := xs) (fun i σ H' => ∃ (n r : Option V), σ = [some (.ref sl), some (.ref rl), some (.ref nm), n, some (.ref tk), r] ∧ Same H1 H' ∧ H' tk = some (.lst (((L.roads.take i).map (·.name)).map V.str)) ∧ ∀ j y, j < i → L.roads[j]? = some y → roadFault y = none) ⟨n, none, rfl, same_new nt, upd_same, fun j y h => by omega⟩ ?_ ?_ ?_⟩
      · rintro i σ H' hi ⟨n, r, rfl, s2, _⟩
        exact SqL.of (s2 _ _ (s1 _ _ hr'))
      · rintro i z σ H' hz ⟨n, r, rfl, s2, e2, h1⟩
        obtain ⟨y, hy, hyo⟩ := paired_at hx1 hz
        have hyw := ok.rn y (mem_at hy)
        have hyo2 := hyo.mono s2
        refine ⟨_, rfl, _, rfl, _, rfl, z, nm, tk, y, L.spots, (L.roads.take i).map (·.name), rfl, hyo2, hyw, s2 _ _ e1, e2, ?_, fun ef H3 s3 => ?_, fun f ef H3 cls d s3 er => k1 f (fault_road hsf h1 hy ef) _ _ _ ((s1.trans s2).trans s3) er⟩
        · rw [List.map_take]
          exact not_mem_take ok.rd (by rw [List.getElem?_map, hy]; rfl)
        · have e3 := s3 _ _ e2
          obtain ⟨p, dx, q, rfl, hp, _⟩ := hyo2.mono s3
          refine ⟨_, rfl, .inl ⟨rfl, _, SqL.of e3⟩, _, rfl, p, _, dx, _, _, rfl, hp, T.c_Road, T.n_Road_name, rfl, tk, _, _, rfl, rfl, e3, by rw [List.length_map, List.length_map]; exact small1000 (Nat.le_trans (List.length_take_le' ..) (by omega)), _, _, rfl, sM (s2.trans s3) nt, ?_, fun j y' hj hy' => ?_⟩
          · rw [upd_same, take_map_snoc hy, List.map_append]
            rfl
          · by_cases hji : j < i
            · exact h1 j y' hji hy'
            · have : j = i := by omega
              subst this
              rw [hy] at hy'
              injection hy' with hy'
              rw [← hy']
              exact ef
      · rintro σ H2 ⟨n, r, rfl, s2, e2, h1⟩
        have hrf : ∀ r ∈ L.roads, roadFault r = none := fun x hm => by
          obtain ⟨j, hj⟩ := List.getElem?_of_mem hm
          exact h1 j x (by rw [hxl]; exact (List.getElem?_eq_some_iff.mp hj).1) hj
        have hf := fault_none hsf hrf
        have s12 := s1.trans s2
        refine ⟨_, rfl, _, rfl, rl, _, rfl, .inl (SqL.of (s12 _ _ hr')), fun rl2 nr2 => ⟨by show 2 ≤ sizeLine; decide, fun t nt2 => ?_⟩⟩
        have s3 := sN (same_new (o := .lst xs) nr2) (o := .tup [.ref nm, .ref rl2]) nt2
        refine fun p dx np ndx hne => ⟨p, dx, "", .ref t, L, rfl, upd_same, .inr ⟨t, nm, rl2, xs, rfl, ?_, ?_, ?_, ?_, ok.sz hf⟩, fun H5 b5 mo => ⟨rfl, ?_⟩⟩
        · exact (sN (same_new ndx) (by rw [upd_ne hne.symm]; exact np)) _ _ upd_same
        · exact (sN (same_new ndx) (by rw [upd_ne hne.symm]; exact np)) _ _ (s3 _ _ (s2 _ _ e1))
        · exact (sN (same_new ndx) (by rw [upd_ne hne.symm]; exact np)) _ _ ((same_new nt2) _ _ upd_same)
        · exact L2.Paired.mapP hx fun _ _ z => RoadO.mono z (s12.trans (s3.trans (sN (same_new ndx) (by rw [upd_ne hne.symm]; exact np))))
        · exact k0 hf _ _ (s12.trans (s3.trans (but_same b5 (same_new ndx) np))) mo
end
end J
set_option Elab.async false
set_option linter.all false
set_option maxRecDepth 100000
set_option maxHeartbeats 4000000
set_option exponentiation.threshold 3000
namespace J
open PySem PySem.Spec PyProof.Rows L2 TL

/-! J27: the wide land, in plain Lean. -/
def subN (x : Str) (k : Nat) : Str := (x ++ ".") ++ numS (k : Int)
theorem subN_tl (x : Str) (k : Nat) : tl (subN x k) = tl x ++ 46 :: numL k := by
  have e : tl ("." : Str) = [46] := by decide +kernel
  unfold subN numS
  rw [tl_append, tl_append, e, tl_nat, List.append_assoc]
  rfl
theorem numL_dot (k : Nat) : 46 ∉ numL k := numL_free (.inl (by decide))
theorem sep_inj {l l' d d' : List Nat} (h : l ++ 46 :: d = l' ++ 46 :: d') (hd : 46 ∉ d) (hd' : 46 ∉ d') : l = l' ∧ d = d' := by
  have tw : ∀ {m k : List Nat}, 46 ∉ m → (m ++ 46 :: k).takeWhile (fun c => c != 46) = m := fun {m k} hm => by
    induction m with
    | nil => rfl
    | cons a r ih =>
      have ha : (a != 46) = true := by
        have : a ≠ 46 := fun z => hm (z ▸ List.mem_cons_self ..)
        simpa using this
      show ((a :: (r ++ 46 :: k)).takeWhile _) = _
      rw [List.takeWhile_cons, if_pos ha, ih fun z => hm (List.mem_cons_of_mem _ z)]
  have hr := congrArg List.reverse h
  rw [List.reverse_append, List.reverse_append, List.reverse_cons, List.reverse_cons, List.append_assoc, List.append_assoc] at hr
  have h1 := congrArg (List.takeWhile fun c => c != 46) hr
  have r1 : 46 ∉ d.reverse := fun z => hd (List.mem_reverse.mp z)
  have r2 : 46 ∉ d'.reverse := fun z => hd' (List.mem_reverse.mp z)
  have e1 : ([46] ++ l.reverse) = 46 :: l.reverse := rfl
  have e2 : ([46] ++ l'.reverse) = 46 :: l'.reverse := rfl
  rw [e1, e2, tw r1, tw r2] at h1
  have hdd : d = d' := List.reverse_inj.mp h1
  subst hdd
  exact ⟨List.append_cancel_right h, rfl⟩
theorem subN_inj {x y : Str} {k j : Nat} (h : subN x k = subN y j) : x = y ∧ k = j := by
  have := congrArg tl h
  rw [subN_tl, subN_tl] at this
  obtain ⟨a, b⟩ := sep_inj this (numL_dot k) (numL_dot j)
  exact ⟨ext_tl a, numL_inj b⟩
theorem subN_ok {x : Str} (h : NameS x) (k : Nat) : NameS (subN x k) := by
  show NameL (tl _)
  rw [subN_tl]
  exact NameL.sub h (numL_ne k) (numL_dig k)
theorem subN_len {x : Str} {k : Nat} (h : x.length ≤ 40) (hk : k < 100) : (subN x k).length ≤ 50 := by
  rw [len_tl, subN_tl, List.length_append, ← len_tl, List.length_cons]
  have := numL_len (n := k) (k := 2) (by decide) hk
  omega
/-! ### the remainder's number -/
def Fit (M : Mat) (x y : Int) (n : Nat) : Bool := decide (InLat M (x - (n : Int) % M.wi) (y - (n : Int) / M.wi))
def restIx (M : Mat) (x y : Int) : Nat := ((List.range M.det.natAbs).find? (Fit M x y)).getD 0
theorem restIx_lt {M : Mat} {x y : Int} (h : M.det ≠ 0) : restIx M x y < M.det.natAbs := by
  unfold restIx
  cases hf : (List.range M.det.natAbs).find? (Fit M x y) with
  | none =>
    show 0 < _
    omega
  | some n => exact List.mem_range.mp (List.mem_of_find?_eq_some hf)
theorem fit_rest {M : Mat} {x y : Int} {n : Nat} (h : M.det ≠ 0) (hn : n < M.det.natAbs) (hf : Fit M x y n = true) : RestIs M x y ((n : Int) % M.wi) ((n : Int) / M.wi) := by
  have w := wi_pos h
  have e := wi_hi (M := M)
  refine ⟨Int.emod_nonneg _ (by omega), Int.emod_lt_of_pos _ w, Int.ediv_nonneg (by omega) (by omega), ?_, of_decide_eq_true hf⟩
  refine Int.ediv_lt_of_lt_mul w ?_
  rw [Int.mul_comm, e]
  omega
theorem restIx_eq {M : Mat} {x y i j u v : Int} (h : M.det ≠ 0) (C : Comb M u v) (r : RestIs M x y i j) : (restIx M x y : Int) = j * M.wi + i := by
  have w := wi_pos h
  have e := wi_hi (M := M)
  have ij : 0 ≤ j * M.wi + i ∧ j * M.wi + i < (M.det.natAbs : Int) := by
    have a := Int.mul_nonneg r.j0 (show (0 : Int) ≤ M.wi by omega)
    have b : j * M.wi ≤ (M.hi - 1) * M.wi := Int.mul_le_mul_of_nonneg_right (by have := r.j1; omega) (by omega)
    have c : (M.hi - 1) * M.wi = M.wi * M.hi - M.wi := by rw [Int.sub_mul, Int.mul_comm]; omega
    have := r.i0
    have := r.i1
    omega
  obtain ⟨n, hn⟩ : ∃ n : Nat, (n : Int) = j * M.wi + i := ⟨(j * M.wi + i).toNat, by omega⟩
  have em : (n : Int) % M.wi = i := by
    rw [hn, Int.add_comm, Int.add_mul_emod_self_right]
    exact Int.emod_eq_of_lt r.i0 r.i1
  have ed : (n : Int) / M.wi = j := by
    rw [hn, Int.add_comm, Int.add_mul_ediv_right _ _ (by omega), Int.ediv_eq_zero_of_lt r.i0 r.i1]
    omega
  have fn : Fit M x y n = true := by
    unfold Fit
    rw [em, ed]
    exact decide_eq_true r.lat
  have hlt : n < M.det.natAbs := by omega
  rw [← hn]
  unfold restIx
  cases hf : (List.range M.det.natAbs).find? (Fit M x y) with
  | none =>
    have := List.find?_eq_none.mp hf n (List.mem_range.mpr hlt)
    exact absurd fn this
  | some m =>
    have hm := fit_rest h (List.mem_range.mp (List.mem_of_find?_eq_some hf)) (List.find?_some hf)
    have hq := fit_rest h hlt fn
    obtain ⟨a, b⟩ := rest_uniq h C hm hq
    show (m : Int) = n
    have h1 := Int.emod_add_mul_ediv (m : Int) M.wi
    have h2 := Int.emod_add_mul_ediv (n : Int) M.wi
    rw [a, b] at h1
    omega
theorem restIx_fit {M : Mat} {x y i j u v : Int} (h : M.det ≠ 0) (C : Comb M u v) (r : RestIs M x y i j) : (restIx M x y : Int) % M.wi = i ∧ (restIx M x y : Int) / M.wi = j := by
  have w := wi_pos h
  rw [restIx_eq h C r]
  constructor
  · rw [Int.add_comm, Int.add_mul_emod_self_right]
    exact Int.emod_eq_of_lt r.i0 r.i1
  · rw [Int.add_comm, Int.add_mul_ediv_right _ _ (by omega), Int.ediv_eq_zero_of_lt r.i0 r.i1]
    omega
/-! ### the wide land -/
def wideRoad (M : Mat) (r : Rd) (k : Nat) : Rd :=
  let gx := (k : Int) % M.wi + r.sx
  let gy := (k : Int) / M.wi + r.sy
  let n := restIx M gx gy
  ⟨subN r.name k, subN r.start k, subN r.fin n, (unap M (gx - (n : Int) % M.wi) (gy - (n : Int) / M.wi)).1, (unap M (gx - (n : Int) % M.wi) (gy - (n : Int) / M.wi)).2, r.price, r.label⟩
def wideSpots (D : Nat) (l : List Str) : List Str := l.flatMap fun s => (List.range D).map (subN s)
def wideRoads (M : Mat) (l : List Rd) : List Rd := l.flatMap fun r => (List.range M.det.natAbs).map (wideRoad M r)
def wideLand (M : Mat) (L : Land) : Land := ⟨wideSpots M.det.natAbs L.spots, wideRoads M L.roads⟩
theorem wideSpots_len (D : Nat) (l : List Str) : (wideSpots D l).length = D * l.length := by
  unfold wideSpots
  induction l with
  | nil => rfl
  | cons a r ih => rw [List.flatMap_cons, List.length_append, ih, List.length_map, List.length_range, List.length_cons, Nat.mul_succ, Nat.add_comm]
theorem wideRoads_len (M : Mat) (l : List Rd) : (wideRoads M l).length = M.det.natAbs * l.length := by
  unfold wideRoads
  induction l with
  | nil => rfl
  | cons a r ih => rw [List.flatMap_cons, List.length_append, ih, List.length_map, List.length_range, List.length_cons, Nat.mul_succ, Nat.add_comm]
theorem wide_mem {D : Nat} {l : List Str} {x : Str} {k : Nat} (h : x ∈ l) (hk : k < D) : subN x k ∈ wideSpots D l :=
  List.mem_flatMap.mpr ⟨x, h, List.mem_map.mpr ⟨k, List.mem_range.mpr hk, rfl⟩⟩
theorem wide_nodup {D : Nat} : ∀ {l : List Str}, l.Nodup → (l.flatMap fun s => (List.range D).map (subN s)).Nodup
  | [], _ => List.nodup_nil
  | a :: r, h => by
    have h1 := List.nodup_cons.mp h
    rw [List.flatMap_cons]
    refine List.pairwise_append.mpr ⟨?_, wide_nodup h1.2, ?_⟩
    · refine List.Pairwise.map _ (fun i j hij e => ?_) (List.nodup_range (n := D))
      exact hij (subN_inj e).2
    · intro x hx y hy e
      obtain ⟨i, _, rfl⟩ := List.mem_map.mp hx
      obtain ⟨s, hs, hy⟩ := List.mem_flatMap.mp hy
      obtain ⟨j, _, rfl⟩ := List.mem_map.mp hy
      exact h1.1 ((subN_inj e).1 ▸ hs)
theorem wide_names (M : Mat) (l : List Rd) : (wideRoads M l).map (·.name) = wideSpots M.det.natAbs (l.map (·.name)) := by
  unfold wideRoads wideSpots
  induction l with
  | nil => rfl
  | cons a r ih =>
    rw [List.flatMap_cons, List.map_append, ih, List.map_cons, List.flatMap_cons, List.map_map]
    rfl
theorem wide_ok {M : Mat} {L : Land} (ok : L.Ok) (d0 : M.det ≠ 0) (h24 : M.det.natAbs * L.spots.length ≤ 24) : WOk (wideLand M L) := by
  have s0 : 0 < L.spots.length := List.length_pos_iff.mpr ok.s0
  have d24 : M.det.natAbs ≤ 24 := Nat.le_trans (Nat.le_mul_of_pos_right _ s0) h24
  have dp : 0 < M.det.natAbs := by omega
  have r6 := ok.r6
  refine ⟨?_, ?_, ?_, ?_, ?_, ?_, ?_⟩
  · intro z
    have e := wideSpots_len M.det.natAbs L.spots
    have z : wideSpots M.det.natAbs L.spots = [] := z
    rw [z] at e
    have := Nat.mul_pos dp s0
    simp at e
    omega
  · show (wideSpots _ _).length ≤ 24
    rw [wideSpots_len]
    exact h24
  · intro x hx
    obtain ⟨s, hs, hx⟩ := List.mem_flatMap.mp hx
    obtain ⟨k, hk, rfl⟩ := List.mem_map.mp hx
    have hk := List.mem_range.mp hk
    have so := ok.sn s hs
    exact ⟨subN_ok so.1 k, Nat.le_trans (subN_len so.2 (by omega)) (by decide)⟩
  · exact wide_nodup ok.sd
  · intro r hr
    obtain ⟨q, hq, hr⟩ := List.mem_flatMap.mp hr
    obtain ⟨k, hk, rfl⟩ := List.mem_map.mp hr
    have hk := List.mem_range.mp hk
    have qo := ok.rn q hq
    exact ⟨subN_ok qo.nm.1 k, Nat.le_trans (subN_len qo.nm.2 (by omega)) (by decide), wide_mem qo.st hk, wide_mem qo.fn (restIx_lt d0), qo.p1, qo.p99, qo.lb⟩
  · show ((wideRoads M L.roads).map (·.name)).Nodup
    rw [wide_names]
    exact wide_nodup ok.rd
  · show (wideRoads M L.roads).length ≤ 160
    rw [wideRoads_len]
    have := Nat.mul_le_mul d24 r6
    omega
end J
set_option Elab.async false
set_option linter.all false
set_option maxRecDepth 100000
set_option maxHeartbeats 4000000
set_option exponentiation.threshold 3000
namespace J
open PySem PySem.Spec PyProof.Rows L2 TL

/-! J28: the widened map. -/
theorem lc2_tup {K : PySem.W.Frag} {a : Addr} {xs : List V} {g g1 : TG} {tt tt1 : TT} {wi1 : TI} {te : TE} {vs vs1 : List Nat} {σ : L2.St} {H1 : Hp} {D : Addr} {Qd : Hp → Prop} (Pv : Nat → Hp → Prop) (h0 : Pv 0 (upd H1 D (.lst []))) (hl : ∀ i H, i ≤ xs.length → Pv i H → SqT K H a xs)
    (hs : ∀ i x H, xs[i]? = some x → Pv i H → g x (wipe σ vs) H fun σ2 H2 => wipe σ2 vs = wipe σ vs ∧ tt σ2 H2 fun b H3 =>
      if b = true then wi1 σ2 H3 fun J1 H4 => ∃ W1 : Nat → Nat → Hp → Prop, (∃ m, W1 0 m H4) ∧ ∀ j k H, W1 j k H →
        (J1.stop j H ∧ Pv (i + 1) H) ∨ (J1.go j H ∧ ∃ Nx1 : Hp → Prop, (∀ H', Nx1 H' → ∃ k', k' < k ∧ W1 (j + 1) k' H') ∧ ∀ x H', J1.yld j H x H' → g1 x (wipe σ2 vs1) H' fun σ3 H5 => wipe σ3 vs1 = wipe σ2 vs1 ∧ tt1 σ3 H5 fun b H6 =>
          if b = true then te σ3 H6 fun y H7 => ∃ acc, H7 D = some (.lst acc) ∧ acc.length < sizeLine ∧ Nx1 (upd H7 D (.lst (acc ++ [y]))) else Nx1 H6)
      else Pv (i + 1) H3) (hd : ∀ H, Pv xs.length H → Qd H) :
    ∃ W : Nat → Nat → Hp → Prop, (∃ m, W 0 m (upd H1 D (.lst []))) ∧ ∀ i m H, W i m H →
      ((Itt K a).stop i H ∧ Qd H) ∨ ((Itt K a).go i H ∧ ∃ Nx : Hp → Prop, (∀ H', Nx H' → ∃ m', m' < m ∧ W (i + 1) m' H') ∧ ∀ x H', (Itt K a).yld i H x H' → g x (wipe σ vs) H' fun σ2 H2 => wipe σ2 vs = wipe σ vs ∧ tt σ2 H2 fun b H3 =>
        if b = true then wi1 σ2 H3 fun J1 H4 => ∃ W1 : Nat → Nat → Hp → Prop, (∃ m, W1 0 m H4) ∧ ∀ j k H, W1 j k H →
          (J1.stop j H ∧ Nx H) ∨ (J1.go j H ∧ ∃ Nx1 : Hp → Prop, (∀ H', Nx1 H' → ∃ k', k' < k ∧ W1 (j + 1) k' H') ∧ ∀ x H', J1.yld j H x H' → g1 x (wipe σ2 vs1) H' fun σ3 H5 => wipe σ3 vs1 = wipe σ2 vs1 ∧ tt1 σ3 H5 fun b H6 =>
            if b = true then te σ3 H6 fun y H7 => ∃ acc, H7 D = some (.lst acc) ∧ acc.length < sizeLine ∧ Nx1 (upd H7 D (.lst (acc ++ [y]))) else Nx1 H6)
        else Nx H3) := by
  refine ⟨fun i m H => m = xs.length - i ∧ i ≤ xs.length ∧ Pv i H, ⟨xs.length, by simp, Nat.zero_le _, h0⟩, ?_⟩
  rintro i m H ⟨rfl, hi, p⟩
  have q := hl i H hi p
  by_cases hlt : i < xs.length
  · refine .inr ⟨⟨xs, xs[i], q, by simp [hlt]⟩, Pv (i + 1), fun H' p' => ⟨xs.length - (i + 1), by omega, rfl, hlt, p'⟩, fun x H' y => ?_⟩
    obtain ⟨e, y⟩ := y
    subst e
    exact hs i x _ (y xs q) p
  · have e : i = xs.length := by omega
    subst e
    exact .inl ⟨⟨xs, q, Nat.le_refl _⟩, hd H p⟩
theorem lc2_rng {lo : Int} {n : Nat} {g1 : TG} {tt1 : TT} {te : TE} {vs1 : List Nat} {σ2 : L2.St} {H4 : Hp} {D : Addr} {Nx : Hp → Prop} (Pv : Nat → Hp → Prop) (h0 : Pv 0 H4)
    (hs : ∀ j H, j < n → Pv j H → g1 (.int (lo + j)) (wipe σ2 vs1) H fun σ3 H5 => wipe σ3 vs1 = wipe σ2 vs1 ∧ tt1 σ3 H5 fun b H6 =>
      if b = true then te σ3 H6 fun y H7 => ∃ acc, H7 D = some (.lst acc) ∧ acc.length < sizeLine ∧ Pv (j + 1) (upd H7 D (.lst (acc ++ [y]))) else Pv (j + 1) H6) (hd : ∀ H, Pv n H → Nx H) :
    ∃ W1 : Nat → Nat → Hp → Prop, (∃ m, W1 0 m H4) ∧ ∀ j k H, W1 j k H →
      ((Itr lo n).stop j H ∧ Nx H) ∨ ((Itr lo n).go j H ∧ ∃ Nx1 : Hp → Prop, (∀ H', Nx1 H' → ∃ k', k' < k ∧ W1 (j + 1) k' H') ∧ ∀ x H', (Itr lo n).yld j H x H' → g1 x (wipe σ2 vs1) H' fun σ3 H5 => wipe σ3 vs1 = wipe σ2 vs1 ∧ tt1 σ3 H5 fun b H6 =>
        if b = true then te σ3 H6 fun y H7 => ∃ acc, H7 D = some (.lst acc) ∧ acc.length < sizeLine ∧ Nx1 (upd H7 D (.lst (acc ++ [y]))) else Nx1 H6) := by
  refine ⟨fun i m H => m = n - i ∧ i ≤ n ∧ Pv i H, ⟨n, by simp, Nat.zero_le _, h0⟩, ?_⟩
  rintro i m H ⟨rfl, hi, p⟩
  by_cases hlt : i < n
  · refine .inr ⟨hlt, Pv (i + 1), fun H' p' => ⟨n - (i + 1), by omega, rfl, hlt, p'⟩, fun x H' y => ?_⟩
    obtain ⟨e, y⟩ := y
    subst e y
    exact hs i _ hlt p
  · have e : i = n := by omega
    subst e
    exact .inl ⟨Nat.le_refl _, hd H p⟩
theorem wideRoads_snoc {M : Mat} {l : List Rd} {i : Nat} {r : Rd} (h : l[i]? = some r) : wideRoads M (l.take (i + 1)) = wideRoads M (l.take i) ++ (List.range M.det.natAbs).map (wideRoad M r) := by
  rw [List.take_add_one, h]
  unfold wideRoads
  rw [List.flatMap_append]
  simp
theorem wideSpots_snoc {D : Nat} {l : List Str} {i : Nat} {x : Str} (h : l[i]? = some x) : wideSpots D (l.take (i + 1)) = wideSpots D (l.take i) ++ (List.range D).map (subN x) := by
  rw [List.take_add_one, h]
  unfold wideSpots
  rw [List.flatMap_append]
  simp
section
variable {P : Program} {w : World} {K : PySem.W.Frag} {mg : Str → Option Value} {base : Heap}
def sp_number_name : Sp := fun vs H Q _ => ∃ (x : Str) (k : Nat), vs = [.str x, .int k] ∧ x.length ≤ 1000 ∧ k < 1000 ∧ Q (.str (subN x k)) H
abbrev N_number_name : List Str := ["name", "number"]
theorem sc_number_name : FnScope N_number_name ["name", "number"] (defScope s_number_name) := ⟨rfl, rfl, rfl, by decide +kernel, rfl, by decide +kernel, by decide +kernel⟩
theorem ok_number_name (T : Tx K mg) : Cl P w K mg base CX0 1 "number_name" sp_number_name [] := by
  obtain ⟨fd, F⟩ := T.d_number_name
  refine cl_of (ps := ["name", "number"]) F T.g_number_name (FunD.cl0 F sc_number_name (fun vs H Q E h => ?_) (fun cdv A outer s H vs Q E hr h => ?_)) fun _ _ _ _ _ _ us hl => match us, hl with | [_, _], _ => rfl
  · obtain ⟨x, k, rfl, _⟩ := h
    rfl
  · obtain ⟨x, k, rfl, hx, hk, kk⟩ := h
    refine ⟨_, (pss_one (ps_ret (pe_op op_add_str (pe_op op_add_str (pv 0) pe_str) (pe_strI T (pv 1))))), ?_⟩
    have h1 : (numS (k : Int)).length ≤ 4 := by
      rw [len_tl]
      unfold numS
      rw [tl_nat]
      exact numL_len (k := 4) (by decide) (by omega)
    have h2 : (x ++ "." : Str).length = x.length + 1 := by
      rw [len_tl, tl_append, List.length_append, ← len_tl]
      rfl
    refine ⟨_, rfl, x, ".", rfl, rfl, ?_, _, rfl, _, rfl, log_sm (by omega), x ++ ".", numS k, rfl, rfl, ?_, kk⟩
    · show x.length + 1 ≤ sizeLine
      exact (by have : sizeLine = 2 ^ 24 := rfl; omega)
    · rw [h2]
      exact (by have : sizeLine = 2 ^ 24 := rfl; omega)
def sp_widened (K : PySem.W.Frag) : Sp := fun vs H Q E => ∃ (mp u : V) (L : Land) (M : Mat), vs = [mp, u] ∧ MapO K H mp L ∧ L.Ok ∧ MatAt H u M ∧ M.Fits ∧
  ((M.det = 0 ∧ ∀ (H' : Hp) (cls : Value) (d : Option Addr), Same H H' → ErrAt K .flat cls d H' → E cls d H') ∨
   (M.det ≠ 0 ∧ 24 < (M.det.natAbs * L.spots.length) ∧ ∀ (H' : Hp) (cls : Value) (d : Option Addr), Same H H' → ErrAt K (.many (M.det.natAbs * L.spots.length : Nat)) cls d H' → E cls d H') ∨
   (M.det ≠ 0 ∧ (M.det.natAbs * L.spots.length) ≤ 24 ∧ M.Small ∧ Ends2 K (landFault (wideLand M L)) H (fun H' v => MapO K H' v (wideLand M L)) Q E))
abbrev N_widened : List Str := ["land", "matrix", "size", "road", "form", "roads", "number", "goal", "rest", "start", "end", "shift", "spot"]
theorem sc_widened : FnScope N_widened ["land", "matrix"] (defScope s_widened) := ⟨rfl, rfl, rfl, by decide +kernel, rfl, by decide +kernel, by decide +kernel⟩
theorem ok_widened (T : Tx K mg) : Cl P w K mg base (L2.CX P w) 12 "widened" (sp_widened K) [] := by
  obtain ⟨fd, F⟩ := T.d_widened
  refine cl_of (ps := ["land", "matrix"]) F T.g_widened (FunD.ok F sc_widened (fun vs H Q E h => ?_) (fun cdv A outer s H vs Q E hr h => ?_)) fun _ _ _ _ _ _ us hl => match us, hl with | [_, _], _ => rfl
  · obtain ⟨mp, u, L, M, rfl, _⟩ := h
    rfl
  · obtain ⟨mp, u, L, M, rfl, ⟨p, dx, t1, t2, d1, d2, xs, rfl, hp, ht1, ht2, hx⟩, ok, hM, hF, hk⟩ := h
    refine ⟨_, (pss_cons (st 2 sc_widened.nd (pe_abs T (pe_cl (ok_determinant T) hr pass0 (pa_cons (pv 1) pa_nil))))
      (pss_cons (ps_if (pt_cmpR op_eq (pv 2) pe_int (nomark _)) (pss_one (ps_err (er_BadNumber T) hr (takes_of rfl rfl rfl rfl) (pa_cons pe_str (pa_cons pe_int pa_nil)))) pss_nil)
      (pss_cons (ps_expr (pe_cl (ok_check_many T) hr (passes_call (takes_of rfl rfl rfl rfl) (fun _ _ _ _ h => h)) (pa_cons (pe_op op_mul (pv 2) (pe_lenS T (pe_fld (pv 0) rfl))) (pa_cons (pe_op op_mul (pv 2) (pe_lenS T (pe_fld (pv 0) rfl))) pa_nil))))
      (pss_cons (par2 4 5 sc_widened.nd (pa_cons (pe_cl (ok_lattice_of T) hr pass0 (pa_cons (pv 1) pa_nil)) (pa_cons (pe_lst pa_nil) pa_nil)))
      (pss_cons (ps_for (passes_of rfl) rfl (pi_tup (pe_fld (pv 0) rfl)) (gn 3 sc_widened.nd) (pss_one (ps_for (passes_of rfl) rfl (pi_range1 rfl T.f_range (pa_cons (pv 2) pa_nil)) (gn 6 sc_widened.nd) (pss_cons (st 7 sc_widened.nd (pe_cl (ok_plus T) hr pass0 (pa_cons (pe_tup (pa_cons (pe_op op_mod (pv 6) (pe_at (pv 4) pe_int)) (pa_cons (pe_op op_fdiv (pv 6) (pe_at (pv 4) pe_int)) pa_nil))) (pa_cons (pe_fld (pv 3) rfl) pa_nil)))) (pss_cons (st 8 sc_widened.nd (pe_cl (ok_remainder_of T) hr pass0 (pa_cons (pv 4) (pa_cons (pv 7) pa_nil)))) (pss_cons (st 9 sc_widened.nd (pe_cl (ok_number_name T) hr pass0 (pa_cons (pe_fld (pv 3) rfl) (pa_cons (pv 6) pa_nil)))) (pss_cons (st 10 sc_widened.nd (pe_cl (ok_number_name T) hr pass0 (pa_cons (pe_fld (pv 3) rfl) (pa_cons (pe_op op_add (pe_op op_mul (pe_at (pv 8) pe_int) (pe_at (pv 4) pe_int)) (pe_at (pv 8) pe_int)) pa_nil)))) (pss_cons (st 11 sc_widened.nd (pe_cl (ok_unapplied T) hr pass0 (pa_cons (pv 1) (pa_cons (pe_cl (ok_minus T) hr pass0 (pa_cons (pv 7) (pa_cons (pv 8) pa_nil))) pa_nil)))) (pss_one (ps_app (pv 5) (pe_mm (ok_Road_init T) hr pass0 (pa_cons (pe_cl (ok_number_name T) hr pass0 (pa_cons (pe_fld (pv 3) rfl) (pa_cons (pv 6) pa_nil))) (pa_cons (pv 9) (pa_cons (pv 10) (pa_cons (pv 11) (pa_cons (pe_fld (pv 3) rfl) (pa_cons (pe_fld (pv 3) rfl) pa_nil)))))))))))))))))
      (pss_one (ps_ret (pe_cl (ok_map_of T) hr (passes_call (takes_of rfl rfl rfl rfl) (fun _ _ _ _ h => h)) (pa_cons (pe_lc2 rfl sc_widened.nd (pi_tup (pe_fld (pv 0) rfl)) (blkOk_by (own := [("spot", 12), ("number", 6)]) (N := N_widened) (sc := defScope s_widened) (by decide +kernel)) (vs1 := [6]) (by decide) (fun _ _ _ _ _ => (gn 12 sc_widened.nd)) (fun _ _ _ _ _ => pts_nil) (fun _ _ _ _ _ => (pi_range1 rfl T.f_range (pa_cons (pv 2) pa_nil))) (fun _ _ _ _ _ => (gn 6 sc_widened.nd)) (fun _ _ _ _ _ => pts_nil) (fun _ _ _ _ _ => (pe_cl (ok_number_name T) hr pass0 (pa_cons (pv 12) (pa_cons (pv 6) pa_nil))))) (pa_cons (pv 5) pa_nil)))))))))), ?_⟩
    refine ⟨_, rfl, u, M, rfl, hM, hF, _, rfl, ?_⟩
    rw [natAbs_if]
    refine ⟨_, rfl, rfl, _, rfl, ?_⟩
    rcases hk with ⟨d0, k⟩ | hk
    · rw [d0]
      exact iteT ⟨_, rfl, by show 2 ≤ 1000; decide, fun H2 d hd s2 e2 => k _ _ _ s2 ⟨rfl, d, rfl, e2⟩⟩
    have d0 : M.det ≠ 0 := by
      rcases hk with h | h
      · exact h.1
      · exact h.1
    have s0 : 0 < L.spots.length := List.length_pos_iff.mpr ok.s0
    rw [decide_eq_false (by intro z; injection z with z; omega : ¬ V.int (M.det.natAbs : Int) = V.int 0)]
    have cm : ∀ {n : Nat}, n ≤ 1000 → CMul (M.det.natAbs : Int) (n : Int) := fun h => cmul_r (by omega)
    have ns := ok.s3
    have nr := ok.r6
    have hxl := paired_len hx
    refine iteF ⟨_, rfl, _, rfl, p, _, dx, _, _, rfl, hp, T.c_Map, T.n_Map_spots, rfl, t1, _, rfl, .inr (SqT.of ht1), _, _, rfl, rfl, cm (by rw [List.length_map]; omega), _, rfl, _, rfl, p, _, dx, _, _, rfl, hp, T.c_Map, T.n_Map_roads, rfl, t2, _, rfl, .inr (SqT.of ht2), _, _, rfl, rfl, cm (by omega), ?_⟩
    have e1 : (M.det.natAbs : Int) * (((L.spots.map V.str).length : Nat) : Int) = ((M.det.natAbs * L.spots.length : Nat) : Int) := by
      rw [List.length_map]
      omega
    have e2 : (M.det.natAbs : Int) * ((xs.length : Nat) : Int) = ((M.det.natAbs * L.roads.length : Nat) : Int) := by
      rw [hxl]
      omega
    have pos := Nat.mul_pos (show 0 < M.det.natAbs by omega) s0
    refine ⟨((M.det.natAbs * L.spots.length : Nat) : Int), ((M.det.natAbs * L.roads.length : Nat) : Int), (by show [V.int _, V.int _] = [V.int _, V.int _]; rw [← e1, ← e2]), by omega, fun h => ?_, fun h => ?_, fun h H' cls d s1 er => ?_⟩
    · have : M.det.natAbs ≤ 24 := Nat.le_trans (Nat.le_mul_of_pos_right _ s0) (by omega)
      have := Nat.mul_le_mul this nr
      omega
    · obtain ⟨_, h24, hS, k0, k1⟩ : M.det ≠ 0 ∧ (M.det.natAbs * L.spots.length) ≤ 24 ∧ M.Small ∧ Ends2 K (landFault (wideLand M L)) H (fun H' v => MapO K H' v (wideLand M L)) Q E := by
        rcases hk with ⟨_, h', _⟩ | hk
        · omega
        · exact hk
      have d24 : M.det.natAbs ≤ 24 := Nat.le_trans (Nat.le_mul_of_pos_right _ s0) h24
      have w0 := wi_pos d0
      have w24 := wi_le d0
      refine ⟨_, rfl, u, M, rfl, hM, hS, d0, fun H1 F q s1 tr ln => ⟨by show 0 ≤ sizeLine; decide, fun nl nn => ⟨_, _, rfl, ?_⟩⟩⟩
      obtain ⟨cu, cv, cn, C, _⟩ := ln.ex
      have sn1 : Same H1 (upd H1 nl (.lst [])) := same_new nn
      refine ⟨_, rfl, p, _, dx, _, _, rfl, sn1 _ _ (s1 _ _ hp), T.c_Map, T.n_Map_roads, rfl, t2, rfl, ⟨_, SqT.of (sn1 _ _ (s1 _ _ ht2))⟩, for_tup (xs := xs) (fun i σ H' => ∃ o3 o6 o7 o8 o9 o10 o11 : Option V, σ = [some (.ref p), some u, some (.int (M.det.natAbs : Int)), o3, some F, some (.ref nl), o6, o7, o8, o9, o10, o11, none] ∧ Same H1 H' ∧ ∃ ys, H' nl = some (.lst ys) ∧ Paired (RoadO K H') ys (wideRoads M (L.roads.take i))) ⟨none, none, none, none, none, none, none, rfl, sn1, [], upd_same, by rw [List.take_zero]; exact .nil⟩ ?_ ?_ ?_⟩
      · rintro i σ H' hi ⟨o3, o6, o7, o8, o9, o10, o11, rfl, s2, _⟩
        exact SqT.of (s2 _ _ (s1 _ _ ht2))
      · rintro i z σ H' hz ⟨o3, o6, o7, o8, o9, o10, o11, rfl, s2, ys, hy, hyp⟩
        obtain ⟨r, hr4, hro⟩ := paired_at hx hz
        have ro := ok.rn r (mem_at hr4)
        have hyl := paired_len hyp
        have hyl : ys.length ≤ 24 * 6 := by
          rw [hyl, wideRoads_len]
          exact Nat.mul_le_mul d24 (Nat.le_trans (List.length_take_le' ..) nr)
        refine ⟨_, rfl, _, rfl, by omega, by omega, ?_⟩
        refine for_range (fun k σ H' => ∃ o6 o7 o8 o9 o10 o11 : Option V, σ = [some (.ref p), some u, some (.int (M.det.natAbs : Int)), some z, some F, some (.ref nl), o6, o7, o8, o9, o10, o11, none] ∧ Same H1 H' ∧ ∃ zs, H' nl = some (.lst zs) ∧ Paired (RoadO K H') zs (wideRoads M (L.roads.take i) ++ (List.range k).map (wideRoad M r))) ⟨o6, o7, o8, o9, o10, o11, rfl, s2, ys, hy, by rw [List.range_zero, List.map_nil, List.append_nil]; exact hyp⟩ ?_ ?_
        · rintro k σ H2 hk ⟨o6, o7, o8, o9, o10, o11, rfl, s3, zs, hz2, hzp⟩
          have hk : k < M.det.natAbs := by omega
          rw [Int.zero_add]
          have hzl := paired_len hzp
          rw [List.length_append, wideRoads_len, List.length_map, List.length_range] at hzl
          have hzl : zs.length ≤ 1000 := by
            have : M.det.natAbs * (L.roads.take i).length ≤ 24 * 6 := Nat.mul_le_mul d24 (Nat.le_trans (List.length_take_le' ..) nr)
            omega
          have sH2 := s1.trans s3
          obtain ⟨rp, rdx, rq, rfl, hrp, hrc⟩ := hro.mono sH2
          refine ⟨_, rfl, _, rfl, (tr.mono s3).ix0 ⟨_, _, rfl, rfl, w0, _, rfl, _, rfl, (tr.mono s3).ix0 ⟨_, _, rfl, rfl, ⟨w0, by omega⟩, by show 2 ≤ sizeLine; decide, fun c nc => ?_⟩⟩⟩
          have sc := same_new (o := .tup [.int ((k : Int) % M.wi), .int ((k : Int) / M.wi)]) nc
          refine ⟨_, rfl, rp, _, rdx, _, _, rfl, sc _ _ hrp, T.c_Road, T.n_Road_shift, rfl, _, _, _, _, _, _, rfl, ⟨c, rfl, upd_same⟩, hrc.mono sc, fun H3 g s4 cg => ?_⟩
          have s4' := sc.trans s4
          refine ⟨_, rfl, _, rfl, _, _, M, q, _, _, rfl, tr.mono (s3.trans s4'), cg, hS, d0, ln, fun H4 y i' j' s5 cr rs => ?_⟩
          have s5' := s4'.trans s5
          have hrp4 := s5' _ _ hrp
          have sp := ok.sn
          refine ⟨_, rfl, rp, _, rdx, _, _, rfl, hrp4, T.c_Road, T.n_Road_start, rfl, _, rfl, r.start, k, rfl, Nat.le_trans (sp _ ro.st).2 (by decide), by omega, ?_⟩
          have ex := restIx_eq d0 C rs
          obtain ⟨ef1, ef2⟩ := restIx_fit d0 C rs
          have elt := restIx_lt (M := M) (x := (k : Int) % M.wi + r.sx) (y := (k : Int) / M.wi + r.sy) d0
          refine ⟨_, rfl, rp, _, rdx, _, _, rfl, hrp4, T.c_Road, T.n_Road_end, rfl, _, rfl, cr.ix1 ⟨_, rfl, (tr.mono (s3.trans s5')).ix0 ⟨_, _, rfl, rfl, cmul_r (by omega), _, rfl, cr.ix0 ⟨_, _, rfl, rfl, r.fin, restIx M ((k : Int) % M.wi + r.sx) ((k : Int) / M.wi + r.sy), by show [V.str r.fin, V.int (j' * M.wi + i')] = _; rw [← ex], Nat.le_trans (sp _ ro.fn).2 (by decide), by omega, ?_⟩⟩⟩⟩
          have cg4 := cg.mono s5
          refine ⟨_, rfl, _, rfl, _, rfl, _, _, _, _, _, _, rfl, cg4, cr, fun H5 v s6 cv => ?_⟩
          have kb1 := Int.emod_nonneg (k : Int) (show M.wi ≠ 0 by omega)
          have kb2 := Int.emod_lt_of_pos (k : Int) w0
          have kb3 : (0 : Int) ≤ (k : Int) / M.wi := Int.ediv_nonneg (by omega) (by omega)
          have kb4 : (k : Int) / M.wi ≤ (k : Int) := Int.ediv_le_self _ (by omega)
          have hx9 := ro.x9
          have hy9 := ro.y9
          have i0 := rs.i0
          have i1 := rs.i1
          have j0 := rs.j0
          have j1 := rs.j1
          have h3 := hi_pos d0
          have h4 : M.hi ≤ 24 := by
            have a := Int.mul_le_mul_of_nonneg_right (show 1 ≤ M.wi by omega) (show 0 ≤ M.hi by omega)
            have b := wi_hi (M := M)
            omega
          refine ⟨_, _, M, _, _, rfl, hM.mono ((s1.trans s3).trans (s5'.trans s6)), cv, hF, sm_of (by omega), sm_of (by omega), d0, by omega, fun H6 z7 s7 cz => ?_⟩
          have s7' := (s5'.trans s6).trans s7
          have hrp6 := s7' _ _ hrp
          have hz6 := s7' _ _ hz2
          refine ⟨_, rfl, .inl ⟨rfl, _, SqL.of hz6⟩, _, rfl, rp, _, rdx, _, _, rfl, hrp6, T.c_Road, T.n_Road_name, rfl, _, rfl, r.name, k, rfl, Nat.le_trans ro.nm.2 (by decide), by omega, _, rfl, _, rfl, _, rfl, _, rfl, rp, _, rdx, _, _, rfl, hrp6, T.c_Road, T.n_Road_price, rfl, _, rfl, rp, _, rdx, _, _, rfl, hrp6, T.c_Road, T.n_Road_label, rfl, ?_⟩
          refine fun p' dx' np ndx hne => ⟨p', dx', wideRoad M r k, z7, rfl, upd_same, fun H7 b7 e7 => ⟨rfl, ?_⟩⟩
          have s8 : Same H6 H7 := but_same b7 (same_new ndx) np
          have s8' := s7'.trans s8
          have hz7 := s8' _ _ hz2
          have roN : RoadO K H7 (.ref p') (wideRoad M r k) := by
            refine ⟨p', dx', z7, rfl, e7, ?_⟩
            have := cz.mono s8
            show CellAt H7 z7 (unap M _ _).1 (unap M _ _).2
            rw [ef1, ef2]
            exact this
          refine ⟨nl, _, _, rfl, rfl, hz7, small1000 (by omega), _, _, _, _, _, _, rfl, sM (s3.trans s8') nn, _, upd_same, ?_⟩
          rw [List.range_succ, List.map_append, ← List.append_assoc]
          exact Paired.snoc (L2.Paired.mapP hzp fun _ _ w => (w.mono s8').updL hz7) (roN.updL hz7)
        · rintro σ H2 ⟨o6, o7, o8, o9, o10, o11, rfl, s3, zs, hz2, hzp⟩
          refine ⟨some z, o6, o7, o8, o9, o10, o11, rfl, s3, zs, hz2, ?_⟩
          rw [wideRoads_snoc hr4]
          exact hzp
      · rintro σ H2 ⟨o3, o6, o7, o8, o9, o10, o11, rfl, s3, zs, hz2, hzp⟩
        have sH2 := s1.trans s3
        rw [hxl, List.take_length] at hzp
        refine ⟨_, rfl, p, _, dx, _, _, rfl, sH2 _ _ hp, T.c_Map, T.n_Map_spots, rfl, t1, rfl, ⟨_, SqT.of (sH2 _ _ ht1)⟩, fun D hD => ?_⟩
        refine lc2_tup (xs := L.spots.map V.str) (fun i H' => Same H2 H' ∧ H' D = some (.lst ((wideSpots M.det.natAbs (L.spots.take i)).map V.str))) ⟨same_new hD, by rw [List.take_zero]; exact upd_same⟩ ?_ ?_ ?_
        · rintro i H' hi ⟨s4, _⟩
          exact SqT.of (s4 _ _ (sH2 _ _ ht1))
        · rintro i v H' hv ⟨s4, e4⟩
          obtain ⟨x, hx4, rfl⟩ := map_at hv
          have xo := ok.sn x (mem_at hx4)
          refine ⟨rfl, _, rfl, _, rfl, by omega, by omega, ?_⟩
          refine lc2_rng (fun j H' => Same H2 H' ∧ H' D = some (.lst ((wideSpots M.det.natAbs (L.spots.take i) ++ (List.range j).map (subN x)).map V.str))) ⟨s4, by rw [List.range_zero, List.map_nil, List.append_nil]; exact e4⟩ ?_ ?_
          · rintro j H3 hj ⟨s5, e5⟩
            have hj : j < M.det.natAbs := by omega
            rw [Int.zero_add]
            refine ⟨rfl, _, rfl, _, rfl, x, j, rfl, Nat.le_trans xo.2 (by decide), by omega, _, e5, ?_, sM s5 hD, ?_⟩
            · rw [List.length_map, List.length_append, wideSpots_len, List.length_map, List.length_range]
              refine small1000 ?_
              have : M.det.natAbs * (L.spots.take i).length ≤ 24 * 3 := Nat.mul_le_mul d24 (Nat.le_trans (List.length_take_le' ..) ns)
              omega
            · rw [upd_same, List.range_succ]
              simp only [List.map_append, List.append_assoc, List.map_cons, List.map_nil]
          · rintro H3 ⟨s5, e5⟩
            refine ⟨s5, ?_⟩
            rw [wideSpots_snoc hx4]
            exact e5
        · rintro H3 ⟨s4, e4⟩
          rw [List.length_map, List.take_length] at e4
          have sH3 := sH2.trans s4
          refine ⟨_, rfl, D, nl, zs, wideLand M L, rfl, e4, s4 _ _ hz2, L2.Paired.mapP hzp fun _ _ w => RoadO.mono w s4, wide_ok ok d0 h24, fun e H4 v s5 mo => k0 e _ _ (sH3.trans s5) mo, fun f e H4 cls d s5 er => k1 f e _ _ _ (sH3.trans s5) er⟩
    · rcases hk with ⟨_, _, k⟩ | ⟨_, h', _⟩
      · exact k _ _ _ s1 er
      · omega
end
end J
set_option Elab.async false
set_option linter.all false
set_option maxRecDepth 100000
set_option maxHeartbeats 4000000
set_option exponentiation.threshold 3000
namespace J
open PySem PySem.Spec PyProof.Rows L2 TL

/-! J29: matchings, the widening. -/
section
variable {X : Cx} {tg e : Expr} {p pos : Pos} {te : TE}
theorem pi_or {l : Expr} {a b : TI} (ha : PI X tg l a) (hb : PI X tg l b) : PI X tg l (fun σ H R => a σ H R ∨ b σ H R) :=
  ⟨fun pins s σ H R I h => h.elim (ha.run pins s σ H R I) (hb.run pins s σ H R I)⟩
theorem pe_dictOf (T : Tx X.K X.mg) (he : PE X e te) (hg : Gl X "dict" := by rfl) (hs : starEach (e :: []) X.env = (false, eval e X.env) :: starEach [] X.env := by rfl) :
    PE X (.Call (.Name "dict" p) [e] [] pos) (tCB (fun xs H Q => ∃ (a : Addr) (kvs : List (Key × V)), xs = [.ref a] ∧ L2.Rd H a (.dK kvs) ∧ ∀ p, H p = none → Q (.ref p) (upd H p (.dK kvs))) (tCons te tNil)) :=
  pe_callTy call_dictD hg T.f_dict PyProof.Rows.boot_dict (pa_cons he pa_nil hs) (he := hs)
end
def rTup (K : PySem.W.Frag) : List V → Hp → VK → Prop := fun xs H Q => ∃ p ys, xs = [.ref p] ∧ ((SqL K H p ys ∧ ∀ l, H l = none → Q (.ref l) (upd H l (.tup ys))) ∨ (SqT K H p ys ∧ Q (.ref p) H))
/-- rows made tuples -/
structure RowsW (M : Mat) (H H' : Hp) (D : Addr) (i : Nat) : Prop where
  s : Same H H'
  l : ∃ ys, H' D = some (.lst ys) ∧ ys.length = i ∧ (0 < i → ∃ y, ys[0]? = some y ∧ CellAt H' y M.a M.b) ∧ (1 < i → ∃ y, ys[1]? = some y ∧ CellAt H' y M.c M.d)
section
variable {P : Program} {w : World} {K : PySem.W.Frag} {mg : Str → Option Value} {base : Heap}
def sp_Matching_init (K : PySem.W.Frag) : Sp := fun vs H Q _ => ∃ (p dx d : Addr) (u : V) (M : Mat) (kvs : List (Key × V)), vs = [.ref p, u, .ref d] ∧ H p = some (.ins (He.ga K "Matching") dx []) ∧ MatAt H u M ∧ H d = some (.dK kvs) ∧
  ∀ H' (t d2 : Addr), But p H H' → H' p = some (.ins (He.ga K "Matching") dx [("matrix", .ref t), ("spots", .ref d2)]) → MatT H' (.ref t) M → H' d2 = some (.dK kvs) → Q .non H'
abbrev N_Matching___init__ : List Str := ["self", "matrix", "spots", "part"]
theorem sc_Matching___init__ : FnScope N_Matching___init__ ["self", "matrix", "spots"] (defScope s_Matching___init__) := ⟨rfl, rfl, rfl, by decide +kernel, rfl, by decide +kernel, by decide +kernel⟩
theorem ok_Matching_init (T : Tx K mg) : Mm P w K mg base CX0 1 "Matching" (He.ga K "Matching") (sp_Matching_init K) [] := by
  obtain ⟨fd, F⟩ := T.d_Matching___init__
  refine mm_of (ps := ["self", "matrix", "spots"]) F T.k_Matching T.g_Matching (FunD.cl0 F sc_Matching___init__ (fun vs H Q E h => ?_) (fun cdv A outer s H vs Q E hr h => ?_)) fun _ _ _ _ _ _ us hl => match us, hl with | [_, _, _], _ => rfl
  · obtain ⟨p, dx, d, u, M, kvs, rfl, _⟩ := h
    rfl
  · obtain ⟨p, dx, d, u, M, kvs, rfl, hp, hM, hd, k⟩ := h
    refine ⟨_, (pss_cons (ps_fld (pv 0) (pe_tupOf T (pe_lc (te := tCB (rTup K) (tCons (tVar 3) tNil)) rfl sc_Matching___init__.nd (pi_or (pi_list (pv 1)) (pi_tup (pv 1))) (blkOk_by (own := [("part", 3)]) (N := N_Matching___init__) (sc := defScope s_Matching___init__) (by decide +kernel)) (fun _ _ _ _ _ => (gn 3 sc_Matching___init__.nd)) (fun _ _ _ _ _ => pts_nil) (fun _ _ _ _ _ => (pe_tupOf T (pv 3))))) rfl)
      (pss_one (ps_fld (pv 0) (pe_dictOf T (pv 2)) rfl))), ?_⟩
    obtain ⟨r1, r2, ⟨a, rfl, h⟩, h1, h2⟩ := hM
    rcases h with h | h
    · refine .inr ⟨_, rfl, a, rfl, ⟨_, SqT.of h⟩, fun D hD => ?_⟩
      · refine lc_tup (xs := [r1, r2]) (fun i H' => RowsW M H H' D i) ⟨same_new hD, [], upd_same, rfl, fun h => by omega, fun h => by omega⟩ ?_ ?_ ?_
        · rintro i H' hi W
          exact SqT.of (W.s _ _ h)
        · rintro i x H' hx W
          obtain ⟨ys, hD', yl, y0, y1⟩ := W.l
          refine ⟨rfl, _, rfl, ?_⟩
          match i, hx with
          | 0, hx =>
            injection hx with hx
            subst hx
            obtain ⟨b, rfl, hb | hb⟩ := h1.mono W.s
            · exact ⟨b, _, rfl, .inr ⟨SqT.of hb, ys, hD', by show ys.length < sizeLine; rw [yl]; decide, sM W.s hD, ys ++ [.ref b], upd_same, by rw [List.length_append, yl]; rfl, fun _ => ⟨_, by rw [List.getElem?_append_right (by omega), yl]; rfl, CellAt.upd ⟨b, rfl, hb⟩ hD'⟩, fun h => by omega⟩⟩
            · refine ⟨b, _, rfl, .inl ⟨SqL.of hb, fun l nl => ⟨ys, (same_new nl) _ _ hD', by show ys.length < sizeLine; rw [yl]; decide, sM (sN W.s nl) hD, ys ++ [.ref l], upd_same, by rw [List.length_append, yl]; rfl, fun _ => ⟨_, by rw [List.getElem?_append_right (by omega), yl]; rfl, CellAt.upd ⟨l, rfl, upd_same⟩ ((same_new nl) _ _ hD')⟩, fun h => by omega⟩⟩⟩
          | 1, hx =>
            injection hx with hx
            subst hx
            obtain ⟨z0, z1, z2⟩ := y0 (by omega)
            obtain ⟨b, rfl, hb | hb⟩ := h2.mono W.s
            · exact ⟨b, _, rfl, .inr ⟨SqT.of hb, ys, hD', by show ys.length < sizeLine; rw [yl]; decide, sM W.s hD, ys ++ [.ref b], upd_same, by rw [List.length_append, yl]; rfl, fun _ => ⟨z0, by rw [List.getElem?_append_left (by omega)]; exact z1, z2.upd hD'⟩, fun _ => ⟨_, by rw [List.getElem?_append_right (by omega), yl]; rfl, CellAt.upd ⟨b, rfl, hb⟩ hD'⟩⟩⟩
            · refine ⟨b, _, rfl, .inl ⟨SqL.of hb, fun l nl => ⟨ys, (same_new nl) _ _ hD', by show ys.length < sizeLine; rw [yl]; decide, sM (sN W.s nl) hD, ys ++ [.ref l], upd_same, by rw [List.length_append, yl]; rfl, fun _ => ⟨z0, by rw [List.getElem?_append_left (by omega)]; exact z1, (z2.mono (same_new nl)).upd ((same_new nl) _ _ hD')⟩, fun _ => ⟨_, by rw [List.getElem?_append_right (by omega), yl]; rfl, CellAt.upd ⟨l, rfl, upd_same⟩ ((same_new nl) _ _ hD')⟩⟩⟩⟩
          | i + 2, hx => simp at hx
        · rintro H1 W
          obtain ⟨ys, hD1, yl, y0, y1⟩ := W.l
          obtain ⟨z0, e0, c0⟩ := y0 (by show 0 < 2; decide)
          obtain ⟨z1, e1, c1⟩ := y1 (by show 1 < 2; decide)
          have ey : ys = [z0, z1] := by
            match ys, yl, e0, e1 with
            | [_, _], _, e0, e1 =>
              injection e0 with e0
              injection e1 with e1
              rw [e0, e1]
          subst ey
          refine ⟨_, _, rfl, .inl ⟨SqL.of hD1, fun t nt => ⟨_, rfl, p, _, dx, _, rfl, (same_new nt) _ _ (W.s _ _ hp), T.c_Matching, T.n_Matching_matrix, by decide, ?_⟩⟩⟩
          have s1 := sN W.s (o := .tup [z0, z1]) nt
          revert s1
          have m1 : MatT (upd H1 t (.tup [z0, z1])) (.ref t) M := ⟨t, z0, z1, rfl, upd_same, c0.mono (same_new nt), c1.mono (same_new nt)⟩
          revert m1
          generalize upd H1 t (.tup [z0, z1]) = H2
          intro m1 s1
          have hp2 := s1 _ _ hp
          have pd : d ≠ p := ne_of (s1 _ _ hd) hp2 (by intro z; cases z)
          refine ⟨_, rfl, d, kvs, rfl, Or.inl ?_, fun d2 nd2 => ⟨_, rfl, p, _, dx, [("matrix", .ref t)], rfl, ?_, T.c_Matching, T.n_Matching_spots, ?_, ?_⟩⟩
          · rw [upd_ne pd]
            exact s1 _ _ hd
          · exact (same_new nd2) _ _ upd_same
          · show 1 < 1000
            decide
          · have b2 : But p H2 (upd (upd (upd H2 p (.ins (He.ga K "Matching") dx [("matrix", .ref t)])) d2 (.dK kvs)) p (.ins (He.ga K "Matching") dx [("matrix", .ref t), ("spots", .ref d2)])) := (((But.refl H2).put).new nd2).put
            refine k _ t d2 ((But.of s1).trans b2) upd_same ?_ ?_
            · obtain ⟨q, z0, z1, eq, hq, c0, c1⟩ := m1
              exact ⟨q, z0, z1, eq, b2.tupl hp2 hq, c0.but b2 hp2 (fun _ z => by cases z), c1.but b2 hp2 (fun _ z => by cases z)⟩
            · have : d2 ≠ p := (ne_of_none upd_same nd2).symm
              rw [upd_ne this, upd_same]
    · refine .inl ⟨_, rfl, a, rfl, ⟨_, SqL.of h⟩, fun D hD => ?_⟩
      · refine lc_list (xs := [r1, r2]) (fun i H' => RowsW M H H' D i) ⟨same_new hD, [], upd_same, rfl, fun h => by omega, fun h => by omega⟩ ?_ ?_ ?_
        · rintro i H' hi W
          exact SqL.of (W.s _ _ h)
        · rintro i x H' hx W
          obtain ⟨ys, hD', yl, y0, y1⟩ := W.l
          refine ⟨rfl, _, rfl, ?_⟩
          match i, hx with
          | 0, hx =>
            injection hx with hx
            subst hx
            obtain ⟨b, rfl, hb | hb⟩ := h1.mono W.s
            · exact ⟨b, _, rfl, .inr ⟨SqT.of hb, ys, hD', by show ys.length < sizeLine; rw [yl]; decide, sM W.s hD, ys ++ [.ref b], upd_same, by rw [List.length_append, yl]; rfl, fun _ => ⟨_, by rw [List.getElem?_append_right (by omega), yl]; rfl, CellAt.upd ⟨b, rfl, hb⟩ hD'⟩, fun h => by omega⟩⟩
            · refine ⟨b, _, rfl, .inl ⟨SqL.of hb, fun l nl => ⟨ys, (same_new nl) _ _ hD', by show ys.length < sizeLine; rw [yl]; decide, sM (sN W.s nl) hD, ys ++ [.ref l], upd_same, by rw [List.length_append, yl]; rfl, fun _ => ⟨_, by rw [List.getElem?_append_right (by omega), yl]; rfl, CellAt.upd ⟨l, rfl, upd_same⟩ ((same_new nl) _ _ hD')⟩, fun h => by omega⟩⟩⟩
          | 1, hx =>
            injection hx with hx
            subst hx
            obtain ⟨z0, z1, z2⟩ := y0 (by omega)
            obtain ⟨b, rfl, hb | hb⟩ := h2.mono W.s
            · exact ⟨b, _, rfl, .inr ⟨SqT.of hb, ys, hD', by show ys.length < sizeLine; rw [yl]; decide, sM W.s hD, ys ++ [.ref b], upd_same, by rw [List.length_append, yl]; rfl, fun _ => ⟨z0, by rw [List.getElem?_append_left (by omega)]; exact z1, z2.upd hD'⟩, fun _ => ⟨_, by rw [List.getElem?_append_right (by omega), yl]; rfl, CellAt.upd ⟨b, rfl, hb⟩ hD'⟩⟩⟩
            · refine ⟨b, _, rfl, .inl ⟨SqL.of hb, fun l nl => ⟨ys, (same_new nl) _ _ hD', by show ys.length < sizeLine; rw [yl]; decide, sM (sN W.s nl) hD, ys ++ [.ref l], upd_same, by rw [List.length_append, yl]; rfl, fun _ => ⟨z0, by rw [List.getElem?_append_left (by omega)]; exact z1, (z2.mono (same_new nl)).upd ((same_new nl) _ _ hD')⟩, fun _ => ⟨_, by rw [List.getElem?_append_right (by omega), yl]; rfl, CellAt.upd ⟨l, rfl, upd_same⟩ ((same_new nl) _ _ hD')⟩⟩⟩⟩
          | i + 2, hx => simp at hx
        · rintro H1 W
          obtain ⟨ys, hD1, yl, y0, y1⟩ := W.l
          obtain ⟨z0, e0, c0⟩ := y0 (by show 0 < 2; decide)
          obtain ⟨z1, e1, c1⟩ := y1 (by show 1 < 2; decide)
          have ey : ys = [z0, z1] := by
            match ys, yl, e0, e1 with
            | [_, _], _, e0, e1 =>
              injection e0 with e0
              injection e1 with e1
              rw [e0, e1]
          subst ey
          refine ⟨_, _, rfl, .inl ⟨SqL.of hD1, fun t nt => ⟨_, rfl, p, _, dx, _, rfl, (same_new nt) _ _ (W.s _ _ hp), T.c_Matching, T.n_Matching_matrix, by decide, ?_⟩⟩⟩
          have s1 := sN W.s (o := .tup [z0, z1]) nt
          revert s1
          have m1 : MatT (upd H1 t (.tup [z0, z1])) (.ref t) M := ⟨t, z0, z1, rfl, upd_same, c0.mono (same_new nt), c1.mono (same_new nt)⟩
          revert m1
          generalize upd H1 t (.tup [z0, z1]) = H2
          intro m1 s1
          have hp2 := s1 _ _ hp
          have pd : d ≠ p := ne_of (s1 _ _ hd) hp2 (by intro z; cases z)
          refine ⟨_, rfl, d, kvs, rfl, Or.inl ?_, fun d2 nd2 => ⟨_, rfl, p, _, dx, [("matrix", .ref t)], rfl, ?_, T.c_Matching, T.n_Matching_spots, ?_, ?_⟩⟩
          · rw [upd_ne pd]
            exact s1 _ _ hd
          · exact (same_new nd2) _ _ upd_same
          · show 1 < 1000
            decide
          · have b2 : But p H2 (upd (upd (upd H2 p (.ins (He.ga K "Matching") dx [("matrix", .ref t)])) d2 (.dK kvs)) p (.ins (He.ga K "Matching") dx [("matrix", .ref t), ("spots", .ref d2)])) := (((But.refl H2).put).new nd2).put
            refine k _ t d2 ((But.of s1).trans b2) upd_same ?_ ?_
            · obtain ⟨q, z0, z1, eq, hq, c0, c1⟩ := m1
              exact ⟨q, z0, z1, eq, b2.tupl hp2 hq, c0.but b2 hp2 (fun _ z => by cases z), c1.but b2 hp2 (fun _ z => by cases z)⟩
            · have : d2 ≠ p := (ne_of_none upd_same nd2).symm
              rw [upd_ne this, upd_same]
/-- the pairs of a widening -/
def pairsOf (D : Nat) (l : List Str) : List (Str × Nat) := l.flatMap fun s => (List.range D).map fun k => (s, k)
def PairAt (M : Mat) (H : Hp) (kv : Key × V) (z : Str × Nat) : Prop := kv.1 = .inr (subN z.1 z.2) ∧ ∃ t : Addr, kv.2 = .ref t ∧ H t = some (.tup [.str z.1, .int ((z.2 : Int) % M.wi), .int ((z.2 : Int) / M.wi)])
def MatchO (K : PySem.W.Frag) (M : Mat) (l : List Str) (H : Hp) (v : V) : Prop := ∃ (p dx t d : Addr) (kvs : List (Key × V)), v = .ref p ∧ H p = some (.ins (He.ga K "Matching") dx [("matrix", .ref t), ("spots", .ref d)]) ∧ MatT H (.ref t) M ∧ H d = some (.dK kvs) ∧ Paired (PairAt M H) kvs (pairsOf M.det.natAbs l)
theorem PairAt.mono {M : Mat} {H H' : Hp} {kv : Key × V} {z : Str × Nat} (h : PairAt M H kv z) (s : Same H H') : PairAt M H' kv z := let ⟨a, t, b, c⟩ := h; ⟨a, t, b, s _ _ c⟩
theorem PairAt.updD {M : Mat} {H : Hp} {kv : Key × V} {z : Str × Nat} {d : Addr} {o : HO} {kvs : List (Key × V)} (h : PairAt M H kv z) (hd : H d = some (.dK kvs)) : PairAt M (upd H d o) kv z := by
  obtain ⟨a, t, b, c⟩ := h
  refine ⟨a, t, b, ?_⟩
  rw [upd_ne (ne_of c hd (by intro z; cases z))]
  exact c
theorem pairs_snoc {D : Nat} {l : List Str} {i : Nat} {x : Str} (h : l[i]? = some x) : pairsOf D (l.take (i + 1)) = pairsOf D (l.take i) ++ (List.range D).map fun k => (x, k) := by
  rw [List.take_add_one, h]
  unfold pairsOf
  rw [List.flatMap_append]
  simp
theorem pairs_len (D : Nat) (l : List Str) : (pairsOf D l).length = D * l.length := by
  unfold pairsOf
  induction l with
  | nil => rfl
  | cons a r ih => rw [List.flatMap_cons, List.length_append, ih, List.length_map, List.length_range, List.length_cons, Nat.mul_succ, Nat.add_comm]
theorem pairs_mem {D : Nat} {l : List Str} {z : Str × Nat} (h : z ∈ pairsOf D l) : z.1 ∈ l := by
  obtain ⟨x, hx, hz⟩ := List.mem_flatMap.mp h
  obtain ⟨k, _, rfl⟩ := List.mem_map.mp hz
  exact hx
theorem putK_new {kvs : List (Key × V)} {k : Key} {v : V} (h : ∀ kv ∈ kvs, kv.1 ≠ k) : putK kvs k v = kvs ++ [(k, v)] := by
  have : (kvs.any fun kv => decide (kv.1 = k)) = false := by
    rw [List.any_eq_false]
    intro kv hk
    exact fun z => h kv hk (of_decide_eq_true z)
  unfold putK
  rw [this]
  rfl
theorem paired_mem {α β : Type} {F : α → β → Prop} : ∀ {l : List α} {m : List β} {x : α}, Paired F l m → x ∈ l → ∃ y, y ∈ m ∧ F x y := fun h hx => by
  obtain ⟨i, hi⟩ := List.getElem?_of_mem hx
  obtain ⟨y, hy, f⟩ := paired_at h hi
  exact ⟨y, mem_at hy, f⟩
def sp_widening (K : PySem.W.Frag) : Sp := fun vs H Q E => ∃ (mp u : V) (L : Land) (M : Mat), vs = [mp, u] ∧ MapO K H mp L ∧ L.Ok ∧ MatAt H u M ∧ M.Fits ∧
  ((M.det = 0 ∧ ∀ (H' : Hp) (cls : Value) (d : Option Addr), Same H H' → ErrAt K .flat cls d H' → E cls d H') ∨
   (M.det ≠ 0 ∧ 24 < (M.det.natAbs * L.spots.length) ∧ ∀ (H' : Hp) (cls : Value) (d : Option Addr), Same H H' → ErrAt K (.many (M.det.natAbs * L.spots.length : Nat)) cls d H' → E cls d H') ∨
   (M.det ≠ 0 ∧ (M.det.natAbs * L.spots.length) ≤ 24 ∧ M.Small ∧ Ends2 K (landFault (wideLand M L)) H (MatchO K M L.spots) Q E))
abbrev N_widening : List Str := ["land", "matrix", "size", "spot", "wide", "spots", "number"]
theorem sc_widening : FnScope N_widening ["land", "matrix"] (defScope s_widening) := ⟨rfl, rfl, rfl, by decide +kernel, rfl, by decide +kernel, by decide +kernel⟩
theorem ok_widening (T : Tx K mg) : Cl P w K mg base (L2.CX P w) 13 "widening" (sp_widening K) [] := by
  obtain ⟨fd, F⟩ := T.d_widening
  refine cl_of (ps := ["land", "matrix"]) F T.g_widening (FunD.ok F sc_widening (fun vs H Q E h => ?_) (fun cdv A outer s H vs Q E hr h => ?_)) fun _ _ _ _ _ _ us hl => match us, hl with | [_, _], _ => rfl
  · obtain ⟨mp, u, L, M, rfl, _⟩ := h
    rfl
  · obtain ⟨mp, u, L, M, rfl, hm, ok, hM, hF, hk⟩ := h
    have hu := hu_of hr
    refine ⟨_, (pss_cons (st 2 sc_widening.nd (pe_op op_fdiv (pe_lenS T (pe_fld (pe_cl (ok_widened T) hr (passes_call (takes_of rfl rfl rfl rfl) (fun _ _ _ _ h => h)) (pa_cons (pv 0) (pa_cons (pv 1) pa_nil))) rfl)) (pe_lenS T (pe_fld (pv 0) rfl))))
      (pss_cons (par2 4 5 sc_widening.nd (pa_cons (pe_at (pe_cl (ok_lattice_of T) hr pass0 (pa_cons (pv 1) pa_nil)) pe_int) (pa_cons pe_dnewK pa_nil)))
      (pss_cons (ps_for (passes_of rfl) rfl (pi_tup (pe_fld (pv 0) rfl)) (gn 3 sc_widening.nd) (pss_one (ps_for (passes_of rfl) rfl (pi_range1 rfl T.f_range (pa_cons (pv 2) pa_nil)) (gn 6 sc_widening.nd) (pss_one (ps_dput hu (pv 5) (pe_cl (ok_number_name T) hr pass0 (pa_cons (pv 3) (pa_cons (pv 6) pa_nil))) (pe_tup (pa_cons (pv 3) (pa_cons (pe_op op_mod (pv 6) (pv 4)) (pa_cons (pe_op op_fdiv (pv 6) (pv 4)) pa_nil)))) rfl)))))
      (pss_one (ps_ret (pe_mm (ok_Matching_init T) hr pass0 (pa_cons (pv 1) (pa_cons (pv 5) pa_nil)))))))), ?_⟩
    obtain ⟨p, dx, t1, t2, d1, d2, xs, rfl, hp, ht1, ht2, hx⟩ := id hm
    refine ⟨_, rfl, _, rfl, _, u, L, M, rfl, hm, ok, hM, hF, ?_⟩
    rcases hk with h | h | ⟨d0, h24, hS, k0, k1⟩
    · exact .inl h
    · exact .inr (.inl h)
    refine .inr (.inr ⟨d0, h24, hS, fun hf H1 v s1 mo => ?_, k1⟩)
    have s0 : 0 < L.spots.length := List.length_pos_iff.mpr ok.s0
    have d24 : M.det.natAbs ≤ 24 := Nat.le_trans (Nat.le_mul_of_pos_right _ s0) h24
    have ns := ok.s3
    have w0 := wi_pos d0
    have w24 := wi_le d0
    obtain ⟨q, dq, q1, q2, e1, e2, zs, rfl, hq, hq1, hq2, _⟩ := mo
    have hp1 := s1 _ _ hp
    have ht11 := s1 _ _ ht1
    refine ⟨q, _, dq, _, _, rfl, hq, T.c_Map, T.n_Map_spots, rfl, q1, _, rfl, .inr (SqT.of hq1), _, rfl, p, _, dx, _, _, rfl, hp1, T.c_Map, T.n_Map_spots, rfl, t1, _, rfl, .inr (SqT.of ht11), _, _, rfl, rfl, ⟨by rw [List.length_map]; omega, by rw [List.length_map]; omega⟩, ?_⟩
    have ed : ((((wideLand M L).spots.map V.str).length : Nat) : Int) / (((L.spots.map V.str).length : Nat) : Int) = (M.det.natAbs : Int) := by
      rw [List.length_map, List.length_map]
      show (((wideSpots _ _).length : Nat) : Int) / _ = _
      rw [wideSpots_len, Int.natCast_mul]
      exact Int.mul_ediv_cancel _ (by omega)
    dsimp only
    rw [ed]
    refine ⟨_, rfl, u, M, rfl, hM.mono s1, hS, d0, fun H2 F q' s2 tr ln => tr.ix0 fun d nd => ⟨_, _, rfl, ?_⟩⟩
    have sd : Same H2 (upd H2 d (.dK [])) := same_new nd
    have hp2 := sd _ _ (s2 _ _ hp1)
    have ht2' := s2 _ _ ht11
    refine ⟨_, rfl, p, _, dx, _, _, rfl, hp2, T.c_Map, T.n_Map_spots, rfl, t1, rfl, ⟨_, SqT.of (sd _ _ ht2')⟩, for_tup (xs := L.spots.map V.str) (fun i σ H' => ∃ o3 o6 : Option V, σ = [some (.ref p), some u, some (.int (M.det.natAbs : Int)), o3, some (.int M.wi), some (.ref d), o6] ∧ Same H2 H' ∧ ∃ kvs, H' d = some (.dK kvs) ∧ Paired (PairAt M H') kvs (pairsOf M.det.natAbs (L.spots.take i))) ⟨none, none, rfl, sd, [], upd_same, by rw [List.take_zero]; exact .nil⟩ ?_ ?_ ?_⟩
    · rintro i σ H' hi ⟨o3, o6, rfl, s3, _⟩
      exact SqT.of (s3 _ _ ht2')
    · rintro i v σ H' hv ⟨o3, o6, rfl, s3, kvs, hd, hkp⟩
      obtain ⟨x, hx4, rfl⟩ := map_at hv
      have xo := ok.sn x (mem_at hx4)
      refine ⟨_, rfl, _, rfl, by omega, by omega, ?_⟩
      refine for_range (fun k σ H' => ∃ o6 : Option V, σ = [some (.ref p), some u, some (.int (M.det.natAbs : Int)), some (.str x), some (.int M.wi), some (.ref d), o6] ∧ Same H2 H' ∧ ∃ kvs, H' d = some (.dK kvs) ∧ Paired (PairAt M H') kvs (pairsOf M.det.natAbs (L.spots.take i) ++ (List.range k).map fun k => (x, k))) ⟨o6, rfl, s3, kvs, hd, by rw [List.range_zero, List.map_nil, List.append_nil]; exact hkp⟩ ?_ ?_
      · rintro k σ H3 hk ⟨o6, rfl, s4, kvs, hd3, hkp⟩
        have hk : k < M.det.natAbs := by omega
        rw [Int.zero_add]
        refine ⟨_, rfl, _, rfl, _, rfl, _, _, rfl, rfl, w0, _, rfl, _, rfl, _, _, rfl, rfl, ⟨w0, by omega⟩, by show 3 ≤ sizeLine; decide, fun t nt => ?_⟩
        have kl := paired_len hkp
        rw [List.length_append, pairs_len, List.length_map, List.length_range] at kl
        have hd4 := (same_new (o := .tup [.str x, .int ((k : Int) % M.wi), .int ((k : Int) / M.wi)]) nt) _ _ hd3
        have kl2 : kvs.length ≤ 1000 := by
          have : M.det.natAbs * (L.spots.take i).length ≤ 24 * 3 := Nat.mul_le_mul d24 (Nat.le_trans (List.length_take_le' ..) ns)
          omega
        have new : ∀ kv ∈ kvs, kv.1 ≠ .inr (subN x k) := by
          intro kv hm e
          obtain ⟨z, hz, hz1, _⟩ := paired_mem hkp hm
          rw [hz1] at e
          injection e with e
          obtain ⟨ex, ek⟩ := subN_inj e
          rcases List.mem_append.mp hz with h | h
          · have := pairs_mem h
            rw [ex] at this
            exact not_mem_take ok.sd hx4 this
          · obtain ⟨j, hj, rfl⟩ := List.mem_map.mp h
            have := List.mem_range.mp hj
            have : j = k := ek
            omega
        refine ⟨_, rfl, _, rfl, _, rfl, x, k, rfl, Nat.le_trans xo.2 (by decide), by omega, d, _, rfl, .inl ⟨kvs, .inr (subN x k), hd4, rfl, small1000 kl2, rfl⟩, _, rfl, sM (sN s4 nt) nd, _, upd_same, ?_⟩
        rw [putK_new new, List.range_succ, List.map_append, ← List.append_assoc]
        refine Paired.snoc (L2.Paired.mapP hkp fun _ _ w => (w.mono (same_new nt)).updD hd4) ⟨rfl, t, rfl, ?_⟩
        rw [upd_ne (ne_of (upd_same) hd4 (by intro z; cases z)), upd_same]
      · rintro σ H3 ⟨o6, rfl, s4, kvs, hd3, hkp⟩
        refine ⟨some (.str x), o6, rfl, s4, kvs, hd3, ?_⟩
        rw [pairs_snoc hx4]
        exact hkp
    · rintro σ H3 ⟨o3, o6, rfl, s3, kvs, hd3, hkp⟩
      rw [List.length_map, List.take_length] at hkp
      refine ⟨_, rfl, _, rfl, fun p' dx' np ndx hne => ⟨p', dx', d, u, M, kvs, rfl, upd_same, ?_, ?_, fun H4 t d3 b4 hp4 hm4 hd4 => ⟨rfl, ?_⟩⟩⟩
      · exact (hM.mono ((s1.trans s2).trans s3)).mono (sN (same_new ndx) (by rw [upd_ne hne.symm]; exact np))
      · exact (sN (same_new ndx) (by rw [upd_ne hne.symm]; exact np)) _ _ hd3
      · have s4 : Same H3 H4 := but_same b4 (same_new ndx) np
        exact k0 hf _ _ (((s1.trans s2).trans s3).trans s4) ⟨p', dx', t, d3, kvs, rfl, hp4, hm4, hd4, L2.Paired.mapP hkp fun _ _ w => w.mono s4⟩
end
end J
set_option Elab.async false
set_option linter.all false
set_option maxRecDepth 100000
set_option maxHeartbeats 4000000
set_option exponentiation.threshold 3000
namespace J
open PySem PySem.Spec PyProof.Rows L2 TL

/-! J30: the law's wide land. -/
theorem bezout (a b : Nat) : ∃ u v : Int, u * a + v * b = (Nat.gcd a b : Int) := by
  induction a, b using Nat.gcd.induction with
  | H0 n => exact ⟨0, 1, by simp⟩
  | H1 m n h ih =>
    obtain ⟨u, v, e⟩ := ih
    refine ⟨v - u * ((n / m : Nat) : Int), u, ?_⟩
    rw [Nat.gcd_rec, ← e]
    have := Nat.mod_add_div n m
    have e2 : (n : Int) = ((n % m : Nat) : Int) + (m : Int) * ((n / m : Nat) : Int) := by
      rw [← Int.natCast_mul, ← Int.natCast_add, this]
    rw [Int.sub_mul]
    conv => lhs; arg 2; rw [e2]
    grind
theorem comb_ex (M : Mat) : ∃ u v, Comb M u v := by
  obtain ⟨u, v, e⟩ := bezout M.c.natAbs M.d.natAbs
  have hc : ∃ s : Int, (M.c.natAbs : Int) = s * M.c := by
    rcases Int.natAbs_eq M.c with h | h
    · exact ⟨1, by omega⟩
    · exact ⟨-1, by omega⟩
  have hd : ∃ s : Int, (M.d.natAbs : Int) = s * M.d := by
    rcases Int.natAbs_eq M.d with h | h
    · exact ⟨1, by omega⟩
    · exact ⟨-1, by omega⟩
  obtain ⟨s, hs⟩ := hc
  obtain ⟨t, ht⟩ := hd
  refine ⟨u * s, v * t, ⟨?_⟩⟩
  rw [Int.mul_assoc, Int.mul_assoc, ← hs, ← ht, e]
  rfl
theorem rest_ex {M : Mat} (d0 : M.det ≠ 0) (x y : Int) : ∃ i j u v, Comb M u v ∧ RestIs M x y i j := by
  obtain ⟨u, v, C⟩ := comb_ex M
  have h1 := hi_pos d0
  have h2 := wi_pos d0
  refine ⟨(x - y / M.hi * ((u * M.a + v * M.b) % M.wi)) % M.wi, y % M.hi, u, v, C, Int.emod_nonneg _ (by omega), Int.emod_lt_of_pos _ h2, Int.emod_nonneg _ (by omega), Int.emod_lt_of_pos _ h1, ?_⟩
  refine rest_in (n := (u * M.a + v * M.b) / M.wi) (k := y / M.hi) (m := (x - y / M.hi * ((u * M.a + v * M.b) % M.wi)) / M.wi) C (Int.emod_def ..) ?_ ?_
  · have := Int.emod_add_mul_ediv y M.hi
    omega
  · have := Int.emod_add_mul_ediv (x - y / M.hi * ((u * M.a + v * M.b) % M.wi)) M.wi
    omega
theorem fit_restIx {M : Mat} (d0 : M.det ≠ 0) (x y : Int) : Fit M x y (restIx M x y) = true := by
  obtain ⟨i, j, u, v, C, r⟩ := rest_ex d0 x y
  obtain ⟨a, b⟩ := restIx_fit d0 C r
  unfold Fit
  rw [a, b]
  exact decide_eq_true r.lat
theorem first_fit {M : Mat} (d0 : M.det ≠ 0) (x y : Int) : (((List.range M.det.natAbs).filter (Fit M x y)).map fun n : Nat => V.int (n : Int))[0]? = some (.int (restIx M x y : Nat)) := by
  rw [List.getElem?_map, ← List.head?_eq_getElem?, List.head?_filter]
  have h := fit_restIx d0 x y
  have hlt := restIx_lt (M := M) (x := x) (y := y) d0
  cases hf : (List.range M.det.natAbs).find? (Fit M x y) with
  | none => exact absurd h (List.find?_eq_none.mp hf _ (List.mem_range.mpr hlt))
  | some n =>
    have : restIx M x y = n := by
      unfold restIx
      rw [hf]
      rfl
    rw [this]
    rfl
theorem one_len {x : Str} (hx : x.length ≤ 1000) : x.length + ("." : Str).length ≤ sizeLine := by
  have : ("." : Str).length = 1 := by decide +kernel
  have : sizeLine = 2 ^ 24 := rfl
  omega
theorem num_len {k : Nat} (hk : k < 1000) : (numS (k : Int)).length ≤ 4 := by
  rw [len_tl]
  unfold numS
  rw [tl_nat]
  exact numL_len (k := 4) (by decide) (by omega)
theorem two_len {x : Str} {k : Nat} (hx : x.length ≤ 1000) (hk : k < 1000) : (x ++ "." : Str).length + (numS (k : Int)).length ≤ sizeLine := by
  have h1 := num_len hk
  have : ("." : Str).length = 1 := by decide +kernel
  have : sizeLine = 2 ^ 24 := rfl
  rw [len_append]
  omega
theorem dot_len {k : Nat} (hk : k < 1000) : ("." : Str).length + (numS (k : Int)).length ≤ sizeLine := by
  have h1 := num_len hk
  have : ("." : Str).length = 1 := by decide +kernel
  have : sizeLine = 2 ^ 24 := rfl
  omega
theorem last_len {x : Str} {k : Nat} (hx : x.length ≤ 1000) (hk : k < 1000) : x.length + (("." : Str) ++ numS (k : Int)).length ≤ sizeLine := by
  have h1 := num_len hk
  have : ("." : Str).length = 1 := by decide +kernel
  have : sizeLine = 2 ^ 24 := rfl
  rw [len_append]
  omega
theorem sub_assoc (x : Str) (k : Nat) : x ++ (("." : Str) ++ numS (k : Int)) = subN x k := by
  apply ext_tl
  unfold subN
  rw [tl_append, tl_append, tl_append, tl_append, List.append_assoc]
/-- a gap -/
def GapAt (H : Hp) (z : V) (M : Mat) (x y : Int) (n : Nat) : Prop := (Fit M x y n = true → CellAt H z (unap M (x - (n : Int) % M.wi) (y - (n : Int) / M.wi)).1 (unap M (x - (n : Int) % M.wi) (y - (n : Int) / M.wi)).2) ∧ (Fit M x y n = false → z = .non)
theorem GapAt.tup {H H' : Hp} {z : V} {M : Mat} {x y : Int} {n : Nat} (h : GapAt H z M x y n) (t : Tup H H') : GapAt H' z M x y n := ⟨fun q => (h.1 q).tup t, h.2⟩
theorem GapAt.non {H : Hp} {z : V} {M : Mat} {x y : Int} {n : Nat} (h : GapAt H z M x y n) : decide (z = .non) = !Fit M x y n := by
  cases hf : Fit M x y n with
  | true =>
    obtain ⟨p, e, _⟩ := h.1 hf
    rw [e]
    rfl
  | false =>
    rw [h.2 hf]
    rfl
theorem filter_snoc {p : Nat → Bool} (i : Nat) : (List.range (i + 1)).filter p = (List.range i).filter p ++ (if p i = true then [i] else []) := by
  rw [List.range_succ, List.filter_append]
  cases h : p i <;> simp [h]
def tGap (K : PySem.W.Frag) : TE := tCall sp__law_lattice_cell [] E0 (tCons (tVar 1) (tCons (tTup (tCons (tOp (rI0 fun i j => .int (i - j)) (tOp (rIx K) (tVar 14) (tC (.int 0))) (tOp (rIx K) (tVar 18) (tC (.int 0)))) (tCons (tOp (rI0 fun i j => .int (i - j)) (tOp (rIx K) (tVar 14) (tC (.int 1))) (tOp (rIx K) (tVar 18) (tC (.int 1)))) tNil))) tNil))
section
variable {P : Program} {w : World} {K : PySem.W.Frag} {mg : Str → Option Value} {base : Heap}
def sp__law_wide_land : Sp := fun vs H Q _ => ∃ (a u : V) (L : Land) (M : Mat), vs = [a, u] ∧ LandAt H a L ∧ L.Ok ∧ MatAt H u M ∧ M.Small ∧ M.det ≠ 0 ∧ M.det.natAbs ≤ 24 ∧ ∀ (H' : Hp) (r : V), Same H H' → LandAt H' r (wideLand M L) → Q r H'
abbrev N__law_wide_land : List Str := ["_law_land_here", "_law_matrix", "_law_spots", "_law_spot", "_law_rests", "_law_roads", "_law_name", "_law_start", "_law_end", "_law_shift_here", "_law_price", "_law_label", "_law_k", "_law_rest", "_law_goal", "_law_gaps", "_law_n", "_law_last", "_law_one", "_law_at", "_law_gap"]
theorem sc__law_wide_land : FnScope N__law_wide_land ["_law_land_here", "_law_matrix"] (defScope s__law_wide_land) := ⟨rfl, rfl, rfl, by decide +kernel, rfl, by decide +kernel, by decide +kernel⟩
theorem ok__law_wide_land (T : Tx K mg) : Cl P w K mg base CX0 3 "_law_wide_land" sp__law_wide_land [] := by
  obtain ⟨fd, F⟩ := T.d__law_wide_land
  refine cl_of (ps := ["_law_land_here", "_law_matrix"]) F T.g__law_wide_land (FunD.cl0 F sc__law_wide_land (fun vs H Q E h => ?_) (fun cdv A outer s H vs Q E hr h => ?_)) fun _ _ _ _ _ _ us hl => match us, hl with | [_, _], _ => rfl
  · obtain ⟨a, u, L, M, rfl, _⟩ := h
    rfl
  · obtain ⟨a, u, L, M, rfl, ⟨la, l1, l2, xs, rfl, hla, h1, h2, hx⟩, ok, hM, hS, d0, d24, k⟩ := h
    have hu := hu_of hr
    refine ⟨_, (pss_cons (par2 4 5 sc__law_wide_land.nd (pa_cons (pe_cl (ok__law_remainders T) hr pass0 (pa_cons (pv 1) pa_nil)) (pa_cons (pe_lst pa_nil) pa_nil)))
      (pss_cons (st 2 sc__law_wide_land.nd (pe_lst pa_nil))
      (pss_cons (ps_for (PassesOwn.never) rfl (pi_list (pe_dget hu (pv 0) pe_str (fun _ _ => rfl))) (gn 3 sc__law_wide_land.nd) (pss_one (st 2 sc__law_wide_land.nd (pe_op op_cat (pv 2) (pe_lc rfl sc__law_wide_land.nd (pi_range1 rfl T.f_range (pa_cons (pe_lenS T (pv 4)) pa_nil)) (blkOk_by (own := [("_law_k", 12)]) (N := N__law_wide_land) (sc := defScope s__law_wide_land) (by decide +kernel)) (fun _ _ _ _ _ => (gn 12 sc__law_wide_land.nd)) (fun _ _ _ _ _ => pts_nil) (fun _ _ _ _ _ => (pe_op op_add_str (pe_op op_add_str (pv 3) pe_str) (pe_strI T (pv 12)))))))))
      (pss_cons (ps_for (PassesOwn.never) rfl (pi_list (pe_dget hu (pv 0) pe_str (fun _ _ => rfl))) (pg_tup rfl (pgs_cons (gn 6 sc__law_wide_land.nd) (pgs_cons (gn 7 sc__law_wide_land.nd) (pgs_cons (gn 8 sc__law_wide_land.nd) (pgs_cons (gn 9 sc__law_wide_land.nd) (pgs_cons (gn 10 sc__law_wide_land.nd) (pgs_cons (gn 11 sc__law_wide_land.nd) pgs_nil))))))) (pss_one (ps_for (PassesOwn.never) rfl (pi_enum rfl T.f_enumerate (pa_cons (pv 4) pa_nil)) (pg_tup rfl (pgs_cons (gn 12 sc__law_wide_land.nd) (pgs_cons (gn 13 sc__law_wide_land.nd) pgs_nil))) (pss_cons (st 14 sc__law_wide_land.nd (pe_cl (ok__law_plus T) hr pass0 (pa_cons (pv 13) (pa_cons (pv 9) pa_nil)))) (pss_cons (ps_setLc (te := tGap K) (i := 15) rfl sc__law_wide_land.nd rfl rfl (sw_true rfl rfl rfl (by decide +kernel)) (pi_list (pv 4)) (blkOk_by (own := [("_law_one", 18)]) (N := N__law_wide_land) (sc := defScope s__law_wide_land) (by decide +kernel)) (fun _ _ _ _ _ => (gn 18 sc__law_wide_land.nd)) (fun _ _ _ _ _ => pts_nil) (fun _ _ _ _ _ => (pe_cl (ok__law_lattice_cell T) hr pass0 (pa_cons (pv 1) (pa_cons (pe_tup (pa_cons (pe_op op_sub (pe_at (pv 14) pe_int) (pe_at (pv 18) pe_int)) (pa_cons (pe_op op_sub (pe_at (pv 14) pe_int) (pe_at (pv 18) pe_int)) pa_nil))) pa_nil))))) (pss_cons (st 16 sc__law_wide_land.nd (pe_at (pe_lc (g := gTup K 2 (gCons (gName 19) (gCons (gName 20) gNil))) rfl sc__law_wide_land.nd (pi_enum rfl T.f_enumerate (pa_cons (pv 15) pa_nil)) (blkOk_by (own := [("_law_at", 19), ("_law_gap", 20)]) (N := N__law_wide_land) (sc := defScope s__law_wide_land) (by decide +kernel)) (fun _ _ _ _ _ => (pg_tup rfl (pgs_cons (gn 19 sc__law_wide_land.nd) (pgs_cons (gn 20 sc__law_wide_land.nd) pgs_nil)))) (fun _ _ _ _ _ => pts_one (pt_cmpR op_notN (pv 20) pe_non (nomark _))) (fun _ _ _ _ _ => (pv 19))) pe_int)) (pss_cons (st 17 sc__law_wide_land.nd (pe_op op_add_str pe_str (pe_strI T (pv 12)))) (pss_one (ps_app (pv 5) (pe_tup (pa_cons (pe_op op_add_str (pv 6) (pv 17)) (pa_cons (pe_op op_add_str (pv 7) (pv 17)) (pa_cons (pe_op op_add_str (pe_op op_add_str (pv 8) pe_str) (pe_strI T (pv 16))) (pa_cons (pe_at (pv 15) (pv 16)) (pa_cons (pv 10) (pa_cons (pv 11) pa_nil))))))))))))))))
      (pss_one (ps_ret (pe_disp (pps_cons pe_str (pv 2) (pps_cons pe_str (pv 5) pps_nil)) rfl rfl (by simp) (by decide)))))))), ?_⟩
    have w0 := wi_pos d0
    have w24 := wi_le d0
    have ns := ok.s3
    have nr6 := ok.r6
    have hxl := paired_len hx
    refine ⟨_, rfl, u, M, rfl, hM, hS, d0, by omega, fun H1 r s1 hr => ⟨by show 0 ≤ sizeLine; decide, fun rl nr => ⟨_, _, rfl, ?_⟩⟩⟩
    obtain ⟨rs, ys, rfl, hrs, hyl, hyc⟩ := hr
    refine ⟨by show 0 ≤ sizeLine; decide, fun sl nsl => ?_⟩
    have s2 : Same H1 (upd (upd H1 rl (.lst [])) sl (.lst [])) := sN (same_new nr) nsl
    have e1 : upd (upd H1 rl (.lst [])) sl (.lst []) rl = some (.lst []) := (same_new nsl) _ _ upd_same
    have e2 : sl ≠ rl := (ne_of_none upd_same nsl).symm
    refine ⟨_, rfl, la, _, rfl, land_spots (s2 _ _ (s1 _ _ hla)), l1, rfl, ⟨_, SqL.of (s2 _ _ (s1 _ _ h1))⟩, ?_⟩
    refine for_list (xs := L.spots.map V.str) (fun i σ H' => ∃ (o3 : Option V) (sl : Addr), σ = [some (.ref la), some u, some (.ref sl), o3, some (.ref rs), some (.ref rl), none, none, none, none, none, none, none, none, none, none, none, none, none, none, none] ∧ Same H1 H' ∧ H' rl = some (.lst []) ∧ sl ≠ rl ∧ H' sl = some (.lst ((wideSpots M.det.natAbs (L.spots.take i)).map V.str))) ⟨none, sl, rfl, s2, e1, e2, upd_same⟩ ?_ ?_ ?_
    · rintro i σ H' hi ⟨o3, sl, rfl, s3, _⟩
      exact SqL.of (s3 _ _ (s1 _ _ h1))
    · rintro i v σ H' hv ⟨o3, sl, rfl, s3, er, ne, es⟩
      obtain ⟨x, hx4, rfl⟩ := map_at hv
      have xo := Nat.le_trans (ok.sn x (mem_at hx4)).2 (show 40 ≤ 1000 by decide)
      refine ⟨_, rfl, _, rfl, rs, ys, rfl, .inl (SqL.of (s3 _ _ hrs)), _, rfl, by omega, by omega, fun D hD => ?_⟩
      refine lc_range (fun j H'' => Same H' H'' ∧ H'' D = some (.lst (((List.range j).map (subN x)).map V.str))) ⟨same_new hD, upd_same⟩ ?_ ?_
      · rintro j H'' hj ⟨s4, e4⟩
        have hj : j < 24 := by omega
        rw [Int.zero_add]
        refine ⟨rfl, _, rfl, x, ".", rfl, rfl, one_len xo, _, rfl, _, rfl, log_sm (by omega), x ++ ".", numS j, rfl, rfl, two_len xo (by omega), _, e4, ?_, sM s4 hD, ?_⟩
        · rw [List.length_map, List.length_map, List.length_range]
          exact small1000 (by omega)
        · rw [upd_same, List.range_succ]
          simp only [List.map_append, List.map_cons, List.map_nil]
          rfl
      · rintro H'' ⟨s4, e4⟩
        rw [Int.toNat_natCast, hyl] at e4
        refine ⟨sl, D, _, _, rfl, rfl, s4 _ _ es, e4, ?_, fun D3 n3 => ⟨some (.str x), D3, rfl, s3.trans (sN s4 n3), (same_new n3) _ _ (s4 _ _ er), (ne_of_none (s4 _ _ er) n3).symm, ?_⟩⟩
        · rw [List.length_map, List.length_map, List.length_map, List.length_range, wideSpots_len]
          have : M.det.natAbs * (L.spots.take i).length ≤ 24 * 3 := Nat.mul_le_mul d24 (Nat.le_trans (List.length_take_le' ..) ns)
          have : sizeLine = 2 ^ 24 := rfl
          omega
        · rw [upd_same, wideSpots_snoc hx4, List.map_append]
    · rintro σ H2 ⟨o3, sl, rfl, s3, er, ne, es⟩
      rw [List.length_map, List.take_length] at es
      have hx2 := rows_tup hx (Tup.of (s1.trans s3))
      refine ⟨_, rfl, la, _, rfl, land_roads (s3 _ _ (s1 _ _ hla)), l2, rfl, ⟨_, SqL.of (s3 _ _ (s1 _ _ h2))⟩, ?_⟩
      refine for_list (xs := xs) (fun i σ H' => ∃ (o6 o7 o8 o9 o10 o11 o12 o13 o14 o15 o16 o17 : Option V), σ = [some (.ref la), some u, some (.ref sl), o3, some (.ref rs), some (.ref rl), o6, o7, o8, o9, o10, o11, o12, o13, o14, o15, o16, o17, none, none, none] ∧ Same H1 H' ∧ H' sl = some (.lst ((wideSpots M.det.natAbs L.spots).map V.str)) ∧ ∃ zs, H' rl = some (.lst zs) ∧ Paired (RoadT H') zs (wideRoads M (L.roads.take i))) ⟨none, none, none, none, none, none, none, none, none, none, none, none, rfl, s3, es, [], er, by rw [List.take_zero]; exact .nil⟩ ?_ ?_ ?_
      · rintro i σ H' hi ⟨o6, o7, o8, o9, o10, o11, o12, o13, o14, o15, o16, o17, rfl, s4, _⟩
        exact SqL.of (s4 _ _ (s1 _ _ h2))
      · rintro i v σ H' hv ⟨o6, o7, o8, o9, o10, o11, o12, o13, o14, o15, o16, o17, rfl, s4, es4, zs, hz, hzp⟩
        obtain ⟨r, hr4, hro⟩ := paired_at hx hv
        obtain ⟨q, c, rfl, hq, hc⟩ := hro.tup (Tup.of (s1.trans s4))
        have ro := ok.rn r (mem_at hr4)
        have hx9 := ro.x9
        have hy9 := ro.y9
        refine ⟨q, _, rfl, SqT.of hq, rfl, _, _, rfl, _, _, rfl, _, _, rfl, _, _, rfl, _, _, rfl, _, _, rfl, rfl, ?_⟩
        refine ⟨_, rfl, rs, ys, rfl, SqL.of (s4 _ _ hrs), ?_⟩
        refine for_it walk_enum (fun k σ H' => ∃ (o12 o13 o14 o15 o16 o17 : Option V), σ = [some (.ref la), some u, some (.ref sl), o3, some (.ref rs), some (.ref rl), some (.str r.name), some (.str r.start), some (.str r.fin), some c, some (.int r.price), some (labV r.label), o12, o13, o14, o15, o16, o17, none, none, none] ∧ Same H1 H' ∧ CellAt H' c r.sx r.sy ∧ H' sl = some (.lst ((wideSpots M.det.natAbs L.spots).map V.str)) ∧ ∃ zs, H' rl = some (.lst zs) ∧ Paired (RoadT H') zs (wideRoads M (L.roads.take i) ++ (List.range k).map (wideRoad M r))) ⟨o12, o13, o14, o15, o16, o17, rfl, s4, hc, es4, zs, hz, by rw [List.range_zero, List.map_nil, List.append_nil]; exact hzp⟩ (fun k σ H' hk ⟨_, _, _, _, _, _, _, s5, _⟩ => SqL.of (s5 _ _ hrs)) ?_ ?_
        · rintro k v σ H3 H4 hk ⟨o12, o13, o14, o15, o16, o17, rfl, s5, hc5, es5, zs, hz5, hzp⟩ ⟨t, _, y, rfl, nt, rfl, e1, e2⟩
          injection e1 with e1
          subst e1
          have hk : k < M.det.natAbs := by omega
          have hzl := paired_len hzp
          rw [List.length_append, wideRoads_len, List.length_map, List.length_range] at hzl
          have hzl : zs.length ≤ 1000 := by
            have : M.det.natAbs * (L.roads.take i).length ≤ 24 * 6 := Nat.mul_le_mul d24 (Nat.le_trans (List.length_take_le' ..) nr6)
            omega
          have st := same_new (o := .tup [.int (k : Int), y]) nt
          refine ⟨t, _, rfl, SqT.of upd_same, rfl, _, _, rfl, _, _, rfl, rfl, ?_⟩
          refine ⟨_, rfl, _, rfl, _, _, _, _, _, _, rfl, ((hyc k y e2).mono s5).mono st, hc5.mono st, fun H4 g s6 cg => ?_⟩
          have s6' := st.trans s6
          have kb1 := Int.emod_nonneg (k : Int) (show M.wi ≠ 0 by omega)
          have kb2 := Int.emod_lt_of_pos (k : Int) w0
          have kb3 : (0 : Int) ≤ (k : Int) / M.wi := Int.ediv_nonneg (by omega) (by omega)
          have kb4 : (k : Int) / M.wi ≤ (k : Int) := Int.ediv_le_self _ (by omega)
          revert cg
          generalize hgx : (k : Int) % M.wi + r.sx = gx
          generalize hgy : (k : Int) / M.wi + r.sy = gy
          intro cg
          have hrs4 := s6' _ _ (s5 _ _ hrs)
          refine ⟨_, rfl, rs, rfl, ⟨_, SqL.of hrs4⟩, fun D hD => ?_⟩
          refine lc_list (xs := ys) (fun j H' => Same H4 H' ∧ ∃ gs, H' D = some (.lst gs) ∧ gs.length = j ∧ ∀ n z, gs[n]? = some z → GapAt H' z M gx gy n) ⟨same_new hD, [], upd_same, rfl, fun n z h => by simp at h⟩ ?_ ?_ ?_
          · rintro j H' hj ⟨s7, _⟩
            exact SqL.of (s7 _ _ hrs4)
          · rintro j z H' hz ⟨s7, gs, eg, lg, hg⟩
            have hj := (List.getElem?_eq_some_iff.mp hz).1
            have cz := ((hyc j z hz).mono s5).mono (s6'.trans s7)
            have cg7 := cg.mono s7
            have jb1 := Int.emod_nonneg (j : Int) (show M.wi ≠ 0 by omega)
            have jb2 := Int.emod_lt_of_pos (j : Int) w0
            have jb3 : (0 : Int) ≤ (j : Int) / M.wi := Int.ediv_nonneg (by omega) (by omega)
            have jb4 : (j : Int) / M.wi ≤ (j : Int) := Int.ediv_le_self _ (by omega)
            refine ⟨rfl, _, rfl, _, rfl, cg7.ix0 ⟨_, rfl, cz.ix0 ⟨_, _, rfl, rfl, _, rfl, cg7.ix1 ⟨_, rfl, cz.ix1 ⟨_, _, rfl, rfl, by show 2 ≤ sizeLine; decide, fun c2 nc2 => ?_⟩⟩⟩⟩⟩
            have s8 := same_new (o := .tup [.int (gx - (j : Int) % M.wi), .int (gy - (j : Int) / M.wi)]) nc2
            have app : ∀ (H5 : Hp) (v : V), Same H' H5 → GapAt H5 v M gx gy j → ∃ acc, H5 D = some (.lst acc) ∧ acc.length < sizeLine ∧ Same H4 (upd H5 D (.lst (acc ++ [v]))) ∧ ∃ gs, upd H5 D (.lst (acc ++ [v])) D = some (.lst gs) ∧ gs.length = j + 1 ∧ ∀ n z, gs[n]? = some z → GapAt (upd H5 D (.lst (acc ++ [v]))) z M gx gy n := by
              intro H5 v s9 gv
              have e9 := s9 _ _ eg
              have tu : Tup H5 (upd H5 D (.lst (gs ++ [v]))) := (Tup.refl H5).put e9 (fun xs z => by cases z)
              refine ⟨gs, e9, small1000 (by omega), sM (s7.trans s9) hD, _, upd_same, by rw [List.length_append, lg]; rfl, fun n z hn => ?_⟩
              by_cases hnj : n < gs.length
              · rw [List.getElem?_append_left hnj] at hn
                exact ((hg n z hn).tup (Tup.of s9)).tup tu
              · rw [List.getElem?_append_right (by omega)] at hn
                have e0 : n - gs.length = 0 := by
                  have := (List.getElem?_eq_some_iff.mp hn).1
                  simp only [List.length_cons, List.length_nil] at this
                  omega
                rw [e0] at hn
                injection hn with hn
                have : n = j := by omega
                rw [← hn, this]
                exact gv.tup tu
            refine ⟨_, _, M, _, _, rfl, hM.mono (((s1.trans s5).trans s6').trans (s7.trans s8)), ⟨c2, rfl, upd_same⟩, hS.fits, sm_of (by omega), sm_of (by omega), d0, by omega, fun lat H5 z2 s9 cz2 => app H5 z2 (s8.trans s9) ⟨fun _ => cz2, fun hf => ?_⟩, fun nlat => app _ _ s8 ⟨fun hf => ?_, fun _ => rfl⟩⟩
            · unfold Fit at hf
              rw [decide_eq_true lat] at hf
              cases hf
            · exact absurd (of_decide_eq_true hf) nlat
          · rintro H5 ⟨s7, gs, eg, lg, hg⟩
            rw [hyl] at lg
            refine ⟨_, rfl, D, gs, rfl, SqL.of eg, fun E hE => ?_⟩
            refine lc_it walk_enum (fun j H' => Same H5 H' ∧ H' E = some (.lst (((List.range j).filter (Fit M gx gy)).map fun n : Nat => V.int (n : Int)))) ⟨same_new hE, upd_same⟩ (fun j H' hj ⟨s8, _⟩ => SqL.of (s8 _ _ eg)) ?_ ?_
            · rintro j v H6 H7 hj ⟨s8, e8⟩ ⟨t2, _, z, rfl, nt2, rfl, f1, f2⟩
              injection f1 with f1
              subst f1
              have st2 := same_new (o := .tup [.int (j : Int), z]) nt2
              refine ⟨t2, _, rfl, SqT.of upd_same, rfl, _, _, rfl, _, _, rfl, rfl, rfl, _, rfl, rfl, _, rfl, ?_⟩
              rw [(hg j z f2).non, Bool.not_not, filter_snoc]
              cases hf : Fit M gx gy j with
              | true =>
                refine iteT ⟨_, rfl, _, st2 _ _ e8, ?_, sM (sN s8 nt2) hE, ?_⟩
                · rw [List.length_map]
                  refine small1000 (Nat.le_trans (List.length_filter_le ..) ?_)
                  rw [List.length_range]
                  omega
                · rw [upd_same, if_pos rfl, List.map_append]
                  rfl
              | false =>
                refine iteF ⟨sN s8 nt2, ?_⟩
                rw [if_neg (by decide), List.append_nil]
                exact st2 _ _ e8
            · rintro H6 ⟨s8, e8⟩
              rw [lg] at e8
              have hn := restIx_lt (M := M) (x := gx) (y := gy) d0
              have hfit := fit_restIx d0 gx gy
              have hff := first_fit d0 gx gy
              have ewr : wideRoad M r k = ⟨subN r.name k, subN r.start k, subN r.fin (restIx M gx gy), (unap M (gx - ((restIx M gx gy : Nat) : Int) % M.wi) (gy - ((restIx M gx gy : Nat) : Int) / M.wi)).1, (unap M (gx - ((restIx M gx gy : Nat) : Int) % M.wi) (gy - ((restIx M gx gy : Nat) : Int) / M.wi)).2, r.price, r.label⟩ := by
                rw [← hgx, ← hgy]
                rfl
              revert hn hfit hff ewr
              generalize restIx M gx gy = n
              intro hn hfit hff ewr
              obtain ⟨z, hgn⟩ : ∃ z, gs[n]? = some z := at_of_lt (by omega)
              have gz := (hg n z hgn).1 hfit
              have s37 := s6'.trans (s7.trans s8)
              have spn : ∀ {x : Str}, x ∈ L.spots → x.length ≤ 1000 := fun h => Nat.le_trans (ok.sn _ h).2 (by decide)
              have nmn := Nat.le_trans ro.nm.2 (show 40 ≤ 1000 by decide)
              refine SeqAt.ix (i := 0) ⟨E, rfl, .inr e8⟩ hff ?_
              refine ⟨_, rfl, _, rfl, log_sm (by omega), ".", numS k, rfl, rfl, dot_len (by omega), ?_⟩
              refine ⟨_, rfl, .inl ⟨rfl, _, SqL.of (s37 _ _ hz5)⟩, _, rfl, _, rfl, r.name, _, rfl, rfl, last_len nmn (by omega), _, rfl, _, rfl, r.start, _, rfl, rfl, last_len (spn ro.st) (by omega), _, rfl, r.fin, ".", rfl, rfl, one_len (spn ro.fn), _, rfl, _, rfl, log_sm (by omega), r.fin ++ ".", numS n, rfl, rfl, two_len (spn ro.fn) (by omega), _, rfl, _, rfl, SeqAt.ix (i := n) ⟨D, rfl, .inr (s8 _ _ eg)⟩ hgn ⟨_, rfl, _, rfl, by show 6 ≤ sizeLine; decide, fun t3 nt3 => ?_⟩⟩
              have s9 := sN s37 (o := .tup [.str (r.name ++ (("." : Str) ++ numS k)), .str (r.start ++ (("." : Str) ++ numS k)), .str ((r.fin ++ ".") ++ numS n), z, .int r.price, labV r.label]) nt3
              have hz9 := s9 _ _ hz5
              have tu := (Tup.refl (upd H6 t3 (.tup [.str (r.name ++ (("." : Str) ++ numS k)), .str (r.start ++ (("." : Str) ++ numS k)), .str ((r.fin ++ ".") ++ numS n), z, .int r.price, labV r.label]))).put (u := .lst (zs ++ [.ref t3])) hz9 (fun xs z => by cases z)
              refine ⟨rl, _, _, rfl, rfl, hz9, small1000 hzl, _, _, _, _, _, _, rfl, sM (s5.trans s9) nr, (hc5.mono s9).tup tu, ?_, _, upd_same, ?_⟩
              · rw [upd_ne ne]
                exact s9 _ _ es5
              · rw [List.range_succ, List.map_append, ← List.append_assoc]
                refine Paired.snoc (rows_tup (rows_tup hzp (Tup.of s9)) tu) (RoadT.tup ⟨t3, z, rfl, ?_, ?_⟩ tu)
                · rw [upd_same, ewr, sub_assoc, sub_assoc]
                  rfl
                · rw [ewr]
                  exact (gz.mono s8).mono (same_new nt3)
        · rintro σ H3 ⟨o12, o13, o14, o15, o16, o17, rfl, s5, hc5, es5, zs, hz5, hzp⟩
          refine ⟨_, _, _, _, _, _, o12, o13, o14, o15, o16, o17, rfl, s5, es5, zs, hz5, ?_⟩
          rw [wideRoads_snoc hr4, ← hyl]
          exact hzp
      · rintro σ H3 ⟨o6, o7, o8, o9, o10, o11, o12, o13, o14, o15, o16, o17, rfl, s4, es4, zs, hz, hzp⟩
        rw [hxl, List.take_length] at hzp
        refine fun d nd => ⟨_, rfl, _, rfl, upd_same, landKv sl rl, rfl, by show 2 ≤ 15; decide, ?_⟩
        have em : mergeK [] (landKv sl rl) = landKv sl rl := rfl
        rw [em]
        have s9 : Same H3 (upd (upd H3 d (.dK [])) d (.dK (landKv sl rl))) := sM (same_new nd) nd
        exact k _ _ ((s1.trans s4).trans s9) ⟨d, sl, rl, zs, rfl, upd_same, s9 _ _ es4, s9 _ _ hz, rows_tup hzp (Tup.of s9)⟩
end
end J
set_option Elab.async false
set_option linter.all false
set_option maxRecDepth 100000
set_option maxHeartbeats 4000000
set_option exponentiation.threshold 3000
namespace J
open PySem PySem.Spec PyProof.Rows L2 TL

/-! J31: the law's faults. -/
def faultL : Fault → List V
  | .name x => [.str "name", .str x]
  | .large n => [.str "large", .str "shift", .int n, .int 9]
  | .many n => [.str "many", .str "spots", .int n, .int 24]
  | .flat => [.str "number", .str "matrix", .int 0]
def faultO : Option Fault → List V
  | none => []
  | some f => faultL f
theorem cut_take {xs : List V} {i : Nat} (h : i ≤ xs.length) : cutV xs none (some (i : Int)) = xs.take i := by
  unfold cutV
  rw [HT.sIx_none, HT.sIx_nat, Nat.min_eq_left h, List.drop_zero, Nat.sub_zero]
section
variable {P : Program} {w : World} {K : PySem.W.Frag} {mg : Str → Option Value} {base : Heap}
def sp__law_road_fault : Sp := fun vs H Q _ => ∃ (v : V) (sl tk : Addr) (r : Rd) (spots taken : List Str), vs = [v, .ref sl, .ref tk] ∧ RoadT H v r ∧ RdW spots r ∧ H sl = some (.lst (spots.map V.str)) ∧ H tk = some (.lst (taken.map V.str)) ∧ r.name ∉ taken ∧
  ∀ (H' : Hp) (l : Addr), Same H H' → H' l = some (.lst (faultO (roadFault r))) → Q (.ref l) H'
abbrev N__law_road_fault : List Str := ["_law_row", "_law_spots", "_law_taken", "_law_spot", "_law_number", "_law_name", "_law_start", "_law_end", "_law_shift_here", "_law_price", "_law_label"]
theorem sc__law_road_fault : FnScope N__law_road_fault ["_law_row", "_law_spots", "_law_taken"] (defScope s__law_road_fault) := ⟨rfl, rfl, rfl, by decide +kernel, rfl, by decide +kernel, by decide +kernel⟩
theorem ok__law_road_fault (T : Tx K mg) : Cl P w K mg base CX0 3 "_law_road_fault" sp__law_road_fault [] := by
  obtain ⟨fd, F⟩ := T.d__law_road_fault
  refine cl_of (ps := ["_law_row", "_law_spots", "_law_taken"]) F T.g__law_road_fault (FunD.cl0 F sc__law_road_fault (fun vs H Q E h => ?_) (fun cdv A outer s H vs Q E hr h => ?_)) fun _ _ _ _ _ _ us hl => match us, hl with | [_, _, _], _ => rfl
  · obtain ⟨v, sl, tk, r, spots, taken, rfl, _⟩ := h
    rfl
  · obtain ⟨v, sl, tk, r, spots, taken, rfl, ⟨p, q, rfl, hp, hc⟩, hw, hs, ht, hn, k⟩ := h
    refine ⟨_, (pss_cons (ps_asg (pv 0) (pg_tup rfl (pgs_cons (gn 5 sc__law_road_fault.nd) (pgs_cons (gn 6 sc__law_road_fault.nd) (pgs_cons (gn 7 sc__law_road_fault.nd) (pgs_cons (gn 8 sc__law_road_fault.nd) (pgs_cons (gn 9 sc__law_road_fault.nd) (pgs_cons (gn 10 sc__law_road_fault.nd) pgs_nil))))))))
      (pss_cons (ps_if (pw_or (pt_not (pt_val (pe_cl (ok__law_is_name T) hr pass0 (pa_cons (pv 5) pa_nil)))) (pw_or1 (pt_cmpR op_in_seq (pv 5) (pv 2) rfl))).pt (pss_one (ps_ret (pe_lst (pa_cons (pe_ifExp (pt_val (pe_cl (ok__law_is_name T) hr pass0 (pa_cons (pv 5) pa_nil))) pe_str pe_str) (pa_cons (pv 5) pa_nil))))) pss_nil)
      (pss_cons (ps_for (PassesOwn.never) rfl (pi_list (pe_lst (pa_cons (pv 6) (pa_cons (pv 7) pa_nil)))) (gn 3 sc__law_road_fault.nd) (pss_one (ps_if (pw_or (pt_not (pt_val (pe_iS T (pv 3)))) (pw_or1 (pt_cmpR op_notIn_seq (pv 3) (pv 1) rfl))).pt (pss_one (ps_ret (pe_lst (pa_cons pe_str (pa_cons (pv 3) pa_nil))))) pss_nil)))
      (pss_cons (ps_if (pt_not (pt_val (pe_cl (ok__law_is_cell T) hr pass0 (pa_cons (pv 8) pa_nil)))) (pss_one (ps_ret (pe_lst (pa_cons pe_str (pa_cons pe_str (pa_cons (pv 8) pa_nil)))))) pss_nil)
      (pss_cons (ps_for (PassesOwn.never) rfl (pi_tup (pv 8)) (gn 4 sc__law_road_fault.nd) (pss_one (ps_if (pt_not (pt_chain op_le op_le (pe_un un_neg pe_int) (pv 4) pe_int)) (pss_one (ps_ret (pe_lst (pa_cons pe_str (pa_cons pe_str (pa_cons (pv 4) (pa_cons pe_int pa_nil))))))) pss_nil)))
      (pss_cons (ps_if (pw_or (pt_not (pt_val (pe_cl (ok__law_is_int T) hr pass0 (pa_cons (pv 9) pa_nil)))) (pw_or1 (pt_cmpR op_lt (pv 9) pe_int (nomark _)))).pt (pss_one (ps_ret (pe_lst (pa_cons pe_str (pa_cons pe_str (pa_cons (pv 9) pa_nil)))))) pss_nil)
      (pss_cons (ps_if (pt_cmpR op_gt (pv 9) pe_int (nomark _)) (pss_one (ps_ret (pe_lst (pa_cons pe_str (pa_cons pe_str (pa_cons (pv 9) (pa_cons pe_int pa_nil))))))) pss_nil)
      (pss_one (ps_ret (pe_ifExp (pw_or (pt_cmpR op_isN (pv 10) pe_non (nomark _)) (pw_or1 (pt_val (pe_cl (ok__law_is_name T) hr pass0 (pa_cons (pv 10) pa_nil))))).pt (pe_lst pa_nil) (pe_lst (pa_cons pe_str (pa_cons (pv 10) pa_nil))))))))))))), ?_⟩
    refine ⟨_, rfl, p, _, rfl, SqT.of hp, rfl, _, _, rfl, _, _, rfl, _, _, rfl, _, _, rfl, _, _, rfl, _, _, rfl, rfl, ?_⟩
    refine ⟨_, rfl, r.name, rfl, hw.nm, hw.nl, fun H1 s1 => ⟨_, rfl, ?_⟩⟩
    by_cases hl : r.name.length ≤ 40
    case neg =>
      rw [decide_eq_false hl]
      refine iteT ?_
      refine ⟨_, rfl, r.name, rfl, hw.nm, hw.nl, fun H2 s2 => ⟨_, rfl, ?_⟩⟩
      rw [decide_eq_false hl]
      refine iteF ⟨_, rfl, by show 2 ≤ sizeLine; decide, fun l nl => k _ l ((s1.trans s2).trans (same_new nl)) ?_⟩
      rw [upd_same]
      unfold roadFault nmFault
      rw [if_neg hl]
      rfl
    have hnf : nmFault r.name = none := if_pos hl
    rw [decide_eq_true hl]
    refine iteF ⟨_, rfl, _, rfl, tk, _, rfl, .inl (SqL.of (s1 _ _ ht)), rfl, flat_strs, _, rfl, ?_⟩
    have e : (if false = true then !inV (V.str r.name) (taken.map V.str) else inV (V.str r.name) (taken.map V.str)) = false := by
      rw [if_neg Bool.false_ne_true, inV_str, decide_eq_false hn]
    rw [e]
    refine iteF ?_
    refine ⟨_, rfl, _, rfl, by show 2 ≤ sizeLine; decide, fun t nt => ?_⟩
    refine ⟨t, rfl, ⟨_, SqL.of upd_same⟩, for_list (xs := [.str r.start, .str r.fin]) (fun i σ H' => ∃ n : Option V, σ = [some (.ref p), some (.ref sl), some (.ref tk), n, none, some (.str r.name), some (.str r.start), some (.str r.fin), some q, some (.int r.price), some (labV r.label)] ∧ H' = upd H1 t (.lst [.str r.start, .str r.fin])) ⟨none, rfl, rfl⟩ ?_ ?_ ?_⟩
    · rintro i σ H' hi ⟨n, rfl, rfl⟩
      exact SqL.of upd_same
    · rintro i z σ H' hz ⟨n, rfl, rfl⟩
      obtain ⟨y, rfl, hy⟩ : ∃ y, z = .str y ∧ y ∈ spots := by
        match i, hz with
        | 0, hz => injection hz with hz; exact ⟨_, hz.symm, hw.st⟩
        | 1, hz => injection hz with hz; exact ⟨_, hz.symm, hw.fn⟩
        | i + 2, hz => simp at hz
      refine ⟨_, rfl, y, rfl, true, rfl, iteF ⟨_, rfl, _, rfl, sl, _, rfl, .inl (SqL.of ((same_new nt) _ _ (s1 _ _ hs))), rfl, flat_strs, _, rfl, ?_⟩⟩
      have e : (if true = true then !inV (V.str y) (spots.map V.str) else inV (V.str y) (spots.map V.str)) = false := by
        rw [if_pos rfl, inV_str, decide_eq_true hy]
        rfl
      rw [e]
      exact iteF ⟨_, rfl, rfl⟩
    · rintro σ H' ⟨n, rfl, rfl⟩
      have s2 := s1.trans (same_new (o := .lst [.str r.start, .str r.fin]) nt)
      revert s2
      generalize upd H1 t (.lst [.str r.start, .str r.fin]) = H2
      intro s2
      have hc2 := hc.mono s2
      obtain ⟨c, rfl, hcc⟩ := id hc2
      refine ⟨_, rfl, _, _, _, rfl, hc2, true, rfl, iteF ?_⟩
      refine ⟨_, rfl, c, rfl, ⟨_, SqT.of hcc⟩, for_tup (xs := [.int r.sx, .int r.sy]) (fun i σ H' => ∃ m : Option V, σ = [some (.ref p), some (.ref sl), some (.ref tk), n, m, some (.str r.name), some (.str r.start), some (.str r.fin), some (.ref c), some (.int r.price), some (labV r.label)] ∧ H' = H2 ∧ (0 < i → r.sx.natAbs ≤ 9) ∧ (1 < i → r.sy.natAbs ≤ 9)) ⟨none, rfl, rfl, fun h => by omega, fun h => by omega⟩ ?_ ?_ ?_⟩
      · rintro i σ H' hi ⟨m, rfl, rfl, _⟩
        exact SqT.of hcc
      · rintro i z σ H' hz ⟨m, rfl, rfl, h0, h1⟩
        obtain ⟨n0, rfl, hn9, hnf9⟩ : ∃ n0 : Int, z = .int n0 ∧ (9 < n0.natAbs → roadFault r = some (.large n0)) ∧ (n0.natAbs ≤ 9 → (0 < i + 1 → r.sx.natAbs ≤ 9) ∧ (1 < i + 1 → r.sy.natAbs ≤ 9)) := by
          match i, hz with
          | 0, hz =>
            injection hz with hz
            exact ⟨_, hz.symm, fun h => by unfold roadFault; rw [hnf]; exact if_pos h, fun h => ⟨fun _ => h, fun h => by omega⟩⟩
          | 1, hz =>
            injection hz with hz
            have := h0 (by omega)
            exact ⟨_, hz.symm, fun h => by unfold roadFault; rw [hnf]; show shFault _ _ = _; unfold shFault; rw [if_neg (by omega), if_pos h], fun h => ⟨fun _ => this, fun _ => h⟩⟩
          | i + 2, hz => simp at hz
        refine ⟨9, rfl, _, rfl, _, _, rfl, rfl, _, rfl, ?_⟩
        by_cases h9 : 9 < n0.natAbs
        · have fin : ∀ l, H' l = none → upd H' l (.lst [.str "large", .str "shift", .int n0, .int 9]) l = some (.lst (faultO (roadFault r))) := fun l nl => by
            rw [upd_same, hn9 h9]
            rfl
          by_cases hlo : n0 < -9
          · rw [decide_eq_false (by omega)]
            exact iteF ⟨_, rfl, iteT ⟨_, rfl, by show 4 ≤ sizeLine; decide, fun l nl => k _ l (s2.trans (same_new nl)) (fin l nl)⟩⟩
          · rw [decide_eq_true (by omega)]
            refine iteT ⟨_, _, rfl, rfl, _, rfl, ?_⟩
            rw [decide_eq_false (by omega)]
            exact iteT ⟨_, rfl, by show 4 ≤ sizeLine; decide, fun l nl => k _ l (s2.trans (same_new nl)) (fin l nl)⟩
        · rw [decide_eq_true (by omega)]
          refine iteT ⟨_, _, rfl, rfl, _, rfl, ?_⟩
          rw [decide_eq_true (by omega)]
          exact iteF ⟨_, rfl, rfl, hnf9 (by omega)⟩
      · rintro σ H' ⟨m, rfl, rfl, h0, h1⟩
        have a := h0 (by show 0 < 2; decide)
        have b := h1 (by show 1 < 2; decide)
        have e0 : roadFault r = none := by
          unfold roadFault
          rw [hnf]
          show shFault _ _ = _
          unfold shFault
          rw [if_neg (by omega), if_neg (by omega)]
        have p1 := hw.p1
        have p99 := hw.p99
        refine ⟨_, rfl, _, rfl, true, rfl, iteF ⟨_, rfl, _, _, rfl, rfl, _, rfl, ?_⟩⟩
        rw [decide_eq_false (by omega)]
        refine iteF ⟨_, rfl, _, _, rfl, rfl, _, rfl, ?_⟩
        rw [decide_eq_false (by omega)]
        refine iteF ⟨_, rfl, rfl, _, rfl, ?_⟩
        rw [lab_non]
        cases hlb : r.label with
        | none =>
          refine iteT ?_
          refine ⟨by show 0 ≤ sizeLine; decide, fun l nl => k _ l (s2.trans (same_new nl)) ?_⟩
          rw [upd_same, e0]
          rfl
        | some y =>
          have yo := hw.lb y hlb
          refine iteF ⟨_, rfl, y, rfl, yo.1, Nat.le_trans yo.2 (by decide), fun H4 s4 => ⟨_, rfl, ?_⟩⟩
          rw [decide_eq_true yo.2]
          refine iteT ⟨by show 0 ≤ sizeLine; decide, fun l nl => k _ l ((s2.trans s4).trans (same_new nl)) ?_⟩
          rw [upd_same, e0]
          rfl
def sp__law_land_fault : Sp := fun vs H Q _ => ∃ (v : V) (L : Land), vs = [v] ∧ LandAt H v L ∧ WOk L ∧ ∀ (H' : Hp) (l : Addr), Same H H' → H' l = some (.lst (faultO (landFault L))) → Q (.ref l) H'
abbrev N__law_land_fault : List Str := ["_law_land_here", "_law_spots", "_law_roads", "_law_at", "_law_name", "_law_row", "_law_fault_here", "_law_road"]
theorem sc__law_land_fault : FnScope N__law_land_fault ["_law_land_here"] (defScope s__law_land_fault) := ⟨rfl, rfl, rfl, by decide +kernel, rfl, by decide +kernel, by decide +kernel⟩
theorem ok__law_land_fault (T : Tx K mg) : Cl P w K mg base CX0 4 "_law_land_fault" sp__law_land_fault [] := by
  obtain ⟨fd, F⟩ := T.d__law_land_fault
  refine cl_of (ps := ["_law_land_here"]) F T.g__law_land_fault (FunD.cl0 F sc__law_land_fault (fun vs H Q E h => ?_) (fun cdv A outer s H vs Q E hr h => ?_)) fun _ _ _ _ _ _ us hl => match us, hl with | [_], _ => rfl
  · obtain ⟨v, L, rfl, _⟩ := h
    rfl
  · obtain ⟨v, L, rfl, ⟨la, l1, l2, xs, rfl, hla, h1, h2, hx⟩, ok, k⟩ := h
    have hu := hu_of hr
    refine ⟨_, (pss_cons (par2 1 2 sc__law_land_fault.nd (pa_cons (pe_dget hu (pv 0) pe_str (fun _ _ => rfl)) (pa_cons (pe_dget hu (pv 0) pe_str (fun _ _ => rfl)) pa_nil)))
      (pss_cons (ps_if (pt_cmpR op_eq (pe_lenS T (pv 1)) pe_int (nomark _)) (pss_one (ps_ret (pe_lst (pa_cons pe_str (pa_cons pe_str (pa_cons pe_int pa_nil)))))) pss_nil)
      (pss_cons (ps_if (pt_cmpR op_gt (pe_lenS T (pv 1)) pe_int (nomark _)) (pss_one (ps_ret (pe_lst (pa_cons pe_str (pa_cons pe_str (pa_cons (pe_lenS T (pv 1)) (pa_cons pe_int pa_nil))))))) pss_nil)
      (pss_cons (ps_if (pt_cmpR op_gt (pe_lenS T (pv 2)) pe_int (nomark _)) (pss_one (ps_ret (pe_lst (pa_cons pe_str (pa_cons pe_str (pa_cons (pe_lenS T (pv 2)) (pa_cons pe_int pa_nil))))))) pss_nil)
      (pss_cons (ps_for (PassesOwn.never) rfl (pi_enum rfl T.f_enumerate (pa_cons (pv 1) pa_nil)) (pg_tup rfl (pgs_cons (gn 3 sc__law_land_fault.nd) (pgs_cons (gn 4 sc__law_land_fault.nd) pgs_nil))) (pss_one (ps_if (pw_or (pt_not (pt_val (pe_cl (ok__law_is_name T) hr pass0 (pa_cons (pv 4) pa_nil)))) (pw_or1 (pt_cmpR op_in_seq (pv 4) (pe_slice sl_list (pv 1) po_none (po_some (pv 3))) rfl))).pt (pss_one (ps_ret (pe_lst (pa_cons (pe_ifExp (pt_val (pe_cl (ok__law_is_name T) hr pass0 (pa_cons (pv 4) pa_nil))) pe_str pe_str) (pa_cons (pv 4) pa_nil))))) pss_nil)))
      (pss_cons (ps_for (PassesOwn.never) rfl (pi_enum rfl T.f_enumerate (pa_cons (pv 2) pa_nil)) (pg_tup rfl (pgs_cons (gn 3 sc__law_land_fault.nd) (pgs_cons (gn 5 sc__law_land_fault.nd) pgs_nil))) (pss_cons (st 6 sc__law_land_fault.nd (pe_cl (ok__law_road_fault T) hr pass0 (pa_cons (pv 5) (pa_cons (pv 1) (pa_cons (pe_lc (te := tOp (rIx K) (tVar 7) (tC (.int 0))) rfl sc__law_land_fault.nd (pi_list (pe_slice sl_list (pv 2) po_none (po_some (pv 3)))) (blkOk_by (own := [("_law_road", 7)]) (N := N__law_land_fault) (sc := defScope s__law_land_fault) (by decide +kernel)) (fun _ _ _ _ _ => (gn 7 sc__law_land_fault.nd)) (fun _ _ _ _ _ => pts_nil) (fun _ _ _ _ _ => (pe_at (pv 7) pe_int))) pa_nil))))) (pss_one (ps_if (pt_cmpR (op_neNil hu) (pv 6) (pe_lst pa_nil) (nomark _)) (pss_one (ps_ret (pv 6))) pss_nil))))
      (pss_one (ps_ret (pe_lst pa_nil))))))))), ?_⟩
    have s24 := ok.s24
    have r160 := ok.r160
    have hxl := paired_len hx
    have s0 : L.spots.length ≠ 0 := fun z => ok.s0 (List.length_eq_zero_iff.mp z)
    refine ⟨_, rfl, la, _, rfl, land_spots hla, _, rfl, la, _, rfl, land_roads hla, _, _, rfl, ?_⟩
    refine ⟨_, rfl, l1, _, rfl, .inl (SqL.of h1), rfl, _, rfl, ?_⟩
    rw [decide_eq_false (by intro z; injection z with z; rw [List.length_map] at z; omega)]
    refine iteF ⟨_, rfl, l1, _, rfl, .inl (SqL.of h1), _, _, rfl, rfl, _, rfl, ?_⟩
    rw [decide_eq_false (by rw [List.length_map]; omega)]
    refine iteF ⟨_, rfl, l2, _, rfl, .inl (SqL.of h2), _, _, rfl, rfl, _, rfl, ?_⟩
    rw [decide_eq_false (by omega)]
    refine iteF ⟨_, rfl, l1, _, rfl, SqL.of h1, ?_⟩
    refine for_it walk_enum (fun i σ H' => ∃ o3 o4 : Option V, σ = [some (.ref la), some (.ref l1), some (.ref l2), o3, o4, none, none, none] ∧ Same H H' ∧ ∀ j y, j < i → L.spots[j]? = some y → nmFault y = none) ⟨none, none, rfl, Same.refl H, fun j y h => by omega⟩ (fun k σ H' hk ⟨_, _, _, s1, _⟩ => SqL.of (s1 _ _ h1)) ?_ ?_
    · rintro i v σ H1 H2 hi ⟨o3, o4, rfl, s1, h0⟩ ⟨t, _, y, rfl, nt, rfl, f1, f2⟩
      injection f1 with f1
      subst f1
      obtain ⟨x, hx4, rfl⟩ := map_at f2
      have xo := ok.sn x (mem_at hx4)
      have s2 := sN s1 (o := .tup [.int (i : Int), .str x]) nt
      have ec : cutV (L.spots.map V.str) none (some (i : Int)) = (L.spots.take i).map V.str := by rw [cut_take (by omega), List.map_take]
      refine ⟨t, _, rfl, SqT.of upd_same, rfl, _, _, rfl, _, _, rfl, rfl, ?_⟩
      refine ⟨_, rfl, x, rfl, xo.1, xo.2, fun H3 s3 => ⟨_, rfl, ?_⟩⟩
      by_cases hl : x.length ≤ 40
      · rw [decide_eq_true hl]
        have h13 := s3 _ _ (s2 _ _ h1)
        refine iteF ⟨_, rfl, _, rfl, _, rfl, _, rfl, l1, _, rfl, SqL.of h13, fun p np => ⟨p, _, rfl, .inl (SqL.of upd_same), rfl, ?_, _, rfl, ?_⟩⟩
        · rw [ec]
          exact flat_strs
        · have e : (if false = true then !inV (V.str x) (cutV (L.spots.map V.str) none (some (i : Int))) else inV (V.str x) (cutV (L.spots.map V.str) none (some (i : Int)))) = false := by
            rw [if_neg Bool.false_ne_true, ec, inV_str, decide_eq_false (not_mem_take ok.sd hx4)]
          rw [e]
          refine iteF ⟨_, _, rfl, (s2.trans s3).trans (same_new np), fun j y' hj hy' => ?_⟩
          by_cases hji : j < i
          · exact h0 j y' hji hy'
          · have : j = i := by omega
            subst this
            rw [hx4] at hy'
            injection hy' with hy'
            rw [← hy']
            exact if_pos hl
      · rw [decide_eq_false hl]
        refine iteT ?_
        refine ⟨_, rfl, x, rfl, xo.1, xo.2, fun H4 s4 => ⟨_, rfl, ?_⟩⟩
        rw [decide_eq_false hl]
        refine iteF ⟨_, rfl, by show 2 ≤ sizeLine; decide, fun l nl => k _ l (((s2.trans s3).trans s4).trans (same_new nl)) ?_⟩
        rw [upd_same, fault_spot h0 hx4 (if_neg hl)]
        rfl
    · rintro σ H1 ⟨o3, o4, rfl, s1, h0⟩
      rw [List.length_map] at h0
      have hsf : ∀ x ∈ L.spots, nmFault x = none := fun x hx => by
        obtain ⟨j, hj⟩ := List.getElem?_of_mem hx
        exact h0 j x (List.getElem?_eq_some_iff.mp hj).1 hj
      refine ⟨_, rfl, l2, _, rfl, SqL.of (s1 _ _ h2), ?_⟩
      have hx1 := rows_tup hx (Tup.of s1)
      refine for_it walk_enum (fun i σ H' => ∃ o3 o5 o6 : Option V, σ = [some (.ref la), some (.ref l1), some (.ref l2), o3, o4, o5, o6, none] ∧ Same H1 H' ∧ ∀ j y, j < i → L.roads[j]? = some y → roadFault y = none) ⟨o3, none, none, rfl, Same.refl H1, fun j y h => by omega⟩ (fun k σ H' hk ⟨_, _, _, _, s2, _⟩ => SqL.of (s2 _ _ (s1 _ _ h2))) ?_ ?_
      · rintro i v σ H2 H3 hi ⟨o3, o5, o6, rfl, s2, h9⟩ ⟨t, _, y, rfl, nt, rfl, f1, f2⟩
        injection f1 with f1
        subst f1
        obtain ⟨r, hr4, hro⟩ := paired_at hx1 f2
        have hw := ok.rn r (mem_at hr4)
        have s3 := sN s2 (o := .tup [.int (i : Int), y]) nt
        refine ⟨t, _, rfl, SqT.of upd_same, rfl, _, _, rfl, _, _, rfl, rfl, ?_⟩
        refine ⟨_, rfl, _, rfl, _, rfl, _, rfl, _, rfl, l2, _, rfl, SqL.of (s3 _ _ (s1 _ _ h2)), fun p np => ⟨p, rfl, ⟨_, SqL.of upd_same⟩, fun D hD => ?_⟩⟩
        have ec : cutV xs none (some (i : Int)) = xs.take i := cut_take (by omega)
        have sp := sN s3 (o := .lst (cutV xs none (some (i : Int)))) np
        have hp2 : upd (upd H2 t (.tup [.int (i : Int), y])) p (.lst (cutV xs none (some (i : Int)))) p = some (.lst (xs.take i)) := by rw [upd_same, ec]
        revert sp hp2 hD
        generalize upd (upd H2 t (.tup [.int (i : Int), y])) p (.lst (cutV xs none (some (i : Int)))) = H4
        intro hD sp hp2
        refine lc_list (xs := xs.take i) (fun j H' => Same H4 H' ∧ H' D = some (.lst (((L.roads.take j).map (·.name)).map V.str))) ⟨same_new hD, upd_same⟩ ?_ ?_ ?_
        · rintro j H' hj ⟨s5, _⟩
          exact SqL.of (s5 _ _ hp2)
        · rintro j z H' hz ⟨s5, e5⟩
          rw [List.getElem?_take] at hz
          by_cases hji : j < i
          · rw [if_pos hji] at hz
            obtain ⟨q, hq4, hqo⟩ := paired_at hx1 hz
            refine ⟨rfl, _, rfl, road_name (hqo.tup (Tup.of (sp.trans s5))) ⟨_, e5, by rw [List.length_map, List.length_map]; exact small1000 (Nat.le_trans (List.length_take_le' ..) (by omega)), sM s5 hD, ?_⟩⟩
            rw [upd_same, take_map_snoc hq4, List.map_append]
            rfl
          · rw [if_neg hji] at hz
            cases hz
        · rintro H5 ⟨s5, e5⟩
          rw [List.length_take, Nat.min_eq_left (by omega)] at e5
          have sp5 := sp.trans s5
          refine ⟨y, l1, D, r, L.spots, (L.roads.take i).map (·.name), rfl, hro.tup (Tup.of sp5), hw, sp5 _ _ (s1 _ _ h1), e5, ?_, fun H6 l s6 el => ?_⟩
          · rw [List.map_take]
            exact not_mem_take ok.rd (by rw [List.getElem?_map, hr4]; rfl)
          · refine ⟨_, rfl, by show 0 ≤ sizeLine; decide, fun q nq => ⟨l, q, _, rfl, rfl, SqL.of ((same_new nq) _ _ el), SqL.of upd_same, _, rfl, ?_⟩⟩
            have s16 := sN (sp5.trans s6) (o := .lst []) nq
            have el2 := (same_new (o := .lst []) nq) _ _ el
            cases ef : roadFault r with
            | none =>
              refine iteF ⟨_, _, _, rfl, s16, fun j y' hj hy' => ?_⟩
              by_cases hji : j < i
              · exact h9 j y' hji hy'
              · have : j = i := by omega
                subst this
                rw [hr4] at hy'
                injection hy' with hy'
                rw [← hy']
                exact ef
            | some f =>
              have ne : (!(faultO (some f)).isEmpty) = true := by cases f <;> rfl
              rw [ne]
              refine iteT ⟨_, rfl, k _ l (s1.trans s16) ?_⟩
              rw [el2, fault_road hsf h9 hr4 ef, ef]
      · rintro σ H2 ⟨o3, o5, o6, rfl, s2, h9⟩
        have hrf : ∀ r ∈ L.roads, roadFault r = none := fun x hm => by
          obtain ⟨j, hj⟩ := List.getElem?_of_mem hm
          exact h9 j x (by rw [hxl]; exact (List.getElem?_eq_some_iff.mp hj).1) hj
        refine ⟨by show 0 ≤ sizeLine; decide, fun l nl => k _ l ((s1.trans s2).trans (same_new nl)) ?_⟩
        rw [upd_same, fault_none hsf hrf]
        rfl
end
end J
set_option Elab.async false
set_option linter.all false
set_option maxRecDepth 100000
set_option maxHeartbeats 4000000
set_option exponentiation.threshold 3000
namespace J
open PySem PySem.Spec PyProof.Rows L2 TL

/-! J32: the rows of a map. -/
def tRow (K : PySem.W.Frag) : TE := tTup (tCons (tFld K (tVar 1) "name") (tCons (tFld K (tVar 1) "start") (tCons (tFld K (tVar 1) "end") (tCons (tFld K (tVar 1) "shift") (tCons (tFld K (tVar 1) "price") (tCons (tFld K (tVar 1) "label") tNil))))))
section
variable {P : Program} {w : World} {K : PySem.W.Frag} {mg : Str → Option Value} {base : Heap}
def sp__law_rows_of (K : PySem.W.Frag) : Sp := fun vs H Q _ => ∃ (v : V) (L : Land), vs = [v] ∧ MapO K H v L ∧ L.roads.length ≤ 1000 ∧ ∀ (H' : Hp) (l : Addr) (zs : List V), Same H H' → H' l = some (.lst zs) → Paired (RoadT H') zs L.roads → Q (.ref l) H'
abbrev N__law_rows_of : List Str := ["_law_told", "_law_road"]
theorem sc__law_rows_of : FnScope N__law_rows_of ["_law_told"] (defScope s__law_rows_of) := ⟨rfl, rfl, rfl, by decide +kernel, rfl, by decide +kernel, by decide +kernel⟩
theorem ok__law_rows_of (T : Tx K mg) : Cl P w K mg base CX0 1 "_law_rows_of" (sp__law_rows_of K) [] := by
  obtain ⟨fd, F⟩ := T.d__law_rows_of
  refine cl_of (ps := ["_law_told"]) F T.g__law_rows_of (FunD.cl0 F sc__law_rows_of (fun vs H Q E h => ?_) (fun cdv A outer s H vs Q E hr h => ?_)) fun _ _ _ _ _ _ us hl => match us, hl with | [_], _ => rfl
  · obtain ⟨v, L, rfl, _⟩ := h
    rfl
  · obtain ⟨v, L, rfl, ⟨p, dx, t1, t2, d1, d2, xs, rfl, hp, ht1, ht2, hx⟩, hl, k⟩ := h
    refine ⟨_, (pss_one (ps_ret (pe_lc (te := tRow K) rfl sc__law_rows_of.nd (pi_tup (pe_fld (pv 0) rfl)) (blkOk_by (own := [("_law_road", 1)]) (N := N__law_rows_of) (sc := defScope s__law_rows_of) (by decide +kernel)) (fun _ _ _ _ _ => (gn 1 sc__law_rows_of.nd)) (fun _ _ _ _ _ => pts_nil) (fun _ _ _ _ _ => (pe_tup (pa_cons (pe_fld (pv 1) rfl) (pa_cons (pe_fld (pv 1) rfl) (pa_cons (pe_fld (pv 1) rfl) (pa_cons (pe_fld (pv 1) rfl) (pa_cons (pe_fld (pv 1) rfl) (pa_cons (pe_fld (pv 1) rfl) pa_nil))))))))))), ?_⟩
    have hxl := paired_len hx
    refine ⟨_, rfl, p, _, dx, _, _, rfl, hp, T.c_Map, T.n_Map_roads, rfl, t2, rfl, ⟨_, SqT.of ht2⟩, fun D hD => ?_⟩
    refine lc_tup (xs := xs) (fun i H' => Same H H' ∧ ∃ zs, H' D = some (.lst zs) ∧ Paired (RoadT H') zs (L.roads.take i)) ⟨same_new hD, [], upd_same, by rw [List.take_zero]; exact .nil⟩ ?_ ?_ ?_
    · rintro i H' hi ⟨s1, _⟩
      exact SqT.of (s1 _ _ ht2)
    · rintro i v H' hv ⟨s1, zs, ez, hz⟩
      obtain ⟨r, hr4, hro⟩ := paired_at hx hv
      obtain ⟨q, dq, c, rfl, hq, hc⟩ := hro.mono s1
      have hi := (List.getElem?_eq_some_iff.mp hv).1
      have zl := paired_len hz
      have zl2 : zs.length ≤ 1000 := by
        rw [zl]
        exact Nat.le_trans (List.length_take_le' ..) hl
      refine ⟨rfl, _, rfl, q, _, dq, _, _, rfl, hq, T.c_Road, T.n_Road_name, rfl, _, rfl, q, _, dq, _, _, rfl, hq, T.c_Road, T.n_Road_start, rfl, _, rfl, q, _, dq, _, _, rfl, hq, T.c_Road, T.n_Road_end, rfl, _, rfl, q, _, dq, _, _, rfl, hq, T.c_Road, T.n_Road_shift, rfl, _, rfl, q, _, dq, _, _, rfl, hq, T.c_Road, T.n_Road_price, rfl, _, rfl, q, _, dq, _, _, rfl, hq, T.c_Road, T.n_Road_label, rfl, by show 6 ≤ sizeLine; decide, fun t nt => ?_⟩
      have ez2 := (same_new (o := .tup [.str r.name, .str r.start, .str r.fin, c, .int r.price, labV r.label]) nt) _ _ ez
      have tu := (Tup.refl (upd H' t (.tup [.str r.name, .str r.start, .str r.fin, c, .int r.price, labV r.label]))).put (u := .lst (zs ++ [.ref t])) ez2 (fun xs z => by cases z)
      refine ⟨_, ez2, small1000 zl2, sM (sN s1 nt) hD, _, upd_same, ?_⟩
      have e : L.roads.take (i + 1) = L.roads.take i ++ [r] := by
        rw [List.take_add_one, hr4]
        rfl
      rw [e]
      exact Paired.snoc (rows_tup (rows_tup hz (Tup.of (same_new nt))) tu) (RoadT.tup ⟨t, c, rfl, upd_same, hc.mono (same_new nt)⟩ tu)
    · rintro H' ⟨s1, zs, ez, hz⟩
      rw [hxl, List.take_length] at hz
      exact k _ D zs s1 ez hz
end
end J
set_option Elab.async false
set_option linter.all false
set_option maxRecDepth 100000
set_option maxHeartbeats 4000000
set_option exponentiation.threshold 3000
namespace J
open PySem PySem.Spec PyProof.Rows L2 TL

/-! J33: try with several clauses that name the error; a clause of two classes. -/
open L2
inductive ClTest (X : Cx) : Expr → List Value → Prop
  | one {x : Str} {c : Value} {np : Pos} (h : Names X x c) : ClTest X (.Name x np) [c]
  | two {x y : Str} {c d : Value} {p q tp : Pos} {kk : Nat} (h : Names X x c) (h2 : Names X y d) : ClTest X (.Tuple [.Name x p, .Name y q] kk tp) [c, d]
/-- ends behind a clause: the name is gone -/
def goneEnds (D : Ends) (i : Nat) : Ends := { nx := fun σ' H' => D.nx (σ'.set i none) H', rt := D.rt, bk := fun σ' H' => D.bk (σ'.set i none) H', ct := fun σ' H' => D.ct (σ'.set i none) H' }
def wClauses (K : PySem.W.Frag) (i : Nat) (Wout : WX) (D : Ends) : List (List Value × (Addr → Value → Option Addr → TS)) → WX
  | [] => Wout
  | (cs, ts) :: r => fun cls d σ H => ∃ b, PySem.W.exmAny K cls cs = some b ∧ (b = true → ∀ a, H a = none → ts a cls d (goneEnds D i) (σ.set i (some (.ref a))) H) ∧ (b = false → wClauses K i Wout D r cls d σ H)
inductive ClsOk (X : Cx) (n : Str) : List ExceptHandler → List (List Value × (Addr → Value → Option Addr → TS)) → Prop
  | nil : ClsOk X n [] []
  | cons {t : Expr} {cs : List Value} {ts : Addr → Value → Option Addr → TS} {b₀ : Stmt} {suite : List Stmt} {pos' : Pos} {hds : List ExceptHandler} {l : List (List Value × (Addr → Value → Option Addr → TS))} (hc : ClTest X t cs)
      (hsu : ∀ (a : Addr) (oe : Obj) (cls : Value) (d : Option Addr) (pn : List (Addr × Obj)), Zc cls d oe → (∃ vs, oe.data = .fields vs) → PSs (X.suite a ((a, oe) :: pn)) (b₀ :: suite) (ts a cls d)) (r : ClsOk X n hds l) :
      ClsOk X n (.ExceptHandler (some t) (some n) (b₀ :: suite) pos' :: hds) ((cs, ts) :: l)
theorem flyZ_keeps {B : Heap} {l : List Env} {e : Addr} {Z : Obj → Prop} {h h' : Heap} (R : HandSPX.FlyingZ B l e Z h) (k : ∀ b o, h.get? b = some o → h'.get? b = some o) : HandSPX.FlyingZ B l e Z h' := by
  obtain ⟨f1, f2, f3, oe, vs, T, oT, ts, he, hz, hd, h1, hr⟩ := R
  obtain ⟨r1, r2, r3, r4, r5⟩ := hr
  exact ⟨fun b o q => k b o (f1 b o q), f2, f3.of_keeps fun b o q _ => ⟨o, k b o q, rfl⟩, oe, vs, T, oT, ts, k _ _ he, hz, hd, h1, r1, r2, k _ _ r3, r4, r5⟩
section
variable {X : Cx} {t : Expr} {cs : List Value} {a : Addr} {cls : Value} {b : Bool} {pn : List (Addr × Obj)} {σ : L2.St} {H : Hp} {s : Shared}
theorem cl_run (hc : ClTest X t cs) (S : Inv (X.suite a pn) [] σ H s) (LT : PySem.W.Looks (model X.prog X.w) s.heap (typeOf (.ref a)) cls) (he : PySem.W.exmAny X.K cls cs = some b) {A' : Around} {Q : Bool → Shared → Prop} {E E' : Value → Shared → Prop}
    (q : ∀ h' : Heap, (∀ b o, s.heap.get? b = some o → h'.get? b = some o) → Q b { s with heap := h' }) : wpAny (model X.prog X.w) (X.A.mark (some (.ref a))) (eval t X.env) (fun c s1 => wpAny (model X.prog X.w) A' (excMatches (.ref a) c) Q E' s1) E s := by
  have nm : ∀ {x : Str} {c : Value} {np : Pos} {Q : Value → Shared → Prop} {E : Value → Shared → Prop}, Names X x c → Q c s → wpAny (model X.prog X.w) (X.A.mark (some (.ref a))) (eval (.Name x np) X.env) Q E s := fun {x c np Q E} h q => by
    obtain ⟨hg, hdbg, hm | ⟨hm, hv, hnn⟩⟩ := h
    · exact ld_glob (X := X.suite a pn) S hg hm q hdbg
    · exact ld_blt (X := X.suite a pn) S hg hm hv q hnn hdbg
  cases hc with
  | one h =>
    obtain ⟨b1, d1, e1, e2, rfl⟩ := PySem.W.exmAny_cons he
    have : d1 = false := by
      injection e2 with e2
      exact e2.symm
    subst this
    rw [Bool.or_false] at q
    exact nm h ((PySem.W.exm_one (M := model X.prog X.w) S.kIn LT e1).here (q s.heap fun _ _ z => z))
  | @two x y c d p q0 tp kk h h2 =>
    refine wpAny_Tuple ?_
    refine wpAny_items_cons (nm h ?_)
    refine wpAny_items_cons (nm h2 ?_)
    refine wpAny_items_nil ⟨by size_fits, ?_⟩
    have kp : ∀ q o, s.heap.get? q = some o → (s.heap.push { cls := .type "tuple", data := .seq [c, d].toArray }).get? q = some o := fun _ _ z => Heap.get?_push_of_some _ z
    exact (PySem.W.exm_tup2 (PySem.W.Frag.In.keeps S.kIn kp) (LT.keeps kp) (Heap.get?_push_size s.heap rfl) he).here (q _ kp)
end
section
variable {X : Cx} {body : List Stmt} {h₀ : ExceptHandler} {hds : List ExceptHandler} {l : List (List Value × (Addr → Value → Option Addr → TS))} {pos : Pos} {tb : WX → TS} {Wout : WX} {n : Str} {i : Nat}
theorem ps_clauses (hs : X.stack = X.env :: X.outer) (hf : X.env.frame = some X.env.locals) (hN : X.N.Nodup) (hi : X.N[i]? = some n) (hln : X.env.kindOf n = some .local) (tk : Takes X Wout)
    (hb : ∀ (W : WX) (pn : List (Addr × Obj)) (xe : Value → Shared → Prop), Takes (X.tr pn xe) W → PassesOwn (model X.prog X.w) X.A X.env xe → PSs (X.tr pn xe) body (tb W))
    (hh : ClsOk X n (h₀ :: hds) l) : PS X (.Try body (h₀ :: hds) [] [] pos) (fun D σ H => tb (wClauses X.K i Wout D l) D σ H) := by
  refine ⟨fun pins s σ H D I h => ?_⟩
  have ok := I.ok
  have hloc : Loc X.env.scope n := .inl hln
  have hfr : X.A.frames = some (X.env :: X.outer) := by rw [ok.frames, hs]
  refine wpAny_Try_except ?_
  refine wpAny_mono ((hb (wClauses X.K i Wout D l) (X.pn ++ pins) (fun e s₁ => wpAny (model X.prog X.w) X.A (noteFrame e X.env) (fun _ s₂ => wpAny (model X.prog X.w) X.A (setFlight e none) (fun _ s₃ =>
    wpAny (model X.prog X.w) X.A (handleBy e X.env (h₀ :: hds)) (SP X pins D) X.xe s₃) X.xe s₂) X.xe s₁) (fun u s' xx => ?_) PassesOwn.looking).run [] s σ H D (I.toTry _) h) (fun f s1 hsp => ?_) (fun e s1 he => he)
  · obtain ⟨a, B, sI, pins', σ', H', cls, d, rfl, J', nb, up, sky, na, os, ag, w⟩ := xx
    have J : Inv X pins σ' H' sI := J'.ofTry ok
    have sky' : Sky B (X.env :: X.outer) a (Zc cls d) X.env.locals s'.heap := by rw [← hs]; exact sky
    show wpAny (model X.prog X.w) X.A (noteFrame (.ref a) X.env) _ _ _
    refine Sky.land Zc.steady hfr hf sky' fun h3 fl3 up3 => ?_
    have far : ∀ {h : Heap} {o : Obj} {vs : Array Value}, h.FunFrames B (X.env :: X.outer) → h.get? a = some o → o.data = .fields vs → a ∉ frs (X.env :: X.outer) := fun {h o vs} ff e dd hm => by
      obtain ⟨_, o', e', hnf⟩ := ff.mem hm
      rw [e] at e'
      cases e'
      exact hnf _ dd
    obtain ⟨oe0, vs0, he0, hz0, hd0⟩ := fl3.there
    have nfr := far fl3.2.2.1 he0 hd0
    have nL : a ≠ X.env.locals := fun z => nfr (List.mem_filterMap.mpr ⟨X.env, List.mem_cons_self, by rw [hf, z]⟩)
    have nF : a ∉ X.fs := fun hm => by
      obtain ⟨e, he, q⟩ := List.mem_filterMap.mp hm
      exact nfr (List.mem_filterMap.mpr ⟨e, List.mem_cons_of_mem _ he, q⟩)
    have go : ∀ {hds' : List ExceptHandler} {l' : List (List Value × (Addr → Value → Option Addr → TS))}, ClsOk X n hds' l' → wClauses X.K i Wout D l' cls d σ' H' →
        ∀ h3 : Heap, HandSPX.FlyingZ B (X.env :: X.outer) a (Zc cls d) h3 → sI.heap.UpToSlots h3 → wpAny (model X.prog X.w) X.A (handleBy (.ref a) X.env hds') (SP X pins D) X.xe { s' with heap := h3 } := by
      intro hds' l' hk
      induction hk with
      | nil =>
        intro w h3 fl3 up3
        refine wpAny_handleBy_nil ?_
        obtain ⟨k1, k2, k3, oe, vs, T, oT, ts', he, hz, hd, h1, hr⟩ := id fl3
        unfold PySem.passOn
        refine wpAny_bind (wpAny_field he hd h1 ?_)
        rw [if_neg (show ¬ ((Value.ref T == Value.none) = true) from by simp)]
        have fin : wpAny (model X.prog X.w) X.A (setFlight (.ref a) X.env.frame) (fun _ s4 => wpAny (model X.prog X.w) X.A (throw (.ref a) : Sem Flow) (SP X pins D) X.xe s4) X.xe { s' with heap := h3 } := by
          rw [hf]
          refine HandSPX.setFlight_upZ fl3 fun h4 hh4 up4 => wpAny_throw (tk _ _ ?_)
          exact ⟨a, B, sI, pins, σ', H', cls, d, rfl, J, nb, up3.trans up4, .inr (.inr (by rw [hs]; exact hh4)), na, os, ag, w⟩
        first
          | exact wpAny_bind (wpAny_pure (wpAny_bind fin))
          | exact wpAny_bind fin
      | @cons t cs ts b₀ suite pos' hds2 l2 hc hsu r ih =>
        intro w h3 fl3 up3
        obtain ⟨b, hb1, hyes, hno⟩ := w
        have J3 : Inv X pins σ' H' { s' with heap := h3 } := J.landed nb fl3.1 up3 os ag
        obtain ⟨oe3, vs3, he3, hz3, hd3⟩ := fl3.there
        have S3 := J3.suite he3 hd3 na nL nF
        have LT : PySem.W.Looks (model X.prog X.w) h3 (typeOf (.ref a)) cls := fun A Q E s k q => wpAny_typeOf_ref (k _ _ he3) (by rw [hz3.1]; exact q)
        refine wpAny_handleBy_cons (codeAny_handlers_test ?_) (by intro q; cases q)
        refine cl_run hc S3 LT hb1 fun h3' kp => ?_
        have fl3' := flyZ_keeps fl3 kp
        have up3' : sI.heap.UpToSlots h3' := up3.trans (Heap.UpToSlots.of_keeps kp)
        cases b with
        | true =>
          refine codeAny_handlers_suite_as ?_
          refine HandSPX.lands_againZ fl3' fun h4 fl4 up4 => ?_
          have J4 : Inv X pins σ' H' { s' with heap := h4 } := J.landed nb fl4.1 (up3'.trans up4) os ag
          obtain ⟨oe4, vs4, he4, hz4, hd4⟩ := fl4.there
          have S4 := J4.suite he4 hd4 na nL nF
          refine store_ok (X := X.suite a ((a, oe4) :: (X.pn ++ pins))) (v := .ref a) S4 hN hi hloc rfl (fun s5 S5 => ?_) (.inr hln)
          refine wpAny_mono ((hsu a oe4 cls d (X.pn ++ pins) hz4 ⟨_, hd4⟩).run [] s5 _ H' _ S5 (hyes rfl a na)) (fun f s6 hsp => ?_) (fun _ _ z => False.elim z)
          have end_ : ∀ {σ6 : L2.St} {H6 : Hp} {Q : Shared → Prop}, Inv (X.suite a ((a, oe4) :: (X.pn ++ pins))) [] σ6 H6 s6 → (∀ s7, Inv X pins (σ6.set i none) H6 s7 → Q s7) →
              wpAny (model X.prog X.w) X.A (do bindName X.env n .none; unbindBehindTheSuite X.env n pos') (fun _ s7 => Q s7) X.xe s6 := fun {σ6 H6 Q} S6 hq => gone_ok (S6.unsuite ok) hN hi hln hq
          cases f with
          | next =>
            obtain ⟨σ6, H6, S6, q6⟩ := hsp
            exact end_ S6 fun s7 J7 => ⟨_, _, J7, q6⟩
          | brk =>
            obtain ⟨σ6, H6, S6, q6⟩ := hsp
            exact end_ S6 fun s7 J7 => ⟨_, _, J7, q6⟩
          | cont =>
            obtain ⟨σ6, H6, S6, q6⟩ := hsp
            exact end_ S6 fun s7 J7 => ⟨_, _, J7, q6⟩
          | ret u =>
            obtain ⟨v6, σ6, H6, S6, r6, q6⟩ := hsp
            exact end_ S6 fun s7 J7 => ⟨_, _, _, J7, r6, q6⟩
        | false =>
          show wpAny _ X.A (handleBy (.ref a) X.env hds2) _ _ _
          exact ih (hno rfl) h3' fl3' up3'
    exact go hh w h3 fl3 (up.trans up3)
  · cases f with
    | next =>
      obtain ⟨σ', H', J', q⟩ := hsp
      exact wpAny_execs_nil ⟨σ', H', J'.ofTry ok, q⟩
    | brk =>
      obtain ⟨σ', H', J', q⟩ := hsp
      exact ⟨σ', H', J'.ofTry ok, q⟩
    | cont =>
      obtain ⟨σ', H', J', q⟩ := hsp
      exact ⟨σ', H', J'.ofTry ok, q⟩
    | ret u =>
      obtain ⟨v, σ', H', J', r, q⟩ := hsp
      exact ⟨v, σ', H', J'.ofTry ok, r, q⟩
end
end J
set_option Elab.async false
set_option linter.all false
set_option maxRecDepth 100000
set_option maxHeartbeats 4000000
set_option exponentiation.threshold 3000
namespace J
open PySem PySem.Spec PyProof.Rows L2 TL

/-! J35: plain data: read, compared, shown. -/
open L2
def Leaf (v : V) (d : PyData) : Prop := (v = .non ∧ d = .none) ∨ (∃ i, v = .int i ∧ d = .int i) ∨ ∃ x, v = .str x ∧ d = .str x
/-- the value v is the plain data d, of nesting at most n -/
def Tr (H : Hp) : Nat → V → PyData → Prop
  | 0 => Leaf
  | n + 1 => fun v d => Leaf v d ∨ (∃ (p : Addr) (xs : List V) (ds : List PyData), v = .ref p ∧ d = .list ds ∧ H p = some (.lst xs) ∧ Paired (Tr H n) xs ds) ∨
      ∃ (p : Addr) (xs : List V) (ds : List PyData), v = .ref p ∧ d = .tuple ds ∧ H p = some (.tup xs) ∧ Paired (Tr H n) xs ds
theorem leaf_reads {h : Heap} {v : V} {d : PyData} {u : Value} (l : Leaf v d) (r : RelV v u) : Reads h u d [] := by
  rcases l with ⟨rfl, rfl⟩ | ⟨i, rfl, rfl⟩ | ⟨x, rfl, rfl⟩
  · cases (show u = Value.none from r)
    exact .none
  · obtain ⟨t, rfl⟩ := (show ∃ t, u = Value.int i t from r)
    exact .int i t
  · obtain ⟨t, rfl⟩ := (show ∃ t, u = Value.str x t from r)
    exact .str x t
theorem readsAll_of {h : Heap} {F : V → PyData → Prop} (ih : ∀ v d u, F v d → RelV v u → ∃ as, Reads h u d as) {xs : List V} {ds : List PyData} (p : Paired F xs ds) : ∀ {us : List Value}, Vals xs us → ∃ as, ReadsAll h us ds as := by
  induction p with
  | nil =>
    intro us r
    cases r
    exact ⟨_, .nil⟩
  | cons a _ k =>
    intro us r
    cases r with
    | cons r1 r2 =>
      obtain ⟨as, h1⟩ := ih _ _ _ a r1
      obtain ⟨bs, h2⟩ := k r2
      exact ⟨_, .cons h1 h2⟩
theorem tr_reads {P : Program} {w : World} {H : Hp} {h : Heap} (ok : HOk P w H h) : ∀ (n : Nat) (v : V) (d : PyData) (u : Value), Tr H n v d → RelV v u → ∃ as, Reads h u d as
  | 0, _, _, _, t, r => ⟨_, leaf_reads t r⟩
  | n + 1, v, d, u, t, r => by
    rcases t with t | ⟨p, xs, ds, rfl, rfl, e, q⟩ | ⟨p, xs, ds, rfl, rfl, e, q⟩
    · exact ⟨_, leaf_reads t r⟩
    · cases (show u = Value.ref p from r)
      obtain ⟨_, its, m, rv, ho⟩ := (show ObjOk P w H h p (.lst xs) from ok p _ e)
      obtain ⟨as, hs⟩ := readsAll_of (tr_reads ok n) q rv
      exact ⟨_, .list ho rfl rfl (by simpa using hs)⟩
    · cases (show u = Value.ref p from r)
      obtain ⟨_, its, rv, o, ho, hc, m, hd⟩ := (show ObjOk P w H h p (.tup xs) from ok p _ e)
      obtain ⟨as, hs⟩ := readsAll_of (tr_reads ok n) q rv
      exact ⟨_, .tuple ho hc hd (by simpa using hs)⟩
theorem leaf_plain {v : V} {d : PyData} (l : Leaf v d) : d.plain = true ∧ d.depth = 0 ∧ PyData.eqv d d = true := by
  rcases l with ⟨_, rfl⟩ | ⟨i, _, rfl⟩ | ⟨x, _, rfl⟩
  · exact ⟨rfl, by simp [PyData.depth], by simp [PyData.eqv]⟩
  · exact ⟨rfl, by simp [PyData.depth], by simp [PyData.eqv]⟩
  · exact ⟨rfl, by simp [PyData.depth], by simp [PyData.eqv]⟩
theorem plainAll_of {F : V → PyData → Prop} {n : Nat} (ih : ∀ v d, F v d → d.plain = true ∧ d.depth ≤ n ∧ PyData.eqv d d = true) {xs : List V} {ds : List PyData} (p : Paired F xs ds) : PyData.plainAll ds = true ∧ PyData.depthAll ds ≤ n ∧ PyData.eqvAll ds ds = true := by
  induction p with
  | nil => exact ⟨rfl, by simp [PyData.depthAll], by simp [PyData.eqvAll]⟩
  | cons a _ k =>
    obtain ⟨h1, h2, h3⟩ := ih _ _ a
    obtain ⟨k1, k2, k3⟩ := k
    refine ⟨by simp [PyData.plainAll, h1, k1], ?_, by simp [PyData.eqvAll, h3, k3]⟩
    simp only [PyData.depthAll]
    omega
theorem tr_plain {H : Hp} : ∀ (n : Nat) (v : V) (d : PyData), Tr H n v d → d.plain = true ∧ d.depth ≤ n ∧ PyData.eqv d d = true
  | 0, _, _, t => let ⟨a, b, c⟩ := leaf_plain t; ⟨a, by omega, c⟩
  | n + 1, v, d, t => by
    rcases t with t | ⟨p, xs, ds, rfl, rfl, e, q⟩ | ⟨p, xs, ds, rfl, rfl, e, q⟩
    · obtain ⟨a, b, c⟩ := leaf_plain t
      exact ⟨a, by omega, c⟩
    · obtain ⟨a, b, c⟩ := plainAll_of (tr_plain n) q
      exact ⟨by simpa [PyData.plain] using a, by simp only [PyData.depth]; omega, by simpa [PyData.eqv] using c⟩
    · obtain ⟨a, b, c⟩ := plainAll_of (tr_plain n) q
      exact ⟨by simpa [PyData.plain] using a, by simp only [PyData.depth]; omega, by simpa [PyData.eqv] using c⟩
/-! ### ==, != of plain data -/
def rEqT : R2 := fun x y H Q => ∃ (n m : Nat) (d e : PyData), n ≤ 60 ∧ Tr H n x d ∧ Tr H m y e ∧ Q (.bl (PyData.eqv d e)) H
def rNeT : R2 := fun x y H Q => ∃ (n m : Nat) (d e : PyData), n ≤ 60 ∧ Tr H n x d ∧ Tr H m y e ∧ Q (.bl (!PyData.eqv d e)) H
section
variable {X : Cx}
theorem op_eqT (hu : X.A.units + 64 < cLine) : OpR X (compareOp .Eq) rEqT := by
  intro pins s σ H x y v u Q I rx ry h
  obtain ⟨n, m, d, e, hn, tx, ty, q⟩ := h
  obtain ⟨as, ra⟩ := tr_reads I.hok n x d v tx rx
  obtain ⟨bs, rb⟩ := tr_reads I.hok m y e u ty ry
  obtain ⟨p1, d1, _⟩ := tr_plain n x d tx
  obtain ⟨p2, d2, _⟩ := tr_plain m y e ty
  exact PySem.SeqAt.eq_plain ra rb p1 p2 (by omega) ⟨.bl _, H, I, rfl, q⟩
theorem op_neT (hu : X.A.units + 64 < cLine) : OpR X (compareOp .NotEq) rNeT := by
  intro pins s σ H x y v u Q I rx ry h
  obtain ⟨n, m, d, e, hn, tx, ty, q⟩ := h
  obtain ⟨as, ra⟩ := tr_reads I.hok n x d v tx rx
  obtain ⟨bs, rb⟩ := tr_reads I.hok m y e u ty ry
  obtain ⟨p1, d1, _⟩ := tr_plain n x d tx
  obtain ⟨p2, d2, _⟩ := tr_plain m y e ty
  exact PySem.SeqAt.ne_plain ra rb p1 p2 (by omega) ⟨.bl _, H, I, rfl, q⟩
end
/-! ### repr -/
theorem odl {M : Model} {K : PySem.W.Frag} {h : Heap} {a : Int} (x : K.In h) (e : PySem.W.nsIn K cStatics "sys.int_max_str_digits" = some none) (ha : a.natAbs.log2 < 3 * 4300) : PySem.W.Looks M h (Builtin.overDigitLimit? a) none := by
  intro A Q E s k q
  unfold Builtin.overDigitLimit?
  by_cases hs : a.natAbs.log2 < 1920
  · rw [if_pos hs]
    exact wpAny_pure q
  · rw [if_neg hs]
    unfold Builtin.intMaxStrDigits
    refine wpAny_bind (wpAny_bind (PySem.W.looks_nsIn x e _ _ _ _ k ?_))
    refine wpAny_pure ?_
    dsimp only
    rw [if_neg (show ¬ (a.natAbs.log2 / 30 + 1 > 1000) by omega), if_pos (by simp [ha])]
    exact wpAny_pure q
set_option exponentiation.threshold 20000 in
theorem int_fits {a : Int} (ha : a.natAbs.log2 < 3 * 4300) : (Str.ofString (toString a)).length ≤ sizeLine := int_text_fits10 (Nat.lt_of_lt_of_le (lt_of_log2 ha) pow_lo)
theorem reprObj_big {P : Program} {w : World} {A : Around} {E Q : Value → Shared → Prop} {s : Shared} {a : Int} {t : Tok} (hu : A.units < cLine) (ha : a.natAbs.log2 < 3 * 4300) (lk : PySem.W.Looks (model P w) s.heap (Builtin.overDigitLimit? a) none)
    (q : Q (.str (toString a) s.toks) { s with toks := s.toks + 1 }) : wpAny (model P w) A (pyReprObj (.int a t)) Q E s := by
  refine wpAny_pyReprObj_slot hu (typeIs_int s a t) PySem.F.slot_int_repr.toG (wpAny_call (codeAny_call_builtin PySem.F.slot_int_repr.plain PySem.F.entry_int_repr (PySem.F.slot_int_repr.check _ _ _ _ _ _ _ _ (typeIs_int _ a t) (PySem.F.args_int_repr_1 _) ?_)))
  unfold Builtin.«int.__repr__»
  show wpAny _ _ (do let r ← Builtin.overDigitLimit? a; _) _ _ s
  refine wpAny_bind (lk _ _ _ _ (fun _ _ z => z) ?_)
  exact wpAny_bind (wpAny_mkStr (wpAny_pure ⟨_, _, rfl, q⟩) (int_fits ha))
theorem reprK_big {P : Program} {w : World} {a : Int} {t : Tok} {h₀ : Heap} {K : PySem.W.Frag} (x : K.In h₀) (e : PySem.W.nsIn K cStatics "sys.int_max_str_digits" = some none) (ha : a.natAbs.log2 < 3 * 4300) : ReprK P w [] h₀ 0 (.int a t) (toString a) := by
  intro base hb A g E s Q hg hcl hu hk hQ
  have hn' : base ≤ sizeLine := by omega
  rw [pyReprUnder_leaf (v := .int a t) hn' (fun _ e => nomatch e)]
  unfold pyRepr
  exact wpAny_bind (reprObj_big (by omega) ha (odl (x.keeps hk) e ha) (wpAny_pure (hQ s.heap _ fun _ _ z => z)))
/-- a leaf that can be shown -/
def LeafV (v : V) : Prop := (∃ i : Int, v = .int i ∧ i.natAbs.log2 < 3 * 4300) ∨ ∃ x : Str, v = .str x ∧ x.length ≤ 1000 ∧ ∀ c ∈ x.cps.toList, c < 16 ^ 8
def leafT : V → Str
  | .int i => toString i
  | .str x => reprText x
  | _ => ""
theorem leafV_len {v : V} (l : LeafV v) : (leafT v).length ≤ 20000 := by
  rcases l with ⟨i, rfl, hi⟩ | ⟨y, rfl, hy, hc⟩
  · have e := int_text_length_le (k := 3 * 4300) (by decide) hi
    show (Str.ofString (toString i)).length ≤ _
    rw [PySem.ofString_length]
    omega
  · have e := StrLaws.reprText_len y hc
    show (reprText y).length ≤ _
    omega
theorem leafV_repr {P : Program} {w : World} {v : V} {u : Value} {h₀ : Heap} {K : PySem.W.Frag} (x : K.In h₀) (e : PySem.W.nsIn K cStatics "sys.int_max_str_digits" = some none) (l : LeafV v) (r : RelV v u) : ReprK P w [] h₀ 0 u (leafT v) := by
  have hl := leafV_len l
  rcases l with ⟨i, rfl, hi⟩ | ⟨y, rfl, hy⟩
  · obtain ⟨t, rfl⟩ := (show ∃ t, u = Value.int i t from r)
    exact reprK_big x e hi
  · obtain ⟨t, rfl⟩ := (show ∃ t, u = Value.str y t from r)
    exact .of_is (ReprIs.str y t (by have : (reprText y).length ≤ 20000 := hl
                                     rw [sizeLine_eq]; omega)) _ _ _
theorem leavesV_repr {P : Program} {w : World} {h₀ : Heap} {K : PySem.W.Frag} (x : K.In h₀) (e : PySem.W.nsIn K cStatics "sys.int_max_str_digits" = some none) : ∀ {vs : List V} {us : List Value}, (∀ v ∈ vs, LeafV v) → Vals vs us → ReprAllK P w [] h₀ 0 us (vs.map leafT)
  | _, _, _, .nil => .nil
  | _, _, h, .cons r1 r2 => .cons (leafV_repr x e (h _ List.mem_cons_self) r1) (leavesV_repr x e (fun v hv => h v (List.mem_cons_of_mem _ hv)) r2)
theorem leaves_sum : ∀ {vs : List V}, (∀ v ∈ vs, LeafV v) → (((vs.map leafT).map (·.length)).sum) ≤ 20000 * vs.length
  | [], _ => Nat.le_refl _
  | v :: vs, h => by
    have h1 := leafV_len (h v List.mem_cons_self)
    have h2 := leaves_sum (vs := vs) fun v hv => h v (List.mem_cons_of_mem _ hv)
    simp only [List.map_cons, List.sum_cons, List.length_cons]
    omega
/-- a short list of leaves -/
structure Leaves (vs : List V) : Prop where
  n0 : vs ≠ []
  n4 : vs.length ≤ 4
  all : ∀ v ∈ vs, LeafV v
theorem Leaves.fits {vs : List V} (l : Leaves vs) : (listText (vs.map leafT)).length ≤ sizeLine := by
  have h1 := listText_len_le (vs.map leafT)
  have h2 := leaves_sum l.all
  have h3 := l.n4
  rw [List.length_map] at h1
  rw [sizeLine_eq]
  omega
theorem leaf_of {v : V} (l : LeafV v) : ∃ d, Leaf v d := by
  rcases l with ⟨i, rfl, _⟩ | ⟨x, rfl, _⟩
  · exact ⟨_, .inr (.inl ⟨i, rfl, rfl⟩)⟩
  · exact ⟨_, .inr (.inr ⟨x, rfl, rfl⟩)⟩
theorem leaves_of : ∀ {vs : List V}, (∀ v ∈ vs, LeafV v) → ∃ ds, Paired Leaf vs ds ∧ ds.length = vs.length
  | [], _ => ⟨[], .nil, rfl⟩
  | v :: vs, h => by
    obtain ⟨d, h1⟩ := leaf_of (h v List.mem_cons_self)
    obtain ⟨ds, h2, h3⟩ := leaves_of (vs := vs) fun v hv => h v (List.mem_cons_of_mem _ hv)
    exact ⟨d :: ds, .cons h1 h2, by simp [h3]⟩
/-- repr of a list of leaves, or of plain data -/
def rRepr : List V → Hp → VK → Prop := fun xs H Q => (∃ (p : Addr) (vs : List V), xs = [.ref p] ∧ H p = some (.lst vs) ∧ Leaves vs ∧ Q (.str (listText (vs.map leafT))) H) ∨
  ∃ (p : Addr) (n : Nat) (d : PyData), xs = [.ref p] ∧ n ≤ 60 ∧ Tr H n (.ref p) d ∧ d.showable = true ∧ d.shown.length ≤ sizeLine ∧ Q (.str d.shown) H
theorem hasDict_plainA : ∀ {F : V → PyData → Prop} (_ : ∀ v d, F v d → d.hasDict = false) {xs : List V} {ds : List PyData}, Paired F xs ds → PyData.hasDictAll ds = false := fun {F} ih {xs ds} p => by
  induction p with
  | nil => simp [PyData.hasDictAll]
  | cons a _ k => simp [PyData.hasDictAll, ih _ _ a, k]
theorem tr_noDict {H : Hp} : ∀ (n : Nat) (v : V) (d : PyData), Tr H n v d → d.hasDict = false
  | 0, _, _, t => by rcases t with ⟨_, rfl⟩ | ⟨i, _, rfl⟩ | ⟨x, _, rfl⟩ <;> simp [PyData.hasDict]
  | n + 1, v, d, t => by
    rcases t with t | ⟨p, xs, ds, rfl, rfl, e, q⟩ | ⟨p, xs, ds, rfl, rfl, e, q⟩
    · rcases t with ⟨_, rfl⟩ | ⟨i, _, rfl⟩ | ⟨x, _, rfl⟩ <;> simp [PyData.hasDict]
    · simpa [PyData.hasDict] using hasDict_plainA (tr_noDict n) q
    · simpa [PyData.hasDict] using hasDict_plainA (tr_noDict n) q
theorem call_repr {X : Cx} (e : PySem.W.nsIn X.K cStatics "sys.int_max_str_digits" = some none) (hg : X.A.guards = some []) (hu : X.A.units + 64 < cLine) : CallR X (.builtin "repr") rRepr := by
  intro pins s σ H xs us Q I r h
  rcases h with ⟨p, vs, rfl, hp, hl, q⟩ | ⟨p, n, d, rfl, hn, ht, hs, hz, q⟩
  · cases r with
    | cons r1 rr =>
      cases rr
      cases r1
      obtain ⟨_, its, m, rv, ho⟩ := (show ObjOk X.prog X.w H s.heap p (.lst vs) from I.hok p _ hp)
      have ra := leavesV_repr (P := X.prog) (w := X.w) I.kIn e hl.all rv
      have hz := hl.fits
      have n0 := hl.n0
      cases rv with
      | nil => exact absurd rfl n0
      | @cons _ y _ l ry rl =>
        refine call_repr_slot (by omega) ⟨_, ho, rfl⟩ PySem.F.slot_list_repr.toG ?_
        refine call_list_reprK (as := []) (h₀ := s.heap) (d := 0) ho rfl rfl (fun z => nomatch z) (by simpa using ra.length_eq) (fun i y e => ra.item i y (by simpa using e)) (g := []) hg (fun b _ => Clear.nil b) (by show X.A.units + 1 + (0 + 1) < cLine; omega) (fun _ _ z => z) (fun h' u tk k => ⟨_, _, rfl, .str _, H, I.kept k, ⟨_, rfl⟩, q⟩) hz
  · cases r with
    | cons r1 rr =>
      cases rr
      cases r1
      obtain ⟨as, ra⟩ := tr_reads I.hok n _ d _ ht (show RelV (.ref p) (.ref p) from rfl)
      obtain ⟨_, hd, _⟩ := tr_plain n _ d ht
      exact repr_of_reads' ra hs (fun z => by rw [tr_noDict n _ _ ht] at z; cases z) hg (by omega) (fun _ _ z => z) (fun h' u tk k => ⟨.str d.shown, H, I.kept k, ⟨_, rfl⟩, q⟩) hz
end J
set_option Elab.async false
set_option linter.all false
set_option maxRecDepth 100000
set_option maxHeartbeats 4000000
set_option exponentiation.threshold 3000
namespace J
open PySem PySem.Spec PyProof.Rows L2 TL

/-! JG: defs around which no text is being made; _law_same. -/
open L2 LamX
/-! ### a def run by its text, whatever the state promises -/
theorem fn_g {P : Program} {w : World} {K : PySem.W.Frag} {mg : Str → Option Value} {base : Heap} {x : Str} {st : Stmt} {f : Addr} {fd : FuncData} {N ps : List Str} {k : Nat} (F : FunD K x x (defArgs st) (defBody st) (defScope st) [] [] f fd) (S : FnScope N ps (defScope st))
    (hbind : ∀ (kV doc pm : Value) (an : Option Addr) (cdv ct : Value) (us : List Value), us.length = ps.length → bindArgs (PySem.W.fnOf x x (defArgs st) (defBody st) (defScope st) .none kV doc pm an cdv ct) ⟨us, []⟩ = pure (ps.zip us))
    {A : Around} {outer : List Env} {s : Shared} {H : Hp} {us : List Value} {vs : List V} {Q : VK} (hr : Room (k + 1) A) (e0 : Env0 P w K mg base A outer s H) (r : Vals vs us) (hl : vs.length = ps.length)
    (hbody : ∀ cdv : Value, Room k (A.deeper (envOfC x (defScope st) s.heap.objs.size f cdv)) → ∃ t, PSs (cxOf CX0 P w K mg base N x (defScope st) f cdv A outer s H E0).nox (defBody st) t ∧ t { nx := fun _ H' => Q .non H', rt := Q } (start N vs) H) :
    codeAny (model P w) A (.call (.ref f) ⟨us, []⟩) (CR CX0 outer P w H s Q E0) s := by
  have hb := FunD.bindsN F hbind
  obtain ⟨oc, od, dV, kV, doc, pm, an, cdv, ct, osl, rfl, lk, hcd, _, _⟩ := F.ex
  have kin : K.In s.heap := e0.mod.kin.keeps fun b o e => (e0.bs b o e).1
  have bt := hb s us kin (by rw [List.append_nil, ← r.length, hl])
  rw [List.append_nil] at bt
  refine run_ofS lk hcd S hr e0 bt r hl fun hr' => ?_
  obtain ⟨t, a, b⟩ := hbody cdv hr'
  exact ⟨t, a.nox, b⟩
/-- a def that lets nothing out; no guard lies around it -/
def FnG (P : Program) (w : World) (K : PySem.W.Frag) (mg : Str → Option Value) (base : Heap) (k : Nat) (x : Str) (R : List V → Hp → VK → Prop) : Prop := ∃ g : Addr, mg x = some (.ref g) ∧ PySem.W.keepIn K (.ref g) = true ∧
  ∀ (A : Around) (outer : List Env) (s : Shared) (H : Hp) (us : List Value) (vs : List V) (Q : VK), Room k A → A.guards = some [] → Env0 P w K mg base A outer s H → Vals vs us → R vs H Q → codeAny (model P w) A (.call (.ref g) ⟨us, []⟩) (CR CX0 outer P w H s Q E0) s
theorem fng_of {P : Program} {w : World} {K : PySem.W.Frag} {mg : Str → Option Value} {base : Heap} {x : Str} {st : Stmt} {f : Addr} {fd : FuncData} {N ps : List Str} {k : Nat} {R : List V → Hp → VK → Prop} (F : FunD K x x (defArgs st) (defBody st) (defScope st) [] [] f fd) (hm : mg x = some (.ref f)) (S : FnScope N ps (defScope st))
    (hbind : ∀ (kV doc pm : Value) (an : Option Addr) (cdv ct : Value) (us : List Value), us.length = ps.length → bindArgs (PySem.W.fnOf x x (defArgs st) (defBody st) (defScope st) .none kV doc pm an cdv ct) ⟨us, []⟩ = pure (ps.zip us)) (len : ∀ vs H Q, R vs H Q → vs.length = ps.length)
    (hbody : ∀ (cdv : Value) (A : Around) (outer : List Env) (s : Shared) (H : Hp) (vs : List V) (Q : VK), Room k (A.deeper (envOfC x (defScope st) s.heap.objs.size f cdv)) → A.guards = some [] → R vs H Q →
      ∃ t, PSs (cxOf CX0 P w K mg base N x (defScope st) f cdv A outer s H E0).nox (defBody st) t ∧ t { nx := fun _ H' => Q .non H', rt := Q } (start N vs) H) : FnG P w K mg base (k + 1) x R :=
  ⟨f, hm, F.kp, fun A outer s H us vs Q hr hG e0 r h => fn_g F S hbind hr e0 r (len _ _ _ h) fun cdv hr' => hbody cdv A outer s H vs Q hr' hG h⟩
section
variable {X : Cx} {f : Addr} {j k : Nat} {x : Str} {R : List V → Hp → VK → Prop} {p pos : Pos} {e : Expr} {es : List Expr} {t : TA}
theorem pe_callF (hc : CallR X (.ref f) R) (hg : Gl X x) (hm : X.mg x = some (.ref f)) (hk : PySem.W.keepIn X.K (.ref f) = true) (ha : PA X (e :: es) t) (hdb : (x == ("__debug__" : Str)) = false := by decide)
    (he : starEach (e :: es) X.env = (false, eval e X.env) :: starEach es X.env := by rfl) (hpl : (backTo pos (starEach es X.env)).any (·.1) = false := by rfl) : PE X (.Call (.Name x p) (e :: es) [] pos) (tCB R t) := by
  refine ⟨fun pins s σ H Q I h => wpAny_Call_Name_kw (ld_glob I hg hm ?_ hdb)⟩
  have step := ha.run pos pins s σ H _ I h
  exact PySem.W.callWith_K (h₀ := X.base) I.ok.mod.kin hk (thn step fun us s1 ⟨vs, H1, I1, r, q⟩ => ⟨I1.kIn, hc pins s1 σ H1 vs us Q I1 r q⟩) he hpl
theorem pe_fng (c : FnG X.prog X.w X.K X.mg X.base k x R) (hr : Room j X.A) (hG : X.A.guards = some []) (ha : PA X (e :: es) t) (hk : k ≤ j := by decide) (hg : Gl X x := by rfl) (hdb : (x == ("__debug__" : Str)) = false := by decide)
    (he : starEach (e :: es) X.env = (false, eval e X.env) :: starEach es X.env := by rfl) (hpl : (backTo pos (starEach es X.env)).any (·.1) = false := by rfl) : PE X (.Call (.Name x p) (e :: es) [] pos) (tCB R t) := by
  obtain ⟨g, hm, kp, run⟩ := c
  refine pe_callF (fun pins s σ H vs us Q I r h => ?_) hg hm kp ha hdb he hpl
  refine wpAny_call (codeAny_mono (run X.A X.stack s H us vs Q (hr.mono hk) hG I.env0 r h) fun r s2 hr => ?_)
  match r, hr with
  | .error e, hr => exact hr.elim
  | .ok (.ret u), hr => exact I.after hr
end
theorem hu64 {A : Around} {k : Nat} (hr : Room k A) : A.units + 64 < cLine := by
  have h := hr.un
  omega
/-! ### _law_same -/
def RSame : List V → Hp → VK → Prop := fun vs H Q => ∃ a b : Addr, vs = [.ref a, .ref b] ∧ ((∃ l, H a = some (.lst l) ∧ H b = some (.lst l) ∧ Leaves l) ∨ ∃ n d, n ≤ 60 ∧ Tr H n (.ref a) d ∧ Tr H n (.ref b) d ∧ d.showable = true ∧ d.shown.length ≤ sizeLine) ∧ Q (.bl true) H
theorem nsIn_digits {K : PySem.W.Frag} {mg : Str → Option Value} (T : Tx K mg) : PySem.W.nsIn K cStatics "sys.int_max_str_digits" = some none := of_decide_eq_true T.e1
section
variable {P : Program} {w : World} {K : PySem.W.Frag} {mg : Str → Option Value} {base : Heap}
abbrev N__law_same : List Str := ["_law_told", "_law_due"]
theorem sc__law_same : FnScope N__law_same ["_law_told", "_law_due"] (defScope s__law_same) := ⟨rfl, rfl, rfl, by decide +kernel, rfl, by decide +kernel, by decide +kernel⟩
theorem ok__law_same (T : Tx K mg) : FnG P w K mg base 1 "_law_same" RSame := by
  obtain ⟨fd, F⟩ := T.d__law_same
  refine fng_of F T.g__law_same sc__law_same (fun _ _ _ _ _ _ us hl => match us, hl with | [_, _], _ => rfl) (fun vs H Q h => ?_) (fun cdv A outer s H vs Q hr hG h => ?_)
  · obtain ⟨a, b, rfl, _⟩ := h
    rfl
  · obtain ⟨a, b, rfl, h, q⟩ := h
    have hu := hu64 hr
    have hd := nsIn_digits T
    refine ⟨_, pss_one (ps_ret (pe_and (pe_cmpR (op_eqT hu) (pv 0) (pv 1) (nomark _)) (pe_one (pe_cmpR op_eq (pe_callB (call_repr hd hG hu) rfl T.f_repr boot_repr (pa_cons (pv 0) pa_nil)) (pe_callB (call_repr hd hG hu) rfl T.f_repr boot_repr (pa_cons (pv 1) pa_nil)) (nomark _))))), ?_⟩
    rcases h with ⟨l, ha, hb, hl⟩ | ⟨n, d, hn, ta, tb, hs, hz⟩
    · obtain ⟨ds, hp, _⟩ := leaves_of hl.all
      have t : ∀ {p : Addr}, H p = some (.lst l) → Tr H 1 (.ref p) (.list ds) := fun {p} e => .inr (.inl ⟨p, l, ds, rfl, rfl, e, hp⟩)
      have eq := (tr_plain 1 _ _ (t ha)).2.2
      refine ⟨_, rfl, _, rfl, 1, 1, _, _, by omega, t ha, t hb, _, rfl, ?_⟩
      rw [eq, if_pos rfl]
      refine ⟨_, rfl, .inl ⟨a, l, rfl, ha, hl, _, rfl, .inl ⟨b, l, rfl, hb, hl, ?_⟩⟩⟩
      exact ⟨rfl, by rw [decide_eq_true rfl]; exact q⟩
    · have eq := (tr_plain n _ _ ta).2.2
      refine ⟨_, rfl, _, rfl, n, n, _, _, hn, ta, tb, _, rfl, ?_⟩
      rw [eq, if_pos rfl]
      refine ⟨_, rfl, .inr ⟨a, n, d, rfl, hn, ta, hs, hz, _, rfl, .inr ⟨b, n, d, rfl, hn, tb, hs, hz, ?_⟩⟩⟩
      exact ⟨rfl, by rw [decide_eq_true rfl]; exact q⟩
end
end J
set_option Elab.async false
set_option linter.all false
set_option maxRecDepth 100000
set_option maxHeartbeats 4000000
set_option exponentiation.threshold 3000
namespace J
open PySem PySem.Spec PyProof.Rows L2 TL

/-! J34: _law_fault. -/
theorem any1 {K : PySem.W.Frag} {cls c : Value} {b : Bool} (h : PySem.W.exmOne K cls c = some b) : PySem.W.exmAny K cls [c] = some b := by
  unfold PySem.W.exmAny
  rw [h]
  cases b <;> rfl
theorem any2 {K : PySem.W.Frag} {cls c d : Value} {b b2 : Bool} (h : PySem.W.exmOne K cls c = some b) (h2 : PySem.W.exmOne K cls d = some b2) : PySem.W.exmAny K cls [c, d] = some (b || b2) := by
  unfold PySem.W.exmAny
  rw [h, any1 h2]
theorem takes_len {X : L2.Cx} {W : L2.WX} (t : L2.Takes X W) : L2.Takes X (fun c d σ H => σ.length = X.N.length → W c d σ H) := fun u s' x => by
  obtain ⟨a, B, sI, pins, σ, H, cls, d, e, I, nb, up, sky, na, os, ag, wd⟩ := x
  exact t u s' ⟨a, B, sI, pins, σ, H, cls, d, e, I, nb, up, sky, na, os, ag, wd I.len⟩
/-- a suite that no error reaches -/
theorem pss_no {X : L2.Cx} {b : List Stmt} : L2.PSs X b (fun _ _ _ => False) := ⟨fun _ _ _ _ _ _ h => h.elim⟩
abbrev N__law_fault : List Str := ["_law_call", "e"]
theorem sc__law_fault : FnScope N__law_fault ["_law_call"] (defScope s__law_fault) := ⟨rfl, rfl, rfl, by decide +kernel, rfl, by decide +kernel, by decide +kernel⟩
section
variable {P : Program} {w : World} {K : PySem.W.Frag} {mg : Str → Option Value} {base : Heap}
/-- the clauses' suites, read -/
def xfs (K : PySem.W.Frag) (C : Str) (a : Addr) (cls : Value) (d : Option Addr) : List Str → TA
  | [] => tNil
  | f :: r => tCons (tXf a cls d (He.ga K C) f (tVar 1)) (xfs K C a cls d r)
def sXf (K : PySem.W.Frag) (C : Str) (k : Str) (fs : List Str) (a : Addr) (cls : Value) (d : Option Addr) : TS := tRet (tLst (tCons (tC (.str k)) (xfs K C a cls d fs)))
def sNm (K : PySem.W.Frag) (a : Addr) (cls : Value) (d : Option Addr) : TS := tRet (tLst (tCons (tIf (tB (tCB (fun xs H Q => ∃ c : V, xs = [.ref a, c] ∧ (∀ u, RelV c u → u = cls) ∧ Q (.bl true) H) (tCons (tVar 1) (tCons (tC (.ref (He.ga K "BadName"))) tNil)))) (tC (.str "name")) (tC (.str "taken"))) (tCons (tXf a cls d (He.ga K "BadName") "name" (tVar 1)) tNil)))
def noS (_ : Addr) (_ : Value) (_ : Option Addr) : TS := fun _ _ _ => False
def clL (K : PySem.W.Frag) : List (List Value × (Addr → Value → Option Addr → TS)) :=
  [([.ref (He.ga K "BadText")], noS), ([.ref (He.ga K "BadName"), .ref (He.ga K "TakenName")], sNm K), ([.ref (He.ga K "NoSpot"), .ref (He.ga K "NoRoad")], noS),
   ([.ref (He.ga K "BadNumber")], sXf K "BadNumber" "number" ["what", "number"]), ([.ref (He.ga K "TooMany")], sXf K "TooMany" "many" ["what", "many", "limit"]), ([.ref (He.ga K "TooLarge")], sXf K "TooLarge" "large" ["what", "number", "limit"]),
   ([.ref (He.ga K "BadPlace"), .ref (He.ga K "Unlike")], noS), ([.ref (He.ga K "BadJourney")], noS)]
def faultT (K : PySem.W.Frag) (tcall : XK → TE) : TS := tSeq (fun D σ H => (fun W => tDrop (tcall fun cls d H' => ∀ σ' : L2.St, List.length σ' = 2 → W cls d σ' H')) (wClauses K 1 (fun _ _ _ _ => False) D (clL K)) D σ H) (tRet (tLst tNil))
theorem law_fault_reads (T : Tx K mg) {fA : Addr} {cdv : Value} {A : Around} {outer : List Env} {s : Shared} {H : Hp} {tcall : XK → TE}
    (hcall : ∀ (W : WX) (pn : List (Addr × Obj)) (xe : Value → Shared → Prop) (E : XK) (p1 p2 : Pos), Takes ((cxOf C8.CX0 P w K mg base N__law_fault "_law_fault" (defScope s__law_fault) fA cdv A outer s H C8.E0).tr pn xe) W → (∀ cls d σ' H', E cls d H' → W cls d σ' H') →
      PE ((cxOf C8.CX0 P w K mg base N__law_fault "_law_fault" (defScope s__law_fault) fA cdv A outer s H C8.E0).tr pn xe) (.Call (.Name "_law_call" p1) [] [] p2) (tcall E)) :
    PSs (cxOf C8.CX0 P w K mg base N__law_fault "_law_fault" (defScope s__law_fault) fA cdv A outer s H C8.E0).nox (defBody s__law_fault) (faultT K tcall) := by
  refine pss_cons (ps_clauses (i := 1) (n := "e") (l := clL K) (tb := fun W => tDrop (tcall fun cls d H' => ∀ σ' : L2.St, List.length σ' = 2 → W cls d σ' H')) (Wout := fun _ _ _ _ => False) rfl rfl sc__law_fault.nd rfl rfl takes_none5 (fun W pn xe tk _ => pss_one (ps_expr (hcall (fun cls d (σ' : L2.St) H' => List.length σ' = 2 → W cls d σ' H') pn xe (fun cls d H' => ∀ σ' : L2.St, List.length σ' = 2 → W cls d σ' H') _ _ (takes_len tk) fun _ _ σ' _ h => h σ') rfl)) ?_) (pss_one (ps_ret (pe_lst pa_nil)))
  refine .cons (.one ⟨rfl, by decide, .inl T.g_BadText⟩) (fun _ _ _ _ _ _ _ => pss_no) ?_
  refine .cons (.two ⟨rfl, by decide, .inl T.g_BadName⟩ ⟨rfl, by decide, .inl T.g_TakenName⟩) (fun a oe cls d pn hz hf => ?_) ?_
  · exact pss_one (ps_ret (pe_lst (pa_cons (pe_ifExp (pt_val (pe_callB (call_isX hz) rfl T.f_isinstance boot_isinstance (pa_cons (pv 1) (pa_cons (pe_glob rfl T.g_BadName rfl) pa_nil)))) pe_str pe_str) (pa_cons (pe_xf (oex_ok T.e2).2 (no_ok T.e4) hz hf (pv 1)) pa_nil))))
  refine .cons (.two ⟨rfl, by decide, .inl T.g_NoSpot⟩ ⟨rfl, by decide, .inl T.g_NoRoad⟩) (fun _ _ _ _ _ _ _ => pss_no) ?_
  refine .cons (.one ⟨rfl, by decide, .inl T.g_BadNumber⟩) (fun a oe cls d pn hz hf => ?_) ?_
  · refine pss_one (ps_ret (pe_lst (pa_cons pe_str (pa_cons (pe_xf (oex_ok T.e5).2 (no_ok T.e7) hz hf (pv 1)) (pa_cons (pe_xf (oex_ok T.e5).2 (no_ok T.e8) hz hf (pv 1)) pa_nil)))))
  refine .cons (.one ⟨rfl, by decide, .inl T.g_TooMany⟩) (fun a oe cls d pn hz hf => ?_) ?_
  · refine pss_one (ps_ret (pe_lst (pa_cons pe_str (pa_cons (pe_xf (oex_ok T.e9).2 (no_ok T.e11) hz hf (pv 1)) (pa_cons (pe_xf (oex_ok T.e9).2 (no_ok T.e12) hz hf (pv 1)) (pa_cons (pe_xf (oex_ok T.e9).2 (no_ok T.e13) hz hf (pv 1)) pa_nil))))))
  refine .cons (.one ⟨rfl, by decide, .inl T.g_TooLarge⟩) (fun a oe cls d pn hz hf => ?_) ?_
  · refine pss_one (ps_ret (pe_lst (pa_cons pe_str (pa_cons (pe_xf (oex_ok T.e14).2 (no_ok T.e16) hz hf (pv 1)) (pa_cons (pe_xf (oex_ok T.e14).2 (no_ok T.e17) hz hf (pv 1)) (pa_cons (pe_xf (oex_ok T.e14).2 (no_ok T.e18) hz hf (pv 1)) pa_nil))))))
  refine .cons (.two ⟨rfl, by decide, .inl T.g_BadPlace⟩ ⟨rfl, by decide, .inl T.g_Unlike⟩) (fun _ _ _ _ _ _ _ => pss_no) ?_
  exact .cons (.one ⟨rfl, by decide, .inl T.g_BadJourney⟩) (fun _ _ _ _ _ _ _ => pss_no) .nil
end
end J
set_option Elab.async false
set_option linter.all false
set_option maxRecDepth 100000
set_option maxHeartbeats 4000000
set_option exponentiation.threshold 3000
namespace J
open PySem PySem.Spec PyProof.Rows L2 TL

/-! J37: the rows of a land as plain data. -/
open L2
def labD : Option Str → PyData
  | none => .none
  | some x => .str x
def roadD (r : Rd) : PyData := .tuple [.str r.name, .str r.start, .str r.fin, .tuple [.int r.sx, .int r.sy], .int r.price, labD r.label]
theorem leaf_int (i : Int) : Leaf (.int i) (.int i) := .inr (.inl ⟨i, rfl, rfl⟩)
theorem leaf_str (x : Str) : Leaf (.str x) (.str x) := .inr (.inr ⟨x, rfl, rfl⟩)
theorem leaf_lab : ∀ o : Option Str, Leaf (labV o) (labD o)
  | none => .inl ⟨rfl, rfl⟩
  | some x => leaf_str x
theorem tr_leaf {H : Hp} {n : Nat} {v : V} {d : PyData} (l : Leaf v d) : Tr H n v d := by
  cases n with
  | zero => exact l
  | succ n => exact .inl l
theorem cell_tr {H : Hp} {v : V} {x y : Int} (h : CellAt H v x y) : Tr H 1 v (.tuple [.int x, .int y]) := by
  obtain ⟨p, rfl, hp⟩ := h
  exact .inr (.inr ⟨p, _, _, rfl, rfl, hp, .cons (leaf_int x) (.cons (leaf_int y) .nil)⟩)
theorem road_tr {H : Hp} {v : V} {r : Rd} (h : RoadT H v r) : Tr H 2 v (roadD r) := by
  obtain ⟨p, q, rfl, hp, hc⟩ := h
  exact .inr (.inr ⟨p, _, _, rfl, rfl, hp, .cons (tr_leaf (leaf_str _)) (.cons (tr_leaf (leaf_str _)) (.cons (tr_leaf (leaf_str _)) (.cons (cell_tr hc) (.cons (tr_leaf (leaf_int _)) (.cons (tr_leaf (leaf_lab _)) .nil)))))⟩)
theorem roads_pr {H : Hp} {zs : List V} {rs : List Rd} (h : Paired (RoadT H) zs rs) : Paired (Tr H 2) zs (rs.map roadD) := by
  induction h with
  | nil => exact .nil
  | cons a _ k => exact .cons (road_tr a) k
theorem rows_tr {H : Hp} {l : Addr} {zs : List V} {rs : List Rd} (hl : H l = some (.lst zs)) (h : Paired (RoadT H) zs rs) : Tr H 3 (.ref l) (.list (rs.map roadD)) := .inr (.inl ⟨l, zs, _, rfl, rfl, hl, roads_pr h⟩)
theorem strs_tr {H : Hp} {xs : List Str} : Paired (Tr H 0) (xs.map V.str) (xs.map PyData.str) := by
  induction xs with
  | nil => exact .nil
  | cons a _ k => exact .cons (leaf_str a) k
theorem names_tr {H : Hp} {l : Addr} {xs : List Str} (hl : H l = some (.lst (xs.map V.str))) : Tr H 1 (.ref l) (.list (xs.map PyData.str)) := .inr (.inl ⟨l, _, _, rfl, rfl, hl, strs_tr⟩)
/-- a sign's number -/
theorem name_signs {x : Str} (h : NameS x) : ∀ c ∈ x.cps.toList, c < 16 ^ 8 := fun c hc => by
  have := h.al c hc
  rcases this with ⟨_, z⟩ | ⟨_, z⟩ | z <;> omega
theorem name_short {x : Str} (h : NameS x) : PyData.leavesShort 13 (.str x) = true := by
  simp only [PyData.leavesShort, List.all_eq_true, decide_eq_true_eq]
  exact name_signs h
theorem int_short {i : Int} (h : i.natAbs ≤ 99) : PyData.leavesShort 13 (.int i) = true := by
  simp only [PyData.leavesShort, decide_eq_true_eq]
  exact PyData.shown_int_le (Nat.lt_of_le_of_lt h (by decide))
theorem int_shows {i : Int} (h : i.natAbs ≤ 99) : PyData.showable (.int i) = true := by
  simp only [PyData.showable, decide_eq_true_eq]
  exact log2_small (Nat.lt_of_le_of_lt h (Nat.lt_of_lt_of_le (show 99 < 2 ^ 7 by decide) (Nat.pow_le_pow_right (by decide) (by decide))))
theorem int_weight {i : Int} (h : i.natAbs ≤ 99) : PyData.weight (.int i) ≤ 8 := by
  simp only [PyData.weight]
  by_cases z : i == 0
  · rw [if_pos z]
    omega
  · rw [if_neg z]
    have : i.natAbs.log2 < 7 := by
      rw [Nat.log2_lt]
      · omega
      · intro e
        apply z
        simp [Int.natAbs_eq_zero.mp e]
    omega
theorem str_weight {x : Str} {n : Nat} (h : x.length ≤ n) : PyData.weight (.str x) ≤ n := by
  simp only [PyData.weight]
  exact h
structure RdShow (r : Rd) : Prop where
  sh : (roadD r).showable = true
  sm : (roadD r).leavesShort 13 = true
  wt : (roadD r).weight ≤ 200
theorem road_show {spots : List Str} {r : Rd} (w : RdW spots r) (hs : ∀ x ∈ spots, NameS x) (z : RdSz r) : RdShow r := by
  have nl : PyData.leavesShort 13 (labD r.label) = true ∧ PyData.showable (labD r.label) = true ∧ PyData.weight (labD r.label) ≤ 40 := by
    cases e : r.label with
    | none => exact ⟨rfl, rfl, by simp [labD, PyData.weight]⟩
    | some x => exact ⟨name_short (w.lb x e).1, rfl, str_weight (z.l x e)⟩
  have s1 : ∀ x : Str, PyData.showable (.str x) = true := fun x => by simp only [PyData.showable]
  have n1 := name_short w.nm
  have n2 := name_short (hs _ w.st)
  have n3 := name_short (hs _ w.fn)
  have w1 := str_weight z.n
  have w2 := str_weight z.s
  have w3 := str_weight z.f
  have w4 := int_weight z.x
  have w5 := int_weight z.y
  have w6 := int_weight z.p
  have w7 := nl.2.2
  refine ⟨?_, ?_, ?_⟩
  · have e : (roadD r).showable = (PyData.showable (.str r.name) && (PyData.showable (.str r.start) && (PyData.showable (.str r.fin) && ((PyData.showable (.int r.sx) && (PyData.showable (.int r.sy) && true)) && (PyData.showable (.int r.price) && (PyData.showable (labD r.label) && true)))))) := by
      simp only [roadD, PyData.showable, PyData.showableAll]
    rw [e, s1, s1, s1, int_shows z.x, int_shows z.y, int_shows z.p, nl.2.1]
    rfl
  · have e : (roadD r).leavesShort 13 = (PyData.leavesShort 13 (.str r.name) && (PyData.leavesShort 13 (.str r.start) && (PyData.leavesShort 13 (.str r.fin) && ((PyData.leavesShort 13 (.int r.sx) && (PyData.leavesShort 13 (.int r.sy) && true)) && (PyData.leavesShort 13 (.int r.price) && (PyData.leavesShort 13 (labD r.label) && true)))))) := by
      simp only [roadD, PyData.leavesShort, PyData.leavesShortAll]
    rw [e, n1, n2, n3, int_short z.x, int_short z.y, int_short z.p, nl.1]
    rfl
  · have e : (roadD r).weight = PyData.weight (.str r.name) + 1 + (PyData.weight (.str r.start) + 1 + (PyData.weight (.str r.fin) + 1 + ((PyData.weight (.int r.sx) + 1 + (PyData.weight (.int r.sy) + 1 + 0)) + 1 + (PyData.weight (.int r.price) + 1 + (PyData.weight (labD r.label) + 1 + 0))))) := by
      simp only [roadD, PyData.weight, PyData.weightAll]
    rw [e]
    omega
theorem all_show {ds : List PyData} {n : Nat} (h : ∀ d ∈ ds, d.showable = true ∧ d.leavesShort 13 = true ∧ d.weight ≤ n) : PyData.showableAll ds = true ∧ PyData.leavesShortAll 13 ds = true ∧ PyData.weightAll ds ≤ (n + 1) * ds.length := by
  induction ds with
  | nil => exact ⟨by simp only [PyData.showableAll], by simp only [PyData.leavesShortAll], by simp only [PyData.weightAll]; omega⟩
  | cons d ds ih =>
    obtain ⟨a, b, c⟩ := h d List.mem_cons_self
    obtain ⟨a2, b2, c2⟩ := ih fun x hx => h x (List.mem_cons_of_mem _ hx)
    refine ⟨by simp only [PyData.showableAll, a, a2, Bool.and_self], by simp only [PyData.leavesShortAll, b, b2, Bool.and_self], ?_⟩
    simp only [PyData.weightAll, List.length_cons, Nat.mul_add]
    omega
theorem rows_show {L : Land} (w : WOk L) (z : LandSz L) : (PyData.list (L.roads.map roadD)).showable = true ∧ (PyData.list (L.roads.map roadD)).shown.length ≤ sizeLine := by
  obtain ⟨a, b, c⟩ := all_show (ds := L.roads.map roadD) (n := 200) fun d hd => by
    obtain ⟨r, hr, rfl⟩ := List.mem_map.mp hd
    have q := road_show (w.rn r hr) (fun x hx => (w.sn x hx).1) (z.q r hr)
    exact ⟨q.sh, q.sm, q.wt⟩
  have h160 := z.r
  rw [List.length_map] at c
  refine ⟨by simpa only [PyData.showable] using a, PyData.shown_fits (B := 13) (by decide) (by decide) (by simpa only [PyData.leavesShort] using b) ?_⟩
  have e : (PyData.list (L.roads.map roadD)).weight = PyData.weightAll (L.roads.map roadD) := by simp only [PyData.weight]
  rw [e]
  have : (201 : Nat) * L.roads.length ≤ 201 * 160 := Nat.mul_le_mul_left _ h160
  omega
theorem eqv_names (xs : List Str) : PyData.eqv (.list (xs.map PyData.str)) (.list (xs.map PyData.str)) = true := by
  simp only [PyData.eqv]
  induction xs with
  | nil => simp [PyData.eqvAll]
  | cons a r ih => simp [PyData.eqvAll, PyData.eqv, ih]
end J
set_option Elab.async false
set_option linter.all false
set_option maxRecDepth 100000
set_option maxHeartbeats 4000000
set_option exponentiation.threshold 3000
namespace J
open PySem PySem.Spec PyProof.Rows L2 TL

/-! J38: _law_is_land. -/
open L2 LamX
theorem call_isOwn {X : Cx} : CallR X (.builtin "isinstance") (fun xs H Q => ∃ (p C dx : Addr) (fs : List (Str × V)) (c : V), xs = [.ref p, c] ∧ H p = some (.ins C dx fs) ∧ (∀ u, RelV c u → u = .ref C) ∧ Q (.bl true) H) := by
  intro pins s σ H xs us Q I r h
  obtain ⟨p, C, dx, fs, c, rfl, hp, hcv, q⟩ := h
  match r with
  | .cons rx (.cons rt .nil) =>
    cases rx
    have ec := hcv _ rt
    subst ec
    obtain ⟨_, _, _, hget, _⟩ := (show ObjOk X.prog X.w H s.heap p (.ins C dx fs) from I.hok p _ hp)
    refine kia_exact (H := fun h => h.get? p = some (PySem.W.instObj C dx)) (fun M h g A Q E s k q => wpAny_typeOf_ref (k _ _ g) q) hget (fun z => nomatch z) fun tk => ⟨.bl true, H, I.kept (t' := tk) fun _ _ z => z, rfl, q⟩
theorem land_text_len {L : Land} (h : LandSz L) : (lawText L).length ≤ 500000 := by
  have h3 := join_len "\n" (linesOf L)
  have e1 : ("\n" : Str).length = 1 := by decide +kernel
  rw [e1] at h3
  exact Nat.le_trans h3 (lines_sum h).1
section
variable {P : Program} {w : World} {K : PySem.W.Frag} {mg : Str → Option Value} {base : Heap}
def RIsLand (K : PySem.W.Frag) : List V → Hp → VK → Prop := fun vs H Q => ∃ (u v : V) (L : Land), vs = [u, v] ∧ MapO K H u L ∧ LandAt H v L ∧ WOk L ∧ LandSz L ∧ ∀ H', Same H H' → Q (.bl true) H'
abbrev N__law_is_land : List Str := ["_law_told", "_law_land_here"]
theorem sc__law_is_land : FnScope N__law_is_land ["_law_told", "_law_land_here"] (defScope s__law_is_land) := ⟨rfl, rfl, rfl, by decide +kernel, rfl, by decide +kernel, by decide +kernel⟩
theorem ok__law_is_land (T : Tx K mg) : FnG P w K mg base 4 "_law_is_land" (RIsLand K) := by
  obtain ⟨fd, F⟩ := T.d__law_is_land
  refine fng_of F T.g__law_is_land sc__law_is_land (fun _ _ _ _ _ _ us hl => match us, hl with | [_, _], _ => rfl) (fun vs H Q h => ?_) (fun cdv A outer s H vs Q hr hG h => ?_)
  · obtain ⟨u, v, L, rfl, _⟩ := h
    rfl
  · obtain ⟨u, v, L, rfl, hm, hv, wok, sz, k⟩ := h
    have hu := hu64 hr
    have hu1 := hu_of hr
    refine ⟨_, (pss_cons (ps_if (pw_or (pt_not (pt_val (pe_callB call_isOwn (by rfl) T.f_isinstance boot_isinstance (pa_cons (pv 0) (pa_cons (pe_glob (v := .ref (He.ga K "Map")) (by rfl) T.g_Map rfl) pa_nil))))) (pw_or (pt_not (pt_val (pe_isT T (pe_fld (pv 0) rfl)))) (pw_or1 (pt_not (pt_val (pe_isT T (pe_fld (pv 0) rfl))))))).pt (pss_one (ps_ret pe_bl)) pss_nil)
      (pss_cons (ps_if (pw_or (pt_cmpR (op_neT hu) (pe_lstOf T (pe_fld (pv 0) rfl)) (pe_dget hu1 (pv 1) pe_str (fun _ _ => rfl)) (nomark _)) (pw_or1 (pt_cmpR op_ne (pe_fld (pv 0) rfl) (pe_op op_add_str (pe_cl (ok__law_land_text T) hr pass0 (pa_cons (pv 1) pa_nil)) pe_str) (nomark _)))).pt (pss_one (ps_ret pe_bl)) pss_nil)
      (pss_one (ps_ret (pe_fng (ok__law_same T) hr hG (pa_cons (pe_cl (ok__law_rows_of T) hr pass0 (pa_cons (pv 0) pa_nil)) (pa_cons (pe_dget hu1 (pv 1) pe_str (fun _ _ => rfl)) pa_nil))))))), ?_⟩
    obtain ⟨p, dx, t1, t2, d1, d2, xs, rfl, hp, ht1, ht2, hx⟩ := id hm
    obtain ⟨a, l1, l2, ys, rfl, ha, hl1, hl2, hy⟩ := id hv
    have hsp : L.spots ≠ [] := wok.s0
    refine ⟨_, rfl, p, _, dx, _, _, rfl, hp, fun u hu => hu, true, rfl, ?_⟩
    refine iteF ⟨_, rfl, p, _, dx, _, _, rfl, hp, T.c_Map, T.n_Map_spots, rfl, ?_⟩
    refine ⟨_, .ty "tuple", .type "tuple", .type "tuple", true, rfl, .ty "tuple", .base (.tup ht1), kit_ty (by decide +kernel), true, rfl, ?_⟩
    refine iteF ⟨_, rfl, p, _, dx, _, _, rfl, hp, T.c_Map, T.n_Map_roads, rfl, ?_⟩
    refine ⟨_, .ty "tuple", .type "tuple", .type "tuple", true, rfl, .ty "tuple", .base (.tup ht2), kit_ty (by decide +kernel), true, rfl, ?_⟩
    refine iteF ⟨_, rfl, p, _, dx, _, _, rfl, hp, T.c_Map, T.n_Map_spots, rfl, t1, _, rfl, .inr (SqT.of ht1), fun l nl => ?_⟩
    have s1 := same_new (o := .lst (L.spots.map V.str)) nl
    refine ⟨_, rfl, a, _, rfl, land_spots (s1 _ _ ha), 1, 1, _, _, by omega, names_tr upd_same, names_tr (s1 _ _ hl1), ?_⟩
    rw [eqv_names]
    refine ⟨false, rfl, iteF ?_⟩
    refine ⟨_, rfl, p, _, dx, _, _, rfl, s1 _ _ hp, T.c_Map, T.n_Map_text, rfl, _, rfl, _, L, rfl, hv.mono s1, sz, fun H2 s2 => ⟨_, _, rfl, rfl, ?_, ?_⟩⟩
    · have e5 : ("\n" : Str).length = 1 := by decide +kernel
      have := land_text_len sz
      have e6 : sizeLine = 16777216 := rfl
      rw [e5, e6]
      omega
    · rw [prog_law hsp]
      refine ⟨rfl, _, rfl, ?_⟩
      have e : (!decide (V.str (lawText L ++ ("\n" : Str)) = V.str (lawText L ++ ("\n" : Str)))) = false := by simp
      rw [e]
      have s3 := s1.trans s2
      refine iteF ⟨_, rfl, _, L, rfl, hm.mono s3, by have := sz.r; omega, fun H4 l4 zs s4 e4 hz => ?_⟩
      have s5 := s3.trans s4
      exact ⟨_, rfl, a, _, rfl, land_roads (s5 _ _ ha), l4, l2, rfl, .inr ⟨3, _, by omega, rows_tr e4 hz, rows_tr (s5 _ _ hl2) (rows_tup hy (Tup.of s5)), (rows_show wok sz).1, (rows_show wok sz).2⟩, k _ s5⟩
end
end J
set_option Elab.async false
set_option linter.all false
set_option maxRecDepth 100000
set_option maxHeartbeats 4000000
set_option exponentiation.threshold 3000
namespace J
open PySem PySem.Spec PyProof.Rows L2 TL

/-! J39: what tells a fault can be shown. -/
open L2
/-- shifts of a size that can be shown -/
def Sh (L : Land) : Prop := ∀ r ∈ L.roads, r.sx.natAbs.log2 < 3 * 4300 ∧ r.sy.natAbs.log2 < 3 * 4300
theorem firstF_mem : ∀ {l : List (Option Fault)} {f : Fault}, firstF l = some f → some f ∈ l
  | [], _, h => nomatch h
  | none :: r, f, h => List.mem_cons_of_mem _ (firstF_mem (l := r) h)
  | some g :: r, f, h => by
    have h : some g = some f := h
    rw [h]
    exact List.mem_cons_self
theorem leafV_int {i : Int} (h : i.natAbs.log2 < 3 * 4300) : LeafV (.int i) := .inl ⟨i, rfl, h⟩
theorem leafV_name {x : Str} (h : NameS x) (hl : x.length ≤ 1000) : LeafV (.str x) := .inr ⟨x, rfl, hl, name_signs h⟩
theorem leafV_word {x : Str} (h : x.length ≤ 1000 := by decide) (h2 : ∀ c ∈ x.cps.toList, c < 16 ^ 8 := by decide +kernel) : LeafV (.str x) := .inr ⟨x, rfl, h, h2⟩
theorem leaves_all2 {a b : V} (ha : LeafV a) (hb : LeafV b) : Leaves [a, b] := ⟨by simp, by simp, fun v hv => by
  rcases List.mem_cons.mp hv with e | hv
  · rw [e]
    exact ha
  · rw [List.mem_singleton.mp hv]
    exact hb⟩
theorem leaves_all3 {a b c : V} (ha : LeafV a) (hb : LeafV b) (hc : LeafV c) : Leaves [a, b, c] := ⟨by simp, by simp, fun v hv => by
  rcases List.mem_cons.mp hv with e | hv
  · rw [e]
    exact ha
  · exact (leaves_all2 hb hc).all v hv⟩
theorem leaves_all4 {a b c d : V} (ha : LeafV a) (hb : LeafV b) (hc : LeafV c) (hd : LeafV d) : Leaves [a, b, c, d] := ⟨by simp, by simp, fun v hv => by
  rcases List.mem_cons.mp hv with e | hv
  · rw [e]
    exact ha
  · exact (leaves_all3 hb hc hd).all v hv⟩
theorem log2_of {n k : Nat} (h : n < 2 ^ k) (hk : k ≤ 1920) : n.log2 < 3 * 4300 := Nat.lt_trans (log2_small (Nat.lt_of_lt_of_le h (Nat.pow_le_pow_right (by decide) hk))) (by decide)
theorem lv9 : LeafV (.int 9) := leafV_int (by decide)
theorem lv24 : LeafV (.int 24) := leafV_int (by decide)
theorem lv0 : LeafV (.int 0) := leafV_int (by decide)
theorem leaves_many {n : Int} (h : n.natAbs.log2 < 3 * 4300) : Leaves (faultL (.many n)) := leaves_all4 leafV_word leafV_word (leafV_int h) lv24
theorem leaves_flat : Leaves (faultL .flat) := leaves_all3 leafV_word leafV_word lv0
theorem nm_leaves {x : Str} {f : Fault} (h : nmFault x = some f) (hn : NameS x) (hl : x.length ≤ 1000) : Leaves (faultL f) := by
  unfold nmFault at h
  by_cases z : x.length ≤ 40
  · rw [if_pos z] at h
    cases h
  · rw [if_neg z] at h
    cases h
    exact leaves_all2 leafV_word (leafV_name hn hl)
theorem fault_leaves {L : Land} {f : Fault} (w : WOk L) (sh : Sh L) (h : landFault L = some f) : Leaves (faultL f) := by
  rcases List.mem_append.mp (firstF_mem h) with q | q
  · obtain ⟨x, hx, e⟩ := List.mem_map.mp q
    exact nm_leaves e (w.sn x hx).1 (w.sn x hx).2
  · obtain ⟨r, hr, e⟩ := List.mem_map.mp q
    have wr := w.rn r hr
    obtain ⟨s1, s2⟩ := sh r hr
    unfold roadFault at e
    cases hn : nmFault r.name with
    | some g =>
      rw [hn] at e
      cases e
      exact nm_leaves hn wr.nm wr.nl
    | none =>
      rw [hn] at e
      have e : shFault r.sx r.sy = some f := e
      unfold shFault at e
      by_cases a : 9 < r.sx.natAbs
      · rw [if_pos a] at e
        cases e
        exact leaves_all4 leafV_word leafV_word (leafV_int s1) lv9
      · rw [if_neg a] at e
        by_cases b : 9 < r.sy.natAbs
        · rw [if_pos b] at e
          cases e
          exact leaves_all4 leafV_word leafV_word (leafV_int s2) lv9
        · rw [if_neg b] at e
          cases e
theorem fdiv_le (a b : Int) : (a.fdiv b).natAbs ≤ a.natAbs := by
  rcases Int.le_total 0 b with h | h
  · rw [Int.fdiv_eq_ediv_of_nonneg a h]
    exact Int.natAbs_ediv_le_natAbs a b
  · have e : a.fdiv b = (-a).fdiv (-b) := (Int.neg_fdiv_neg a b).symm
    rw [e, Int.fdiv_eq_ediv_of_nonneg _ (by omega)]
    have := Int.natAbs_ediv_le_natAbs (-a) (-b)
    rw [Int.natAbs_neg] at this
    exact this
theorem lin_lt {a b x y : Int} (ha : a.natAbs < 2 ^ 20) (hb : b.natAbs < 2 ^ 20) (hx : x.natAbs ≤ 1000) (hy : y.natAbs ≤ 1000) : (a * x - b * y).natAbs < 2 ^ 40 := by
  have h1 : (a * x).natAbs ≤ 2 ^ 20 * 1000 := by
    rw [Int.natAbs_mul]
    exact Nat.mul_le_mul (Nat.le_of_lt ha) hx
  have h2 : (b * y).natAbs ≤ 2 ^ 20 * 1000 := by
    rw [Int.natAbs_mul]
    exact Nat.mul_le_mul (Nat.le_of_lt hb) hy
  have h3 : (2 : Nat) ^ 40 = 1099511627776 := by decide
  have h4 : (2 : Nat) ^ 20 = 1048576 := by decide
  rw [h4] at h1 h2
  rw [h3]
  omega
theorem abs3 {a b c : Int} (h1 : a.natAbs ≤ 24) (h2 : b.natAbs ≤ 9) (h3 : c.natAbs ≤ 24) : (a + b - c).natAbs ≤ 1000 := by omega
theorem wide_sh {M : Mat} {L : Land} (ok : L.Ok) (S : M.Small) (d0 : M.det ≠ 0) (d24 : M.det.natAbs ≤ 24) : Sh (wideLand M L) := by
  intro r hr
  obtain ⟨q, hq, hr⟩ := List.mem_flatMap.mp hr
  obtain ⟨k, hk, rfl⟩ := List.mem_map.mp hr
  have hk := List.mem_range.mp hk
  have qo := ok.rn q hq
  have x9 := qo.x9
  have y9 := qo.y9
  have wp := wi_pos d0
  have small : ∀ n : Nat, n < M.det.natAbs → ((n : Int) % M.wi).natAbs ≤ 24 ∧ ((n : Int) / M.wi).natAbs ≤ 24 := fun n hn => by
    have e1 := Int.emod_nonneg (n : Int) (Int.ne_of_gt wp)
    have e2 : (n : Int) % M.wi ≤ n := by
      have h1 := Int.emod_add_mul_ediv (n : Int) M.wi
      have h2 : 0 ≤ M.wi * ((n : Int) / M.wi) := Int.mul_nonneg (Int.le_of_lt wp) (Int.ediv_nonneg (by omega) (Int.le_of_lt wp))
      omega
    have e3 := Int.natAbs_ediv_le_natAbs (n : Int) M.wi
    have e4 : ((n : Int)).natAbs = n := Int.natAbs_natCast n
    refine ⟨by omega, by omega⟩
  have kk := small k hk
  have hn := restIx_lt (M := M) (x := (k : Int) % M.wi + q.sx) (y := (k : Int) / M.wi + q.sy) d0
  have nn := small _ hn
  obtain ⟨sa, sb, sc, sd⟩ := S
  refine ⟨log2_of (k := 40) (Nat.lt_of_le_of_lt (fdiv_le _ _) (lin_lt sd sb (abs3 kk.1 x9 nn.1) (abs3 kk.2 y9 nn.2))) (by decide), log2_of (k := 40) (Nat.lt_of_le_of_lt (fdiv_le _ _) (lin_lt sa sc (abs3 kk.2 y9 nn.2) (abs3 kk.1 x9 nn.1))) (by decide)⟩
end J
set_option Elab.async false
set_option linter.all false
set_option maxRecDepth 100000
set_option maxHeartbeats 4000000
set_option exponentiation.threshold 3000
namespace J
open PySem PySem.Spec PyProof.Rows L2 TL

/-! J36: a thunk that any later state may call; what _law_fault promises. -/
open L2 LamX
theorem un_shrink {fs fs' ex : List Addr} {H H1 : Hp} {h h1 : Heap} (u : Un fs ex H H1 h h1) (hs : ∀ b ∈ fs, b ∈ fs' ∨ h.get? b = none) : Un fs' ex H H1 h h1 where
  keep := fun b o q n hb hx => u.keep b o q n (fun z => (hs b z).elim hb fun e => by rw [e] at q; cases q) hx
  slot := fun b o q n _ hx => u.any q n hx
  free := u.free
  there := u.there
  tups := u.tups
  frzs := u.frzs
  tbls := u.tbls
/-- f takes nothing; called from any later state it does what tl tells -/
structure Act (P : Program) (w : World) (K : PySem.W.Frag) (mg : Str → Option Value) (base : Heap) (k : Nat) (fs : List Addr) (f c' : Addr) (q : Str) (h0 : Heap) (H0 : Hp) (tl : XK → Hp → VK → Prop) : Prop where
  fn : PySem.W.FnAt f h0
  new : H0 f = none
  out : f ∉ fs
  run : ∀ (A : Around) (outer : List Env) (s : Shared) (H : Hp) (Q : VK) (E : XK), Room (k + 1) A → Env0 P w K mg base A outer s H → Un fs [] H0 H h0 s.heap → H c' = some (CodeO c' q) → tl E H Q →
    codeAny (model P w) A (.call (.ref f) ⟨[], []⟩) (CR (L2.CX P w) outer P w H s Q E) s
section
variable {P : Program} {w : World} {K : PySem.W.Frag} {mg : Str → Option Value} {base : Heap} {k : Nat} {fs fs' : List Addr} {f c' : Addr} {q : Str} {h0 h1 : Heap} {H0 H1 : Hp} {tl : XK → Hp → VK → Prop}
theorem fnAt_un (x : PySem.W.FnAt f h0) (n : H0 f = none) (o : f ∉ fs) (u : Un fs [] H0 H1 h0 h1) : PySem.W.FnAt f h1 := by
  obtain ⟨o1, cl, fd, sl, e⟩ := x
  exact ⟨o1, cl, fd, sl, u.keep f _ e n o (by simp)⟩
theorem fnAt_there (x : PySem.W.FnAt f h0) : h0.get? f ≠ none := by
  obtain ⟨o1, cl, fd, sl, e⟩ := x
  rw [e]
  exact fun z => nomatch z
theorem Act.deep (a : Act P w K mg base k fs f c' q h0 H0 tl) (u : Un fs' [] H0 H1 h0 h1) (hs : ∀ b ∈ fs', b ∈ fs ∨ h0.get? b = none) : Act P w K mg base k fs' f c' q h1 H1 tl := by
  have out' : f ∉ fs' := fun z => (hs f z).elim a.out fun e => fnAt_there a.fn e
  have n1 : H1 f = none := by
    obtain ⟨o1, cl, fd, sl, e⟩ := a.fn
    exact u.free f _ e a.new (by simp)
  exact ⟨fnAt_un a.fn a.new out' u, n1, out', fun A outer s H Q E hr e0 u2 hc ht => a.run A outer s H Q E hr e0 (un_shrink (u.trans u2) hs) hc ht⟩
end
/-- the frames of a def that runs: its own is new -/
theorem frs_new {X : Cx} {pins : List (Addr × Obj)} {σ : L2.St} {H : Hp} {s : Shared} (I : Inv X pins σ H s) : ∀ b ∈ frs X.stack, b ∈ X.fs ∨ X.s_0.heap.get? b = none := fun b hb => by
  rcases List.mem_cons.mp (I.stkSub b hb) with e | e
  · refine .inr ?_
    rw [e]
    cases q : X.s_0.heap.get? X.env.locals with
    | none => rfl
    | some o => exact absurd (Nat.lt_of_lt_of_le (Heap.lt_size q) I.ok.above) (Nat.lt_irrefl _)
  · exact .inl e
/-- the thunk that a def got, handed on to the next -/
theorem Act.pass {X : Cx} {pins : List (Addr × Obj)} {σ : L2.St} {H : Hp} {s : Shared} {k : Nat} {f c' : Addr} {q : Str} {tl : XK → Hp → VK → Prop} (I : Inv X pins σ H s) (hex : X.ex = []) (a : Act X.prog X.w X.K X.mg X.base k X.fs f c' q X.s_0.heap X.H_0 tl) :
    Act X.prog X.w X.K X.mg X.base k (frs X.stack) f c' q s.heap H tl := by
  have u := I.base
  rw [hex] at u
  exact a.deep (u.mono (fun b hb => by
    rcases I.ok.stk with e | ⟨e, _⟩
    · rw [e]
      exact hb
    · rw [e]
      obtain ⟨e', he', q'⟩ := List.mem_filterMap.mp hb
      exact List.mem_filterMap.mpr ⟨e', List.mem_cons_of_mem _ he', q'⟩) fun _ z => z) (frs_new I)
/-- a(): the thunk that the def got -/
theorem pe_thunk {X : Cx} {k i : Nat} {f c' : Addr} {q : Str} {tl : XK → Hp → VK → Prop} {a : Str} {E : XK} {p1 p2 : Pos} (hA : Room (k + 1) X.A) (hex : X.ex = [])
    (act : Act X.prog X.w X.K X.mg X.base k X.fs f c' q X.s_0.heap X.H_0 tl) (hx : Passes (L2.CX X.prog X.w) X E) (hN : X.N[i]? = some a) (hv : Vis X.env.scope a) (hd : (a == ("__debug__" : Str)) = false := by decide) (hcd : (a == ("__classdict__" : Str)) = false := by decide) :
    PE X (.Call (.Name a p1) [] [] p2) (fun σ H Q => σ[i]? = some (some (.ref f)) ∧ H c' = some (CodeO c' q) ∧ tl E H Q) := by
  refine ⟨fun pins s σ H Q I h => ?_⟩
  obtain ⟨e1, e2, e3⟩ := h
  refine wpAny_Call_Name_kw (thn ((pe_var (pos := p1) (i := i) hN hv hd hcd).run pins s σ H (fun v H1 => v = .ref f ∧ H1 = H) I ⟨_, e1, rfl, rfl⟩) fun u s1 hu => ?_)
  obtain ⟨v, H1, I1, r1, rfl, rfl⟩ := hu
  cases (show u = Value.ref f from r1)
  have ac := act.pass I1 hex
  refine PySem.W.callWith_F0 ac.fn (wpAny_call (codeAny_mono (ac.run X.A X.stack s1 H1 Q E hA I1.env0 Un.refl e2 e3) fun r s2 hr => ?_))
  match r, hr with
  | .error e, hr => exact hx pins σ H1 s1 e s2 I1 hr
  | .ok (.ret u), hr => exact I1.after hr
/-! ### _law_fault -/
/-- what a thunk does from every heap that grew: ends in the fault, or gives G -/
def Does (K : PySem.W.Frag) (tl : XK → Hp → VK → Prop) (H : Hp) (F : Option Fault) (G : Hp → V → Prop) : Prop := ∀ (E : XK) (H1 : Hp) (Q : VK), Same H H1 → Ends2 K F H1 G Q E → tl E H1 Q
theorem Does.mono {K : PySem.W.Frag} {tl : XK → Hp → VK → Prop} {H H' : Hp} {F : Option Fault} {G : Hp → V → Prop} (d : Does K tl H F G) (s : Same H H') : Does K tl H' F G := fun E H1 Q s1 h => d E H1 Q (s.trans s1) h
section
variable {P : Program} {w : World} {K : PySem.W.Frag} {mg : Str → Option Value} {base : Heap}
theorem fault_told (T : Tx K mg) {fl : Fault} {cls : Value} {d : Option Addr} {H : Hp} {σ : L2.St} {Q : VK} {D : Ends} (e : ErrAt K fl cls d H) (hrt : D.rt = Q) (hQ : ∀ (H' : Hp) (l : Addr), Same H H' → H' l = some (.lst (faultL fl)) → Q (.ref l) H') (hσ : σ.length = 2) :
    wClauses K 1 (fun _ _ _ _ => False) D (clL K) cls d σ H := by
  have put : ∀ (a : Addr), (σ.set 1 (some (.ref a)))[1]? = some (some (V.ref a)) := fun a => by
    rw [List.getElem?_set_self (by omega)]
  have fin : ∀ (xs : List V), xs = faultL fl → ∀ p, H p = none → Q (.ref p) (upd H p (.lst xs)) := fun xs ex p hp => hQ _ p (same_new hp) (by rw [upd_same, ex])
  cases fl with
  | name x =>
    obtain ⟨rfl, dd, rfl, hd⟩ := e
    refine ⟨false, any1 T.x_BadName_BadText, (fun z => nomatch z), fun _ => ?_⟩
    refine ⟨true, any2 T.x_BadName_BadName T.x_BadName_TakenName, fun _ a ha => ?_, fun z => nomatch z⟩
    refine ⟨.ref a, put a, V.ref (He.ga K "BadName"), rfl, fun u hu => hu, true, rfl, ?_⟩
    refine iteT ⟨.ref a, put a, rfl, rfl, dd, _, _, rfl, hd, rfl, by size_fits, ?_⟩
    show ∀ p, H p = none → D.rt (.ref p) (upd H p (.lst _))
    rw [hrt]
    exact fin _ rfl
  | large n =>
    obtain ⟨rfl, dd, rfl, hd⟩ := e
    refine ⟨false, any1 T.x_TooLarge_BadText, (fun z => nomatch z), fun _ => ?_⟩
    refine ⟨false, any2 T.x_TooLarge_BadName T.x_TooLarge_TakenName, (fun z => nomatch z), fun _ => ?_⟩
    refine ⟨false, any2 T.x_TooLarge_NoSpot T.x_TooLarge_NoRoad, (fun z => nomatch z), fun _ => ?_⟩
    refine ⟨false, any1 T.x_TooLarge_BadNumber, (fun z => nomatch z), fun _ => ?_⟩
    refine ⟨false, any1 T.x_TooLarge_TooMany, (fun z => nomatch z), fun _ => ?_⟩
    refine ⟨true, any1 T.x_TooLarge_TooLarge, fun _ a ha => ?_, fun z => nomatch z⟩
    refine ⟨.ref a, put a, rfl, rfl, dd, _, _, rfl, hd, rfl, .ref a, put a, rfl, rfl, dd, _, _, rfl, hd, rfl, .ref a, put a, rfl, rfl, dd, _, _, rfl, hd, rfl, by size_fits, ?_⟩
    show ∀ p, H p = none → D.rt (.ref p) (upd H p (.lst _))
    rw [hrt]
    exact fin _ rfl
  | many n =>
    obtain ⟨rfl, dd, rfl, hd⟩ := e
    refine ⟨false, any1 T.x_TooMany_BadText, (fun z => nomatch z), fun _ => ?_⟩
    refine ⟨false, any2 T.x_TooMany_BadName T.x_TooMany_TakenName, (fun z => nomatch z), fun _ => ?_⟩
    refine ⟨false, any2 T.x_TooMany_NoSpot T.x_TooMany_NoRoad, (fun z => nomatch z), fun _ => ?_⟩
    refine ⟨false, any1 T.x_TooMany_BadNumber, (fun z => nomatch z), fun _ => ?_⟩
    refine ⟨true, any1 T.x_TooMany_TooMany, fun _ a ha => ?_, fun z => nomatch z⟩
    refine ⟨.ref a, put a, rfl, rfl, dd, _, _, rfl, hd, rfl, .ref a, put a, rfl, rfl, dd, _, _, rfl, hd, rfl, .ref a, put a, rfl, rfl, dd, _, _, rfl, hd, rfl, by size_fits, ?_⟩
    show ∀ p, H p = none → D.rt (.ref p) (upd H p (.lst _))
    rw [hrt]
    exact fin _ rfl
  | flat =>
    obtain ⟨rfl, dd, rfl, hd⟩ := e
    refine ⟨false, any1 T.x_BadNumber_BadText, (fun z => nomatch z), fun _ => ?_⟩
    refine ⟨false, any2 T.x_BadNumber_BadName T.x_BadNumber_TakenName, (fun z => nomatch z), fun _ => ?_⟩
    refine ⟨false, any2 T.x_BadNumber_NoSpot T.x_BadNumber_NoRoad, (fun z => nomatch z), fun _ => ?_⟩
    refine ⟨true, any1 T.x_BadNumber_BadNumber, fun _ a ha => ?_, fun z => nomatch z⟩
    refine ⟨.ref a, put a, rfl, rfl, dd, _, _, rfl, hd, rfl, .ref a, put a, rfl, rfl, dd, _, _, rfl, hd, rfl, by size_fits, ?_⟩
    show ∀ p, H p = none → D.rt (.ref p) (upd H p (.lst _))
    rw [hrt]
    exact fin _ rfl
/-- what a call of _law_fault with a thunk promises -/
def FaultOk (P : Program) (w : World) (K : PySem.W.Frag) (mg : Str → Option Value) (base : Heap) (kt k : Nat) (g : Addr) : Prop :=
  ∀ (A : Around) (outer : List Env) (s : Shared) (H : Hp) (Q : VK) (f c' : Addr) (q : Str) (tl : XK → Hp → VK → Prop) (F : Option Fault) (G : Hp → V → Prop), Room k A → Env0 P w K mg base A outer s H →
    Act P w K mg base kt (frs outer) f c' q s.heap H tl → H c' = some (CodeO c' q) → Does K tl H F G → (∀ (H' : Hp) (l : Addr), Same H H' → H' l = some (.lst (faultO F)) → Q (.ref l) H') →
    codeAny (model P w) A (.call (.ref g) ⟨[.ref f], []⟩) (CR CX0 outer P w H s Q E0) s
theorem ok__law_fault (T : Tx K mg) (kt : Nat) : ∃ g : Addr, mg "_law_fault" = some (.ref g) ∧ PySem.W.keepIn K (.ref g) = true ∧ FaultOk P w K mg base kt (kt + 2) g := by
  obtain ⟨fd, F⟩ := T.d__law_fault
  refine ⟨_, T.g__law_fault, F.kp, ?_⟩
  intro A outer s H Q f c' q tl Ft G hr e0 act hc does h
  refine fn_g F sc__law_fault (fun _ _ _ _ _ _ us hl => match us, hl with | [_], _ => rfl) hr e0 (.cons (show RelV (.ref f) (.ref f) from rfl) .nil) rfl fun cdv hr' => ?_
  refine ⟨_, law_fault_reads T (tcall := fun E σ H Q => σ[0]? = some (some (.ref f)) ∧ H c' = some (CodeO c' q) ∧ tl E H Q) (fun W pn xe E p1 p2 tk hW => pe_thunk (i := 0) hr' rfl act (passes_call tk hW) rfl (.inl rfl)), rfl, hc, ?_⟩
  refine does _ H _ (Same.refl H) ⟨fun eF H' v s1 _ => ?_, fun fl eF H' cls d s1 he σ' hl => ?_⟩
  · subst eF
    exact ⟨by size_fits, fun p hp => h _ p (s1.trans (same_new hp)) upd_same⟩
  · subst eF
    exact fault_told (Q := Q) T he rfl (fun H2 l s2 e => h H2 l (s1.trans s2) e) hl
end
end J
set_option Elab.async false
set_option linter.all false
set_option maxRecDepth 100000
set_option maxHeartbeats 4000000
set_option exponentiation.threshold 3000
namespace J
open PySem PySem.Spec PyProof.Rows L2 TL

/-! J40: _law_made_right. -/
open L2 LamX
theorem passes_no {X : Cx} : Passes (L2.CX X.prog X.w) X (fun _ _ _ => False) := fun pins σ H s e s' I c => by
  obtain ⟨_, _, _, _, _, _, _, _, _, _, _, _, z⟩ := c
  exact z.elim
theorem eqv_nil : PyData.eqv (.list []) (.list []) = true := by simp [PyData.eqv, PyData.eqvAll]
theorem nil_tr {H : Hp} {p : Addr} (h : H p = some (.lst [])) : Tr H 1 (.ref p) (.list []) := .inr (.inl ⟨p, [], [], rfl, rfl, h, .nil⟩)
section
variable {P : Program} {w : World} {K : PySem.W.Frag} {mg : Str → Option Value} {base : Heap}
/-- _law_fault, called with the thunk that the def got -/
def RFault (K : PySem.W.Frag) (f c' : Addr) (q : Str) (tl : XK → Hp → VK → Prop) : List V → Hp → VK → Prop := fun vs H Q => vs = [.ref f] ∧ H c' = some (CodeO c' q) ∧ ∃ (F : Option Fault) (G : Hp → V → Prop), Does K tl H F G ∧ ∀ (H' : Hp) (l : Addr), Same H H' → H' l = some (.lst (faultO F)) → Q (.ref l) H'
theorem call_fault {X : Cx} {kt k j : Nat} {g f c' : Addr} {q : Str} {tl : XK → Hp → VK → Prop} (F : FaultOk X.prog X.w X.K X.mg X.base kt k g) (hr : Room j X.A) (hk : k ≤ j) (hex : X.ex = [])
    (act : Act X.prog X.w X.K X.mg X.base kt X.fs f c' q X.s_0.heap X.H_0 tl) : CallR X (.ref g) (RFault X.K f c' q tl) := by
  intro pins s σ H xs us Q I r h
  obtain ⟨rfl, hc, Ft, G, does, q⟩ := h
  match r with
  | .cons r1 .nil =>
    cases r1
    refine wpAny_call (codeAny_mono (F X.A X.stack s H Q f c' _ tl Ft G (hr.mono hk) I.env0 (act.pass I hex) hc does q) fun r s2 hr => ?_)
    match r, hr with
    | .error e, hr => exact hr.elim
    | .ok (.ret u), hr => exact I.after hr
/-- what a call of _law_made_right promises -/
def MadeOk (P : Program) (w : World) (K : PySem.W.Frag) (mg : Str → Option Value) (base : Heap) (kt k : Nat) (g : Addr) : Prop :=
  ∀ (A : Around) (outer : List Env) (s : Shared) (H : Hp) (Q : VK) (f c' : Addr) (q : Str) (tl : XK → Hp → VK → Prop) (v : V) (u : Value) (L : Land), Room k A → A.guards = some [] → Env0 P w K mg base A outer s H →
    Act P w K mg base kt (frs outer) f c' q s.heap H tl → H c' = some (CodeO c' q) → RelV v u → LandAt H v L → WOk L → Sh L → Does K tl H (landFault L) (fun H' x => MapO K H' x L) → (∀ H', Same H H' → Q (.bl true) H') →
    codeAny (model P w) A (.call (.ref g) ⟨[.ref f, u], []⟩) (CR CX0 outer P w H s Q E0) s
abbrev N__law_made_right : List Str := ["_law_call", "_law_land_here", "_law_fault_here", "_law_told"]
theorem sc__law_made_right : FnScope N__law_made_right ["_law_call", "_law_land_here"] (defScope s__law_made_right) := ⟨rfl, rfl, rfl, by decide +kernel, rfl, by decide +kernel, by decide +kernel⟩
theorem ok__law_made_right (T : Tx K mg) (kt : Nat) (hkt : 4 ≤ kt) : ∃ g : Addr, mg "_law_made_right" = some (.ref g) ∧ PySem.W.keepIn K (.ref g) = true ∧ MadeOk P w K mg base kt (kt + 3) g := by
  obtain ⟨fd, F⟩ := T.d__law_made_right
  obtain ⟨gf, mf, kf, Ff⟩ := ok__law_fault (P := P) (w := w) (base := base) T kt
  refine ⟨_, T.g__law_made_right, F.kp, ?_⟩
  intro A outer s H Q f c' q tl v u L hr hG e0 act hc ru hv wok sh does k
  refine fn_g F sc__law_made_right (fun _ _ _ _ _ _ us hl => match us, hl with | [_, _], _ => rfl) hr e0 (.cons (show RelV (.ref f) (.ref f) from rfl) (.cons ru .nil)) rfl fun cdv hr' => ?_
  have hu := hu64 hr'
  refine ⟨_, (pss_cons (par2 2 3 sc__law_made_right.nd (pa_cons (pe_cl (ok__law_land_fault T) (hr'.mono (j := kt + 2) (Nat.le_refl _)) pass0 (pa_cons (pv 1) pa_nil) (by omega)) (pa_cons (pe_callF (call_fault Ff hr' (Nat.le_refl _) rfl act) (by rfl) mf kf (pa_cons (pv 0) pa_nil)) pa_nil)))
      (pss_cons (ps_if (pt_cmpR (op_neT hu) (pv 2) (pe_lst pa_nil) (nomark _)) (pss_one (ps_ret (pe_fng (ok__law_same T) hr' hG (pa_cons (pv 3) (pa_cons (pv 2) pa_nil)) (by omega)))) pss_nil)
      (pss_one (ps_ret (pe_and (pe_cmpR (op_eqT hu) (pv 3) (pe_lst pa_nil) (nomark _)) (pe_one (pe_fng (ok__law_is_land T) hr' hG (pa_cons (pe_thunk (i := 0) (E := fun _ _ _ => False) (hr'.mono (by omega)) rfl act passes_no rfl (.inl rfl)) (pa_cons (pv 1) pa_nil)) (by omega)))))))), ?_⟩
  refine ⟨_, rfl, v, L, rfl, hv, wok, fun H1 l1 s1 e1 => ⟨_, rfl, rfl, s1 _ _ hc, _, _, does.mono s1, fun H2 l2 s2 e2 => ⟨_, _, rfl, ?_⟩⟩⟩
  have s12 := s1.trans s2
  refine ⟨_, rfl, by size_fits, fun p np => ?_⟩
  have s3 := same_new (o := .lst []) np
  have s13 := s12.trans s3
  have f1 := s3 _ _ (s2 _ _ e1)
  have f2 := s3 _ _ e2
  have tp := nil_tr (upd_same (H := H2) (a := p) (o := .lst []))
  cases hF : landFault L with
  | none =>
    rw [hF] at f1 f2
    refine ⟨1, 1, _, _, by omega, nil_tr f1, tp, _, rfl, ?_⟩
    rw [eqv_nil]
    refine iteF ⟨_, rfl, by size_fits, fun p2 np2 => ?_⟩
    have s4 := same_new (o := .lst []) np2
    refine ⟨1, 1, _, _, by omega, nil_tr (s4 _ _ f2), nil_tr upd_same, _, rfl, ?_⟩
    rw [eqv_nil]
    have s14 := s13.trans s4
    refine iteT ⟨rfl, s14 _ _ hc, does _ _ _ s14 ⟨fun _ H5 x s5 hx => ?_, fun fl e => by rw [hF] at e; cases e⟩⟩
    have s15 := s14.trans s5
    exact ⟨_, rfl, x, v, L, rfl, hx, hv.mono s15, wok, wok.sz hF, fun H6 s6 => k _ (s15.trans s6)⟩
  | some fl =>
    rw [hF] at f1 f2
    have lv := fault_leaves wok sh hF
    obtain ⟨ds, hd, hl⟩ := leaves_of lv.all
    have t1 : Tr (upd H2 p (.lst [])) 1 (.ref l1) (.list ds) := .inr (.inl ⟨l1, _, _, rfl, rfl, f1, hd⟩)
    refine ⟨1, 1, _, _, by omega, t1, tp, _, rfl, ?_⟩
    have e : PyData.eqv (.list ds) (.list []) = false := by
      cases ds with
      | nil => exact absurd (List.eq_nil_of_length_eq_zero hl.symm) lv.n0
      | cons a r => simp [PyData.eqv, PyData.eqvAll]
    rw [e]
    exact iteT ⟨_, rfl, _, rfl, l2, l1, rfl, .inl ⟨_, f2, f1, lv⟩, k _ s13⟩
end
end J
set_option Elab.async false
set_option linter.all false
set_option maxRecDepth 100000
set_option maxHeartbeats 4000000
set_option exponentiation.threshold 3000
namespace J
open PySem PySem.Spec PyProof.Rows L2 TL

/-! J41: a lambda handed to a def that calls it later. -/
open L2 LamX
section
variable {X : Cx} {pins : List (Addr × Obj)} {σ : L2.St} {H : Hp} {s : Shared} {params : Arguments} {body : Expr} {scope : Scope} {t : XK → TE} {k : Nat}
theorem act_of_lam {f c' : Addr} {pm ctv : Value} (I : Inv X pins σ H s) (L : LamS X.env.scope scope) (hf : s.heap.get? f = some (PySem.W.kla_obj "<lambda>" (X.env.qual ++ "<lambda>") params body scope (cloFrom X.env.cells scope.names []) pm c' ctv)) (hfn : H f = none) (hfr : f ∉ frs X.stack)
    (hbind : bindArgs (PySem.W.kla_fn "<lambda>" (X.env.qual ++ "<lambda>") params body scope (cloFrom X.env.cells scope.names []) pm (.ref c') ctv) ⟨[], []⟩ = pure [])
    (hbody : ∀ (A : Around) (outer : List Env) (s : Shared) (H : Hp) (E : XK), Room k (A.deeper (lamEnv X scope s.heap.objs.size f c')) → PE (lamCx X A outer s H E scope f c') body (t E)) :
    Act X.prog X.w X.K X.mg X.base k (frs X.stack) f c' (X.env.qual ++ "<lambda>") s.heap H (fun E H' Q' => t E σ H' Q') := by
  refine ⟨⟨_, _, _, _, hf⟩, hfn, hfr, fun A outer s1 HZ Q E hr e0 un hc ht => ?_⟩
  have g1 := un.keep f _ hf hfn hfr (by simp)
  obtain ⟨⟨oc, vs, tk, q1, q2, q3⟩, _, _⟩ := e0.hok c' _ hc
  have lim : s1.heap.NoLimit := e0.mod.nolimit.keeps fun b o e => (e0.bs b o e).1
  refine PySem.W.kla_callFunE hr.depth g1 rfl L.co L.gen rfl ⟨c', oc, vs, tk, rfl, q1, q2, q3⟩ ?_
  rw [hbind]
  refine wpAny_pure (wpAny_newFunctionEnv (fun y hy => (L.own y hy).2) (fun y hy => absurd hy (by simp)) (fun h₁ hns hsb => ⟨lim.fresh _ hsb, ?_⟩) L.kind)
  have kp : ∀ b o, s1.heap.get? b = some o → h₁.get? b = some o := fun b o e => hsb.extBut b o (Nat.ne_of_lt (Heap.lt_size e)) (Heap.get?_push_of_some _ e)
  have J := lam_start2 (E := E) (f := f) (c' := c') (tk := s1.toks + ([] : List (Str × Value)).length) I L e0 hr.hd un hns kp
  have run := (hbody A outer s1 HZ E (hr.deeper _)).run [] _ _ HZ Q J ht
  show codeAny _ _ (.expr body (lamEnv X scope s1.heap.objs.size f c')) _ _
  refine PySem.W.kla_codeExpr (wpAny_mono run (fun v s' hq => ?_) fun e s' hq => hq)
  obtain ⟨w', H', J', rv, q⟩ := hq
  exact ⟨w', H', J'.os, J'.bare, J'.base, J'.hok, rv, q⟩
/-- told at the making: what the lambda does, where its tables stand -/
def tLamF (K : PySem.W.Frag) (T : List (Addr × Str)) (t : XK → TE) : TE := fun σ H Q => Tabs T H ∧ ∀ H1, ExtN H H1 → Tabs T H1 → ∃ (F : Option Fault) (G : Hp → V → Prop), Does K (fun E H' Q' => t E σ H' Q') H1 F G ∧ ∀ (H' : Hp) (l : Addr), Same H1 H' → H' l = some (.lst (faultO F)) → Q (.ref l) H'
def tLamM (K : PySem.W.Frag) (T : List (Addr × Str)) (t : XK → TE) (i : Nat) : TE := fun σ H Q => Tabs T H ∧ ∃ v, σ[i]? = some (some v) ∧ ∀ H1, ExtN H H1 → Tabs T H1 → ∃ L : Land, LandAt H1 v L ∧ WOk L ∧ Sh L ∧ Does K (fun E H' Q' => t E σ H' Q') H1 (landFault L) (fun H' x => MapO K H' x L) ∧ ∀ H', Same H1 H' → Q (.bl true) H'
section
variable {T : List (Addr × Str)} {x y : Str} {g c P : Addr} {j kt i : Nat} {lpos p p2 pos : Pos}
theorem pe_lamF (F : FaultOk X.prog X.w X.K X.mg X.base kt k g) (hm : X.mg x = some (.ref g)) (hk : PySem.W.keepIn X.K (.ref g) = true) (TB : TabB X.base X.mg c P) (hcode : X.env.code = .ref c) (hmT : (P, X.env.qual ++ "<lambda>") ∈ T) (hu : ∀ p ∈ T, p.1 = P → p.2 = X.env.qual ++ "<lambda>")
    (hr : Room j X.A) (hkj : k ≤ j) (L : LamS X.env.scope scope) (hdef : defaultsOf params X.env = ([], [])) (hbind : ∀ (q : Str) (cl : List (Str × Addr)) (pm cv ctv : Value), bindArgs (PySem.W.kla_fn "<lambda>" q params body scope cl pm cv ctv) ⟨[], []⟩ = pure [])
    (hbody : ∀ (A : Around) (outer : List Env) (s : Shared) (H : Hp) (E : XK) (f c' : Addr), Room kt (A.deeper (lamEnv X scope s.heap.objs.size f c')) → PE (lamCx X A outer s H E scope f c') body (t E)) (hg : Gl X x := by rfl) (hdb : (x == ("__debug__" : Str)) = false := by decide) :
    PE X (.Call (.Name x p) [.Lambda params body scope lpos] [] pos) (tLamF X.K T t) := by
  refine ⟨fun pins s σ H Q I h => wpAny_Call_Name_kw (ld_glob I hg hm ?_ hdb)⟩
  obtain ⟨hT, h⟩ := h
  refine PySem.W.callWith_K (h₀ := X.base) I.ok.mod.kin hk ?_ (by rfl) (by rfl)
  show wpAny _ _ (spliced ((false, eval (.Lambda params body scope lpos) X.env) :: backTo pos (starEach [] X.env))) _ _ s
  refine Calls.spliced_cons (lam_make2 I TB hcode hmT hu hT hdef (L.has I.ok) fun f c' pm' ctv H1 s' I1 eN T1 hf hfn hfr hco => ?_)
  refine Calls.spliced_nil ⟨I1.kIn, ?_⟩
  obtain ⟨Ft, G, does, q⟩ := h H1 eN T1
  have act := act_of_lam (t := t) I1 L hf hfn hfr (hbind _ _ _ _ _) fun A outer s H E hr2 => hbody A outer s H E f c' hr2
  refine wpAny_call (codeAny_mono (F X.A X.stack s' H1 Q f c' _ _ Ft G (hr.mono hkj) I1.env0 act hco does q) fun r s2 hq => ?_)
  match r, hq with
  | .error e, hq => exact hq.elim
  | .ok (.ret u), hq => exact I1.after hq
theorem pe_lamM (F : MadeOk X.prog X.w X.K X.mg X.base kt k g) (hG : X.A.guards = some []) (hm : X.mg x = some (.ref g)) (hk : PySem.W.keepIn X.K (.ref g) = true) (TB : TabB X.base X.mg c P) (hcode : X.env.code = .ref c) (hmT : (P, X.env.qual ++ "<lambda>") ∈ T) (hu : ∀ p ∈ T, p.1 = P → p.2 = X.env.qual ++ "<lambda>")
    (hr : Room j X.A) (hkj : k ≤ j) (L : LamS X.env.scope scope) (hdef : defaultsOf params X.env = ([], [])) (hbind : ∀ (q : Str) (cl : List (Str × Addr)) (pm cv ctv : Value), bindArgs (PySem.W.kla_fn "<lambda>" q params body scope cl pm cv ctv) ⟨[], []⟩ = pure [])
    (hbody : ∀ (A : Around) (outer : List Env) (s : Shared) (H : Hp) (E : XK) (f c' : Addr), Room kt (A.deeper (lamEnv X scope s.heap.objs.size f c')) → PE (lamCx X A outer s H E scope f c') body (t E)) (hst : X.stack = X.env :: X.outer) (hfm : X.env.frame = some X.env.locals)
    (hN : X.N[i]? = some y) (hv : Vis X.env.scope y) (hs2 : starEach [.Name y p2] X.env = (false, eval (.Name y p2) X.env) :: starEach [] X.env) (hd : (y == ("__debug__" : Str)) = false := by decide) (hcd : (y == ("__classdict__" : Str)) = false := by decide)
    (hg : Gl X x := by rfl) (hdb : (x == ("__debug__" : Str)) = false := by decide) :
    PE X (.Call (.Name x p) [.Lambda params body scope lpos, .Name y p2] [] pos) (tLamM X.K T t i) := by
  refine ⟨fun pins s σ H Q I h => wpAny_Call_Name_kw (ld_glob I hg hm ?_ hdb)⟩
  obtain ⟨hT, v, hi, h⟩ := h
  refine PySem.W.callWith_K (h₀ := X.base) I.ok.mod.kin hk ?_ (by rfl) (by first | rfl | (rw [hs2]; rfl))
  show wpAny _ _ (spliced ((false, eval (.Lambda params body scope lpos) X.env) :: backTo pos (starEach [.Name y p2] X.env))) _ _ s
  refine Calls.spliced_cons (lam_make2 I TB hcode hmT hu hT hdef (L.has I.ok) fun f c' pm' ctv H1 s' I1 eN T1 hf hfn hfr hco => ?_)
  have fs1 : f ≠ X.env.locals := fun z => hfr (List.mem_filterMap.mpr ⟨X.env, by rw [hst]; exact List.mem_cons_self, by rw [hfm, z]⟩)
  have fs2 : f ∉ X.fs := fun z => by
    obtain ⟨e, he, q⟩ := List.mem_filterMap.mp z
    exact hfr (List.mem_filterMap.mpr ⟨e, by rw [hst]; exact List.mem_cons_of_mem _ he, q⟩)
  have Ip : Inv X ((f, _) :: pins) σ H1 s' := I1.pins_of fun p hp => by
    rcases List.mem_cons.mp hp with e | e
    · rw [e]
      exact ⟨hf, hfn, fs1, fs2, fun v z => nomatch z⟩
    · exact I1.pin p (List.mem_append_right _ e)
  have two := (pa_cons (pe_var (X := X) (pos := p2) (i := i) hN hv hd hcd) pa_nil hs2).run pos _ s' σ H1 (fun vs H2 => vs = [v] ∧ H2 = H1) Ip ⟨v, hi, rfl, rfl⟩
  refine thn two fun us s2 hu2 => ?_
  obtain ⟨vs, H2, I2, r2, rfl, rfl⟩ := hu2
  match us, r2 with
  | [u], .cons ru .nil =>
    refine ⟨I2.kIn, ?_⟩
    obtain ⟨hf2, _⟩ := I2.pin (f, _) (List.mem_append_right _ List.mem_cons_self)
    have I3 : Inv X pins σ H2 s2 := I2.pins_of fun p hp => I2.pin p (List.mem_append_right _ (List.mem_cons_of_mem _ hp))
    obtain ⟨Ld, hl, wok, sh, does, q⟩ := h H2 eN T1
    have act := act_of_lam (t := t) I3 L hf2 hfn hfr (hbind _ _ _ _ _) fun A outer s H E hr2 => hbody A outer s H E f c' hr2
    refine wpAny_call (codeAny_mono (F X.A X.stack s2 H2 Q f c' _ _ v u Ld (hr.mono hkj) hG I3.env0 act hco ru hl wok sh does q) fun r s4 hq => ?_)
    match r, hq with
    | .error e, hq => exact hq.elim
    | .ok (.ret u), hq => exact I3.after hq
end
end
end J
set_option Elab.async false
set_option linter.all false
set_option maxRecDepth 100000
set_option maxHeartbeats 4000000
set_option exponentiation.threshold 3000
namespace J
open PySem PySem.Spec PyProof.Rows L2 TL

/-! JH: the law's call, from the ground, where no text is being made. -/
open L2 LamX
section
variable {P : Program} {w : World} {K : PySem.W.Frag} {mg mb : Str → Option Value} {fa a : Addr} {cs : List (Addr × Addr)} {s₁ : Shared} {vs : List Value} {ns : List Int}
/-- what is tracked on the ground: the tables, the script where it is no constant -/
def gH (K : PySem.W.Frag) (cs : List (Addr × Addr)) (a : Addr) (vs : List Value) (ns : List Int) : Hp := fun b =>
  if b ∈ cs.map (·.2) then some (.tbl #[]) else if b = a ∧ K.lookup a = none then some (.frz { cls := .type "list", data := .seq vs.toArray } (.lst (ns.map V.int))) else none
theorem gH_some {b : Addr} {u : HO} (e : gH K cs a vs ns b = some u) : (b ∈ cs.map (·.2) ∧ u = .tbl #[]) ∨ (b = a ∧ K.lookup a = none ∧ u = .frz { cls := .type "list", data := .seq vs.toArray } (.lst (ns.map V.int))) := by
  unfold gH at e
  by_cases h1 : b ∈ cs.map (·.2)
  · rw [if_pos h1] at e
    exact .inl ⟨h1, (Option.some.inj e).symm⟩
  · rw [if_neg h1] at e
    by_cases h2 : b = a ∧ K.lookup a = none
    · rw [if_pos h2] at e
      exact .inr ⟨h2.1, h2.2, (Option.some.inj e).symm⟩
    · rw [if_neg h2] at e
      cases e
theorem ground (KX : K.In s₁.heap) (hns : s₁.heap.Ns mainGlobals mg) (hb : s₁.heap.Ns builtinsNs mb) (hbb : ∀ x : Str, x ≠ "__name__" → mb x = bootBuiltins x) (hlim : s₁.heap.NoLimit) (hg : s₁.gens = #[])
    (hT : ∀ p ∈ cs, s₁.heap.get? p.2 = some { cls := .none, data := .fields #[] }) (nT : ∀ p ∈ cs, K.lookup p.2 = none) (hd : ∀ p ∈ cs, PySem.W.codeHdIn K p.1 p.2 = true)
    (hbm : ∃ (bm : Addr) (ob : Obj), mg "__builtins__" = some (.ref bm) ∧ bm ≠ builtinsNs ∧ s₁.heap.get? bm = some ob ∧ ob.cls = .type "module" ∧ ob.dict = some builtinsNs ∧ ob.data = .plain)
    (ha : s₁.heap.get? a = some { cls := .type "list", data := .seq vs.toArray }) (hi : IntsAre vs ns) (hl : ns.length ≤ sizeLine)
    (F : ∀ (base : Heap) (H : Hp), K.In base → base.Ns mainGlobals mg → (∀ p ∈ cs, TabB base mg p.1 p.2) → Env0 P w K mg base callerA [] s₁ H → (∀ p ∈ cs, H p.2 = some (.tbl #[])) → SqL K H a (ns.map V.int) →
      codeAny (model P w) callerA (.call (.ref fa) ⟨[.ref a], []⟩) (CR CX0 [] P w H s₁ (fun v _ => v = .bl true) E0) s₁) :
    codeAny (model P w) callerA (.call (.ref fa) ⟨[.ref a], []⟩) (fun r s' => r = .ok (.ret (.bool true)) ∧ OldK s₁.heap s'.heap ∧ s'.os = s₁.os ∧ AllBare s'.gens) s₁ := by
  have rv := vals_ints hi
  have isT : ∀ b ∈ cs.map (·.2), s₁.heap.get? b = some { cls := .none, data := .fields #[] } := fun b hb => by
    obtain ⟨p, hp, rfl⟩ := List.mem_map.mp hb
    exact hT p hp
  have atT : ∀ p ∈ cs, gH K cs a vs ns p.2 = some (.tbl #[]) := fun p hp => if_pos (List.mem_map.mpr ⟨p, hp, rfl⟩)
  have free : ∀ {b : Addr} {o : Obj}, s₁.heap.get? b = some o → (∀ us n, o.data ≠ .seq us n) → o.data ≠ .fields #[] → gH K cs a vs ns b = none := fun {b o} e n1 n2 => by
    cases q : gH K cs a vs ns b with
    | none => rfl
    | some u =>
      rcases gH_some q with ⟨hm, _⟩ | ⟨rfl, _⟩
      · rw [isT b hm] at e
        cases e
        exact (n2 rfl).elim
      · rw [ha] at e
        cases e
        exact (n1 _ _ rfl).elim
  have up : ∀ {b : Addr} {o : Obj}, s₁.heap.get? b = some o → (∀ us n, o.data ≠ .seq us n) → o.data ≠ .fields #[] → (hidT s₁.heap (gH K cs a vs ns)).get? b = some o := fun e n1 n2 => hidT_get e (free e n1 n2)
  have nsU : ∀ {b : Addr} {m : Str → Option Value}, s₁.heap.Ns b m → (hidT s₁.heap (gH K cs a vs ns)).Ns b m := fun {b m} x => by
    obtain ⟨o, es, ep, e, d, r⟩ := x
    exact ⟨o, es, ep, up e (fun us n z => by rw [d] at z; cases z) (fun z => by rw [d] at z; cases z), d, r⟩
  have kin : K.In (hidT s₁.heap (gH K cs a vs ns)) := fun b o e => hidT_get (KX b o e) (by
    cases q : gH K cs a vs ns b with
    | none => rfl
    | some u =>
      rcases gH_some q with ⟨hm, _⟩ | ⟨rfl, hk, _⟩
      · obtain ⟨p, hp, rfl⟩ := List.mem_map.mp hm
        rw [nT p hp] at e
        cases e
      · rw [hk] at e
        cases e)
  have hM : Mod K mg (hidT s₁.heap (gH K cs a vs ns)) := ⟨kin, nsU hns, ⟨mb, nsU hb, hbb⟩, let ⟨mc, h1, h2⟩ := hlim; ⟨mc, nsU h1, h2⟩⟩
  have gm : ∀ {b : Addr} {o : Obj}, s₁.heap.get? b = some o → o.data = .plain → b ≠ mainGlobals := fun {b o} e d z => by
    obtain ⟨o2, es, ep, e2, d2, _⟩ := hns
    rw [z, e2] at e
    cases e
    rw [d] at d2
    cases d2
  have TB : ∀ p ∈ cs, TabB (hidT s₁.heap (gH K cs a vs ns)) mg p.1 p.2 := fun p hp => by
    refine NdefX.tabB_of_K kin (hd p hp) ?_ fun z => ?_
    · obtain ⟨bm, ob, b1, b2, b3, b4, b5, b6⟩ := hbm
      refine ⟨bm, ob, b1, b2, gm b3 b6, fun z => ?_, up b3 (fun us n z => by rw [b6] at z; cases z) (fun z => by rw [b6] at z; cases z), b4, b5, b6⟩
      rw [z, hT p hp] at b3
      cases b3
      cases b6
    · obtain ⟨o2, es, ep, e2, d2, _⟩ := hns
      rw [z, hT p hp] at e2
      cases e2
      cases d2
  have hok : HOk P w (gH K cs a vs ns) s₁.heap := fun b u e => by
    rcases gH_some e with ⟨hm, rfl⟩ | ⟨rfl, _, rfl⟩
    · exact isT b hm
    · exact ⟨ha, by rw [List.length_map]; exact hl, vs, _, rv, ha⟩
  have e0 : Env0 P w K mg (hidT s₁.heap (gH K cs a vs ns)) callerA [] s₁ (gH K cs a vs ns) := ⟨rfl, hM, fun b o e => of_hidT e, Nat.le_of_eq (hidT_size _ _), trivial, fun b hb => (nomatch (show b ∈ ([] : List Addr) from hb)), hok, .of_eq hg⟩
  have aT : a ∉ cs.map (·.2) := fun z => by
    have q := isT a z
    rw [ha] at q
    have q2 := congrArg Obj.data (Option.some.inj q)
    cases q2
  have sq : SqL K (gH K cs a vs ns) a (ns.map V.int) := by
    cases hk : K.lookup a with
    | none => exact .inl (.inr ⟨{ cls := .type "list", data := .seq vs.toArray }, (if_neg aT).trans (if_pos ⟨rfl, hk⟩)⟩)
    | some o =>
      have e := KX a o hk
      rw [ha] at e
      cases e
      exact .inr ⟨_, vs.toArray, _, hk, rfl, rfl, rfl, by rw [List.size_toArray, hi.length]; exact hl, by simpa using rv⟩
  refine codeAny_mono (F _ _ kin (nsU hns) TB e0 atT sq) fun r s' h => ?_
  match r, h with
  | .error e, h => exact h.elim
  | .ok (.ret u), h =>
    obtain ⟨v, H', os, bare, un, hok', r', q⟩ := h
    have q : v = .bl true := q
    subst q
    cases (show u = Value.bool true from r')
    have same : ∀ b o, b ∉ cs.map (·.2) → s₁.heap.get? b = some o → s'.heap.get? b = some o := fun b o nb e => by
      cases z : gH K cs a vs ns b with
      | none => exact un.keep b o e z (fun hm => nomatch (show b ∈ ([] : List Addr) from hm)) (fun hm => nomatch hm)
      | some u =>
        rcases gH_some z with ⟨hm, _⟩ | ⟨rfl, _, rfl⟩
        · exact (nb hm).elim
        · obtain ⟨g1, _⟩ := hok' b _ (un.frzs b _ _ z)
          rw [ha] at e
          cases e
          exact g1
    have grown : ∀ p ∈ cs, ∃ more : Array Value, s'.heap.get? p.2 = some { cls := .none, data := .fields more } := fun p hp => by
      obtain ⟨more, z⟩ := un.tbls p.2 #[] (atT p hp)
      exact ⟨_, hok' p.2 _ z⟩
    refine ⟨rfl, ⟨fun b o e => ?_, fun b o e => ?_⟩, os, bare⟩
    · by_cases hm : b ∈ cs.map (·.2)
      · obtain ⟨p, hp, rfl⟩ := List.mem_map.mp hm
        obtain ⟨more, g⟩ := grown p hp
        rw [hT p hp] at e
        cases e
        exact .inr (.inl ⟨((PySem.W.codeHd_of_K KX (hd p hp)).tab (hT p hp)).isCodeTable, rfl, #[], more, rfl, by rw [Array.empty_append]; exact g⟩)
      · exact .inl (same b o hm e)
    · by_cases hm : b ∈ cs.map (·.2)
      · obtain ⟨p, hp, rfl⟩ := List.mem_map.mp hm
        obtain ⟨more, g⟩ := grown p hp
        exact ⟨_, g⟩
      · exact ⟨o, same b o hm e⟩
end
end J
set_option Elab.async false
set_option linter.all false
set_option maxRecDepth 100000
set_option maxHeartbeats 4000000
set_option exponentiation.threshold 3000
namespace J
open PySem PySem.Spec PyProof.Rows L2 TL

/-! J42: what stays while the pen draws and while lambdas are made. -/
open L2 LamX
/-- all stays but the pen and the tables -/
def Kp (a : Addr) (H H' : Hp) : Prop := ∀ b o, b ≠ a → H b = some o → (∀ ps, o ≠ .tbl ps) → H' b = some o
section
variable {a l b : Addr} {B : Nat} {H H1 H' : Hp} {o : HO} {T : List (Addr × Str)}
theorem Kp.refl (a : Addr) (H : Hp) : Kp a H H := fun _ _ _ h _ => h
theorem Kp.trans (x : Kp a H H1) (y : Kp a H1 H') : Kp a H H' := fun b o n h t => y b o n (x b o n h t) t
theorem Kp.of_same (s : Same H H') : Kp a H H' := fun b o _ h _ => s b o h
theorem Kp.of_but (s : But a H H') : Kp a H H' := fun b o n h _ => s b o n h
theorem Kp.of_ext (s : ExtN H H') : Kp a H H' := fun b o _ h t => s b o h t
theorem Kp.at (k : Kp a H H') (p : PenAt H a l B) (e : H b = some o) (n1 : ∀ kvs, o ≠ .dK kvs) (n2 : ∀ ps, o ≠ .tbl ps) : H' b = some o := by
  obtain ⟨kvs, hk⟩ := p.has
  exact k b o (ne_of e hk (n1 _)) e n2
theorem Kp.tup {xs : List V} (k : Kp a H H') (p : PenAt H a l B) (e : H b = some (.tup xs)) : H' b = some (.tup xs) := k.at p e (fun _ z => nomatch z) fun _ z => nomatch z
theorem Kp.lst {xs : List V} (k : Kp a H H') (p : PenAt H a l B) (e : H b = some (.lst xs)) : H' b = some (.lst xs) := k.at p e (fun _ z => nomatch z) fun _ z => nomatch z
theorem Kp.ins {C d : Addr} {fs : List (Str × V)} (k : Kp a H H') (p : PenAt H a l B) (e : H b = some (.ins C d fs)) : H' b = some (.ins C d fs) := k.at p e (fun _ z => nomatch z) fun _ z => nomatch z
theorem CellAt.kp {v : V} {x y : Int} (h : CellAt H v x y) (k : Kp a H H') (p : PenAt H a l B) : CellAt H' v x y := by
  obtain ⟨q, e, hq⟩ := h
  exact ⟨q, e, k.tup p hq⟩
theorem SeqAt.kp {v : V} {xs : List V} (h : SeqAt H v xs) (k : Kp a H H') (p : PenAt H a l B) : SeqAt H' v xs := by
  obtain ⟨q, e, hq⟩ := h
  exact ⟨q, e, hq.imp (k.tup p) (k.lst p)⟩
theorem MatT.kp {v : V} {M : Mat} (h : MatT H v M) (k : Kp a H H') (p : PenAt H a l B) : MatT H' v M := by
  obtain ⟨q, r1, r2, e, h1, h2, h3⟩ := h
  exact ⟨q, r1, r2, e, k.tup p h1, h2.kp k p, h3.kp k p⟩
theorem MatAt.kp {v : V} {M : Mat} (h : MatAt H v M) (k : Kp a H H') (p : PenAt H a l B) : MatAt H' v M := by
  obtain ⟨r1, r2, h1, h2, h3⟩ := h
  exact ⟨r1, r2, h1.kp k p, SeqAt.kp h2 k p, SeqAt.kp h3 k p⟩
theorem RoadT.kp {v : V} {r : Rd} (h : RoadT H v r) (k : Kp a H H') (p : PenAt H a l B) : RoadT H' v r := by
  obtain ⟨q, c, e, h1, h2⟩ := h
  exact ⟨q, c, e, k.tup p h1, h2.kp k p⟩
theorem RoadO.kp {K : PySem.W.Frag} {v : V} {r : Rd} (h : RoadO K H v r) (k : Kp a H H') (p : PenAt H a l B) : RoadO K H' v r := by
  obtain ⟨q, d, c, e, h1, h2⟩ := h
  exact ⟨q, d, c, e, k.ins p h1, h2.kp k p⟩
theorem MapO.kp {K : PySem.W.Frag} {v : V} {L : Land} (h : MapO K H v L) (k : Kp a H H') (p : PenAt H a l B) : MapO K H' v L := by
  obtain ⟨q, dx, t1, t2, d1, d2, xs, e, h0, h1, h2, h3⟩ := h
  exact ⟨q, dx, t1, t2, d1, d2, xs, e, k.ins p h0, k.tup p h1, k.tup p h2, L2.Paired.mapP h3 fun _ _ z => RoadO.kp z k p⟩
theorem LandAt.kp {v : V} {L : Land} (h : LandAt H v L) (k : Kp a H H') (p : PenAt H a l B) : LandAt H' v L := by
  obtain ⟨q, l1, l2, xs, e, h0, h1, h2, h3⟩ := h
  refine ⟨q, l1, l2, xs, e, k q _ (fun z => ?_) h0 (fun _ z => nomatch z), k.lst p h1, k.lst p h2, L2.Paired.mapP h3 fun _ _ z => RoadT.kp z k p⟩
  obtain ⟨cells, at', dg, ct, fo, g1, _⟩ := p.ex
  rw [z, g1] at h0
  have := congrArg (fun o : Option HO => match o with | some (.dK kvs) => kvs.length | _ => 0) h0
  simp [penKv, landKv] at this
theorem PenAt.ext (p : PenAt H a l B) (s : ExtN H H') : PenAt H' a l B := by
  obtain ⟨cells, at', dg, ct, fo, g1, g2, g3⟩ := p.ex
  exact ⟨cells, at', dg, ct, fo, s _ _ g1 (fun _ z => nomatch z), s _ _ g2 (fun _ z => nomatch z), g3⟩
theorem tabs_but (t : Tabs T H) (s : But a H H') (p : PenAt H a l B) : Tabs T H' := fun q hq => by
  obtain ⟨kvs, hk⟩ := p.has
  obtain ⟨ps, h1, h2, h3⟩ := t q hq
  refine ⟨ps, s _ _ (ne_of h1 hk (fun z => nomatch z)) h1, h2, fun pos cv hc => ?_⟩
  obtain ⟨c, e1, e2⟩ := h3 pos cv hc
  exact ⟨c, e1, s _ _ (ne_of e2 hk (fun z => nomatch z)) e2⟩
theorem tabs_same (t : Tabs T H) (s : Same H H') : Tabs T H' := t.ext s
end
end J
set_option Elab.async false
set_option linter.all false
set_option maxRecDepth 100000
set_option maxHeartbeats 4000000
set_option exponentiation.threshold 3000
namespace J
open PySem PySem.Spec PyProof.Rows L2 TL

/-! J43: _law_too_large_right. -/
open L2 LamX
theorem fn_g2 {P : Program} {w : World} {K : PySem.W.Frag} {mg : Str → Option Value} {base : Heap} {x : Str} {st : Stmt} {fd : FuncData} {N ps : List Str} {k : Nat} (F : FunD K x x (defArgs st) (defBody st) (defScope st) [] [] (He.fAd K (x, none)) fd) (S : FnScope N ps (defScope st))
    (hbind : ∀ (kV doc pm : Value) (an : Option Addr) (cdv ct : Value) (us : List Value), us.length = ps.length → bindArgs (PySem.W.fnOf x x (defArgs st) (defBody st) (defScope st) .none kV doc pm an cdv ct) ⟨us, []⟩ = pure (ps.zip us))
    {A : Around} {outer : List Env} {s : Shared} {H : Hp} {us : List Value} {vs : List V} {Q : VK} (hr : Room (k + 1) A) (e0 : Env0 P w K mg base A outer s H) (r : Vals vs us) (hl : vs.length = ps.length)
    (hbody : Room k (A.deeper (envOfC x (defScope st) s.heap.objs.size (He.fAd K (x, none)) (.ref (He.cT K (x, none)).1))) → ∃ t, PSs (cxOf CX0 P w K mg base N x (defScope st) (He.fAd K (x, none)) (.ref (He.cT K (x, none)).1) A outer s H E0).nox (defBody st) t ∧ t { nx := fun _ H' => Q .non H', rt := Q } (start N vs) H) :
    codeAny (model P w) A (.call (.ref (He.fAd K (x, none))) ⟨us, []⟩) (CR CX0 outer P w H s Q E0) s := by
  have hb := FunD.bindsN F hbind
  obtain ⟨oc, od, dV, kV, doc, pm, an, cdv, ct, osl, rfl, lk, hcd, _, _⟩ := F.ex
  have kin : K.In s.heap := e0.mod.kin.keeps fun b o e => (e0.bs b o e).1
  have bt := hb s us kin (by rw [List.append_nil, ← r.length, hl])
  rw [List.append_nil] at bt
  obtain ⟨c, rfl⟩ := He.codeIn_ref hcd
  have ec : (He.cT K (x, none)).1 = c := He.codeOf_eq lk rfl
  subst ec
  refine run_ofS lk hcd S hr e0 bt r hl fun hr' => ?_
  obtain ⟨t, a, b⟩ := hbody hr'
  exact ⟨t, a.nox, b⟩
/-! ### powers -/
def CPowW (i j : Int) : Prop := 0 ≤ j ∧ (Builtin.Int.intBits i : Int) * j ≤ 2 ^ 27
theorem op_powW {X : Cx} : OpR X (binaryOp .Pow) (rI CPowW fun i j => .int (i ^ j.toNat)) := opI fun _ _ _ _ _ _ _ hc q => PyProof.Rows.pow_int hc.1 hc.2 q
/-! ### a matrix that is written -/
def Giv (σ : L2.St) (ta : TE) (i : Int) : Prop := ∀ (H : Hp) (Q : VK), Q (.int i) H → ta σ H Q
theorem giv_c {σ : L2.St} {i : Int} : Giv σ (tC (.int i)) i := fun _ _ q => q
theorem giv_v {σ : L2.St} {i : Int} {n : Nat} (h : σ[n]? = some (some (.int i))) : Giv σ (tVar n) i := fun _ _ q => ⟨_, h, q⟩
theorem mat_tup {σ : L2.St} {ta tb tc td : TE} {a b c d : Int} {H : Hp} {Q : VK} (ha : Giv σ ta a) (hb : Giv σ tb b) (hc : Giv σ tc c) (hd : Giv σ td d) (h : ∀ (H' : Hp) (r : V), Same H H' → MatT H' r ⟨a, b, c, d⟩ → Q r H') :
    tTup (tCons (tTup (tCons ta (tCons tb tNil))) (tCons (tTup (tCons tc (tCons td tNil))) tNil)) σ H Q := by
  refine ha _ _ (hb _ _ ⟨by size_fits, fun p np => hc _ _ (hd _ _ ⟨by size_fits, fun q nq => ⟨by size_fits, fun r nr => ?_⟩⟩)⟩)
  have s1 := same_new (o := .tup [.int a, .int b]) np
  have s2 := same_new (o := .tup [.int c, .int d]) nq
  have s3 := same_new (o := .tup [.ref p, .ref q]) nr
  exact h _ _ ((s1.trans s2).trans s3) ⟨r, _, _, rfl, upd_same, ⟨p, rfl, s3 _ _ (s2 _ _ upd_same)⟩, ⟨q, rfl, s3 _ _ upd_same⟩⟩
/-! ### far matrices -/
def Far (f : Int) : Prop := 1000 ≤ f ∧ f.natAbs < 2 ^ 1000
structure FarM (M : Mat) : Prop where
  fits : M.Fits
  big : 1000 ≤ M.det.natAbs
  sm : M.det.natAbs < 2 ^ 2001
theorem pow_1100 {n : Nat} (h : n < 2 ^ 1000) : n < 2 ^ 1100 := Nat.lt_trans h (Nat.pow_lt_pow_right (by decide) (by decide))
theorem small_1100 {n : Nat} (h : n ≤ 9) : n < 2 ^ 1100 := Nat.lt_of_le_of_lt h (Nat.lt_of_lt_of_le (show 9 < 2 ^ 4 by decide) (Nat.pow_le_pow_right (by decide) (by decide)))
theorem z_1100 : (0 : Int).natAbs < 2 ^ 1100 := small_1100 (by decide)
theorem o_1100 : (1 : Int).natAbs < 2 ^ 1100 := small_1100 (by decide)
theorem sq_lt {f : Int} (h : f.natAbs < 2 ^ 1000) : (f * f).natAbs < 2 ^ 2000 := by
  rw [Int.natAbs_mul]
  have e : (2 : Nat) ^ 2000 = 2 ^ 1000 * 2 ^ 1000 := by rw [← Nat.pow_add]
  rw [e]
  exact Nat.mul_lt_mul'' h h
theorem far_sq {f : Int} (h : Far f) : 1000000 ≤ f * f := by
  have := Int.mul_le_mul h.1 h.1 (by decide) (by have := h.1; omega)
  omega
theorem far1 {f : Int} (h : Far f) : FarM ⟨f, 0, 0, 1⟩ := by
  have e : Mat.det ⟨f, 0, 0, 1⟩ = f := by simp [Mat.det]
  refine ⟨⟨pow_1100 h.2, z_1100, z_1100, o_1100⟩, ?_, ?_⟩
  · rw [e]
    have := h.1
    omega
  · rw [e]
    exact Nat.lt_trans h.2 (Nat.pow_lt_pow_right (by decide) (by decide))
theorem pow_step : 2 ^ 2000 + 2 ≤ 2 ^ 2001 := by decide +kernel
theorem far2 {f : Int} (h : Far f) : FarM ⟨1, f, -f, 1⟩ := by
  have e : Mat.det ⟨1, f, -f, 1⟩ = 1 + f * f := by simp [Mat.det, Int.mul_neg]
  have g := far_sq h
  have s := sq_lt h.2
  have z := pow_step
  generalize hP : 2 ^ 2000 = P at s z
  generalize hR : 2 ^ 2001 = R at z
  refine ⟨⟨o_1100, pow_1100 h.2, by show (-f).natAbs < _; rw [Int.natAbs_neg]; exact pow_1100 h.2, o_1100⟩, ?_, ?_⟩
  · rw [e]
    omega
  · rw [e, hR]
    omega
theorem far3 {f : Int} (h : Far f) : FarM ⟨f, 1, 1, f⟩ := by
  have e : Mat.det ⟨f, 1, 1, f⟩ = f * f - 1 := by simp [Mat.det]
  have g := far_sq h
  have s := sq_lt h.2
  have z := pow_step
  generalize hP : 2 ^ 2000 = P at s z
  generalize hR : 2 ^ 2001 = R at z
  refine ⟨⟨pow_1100 h.2, o_1100, o_1100, pow_1100 h.2⟩, ?_, ?_⟩
  · rw [e]
    omega
  · rw [e, hR]
    omega
theorem far_of {x v : Int} (hx : x = 10 ^ 3 ∨ x = 10 ^ 30 ∨ x = (10 ^ 60) ^ 5) (h0 : 0 ≤ v) (h1 : v < 1000) : Far (x + v) := by
  have e : 1000 ≤ x ∧ x + 1000 < 2 ^ 1000 := by
    rcases hx with rfl | rfl | rfl
    · exact ⟨by decide +kernel, by decide +kernel⟩
    · exact ⟨by decide +kernel, by decide +kernel⟩
    · exact ⟨by decide +kernel, by decide +kernel⟩
  obtain ⟨e1, e2⟩ := e
  refine ⟨by omega, ?_⟩
  have e3 : ((2 : Int) ^ 1000) = ((2 ^ 1000 : Nat) : Int) := by rw [Int.natCast_pow]; rfl
  rw [e3] at e2
  generalize 2 ^ 1000 = P at e2
  omega
end J
set_option Elab.async false
set_option linter.all false
set_option maxRecDepth 100000
set_option maxHeartbeats 4000000
set_option exponentiation.threshold 3000
namespace J
open PySem PySem.Spec PyProof.Rows L2 TL

/-! J44: _law_too_large_right. -/
open L2 LamX
def TL (K : PySem.W.Frag) : List (Addr × Str) := [((He.cT K ("law", none)).2, ("law" : Str) ++ ".<locals>." ++ "<lambda>"), ((He.cT K ("_law_too_large_right", none)).2, ("_law_too_large_right" : Str) ++ ".<locals>." ++ "<lambda>")]
theorem tl_law {K : PySem.W.Frag} {mg : Str → Option Value} (T : Tx K mg) : ∀ p ∈ TL K, p.1 = (He.cT K ("law", none)).2 → p.2 = ("law" : Str) ++ ".<locals>." ++ "<lambda>" := fun p hp e => by
  rcases List.mem_cons.mp hp with z | z
  · rw [z]
  · rw [List.mem_singleton.mp z] at e
    exact absurd e.symm (of_decide_eq_true T.e22)
theorem tl_too {K : PySem.W.Frag} {mg : Str → Option Value} (T : Tx K mg) : ∀ p ∈ TL K, p.1 = (He.cT K ("_law_too_large_right", none)).2 → p.2 = ("_law_too_large_right" : Str) ++ ".<locals>." ++ "<lambda>" := fun p hp e => by
  rcases List.mem_cons.mp hp with z | z
  · rw [z] at e
    exact absurd e (of_decide_eq_true T.e22)
  · rw [List.mem_singleton.mp z]
theorem pick3 {a b c x : V} {i : Nat} (h : [a, b, c][i]? = some x) : x = a ∨ x = b ∨ x = c := by
  have m := List.mem_of_getElem? h
  simpa using m
theorem pick4 {a b c d x : V} {i : Nat} (h : [a, b, c, d][i]? = some x) : x = a ∨ x = b ∨ x = c ∨ x = d := by
  have m := List.mem_of_getElem? h
  simpa using m
theorem giv_neg {σ : L2.St} {i : Int} {n : Nat} (h : σ[n]? = some (some (.int i))) : Giv σ (tUn (rU fun i => .int (-i)) (tVar n)) (-i) := fun _ _ q => ⟨_, h, _, rfl, q⟩
theorem mat_new {H : Hp} {p q r : Addr} {a b c d : Int} (np : H p = none) (nq : upd H p (.tup [.int a, .int b]) q = none) (nr : upd (upd H p (.tup [.int a, .int b])) q (.tup [.int c, .int d]) r = none) :
    Same H (upd (upd (upd H p (.tup [.int a, .int b])) q (.tup [.int c, .int d])) r (.tup [.ref p, .ref q])) ∧ MatT (upd (upd (upd H p (.tup [.int a, .int b])) q (.tup [.int c, .int d])) r (.tup [.ref p, .ref q])) (.ref r) ⟨a, b, c, d⟩ := by
  have s1 := same_new (o := .tup [.int a, .int b]) np
  have s2 := same_new (o := .tup [.int c, .int d]) nq
  have s3 := same_new (o := .tup [.ref p, .ref q]) nr
  exact ⟨(s1.trans s2).trans s3, r, _, _, rfl, upd_same, ⟨p, rfl, s3 _ _ (s2 _ _ upd_same)⟩, ⟨q, rfl, s3 _ _ upd_same⟩⟩
theorem far_log {m n : Nat} (h : m < 2 ^ 2001) (hn : n ≤ 3) : ((m * n : Nat) : Int).natAbs.log2 < 3 * 4300 := by
  rw [Int.natAbs_natCast]
  have e : m * n < 2 ^ 2003 := by
    have e1 : m * n ≤ m * 4 := Nat.mul_le_mul_left _ (by omega)
    have e2 : (2 : Nat) ^ 2003 = 2 ^ 2001 * 4 := by rw [Nat.pow_add 2 2001 2]
    rw [e2]
    omega
  exact Nat.lt_trans (PySem.Flt.log2_lt_of (by decide) e) (by decide)
theorem fl {i : Int} (h : i.natAbs ≤ 9 := by decide) : i.natAbs < 2 ^ 1100 := small_1100 h
theorem flat1 : Mat.Fits ⟨0, 0, 0, 0⟩ := ⟨fl (i := 0), fl (i := 0), fl (i := 0), fl (i := 0)⟩
theorem flat2 : Mat.Fits ⟨2, 4, 1, 2⟩ := ⟨fl (i := 2), fl (i := 4), fl (i := 1), fl (i := 2)⟩
theorem flat3 : Mat.Fits ⟨0, 3, 0, 1⟩ := ⟨fl (i := 0), fl (i := 3), fl (i := 0), fl (i := 1)⟩
section
variable {P : Program} {w : World} {K : PySem.W.Frag} {mg : Str → Option Value} {base : Heap}
def RToo (K : PySem.W.Frag) : List V → Hp → VK → Prop := fun vs H Q => ∃ (a l : Addr) (u v : V) (L : Land) (B : Nat), vs = [.ref a, u, v] ∧ PenAt H a l (B + 10) ∧ MapO K H u L ∧ LandAt H v L ∧ L.Ok ∧ Tabs (TL K) H ∧ ∀ H', Q (.bl true) H'
abbrev N__law_too_large_right : List Str := ["_law_pen_here", "_law_made", "_law_land_here", "_law_far", "_law_matrix", "_law_flat", "_law_size", "_law_spots"]
theorem sc__law_too_large_right : FnScope N__law_too_large_right ["_law_pen_here", "_law_made", "_law_land_here"] (defScope s__law_too_large_right) := ⟨rfl, rfl, rfl, by decide +kernel, rfl, by decide +kernel, by decide +kernel⟩
def tWn (K : PySem.W.Frag) (i : Nat) (E : XK) : TE := tCall (sp_widened K) [] E (tCons (tVar 1) (tCons (tVar i) tNil))
def tWg (K : PySem.W.Frag) (i : Nat) (E : XK) : TE := tCall (sp_widening K) [] E (tCons (tVar 1) (tCons (tVar i) tNil))
theorem ok__law_too_large_right (T : Tx K mg) (TB : TabB base mg (He.cT K ("_law_too_large_right", none)).1 (He.cT K ("_law_too_large_right", none)).2) : FnG P w K mg base 16 "_law_too_large_right" (RToo K) := by
  obtain ⟨fd, F⟩ := T.d__law_too_large_right
  obtain ⟨gf, mf, kf, Ff⟩ := ok__law_fault (P := P) (w := w) (base := base) T 13
  refine ⟨_, T.g__law_too_large_right, F.kp, fun A outer s H us vs Q hr0 hG e0 r h => ?_⟩
  obtain ⟨a, l, u, v, L, B, rfl, pen, hm, hv, ok, tabs, k⟩ := h
  refine fn_g2 F sc__law_too_large_right (fun _ _ _ _ _ _ us hl => match us, hl with | [_, _, _], _ => rfl) hr0 e0 r rfl fun hr => ?_
  have hu := hu64 hr
  have hu1 := hu_of hr
  have hmT : ((He.cT K ("_law_too_large_right", none)).2, ("_law_too_large_right" : Str) ++ ".<locals>." ++ "<lambda>") ∈ TL K := List.mem_cons_of_mem _ List.mem_cons_self
  refine ⟨_, (pss_cons (st 3 sc__law_too_large_right.nd (pe_op op_add (pe_cl (ok__law_pick T) hr pass0 (pa_cons (pv 0) (pa_cons (pe_lst (pa_cons (pe_op op_powW pe_int pe_int) (pa_cons (pe_op op_powW pe_int pe_int) (pa_cons (pe_op op_powW (pe_op op_powW pe_int pe_int) pe_int) pa_nil)))) pa_nil))) (pe_cl (ok__law_draw T) hr pass0 (pa_cons (pv 0) (pa_cons pe_int pa_nil)))))
      (pss_cons (st 4 sc__law_too_large_right.nd (pe_cl (ok__law_pick T) hr pass0 (pa_cons (pv 0) (pa_cons (pe_lst (pa_cons (pe_tup (pa_cons (pe_tup (pa_cons (pv 3) (pa_cons pe_int pa_nil))) (pa_cons (pe_tup (pa_cons pe_int (pa_cons pe_int pa_nil))) pa_nil))) (pa_cons (pe_tup (pa_cons (pe_tup (pa_cons pe_int (pa_cons (pv 3) pa_nil))) (pa_cons (pe_tup (pa_cons (pe_un un_neg (pv 3)) (pa_cons pe_int pa_nil))) pa_nil))) (pa_cons (pe_tup (pa_cons (pe_tup (pa_cons (pv 3) (pa_cons pe_int pa_nil))) (pa_cons (pe_tup (pa_cons pe_int (pa_cons (pv 3) pa_nil))) pa_nil))) pa_nil)))) pa_nil))))
      (pss_cons (par2 6 7 sc__law_too_large_right.nd (pa_cons (pe_abs T (pe_cl (ok__law_determinant T) hr pass0 (pa_cons (pv 4) pa_nil))) (pa_cons (pe_lenS T (pe_dget hu1 (pv 2) pe_str (fun _ _ => rfl))) pa_nil)))
      (pss_cons (ps_if (pt_not (pt_val (pe_fng (ok__law_same T) hr hG (pa_cons (pe_lamF (t := tWn K 4) Ff mf kf TB rfl hmT (tl_too T) hr (by decide) (lamS_by rfl) rfl (fun _ _ _ _ _ => rfl) (fun A outer s H E f c' hr2 => pe_cl (ok_widened T) hr2 (passes_call (takes_of rfl rfl rfl rfl) fun _ _ _ _ h => h) (pa_cons (pv 1) (pa_cons (pv 4) pa_nil)))) (pa_cons (pe_lst (pa_cons pe_str (pa_cons pe_str (pa_cons (pe_op op_mulW (pv 6) (pv 7)) (pa_cons pe_int pa_nil))))) pa_nil))))) (pss_one (ps_ret pe_bl)) pss_nil)
      (pss_cons (st 5 sc__law_too_large_right.nd (pe_cl (ok__law_pick T) hr pass0 (pa_cons (pv 0) (pa_cons (pe_lst (pa_cons (pe_tup (pa_cons (pe_tup (pa_cons pe_int (pa_cons pe_int pa_nil))) (pa_cons (pe_tup (pa_cons pe_int (pa_cons pe_int pa_nil))) pa_nil))) (pa_cons (pe_tup (pa_cons (pe_tup (pa_cons pe_int (pa_cons pe_int pa_nil))) (pa_cons (pe_tup (pa_cons pe_int (pa_cons pe_int pa_nil))) pa_nil))) (pa_cons (pe_tup (pa_cons (pe_tup (pa_cons pe_int (pa_cons pe_int pa_nil))) (pa_cons (pe_tup (pa_cons pe_int (pa_cons pe_int pa_nil))) pa_nil))) (pa_cons (pe_tup (pa_cons (pe_tup (pa_cons (pv 3) (pa_cons (pv 3) pa_nil))) (pa_cons (pe_tup (pa_cons pe_int (pa_cons pe_int pa_nil))) pa_nil))) pa_nil))))) pa_nil))))
      (pss_cons (ps_if (pt_not (pt_val (pe_fng (ok__law_same T) hr hG (pa_cons (pe_lamF (t := tWg K 5) Ff mf kf TB rfl hmT (tl_too T) hr (by decide) (lamS_by rfl) rfl (fun _ _ _ _ _ => rfl) (fun A outer s H E f c' hr2 => pe_cl (ok_widening T) hr2 (passes_call (takes_of rfl rfl rfl rfl) fun _ _ _ _ h => h) (pa_cons (pv 1) (pa_cons (pv 5) pa_nil)))) (pa_cons (pe_lst (pa_cons pe_str (pa_cons pe_str (pa_cons pe_int pa_nil)))) pa_nil))))) (pss_one (ps_ret pe_bl)) pss_nil)
      (pss_one (ps_ret (pe_fng (ok__law_same T) hr hG (pa_cons (pe_lamF (t := tWn K 5) Ff mf kf TB rfl hmT (tl_too T) hr (by decide) (lamS_by rfl) rfl (fun _ _ _ _ _ => rfl) (fun A outer s H E f c' hr2 => pe_cl (ok_widened T) hr2 (passes_call (takes_of rfl rfl rfl rfl) fun _ _ _ _ h => h) (pa_cons (pv 1) (pa_cons (pv 5) pa_nil)))) (pa_cons (pe_lst (pa_cons pe_str (pa_cons pe_str (pa_cons pe_int pa_nil)))) pa_nil))))))))))), ?_⟩
  have cp : CPowW 10 3 := ⟨by decide, by decide +kernel⟩
  have cp2 : CPowW 10 30 := ⟨by decide, by decide +kernel⟩
  have cp3 : CPowW 10 60 := ⟨by decide, by decide +kernel⟩
  have cp4 : CPowW (10 ^ 60) 5 := ⟨by decide, by decide +kernel⟩
  refine ⟨_, rfl, _, _, rfl, rfl, cp, _, _, rfl, rfl, cp2, _, _, rfl, rfl, cp3, _, _, rfl, rfl, cp4, by size_fits, fun p0 np0 => ?_⟩
  have s0 := same_new (o := .lst [.int ((10 : Int) ^ (3 : Int).toNat), .int ((10 : Int) ^ (30 : Int).toNat), .int (((10 : Int) ^ (60 : Int).toNat) ^ (5 : Int).toNat)]) np0
  refine ⟨a, l, .ref p0, _, B + 9, rfl, pen.mono s0, ⟨p0, rfl, .inr upd_same⟩, by decide, by decide, fun H1 i x b1 p1 hx => ?_⟩
  refine ⟨_, rfl, a, l, 1000, B + 8, rfl, p1, by decide, by decide, fun H2 v2 b2 p2 v0 v1 => ?_⟩
  obtain ⟨y, rfl, hy⟩ : ∃ y : Int, x = .int y ∧ (y = 10 ^ 3 ∨ y = 10 ^ 30 ∨ y = (10 ^ 60) ^ 5) := by
    rcases pick3 hx with rfl | rfl | rfl
    · exact ⟨_, rfl, .inl rfl⟩
    · exact ⟨_, rfl, .inr (.inl rfl)⟩
    · exact ⟨_, rfl, .inr (.inr rfl)⟩
  have far := far_of hy v0 v1
  have k2 : Kp a H H2 := ((Kp.of_same s0).trans (.of_but b1)).trans (.of_but b2)
  have t2 : Tabs (TL K) H2 := tabs_but (tabs_but (tabs_same tabs s0) b1 (pen.mono s0)) b2 p1
  refine ⟨y, v2, rfl, rfl, ?_⟩
  refine ⟨_, rfl, ⟨_, rfl, by show 2 ≤ sizeLine; decide, fun mp1 ma1 => ⟨by show 2 ≤ sizeLine; decide, fun mq1 mb1 => ⟨by show 2 ≤ sizeLine; decide, fun mr1 mc1 => ⟨_, rfl, by show 2 ≤ sizeLine; decide, fun mp2 ma2 => ⟨_, rfl, _, rfl, by show 2 ≤ sizeLine; decide, fun mq2 mb2 => ⟨by show 2 ≤ sizeLine; decide, fun mr2 mc2 => ⟨_, rfl, by show 2 ≤ sizeLine; decide, fun mp3 ma3 => ⟨_, rfl, by show 2 ≤ sizeLine; decide, fun mq3 mb3 => ⟨by show 2 ≤ sizeLine; decide, fun mr3 mc3 => ⟨by show 3 ≤ sizeLine; decide, fun q0 nq0 => ?_⟩⟩⟩⟩⟩⟩⟩⟩⟩⟩⟩
  obtain ⟨s3, h3⟩ := mat_new (a := y + v2) (b := 0) (c := 0) (d := 1) ma1 mb1 mc1
  obtain ⟨s4, h4⟩ := mat_new (a := 1) (b := y + v2) (c := -(y + v2)) (d := 1) ma2 mb2 mc2
  obtain ⟨s5, h5⟩ := mat_new (a := y + v2) (b := 1) (c := 1) (d := y + v2) ma3 mb3 mc3
  have s6 := same_new (o := .lst [.ref mr1, .ref mr2, .ref mr3]) nq0
  have s36 := ((s3.trans s4).trans s5).trans s6
  refine ⟨a, l, .ref q0, [.ref mr1, .ref mr2, .ref mr3], B + 7, rfl, p2.mono s36, ⟨q0, rfl, .inr upd_same⟩, by show 0 < 3; decide, by show 3 < _; decide, fun H7 i2 x2 b7 p7 hx2 => ?_⟩
  obtain ⟨M, hM6, fM⟩ : ∃ M, MatT _ x2 M ∧ FarM M := by
    rcases pick3 hx2 with rfl | rfl | rfl
    · exact ⟨_, h3.mono ((s4.trans s5).trans s6), far1 far⟩
    · exact ⟨_, h4.mono (s5.trans s6), far2 far⟩
    · exact ⟨_, h5.mono s6, far3 far⟩
  have k7 : Kp a H H7 := (k2.trans (.of_same s36)).trans (.of_but b7)
  have hM : MatT H7 x2 M := hM6.kp (.of_but b7) (p2.mono s36)
  have t7 : Tabs (TL K) H7 := tabs_but (tabs_same t2 s36) b7 (p2.mono s36)
  have hm7 := hm.kp k7 pen
  have hv7 := hv.kp k7 pen
  obtain ⟨la, l1, l2, ys, rfl, hla, hl1, hl2, hy2⟩ := id hv7
  refine ⟨_, rfl, _, M, rfl, hM.mat, fM.fits, _, rfl, ?_⟩
  rw [natAbs_if]
  refine ⟨_, rfl, la, _, rfl, land_spots hla, l1, _, rfl, .inl (SqL.of hl1), _, _, rfl, ?_⟩
  have n1 : 1 ≤ L.spots.length := List.length_pos_iff.mpr ok.s0
  have n3 := ok.s3
  have big := fM.big
  have d0 : M.det ≠ 0 := fun z => by rw [z] at big; exact absurd big (by decide)
  have h24 : 24 < M.det.natAbs * L.spots.length := Nat.lt_of_lt_of_le (by omega) (Nat.mul_le_mul big n1)
  have en : ((M.det.natAbs * L.spots.length : Nat) : Int) = (M.det.natAbs : Int) * (((L.spots.map V.str).length : Nat) : Int) := by rw [List.length_map, Int.natCast_mul]
  have lg : ((M.det.natAbs * L.spots.length : Nat) : Int).natAbs.log2 < 3 * 4300 := far_log fM.sm n3
  have cm : CMulW (M.det.natAbs : Int) (((L.spots.map V.str).length : Nat) : Int) := wide_mul (a := 2001) (b := 5) (by rw [Int.natAbs_natCast]; exact fM.sm) (by rw [Int.natAbs_natCast, List.length_map]; omega) (by decide) (by decide) (by decide)
  refine ⟨t7, fun H8 e8 t8 => ⟨some (.many (M.det.natAbs * L.spots.length : Nat)), fun _ _ => False, ?_, fun H9 l9 s9 e9 => ?_⟩⟩
  · intro E Hx Qx sx he
    exact ⟨_, rfl, _, rfl, u, x2, L, M, rfl, (hm7.kp (.of_ext e8) p7).mono sx, ok, ((hM.kp (.of_ext e8) p7).mono sx).mat, fM.fits, .inr (.inl ⟨d0, h24, fun H' cls d s e => he.2 _ rfl H' cls d s e⟩)⟩
  have k9 : Kp a H H9 := (k7.trans (.of_ext e8)).trans (.of_same s9)
  refine ⟨_, rfl, _, rfl, _, _, rfl, rfl, cm, by show 4 ≤ sizeLine; decide, fun z1 nz1 => ?_⟩
  have s10 := same_new (o := .lst [.str "many", .str "spots", .int ((M.det.natAbs : Int) * (((L.spots.map V.str).length : Nat) : Int)), .int 24]) nz1
  refine ⟨l9, z1, rfl, .inl ⟨_, s10 _ _ e9, (by rw [upd_same]; show some (HO.lst [.str "many", .str "spots", .int ((M.det.natAbs : Int) * (((L.spots.map V.str).length : Nat) : Int)), .int 24]) = _; rw [← en]; rfl), leaves_many lg⟩, true, rfl, iteF ?_⟩
  have p10 := ((p7.ext e8).mono s9).mono s10
  have k10 := k9.trans (.of_same s10)
  have t10 := tabs_same (tabs_same t8 s9) s10
  generalize hG10 : upd H9 z1 (.lst [.str "many", .str "spots", .int ((M.det.natAbs : Int) * (((L.spots.map V.str).length : Nat) : Int)), .int 24]) = H10 at p10 k10 t10
  refine ⟨_, rfl, ⟨by show 2 ≤ sizeLine; decide, fun fp1 fa1 => ⟨by show 2 ≤ sizeLine; decide, fun fq1 fb1 => ⟨by show 2 ≤ sizeLine; decide, fun fr1 fc1 => ⟨by show 2 ≤ sizeLine; decide, fun fp2 fa2 => ⟨by show 2 ≤ sizeLine; decide, fun fq2 fb2 => ⟨by show 2 ≤ sizeLine; decide, fun fr2 fc2 => ⟨by show 2 ≤ sizeLine; decide, fun fp3 fa3 => ⟨by show 2 ≤ sizeLine; decide, fun fq3 fb3 => ⟨by show 2 ≤ sizeLine; decide, fun fr3 fc3 => ⟨_, rfl, _, rfl, by show 2 ≤ sizeLine; decide, fun fp4 fa4 => ⟨by show 2 ≤ sizeLine; decide, fun fq4 fb4 => ⟨by show 2 ≤ sizeLine; decide, fun fr4 fc4 => ⟨by show 4 ≤ sizeLine; decide, fun q1 nq1 => ?_⟩⟩⟩⟩⟩⟩⟩⟩⟩⟩⟩⟩⟩⟩
  obtain ⟨s11, g1⟩ := mat_new (a := 0) (b := 0) (c := 0) (d := 0) fa1 fb1 fc1
  obtain ⟨s12, g2⟩ := mat_new (a := 2) (b := 4) (c := 1) (d := 2) fa2 fb2 fc2
  obtain ⟨s13, g3⟩ := mat_new (a := 0) (b := 3) (c := 0) (d := 1) fa3 fb3 fc3
  obtain ⟨s14, g4⟩ := mat_new (a := y + v2) (b := y + v2) (c := 1) (d := 1) fa4 fb4 fc4
  have s15 := same_new (o := .lst [.ref fr1, .ref fr2, .ref fr3, .ref fr4]) nq1
  have s1015 := (((s11.trans s12).trans s13).trans s14).trans s15
  refine ⟨a, l, .ref q1, [.ref fr1, .ref fr2, .ref fr3, .ref fr4], B + 6, rfl, p10.mono s1015, ⟨q1, rfl, .inr upd_same⟩, by show 0 < 4; decide, by show 4 < _; decide, fun H15 i5 x5 b15 p15 hx5 => ?_⟩
  obtain ⟨N, hN5, nf, n0⟩ : ∃ N, MatT _ x5 N ∧ N.Fits ∧ N.det = 0 := by
    rcases pick4 hx5 with rfl | rfl | rfl | rfl
    · exact ⟨_, g1.mono (((s12.trans s13).trans s14).trans s15), flat1, by decide⟩
    · exact ⟨_, g2.mono ((s13.trans s14).trans s15), flat2, by decide⟩
    · exact ⟨_, g3.mono (s14.trans s15), flat3, by decide⟩
    · exact ⟨_, g4.mono s15, ⟨pow_1100 far.2, pow_1100 far.2, o_1100, o_1100⟩, by simp [Mat.det]⟩
  have k15 : Kp a H H15 := (k10.trans (.of_same s1015)).trans (.of_but b15)
  have hN : MatT H15 x5 N := hN5.kp (.of_but b15) (p10.mono s1015)
  have t15 : Tabs (TL K) H15 := tabs_but (tabs_same t10 s1015) b15 (p10.mono s1015)
  refine ⟨t15, fun H16 e16 t16 => ⟨some .flat, fun _ _ => False, ?_, fun H17 l17 s17 e17 => ?_⟩⟩
  · intro E Hx Qx sx he
    exact ⟨_, rfl, _, rfl, u, x5, L, N, rfl, (hm.kp (k15.trans (.of_ext e16)) pen).mono sx, ok, ((hN.kp (.of_ext e16) p15).mono sx).mat, nf, .inl ⟨n0, fun H' cls d s e => he.2 _ rfl H' cls d s e⟩⟩
  refine ⟨by show 3 ≤ sizeLine; decide, fun z2 nz2 => ?_⟩
  have s18 := same_new (o := .lst [.str "number", .str "matrix", .int 0]) nz2
  refine ⟨l17, z2, rfl, .inl ⟨_, s18 _ _ e17, upd_same, leaves_flat⟩, true, rfl, iteF ?_⟩
  have p18 := ((p15.ext e16).mono s17).mono s18
  have k18 := ((k15.trans (.of_ext e16)).trans (.of_same s17)).trans (.of_same s18)
  have hN18 := ((hN.kp (.of_ext e16) p15).mono s17).mono s18
  refine ⟨tabs_same (tabs_same t16 s17) s18, fun H19 e19 t19 => ⟨some .flat, fun _ _ => False, ?_, fun H20 l20 s20 e20 => ?_⟩⟩
  · intro E Hx Qx sx he
    exact ⟨_, rfl, _, rfl, u, x5, L, N, rfl, (hm.kp (k18.trans (.of_ext e19)) pen).mono sx, ok, ((hN18.kp (.of_ext e19) p18).mono sx).mat, nf, .inl ⟨n0, fun H' cls d s e => he.2 _ rfl H' cls d s e⟩⟩
  refine ⟨by show 3 ≤ sizeLine; decide, fun z3 nz3 => ?_⟩
  have s21 := same_new (o := .lst [.str "number", .str "matrix", .int 0]) nz3
  exact ⟨l20, z3, rfl, .inl ⟨_, s21 _ _ e20, upd_same, leaves_flat⟩, k _⟩
end
end J
set_option Elab.async false
set_option linter.all false
set_option maxRecDepth 100000
set_option maxHeartbeats 4000000
set_option exponentiation.threshold 3000
namespace J
open PySem PySem.Spec PyProof.Rows L2 TL

/-! J45L: a matrix of lists. -/
open L2 LamX
def tLo (K : PySem.W.Frag) (i : Nat) : TE := tCB (fun xs H Q => ∃ p ys, xs = [.ref p] ∧ (SqL K H p ys ∨ SqT K H p ys) ∧ ∀ l, H l = none → Q (.ref l) (upd H l (.lst ys))) (tCons (tVar i) tNil)
def LsInv (M : Mat) (H : Hp) (D : Addr) (i : Nat) (H' : Hp) : Prop := Same H H' ∧ ((i = 0 ∧ H' D = some (.lst [])) ∨ (i = 1 ∧ ∃ q1, H' D = some (.lst [.ref q1]) ∧ H' q1 = some (.lst [.int M.a, .int M.b])) ∨
  (i = 2 ∧ ∃ q1 q2, H' D = some (.lst [.ref q1, .ref q2]) ∧ H' q1 = some (.lst [.int M.a, .int M.b]) ∧ H' q2 = some (.lst [.int M.c, .int M.d])))
theorem lists_of {K : PySem.W.Frag} {o0 o1 o2 o3 o4 o5 o7 o8 o9 o10 o11 o12 o13 o14 : Option V} {H : Hp} {tm : Addr} {r1 r2 : V} {M : Mat} {Q : VK} (htm : H tm = some (.tup [r1, r2])) (hc1 : CellAt H r1 M.a M.b) (hc2 : CellAt H r2 M.c M.d)
    (h : ∀ (H' : Hp) (D : Addr), Same H H' → MatAt H' (.ref D) M → Q (.ref D) H') :
    tLc (iTup K (tVar 6)) (gName 15) tYes (tLo K 15) (([("_law_row", 15)] : List (Str × Nat)).map (·.2)) [o0, o1, o2, o3, o4, o5, some (.ref tm), o7, o8, o9, o10, o11, o12, o13, o14, none] H Q := by
  refine ⟨_, rfl, tm, rfl, ⟨_, SqT.of htm⟩, fun D hD => lc_tup (xs := [r1, r2]) (LsInv M H D) ⟨same_new hD, .inl ⟨rfl, upd_same⟩⟩ ?_ ?_ ?_⟩
  · rintro i H' hi ⟨s1, _⟩
    exact SqT.of (s1 _ _ htm)
  · rintro i v H' hv ⟨s1, h1⟩
    rcases h1 with ⟨rfl, hd⟩ | ⟨rfl, q1, hd, g1⟩ | ⟨rfl, _⟩
    · have hv : r1 = v := by simpa using hv
      subst hv
      obtain ⟨c, rfl, hc⟩ := hc1.mono s1
      refine ⟨rfl, _, rfl, c, _, rfl, .inr (SqT.of hc), fun l nl => ?_⟩
      have hdl := same_new (o := .lst [.int M.a, .int M.b]) nl _ _ hd
      refine ⟨_, hdl, by show 0 < sizeLine; decide, sM (sN s1 nl) hD, .inr (.inl ⟨rfl, l, upd_same, ?_⟩)⟩
      rw [upd_ne (fun z => by rw [z, hd] at nl; cases nl), upd_same]
    · have hv : r2 = v := by simpa using hv
      subst hv
      obtain ⟨c, rfl, hc⟩ := hc2.mono s1
      refine ⟨rfl, _, rfl, c, _, rfl, .inr (SqT.of hc), fun l nl => ?_⟩
      have hdl := same_new (o := .lst [.int M.c, .int M.d]) nl _ _ hd
      have gl := same_new (o := .lst [.int M.c, .int M.d]) nl _ _ g1
      refine ⟨_, hdl, by show 1 < sizeLine; decide, sM (sN s1 nl) hD, .inr (.inr ⟨rfl, q1, l, upd_same, ?_, ?_⟩)⟩
      · rw [upd_ne (fun z => ?_)]
        · exact gl
        · rw [z, hd] at g1
          cases g1
      · rw [upd_ne (fun z => by rw [z, hd] at nl; cases nl), upd_same]
    · simp at hv
  · rintro H' ⟨s1, h1⟩
    rcases h1 with ⟨e, _⟩ | ⟨e, _⟩ | ⟨_, q1, q2, hd, g1, g2⟩
    · cases e
    · cases e
    · exact h H' D s1 ⟨_, _, ⟨D, rfl, .inr hd⟩, ⟨q1, rfl, .inr g1⟩, ⟨q2, rfl, .inr g2⟩⟩
end J
set_option Elab.async false
set_option linter.all false
set_option maxRecDepth 100000
set_option maxHeartbeats 4000000
set_option exponentiation.threshold 3000
namespace J
open PySem PySem.Spec PyProof.Rows L2 TL

/-! J45: law. -/
open L2 LamX
/-- two dicts of the same keys, of plain values -/
def rNeDic : R2 := fun x y H Q => ∃ (a b : Addr) (ks ls : List (Key × V)), x = .ref a ∧ y = .ref b ∧ H a = some (.dK ks) ∧ H b = some (.dK ls) ∧ ks.length = ls.length ∧ (∀ p ∈ ks, ∃ (u : V) (d : PyData), valV ls p.1 = some u ∧ Tr H 1 p.2 d ∧ Tr H 1 u d) ∧ Q (.bl false) H
theorem dic_hits {P : Program} {w : World} {H : Hp} {A : Around} {s : Shared} (ok : HOk P w H s.heap) (hu : A.units + 2 < cLine) {ls : List (Key × V)} {vb : List (Key × Value)} (rb : KV ls vb) : ∀ {ks : List (Key × V)} {va : List (Key × Value)}, KV ks va →
    (∀ p ∈ ks, ∃ (u : V) (d : PyData), valV ls p.1 = some u ∧ Tr H 1 p.2 d ∧ Tr H 1 u d) → PySem.W.KeqHits A s vb va true
  | [], _, .nil, _ => .nil
  | p :: ps, (key, v) :: qs, .cons h t, hp => by
    obtain ⟨h1, h2⟩ := h
    have h1 : p.1 = key := h1
    obtain ⟨u, d, e, t1, t2⟩ := hp p List.mem_cons_self
    have rr : RelO (some u) (valueAt vb p.1) := by rw [← e]; exact rb.val p.1
    obtain ⟨y, hy, ry⟩ := rr.some_of
    rw [h1] at hy
    obtain ⟨as, ra⟩ := tr_reads ok 1 p.2 d v t1 h2
    obtain ⟨bs, rb2⟩ := tr_reads ok 1 u d y t2 ry
    obtain ⟨p1, d1, e1⟩ := tr_plain 1 p.2 d t1
    have eq := PySem.SeqAt.eqAt_plain d d A s v y as bs ra rb2 p1 p1 (by omega)
    rw [e1] at eq
    show PySem.W.KeqHits A s vb ((key, v) :: qs) (true && true)
    exact .hit hy eq (dic_hits ok hu rb t fun p' hm => hp p' (List.mem_cons_of_mem _ hm))
theorem op_neDic {X : Cx} (hu : X.A.units + 64 < cLine) : OpR X (compareOp .NotEq) rNeDic := by
  intro pins s σ H x y v u Q I rx ry h
  obtain ⟨a, b, ks, ls, rfl, rfl, ha, hb, hl, hp, q⟩ := h
  cases (show v = Value.ref a from rx)
  cases (show u = Value.ref b from ry)
  obtain ⟨_, ya, va, ra, da⟩ := (show ObjOk X.prog X.w H s.heap a (.dK ks) from I.hok a _ ha)
  obtain ⟨_, yb, vb, rb, db⟩ := (show ObjOk X.prog X.w H s.heap b (.dK ls) from I.hok b _ hb)
  refine PySem.W.keq_ne (knd := mixKind X.prog X.w) (r := true) ya yb da db (by omega) (fun _ => dic_hits I.hok (by show X.A.units + 1 + 2 < cLine; omega) rb ra hp) ?_
  have e : va.length = vb.length := by rw [← ra.length, ← rb.length]; exact hl
  rw [show (!(va.length == vb.length && true)) = false from by rw [e]; simp]
  exact ⟨.bl false, H, I, rfl, q⟩
section
variable {P : Program} {w : World} {K : PySem.W.Frag} {mg : Str → Option Value} {base : Heap}
def tWn5 (K : PySem.W.Frag) (i : Nat) (E : XK) : TE := tCall (sp_widened K) [] E (tCons (tVar 5) (tCons (tVar i) tNil))
def tWg5 (K : PySem.W.Frag) (i : Nat) (E : XK) : TE := tCall (sp_widening K) [] E (tCons (tVar 5) (tCons (tVar i) tNil))
def RLaw (K : PySem.W.Frag) : List V → Hp → VK → Prop := fun vs H Q => ∃ (s : Addr) (ns : List Int), vs = [.ref s] ∧ SqL K H s (ns.map V.int) ∧ Tabs (TL K) H ∧ ∀ H', Q (.bl true) H'
theorem two_lands {a l : Addr} {σ : L2.St} {H : Hp} {Q : VK} (pen : PenAt H a l 50000) (h1 : σ[1]? = some (some (.ref a))) (h : ∀ (H3 : Hp) (r : V) (L : Land), But a H H3 → PenAt H3 a l 40000 → LandAt H3 r L → L.Ok → Q r H3) :
    tIf (tTest (tOp rEq (tCall sp__law_draw [] E0 (tCons (tVar 1) (tCons (tC (.int 3)) tNil))) (tC (.int 0)))) (tCall sp__law_any_land [] E0 (tCons (tVar 1) (tCons (tC (.int 3)) (tCons (tC (.int 4)) tNil))))
      (tCall sp__law_land [] E0 (tCons (tVar 1) (tCons (tOp (rI0 fun i j => .int (i + j)) (tC (.int 1)) (tCall sp__law_draw [] E0 (tCons (tVar 1) (tCons (tC (.int 3)) tNil)))) (tCons (tC (.int 3)) (tCons (tC (.int 9)) tNil))))) σ H Q := by
  refine ⟨_, h1, a, l, 3, 49999, rfl, pen, by decide, by decide, fun H2 v b2 p2 v0 v1 => ⟨rfl, _, rfl, ?_⟩⟩
  refine ite2 (fun _ => ?_) (fun _ => ?_)
  · exact ⟨_, h1, a, l, 40000, rfl, p2.less (by decide), fun H3 r L b3 p3 hl ok => h H3 r L (b2.trans b3) p3 hl ok⟩
  · refine ⟨_, h1, _, h1, a, l, 3, 49998, rfl, p2, by decide, by decide, fun H3 v3 b3 p3 v30 v31 => ⟨_, _, rfl, rfl, ?_⟩⟩
    obtain ⟨n, rfl⟩ := Int.eq_ofNat_of_zero_le v30
    refine ⟨a, l, 1 + n, 40000, by show [_, V.int (1 + (n : Int)), _, _] = [_, V.int ((1 + n : Nat) : Int), _, _]; rw [Int.natCast_add]; rfl, p3.less (by decide), by omega, by omega, fun H4 r L b4 p4 hl ok => h H4 r L ((b2.trans b3).trans b4) p4 hl ok⟩
theorem pick2 {a b x : V} {i : Nat} (h : [a, b][i]? = some x) : x = a ∨ x = b := by
  have m := List.mem_of_getElem? h
  simpa using m
theorem RestsAt.kp {a l : Addr} {B : Nat} {H H' : Hp} {v : V} {M : Mat} (h : RestsAt H v M) (k : Kp a H H') (p : PenAt H a l B) : RestsAt H' v M := by
  obtain ⟨q, xs, e, h1, n, c⟩ := h
  exact ⟨q, xs, e, k.lst p h1, n, fun i x hx => (c i x hx).kp k p⟩
theorem kp_bd {a d : Addr} {H H1 H' : Hp} (k : Kp a H H1) (b : But d H1 H') (nd : H d = none) : Kp a H H' := fun x o n e t => b x o (fun z => by rw [z, nd] at e; cases e) (k x o n e t)
theorem PenAt.bd {a l d : Addr} {B : Nat} {H H' : Hp} (p : PenAt H a l B) (b : But d H H') (n1 : d ≠ a) (n2 : d ≠ l) : PenAt H' a l B := by
  obtain ⟨cells, at', dg, ct, fo, g1, g2, g3⟩ := p.ex
  exact ⟨cells, at', dg, ct, fo, b _ _ n1.symm g1, b _ _ n2.symm g2, g3⟩
theorem tabs_bd {d : Addr} {H H' : Hp} {kvs : List (Key × V)} {T : List (Addr × Str)} (t : Tabs T H) (s : But d H H') (hk : H d = some (.dK kvs)) : Tabs T H' := fun q hq => by
  obtain ⟨ps, h1, h2, h3⟩ := t q hq
  refine ⟨ps, s _ _ (ne_of h1 hk (fun z => nomatch z)) h1, h2, fun pos cv hc => ?_⟩
  obtain ⟨c, e1, e2⟩ := h3 pos cv hc
  exact ⟨c, e1, s _ _ (ne_of e2 hk (fun z => nomatch z)) e2⟩
theorem PairAt.bd {a l : Addr} {B : Nat} {H H' : Hp} {M : Mat} {kv : Key × V} {z : Str × Nat} (h : PairAt M H kv z) (b : But a H H') (p : PenAt H a l B) : PairAt M H' kv z := by
  obtain ⟨kvs, hk⟩ := p.has
  obtain ⟨e, t, e2, ht⟩ := h
  exact ⟨e, t, e2, b _ _ (ne_of ht hk (fun z => nomatch z)) ht⟩
theorem mat_tr {H : Hp} {v : V} {M : Mat} (h : MatT H v M) : Tr H 2 v (.tuple [.tuple [.int M.a, .int M.b], .tuple [.int M.c, .int M.d]]) := by
  obtain ⟨p, r1, r2, rfl, hp, h1, h2⟩ := h
  exact .inr (.inr ⟨p, _, _, rfl, rfl, hp, .cons (cell_tr h1) (.cons (cell_tr h2) .nil)⟩)
theorem valV_in {key : Key} : ∀ {kvs : List (Key × V)} {kv : Key × V}, kv ∈ kvs → kv.1 = key → ∃ kv2 ∈ kvs, kv2.1 = key ∧ valV kvs key = some kv2.2
  | p :: r, kv, hm, e => by
    by_cases h : p.1 = key
    · exact ⟨p, List.mem_cons_self, h, valV_pos h⟩
    · rcases List.mem_cons.mp hm with z | z
      · rw [z] at e
        exact absurd e h
      · obtain ⟨kv2, h1, h2, h3⟩ := valV_in z e
        exact ⟨kv2, List.mem_cons_of_mem _ h1, h2, by rw [valV_neg h]; exact h3⟩
theorem paired_mem2 {α β : Type} {F : α → β → Prop} {l : List α} {m : List β} (h : Paired F l m) : ∀ {y : β}, y ∈ m → ∃ x, x ∈ l ∧ F x y := by
  induction h with
  | nil => intro y hy; cases hy
  | cons a _ k =>
    intro y hy
    rcases List.mem_cons.mp hy with z | z
    · rw [z]
      exact ⟨_, List.mem_cons_self, a⟩
    · obtain ⟨x, hx, f⟩ := k z
      exact ⟨x, List.mem_cons_of_mem _ hx, f⟩
theorem pair_tr {M : Mat} {H : Hp} {kv : Key × V} {z : Str × Nat} (h : PairAt M H kv z) : Tr H 1 kv.2 (.tuple [.str z.1, .int ((z.2 : Int) % M.wi), .int ((z.2 : Int) / M.wi)]) := by
  obtain ⟨_, t, e, ht⟩ := h
  rw [e]
  exact .inr (.inr ⟨t, _, _, rfl, rfl, ht, .cons (leaf_str _) (.cons (leaf_int _) (.cons (leaf_int _) .nil))⟩)
theorem dic_same {M : Mat} {H : Hp} {kvs kvs2 : List (Key × V)} {zs : List (Str × Nat)} (h : Paired (PairAt M H) kvs zs) (h2 : Paired (PairAt M H) kvs2 zs) : ∀ p ∈ kvs2, ∃ (u : V) (d : PyData), valV kvs p.1 = some u ∧ Tr H 1 p.2 d ∧ Tr H 1 u d := fun p hp => by
  obtain ⟨z, hz, pz⟩ := paired_mem h2 hp
  obtain ⟨kv, hkv, qz⟩ := paired_mem2 h hz
  obtain ⟨kv2, m2, e2, v2⟩ := valV_in hkv (qz.1.trans pz.1.symm)
  obtain ⟨z2, _, rz⟩ := paired_mem h m2
  have ez : z2 = z := by
    have q := rz.1.symm.trans (e2.trans pz.1)
    injection q with q
    obtain ⟨a, b⟩ := subN_inj q
    exact Prod.ext a b
  rw [ez] at rz
  exact ⟨kv2.2, _, v2, pair_tr pz, pair_tr rz⟩
theorem Land.Ok.wok {L : Land} (h : L.Ok) : WOk L := by
  have n3 := h.s3
  have n6 := h.r6
  exact ⟨h.s0, by omega, fun x hx => ⟨(h.sn x hx).1, Nat.le_trans (h.sn x hx).2 (by decide)⟩, h.sd, fun r hr => ⟨(h.rn r hr).nm.1, Nat.le_trans (h.rn r hr).nm.2 (by decide), (h.rn r hr).st, (h.rn r hr).fn, (h.rn r hr).p1, (h.rn r hr).p99, (h.rn r hr).lb⟩, h.rd, by omega⟩
abbrev N_law : List Str := ["_law_script", "_law_pen_here", "_law_land_here", "_law_size", "_law_shown", "_law_made", "_law_matrix", "_law_fault_here", "_law_wide", "_law_rests", "_law_spots", "_law_spot", "_law_told", "_law_k", "_law_rest", "_law_row"]
theorem sc_law : FnScope N_law ["_law_script"] (defScope s_law) := ⟨rfl, rfl, rfl, by decide +kernel, rfl, by decide +kernel, by decide +kernel⟩
theorem ok_law (T : Tx K mg) (TB : TabB base mg (He.cT K ("law", none)).1 (He.cT K ("law", none)).2) (TB2 : TabB base mg (He.cT K ("_law_too_large_right", none)).1 (He.cT K ("_law_too_large_right", none)).2) : FnG P w K mg base 17 "law" (RLaw K) := by
  obtain ⟨fd, F⟩ := T.d_law
  obtain ⟨gf, mf, kf, Ff⟩ := ok__law_fault (P := P) (w := w) (base := base) T 13
  obtain ⟨gm, mm, km, Fm⟩ := ok__law_made_right (P := P) (w := w) (base := base) T 13 (by decide)
  refine ⟨_, T.g_law, F.kp, fun A outer s H us vs Q hr0 hG e0 r h => ?_⟩
  obtain ⟨sa, ns, rfl, hs, tabs, k⟩ := h
  refine fn_g2 F sc_law (fun _ _ _ _ _ _ us hl => match us, hl with | [_], _ => rfl) hr0 e0 r rfl fun hr => ?_
  have hu := hu64 hr
  have hu1 := hu_of hr
  have hmT : ((He.cT K ("law", none)).2, ("law" : Str) ++ ".<locals>." ++ "<lambda>") ∈ TL K := List.mem_cons_self
  refine ⟨_, (pss_cons (st 1 sc_law.nd (pe_cl (ok__law_pen T) hr pass0 (pa_cons (pv 0) pa_nil)))
    (pss_cons (st 2 sc_law.nd (pe_ifExp (pt_cmpR op_eq (pe_cl (ok__law_draw T) hr pass0 (pa_cons (pv 1) (pa_cons pe_int pa_nil))) pe_int (nomark _)) (pe_cl (ok__law_any_land T) hr pass0 (pa_cons (pv 1) (pa_cons pe_int (pa_cons pe_int pa_nil)))) (pe_cl (ok__law_land T) hr pass0 (pa_cons (pv 1) (pa_cons (pe_op op_add pe_int (pe_cl (ok__law_draw T) hr pass0 (pa_cons (pv 1) (pa_cons pe_int pa_nil)))) (pa_cons pe_int (pa_cons pe_int pa_nil)))))))
    (pss_cons (ps_asg (pe_tup (pa_cons (pe_mm (ok_Map_init2 T) hr pass0 (pa_cons (pe_cl (ok__law_land_text T) hr pass0 (pa_cons (pv 2) pa_nil)) pa_nil)) (pa_cons (pe_cl (ok__law_drawn_matrix T) hr pass0 (pa_cons (pv 1) pa_nil)) pa_nil))) (pg_tup rfl (pgs_cons (gn 5 sc_law.nd) (pgs_cons (gn 6 sc_law.nd) pgs_nil))))
    (pss_cons (st 3 sc_law.nd (pe_abs T (pe_cl (ok__law_determinant T) hr pass0 (pa_cons (pv 6) pa_nil))))
    (pss_cons (ps_if (pt_cmpR op_gt (pe_op op_mul (pv 3) (pe_lenS T (pe_dget hu1 (pv 2) pe_str (fun _ _ => rfl)))) pe_int (nomark _)) (pss_cons (st 7 sc_law.nd (pe_lst (pa_cons pe_str (pa_cons pe_str (pa_cons (pe_op op_mul (pv 3) (pe_lenS T (pe_dget hu1 (pv 2) pe_str (fun _ _ => rfl)))) (pa_cons pe_int pa_nil)))))) (pss_cons (ps_if (pt_not (pt_val (pe_fng (ok__law_same T) hr hG (pa_cons (pe_lamF (t := tWn5 K 6) Ff mf kf TB rfl hmT (tl_law T) hr (by decide) (lamS_by rfl) rfl (fun _ _ _ _ _ => rfl) (fun A outer s H E f c' hr2 => pe_cl (ok_widened T) hr2 (passes_call (takes_of rfl rfl rfl rfl) fun _ _ _ _ h => h) (pa_cons (pv 5) (pa_cons (pv 6) pa_nil)))) (pa_cons (pv 7) pa_nil))))) (pss_one (ps_ret pe_bl)) pss_nil) (pss_one (ps_ret (pe_and (pe_fng (ok__law_same T) hr hG (pa_cons (pe_lamF (t := tWg5 K 6) Ff mf kf TB rfl hmT (tl_law T) hr (by decide) (lamS_by rfl) rfl (fun _ _ _ _ _ => rfl) (fun A outer s H E f c' hr2 => pe_cl (ok_widening T) hr2 (passes_call (takes_of rfl rfl rfl rfl) fun _ _ _ _ h => h) (pa_cons (pv 5) (pa_cons (pv 6) pa_nil)))) (pa_cons (pv 7) pa_nil))) (pe_one (pe_fng (ok__law_too_large_right T TB2) hr hG (pa_cons (pv 1) (pa_cons (pv 5) (pa_cons (pv 2) pa_nil)))))))))) pss_nil)
    (pss_cons (par3 8 9 10 sc_law.nd (pa_cons (pe_cl (ok__law_wide_land T) hr pass0 (pa_cons (pv 2) (pa_cons (pv 6) pa_nil))) (pa_cons (pe_cl (ok__law_remainders T) hr pass0 (pa_cons (pv 6) pa_nil)) (pa_cons pe_dnewK pa_nil))))
    (pss_cons (st 4 sc_law.nd (pe_cl (ok__law_pick T) hr pass0 (pa_cons (pv 1) (pa_cons (pe_lst (pa_cons (pv 6) (pa_cons (pe_lc (te := tLo K 15) rfl sc_law.nd (pi_tup (pv 6)) (blkOk_by (own := [("_law_row", 15)]) (N := N_law) (sc := defScope s_law) (by decide +kernel)) (fun _ _ _ _ _ => (gn 15 sc_law.nd)) (fun _ _ _ _ _ => pts_nil) (fun _ _ _ _ _ => (pe_lstOf T (pv 15)))) pa_nil))) pa_nil))))
    (pss_cons (ps_if (pt_not (pt_val (pe_lamM (t := tWn5 K 4) (i := 8) Fm hG mm km TB rfl hmT (tl_law T) hr (by decide) (lamS_by rfl) rfl (fun _ _ _ _ _ => rfl) (fun A outer s H E f c' hr2 => pe_cl (ok_widened T) hr2 (passes_call (takes_of rfl rfl rfl rfl) fun _ _ _ _ h => h) (pa_cons (pv 5) (pa_cons (pv 4) pa_nil))) rfl rfl rfl (.inl rfl) rfl))) (pss_one (ps_ret pe_bl)) pss_nil)
    (pss_cons (ps_if (pt_cmpR (op_eqT hu) (pe_cl (ok__law_land_fault T) hr pass0 (pa_cons (pv 8) pa_nil)) (pe_lst pa_nil) (nomark _)) (pss_cons (ps_for (PassesOwn.never) rfl (pi_list (pe_dget hu1 (pv 2) pe_str (fun _ _ => rfl))) (gn 11 sc_law.nd) (pss_one (ps_for (PassesOwn.never) rfl (pi_enum rfl T.f_enumerate (pa_cons (pv 9) pa_nil)) (pg_tup rfl (pgs_cons (gn 13 sc_law.nd) (pgs_cons (gn 14 sc_law.nd) pgs_nil))) (pss_one (ps_dput hu1 (pv 10) (pe_op op_add_str (pe_op op_add_str (pv 11) pe_str) (pe_strI T (pv 13))) (pe_tup (pa_cons (pv 11) (pa_cons (pe_at (pv 14) pe_int) (pa_cons (pe_at (pv 14) pe_int) pa_nil)))) rfl))))) (pss_cons (st 12 sc_law.nd (pe_cl (E := fun _ _ _ => False) (ok_widening T) hr passes_no (pa_cons (pv 5) (pa_cons (pe_cl (ok__law_pick T) hr pass0 (pa_cons (pv 1) (pa_cons (pe_lst (pa_cons (pv 6) (pa_cons (pe_lc (te := tLo K 15) rfl sc_law.nd (pi_tup (pv 6)) (blkOk_by (own := [("_law_row", 15)]) (N := N_law) (sc := defScope s_law) (by decide +kernel)) (fun _ _ _ _ _ => (gn 15 sc_law.nd)) (fun _ _ _ _ _ => pts_nil) (fun _ _ _ _ _ => (pe_lstOf T (pv 15)))) pa_nil))) pa_nil))) pa_nil)))) (pss_one (ps_if (pw_or (pt_not (pt_val (pe_callB call_isOwn (by rfl) T.f_isinstance boot_isinstance (pa_cons (pv 12) (pa_cons (pe_glob (v := .ref (He.ga K "Matching")) (by rfl) T.g_Matching rfl) pa_nil))))) (pw_or (pt_cmpR (op_neT hu) (pe_fld (pv 12) rfl) (pv 6) (nomark _)) (pw_or1 (pt_cmpR (op_neDic hu) (pe_fld (pv 12) rfl) (pv 10) (nomark _))))).pt (pss_one (ps_ret pe_bl)) pss_nil)))) (pss_one (ps_if (pt_not (pt_val (pe_fng (ok__law_same T) hr hG (pa_cons (pe_lamF (t := tWg5 K 6) Ff mf kf TB rfl hmT (tl_law T) hr (by decide) (lamS_by rfl) rfl (fun _ _ _ _ _ => rfl) (fun A outer s H E f c' hr2 => pe_cl (ok_widening T) hr2 (passes_call (takes_of rfl rfl rfl rfl) fun _ _ _ _ h => h) (pa_cons (pv 5) (pa_cons (pv 6) pa_nil)))) (pa_cons (pe_cl (ok__law_land_fault T) hr pass0 (pa_cons (pv 8) pa_nil)) pa_nil))))) (pss_one (ps_ret pe_bl)) pss_nil)))
    (pss_one (ps_ret (pe_and (pe_fng (ok__law_is_land T) hr hG (pa_cons (pv 5) (pa_cons (pv 2) pa_nil))) (pe_one (pe_fng (ok__law_too_large_right T TB2) hr hG (pa_cons (pv 1) (pa_cons (pv 5) (pa_cons (pv 2) pa_nil))))))))))))))))), ?_⟩
  refine ⟨_, rfl, sa, ns, rfl, hs, fun H1 a l na nl s1 pen1 => ?_⟩
  have t1 := tabs_same tabs s1
  refine two_lands pen1 rfl fun H3 vl L b3 p3 hl ok => ?_
  refine ⟨_, rfl, vl, L, rfl, hl, ok.sz, fun H4 s4 => fun p dx np ndx hne => ⟨p, dx, lawText L, .non, L, rfl, upd_same, .inl ⟨rfl, rfl, ok⟩, fun H5 b5 mo => ⟨rfl, ?_⟩⟩⟩
  have s5 : Same H4 H5 := but_same b5 (same_new ndx) np
  have p5 := (p3.mono s4).mono s5
  refine ⟨_, rfl, a, l, 39970, rfl, p5, fun H6 vm M b6 p6 hM dr => ⟨by show 2 ≤ sizeLine; decide, fun t nt => ?_⟩⟩
  have s7 := same_new (o := .tup [.ref p, vm]) nt
  have p7 := p6.mono s7
  have hM7 := hM.mono s7
  have mo7 := (mo.kp (.of_but b6) p5).mono s7
  have hl7 := (((hl.mono s4).mono s5).kp (.of_but b6) p5).mono s7
  have t7 := tabs_same (tabs_but (tabs_same (tabs_same (tabs_but t1 b3 pen1) s4) s5) b6 p5) s7
  refine ⟨t, _, rfl, SqT.of upd_same, rfl, _, _, rfl, _, _, rfl, rfl, ?_⟩
  generalize hH7 : upd H6 t (.tup [.ref p, vm]) = H7 at p7 hM7 mo7 hl7 t7
  obtain ⟨la, l1, l2, ys, rfl, hla, hl1, hl2, hy⟩ := id hl7
  have d1 := dr.d1
  have d0 := dr.d0
  have n1 : 1 ≤ L.spots.length := List.length_pos_iff.mpr ok.s0
  have n3 := ok.s3
  have sm : M.Small := dr.bd.small (by decide)
  refine ⟨_, rfl, vm, M, rfl, hM7.mat, sm.fits, _, rfl, ?_⟩
  rw [natAbs_if]
  have en : ((M.det.natAbs * L.spots.length : Nat) : Int) = (M.det.natAbs : Int) * (((L.spots.map V.str).length : Nat) : Int) := by rw [List.length_map, Int.natCast_mul]
  have cm : CMul (M.det.natAbs : Int) (((L.spots.map V.str).length : Nat) : Int) := .inl ⟨by omega, by omega⟩
  refine ⟨_, rfl, _, rfl, la, _, rfl, land_spots hla, l1, _, rfl, .inl (SqL.of hl1), _, _, rfl, rfl, cm, ?_⟩
  refine ⟨_, _, rfl, rfl, _, rfl, ite2 (fun hgt => ?_) (fun hle => ?_)⟩
  · have h24 : 24 < M.det.natAbs * L.spots.length := by
      have z := of_decide_eq_true hgt
      rw [← en] at z
      omega
    have lg : ((M.det.natAbs * L.spots.length : Nat) : Int).natAbs.log2 < 3 * 4300 := by
      refine log2_of (k := 20) ?_ (by decide)
      rw [Int.natAbs_natCast]
      exact Nat.lt_of_le_of_lt (Nat.mul_le_mul d1 n3) (by decide)
    have lv := leaves_many lg
    refine ⟨_, rfl, _, rfl, la, _, rfl, land_spots hla, l1, _, rfl, .inl (SqL.of hl1), _, _, rfl, rfl, cm, by show 4 ≤ sizeLine; decide, fun z nz => ?_⟩
    have s8 := same_new (o := .lst (faultO (some (.many (M.det.natAbs * L.spots.length : Nat))))) nz
    have ez : (upd H7 z (.lst (faultO (some (.many (M.det.natAbs * L.spots.length : Nat)))))) = upd H7 z (.lst [.str "many", .str "spots", .int ((M.det.natAbs : Int) * (((L.spots.map V.str).length : Nat) : Int)), .int 24]) := by rw [← en]; rfl
    have gz : upd H7 z (.lst (faultO (some (.many (M.det.natAbs * L.spots.length : Nat))))) z = some (.lst (faultO (some (.many (M.det.natAbs * L.spots.length : Nat))))) := upd_same
    rw [ez] at s8 gz
    have p8 := p7.mono s8
    have t8 := tabs_same t7 s8
    have mo8 := mo7.mono s8
    have hl8 := hl7.mono s8
    have hM8 := hM7.mono s8
    refine ⟨t8, fun H9 e9 t9 => ⟨some (.many (M.det.natAbs * L.spots.length : Nat)), fun _ _ => False, ?_, fun H10 l10 s10 e10 => ?_⟩⟩
    · intro E Hx Qx sx he
      exact ⟨_, rfl, _, rfl, .ref p, vm, L, M, rfl, (mo8.kp (.of_ext e9) p8).mono sx, ok, ((hM8.kp (.of_ext e9) p8).mono sx).mat, sm.fits, .inr (.inl ⟨d0, h24, fun H' cls d s e => he.2 _ rfl H' cls d s e⟩)⟩
    have g10 := s10 _ _ ((Kp.of_ext (a := a) e9).lst p8 gz)
    refine ⟨_, rfl, l10, z, rfl, .inl ⟨_, e10, g10, lv⟩, true, rfl, iteF ?_⟩
    have p10 := (p8.ext e9).mono s10
    have t10 := tabs_same t9 s10
    refine ⟨t10, fun H11 e11 t11 => ⟨some (.many (M.det.natAbs * L.spots.length : Nat)), fun _ _ => False, ?_, fun H12 l12 s12 e12 => ?_⟩⟩
    · intro E Hx Qx sx he
      exact ⟨_, rfl, _, rfl, .ref p, vm, L, M, rfl, (((mo8.kp (.of_ext e9) p8).mono s10).kp (.of_ext e11) p10).mono sx, ok, ((((hM8.kp (.of_ext e9) p8).mono s10).kp (.of_ext e11) p10).mono sx).mat, sm.fits, .inr (.inl ⟨d0, h24, fun H' cls d s e => he.2 _ rfl H' cls d s e⟩)⟩
    have g12 := s12 _ _ ((Kp.of_ext (a := a) e11).lst p10 g10)
    refine ⟨_, rfl, l12, z, rfl, .inl ⟨_, e12, g12, lv⟩, true, rfl, iteT ?_⟩
    exact ⟨_, rfl, _, rfl, _, rfl, a, l, .ref p, .ref la, L, 1000, rfl, ((p10.ext e11).mono s12).less (by decide), (((mo8.kp (.of_ext e9) p8).mono s10).kp (.of_ext e11) p10).mono s12, (((hl8.kp (.of_ext e9) p8).mono s10).kp (.of_ext e11) p10).mono s12, ok, tabs_same t11 s12, k⟩
  have h24 : M.det.natAbs * L.spots.length ≤ 24 := by
    have z : ¬ (24 : Int) < (M.det.natAbs : Int) * (((L.spots.map V.str).length : Nat) : Int) := fun z => hle (decide_eq_true z)
    rw [← en] at z
    omega
  have d24 : M.det.natAbs ≤ 24 := Nat.le_trans (Nat.le_mul_of_pos_right _ (by omega)) h24
  refine ⟨_, rfl, _, rfl, .ref la, vm, L, M, rfl, hl7, ok, hM7.mat, sm, d0, d24, fun H8 wv s8 hw8 => ⟨_, rfl, vm, M, rfl, (hM7.mono s8).mat, sm, d0, by omega, fun H9 rv s9 hr9 => fun d nd => ⟨_, _, _, rfl, ?_⟩⟩⟩
  have s10 : Same H9 (upd H9 d (.dK [])) := same_new nd
  have hd10 : upd H9 d (.dK []) d = some (.dK []) := upd_same
  generalize hH10 : upd H9 d (.dK []) = H10 at s10 hd10
  have s710 := (s8.trans s9).trans s10
  have p10 := p7.mono s710
  have t10 := tabs_same t7 s710
  have mo10 := mo7.mono s710
  have hl10 := hl7.mono s710
  have hM10 := hM7.mono s710
  have hw10 := hw8.mono (s9.trans s10)
  have hr10 := hr9.mono s10
  obtain ⟨tm, r1, r2, rfl, htm, hc1, hc2⟩ := id hM10
  refine ⟨_, rfl, _, rfl, ?_⟩
  refine lists_of htm hc1 hc2 fun H11 D s11 hD => ⟨by show 2 ≤ sizeLine; decide, fun g ng => ?_⟩
  have s12 := same_new (o := .lst [.ref tm, .ref D]) ng
  have s1012 := s11.trans s12
  refine ⟨a, l, .ref g, [.ref tm, .ref D], 39000, rfl, (p10.mono s1012).less (by decide), ⟨g, rfl, .inr upd_same⟩, by show 0 < 2; decide, by show 2 < _; decide, fun H13 i13 sv b13 p13 hsv => ?_⟩
  have hsh : MatAt H13 sv M := by
    rcases pick2 hsv with rfl | rfl
    · exact ((hM10.mono s1012).kp (.of_but b13) (p10.mono s1012)).mat
    · exact (hD.mono s12).kp (.of_but b13) (p10.mono s1012)
  have k13 : Kp a H10 H13 := (Kp.of_same s1012).trans (.of_but b13)
  have t13 := tabs_but (tabs_same t10 s1012) b13 (p10.mono s1012)
  have mo13 := mo10.kp k13 p10
  have hl13 := hl10.kp k13 p10
  have hM13 := hM10.kp k13 p10
  have hw13 := hw10.kp k13 p10
  have wok := wide_ok ok d0 h24
  have wsh := wide_sh ok sm d0 d24
  refine ⟨t13, wv, rfl, fun H14 e14 t14 => ⟨wideLand M L, hw13.kp (.of_ext e14) p13, wok, wsh, ?_, fun H15 s15 => ?_⟩⟩
  · intro E Hx Qx sx he
    exact ⟨_, rfl, _, rfl, .ref p, sv, L, M, rfl, (mo13.kp (.of_ext e14) p13).mono sx, ok, (hsh.kp (.of_ext e14) p13).mono sx, sm.fits, .inr (.inr ⟨d0, h24, sm, he⟩)⟩
  refine ⟨true, rfl, iteF ?_⟩
  have k15 : Kp a H10 H15 := (k13.trans (.of_ext e14)).trans (.of_same s15)
  have p15 := (p13.ext e14).mono s15
  have t15 := tabs_same t14 s15
  have mo15 := mo10.kp k15 p10
  have hl15 := hl10.kp k15 p10
  have hM15 := hM10.kp k15 p10
  have hw15 := hw10.kp k15 p10
  refine ⟨_, rfl, wv, wideLand M L, rfl, hw15, wok, fun H16 lf s16 e16 => ⟨by show 0 ≤ sizeLine; decide, fun g2 ng2 => ?_⟩⟩
  have s17 := same_new (o := .lst []) ng2
  have s1617 := s16.trans s17
  have p17 := p15.mono s1617
  have t17 := tabs_same t15 s1617
  have e17 := s17 _ _ e16
  have tn := nil_tr (upd_same (H := H16) (a := g2) (o := .lst []))
  have mo9 := mo7.mono (s8.trans s9)
  have hl9 := hl7.mono (s8.trans s9)
  have hM9 := hM7.mono (s8.trans s9)
  have p9 := p7.mono (s8.trans s9)
  have k17 : Kp a H9 (upd H16 g2 (.lst [])) := ((Kp.of_same s10).trans k15).trans (.of_same s1617)
  have hd17 : upd H16 g2 (.lst []) d = some (.dK []) := by
    have nda := (p9.ne nd).1
    have x13 : H13 d = some (.dK []) := b13 d _ nda (s1012 _ _ hd10)
    have x15 : H15 d = some (.dK []) := s15 _ _ (e14 d _ x13 (fun _ z => nomatch z))
    exact s1617 _ _ x15
  generalize hH17 : upd H16 g2 (.lst []) = H17 at s17 s1617 p17 t17 e17 tn k17 hd17
  cases hF : landFault (wideLand M L) with
  | none =>
    rw [hF] at e17
    refine ⟨1, 1, _, _, by omega, nil_tr e17, tn, _, rfl, ?_⟩
    rw [eqv_nil]
    have hl17 := hl9.kp k17 p9
    have hr17 := hr9.kp k17 p9
    obtain ⟨la', l1', l2', ys', ela, hla17, hl117, _, _⟩ := id hl17
    cases ela
    obtain ⟨lr, xs, rfl, hlr, hxl, hxc⟩ := id hr17
    refine iteT ⟨_, rfl, la, _, rfl, land_spots hla17, l1', rfl, ⟨_, SqL.of hl117⟩, ?_⟩
    refine for_list (xs := L.spots.map V.str) (fun i σ H' => ∃ o11 o13 o14 : Option V, σ = [some (.ref sa), some (.ref a), some (.ref la), some (.int (M.det.natAbs : Int)), some sv, some (.ref p), some (.ref tm), none, some wv, some (.ref lr), some (.ref d), o11, none, o13, o14, none] ∧ But d H17 H' ∧ ∃ kvs, H' d = some (.dK kvs) ∧ Paired (PairAt M H') kvs (pairsOf M.det.natAbs (L.spots.take i))) ⟨none, none, none, rfl, But.refl _, [], hd17, by rw [List.take_zero]; exact .nil⟩ ?_ ?_ ?_
    · rintro i σ H' hi ⟨o11, o13, o14, rfl, b1, _⟩
      exact SqL.of (b1 _ _ (ne_of hl117 hd17 (fun z => nomatch z)) hl117)
    · rintro i v σ H' hv ⟨o11, o13, o14, rfl, b1, kvs, hd1, hk1⟩
      obtain ⟨x, hx4, rfl⟩ := map_at hv
      have xo := Nat.le_trans (ok.sn x (mem_at hx4)).2 (show 40 ≤ 1000 by decide)
      have kl1 := paired_len hk1
      refine ⟨_, rfl, lr, _, rfl, SqL.of (b1 _ _ (ne_of hlr hd17 (fun z => nomatch z)) hlr), ?_⟩
      refine for_it walk_enum (fun k σ H3 => ∃ o13 o14 : Option V, σ = [some (.ref sa), some (.ref a), some (.ref la), some (.int (M.det.natAbs : Int)), some sv, some (.ref p), some (.ref tm), none, some wv, some (.ref lr), some (.ref d), some (.str x), none, o13, o14, none] ∧ But d H17 H3 ∧ ∃ kvs, H3 d = some (.dK kvs) ∧ Paired (PairAt M H3) kvs (pairsOf M.det.natAbs (L.spots.take i) ++ (List.range k).map fun k => (x, k))) ⟨o13, o14, rfl, b1, kvs, hd1, by rw [List.range_zero, List.map_nil, List.append_nil]; exact hk1⟩ (fun k σ H3 hk ⟨_, _, _, b2, _⟩ => SqL.of (b2 _ _ (ne_of hlr hd17 (fun z => nomatch z)) hlr)) ?_ ?_
      · rintro k v σ H3 H4 hk ⟨o13, o14, rfl, b2, kvs2, hd2, hk2⟩ ⟨t4, _, y4, rfl, nt4, rfl, f1, f2⟩
        injection f1 with f1
        subst f1
        have s24 := same_new (o := .tup [.int (k : Int), y4]) nt4
        have cy4 := ((hxc k y4 f2).but b2 hd17 (fun _ z => nomatch z)).mono s24
        have kl := paired_len hk2
        rw [List.length_append, pairs_len, List.length_map, List.length_range] at kl
        have kd : k < M.det.natAbs := by omega
        have kl2 : kvs2.length ≤ 1000 := by
          have : M.det.natAbs * (L.spots.take i).length ≤ 24 * 3 := Nat.mul_le_mul d24 (Nat.le_trans (List.length_take_le' ..) n3)
          omega
        have new : ∀ kv ∈ kvs2, kv.1 ≠ .inr (subN x k) := by
          intro kv hm e
          obtain ⟨z, hz, hz1, _⟩ := paired_mem hk2 hm
          rw [hz1] at e
          injection e with e
          obtain ⟨ex, ek⟩ := subN_inj e
          rcases List.mem_append.mp hz with h | h
          · have := pairs_mem h
            rw [ex] at this
            exact not_mem_take ok.sd hx4 this
          · obtain ⟨j, hj, rfl⟩ := List.mem_map.mp h
            have := List.mem_range.mp hj
            have : j = k := ek
            omega
        refine ⟨t4, _, rfl, SqT.of upd_same, rfl, _, _, rfl, _, _, rfl, rfl, ?_⟩
        refine ⟨_, rfl, _, rfl, cy4.ix0 ⟨_, rfl, cy4.ix1 ⟨by show 3 ≤ sizeLine; decide, fun t5 nt5 => ?_⟩⟩⟩
        have s25 := same_new (o := .tup [.str x, .int ((k : Int) % M.wi), .int ((k : Int) / M.wi)]) nt5
        have hd5 := s25 _ _ (s24 _ _ hd2)
        refine ⟨_, rfl, _, rfl, x, ".", rfl, rfl, one_len xo, _, rfl, _, rfl, log_sm (by omega), x ++ ".", numS k, rfl, rfl, two_len xo (by omega), d, _, rfl, .inl ⟨kvs2, .inr (subN x k), hd5, rfl, small1000 kl2, rfl⟩, ?_⟩
        refine ⟨_, _, rfl, ((b2.trans (.of s24)).trans (.of s25)).put, _, upd_same, ?_⟩
        rw [putK_new new, List.range_succ, List.map_append, ← List.append_assoc]
        refine Paired.snoc (L2.Paired.mapP hk2 fun _ _ w => ((w.mono s24).mono s25).updD hd5) ⟨rfl, t5, rfl, ?_⟩
        rw [upd_ne (ne_of (upd_same) hd5 (by intro z; cases z)), upd_same]
      · rintro σ H3 ⟨o13, o14, rfl, b2, kvs2, hd2, hk2⟩
        refine ⟨some (.str x), o13, o14, rfl, b2, kvs2, hd2, ?_⟩
        rw [hxl] at hk2
        rw [pairs_snoc hx4]
        exact hk2
    · rintro σ H18 ⟨o11, o13, o14, rfl, b18, kvs, hd18, hk18⟩
      rw [List.length_map, List.take_length] at hk18
      have nd9 := p9.ne nd
      have k18 := kp_bd k17 b18 nd
      have p18 := p17.bd b18 nd9.1 nd9.2
      have t18 := tabs_bd t17 b18 hd17
      have hM18 := hM9.kp k18 p9
      obtain ⟨tm', r1', r2', em, htm18, hc18, hc18'⟩ := id hM18
      cases em
      refine ⟨_, rfl, _, rfl, _, rfl, ?_⟩
      refine lists_of htm18 hc18 hc18' fun H19 D2 s19 hD2 => ⟨by show 2 ≤ sizeLine; decide, fun g3 ng3 => ?_⟩
      have s20 := same_new (o := .lst [.ref tm, .ref D2]) ng3
      have s1820 := s19.trans s20
      refine ⟨a, l, .ref g3, [.ref tm, .ref D2], 38000, rfl, (p18.mono s1820).less (by decide), ⟨g3, rfl, .inr upd_same⟩, by show 0 < 2; decide, by show 2 < _; decide, fun H21 i21 sv2 b21 p21 hsv2 => ?_⟩
      have hsh2 : MatAt H21 sv2 M := by
        rcases pick2 hsv2 with rfl | rfl
        · exact ((hM18.mono s1820).kp (.of_but b21) (p18.mono s1820)).mat
        · exact (hD2.mono s20).kp (.of_but b21) (p18.mono s1820)
      have k21 : Kp a H9 H21 := (k18.trans (.of_same s1820)).trans (.of_but b21)
      have t21 := tabs_but (tabs_same t18 s1820) b21 (p18.mono s1820)
      refine ⟨.ref p, sv2, L, M, rfl, mo9.kp k21 p9, ok, hsh2, sm.fits, .inr (.inr ⟨d0, h24, sm, ⟨fun _ H22 v22 s22 mt => ?_, fun fl e => by rw [hF] at e; cases e⟩⟩)⟩
      obtain ⟨pm, dm, tt, dd, kvs2, rfl, hpm, hmt, hdd, hkk⟩ := mt
      have k22 := k21.trans (.of_same s22)
      have p22 := p21.mono s22
      have hM22 := hM9.kp k22 p9
      have hd22 : H22 d = some (.dK kvs) := s22 _ _ (b21 d _ nd9.1 (s1820 _ _ hd18))
      have hk22 : Paired (PairAt M H22) kvs (pairsOf M.det.natAbs L.spots) := L2.Paired.mapP hk18 fun _ _ w => (((w.mono s1820).bd b21 (p18.mono s1820))).mono s22
      refine ⟨_, rfl, pm, _, dm, _, _, rfl, hpm, fun u hu => hu, true, rfl, iteF ?_⟩
      refine ⟨_, rfl, pm, _, dm, _, _, rfl, hpm, T.c_Matching, T.n_Matching_matrix, rfl, _, rfl, 2, 2, _, _, by omega, mat_tr hmt, mat_tr hM22, _, rfl, ?_⟩
      rw [(tr_plain 2 _ _ (mat_tr hM22)).2.2]
      refine iteF ⟨_, rfl, pm, _, dm, _, _, rfl, hpm, T.c_Matching, T.n_Matching_spots, rfl, _, rfl, dd, d, kvs2, kvs, rfl, rfl, hdd, hd22, by rw [paired_len hkk, paired_len hk22], dic_same hk22 hkk, false, rfl, iteF ?_⟩
      exact ⟨_, rfl, _, rfl, .ref p, .ref la, L, rfl, mo9.kp k22 p9, hl9.kp k22 p9, ok.wok, ok.sz, fun H23 s23 => ⟨true, rfl, iteT ⟨_, rfl, _, rfl, _, rfl, a, l, .ref p, .ref la, L, 1000, rfl, (p22.mono s23).less (by decide), (mo9.kp k22 p9).mono s23, (hl9.kp k22 p9).mono s23, ok, tabs_same (tabs_same t21 s22) s23, k⟩⟩⟩
  | some fl =>
    rw [hF] at e17
    have lv := fault_leaves wok wsh hF
    obtain ⟨ds, hdl, hln⟩ := leaves_of lv.all
    have tq : Tr H17 1 (.ref lf) (.list ds) := .inr (.inl ⟨lf, _, _, rfl, rfl, e17, hdl⟩)
    refine ⟨1, 1, _, _, by omega, tq, tn, _, rfl, ?_⟩
    have ef : PyData.eqv (.list ds) (.list []) = false := by
      cases ds with
      | nil => exact absurd (List.eq_nil_of_length_eq_zero hln.symm) lv.n0
      | cons a r => simp [PyData.eqv, PyData.eqvAll]
    rw [ef]
    refine iteF ⟨t17, fun H18 e18 t18 => ⟨some fl, MatchO K M L.spots, ?_, fun H19 l19 s19 e19 => ?_⟩⟩
    · intro E Hx Qx sx he
      have k18 := (k17.trans (.of_ext (a := a) e18)).trans (.of_same sx)
      exact ⟨_, rfl, _, rfl, .ref p, .ref tm, L, M, rfl, mo9.kp k18 p9, ok, (hM9.kp k18 p9).mat, sm.fits, .inr (.inr ⟨d0, h24, sm, by rw [hF]; exact he⟩)⟩
    have k19 := (k17.trans (.of_ext (a := a) e18)).trans (.of_same s19)
    refine ⟨_, rfl, wv, wideLand M L, rfl, (hw8.mono s9).kp k19 p9, wok, fun H20 l20 s20 e20 => ?_⟩
    rw [hF] at e20
    have k20 := k19.trans (.of_same s20)
    have p20 := ((p17.ext e18).mono s19).mono s20
    refine ⟨l19, l20, rfl, .inl ⟨_, s20 _ _ e19, e20, lv⟩, true, rfl, iteF ?_⟩
    exact ⟨_, rfl, _, rfl, .ref p, .ref la, L, rfl, mo9.kp k20 p9, hl9.kp k20 p9, ok.wok, ok.sz, fun H23 s23 => ⟨true, rfl, iteT ⟨_, rfl, _, rfl, _, rfl, a, l, .ref p, .ref la, L, 1000, rfl, (p20.mono s23).less (by decide), (mo9.kp k20 p9).mono s23, (hl9.kp k20 p9).mono s23, ok, tabs_same (tabs_same (tabs_same t18 s19) s20) s23, k⟩⟩⟩
end
end J
set_option Elab.async false
set_option linter.all false
set_option maxRecDepth 100000
set_option maxHeartbeats 4000000
set_option exponentiation.threshold 3000
namespace J
open PySem PySem.Spec PyProof.Rows L2 TL

/-! J46: the end. -/
open L2 LamX
abbrev LJ : PySem.W.OpenLaw := PySem.Challenge.rw_alljourneys_k19_whole_widened_maps
theorem walkJ {n : Nat} {q : Program} {loose : List Str} {XP : (Str → Option Value) → Heap → Prop} {d : DefRec} (hn : LJ.most = some n) (hn2 : n ≤ sizeLine) (hdf : d.params.defaults = []) (hnm : d.name = ("law" : Str)) :
    PySem.W.WalkO q loose XP hookJ.says LJ.row.toRowW d [] (fun f vs => PySem.call f vs) := by
  refine Att.attach_callB hn hdf fun w s₀ s₁ mg mb fa o pm cd doc a vs ns G Y ho hd hcd hmg hobj hints hlen hbits hg => ?_
  obtain ⟨K, KX, c⟩ := Y
  have T : Tx K mg := ⟨c.d, c.ex, s₁.heap, KX, G.T.g⟩
  rw [hnm] at hmg
  have mem : ∀ p ∈ tfL.map (He.cT K), ∃ f ∈ tfL, He.cT K f = p := fun p hp => List.mem_map.mp hp
  refine ground (cs := tfL.map (He.cT K)) KX G.T.g G.T.b G.T.builtins G.T.nolimit hg (fun p hp => ?_) (fun p hp => ?_) (fun p hp => ?_) G.T.bmain hobj hints (Nat.le_trans hlen hn2) fun base H kin gl TB e0 atT sq => ?_
  · obtain ⟨f, hf, rfl⟩ := mem p hp
    exact c.empty f hf
  · obtain ⟨f, hf, rfl⟩ := mem p hp
    exact c.out f hf
  · obtain ⟨f, hf, rfl⟩ := mem p hp
    exact c.hd f hf
  · have m1 : He.cT K ("law", none) ∈ tfL.map (He.cT K) := List.mem_map.mpr ⟨_, List.mem_cons_self, rfl⟩
    have m2 : He.cT K ("_law_too_large_right", none) ∈ tfL.map (He.cT K) := List.mem_map.mpr ⟨_, List.mem_cons_of_mem _ List.mem_cons_self, rfl⟩
    obtain ⟨g, hm, kp, run⟩ := ok_law (P := LJ.prog) (w := w) (base := base) T (TB _ m1) (TB _ m2)
    have eg : fa = g := by
      rw [hmg] at hm
      injection hm with hm
      injection hm
    subst eg
    refine run callerA [] s₁ H [.ref a] [.ref a] _ ⟨rfl, by decide, by decide⟩ rfl e0 (.cons rfl .nil) ⟨a, ns, rfl, sq, fun p hp => ?_, fun _ => rfl⟩
    rcases List.mem_cons.mp hp with z | z
    · rw [z]
      exact TabS.nil (atT _ m1)
    · rw [List.mem_singleton.mp z]
      exact TabS.nil (atT _ m2)
end J
open PySem PySem.W PySem.Calls PyProof.Rows
theorem PySem.Challenge.cw_alljourneys_k19_whole_widened_maps_holds : PySem.Challenge.rw_alljourneys_k19_whole_widened_maps.Holds := by
  w_on; o_law
  refine HandSHeadRun.head_any (r := OpenLaw.row PySem.Challenge.rw_alljourneys_k19_whole_widened_maps) (q := view (OpenLaw.row PySem.Challenge.rw_alljourneys_k19_whole_widened_maps).prog [88]) (H := J.hookJ) (ob := J.ob) (M := 40000) (loose := J.names) (d := HandSHeadRun.topDef (OpenLaw.row PySem.Challenge.rw_alljourneys_k19_whole_widened_maps).prog 88) (kwd := []) J.ob_eq
    (by kernel_rfl) (fun s => by kernel_rfl) J.run (by kernel_rfl) (by kernel_rfl) (by kernel_rfl) (by rfl) (by first | assumption | decide +kernel) (by decide +kernel) ⟨rfl, rfl, rfl, rfl, rfl, by decide +kernel⟩ ?hw ?hc
  case hw => w_witness2
  case hc =>
    exact J.walkJ (n := 63) rfl (by decide) (by kernel_rfl) (by kernel_rfl)
