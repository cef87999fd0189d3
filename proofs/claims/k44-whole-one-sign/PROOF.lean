import PyProof.Rows.All
import Wide.All
import OpenK.AllK
import Wide.FinOn
import KE.KStateDown
import HandS.ForMost
import HandS.Exc
import HandS.Defaults
import HandS.HeadHook1
import HandS.HeadHook2
import HandS.ExcField
import HandS.ExcInit
import HandS.ExcIs
import HandS.Codes
import HandS.Head0
import HandS.Head1
import HandS.Head2
import HandS.HeadEnd
import KE.GoesRaise
import HandS.ExcOwn
import KE.GoesMore
import HandS.ExcValue
import HandS.TryOnly
import HandS.TryElse
import HandS.SuiteRaise
import HandS.ExcCtx
import HandS.IsInst
import HandS.Steps
import HandS.Walk
import HandS.Deep
import HandS.WordsExc
import HandS.Style
import HandS.RevRange
import HandS.TupLen
import HandS.StrMore
import HandS.WideBits
import HandS.More
import HandS.Replace
import KE.BitLaws
import KE.OsArith
import HandS.HotCalls
import KE.KExcIs
import PySem.Challenge.RW_cellfolio_k44_whole_one_sign_of_an_album
set_option Elab.async false
set_option linter.all false
set_option maxRecDepth 100000
set_option maxHeartbeats 4000000

namespace K44
open PySem PySem.Spec PyProof.Rows L2
/-! ### the text by places -/
abbrev pw : Program := PySem.Challenge.pw_cellfolio_k44_whole_one_sign_of_an_album
def tp (i : Nat) : Stmt := pw.main.body.getD i (.Pass ⟨0, 0, 0, 0⟩)
abbrev s_BadCheck_init : Stmt := inClass (tp 14) 0
abbrev s_is_among : Stmt := tp 22
abbrev s_is_cell : Stmt := tp 23
abbrev s_are_cells : Stmt := tp 24
abbrev s_is_picture : Stmt := tp 25
abbrev s_need_picture : Stmt := tp 26
abbrev s_size_of : Stmt := tp 28
abbrev s_is_colour : Stmt := tp 32
abbrev s_need_colour : Stmt := tp 33
abbrev s_colour_number : Stmt := tp 34
abbrev s_colour_by_number : Stmt := tp 35
abbrev s_sign_of_number : Stmt := tp 38
abbrev s_number_of_sign : Stmt := tp 39
abbrev s_signs_text : Stmt := tp 40
abbrev s_numbers_of_text : Stmt := tp 41
abbrev s_two_numbers : Stmt := tp 42
abbrev s_one_number : Stmt := tp 43
abbrev s_check_of : Stmt := tp 46
abbrev s_is_small : Stmt := tp 51
abbrev s_is_six_bits : Stmt := tp 52
abbrev s_is_part : Stmt := tp 53
abbrev s_need_part : Stmt := tp 54
abbrev s_part_numbers : Stmt := tp 55
abbrev s_part_at : Stmt := tp 56
abbrev s_Folio_init : Stmt := inClass (tp 61) 0
abbrev s_Folio_need_there : Stmt := inClass (tp 61) 1
abbrev s_Folio_put_part : Stmt := inClass (tp 61) 2
abbrev s_Folio_numbers_of : Stmt := inClass (tp 61) 4
abbrev s_Folio_names_of : Stmt := inClass (tp 61) 5
abbrev s_Folio_all_parts : Stmt := inClass (tp 61) 6
abbrev s_Folio_written : Stmt := inClass (tp 61) 7
abbrev s_read_folio : Stmt := tp 62
abbrev s_Palette_init : Stmt := inClass (tp 65) 0
abbrev s_Palette_colours : Stmt := inClass (tp 65) 1
abbrev s_Palette_many : Stmt := inClass (tp 65) 2
abbrev s_all_cells : Stmt := tp 67
abbrev s_rows_by : Stmt := tp 68
abbrev s_Came_init : Stmt := inClass (tp 71) 0
abbrev s_Came_again : Stmt := inClass (tp 71) 1
abbrev s_is_fold : Stmt := tp 75
abbrev s_need_fold : Stmt := tp 76
abbrev s_stand_for : Stmt := tp 77
abbrev s_row_above : Stmt := tp 78
abbrev s_folded_row : Stmt := tp 79
abbrev s_unfolded_row : Stmt := tp 80
abbrev s_need_folds : Stmt := tp 81
abbrev s_folded_picture : Stmt := tp 82
abbrev s_unfolded_picture : Stmt := tp 83
abbrev s_many_runs : Stmt := tp 84
abbrev s_best_rules : Stmt := tp 85
abbrev s_need_cells : Stmt := tp 88
abbrev s_part_behind : Stmt := tp 94
abbrev s_unpacked : Stmt := tp 95
abbrev s_ways_on : Stmt := tp 96
abbrev s_pack_prices : Stmt := tp 97
abbrev s_packed : Stmt := tp 98
abbrev s_picture_numbers : Stmt := tp 100
abbrev s_need_pack : Stmt := tp 101
abbrev s_picture_by_numbers : Stmt := tp 102
abbrev s_palette_numbers : Stmt := tp 103
abbrev s_palette_by_numbers : Stmt := tp 104
abbrev s_copied_rows : Stmt := tp 108
abbrev s_Album_init : Stmt := inClass (tp 109) 0
abbrev s_Album_hold : Stmt := inClass (tp 109) 1
abbrev s_Album_tint : Stmt := inClass (tp 109) 4
abbrev s_Album_go : Stmt := inClass (tp 109) 5
abbrev s_Album_names : Stmt := inClass (tp 109) 6
abbrev s_Album_need_name : Stmt := inClass (tp 109) 7
abbrev s_Album_need_room : Stmt := inClass (tp 109) 8
abbrev s_Album_picture : Stmt := inClass (tp 109) 9
abbrev s_Album_palette : Stmt := inClass (tp 109) 10
abbrev s_Album_put : Stmt := inClass (tp 109) 11
abbrev s_written_album : Stmt := tp 110
abbrev s_opened_album : Stmt := tp 111
abbrev s_law_cell_at : Stmt := tp 113
abbrev s_law_mixed : Stmt := tp 114
abbrev s_law_picture : Stmt := tp 115
abbrev s_law_names : Stmt := tp 116
abbrev s_law_told : Stmt := tp 117
abbrev s_law_due : Stmt := tp 118
abbrev s_law_changed : Stmt := tp 119
abbrev s_law_shares : Stmt := tp 120
abbrev s_law_no_album : Stmt := tp 121
abbrev s_law_sixteen : Stmt := tp 122
abbrev s_law : Stmt := tp 123
end K44
set_option Elab.async false
set_option linter.all false
set_option maxRecDepth 100000
set_option maxHeartbeats 4000000

namespace K44
open PySem PySem.Spec PyProof.Rows L2
/-! ### what the end leans on -/
def d_BadCheck_init : He.DefD := ⟨("BadCheck", some "__init__"), "__init__", "BadCheck.__init__", defArgs s_BadCheck_init, defBody s_BadCheck_init, defScope s_BadCheck_init, [], []⟩
def d_is_among : He.DefD := ⟨("is_among", none), "is_among", "is_among", defArgs s_is_among, defBody s_is_among, defScope s_is_among, [], []⟩
def d_is_cell : He.DefD := ⟨("is_cell", none), "is_cell", "is_cell", defArgs s_is_cell, defBody s_is_cell, defScope s_is_cell, [], []⟩
def d_are_cells : He.DefD := ⟨("are_cells", none), "are_cells", "are_cells", defArgs s_are_cells, defBody s_are_cells, defScope s_are_cells, [], []⟩
def d_is_picture : He.DefD := ⟨("is_picture", none), "is_picture", "is_picture", defArgs s_is_picture, defBody s_is_picture, defScope s_is_picture, [], []⟩
def d_need_picture : He.DefD := ⟨("need_picture", none), "need_picture", "need_picture", defArgs s_need_picture, defBody s_need_picture, defScope s_need_picture, [], []⟩
def d_size_of : He.DefD := ⟨("size_of", none), "size_of", "size_of", defArgs s_size_of, defBody s_size_of, defScope s_size_of, [], []⟩
def d_is_colour : He.DefD := ⟨("is_colour", none), "is_colour", "is_colour", defArgs s_is_colour, defBody s_is_colour, defScope s_is_colour, [], []⟩
def d_need_colour : He.DefD := ⟨("need_colour", none), "need_colour", "need_colour", defArgs s_need_colour, defBody s_need_colour, defScope s_need_colour, [], []⟩
def d_colour_number : He.DefD := ⟨("colour_number", none), "colour_number", "colour_number", defArgs s_colour_number, defBody s_colour_number, defScope s_colour_number, [], []⟩
def d_colour_by_number : He.DefD := ⟨("colour_by_number", none), "colour_by_number", "colour_by_number", defArgs s_colour_by_number, defBody s_colour_by_number, defScope s_colour_by_number, [], []⟩
def d_sign_of_number : He.DefD := ⟨("sign_of_number", none), "sign_of_number", "sign_of_number", defArgs s_sign_of_number, defBody s_sign_of_number, defScope s_sign_of_number, [], []⟩
def d_number_of_sign : He.DefD := ⟨("number_of_sign", none), "number_of_sign", "number_of_sign", defArgs s_number_of_sign, defBody s_number_of_sign, defScope s_number_of_sign, [], []⟩
def d_signs_text : He.DefD := ⟨("signs_text", none), "signs_text", "signs_text", defArgs s_signs_text, defBody s_signs_text, defScope s_signs_text, [], []⟩
def d_numbers_of_text : He.DefD := ⟨("numbers_of_text", none), "numbers_of_text", "numbers_of_text", defArgs s_numbers_of_text, defBody s_numbers_of_text, defScope s_numbers_of_text, [], []⟩
def d_two_numbers : He.DefD := ⟨("two_numbers", none), "two_numbers", "two_numbers", defArgs s_two_numbers, defBody s_two_numbers, defScope s_two_numbers, [], []⟩
def d_one_number : He.DefD := ⟨("one_number", none), "one_number", "one_number", defArgs s_one_number, defBody s_one_number, defScope s_one_number, [], []⟩
def d_check_of : He.DefD := ⟨("check_of", none), "check_of", "check_of", defArgs s_check_of, defBody s_check_of, defScope s_check_of, [], []⟩
def d_is_small : He.DefD := ⟨("is_small", none), "is_small", "is_small", defArgs s_is_small, defBody s_is_small, defScope s_is_small, [], []⟩
def d_is_six_bits : He.DefD := ⟨("is_six_bits", none), "is_six_bits", "is_six_bits", defArgs s_is_six_bits, defBody s_is_six_bits, defScope s_is_six_bits, [], []⟩
def d_is_part : He.DefD := ⟨("is_part", none), "is_part", "is_part", defArgs s_is_part, defBody s_is_part, defScope s_is_part, [], []⟩
def d_need_part : He.DefD := ⟨("need_part", none), "need_part", "need_part", defArgs s_need_part, defBody s_need_part, defScope s_need_part, [], []⟩
def d_part_numbers : He.DefD := ⟨("part_numbers", none), "part_numbers", "part_numbers", defArgs s_part_numbers, defBody s_part_numbers, defScope s_part_numbers, [], []⟩
def d_part_at : He.DefD := ⟨("part_at", none), "part_at", "part_at", defArgs s_part_at, defBody s_part_at, defScope s_part_at, [], []⟩
def d_Folio_init : He.DefD := ⟨("Folio", some "__init__"), "__init__", "Folio.__init__", defArgs s_Folio_init, defBody s_Folio_init, defScope s_Folio_init, [], []⟩
def d_Folio_need_there : He.DefD := ⟨("Folio", some "need_there"), "need_there", "Folio.need_there", defArgs s_Folio_need_there, defBody s_Folio_need_there, defScope s_Folio_need_there, [], []⟩
def d_Folio_put_part : He.DefD := ⟨("Folio", some "put_part"), "put_part", "Folio.put_part", defArgs s_Folio_put_part, defBody s_Folio_put_part, defScope s_Folio_put_part, [], []⟩
def d_Folio_numbers_of : He.DefD := ⟨("Folio", some "numbers_of"), "numbers_of", "Folio.numbers_of", defArgs s_Folio_numbers_of, defBody s_Folio_numbers_of, defScope s_Folio_numbers_of, [], []⟩
def d_Folio_names_of : He.DefD := ⟨("Folio", some "names_of"), "names_of", "Folio.names_of", defArgs s_Folio_names_of, defBody s_Folio_names_of, defScope s_Folio_names_of, [], []⟩
def d_Folio_all_parts : He.DefD := ⟨("Folio", some "all_parts"), "all_parts", "Folio.all_parts", defArgs s_Folio_all_parts, defBody s_Folio_all_parts, defScope s_Folio_all_parts, [], []⟩
def d_Folio_written : He.DefD := ⟨("Folio", some "written"), "written", "Folio.written", defArgs s_Folio_written, defBody s_Folio_written, defScope s_Folio_written, [], []⟩
def d_read_folio : He.DefD := ⟨("read_folio", none), "read_folio", "read_folio", defArgs s_read_folio, defBody s_read_folio, defScope s_read_folio, [], []⟩
def d_Palette_init : He.DefD := ⟨("Palette", some "__init__"), "__init__", "Palette.__init__", defArgs s_Palette_init, defBody s_Palette_init, defScope s_Palette_init, [], []⟩
def d_Palette_colours : He.DefD := ⟨("Palette", some "colours"), "colours", "Palette.colours", defArgs s_Palette_colours, defBody s_Palette_colours, defScope s_Palette_colours, [], []⟩
def d_Palette_many : He.DefD := ⟨("Palette", some "many"), "many", "Palette.many", defArgs s_Palette_many, defBody s_Palette_many, defScope s_Palette_many, [], []⟩
def d_all_cells : He.DefD := ⟨("all_cells", none), "all_cells", "all_cells", defArgs s_all_cells, defBody s_all_cells, defScope s_all_cells, [], []⟩
def d_rows_by : He.DefD := ⟨("rows_by", none), "rows_by", "rows_by", defArgs s_rows_by, defBody s_rows_by, defScope s_rows_by, [], []⟩
def d_Came_init : He.DefD := ⟨("Came", some "__init__"), "__init__", "Came.__init__", defArgs s_Came_init, defBody s_Came_init, defScope s_Came_init, [], []⟩
def d_Came_again : He.DefD := ⟨("Came", some "again"), "again", "Came.again", defArgs s_Came_again, defBody s_Came_again, defScope s_Came_again, [], []⟩
def d_is_fold : He.DefD := ⟨("is_fold", none), "is_fold", "is_fold", defArgs s_is_fold, defBody s_is_fold, defScope s_is_fold, [], []⟩
def d_need_fold : He.DefD := ⟨("need_fold", none), "need_fold", "need_fold", defArgs s_need_fold, defBody s_need_fold, defScope s_need_fold, [], []⟩
def d_stand_for : He.DefD := ⟨("stand_for", none), "stand_for", "stand_for", defArgs s_stand_for, defBody s_stand_for, defScope s_stand_for, [], []⟩
def d_row_above : He.DefD := ⟨("row_above", none), "row_above", "row_above", defArgs s_row_above, defBody s_row_above, defScope s_row_above, [], []⟩
def d_folded_row : He.DefD := ⟨("folded_row", none), "folded_row", "folded_row", defArgs s_folded_row, defBody s_folded_row, defScope s_folded_row, [], []⟩
def d_unfolded_row : He.DefD := ⟨("unfolded_row", none), "unfolded_row", "unfolded_row", defArgs s_unfolded_row, defBody s_unfolded_row, defScope s_unfolded_row, [], []⟩
def d_need_folds : He.DefD := ⟨("need_folds", none), "need_folds", "need_folds", defArgs s_need_folds, defBody s_need_folds, defScope s_need_folds, [], []⟩
def d_folded_picture : He.DefD := ⟨("folded_picture", none), "folded_picture", "folded_picture", defArgs s_folded_picture, defBody s_folded_picture, defScope s_folded_picture, [], []⟩
def d_unfolded_picture : He.DefD := ⟨("unfolded_picture", none), "unfolded_picture", "unfolded_picture", defArgs s_unfolded_picture, defBody s_unfolded_picture, defScope s_unfolded_picture, [], []⟩
def d_many_runs : He.DefD := ⟨("many_runs", none), "many_runs", "many_runs", defArgs s_many_runs, defBody s_many_runs, defScope s_many_runs, [], []⟩
def d_best_rules : He.DefD := ⟨("best_rules", none), "best_rules", "best_rules", defArgs s_best_rules, defBody s_best_rules, defScope s_best_rules, [], []⟩
def d_need_cells : He.DefD := ⟨("need_cells", none), "need_cells", "need_cells", defArgs s_need_cells, defBody s_need_cells, defScope s_need_cells, [], []⟩
def d_part_behind : He.DefD := ⟨("part_behind", none), "part_behind", "part_behind", defArgs s_part_behind, defBody s_part_behind, defScope s_part_behind, [], []⟩
def d_unpacked : He.DefD := ⟨("unpacked", none), "unpacked", "unpacked", defArgs s_unpacked, defBody s_unpacked, defScope s_unpacked, [], []⟩
def d_ways_on : He.DefD := ⟨("ways_on", none), "ways_on", "ways_on", defArgs s_ways_on, defBody s_ways_on, defScope s_ways_on, [], []⟩
def d_pack_prices : He.DefD := ⟨("pack_prices", none), "pack_prices", "pack_prices", defArgs s_pack_prices, defBody s_pack_prices, defScope s_pack_prices, [], []⟩
def d_packed : He.DefD := ⟨("packed", none), "packed", "packed", defArgs s_packed, defBody s_packed, defScope s_packed, [], []⟩
def d_picture_numbers : He.DefD := ⟨("picture_numbers", none), "picture_numbers", "picture_numbers", defArgs s_picture_numbers, defBody s_picture_numbers, defScope s_picture_numbers, [], []⟩
def d_need_pack : He.DefD := ⟨("need_pack", none), "need_pack", "need_pack", defArgs s_need_pack, defBody s_need_pack, defScope s_need_pack, [], []⟩
def d_picture_by_numbers : He.DefD := ⟨("picture_by_numbers", none), "picture_by_numbers", "picture_by_numbers", defArgs s_picture_by_numbers, defBody s_picture_by_numbers, defScope s_picture_by_numbers, [], []⟩
def d_palette_numbers : He.DefD := ⟨("palette_numbers", none), "palette_numbers", "palette_numbers", defArgs s_palette_numbers, defBody s_palette_numbers, defScope s_palette_numbers, [], []⟩
def d_palette_by_numbers : He.DefD := ⟨("palette_by_numbers", none), "palette_by_numbers", "palette_by_numbers", defArgs s_palette_by_numbers, defBody s_palette_by_numbers, defScope s_palette_by_numbers, [], []⟩
def d_copied_rows : He.DefD := ⟨("copied_rows", none), "copied_rows", "copied_rows", defArgs s_copied_rows, defBody s_copied_rows, defScope s_copied_rows, [], []⟩
def d_Album_init : He.DefD := ⟨("Album", some "__init__"), "__init__", "Album.__init__", defArgs s_Album_init, defBody s_Album_init, defScope s_Album_init, [], []⟩
def d_Album_hold : He.DefD := ⟨("Album", some "hold"), "hold", "Album.hold", defArgs s_Album_hold, defBody s_Album_hold, defScope s_Album_hold, [.non], []⟩
def d_Album_tint : He.DefD := ⟨("Album", some "tint"), "tint", "Album.tint", defArgs s_Album_tint, defBody s_Album_tint, defScope s_Album_tint, [], []⟩
def d_Album_go : He.DefD := ⟨("Album", some "go"), "go", "Album.go", defArgs s_Album_go, defBody s_Album_go, defScope s_Album_go, [], []⟩
def d_Album_names : He.DefD := ⟨("Album", some "names"), "names", "Album.names", defArgs s_Album_names, defBody s_Album_names, defScope s_Album_names, [], []⟩
def d_Album_need_name : He.DefD := ⟨("Album", some "need_name"), "need_name", "Album.need_name", defArgs s_Album_need_name, defBody s_Album_need_name, defScope s_Album_need_name, [], []⟩
def d_Album_need_room : He.DefD := ⟨("Album", some "need_room"), "need_room", "Album.need_room", defArgs s_Album_need_room, defBody s_Album_need_room, defScope s_Album_need_room, [], []⟩
def d_Album_picture : He.DefD := ⟨("Album", some "picture"), "picture", "Album.picture", defArgs s_Album_picture, defBody s_Album_picture, defScope s_Album_picture, [], []⟩
def d_Album_palette : He.DefD := ⟨("Album", some "palette"), "palette", "Album.palette", defArgs s_Album_palette, defBody s_Album_palette, defScope s_Album_palette, [], []⟩
def d_Album_put : He.DefD := ⟨("Album", some "put"), "put", "Album.put", defArgs s_Album_put, defBody s_Album_put, defScope s_Album_put, [], []⟩
def d_written_album : He.DefD := ⟨("written_album", none), "written_album", "written_album", defArgs s_written_album, defBody s_written_album, defScope s_written_album, [], []⟩
def d_opened_album : He.DefD := ⟨("opened_album", none), "opened_album", "opened_album", defArgs s_opened_album, defBody s_opened_album, defScope s_opened_album, [], []⟩
def d_law_cell_at : He.DefD := ⟨("_law_cell_at", none), "_law_cell_at", "_law_cell_at", defArgs s_law_cell_at, defBody s_law_cell_at, defScope s_law_cell_at, [], []⟩
def d_law_mixed : He.DefD := ⟨("_law_mixed", none), "_law_mixed", "_law_mixed", defArgs s_law_mixed, defBody s_law_mixed, defScope s_law_mixed, [], []⟩
def d_law_picture : He.DefD := ⟨("_law_picture", none), "_law_picture", "_law_picture", defArgs s_law_picture, defBody s_law_picture, defScope s_law_picture, [], []⟩
def d_law_names : He.DefD := ⟨("_law_names", none), "_law_names", "_law_names", defArgs s_law_names, defBody s_law_names, defScope s_law_names, [], []⟩
def d_law_told : He.DefD := ⟨("_law_told", none), "_law_told", "_law_told", defArgs s_law_told, defBody s_law_told, defScope s_law_told, [], []⟩
def d_law_due : He.DefD := ⟨("_law_due", none), "_law_due", "_law_due", defArgs s_law_due, defBody s_law_due, defScope s_law_due, [], []⟩
def d_law_changed : He.DefD := ⟨("_law_changed", none), "_law_changed", "_law_changed", defArgs s_law_changed, defBody s_law_changed, defScope s_law_changed, [], []⟩
def d_law_shares : He.DefD := ⟨("_law_shares", none), "_law_shares", "_law_shares", defArgs s_law_shares, defBody s_law_shares, defScope s_law_shares, [], []⟩
def d_law_no_album : He.DefD := ⟨("_law_no_album", none), "_law_no_album", "_law_no_album", defArgs s_law_no_album, defBody s_law_no_album, defScope s_law_no_album, [], []⟩
def d_law_sixteen : He.DefD := ⟨("_law_sixteen", none), "_law_sixteen", "_law_sixteen", defArgs s_law_sixteen, defBody s_law_sixteen, defScope s_law_sixteen, [], []⟩
def d_law : He.DefD := ⟨("law", none), "law", "law", defArgs s_law, defBody s_law, defScope s_law, [], []⟩
def fn : List He.DefD := ([d_BadCheck_init, d_is_among, d_is_cell, d_are_cells, d_is_picture, d_need_picture, d_size_of, d_is_colour, d_need_colour, d_colour_number, d_colour_by_number, d_sign_of_number, d_number_of_sign, d_signs_text, d_numbers_of_text, d_two_numbers, d_one_number, d_check_of, d_is_small, d_is_six_bits, d_is_part, d_need_part, d_part_numbers, d_part_at, d_Folio_init, d_Folio_need_there, d_Folio_put_part, d_Folio_numbers_of, d_Folio_names_of, d_Folio_all_parts, d_Folio_written, d_read_folio, d_Palette_init, d_Palette_colours, d_Palette_many] : List He.DefD) ++ ([d_all_cells, d_rows_by, d_Came_init, d_Came_again, d_is_fold, d_need_fold, d_stand_for, d_row_above, d_folded_row, d_unfolded_row, d_need_folds, d_folded_picture, d_unfolded_picture, d_many_runs, d_best_rules, d_need_cells, d_part_behind, d_unpacked, d_ways_on, d_pack_prices, d_packed, d_picture_numbers, d_need_pack, d_picture_by_numbers, d_palette_numbers, d_palette_by_numbers, d_copied_rows, d_Album_init, d_Album_hold, d_Album_tint, d_Album_go, d_Album_names, d_Album_need_name, d_Album_need_room, d_Album_picture] : List He.DefD) ++ ([d_Album_palette, d_Album_put, d_written_album, d_opened_album, d_law_cell_at, d_law_mixed, d_law_picture, d_law_names, d_law_told, d_law_due, d_law_changed, d_law_shares, d_law_no_album, d_law_sixteen, d_law] : List He.DefD)
def fa : List He.Fa := ([.glo "is_among", .glo "is_cell", .glo "are_cells", .glo "is_picture", .glo "need_picture", .glo "size_of", .glo "is_colour", .glo "need_colour", .glo "colour_number", .glo "colour_by_number", .glo "sign_of_number", .glo "number_of_sign", .glo "signs_text", .glo "numbers_of_text", .glo "two_numbers", .glo "one_number", .glo "check_of", .glo "is_small", .glo "is_six_bits", .glo "is_part", .glo "need_part", .glo "part_numbers", .glo "part_at", .glo "read_folio", .glo "all_cells", .glo "rows_by", .glo "is_fold", .glo "need_fold", .glo "stand_for", .glo "row_above", .glo "folded_row", .glo "unfolded_row", .glo "need_folds", .glo "folded_picture", .glo "unfolded_picture"] : List He.Fa) ++ ([.glo "many_runs", .glo "best_rules", .glo "need_cells", .glo "part_behind", .glo "unpacked", .glo "ways_on", .glo "pack_prices", .glo "packed", .glo "picture_numbers", .glo "need_pack", .glo "picture_by_numbers", .glo "palette_numbers", .glo "palette_by_numbers", .glo "copied_rows", .glo "written_album", .glo "opened_album", .glo "_law_cell_at", .glo "_law_mixed", .glo "_law_picture", .glo "_law_names", .glo "_law_told", .glo "_law_due", .glo "_law_changed", .glo "_law_shares", .glo "_law_no_album", .glo "_law_sixteen", .glo "law", .glo "Folio", .glo "Palette", .glo "Came", .glo "Album", .glo "FolioError", .glo "BadPicture", .glo "BadCell", .glo "BadSize"] : List He.Fa) ++ ([.glo "BadText", .glo "BadColour", .glo "BadPalette", .glo "TooMany", .glo "BadPack", .glo "BadRule", .glo "BadPart", .glo "BadHead", .glo "BadCheck", .glo "NoPart", .glo "Twice", .glo "BadName", .glo "NoPicture", .free "isinstance", .free "int", .free "bool", .free "list", .free "all", .free "len", .free "tuple", .free "str", .free "enumerate", .free "range", .free "zip", .free "min", .free "max", .free "sum", .free "divmod", .free "reversed", .free "ValueError", .int "MOST_SIDE" 24, .int "MOST_CELL" 15, .int "MOST_SHARE" 255, .int "MOST_NUMBER" 16777215, .str "SIGNS" "0123456789abcdefghijklmnopqrstuvwxyzABCDEFGHIJKLMNOPQRSTUVWXYZ+-"] : List He.Fa) ++ ([.int "CHECK" 4093, .str "SMALL" "abcdefghijklmnopqrstuvwxyz", .int "MOST_NAME" 8, .int "MOST_NUMBERS" 2000, .str "HEAD" "CF1", .int "MOST_SIGNS" 3900, .int "LEAST_SIGNS" 7, .int "MOST_COLOURS" 16, .int "MOST_RULE" 4, .int "MOST_CELLS" 576, .int "MOST_PLAIN" 16, .int "MOST_LIKE" 17, .int "FIRST_LIKE" 14, .int "MOST_HEAD" 31, .int "MOST_PICTURES" 16, .str "MAIN" "main", .cls "Folio", .noat "Folio" "kept", .noat "Folio" "size", .mkr "Folio", .meth "Folio" "need_there", .meth "Folio" "put_part", .meth "Folio" "numbers_of", .meth "Folio" "names_of", .meth "Folio" "all_parts", .meth "Folio" "written", .cls "Palette", .noat "Palette" "shades", .mkr "Palette", .meth "Palette" "colours", .meth "Palette" "many", .cls "Came", .noat "Came" "called", .noat "Came" "come", .mkr "Came"] : List He.Fa) ++ ([.meth "Came" "again", .cls "Album", .noat "Album" "order", .noat "Album" "held", .noat "Album" "hues", .noat "Album" "past", .noat "Album" "ahead", .mkr "Album", .meth "Album" "hold", .meth "Album" "tint", .meth "Album" "go", .meth "Album" "names", .meth "Album" "need_name", .meth "Album" "need_room", .meth "Album" "picture", .meth "Album" "palette", .meth "Album" "put", .exc "BadPicture", .exc "BadCell", .exc "BadSize", .exc "BadText", .exc "BadColour", .exc "BadPalette", .exc "TooMany", .exc "BadPack", .exc "BadRule", .exc "BadPart", .exc "BadHead", .exc "NoPart", .exc "Twice", .exc "BadName", .exc "NoPicture", .keep "BadCheck", .exm "BadPack" "BadPack" true, .exm "BadRule" "BadRule" true] : List He.Fa) ++ ([.exm "BadPalette" "BadPalette" true, .exm "BadText" "FolioError" true, .exm "BadHead" "FolioError" true, .exm "BadCheck" "FolioError" true, .exm "BadPart" "FolioError" true, .exm "TooMany" "FolioError" true] : List He.Fa)
/-- own facts beside: the errors' classes -/
def oexB (K : PySem.W.Frag) (C : Addr) : Bool := (match K.lookup C with
  | some ⟨.type "type", _, .cls cd, sl⟩ => (match cd.mro, sl.toList with
    | .ref c :: bm, [_, _, _, _, some (.builtin n), _] => c == C && (n == "ValueError.__new__" && (!cd.hasDel && (cd.hasDict && PySem.HandSPX.refsVE bm)))
    | _, _ => false)
  | _ => false) && (decide (PySem.W.findIn K (.ref C) "__setattr__" = some (some (.builtin "object.__setattr__"))) && (decide (PySem.W.subIn K (.ref C) (.type "BaseException") = some true) &&
    (decide (PySem.W.typeIn K (.ref C) = some (.type "type")) && PySem.W.keepIn K (.ref C))))
def excCB (K : PySem.W.Frag) (D : Addr) : Bool := decide (PySem.W.findIn K (.ref D) "__getattribute__" = some (some (.builtin "BaseException.__getattribute__"))) && (decide (PySem.W.findIn K (.ref D) "__getattr__" = some none) &&
  (decide (PySem.W.subIn K (.ref D) (.type "BaseException") = some true) && (PySem.W.hasDictIn K D && (decide (PySem.W.findIn K (.ref D) "__class__" = some (some (.builtin "object.__class__"))) &&
    (decide (PySem.W.specialIn K (.builtin "object.__class__") "__get__" = some (some (.builtin "getset_descriptor.__get__"))) && (decide (PySem.W.takesIn K (.builtin "object.__class__") = some true) && decide (PySem.W.mroIn K D (.type "object") = some true)))))))
def baseB (K : PySem.W.Frag) (F : Addr) : Bool := PySem.W.readsIn K F (.type "type") && (decide (PySem.W.findIn K (.ref F) "__init__" = some (some (.builtin "ValueError.__init__"))) && decide (PySem.W.specialIn K (.ref F) "__getattribute__" = some (some (.builtin "type.__getattribute__"))))
def exs : List (PySem.W.Frag → Bool) := [
  fun K => oexB K (He.ga K "BadCheck"),
  fun K => decide (PySem.W.findIn K (.ref (He.ga K "BadCheck")) "due" = some none),
  fun K => decide (PySem.W.findIn K (.ref (He.ga K "BadCheck")) "found" = some none),
  fun K => L2.xfB K (He.ga K "BadCheck"),
  fun K => baseB K (He.ga K "FolioError"),
  fun K => decide (PySem.W.findIn K (.ref (He.ga K "BadCheck")) "__init__" = some (some (.ref (He.ma K (He.ga K "BadCheck") "__init__")))) && decide (PySem.W.typeIn K (.ref (He.ma K (He.ga K "BadCheck") "__init__")) = some (.type "function")),
  fun K => excCB K (He.ga K "BadText"),
  fun K => excCB K (He.ga K "BadHead"),
  fun K => excCB K (He.ga K "BadCheck"),
  fun K => excCB K (He.ga K "BadPart"),
  fun K => excCB K (He.ga K "TooMany"),
  fun K => decide (PySem.W.kitOne K (.ref (He.ga K "BadText")) (.ref (He.ga K "BadText")) = some true),
  fun K => decide (PySem.W.kitOne K (.ref (He.ga K "BadText")) (.ref (He.ga K "BadHead")) = some false),
  fun K => decide (PySem.W.kitOne K (.ref (He.ga K "BadText")) (.ref (He.ga K "BadCheck")) = some false),
  fun K => decide (PySem.W.kitOne K (.ref (He.ga K "BadText")) (.ref (He.ga K "BadPart")) = some false),
  fun K => decide (PySem.W.kitOne K (.ref (He.ga K "BadHead")) (.ref (He.ga K "BadText")) = some false),
  fun K => decide (PySem.W.kitOne K (.ref (He.ga K "BadHead")) (.ref (He.ga K "BadHead")) = some true),
  fun K => decide (PySem.W.kitOne K (.ref (He.ga K "BadHead")) (.ref (He.ga K "BadCheck")) = some false),
  fun K => decide (PySem.W.kitOne K (.ref (He.ga K "BadHead")) (.ref (He.ga K "BadPart")) = some false),
  fun K => decide (PySem.W.kitOne K (.ref (He.ga K "BadCheck")) (.ref (He.ga K "BadText")) = some false),
  fun K => decide (PySem.W.kitOne K (.ref (He.ga K "BadCheck")) (.ref (He.ga K "BadHead")) = some false),
  fun K => decide (PySem.W.kitOne K (.ref (He.ga K "BadCheck")) (.ref (He.ga K "BadCheck")) = some true),
  fun K => decide (PySem.W.kitOne K (.ref (He.ga K "BadCheck")) (.ref (He.ga K "BadPart")) = some false),
  fun K => decide (PySem.W.kitOne K (.ref (He.ga K "BadPart")) (.ref (He.ga K "BadText")) = some false),
  fun K => decide (PySem.W.kitOne K (.ref (He.ga K "BadPart")) (.ref (He.ga K "BadHead")) = some false),
  fun K => decide (PySem.W.kitOne K (.ref (He.ga K "BadPart")) (.ref (He.ga K "BadCheck")) = some false),
  fun K => decide (PySem.W.kitOne K (.ref (He.ga K "BadPart")) (.ref (He.ga K "BadPart")) = some true),
  fun K => decide (PySem.W.kitOne K (.ref (He.ga K "TooMany")) (.ref (He.ga K "TooMany")) = some true),
  fun K => decide (PySem.W.kitOne K (.ref (He.ga K "BadText")) (.type "ValueError") = some true),
  fun K => decide (PySem.W.kitOne K (.ref (He.ga K "BadHead")) (.type "ValueError") = some true),
  fun K => decide (PySem.W.kitOne K (.ref (He.ga K "BadCheck")) (.type "ValueError") = some true),
  fun K => decide (PySem.W.kitOne K (.ref (He.ga K "BadPart")) (.type "ValueError") = some true)]
def ex (K : PySem.W.Frag) : Bool := exs.all fun f => f K
/-- what the top has written, as the walk reads it -/
structure Tx (K : PySem.W.Frag) (mg : Str → Option Value) : Prop where
  hp : ∃ h : Heap, K.In h ∧ h.Ns mainGlobals mg
  c : He.SaysD fa fn K
  d : ex K = true
/-- a def that stands at f: its promise and how it is called -/
structure Cal (P : Program) (w : World) (K : PySem.W.Frag) (mg : Str → Option Value) (base : Heap) (CX : CXT) (k : Nat) (f : Addr) (ps : List Str) (sp : Sp) : Prop where
  ex : ∃ fd : FuncData, FnOk P w K mg base CX k f fd ps sp ∧ Binds K fd ps []
  kp : PySem.W.keepIn K (.ref f) = true
section
variable {K : PySem.W.Frag} {mg : Str → Option Value}
theorem Tx.more (T : Tx K mg) (i : Nat) {f : PySem.W.Frag → Bool} (h : exs[i]? = some f) : f K = true := List.all_eq_true.mp T.d f (List.mem_of_getElem? h)
theorem Tx.g_is_among (T : Tx K mg) : mg "is_among" = some (.ref (He.ga K "is_among")) := by obtain ⟨h, X, G⟩ := T.hp; exact He.glo_ok X G (T.c.fact 0 (f := .glo "is_among") rfl)
theorem Tx.g_is_cell (T : Tx K mg) : mg "is_cell" = some (.ref (He.ga K "is_cell")) := by obtain ⟨h, X, G⟩ := T.hp; exact He.glo_ok X G (T.c.fact 1 (f := .glo "is_cell") rfl)
theorem Tx.g_are_cells (T : Tx K mg) : mg "are_cells" = some (.ref (He.ga K "are_cells")) := by obtain ⟨h, X, G⟩ := T.hp; exact He.glo_ok X G (T.c.fact 2 (f := .glo "are_cells") rfl)
theorem Tx.g_is_picture (T : Tx K mg) : mg "is_picture" = some (.ref (He.ga K "is_picture")) := by obtain ⟨h, X, G⟩ := T.hp; exact He.glo_ok X G (T.c.fact 3 (f := .glo "is_picture") rfl)
theorem Tx.g_need_picture (T : Tx K mg) : mg "need_picture" = some (.ref (He.ga K "need_picture")) := by obtain ⟨h, X, G⟩ := T.hp; exact He.glo_ok X G (T.c.fact 4 (f := .glo "need_picture") rfl)
theorem Tx.g_size_of (T : Tx K mg) : mg "size_of" = some (.ref (He.ga K "size_of")) := by obtain ⟨h, X, G⟩ := T.hp; exact He.glo_ok X G (T.c.fact 5 (f := .glo "size_of") rfl)
theorem Tx.g_is_colour (T : Tx K mg) : mg "is_colour" = some (.ref (He.ga K "is_colour")) := by obtain ⟨h, X, G⟩ := T.hp; exact He.glo_ok X G (T.c.fact 6 (f := .glo "is_colour") rfl)
theorem Tx.g_need_colour (T : Tx K mg) : mg "need_colour" = some (.ref (He.ga K "need_colour")) := by obtain ⟨h, X, G⟩ := T.hp; exact He.glo_ok X G (T.c.fact 7 (f := .glo "need_colour") rfl)
theorem Tx.g_colour_number (T : Tx K mg) : mg "colour_number" = some (.ref (He.ga K "colour_number")) := by obtain ⟨h, X, G⟩ := T.hp; exact He.glo_ok X G (T.c.fact 8 (f := .glo "colour_number") rfl)
theorem Tx.g_colour_by_number (T : Tx K mg) : mg "colour_by_number" = some (.ref (He.ga K "colour_by_number")) := by obtain ⟨h, X, G⟩ := T.hp; exact He.glo_ok X G (T.c.fact 9 (f := .glo "colour_by_number") rfl)
theorem Tx.g_sign_of_number (T : Tx K mg) : mg "sign_of_number" = some (.ref (He.ga K "sign_of_number")) := by obtain ⟨h, X, G⟩ := T.hp; exact He.glo_ok X G (T.c.fact 10 (f := .glo "sign_of_number") rfl)
theorem Tx.g_number_of_sign (T : Tx K mg) : mg "number_of_sign" = some (.ref (He.ga K "number_of_sign")) := by obtain ⟨h, X, G⟩ := T.hp; exact He.glo_ok X G (T.c.fact 11 (f := .glo "number_of_sign") rfl)
theorem Tx.g_signs_text (T : Tx K mg) : mg "signs_text" = some (.ref (He.ga K "signs_text")) := by obtain ⟨h, X, G⟩ := T.hp; exact He.glo_ok X G (T.c.fact 12 (f := .glo "signs_text") rfl)
theorem Tx.g_numbers_of_text (T : Tx K mg) : mg "numbers_of_text" = some (.ref (He.ga K "numbers_of_text")) := by obtain ⟨h, X, G⟩ := T.hp; exact He.glo_ok X G (T.c.fact 13 (f := .glo "numbers_of_text") rfl)
theorem Tx.g_two_numbers (T : Tx K mg) : mg "two_numbers" = some (.ref (He.ga K "two_numbers")) := by obtain ⟨h, X, G⟩ := T.hp; exact He.glo_ok X G (T.c.fact 14 (f := .glo "two_numbers") rfl)
theorem Tx.g_one_number (T : Tx K mg) : mg "one_number" = some (.ref (He.ga K "one_number")) := by obtain ⟨h, X, G⟩ := T.hp; exact He.glo_ok X G (T.c.fact 15 (f := .glo "one_number") rfl)
theorem Tx.g_check_of (T : Tx K mg) : mg "check_of" = some (.ref (He.ga K "check_of")) := by obtain ⟨h, X, G⟩ := T.hp; exact He.glo_ok X G (T.c.fact 16 (f := .glo "check_of") rfl)
theorem Tx.g_is_small (T : Tx K mg) : mg "is_small" = some (.ref (He.ga K "is_small")) := by obtain ⟨h, X, G⟩ := T.hp; exact He.glo_ok X G (T.c.fact 17 (f := .glo "is_small") rfl)
theorem Tx.g_is_six_bits (T : Tx K mg) : mg "is_six_bits" = some (.ref (He.ga K "is_six_bits")) := by obtain ⟨h, X, G⟩ := T.hp; exact He.glo_ok X G (T.c.fact 18 (f := .glo "is_six_bits") rfl)
theorem Tx.g_is_part (T : Tx K mg) : mg "is_part" = some (.ref (He.ga K "is_part")) := by obtain ⟨h, X, G⟩ := T.hp; exact He.glo_ok X G (T.c.fact 19 (f := .glo "is_part") rfl)
theorem Tx.g_need_part (T : Tx K mg) : mg "need_part" = some (.ref (He.ga K "need_part")) := by obtain ⟨h, X, G⟩ := T.hp; exact He.glo_ok X G (T.c.fact 20 (f := .glo "need_part") rfl)
theorem Tx.g_part_numbers (T : Tx K mg) : mg "part_numbers" = some (.ref (He.ga K "part_numbers")) := by obtain ⟨h, X, G⟩ := T.hp; exact He.glo_ok X G (T.c.fact 21 (f := .glo "part_numbers") rfl)
theorem Tx.g_part_at (T : Tx K mg) : mg "part_at" = some (.ref (He.ga K "part_at")) := by obtain ⟨h, X, G⟩ := T.hp; exact He.glo_ok X G (T.c.fact 22 (f := .glo "part_at") rfl)
theorem Tx.g_read_folio (T : Tx K mg) : mg "read_folio" = some (.ref (He.ga K "read_folio")) := by obtain ⟨h, X, G⟩ := T.hp; exact He.glo_ok X G (T.c.fact 23 (f := .glo "read_folio") rfl)
theorem Tx.g_all_cells (T : Tx K mg) : mg "all_cells" = some (.ref (He.ga K "all_cells")) := by obtain ⟨h, X, G⟩ := T.hp; exact He.glo_ok X G (T.c.fact 24 (f := .glo "all_cells") rfl)
theorem Tx.g_rows_by (T : Tx K mg) : mg "rows_by" = some (.ref (He.ga K "rows_by")) := by obtain ⟨h, X, G⟩ := T.hp; exact He.glo_ok X G (T.c.fact 25 (f := .glo "rows_by") rfl)
theorem Tx.g_is_fold (T : Tx K mg) : mg "is_fold" = some (.ref (He.ga K "is_fold")) := by obtain ⟨h, X, G⟩ := T.hp; exact He.glo_ok X G (T.c.fact 26 (f := .glo "is_fold") rfl)
theorem Tx.g_need_fold (T : Tx K mg) : mg "need_fold" = some (.ref (He.ga K "need_fold")) := by obtain ⟨h, X, G⟩ := T.hp; exact He.glo_ok X G (T.c.fact 27 (f := .glo "need_fold") rfl)
theorem Tx.g_stand_for (T : Tx K mg) : mg "stand_for" = some (.ref (He.ga K "stand_for")) := by obtain ⟨h, X, G⟩ := T.hp; exact He.glo_ok X G (T.c.fact 28 (f := .glo "stand_for") rfl)
theorem Tx.g_row_above (T : Tx K mg) : mg "row_above" = some (.ref (He.ga K "row_above")) := by obtain ⟨h, X, G⟩ := T.hp; exact He.glo_ok X G (T.c.fact 29 (f := .glo "row_above") rfl)
theorem Tx.g_folded_row (T : Tx K mg) : mg "folded_row" = some (.ref (He.ga K "folded_row")) := by obtain ⟨h, X, G⟩ := T.hp; exact He.glo_ok X G (T.c.fact 30 (f := .glo "folded_row") rfl)
theorem Tx.g_unfolded_row (T : Tx K mg) : mg "unfolded_row" = some (.ref (He.ga K "unfolded_row")) := by obtain ⟨h, X, G⟩ := T.hp; exact He.glo_ok X G (T.c.fact 31 (f := .glo "unfolded_row") rfl)
theorem Tx.g_need_folds (T : Tx K mg) : mg "need_folds" = some (.ref (He.ga K "need_folds")) := by obtain ⟨h, X, G⟩ := T.hp; exact He.glo_ok X G (T.c.fact 32 (f := .glo "need_folds") rfl)
theorem Tx.g_folded_picture (T : Tx K mg) : mg "folded_picture" = some (.ref (He.ga K "folded_picture")) := by obtain ⟨h, X, G⟩ := T.hp; exact He.glo_ok X G (T.c.fact 33 (f := .glo "folded_picture") rfl)
theorem Tx.g_unfolded_picture (T : Tx K mg) : mg "unfolded_picture" = some (.ref (He.ga K "unfolded_picture")) := by obtain ⟨h, X, G⟩ := T.hp; exact He.glo_ok X G (T.c.fact 34 (f := .glo "unfolded_picture") rfl)
theorem Tx.g_many_runs (T : Tx K mg) : mg "many_runs" = some (.ref (He.ga K "many_runs")) := by obtain ⟨h, X, G⟩ := T.hp; exact He.glo_ok X G (T.c.fact 35 (f := .glo "many_runs") rfl)
theorem Tx.g_best_rules (T : Tx K mg) : mg "best_rules" = some (.ref (He.ga K "best_rules")) := by obtain ⟨h, X, G⟩ := T.hp; exact He.glo_ok X G (T.c.fact 36 (f := .glo "best_rules") rfl)
theorem Tx.g_need_cells (T : Tx K mg) : mg "need_cells" = some (.ref (He.ga K "need_cells")) := by obtain ⟨h, X, G⟩ := T.hp; exact He.glo_ok X G (T.c.fact 37 (f := .glo "need_cells") rfl)
theorem Tx.g_part_behind (T : Tx K mg) : mg "part_behind" = some (.ref (He.ga K "part_behind")) := by obtain ⟨h, X, G⟩ := T.hp; exact He.glo_ok X G (T.c.fact 38 (f := .glo "part_behind") rfl)
theorem Tx.g_unpacked (T : Tx K mg) : mg "unpacked" = some (.ref (He.ga K "unpacked")) := by obtain ⟨h, X, G⟩ := T.hp; exact He.glo_ok X G (T.c.fact 39 (f := .glo "unpacked") rfl)
theorem Tx.g_ways_on (T : Tx K mg) : mg "ways_on" = some (.ref (He.ga K "ways_on")) := by obtain ⟨h, X, G⟩ := T.hp; exact He.glo_ok X G (T.c.fact 40 (f := .glo "ways_on") rfl)
theorem Tx.g_pack_prices (T : Tx K mg) : mg "pack_prices" = some (.ref (He.ga K "pack_prices")) := by obtain ⟨h, X, G⟩ := T.hp; exact He.glo_ok X G (T.c.fact 41 (f := .glo "pack_prices") rfl)
theorem Tx.g_packed (T : Tx K mg) : mg "packed" = some (.ref (He.ga K "packed")) := by obtain ⟨h, X, G⟩ := T.hp; exact He.glo_ok X G (T.c.fact 42 (f := .glo "packed") rfl)
theorem Tx.g_picture_numbers (T : Tx K mg) : mg "picture_numbers" = some (.ref (He.ga K "picture_numbers")) := by obtain ⟨h, X, G⟩ := T.hp; exact He.glo_ok X G (T.c.fact 43 (f := .glo "picture_numbers") rfl)
theorem Tx.g_need_pack (T : Tx K mg) : mg "need_pack" = some (.ref (He.ga K "need_pack")) := by obtain ⟨h, X, G⟩ := T.hp; exact He.glo_ok X G (T.c.fact 44 (f := .glo "need_pack") rfl)
theorem Tx.g_picture_by_numbers (T : Tx K mg) : mg "picture_by_numbers" = some (.ref (He.ga K "picture_by_numbers")) := by obtain ⟨h, X, G⟩ := T.hp; exact He.glo_ok X G (T.c.fact 45 (f := .glo "picture_by_numbers") rfl)
theorem Tx.g_palette_numbers (T : Tx K mg) : mg "palette_numbers" = some (.ref (He.ga K "palette_numbers")) := by obtain ⟨h, X, G⟩ := T.hp; exact He.glo_ok X G (T.c.fact 46 (f := .glo "palette_numbers") rfl)
theorem Tx.g_palette_by_numbers (T : Tx K mg) : mg "palette_by_numbers" = some (.ref (He.ga K "palette_by_numbers")) := by obtain ⟨h, X, G⟩ := T.hp; exact He.glo_ok X G (T.c.fact 47 (f := .glo "palette_by_numbers") rfl)
theorem Tx.g_copied_rows (T : Tx K mg) : mg "copied_rows" = some (.ref (He.ga K "copied_rows")) := by obtain ⟨h, X, G⟩ := T.hp; exact He.glo_ok X G (T.c.fact 48 (f := .glo "copied_rows") rfl)
theorem Tx.g_written_album (T : Tx K mg) : mg "written_album" = some (.ref (He.ga K "written_album")) := by obtain ⟨h, X, G⟩ := T.hp; exact He.glo_ok X G (T.c.fact 49 (f := .glo "written_album") rfl)
theorem Tx.g_opened_album (T : Tx K mg) : mg "opened_album" = some (.ref (He.ga K "opened_album")) := by obtain ⟨h, X, G⟩ := T.hp; exact He.glo_ok X G (T.c.fact 50 (f := .glo "opened_album") rfl)
theorem Tx.g_law_cell_at (T : Tx K mg) : mg "_law_cell_at" = some (.ref (He.ga K "_law_cell_at")) := by obtain ⟨h, X, G⟩ := T.hp; exact He.glo_ok X G (T.c.fact 51 (f := .glo "_law_cell_at") rfl)
theorem Tx.g_law_mixed (T : Tx K mg) : mg "_law_mixed" = some (.ref (He.ga K "_law_mixed")) := by obtain ⟨h, X, G⟩ := T.hp; exact He.glo_ok X G (T.c.fact 52 (f := .glo "_law_mixed") rfl)
theorem Tx.g_law_picture (T : Tx K mg) : mg "_law_picture" = some (.ref (He.ga K "_law_picture")) := by obtain ⟨h, X, G⟩ := T.hp; exact He.glo_ok X G (T.c.fact 53 (f := .glo "_law_picture") rfl)
theorem Tx.g_law_names (T : Tx K mg) : mg "_law_names" = some (.ref (He.ga K "_law_names")) := by obtain ⟨h, X, G⟩ := T.hp; exact He.glo_ok X G (T.c.fact 54 (f := .glo "_law_names") rfl)
theorem Tx.g_law_told (T : Tx K mg) : mg "_law_told" = some (.ref (He.ga K "_law_told")) := by obtain ⟨h, X, G⟩ := T.hp; exact He.glo_ok X G (T.c.fact 55 (f := .glo "_law_told") rfl)
theorem Tx.g_law_due (T : Tx K mg) : mg "_law_due" = some (.ref (He.ga K "_law_due")) := by obtain ⟨h, X, G⟩ := T.hp; exact He.glo_ok X G (T.c.fact 56 (f := .glo "_law_due") rfl)
theorem Tx.g_law_changed (T : Tx K mg) : mg "_law_changed" = some (.ref (He.ga K "_law_changed")) := by obtain ⟨h, X, G⟩ := T.hp; exact He.glo_ok X G (T.c.fact 57 (f := .glo "_law_changed") rfl)
theorem Tx.g_law_shares (T : Tx K mg) : mg "_law_shares" = some (.ref (He.ga K "_law_shares")) := by obtain ⟨h, X, G⟩ := T.hp; exact He.glo_ok X G (T.c.fact 58 (f := .glo "_law_shares") rfl)
theorem Tx.g_law_no_album (T : Tx K mg) : mg "_law_no_album" = some (.ref (He.ga K "_law_no_album")) := by obtain ⟨h, X, G⟩ := T.hp; exact He.glo_ok X G (T.c.fact 59 (f := .glo "_law_no_album") rfl)
theorem Tx.g_law_sixteen (T : Tx K mg) : mg "_law_sixteen" = some (.ref (He.ga K "_law_sixteen")) := by obtain ⟨h, X, G⟩ := T.hp; exact He.glo_ok X G (T.c.fact 60 (f := .glo "_law_sixteen") rfl)
theorem Tx.g_law (T : Tx K mg) : mg "law" = some (.ref (He.ga K "law")) := by obtain ⟨h, X, G⟩ := T.hp; exact He.glo_ok X G (T.c.fact 61 (f := .glo "law") rfl)
theorem Tx.gc_Folio (T : Tx K mg) : mg "Folio" = some (.ref (He.ga K "Folio")) := by obtain ⟨h, X, G⟩ := T.hp; exact He.glo_ok X G (T.c.fact 62 (f := .glo "Folio") rfl)
theorem Tx.gc_Palette (T : Tx K mg) : mg "Palette" = some (.ref (He.ga K "Palette")) := by obtain ⟨h, X, G⟩ := T.hp; exact He.glo_ok X G (T.c.fact 63 (f := .glo "Palette") rfl)
theorem Tx.gc_Came (T : Tx K mg) : mg "Came" = some (.ref (He.ga K "Came")) := by obtain ⟨h, X, G⟩ := T.hp; exact He.glo_ok X G (T.c.fact 64 (f := .glo "Came") rfl)
theorem Tx.gc_Album (T : Tx K mg) : mg "Album" = some (.ref (He.ga K "Album")) := by obtain ⟨h, X, G⟩ := T.hp; exact He.glo_ok X G (T.c.fact 65 (f := .glo "Album") rfl)
theorem Tx.gx_FolioError (T : Tx K mg) : mg "FolioError" = some (.ref (He.ga K "FolioError")) := by obtain ⟨h, X, G⟩ := T.hp; exact He.glo_ok X G (T.c.fact 66 (f := .glo "FolioError") rfl)
theorem Tx.gx_BadPicture (T : Tx K mg) : mg "BadPicture" = some (.ref (He.ga K "BadPicture")) := by obtain ⟨h, X, G⟩ := T.hp; exact He.glo_ok X G (T.c.fact 67 (f := .glo "BadPicture") rfl)
theorem Tx.gx_BadCell (T : Tx K mg) : mg "BadCell" = some (.ref (He.ga K "BadCell")) := by obtain ⟨h, X, G⟩ := T.hp; exact He.glo_ok X G (T.c.fact 68 (f := .glo "BadCell") rfl)
theorem Tx.gx_BadSize (T : Tx K mg) : mg "BadSize" = some (.ref (He.ga K "BadSize")) := by obtain ⟨h, X, G⟩ := T.hp; exact He.glo_ok X G (T.c.fact 69 (f := .glo "BadSize") rfl)
theorem Tx.gx_BadText (T : Tx K mg) : mg "BadText" = some (.ref (He.ga K "BadText")) := by obtain ⟨h, X, G⟩ := T.hp; exact He.glo_ok X G (T.c.fact 70 (f := .glo "BadText") rfl)
theorem Tx.gx_BadColour (T : Tx K mg) : mg "BadColour" = some (.ref (He.ga K "BadColour")) := by obtain ⟨h, X, G⟩ := T.hp; exact He.glo_ok X G (T.c.fact 71 (f := .glo "BadColour") rfl)
theorem Tx.gx_BadPalette (T : Tx K mg) : mg "BadPalette" = some (.ref (He.ga K "BadPalette")) := by obtain ⟨h, X, G⟩ := T.hp; exact He.glo_ok X G (T.c.fact 72 (f := .glo "BadPalette") rfl)
theorem Tx.gx_TooMany (T : Tx K mg) : mg "TooMany" = some (.ref (He.ga K "TooMany")) := by obtain ⟨h, X, G⟩ := T.hp; exact He.glo_ok X G (T.c.fact 73 (f := .glo "TooMany") rfl)
theorem Tx.gx_BadPack (T : Tx K mg) : mg "BadPack" = some (.ref (He.ga K "BadPack")) := by obtain ⟨h, X, G⟩ := T.hp; exact He.glo_ok X G (T.c.fact 74 (f := .glo "BadPack") rfl)
theorem Tx.gx_BadRule (T : Tx K mg) : mg "BadRule" = some (.ref (He.ga K "BadRule")) := by obtain ⟨h, X, G⟩ := T.hp; exact He.glo_ok X G (T.c.fact 75 (f := .glo "BadRule") rfl)
theorem Tx.gx_BadPart (T : Tx K mg) : mg "BadPart" = some (.ref (He.ga K "BadPart")) := by obtain ⟨h, X, G⟩ := T.hp; exact He.glo_ok X G (T.c.fact 76 (f := .glo "BadPart") rfl)
theorem Tx.gx_BadHead (T : Tx K mg) : mg "BadHead" = some (.ref (He.ga K "BadHead")) := by obtain ⟨h, X, G⟩ := T.hp; exact He.glo_ok X G (T.c.fact 77 (f := .glo "BadHead") rfl)
theorem Tx.gx_BadCheck (T : Tx K mg) : mg "BadCheck" = some (.ref (He.ga K "BadCheck")) := by obtain ⟨h, X, G⟩ := T.hp; exact He.glo_ok X G (T.c.fact 78 (f := .glo "BadCheck") rfl)
theorem Tx.gx_NoPart (T : Tx K mg) : mg "NoPart" = some (.ref (He.ga K "NoPart")) := by obtain ⟨h, X, G⟩ := T.hp; exact He.glo_ok X G (T.c.fact 79 (f := .glo "NoPart") rfl)
theorem Tx.gx_Twice (T : Tx K mg) : mg "Twice" = some (.ref (He.ga K "Twice")) := by obtain ⟨h, X, G⟩ := T.hp; exact He.glo_ok X G (T.c.fact 80 (f := .glo "Twice") rfl)
theorem Tx.gx_BadName (T : Tx K mg) : mg "BadName" = some (.ref (He.ga K "BadName")) := by obtain ⟨h, X, G⟩ := T.hp; exact He.glo_ok X G (T.c.fact 81 (f := .glo "BadName") rfl)
theorem Tx.gx_NoPicture (T : Tx K mg) : mg "NoPicture" = some (.ref (He.ga K "NoPicture")) := by obtain ⟨h, X, G⟩ := T.hp; exact He.glo_ok X G (T.c.fact 82 (f := .glo "NoPicture") rfl)
theorem Tx.b_isinstance (T : Tx K mg) : mg "isinstance" = none := by obtain ⟨h, X, G⟩ := T.hp; exact He.free_ok X G (T.c.fact 83 (f := .free "isinstance") rfl)
theorem Tx.b_int (T : Tx K mg) : mg "int" = none := by obtain ⟨h, X, G⟩ := T.hp; exact He.free_ok X G (T.c.fact 84 (f := .free "int") rfl)
theorem Tx.b_bool (T : Tx K mg) : mg "bool" = none := by obtain ⟨h, X, G⟩ := T.hp; exact He.free_ok X G (T.c.fact 85 (f := .free "bool") rfl)
theorem Tx.b_list (T : Tx K mg) : mg "list" = none := by obtain ⟨h, X, G⟩ := T.hp; exact He.free_ok X G (T.c.fact 86 (f := .free "list") rfl)
theorem Tx.b_all (T : Tx K mg) : mg "all" = none := by obtain ⟨h, X, G⟩ := T.hp; exact He.free_ok X G (T.c.fact 87 (f := .free "all") rfl)
theorem Tx.b_len (T : Tx K mg) : mg "len" = none := by obtain ⟨h, X, G⟩ := T.hp; exact He.free_ok X G (T.c.fact 88 (f := .free "len") rfl)
theorem Tx.b_tuple (T : Tx K mg) : mg "tuple" = none := by obtain ⟨h, X, G⟩ := T.hp; exact He.free_ok X G (T.c.fact 89 (f := .free "tuple") rfl)
theorem Tx.b_str (T : Tx K mg) : mg "str" = none := by obtain ⟨h, X, G⟩ := T.hp; exact He.free_ok X G (T.c.fact 90 (f := .free "str") rfl)
theorem Tx.b_enumerate (T : Tx K mg) : mg "enumerate" = none := by obtain ⟨h, X, G⟩ := T.hp; exact He.free_ok X G (T.c.fact 91 (f := .free "enumerate") rfl)
theorem Tx.b_range (T : Tx K mg) : mg "range" = none := by obtain ⟨h, X, G⟩ := T.hp; exact He.free_ok X G (T.c.fact 92 (f := .free "range") rfl)
theorem Tx.b_zip (T : Tx K mg) : mg "zip" = none := by obtain ⟨h, X, G⟩ := T.hp; exact He.free_ok X G (T.c.fact 93 (f := .free "zip") rfl)
theorem Tx.b_min (T : Tx K mg) : mg "min" = none := by obtain ⟨h, X, G⟩ := T.hp; exact He.free_ok X G (T.c.fact 94 (f := .free "min") rfl)
theorem Tx.b_max (T : Tx K mg) : mg "max" = none := by obtain ⟨h, X, G⟩ := T.hp; exact He.free_ok X G (T.c.fact 95 (f := .free "max") rfl)
theorem Tx.b_sum (T : Tx K mg) : mg "sum" = none := by obtain ⟨h, X, G⟩ := T.hp; exact He.free_ok X G (T.c.fact 96 (f := .free "sum") rfl)
theorem Tx.b_divmod (T : Tx K mg) : mg "divmod" = none := by obtain ⟨h, X, G⟩ := T.hp; exact He.free_ok X G (T.c.fact 97 (f := .free "divmod") rfl)
theorem Tx.b_reversed (T : Tx K mg) : mg "reversed" = none := by obtain ⟨h, X, G⟩ := T.hp; exact He.free_ok X G (T.c.fact 98 (f := .free "reversed") rfl)
theorem Tx.b_ValueError (T : Tx K mg) : mg "ValueError" = none := by obtain ⟨h, X, G⟩ := T.hp; exact He.free_ok X G (T.c.fact 99 (f := .free "ValueError") rfl)
theorem Tx.k_MOST_SIDE (T : Tx K mg) : ∃ u, mg "MOST_SIDE" = some u ∧ RelV (.int 24) u := by obtain ⟨h, X, G⟩ := T.hp; obtain ⟨t, e⟩ := He.int_ok X G (T.c.fact 100 (f := .int "MOST_SIDE" 24) rfl); exact ⟨_, e, t, rfl⟩
theorem Tx.k_MOST_CELL (T : Tx K mg) : ∃ u, mg "MOST_CELL" = some u ∧ RelV (.int 15) u := by obtain ⟨h, X, G⟩ := T.hp; obtain ⟨t, e⟩ := He.int_ok X G (T.c.fact 101 (f := .int "MOST_CELL" 15) rfl); exact ⟨_, e, t, rfl⟩
theorem Tx.k_MOST_SHARE (T : Tx K mg) : ∃ u, mg "MOST_SHARE" = some u ∧ RelV (.int 255) u := by obtain ⟨h, X, G⟩ := T.hp; obtain ⟨t, e⟩ := He.int_ok X G (T.c.fact 102 (f := .int "MOST_SHARE" 255) rfl); exact ⟨_, e, t, rfl⟩
theorem Tx.k_MOST_NUMBER (T : Tx K mg) : ∃ u, mg "MOST_NUMBER" = some u ∧ RelV (.int 16777215) u := by obtain ⟨h, X, G⟩ := T.hp; obtain ⟨t, e⟩ := He.int_ok X G (T.c.fact 103 (f := .int "MOST_NUMBER" 16777215) rfl); exact ⟨_, e, t, rfl⟩
theorem Tx.k_SIGNS (T : Tx K mg) : ∃ u, mg "SIGNS" = some u ∧ RelV (.str "0123456789abcdefghijklmnopqrstuvwxyzABCDEFGHIJKLMNOPQRSTUVWXYZ+-") u := by obtain ⟨h, X, G⟩ := T.hp; obtain ⟨t, e⟩ := He.str_ok X G (T.c.fact 104 (f := .str "SIGNS" "0123456789abcdefghijklmnopqrstuvwxyzABCDEFGHIJKLMNOPQRSTUVWXYZ+-") rfl); exact ⟨_, e, t, rfl⟩
theorem Tx.k_CHECK (T : Tx K mg) : ∃ u, mg "CHECK" = some u ∧ RelV (.int 4093) u := by obtain ⟨h, X, G⟩ := T.hp; obtain ⟨t, e⟩ := He.int_ok X G (T.c.fact 105 (f := .int "CHECK" 4093) rfl); exact ⟨_, e, t, rfl⟩
theorem Tx.k_SMALL (T : Tx K mg) : ∃ u, mg "SMALL" = some u ∧ RelV (.str "abcdefghijklmnopqrstuvwxyz") u := by obtain ⟨h, X, G⟩ := T.hp; obtain ⟨t, e⟩ := He.str_ok X G (T.c.fact 106 (f := .str "SMALL" "abcdefghijklmnopqrstuvwxyz") rfl); exact ⟨_, e, t, rfl⟩
theorem Tx.k_MOST_NAME (T : Tx K mg) : ∃ u, mg "MOST_NAME" = some u ∧ RelV (.int 8) u := by obtain ⟨h, X, G⟩ := T.hp; obtain ⟨t, e⟩ := He.int_ok X G (T.c.fact 107 (f := .int "MOST_NAME" 8) rfl); exact ⟨_, e, t, rfl⟩
theorem Tx.k_MOST_NUMBERS (T : Tx K mg) : ∃ u, mg "MOST_NUMBERS" = some u ∧ RelV (.int 2000) u := by obtain ⟨h, X, G⟩ := T.hp; obtain ⟨t, e⟩ := He.int_ok X G (T.c.fact 108 (f := .int "MOST_NUMBERS" 2000) rfl); exact ⟨_, e, t, rfl⟩
theorem Tx.k_HEAD (T : Tx K mg) : ∃ u, mg "HEAD" = some u ∧ RelV (.str "CF1") u := by obtain ⟨h, X, G⟩ := T.hp; obtain ⟨t, e⟩ := He.str_ok X G (T.c.fact 109 (f := .str "HEAD" "CF1") rfl); exact ⟨_, e, t, rfl⟩
theorem Tx.k_MOST_SIGNS (T : Tx K mg) : ∃ u, mg "MOST_SIGNS" = some u ∧ RelV (.int 3900) u := by obtain ⟨h, X, G⟩ := T.hp; obtain ⟨t, e⟩ := He.int_ok X G (T.c.fact 110 (f := .int "MOST_SIGNS" 3900) rfl); exact ⟨_, e, t, rfl⟩
theorem Tx.k_LEAST_SIGNS (T : Tx K mg) : ∃ u, mg "LEAST_SIGNS" = some u ∧ RelV (.int 7) u := by obtain ⟨h, X, G⟩ := T.hp; obtain ⟨t, e⟩ := He.int_ok X G (T.c.fact 111 (f := .int "LEAST_SIGNS" 7) rfl); exact ⟨_, e, t, rfl⟩
theorem Tx.k_MOST_COLOURS (T : Tx K mg) : ∃ u, mg "MOST_COLOURS" = some u ∧ RelV (.int 16) u := by obtain ⟨h, X, G⟩ := T.hp; obtain ⟨t, e⟩ := He.int_ok X G (T.c.fact 112 (f := .int "MOST_COLOURS" 16) rfl); exact ⟨_, e, t, rfl⟩
theorem Tx.k_MOST_RULE (T : Tx K mg) : ∃ u, mg "MOST_RULE" = some u ∧ RelV (.int 4) u := by obtain ⟨h, X, G⟩ := T.hp; obtain ⟨t, e⟩ := He.int_ok X G (T.c.fact 113 (f := .int "MOST_RULE" 4) rfl); exact ⟨_, e, t, rfl⟩
theorem Tx.k_MOST_CELLS (T : Tx K mg) : ∃ u, mg "MOST_CELLS" = some u ∧ RelV (.int 576) u := by obtain ⟨h, X, G⟩ := T.hp; obtain ⟨t, e⟩ := He.int_ok X G (T.c.fact 114 (f := .int "MOST_CELLS" 576) rfl); exact ⟨_, e, t, rfl⟩
theorem Tx.k_MOST_PLAIN (T : Tx K mg) : ∃ u, mg "MOST_PLAIN" = some u ∧ RelV (.int 16) u := by obtain ⟨h, X, G⟩ := T.hp; obtain ⟨t, e⟩ := He.int_ok X G (T.c.fact 115 (f := .int "MOST_PLAIN" 16) rfl); exact ⟨_, e, t, rfl⟩
theorem Tx.k_MOST_LIKE (T : Tx K mg) : ∃ u, mg "MOST_LIKE" = some u ∧ RelV (.int 17) u := by obtain ⟨h, X, G⟩ := T.hp; obtain ⟨t, e⟩ := He.int_ok X G (T.c.fact 116 (f := .int "MOST_LIKE" 17) rfl); exact ⟨_, e, t, rfl⟩
theorem Tx.k_FIRST_LIKE (T : Tx K mg) : ∃ u, mg "FIRST_LIKE" = some u ∧ RelV (.int 14) u := by obtain ⟨h, X, G⟩ := T.hp; obtain ⟨t, e⟩ := He.int_ok X G (T.c.fact 117 (f := .int "FIRST_LIKE" 14) rfl); exact ⟨_, e, t, rfl⟩
theorem Tx.k_MOST_HEAD (T : Tx K mg) : ∃ u, mg "MOST_HEAD" = some u ∧ RelV (.int 31) u := by obtain ⟨h, X, G⟩ := T.hp; obtain ⟨t, e⟩ := He.int_ok X G (T.c.fact 118 (f := .int "MOST_HEAD" 31) rfl); exact ⟨_, e, t, rfl⟩
theorem Tx.k_MOST_PICTURES (T : Tx K mg) : ∃ u, mg "MOST_PICTURES" = some u ∧ RelV (.int 16) u := by obtain ⟨h, X, G⟩ := T.hp; obtain ⟨t, e⟩ := He.int_ok X G (T.c.fact 119 (f := .int "MOST_PICTURES" 16) rfl); exact ⟨_, e, t, rfl⟩
theorem Tx.k_MAIN (T : Tx K mg) : ∃ u, mg "MAIN" = some u ∧ RelV (.str "main") u := by obtain ⟨h, X, G⟩ := T.hp; obtain ⟨t, e⟩ := He.str_ok X G (T.c.fact 120 (f := .str "MAIN" "main") rfl); exact ⟨_, e, t, rfl⟩
theorem Tx.c_Folio (T : Tx K mg) : Cls K (He.ga K "Folio") := He.cls_ok (T.c.fact 121 (f := .cls "Folio") rfl)
theorem Tx.n_Folio_kept (T : Tx K mg) : NoAttr K (He.ga K "Folio") "kept" := He.noat_ok (T.c.fact 122 (f := .noat "Folio" "kept") rfl)
theorem Tx.n_Folio_size (T : Tx K mg) : NoAttr K (He.ga K "Folio") "size" := He.noat_ok (T.c.fact 123 (f := .noat "Folio" "size") rfl)
theorem Tx.m_Folio_init (T : Tx K mg) : Mk K (He.ga K "Folio") (He.ma K (He.ga K "Folio") "__init__") := He.mkr_ok (T.c.fact 124 (f := .mkr "Folio") rfl)
theorem Tx.m_Folio_need_there (T : Tx K mg) : Meth K (He.ga K "Folio") "need_there" (He.ma K (He.ga K "Folio") "need_there") := He.meth_ok (T.c.fact 125 (f := .meth "Folio" "need_there") rfl)
theorem Tx.m_Folio_put_part (T : Tx K mg) : Meth K (He.ga K "Folio") "put_part" (He.ma K (He.ga K "Folio") "put_part") := He.meth_ok (T.c.fact 126 (f := .meth "Folio" "put_part") rfl)
theorem Tx.m_Folio_numbers_of (T : Tx K mg) : Meth K (He.ga K "Folio") "numbers_of" (He.ma K (He.ga K "Folio") "numbers_of") := He.meth_ok (T.c.fact 127 (f := .meth "Folio" "numbers_of") rfl)
theorem Tx.m_Folio_names_of (T : Tx K mg) : Meth K (He.ga K "Folio") "names_of" (He.ma K (He.ga K "Folio") "names_of") := He.meth_ok (T.c.fact 128 (f := .meth "Folio" "names_of") rfl)
theorem Tx.m_Folio_all_parts (T : Tx K mg) : Meth K (He.ga K "Folio") "all_parts" (He.ma K (He.ga K "Folio") "all_parts") := He.meth_ok (T.c.fact 129 (f := .meth "Folio" "all_parts") rfl)
theorem Tx.m_Folio_written (T : Tx K mg) : Meth K (He.ga K "Folio") "written" (He.ma K (He.ga K "Folio") "written") := He.meth_ok (T.c.fact 130 (f := .meth "Folio" "written") rfl)
theorem Tx.c_Palette (T : Tx K mg) : Cls K (He.ga K "Palette") := He.cls_ok (T.c.fact 131 (f := .cls "Palette") rfl)
theorem Tx.n_Palette_shades (T : Tx K mg) : NoAttr K (He.ga K "Palette") "shades" := He.noat_ok (T.c.fact 132 (f := .noat "Palette" "shades") rfl)
theorem Tx.m_Palette_init (T : Tx K mg) : Mk K (He.ga K "Palette") (He.ma K (He.ga K "Palette") "__init__") := He.mkr_ok (T.c.fact 133 (f := .mkr "Palette") rfl)
theorem Tx.m_Palette_colours (T : Tx K mg) : Meth K (He.ga K "Palette") "colours" (He.ma K (He.ga K "Palette") "colours") := He.meth_ok (T.c.fact 134 (f := .meth "Palette" "colours") rfl)
theorem Tx.m_Palette_many (T : Tx K mg) : Meth K (He.ga K "Palette") "many" (He.ma K (He.ga K "Palette") "many") := He.meth_ok (T.c.fact 135 (f := .meth "Palette" "many") rfl)
theorem Tx.c_Came (T : Tx K mg) : Cls K (He.ga K "Came") := He.cls_ok (T.c.fact 136 (f := .cls "Came") rfl)
theorem Tx.n_Came_called (T : Tx K mg) : NoAttr K (He.ga K "Came") "called" := He.noat_ok (T.c.fact 137 (f := .noat "Came" "called") rfl)
theorem Tx.n_Came_come (T : Tx K mg) : NoAttr K (He.ga K "Came") "come" := He.noat_ok (T.c.fact 138 (f := .noat "Came" "come") rfl)
theorem Tx.m_Came_init (T : Tx K mg) : Mk K (He.ga K "Came") (He.ma K (He.ga K "Came") "__init__") := He.mkr_ok (T.c.fact 139 (f := .mkr "Came") rfl)
theorem Tx.m_Came_again (T : Tx K mg) : Meth K (He.ga K "Came") "again" (He.ma K (He.ga K "Came") "again") := He.meth_ok (T.c.fact 140 (f := .meth "Came" "again") rfl)
theorem Tx.c_Album (T : Tx K mg) : Cls K (He.ga K "Album") := He.cls_ok (T.c.fact 141 (f := .cls "Album") rfl)
theorem Tx.n_Album_order (T : Tx K mg) : NoAttr K (He.ga K "Album") "order" := He.noat_ok (T.c.fact 142 (f := .noat "Album" "order") rfl)
theorem Tx.n_Album_held (T : Tx K mg) : NoAttr K (He.ga K "Album") "held" := He.noat_ok (T.c.fact 143 (f := .noat "Album" "held") rfl)
theorem Tx.n_Album_hues (T : Tx K mg) : NoAttr K (He.ga K "Album") "hues" := He.noat_ok (T.c.fact 144 (f := .noat "Album" "hues") rfl)
theorem Tx.n_Album_past (T : Tx K mg) : NoAttr K (He.ga K "Album") "past" := He.noat_ok (T.c.fact 145 (f := .noat "Album" "past") rfl)
theorem Tx.n_Album_ahead (T : Tx K mg) : NoAttr K (He.ga K "Album") "ahead" := He.noat_ok (T.c.fact 146 (f := .noat "Album" "ahead") rfl)
theorem Tx.m_Album_init (T : Tx K mg) : Mk K (He.ga K "Album") (He.ma K (He.ga K "Album") "__init__") := He.mkr_ok (T.c.fact 147 (f := .mkr "Album") rfl)
theorem Tx.m_Album_hold (T : Tx K mg) : Meth K (He.ga K "Album") "hold" (He.ma K (He.ga K "Album") "hold") := He.meth_ok (T.c.fact 148 (f := .meth "Album" "hold") rfl)
theorem Tx.m_Album_tint (T : Tx K mg) : Meth K (He.ga K "Album") "tint" (He.ma K (He.ga K "Album") "tint") := He.meth_ok (T.c.fact 149 (f := .meth "Album" "tint") rfl)
theorem Tx.m_Album_go (T : Tx K mg) : Meth K (He.ga K "Album") "go" (He.ma K (He.ga K "Album") "go") := He.meth_ok (T.c.fact 150 (f := .meth "Album" "go") rfl)
theorem Tx.m_Album_names (T : Tx K mg) : Meth K (He.ga K "Album") "names" (He.ma K (He.ga K "Album") "names") := He.meth_ok (T.c.fact 151 (f := .meth "Album" "names") rfl)
theorem Tx.m_Album_need_name (T : Tx K mg) : Meth K (He.ga K "Album") "need_name" (He.ma K (He.ga K "Album") "need_name") := He.meth_ok (T.c.fact 152 (f := .meth "Album" "need_name") rfl)
theorem Tx.m_Album_need_room (T : Tx K mg) : Meth K (He.ga K "Album") "need_room" (He.ma K (He.ga K "Album") "need_room") := He.meth_ok (T.c.fact 153 (f := .meth "Album" "need_room") rfl)
theorem Tx.m_Album_picture (T : Tx K mg) : Meth K (He.ga K "Album") "picture" (He.ma K (He.ga K "Album") "picture") := He.meth_ok (T.c.fact 154 (f := .meth "Album" "picture") rfl)
theorem Tx.m_Album_palette (T : Tx K mg) : Meth K (He.ga K "Album") "palette" (He.ma K (He.ga K "Album") "palette") := He.meth_ok (T.c.fact 155 (f := .meth "Album" "palette") rfl)
theorem Tx.m_Album_put (T : Tx K mg) : Meth K (He.ga K "Album") "put" (He.ma K (He.ga K "Album") "put") := He.meth_ok (T.c.fact 156 (f := .meth "Album" "put") rfl)
theorem Tx.x_BadPicture (T : Tx K mg) : PySem.W.excIn K (He.ga K "BadPicture") He.veBase "ValueError.__new__" = true ∧ PySem.W.keepIn K (.ref (He.ga K "BadPicture")) = true ∧ PySem.W.subIn K (.ref (He.ga K "BadPicture")) (.type "BaseException") = some true ∧ PySem.W.typeIn K (.ref (He.ga K "BadPicture")) = some (.type "type") := He.exc_ok (T.c.fact 157 (f := .exc "BadPicture") rfl)
theorem Tx.x_BadCell (T : Tx K mg) : PySem.W.excIn K (He.ga K "BadCell") He.veBase "ValueError.__new__" = true ∧ PySem.W.keepIn K (.ref (He.ga K "BadCell")) = true ∧ PySem.W.subIn K (.ref (He.ga K "BadCell")) (.type "BaseException") = some true ∧ PySem.W.typeIn K (.ref (He.ga K "BadCell")) = some (.type "type") := He.exc_ok (T.c.fact 158 (f := .exc "BadCell") rfl)
theorem Tx.x_BadSize (T : Tx K mg) : PySem.W.excIn K (He.ga K "BadSize") He.veBase "ValueError.__new__" = true ∧ PySem.W.keepIn K (.ref (He.ga K "BadSize")) = true ∧ PySem.W.subIn K (.ref (He.ga K "BadSize")) (.type "BaseException") = some true ∧ PySem.W.typeIn K (.ref (He.ga K "BadSize")) = some (.type "type") := He.exc_ok (T.c.fact 159 (f := .exc "BadSize") rfl)
theorem Tx.x_BadText (T : Tx K mg) : PySem.W.excIn K (He.ga K "BadText") He.veBase "ValueError.__new__" = true ∧ PySem.W.keepIn K (.ref (He.ga K "BadText")) = true ∧ PySem.W.subIn K (.ref (He.ga K "BadText")) (.type "BaseException") = some true ∧ PySem.W.typeIn K (.ref (He.ga K "BadText")) = some (.type "type") := He.exc_ok (T.c.fact 160 (f := .exc "BadText") rfl)
theorem Tx.x_BadColour (T : Tx K mg) : PySem.W.excIn K (He.ga K "BadColour") He.veBase "ValueError.__new__" = true ∧ PySem.W.keepIn K (.ref (He.ga K "BadColour")) = true ∧ PySem.W.subIn K (.ref (He.ga K "BadColour")) (.type "BaseException") = some true ∧ PySem.W.typeIn K (.ref (He.ga K "BadColour")) = some (.type "type") := He.exc_ok (T.c.fact 161 (f := .exc "BadColour") rfl)
theorem Tx.x_BadPalette (T : Tx K mg) : PySem.W.excIn K (He.ga K "BadPalette") He.veBase "ValueError.__new__" = true ∧ PySem.W.keepIn K (.ref (He.ga K "BadPalette")) = true ∧ PySem.W.subIn K (.ref (He.ga K "BadPalette")) (.type "BaseException") = some true ∧ PySem.W.typeIn K (.ref (He.ga K "BadPalette")) = some (.type "type") := He.exc_ok (T.c.fact 162 (f := .exc "BadPalette") rfl)
theorem Tx.x_TooMany (T : Tx K mg) : PySem.W.excIn K (He.ga K "TooMany") He.veBase "ValueError.__new__" = true ∧ PySem.W.keepIn K (.ref (He.ga K "TooMany")) = true ∧ PySem.W.subIn K (.ref (He.ga K "TooMany")) (.type "BaseException") = some true ∧ PySem.W.typeIn K (.ref (He.ga K "TooMany")) = some (.type "type") := He.exc_ok (T.c.fact 163 (f := .exc "TooMany") rfl)
theorem Tx.x_BadPack (T : Tx K mg) : PySem.W.excIn K (He.ga K "BadPack") He.veBase "ValueError.__new__" = true ∧ PySem.W.keepIn K (.ref (He.ga K "BadPack")) = true ∧ PySem.W.subIn K (.ref (He.ga K "BadPack")) (.type "BaseException") = some true ∧ PySem.W.typeIn K (.ref (He.ga K "BadPack")) = some (.type "type") := He.exc_ok (T.c.fact 164 (f := .exc "BadPack") rfl)
theorem Tx.x_BadRule (T : Tx K mg) : PySem.W.excIn K (He.ga K "BadRule") He.veBase "ValueError.__new__" = true ∧ PySem.W.keepIn K (.ref (He.ga K "BadRule")) = true ∧ PySem.W.subIn K (.ref (He.ga K "BadRule")) (.type "BaseException") = some true ∧ PySem.W.typeIn K (.ref (He.ga K "BadRule")) = some (.type "type") := He.exc_ok (T.c.fact 165 (f := .exc "BadRule") rfl)
theorem Tx.x_BadPart (T : Tx K mg) : PySem.W.excIn K (He.ga K "BadPart") He.veBase "ValueError.__new__" = true ∧ PySem.W.keepIn K (.ref (He.ga K "BadPart")) = true ∧ PySem.W.subIn K (.ref (He.ga K "BadPart")) (.type "BaseException") = some true ∧ PySem.W.typeIn K (.ref (He.ga K "BadPart")) = some (.type "type") := He.exc_ok (T.c.fact 166 (f := .exc "BadPart") rfl)
theorem Tx.x_BadHead (T : Tx K mg) : PySem.W.excIn K (He.ga K "BadHead") He.veBase "ValueError.__new__" = true ∧ PySem.W.keepIn K (.ref (He.ga K "BadHead")) = true ∧ PySem.W.subIn K (.ref (He.ga K "BadHead")) (.type "BaseException") = some true ∧ PySem.W.typeIn K (.ref (He.ga K "BadHead")) = some (.type "type") := He.exc_ok (T.c.fact 167 (f := .exc "BadHead") rfl)
theorem Tx.x_NoPart (T : Tx K mg) : PySem.W.excIn K (He.ga K "NoPart") He.veBase "ValueError.__new__" = true ∧ PySem.W.keepIn K (.ref (He.ga K "NoPart")) = true ∧ PySem.W.subIn K (.ref (He.ga K "NoPart")) (.type "BaseException") = some true ∧ PySem.W.typeIn K (.ref (He.ga K "NoPart")) = some (.type "type") := He.exc_ok (T.c.fact 168 (f := .exc "NoPart") rfl)
theorem Tx.x_Twice (T : Tx K mg) : PySem.W.excIn K (He.ga K "Twice") He.veBase "ValueError.__new__" = true ∧ PySem.W.keepIn K (.ref (He.ga K "Twice")) = true ∧ PySem.W.subIn K (.ref (He.ga K "Twice")) (.type "BaseException") = some true ∧ PySem.W.typeIn K (.ref (He.ga K "Twice")) = some (.type "type") := He.exc_ok (T.c.fact 169 (f := .exc "Twice") rfl)
theorem Tx.x_BadName (T : Tx K mg) : PySem.W.excIn K (He.ga K "BadName") He.veBase "ValueError.__new__" = true ∧ PySem.W.keepIn K (.ref (He.ga K "BadName")) = true ∧ PySem.W.subIn K (.ref (He.ga K "BadName")) (.type "BaseException") = some true ∧ PySem.W.typeIn K (.ref (He.ga K "BadName")) = some (.type "type") := He.exc_ok (T.c.fact 170 (f := .exc "BadName") rfl)
theorem Tx.x_NoPicture (T : Tx K mg) : PySem.W.excIn K (He.ga K "NoPicture") He.veBase "ValueError.__new__" = true ∧ PySem.W.keepIn K (.ref (He.ga K "NoPicture")) = true ∧ PySem.W.subIn K (.ref (He.ga K "NoPicture")) (.type "BaseException") = some true ∧ PySem.W.typeIn K (.ref (He.ga K "NoPicture")) = some (.type "type") := He.exc_ok (T.c.fact 171 (f := .exc "NoPicture") rfl)
theorem Tx.kp_BadCheck (T : Tx K mg) : PySem.W.keepIn K (.ref (He.ga K "BadCheck")) = true := He.keep_ok (T.c.fact 172 (f := .keep "BadCheck") rfl)
theorem Tx.e_BadPack_BadPack (T : Tx K mg) : PySem.W.exmOne K (.ref (He.ga K "BadPack")) (.ref (He.ga K "BadPack")) = some true := He.exm_ok (T.c.fact 173 (f := .exm "BadPack" "BadPack" true) rfl)
theorem Tx.e_BadRule_BadRule (T : Tx K mg) : PySem.W.exmOne K (.ref (He.ga K "BadRule")) (.ref (He.ga K "BadRule")) = some true := He.exm_ok (T.c.fact 174 (f := .exm "BadRule" "BadRule" true) rfl)
theorem Tx.e_BadPalette_BadPalette (T : Tx K mg) : PySem.W.exmOne K (.ref (He.ga K "BadPalette")) (.ref (He.ga K "BadPalette")) = some true := He.exm_ok (T.c.fact 175 (f := .exm "BadPalette" "BadPalette" true) rfl)
theorem Tx.e_BadText_FolioError (T : Tx K mg) : PySem.W.exmOne K (.ref (He.ga K "BadText")) (.ref (He.ga K "FolioError")) = some true := He.exm_ok (T.c.fact 176 (f := .exm "BadText" "FolioError" true) rfl)
theorem Tx.e_BadHead_FolioError (T : Tx K mg) : PySem.W.exmOne K (.ref (He.ga K "BadHead")) (.ref (He.ga K "FolioError")) = some true := He.exm_ok (T.c.fact 177 (f := .exm "BadHead" "FolioError" true) rfl)
theorem Tx.e_BadCheck_FolioError (T : Tx K mg) : PySem.W.exmOne K (.ref (He.ga K "BadCheck")) (.ref (He.ga K "FolioError")) = some true := He.exm_ok (T.c.fact 178 (f := .exm "BadCheck" "FolioError" true) rfl)
theorem Tx.e_BadPart_FolioError (T : Tx K mg) : PySem.W.exmOne K (.ref (He.ga K "BadPart")) (.ref (He.ga K "FolioError")) = some true := He.exm_ok (T.c.fact 179 (f := .exm "BadPart" "FolioError" true) rfl)
theorem Tx.e_TooMany_FolioError (T : Tx K mg) : PySem.W.exmOne K (.ref (He.ga K "TooMany")) (.ref (He.ga K "FolioError")) = some true := He.exm_ok (T.c.fact 180 (f := .exm "TooMany" "FolioError" true) rfl)
theorem Tx.F_BadCheck_init (T : Tx K mg) : ∃ fd, FunD K d_BadCheck_init.name d_BadCheck_init.qual d_BadCheck_init.params d_BadCheck_init.body d_BadCheck_init.scope (d_BadCheck_init.dvs K) (d_BadCheck_init.kws K) (He.fAd K d_BadCheck_init.at_) fd := T.c.def_ 0 (d := d_BadCheck_init) rfl
theorem Tx.F_is_among (T : Tx K mg) : ∃ fd, FunD K d_is_among.name d_is_among.qual d_is_among.params d_is_among.body d_is_among.scope (d_is_among.dvs K) (d_is_among.kws K) (He.fAd K d_is_among.at_) fd := T.c.def_ 1 (d := d_is_among) rfl
theorem Tx.F_is_cell (T : Tx K mg) : ∃ fd, FunD K d_is_cell.name d_is_cell.qual d_is_cell.params d_is_cell.body d_is_cell.scope (d_is_cell.dvs K) (d_is_cell.kws K) (He.fAd K d_is_cell.at_) fd := T.c.def_ 2 (d := d_is_cell) rfl
theorem Tx.F_are_cells (T : Tx K mg) : ∃ fd, FunD K d_are_cells.name d_are_cells.qual d_are_cells.params d_are_cells.body d_are_cells.scope (d_are_cells.dvs K) (d_are_cells.kws K) (He.fAd K d_are_cells.at_) fd := T.c.def_ 3 (d := d_are_cells) rfl
theorem Tx.F_is_picture (T : Tx K mg) : ∃ fd, FunD K d_is_picture.name d_is_picture.qual d_is_picture.params d_is_picture.body d_is_picture.scope (d_is_picture.dvs K) (d_is_picture.kws K) (He.fAd K d_is_picture.at_) fd := T.c.def_ 4 (d := d_is_picture) rfl
theorem Tx.F_need_picture (T : Tx K mg) : ∃ fd, FunD K d_need_picture.name d_need_picture.qual d_need_picture.params d_need_picture.body d_need_picture.scope (d_need_picture.dvs K) (d_need_picture.kws K) (He.fAd K d_need_picture.at_) fd := T.c.def_ 5 (d := d_need_picture) rfl
theorem Tx.F_size_of (T : Tx K mg) : ∃ fd, FunD K d_size_of.name d_size_of.qual d_size_of.params d_size_of.body d_size_of.scope (d_size_of.dvs K) (d_size_of.kws K) (He.fAd K d_size_of.at_) fd := T.c.def_ 6 (d := d_size_of) rfl
theorem Tx.F_is_colour (T : Tx K mg) : ∃ fd, FunD K d_is_colour.name d_is_colour.qual d_is_colour.params d_is_colour.body d_is_colour.scope (d_is_colour.dvs K) (d_is_colour.kws K) (He.fAd K d_is_colour.at_) fd := T.c.def_ 7 (d := d_is_colour) rfl
theorem Tx.F_need_colour (T : Tx K mg) : ∃ fd, FunD K d_need_colour.name d_need_colour.qual d_need_colour.params d_need_colour.body d_need_colour.scope (d_need_colour.dvs K) (d_need_colour.kws K) (He.fAd K d_need_colour.at_) fd := T.c.def_ 8 (d := d_need_colour) rfl
theorem Tx.F_colour_number (T : Tx K mg) : ∃ fd, FunD K d_colour_number.name d_colour_number.qual d_colour_number.params d_colour_number.body d_colour_number.scope (d_colour_number.dvs K) (d_colour_number.kws K) (He.fAd K d_colour_number.at_) fd := T.c.def_ 9 (d := d_colour_number) rfl
theorem Tx.F_colour_by_number (T : Tx K mg) : ∃ fd, FunD K d_colour_by_number.name d_colour_by_number.qual d_colour_by_number.params d_colour_by_number.body d_colour_by_number.scope (d_colour_by_number.dvs K) (d_colour_by_number.kws K) (He.fAd K d_colour_by_number.at_) fd := T.c.def_ 10 (d := d_colour_by_number) rfl
theorem Tx.F_sign_of_number (T : Tx K mg) : ∃ fd, FunD K d_sign_of_number.name d_sign_of_number.qual d_sign_of_number.params d_sign_of_number.body d_sign_of_number.scope (d_sign_of_number.dvs K) (d_sign_of_number.kws K) (He.fAd K d_sign_of_number.at_) fd := T.c.def_ 11 (d := d_sign_of_number) rfl
theorem Tx.F_number_of_sign (T : Tx K mg) : ∃ fd, FunD K d_number_of_sign.name d_number_of_sign.qual d_number_of_sign.params d_number_of_sign.body d_number_of_sign.scope (d_number_of_sign.dvs K) (d_number_of_sign.kws K) (He.fAd K d_number_of_sign.at_) fd := T.c.def_ 12 (d := d_number_of_sign) rfl
theorem Tx.F_signs_text (T : Tx K mg) : ∃ fd, FunD K d_signs_text.name d_signs_text.qual d_signs_text.params d_signs_text.body d_signs_text.scope (d_signs_text.dvs K) (d_signs_text.kws K) (He.fAd K d_signs_text.at_) fd := T.c.def_ 13 (d := d_signs_text) rfl
theorem Tx.F_numbers_of_text (T : Tx K mg) : ∃ fd, FunD K d_numbers_of_text.name d_numbers_of_text.qual d_numbers_of_text.params d_numbers_of_text.body d_numbers_of_text.scope (d_numbers_of_text.dvs K) (d_numbers_of_text.kws K) (He.fAd K d_numbers_of_text.at_) fd := T.c.def_ 14 (d := d_numbers_of_text) rfl
theorem Tx.F_two_numbers (T : Tx K mg) : ∃ fd, FunD K d_two_numbers.name d_two_numbers.qual d_two_numbers.params d_two_numbers.body d_two_numbers.scope (d_two_numbers.dvs K) (d_two_numbers.kws K) (He.fAd K d_two_numbers.at_) fd := T.c.def_ 15 (d := d_two_numbers) rfl
theorem Tx.F_one_number (T : Tx K mg) : ∃ fd, FunD K d_one_number.name d_one_number.qual d_one_number.params d_one_number.body d_one_number.scope (d_one_number.dvs K) (d_one_number.kws K) (He.fAd K d_one_number.at_) fd := T.c.def_ 16 (d := d_one_number) rfl
theorem Tx.F_check_of (T : Tx K mg) : ∃ fd, FunD K d_check_of.name d_check_of.qual d_check_of.params d_check_of.body d_check_of.scope (d_check_of.dvs K) (d_check_of.kws K) (He.fAd K d_check_of.at_) fd := T.c.def_ 17 (d := d_check_of) rfl
theorem Tx.F_is_small (T : Tx K mg) : ∃ fd, FunD K d_is_small.name d_is_small.qual d_is_small.params d_is_small.body d_is_small.scope (d_is_small.dvs K) (d_is_small.kws K) (He.fAd K d_is_small.at_) fd := T.c.def_ 18 (d := d_is_small) rfl
theorem Tx.F_is_six_bits (T : Tx K mg) : ∃ fd, FunD K d_is_six_bits.name d_is_six_bits.qual d_is_six_bits.params d_is_six_bits.body d_is_six_bits.scope (d_is_six_bits.dvs K) (d_is_six_bits.kws K) (He.fAd K d_is_six_bits.at_) fd := T.c.def_ 19 (d := d_is_six_bits) rfl
theorem Tx.F_is_part (T : Tx K mg) : ∃ fd, FunD K d_is_part.name d_is_part.qual d_is_part.params d_is_part.body d_is_part.scope (d_is_part.dvs K) (d_is_part.kws K) (He.fAd K d_is_part.at_) fd := T.c.def_ 20 (d := d_is_part) rfl
theorem Tx.F_need_part (T : Tx K mg) : ∃ fd, FunD K d_need_part.name d_need_part.qual d_need_part.params d_need_part.body d_need_part.scope (d_need_part.dvs K) (d_need_part.kws K) (He.fAd K d_need_part.at_) fd := T.c.def_ 21 (d := d_need_part) rfl
theorem Tx.F_part_numbers (T : Tx K mg) : ∃ fd, FunD K d_part_numbers.name d_part_numbers.qual d_part_numbers.params d_part_numbers.body d_part_numbers.scope (d_part_numbers.dvs K) (d_part_numbers.kws K) (He.fAd K d_part_numbers.at_) fd := T.c.def_ 22 (d := d_part_numbers) rfl
theorem Tx.F_part_at (T : Tx K mg) : ∃ fd, FunD K d_part_at.name d_part_at.qual d_part_at.params d_part_at.body d_part_at.scope (d_part_at.dvs K) (d_part_at.kws K) (He.fAd K d_part_at.at_) fd := T.c.def_ 23 (d := d_part_at) rfl
theorem Tx.F_Folio_init (T : Tx K mg) : ∃ fd, FunD K d_Folio_init.name d_Folio_init.qual d_Folio_init.params d_Folio_init.body d_Folio_init.scope (d_Folio_init.dvs K) (d_Folio_init.kws K) (He.fAd K d_Folio_init.at_) fd := T.c.def_ 24 (d := d_Folio_init) rfl
theorem Tx.F_Folio_need_there (T : Tx K mg) : ∃ fd, FunD K d_Folio_need_there.name d_Folio_need_there.qual d_Folio_need_there.params d_Folio_need_there.body d_Folio_need_there.scope (d_Folio_need_there.dvs K) (d_Folio_need_there.kws K) (He.fAd K d_Folio_need_there.at_) fd := T.c.def_ 25 (d := d_Folio_need_there) rfl
theorem Tx.F_Folio_put_part (T : Tx K mg) : ∃ fd, FunD K d_Folio_put_part.name d_Folio_put_part.qual d_Folio_put_part.params d_Folio_put_part.body d_Folio_put_part.scope (d_Folio_put_part.dvs K) (d_Folio_put_part.kws K) (He.fAd K d_Folio_put_part.at_) fd := T.c.def_ 26 (d := d_Folio_put_part) rfl
theorem Tx.F_Folio_numbers_of (T : Tx K mg) : ∃ fd, FunD K d_Folio_numbers_of.name d_Folio_numbers_of.qual d_Folio_numbers_of.params d_Folio_numbers_of.body d_Folio_numbers_of.scope (d_Folio_numbers_of.dvs K) (d_Folio_numbers_of.kws K) (He.fAd K d_Folio_numbers_of.at_) fd := T.c.def_ 27 (d := d_Folio_numbers_of) rfl
theorem Tx.F_Folio_names_of (T : Tx K mg) : ∃ fd, FunD K d_Folio_names_of.name d_Folio_names_of.qual d_Folio_names_of.params d_Folio_names_of.body d_Folio_names_of.scope (d_Folio_names_of.dvs K) (d_Folio_names_of.kws K) (He.fAd K d_Folio_names_of.at_) fd := T.c.def_ 28 (d := d_Folio_names_of) rfl
theorem Tx.F_Folio_all_parts (T : Tx K mg) : ∃ fd, FunD K d_Folio_all_parts.name d_Folio_all_parts.qual d_Folio_all_parts.params d_Folio_all_parts.body d_Folio_all_parts.scope (d_Folio_all_parts.dvs K) (d_Folio_all_parts.kws K) (He.fAd K d_Folio_all_parts.at_) fd := T.c.def_ 29 (d := d_Folio_all_parts) rfl
theorem Tx.F_Folio_written (T : Tx K mg) : ∃ fd, FunD K d_Folio_written.name d_Folio_written.qual d_Folio_written.params d_Folio_written.body d_Folio_written.scope (d_Folio_written.dvs K) (d_Folio_written.kws K) (He.fAd K d_Folio_written.at_) fd := T.c.def_ 30 (d := d_Folio_written) rfl
theorem Tx.F_read_folio (T : Tx K mg) : ∃ fd, FunD K d_read_folio.name d_read_folio.qual d_read_folio.params d_read_folio.body d_read_folio.scope (d_read_folio.dvs K) (d_read_folio.kws K) (He.fAd K d_read_folio.at_) fd := T.c.def_ 31 (d := d_read_folio) rfl
theorem Tx.F_Palette_init (T : Tx K mg) : ∃ fd, FunD K d_Palette_init.name d_Palette_init.qual d_Palette_init.params d_Palette_init.body d_Palette_init.scope (d_Palette_init.dvs K) (d_Palette_init.kws K) (He.fAd K d_Palette_init.at_) fd := T.c.def_ 32 (d := d_Palette_init) rfl
theorem Tx.F_Palette_colours (T : Tx K mg) : ∃ fd, FunD K d_Palette_colours.name d_Palette_colours.qual d_Palette_colours.params d_Palette_colours.body d_Palette_colours.scope (d_Palette_colours.dvs K) (d_Palette_colours.kws K) (He.fAd K d_Palette_colours.at_) fd := T.c.def_ 33 (d := d_Palette_colours) rfl
theorem Tx.F_Palette_many (T : Tx K mg) : ∃ fd, FunD K d_Palette_many.name d_Palette_many.qual d_Palette_many.params d_Palette_many.body d_Palette_many.scope (d_Palette_many.dvs K) (d_Palette_many.kws K) (He.fAd K d_Palette_many.at_) fd := T.c.def_ 34 (d := d_Palette_many) rfl
theorem Tx.F_all_cells (T : Tx K mg) : ∃ fd, FunD K d_all_cells.name d_all_cells.qual d_all_cells.params d_all_cells.body d_all_cells.scope (d_all_cells.dvs K) (d_all_cells.kws K) (He.fAd K d_all_cells.at_) fd := T.c.def_ 35 (d := d_all_cells) rfl
theorem Tx.F_rows_by (T : Tx K mg) : ∃ fd, FunD K d_rows_by.name d_rows_by.qual d_rows_by.params d_rows_by.body d_rows_by.scope (d_rows_by.dvs K) (d_rows_by.kws K) (He.fAd K d_rows_by.at_) fd := T.c.def_ 36 (d := d_rows_by) rfl
theorem Tx.F_Came_init (T : Tx K mg) : ∃ fd, FunD K d_Came_init.name d_Came_init.qual d_Came_init.params d_Came_init.body d_Came_init.scope (d_Came_init.dvs K) (d_Came_init.kws K) (He.fAd K d_Came_init.at_) fd := T.c.def_ 37 (d := d_Came_init) rfl
theorem Tx.F_Came_again (T : Tx K mg) : ∃ fd, FunD K d_Came_again.name d_Came_again.qual d_Came_again.params d_Came_again.body d_Came_again.scope (d_Came_again.dvs K) (d_Came_again.kws K) (He.fAd K d_Came_again.at_) fd := T.c.def_ 38 (d := d_Came_again) rfl
theorem Tx.F_is_fold (T : Tx K mg) : ∃ fd, FunD K d_is_fold.name d_is_fold.qual d_is_fold.params d_is_fold.body d_is_fold.scope (d_is_fold.dvs K) (d_is_fold.kws K) (He.fAd K d_is_fold.at_) fd := T.c.def_ 39 (d := d_is_fold) rfl
theorem Tx.F_need_fold (T : Tx K mg) : ∃ fd, FunD K d_need_fold.name d_need_fold.qual d_need_fold.params d_need_fold.body d_need_fold.scope (d_need_fold.dvs K) (d_need_fold.kws K) (He.fAd K d_need_fold.at_) fd := T.c.def_ 40 (d := d_need_fold) rfl
theorem Tx.F_stand_for (T : Tx K mg) : ∃ fd, FunD K d_stand_for.name d_stand_for.qual d_stand_for.params d_stand_for.body d_stand_for.scope (d_stand_for.dvs K) (d_stand_for.kws K) (He.fAd K d_stand_for.at_) fd := T.c.def_ 41 (d := d_stand_for) rfl
theorem Tx.F_row_above (T : Tx K mg) : ∃ fd, FunD K d_row_above.name d_row_above.qual d_row_above.params d_row_above.body d_row_above.scope (d_row_above.dvs K) (d_row_above.kws K) (He.fAd K d_row_above.at_) fd := T.c.def_ 42 (d := d_row_above) rfl
theorem Tx.F_folded_row (T : Tx K mg) : ∃ fd, FunD K d_folded_row.name d_folded_row.qual d_folded_row.params d_folded_row.body d_folded_row.scope (d_folded_row.dvs K) (d_folded_row.kws K) (He.fAd K d_folded_row.at_) fd := T.c.def_ 43 (d := d_folded_row) rfl
theorem Tx.F_unfolded_row (T : Tx K mg) : ∃ fd, FunD K d_unfolded_row.name d_unfolded_row.qual d_unfolded_row.params d_unfolded_row.body d_unfolded_row.scope (d_unfolded_row.dvs K) (d_unfolded_row.kws K) (He.fAd K d_unfolded_row.at_) fd := T.c.def_ 44 (d := d_unfolded_row) rfl
theorem Tx.F_need_folds (T : Tx K mg) : ∃ fd, FunD K d_need_folds.name d_need_folds.qual d_need_folds.params d_need_folds.body d_need_folds.scope (d_need_folds.dvs K) (d_need_folds.kws K) (He.fAd K d_need_folds.at_) fd := T.c.def_ 45 (d := d_need_folds) rfl
theorem Tx.F_folded_picture (T : Tx K mg) : ∃ fd, FunD K d_folded_picture.name d_folded_picture.qual d_folded_picture.params d_folded_picture.body d_folded_picture.scope (d_folded_picture.dvs K) (d_folded_picture.kws K) (He.fAd K d_folded_picture.at_) fd := T.c.def_ 46 (d := d_folded_picture) rfl
theorem Tx.F_unfolded_picture (T : Tx K mg) : ∃ fd, FunD K d_unfolded_picture.name d_unfolded_picture.qual d_unfolded_picture.params d_unfolded_picture.body d_unfolded_picture.scope (d_unfolded_picture.dvs K) (d_unfolded_picture.kws K) (He.fAd K d_unfolded_picture.at_) fd := T.c.def_ 47 (d := d_unfolded_picture) rfl
theorem Tx.F_many_runs (T : Tx K mg) : ∃ fd, FunD K d_many_runs.name d_many_runs.qual d_many_runs.params d_many_runs.body d_many_runs.scope (d_many_runs.dvs K) (d_many_runs.kws K) (He.fAd K d_many_runs.at_) fd := T.c.def_ 48 (d := d_many_runs) rfl
theorem Tx.F_best_rules (T : Tx K mg) : ∃ fd, FunD K d_best_rules.name d_best_rules.qual d_best_rules.params d_best_rules.body d_best_rules.scope (d_best_rules.dvs K) (d_best_rules.kws K) (He.fAd K d_best_rules.at_) fd := T.c.def_ 49 (d := d_best_rules) rfl
theorem Tx.F_need_cells (T : Tx K mg) : ∃ fd, FunD K d_need_cells.name d_need_cells.qual d_need_cells.params d_need_cells.body d_need_cells.scope (d_need_cells.dvs K) (d_need_cells.kws K) (He.fAd K d_need_cells.at_) fd := T.c.def_ 50 (d := d_need_cells) rfl
theorem Tx.F_part_behind (T : Tx K mg) : ∃ fd, FunD K d_part_behind.name d_part_behind.qual d_part_behind.params d_part_behind.body d_part_behind.scope (d_part_behind.dvs K) (d_part_behind.kws K) (He.fAd K d_part_behind.at_) fd := T.c.def_ 51 (d := d_part_behind) rfl
theorem Tx.F_unpacked (T : Tx K mg) : ∃ fd, FunD K d_unpacked.name d_unpacked.qual d_unpacked.params d_unpacked.body d_unpacked.scope (d_unpacked.dvs K) (d_unpacked.kws K) (He.fAd K d_unpacked.at_) fd := T.c.def_ 52 (d := d_unpacked) rfl
theorem Tx.F_ways_on (T : Tx K mg) : ∃ fd, FunD K d_ways_on.name d_ways_on.qual d_ways_on.params d_ways_on.body d_ways_on.scope (d_ways_on.dvs K) (d_ways_on.kws K) (He.fAd K d_ways_on.at_) fd := T.c.def_ 53 (d := d_ways_on) rfl
theorem Tx.F_pack_prices (T : Tx K mg) : ∃ fd, FunD K d_pack_prices.name d_pack_prices.qual d_pack_prices.params d_pack_prices.body d_pack_prices.scope (d_pack_prices.dvs K) (d_pack_prices.kws K) (He.fAd K d_pack_prices.at_) fd := T.c.def_ 54 (d := d_pack_prices) rfl
theorem Tx.F_packed (T : Tx K mg) : ∃ fd, FunD K d_packed.name d_packed.qual d_packed.params d_packed.body d_packed.scope (d_packed.dvs K) (d_packed.kws K) (He.fAd K d_packed.at_) fd := T.c.def_ 55 (d := d_packed) rfl
theorem Tx.F_picture_numbers (T : Tx K mg) : ∃ fd, FunD K d_picture_numbers.name d_picture_numbers.qual d_picture_numbers.params d_picture_numbers.body d_picture_numbers.scope (d_picture_numbers.dvs K) (d_picture_numbers.kws K) (He.fAd K d_picture_numbers.at_) fd := T.c.def_ 56 (d := d_picture_numbers) rfl
theorem Tx.F_need_pack (T : Tx K mg) : ∃ fd, FunD K d_need_pack.name d_need_pack.qual d_need_pack.params d_need_pack.body d_need_pack.scope (d_need_pack.dvs K) (d_need_pack.kws K) (He.fAd K d_need_pack.at_) fd := T.c.def_ 57 (d := d_need_pack) rfl
theorem Tx.F_picture_by_numbers (T : Tx K mg) : ∃ fd, FunD K d_picture_by_numbers.name d_picture_by_numbers.qual d_picture_by_numbers.params d_picture_by_numbers.body d_picture_by_numbers.scope (d_picture_by_numbers.dvs K) (d_picture_by_numbers.kws K) (He.fAd K d_picture_by_numbers.at_) fd := T.c.def_ 58 (d := d_picture_by_numbers) rfl
theorem Tx.F_palette_numbers (T : Tx K mg) : ∃ fd, FunD K d_palette_numbers.name d_palette_numbers.qual d_palette_numbers.params d_palette_numbers.body d_palette_numbers.scope (d_palette_numbers.dvs K) (d_palette_numbers.kws K) (He.fAd K d_palette_numbers.at_) fd := T.c.def_ 59 (d := d_palette_numbers) rfl
theorem Tx.F_palette_by_numbers (T : Tx K mg) : ∃ fd, FunD K d_palette_by_numbers.name d_palette_by_numbers.qual d_palette_by_numbers.params d_palette_by_numbers.body d_palette_by_numbers.scope (d_palette_by_numbers.dvs K) (d_palette_by_numbers.kws K) (He.fAd K d_palette_by_numbers.at_) fd := T.c.def_ 60 (d := d_palette_by_numbers) rfl
theorem Tx.F_copied_rows (T : Tx K mg) : ∃ fd, FunD K d_copied_rows.name d_copied_rows.qual d_copied_rows.params d_copied_rows.body d_copied_rows.scope (d_copied_rows.dvs K) (d_copied_rows.kws K) (He.fAd K d_copied_rows.at_) fd := T.c.def_ 61 (d := d_copied_rows) rfl
theorem Tx.F_Album_init (T : Tx K mg) : ∃ fd, FunD K d_Album_init.name d_Album_init.qual d_Album_init.params d_Album_init.body d_Album_init.scope (d_Album_init.dvs K) (d_Album_init.kws K) (He.fAd K d_Album_init.at_) fd := T.c.def_ 62 (d := d_Album_init) rfl
theorem Tx.F_Album_hold (T : Tx K mg) : ∃ fd, FunD K d_Album_hold.name d_Album_hold.qual d_Album_hold.params d_Album_hold.body d_Album_hold.scope (d_Album_hold.dvs K) (d_Album_hold.kws K) (He.fAd K d_Album_hold.at_) fd := T.c.def_ 63 (d := d_Album_hold) rfl
theorem Tx.F_Album_tint (T : Tx K mg) : ∃ fd, FunD K d_Album_tint.name d_Album_tint.qual d_Album_tint.params d_Album_tint.body d_Album_tint.scope (d_Album_tint.dvs K) (d_Album_tint.kws K) (He.fAd K d_Album_tint.at_) fd := T.c.def_ 64 (d := d_Album_tint) rfl
theorem Tx.F_Album_go (T : Tx K mg) : ∃ fd, FunD K d_Album_go.name d_Album_go.qual d_Album_go.params d_Album_go.body d_Album_go.scope (d_Album_go.dvs K) (d_Album_go.kws K) (He.fAd K d_Album_go.at_) fd := T.c.def_ 65 (d := d_Album_go) rfl
theorem Tx.F_Album_names (T : Tx K mg) : ∃ fd, FunD K d_Album_names.name d_Album_names.qual d_Album_names.params d_Album_names.body d_Album_names.scope (d_Album_names.dvs K) (d_Album_names.kws K) (He.fAd K d_Album_names.at_) fd := T.c.def_ 66 (d := d_Album_names) rfl
theorem Tx.F_Album_need_name (T : Tx K mg) : ∃ fd, FunD K d_Album_need_name.name d_Album_need_name.qual d_Album_need_name.params d_Album_need_name.body d_Album_need_name.scope (d_Album_need_name.dvs K) (d_Album_need_name.kws K) (He.fAd K d_Album_need_name.at_) fd := T.c.def_ 67 (d := d_Album_need_name) rfl
theorem Tx.F_Album_need_room (T : Tx K mg) : ∃ fd, FunD K d_Album_need_room.name d_Album_need_room.qual d_Album_need_room.params d_Album_need_room.body d_Album_need_room.scope (d_Album_need_room.dvs K) (d_Album_need_room.kws K) (He.fAd K d_Album_need_room.at_) fd := T.c.def_ 68 (d := d_Album_need_room) rfl
theorem Tx.F_Album_picture (T : Tx K mg) : ∃ fd, FunD K d_Album_picture.name d_Album_picture.qual d_Album_picture.params d_Album_picture.body d_Album_picture.scope (d_Album_picture.dvs K) (d_Album_picture.kws K) (He.fAd K d_Album_picture.at_) fd := T.c.def_ 69 (d := d_Album_picture) rfl
theorem Tx.F_Album_palette (T : Tx K mg) : ∃ fd, FunD K d_Album_palette.name d_Album_palette.qual d_Album_palette.params d_Album_palette.body d_Album_palette.scope (d_Album_palette.dvs K) (d_Album_palette.kws K) (He.fAd K d_Album_palette.at_) fd := T.c.def_ 70 (d := d_Album_palette) rfl
theorem Tx.F_Album_put (T : Tx K mg) : ∃ fd, FunD K d_Album_put.name d_Album_put.qual d_Album_put.params d_Album_put.body d_Album_put.scope (d_Album_put.dvs K) (d_Album_put.kws K) (He.fAd K d_Album_put.at_) fd := T.c.def_ 71 (d := d_Album_put) rfl
theorem Tx.F_written_album (T : Tx K mg) : ∃ fd, FunD K d_written_album.name d_written_album.qual d_written_album.params d_written_album.body d_written_album.scope (d_written_album.dvs K) (d_written_album.kws K) (He.fAd K d_written_album.at_) fd := T.c.def_ 72 (d := d_written_album) rfl
theorem Tx.F_opened_album (T : Tx K mg) : ∃ fd, FunD K d_opened_album.name d_opened_album.qual d_opened_album.params d_opened_album.body d_opened_album.scope (d_opened_album.dvs K) (d_opened_album.kws K) (He.fAd K d_opened_album.at_) fd := T.c.def_ 73 (d := d_opened_album) rfl
theorem Tx.F_law_cell_at (T : Tx K mg) : ∃ fd, FunD K d_law_cell_at.name d_law_cell_at.qual d_law_cell_at.params d_law_cell_at.body d_law_cell_at.scope (d_law_cell_at.dvs K) (d_law_cell_at.kws K) (He.fAd K d_law_cell_at.at_) fd := T.c.def_ 74 (d := d_law_cell_at) rfl
theorem Tx.F_law_mixed (T : Tx K mg) : ∃ fd, FunD K d_law_mixed.name d_law_mixed.qual d_law_mixed.params d_law_mixed.body d_law_mixed.scope (d_law_mixed.dvs K) (d_law_mixed.kws K) (He.fAd K d_law_mixed.at_) fd := T.c.def_ 75 (d := d_law_mixed) rfl
theorem Tx.F_law_picture (T : Tx K mg) : ∃ fd, FunD K d_law_picture.name d_law_picture.qual d_law_picture.params d_law_picture.body d_law_picture.scope (d_law_picture.dvs K) (d_law_picture.kws K) (He.fAd K d_law_picture.at_) fd := T.c.def_ 76 (d := d_law_picture) rfl
theorem Tx.F_law_names (T : Tx K mg) : ∃ fd, FunD K d_law_names.name d_law_names.qual d_law_names.params d_law_names.body d_law_names.scope (d_law_names.dvs K) (d_law_names.kws K) (He.fAd K d_law_names.at_) fd := T.c.def_ 77 (d := d_law_names) rfl
theorem Tx.F_law_told (T : Tx K mg) : ∃ fd, FunD K d_law_told.name d_law_told.qual d_law_told.params d_law_told.body d_law_told.scope (d_law_told.dvs K) (d_law_told.kws K) (He.fAd K d_law_told.at_) fd := T.c.def_ 78 (d := d_law_told) rfl
theorem Tx.F_law_due (T : Tx K mg) : ∃ fd, FunD K d_law_due.name d_law_due.qual d_law_due.params d_law_due.body d_law_due.scope (d_law_due.dvs K) (d_law_due.kws K) (He.fAd K d_law_due.at_) fd := T.c.def_ 79 (d := d_law_due) rfl
theorem Tx.F_law_changed (T : Tx K mg) : ∃ fd, FunD K d_law_changed.name d_law_changed.qual d_law_changed.params d_law_changed.body d_law_changed.scope (d_law_changed.dvs K) (d_law_changed.kws K) (He.fAd K d_law_changed.at_) fd := T.c.def_ 80 (d := d_law_changed) rfl
theorem Tx.F_law_shares (T : Tx K mg) : ∃ fd, FunD K d_law_shares.name d_law_shares.qual d_law_shares.params d_law_shares.body d_law_shares.scope (d_law_shares.dvs K) (d_law_shares.kws K) (He.fAd K d_law_shares.at_) fd := T.c.def_ 81 (d := d_law_shares) rfl
theorem Tx.F_law_no_album (T : Tx K mg) : ∃ fd, FunD K d_law_no_album.name d_law_no_album.qual d_law_no_album.params d_law_no_album.body d_law_no_album.scope (d_law_no_album.dvs K) (d_law_no_album.kws K) (He.fAd K d_law_no_album.at_) fd := T.c.def_ 82 (d := d_law_no_album) rfl
theorem Tx.F_law_sixteen (T : Tx K mg) : ∃ fd, FunD K d_law_sixteen.name d_law_sixteen.qual d_law_sixteen.params d_law_sixteen.body d_law_sixteen.scope (d_law_sixteen.dvs K) (d_law_sixteen.kws K) (He.fAd K d_law_sixteen.at_) fd := T.c.def_ 83 (d := d_law_sixteen) rfl
theorem Tx.F_law (T : Tx K mg) : ∃ fd, FunD K d_law.name d_law.qual d_law.params d_law.body d_law.scope (d_law.dvs K) (d_law.kws K) (He.fAd K d_law.at_) fd := T.c.def_ 84 (d := d_law) rfl
end
end K44
set_option Elab.async false
set_option linter.all false
set_option maxRecDepth 100000
set_option maxHeartbeats 0

namespace K44
open PySem PySem.Spec PyProof.Rows L2
abbrev R : PySem.W.OpenRow := PySem.W.OpenLaw.row PySem.Challenge.rw_cellfolio_k44_whole_one_sign_of_an_album
def loose : List Str := (["_wall", "FolioError", "ValueError", "BadPicture", "BadCell", "BadSize", "BadText", "BadColour", "BadPalette", "TooMany", "BadPack", "BadRule", "BadPart", "BadHead", "BadCheck", "NoPart", "Twice", "BadName", "NoPicture", "MOST_SIDE", "MOST_CELL", "is_among", "is_cell", "are_cells", "is_picture", "need_picture", "need_cell", "size_of", "MOST_SHARE", "MOST_NUMBER"] : List Str) ++ (["is_colour", "need_colour", "colour_number", "colour_by_number", "SIGNS", "sign_of_number", "number_of_sign", "signs_text", "numbers_of_text", "two_numbers", "one_number", "CHECK", "check_of", "SMALL", "MOST_NAME", "MOST_NUMBERS", "is_small", "is_six_bits", "is_part", "need_part", "part_numbers", "part_at", "HEAD", "MOST_SIGNS", "LEAST_SIGNS", "Folio", "read_folio", "MOST_COLOURS", "Palette", "all_cells"] : List Str) ++ (["rows_by", "Step", "Came", "Hued", "MOST_RULE", "is_fold", "need_fold", "stand_for", "row_above", "folded_row", "unfolded_row", "need_folds", "folded_picture", "unfolded_picture", "many_runs", "best_rules", "MOST_CELLS", "need_cells", "MOST_PLAIN", "MOST_LIKE", "FIRST_LIKE", "MOST_HEAD", "part_behind", "unpacked", "ways_on", "pack_prices", "packed", "picture_numbers", "need_pack", "picture_by_numbers"] : List Str) ++ (["palette_numbers", "palette_by_numbers", "MOST_PICTURES", "MAIN", "copied_rows", "Album", "written_album", "opened_album", "_law_cell_at", "_law_mixed", "_law_picture", "_law_names", "_law_told", "_law_due", "_law_changed", "_law_shares", "_law_no_album", "_law_sixteen"] : List Str)
/-- the addresses that are read (the run lays each where it lies, whatever the world) -/
def asX : List Addr := [3, 2, 31, 30, 44, 43, 56, 55, 68, 67, 80, 79, 92, 91, 104, 103, 116, 115, 128, 127, 140, 139, 152, 151, 164, 163, 183, 182, 195, 194, 207, 206, 219, 218, 231, 230, 445, 444, 515, 514, 555, 554, 590, 589, 910, 909, 180, 240, 247, 252, 257, 264, 278, 283, 290, 297, 304, 311, 318, 323, 328, 335, 342, 349, 354, 361, 366, 373, 378, 383, 397, 404, 411, 425, 430, 435, 442, 456, 470, 477, 484, 526, 531, 573, 580, 632, 639, 646, 653, 658, 663, 670, 675, 682, 687, 692, 699, 706, 713, 720, 725, 730, 737, 744, 751, 756, 763, 768, 780, 788, 809, 816, 823, 830, 837, 844, 851, 858, 921, 928, 935, 942, 947, 952, 959, 964, 971, 978, 985, 992, 997, 179, 239, 246, 251, 256, 263, 277, 282, 289, 296, 303, 310, 317, 322, 327, 334, 341, 348, 353, 360, 365, 372, 377, 382, 396, 403, 410, 424, 429, 434, 441, 455, 469, 476, 483, 525, 530, 572, 579, 631, 638, 645, 652, 657, 662, 669, 674, 681, 686, 691, 698, 705, 712, 719, 724, 729, 736, 743, 750, 755, 762, 767, 779, 787, 781, 808, 815, 822, 829, 836, 843, 850, 857, 920, 927, 934, 941, 946, 951, 958, 963, 970, 977, 984, 991, 996]
def gK (g : Addr → Option Obj) : PySem.W.Frag := He.frG g asX
abbrev hk : PySem.W.Hook where
  α := He.AlD × Bool
  obs := fun s => (He.obsD fa fn (gK s.heap.get?), ex (gK s.heap.get?))
  val := fun _ => (He.valD fn, true)
  says := fun _ h => ∃ K : PySem.W.Frag, K.In h ∧ He.SaysD fa fn K ∧ ex K = true
  of := fun _ _ e => ⟨_, He.frG_in, congrArg Prod.fst e, congrArg Prod.snd e⟩
  keeps := fun _ _ _ ⟨K, a, b⟩ k => ⟨K, PySem.W.Frag.In.keeps a k, b⟩
def ob (s : PySem.W.SharedT) : He.AlD × Bool := (He.obsD fa fn (gK (HandSHeadRun.getT s)), ex (gK (HandSHeadRun.getT s)))
theorem ob_eq (s : PySem.W.SharedT) : ob s = hk.obs s.abs := by
  have e : HandSHeadRun.getT s = s.abs.heap.get? := funext (HandSHeadRun.getT_eq s)
  unfold ob
  rw [e]
theorem run (w : World) : HandSHeadRun.RunEq R (PySem.W.view R.prog [123]) hk ob 9000 loose w := by
  intro os
  kernel_rfl
end K44
set_option Elab.async false
set_option linter.all false
set_option maxRecDepth 100000
set_option maxHeartbeats 0
namespace K44
open PySem PySem.Spec PyProof.Rows L2
def spLaw (K : PySem.W.Frag) : Sp := fun vs H Q _ => ∃ (a : Addr) (ns : List Int), vs = [.ref a] ∧ SqL K H a (ns.map V.int) ∧ ns.length ≤ 63 ∧ ∀ H', Q (.bl true) H'
/-- what the walk has to say of the law's def -/
def Walked : Prop := ∀ (P : Program) (w : World) (K : PySem.W.Frag) (h : Heap) (mg : Str → Option Value) (f : Addr), K.In h → h.Ns mainGlobals mg → mg ("law" : Str) = some (.ref f) → He.SaysD fa fn K → ex K = true →
    ∃ fd : FuncData, (∀ (s : Shared) (v : Value), BindsTo s fd ⟨[v], []⟩ [("_law_script", v)]) ∧ ∀ base : Heap, K.In base → base.Ns mainGlobals mg → FnOk P w K mg base CX0 40 f fd ["_law_script"] (spLaw K)
end K44
section
open PySem PySem.W PySem.Calls PyProof.Rows
theorem K44.close (walked : K44.Walked) : PySem.Challenge.rw_cellfolio_k44_whole_one_sign_of_an_album.Holds := by
  w_on; o_law
  refine HandSHeadRun.head_any (r := K44.R) (q := view K44.R.prog [123]) (H := K44.hk) (ob := K44.ob) (M := 9000) (loose := K44.loose) (d := HandSHeadRun.topDef K44.R.prog 123) (kwd := []) K44.ob_eq
    (by kernel_rfl) (fun s => by kernel_rfl) K44.run (by kernel_rfl) (by kernel_rfl) (by kernel_rfl) (by rfl) (by first | assumption | decide +kernel) (by decide +kernel) ⟨rfl, rfl, rfl, rfl, rfl, by decide +kernel⟩ ?hw ?hc
  case hw => w_witness2
  case hc =>
    refine L2.walk_ofE (l := PySem.Challenge.rw_cellfolio_k44_whole_one_sign_of_an_album) (n := 63) (k := 40) (x := "_law_script") (CX := L2.CX0) rfl (by decide) (by kernel_rfl) ⟨rfl, by decide, by decide⟩ ?F (fun _ _ _ _ z => z)
    intro w mg fa h Y G hmg0
    obtain ⟨K, KX, c, d⟩ := Y
    have hmg : mg ("law" : PySem.Str) = some (.ref fa) := by
      have e : (HandSHeadRun.topDef K44.R.prog 123).name = ("law" : PySem.Str) := by kernel_rfl
      rw [← e]
      exact hmg0
    obtain ⟨fd, hb, hF⟩ := walked (PySem.Challenge.rw_cellfolio_k44_whole_one_sign_of_an_album).prog w K h mg fa KX G hmg c d
    exact ⟨K, fd, K44.spLaw K, KX, hb, fun H a ns hl _ hS => ⟨a, ns, rfl, hS, hl, fun _ => rfl⟩, hF⟩
end
set_option Elab.async false
set_option linter.all false
set_option maxRecDepth 100000
set_option maxHeartbeats 4000000
/-! A comprehension whose element is a call that may raise. -/
namespace K44
open PySem PySem.Spec PyProof.Rows L2
section
variable {X : Cx}
/-- the wish of a comprehension's block: noted, the block let go, flown on -/
abbrev lcWish (X : Cx) (cenv : Env) : Value → Shared → Prop :=
  notedBy (model X.prog X.w) X.A cenv (fun e s' => CompFails (model X.prog X.w) X.A X.xe cenv e s')
/-- what flies out of an element's call meets that wish -/
theorem lc_flies {pins : List (Addr × Obj)} {σ σ1 : L2.St} {H3 H1 : Hp} {s3 s1 s2 : Shared} {scope : Scope} {cenv : Env} {fp : List Addr} {xe : Value → Shared → Prop} {pn1 : List (Addr × Obj)} {Ek : XK} {e : Value}
    (hs : X.stack = X.env :: X.outer) (hf : X.env.frame = some X.env.locals) (tk : Takes X (fun cls d _ H => Ek cls d H)) (I3 : Inv X pins σ H3 s3) (hce : cenv.frame = X.env.frame) (hC : s3.heap.objs.size ≤ cenv.locals)
    (hfp : ∀ b ∈ fp, FpOk X pins H3 b) (I1 : Inv ((X.blk s3 H3 scope cenv fp).wish xe) pn1 σ1 H1 s1) (c : L2.CX X.prog X.w X.stack H1 s1 Ek e s2) : lcWish X cenv e s2 := by
  obtain ⟨a, B, H2, cls, d, rfl, fl, hokB, ub, na, os, ag, hE⟩ := c
  have hfr : X.A.frames = some (X.env :: X.outer) := by rw [I3.ok.frames, hs]
  have fl' : HandSPX.FlyingZ B (X.env :: X.outer) a (Zc cls d) s2.heap := by rw [← hs]; exact fl
  obtain ⟨mC, hnC, _⟩ := I1.loc
  have hnC1 : s1.heap.Ns cenv.locals mC := hnC
  have hHC1 : H1 cenv.locals = none := I1.free
  have nCf : cenv.locals ∉ frs X.stack := fun hm => by
    have z := (I3.stack.mem hm).2
    obtain ⟨o, ho, _⟩ := z
    exact absurd (Nat.lt_of_lt_of_le (Heap.lt_size ho) hC) (Nat.lt_irrefl _)
  obtain ⟨oC, esC, epC, hoC, hdC, rC⟩ := id hnC1
  have hBC : B.get? cenv.locals = some oC := ub.keep _ _ hoC hHC1 nCf
  have hHC2 : H2 cenv.locals = none := ub.free _ _ hoC hHC1
  have hC2 : s2.heap.get? cenv.locals = some oC := fl.1 _ _ hBC
  show wpAny _ X.A (noteFrame (.ref a) cenv) _ _ s2
  rw [noteFrame_env _ hce]
  refine HandSPX.looks_onZ Zc.steady hfr hf fl' fun h3 hh up => ?_
  have hn3 : h3.Ns cenv.locals mC := up.ns ⟨oC, esC, epC, hC2, hdC, rC⟩
  refine ⟨mC, hn3, fun h4 m4 hn4 sb4 => ?_⟩
  -- the ground without the block
  obtain ⟨B', b1, b2⟩ := restrict B fun b => decide (b ≠ cenv.locals)
  have B'B : ∀ b o, B'.get? b = some o → B.get? b = some o ∧ b ≠ cenv.locals := fun b o q => by
    by_cases hb : b = cenv.locals
    · rw [b2 b (decide_eq_false fun z => z hb)] at q; cases q
    · rw [b1 b (decide_eq_true hb)] at q; exact ⟨q, hb⟩
  have BB' : ∀ b o, b ≠ cenv.locals → B.get? b = some o → B'.get? b = some o := fun b o hb q => by rw [b1 b (decide_eq_true hb)]; exact q
  have B'none : ∀ b, B.get? b = none → B'.get? b = none := fun b q => by
    cases z : B'.get? b with
    | none => rfl
    | some o => rw [(B'B b o z).1] at q; cases q
  obtain ⟨k1, k2, k3, oe, vs, T, oT, ts, he, hz, hd, h1, hnT, hTe, hT, hdT, hT3⟩ := id hh
  have nfld : ∀ {b : Addr} {o : Obj} {z : Array Value}, h3.get? b = some o → o.data = .fields z → b ≠ cenv.locals := fun {b o z} q y e => by
    obtain ⟨o', _, _, ho', hd', _⟩ := hn3
    rw [e, ho'] at q
    cases q
    rw [hd'] at y
    cases y
  have at4 : ∀ {b : Addr} {o : Obj}, b ≠ cenv.locals → h3.get? b = some o → h4.get? b = some o := fun {b o} hb q => (sb4.2 b hb).trans q
  have nfr : ∀ L, L ∈ frs (X.env :: X.outer) → L ≠ cenv.locals := fun L hL z => nCf (by rw [hs]; rw [← z]; exact hL)
  have ff4 : h4.FunFrames B' (X.env :: X.outer) := by
    have g : ∀ l : List Env, (∀ L ∈ frs l, L ≠ cenv.locals) → h3.FunFrames B l → h4.FunFrames B' l := by
      intro l
      induction l with
      | nil => intro _ _; trivial
      | cons v r ih =>
        intro hl hq
        obtain ⟨q1, ⟨L, o, q2, q3, q4, q5⟩, q6⟩ := hq
        have hL : L ∈ frs (v :: r) := List.mem_filterMap.mpr ⟨v, List.mem_cons_self, q2⟩
        exact ⟨q1, ⟨L, o, q2, B'none _ q3, at4 (hl L hL) q4, q5⟩, ih (fun M hM => hl M (by
          obtain ⟨u, hu, q⟩ := List.mem_filterMap.mp hM
          exact List.mem_filterMap.mpr ⟨u, List.mem_cons_of_mem _ hu, q⟩)) q6⟩
    exact g _ nfr k3
  have held4 : HandSPX.HeldZ B' (X.env :: X.outer) a (Zc cls d) X.env.locals h4 :=
    ⟨fun b o q => at4 (B'B b o q).2 (k1 b o (B'B b o q).1), B'none _ k2, ff4, oe, vs, T, oT, ts, at4 (nfld he hd) he, hz, hd, h1, B'none _ hnT, hTe, at4 (nfld hT hdT) hT, hdT, hT3⟩
  unfold PySem.passOn
  refine wpAny_bind (wpAny_field (at4 (nfld he hd) he) hd h1 ?_)
  rw [if_neg (show ¬ ((Value.ref T == Value.none) = true) from by simp)]
  rw [hce, hf]
  refine wpAny_bind (HandSPX.setFlight_onZ held4 fun h5 held5 up5 => wpAny_throw (tk _ _ ?_))
  -- the state without the exception
  obtain ⟨G, g1, g2⟩ := restrict s2.heap fun b => (B'.get? b).isSome || decide (b ∈ frs X.stack)
  have st : B.StaysIn s2.heap := fl.1
  have gB : ∀ b o, B'.get? b = some o → G.get? b = some o := fun b o q => by
    rw [g1 b (by simp [q])]
    exact st b o (B'B b o q).1
  have gF : ∀ b, b ∈ frs X.stack → G.get? b = s2.heap.get? b := fun b hb => g1 b (by simp [hb])
  have og : ∀ b o, G.get? b = some o → s2.heap.get? b = some o ∧ ((B'.get? b).isSome = true ∨ b ∈ frs X.stack) := fun b o q => by
    cases z : ((B'.get? b).isSome || decide (b ∈ frs X.stack)) with
    | false => rw [g2 b z] at q; cases q
    | true =>
      rw [g1 b z] at q
      exact ⟨q, by simpa [Bool.or_eq_true] using z⟩
  have hokG : HOk X.prog X.w H2 G := fun b o q => (hokB b o q).stay (fun c u hc z => gB c u (BB' c u (by
      rintro rfl
      rcases hc with rfl | hc
      · rw [hHC2] at q; cases q
      · rw [hHC2] at hc; cases hc) z)) (fun _ z => z) fun _ _ z => z
  have old : ∀ b o, s3.heap.get? b = some o → b ≠ cenv.locals := fun b o q => Nat.ne_of_lt (Nat.lt_of_lt_of_le (Heap.lt_size q) hC)
  have U : Un (frs X.stack) fp H3 H2 s3.heap G := {
    keep := fun b o q n hb hx => gB b o (BB' b o (old b o q) (ub.keep b o (I1.base.keep b o q n hb hx) (I1.base.free b o q n hx) hb))
    slot := fun b o q n hb hx => by
      obtain ⟨sl, e1⟩ := I1.base.slot b o q n hb hx
      obtain ⟨sl', e2⟩ := ub.slot b _ e1 hb
      exact ⟨sl', by rw [gF b hb]; exact e2⟩
    free := fun b o q n hx => by
      obtain ⟨o', e1⟩ := I1.base.there b o q hx
      exact ub.free b o' e1 (I1.base.free b o q n hx)
    there := fun b o q hx => by
      obtain ⟨o', e1⟩ := I1.base.there b o q hx
      by_cases hb : b ∈ frs X.stack
      · obtain ⟨sl, e2⟩ := ub.slot b _ e1 hb
        exact ⟨_, by rw [gF b hb]; exact e2⟩
      · obtain ⟨o2, e2⟩ := ub.there b o' e1 hb
        exact ⟨o2, gB b o2 (BB' b o2 (old b o q) e2)⟩
    tups := fun b xs q => ub.tups b xs (I1.base.tups b xs q)
    frzs := fun b o xs q => ub.frzs b o xs (I1.base.frzs b o xs q)
    tbls := fun b ps q => by
      obtain ⟨m1, e1⟩ := I1.base.tbls b ps q
      obtain ⟨m2, e2⟩ := ub.tbls b _ e1
      exact ⟨m1 ++ m2, by rw [e2, Array.append_assoc]⟩ }
  have J := I3.call (h' := G) (g' := s2.gens) (t' := s2.toks) (d' := s2.drawn) U hokG ag fun b hb => ⟨(hfp b hb).2.2.2.1, (hfp b hb).2.1, (hfp b hb).2.2.2.2.1, (hfp b hb).2.2.2.2.2⟩
  have nb : ∀ b o, G.get? b = some o → b ∉ frs X.stack → B'.get? b = some o := fun b o q hb => by
    obtain ⟨z, y⟩ := og b o q
    rcases y with y | y
    · obtain ⟨o', y'⟩ := Option.isSome_iff_exists.mp y
      have x := st b o' (B'B b o' y').1
      rw [z] at x; cases x
      exact y'
    · exact absurd y hb
  have upG : G.UpToSlots h5 := fun b o q hnf => by
    obtain ⟨z, y⟩ := og b o q
    have hb : b ≠ cenv.locals := fun w => by
      rcases y with y | y
      · obtain ⟨o', y'⟩ := Option.isSome_iff_exists.mp y
        exact (B'B b o' y').2 w
      · exact nCf (by rw [← w]; exact y)
    obtain ⟨sl, e3⟩ := up b o z hnf
    obtain ⟨sl', e5⟩ := up5 b _ (at4 hb e3) hnf
    exact ⟨sl', e5⟩
  exact ⟨a, B', _, pins, σ, H2, cls, d, rfl, J, nb, upG, .inr (.inr (by rw [hs]; exact held5)), na, by show s2.os = s3.os; rw [os]; exact I1.os, ag, hE⟩
/-- [elt for target in iter if ..], elt a call that may raise as Ek tells -/
theorem pe_lcX {elt tg iter : Expr} {ifs : List Expr} {scope : Scope} {own : List (Str × Nat)} {pos : Pos} {wi : TI} {g : TG} {tt : TT} {te : TE} {Ek : XK} (hs : X.stack = X.env :: X.outer) (hf : X.env.frame = some X.env.locals)
    (hc : X.calm = true) (hN : X.N.Nodup) (tk : Takes X (fun cls d _ H => Ek cls d H)) (hi : PI X tg iter wi) (ok : BlkOk X.N X.env.scope scope own)
    (hg : ∀ (s : Shared) (H : Hp) (C : Addr) (cl : List (Str × Addr)) (fp : List Addr) (xe : Value → Shared → Prop), PG ((X.blk s H scope (compEnvC scope cl C X.env) fp).wish xe) tg g)
    (ht : ∀ (s : Shared) (H : Hp) (C : Addr) (cl : List (Str × Addr)) (fp : List Addr) (xe : Value → Shared → Prop), PTs ((X.blk s H scope (compEnvC scope cl C X.env) fp).wish xe) ifs tt)
    (he : ∀ (s : Shared) (H : Hp) (C : Addr) (cl : List (Str × Addr)) (fp : List Addr) (xe : Value → Shared → Prop), Passes (L2.CX X.prog X.w) ((X.blk s H scope (compEnvC scope cl C X.env) fp).wish xe) Ek →
      PE ((X.blk s H scope (compEnvC scope cl C X.env) fp).wish xe) elt te) (hst : ∀ x, foldedSetIterable iter X.env x = pure x := by intro _; rfl) :
    PE X (.ListComp elt [⟨tg, iter, ifs, 0⟩] scope pos) (tLc wi g tt te (own.map (·.2))) := by
  refine ⟨fun pins s σ H Q I h => ?_⟩
  rw [eval_ListComp]
  have hfree : ∀ y ∈ scope.names, y.2 = .free → ∃ c, X.env.cells.lookup y.1 = some c := fun y hy e => (ok.free y hy e).elim (fun k => I.ok.has _ (.inl k)) fun k => I.ok.has _ (.inr k)
  refine comprehension_at (use := none) rfl hst (closure_ok hfree) ok.kind (fun y hy e => by rw [ok.uniq y hy, e]) (thn (hi.run pins s σ H _ I h) fun xv s1 hx => thn hx fun itv s2 h2 => ?_)
  obtain ⟨it, fp, tn, J, H2, e, I2, T, st2, f2, q⟩ := h2
  subst e
  refine wpAny_newObj_type (newEnv_comp ?_) (by show 0 ≤ sizeLine; decide)
  generalize hD : s2.heap.objs.size = D
  have hDn : H2 D = none := I2.hok.fresh (Nat.le_of_eq hD)
  obtain ⟨W, ⟨m0, w0⟩, turn⟩ := q D hDn
  generalize hs3 : ({ s2 with heap := s2.heap.push { cls := .type "list", data := .seq ([] : List Value).toArray } } : Shared) = s3
  have I3 : Inv X pins σ (upd H2 D (.lst [])) s3 := by
    rw [← hs3]
    exact I2.laid (t' := s2.toks) (fun b o e => Heap.get?_push_of_some _ e) (Nat.le_of_eq hD) ⟨Nat.zero_le _, [], 0, .nil, by rw [← hD]; exact Heap.get?_push_size _ rfl⟩
  have h3 : s3.heap = s2.heap.push { cls := .type "list", data := .seq ([] : List Value).toArray } := by rw [← hs3]
  have sz : ∀ b ∈ fp, b < s2.heap.objs.size := fun b hb => let ⟨o, e, _⟩ := T.obj _ _ st2 b hb; Heap.lt_size e
  have f3 : ∀ b ∈ fp, FpOk X pins (upd H2 D (.lst [])) b ∧ b < s3.heap.objs.size := fun b hb => by
    have hlt := sz b hb
    exact ⟨⟨by rw [upd_ne (by rw [← hD]; exact Nat.ne_of_lt hlt)]; exact (f2 b hb).1, (f2 b hb).2⟩, by rw [h3, Heap.size_push]; exact Nat.lt_succ_of_lt hlt⟩
  have st3 : tn 0 s3.heap := T.keep _ _ _ st2 fun b _ o e => by rw [h3]; exact Heap.get?_push_of_some _ e
  have I4' := block_start I3 ok hN f3
  have pg := hg s3 (upd H2 D (.lst [])) s3.heap.objs.size (cellsFrom (s3.heap.objs.size + 1) scope.names (cloFrom X.env.cells scope.names [])) fp
  have pt := ht s3 (upd H2 D (.lst [])) s3.heap.objs.size (cellsFrom (s3.heap.objs.size + 1) scope.names (cloFrom X.env.cells scope.names [])) fp
  have pe := he s3 (upd H2 D (.lst [])) s3.heap.objs.size (cellsFrom (s3.heap.objs.size + 1) scope.names (cloFrom X.env.cells scope.names [])) fp
  show codeAny _ _ (.compStart (.ListComp elt [⟨tg, iter, ifs, 0⟩] scope pos) 0 (.ref it) (.ref D) (compEnvC scope (cellsFrom (s3.heap.objs.size + 1) scope.names (cloFrom X.env.cells scope.names [])) s3.heap.objs.size X.env))
    (compEnds (model X.prog X.w) X.A X.xe none (EP X pins σ Q) (.ref D) (compEnvC scope (cellsFrom (s3.heap.objs.size + 1) scope.names (cloFrom X.env.cells scope.names [])) s3.heap.objs.size X.env)) { s3 with heap := pushCells (s3.heap.push { cls := .type "dict", data := .dict #[] }) scope.names }
  have nfp : ∀ b ∈ fp, (upd H2 D (.lst [])) b = none := fun b hb => (f3 b hb).1.1
  generalize hce : compEnvC scope (cellsFrom (s3.heap.objs.size + 1) scope.names (cloFrom X.env.cells scope.names [])) s3.heap.objs.size X.env = ce at I4' pg pt pe ⊢
  have cL : ce.locals = s3.heap.objs.size := by subst hce; rfl
  have cF : ce.frame = X.env.frame := by subst hce; rfl
  generalize hH3 : upd H2 D (.lst []) = H3 at I3 I4' pg pt pe w0 nfp f3
  have I4 := I4'.wish (lcWish X ce)
  have pg := pg (lcWish X ce)
  have pt := pt (lcWish X ce)
  have pe := pe (lcWish X ce) fun pn' σ' H' s' e' s'' I' c' => lc_flies hs hf tk I3 cF (Nat.le_of_eq cL.symm) (fun b hb => (f3 b hb).1) I' c'
  generalize hs4 : ({ s3 with heap := pushCells (s3.heap.push { cls := .type "dict", data := .dict #[] }) scope.names } : Shared) = s4 at I4 ⊢
  have st4 : tn 0 s4.heap := T.keep _ _ _ st3 fun b _ o e => by rw [← hs4]; exact pushCells_keeps _ _ _ _ (Heap.get?_push_of_some _ e)
  have stat : ∀ {σ' : L2.St} {H' : Hp} {s' : Shared}, Inv ((X.blk s3 H3 scope ce fp).wish (lcWish X ce)) [] σ' H' s' → (∀ b ∈ fp, H' b = none) → ∀ b ∈ fp, FpOk ((X.blk s3 H3 scope ce fp).wish (lcWish X ce)) [] H' b := fun {σ' H' s'} I' hn b hb =>
    ⟨hn b hb, (I'.ok.exf b hb).1, I'.ok.exfs b hb, .inl hb, fun x c e => (I'.ok.exf b hb).2 x c e, fun p hp => absurd (show p ∈ ([] : List (Addr × Obj)) ++ [] from hp) (by simp)⟩
  have loop : codeAny (model X.prog X.w) X.A (.compLoop (.ListComp elt [⟨tg, iter, ifs, 0⟩] scope pos) 0 (.ref it) (.ref D) ce) (compEnds (model X.prog X.w) X.A X.xe none (EP X pins σ Q) (.ref D) ce) s4 := by
    refine compLoop_any (fun n s' => ∃ i H', Inv ((X.blk s3 H3 scope ce fp).wish (lcWish X ce)) [] (wipe σ (own.map (·.2))) H' s' ∧ tn i s'.heap ∧ (∀ b ∈ fp, H' b = none) ∧ W i n H') ?_ m0 ⟨0, H3, I4, st4, nfp, w0⟩
    rintro n s5 ⟨i, H5, I5, st5, n5, w5⟩
    rcases turn i n H5 w5 with ⟨stop, qq⟩ | ⟨go, Nx, hNx, step⟩
    · refine thn (T.done ((X.blk s3 H3 scope ce fp).wish (lcWish X ce)) rfl rfl rfl hc i [] s5 _ H5 _ I5 (stat I5 n5) st5 stop) fun r s6 ⟨hr, I6⟩ => ?_
      subst hr
      have I7 : Inv X pins σ H5 s6 := I3.call' (ch := fp) I6.os I6.base I6.hok I6.bare fun b hb => ⟨(f3 b hb).1.2.2.2.1, (f3 b hb).1.2.1, (f3 b hb).1.2.2.2.2.1, (f3 b hb).1.2.2.2.2.2⟩
      have nC : H5 ce.locals = none := I6.free
      obtain ⟨m, hn, _⟩ := I6.loc
      obtain ⟨f0, f1, f2', f3', f4', f5'⟩ := I3.fpOk (H' := H5) (b := ce.locals) (by rw [cL]; exact Nat.le_refl _) nC
      exact ⟨m, hn, fun h'' sb => ⟨.ref D, H5, I7.turned (t' := s6.toks) (fun b o hb e => (sb.2 b hb).trans e) f0 f1 f3' f4' f5', rfl, qq⟩⟩
    · refine thn (T.item ((X.blk s3 H3 scope ce fp).wish (lcWish X ce)) rfl rfl rfl hc i [] s5 _ H5 _ I5 (stat I5 n5) st5 go) fun r s6 ⟨u, hr, h6⟩ => ?_
      subst hr
      refine thn h6 fun _ s7 ⟨x, H7, I7, r7, y7, st7, n7⟩ => ?_
      have I7' := I7.pinned (stat I7 n7) (T.obj _ _ st7)
      refine thn (pg.run _ s7 _ H7 x u _ I7' r7 (step x H7 y7)) fun _ s8 ⟨σ8, H8, I8, hw8, q8⟩ => ?_
      refine thn (pt.run _ s8 σ8 H8 _ I8 q8) fun b s9 ⟨H9, I9, q9⟩ => ?_
      have fin : ∀ {s' : Shared} {H' : Hp}, Inv ((X.blk s3 H3 scope ce fp).wish (lcWish X ce)) ([] ++ pinsAt fp s7.heap) σ8 H' s' → Nx H' → ∃ m, m < n ∧ ∃ i H', Inv ((X.blk s3 H3 scope ce fp).wish (lcWish X ce)) [] (wipe σ (own.map (·.2))) H' s' ∧ tn i s'.heap ∧ (∀ b ∈ fp, H' b = none) ∧ W i m H' := fun {s' H'} I' nx => by
        obtain ⟨m', hm, w'⟩ := hNx H' nx
        have pin' : ∀ b ∈ fp, ∀ o, s7.heap.get? b = some o → s'.heap.get? b = some o ∧ H' b = none := fun b hb o e => let z := I'.pin (b, o) (List.mem_append_right _ (List.mem_append_right _ (mem_pinsAt hb e))); ⟨z.1, z.2.1⟩
        refine ⟨m', hm, i + 1, H', (I'.unpinned (pins := [])).weak (by rw [← hw8, wipe_length]) (fun j v e => (wipe_some (by rw [hw8]; exact e : (wipe σ8 (own.map (·.2)))[j]? = some (some v))).1), T.keep _ _ _ st7 fun b hb o e => (pin' b hb o e).1, fun b hb => ?_, w'⟩
        obtain ⟨o, e, _⟩ := T.obj _ _ st7 b hb
        exact (pin' b hb o e).2
      cases b with
      | false =>
        simp only [Bool.false_eq_true, if_false] at q9 ⊢
        exact fin I9 q9
      | true =>
        simp only [if_true] at q9 ⊢
        refine thn (pe.run _ s9 σ8 H9 _ I9 q9) fun z s10 ⟨yv, H10, I10, r10, acc, hD10, hz10, nx⟩ => ?_
        exact app_ok (X := (X.blk s3 H3 scope ce fp).wish (lcWish X ce)) I10 hD10 hz10 r10 fun s11 I11 => fin I11 nx
  exact codeAny_compStart_list loop (T.self X.A 0 _ _ _ st4 loop)
end
end K44
set_option Elab.async false
set_option linter.all false
set_option maxRecDepth 100000
set_option maxHeartbeats 4000000
/-! zip over any number of lists (three and four are called here). -/
namespace K44
open PySem PySem.Spec PyProof.Rows L2
/-! ### a loop over places -/
section
variable {M : Model} {A : Around} {E : Value → Shared → Prop} {β : Type}
theorem forIn_steps {f : Value × Nat → β → Sem (ForInStep β)} {b : β} {P : Nat → Shared → Prop} : ∀ (l : List Value) (k : Nat) (s : Shared), P k s →
    (∀ j it s, l[j]? = some it → P (k + j) s → wpAny M A (f (it, k + j) b) (fun r s' => r = .yield b ∧ P (k + j + 1) s') E s) → wpAny M A (forIn (l.zipIdx k) b f) (fun r s' => r = b ∧ P (k + l.length) s') E s
  | [], k, s, h, _ => by
    rw [List.zipIdx_nil, List.forIn_nil]
    exact wpAny_pure ⟨rfl, h⟩
  | it :: l, k, s, h, st => by
    rw [List.zipIdx_cons, List.forIn_cons]
    refine wpAny_bind (wpAny_mono (st 0 it s rfl h) (fun r s' q => ?_) fun _ _ q => q)
    obtain ⟨rfl, q⟩ := q
    have z := forIn_steps (f := f) (b := b) (P := P) l (k + 1) s' q fun j it' s' hj hp => by
      have e : k + 1 + j = k + (j + 1) := by omega
      rw [e] at hp ⊢
      exact st (j + 1) it' s' hj hp
    have e2 : k + 1 + l.length = k + (it :: l).length := by simp; omega
    rw [e2] at z
    exact z
theorem forIn_falls {f : Value × Nat → β → Sem (ForInStep β)} {b : β} {P : Nat → Shared → Prop} {Q : β → Shared → Prop} : ∀ (l : List Value) (k j0 : Nat) (s : Shared), P k s → j0 < l.length →
    (∀ j it s, j < j0 → l[j]? = some it → P (k + j) s → wpAny M A (f (it, k + j) b) (fun r s' => r = .yield b ∧ P (k + j + 1) s') E s) →
    (∀ it s, l[j0]? = some it → P (k + j0) s → wpAny M A (f (it, k + j0) b) (fun _ _ => False) E s) → wpAny M A (forIn (l.zipIdx k) b f) Q E s
  | [], k, j0, s, _, hl, _, _ => absurd hl (Nat.not_lt_zero _)
  | it :: l, k, 0, s, h, _, _, fall => by
    rw [List.zipIdx_cons, List.forIn_cons]
    exact wpAny_bind (wpAny_mono (fall it s rfl h) (fun _ _ q => q.elim) fun _ _ q => q)
  | it :: l, k, j0 + 1, s, h, hl, st, fall => by
    rw [List.zipIdx_cons, List.forIn_cons]
    refine wpAny_bind (wpAny_mono (st 0 it s (Nat.succ_pos _) rfl h) (fun r s' q => ?_) fun _ _ q => q)
    obtain ⟨rfl, q⟩ := q
    refine forIn_falls (f := f) (b := b) (P := P) l (k + 1) j0 s' q (Nat.lt_of_succ_lt_succ hl) (fun j it' s' hj hj2 hp => ?_) fun it' s' hj hp => ?_
    · have e : k + 1 + j = k + (j + 1) := by omega
      rw [e] at hp ⊢
      exact st (j + 1) it' s' (Nat.succ_lt_succ hj) hj2 hp
    · have e : k + 1 + j0 = k + (j0 + 1) := by omega
      rw [e] at hp ⊢
      exact fall it' s' hj hp
end
/-! ### the zip object -/
structure ZnSep (z TI TO : Addr) (rs : List (Addr × Addr)) : Prop where
  Iz : TI ≠ z
  Oz : TO ≠ z
  IO : TI ≠ TO
  it : ∀ r : Addr × Addr, r ∈ rs → r.1 ≠ z ∧ r.1 ≠ TI ∧ r.1 ≠ TO
  nd : (rs.map (·.1)).Nodup
structure ZnSt (h : Heap) (z TI TO : Addr) (f0 : Value) (rs : List (Addr × Addr)) (pos : Nat → Nat) : Prop where
  hz : IsZip h z TI TO f0
  hI : h.get? TI = some { cls := .type "tuple", data := .seq (rs.map fun r => Value.ref r.1).toArray }
  hO : ∃ outs : Array Value, h.get? TO = some { cls := .type "tuple", data := .seq outs } ∧ outs.size = rs.length
  it : ∀ (j : Nat) (r : Addr × Addr), rs[j]? = some r → h.IsListIter r.1 r.2 (pos j)
/-- what is read of the lists -/
def ZnLs (h : Heap) (rs : List (Addr × Addr)) (xss : List (Array Value)) : Prop := xss.length = rs.length ∧ ∀ (j : Nat) (r : Addr × Addr) (xs : Array Value), rs[j]? = some r → xss[j]? = some xs → h.IsList r.2 xs
/-- kept but for the zip's own -/
def ZnK (z TO : Addr) (rs : List (Addr × Addr)) (h h' : Heap) : Prop := ∀ c o, c ≠ z → c ≠ TO → (∀ r ∈ rs, c ≠ r.1) → h.get? c = some o → h'.get? c = some o
section
variable {prog : Program} {w : World} {A : Around} {E : Value → Shared → Prop} {s : Shared} {z TI TO : Addr} {rs : List (Addr × Addr)} {xss : List (Array Value)}
theorem ZnSt.lst (S : ZnSep z TI TO rs) {h : Heap} {f0 : Value} {pos : Nat → Nat} (t : ZnSt h z TI TO f0 rs pos) {l : Addr} {xs : Array Value} (hl : h.IsList l xs) : l ≠ z ∧ l ≠ TO ∧ ∀ r ∈ rs, l ≠ r.1 := by
  obtain ⟨o, ho, hc, n, hd⟩ := hl
  refine ⟨fun e => ?_, fun e => ?_, fun r hr e => ?_⟩
  · have q := t.hz
    unfold IsZip at q
    rw [e, q] at ho
    cases ho
    cases hd
  · obtain ⟨outs, q, _⟩ := t.hO
    rw [e, q] at ho
    cases ho
    simp at hc
  · obtain ⟨j, hj⟩ := List.getElem?_of_mem hr
    obtain ⟨o', ho', _, hd'⟩ := t.it j r hj
    rw [e, ho'] at ho
    cases ho
    rw [hd'] at hd
    cases hd
/-- the state within a turn: k drawn -/
structure ZnIn (h0 h : Heap) (z TI TO : Addr) (rs : List (Addr × Addr)) (vs : List Value) (i k : Nat) : Prop where
  hz : IsZip h z TI TO .ellipsis
  hO : ∃ outs : Array Value, h.get? TO = some { cls := .type "tuple", data := .seq outs } ∧ outs.size = rs.length ∧ ∀ j, j < k → outs[j]? = vs[j]?
  it : ∀ (j : Nat) (r : Addr × Addr), rs[j]? = some r → h.IsListIter r.1 r.2 (if j < k then i + 1 else i)
  kp : ZnK z TO rs h0 h
  sz : h.objs.size = h0.objs.size
theorem nd_at (S : ZnSep z TI TO rs) {j k : Nat} {r r' : Addr × Addr} (hj : rs[j]? = some r) (hk : rs[k]? = some r') (e : r.1 = r'.1) : j = k := by
  refine nd_ix (l := rs.map (·.1)) (x := r.1) S.nd ?_ ?_
  · rw [List.getElem?_map, hj]; rfl
  · rw [List.getElem?_map, hk, e]; rfl
theorem mem_at {r : Addr × Addr} {j : Nat} (h : rs[j]? = some r) : r ∈ rs := List.mem_of_getElem? h
theorem ZnIn.start {s : Shared} {f0 : Value} {vs : List Value} {i : Nat} {h1 : Heap} (S : ZnSep z TI TO rs) (t : ZnSt s.heap z TI TO f0 rs fun _ => i) (hz : IsZip h1 z TI TO .ellipsis) (hs : Heap.SameBut z s.heap h1) : ZnIn s.heap h1 z TI TO rs vs i 0 where
  hz := hz
  hO := by
    obtain ⟨outs, e, n⟩ := t.hO
    exact ⟨outs, (hs.2 _ S.Oz).trans e, n, fun j hj => absurd hj (Nat.not_lt_zero _)⟩
  it := fun j r hr => (t.it j r hr).at fun o e => (hs.2 _ (S.it r (mem_at hr)).1).trans e
  kp := fun c o c1 _ _ e => (hs.2 _ c1).trans e
  sz := hs.1
/-- behind a draw and its store -/
theorem ZnIn.next {h0 h h1 h2 : Heap} {vs : List Value} {i k : Nat} {r : Addr × Addr} {v : Value} {outs : Array Value} (S : ZnSep z TI TO rs) (t : ZnIn h0 h z TI TO rs vs i k) (hr : rs[k]? = some r) (hv : vs[k]? = some v)
    (it1 : h1.IsListIter r.1 r.2 (i + 1)) (s1 : Heap.SameBut r.1 h h1) (hO : h1.get? TO = some { cls := .type "tuple", data := .seq outs }) (hOz : outs.size = rs.length) (hOj : ∀ j, j < k → outs[j]? = vs[j]?)
    (hO2 : h2.get? TO = some { cls := .type "tuple", data := .seq (outs.setIfInBounds k v) }) (s2 : Heap.SameBut TO h1 h2) : ZnIn h0 h2 z TI TO rs vs i (k + 1) where
  hz := (s2.2 _ (Ne.symm S.Oz)).trans ((s1.2 _ (Ne.symm (S.it r (mem_at hr)).1)).trans t.hz)
  hO := by
    refine ⟨_, hO2, by simpa using hOz, fun j hj => ?_⟩
    have hk : k < outs.size := by rw [hOz]; exact (List.getElem?_eq_some_iff.mp hr).1
    by_cases e : j = k
    · subst e
      rw [hv, Array.getElem?_setIfInBounds, if_pos rfl, if_pos hk]
    · rw [Array.getElem?_setIfInBounds, if_neg (Ne.symm e)]
      exact hOj j (by omega)
  it := fun j r' hr' => by
    by_cases e : j = k
    · subst e
      rw [hr] at hr'
      cases hr'
      rw [if_pos (Nat.lt_succ_self _)]
      exact it1.at fun o q => (s2.2 _ (S.it r (mem_at hr)).2.2).trans q
    · have q := t.it j r' hr'
      have ne : r'.1 ≠ r.1 := fun z => e (nd_at S hr' hr z)
      have e2 : (if j < k + 1 then i + 1 else i) = if j < k then i + 1 else i := by
        by_cases hj : j < k
        · rw [if_pos hj, if_pos (by omega)]
        · rw [if_neg hj, if_neg (by omega)]
      rw [e2]
      exact q.at fun o q' => (s2.2 _ (S.it r' (mem_at hr')).2.2).trans ((s1.2 _ ne).trans q')
  kp := fun c o c1 c2 c3 e => (s2.2 _ c2).trans ((s1.2 _ (c3 r (mem_at hr))).trans (t.kp c o c1 c2 c3 e))
  sz := by rw [s2.1, s1.1, t.sz]
theorem zn_tuple {T : Addr} {outs : Array Value} {x : Value} {k : Nat} {Q : Unit → Shared → Prop} (h8 : outs.size ≤ 8) (hT : s.heap.get? T = some { cls := .type "tuple", data := .seq outs })
    (h : ∀ h', h'.get? T = some { cls := .type "tuple", data := .seq (outs.setIfInBounds k x) } → Heap.SameBut T s.heap h' → Q () { s with heap := h' }) : wpAny (model prog w) A (updateSeq T (·.setIfInBounds k x)) Q E s := by
  refine wpAny_updateSeq hT rfl (h _ ?_ (Heap.SameBut.update ..)) (by rw [sizeLine_eq]; omega) (by rw [sizeLine_eq, Array.size_setIfInBounds]; omega)
  rw [Heap.get?_update_self _ hT rfl]
  simp [Obj.mapSeq]
theorem isEmpty_map {rs : List (Addr × Addr)} (hn : rs ≠ []) : ((rs.map fun r => Value.ref r.1).toArray).isEmpty = false := by
  cases rs with
  | nil => exact absurd rfl hn
  | cons a l => simp
theorem at_map {rs : List (Addr × Addr)} {j : Nat} {it : Value} (h : (rs.map fun r => Value.ref r.1)[j]? = some it) : ∃ r, rs[j]? = some r ∧ it = .ref r.1 := by
  rw [List.getElem?_map] at h
  cases e : rs[j]? with
  | none => rw [e] at h; cases h
  | some r => rw [e] at h; exact ⟨r, rfl, (Option.some.inj h).symm⟩
theorem zn_next_item {i : Nat} {vs : List Value} {Q : Value → Shared → Prop} (S : ZnSep z TI TO rs) (hn : rs ≠ []) (h8 : rs.length ≤ 8) (t : ZnSt s.heap z TI TO .none rs fun _ => i) (L : ZnLs s.heap rs xss) (hvl : vs.length = rs.length)
    (hv : ∀ (j : Nat) (xs : Array Value), xss[j]? = some xs → xs[i]? = vs[j]?)
    (hQ : ∀ h', ZnSt h' z TI TO (rawInt s.heap.objs.size) rs (fun _ => i + 1) → h'.get? s.heap.objs.size = some { cls := .type "tuple", data := .seq vs.toArray } → h'.objs.size = s.heap.objs.size + 1 → ZnK z TO rs s.heap h' → Q (.ref s.heap.objs.size) { s with heap := h' }) :
    wpAny (model prog w) A (Builtin.«zip.__next__» ⟨[.ref z], []⟩) (fun fin s' => ∃ v, fin = .done (.ret v) ∧ Q v s') E s := by
  obtain ⟨hp, g, d, tk, os⟩ := s
  show wpAny _ _ (field (.ref z) 2 >>= _) _ _ _
  refine wpAny_bind (wpAny_field t.hz rfl (x := .bool false) rfl ?_)
  show wpAny _ _ (field (.ref z) 3 >>= _) _ _ _
  refine wpAny_bind (wpAny_field t.hz rfl (x := .ref TI) rfl ?_)
  refine wpAny_bind (wpAny_seqItems t.hI rfl ?_)
  simp only [isEmpty_map hn, Bool.false_eq_true, if_false]
  show wpAny _ _ (Builtin.SmallTypes.ownedTupleIsFree (.ref z) >>= _) _ _ _
  refine wpAny_bind ?_
  unfold Builtin.SmallTypes.ownedTupleIsFree
  refine wpAny_bind (wpAny_field t.hz rfl (x := .none) rfl (wpAny_pure ?_))
  simp only [if_true]
  refine wpAny_bind (wpAny_rule ?_)
  refine wpAny_bind (wpAny_field t.hz rfl (x := .ref TO) rfl ?_)
  refine wpAny_bind (wpAny_setField_rec t.hz (by simp) fun h1 hz1 hs1 => ?_)
  have t0 : ZnIn hp h1 z TI TO rs vs i 0 := ZnIn.start (s := ⟨hp, g, d, tk, os⟩) S t hz1 hs1
  refine wpAny_bind ?_
  simp only [List.toList_toArray]
  refine wpAny_mono (forIn_steps (P := fun k s' => ∃ h, s' = ⟨h, g, d, tk, os⟩ ∧ ZnIn hp h z TI TO rs vs i k) (rs.map fun r => Value.ref r.1) 0 ⟨h1, g, d, tk, os⟩ ⟨h1, rfl, t0⟩ (fun j it s' hj ⟨h, e, q⟩ => ?_)) (fun r s' ⟨e, h, e2, q⟩ => ?_) fun _ _ q => q
  · subst e
    obtain ⟨r, hr, rfl⟩ := at_map hj
    rw [Nat.zero_add] at q ⊢
    have hjl : j < rs.length := (List.getElem?_eq_some_iff.mp hr).1
    obtain ⟨xs, hxs⟩ : ∃ xs, xss[j]? = some xs := ⟨_, List.getElem?_eq_getElem (by rw [L.1]; exact hjl)⟩
    obtain ⟨v, hvj⟩ : ∃ v, vs[j]? = some v := ⟨_, List.getElem?_eq_getElem (by rw [hvl]; exact hjl)⟩
    have hl0 := L.2 j r xs hr hxs
    obtain ⟨n1, n2, n3⟩ := t.lst S hl0
    have hl : h.IsList r.2 xs := by
      obtain ⟨o, a1, a2⟩ := hl0
      exact ⟨o, q.kp _ o n1 n2 n3 a1, a2⟩
    have hit := q.it j r hr
    rw [if_neg (Nat.lt_irrefl j)] at hit
    refine wpAny_bind (wpAny_onRaise ?_)
    show wpAny _ _ (Builtin.SmallTypes.nextOf (.ref r.1) >>= _) _ _ _
    refine wpAny_bind (wpAny_nextOf_list_item hit hl ((hv j xs hxs).trans hvj) fun h2 it2 s2 => wpAny_pure ?_)
    obtain ⟨outs, hO, hOz, hOj⟩ := q.hO
    have hO2 : h2.get? TO = some { cls := .type "tuple", data := .seq outs } := (s2.2 _ (Ne.symm (S.it r (mem_at hr)).2.2)).trans hO
    refine wpAny_bind (wpAny_seqItems hO2 rfl ?_)
    refine wpAny_bind (zn_tuple (by rw [hOz]; exact h8) hO2 fun h3 hO3 s3 => ?_)
    exact wpAny_bind (wpAny_letGo (wpAny_pure ⟨rfl, h3, rfl, ZnIn.next S q hr hvj it2 s2 hO2 hOz hOj hO3 s3⟩))
  · subst e e2
    rw [Nat.zero_add, List.length_map] at q
    obtain ⟨outs, hO, hOz, hOj⟩ := q.hO
    have eo : outs = vs.toArray := by
      apply Array.ext'
      apply List.ext_getElem?
      intro j
      rw [Array.getElem?_toList]
      by_cases hj : j < rs.length
      · simpa using hOj j hj
      · rw [Array.getElem?_eq_none (by omega), List.toList_toArray, List.getElem?_eq_none (by omega)]
    subst eo
    dsimp only
    refine wpAny_bind (wpAny_seqItems hO rfl ?_)
    refine wpAny_bind (wpAny_newTuple ?_)
    have hzl : z < h.objs.size := Heap.lt_size q.hz
    refine wpAny_bind ?_
    unfold Builtin.SmallTypes.ownedTupleHandOut
    have hz6 : IsZip (h.push { cls := .type "tuple", data := .seq vs.toArray }) z TI TO .ellipsis := Heap.get?_push_of_some _ q.hz
    refine wpAny_bind (wpAny_setField_rec hz6 (by simp) fun h7 hz7 hs7 => ?_)
    replace hz7 : IsZip h7 z TI TO (rawInt h.objs.size) := hz7
    refine wpAny_setField_rec hz7 (by simp) fun h8' hz8 hs8 => ?_
    replace hz8 : IsZip h8' z TI TO (rawInt h.objs.size) := hz8
    have up : ∀ c o, c ≠ z → h.get? c = some o → h8'.get? c = some o := fun c o c1 e => (hs8.2 c c1).trans ((hs7.2 c c1).trans (Heap.get?_push_of_some _ e))
    have hT : h8'.get? h.objs.size = some { cls := .type "tuple", data := .seq vs.toArray } := (hs8.2 _ (Nat.ne_of_gt hzl)).trans ((hs7.2 _ (Nat.ne_of_gt hzl)).trans (Heap.get?_push_size _ rfl))
    have hsz : h8'.objs.size = h.objs.size + 1 := by rw [hs8.1, hs7.1, Heap.size_push]
    have e0 : h.objs.size = hp.objs.size := q.sz
    rw [e0] at hz8 hT hsz
    refine wpAny_pure ⟨_, rfl, ?_⟩
    show Q (.ref h.objs.size) _
    rw [e0]
    refine hQ h8' ⟨hz8, ?_, ⟨vs.toArray, up _ _ S.Oz hO, hOz⟩, fun j r hr => ?_⟩ hT hsz fun c o c1 c2 c3 e => up c o c1 (q.kp c o c1 c2 c3 e)
    · exact up _ _ S.Iz (q.kp _ _ S.Iz S.IO (fun r hr => Ne.symm (S.it r hr).2.1) t.hI)
    · have z := q.it j r hr
      rw [if_pos (List.getElem?_eq_some_iff.mp hr).1] at z
      exact z.at fun o e => up _ o (S.it r (mem_at hr)).1 e
theorem zn_next_end {i j0 : Nat} {Q : Fin → Shared → Prop} (hh : A.handled = none) (S : ZnSep z TI TO rs) (h8 : rs.length ≤ 8) (t : ZnSt s.heap z TI TO .none rs fun _ => i) (L : ZnLs s.heap rs xss) (hj0 : j0 < rs.length)
    (hv : ∀ (j : Nat) (xs : Array Value), j < j0 → xss[j]? = some xs → i < xs.size) (hend : ∀ (xs : Array Value), xss[j0]? = some xs → xs[i]? = none)
    (hE : ∀ h' e, ZnK z TO rs s.heap h' → (∃ o, h'.get? e = some o ∧ o.cls = .type "StopIteration") → E (.ref e) { s with heap := h' }) :
    wpAny (model prog w) A (Builtin.«zip.__next__» ⟨[.ref z], []⟩) Q E s := by
  have hn : rs ≠ [] := fun e => by rw [e] at hj0; exact absurd hj0 (Nat.not_lt_zero _)
  obtain ⟨hp, g, d, tk, os⟩ := s
  show wpAny _ _ (field (.ref z) 2 >>= _) _ _ _
  refine wpAny_bind (wpAny_field t.hz rfl (x := .bool false) rfl ?_)
  show wpAny _ _ (field (.ref z) 3 >>= _) _ _ _
  refine wpAny_bind (wpAny_field t.hz rfl (x := .ref TI) rfl ?_)
  refine wpAny_bind (wpAny_seqItems t.hI rfl ?_)
  simp only [isEmpty_map hn, Bool.false_eq_true, if_false]
  show wpAny _ _ (Builtin.SmallTypes.ownedTupleIsFree (.ref z) >>= _) _ _ _
  refine wpAny_bind ?_
  unfold Builtin.SmallTypes.ownedTupleIsFree
  refine wpAny_bind (wpAny_field t.hz rfl (x := .none) rfl (wpAny_pure ?_))
  simp only [if_true]
  refine wpAny_bind (wpAny_rule ?_)
  refine wpAny_bind (wpAny_field t.hz rfl (x := .ref TO) rfl ?_)
  refine wpAny_bind (wpAny_setField_rec t.hz (by simp) fun h1 hz1 hs1 => ?_)
  -- the values that are drawn ahead of the end
  obtain ⟨vs, hvs⟩ : ∃ vs : List Value, vs = xss.map fun xs => xs.getD i .none := ⟨_, rfl⟩
  have t0 : ZnIn hp h1 z TI TO rs vs i 0 := ZnIn.start (s := ⟨hp, g, d, tk, os⟩) S t hz1 hs1
  refine wpAny_bind ?_
  simp only [List.toList_toArray]
  have lst : ∀ {h : Heap} {k j : Nat} {r : Addr × Addr}, ZnIn hp h z TI TO rs vs i k → rs[j]? = some r → ∃ xs, xss[j]? = some xs ∧ h.IsList r.2 xs := fun {h k j r} q hr => by
    have hjl : j < rs.length := (List.getElem?_eq_some_iff.mp hr).1
    obtain ⟨xs, hxs⟩ : ∃ xs, xss[j]? = some xs := ⟨_, List.getElem?_eq_getElem (by rw [L.1]; exact hjl)⟩
    have hl0 := L.2 j r xs hr hxs
    obtain ⟨n1, n2, n3⟩ := t.lst S hl0
    obtain ⟨o, a1, a2⟩ := hl0
    exact ⟨xs, hxs, o, q.kp _ o n1 n2 n3 a1, a2⟩
  refine forIn_falls (P := fun k s' => ∃ h, s' = ⟨h, g, d, tk, os⟩ ∧ ZnIn hp h z TI TO rs vs i k) (rs.map fun r => Value.ref r.1) 0 j0 ⟨h1, g, d, tk, os⟩ ⟨h1, rfl, t0⟩ (by rw [List.length_map]; exact hj0) (fun j it s' hjj hj ⟨h, e, q⟩ => ?_) fun it s' hj ⟨h, e, q⟩ => ?_
  · subst e
    obtain ⟨r, hr, rfl⟩ := at_map hj
    rw [Nat.zero_add] at q ⊢
    obtain ⟨xs, hxs, hl⟩ := lst q hr
    have hlt := hv j xs hjj hxs
    have hx : xs[i]? = some (xs.getD i .none) := by
      rw [Array.getElem?_eq_getElem hlt, Array.getD, dif_pos hlt]
      rfl
    have hvj : vs[j]? = some (xs.getD i .none) := by rw [hvs, List.getElem?_map, hxs]; rfl
    have hit := q.it j r hr
    rw [if_neg (Nat.lt_irrefl j)] at hit
    refine wpAny_bind (wpAny_onRaise ?_)
    show wpAny _ _ (Builtin.SmallTypes.nextOf (.ref r.1) >>= _) _ _ _
    refine wpAny_bind (wpAny_nextOf_list_item hit hl hx fun h2 it2 s2 => wpAny_pure ?_)
    obtain ⟨outs, hO, hOz, hOj⟩ := q.hO
    have hO2 : h2.get? TO = some { cls := .type "tuple", data := .seq outs } := (s2.2 _ (Ne.symm (S.it r (mem_at hr)).2.2)).trans hO
    refine wpAny_bind (wpAny_seqItems hO2 rfl ?_)
    refine wpAny_bind (zn_tuple (by rw [hOz]; exact h8) hO2 fun h3 hO3 s3 => ?_)
    exact wpAny_bind (wpAny_letGo (wpAny_pure ⟨rfl, h3, rfl, ZnIn.next S q hr hvj it2 s2 hO2 hOz hOj hO3 s3⟩))
  · subst e
    obtain ⟨r, hr, rfl⟩ := at_map hj
    rw [Nat.zero_add] at q
    obtain ⟨xs, hxs, hl⟩ := lst q hr
    have hit := q.it j0 r hr
    rw [if_neg (Nat.lt_irrefl j0)] at hit
    refine wpAny_bind (wpAny_onRaise ?_)
    show wpAny _ _ (Builtin.SmallTypes.nextOf (.ref r.1) >>= _) _ _ _
    refine wpAny_bind (wpAny_nextOf_list_end hh hit hl (hend xs hxs) fun h2 e s2 he => ?_)
    obtain ⟨oe, hoe, hce⟩ := he
    have hz2 : IsZip h2 z TI TO .ellipsis := s2 _ _ (Ne.symm (S.it r (mem_at hr)).1) q.hz
    have hez : e ≠ z := fun x => by subst x; rw [hz2] at hoe; cases hoe; simp at hce
    refine wpAny_setField_rec hz2 (by simp) fun h3 _ s3 => hE h3 e (fun c o c1 c2 c3 x => (s3.2 _ c1).trans (s2 _ _ (c3 r (mem_at hr)) (q.kp c o c1 c2 c3 x))) ⟨oe, (s3.2 _ hez).trans hoe, hce⟩
theorem zn_pyNext_item {i : Nat} {vs : List Value} {Q : Option Value → Shared → Prop} (S : ZnSep z TI TO rs) (hn : rs ≠ []) (h8 : rs.length ≤ 8) (t : ZnSt s.heap z TI TO .none rs fun _ => i) (L : ZnLs s.heap rs xss) (hvl : vs.length = rs.length)
    (hv : ∀ (j : Nat) (xs : Array Value), xss[j]? = some xs → xs[i]? = vs[j]?)
    (hQ : ∀ h', ZnSt h' z TI TO (rawInt s.heap.objs.size) rs (fun _ => i + 1) → h'.get? s.heap.objs.size = some { cls := .type "tuple", data := .seq vs.toArray } → h'.objs.size = s.heap.objs.size + 1 → ZnK z TO rs s.heap h' → Q (some (.ref s.heap.objs.size)) { s with heap := h' }) :
    wpAny (model prog w) A (pyNext (.ref z)) Q E s := by
  have hT : s.TypeIs (.ref z) "zip" := ⟨_, t.hz, rfl⟩
  unfold pyNext
  exact wpAny_bind (wpAny_attempt (wpAny_callSpecial?_slot (name := Str.ofString "__next__") hT F.slot_zip_next
    (wpAny_call_entry F.slot_zip_next hT F.entry_zip_next (zn_next_item S hn h8 t L hvl hv fun h' a1 a2 a3 a4 => wpAny_pure (hQ h' a1 a2 a3 a4)) (F.args_zip_next_1 _))))
theorem zn_pyNext_end {i j0 : Nat} {Q : Option Value → Shared → Prop} (hh : A.handled = none) (S : ZnSep z TI TO rs) (h8 : rs.length ≤ 8) (t : ZnSt s.heap z TI TO .none rs fun _ => i) (L : ZnLs s.heap rs xss) (hj0 : j0 < rs.length)
    (hv : ∀ (j : Nat) (xs : Array Value), j < j0 → xss[j]? = some xs → i < xs.size) (hend : ∀ (xs : Array Value), xss[j0]? = some xs → xs[i]? = none) (hQ : ∀ h', ZnK z TO rs s.heap h' → Q none { s with heap := h' }) :
    wpAny (model prog w) A (pyNext (.ref z)) Q E s := by
  have hT : s.TypeIs (.ref z) "zip" := ⟨_, t.hz, rfl⟩
  unfold pyNext
  refine wpAny_bind (wpAny_attempt (wpAny_callSpecial?_slot (name := Str.ofString "__next__") hT F.slot_zip_next
    (wpAny_call_entry F.slot_zip_next hT F.entry_zip_next (zn_next_end hh S h8 t L hj0 hv hend fun h' e hk he => ?_) (F.args_zip_next_1 _))))
  obtain ⟨o, ho, hc⟩ := he
  refine wpAny_bind (wpAny_isInstance (T := "StopIteration") (b := true) ⟨o, ho, hc⟩ isSubtype_stop ?_)
  exact wpAny_pure (hQ _ hk)
end
/-! ### over the layer -/
/-- zip of the lists at as -/
def Itzn (K : PySem.W.Frag) (as : List Addr) : It :=
  ⟨fun i H => ∀ a ∈ as, ∃ xs x, SqL K H a xs ∧ xs[i]? = some x,
    fun i H v H' => ∃ (T : Addr) (vs : List V), v = .ref T ∧ H T = none ∧ H' = upd H T (.tup vs) ∧ vs.length = as.length ∧ ∀ (j : Nat) (a : Addr), as[j]? = some a → ∀ xs, SqL K H a xs → xs[i]? = vs[j]?,
    fun i H => (∀ a ∈ as, ∃ xs, SqL K H a xs) ∧ ∃ a ∈ as, ∃ xs, SqL K H a xs ∧ xs.length ≤ i⟩
section
variable {X : Cx} {pins : List (Addr × Obj)} {σ : L2.St} {H : Hp} {s : Shared} {z TI TO : Addr} {rs : List (Addr × Addr)}
theorem zn_lists (I : Inv X pins σ H s) : ∀ (rs : List (Addr × Addr)), (∀ r ∈ rs, ∃ xs, SqL X.K H r.2 xs) → ∃ itss : List (List Value), ZnLs s.heap rs (itss.map List.toArray) ∧ ∀ (j : Nat) (r : Addr × Addr) (its : List Value) (xs : List V), rs[j]? = some r → itss[j]? = some its → SqL X.K H r.2 xs → Vals xs its
  | [], _ => ⟨[], ⟨rfl, fun j r xs h => by simp at h⟩, fun j r its xs h => by simp at h⟩
  | r :: rs, h => by
    obtain ⟨itss, ⟨l1, l2⟩, hv⟩ := zn_lists I rs fun r' hr => h r' (List.mem_cons_of_mem _ hr)
    obtain ⟨xs, hxs⟩ := h r List.mem_cons_self
    obtain ⟨its, rv, p, _⟩ := I.list hxs
    refine ⟨its :: itss, ⟨by simpa using l1, fun j r' xs' hr' hx' => ?_⟩, fun j r' its' xs' hr' hi' hx' => ?_⟩
    · cases j with
      | zero =>
        simp at hr' hx'
        subst hr' hx'
        exact p.isList
      | succ j => exact l2 j r' xs' (by simpa using hr') (by simpa using hx')
    · cases j with
      | zero =>
        simp at hr' hi'
        subst hr' hi'
        rw [I.list_inj hx' hxs]
        exact rv
      | succ j => exact hv j r' its' xs' (by simpa using hr') (by simpa using hi') hx'
end
theorem zn_items {X : Cx} {pins : List (Addr × Obj)} {σ : L2.St} {H : Hp} {s : Shared} (I : Inv X pins σ H s) (i : Nat) : ∀ (rs : List (Addr × Addr)), (∀ r ∈ rs, ∃ xs x, SqL X.K H r.2 xs ∧ xs[i]? = some x) →
    ∃ (itss : List (List Value)) (vs : List V) (us : List Value), ZnLs s.heap rs (itss.map List.toArray) ∧ vs.length = rs.length ∧ Vals vs us ∧ (∀ (j : Nat) (its : List Value), itss[j]? = some its → its[i]? = us[j]?) ∧
      ∀ (j : Nat) (r : Addr × Addr), rs[j]? = some r → ∀ xs, SqL X.K H r.2 xs → xs[i]? = vs[j]?
  | [], _ => ⟨[], [], [], ⟨rfl, fun j r xs h => by simp at h⟩, rfl, .nil, fun j its h => by simp at h, fun j r h => by simp at h⟩
  | r :: rs, h => by
    obtain ⟨itss, vs, us, ⟨l1, l2⟩, l3, rv, g1, g2⟩ := zn_items I i rs fun r' hr => h r' (List.mem_cons_of_mem _ hr)
    obtain ⟨xs, x, hxs, hx⟩ := h r List.mem_cons_self
    obtain ⟨its, rxs, p, _⟩ := I.list hxs
    obtain ⟨u, hu, ru⟩ := rxs.get hx
    refine ⟨its :: itss, x :: vs, u :: us, ⟨by simpa using l1, fun j r' xs' hr' hx' => ?_⟩, by simp [l3], .cons ru rv, fun j its' hi' => ?_, fun j r' hr' xs' hx' => ?_⟩
    · cases j with
      | zero =>
        simp at hr' hx'
        subst hr' hx'
        exact p.isList
      | succ j => exact l2 j r' xs' (by simpa using hr') (by simpa using hx')
    · cases j with
      | zero =>
        simp at hi'
        subst hi'
        simpa using hu
      | succ j => simpa using g1 j its' (by simpa using hi')
    · cases j with
      | zero =>
        simp at hr'
        subst hr'
        rw [I.list_inj hx' hxs]
        simpa using hx
      | succ j => simpa using g2 j r' (by simpa using hr') xs' hx'
theorem map_some {α β : Type} {f : α → β} {l : List α} {j : Nat} {y : β} (h : (l.map f)[j]? = some y) : ∃ x, l[j]? = some x ∧ f x = y := by
  rw [List.getElem?_map] at h
  cases e : l[j]? with
  | none => rw [e] at h; cases h
  | some x => rw [e] at h; exact ⟨x, rfl, Option.some.inj h⟩
theorem turn_zn {P : Program} {w : World} {K : PySem.W.Frag} {elts : List Expr} {kk : Nat} {tpos : Pos} {z TI TO : Addr} {rs : List (Addr × Addr)} (S : ZnSep z TI TO rs) (hn : rs ≠ []) (h8 : rs.length ≤ 8) :
    Turn P w K (.Tuple elts kk tpos) (Itzn K (rs.map (·.2))) (z :: TI :: TO :: rs.map (·.1)) z (fun i h => ZnSt h z TI TO .none rs fun _ => i) where
  mem := by simp
  obj := fun i h st c hc => by
    rcases List.mem_cons.mp hc with q | hc
    · rw [q]; exact ⟨_, st.hz, fun v q => nomatch q⟩
    rcases List.mem_cons.mp hc with q | hc
    · rw [q]; exact ⟨_, st.hI, fun v q => nomatch q⟩
    rcases List.mem_cons.mp hc with q | hc
    · rw [q]; obtain ⟨outs, e, _⟩ := st.hO; exact ⟨_, e, fun v q => nomatch q⟩
    · obtain ⟨r, hr, rfl⟩ := List.mem_map.mp hc
      obtain ⟨j, hj⟩ := List.getElem?_of_mem hr
      obtain ⟨o, e, _, d⟩ := st.it j r hj
      exact ⟨o, e, fun v q => by rw [d] at q; cases q⟩
  keep := fun i h h' st k => by
    obtain ⟨outs, e, n⟩ := st.hO
    exact ⟨k z (by simp) _ st.hz, k TI (by simp) _ st.hI, ⟨outs, k TO (by simp) _ e, n⟩, fun j r hr => (st.it j r hr).at fun o q => k r.1 (by simp; exact .inr (.inr (.inr ⟨_, List.mem_of_getElem? hr⟩))) o q⟩
  item := by
    intro X hP hw hK hc i pins s σ H E I hf st hg
    subst hP hw hK
    obtain ⟨itss, vs, us, L, hvl, rv, g1, g2⟩ := zn_items I i rs fun r hr => hg r.2 (List.mem_map.mpr ⟨r, hr, rfl⟩)
    have hzl : z < s.heap.objs.size := Heap.lt_size st.hz
    have hul : us.length = rs.length := by rw [← rv.length, hvl]
    refine zn_pyNext_item S hn h8 st L hul (fun j xs hj => ?_) fun h' st' hT hsz hk => ?_
    · obtain ⟨its, hi, rfl⟩ := map_some hj
      simpa using g1 j its hi
    refine ⟨_, rfl, wpAny_letOwnedTupleGo_zip (s := { s with heap := h' }) st'.hz fun h'' z'' sb => ?_⟩
    have hT2 : h''.get? s.heap.objs.size = some { cls := .type "tuple", data := .seq us.toArray } := (sb.2 _ (Nat.ne_of_gt hzl)).trans hT
    have new : ObjOk X.prog X.w (upd H s.heap.objs.size (.tup vs)) h'' s.heap.objs.size (.tup vs) :=
      ⟨by rw [hvl, sizeLine_eq]; omega, us, rv, ⟨_, hT2, rfl, _, rfl⟩⟩
    have inFp : ∀ {c : Addr}, c ∉ (z :: TI :: TO :: rs.map (·.1)) → c ≠ z ∧ c ≠ TO ∧ ∀ r ∈ rs, c ≠ r.1 := fun {c} hc =>
      ⟨fun e => hc (by simp [e]), fun e => hc (by simp [e]), fun r hr e => hc (by simp; exact .inr (.inr (.inr ⟨r.2, by rw [e]; exact hr⟩)))⟩
    have I1 : Inv X pins σ (upd H s.heap.objs.size (.tup vs)) { s with heap := h'' } :=
      I.turnedNew (t' := s.toks) (ch := z :: TI :: TO :: rs.map (·.1)) (fun c o hb q => let ⟨n1, n2, n3⟩ := inFp hb; (sb.2 c n1).trans (hk c o n1 n2 n3 q)) hf (Nat.le_refl _) new
    refine ⟨.ref s.heap.objs.size, _, I1, rfl, ⟨_, vs, rfl, I.hok.fresh (Nat.le_refl _), rfl, by rw [hvl, List.length_map], fun j a ha xs hx => ?_⟩, ⟨z'', ?_, ?_, fun j r hr => ?_⟩, fun c hcm => ?_⟩
    · obtain ⟨r, hr, rfl⟩ := map_some ha
      exact g2 j r hr xs hx
    · exact (sb.2 _ S.Iz).trans st'.hI
    · obtain ⟨outs, e, n⟩ := st'.hO
      exact ⟨outs, (sb.2 _ S.Oz).trans e, n⟩
    · exact (st'.it j r hr).at fun o q => (sb.2 _ (S.it r (mem_at hr)).1).trans q
    · have hlt : c < s.heap.objs.size := by
        rcases List.mem_cons.mp hcm with q | hc
        · rw [q]; exact hzl
        rcases List.mem_cons.mp hc with q | hc
        · rw [q]; exact Heap.lt_size st.hI
        rcases List.mem_cons.mp hc with q | hc
        · rw [q]; obtain ⟨outs, e, _⟩ := st.hO; exact Heap.lt_size e
        · obtain ⟨r, hr, rfl⟩ := List.mem_map.mp hc
          obtain ⟨j, hj⟩ := List.getElem?_of_mem hr
          obtain ⟨o, e, _⟩ := st.it j r hj
          exact Heap.lt_size e
      rw [upd_ne (Nat.ne_of_lt hlt)]
      exact (hf c hcm).1
  done := by
    intro X hP hw hK hc i pins s σ H E I hf st hg
    subst hP hw hK
    obtain ⟨hq, a, ha, hend⟩ := hg
    obtain ⟨itss, L, hv⟩ := zn_lists I rs fun r hr => hq r.2 (List.mem_map.mpr ⟨r, hr, rfl⟩)
    -- the first list that has ended
    have ex : ∃ j0, j0 < rs.length ∧ (∀ (j : Nat) (its : List Value), j < j0 → itss[j]? = some its → i < its.length) ∧ ∀ its : List Value, itss[j0]? = some its → its.length ≤ i := by
      have hl : itss.length = rs.length := by simpa using L.1
      have some_ : ∃ j, j < itss.length ∧ ∀ its : List Value, itss[j]? = some its → its.length ≤ i := by
        obtain ⟨r, hr, rfl⟩ := List.mem_map.mp ha
        obtain ⟨j, hj⟩ := List.getElem?_of_mem hr
        refine ⟨j, by rw [hl]; exact (List.getElem?_eq_some_iff.mp hj).1, fun its hi => ?_⟩
        obtain ⟨xs, hxs, hle⟩ := hend
        rw [← (hv j r its xs hj hi hxs).length]
        exact hle
      have least : ∀ n j, j < n → j < itss.length → (∀ its : List Value, itss[j]? = some its → its.length ≤ i) → ∃ j0, j0 < itss.length ∧ (∀ (j : Nat) (its : List Value), j < j0 → itss[j]? = some its → i < its.length) ∧ ∀ its : List Value, itss[j0]? = some its → its.length ≤ i := by
        intro n
        induction n with
        | zero => intro j hj; exact absurd hj (Nat.not_lt_zero _)
        | succ n ih =>
          intro j hj hjl hje
          by_cases hb : ∃ j', j' < j ∧ ∀ its : List Value, itss[j']? = some its → its.length ≤ i
          · obtain ⟨j', h1, h2⟩ := hb
            exact ih j' (by omega) (by omega) h2
          · refine ⟨j, hjl, fun j' its h1 h2 => ?_, hje⟩
            by_cases h3 : i < its.length
            · exact h3
            · exact (hb ⟨j', h1, fun its' h4 => by rw [h2] at h4; cases h4; omega⟩).elim
      obtain ⟨j, h1, h2⟩ := some_
      obtain ⟨j0, k1, k2, k3⟩ := least (j + 1) j (Nat.lt_succ_self _) h1 h2
      exact ⟨j0, by rw [← hl]; exact k1, k2, k3⟩
    obtain ⟨j0, k1, k2, k3⟩ := ex
    refine zn_pyNext_end (I.ok.hd hc) S h8 st L k1 (fun j xs hj hx => ?_) (fun xs hx => ?_) fun h' hk => ⟨rfl, I.turnedL (t' := s.toks) (ch := z :: TI :: TO :: rs.map (·.1)) (fun c o hb q =>
      hk c o (fun e => hb (by simp [e])) (fun e => hb (by simp [e])) (fun r hr e => hb (by simp; exact .inr (.inr (.inr ⟨r.2, by rw [e]; exact hr⟩)))) q) hf⟩
    · obtain ⟨its, hi, rfl⟩ := map_some hx
      simpa using k2 j its hj hi
    · obtain ⟨its, hi, rfl⟩ := map_some hx
      have := k3 its hi
      simp
      omega
  self := fun A i s Q E st h => wpAny_pyIter_zip st.hz h
theorem add_ne {n a b : Nat} (h : a ≠ b) : n + a ≠ n + b := fun e => h (Nat.add_left_cancel e)
theorem nd_add (n : Nat) : ∀ l : List Nat, l.Nodup → (l.map (n + ·)).Nodup
  | [], _ => List.nodup_nil
  | a :: l, h => by
    obtain ⟨h1, h2⟩ := List.nodup_cons.mp h
    refine List.nodup_cons.mpr ⟨fun m => ?_, nd_add n l h2⟩
    obtain ⟨b, hb, e⟩ := List.mem_map.mp m
    exact h1 (by rw [← Nat.add_left_cancel e]; exact hb)
section
variable {prog : Program} {w : World} {A : Around} {E : Value → Shared → Prop} {s : Shared}
theorem call_zipn3 {l1 l2 l3 : Addr} {x1 x2 x3 : Array Value} {Q : Value → Shared → Prop} (hl1 : s.heap.IsList l1 x1) (hl2 : s.heap.IsList l2 x2) (hl3 : s.heap.IsList l3 x3)
    (h : ∀ h', ZnSt h' (s.heap.objs.size + 5) (s.heap.objs.size + 3) (s.heap.objs.size + 4) .none [(s.heap.objs.size + 0, l1), (s.heap.objs.size + 1, l2), (s.heap.objs.size + 2, l3)] (fun _ => 0) → (∀ c o, s.heap.get? c = some o → h'.get? c = some o) → Q (.ref (s.heap.objs.size + 5)) { s with heap := h' }) :
    wpAny (model prog w) A (call (.type "zip") [.ref l1, .ref l2, .ref l3]) Q E s :=
  zip_begins3 (begins_list l1 x1) (begins_list l2 x2) (begins_list l3 x3) hl1 hl2 hl3 fun h' hz hT hO g1 g2 g3 _ k => h h' ⟨hz, hT, ⟨_, hO, rfl⟩, fun j r hr => match j, hr with
    | 0, hr => by cases hr; exact ⟨_, g1, rfl, rfl⟩
    | 1, hr => by cases hr; exact ⟨_, g2, rfl, rfl⟩
    | 2, hr => by cases hr; exact ⟨_, g3, rfl, rfl⟩
    | j + 3, hr => by simp at hr⟩ k
end
section
variable {X : Cx} {e1 e2 e3 : Expr} {ta : TA} {p pos tpos : Pos} {elts : List Expr} {kk : Nat}
def iZip3 (K : PySem.W.Frag) (ta : TA) : TI := fun σ H R => ta σ H fun vs H1 => ∃ a1 a2 a3 : Addr, vs = [.ref a1, .ref a2, .ref a3] ∧ (∀ a ∈ [a1, a2, a3], ∃ xs, SqL K H1 a xs) ∧ R (Itzn K [a1, a2, a3]) H1
theorem pi_zip3 (hg : Gl X "zip") (hm : X.mg "zip" = none) (ha : PA X [e1, e2, e3] ta) (hs : starEach [e1, e2, e3] X.env = (false, eval e1 X.env) :: starEach [e2, e3] X.env := by rfl) (hpl : (backTo pos (starEach [e2, e3] X.env)).any (·.1) = false := by rfl) :
    PI X (.Tuple elts kk tpos) (.Call (.Name "zip" p) [e1, e2, e3] [] pos) (iZip3 X.K ta) := by
  refine ⟨fun pins s σ H R I h => ?_⟩
  refine Call_ (ld_blt I hg hm PyProof.Rows.boot_zip (PyProof.Rows.callWith_type1 (thn (ha.run pos pins s σ H _ I h) fun us s1 q0 => ?_) hs hpl))
  obtain ⟨vs, H1, I1, r1, a1, a2, a3, ex, hq, q⟩ := q0
  subst ex
  obtain ⟨rfl⟩ : us = [.ref a1, .ref a2, .ref a3] := by
    have z : ∀ {vs : List V} {us : List Value}, Vals vs us → ∀ as : List Addr, vs = as.map V.ref → us = as.map Value.ref := by
      intro vs us r
      induction r with
      | nil =>
        intro as e
        cases as with
        | nil => rfl
        | cons a as => exact nomatch e
      | cons r0 r1 ih =>
        intro as e
        cases as with
        | nil => simp at e
        | cons a as =>
          simp only [List.map_cons, List.cons.injEq] at e ⊢
          obtain ⟨e1, e2⟩ := e
          subst e1
          exact ⟨r0, ih as e2⟩
    exact z r1 [a1, a2, a3] rfl
  obtain ⟨xs1, hx1⟩ := hq a1 (by simp)
  obtain ⟨its1, rv1, p1, _⟩ := I1.list hx1
  obtain ⟨xs2, hx2⟩ := hq a2 (by simp)
  obtain ⟨its2, rv2, p2, _⟩ := I1.list hx2
  obtain ⟨xs3, hx3⟩ := hq a3 (by simp)
  obtain ⟨its3, rv3, p3, _⟩ := I1.list hx3
  refine call_zipn3 p1.isList p2.isList p3.isList fun h' st hk => wpAny_pyIter_zip st.hz ?_
  have I2 : Inv X pins σ H1 { s1 with heap := h' } := I1.kept (t' := s1.toks) hk
  refine ⟨_, _, _, _, H1, rfl, I2, turn_zn (rs := [(s1.heap.objs.size + 0, a1), (s1.heap.objs.size + 1, a2), (s1.heap.objs.size + 2, a3)]) ⟨add_ne (by decide), add_ne (by decide), add_ne (by decide), fun r hr => ?_, ?_⟩ (by simp) (Nat.le_of_ble_eq_true rfl), st, fun c hcm => ?_, q⟩
  · simp at hr
    rcases hr with rfl | rfl | rfl
    · exact ⟨add_ne (a := 0) (b := 5) (by decide), add_ne (a := 0) (b := 3) (by decide), add_ne (a := 0) (b := 4) (by decide)⟩
    · exact ⟨add_ne (a := 1) (b := 5) (by decide), add_ne (a := 1) (b := 3) (by decide), add_ne (a := 1) (b := 4) (by decide)⟩
    · exact ⟨add_ne (a := 2) (b := 5) (by decide), add_ne (a := 2) (b := 3) (by decide), add_ne (a := 2) (b := 4) (by decide)⟩
  · exact nd_add s1.heap.objs.size [0, 1, 2] (by decide)
  · have hle : s1.heap.objs.size ≤ c := by
      simp only [List.map_cons, List.map_nil, List.mem_cons, List.not_mem_nil, or_false] at hcm
      rcases hcm with rfl | rfl | rfl | rfl | rfl | rfl <;> exact Nat.le_add_right _ _
    exact I1.fpOk hle (I1.hok.fresh hle)
end
/-- the heap behind zip of 4 lists -/
abbrev zh4_1 (h : Heap) (l1 : Addr) : Heap := (h).push { cls := .type "list_iterator", data := .fields #[.ref l1, .int 0 0] }
abbrev zh4_2 (h : Heap) (l1 l2 : Addr) : Heap := (zh4_1 h l1).push { cls := .type "list_iterator", data := .fields #[.ref l2, .int 0 0] }
abbrev zh4_3 (h : Heap) (l1 l2 l3 : Addr) : Heap := (zh4_2 h l1 l2).push { cls := .type "list_iterator", data := .fields #[.ref l3, .int 0 0] }
abbrev zh4_4 (h : Heap) (l1 l2 l3 l4 : Addr) : Heap := (zh4_3 h l1 l2 l3).push { cls := .type "list_iterator", data := .fields #[.ref l4, .int 0 0] }
abbrev zh4_T (h : Heap) (l1 l2 l3 l4 : Addr) : Heap := (zh4_4 h l1 l2 l3 l4).push { cls := .type "tuple", data := .seq #[.ref (h).objs.size, .ref (zh4_1 h l1).objs.size, .ref (zh4_2 h l1 l2).objs.size, .ref (zh4_3 h l1 l2 l3).objs.size] }
abbrev zh4_O (h : Heap) (l1 l2 l3 l4 : Addr) : Heap := (zh4_T h l1 l2 l3 l4).push { cls := .type "tuple", data := .seq #[.none, .none, .none, .none] }
abbrev zh4_Z (h : Heap) (l1 l2 l3 l4 : Addr) : Heap := (zh4_O h l1 l2 l3 l4).push { cls := .type "zip", data := .fields #[.none, .bool false, .bool false, .ref (zh4_4 h l1 l2 l3 l4).objs.size, .ref (zh4_T h l1 l2 l3 l4).objs.size] }
theorem zip_call4 (v1 v2 v3 v4 : Value) : checkTypeCall "zip" ⟨[v1, v2, v3, v4], []⟩ = pure () := by kernel_rfl
theorem zip_new4 (v1 v2 v3 v4 : Value) : checkBuiltinCall "zip.__new__" ⟨[.type "zip", v1, v2, v3, v4], []⟩ = pure () := by kernel_rfl
theorem zip_init4 (o v1 v2 v3 v4 : Value) : argsOk "object.__init__" ⟨[o, v1, v2, v3, v4], []⟩ := by
  unfold argsOk
  rw [signature?_of (id := "object.__init__") (n := ['_', '_', 't', 'i', 'n', 'i', '_', '_']) (o := ['t', 'c', 'e', 'j', 'b', 'o']) (by kernel_rfl) PySem.F.owner_object]; kernel_rfl
theorem zip_meets4 (l1 l2 l3 l4 : Addr) (x1 x2 x3 x4 : Array Value) : Meets (Builtin.«zip.__new__» ⟨[.type "zip", .ref l1, .ref l2, .ref l3, .ref l4], []⟩) (fun _ R s => (s.heap.IsList l1 x1 ∧ s.heap.IsList l2 x2 ∧ s.heap.IsList l3 x3 ∧ s.heap.IsList l4 x4) ∧ R (.ok (.ret (.ref (zh4_O s.heap l1 l2 l3 l4).objs.size))) { s with heap := zh4_Z s.heap l1 l2 l3 l4 }) :=
  .of_wp fun prog w A R s h => by
    obtain ⟨hp, g, d, tk, os⟩ := s; obtain ⟨⟨hl1, hl2, hl3, hl4⟩, h⟩ := h
    have hsub := sub_zip
    have L1 : Heap.IsList (Shared.heap ⟨hp, g, d, tk, os⟩) l1 x1 := hl1
    have L2 : Heap.IsList (Shared.heap ⟨zh4_1 hp l1, g, d, tk, os⟩) l2 x2 := (Heap.IsList.push hl2 _)
    have L3 : Heap.IsList (Shared.heap ⟨zh4_2 hp l1 l2, g, d, tk, os⟩) l3 x3 := (Heap.IsList.push (Heap.IsList.push hl3 _) _)
    have L4 : Heap.IsList (Shared.heap ⟨zh4_3 hp l1 l2 l3, g, d, tk, os⟩) l4 x4 := (Heap.IsList.push (Heap.IsList.push (Heap.IsList.push hl4 _) _) _)
    wp_walk using wpAny_pyIter_list L1, wpAny_pyIter_list L2, wpAny_pyIter_list L3, wpAny_pyIter_list L4
    exact ⟨_, rfl, h⟩
section
variable {prog : Program} {w : World} {A : Around} {E : Value → Shared → Prop} {s : Shared}
theorem call_zipn4 {l1 l2 l3 l4 : Addr} {x1 x2 x3 x4 : Array Value} {Q : Value → Shared → Prop} (hl1 : s.heap.IsList l1 x1) (hl2 : s.heap.IsList l2 x2) (hl3 : s.heap.IsList l3 x3) (hl4 : s.heap.IsList l4 x4)
    (h : ∀ h', ZnSt h' (s.heap.objs.size + 6) (s.heap.objs.size + 4) (s.heap.objs.size + 5) .none [(s.heap.objs.size + 0, l1), (s.heap.objs.size + 1, l2), (s.heap.objs.size + 2, l3), (s.heap.objs.size + 3, l4)] (fun _ => 0) → (∀ c o, s.heap.get? c = some o → h'.get? c = some o) → Q (.ref (s.heap.objs.size + 6)) { s with heap := h' }) :
    wpAny (model prog w) A (call (.type "zip") [.ref l1, .ref l2, .ref l3, .ref l4]) Q E s := by
  refine callType_new F.called_zip (by decide) (zip_call4 _ _ _ _) (zip_new4 _ _ _ _) (fun obj => zip_init4 obj _ _ _ _) F.entry_zip_new (zip_meets4 l1 l2 l3 l4 x1 x2 x3 x4) ⟨⟨hl1, hl2, hl3, hl4⟩, ?_⟩
  have z1 : (zh4_1 s.heap l1).objs.size = s.heap.objs.size + 1 := by rw [Heap.size_push]
  have z2 : (zh4_2 s.heap l1 l2).objs.size = s.heap.objs.size + 2 := by rw [Heap.size_push, z1]
  have z3 : (zh4_3 s.heap l1 l2 l3).objs.size = s.heap.objs.size + 3 := by rw [Heap.size_push, z2]
  have z4 : (zh4_4 s.heap l1 l2 l3 l4).objs.size = s.heap.objs.size + 4 := by rw [Heap.size_push, z3]
  have zT : (zh4_T s.heap l1 l2 l3 l4).objs.size = s.heap.objs.size + 5 := by rw [Heap.size_push, z4]
  have zO : (zh4_O s.heap l1 l2 l3 l4).objs.size = s.heap.objs.size + 6 := by rw [Heap.size_push, zT]
  have zZ : (zh4_Z s.heap l1 l2 l3 l4).objs.size = s.heap.objs.size + 7 := by rw [Heap.size_push, zO]
  have gZ : (zh4_Z s.heap l1 l2 l3 l4).get? (zh4_O s.heap l1 l2 l3 l4).objs.size = some _ := Heap.get?_push_size _ rfl
  have gO : (zh4_Z s.heap l1 l2 l3 l4).get? (zh4_T s.heap l1 l2 l3 l4).objs.size = some _ := Heap.get?_push_of_some _ (Heap.get?_push_size _ rfl)
  have gT : (zh4_Z s.heap l1 l2 l3 l4).get? (zh4_4 s.heap l1 l2 l3 l4).objs.size = some _ := Heap.get?_push_of_some _ (Heap.get?_push_of_some _ (Heap.get?_push_size _ rfl))
  have g0 : (zh4_Z s.heap l1 l2 l3 l4).get? (s.heap).objs.size = some _ := Heap.get?_push_of_some _ (Heap.get?_push_of_some _ (Heap.get?_push_of_some _ (Heap.get?_push_of_some _ (Heap.get?_push_of_some _ (Heap.get?_push_of_some _ (Heap.get?_push_size _ rfl))))))
  have g1 : (zh4_Z s.heap l1 l2 l3 l4).get? (zh4_1 s.heap l1).objs.size = some _ := Heap.get?_push_of_some _ (Heap.get?_push_of_some _ (Heap.get?_push_of_some _ (Heap.get?_push_of_some _ (Heap.get?_push_of_some _ (Heap.get?_push_size _ rfl)))))
  have g2 : (zh4_Z s.heap l1 l2 l3 l4).get? (zh4_2 s.heap l1 l2).objs.size = some _ := Heap.get?_push_of_some _ (Heap.get?_push_of_some _ (Heap.get?_push_of_some _ (Heap.get?_push_of_some _ (Heap.get?_push_size _ rfl))))
  have g3 : (zh4_Z s.heap l1 l2 l3 l4).get? (zh4_3 s.heap l1 l2 l3).objs.size = some _ := Heap.get?_push_of_some _ (Heap.get?_push_of_some _ (Heap.get?_push_of_some _ (Heap.get?_push_size _ rfl)))
  rw [zO, zT, z4] at gZ
  rw [zT] at gO
  rw [z4, z3, z2, z1] at gT
  rw [z1] at g1
  rw [z2] at g2
  rw [z3] at g3
  show _ ∧ _
  rw [zO]
  refine ⟨⟨_, gZ, rfl⟩, h _ ⟨gZ, gT, ⟨_, gO, rfl⟩, fun j r hr => ?_⟩ fun c o e => Heap.get?_push_of_some _ (Heap.get?_push_of_some _ (Heap.get?_push_of_some _ (Heap.get?_push_of_some _ (Heap.get?_push_of_some _ (Heap.get?_push_of_some _ (Heap.get?_push_of_some _ (e)))))))⟩
  match j, hr with
  | 0, hr => cases hr; exact ⟨_, g0, rfl, rfl⟩
  | 1, hr => cases hr; exact ⟨_, g1, rfl, rfl⟩
  | 2, hr => cases hr; exact ⟨_, g2, rfl, rfl⟩
  | 3, hr => cases hr; exact ⟨_, g3, rfl, rfl⟩
  | j + 4, hr => simp at hr
end
section
variable {X : Cx} {e1 e2 e3 e4 : Expr} {ta : TA} {p pos tpos : Pos} {elts : List Expr} {kk : Nat}
def iZip4 (K : PySem.W.Frag) (ta : TA) : TI := fun σ H R => ta σ H fun vs H1 => ∃ a1 a2 a3 a4 : Addr, vs = [.ref a1, .ref a2, .ref a3, .ref a4] ∧ (∀ a ∈ [a1, a2, a3, a4], ∃ xs, SqL K H1 a xs) ∧ R (Itzn K [a1, a2, a3, a4]) H1
theorem pi_zip4 (hg : Gl X "zip") (hm : X.mg "zip" = none) (ha : PA X [e1, e2, e3, e4] ta) (hs : starEach [e1, e2, e3, e4] X.env = (false, eval e1 X.env) :: starEach [e2, e3, e4] X.env := by rfl) (hpl : (backTo pos (starEach [e2, e3, e4] X.env)).any (·.1) = false := by rfl) :
    PI X (.Tuple elts kk tpos) (.Call (.Name "zip" p) [e1, e2, e3, e4] [] pos) (iZip4 X.K ta) := by
  refine ⟨fun pins s σ H R I h => ?_⟩
  refine Call_ (ld_blt I hg hm PyProof.Rows.boot_zip (PyProof.Rows.callWith_type1 (thn (ha.run pos pins s σ H _ I h) fun us s1 q0 => ?_) hs hpl))
  obtain ⟨vs, H1, I1, r1, a1, a2, a3, a4, ex, hq, q⟩ := q0
  subst ex
  obtain ⟨rfl⟩ : us = [.ref a1, .ref a2, .ref a3, .ref a4] := by
    have z : ∀ {vs : List V} {us : List Value}, Vals vs us → ∀ as : List Addr, vs = as.map V.ref → us = as.map Value.ref := by
      intro vs us r
      induction r with
      | nil =>
        intro as e
        cases as with
        | nil => rfl
        | cons a as => exact nomatch e
      | cons r0 r1 ih =>
        intro as e
        cases as with
        | nil => simp at e
        | cons a as =>
          simp only [List.map_cons, List.cons.injEq] at e ⊢
          obtain ⟨e1, e2⟩ := e
          subst e1
          exact ⟨r0, ih as e2⟩
    exact z r1 [a1, a2, a3, a4] rfl
  obtain ⟨xs1, hx1⟩ := hq a1 (by simp)
  obtain ⟨its1, rv1, p1, _⟩ := I1.list hx1
  obtain ⟨xs2, hx2⟩ := hq a2 (by simp)
  obtain ⟨its2, rv2, p2, _⟩ := I1.list hx2
  obtain ⟨xs3, hx3⟩ := hq a3 (by simp)
  obtain ⟨its3, rv3, p3, _⟩ := I1.list hx3
  obtain ⟨xs4, hx4⟩ := hq a4 (by simp)
  obtain ⟨its4, rv4, p4, _⟩ := I1.list hx4
  refine call_zipn4 p1.isList p2.isList p3.isList p4.isList fun h' st hk => wpAny_pyIter_zip st.hz ?_
  have I2 : Inv X pins σ H1 { s1 with heap := h' } := I1.kept (t' := s1.toks) hk
  refine ⟨_, _, _, _, H1, rfl, I2, turn_zn (rs := [(s1.heap.objs.size + 0, a1), (s1.heap.objs.size + 1, a2), (s1.heap.objs.size + 2, a3), (s1.heap.objs.size + 3, a4)]) ⟨add_ne (by decide), add_ne (by decide), add_ne (by decide), fun r hr => ?_, ?_⟩ (by simp) (Nat.le_of_ble_eq_true rfl), st, fun c hcm => ?_, q⟩
  · simp at hr
    rcases hr with rfl | rfl | rfl | rfl
    · exact ⟨add_ne (a := 0) (b := 6) (by decide), add_ne (a := 0) (b := 4) (by decide), add_ne (a := 0) (b := 5) (by decide)⟩
    · exact ⟨add_ne (a := 1) (b := 6) (by decide), add_ne (a := 1) (b := 4) (by decide), add_ne (a := 1) (b := 5) (by decide)⟩
    · exact ⟨add_ne (a := 2) (b := 6) (by decide), add_ne (a := 2) (b := 4) (by decide), add_ne (a := 2) (b := 5) (by decide)⟩
    · exact ⟨add_ne (a := 3) (b := 6) (by decide), add_ne (a := 3) (b := 4) (by decide), add_ne (a := 3) (b := 5) (by decide)⟩
  · exact nd_add s1.heap.objs.size [0, 1, 2, 3] (by decide)
  · have hle : s1.heap.objs.size ≤ c := by
      simp only [List.map_cons, List.map_nil, List.mem_cons, List.not_mem_nil, or_false] at hcm
      rcases hcm with rfl | rfl | rfl | rfl | rfl | rfl | rfl <;> exact Nat.le_add_right _ _
    exact I1.fpOk hle (I1.hok.fresh hle)
end
end K44
set_option Elab.async false
set_option linter.all false
set_option maxRecDepth 100000
set_option maxHeartbeats 4000000
/-! Rules of my own: a slice with a step; a try with an else whose suite raises; an error kept behind its suite; isinstance of an error that has fields; a base's __init__. -/
namespace K44
open PySem PySem.Spec PyProof.Rows L2
section
variable {X : Cx}
/-! ### xs[lo::st] -/
def pickS {α : Type} (xs : List α) (lo st : Option Int) : List α := (sliceRange (sliceBounds lo none st xs.length).1 (sliceBounds lo none st xs.length).2.1 (sliceBounds lo none st xs.length).2.2).filterMap (xs[·]?)
theorem vals_pick {xs : List V} {us : List Value} (r : Vals xs us) : ∀ l : List Nat, Vals (l.filterMap (xs[·]?)) (l.filterMap (us[·]?))
  | [] => .nil
  | j :: l => by
    rw [List.filterMap_cons, List.filterMap_cons]
    cases e : xs[j]? with
    | none =>
      rw [r.none_of e]
      exact vals_pick r l
    | some x =>
      obtain ⟨u, hu, ru⟩ := r.get e
      rw [hu]
      exact .cons ru (vals_pick r l)
def tSlS (K : PySem.W.Frag) (te : TE) (tl ts : TO) : TE := fun σ H Q => te σ H fun x H1 => tl σ H1 fun lo H2 => ts σ H2 fun st H3 => ∃ a xs, x = .ref a ∧ SqL K H3 a xs ∧ st ≠ some 0 ∧ (pickS xs lo st).length ≤ sizeLine ∧ ∀ p, H3 p = none → Q (.ref p) (upd H3 p (.lst (pickS xs lo st)))
theorem pe_sliceS {e lo st : Expr} {te : TE} {tl ts : TO} {p2 pos : Pos} (he : PE X e te) (hl : PO X (some lo) tl) (hst : PO X (some st) ts) : PE X (.Subscript e (.Slice (some lo) none (some st) p2) pos) (tSlS X.K te tl ts) := by
  refine ⟨fun pins s σ H Q I h => ?_⟩
  refine Subscript_ (thn (he.run pins s σ H _ I h) fun v s1 ⟨x, H1, I1, r1, q1⟩ => ?_)
  refine wpAny_Slice (thn (hl.run pins s1 σ H1 _ I1 q1) fun vl s2 ⟨l, H2, I2, pl, q2⟩ => ?_)
  refine thn (po_none.run pins s2 σ H2 (fun o H3 => o = none ∧ H3 = H2) I2 ⟨rfl, rfl⟩) fun vu s3 ⟨u, H3, I3, pu, eu, e3⟩ => ?_
  subst eu e3
  refine thn (hst.run pins s3 σ H3 _ I3 q2) fun vs s4 ⟨o, H4, I4, ps, q4⟩ => ?_
  obtain ⟨a, xs, ex, hx, h0, hz4, q⟩ := q4
  subst ex
  cases r1
  have I5 : Inv X pins σ H4 { s4 with heap := s4.heap.push { cls := .type "slice", data := .fields #[vl, vu, vs] } } := I4.kept (t' := s4.toks) fun b ob q => Heap.get?_push_of_some _ q
  obtain ⟨its, r, hpl, hz⟩ := I5.list hx
  have hlen := r.length
  refine tail_any (ops := [.ref a, .ref s4.heap.objs.size]) hpl.isList.typeIs (PySem.slot_list_getitem.lookup) ?_ (by with_unfolding_all rfl)
  refine wpAny_getItem_list_slice hpl.isList (Heap.IsSliceOf.new _ vl vu vs) pl pu ps h0 ?_ (by rw [List.size_toArray]; omega)
  have e1 : slicePick its.toArray l none o = (pickS its l o).toArray := by
    unfold slicePick pickS
    simp only [List.size_toArray, List.getElem?_toArray]
  have e2 : pickS its l o = (sliceRange (sliceBounds l none o xs.length).1 (sliceBounds l none o xs.length).2.1 (sliceBounds l none o xs.length).2.2).filterMap (its[·]?) := by
    unfold pickS
    rw [hlen]
  have rp : Vals (pickS xs l o) (pickS its l o) := by rw [e2]; exact vals_pick r _
  rw [e1]
  exact ⟨.ref _, _, I5.laid (t' := s4.toks) (o := .lst (pickS xs l o)) (fun b ob q => Heap.get?_push_of_some _ q) (Nat.le_refl _) ⟨hz4, _, 0, rp, Heap.get?_push_size _ rfl⟩, rfl, q _ (I5.hok.fresh (Nat.le_refl _))⟩
end
/-! ### a try whose clause takes whatever the body raises; the suite may raise; an else -/
/-- the wish: the clause names the class, the suite's reading -/
def wSure (K : PySem.W.Frag) (c : Value) (ts : Addr → Value → Option Addr → TS) (D : Ends) : WX := fun cls d σ H => PySem.W.exmOne K cls c = some true ∧ ∀ a, H a = none → ts a cls d D σ H
section
variable {X : Cx} {x : Str} {c : Value} {body suite orelse : List Stmt} {b0 : Stmt} {np pos pos2 : Pos} {tb : WX → TS} {ts : Addr → Value → Option Addr → TS} {u : TS} {Wout : WX}
theorem frame_apart {B h : Heap} {l : List Env} {a : Addr} {o : Obj} {vs : Array Value} (ff : h.FunFrames B l) (ha : h.get? a = some o) (hd : o.data = .fields vs) : a ∉ frs l := fun hm => by
  obtain ⟨_, q, hq, hn⟩ := ff.mem hm
  rw [ha] at hq
  exact hn vs (by rw [← Option.some.inj hq]; exact hd)
theorem ps_try_sure (ho : PSs X orelse u) (hs : X.stack = X.env :: X.outer) (hf : X.env.frame = some X.env.locals) (hc : Names X x c) (hpa : ∀ hd : Option Value, PassesOwnAt (model X.prog X.w) (X.A.mark hd) X.A X.env X.xe) (tk : L2.Takes X Wout)
    (hb : ∀ (W : WX) (pn : List (Addr × Obj)) (xe : Value → Shared → Prop), L2N.Takes (X.tr pn xe) W → PassesOwn (model X.prog X.w) X.A X.env xe → PSs (X.tr pn xe) body (tb W))
    (hsu : ∀ (a : Addr) (oe : Obj) (cls : Value) (d : Option Addr) (pn : List (Addr × Obj)), L2N.Zn cls d oe → (∃ vs, oe.data = .fields vs) → L2.Takes (L2H.suiteX X a ((a, oe) :: pn)) Wout → L2H.HotC (L2H.suiteX X a ((a, oe) :: pn)) →
      PSs (L2H.suiteX X a ((a, oe) :: pn)) (b0 :: suite) (ts a cls d)) :
    PS X (.Try body [.ExceptHandler (some (.Name x np)) none (b0 :: suite) pos2] orelse [] pos) (fun D σ H => tb (wSure X.K c ts D) { D with nx := u D } σ H) := by
  refine ⟨fun pins s σ H D I h => wpAny_Try_except ?_⟩
  have ok := I.ok
  have fr : X.A.frames = some (X.env :: X.outer) := ok.frames.trans (congrArg some hs)
  let meets : Value → Shared → Prop := fun e s1 => wpAny (model X.prog X.w) X.A (noteFrame e X.env) (fun _ s2 => wpAny (model X.prog X.w) X.A (setFlight e none) (fun _ s3 =>
    wpAny (model X.prog X.w) X.A (handleBy e X.env [.ExceptHandler (some (.Name x np)) none (b0 :: suite) pos2]) (SP X pins D) X.xe s3) X.xe s2) X.xe s1
  have caught : L2N.Takes (X.tr (X.pn ++ pins) meets) (wSure X.K c ts D) := fun e s1 flying => ?caught
  · have body_run := (hb (wSure X.K c ts D) (X.pn ++ pins) meets caught PassesOwn.looking).run [] s σ H { D with nx := u D } (I.toTry _) h
    refine wpAny_mono body_run (fun f s1 done => ?_) fun _ _ q => q
    cases f with
    | next => obtain ⟨τ, G, J, q⟩ := done; exact ho.run pins s1 τ G D (J.ofTry ok) q
    | brk => obtain ⟨τ, G, J, q⟩ := done; exact ⟨τ, G, J.ofTry ok, q⟩
    | cont => obtain ⟨τ, G, J, q⟩ := done; exact ⟨τ, G, J.ofTry ok, q⟩
    | ret v => obtain ⟨y, τ, G, J, r, q⟩ := done; exact ⟨y, τ, G, J.ofTry ok, r, q⟩
  case caught =>
    obtain ⟨a, B, sI, pq, τ, G, cls, d, rfl, Jt, nb, up, air, na, os, ag, hm, suite_reads⟩ := flying
    have J : Inv X pins τ G sI := Jt.ofTry ok
    replace air : Sky B (X.env :: X.outer) a (L2N.Zn cls d) X.env.locals s1.heap := by rw [← hs]; exact air
    show wpAny (model X.prog X.w) X.A (noteFrame (.ref a) X.env) _ _ _
    refine L2N.Sky.land L2N.Zn.steady fr hf air fun hA flA upA => ?_
    have JA : Inv X pins τ G { s1 with heap := hA } := J.landed nb flA.1 (up.trans upA) os ag
    obtain ⟨oA, vA, atA, zA, dA⟩ := flA.there
    have apart := frame_apart flA.2.2.1 atA dA
    have nL : a ≠ X.env.locals := fun e => apart (List.mem_filterMap.mpr ⟨X.env, List.mem_cons_self, hf.trans (congrArg some e.symm)⟩)
    have nO : a ∉ X.fs := fun m => let ⟨v, hv, q⟩ := List.mem_filterMap.mp m; apart (List.mem_filterMap.mpr ⟨v, List.mem_cons_of_mem _ hv, q⟩)
    have SA := JA.suite atA dA na nL nO
    refine wpAny_handleBy_cons (codeAny_handlers_test ?_) (fun q => nomatch q)
    have named : ∀ {Q E : Value → Shared → Prop}, Q c { s1 with heap := hA } → wpAny (model X.prog X.w) (X.A.mark (some (.ref a))) (eval (.Name x np) X.env) Q E { s1 with heap := hA } := fun {Q E} q =>
      match hc with
      | ⟨hg, hd, .inl hm⟩ => ld_glob (X := X.suite a ((a, oA) :: (X.pn ++ pins))) SA hg hm q hd
      | ⟨hg, hd, .inr ⟨hm, hv, hn⟩⟩ => ld_blt (X := X.suite a ((a, oA) :: (X.pn ++ pins))) SA hg hm hv q hn hd
    have sort : PySem.W.Looks (model X.prog X.w) hA (typeOf (.ref a)) cls := fun A Q E s k q => wpAny_typeOf_ref (k _ _ atA) (by rw [zA.1]; exact q)
    refine named ((PySem.W.exm_one (M := model X.prog X.w) JA.kIn sort hm).here (codeAny_handlers_suite (HandSPX.lands_againZ flA fun hB flB upB => ?_)))
    have JB : Inv X pins τ G { s1 with heap := hB } := J.landed nb flB.1 ((up.trans upA).trans upB) os ag
    obtain ⟨oB, vB, atB, zB, dB⟩ := flB.there
    have SB := JB.suite atB dB na nL nO
    have tkS : L2.Takes (L2H.suiteX X a ((a, oB) :: (X.pn ++ pins))) Wout := fun e2 s2 ⟨a2, B2, sI2, pn2, τ2, G2, cls2, d2, e, I2, q1, q2, q3, q4, q5, q6, w⟩ => tk e2 s2 ⟨a2, B2, sI2, pins, τ2, G2, cls2, d2, e, L2H.unsuiteX I2 ok, q1, q2, q3, q4, q5, q6, w⟩
    refine wpAny_mono ((hsu a oB cls d (X.pn ++ pins) zB ⟨_, dB⟩ tkS ⟨(a, oB), ⟨rfl, vB, dB, zB.2.2 vB dB⟩, List.mem_cons_self⟩).run [] _ _ G _ (L2H.suiteX_of SB) (suite_reads a na)) (fun f s6 done => ?_) fun e6 s6 q => hpa (some (.ref a)) e6 s6 q
    cases f with
    | next => obtain ⟨τ6, G6, J6, q⟩ := done; exact ⟨_, _, L2H.unsuiteX J6 ok, q⟩
    | brk => obtain ⟨τ6, G6, J6, q⟩ := done; exact ⟨_, _, L2H.unsuiteX J6 ok, q⟩
    | cont => obtain ⟨τ6, G6, J6, q⟩ := done; exact ⟨_, _, L2H.unsuiteX J6 ok, q⟩
    | ret v => obtain ⟨y, τ6, G6, J6, r, q⟩ := done; exact ⟨_, _, _, L2H.unsuiteX J6 ok, r, q⟩
end
end K44
set_option Elab.async false
set_option linter.all false
set_option maxRecDepth 100000
set_option maxHeartbeats 4000000
/-! The steps of a reading, by the head of what is asked; calls by Cal. -/
namespace K44
open PySem PySem.Spec PyProof.Rows L2
/-! ### heaps -/
theorem same_up {H : Hp} {p : Addr} {o : HO} (h : H p = none) : Same H (upd H p o) := fun b x e => by
  rw [upd_ne (ne_of_none e h)]
  exact e
theorem nw {H : Hp} {o : HO} {Q : V → Hp → Prop} (k : ∀ p H', H p = none → Same H H' → H' p = some o → Q (.ref p) H') : ∀ p, H p = none → Q (.ref p) (upd H p o) := fun p hp => k p _ hp (same_up hp) upd_same
/-- the heap without the object at D (an accumulator that others can't see) -/
def hid (D : Addr) (H : Hp) : Hp := fun b => if b = D then none else H b
theorem hid_ne {D b : Addr} {H : Hp} (h : b ≠ D) : hid D H b = H b := if_neg h
theorem hid_same {D : Addr} {H H' : Hp} (s : Same H H') : Same (hid D H) (hid D H') := fun b o e => by
  by_cases h : b = D
  · subst h
    rw [hid, if_pos rfl] at e
    cases e
  · rw [hid_ne h] at e ⊢
    exact s b o e
theorem hid_same0 {D : Addr} {H H' : Hp} (s : Same H H') (h : H D = none) : Same H (hid D H') := fun b o e => by
  rw [hid_ne (ne_of_none e h)]
  exact s b o e
theorem hid_upd {D : Addr} {H : Hp} {o : HO} : hid D (upd H D o) = hid D H := by
  funext b
  by_cases h : b = D
  · subst h
    unfold hid
    rw [if_pos rfl, if_pos rfl]
  · rw [hid_ne h, hid_ne h, upd_ne h]
/-- a list of ints stands at a, tracked -/
abbrev Ints (H : Hp) (a : Addr) (ns : List Int) : Prop := H a = some (.lst (ns.map V.int))
/-! ### steps -/
section
variable {σ : L2.St} {H : Hp} {i : Nat} {v x y : V} {ta tb te : TE} {tr : TA} {t u : TT} {K : PySem.W.Frag} {Q : VK} {D : Ends} {s1 s2 : TS}
theorem r_var (h : σ[i]? = some (some v)) (q : Q v H) : tVar i σ H Q := ⟨v, h, q⟩
theorem r_c (q : Q v H) : tC v σ H Q := q
theorem r_op {r : R2} (q : ta σ H fun x H1 => tb σ H1 fun y H2 => r x y H2 Q) : tOp r ta tb σ H Q := q
theorem r_un {r : V → Hp → VK → Prop} (q : ta σ H fun x H1 => r x H1 Q) : tUn r ta σ H Q := q
theorem r_i0 {g : Int → Int → V} {i j : Int} (q : Q (g i j) H) : rI0 g (.int i) (.int j) H Q := ⟨i, j, rfl, rfl, q⟩
theorem r_i {C : Int → Int → Prop} {g : Int → Int → V} {i j : Int} (c : C i j) (q : Q (g i j) H) : rI C g (.int i) (.int j) H Q := ⟨i, j, rfl, rfl, c, q⟩
theorem r_u {g : Int → V} {i : Int} (q : Q (g i) H) : rU g (.int i) H Q := ⟨i, rfl, q⟩
theorem r_eqI {i j : Int} (q : Q (.bl (decide (i = j))) H) : rEq (.int i) (.int j) H Q := ⟨rfl, by
  have e : decide (V.int i = V.int j) = decide (i = j) := by by_cases h : i = j <;> simp [h]
  rw [e]; exact q⟩
theorem r_neI {i j : Int} (q : Q (.bl (!decide (i = j))) H) : rNe (.int i) (.int j) H Q := ⟨rfl, by
  have e : decide (V.int i = V.int j) = decide (i = j) := by by_cases h : i = j <;> simp [h]
  rw [e]; exact q⟩
theorem r_eqS {i j : Str} (q : Q (.bl (decide (i = j))) H) : rEq (.str i) (.str j) H Q := ⟨rfl, by
  have e : decide (V.str i = V.str j) = decide (i = j) := by by_cases h : i = j <;> simp [h]
  rw [e]; exact q⟩
theorem r_neS {i j : Str} (q : Q (.bl (!decide (i = j))) H) : rNe (.str i) (.str j) H Q := ⟨rfl, by
  have e : decide (V.str i = V.str j) = decide (i = j) := by by_cases h : i = j <;> simp [h]
  rw [e]; exact q⟩
theorem r_test {Q : Bool → Hp → Prop} (q : te σ H fun x H' => ∃ k, x = .bl k ∧ Q k H') : tTest te σ H Q := q
theorem r_B {Q : Bool → Hp → Prop} (q : te σ H fun x H' => ∃ k, x = .bl k ∧ Q k H') : tB te σ H Q := q
theorem r_bl {Q : Bool → Prop} {b : Bool} (q : Q b) : ∃ k, V.bl b = .bl k ∧ Q k := ⟨b, rfl, q⟩
theorem r_and {Q : Bool → Hp → Prop} (q : t σ H fun c H1 => if c = true then u σ H1 Q else Q false H1) : tAnd t u σ H Q := q
theorem r_or {Q : Bool → Hp → Prop} (q : t σ H fun c H1 => if c = true then Q true H1 else u σ H1 Q) : tOr t u σ H Q := q
theorem r_not {Q : Bool → Hp → Prop} (q : t σ H fun c H1 => Q (!c) H1) : tNot t σ H Q := q
theorem r_andV (q : ta σ H fun x H1 => ∃ c, x = .bl c ∧ if c = true then tb σ H1 Q else Q (.bl false) H1) : tAndV ta tb σ H Q := q
theorem r_orV (q : ta σ H fun x H1 => ∃ c, x = .bl c ∧ if c = true then Q (.bl true) H1 else tb σ H1 Q) : tOrV ta tb σ H Q := q
theorem r_notV (q : ta σ H fun x H1 => ∃ c, x = .bl c ∧ Q (.bl (!c)) H1) : tNotV ta σ H Q := q
theorem r_chain {r r' : R2} {tc : TE} (q : ta σ H fun x H1 => tb σ H1 fun y H2 => r x y H2 fun z H3 => ∃ k, z = .bl k ∧ if k = true then tc σ H3 fun w H4 => r' y w H4 Q else Q (.bl false) H3) : tChain r r' ta tb tc σ H Q := q
theorem r_tif {t : TT} (q : t σ H fun c H1 => if c = true then ta σ H1 Q else tb σ H1 Q) : tIf t ta tb σ H Q := q
theorem r_nil {Q : List V → Hp → Prop} (q : Q [] H) : tNil σ H Q := q
theorem r_cons {Q : List V → Hp → Prop} (q : ta σ H fun x H1 => tr σ H1 fun xs H2 => Q (x :: xs) H2) : tCons ta tr σ H Q := q
theorem r_cb {r : List V → Hp → VK → Prop} {t : TA} (q : t σ H fun vs H1 => r vs H1 Q) : tCB r t σ H Q := q
theorem r_call {sp : Sp} {E : XK} {t : TA} (q : t σ H fun vs H1 => sp vs H1 Q E) : tCall sp [] E t σ H Q := by
  unfold tCall
  simp only [List.append_nil]
  exact q
theorem r_seq (q : s1 { D with nx := s2 D } σ H) : tSeq s1 s2 D σ H := q
theorem r_asg {g : TG} (q : te σ H fun x H1 => g x σ H1 D.nx) : tAsg te g D σ H := q
theorem r_name {Q : L2.St → Hp → Prop} (q : Q (σ.set i (some v)) H) : gName i v σ H Q := q
theorem r_drop (q : te σ H fun _ H1 => D.nx σ H1) : tDrop te D σ H := q
theorem r_ret (q : te σ H D.rt) : tRet te D σ H := q
theorem r_retN (q : D.rt .non H) : tRetN D σ H := q
theorem r_next (q : D.nx σ H) : tNext D σ H := q
theorem r_ifS {c : TT} (q : c σ H fun b H1 => if b = true then s1 D σ H1 else s2 D σ H1) : tIfS c s1 s2 D σ H := q
/-- new tuples and lists of written parts -/
def KTup (Q : VK) : List V → Hp → Prop := fun xs H1 => xs.length ≤ sizeLine ∧ ∀ p, H1 p = none → Q (.ref p) (upd H1 p (.tup xs))
def KLst (Q : VK) : List V → Hp → Prop := fun xs H1 => xs.length ≤ sizeLine ∧ ∀ p, H1 p = none → Q (.ref p) (upd H1 p (.lst xs))
theorem r_tup {t : TA} (q : t σ H (KTup Q)) : tTup t σ H Q := q
theorem r_lst {t : TA} (q : t σ H (KLst Q)) : tLst t σ H Q := q
theorem r_ktup {xs : List V} (h : xs.length ≤ sizeLine) (q : ∀ p H', H p = none → Same H H' → H' p = some (.tup xs) → Q (.ref p) H') : KTup Q xs H := ⟨h, nw q⟩
theorem r_klst {xs : List V} (h : xs.length ≤ sizeLine) (q : ∀ p H', H p = none → Same H H' → H' p = some (.lst xs) → Q (.ref p) H') : KLst Q xs H := ⟨h, nw q⟩
/-- items, slices, fields -/
theorem r_ixL {p : Addr} {xs : List V} {i : Int} (h : SqL K H p xs) (ha : atI xs i = some v) (q : Q v H) : rIxL K (.ref p) (.int i) H Q := ⟨p, xs, i, v, rfl, rfl, h, ha, q⟩
theorem r_ixT {p : Addr} {xs : List V} {i : Int} (h : SqT K H p xs) (ha : atI xs i = some v) (q : Q v H) : rIxT K (.ref p) (.int i) H Q := ⟨p, xs, i, v, rfl, rfl, h, ha, q⟩
theorem r_ixS {z : Str} {i : Int} {c : Nat} (h : z.length ≤ sizeLine) (ha : atI z.cps.toList i = some c) (q : Q (.str ⟨#[c]⟩) H) : rIxS (.str z) (.int i) H Q := ⟨z, i, c, rfl, rfl, h, ha, q⟩
theorem r_sl {r : V → Option Int → Option Int → Hp → VK → Prop} {tl th : TO} (q : te σ H fun x H1 => tl σ H1 fun l H2 => th σ H2 fun u H3 => r x l u H3 Q) : tSl r te tl th σ H Q := q
theorem r_nopart {Q : Option Int → Hp → Prop} (q : Q none H) : tNoPart σ H Q := q
theorem r_part {Q : Option Int → Hp → Prop} (q : te σ H fun x H1 => ∃ i, x = .int i ∧ Q (some i) H1) : tPart te σ H Q := q
theorem r_int {Q : Int → Prop} {i : Int} (q : Q i) : ∃ k, V.int i = .int k ∧ Q k := ⟨i, rfl, q⟩
theorem r_slL {a : Addr} {xs : List V} {lo hi : Option Int} (h : SqL K H a xs) (q : ∀ p H', H p = none → Same H H' → H' p = some (.lst (cutV xs lo hi)) → Q (.ref p) H') : rSlL K (.ref a) lo hi H Q := ⟨a, xs, rfl, h, nw q⟩
theorem r_slS {z : Str} {lo hi : Option Int} (h : z.length ≤ sizeLine) (q : Q (.str (cutS z lo hi)) H) : rSlS (.str z) lo hi H Q := ⟨z, rfl, h, q⟩
def KFld (K : PySem.W.Frag) (f : Str) (Q : VK) : V → Hp → Prop := fun x H1 => ∃ a C dx fs v, x = .ref a ∧ H1 a = some (.ins C dx fs) ∧ Cls K C ∧ NoAttr K C f ∧ fs.lookup f = some v ∧ Q v H1
theorem r_fld {f : Str} (q : ta σ H (KFld K f Q)) : tFld K ta f σ H Q := q
theorem r_kfld {f : Str} {a C dx : Addr} {fs : List (Str × V)} (h : H a = some (.ins C dx fs)) (c : Cls K C) (n : NoAttr K C f) (l : fs.lookup f = some v) (q : Q v H) : KFld K f Q (.ref a) H := ⟨a, C, dx, fs, v, rfl, h, c, n, l, q⟩
theorem r_cat {l b : Addr} {xs zs : List V} (h1 : H l = some (.lst xs)) (h2 : H b = some (.lst zs)) (hz : xs.length + zs.length ≤ sizeLine) (q : ∀ p H', H p = none → Same H H' → H' p = some (.lst (xs ++ zs)) → Q (.ref p) H') : rCat (.ref l) (.ref b) H Q := ⟨l, b, xs, zs, rfl, rfl, h1, h2, hz, nw q⟩
def KBM (K : PySem.W.Frag) (T : String) (r : V → List V → Hp → VK → Prop) (t : TA) (σ : L2.St) (Q : VK) : V → Hp → Prop := fun x H1 => tyV K T x H1 ∧ t σ H1 fun xs H2 => r x xs H2 Q
theorem r_bm {T : String} {r : V → List V → Hp → VK → Prop} {to : TE} {t : TA} (q : to σ H (KBM K T r t σ Q)) : tBM K T r to t σ H Q := q
theorem r_kbmL {r : V → List V → Hp → VK → Prop} {t : TA} {a : Addr} {xs : List V} (h : SqL K H a xs) (q : t σ H fun ys H2 => r (.ref a) ys H2 Q) : KBM K "list" r t σ Q (.ref a) H := ⟨.inl ⟨rfl, _, h⟩, q⟩
theorem r_kbmS {r : V → List V → Hp → VK → Prop} {t : TA} {z : Str} (q : t σ H fun ys H2 => r (.str z) ys H2 Q) : KBM K "str" r t σ Q (.str z) H := ⟨rfl, q⟩
theorem r_append {a : Addr} {xs : List V} (h : H a = some (.lst xs)) (hz : xs.length < sizeLine) (q : Q .non (upd H a (.lst (xs ++ [v])))) : rAppend (.ref a) [v] H Q := ⟨a, xs, v, rfl, rfl, h, hz, q⟩
theorem r_extend {a b : Addr} {xs zs : List V} (h : H a = some (.lst xs)) (h2 : H b = some (.lst zs)) (hz : xs.length + zs.length ≤ sizeLine) (q : Q .non (upd H a (.lst (xs ++ zs)))) : rExtend (.ref a) [.ref b] H Q := ⟨a, b, xs, zs, rfl, rfl, h, h2, hz, q⟩
/-- ifs -/
theorem r_if {A B : Prop} {c : Bool} (h1 : c = true → A) (h2 : c = false → B) : if c = true then A else B := by
  cases c with
  | true => exact iteT (h1 rfl)
  | false => exact iteF (h2 rfl)
theorem r_ifD {A B p : Prop} [Decidable p] (h1 : p → A) (h2 : ¬ p → B) : if decide p = true then A else B := r_if (fun e => h1 (of_decide_eq_true e)) fun e => h2 (of_decide_eq_false e)
theorem r_ifN {A B p : Prop} [Decidable p] (h1 : ¬ p → A) (h2 : p → B) : if (!decide p) = true then A else B := r_if (fun e => h1 (by simpa using e)) fun e => h2 (by simpa using e)
theorem r_yes {A B p : Prop} [Decidable p] (h : p) (q : A) : if decide p = true then A else B := by rw [decide_eq_true h]; exact iteT q
theorem r_no {A B p : Prop} [Decidable p] (h : ¬ p) (q : B) : if decide p = true then A else B := by rw [decide_eq_false h]; exact iteF q
theorem r_yesN {A B p : Prop} [Decidable p] (h : ¬ p) (q : A) : if (!decide p) = true then A else B := by rw [decide_eq_false h]; exact iteT q
theorem r_noN {A B p : Prop} [Decidable p] (h : p) (q : B) : if (!decide p) = true then A else B := by rw [decide_eq_true h]; exact iteF q
end
/-! ### isinstance of plain values -/
section
variable {K : PySem.W.Frag} {H : Hp} {Q : VK}
theorem r_isi {x : V} {t : Value} {n : String} {b : Bool} (ty : TyX K H x t) (h : PySem.W.kitOne K t (.type n) = some b) (q : Q (.bl b) H) : rIsi K [x, .ty n] H Q := ⟨x, .ty n, t, .type n, b, rfl, .ty n, ty, h, q⟩
end
section
variable {K : PySem.W.Frag} {H : Hp} {Q : VK}
theorem r_isiI {n : Int} (q : Q (.bl true) H) : rIsi K [.int n, .ty "int"] H Q := r_isi (.base (.int n)) (kit_ty (by decide +kernel)) q
theorem r_isiB {n : Int} (q : Q (.bl false) H) : rIsi K [.int n, .ty "bool"] H Q := r_isi (.base (.int n)) (kit_ty (by decide +kernel)) q
theorem r_isiS {z : Str} (q : Q (.bl true) H) : rIsi K [.str z, .ty "str"] H Q := r_isi (.base (.str z)) (kit_ty (by decide +kernel)) q
theorem r_isiL {a : Addr} {xs : List V} (h : H a = some (.lst xs)) (q : Q (.bl true) H) : rIsi K [.ref a, .ty "list"] H Q := r_isi (.base (.lst h)) (kit_ty (by decide +kernel)) q
theorem r_isiT {a : Addr} {xs : List V} (h : H a = some (.tup xs)) (q : Q (.bl true) H) : rIsi K [.ref a, .ty "tuple"] H Q := r_isi (.base (.tup h)) (kit_ty (by decide +kernel)) q
theorem r_nF {A B : Prop} (q : A) : if (!false) = true then A else B := iteT q
theorem r_nT {A B : Prop} (q : B) : if (!true) = true then A else B := iteF q
end
/-! ### calls of a def that stands -/
section
variable {X : Cx} {CX : CXT} {k j : Nat} {f C : Addr} {ps : List Str} {sp : Sp} {E : XK} {x m : Str} {p pos apos : Pos} {e o : Expr} {es : List Expr} {t : TA} {ta : TE}
theorem pe_cal (c : Cal X.prog X.w X.K X.mg X.base CX k f ps sp) (hr : Room j X.A) (hk : k ≤ j) (hg : Gl X x) (hm : X.mg x = some (.ref f)) (hx : Passes CX X E) (ha : PA X (e :: es) t) (hdb : (x == ("__debug__" : Str)) = false := by decide)
    (he : starEach (e :: es) X.env = (false, eval e X.env) :: starEach es X.env := by rfl) (hpl : (backTo pos (starEach es X.env)).any (·.1) = false := by rfl) : PE X (.Call (.Name x p) (e :: es) [] pos) (tCall sp [] E t) := by
  obtain ⟨⟨fd, G, b⟩, kp⟩ := c
  exact pe_call G (hr.mono hk) hg hm kp b .nil hx ha hdb he hpl
theorem pe_calS {E : L2.St → XK} (c : Cal X.prog X.w X.K X.mg X.base CX k f ps sp) (hr : Room j X.A) (hk : k ≤ j) (hg : Gl X x) (hm : X.mg x = some (.ref f)) (hx : ∀ σ, PassesAt CX X σ (E σ)) (ha : PA X (e :: es) t) (hdb : (x == ("__debug__" : Str)) = false := by decide)
    (he : starEach (e :: es) X.env = (false, eval e X.env) :: starEach es X.env := by rfl) (hpl : (backTo pos (starEach es X.env)).any (·.1) = false := by rfl) : PE X (.Call (.Name x p) (e :: es) [] pos) (tCallS sp E t) := by
  obtain ⟨⟨fd, G, b⟩, kp⟩ := c
  exact pe_callS G (hr.mono hk) hg hm kp b hx ha hdb he hpl
theorem pe_calM {pl : Sem Bool} (he : PE X o ta) (cl : Cls X.K C) (hm : Meth X.K C m f) (c : Cal X.prog X.w X.K X.mg X.base CX k f ps sp) (hr : Room j X.A) (hk : k ≤ j) (hx : Passes CX X E) (ha : PA X (e :: es) t)
    (hst : starEach (e :: es) X.env = (false, eval e X.env) :: starEach es X.env := by rfl) (hpl : (backTo pos (starEach es X.env)).any (·.1) = false := by rfl)
    (ht : eval (.Call (.Attribute o m apos) (e :: es) [] pos) X.env = (do
      let ov ← eval o X.env
      standAt apos.atName
      let (f, first) ← holding [ov] (getMethod ov m pl)
      callWith pos f first (backTo pos (starEach (e :: es) X.env)) (backToKw pos (keywordEach [] X.env))) := by rfl) : PE X (.Call (.Attribute o m apos) (e :: es) [] pos) (tMeth C m sp [] E ta t) := by
  obtain ⟨⟨fd, G, b⟩, kp⟩ := c
  exact pe_meth (pl := pl) he cl hm G (hr.mono hk) b .nil hx ha hst hpl ht
theorem pe_calM0 {pl : Sem Bool} (he : PE X o ta) (cl : Cls X.K C) (hm : Meth X.K C m f) (c : Cal X.prog X.w X.K X.mg X.base CX k f ps sp) (hr : Room j X.A) (hk : k ≤ j) (hx : Passes CX X E)
    (ht : eval (.Call (.Attribute o m apos) [] [] pos) X.env = (do
      let ov ← eval o X.env
      standAt apos.atName
      let (f, first) ← holding [ov] (getMethod ov m pl)
      callWith pos f first (backTo pos (starEach [] X.env)) (backToKw pos (keywordEach [] X.env))) := by rfl) : PE X (.Call (.Attribute o m apos) [] [] pos) (tMeth C m sp [] E ta tNil) := by
  obtain ⟨⟨fd, G, b⟩, kp⟩ := c
  exact pe_meth0 (pl := pl) he cl hm G (hr.mono hk) b .nil hx ht
theorem pe_calK (M : Mk X.K C f) (c : Cal X.prog X.w X.K X.mg X.base CX k f ps sp) (hr : Room j X.A) (hk : k + 1 ≤ j) (hg : Gl X x) (hm : X.mg x = some (.ref C)) (hx : Passes CX X E)
    (ha : PA X (e :: es) t) (hdb : (x == ("__debug__" : Str)) = false := by decide) (he : starEach (e :: es) X.env = (false, eval e X.env) :: starEach es X.env := by rfl) (hpl : (backTo pos (starEach es X.env)).any (·.1) = false := by rfl) :
    PE X (.Call (.Name x p) (e :: es) [] pos) (tMake C sp [] E t) := by
  obtain ⟨⟨fd, G, b⟩, kp⟩ := c
  exact pe_make M G (hr.mono hk) hg hm b .nil hx ha hdb he hpl
theorem pe_calK0 (M : Mk X.K C f) (c : Cal X.prog X.w X.K X.mg X.base CX k f ps sp) (hr : Room j X.A) (hk : k + 1 ≤ j) (hg : Gl X x) (hm : X.mg x = some (.ref C)) (hx : Passes CX X E) (hdb : (x == ("__debug__" : Str)) = false := by decide) :
    PE X (.Call (.Name x p) [] [] pos) (tMake C sp [] E tNil) := by
  obtain ⟨⟨fd, G, b⟩, kp⟩ := c
  exact pe_make0 M G (hr.mono hk) hg hm b .nil hx hdb
end
/-- a def with defaults dvs behind its written arguments -/
structure CalD (P : Program) (w : World) (K : PySem.W.Frag) (mg : Str → Option Value) (base : Heap) (CX : CXT) (k : Nat) (f : Addr) (ps : List Str) (dvs : List V) (sp : Sp) : Prop where
  ex : ∃ (fd : FuncData) (ds : List Value), FnOk P w K mg base CX k f fd ps sp ∧ Vals dvs ds ∧ Binds K fd ps ds
  kp : PySem.W.keepIn K (.ref f) = true
section
variable {X : Cx} {CX : CXT} {k j : Nat} {f C : Addr} {ps : List Str} {sp : Sp} {E : XK} {x m : Str} {p pos apos : Pos} {e o : Expr} {es : List Expr} {t : TA} {ta : TE} {dvs : List V}
theorem pe_calMD {pl : Sem Bool} (he : PE X o ta) (cl : Cls X.K C) (hm : Meth X.K C m f) (c : CalD X.prog X.w X.K X.mg X.base CX k f ps dvs sp) (hr : Room j X.A) (hk : k ≤ j) (hx : Passes CX X E) (ha : PA X (e :: es) t)
    (hst : starEach (e :: es) X.env = (false, eval e X.env) :: starEach es X.env := by rfl) (hpl : (backTo pos (starEach es X.env)).any (·.1) = false := by rfl)
    (ht : eval (.Call (.Attribute o m apos) (e :: es) [] pos) X.env = (do
      let ov ← eval o X.env
      standAt apos.atName
      let (f, first) ← holding [ov] (getMethod ov m pl)
      callWith pos f first (backTo pos (starEach (e :: es) X.env)) (backToKw pos (keywordEach [] X.env))) := by rfl) : PE X (.Call (.Attribute o m apos) (e :: es) [] pos) (tMeth C m sp dvs E ta t) := by
  obtain ⟨⟨fd, ds, G, v, b⟩, kp⟩ := c
  exact pe_meth (pl := pl) he cl hm G (hr.mono hk) b v hx ha hst hpl ht
/-- o.m(..) in a try's body: what is raised is wished for at the slots -/
def tMethS2 (C : Addr) (m : Str) (sp : Sp) (E : L2.St → XK) (ta : TE) (t : TA) : TE := fun σ H Q => ta σ H fun x H1 => ∃ a dx fs, x = .ref a ∧ H1 a = some (.ins C dx fs) ∧ fs.lookup m = none ∧ t σ H1 fun vs H2 => sp (x :: vs) H2 Q (E σ)
theorem pe_calMS {E : L2.St → XK} {pl : Sem Bool} (he : PE X o ta) (cl : Cls X.K C) (hm : Meth X.K C m f) (c : Cal X.prog X.w X.K X.mg X.base CX k f ps sp) (hr : Room j X.A) (hk : k ≤ j) (hx : ∀ σ, PassesAt CX X σ (E σ)) (ha : PA X (e :: es) t)
    (hst : starEach (e :: es) X.env = (false, eval e X.env) :: starEach es X.env := by rfl) (hpl : (backTo pos (starEach es X.env)).any (·.1) = false := by rfl)
    (ht : eval (.Call (.Attribute o m apos) (e :: es) [] pos) X.env = (do
      let ov ← eval o X.env
      standAt apos.atName
      let (f, first) ← holding [ov] (getMethod ov m pl)
      callWith pos f first (backTo pos (starEach (e :: es) X.env)) (backToKw pos (keywordEach [] X.env))) := by rfl) : PE X (.Call (.Attribute o m apos) (e :: es) [] pos) (tMethS2 C m sp E ta t) := by
  obtain ⟨⟨fd, G, b⟩, kp⟩ := c
  refine ⟨fun pins s σ H Q I h => ?_⟩
  refine PySem.W.methodCall_KW (pl := pl) (thn (he.run pins s σ H _ I h) fun u s1 ⟨x, H1, I1, rx, a, dx, fs, ex, ea, l, q⟩ => ?_) ht
  subst ex
  obtain rfl : u = Value.ref a := rx
  refine getmeth_ok I1 ea cl hm l ?_
  refine PySem.W.callWith_K (first := [.ref a]) (h₀ := X.base) I.ok.mod.kin hm.kp (thn (ha.run pos pins s1 σ H1 _ I1 q) fun us s2 ⟨vs, H2, I2, r, q2⟩ => ⟨I2.kIn, ?_⟩) hst hpl
  exact run_fnS (us := .ref a :: us) (vs := .ref a :: vs) G (hr.mono hk) b (hx σ) I2 (.cons rfl r) q2
end
section
variable {σ : L2.St} {H : Hp} {Q : VK} {ta : TE} {t : TA} {sp : Sp} {C : Addr} {m : Str} {dvs : List V}
def KMethS (C : Addr) (m : Str) (sp : Sp) (E : XK) (t : TA) (σ : L2.St) (Q : VK) : V → Hp → Prop := fun x H1 => ∃ a dx fs, x = .ref a ∧ H1 a = some (.ins C dx fs) ∧ fs.lookup m = none ∧ t σ H1 fun vs H2 => sp (x :: vs) H2 Q E
theorem r_methS {E : L2.St → XK} (q : ta σ H (KMethS C m sp (E σ) t σ Q)) : tMethS2 C m sp E ta t σ H Q := q
theorem r_kmethS {E : XK} {a dx : Addr} {fs : List (Str × V)} (h : H a = some (.ins C dx fs)) (l : fs.lookup m = none) (q : t σ H fun vs H2 => sp (.ref a :: vs) H2 Q E) : KMethS C m sp E t σ Q (.ref a) H := ⟨a, dx, fs, rfl, h, l, q⟩
def KMethD (C : Addr) (m : Str) (sp : Sp) (dvs : List V) (E : XK) (t : TA) (σ : L2.St) (Q : VK) : V → Hp → Prop := fun x H1 => ∃ a dx fs, x = .ref a ∧ H1 a = some (.ins C dx fs) ∧ fs.lookup m = none ∧ t σ H1 fun vs H2 => sp (x :: (vs ++ dvs)) H2 Q E
theorem r_methD {E : XK} (q : ta σ H (KMethD C m sp dvs E t σ Q)) : tMeth C m sp dvs E ta t σ H Q := q
theorem r_kmethD {E : XK} {a dx : Addr} {fs : List (Str × V)} (h : H a = some (.ins C dx fs)) (l : fs.lookup m = none) (q : t σ H fun vs H2 => sp (.ref a :: (vs ++ dvs)) H2 Q E) : KMethD C m sp dvs E t σ Q (.ref a) H := ⟨a, dx, fs, rfl, h, l, q⟩
end
section
variable {σ : L2.St} {H : Hp} {K : PySem.W.Frag} {Q : VK} {ta : TE} {t : TA} {sp : Sp} {E : XK} {C : Addr} {m : Str}
def KMeth (C : Addr) (m : Str) (sp : Sp) (E : XK) (t : TA) (σ : L2.St) (Q : VK) : V → Hp → Prop := fun x H1 => ∃ a dx fs, x = .ref a ∧ H1 a = some (.ins C dx fs) ∧ fs.lookup m = none ∧ t σ H1 fun vs H2 => sp (x :: vs) H2 Q E
theorem r_meth (q : ta σ H (KMeth C m sp E t σ Q)) : tMeth C m sp [] E ta t σ H Q := by
  unfold tMeth
  simp only [List.append_nil]
  exact q
theorem r_kmeth {a dx : Addr} {fs : List (Str × V)} (h : H a = some (.ins C dx fs)) (l : fs.lookup m = none) (q : t σ H fun vs H2 => sp (.ref a :: vs) H2 Q E) : KMeth C m sp E t σ Q (.ref a) H := ⟨a, dx, fs, rfl, h, l, q⟩
def KMake (C : Addr) (sp : Sp) (E : XK) (Q : VK) : List V → Hp → Prop := fun vs H1 => ∀ x dx, H1 x = none → H1 dx = none → dx ≠ x → sp (.ref x :: vs) (upd (upd H1 dx (.own x)) x (.ins C dx [])) (fun v H2 => v = .non ∧ Q (.ref x) H2) E
theorem r_make (q : t σ H (KMake C sp E Q)) : tMake C sp [] E t σ H Q := by
  unfold tMake
  simp only [List.append_nil]
  exact q
theorem r_callS {E : L2.St → XK} (q : t σ H fun vs H1 => sp vs H1 Q (E σ)) : tCallS sp E t σ H Q := q
theorem u65 {k : Nat} {A : Around} (hr : Room k A) : A.units + 65 < cLine := by have := hr.un; omega
end
end K44
set_option Elab.async false
set_option linter.all false
set_option maxRecDepth 100000
set_option maxHeartbeats 4000000
namespace K44
open PySem PySem.Spec PyProof.Rows L2
/-! Comprehensions and loops, what is walked. -/
section
variable {σ : L2.St} {H : Hp} {K : PySem.W.Frag} {Q : VK} {vs : List Nat} {g : TG} {tt : TT} {te : TE}
theorem r_tyes {Q : Bool → Hp → Prop} (q : Q true H) : tYes σ H Q := q
def KLc (g : TG) (tt : TT) (te : TE) (vs : List Nat) (σ : L2.St) (Q : VK) : It → Hp → Prop := fun J H1 => ∀ D, H1 D = none → ∃ W : Nat → Nat → Hp → Prop, (∃ m, W 0 m (upd H1 D (.lst []))) ∧ ∀ i m H, W i m H →
  (J.stop i H ∧ Q (.ref D) H) ∨ (J.go i H ∧ ∃ Nx : Hp → Prop, (∀ H', Nx H' → ∃ m', m' < m ∧ W (i + 1) m' H') ∧ ∀ x H', J.yld i H x H' → g x (wipe σ vs) H' fun σ2 H2 => wipe σ2 vs = wipe σ vs ∧ tt σ2 H2 fun b H3 =>
    if b = true then te σ2 H3 fun y H4 => ∃ acc, H4 D = some (.lst acc) ∧ acc.length < sizeLine ∧ Nx (upd H4 D (.lst (acc ++ [y]))) else Nx H3)
theorem r_lc {wi : TI} (q : wi σ H (KLc g tt te vs σ Q)) : tLc wi g tt te vs σ H Q := q
def KFor (g : TG) (tb : TS) (D : Ends) (σ : L2.St) : It → Hp → Prop := fun J H1 => ∃ W : Nat → Nat → L2.St → Hp → Prop, (∃ m, W 0 m σ H1) ∧ ∀ i m σ H, W i m σ H →
  (J.stop i H ∧ D.nx σ H) ∨ (J.go i H ∧ ∃ N : L2.St → Hp → Prop, (∀ σ' H', N σ' H' → ∃ m', m' < m ∧ W (i + 1) m' σ' H') ∧ ∀ x H', J.yld i H x H' → g x σ H' fun σ2 H2 => tb { D with nx := N, ct := N, bk := D.nx } σ2 H2)
theorem r_for {wi : TI} {tb : TS} {D : Ends} (q : wi σ H (KFor g tb D σ)) : tFor wi g tb D σ H := q
theorem kfor {J : It} {n : Nat} {G : Hp → Prop} {Y : Nat → Hp → V → Hp → Prop} (w : Walk J n G Y) {tb : TS} {D : Ends} (Pv : Nat → L2.St → Hp → Prop) (h0 : Pv 0 σ H) (hG : ∀ i σ H, i ≤ n → Pv i σ H → G H)
    (hs : ∀ i x σ H H', i < n → Pv i σ H → Y i H x H' → g x σ H' fun σ2 H2 => tb { D with nx := Pv (i + 1), ct := Pv (i + 1), bk := D.nx } σ2 H2) (hd : ∀ σ H, Pv n σ H → D.nx σ H) : KFor g tb D σ J H := for_it w Pv h0 hG hs hd
/-- while -/
def KWh (W : Nat → L2.St → Hp → Prop) (m : Nat) (tb : TS) (D : Ends) (σ : L2.St) : Bool → Hp → Prop := fun b H1 =>
  if b = true then ∃ N : L2.St → Hp → Prop, (∀ σ' H', N σ' H' → ∃ m', m' < m ∧ W m' σ' H') ∧ tb { D with nx := N, ct := N, bk := D.nx } σ H1 else D.nx σ H1
theorem r_while {c : TT} {tb : TS} {D : Ends} (W : Nat → L2.St → Hp → Prop) (m0 : Nat) (w0 : W m0 σ H) (step : ∀ m σ H, W m σ H → c σ H (KWh W m tb D σ)) : tWhile c tb D σ H := ⟨W, ⟨m0, w0⟩, step⟩
theorem r_kwT {W : Nat → L2.St → Hp → Prop} {m : Nat} {tb : TS} {D : Ends} (q : tb { D with nx := fun σ' H' => ∃ m', m' < m ∧ W m' σ' H', ct := fun σ' H' => ∃ m', m' < m ∧ W m' σ' H', bk := D.nx } σ H) : KWh W m tb D σ true H := iteT ⟨_, fun _ _ h => h, q⟩
theorem r_kwF {W : Nat → L2.St → Hp → Prop} {m : Nat} {tb : TS} {D : Ends} (q : D.nx σ H) : KWh W m tb D σ false H := iteF q
theorem r_kwD {W : Nat → L2.St → Hp → Prop} {m : Nat} {tb : TS} {D : Ends} {p : Prop} [Decidable p] (h1 : p → tb { D with nx := fun σ' H' => ∃ m', m' < m ∧ W m' σ' H', ct := fun σ' H' => ∃ m', m' < m ∧ W m' σ' H', bk := D.nx } σ H) (h2 : ¬ p → D.nx σ H) : KWh W m tb D σ (decide p) H := by
  by_cases h : p
  · rw [decide_eq_true h]; exact r_kwT (h1 h)
  · rw [decide_eq_false h]; exact r_kwF (h2 h)
/-- what is walked, by its own words -/
def KIl (K : PySem.W.Frag) (R : It → Hp → Prop) : V → Hp → Prop := fun x H1 => ∃ a, x = .ref a ∧ (∃ xs, SqL K H1 a xs) ∧ R (Itl K a) H1
theorem r_ilist {tl : TE} {R : It → Hp → Prop} (q : tl σ H (KIl K R)) : iList K tl σ H R := q
theorem r_kil {a : Addr} {xs : List V} {R : It → Hp → Prop} (h : SqL K H a xs) (q : R (Itl K a) H) : KIl K R (.ref a) H := ⟨a, rfl, ⟨xs, h⟩, q⟩
def KIt (K : PySem.W.Frag) (R : It → Hp → Prop) : V → Hp → Prop := fun x H1 => ∃ a, x = .ref a ∧ (∃ xs, SqT K H1 a xs) ∧ R (Itt K a) H1
theorem r_itup {tl : TE} {R : It → Hp → Prop} (q : tl σ H (KIt K R)) : iTup K tl σ H R := q
theorem r_kit {a : Addr} {xs : List V} {R : It → Hp → Prop} (h : SqT K H a xs) (q : R (Itt K a) H) : KIt K R (.ref a) H := ⟨a, rfl, ⟨xs, h⟩, q⟩
def KI1 (R : It → Hp → Prop) : List V → Hp → Prop := fun vs H1 => ∃ j : Int, vs = [.int j] ∧ -(2 ^ 62) ≤ j ∧ j < 2 ^ 62 ∧ R (Itr 0 j.toNat) H1
theorem r_irng1 {ta : TA} {R : It → Hp → Prop} (q : ta σ H (KI1 R)) : iRng1 ta σ H R := q
theorem r_ki1 {j : Int} {R : It → Hp → Prop} (h1 : -(2 ^ 62) ≤ j) (h2 : j < 2 ^ 62) (q : R (Itr 0 j.toNat) H) : KI1 R [.int j] H := ⟨j, rfl, h1, h2, q⟩
def KI2 (R : It → Hp → Prop) : List V → Hp → Prop := fun vs H1 => ∃ i j : Int, vs = [.int i, .int j] ∧ (-(2 ^ 62) ≤ i ∧ i < 2 ^ 62 ∧ -(2 ^ 62) ≤ j ∧ j < 2 ^ 62) ∧ R (Itr i (j - i).toNat) H1
theorem r_irng2 {ta : TA} {R : It → Hp → Prop} (q : ta σ H (KI2 R)) : iRng2 ta σ H R := q
theorem r_ki2 {i j : Int} {R : It → Hp → Prop} (h : -(2 ^ 62) ≤ i ∧ i < 2 ^ 62 ∧ -(2 ^ 62) ≤ j ∧ j < 2 ^ 62) (q : R (Itr i (j - i).toNat) H) : KI2 R [.int i, .int j] H := ⟨i, j, rfl, h, q⟩
def KIs (R : It → Hp → Prop) : V → Hp → Prop := fun v H1 => ∃ x, v = .str x ∧ R (Its x) H1
theorem r_istr {te : TE} {R : It → Hp → Prop} (q : te σ H (KIs R)) : iStr te σ H R := q
theorem r_kis {z : Str} {R : It → Hp → Prop} (q : R (Its z) H) : KIs R (.str z) H := ⟨z, rfl, q⟩
def KIe (K : PySem.W.Frag) (R : It → Hp → Prop) : List V → Hp → Prop := fun vs H1 => ∃ a xs, vs = [.ref a] ∧ SqL K H1 a xs ∧ R (Ite K a) H1
theorem r_ienum {ta : TA} {R : It → Hp → Prop} (q : ta σ H (KIe K R)) : iEnum K ta σ H R := q
theorem r_kie {a : Addr} {xs : List V} {R : It → Hp → Prop} (h : SqL K H a xs) (q : R (Ite K a) H) : KIe K R [.ref a] H := ⟨a, xs, rfl, h, q⟩
def KIz (K : PySem.W.Frag) (R : It → Hp → Prop) : List V → Hp → Prop := fun vs H1 => ∃ a b xs ys, vs = [.ref a, .ref b] ∧ SqL K H1 a xs ∧ SqL K H1 b ys ∧ R (Itz K a b) H1
theorem r_izip {ta : TA} {R : It → Hp → Prop} (q : ta σ H (KIz K R)) : iZip K ta σ H R := q
theorem r_kiz {a b : Addr} {xs ys : List V} {R : It → Hp → Prop} (h : SqL K H a xs) (h2 : SqL K H b ys) (q : R (Itz K a b) H) : KIz K R [.ref a, .ref b] H := ⟨a, b, xs, ys, rfl, h, h2, q⟩
/-- targets that are tuples -/
theorem r_gt2 {i j T : Nat} {x y : V} {Q : L2.St → Hp → Prop} (h : SqT K H T [x, y]) (q : Q ((σ.set i (some x)).set j (some y)) H) : gTup K 2 (gCons (gName i) (gCons (gName j) gNil)) (.ref T) σ H Q :=
  ⟨T, [x, y], rfl, h, rfl, x, [y], rfl, y, [], rfl, rfl, q⟩
theorem r_gt3 {i j k T : Nat} {x y z : V} {Q : L2.St → Hp → Prop} (h : SqT K H T [x, y, z]) (q : Q (((σ.set i (some x)).set j (some y)).set k (some z)) H) : gTup K 3 (gCons (gName i) (gCons (gName j) (gCons (gName k) gNil))) (.ref T) σ H Q :=
  ⟨T, [x, y, z], rfl, h, rfl, x, [y, z], rfl, y, [z], rfl, z, [], rfl, rfl, q⟩
theorem r_gt4 {i j k l T : Nat} {x y z u : V} {Q : L2.St → Hp → Prop} (h : SqT K H T [x, y, z, u]) (q : Q ((((σ.set i (some x)).set j (some y)).set k (some z)).set l (some u)) H) : gTup K 4 (gCons (gName i) (gCons (gName j) (gCons (gName k) (gCons (gName l) gNil)))) (.ref T) σ H Q :=
  ⟨T, [x, y, z, u], rfl, h, rfl, x, [y, z, u], rfl, y, [z, u], rfl, z, [u], rfl, u, [], rfl, rfl, q⟩
theorem same_of_hid {D : Addr} {H H1 : Hp} (s : Same H (hid D H1)) : Same H H1 := fun b o e => by
  have q := s b o e
  by_cases h : b = D
  · subst h
    rw [hid, if_pos rfl] at q
    cases q
  · rw [hid_ne h] at q
    exact q
/-- a comprehension, told by what is made so far (others do not see the new list) -/
def KAcc (R : Nat → List V → Hp → Prop) (H : Hp) (D : Addr) (i : Nat) (H1 : Hp) : Prop := ∃ acc, H1 D = some (.lst acc) ∧ acc.length ≤ i ∧ Same H (hid D H1) ∧ R i acc (hid D H1)
def KYes (R : Nat → List V → Hp → Prop) (H : Hp) (D : Addr) (i : Nat) : VK := fun y H4 => ∃ acc, H4 D = some (.lst acc) ∧ acc.length < sizeLine ∧ KAcc R H D (i + 1) (upd H4 D (.lst (acc ++ [y])))
theorem r_kyes {R : Nat → List V → Hp → Prop} {D : Addr} {i : Nat} {y : V} {H1 : Hp} {acc : List V} (e : H1 D = some (.lst acc)) (l : acc.length ≤ i) (li : i < sizeLine) (s : Same H (hid D H1)) (r : R (i + 1) (acc ++ [y]) (hid D H1)) : KYes R H D i y H1 :=
  ⟨acc, e, Nat.lt_of_le_of_lt l li, acc ++ [y], upd_same, by simp; omega, by rw [hid_upd]; exact s, by rw [hid_upd]; exact r⟩
theorem r_kno {R : Nat → List V → Hp → Prop} {D : Addr} {i : Nat} {H1 : Hp} {acc : List V} (e : H1 D = some (.lst acc)) (l : acc.length ≤ i) (s : Same H (hid D H1)) (r : R (i + 1) acc (hid D H1)) : KAcc R H D (i + 1) H1 := ⟨acc, e, by omega, s, r⟩
theorem klc {J : It} {n : Nat} {G : Hp → Prop} {Y : Nat → Hp → V → Hp → Prop} (w : Walk J n G Y) (hG : ∀ H', Same H H' → G H') (R : Nat → List V → Hp → Prop) (h0 : R 0 [] H)
    (step : ∀ D i x H1 H2 acc, i < n → H D = none → Same H (hid D H1) → H1 D = some (.lst acc) → acc.length ≤ i → R i acc (hid D H1) → Y i H1 x H2 → g x (wipe σ vs) H2 fun σ2 H3 => wipe σ2 vs = wipe σ vs ∧ tt σ2 H3 fun b H4 =>
      if b = true then te σ2 H4 (KYes R H D i) else KAcc R H D (i + 1) H4)
    (q : ∀ p H' ys, H p = none → Same H H' → H' p = some (.lst ys) → ys.length ≤ n → R n ys (hid p H') → Q (.ref p) H') : KLc g tt te vs σ Q J H := by
  intro D hD
  refine lc_it w (KAcc R H D) ⟨[], upd_same, Nat.le_refl _, ?_, ?_⟩ (fun i H1 _ h => ?_) (fun i x H1 H2 hi h y => ?_) fun H1 h => ?_
  · rw [hid_upd]
    exact hid_same0 (Same.refl H) hD
  · rw [hid_upd]
    have e : hid D H = H := by
      funext b
      by_cases h : b = D
      · subst h
        rw [hid, if_pos rfl, hD]
      · exact hid_ne h
    rw [e]
    exact h0
  · obtain ⟨acc, _, _, s, _⟩ := h
    exact hG _ (same_of_hid s)
  · obtain ⟨acc, e, l, s, r⟩ := h
    exact step D i x H1 H2 acc hi hD s e l r y
  · obtain ⟨acc, e, l, s, r⟩ := h
    exact q D H1 acc hD (same_of_hid s) e l r
/-- .. whose items are values that are told ahead -/
theorem klc_val {J : It} {n : Nat} {G : Hp → Prop} {Y : Nat → Hp → V → Hp → Prop} (w : Walk J n G Y) (hn : n ≤ sizeLine) (hG : ∀ H', Same H H' → G H') (f : Nat → V)
    (step : ∀ i x H1 H2, i < n → Same H H1 → Y i H1 x H2 → ∀ Z : VK, (∀ H', Same H1 H' → Z (f i) H') → g x (wipe σ vs) H2 fun σ2 H3 => wipe σ2 vs = wipe σ vs ∧ te σ2 H3 Z)
    (q : ∀ p H', H p = none → Same H H' → H' p = some (.lst ((List.range n).map f)) → Q (.ref p) H') : KLc g tYes te vs σ Q J H := by
  refine klc w hG (fun i acc _ => acc = (List.range i).map f) rfl (fun D i x H1 H2 acc hi hD s e l r y => ?_) fun p H' ys hp s e _ r => ?_
  · subst r
    refine step i x H1 H2 hi (same_of_hid s) y (KYes (fun i acc _ => acc = (List.range i).map f) H D i) fun H' s' => r_kyes (s' _ _ e) l (by omega) ?_ ?_
    · intro b o eb
      have := s b o eb
      have nb : b ≠ D := ne_of_none eb hD
      rw [hid_ne nb] at this ⊢
      exact s' _ _ this
    · rw [List.range_succ, List.map_append]
      rfl
  · subst r
    exact q p H' hp s e
/-! the common ones -/
theorem map_atc {α β : Type} {f : α → β} {ns : List α} {i : Nat} {v : β} (h : (ns.map f)[i]? = some v) : ∃ n, ns[i]? = some n ∧ v = f n := by
  rw [List.getElem?_map] at h
  cases e : ns[i]? with
  | none => rw [e] at h; cases h
  | some n => rw [e] at h; exact ⟨n, rfl, (Option.some.inj h).symm⟩
theorem of_range {α : Type} (as : List α) (f : α → V) (d : V) : (List.range as.length).map (fun i => (as[i]?.map f).getD d) = as.map f := by
  apply List.ext_getElem
  · simp
  · intro i h1 h2
    have h3 : i < as.length := by simpa using h2
    simp [h3]
theorem klc_L {α : Type} {as : List α} {c : α → V} {a : Addr} (h : SqL K H a (as.map c)) (hz : as.length ≤ sizeLine) (f : α → V)
    (step : ∀ x H1, x ∈ as → Same H H1 → ∀ Z : VK, (∀ H', Same H1 H' → Z (f x) H') → g (c x) (wipe σ vs) H1 fun σ2 H3 => wipe σ2 vs = wipe σ vs ∧ te σ2 H3 Z)
    (q : ∀ p H', H p = none → Same H H' → H' p = some (.lst (as.map f)) → Q (.ref p) H') : KLc g tYes te vs σ Q (Itl K a) H := by
  refine klc_val walk_list (by simpa using hz) (fun H' s => s.seq h) (fun i => (as[i]?.map f).getD .non) (fun i x H1 H2 hi s y Z z => ?_) fun p H' hp s e => ?_
  · obtain ⟨e1, hx⟩ := y
    subst e1
    obtain ⟨n, hn', e2⟩ := map_atc hx
    subst e2
    refine step n H2 (List.mem_of_getElem? hn') s Z fun H' s' => ?_
    have q := z H' s'
    rw [hn'] at q
    exact q
  · rw [List.length_map, of_range] at e
    exact q p H' hp s e
theorem klc_T {α : Type} {as : List α} {c : α → V} {a : Addr} (h : ∀ H', Same H H' → SqT K H' a (as.map c)) (hz : as.length ≤ sizeLine) (f : α → V)
    (step : ∀ x H1, x ∈ as → Same H H1 → ∀ Z : VK, (∀ H', Same H1 H' → Z (f x) H') → g (c x) (wipe σ vs) H1 fun σ2 H3 => wipe σ2 vs = wipe σ vs ∧ te σ2 H3 Z)
    (q : ∀ p H', H p = none → Same H H' → H' p = some (.lst (as.map f)) → Q (.ref p) H') : KLc g tYes te vs σ Q (Itt K a) H := by
  refine klc_val walk_tup (by simpa using hz) h (fun i => (as[i]?.map f).getD .non) (fun i x H1 H2 hi s y Z z => ?_) fun p H' hp s e => ?_
  · obtain ⟨e1, hx⟩ := y
    subst e1
    obtain ⟨n, hn', e2⟩ := map_atc hx
    subst e2
    refine step n H2 (List.mem_of_getElem? hn') s Z fun H' s' => ?_
    have q := z H' s'
    rw [hn'] at q
    exact q
  · rw [List.length_map, of_range] at e
    exact q p H' hp s e
theorem klc_R {lo : Int} {n : Nat} (hz : n ≤ sizeLine) (f : Nat → V)
    (step : ∀ i H1, i < n → Same H H1 → ∀ Z : VK, (∀ H', Same H1 H' → Z (f i) H') → g (.int (lo + i)) (wipe σ vs) H1 fun σ2 H3 => wipe σ2 vs = wipe σ vs ∧ te σ2 H3 Z)
    (q : ∀ p H', H p = none → Same H H' → H' p = some (.lst ((List.range n).map f)) → Q (.ref p) H') : KLc g tYes te vs σ Q (Itr lo n) H := by
  refine klc_val walk_range hz (fun _ _ => trivial) f (fun i x H1 H2 hi s y Z z => ?_) q
  obtain ⟨e1, hx⟩ := y
  subst e1 hx
  exact step i H2 hi s Z z
theorem klc_S {z : Str} (hz : z.length ≤ sizeLine) (f : Nat → V)
    (step : ∀ c H1, c ∈ z.cps.toList → Same H H1 → ∀ Z : VK, (∀ H', Same H1 H' → Z (f c) H') → g (.str ⟨#[c]⟩) (wipe σ vs) H1 fun σ2 H3 => wipe σ2 vs = wipe σ vs ∧ te σ2 H3 Z)
    (q : ∀ p H', H p = none → Same H H' → H' p = some (.lst (z.cps.toList.map f)) → Q (.ref p) H') : KLc g tYes te vs σ Q (Its z) H := by
  refine klc_val walk_str hz (fun _ _ => trivial) (fun i => (z.cps.toList[i]?.map f).getD .non) (fun i x H1 H2 hi s y Z zz => ?_) fun p H' hp s e => ?_
  · obtain ⟨e1, c, hc, e2⟩ := y
    subst e1 e2
    have hc' : z.cps.toList[i]? = some c := by rw [← hc]; simp
    refine step c H2 (List.mem_of_getElem? hc') s Z fun H' s' => ?_
    have q := zz H' s'
    rw [hc'] at q
    exact q
  · rw [show z.cps.size = z.cps.toList.length from by simp, of_range] at e
    exact q p H' hp s e
theorem of_range_ix {α : Type} (as : List α) (f : Nat → α → V) (d : V) : (List.range as.length).map (fun i => (as[i]?.map (f i)).getD d) = as.mapIdx f := by
  apply List.ext_getElem
  · simp
  · intro i h1 h2
    have h3 : i < as.length := by simpa using h2
    simp [h3]
theorem klc_E {α : Type} {as : List α} {c : α → V} {a : Addr} (h : SqL K H a (as.map c)) (hz : as.length ≤ sizeLine) (f : Nat → α → V)
    (step : ∀ (i : Nat) x T H1, as[i]? = some x → Same H H1 → H1 T = some (.tup [.int (i : Nat), c x]) → ∀ Z : VK, (∀ H', Same H1 H' → Z (f i x) H') → g (.ref T) (wipe σ vs) H1 fun σ2 H3 => wipe σ2 vs = wipe σ vs ∧ te σ2 H3 Z)
    (q : ∀ p H', H p = none → Same H H' → H' p = some (.lst (as.mapIdx f)) → Q (.ref p) H') : KLc g tYes te vs σ Q (Ite K a) H := by
  refine klc_val walk_enum (by simpa using hz) (fun H' s => s.seq h) (fun i => (as[i]?.map (f i)).getD .non) (fun i x H1 H2 hi s y Z z => ?_) fun p H' hp s e => ?_
  · obtain ⟨T, u, v, e1, hT, e2, e3, e4⟩ := y
    obtain ⟨n, hn', e5⟩ := map_atc e4
    have e6 := Option.some.inj e3
    subst e1 e2 e5
    rw [← e6]
    refine step i n T _ hn' (s.trans (same_up hT)) upd_same Z fun H' s' => ?_
    have q := z H' ((same_up hT).trans s')
    rw [hn'] at q
    exact q
  · rw [List.length_map, of_range_ix] at e
    exact q p H' hp s e
theorem of_range_zip {α β : Type} (as : List α) (bs : List β) (f : α → β → V) (d : V) : (List.range (min as.length bs.length)).map (fun i => ((as[i]?.bind fun a => bs[i]?.map (f a))).getD d) = List.zipWith f as bs := by
  apply List.ext_getElem
  · simp
  · intro i h1 h2
    have h3 : i < as.length ∧ i < bs.length := by simp at h2; omega
    simp [h3.1, h3.2]
theorem klc_Z {α β : Type} {as : List α} {bs : List β} {c : α → V} {c2 : β → V} {a b : Addr} (h : SqL K H a (as.map c)) (h2 : SqL K H b (bs.map c2)) (hz : as.length ≤ sizeLine) (f : α → β → V)
    (step : ∀ (i : Nat) x y T H1, as[i]? = some x → bs[i]? = some y → Same H H1 → H1 T = some (.tup [c x, c2 y]) → ∀ Z : VK, (∀ H', Same H1 H' → Z (f x y) H') → g (.ref T) (wipe σ vs) H1 fun σ2 H3 => wipe σ2 vs = wipe σ vs ∧ te σ2 H3 Z)
    (q : ∀ p H', H p = none → Same H H' → H' p = some (.lst (List.zipWith f as bs)) → Q (.ref p) H') : KLc g tYes te vs σ Q (Itz K a b) H := by
  refine klc_val (walk_zip (xs := as.map c) (ys := bs.map c2) (n := min as.length bs.length) (by simp)) (by omega) (fun H' s => ⟨s.seq h, s.seq h2⟩) (fun i => ((as[i]?.bind fun a => bs[i]?.map (f a))).getD .non) (fun i x H1 H2 hi s y Z z => ?_) fun p H' hp s e => ?_
  · obtain ⟨T, u, v, e1, hT, e2, e3, e4⟩ := y
    obtain ⟨n, hn', e5⟩ := map_atc e3
    obtain ⟨n2, hn2, e6⟩ := map_atc e4
    subst e1 e2 e5 e6
    refine step i n n2 T _ hn' hn2 (s.trans (same_up hT)) upd_same Z fun H' s' => ?_
    have q := z H' ((same_up hT).trans s')
    rw [hn', hn2] at q
    exact q
  · rw [of_range_zip] at e
    exact q p H' hp s e
end
end K44
set_option Elab.async false
set_option linter.all false
set_option maxRecDepth 100000
set_option maxHeartbeats 4000000
namespace K44
open PySem PySem.Spec PyProof.Rows L2
/-! Named readings of the rules that tell theirs unnamed, and their steps. -/
def rLen1 (K : PySem.W.Frag) : List V → Hp → VK → Prop := fun xs H Q => ∃ p ys, xs = [.ref p] ∧ (SqL K H p ys ∨ SqT K H p ys) ∧ Q (.int ys.length) H
def rLenS1 : List V → Hp → VK → Prop := fun xs H Q => ∃ z, xs = [.str z] ∧ z.length ≤ sizeLine ∧ Q (.int z.length) H
def rLst1 (K : PySem.W.Frag) : List V → Hp → VK → Prop := fun xs H Q => ∃ p ys, xs = [.ref p] ∧ (SqL K H p ys ∨ SqT K H p ys) ∧ ∀ l, H l = none → Q (.ref l) (upd H l (.lst ys))
def rMin21 : List V → Hp → VK → Prop := fun xs H Q => ∃ i j, xs = [.int i, .int j] ∧ Q (.int (if j < i then j else i)) H
def rDivm : List V → Hp → VK → Prop := fun xs H Q => ∃ i j, xs = [.int i, .int j] ∧ CDiv i j ∧ ∀ p, H p = none → Q (.ref p) (upd H p (.tup [.int (i / j), .int (i % j)]))
def rCatS : R2 := fun x y H Q => ∃ i j, x = .str i ∧ y = .str j ∧ i.length + j.length ≤ sizeLine ∧ Q (.str (i ++ j)) H
def rJoin (K : PySem.W.Frag) : V → List V → Hp → VK → Prop := fun x xs H Q => ∃ a p, ∃ ys : List Str, x = .str a ∧ xs = [.ref p] ∧ (SqL K H p (ys.map V.str) ∨ SqT K H p (ys.map V.str)) ∧ (ys.map (·.length)).sum + ys.length * a.length ≤ 16777216 ∧ Q (.str (Txt.join a ys)) H
def rInsert1 : V → List V → Hp → VK → Prop := fun x vs H Q => ∃ (l : Addr) (xs : List V) (i : Int) (y : V), x = .ref l ∧ vs = [.int i, y] ∧ H l = some (.lst xs) ∧ xs.length < sizeLine ∧ 0 ≤ i ∧ i < 2 ^ 63 ∧ Q .non (upd H l (.lst (xs.take i.toNat ++ [y] ++ xs.drop i.toNat)))
def rSindex : V → List V → Hp → VK → Prop := fun x xs H Q => ∃ a b i rest, x = .str a ∧ xs = [.str b] ∧ Builtin.Str.occurrences a b 0 a.length 1 = i :: rest ∧ Q (.int (i : Nat)) H
section
variable {X : Cx}
theorem cal_len : CallR X (.builtin "len") (rLen1 X.K) := call_len_seq
theorem cal_lenS : CallR X (.builtin "len") rLenS1 := fun pins s σ H xs us Q I r h => by
  obtain ⟨z, rfl, hz, q⟩ := h
  exact call_len pins s σ H [.str z] us Q I r ⟨.str z, z.length, rfl, ⟨hz, rfl⟩, q⟩
theorem cal_list : CallR X (.type "list") (rLst1 X.K) := call_list_of
theorem cal_min2 (hc : X.calm = true) : CallR X (.builtin "min") rMin21 := call_min2 hc
theorem cal_divmod : CallR X (.builtin "divmod") rDivm := call_divmod
theorem op_catS : OpR X (binaryOp .Add) rCatS := op_add_str
theorem mt_insertK : MtR X "list.insert" rInsert1 := mt_insert
theorem mt_sindexK : MtR X "str.index" rSindex := mt_sindex
theorem pe_joinK {o e : Expr} {to te : TE} {apos pos : Pos} (ho : PE X o to) (he : PE X e te) (hs : starEach [e] X.env = [(false, eval e X.env)] := by rfl) (hbase : attributeBase o "join" X.env (eval o X.env) = eval o X.env := by rfl) (hline : (apos.endLine == pos.line) = true := by rfl) :
    PE X (.Call (.Attribute o "join" apos) [e] [] pos) (tM1 (rJoin X.K) to te) := pe_join ho he hs hbase hline
end
section
variable {σ : L2.St} {H : Hp} {K : PySem.W.Frag} {Q : VK} {a b : Addr} {xs zs : List V} {v : V}
theorem r_len (h : SqL K H a xs) (q : Q (.int xs.length) H) : rLen1 K [.ref a] H Q := ⟨a, xs, rfl, .inl h, q⟩
theorem r_lenT (h : SqT K H a xs) (q : Q (.int xs.length) H) : rLen1 K [.ref a] H Q := ⟨a, xs, rfl, .inr h, q⟩
theorem r_lenI {ns : List Int} (h : Ints H a ns) (q : Q (.int ns.length) H) : rLen1 K [.ref a] H Q := ⟨a, _, rfl, .inl (SqL.of h), by rw [List.length_map]; exact q⟩
theorem r_lenS {z : Str} (h : z.length ≤ sizeLine) (q : Q (.int z.length) H) : rLenS1 [.str z] H Q := ⟨z, rfl, h, q⟩
theorem r_list (h : SqL K H a xs) (q : ∀ p H', H p = none → Same H H' → H' p = some (.lst xs) → Q (.ref p) H') : rLst1 K [.ref a] H Q := ⟨a, xs, rfl, .inl h, nw q⟩
theorem r_listT (h : SqT K H a xs) (q : ∀ p H', H p = none → Same H H' → H' p = some (.lst xs) → Q (.ref p) H') : rLst1 K [.ref a] H Q := ⟨a, xs, rfl, .inr h, nw q⟩
theorem r_min2 {i j : Int} (q : Q (.int (if j < i then j else i)) H) : rMin21 [.int i, .int j] H Q := ⟨i, j, rfl, q⟩
theorem r_divm {i j : Int} (c : CDiv i j) (q : ∀ p H', H p = none → Same H H' → H' p = some (.tup [.int (i / j), .int (i % j)]) → Q (.ref p) H') : rDivm [.int i, .int j] H Q := ⟨i, j, rfl, c, nw q⟩
theorem r_catS {i j : Str} (h : i.length + j.length ≤ sizeLine) (q : Q (.str (i ++ j)) H) : rCatS (.str i) (.str j) H Q := ⟨i, j, rfl, rfl, h, q⟩
theorem r_inS {c : Nat} {z : Str} (q : Q (.bl (decide (c ∈ z.cps.toList))) H) : rInS (.str ⟨#[c]⟩) (.str z) H Q := ⟨c, z, rfl, rfl, q⟩
theorem r_notInS {c : Nat} {z : Str} (q : Q (.bl (!decide (c ∈ z.cps.toList))) H) : rNotInS (.str ⟨#[c]⟩) (.str z) H Q := ⟨c, z, rfl, rfl, q⟩
def KM1 (r : V → List V → Hp → VK → Prop) (te : TE) (σ : L2.St) (Q : VK) : V → Hp → Prop := fun x H1 => (∃ a, x = .str a) ∧ te σ H1 fun y H2 => r x [y] H2 Q
theorem r_m1 {r : V → List V → Hp → VK → Prop} {to te : TE} (q : to σ H (KM1 r te σ Q)) : tM1 r to te σ H Q := q
theorem r_km1 {r : V → List V → Hp → VK → Prop} {te : TE} {z : Str} (q : te σ H fun y H2 => r (.str z) [y] H2 Q) : KM1 r te σ Q (.str z) H := ⟨⟨z, rfl⟩, q⟩
theorem r_join {z : Str} {ys : List Str} (h : H a = some (.lst (ys.map V.str))) (hz : (ys.map (·.length)).sum + ys.length * z.length ≤ 16777216) (q : Q (.str (Txt.join z ys)) H) : rJoin K (.str z) [.ref a] H Q := ⟨z, a, ys, rfl, rfl, .inl (SqL.of h), hz, q⟩
theorem r_insert {i : Int} (h : H a = some (.lst xs)) (hz : xs.length < sizeLine) (h0 : 0 ≤ i) (h1 : i < 2 ^ 63) (q : Q .non (upd H a (.lst (xs.take i.toNat ++ [v] ++ xs.drop i.toNat)))) : rInsert1 (.ref a) [.int i, v] H Q := ⟨a, xs, i, v, rfl, rfl, h, hz, h0, h1, q⟩
theorem r_isN (q : Q (.bl (decide (v = .non))) H) : rIsN v .non H Q := ⟨rfl, q⟩
theorem r_sum {ns : List Int} (h : SqL K H a (ns.map V.int)) (q : Q (.int ns.sum) H) : rSum K [.ref a] H Q := ⟨a, ns, rfl, h, q⟩
theorem r_min {ns : List Int} (h : Ints H a ns) (h0 : 0 < ns.length) (q : ∀ m, m ∈ ns → (∀ y, y ∈ ns → m ≤ y) → Q (.int m) H) : rMin K [.ref a] H Q := ⟨a, ns, rfl, SqL.of h, h0, q⟩
theorem r_max {ns : List Int} (h : Ints H a ns) (h0 : 0 < ns.length) (q : ∀ m, m ∈ ns → (∀ y, y ∈ ns → y ≤ m) → Q (.int m) H) : rMax K [.ref a] H Q := ⟨a, ns, rfl, SqL.of h, h0, q⟩
theorem r_rep {k : Int} (h : H a = some (.lst xs)) (h1 : -(2 ^ 63) ≤ k) (h2 : k < 2 ^ 63) (hz : xs.length * k.toNat ≤ sizeLine) (q : ∀ p H', H p = none → Same H H' → H' p = some (.lst (List.flatten (List.replicate k.toNat xs))) → Q (.ref p) H') : rRep (.ref a) (.int k) H Q := by
  refine ⟨a, k, xs, rfl, rfl, h, h1, h2, hz, ?_⟩
  exact nw q
def KAug (te : TE) (i : Nat) (ti : TIp) (D : Ends) (σ : L2.St) (H : Hp) : Prop := ∃ x, σ[i]? = some (some x) ∧ te σ H fun y H1 => ti x y H1 fun z H2 => D.nx (σ.set i (some z)) H2
theorem r_aug {te : TE} {i : Nat} {ti : TIp} {D : Ends} {x : V} (h : σ[i]? = some (some x)) (q : te σ H fun y H1 => ti x y H1 fun z H2 => D.nx (σ.set i (some z)) H2) : tAug i te ti D σ H := ⟨x, h, q⟩
theorem r_ip {f : Int → Int → Int} {i j : Int} {Q : V → Hp → Prop} (q : Q (.int (f i j)) H) : ipI f (.int i) (.int j) H Q := ⟨i, j, rfl, rfl, q⟩
theorem r_ext2 (h : H a = some (.lst xs)) (h2 : H b = some (.lst zs)) (hz : xs.length + zs.length ≤ sizeLine) (q : Q (.ref a) (upd H a (.lst (xs ++ zs)))) : rExt2 (.ref a) (.ref b) H Q := ⟨a, b, xs, zs, rfl, rfl, h, h2, hz, q⟩
end
section
variable {σ : L2.St} {H : Hp} {K : PySem.W.Frag} {Q : VK} {D : Ends}
theorem r_gsub {to ti : TE} {t : TSet} {v : V} {Q : L2.St → Hp → Prop} (q : to σ H fun o H1 => ti σ H1 fun i H2 => t o i v H2 fun H3 => Q σ H3) : gSub to ti t v σ H Q := q
theorem r_setL {p : Addr} {xs : List V} {k : Int} {j : Nat} {v : V} {Q : Hp → Prop} (h : H p = some (.lst xs)) (e : k = (j : Int)) (hj : j < xs.length) (q : Q (upd H p (.lst (xs.set j v)))) : rSetL (.ref p) (.int k) v H Q := by
  subst e
  refine ⟨p, xs, (j : Int), j, rfl, rfl, h, ?_, q⟩
  unfold ixN
  rw [if_pos (by omega), if_pos (by omega)]
  simp
theorem r_irev {tr : L2.St → Hp → (Int → Int → Hp → Prop) → Prop} {R : It → Hp → Prop} (q : tr σ H fun a b H1 => -(2 ^ 62) ≤ a ∧ a < 2 ^ 62 ∧ -(2 ^ 62) ≤ b ∧ b < 2 ^ 62 ∧ R (Itc (a + (((b - a).toNat : Nat) : Int) - 1) (-1) (b - a).toNat) H1) : iRevR tr σ H R := q
theorem r_trg1 {ta : TE} {Q : Int → Int → Hp → Prop} (q : ta σ H fun x H1 => ∃ n, x = .int n ∧ Q 0 n H1) : tRg1 ta σ H Q := q
end
section
variable {σ : L2.St} {H : Hp} {K : PySem.W.Frag} {Q : VK}
def KSlS (K : PySem.W.Frag) (x : V) (lo : Option Int) (Q : VK) : Option Int → Hp → Prop := fun st H3 => ∃ a xs, x = .ref a ∧ SqL K H3 a xs ∧ st ≠ some 0 ∧ (pickS xs lo st).length ≤ sizeLine ∧ ∀ p, H3 p = none → Q (.ref p) (upd H3 p (.lst (pickS xs lo st)))
theorem r_tslS {te : TE} {tl ts : TO} (q : te σ H fun x H1 => tl σ H1 fun lo H2 => ts σ H2 (KSlS K x lo Q)) : tSlS K te tl ts σ H Q := q
theorem r_kslS {a : Addr} {xs : List V} {lo : Option Int} {st : Int} (h : SqL K H a xs) (h0 : st ≠ 0) (hz : (pickS xs lo (some st)).length ≤ sizeLine) (q : ∀ p H', H p = none → Same H H' → H' p = some (.lst (pickS xs lo (some st))) → Q (.ref p) H') : KSlS K (.ref a) lo Q (some st) H :=
  ⟨a, xs, rfl, h, fun e => h0 (Option.some.inj e), hz, nw q⟩
theorem pick_map {α β : Type} (f : α → β) (xs : List α) (lo st : Option Int) : pickS (xs.map f) lo st = (pickS xs lo st).map f := by
  unfold pickS
  rw [List.length_map, List.map_filterMap]
  congr 1
  funext i
  rw [List.getElem?_map]
end
section
variable {σ : L2.St} {H : Hp} {K : PySem.W.Frag} {Q : VK}
def KBM0 (K : PySem.W.Frag) (T : String) (r : V → List V → Hp → VK → Prop) (Q : VK) : V → Hp → Prop := fun x H1 => tyV K T x H1 ∧ r x [] H1 Q
theorem r_bm0 {T : String} {r : V → List V → Hp → VK → Prop} {to : TE} (q : to σ H (KBM0 K T r Q)) : tBM0 K T r to σ H Q := q
theorem r_kbm0L {r : V → List V → Hp → VK → Prop} {a : Addr} {xs : List V} (h : SqL K H a xs) (q : r (.ref a) [] H Q) : KBM0 K "list" r Q (.ref a) H := ⟨.inl ⟨rfl, _, h⟩, q⟩
theorem r_clear {a : Addr} {xs : List V} (h : H a = some (.lst xs)) (q : Q .non (upd H a (.lst []))) : rClear (.ref a) [] H Q := ⟨a, xs, rfl, rfl, h, q⟩
end
end K44
set_option Elab.async false
set_option linter.all false
set_option maxRecDepth 100000
set_option maxHeartbeats 4000000
namespace K44
open PySem PySem.Spec PyProof.Rows L2
/-! The rules with the written part told by name (a comprehension's block has it too). -/
section
variable (K : PySem.W.Frag) {X : Cx}
theorem ix_listK (e : X.K = K := by rfl) : IxR X (rIxL K) := by subst e; exact ix_list
theorem ix_tupK (e : X.K = K := by rfl) : IxR X (rIxT K) := by subst e; exact ix_tup
theorem sl_listK (e : X.K = K := by rfl) : SlR X (rSlL K) := by subst e; exact sl_list
theorem cal_lenK (e : X.K = K := by rfl) : CallR X (.builtin "len") (rLen1 K) := by subst e; exact cal_len
theorem cal_listK (e : X.K = K := by rfl) : CallR X (.type "list") (rLst1 K) := by subst e; exact cal_list
theorem cr_allK (hc : X.calm = true) (e : X.K = K := by rfl) : CallR X (.builtin "all") (rAll K) := by subst e; exact cr_all hc
theorem cr_sumK (hc : X.calm = true) (e : X.K = K := by rfl) : CallR X (.builtin "sum") (rSum K) := by subst e; exact cr_sum hc
theorem cr_minK (hc : X.calm = true) (e : X.K = K := by rfl) : CallR X (.builtin "min") (rMin K) := by subst e; exact cr_min hc
theorem cr_maxK (hc : X.calm = true) (e : X.K = K := by rfl) : CallR X (.builtin "max") (rMax K) := by subst e; exact cr_max hc
theorem isiK (e : X.K = K := by rfl) : CallR X (.builtin "isinstance") (rIsi K) := by subst e; exact call_isi
theorem op_eqDK (hu : X.A.units + 64 < cLine) (e : X.K = K := by rfl) : OpR X (compareOp .Eq) (rEqD K) := by subst e; exact op_eqD hu
theorem op_neDK (hu : X.A.units + 64 < cLine) (e : X.K = K := by rfl) : OpR X (compareOp .NotEq) (rNeD K) := by subst e; exact op_neD hu
theorem op_inDK (hu : X.A.units + 65 < cLine) (e : X.K = K := by rfl) : OpR X (compareOp .In) (rInD K) := by subst e; exact op_inD hu
theorem mt_indexK (e : X.K = K := by rfl) : MtR X "list.index" (rIndex K) := by subst e; exact mt_index
section
variable {tg l e1 e2 e3 e4 o : Expr} {tl te to : TE} {ta : TA} {p pos tpos apos cpos : Pos} {elts es : List Expr} {kk n : Nat} {f : Str}
theorem pi_listK (hl : PE X l tl) (e : X.K = K := by rfl) : PI X tg l (iList K tl) := by subst e; exact pi_list hl
theorem pi_tupK (hl : PE X l tl) (e : X.K = K := by rfl) : PI X tg l (iTup K tl) := by subst e; exact pi_tup hl
theorem pi_enumK (hg : Gl X "enumerate") (hm : X.mg "enumerate" = none) (ha : PA X [e1] ta) (e : X.K = K := by rfl) (hs : starEach [e1] X.env = [(false, eval e1 X.env)] := by rfl) :
    PI X (.Tuple elts kk tpos) (.Call (.Name "enumerate" p) [e1] [] pos) (iEnum K ta) := by subst e; exact pi_enum hg hm ha hs
theorem pi_zipK (hg : Gl X "zip") (hm : X.mg "zip" = none) (ha : PA X [e1, e2] ta) (e : X.K = K := by rfl)
    (hs : starEach [e1, e2] X.env = (false, eval e1 X.env) :: starEach [e2] X.env := by rfl) (hpl : (backTo pos (starEach [e2] X.env)).any (·.1) = false := by rfl) :
    PI X (.Tuple elts kk tpos) (.Call (.Name "zip" p) [e1, e2] [] pos) (iZip K ta) := by subst e; exact pi_zip hg hm ha hs hpl
theorem pi_zip3K (hg : Gl X "zip") (hm : X.mg "zip" = none) (ha : PA X [e1, e2, e3] ta) (e : X.K = K := by rfl) (hs : starEach [e1, e2, e3] X.env = (false, eval e1 X.env) :: starEach [e2, e3] X.env := by rfl) (hpl : (backTo pos (starEach [e2, e3] X.env)).any (·.1) = false := by rfl) :
    PI X (.Tuple elts kk tpos) (.Call (.Name "zip" p) [e1, e2, e3] [] pos) (iZip3 K ta) := by subst e; exact pi_zip3 hg hm ha hs hpl
theorem pi_zip4K (hg : Gl X "zip") (hm : X.mg "zip" = none) (ha : PA X [e1, e2, e3, e4] ta) (e : X.K = K := by rfl) (hs : starEach [e1, e2, e3, e4] X.env = (false, eval e1 X.env) :: starEach [e2, e3, e4] X.env := by rfl) (hpl : (backTo pos (starEach [e2, e3, e4] X.env)).any (·.1) = false := by rfl) :
    PI X (.Tuple elts kk tpos) (.Call (.Name "zip" p) [e1, e2, e3, e4] [] pos) (iZip4 K ta) := by subst e; exact pi_zip4 hg hm ha hs hpl
theorem pe_fldK (he : PE X o te) (hb : attributeBase o f X.env (eval o X.env) = eval o X.env) (e : X.K = K := by rfl) : PE X (.Attribute o f pos) (tFld K te f) := by subst e; exact pe_fld he hb
theorem pg_tupK {t : TGs} (hc : X.calm = true) (h : PGs X es t) (e : X.K = K := by rfl) (hn : (assignEach es X.env).length = n := by rfl) (hst : (assignEach es X.env).findIdx? (·.1) = none := by rfl) : PG X (.Tuple es kk pos) (gTup K n t) := by subst e; exact pg_tup hc h hn hst
theorem pe_joinKK (ho : PE X o to) (he : PE X l te) (e : X.K = K := by rfl) (hs : starEach [l] X.env = [(false, eval l X.env)] := by rfl) (hbase : attributeBase o "join" X.env (eval o X.env) = eval o X.env := by rfl) (hline : (apos.endLine == pos.line) = true := by rfl) :
    PE X (.Call (.Attribute o "join" apos) [l] [] pos) (tM1 (rJoin K) to te) := by subst e; exact pe_joinK ho he hs hbase hline
theorem pe_sliceSK {lo st : Expr} {tlo ts : TO} {p2 : Pos} (he : PE X l te) (hl : PO X (some lo) tlo) (hst : PO X (some st) ts) (e : X.K = K := by rfl) : PE X (.Subscript l (.Slice (some lo) none (some st) p2) pos) (tSlS K te tlo ts) := by subst e; exact pe_sliceS he hl hst
variable {T id : String} {name : Str} {r : V → List V → Hp → VK → Prop}
theorem pe_bmK (pa : PlainAttrs T) (slot : Slot T name id) (hty : typeOf (.builtin id) = pure (.type "method_descriptor")) (hm : MtR X id r) (ho : PE X o to) (ha : PA X (e1 :: es) ta) (e : X.K = K := by rfl)
    (hbase : attributeBase o name X.env (eval o X.env) = eval o X.env := by rfl)
    (hfew : ((backTo cpos (starEach (e1 :: es) X.env)).all (fun x => !x.1) && (backToKw cpos (keywordEach [] X.env)).all (fun x => x.1.isSome)
      && decide ((e1 :: es).length + ([] : List Keyword).length + (if ([] : List Keyword).isEmpty then 0 else 1) < 30)) = true := by rfl)
    (hline : (apos.endLine == cpos.line) = true := by rfl) (hs : starEach (e1 :: es) X.env = (false, eval e1 X.env) :: starEach es X.env := by rfl) (hplain : (backTo cpos (starEach es X.env)).any (·.1) = false := by rfl) :
    PE X (.Call (.Attribute o name apos) (e1 :: es) [] cpos) (tBM K T r to ta) := by subst e; exact pe_bm pa slot hty hm ho ha hbase hfew hline hs hplain
end
end
section
variable {P : Program} {w : World} {outer : List Env} {H : Hp} {s s' : Shared} {u : Value} {X : Cx}
/-- a callee that could let something out, asked so that it doesn't -/
theorem passE0 : Passes (L2.CX X.prog X.w) X E0 := fun _ _ _ _ _ _ _ c => by
  obtain ⟨_, _, _, _, _, _, _, _, _, _, _, _, h⟩ := c
  exact h.elim
theorem passE0N : Passes (L2N.CX X.prog X.w) X E0 := fun _ _ _ _ _ _ _ c => by
  obtain ⟨_, _, _, _, _, _, _, _, _, _, _, _, h⟩ := c
  exact h.elim
end
end K44
set_option Elab.async false
set_option linter.all false
set_option maxRecDepth 100000
set_option maxHeartbeats 4000000
namespace K44
open PySem PySem.Spec PyProof.Rows L2
/-! Steps at objects, fields, dicts, locks. -/
section
variable {σ : L2.St} {H : Hp} {K : PySem.W.Frag} {Q : VK} {ta tv td ty : TE} {D : Ends} {f : Str} {a C dx d : Addr} {fs : List (Str × V)} {v x y z : V}
def KSetF (K : PySem.W.Frag) (f : Str) (D : Ends) (σ : L2.St) (y : V) : V → Hp → Prop := fun x H2 => ∃ a C dx fs, x = .ref a ∧ H2 a = some (.ins C dx fs) ∧ Cls K C ∧ NoAttr K C f ∧ fs.length < 1000 ∧ D.nx σ (upd H2 a (.ins C dx (putF f y fs)))
theorem r_sfld (q : tv σ H fun y H1 => ta σ H1 (KSetF K f D σ y)) : sFld K ta tv f D σ H := q
theorem r_ksetf (h : H a = some (.ins C dx fs)) (c : Cls K C) (n : NoAttr K C f) (l : fs.length < 1000) (q : D.nx σ (upd H a (.ins C dx (putF f y fs)))) : KSetF K f D σ y (.ref a) H := ⟨a, C, dx, fs, rfl, h, c, n, l, q⟩
def KAugF (K : PySem.W.Frag) (f : Str) (rd : V → V → Hp → VK → Prop) (tv : TE) (D : Ends) (σ : L2.St) : V → Hp → Prop := fun x H1 => ∃ a C dx fs v, x = .ref a ∧ H1 a = some (.ins C dx fs) ∧ Cls K C ∧ NoAttr K C f ∧ fs.lookup f = some v ∧
  tv σ H1 fun y H2 => rd v y H2 fun z H3 => ∃ dx' fs', H3 a = some (.ins C dx' fs') ∧ fs'.length < 1000 ∧ D.nx σ (upd H3 a (.ins C dx' (putF f z fs')))
theorem r_afld {rd : V → V → Hp → VK → Prop} (q : ta σ H (KAugF K f rd tv D σ)) : sFldAug K ta tv rd f D σ H := q
theorem r_kaugf {rd : V → V → Hp → VK → Prop} (h : H a = some (.ins C dx fs)) (c : Cls K C) (n : NoAttr K C f) (l : fs.lookup f = some v)
    (q : tv σ H fun y H2 => rd v y H2 fun z H3 => ∃ dx' fs', H3 a = some (.ins C dx' fs') ∧ fs'.length < 1000 ∧ D.nx σ (upd H3 a (.ins C dx' (putF f z fs')))) : KAugF K f rd tv D σ (.ref a) H := ⟨a, C, dx, fs, v, rfl, h, c, n, l, q⟩
theorem r_rAdd {i j : Int} (q : Q (.int (i + j)) H) : rAdd (.int i) (.int j) H Q := ⟨i, j, rfl, rfl, q⟩
def KDGet (x : V) (Q : VK) : V → Hp → Prop := fun y H2 => ∃ a v, x = .ref a ∧ DGet H2 a y (some v) ∧ Q v H2
theorem r_dget (q : td σ H fun x H1 => ty σ H1 (KDGet x Q)) : tDGet td ty σ H Q := q
theorem r_kdget (g : DGet H a y (some v)) (q : Q v H) : KDGet (.ref a) Q y H := ⟨a, v, rfl, g, q⟩
def KDIn (y : V) (Q : VK) : V → Hp → Prop := fun x H2 => ∃ a o, x = .ref a ∧ DGet H2 a y o ∧ Q (.bl o.isSome) H2
theorem r_din (q : ty σ H fun y H1 => td σ H1 (KDIn y Q)) : tDIn ty td σ H Q := q
theorem r_kdin {o : Option V} (g : DGet H a y o) (q : Q (.bl o.isSome) H) : KDIn y Q (.ref a) H := ⟨a, o, rfl, g, q⟩
def KDNot (y : V) (Q : VK) : V → Hp → Prop := fun x H2 => ∃ a o, x = .ref a ∧ DGet H2 a y o ∧ Q (.bl (!o.isSome)) H2
theorem r_dnot (q : ty σ H fun y H1 => td σ H1 (KDNot y Q)) : tDNotIn ty td σ H Q := q
theorem r_kdnot {o : Option V} (g : DGet H a y o) (q : Q (.bl (!o.isSome)) H) : KDNot y Q (.ref a) H := ⟨a, o, rfl, g, q⟩
def KDPut (v x : V) (D : Ends) (σ : L2.St) : V → Hp → Prop := fun y H3 => ∃ a H4, x = .ref a ∧ DPut H3 a y v H4 ∧ D.nx σ H4
theorem r_dput (q : tv σ H fun v H1 => td σ H1 fun x H2 => ty σ H2 (KDPut v x D σ)) : sDPut td ty tv D σ H := q
theorem r_kdput {H' : Hp} (g : DPut H a y v H') (q : D.nx σ H') : KDPut v (.ref a) D σ y H := ⟨a, H', rfl, g, q⟩
theorem r_dnewT (q : ∀ p H', H p = none → Same H H' → H' p = some (.dT []) → Q (.ref p) H') : tDNewT σ H Q := nw q
theorem r_dnewK (q : ∀ p H', H p = none → Same H H' → H' p = some (.dK []) → Q (.ref p) H') : tDNewK σ H Q := nw q
/-- what is locked -/
def KLock (d : Addr) (od : Obj) (u : HO) (Q : VK) : VK := fun v H' => H' d = some (.frz od u) ∧ Q v (upd H' d u)
theorem r_lockE {t : TE} {u : HO} (h : H d = some u) (m : Mut (some u)) (q : ∀ od, t σ (upd H d (.frz od u)) (KLock d od u Q)) : tLockE t σ H Q := ⟨d, u, h, m, q⟩
theorem lock_same {u : HO} {od : Obj} {H' : Hp} (h : H d = some u) (s : Same (upd H d (.frz od u)) H') : Same H (upd H' d u) := fun b o e => by
  by_cases hb : b = d
  · subst hb
    rw [upd_same, ← e, h]
  · rw [upd_ne hb]
    exact s b o (by rw [upd_ne hb]; exact e)
theorem lock_frz {u : HO} {od : Obj} {H' : Hp} (s : Same (upd H d (.frz od u)) H') : H' d = some (.frz od u) := s _ _ upd_same
theorem lock_rd {u w : HO} {od : Obj} {b : Addr} (h : H b = some w) (hb : b ≠ d) : (upd H d (.frz od u)) b = some w := by rw [upd_ne hb]; exact h
theorem r_lenD {kvs : List (List Key × V)} (h : H a = some (.dT kvs)) (q : Q (.int kvs.length) H) : rLenT [.ref a] H Q := ⟨a, kvs, rfl, h, q⟩
def KKeys (R : It → Hp → Prop) : V → Hp → Prop := fun x H1 => ∃ d o, x = .ref d ∧ ((∃ kvs, H1 d = some (.frz o (.dK kvs)) ∧ R (Itk d o kvs) H1) ∨ ∃ kvs, H1 d = some (.frz o (.dT kvs)) ∧ R (Itkt d o kvs) H1)
theorem r_ikeys {R : It → Hp → Prop} (q : td σ H (KKeys R)) : iKeys td σ H R := q
theorem r_kkeysT {R : It → Hp → Prop} {o : Obj} {kvs : List (List Key × V)} (h : H d = some (.frz o (.dT kvs))) (q : R (Itkt d o kvs) H) : KKeys R (.ref d) H := ⟨d, o, rfl, .inr ⟨kvs, h, q⟩⟩
end
/-- all but what stands at S is as it was -/
def Fr (S : List Addr) (H H' : Hp) : Prop := ∀ b o, H b = some o → b ∉ S → H' b = some o
theorem Fr.refl (S : List Addr) (H : Hp) : Fr S H H := fun _ _ h _ => h
theorem Fr.trans {S : List Addr} {H H1 H2 : Hp} (a : Fr S H H1) (b : Fr S H1 H2) : Fr S H H2 := fun c o h n => b c o (a c o h n) n
theorem sfr {S : List Addr} {H H' : Hp} (s : Same H H') : Fr S H H' := fun b o h _ => s b o h
theorem fr_upd {S : List Addr} {H H' : Hp} {p : Addr} {o : HO} (s : Fr S H H') (h : p ∈ S) : Fr S H (upd H' p o) := fun b u e n => by
  rw [upd_ne (fun z => n (by rw [z]; exact h))]
  exact s b u e n
/-- what was not there may be what changes -/
theorem Fr.same {S : List Addr} {H H' : Hp} (s : Fr S H H') (h : ∀ b ∈ S, H b = none) : Same H H' := fun b o e => s b o e fun m => by rw [h b m] at e; cases e
end K44
set_option Elab.async false
set_option linter.all false
set_option maxRecDepth 100000
set_option maxHeartbeats 4000000
namespace K44
open PySem PySem.Spec PyProof.Rows L2
/-! The sixty-four signs, numbers and texts. -/
def SIG : Str := "0123456789abcdefghijklmnopqrstuvwxyzABCDEFGHIJKLMNOPQRSTUVWXYZ+-"
def SG : List Nat := SIG.cps.toList
def sgn (n : Int) : Nat := SG.getD n.toNat 0
def num (c : Nat) : Int := (SG.idxOf c : Nat)
def txt (cs : List Nat) : Str := ⟨cs.toArray⟩
theorem sg_len : SG.length = 64 := by decide +kernel
theorem sg_nd : SG.Nodup := by decide +kernel
theorem sgn_at {n : Int} (h0 : 0 ≤ n) (h1 : n < 64) : SG[n.toNat]? = some (sgn n) := by
  have h : n.toNat < SG.length := by rw [sg_len]; omega
  unfold sgn
  rw [List.getD_eq_getElem?_getD, List.getElem?_eq_getElem h]
  rfl
theorem sgn_mem {n : Int} (h0 : 0 ≤ n) (h1 : n < 64) : sgn n ∈ SG := List.mem_of_getElem? (sgn_at h0 h1)
theorem num_sgn {n : Int} (h0 : 0 ≤ n) (h1 : n < 64) : num (sgn n) = n := by
  have h : n.toNat < SG.length := by rw [sg_len]; omega
  have e := sgn_at h0 h1
  rw [List.getElem?_eq_getElem h] at e
  unfold num
  rw [← Option.some.inj e, sg_nd.idxOf_getElem]
  omega
theorem num_lo (c : Nat) : 0 ≤ num c := Int.natCast_nonneg _
theorem num_hi {c : Nat} (h : c ∈ SG) : num c < 64 := by
  have := List.idxOf_lt_length_iff.mpr h
  rw [sg_len] at this
  unfold num
  omega
theorem sgn_num {c : Nat} (h : c ∈ SG) : sgn (num c) = c := by
  have k := List.idxOf_lt_length_iff.mpr h
  unfold sgn num
  rw [List.getD_eq_getElem?_getD, show ((SG.idxOf c : Nat) : Int).toNat = SG.idxOf c from rfl, List.getElem?_eq_getElem k, List.getElem_idxOf]
  rfl
theorem txt_list (cs : List Nat) : (txt cs).cps.toList = cs := by simp [txt]
theorem txt_len (cs : List Nat) : (txt cs).length = cs.length := by simp [txt, Str.length]
theorem txt_inj {a b : List Nat} (h : txt a = txt b) : a = b := by
  have := congrArg (fun z : Str => z.cps.toList) h
  simpa [txt] using this
theorem txt_of (z : Str) : txt z.cps.toList = z := by cases z; simp [txt]
theorem sig_occ : SG.all (fun c => (Builtin.Str.occurrences SIG ⟨#[c]⟩ 0 SIG.length 1).head? == some (SG.idxOf c)) = true := by decide +kernel
theorem sig_at {c : Nat} (h : c ∈ SG) : ∃ rest, Builtin.Str.occurrences SIG ⟨#[c]⟩ 0 SIG.length 1 = SG.idxOf c :: rest := by
  have e := List.all_eq_true.mp sig_occ c h
  have e2 := of_decide_eq_true (show decide _ = true from by simpa using e : decide ((Builtin.Str.occurrences SIG ⟨#[c]⟩ 0 SIG.length 1).head? = some (SG.idxOf c)) = true)
  cases q : Builtin.Str.occurrences SIG ⟨#[c]⟩ 0 SIG.length 1 with
  | nil => rw [q] at e2; cases e2
  | cons a r => rw [q] at e2; exact ⟨r, by rw [Option.some.inj e2]⟩
/-- the places of a check: the sum of (k + 1) times the k-th -/
def chkFrom : Nat → List Int → Int
  | _, [] => 0
  | k, n :: r => ((k : Nat) + 1 : Int) * n + chkFrom (k + 1) r
def chk (ns : List Int) : Int := chkFrom 0 ns % 4093
theorem chkFrom_append (k : Nat) : ∀ (a b : List Int), chkFrom k (a ++ b) = chkFrom k a + chkFrom (k + a.length) b
  | [], b => by simp [chkFrom]
  | n :: a, b => by
    show ((k : Nat) + 1 : Int) * n + chkFrom (k + 1) (a ++ b) = ((k : Nat) + 1 : Int) * n + chkFrom (k + 1) a + chkFrom (k + (a.length + 1)) b
    rw [chkFrom_append (k + 1) a b, show k + 1 + a.length = k + (a.length + 1) by omega]
    omega
theorem or64T : (List.range 64).all (fun h => (List.range 64).all fun l => Builtin.bitOr (((h : Nat) : Int) * 2 ^ (6 : Int).toNat) ((l : Nat) : Int) == ((h * 64 + l : Nat) : Int)) = true := by decide +kernel
theorem or64 {h l : Int} (h0 : 0 ≤ h) (h1 : h < 64) (l0 : 0 ≤ l) (l1 : l < 64) : Builtin.bitOr (h * 2 ^ (6 : Int).toNat) l = h * 64 + l := by
  have a := List.all_eq_true.mp or64T h.toNat (List.mem_range.mpr (by omega))
  have b := List.all_eq_true.mp a l.toNat (List.mem_range.mpr (by omega))
  have c := eq_of_beq b
  rw [show ((h.toNat : Nat) : Int) = h by omega, show ((l.toNat : Nat) : Int) = l by omega] at c
  rw [c]
  omega
end K44
set_option Elab.async false
set_option linter.all false
set_option maxRecDepth 100000
set_option maxHeartbeats 4000000
namespace K44
open PySem PySem.Spec PyProof.Rows L2
/-! Slices, joins, places. -/
theorem cut_take {α : Type} (xs : List α) (i j : Nat) : (xs.drop (min i xs.length)).take (min j xs.length - min i xs.length) = (xs.drop i).take (j - i) := by
  by_cases h : i ≤ xs.length
  · rw [Nat.min_eq_left h]
    by_cases h2 : j ≤ xs.length
    · rw [Nat.min_eq_left h2]
    · rw [Nat.min_eq_right (by omega), List.take_of_length_le (by simp), List.take_of_length_le (by simp; omega)]
  · rw [Nat.min_eq_right (show xs.length ≤ i by omega), List.drop_of_length_le (Nat.le_refl _), List.drop_of_length_le (show xs.length ≤ i by omega)]
    simp
theorem cut_ij (xs : List V) (i j : Nat) : cutV xs (some (i : Int)) (some (j : Int)) = (xs.drop i).take (j - i) := by
  unfold cutV
  rw [HT.sIx_nat, HT.sIx_nat]
  exact cut_take xs i j
theorem cut_i (xs : List V) (i : Nat) : cutV xs (some (i : Int)) none = xs.drop i := by
  unfold cutV
  rw [HT.sIx_nat, HT.sIx_none]
  by_cases h : i ≤ xs.length
  · rw [Nat.min_eq_left h, List.take_of_length_le (by simp)]
  · rw [Nat.min_eq_right (by omega), List.drop_of_length_le (Nat.le_refl _), List.drop_of_length_le (by omega)]
    simp
theorem cut_j (xs : List V) (j : Nat) : cutV xs none (some (j : Int)) = xs.take j := by
  unfold cutV
  rw [HT.sIx_nat, HT.sIx_none]
  have := cut_take xs 0 j
  simpa using this
theorem cut_neg (xs : List V) (j : Nat) (h : 0 < j) : cutV xs none (some (-(j : Int))) = xs.take (xs.length - j) := by
  unfold cutV
  rw [HT.sIx_none]
  have e : HT.sIx xs.length xs.length (some (-(j : Int))) = xs.length - j := by
    show (if (-(j : Int)) < 0 then (-(j : Int) + (xs.length : Int)).toNat else _) = _
    rw [if_pos (by omega)]
    omega
  rw [e]
  simp
theorem cutI_ij (ns : List Int) (i j : Nat) : cutV (ns.map V.int) (some (i : Int)) (some (j : Int)) = ((ns.drop i).take (j - i)).map V.int := by rw [cut_ij, ← List.map_drop, ← List.map_take]
theorem cutI_i (ns : List Int) (i : Nat) : cutV (ns.map V.int) (some (i : Int)) none = (ns.drop i).map V.int := by rw [cut_i, ← List.map_drop]
theorem cutI_j (ns : List Int) (j : Nat) : cutV (ns.map V.int) none (some (j : Int)) = (ns.take j).map V.int := by rw [cut_j, ← List.map_take]
theorem cutI_neg (ns : List Int) (j : Nat) (h : 0 < j) : cutV (ns.map V.int) none (some (-(j : Int))) = (ns.take (ns.length - j)).map V.int := by rw [cut_neg _ _ h, ← List.map_take, List.length_map]
theorem cutS_ij (z : Str) (i j : Nat) : cutS z (some (i : Int)) (some (j : Int)) = txt ((z.cps.toList.drop i).take (j - i)) := by
  unfold cutS
  rw [HT.sIx_nat, HT.sIx_nat]
  have := cut_take z.cps.toList i j
  have e : z.cps.toList.length = z.length := by simp [Str.length]
  rw [e] at this
  rw [this]
  rfl
theorem cutS_i (z : Str) (i : Nat) : cutS z (some (i : Int)) none = txt (z.cps.toList.drop i) := by
  unfold cutS
  have e : z.cps.toList.length = z.length := by simp [Str.length]
  rw [HT.sIx_nat, HT.sIx_none]
  by_cases h : i ≤ z.length
  · rw [Nat.min_eq_left h, List.take_of_length_le (by simp [Str.length])]
    rfl
  · rw [Nat.min_eq_right (by omega), List.drop_of_length_le (by omega), List.drop_of_length_le (by omega)]
    simp [txt]
theorem cutS_j (z : Str) (j : Nat) : cutS z none (some (j : Int)) = txt (z.cps.toList.take j) := by
  have := cutS_ij z 0 j
  simp only [List.drop_zero, Nat.sub_zero] at this
  rw [← this]
  unfold cutS
  rw [HT.sIx_none, HT.sIx_nat]
  rfl
theorem atI_neg {α : Type} {xs : List α} {j : Nat} {v : α} (h0 : 0 < j) (h : j ≤ xs.length) (e : xs[xs.length - j]? = some v) : atI xs (-(j : Int)) = some v := by
  unfold atI ixN
  rw [if_neg (by omega), if_pos (by omega)]
  show xs[(-(j : Int) + (xs.length : Nat)).toNat]? = some v
  rw [show (-(j : Int) + (xs.length : Nat)).toNat = xs.length - j by omega]
  exact e
theorem atI_int {ns : List Int} {i : Int} {n : Int} (h0 : 0 ≤ i) (h : ns[i.toNat]? = some n) : atI (ns.map V.int) i = some (V.int n) := by
  obtain ⟨k, rfl⟩ : ∃ k : Nat, i = (k : Int) := ⟨i.toNat, by omega⟩
  exact atI_nat (by rw [List.getElem?_map, show ns[k]? = some n from h]; rfl)
theorem at_get {ns : List Int} {i : Nat} (h : i < ns.length) : ns[i]? = some (ns[i]'h) := List.getElem?_eq_getElem h
theorem join_signs (e : Str) (he : e.cps = #[]) (cs : List Nat) : Txt.join e (cs.map fun c => (⟨#[c]⟩ : Str)) = txt cs := by
  rw [TL.join_eq]
  have h := TL.tl_join e (cs.map fun c => (⟨#[c]⟩ : Str))
  have e0 : TL.tl e = [] := by show e.cps.toList = []; rw [he]
  rw [e0, List.map_map] at h
  have j : ∀ l : List Nat, TL.joinL [] (l.map (TL.tl ∘ fun c => (⟨#[c]⟩ : Str))) = l := by
    intro l
    induction l with
    | nil => rfl
    | cons a r ih =>
      cases r with
      | nil => rfl
      | cons b r => exact congrArg (a :: ·) ih
  rw [j] at h
  rw [← txt_of (Str.join e (cs.map fun c => (⟨#[c]⟩ : Str)))]
  exact congrArg txt h
theorem sum_ones (cs : List Nat) (e : Str) (he : e.cps = #[]) : ((cs.map fun c => (⟨#[c]⟩ : Str)).map (·.length)).sum + (cs.map fun c => (⟨#[c]⟩ : Str)).length * e.length = cs.length := by
  have h0 : e.length = 0 := by show e.cps.size = 0; rw [he]; rfl
  rw [h0, Nat.mul_zero, Nat.add_zero, List.map_map]
  induction cs with
  | nil => rfl
  | cons a r ih => 
    rw [List.map_cons, List.sum_cons, ih, List.length_cons]
    show 1 + r.length = r.length + 1
    omega
end K44
set_option Elab.async false
set_option linter.all false
set_option maxRecDepth 100000
set_option maxHeartbeats 4000000
namespace K44
open PySem PySem.Spec PyProof.Rows L2
/-! Folding and unfolding rows, in plain Lean. -/
def stand (l u c r : Int) : Int := ([0, l, u, l + u - c].getD r.toNat 0)
def foldGo (r : Int) : Int → Int → List Int → List Int → List Int
  | l, c, x :: xs, u :: us => ((x - stand l u c r) % 16) :: foldGo r x u xs us
  | _, _, _, _ => []
def unfoldGo (r : Int) : Int → Int → List Int → List Int → List Int
  | l, c, x :: xs, u :: us => ((x + stand l u c r) % 16) :: unfoldGo r ((x + stand l u c r) % 16) u xs us
  | _, _, _, _ => []
def foldRow (r : Int) (xs us : List Int) : List Int := if r = 4 then List.zipWith Builtin.bitXor xs us else foldGo r 0 0 xs us
def unfoldRow (r : Int) (xs us : List Int) : List Int := if r = 4 then List.zipWith Builtin.bitXor xs us else unfoldGo r 0 0 xs us
def cell (n : Int) : Prop := 0 ≤ n ∧ n < 16
theorem xorT : (List.range 16).all (fun a => (List.range 16).all fun b => decide (0 ≤ Builtin.bitXor (a : Nat) (b : Nat) ∧ Builtin.bitXor (a : Nat) (b : Nat) < 16 ∧ Builtin.bitXor (Builtin.bitXor (a : Nat) (b : Nat)) (b : Nat) = (a : Nat))) = true := by decide +kernel
theorem xor_cell {a b : Int} (ha : cell a) (hb : cell b) : cell (Builtin.bitXor a b) ∧ Builtin.bitXor (Builtin.bitXor a b) b = a := by
  obtain ⟨a0, a1⟩ := ha
  obtain ⟨b0, b1⟩ := hb
  have h1 := List.all_eq_true.mp xorT a.toNat (List.mem_range.mpr (by omega))
  have h2 := of_decide_eq_true (List.all_eq_true.mp h1 b.toNat (List.mem_range.mpr (by omega)))
  rw [show ((a.toNat : Nat) : Int) = a by omega, show ((b.toNat : Nat) : Int) = b by omega] at h2
  exact ⟨⟨h2.1, h2.2.1⟩, h2.2.2⟩
theorem foldGo_len (r : Int) : ∀ (l c : Int) (xs us : List Int), xs.length = us.length → (foldGo r l c xs us).length = xs.length
  | _, _, [], [], _ => rfl
  | _, _, x :: xs, u :: us, h => by
    show (foldGo r x u xs us).length + 1 = xs.length + 1
    rw [foldGo_len r x u xs us (by simpa using h)]
theorem unfoldGo_len (r : Int) : ∀ (l c : Int) (xs us : List Int), xs.length = us.length → (unfoldGo r l c xs us).length = xs.length
  | _, _, [], [], _ => rfl
  | l, c, x :: xs, u :: us, h => by
    show (unfoldGo r _ u xs us).length + 1 = xs.length + 1
    rw [unfoldGo_len r _ u xs us (by simpa using h)]
theorem foldGo_cell (r : Int) : ∀ (l c : Int) (xs us : List Int), ∀ y ∈ foldGo r l c xs us, cell y
  | _, _, [], _, _, h => by simp [foldGo] at h
  | _, _, _ :: _, [], _, h => by simp [foldGo] at h
  | l, c, x :: xs, u :: us, y, h => by
    rcases List.mem_cons.mp h with h | h
    · rw [h]
      exact ⟨Int.emod_nonneg _ (by decide), Int.emod_lt_of_pos _ (by decide)⟩
    · exact foldGo_cell r x u xs us y h
theorem unfold_fold (r : Int) : ∀ (l c : Int) (xs us : List Int), xs.length = us.length → (∀ x ∈ xs, cell x) → unfoldGo r l c (foldGo r l c xs us) us = xs
  | _, _, [], [], _, _ => rfl
  | l, c, x :: xs, u :: us, h, hc => by
    have hx := hc x (List.mem_cons_self ..)
    have e : ((x - stand l u c r) % 16 + stand l u c r) % 16 = x := by
      obtain ⟨h0, h1⟩ := hx
      omega
    show ((x - stand l u c r) % 16 + stand l u c r) % 16 :: unfoldGo r (((x - stand l u c r) % 16 + stand l u c r) % 16) u (foldGo r x u xs us) us = x :: xs
    rw [e, unfold_fold r x u xs us (by simpa using h) fun y hy => hc y (List.mem_cons_of_mem _ hy)]
theorem zip_xor : ∀ (xs us : List Int), xs.length = us.length → (∀ x ∈ xs, cell x) → (∀ x ∈ us, cell x) → List.zipWith Builtin.bitXor (List.zipWith Builtin.bitXor xs us) us = xs ∧ ∀ y ∈ List.zipWith Builtin.bitXor xs us, cell y
  | [], [], _, _, _ => ⟨rfl, fun y h => by simp at h⟩
  | x :: xs, u :: us, h, hx, hu => by
    obtain ⟨a, b⟩ := xor_cell (hx x (List.mem_cons_self ..)) (hu u (List.mem_cons_self ..))
    obtain ⟨c, d⟩ := zip_xor xs us (by simpa using h) (fun y hy => hx y (List.mem_cons_of_mem _ hy)) fun y hy => hu y (List.mem_cons_of_mem _ hy)
    refine ⟨?_, fun y hy => ?_⟩
    · show Builtin.bitXor (Builtin.bitXor x u) u :: List.zipWith Builtin.bitXor (List.zipWith Builtin.bitXor xs us) us = x :: xs
      rw [b, c]
    · rcases List.mem_cons.mp hy with e | e
      · rw [e]; exact a
      · exact d y e
theorem foldRow_len {r : Int} {xs us : List Int} (h : xs.length = us.length) : (foldRow r xs us).length = xs.length := by
  unfold foldRow
  split
  · rw [List.length_zipWith, h, Nat.min_self]
  · exact foldGo_len r 0 0 xs us h
theorem unfoldRow_len {r : Int} {xs us : List Int} (h : xs.length = us.length) : (unfoldRow r xs us).length = xs.length := by
  unfold unfoldRow
  split
  · rw [List.length_zipWith, h, Nat.min_self]
  · exact unfoldGo_len r 0 0 xs us h
theorem foldRow_cell {r : Int} {xs us : List Int} (h : xs.length = us.length) (hx : ∀ x ∈ xs, cell x) (hu : ∀ x ∈ us, cell x) : ∀ y ∈ foldRow r xs us, cell y := by
  unfold foldRow
  split
  · exact (zip_xor xs us h hx hu).2
  · exact foldGo_cell r 0 0 xs us
theorem unfoldRow_fold {r : Int} {xs us : List Int} (h : xs.length = us.length) (hx : ∀ x ∈ xs, cell x) (hu : ∀ x ∈ us, cell x) : unfoldRow r (foldRow r xs us) us = xs := by
  unfold unfoldRow foldRow
  split
  · exact (zip_xor xs us h hx hu).1
  · exact unfold_fold r 0 0 xs us h hx
/-- the item ahead of place i, or 0 -/
def prev (xs : List Int) (i : Nat) : Int := if i = 0 then 0 else xs.getD (i - 1) 0
def prevL (l : Int) (xs : List Int) (i : Nat) : Int := if i = 0 then l else xs.getD (i - 1) 0
theorem foldGo_at (r : Int) : ∀ (i : Nat) (l c : Int) (xs us : List Int) (x u : Int), xs[i]? = some x → us[i]? = some u → (foldGo r l c xs us)[i]? = some ((x - stand (prevL l xs i) u (prevL c us i) r) % 16)
  | 0, l, c, x :: xs, u :: us, _, _, hx, hu => by
    have := Option.some.inj hx
    have := Option.some.inj hu
    subst_vars
    rfl
  | i + 1, l, c, x0 :: xs, u0 :: us, x, u, hx, hu => by
    have e := foldGo_at r i x0 u0 xs us x u hx hu
    show (foldGo r x0 u0 xs us)[i]? = _
    rw [e]
    cases i with
    | zero => rfl
    | succ i => rfl
  | _, _, _, [], _, _, _, h, _ => by simp at h
  | _, _, _, _ :: _, [], _, _, _, h => by simp at h
theorem unfoldGo_at (r : Int) : ∀ (i : Nat) (l c : Int) (xs us : List Int) (x u : Int), xs[i]? = some x → us[i]? = some u → (unfoldGo r l c xs us)[i]? = some ((x + stand (prevL l (unfoldGo r l c xs us) i) u (prevL c us i) r) % 16)
  | 0, l, c, x :: xs, u :: us, _, _, hx, hu => by
    have := Option.some.inj hx
    have := Option.some.inj hu
    subst_vars
    rfl
  | i + 1, l, c, x0 :: xs, u0 :: us, x, u, hx, hu => by
    have e := unfoldGo_at r i ((x0 + stand l u0 c r) % 16) u0 xs us x u hx hu
    show (unfoldGo r ((x0 + stand l u0 c r) % 16) u0 xs us)[i]? = _
    rw [e]
    cases i with
    | zero => rfl
    | succ i => rfl
  | _, _, _, [], _, _, _, h, _ => by simp at h
  | _, _, _, _ :: _, [], _, _, _, h => by simp at h
/-- pictures: each row by the one above -/
def ups (p : Option (List Int)) (n : Nat) : List Int := p.getD (List.replicate n 0)
def foldPic : Option (List Int) → List (List Int) → List Int → List (List Int)
  | p, x :: xs, k :: ks => foldRow k x (ups p x.length) :: foldPic (some x) xs ks
  | _, _, _ => []
def unfoldPic : Option (List Int) → List (List Int) → List Int → List (List Int)
  | p, x :: xs, k :: ks => unfoldRow k x (ups p x.length) :: unfoldPic (some (unfoldRow k x (ups p x.length))) xs ks
  | _, _, _ => []
def Wide (w : Nat) (rows : List (List Int)) : Prop := ∀ r ∈ rows, r.length = w ∧ ∀ c ∈ r, cell c
def UpOk (w : Nat) (p : Option (List Int)) : Prop := ∀ r, p = some r → r.length = w ∧ ∀ c ∈ r, cell c
theorem ups_ok {w : Nat} {p : Option (List Int)} (h : UpOk w p) : (ups p w).length = w ∧ ∀ c ∈ ups p w, cell c := by
  cases p with
  | none => exact ⟨by simp [ups], fun c hc => by simp [ups] at hc; rw [hc.2]; exact ⟨by decide, by decide⟩⟩
  | some r => exact h r rfl
theorem foldPic_len : ∀ (p : Option (List Int)) (rows : List (List Int)) (ks : List Int), rows.length = ks.length → (foldPic p rows ks).length = rows.length
  | _, [], [], _ => rfl
  | p, x :: xs, k :: ks, h => by
    show (foldPic (some x) xs ks).length + 1 = xs.length + 1
    rw [foldPic_len (some x) xs ks (by simpa using h)]
theorem foldPic_wide {w : Nat} : ∀ (p : Option (List Int)) (rows : List (List Int)) (ks : List Int), UpOk w p → Wide w rows → Wide w (foldPic p rows ks)
  | _, [], _, _, _ => fun r h => by simp [foldPic] at h
  | _, _ :: _, [], _, _ => fun r h => by simp [foldPic] at h
  | p, x :: xs, k :: ks, hp, hw => fun r h => by
    obtain ⟨hl, hc⟩ := hw x (List.mem_cons_self ..)
    obtain ⟨ul, uc⟩ := ups_ok hp
    rcases List.mem_cons.mp h with h | h
    · rw [h, hl]
      exact ⟨by rw [foldRow_len (by rw [hl, ul]), hl], foldRow_cell (by rw [hl, ul]) hc uc⟩
    · exact foldPic_wide (some x) xs ks (fun r e => by cases e; exact ⟨hl, hc⟩) (fun r hr => hw r (List.mem_cons_of_mem _ hr)) r h
theorem unfoldPic_fold {w : Nat} : ∀ (p : Option (List Int)) (rows : List (List Int)) (ks : List Int), rows.length = ks.length → UpOk w p → Wide w rows → unfoldPic p (foldPic p rows ks) ks = rows
  | _, [], [], _, _, _ => rfl
  | p, x :: xs, k :: ks, h, hp, hw => by
    obtain ⟨hl, hc⟩ := hw x (List.mem_cons_self ..)
    obtain ⟨ul, uc⟩ := ups_ok hp
    have e1 : (foldRow k x (ups p x.length)).length = x.length := foldRow_len (by rw [hl, ul])
    have e2 : unfoldRow k (foldRow k x (ups p x.length)) (ups p (foldRow k x (ups p x.length)).length) = x := by
      rw [e1]
      exact unfoldRow_fold (by rw [hl, ul]) hc (by rw [hl]; exact uc)
    show unfoldRow k (foldRow k x (ups p x.length)) (ups p (foldRow k x (ups p x.length)).length) :: unfoldPic (some (unfoldRow k (foldRow k x (ups p x.length)) (ups p (foldRow k x (ups p x.length)).length))) (foldPic (some x) xs ks) ks = x :: xs
    rw [e2, unfoldPic_fold (some x) xs ks (by simpa using h) (fun r e => by cases e; exact ⟨hl, hc⟩) fun r hr => hw r (List.mem_cons_of_mem _ hr)]
def upAt (p : Option (List Int)) (rows : List (List Int)) (i : Nat) : Option (List Int) := if i = 0 then p else rows[i - 1]?
theorem foldPic_at : ∀ (i : Nat) (p : Option (List Int)) (rows : List (List Int)) (ks : List Int) (x : List Int) (k : Int), rows[i]? = some x → ks[i]? = some k → (foldPic p rows ks)[i]? = some (foldRow k x (ups (upAt p rows i) x.length))
  | 0, p, x :: xs, k :: ks, _, _, hx, hk => by
    have := Option.some.inj hx
    have := Option.some.inj hk
    subst_vars
    rfl
  | i + 1, p, x0 :: xs, k0 :: ks, x, k, hx, hk => by
    have e := foldPic_at i (some x0) xs ks x k hx hk
    show (foldPic (some x0) xs ks)[i]? = _
    rw [e]
    cases i with
    | zero => rfl
    | succ i => rfl
  | _, _, [], _, _, _, h, _ => by simp at h
  | _, _, _ :: _, [], _, _, _, h => by simp at h
theorem unfoldPic_at : ∀ (i : Nat) (p : Option (List Int)) (rows : List (List Int)) (ks : List Int) (x : List Int) (k : Int), rows[i]? = some x → ks[i]? = some k → (unfoldPic p rows ks)[i]? = some (unfoldRow k x (ups (upAt p (unfoldPic p rows ks) i) x.length))
  | 0, p, x :: xs, k :: ks, _, _, hx, hk => by
    have := Option.some.inj hx
    have := Option.some.inj hk
    subst_vars
    rfl
  | i + 1, p, x0 :: xs, k0 :: ks, x, k, hx, hk => by
    have e := unfoldPic_at i (some (unfoldRow k0 x0 (ups p x0.length))) xs ks x k hx hk
    show (unfoldPic (some (unfoldRow k0 x0 (ups p x0.length))) xs ks)[i]? = _
    rw [e]
    cases i with
    | zero => rfl
    | succ i => rfl
  | _, _, [], _, _, _, h, _ => by simp at h
  | _, _, _ :: _, [], _, _, _, h => by simp at h
theorem unfoldPic_len : ∀ (p : Option (List Int)) (rows : List (List Int)) (ks : List Int), rows.length = ks.length → (unfoldPic p rows ks).length = rows.length
  | _, [], [], _ => rfl
  | p, x :: xs, k :: ks, h => by
    show (unfoldPic _ xs ks).length + 1 = xs.length + 1
    rw [unfoldPic_len _ xs ks (by simpa using h)]
theorem unfoldPic_w {w : Nat} : ∀ (p : Option (List Int)) (rows : List (List Int)) (ks : List Int), (∀ r, p = some r → r.length = w) → (∀ r ∈ rows, r.length = w) → ∀ r ∈ unfoldPic p rows ks, r.length = w
  | _, [], _, _, _ => fun r h => by simp [unfoldPic] at h
  | _, _ :: _, [], _, _ => fun r h => by simp [unfoldPic] at h
  | p, x :: xs, k :: ks, hp, hw => fun r h => by
    have hl := hw x (List.mem_cons_self ..)
    have ul : (ups p x.length).length = x.length := by
      cases p with
      | none => simp [ups]
      | some q => rw [hl]; exact hp q rfl
    have e : (unfoldRow k x (ups p x.length)).length = w := by rw [unfoldRow_len ul.symm, hl]
    rcases List.mem_cons.mp h with h | h
    · rw [h]; exact e
    · exact unfoldPic_w _ xs ks (fun r e' => by cases e'; exact e) (fun r hr => hw r (List.mem_cons_of_mem _ hr)) r h
end K44
set_option Elab.async false
set_option linter.all false
set_option maxRecDepth 100000
set_option maxHeartbeats 4000000
namespace K44
open PySem PySem.Spec PyProof.Rows L2
/-! Data that are compared whole: lists of ints, of texts, of rows. -/
def dI (ns : List Int) : PyData := .list (ns.map .int)
def dP (rows : List (List Int)) : PyData := .list (rows.map dI)
def dS (zs : List Str) : PyData := .list (zs.map .str)
section
variable {K : PySem.W.Frag} {H : Hp}
theorem dp_map {α : Type} {f : α → V} {g : α → PyData} : ∀ {xs : List α}, (∀ x ∈ xs, Dp K H (f x) (g x)) → DpAll K H (xs.map f) (xs.map g)
  | [], _ => .nil
  | x :: xs, h => .cons (h x (List.mem_cons_self ..)) (dp_map fun y hy => h y (List.mem_cons_of_mem _ hy))
theorem dp_I {a : Addr} {ns : List Int} (h : SqL K H a (ns.map V.int)) : Dp K H (.ref a) (dI ns) := .lst h (dp_map fun x _ => .int x)
theorem dp_S {a : Addr} {zs : List Str} (h : SqL K H a (zs.map V.str)) : Dp K H (.ref a) (dS zs) := .lst h (dp_map fun x _ => .str x)
theorem dp_P {a : Addr} {ps : List (Addr × List Int)} (h : SqL K H a (ps.map fun p => V.ref p.1)) (hi : ∀ p ∈ ps, Ints H p.1 p.2) : Dp K H (.ref a) (dP (ps.map (·.2))) := by
  have e : dP (ps.map (·.2)) = .list (ps.map fun p => dI p.2) := by unfold dP; rw [List.map_map]; rfl
  rw [e]
  exact .lst h (dp_map fun p hp => dp_I (SqL.of (hi p hp)))
theorem dp_nil {a : Addr} (h : H a = some (.lst [])) : Dp K H (.ref a) (.list []) := .lst (SqL.of h) .nil
end
theorem lay_map {α : Type} {g : α → PyData} : ∀ {xs : List α}, (∀ x ∈ xs, (g x).canLay0 = true) → PyData.canLayAll0 (xs.map g) = true
  | [], _ => by simp [PyData.canLayAll0]
  | x :: xs, h => by
    simp only [List.map_cons, PyData.canLayAll0, h x (List.mem_cons_self ..), lay_map fun y hy => h y (List.mem_cons_of_mem _ hy), Bool.and_self]
theorem depth_map {α : Type} {g : α → PyData} {n : Nat} : ∀ {xs : List α}, (∀ x ∈ xs, (g x).depth ≤ n) → PyData.depthAll (xs.map g) ≤ n
  | [], _ => by simp [PyData.depthAll]
  | x :: xs, h => by
    have h1 := h x (List.mem_cons_self ..)
    have h2 := depth_map fun y hy => h y (List.mem_cons_of_mem _ hy)
    simp only [List.map_cons, PyData.depthAll]
    omega
theorem shaped_of {d : PyData} (h : d.canLay0 = true) (h2 : d.depth ≤ 64) : SeqAt.shaped d = true := by unfold SeqAt.shaped; rw [h, decide_eq_true h2]; rfl
theorem lay_I (ns : List Int) : (dI ns).canLay0 = true := by unfold dI; simp only [PyData.canLay0]; exact lay_map fun x _ => by simp [PyData.canLay0]
theorem depth_I (ns : List Int) : (dI ns).depth ≤ 1 := by
  unfold dI; simp only [PyData.depth]
  have := depth_map (g := PyData.int) (n := 0) (xs := ns) fun x _ => by simp [PyData.depth]
  omega
theorem shaped_I (ns : List Int) : SeqAt.shaped (dI ns) = true := shaped_of (lay_I ns) (by have := depth_I ns; omega)
theorem lay_P (rows : List (List Int)) : (dP rows).canLay0 = true := by unfold dP; simp only [PyData.canLay0]; exact lay_map fun x _ => lay_I x
theorem shaped_P (rows : List (List Int)) : SeqAt.shaped (dP rows) = true := shaped_of (lay_P rows) (by
  unfold dP; simp only [PyData.depth]
  have := depth_map (g := dI) (n := 1) (xs := rows) fun x _ => depth_I x
  omega)
theorem shaped_nil : SeqAt.shaped (.list []) = true := shaped_of (by simp [PyData.canLay0, PyData.canLayAll0]) (by simp [PyData.depth, PyData.depthAll])
theorem shaped_S {zs : List Str} (h : ∀ z ∈ zs, PyData.strOk z = true) : SeqAt.shaped (dS zs) = true := shaped_of (by
  unfold dS; simp only [PyData.canLay0]; exact lay_map fun x hx => by simp only [PyData.canLay0]; exact h x hx) (by
  unfold dS; simp only [PyData.depth]
  have := depth_map (g := PyData.str) (n := 0) (xs := zs) fun x _ => by simp [PyData.depth]
  omega)
theorem eqv_same {d : PyData} (h : SeqAt.shaped d = true) : PyData.eqv d d = true := SeqAt.eqv_refl d (SeqAt.canLay_of_shaped h)
theorem eqv_S : ∀ xs ys : List Str, PyData.eqv (dS xs) (dS ys) = decide (xs = ys)
  | [], [] => by simp [dS, PyData.eqv, PyData.eqvAll]
  | [], _ :: _ => by simp [dS, PyData.eqv, PyData.eqvAll]
  | _ :: _, [] => by simp [dS, PyData.eqv, PyData.eqvAll]
  | x :: xs, y :: ys => by
    have ih := eqv_S xs ys
    simp only [dS, PyData.eqv, List.map_cons, PyData.eqvAll] at ih ⊢
    rw [ih]
    by_cases e : x = y <;> by_cases e2 : xs = ys <;> simp [e, e2]
theorem eqv_I0 : ∀ ns : List Int, PyData.eqv (dI ns) (.list []) = ns.isEmpty
  | [] => by simp [dI, PyData.eqv, PyData.eqvAll]
  | x :: xs => by simp [dI, PyData.eqv, PyData.eqvAll]
theorem eqv_P0 : ∀ rows : List (List Int), PyData.eqv (dP rows) (.list []) = rows.isEmpty
  | [] => by simp [dP, PyData.eqv, PyData.eqvAll]
  | x :: xs => by simp [dP, PyData.eqv, PyData.eqvAll]
section
variable {K : PySem.W.Frag} {H : Hp} {Q : VK} {x y : V} {d e : PyData}
theorem r_eqD (h1 : Dp K H x d) (h2 : Dp K H y e) (s1 : SeqAt.shaped d = true) (s2 : SeqAt.shaped e = true) (q : Q (.bl (PyData.eqv d e)) H) : rEqD K x y H Q := ⟨d, e, h1, h2, s1, s2, q⟩
theorem r_neD (h1 : Dp K H x d) (h2 : Dp K H y e) (s1 : SeqAt.shaped d = true) (s2 : SeqAt.shaped e = true) (q : Q (.bl (!PyData.eqv d e)) H) : rNeD K x y H Q := ⟨d, e, h1, h2, s1, s2, q⟩
end
end K44
set_option Elab.async false
set_option linter.all false
set_option maxRecDepth 100000
set_option maxHeartbeats 4000000
namespace K44
open PySem PySem.Spec PyProof.Rows L2
/-! Packs of cells, in plain Lean: what is read back, what is written. -/
def okc (n : Int) : Bool := decide (0 ≤ n ∧ n ≤ 15)
def likeC (h : Int) : List Int → Option (List Int × List Int)
  | [] => none
  | c :: r => if okc c = true then some (List.replicate (h - 14).toNat c, r) else none
def plainC (h : Int) (t : List Int) : Option (List Int × List Int) := if t.length < h.toNat + 1 then none else if (t.take (h.toNat + 1)).all okc = true then some (t.take (h.toNat + 1), t.drop (h.toNat + 1)) else none
def partC (h : Int) (t : List Int) : Option (List Int × List Int) := if 0 ≤ h ∧ h ≤ 31 then (if h < 16 then plainC h t else likeC h t) else none
def partM : List Int → Option (List Int × List Int)
  | [] => none
  | h :: t => partC h t
def unpackGo : Nat → Nat → List Int → Option (List Int)
  | _, _, [] => some []
  | 0, _, _ :: _ => none
  | n + 1, cnt, h :: t => match partM (h :: t) with
    | none => none
    | some (c, r) => if cnt + c.length > 576 then none else (unpackGo n (cnt + c.length) r).map (c ++ ·)
def unpackM (ns : List Int) : Option (List Int) := unpackGo ns.length 0 ns
theorem partM_less {s c r : List Int} (h : partM s = some (c, r)) : r.length < s.length := by
  cases s with
  | nil => cases h
  | cons a t =>
    have h : partC a t = some (c, r) := h
    unfold partC at h
    by_cases h1 : 0 ≤ a ∧ a ≤ 31
    · rw [if_pos h1] at h
      by_cases h2 : a < 16
      · rw [if_pos h2] at h
        unfold plainC at h
        by_cases h3 : t.length < a.toNat + 1
        · rw [if_pos h3] at h; cases h
        · rw [if_neg h3] at h
          by_cases h4 : (t.take (a.toNat + 1)).all okc = true
          · rw [if_pos h4] at h
            cases h
            simp
            omega
          · rw [if_neg h4] at h; cases h
      · rw [if_neg h2] at h
        cases t with
        | nil => cases h
        | cons b t =>
          have h : (if okc b = true then some (List.replicate (a - 14).toNat b, t) else none) = some (c, r) := h
          by_cases h3 : okc b = true
          · rw [if_pos h3] at h
            cases h
            simp
            omega
          · rw [if_neg h3] at h; cases h
    · rw [if_neg h1] at h; cases h
theorem partM_drop {s c r : List Int} (h : partM s = some (c, r)) : (∃ k, r = s.drop k) ∧ c.length ≤ 17 := by
  cases s with
  | nil => cases h
  | cons a t =>
    have h : partC a t = some (c, r) := h
    unfold partC at h
    by_cases h1 : 0 ≤ a ∧ a ≤ 31
    · rw [if_pos h1] at h
      by_cases h2 : a < 16
      · rw [if_pos h2] at h
        unfold plainC at h
        by_cases h3 : t.length < a.toNat + 1
        · rw [if_pos h3] at h; cases h
        · rw [if_neg h3] at h
          by_cases h4 : (t.take (a.toNat + 1)).all okc = true
          · rw [if_pos h4] at h
            cases h
            exact ⟨⟨a.toNat + 2, rfl⟩, by rw [List.length_take]; omega⟩
          · rw [if_neg h4] at h; cases h
      · rw [if_neg h2] at h
        cases t with
        | nil => cases h
        | cons b t =>
          have h : (if okc b = true then some (List.replicate (a - 14).toNat b, t) else none) = some (c, r) := h
          by_cases h3 : okc b = true
          · rw [if_pos h3] at h
            cases h
            exact ⟨⟨2, rfl⟩, by rw [List.length_replicate]; omega⟩
          · rw [if_neg h3] at h; cases h
    · rw [if_neg h1] at h; cases h
theorem drop_back (ns : List Int) (m : Nat) : ns.drop (ns.length - (ns.drop m).length) = ns.drop m := by
  rw [List.length_drop]
  by_cases h : m ≤ ns.length
  · rw [show ns.length - (ns.length - m) = m by omega]
  · rw [List.drop_of_length_le (by omega), List.drop_of_length_le (by omega)]
theorem partM_ok {s c r : List Int} (h : partM s = some (c, r)) : c.all okc = true := by
  cases s with
  | nil => cases h
  | cons a t =>
    have h : partC a t = some (c, r) := h
    unfold partC at h
    by_cases h1 : 0 ≤ a ∧ a ≤ 31
    · rw [if_pos h1] at h
      by_cases h2 : a < 16
      · rw [if_pos h2] at h
        unfold plainC at h
        by_cases h3 : t.length < a.toNat + 1
        · rw [if_pos h3] at h; cases h
        · rw [if_neg h3] at h
          by_cases h4 : (t.take (a.toNat + 1)).all okc = true
          · rw [if_pos h4] at h
            cases h
            exact h4
          · rw [if_neg h4] at h; cases h
      · rw [if_neg h2] at h
        cases t with
        | nil => cases h
        | cons b t =>
          have h : (if okc b = true then some (List.replicate (a - 14).toNat b, t) else none) = some (c, r) := h
          by_cases h3 : okc b = true
          · rw [if_pos h3] at h
            cases h
            rw [List.all_replicate, if_neg (by omega)]
            exact h3
          · rw [if_neg h3] at h; cases h
    · rw [if_neg h1] at h; cases h
theorem unpackGo_ok : ∀ (n cnt : Nat) (s cs : List Int), unpackGo n cnt s = some cs → cs.all okc = true
  | n, cnt, [], cs, h => by
    have : unpackGo n cnt [] = some [] := by cases n <;> rfl
    rw [this] at h
    cases h
    rfl
  | 0, _, _ :: _, _, h => by cases h
  | n + 1, cnt, a :: t, cs, h => by
    cases hp : partM (a :: t) with
    | none =>
      have : unpackGo (n + 1) cnt (a :: t) = none := by
        show (match partM (a :: t) with | none => none | some (c, r) => if cnt + c.length > 576 then none else (unpackGo n (cnt + c.length) r).map (c ++ ·)) = none
        rw [hp]
      rw [this] at h
      cases h
    | some cr =>
      obtain ⟨c, r⟩ := cr
      rw [show unpackGo (n + 1) cnt (a :: t) = if cnt + c.length > 576 then none else (unpackGo n (cnt + c.length) r).map (c ++ ·) from by
        show (match partM (a :: t) with | none => none | some (c, r) => if cnt + c.length > 576 then none else (unpackGo n (cnt + c.length) r).map (c ++ ·)) = _
        rw [hp]] at h
      by_cases hc : cnt + c.length > 576
      · rw [if_pos hc] at h; cases h
      · rw [if_neg hc] at h
        cases hu : unpackGo n (cnt + c.length) r with
        | none => rw [hu] at h; cases h
        | some ds =>
          rw [hu] at h
          have := Option.some.inj h
          subst this
          rw [List.all_append, partM_ok hp, unpackGo_ok n _ r ds hu]
          rfl
theorem unpackM_ok {ns cs : List Int} (h : unpackM ns = some cs) : cs.all okc = true := unpackGo_ok _ _ _ _ h
/-- a group of signs that stands for cells -/
def Grp (g d : List Int) : Prop := g ≠ [] ∧ g.length ≤ 2 * d.length ∧ (∀ n ∈ g, 0 ≤ n ∧ n ≤ 31) ∧ ∀ rest, partM (g ++ rest) = some (d, rest)
inductive Packs : List Int → List Int → Prop
  | nil : Packs [] []
  | snoc {f c g d : List Int} : Packs f c → Grp g d → Packs (f ++ g) (c ++ d)
theorem unpackGo_step {n cnt : Nat} {s c r : List Int} (h : partM s = some (c, r)) : unpackGo (n + 1) cnt s = if cnt + c.length > 576 then none else (unpackGo n (cnt + c.length) r).map (c ++ ·) := by
  cases s with
  | nil => cases h
  | cons a t =>
    show (match partM (a :: t) with | none => none | some (c, r) => if cnt + c.length > 576 then none else (unpackGo n (cnt + c.length) r).map (c ++ ·)) = _
    rw [h]
theorem Packs.go {f c : List Int} (h : Packs f c) : f.length ≤ 2 * c.length ∧ (∀ n ∈ f, 0 ≤ n ∧ n ≤ 31) ∧ ∃ k, k ≤ f.length ∧ ∀ rest cnt n, k ≤ n → cnt + c.length ≤ 576 → unpackGo n cnt (f ++ rest) = (unpackGo (n - k) (cnt + c.length) rest).map (c ++ ·) := by
  induction h with
  | nil => exact ⟨Nat.le_refl _, fun n h => by simp at h, 0, Nat.le_refl _, fun rest cnt n _ _ => by simp⟩
  | @snoc f c g d hp hg ih =>
    obtain ⟨i1, i2, k, i3, i4⟩ := ih
    obtain ⟨g1, g2, g3, g4⟩ := hg
    refine ⟨by rw [List.length_append, List.length_append]; omega, fun n hn => ?_, k + 1, ?_, fun rest cnt n hn hc => ?_⟩
    · rcases List.mem_append.mp hn with h | h
      · exact i2 n h
      · exact g3 n h
    · have : 0 < g.length := List.length_pos_iff.mpr g1
      rw [List.length_append]
      omega
    · rw [List.length_append] at hc
      rw [List.append_assoc, i4 (g ++ rest) cnt n (by omega) (by omega)]
      obtain ⟨m, hm⟩ : ∃ m, n - k = m + 1 := ⟨n - k - 1, by omega⟩
      rw [hm, unpackGo_step (g4 rest), if_neg (by omega), show n - (k + 1) = m by omega, Option.map_map, List.length_append, ← Nat.add_assoc]
      congr 1
      funext x
      simp
theorem unpack_packs {f c : List Int} (h : Packs f c) (hc : c.length ≤ 576) : unpackM f = some c := by
  obtain ⟨_, _, k, h3, h4⟩ := h.go
  have := h4 [] 0 f.length h3 (by omega)
  rw [List.append_nil] at this
  unfold unpackM
  rw [this]
  simp [unpackGo]
/-! ### ways on -/
def extra (cs : List Int) (i : Nat) : Nat := min 16 ((cs.drop (i + 1)).takeWhile fun c => decide (c = cs.getD i 0)).length
def plain (cs : List Int) (i : Nat) : Nat := min 16 (cs.length - i)
def waysM (cs : List Int) (i : Nat) : List (Int × Int × Int) :=
  ((List.range (plain cs i)).map fun k => (((k : Nat) : Int), ((k + 2 : Nat) : Int), ((i + k + 1 : Nat) : Int))) ++ ((List.range (extra cs i)).map fun k => (((k + 16 : Nat) : Int), (2 : Int), ((i + k + 2 : Nat) : Int)))
theorem tw_lt {l : List Int} {p : Int → Bool} : ∀ {j : Nat}, j ≤ (l.takeWhile p).length → (j < (l.takeWhile p).length ↔ ∃ x, l[j]? = some x ∧ p x = true) := by
  induction l with
  | nil => intro j h; simp
  | cons a r ih =>
    intro j h
    by_cases e : p a = true
    · rw [List.takeWhile_cons_of_pos e] at h ⊢
      cases j with
      | zero => simp [e]
      | succ j => simpa using ih (j := j) (by simpa using h)
    · rw [List.takeWhile_cons_of_neg e] at h ⊢
      have : j = 0 := by simpa using h
      subst this
      simp [e]
theorem extra_lt {cs : List Int} {i j : Nat} {c0 : Int} (h0 : cs[i]? = some c0) (h : j ≤ extra cs i) : j < extra cs i ↔ j < 16 ∧ ∃ x, cs[i + 1 + j]? = some x ∧ x = c0 := by
  have hg : cs.getD i 0 = c0 := by rw [List.getD_eq_getElem?_getD, h0]; rfl
  unfold extra at h ⊢
  rw [hg] at h ⊢
  have := tw_lt (l := cs.drop (i + 1)) (p := fun c => decide (c = c0)) (j := j) (by omega)
  rw [List.getElem?_drop] at this
  simp only [decide_eq_true_eq] at this
  rw [← this]
  generalize (List.takeWhile (fun c => decide (c = c0)) (List.drop (i + 1) cs)).length = n at h ⊢
  omega
theorem tw_all {l : List Int} {p : Int → Bool} : ∀ {j : Nat}, j < (l.takeWhile p).length → ∃ x, l[j]? = some x ∧ p x = true := fun {j} h => (tw_lt (Nat.le_of_lt h)).mp h
theorem take_rep {l : List Int} {x : Int} : ∀ {k : Nat}, (∀ j, j < k → l[j]? = some x) → l.take k = List.replicate k x := by
  intro k h
  apply List.ext_getElem?
  intro j
  by_cases hj : j < k
  · rw [List.getElem?_take_of_lt hj, h j hj, List.getElem?_replicate, if_pos hj]
  · rw [List.getElem?_take_eq_none (by omega), List.getElem?_replicate, if_neg hj]
/-- each way leads to a group -/
theorem way_ok {cs : List Int} {i : Nat} (hc : ∀ c ∈ cs, okc c = true) {h m e : Int} (hw : (h, m, e) ∈ waysM cs i) : ∃ k : Nat, e = ((i + k : Nat) : Int) ∧ 1 ≤ k ∧ i + k ≤ cs.length ∧ 2 ≤ m ∧ m ≤ 17 ∧ Grp (h :: (cs.drop i).take (m - 1).toNat) ((cs.drop i).take k) := by
  unfold waysM at hw
  rcases List.mem_append.mp hw with hw | hw
  · obtain ⟨k, hk, e1⟩ := List.mem_map.mp hw
    have hk := List.mem_range.mp hk
    cases e1
    unfold plain at hk
    have hlen : ((cs.drop i).take (k + 1)).length = k + 1 := by rw [List.length_take, List.length_drop]; omega
    refine ⟨k + 1, by omega, by omega, by omega, by omega, by omega, by simp, ?_, ?_, ?_⟩
    · rw [show (((k + 2 : Nat) : Int) - 1).toNat = k + 1 by omega, List.length_cons, hlen]
      omega
    · intro n hn
      rcases List.mem_cons.mp hn with hn | hn
      · rw [hn]; omega
      · have := of_decide_eq_true (hc n (List.mem_of_mem_drop (List.mem_of_mem_take hn)))
        omega
    · intro rest
      rw [show (((k + 2 : Nat) : Int) - 1).toNat = k + 1 by omega]
      show partC ((k : Nat) : Int) ((cs.drop i).take (k + 1) ++ rest) = _
      unfold partC
      rw [if_pos (by omega), if_pos (by omega)]
      unfold plainC
      rw [show (((k : Nat) : Int)).toNat = k from rfl, if_neg (by rw [List.length_append, hlen]; omega)]
      have et : ((cs.drop i).take (k + 1) ++ rest).take (k + 1) = (cs.drop i).take (k + 1) := by
        conv => lhs; arg 1; rw [← hlen]
        rw [List.take_left]
      have ed : ((cs.drop i).take (k + 1) ++ rest).drop (k + 1) = rest := by
        conv => lhs; arg 1; rw [← hlen]
        rw [List.drop_left]
      rw [et, ed, if_pos (List.all_eq_true.mpr fun c hm => hc c (List.mem_of_mem_drop (List.mem_of_mem_take hm)))]
  · obtain ⟨k, hk, e1⟩ := List.mem_map.mp hw
    have hk := List.mem_range.mp hk
    cases e1
    unfold extra at hk
    have hall : ∀ j, j < k + 1 → (cs.drop (i + 1))[j]? = some (cs.getD i 0) := fun j hj => by
      obtain ⟨x, e1, e2⟩ := tw_all (l := cs.drop (i + 1)) (p := fun c => decide (c = cs.getD i 0)) (j := j) (by omega)
      rw [e1, of_decide_eq_true e2]
    have hl : i + 1 + k < cs.length := by
      have := hall k (by omega)
      rw [List.getElem?_drop] at this
      exact (List.getElem?_eq_some_iff.mp this).1
    have h0 : cs[i]? = some (cs.getD i 0) := by rw [List.getD_eq_getElem?_getD, List.getElem?_eq_getElem (by omega)]; rfl
    have hr : (cs.drop i).take (k + 2) = List.replicate (k + 2) (cs.getD i 0) := take_rep fun j hj => by
      cases j with
      | zero => rw [List.getElem?_drop]; exact h0
      | succ j =>
        have := hall j (by omega)
        rw [List.getElem?_drop] at this ⊢
        rw [← this]
        congr 1
        omega
    have h1 : (cs.drop i).take 1 = [cs.getD i 0] := take_rep (k := 1) fun j hj => by
      have : j = 0 := by omega
      subst this
      rw [List.getElem?_drop]
      exact h0
    have hc0 := hc _ (List.mem_of_getElem? h0)
    refine ⟨k + 2, by omega, by omega, by omega, by omega, by omega, by simp, ?_, ?_, ?_⟩
    · rw [show ((2 : Int) - 1).toNat = 1 from rfl, h1, hr]
      simp
      omega
    · intro n hn
      rw [show ((2 : Int) - 1).toNat = 1 from rfl, h1] at hn
      simp only [List.mem_cons, List.not_mem_nil, or_false] at hn
      rcases hn with hn | hn
      · rw [hn]; omega
      · rw [hn]
        have := of_decide_eq_true hc0
        omega
    · intro rest
      rw [show ((2 : Int) - 1).toNat = 1 from rfl, h1, hr]
      show partC ((k + 16 : Nat) : Int) (cs.getD i 0 :: rest) = _
      unfold partC
      rw [if_pos (by omega), if_neg (by omega)]
      show (if okc (cs.getD i 0) = true then some (List.replicate (((k + 16 : Nat) : Int) - 14).toNat (cs.getD i 0), rest) else none) = _
      rw [if_pos hc0, show (((k + 16 : Nat) : Int) - 14).toNat = k + 2 by omega]
theorem ways_ne {cs : List Int} {i : Nat} (h : i < cs.length) : waysM cs i ≠ [] := by
  unfold waysM plain
  obtain ⟨m, hm⟩ : ∃ m, min 16 (cs.length - i) = m + 1 := ⟨min 16 (cs.length - i) - 1, by omega⟩
  rw [hm, List.range_succ]
  simp
theorem ways_len (cs : List Int) (i : Nat) : (waysM cs i).length ≤ 32 := by
  unfold waysM plain extra
  simp
  omega
end K44
set_option Elab.async false
set_option linter.all false
set_option maxRecDepth 100000
set_option maxHeartbeats 4000000
namespace K44
open PySem PySem.Spec PyProof.Rows L2
/-! try .. except X: raise Y, as a named reading. -/
def tTry (K : PySem.W.Frag) (c : Value) (ts : Addr → Value → Option Addr → TS) (tb : WX → TS) (u : TS) : TS := fun D σ H => tb (wSure K c ts D) { D with nx := u D } σ H
theorem r_try {K : PySem.W.Frag} {c : Value} {ts : Addr → Value → Option Addr → TS} {tb : WX → TS} {u : TS} {D : Ends} {σ : L2.St} {H : Hp} (q : tb (wSure K c ts D) { D with nx := u D } σ H) : tTry K c ts tb u D σ H := q
section
variable {X : Cx} {x : Str} {c : Value} {body suite orelse : List Stmt} {b0 : Stmt} {np pos pos2 : Pos} {tb : WX → TS} {ts : Addr → Value → Option Addr → TS} {u : TS} {Wout : WX}
theorem ps_try_sureK (ho : PSs X orelse u) (hs : X.stack = X.env :: X.outer) (hf : X.env.frame = some X.env.locals) (hc : Names X x c) (hpa : ∀ hd : Option Value, PassesOwnAt (model X.prog X.w) (X.A.mark hd) X.A X.env X.xe) (tk : L2.Takes X Wout)
    (hb : ∀ (W : WX) (pn : List (Addr × Obj)) (xe : Value → Shared → Prop), L2N.Takes (X.tr pn xe) W → PassesOwn (model X.prog X.w) X.A X.env xe → PSs (X.tr pn xe) body (tb W))
    (hsu : ∀ (a : Addr) (oe : Obj) (cls : Value) (d : Option Addr) (pn : List (Addr × Obj)), L2N.Zn cls d oe → (∃ vs, oe.data = .fields vs) → L2.Takes (L2H.suiteX X a ((a, oe) :: pn)) Wout → L2H.HotC (L2H.suiteX X a ((a, oe) :: pn)) →
      PSs (L2H.suiteX X a ((a, oe) :: pn)) (b0 :: suite) (ts a cls d)) :
    PS X (.Try body [.ExceptHandler (some (.Name x np)) none (b0 :: suite) pos2] orelse [] pos) (tTry X.K c ts tb u) := ps_try_sure ho hs hf hc hpa tk hb hsu
end
end K44
set_option Elab.async false
set_option linter.all false
set_option maxRecDepth 100000
set_option maxHeartbeats 4000000
namespace K44
open PySem PySem.Spec PyProof.Rows L2
/-! A caught exception: isinstance of it, its fields, and a clause that keeps it behind its suite. -/
theorem excC_of {K : PySem.W.Frag} {D : Addr} (h : excCB K D = true) : ExcC K D := by
  unfold excCB at h
  simp only [Bool.and_eq_true, decide_eq_true_eq] at h
  obtain ⟨h1, h2, h3, h4, h5, h6, h7, h8⟩ := h
  exact ⟨h1, h2, h3, h4, h5, h6, h7, h8⟩
theorem kitE {K : PySem.W.Frag} {D x : Addr} {ox : Obj} {od : Option Obj} (C : ExcC K D) : PySem.W.KitX K (.ref x) (.ref D) (fun h => PySem.W.InstAt h x ox D od) :=
  PySem.W.kitx_exc (by obtain ⟨cd, hc, _⟩ := PySem.W.any_some C.hd; unfold PySem.W.clsIn at *; rw [hc]; rfl) C.hg C.hk C.hs C.ha C.hn C.ht C.hm
/-- isinstance(e, c) within the suite, whatever e's class and dict -/
def rIsC (K : PySem.W.Frag) (a : Addr) (cls : Value) (d : Option Addr) : List V → Hp → VK → Prop := fun xs H Q => ∃ (c : V) (cv : Value) (D : Addr) (b : Bool), xs = [.ref a, c] ∧ cls = .ref D ∧ ExcC K D ∧ (∀ dd, d = some dd → ∃ fs, H dd = some (.xd fs)) ∧ (∀ u, RelV c u → u = cv) ∧
  PySem.W.kitOne K (.ref D) cv = some b ∧ Q (.bl b) H
theorem call_isC (K : PySem.W.Frag) {X : Cx} {a : Addr} {oe : Obj} {cls : Value} {d : Option Addr} {pn : List (Addr × Obj)} (hz : Zc cls d oe) (hf : ∃ vs, oe.data = .fields vs) (eK : X.K = K := by rfl) : CallR (X.suite a ((a, oe) :: pn)) (.builtin "isinstance") (rIsC K a cls d) := by
  subst eK
  rintro pins s σ H xs us Q I (_ | ⟨rx, (_ | ⟨rt, (_ | _)⟩)⟩) ⟨c, cv, D, b, exs, ec, C, hd, hcv, ek, q⟩
  all_goals try (cases exs)
  cases rx
  have ec2 := hcv _ rt
  subst ec2
  subst ec
  have hget := (I.pin (a, oe) (List.mem_append.mpr (.inl List.mem_cons_self))).1
  obtain ⟨vs, hv⟩ := hf
  have hno : PySem.W.notCls oe = true := by unfold PySem.W.notCls; rw [hv] <;> rfl
  obtain ⟨od, J⟩ : ∃ od, PySem.W.InstAt s.heap a oe D od := by
    cases hdd : d with
    | none => exact ⟨none, hget, hz.1, hno, by rw [hz.2, hdd]; trivial⟩
    | some dd =>
      obtain ⟨fs, ho⟩ := hd dd hdd
      obtain ⟨mA, ⟨ob, es, ep, hob, _⟩, _⟩ := I.hok dd _ ho
      exact ⟨some ob, hget, hz.1, hno, by rw [hz.2, hdd]; exact hob⟩
  exact PySem.W.kia_one (kitE C) I.kIn J ek (fun z => nomatch z) fun tk => ⟨.bl b, H, I.kept (t' := tk) fun _ _ z => z, rfl, q⟩
/-- at a: a caught exception of the class at C, kept behind its suite -/
def exk (a C : Addr) : HO := .ext fun h => ∃ (oe : Obj) (vs : Array Value), h.get? a = some oe ∧ Zc (.ref C) none oe ∧ oe.data = .fields vs
theorem exk_at {P : Program} {w : World} {H : Hp} {h : Heap} {a C : Addr} (ok : HOk P w H h) (e : H a = some (exk a C)) : ∃ (oe : Obj) (vs : Array Value), h.get? a = some oe ∧ Zc (.ref C) none oe ∧ oe.data = .fields vs := by
  have x : ObjOk P w H h a (.ext fun h => ∃ (oe : Obj) (vs : Array Value), h.get? a = some oe ∧ Zc (.ref C) none oe ∧ oe.data = .fields vs) := ok a _ e
  exact x.1
/-- isinstance(x, c) of an exception that was kept -/
def rIsX (K : PySem.W.Frag) : List V → Hp → VK → Prop := fun xs H Q => ∃ (a D : Addr) (c : V) (cv : Value) (b : Bool), xs = [.ref a, c] ∧ H a = some (exk a D) ∧ ExcC K D ∧ (∀ u, RelV c u → u = cv) ∧ PySem.W.kitOne K (.ref D) cv = some b ∧ Q (.bl b) H
theorem call_isX (K : PySem.W.Frag) {X : Cx} (eK : X.K = K := by rfl) : CallR X (.builtin "isinstance") (rIsX K) := by
  subst eK
  rintro pins s σ H xs us Q I (_ | ⟨rx, (_ | ⟨rt, (_ | _)⟩)⟩) ⟨a, D, c, cv, b, exs, ha, C, hcv, ek, q⟩
  all_goals try (cases exs)
  cases rx
  have ec2 := hcv _ rt
  subst ec2
  obtain ⟨oe, vs, hget, hz, hv⟩ := exk_at I.hok ha
  have J : PySem.W.InstAt s.heap a oe D none := ⟨hget, hz.1, by unfold PySem.W.notCls; rw [hv] <;> rfl, by rw [hz.2]; trivial⟩
  exact PySem.W.kia_one (kitE C) I.kIn J ek (fun z => nomatch z) fun tk => ⟨.bl b, H, I.kept (t' := tk) fun _ _ z => z, rfl, q⟩
section
variable {X : Cx} {pins : List (Addr × Obj)} {σ : L2.St} {H : Hp} {s : Shared} {a b C : Addr} {oe : Obj} {vs : Array Value}
theorem inv_held (I : Inv (X.suite b ((a, oe) :: (X.pn ++ pins))) [] σ H s) (ok : X.Ok) : Inv X ((a, oe) :: pins) σ H s where
  ok := ok
  os := I.os
  bare := I.bare
  base := I.base
  loc := I.loc
  cell := I.cell
  free := I.free
  freeC := I.freeC
  hok := I.hok
  len := I.len
  pin := fun p hp => I.pin p (by
    show p ∈ ((a, oe) :: (X.pn ++ pins)) ++ []
    simp only [List.append_nil, List.mem_cons, List.mem_append] at hp ⊢
    rcases hp with h | h | h
    · exact .inr (.inl h)
    · exact .inl h
    · exact .inr (.inr h))
theorem inv_keep (I : Inv X ((a, oe) :: pins) σ H s) (hz : Zc (.ref C) none oe) (hd : oe.data = .fields vs) (new : ∀ o, ¬ X.s_0.heap.get? a = some o) (apart : ∀ p ∈ X.pn ++ pins, p.1 ≠ a) : Inv X pins σ (upd H a (exk a C)) s := by
  obtain ⟨e, na, nL, nF, nc⟩ := I.pin (a, oe) (by simp)
  have ne : ∀ {b u}, H b = some u → (upd H a (exk a C)) b = some u := fun h => by rw [upd_ne (ne_of_none h na)]; exact h
  have nn : ∀ {b}, H b = none → b ≠ a → (upd H a (exk a C)) b = none := fun h n => by rw [upd_ne n]; exact h
  have B := I.base
  exact {
    ok := I.ok, os := I.os, bare := I.bare, loc := I.loc, cell := I.cell, len := I.len
    base := ⟨B.keep, B.slot, fun b o e' n x => nn (B.free b o e' n x) fun z => new o (by rw [← z]; exact e'), B.there, fun b xs q => ne (B.tups b xs q), fun b o u q => ne (B.frzs b o u q), fun b ps q => by
      obtain ⟨m, h⟩ := B.tbls b ps q
      exact ⟨m, ne h⟩⟩
    free := nn I.free (Ne.symm nL)
    freeC := fun x c h => nn (I.freeC x c h) fun z => by
      obtain ⟨v, o, ho, hdt⟩ := I.cell x c h
      rw [z, e] at ho
      cases ho
      exact nc _ hdt
    pin := fun p hp => by
      obtain ⟨k1, k2, k3, k4, k5⟩ := I.pin p (by simp only [List.mem_append, List.mem_cons] at hp ⊢; rcases hp with h | h; exact .inl h; exact .inr (.inr h))
      exact ⟨k1, nn k2 (apart p hp), k3, k4, k5⟩
    hok := fun b u q => by
      by_cases hb : b = a
      · subst hb
        rw [upd_same] at q
        cases q
        exact ⟨⟨oe, vs, e, hz, hd⟩, ⟨_, e⟩, fun h1 h2 ⟨o, v, z1, z2, z3⟩ k => ⟨o, v, k _ z1, z2, z3⟩⟩
      · rw [upd_ne hb] at q
        exact (I.hok b u q).stay (fun _ _ _ h => h) (fun _ h => ne h) fun _ _ h => ne h }
end
/-- try: body / except x as n: suite, where the suite runs to its end and has kept the exception -/
def wKeep (K : PySem.W.Frag) (c : Value) (i : Nat) (ts : Addr → Value → Option Addr → TS) (D : Ends) : WX := fun cls d σ H => PySem.W.exmOne K cls c = some true ∧ ∀ a, H a = none →
  ts a cls d { nx := fun σ' H' => ∃ C, cls = .ref C ∧ d = none ∧ (H' a = none → D.nx (σ'.set i none) (upd H' a (exk a C))), rt := fun _ _ => False, bk := fun _ _ => False, ct := fun _ _ => False } (σ.set i (some (.ref a))) H
def tKeep (K : PySem.W.Frag) (c : Value) (i : Nat) (ts : Addr → Value → Option Addr → TS) (tb : WX → TS) : TS := fun D σ H => tb (wKeep K c i ts D) D σ H
theorem r_keep {K : PySem.W.Frag} {c : Value} {i : Nat} {ts : Addr → Value → Option Addr → TS} {tb : WX → TS} {D : Ends} {σ : L2.St} {H : Hp} (q : tb (wKeep K c i ts D) D σ H) : tKeep K c i ts tb D σ H := q
section
variable {X : Cx} {x n : Str} {c : Value} {i : Nat} {body suite : List Stmt} {b0 : Stmt} {np pos pos2 : Pos} {tb : WX → TS} {ts : Addr → Value → Option Addr → TS}
theorem ps_keep (hs : X.stack = X.env :: X.outer) (hf : X.env.frame = some X.env.locals) (hex : X.ex = []) (hN : X.N.Nodup) (hi : X.N[i]? = some n) (hln : X.env.kindOf n = some .local) (hc : Names X x c)
    (hb : ∀ (W : WX) (pn : List (Addr × Obj)) (xe : Value → Shared → Prop), L2N.Takes (X.tr pn xe) W → PSs (X.tr pn xe) body (tb W))
    (hsu : ∀ (a : Addr) (oe : Obj) (cls : Value) (d : Option Addr) (pn : List (Addr × Obj)), PSs (X.suite a ((a, oe) :: pn)) (b0 :: suite) (ts a cls d)) :
    PS X (.Try body [.ExceptHandler (some (.Name x np)) (some n) (b0 :: suite) pos2] [] [] pos) (tKeep X.K c i ts tb) := by
  constructor
  intro pins s σ H D I h
  have ok := I.ok
  have hfr : X.A.frames = some (X.env :: X.outer) := by rw [ok.frames, hs]
  apply wpAny_Try_except
  let want : Value → Shared → Prop := fun e s1 => wpAny (model X.prog X.w) X.A (noteFrame e X.env) (fun _ s2 => wpAny (model X.prog X.w) X.A (setFlight e none) (fun _ s3 =>
    wpAny (model X.prog X.w) X.A (handleBy e X.env [.ExceptHandler (some (.Name x np)) (some n) (b0 :: suite) pos2]) (SP X pins D) X.xe s3) X.xe s2) X.xe s1
  have catch_ : L2N.Takes (X.tr (X.pn ++ pins) want) (wKeep X.K c i ts D) := by
    rintro _ s1 ⟨a, B, s0, _, σ1, H1, cls, d, rfl, J0, nb, up, sky, na, os, ag, hm, hyes⟩
    have J := J0.ofTry ok
    rw [show (X.tr (X.pn ++ pins) want).stack = X.env :: X.outer from hs] at sky
    refine L2N.Sky.land L2N.Zn.steady hfr hf sky fun h3 fl3 up3 => ?_
    have up13 := up.trans up3
    have J3 : Inv X pins σ1 H1 { s1 with heap := h3 } := J.landed nb fl3.1 up13 os ag
    obtain ⟨o3, v3, he3, hz3, hd3⟩ := fl3.there
    have nfr : a ∉ frs (X.env :: X.outer) := fun hm => by
      obtain ⟨_, o', e', hnf⟩ := fl3.2.2.1.mem hm
      rw [he3] at e'
      cases e'
      exact hnf _ hd3
    have nL : a ≠ X.env.locals := fun z => nfr (List.mem_filterMap.mpr ⟨X.env, List.mem_cons_self, by rw [hf, z]⟩)
    have nF : a ∉ X.fs := fun hm => by
      obtain ⟨e, he, q⟩ := List.mem_filterMap.mp hm
      exact nfr (List.mem_filterMap.mpr ⟨e, List.mem_cons_of_mem _ he, q⟩)
    have gone : ∀ o, ¬ s0.heap.get? a = some o := fun o e => by
      have := nb a o e (by rw [show (X.tr (X.pn ++ pins) want).stack = X.env :: X.outer from hs]; exact nfr)
      rw [fl3.2.1] at this
      cases this
    have S3 := J3.suite he3 hd3 na nL nF
    refine wpAny_handleBy_cons (codeAny_handlers_test ?_) (fun q => by cases q)
    have LT : PySem.W.Looks (model X.prog X.w) h3 (typeOf (.ref a)) cls := fun A Q E s k q => wpAny_typeOf_ref (k _ _ he3) (by rw [hz3.1]; exact q)
    have LM := PySem.W.exm_one (M := model X.prog X.w) J3.kIn LT hm
    have named : ∀ {Q : Value → Shared → Prop} {E : Value → Shared → Prop}, Q c { s1 with heap := h3 } → wpAny (model X.prog X.w) (X.A.mark (some (.ref a))) (eval (.Name x np) X.env) Q E { s1 with heap := h3 } := fun {Q E} q => by
      rcases hc with ⟨hg, hdb, k | ⟨k1, k2, k3⟩⟩
      · exact ld_glob (X := X.suite a ((a, o3) :: (X.pn ++ pins))) S3 hg k q hdb
      · exact ld_blt (X := X.suite a ((a, o3) :: (X.pn ++ pins))) S3 hg k1 k2 q k3 hdb
    apply named
    apply LM.here
    apply codeAny_handlers_suite_as
    refine HandSPX.lands_againZ fl3 fun h4 fl4 up4 => ?_
    have J4 : Inv X pins σ1 H1 { s1 with heap := h4 } := J.landed nb fl4.1 (up13.trans up4) os ag
    obtain ⟨o4, v4, he4, hz4, hd4⟩ := fl4.there
    refine store_ok (X := X.suite a ((a, o4) :: (X.pn ++ pins))) (v := .ref a) (J4.suite he4 hd4 na nL nF) hN hi (.inl hln) rfl (fun s5 S5 => ?_) (.inr hln)
    refine wpAny_mono ((hsu a o4 cls d (X.pn ++ pins)).run [] s5 _ H1 _ S5 (hyes a na)) (fun f s6 hsp => ?_) (fun _ _ z => z.elim)
    match f, hsp with
    | .next, hsp =>
      obtain ⟨σ6, H6, S6, C, rfl, rfl, q6⟩ := hsp
      refine gone_ok (inv_held S6 ok) hN hi hln fun s7 J7 => ⟨_, _, inv_keep J7 hz4.zc hd4 ?_ ?_, q6 ?_⟩
      · intro o e
        obtain ⟨o', e'⟩ := J.base.there a o e (by rw [hex]; simp)
        exact gone o' e'
      · intro p hp z
        have := (J.pin p hp).1
        rw [z] at this
        exact gone _ this
      · exact (J7.pin (a, o4) (by simp)).2.1
    | .brk, hsp => exact hsp.elim fun _ h => h.elim fun _ h => h.2.elim
    | .cont, hsp => exact hsp.elim fun _ h => h.elim fun _ h => h.2.elim
    | .ret _, hsp => exact hsp.elim fun _ h => h.elim fun _ h => h.elim fun _ h => h.2.2.elim
  refine wpAny_mono ((hb (wKeep X.K c i ts D) (X.pn ++ pins) want catch_).run [] s σ H D (I.toTry _) h) (fun f s1 hsp => ?_) (fun e s1 he => he)
  match f, hsp with
  | .next, hsp =>
    obtain ⟨σ1, H1, J, q⟩ := hsp
    exact wpAny_execs_nil ⟨σ1, H1, J.ofTry ok, q⟩
  | .brk, hsp =>
    obtain ⟨σ1, H1, J, q⟩ := hsp
    exact ⟨σ1, H1, J.ofTry ok, q⟩
  | .cont, hsp =>
    obtain ⟨σ1, H1, J, q⟩ := hsp
    exact ⟨σ1, H1, J.ofTry ok, q⟩
  | .ret u, hsp =>
    obtain ⟨v, σ1, H1, J, r, q⟩ := hsp
    exact ⟨v, σ1, H1, J.ofTry ok, r, q⟩
/-- try: body / except x as n: suite, as a named reading -/
def tAs (K : PySem.W.Frag) (c : Value) (i : Nat) (ts : Addr → Value → Option Addr → TS) (Wout : WX) (tb : WX → TS) : TS := fun D σ H => tb (wAs K c i ts Wout D) D σ H
theorem r_as {K : PySem.W.Frag} {Wout : WX} {D : Ends} {σ : L2.St} {H : Hp} (q : tb (wAs K c i ts Wout D) D σ H) : tAs K c i ts Wout tb D σ H := q
theorem ps_as {Wout : WX} (hs : X.stack = X.env :: X.outer) (hf : X.env.frame = some X.env.locals) (hN : X.N.Nodup) (hi : X.N[i]? = some n) (hln : X.env.kindOf n = some .local) (hc : Names X x c) (tk : Takes X Wout)
    (hb : ∀ (W : WX) (pn : List (Addr × Obj)) (xe : Value → Shared → Prop), Takes (X.tr pn xe) W → PassesOwn (model X.prog X.w) X.A X.env xe → PSs (X.tr pn xe) body (tb W))
    (hsu : ∀ (a : Addr) (oe : Obj) (cls : Value) (d : Option Addr) (pn : List (Addr × Obj)), Zc cls d oe → (∃ vs, oe.data = .fields vs) → PSs (X.suite a ((a, oe) :: pn)) (b0 :: suite) (ts a cls d)) :
    PS X (.Try body [.ExceptHandler (some (.Name x np)) (some n) (b0 :: suite) pos2] [] [] pos) (tAs X.K c i ts Wout tb) := ps_try_as hs hf hN hi hln hc tk hb hsu
end
end K44
set_option Elab.async false
set_option linter.all false
set_option maxRecDepth 100000
set_option maxHeartbeats 4000000
namespace K44
open PySem PySem.Spec PyProof.Rows L2
/-! FolioError.__init__(self, ..): the attribute of an own class that the built-in base holds. -/
theorem ti (K : PySem.W.Frag) : PySem.W.findIn K (.type "type") "__init__" = some (some (.builtin "type.__init__")) := by kernel_rfl
theorem tg (K : PySem.W.Frag) : PySem.W.specialIn K (.builtin "type.__init__") "__get__" = some (some (.builtin "wrapper_descriptor.__get__")) := by kernel_rfl
theorem tt (K : PySem.W.Frag) : PySem.W.takesIn K (.builtin "type.__init__") = some false := by kernel_rfl
theorem tv (K : PySem.W.Frag) : PySem.W.typeIn K (.builtin "ValueError.__init__") = some (.type "wrapper_descriptor") := by kernel_rfl
theorem bk : PySem.W.bareKinds.contains (.type "wrapper_descriptor") = true := by decide +kernel
theorem hu0 : PySem.Builtin.heldUnderItsOwnName "__init__" (.builtin "ValueError.__init__") = false := by decide +kernel
theorem fc {K : PySem.W.Frag} {F : Addr} (h : PySem.W.findIn K (.ref F) "__init__" = some (some (.builtin "ValueError.__init__"))) : PySem.W.findCls K (.ref F) (.type "type") "__init__" = some (.val (.builtin "ValueError.__init__")) := by
  unfold PySem.W.findCls
  rw [ti, Option.bind_some]
  simp only [tg, tt, tv, h, Option.bind_some, hu0, bk, Bool.false_eq_true, if_false, if_true]
section
variable {X : Cx} {e : Expr} {es : List Expr} {ta : TA} {p1 p2 pos : Pos} {F : Addr}
theorem pe_basei {pl : Sem Bool} (hg : Gl X "FolioError") (hm : X.mg "FolioError" = some (.ref F)) (hb : baseB X.K F = true) (ha : PA X (e :: es) ta)
    (hc : eval (.Call (.Attribute (.Name "FolioError" p1) "__init__" p2) (e :: es) [] pos) X.env = (do
      let ov ← eval (.Name "FolioError" p1) X.env
      standAt p2.atName
      let (f, first) ← holding [ov] (getMethod ov "__init__" pl)
      callWith pos f first (backTo pos (starEach (e :: es) X.env)) (backToKw pos (keywordEach [] X.env))) := by rfl)
    (he : starEach (e :: es) X.env = (false, eval e X.env) :: starEach es X.env := by rfl) (hpl : (backTo pos (starEach es X.env)).any (·.1) = false := by rfl) :
    PE X (.Call (.Attribute (.Name "FolioError" p1) "__init__" p2) (e :: es) [] pos) (tVeI X.K ta) := by
  unfold baseB at hb
  simp only [Bool.and_eq_true, decide_eq_true_eq] at hb
  obtain ⟨hr, hi, hs⟩ := hb
  refine ⟨fun pins s σ H Q I h => ?_⟩
  refine PySem.W.methodCall_KW (ld_glob I hg hm ?_ (by decide)) hc
  refine PySem.W.method_cls I.kIn hs (PySem.W.cls_value I.kIn hr (fc hi) (by decide +kernel) ?_)
  show wpAny _ _ (callWith pos (Value.builtin "ValueError.__init__") [] (backTo pos (starEach (e :: es) X.env)) []) _ _ _
  refine PyProof.Rows.callWith_method1 (thn (ha.run pos pins _ σ H _ (I.tok _) h) fun us s1 ⟨vs, H1, I1, r1, a, C, ws, ev, hl, T, ea, q⟩ => ?_) he hpl
  subst ev
  cases r1 with
  | @cons _ u0 _ ur ra rw' =>
    obtain rfl : u0 = Value.ref a := ra
    have hlen : ur.length ≤ sizeLine := by
      rw [← Paired.length rw', sizeLine_eq]
      omega
    exact oinit_ok T I1 ea hlen fun s' J => ⟨.non, H1, J, rfl, q⟩
end
theorem oexC_of {K : PySem.W.Frag} {C : Addr} (h : oexB K C = true) : OexC K C := by
  unfold oexB at h
  simp only [Bool.and_eq_true, decide_eq_true_eq] at h
  obtain ⟨h1, h2, h3, h4, h5⟩ := h
  refine ⟨?_, h2, h3, h4, h5⟩
  split at h1
  · rename_i dd cd sl hC
    split at h1
    · rename_i c bm k0 k1 k2 k3 n k5 hm hs
      simp only [Bool.and_eq_true, beq_iff_eq, Bool.not_eq_true'] at h1
      obtain ⟨rfl, rfl, hdel, hd, hrf⟩ := h1
      obtain ⟨nm, bs, mro, ns, qn, hdict, sn, sub, ab, col, del⟩ := cd
      dsimp only at hm hdel hd hrf
      subst hm hdel hd
      have hsl : sl = #[k0, k1, k2, k3, some (.builtin "ValueError.__new__"), k5] := by
        obtain ⟨l⟩ := sl
        simp only at hs
        rw [hs]
      subst hsl
      exact ⟨_, _, _, _, _, _, _, _, _, _, _, _, _, _, _, hC, hrf⟩
    · cases h1
  · cases h1
section
variable {X : Cx} {e : Expr} {es : List Expr} {ta : TA} {p pos : Pos} {x : Str} {C fI : Addr} {k j : Nat} {ps : List Str} {sp : Sp}
theorem pmk_cal (T : OexC X.K C) (iC : PySem.W.findIn X.K (.ref C) "__init__" = some (some (.ref fI)) ∧ PySem.W.typeIn X.K (.ref fI) = some (.type "function")) (c : Cal X.prog X.w X.K X.mg X.base CX0 k fI ps sp) (hr : Room j X.A) (hk : k + 1 ≤ j) (hg : Gl X x) (hm : X.mg x = some (.ref C)) (ha : PA X (e :: es) ta)
    (hdb : (x == ("__debug__" : Str)) = false := by decide) (he : starEach (e :: es) X.env = (false, eval e X.env) :: starEach es X.env := by rfl) (hpl : (backTo pos (starEach es X.env)).any (·.1) = false := by rfl) :
    PMk X (.Call (.Name x p) (e :: es) [] pos) (tMkO C sp [] ta) := by
  obtain ⟨⟨fd, G, b⟩, kp⟩ := c
  exact pmk_oex T iC.1 iC.2 G (hr.mono hk) b .nil pass0 hg hm ha hdb he hpl
end
theorem and_of {p q : Prop} [Decidable p] [Decidable q] (h : (decide p && decide q) = true) : p ∧ q := by simpa using h
end K44
set_option Elab.async false
set_option linter.all false
set_option maxRecDepth 100000
set_option maxHeartbeats 4000000
namespace K44
open PySem PySem.Spec PyProof.Rows L2
local macro_rules | `(tactic| walk_at "rd1") => `(tactic| first
  | ((with_reducible apply r_var); rfl)
  | ((with_reducible apply r_aug); rfl)
  | with_reducible apply r_isiI
  | with_reducible apply r_tslS
  | with_reducible apply r_try
  | with_reducible apply r_gsub
  | with_reducible apply r_irev
  | with_reducible apply r_trg1
  | with_reducible apply r_sfld
  | with_reducible apply r_afld
  | with_reducible apply r_rAdd
  | with_reducible apply r_dget
  | with_reducible apply r_din
  | with_reducible apply r_dnot
  | with_reducible apply r_dput
  | with_reducible apply r_ikeys
  | with_reducible apply r_m1
  | with_reducible apply r_km1
  | with_reducible apply r_inS
  | with_reducible apply r_notInS
  | with_reducible apply r_isN
  | with_reducible apply r_ip
  | with_reducible apply r_kbmS
  | with_reducible apply r_min2
  | with_reducible apply r_isiB
  | with_reducible apply r_isiS
  | with_reducible apply r_tyes
  | with_reducible apply iteT
  | with_reducible apply iteF
  | with_reducible apply r_nT
  | with_reducible apply r_nF
  | with_reducible apply r_callS
  | with_reducible apply r_meth
  | with_reducible apply r_methS
  | with_reducible apply r_methD
  | with_reducible apply r_make
  | with_reducible apply r_lc
  | with_reducible apply r_for
  | with_reducible apply r_ilist
  | with_reducible apply r_itup
  | with_reducible apply r_irng1
  | with_reducible apply r_irng2
  | with_reducible apply r_istr
  | with_reducible apply r_ienum
  | with_reducible apply r_izip
  | with_reducible apply r_izip3
  | with_reducible apply r_izip4
  | with_reducible apply r_kis
  | with_reducible apply r_c
  | with_reducible apply r_op
  | with_reducible apply r_un
  | with_reducible apply r_i0
  | with_reducible apply r_u
  | with_reducible apply r_eqI
  | with_reducible apply r_neI
  | with_reducible apply r_eqS
  | with_reducible apply r_neS
  | with_reducible apply r_test
  | with_reducible apply r_B
  | with_reducible apply r_bl
  | with_reducible apply r_int
  | with_reducible apply r_and
  | with_reducible apply r_or
  | with_reducible apply r_not
  | with_reducible apply r_andV
  | with_reducible apply r_orV
  | with_reducible apply r_notV
  | with_reducible apply r_chain
  | with_reducible apply r_tif
  | with_reducible apply r_nil
  | with_reducible apply r_cons
  | with_reducible apply r_cb
  | with_reducible apply r_call
  | with_reducible apply r_seq
  | with_reducible apply r_asg
  | with_reducible apply r_name
  | with_reducible apply r_drop
  | with_reducible apply r_ret
  | with_reducible apply r_retN
  | with_reducible apply r_next
  | with_reducible apply r_ifS
  | with_reducible apply r_tup
  | with_reducible apply r_lst
  | with_reducible apply r_sl
  | with_reducible apply r_nopart
  | with_reducible apply r_part
  | with_reducible apply r_fld
  | with_reducible apply r_bm
  | with_reducible apply r_bm0)
local macro_rules | `(tactic| walk_at "rd") => `(tactic| repeat (walk_at "rd1"))

theorem bool_eq {p q : Prop} [Decidable p] [Decidable q] (h : p ↔ q) : decide p = decide q := by
  by_cases e : p
  · rw [decide_eq_true e, decide_eq_true (h.mp e)]
  · rw [decide_eq_false e, decide_eq_false fun z => e (h.mpr z)]
theorem q_bl {Q : VK} {H : Hp} {a b : Bool} (q : Q (.bl a) H) (e : a = b) : Q (.bl b) H := e ▸ q
theorem q_int {Q : VK} {H : Hp} {a b : Int} (q : Q (.int a) H) (e : a = b) : Q (.int b) H := e ▸ q
theorem q_str {Q : VK} {H : Hp} {a b : Str} (q : Q (.str a) H) (e : a = b) : Q (.str b) H := e ▸ q
theorem len_le {n m : Nat} (h : Nat.ble n m = true) : n ≤ m := Nat.le_of_ble_eq_true h
/-- well below the line of sizes -/
theorem szl {n : Nat} (h : n ≤ 100000) : n ≤ sizeLine := Nat.le_trans h (by decide)
theorem szt {n : Nat} (h : n ≤ 100000) : n < sizeLine := Nat.lt_of_le_of_lt h (by decide)
theorem ints_sq {K : PySem.W.Frag} {H : Hp} {a : Addr} {ns : List Int} (h : Ints H a ns) : SqL K H a (ns.map V.int) := SqL.of h
theorem ints_at {ns : List Int} {i : Nat} {n : Int} (h : ns[i]? = some n) : (ns.map V.int)[i]? = some (V.int n) := by rw [List.getElem?_map, h]; rfl
theorem r_all {K : PySem.W.Frag} {H : Hp} {Q : VK} {α : Type} {a : Addr} {as : List α} {f : α → Bool} (h : H a = some (.lst (as.map fun x => V.bl (f x)))) (q : Q (.bl (as.all f)) H) : rAll K [.ref a] H Q :=
  ⟨a, as.map f, rfl, SqL.of (by rw [h, List.map_map]; rfl), q_bl q (by rw [List.all_map]; rfl)⟩
def sp_is_among : Sp := fun vs H Q _ => ∃ n lo hi : Int, vs = [.int n, .int lo, .int hi] ∧ Q (.bl (decide (lo ≤ n ∧ n ≤ hi))) H
theorem sc_is_among : FnScope ["thing", "least", "most"] ["thing", "least", "most"] (defScope s_is_among) := ⟨rfl, rfl, rfl, by decide +kernel, rfl, by decide +kernel, by decide +kernel⟩
section
theorem len_is_among {vs : List V} {H : Hp} {Q : VK} {E : XK} (h : (sp_is_among) vs H Q E) : vs.length = 3 := by
  repeat (obtain ⟨_, h⟩ := h)
  subst_vars; rfl
variable {P : Program} {w : World} {K : PySem.W.Frag} {mg : Str → Option Value} {base : Heap}
theorem ok_is_among (T : Tx K mg) : Cal P w K mg base CX0 1 (He.ga K "is_among") ["thing", "least", "most"] (sp_is_among) := by
  obtain ⟨fd, F⟩ := T.F_is_among
  refine ⟨⟨fd, F.ok sc_is_among (fun vs H Q E h => len_is_among h) (fun cdv A outer s H vs Q E hr h => ⟨_, PSs.nox (
      (pss_one (ps_ret (pe_and (pe_callB (isiK K) (by rfl) T.b_isinstance boot_isinstance (pa_cons (pv 0) (pa_cons (pe_bltn (v := .ty "int") (by rfl) T.b_int (by decide +kernel) rfl) pa_nil))) (pe_and (pe_not (pe_callB (isiK K) (by rfl) T.b_isinstance boot_isinstance (pa_cons (pv 0) (pa_cons (pe_bltn (v := .ty "bool") (by rfl) T.b_bool (by decide +kernel) rfl) pa_nil)))) (pe_one (pe_chain op_le op_le (pv 1) (pv 0) (pv 2)))))))), ?_⟩), F.bindsN fun _ _ _ _ _ _ us hl => match us, hl with | [_, _, _], _ => rfl⟩, F.kp⟩
  obtain ⟨n, lo, hi, rfl, q⟩ := h
  walk_at "rd"
  refine r_ifD (fun h1 => ?_) fun h1 => ?_
  · walk_at "rd"
    exact q_bl q (bool_eq (by simp [h1]))
  · exact q_bl q (decide_eq_false (by simp [h1]))
end
def isCell (n : Int) : Bool := decide (0 ≤ n ∧ n ≤ 15)
def sp_is_cell : Sp := fun vs H Q _ => ∃ n : Int, vs = [.int n] ∧ Q (.bl (isCell n)) H
theorem sc_is_cell : FnScope ["thing"] ["thing"] (defScope s_is_cell) := ⟨rfl, rfl, rfl, by decide +kernel, rfl, by decide +kernel, by decide +kernel⟩
section
theorem len_is_cell {vs : List V} {H : Hp} {Q : VK} {E : XK} (h : (sp_is_cell) vs H Q E) : vs.length = 1 := by
  repeat (obtain ⟨_, h⟩ := h)
  subst_vars; rfl
variable {P : Program} {w : World} {K : PySem.W.Frag} {mg : Str → Option Value} {base : Heap}
theorem ok_is_cell (T : Tx K mg) : Cal P w K mg base CX0 2 (He.ga K "is_cell") ["thing"] (sp_is_cell) := by
  obtain ⟨fd, F⟩ := T.F_is_cell
  refine ⟨⟨fd, F.ok sc_is_cell (fun vs H Q E h => len_is_cell h) (fun cdv A outer s H vs Q E hr h => ⟨_, PSs.nox (
      (pss_one (ps_ret (pe_cal (ok_is_among T) hr (by decide) (by rfl) T.g_is_among pass0 (pa_cons (pv 0) (pa_cons pe_int (pa_cons (C8.pe_gc (by rfl) T.k_MOST_CELL) pa_nil))))))), ?_⟩), F.bindsN fun _ _ _ _ _ _ us hl => match us, hl with | [_], _ => rfl⟩, F.kp⟩
  obtain ⟨n, rfl, q⟩ := h
  walk_at "rd"
  exact ⟨n, 0, 15, rfl, q⟩
end
def sp_are_cells : Sp := fun vs H Q _ => ∃ (a : Addr) (ns : List Int), vs = [.ref a] ∧ Ints H a ns ∧ ns.length ≤ 100000 ∧ ∀ H', Same H H' → Q (.bl (ns.all isCell)) H'
theorem sc_are_cells : FnScope ["thing", "one"] ["thing"] (defScope s_are_cells) := ⟨rfl, rfl, rfl, by decide +kernel, rfl, by decide +kernel, by decide +kernel⟩
section
theorem len_are_cells {vs : List V} {H : Hp} {Q : VK} {E : XK} (h : (sp_are_cells) vs H Q E) : vs.length = 1 := by
  repeat (obtain ⟨_, h⟩ := h)
  subst_vars; rfl
variable {P : Program} {w : World} {K : PySem.W.Frag} {mg : Str → Option Value} {base : Heap}
theorem ok_are_cells (T : Tx K mg) : Cal P w K mg base CX0 3 (He.ga K "are_cells") ["thing"] (sp_are_cells) := by
  obtain ⟨fd, F⟩ := T.F_are_cells
  refine ⟨⟨fd, F.ok sc_are_cells (fun vs H Q E h => len_are_cells h) (fun cdv A outer s H vs Q E hr h => ⟨_, PSs.nox (
      (pss_one (ps_ret (pe_and (pe_callB (isiK K) (by rfl) T.b_isinstance boot_isinstance (pa_cons (pv 0) (pa_cons (pe_bltn (v := .ty "list") (by rfl) T.b_list (by decide +kernel) rfl) pa_nil))) (pe_one (pe_callB (cr_allK K rfl) (by rfl) T.b_all (by decide +kernel) (pa_cons (pe_lc (own := [("one", 1)]) rfl sc_are_cells.nd (pi_listK K (pv 0)) (blkOk_by (own := [("one", 1)]) (N := ["thing", "one"]) (sc := defScope s_are_cells) (by decide +kernel)) (fun _ _ _ _ _ => (pg_name (i := 1) sc_are_cells.nd rfl (Or.inl rfl))) (fun _ _ _ _ _ => pts_nil) (fun _ _ _ _ _ => (pe_cal (ok_is_cell T) hr (by decide) (by rfl) T.g_is_cell pass0 (pa_cons (pv 1) pa_nil)))) pa_nil))))))), ?_⟩), F.bindsN fun _ _ _ _ _ _ us hl => match us, hl with | [_], _ => rfl⟩, F.kp⟩
  obtain ⟨a, ns, rfl, hn, hz, q⟩ := h
  walk_at "rd"
  refine r_isiL hn ?_
  walk_at "rd"
  refine r_kil (ints_sq hn) ?_
  refine klc_L (ints_sq hn) (szl hz) (fun n => .bl (isCell n)) (fun n H1 hi s Z z => ?_) fun p H' hp s e => ?_
  · walk_at "rd"
    refine ⟨rfl, ?_⟩
    walk_at "rd"
    exact ⟨n, rfl, z H1 (Same.refl H1)⟩
  · walk_at "rd"
    exact r_all e (q H' s)
end
def Pic (H : Hp) (a : Addr) (rows : List (List Int)) : Prop := ∃ ps : List (Addr × List Int), H a = some (.lst (ps.map fun p => V.ref p.1)) ∧ ps.map (·.2) = rows ∧ ∀ p ∈ ps, Ints H p.1 p.2
theorem Pic.same {H H' : Hp} {a : Addr} {rows : List (List Int)} (s : Same H H') (h : Pic H a rows) : Pic H' a rows := by
  obtain ⟨ps, h1, h2, h3⟩ := h
  exact ⟨ps, s _ _ h1, h2, fun p hp => s _ _ (h3 p hp)⟩
def PicOk (rows : List (List Int)) : Prop := 1 ≤ rows.length ∧ rows.length ≤ 24 ∧ ∃ w, 1 ≤ w ∧ w ≤ 24 ∧ ∀ r ∈ rows, r.length = w ∧ r.all isCell = true
def sp_is_picture : Sp := fun vs H Q _ => ∃ (a : Addr) (rows : List (List Int)), vs = [.ref a] ∧ Pic H a rows ∧ PicOk rows ∧ ∀ H', Same H H' → Q (.bl true) H'
theorem sc_is_picture : FnScope ["thing", "row"] ["thing"] (defScope s_is_picture) := ⟨rfl, rfl, rfl, by decide +kernel, rfl, by decide +kernel, by decide +kernel⟩
section
theorem len_is_picture {vs : List V} {H : Hp} {Q : VK} {E : XK} (h : (sp_is_picture) vs H Q E) : vs.length = 1 := by
  repeat (obtain ⟨_, h⟩ := h)
  subst_vars; rfl
variable {P : Program} {w : World} {K : PySem.W.Frag} {mg : Str → Option Value} {base : Heap}
theorem ok_is_picture (T : Tx K mg) : Cal P w K mg base CX0 4 (He.ga K "is_picture") ["thing"] (sp_is_picture) := by
  obtain ⟨fd, F⟩ := T.F_is_picture
  refine ⟨⟨fd, F.ok sc_is_picture (fun vs H Q E h => len_is_picture h) (fun cdv A outer s H vs Q E hr h => ⟨_, PSs.nox (
      (pss_cons (ps_if (PW.pt (pw_or (pt_not (pt_val (pe_callB (isiK K) (by rfl) T.b_isinstance boot_isinstance (pa_cons (pv 0) (pa_cons (pe_bltn (v := .ty "list") (by rfl) T.b_list (by decide +kernel) rfl) pa_nil))))) (pw_or (pt_not (pt_chain op_le op_le pe_int (pe_callB (cal_lenK K) (by rfl) T.b_len PySem.boot_len (pa_cons (pv 0) pa_nil)) (C8.pe_gc (by rfl) T.k_MOST_SIDE))) (pw_or1 (pt_not (pt_val (pe_callB (cr_allK K rfl) (by rfl) T.b_all (by decide +kernel) (pa_cons (pe_lc (own := [("row", 1)]) rfl sc_is_picture.nd (pi_listK K (pv 0)) (blkOk_by (own := [("row", 1)]) (N := ["thing", "row"]) (sc := defScope s_is_picture) (by decide +kernel)) (fun _ _ _ _ _ => (pg_name (i := 1) sc_is_picture.nd rfl (Or.inl rfl))) (fun _ _ _ _ _ => pts_nil) (fun _ _ _ _ _ => (pe_cal (ok_are_cells T) hr (by decide) (by rfl) T.g_are_cells pass0 (pa_cons (pv 1) pa_nil)))) pa_nil))))))))
      (pss_one (ps_ret pe_bl)) pss_nil)
      (pss_one (ps_ret (pe_and (pe_chain op_le op_le pe_int (pe_callB (cal_lenK K) (by rfl) T.b_len PySem.boot_len (pa_cons (pe_ix (ix_listK K) (pv 0) pe_int (fun _ _ => rfl)) pa_nil)) (C8.pe_gc (by rfl) T.k_MOST_SIDE)) (pe_one (pe_callB (cr_allK K rfl) (by rfl) T.b_all (by decide +kernel) (pa_cons (pe_lc (own := [("row", 1)]) rfl sc_is_picture.nd (pi_listK K (pv 0)) (blkOk_by (own := [("row", 1)]) (N := ["thing", "row"]) (sc := defScope s_is_picture) (by decide +kernel)) (fun _ _ _ _ _ => (pg_name (i := 1) sc_is_picture.nd rfl (Or.inl rfl))) (fun _ _ _ _ _ => pts_nil) (fun _ _ _ _ _ => (pe_cmpR op_eq (pe_callB (cal_lenK K) (by rfl) T.b_len PySem.boot_len (pa_cons (pv 1) pa_nil)) (pe_callB (cal_lenK K) (by rfl) T.b_len PySem.boot_len (pa_cons (pe_ix (ix_listK K) (pv 0) pe_int (fun _ _ => rfl)) pa_nil)) (nomark _)))) pa_nil)))))))), ?_⟩), F.bindsN fun _ _ _ _ _ _ us hl => match us, hl with | [_], _ => rfl⟩, F.kp⟩
  obtain ⟨a, rows, rfl, ⟨ps, ha, hr, hi⟩, ⟨o1, o2, w, w1, w2, ok⟩, q⟩ := h
  have hl : ps.length = rows.length := by rw [← hr]; simp
  have hp2 : ∀ p ∈ ps, p.2.length = w ∧ p.2.all isCell = true := fun p hp => ok _ (by rw [← hr]; exact List.mem_map_of_mem hp)
  walk_at "rd"
  refine r_isiL ha ?_
  walk_at "rd"
  refine r_len (SqL.of ha) ?_
  walk_at "rd"
  refine r_yes (by simp; omega) ?_
  walk_at "rd"
  refine r_noN (by simp; omega) ?_
  walk_at "rd"
  refine r_kil (SqL.of ha) ?_
  refine klc_L (SqL.of ha) (szl (by omega)) (fun _ => .bl true) (fun p H1 hp s Z z => ?_) fun d H1 hd s1 e1 => ?_
  · walk_at "rd"
    refine ⟨rfl, ?_⟩
    walk_at "rd"
    refine ⟨p.1, p.2, rfl, s _ _ (hi p hp), by have := (hp2 p hp).1; omega, fun H' s' => ?_⟩
    rw [(hp2 p hp).2]
    exact z H' s'
  · walk_at "rd"
    refine r_all (f := fun _ => true) e1 ?_
    rw [List.all_eq_true.mpr fun _ _ => rfl]
    walk_at "rd"
    obtain ⟨p0, r0, rfl⟩ : ∃ p0 r0, ps = p0 :: r0 := by
      cases ps with
      | nil => simp at hl; omega
      | cons p0 r0 => exact ⟨p0, r0, rfl⟩
    have ha1 := s1 _ _ ha
    have h00 : ((p0 :: r0).map fun p => V.ref p.1)[0]? = some (V.ref p0.1) := rfl
    refine r_ixL (SqL.of ha1) (atI_nat h00) ?_
    walk_at "rd"
    refine r_lenI (s1 _ _ (hi p0 (List.mem_cons_self ..))) ?_
    walk_at "rd"
    have e0 := (hp2 p0 (List.mem_cons_self ..)).1
    refine r_yes (by omega) ?_
    walk_at "rd"
    rw [decide_eq_true (by omega)]
    walk_at "rd"
    refine r_kil (SqL.of ha1) ?_
    refine klc_L (SqL.of ha1) (szl (by omega)) (fun _ => .bl true) (fun p H2 hp s2 Z z => ?_) fun d H2 hd s2 e2 => ?_
    · walk_at "rd"
      refine ⟨rfl, ?_⟩
      walk_at "rd"
      refine r_lenI (s2 _ _ (s1 _ _ (hi p hp))) ?_
      walk_at "rd"
      refine r_ixL (SqL.of (s2 _ _ ha1)) (atI_nat h00) ?_
      walk_at "rd"
      refine r_lenI (s2 _ _ (s1 _ _ (hi p0 (List.mem_cons_self ..)))) ?_
      walk_at "rd"
      rw [decide_eq_true (by rw [e0, (hp2 p hp).1])]
      exact z H2 (Same.refl H2)
    · walk_at "rd"
      refine r_all (f := fun _ => true) e2 ?_
      rw [List.all_eq_true.mpr fun _ _ => rfl]
      exact q H2 (s1.trans s2)
end
def sp_need_picture : Sp := fun vs H Q _ => ∃ (a : Addr) (rows : List (List Int)), vs = [.ref a] ∧ Pic H a rows ∧ PicOk rows ∧ ∀ H', Same H H' → Q .non H'
theorem sc_need_picture : FnScope ["picture"] ["picture"] (defScope s_need_picture) := ⟨rfl, rfl, rfl, by decide +kernel, rfl, by decide +kernel, by decide +kernel⟩
section
theorem len_need_picture {vs : List V} {H : Hp} {Q : VK} {E : XK} (h : (sp_need_picture) vs H Q E) : vs.length = 1 := by
  repeat (obtain ⟨_, h⟩ := h)
  subst_vars; rfl
variable {P : Program} {w : World} {K : PySem.W.Frag} {mg : Str → Option Value} {base : Heap}
theorem ok_need_picture (T : Tx K mg) : Cal P w K mg base CX0 5 (He.ga K "need_picture") ["picture"] (sp_need_picture) := by
  obtain ⟨fd, F⟩ := T.F_need_picture
  refine ⟨⟨fd, F.ok sc_need_picture (fun vs H Q E h => len_need_picture h) (fun cdv A outer s H vs Q E hr h => ⟨_, PSs.nox (
      (pss_one (ps_if (pt_not (pt_val (pe_cal (ok_is_picture T) hr (by decide) (by rfl) T.g_is_picture pass0 (pa_cons (pv 0) pa_nil))))
      (pss_one ps_never) pss_nil))), ?_⟩), F.bindsN fun _ _ _ _ _ _ us hl => match us, hl with | [_], _ => rfl⟩, F.kp⟩
  obtain ⟨a, rows, rfl, hp, ok, q⟩ := h
  walk_at "rd"
  refine ⟨a, rows, rfl, hp, ok, fun H' s' => ?_⟩
  walk_at "rd"
  exact q H' s'
end
def sp_size_of : Sp := fun vs H Q _ => ∃ (a : Addr) (rows : List (List Int)) (w : Nat), vs = [.ref a] ∧ Pic H a rows ∧ PicOk rows ∧ (∀ r ∈ rows, r.length = w) ∧ ∀ p H', Same H H' → H' p = some (.tup [.int w, .int rows.length]) → Q (.ref p) H'
theorem sc_size_of : FnScope ["picture"] ["picture"] (defScope s_size_of) := ⟨rfl, rfl, rfl, by decide +kernel, rfl, by decide +kernel, by decide +kernel⟩
section
theorem len_size_of {vs : List V} {H : Hp} {Q : VK} {E : XK} (h : (sp_size_of) vs H Q E) : vs.length = 1 := by
  repeat (obtain ⟨_, h⟩ := h)
  subst_vars; rfl
variable {P : Program} {w : World} {K : PySem.W.Frag} {mg : Str → Option Value} {base : Heap}
theorem ok_size_of (T : Tx K mg) : Cal P w K mg base CX0 6 (He.ga K "size_of") ["picture"] (sp_size_of) := by
  obtain ⟨fd, F⟩ := T.F_size_of
  refine ⟨⟨fd, F.ok sc_size_of (fun vs H Q E h => len_size_of h) (fun cdv A outer s H vs Q E hr h => ⟨_, PSs.nox (
      (pss_cons (ps_expr (pe_cal (ok_need_picture T) hr (by decide) (by rfl) T.g_need_picture pass0 (pa_cons (pv 0) pa_nil)))
      (pss_one (ps_ret (pe_tup (pa_cons (pe_callB (cal_lenK K) (by rfl) T.b_len PySem.boot_len (pa_cons (pe_ix (ix_listK K) (pv 0) pe_int (fun _ _ => rfl)) pa_nil)) (pa_cons (pe_callB (cal_lenK K) (by rfl) T.b_len PySem.boot_len (pa_cons (pv 0) pa_nil)) pa_nil))))))), ?_⟩), F.bindsN fun _ _ _ _ _ _ us hl => match us, hl with | [_], _ => rfl⟩, F.kp⟩
  obtain ⟨a, rows, w, rfl, hp, ok, hw, q⟩ := h
  walk_at "rd"
  refine ⟨a, rows, rfl, hp, ok, fun H1 s1 => ?_⟩
  walk_at "rd"
  obtain ⟨ps, ha, hr, hi⟩ := hp.same s1
  have hl : ps.length = rows.length := by rw [← hr]; simp
  obtain ⟨p0, r0, rfl⟩ : ∃ p0 r0, ps = p0 :: r0 := by
    cases ps with
    | nil => have := ok.1; simp at hl; omega
    | cons p0 r0 => exact ⟨p0, r0, rfl⟩
  have h00 : ((p0 :: r0).map fun p => V.ref p.1)[0]? = some (V.ref p0.1) := rfl
  refine r_ixL (SqL.of ha) (atI_nat h00) ?_
  walk_at "rd"
  refine r_lenI (hi p0 (List.mem_cons_self ..)) ?_
  walk_at "rd"
  refine r_len (SqL.of ha) ?_
  walk_at "rd"
  refine r_ktup (len_le rfl) fun p H2 hp2 s2 e2 => ?_
  walk_at "rd"
  have ew : p0.2.length = w := hw _ (by rw [← hr]; exact List.mem_map_of_mem (List.mem_cons_self ..))
  rw [ew, List.length_map, hl] at e2
  exact q p H2 (s1.trans s2) e2
end
end K44
set_option Elab.async false
set_option linter.all false
set_option maxRecDepth 100000
set_option maxHeartbeats 4000000
namespace K44
open PySem PySem.Spec PyProof.Rows L2
local macro_rules | `(tactic| walk_at "rd1") => `(tactic| first
  | ((with_reducible apply r_var); rfl)
  | ((with_reducible apply r_aug); rfl)
  | with_reducible apply r_isiI
  | with_reducible apply r_tslS
  | with_reducible apply r_try
  | with_reducible apply r_gsub
  | with_reducible apply r_irev
  | with_reducible apply r_trg1
  | with_reducible apply r_sfld
  | with_reducible apply r_afld
  | with_reducible apply r_rAdd
  | with_reducible apply r_dget
  | with_reducible apply r_din
  | with_reducible apply r_dnot
  | with_reducible apply r_dput
  | with_reducible apply r_ikeys
  | with_reducible apply r_m1
  | with_reducible apply r_km1
  | with_reducible apply r_inS
  | with_reducible apply r_notInS
  | with_reducible apply r_isN
  | with_reducible apply r_ip
  | with_reducible apply r_kbmS
  | with_reducible apply r_min2
  | with_reducible apply r_isiB
  | with_reducible apply r_isiS
  | with_reducible apply r_tyes
  | with_reducible apply iteT
  | with_reducible apply iteF
  | with_reducible apply r_nT
  | with_reducible apply r_nF
  | with_reducible apply r_callS
  | with_reducible apply r_meth
  | with_reducible apply r_methS
  | with_reducible apply r_methD
  | with_reducible apply r_make
  | with_reducible apply r_lc
  | with_reducible apply r_for
  | with_reducible apply r_ilist
  | with_reducible apply r_itup
  | with_reducible apply r_irng1
  | with_reducible apply r_irng2
  | with_reducible apply r_istr
  | with_reducible apply r_ienum
  | with_reducible apply r_izip
  | with_reducible apply r_izip3
  | with_reducible apply r_izip4
  | with_reducible apply r_kis
  | with_reducible apply r_c
  | with_reducible apply r_op
  | with_reducible apply r_un
  | with_reducible apply r_i0
  | with_reducible apply r_u
  | with_reducible apply r_eqI
  | with_reducible apply r_neI
  | with_reducible apply r_eqS
  | with_reducible apply r_neS
  | with_reducible apply r_test
  | with_reducible apply r_B
  | with_reducible apply r_bl
  | with_reducible apply r_int
  | with_reducible apply r_and
  | with_reducible apply r_or
  | with_reducible apply r_not
  | with_reducible apply r_andV
  | with_reducible apply r_orV
  | with_reducible apply r_notV
  | with_reducible apply r_chain
  | with_reducible apply r_tif
  | with_reducible apply r_nil
  | with_reducible apply r_cons
  | with_reducible apply r_cb
  | with_reducible apply r_call
  | with_reducible apply r_seq
  | with_reducible apply r_asg
  | with_reducible apply r_name
  | with_reducible apply r_drop
  | with_reducible apply r_ret
  | with_reducible apply r_retN
  | with_reducible apply r_next
  | with_reducible apply r_ifS
  | with_reducible apply r_tup
  | with_reducible apply r_lst
  | with_reducible apply r_sl
  | with_reducible apply r_nopart
  | with_reducible apply r_part
  | with_reducible apply r_fld
  | with_reducible apply r_bm
  | with_reducible apply r_bm0)
local macro_rules | `(tactic| walk_at "rd") => `(tactic| repeat (walk_at "rd1"))

def isShare (n : Int) : Prop := 0 ≤ n ∧ n ≤ 255
def sp_is_colour : Sp := fun vs H Q _ => ∃ (t : Addr) (r g b : Int), vs = [.ref t] ∧ H t = some (.tup [.int r, .int g, .int b]) ∧ (isShare r ∧ isShare g ∧ isShare b) ∧ ∀ H', Same H H' → Q (.bl true) H'
theorem sc_is_colour : FnScope ["thing", "share"] ["thing"] (defScope s_is_colour) := ⟨rfl, rfl, rfl, by decide +kernel, rfl, by decide +kernel, by decide +kernel⟩
section
theorem len_is_colour {vs : List V} {H : Hp} {Q : VK} {E : XK} (h : (sp_is_colour) vs H Q E) : vs.length = 1 := by
  repeat (obtain ⟨_, h⟩ := h)
  subst_vars; rfl
variable {P : Program} {w : World} {K : PySem.W.Frag} {mg : Str → Option Value} {base : Heap}
theorem ok_is_colour (T : Tx K mg) : Cal P w K mg base CX0 2 (He.ga K "is_colour") ["thing"] (sp_is_colour) := by
  obtain ⟨fd, F⟩ := T.F_is_colour
  refine ⟨⟨fd, F.ok sc_is_colour (fun vs H Q E h => len_is_colour h) (fun cdv A outer s H vs Q E hr h => ⟨_, PSs.nox (
      (pss_cons (ps_if (PW.pt (pw_or (pt_not (pt_val (pe_callB (isiK K) (by rfl) T.b_isinstance boot_isinstance (pa_cons (pv 0) (pa_cons (pe_bltn (v := .ty "tuple") (by rfl) T.b_tuple (by decide +kernel) rfl) pa_nil))))) (pw_or1 (pt_cmpR op_ne (pe_callB (cal_lenK K) (by rfl) T.b_len PySem.boot_len (pa_cons (pv 0) pa_nil)) pe_int (nomark _)))))
      (pss_one (ps_ret pe_bl)) pss_nil)
      (pss_one (ps_ret (pe_callB (cr_allK K rfl) (by rfl) T.b_all (by decide +kernel) (pa_cons (pe_lc (own := [("share", 1)]) rfl sc_is_colour.nd (pi_tupK K (pv 0)) (blkOk_by (own := [("share", 1)]) (N := ["thing", "share"]) (sc := defScope s_is_colour) (by decide +kernel)) (fun _ _ _ _ _ => (pg_name (i := 1) sc_is_colour.nd rfl (Or.inl rfl))) (fun _ _ _ _ _ => pts_nil) (fun _ _ _ _ _ => (pe_cal (ok_is_among T) hr (by decide) (by rfl) T.g_is_among pass0 (pa_cons (pv 1) (pa_cons pe_int (pa_cons (C8.pe_gc (by rfl) T.k_MOST_SHARE) pa_nil)))))) pa_nil)))))), ?_⟩), F.bindsN fun _ _ _ _ _ _ us hl => match us, hl with | [_], _ => rfl⟩, F.kp⟩
  obtain ⟨t, r, g, b, rfl, ht, ⟨hr, hg, hb⟩, q⟩ := h
  walk_at "rd"
  refine r_isiT ht ?_
  walk_at "rd"
  refine r_lenT (SqT.of ht) ?_
  walk_at "rd"
  refine r_noN rfl ?_
  walk_at "rd"
  refine r_kit (SqT.of ht) ?_
  refine klc_T (as := [r, g, b]) (c := V.int) (fun H' s => SqT.of (s _ _ ht)) (len_le rfl) (fun _ => .bl true) (fun x H1 hx s Z z => ?_) fun p H' hp s e => ?_
  · walk_at "rd"
    refine ⟨rfl, ?_⟩
    walk_at "rd"
    refine ⟨x, 0, 255, rfl, ?_⟩
    have e : 0 ≤ x ∧ x ≤ 255 := by
      simp at hx
      rcases hx with rfl | rfl | rfl
      · exact hr
      · exact hg
      · exact hb
    rw [decide_eq_true e]
    exact z H1 (Same.refl H1)
  · walk_at "rd"
    refine r_all (f := fun _ => true) e ?_
    rw [List.all_eq_true.mpr fun _ _ => rfl]
    exact q H' s
end
def sp_need_colour : Sp := fun vs H Q _ => ∃ (t : Addr) (r g b : Int), vs = [.ref t] ∧ H t = some (.tup [.int r, .int g, .int b]) ∧ (isShare r ∧ isShare g ∧ isShare b) ∧ ∀ H', Same H H' → Q .non H'
theorem sc_need_colour : FnScope ["thing"] ["thing"] (defScope s_need_colour) := ⟨rfl, rfl, rfl, by decide +kernel, rfl, by decide +kernel, by decide +kernel⟩
section
theorem len_need_colour {vs : List V} {H : Hp} {Q : VK} {E : XK} (h : (sp_need_colour) vs H Q E) : vs.length = 1 := by
  repeat (obtain ⟨_, h⟩ := h)
  subst_vars; rfl
variable {P : Program} {w : World} {K : PySem.W.Frag} {mg : Str → Option Value} {base : Heap}
theorem ok_need_colour (T : Tx K mg) : Cal P w K mg base CX0 3 (He.ga K "need_colour") ["thing"] (sp_need_colour) := by
  obtain ⟨fd, F⟩ := T.F_need_colour
  refine ⟨⟨fd, F.ok sc_need_colour (fun vs H Q E h => len_need_colour h) (fun cdv A outer s H vs Q E hr h => ⟨_, PSs.nox (
      (pss_one (ps_if (pt_not (pt_val (pe_cal (ok_is_colour T) hr (by decide) (by rfl) T.g_is_colour pass0 (pa_cons (pv 0) pa_nil))))
      (pss_one ps_never) pss_nil))), ?_⟩), F.bindsN fun _ _ _ _ _ _ us hl => match us, hl with | [_], _ => rfl⟩, F.kp⟩
  obtain ⟨t, r, g, b, rfl, ht, ok, q⟩ := h
  walk_at "rd"
  refine ⟨t, r, g, b, rfl, ht, ok, fun H' s' => ?_⟩
  walk_at "rd"
  exact q H' s'
end
def colN (r g b : Int) : Int := Builtin.bitOr (Builtin.bitOr (r * 2 ^ (16 : Int).toNat) (g * 2 ^ (8 : Int).toNat)) b
def sp_colour_number : Sp := fun vs H Q _ => ∃ (t : Addr) (r g b : Int), vs = [.ref t] ∧ H t = some (.tup [.int r, .int g, .int b]) ∧ (isShare r ∧ isShare g ∧ isShare b) ∧ ∀ H', Same H H' → Q (.int (colN r g b)) H'
theorem sc_colour_number : FnScope ["colour", "red", "green", "blue"] ["colour"] (defScope s_colour_number) := ⟨rfl, rfl, rfl, by decide +kernel, rfl, by decide +kernel, by decide +kernel⟩
section
theorem len_colour_number {vs : List V} {H : Hp} {Q : VK} {E : XK} (h : (sp_colour_number) vs H Q E) : vs.length = 1 := by
  repeat (obtain ⟨_, h⟩ := h)
  subst_vars; rfl
variable {P : Program} {w : World} {K : PySem.W.Frag} {mg : Str → Option Value} {base : Heap}
theorem ok_colour_number (T : Tx K mg) : Cal P w K mg base CX0 4 (He.ga K "colour_number") ["colour"] (sp_colour_number) := by
  obtain ⟨fd, F⟩ := T.F_colour_number
  refine ⟨⟨fd, F.ok sc_colour_number (fun vs H Q E h => len_colour_number h) (fun cdv A outer s H vs Q E hr h => ⟨_, PSs.nox (
      (pss_cons (ps_expr (pe_cal (ok_need_colour T) hr (by decide) (by rfl) T.g_need_colour pass0 (pa_cons (pv 0) pa_nil)))
      (pss_cons (ps_asg (pv 0) (pg_tupK (n := 3) K rfl (pgs_cons (pg_name (i := 1) sc_colour_number.nd rfl (Or.inl rfl)) (pgs_cons (pg_name (i := 2) sc_colour_number.nd rfl (Or.inl rfl)) (pgs_cons (pg_name (i := 3) sc_colour_number.nd rfl (Or.inl rfl)) pgs_nil)))))
      (pss_one (ps_ret (pe_op op_or (pe_op op_or (pe_op op_shl (pv 1) pe_int) (pe_op op_shl (pv 2) pe_int)) (pv 3))))))), ?_⟩), F.bindsN fun _ _ _ _ _ _ us hl => match us, hl with | [_], _ => rfl⟩, F.kp⟩
  obtain ⟨t, r, g, b, rfl, ht, ok, q⟩ := h
  obtain ⟨⟨r0, r1⟩, ⟨g0, g1⟩, b0, b1⟩ := id ok
  walk_at "rd"
  refine ⟨t, r, g, b, rfl, ht, ok, fun H' s' => ?_⟩
  walk_at "rd"
  refine r_gt3 (SqT.of (s' _ _ ht)) ?_
  walk_at "rd"
  refine r_i ⟨by omega, by omega, by omega⟩ ?_
  walk_at "rd"
  refine r_i ⟨by omega, by omega, by omega⟩ ?_
  walk_at "rd"
  exact q H' s'
end
def sp_colour_by_number : Sp := fun vs H Q _ => ∃ n : Int, vs = [.int n] ∧ (0 ≤ n ∧ n ≤ 16777215) ∧ ∀ p H', H p = none → Same H H' → H' p = some (.tup [.int (n / 65536), .int (n / 256 % 256), .int (n % 256)]) → Q (.ref p) H'
theorem sc_colour_by_number : FnScope ["number"] ["number"] (defScope s_colour_by_number) := ⟨rfl, rfl, rfl, by decide +kernel, rfl, by decide +kernel, by decide +kernel⟩
section
theorem len_colour_by_number {vs : List V} {H : Hp} {Q : VK} {E : XK} (h : (sp_colour_by_number) vs H Q E) : vs.length = 1 := by
  repeat (obtain ⟨_, h⟩ := h)
  subst_vars; rfl
variable {P : Program} {w : World} {K : PySem.W.Frag} {mg : Str → Option Value} {base : Heap}
theorem ok_colour_by_number (T : Tx K mg) : Cal P w K mg base CX0 2 (He.ga K "colour_by_number") ["number"] (sp_colour_by_number) := by
  obtain ⟨fd, F⟩ := T.F_colour_by_number
  refine ⟨⟨fd, F.ok sc_colour_by_number (fun vs H Q E h => len_colour_by_number h) (fun cdv A outer s H vs Q E hr h => ⟨_, PSs.nox (
      (pss_cons (ps_if (pt_not (pt_val (pe_cal (ok_is_among T) hr (by decide) (by rfl) T.g_is_among pass0 (pa_cons (pv 0) (pa_cons pe_int (pa_cons (C8.pe_gc (by rfl) T.k_MOST_NUMBER) pa_nil))))))
      (pss_one ps_never) pss_nil)
      (pss_one (ps_ret (pe_tup (pa_cons (pe_op op_shr (pv 0) pe_int) (pa_cons (pe_op op_and (pe_op op_shr (pv 0) pe_int) (C8.pe_gc (by rfl) T.k_MOST_SHARE)) (pa_cons (pe_op op_and (pv 0) (C8.pe_gc (by rfl) T.k_MOST_SHARE)) pa_nil)))))))), ?_⟩), F.bindsN fun _ _ _ _ _ _ us hl => match us, hl with | [_], _ => rfl⟩, F.kp⟩
  obtain ⟨n, rfl, hn, q⟩ := h
  walk_at "rd"
  refine ⟨n, 0, 16777215, rfl, ?_⟩
  walk_at "rd"
  refine r_noN hn ?_
  walk_at "rd"
  refine r_i (show (0 : Int) ≤ 16 by decide) ?_
  walk_at "rd"
  refine r_i (show (0 : Int) ≤ 8 by decide) ?_
  walk_at "rd"
  refine r_ktup (len_le rfl) fun p H' hp s e => ?_
  rw [bitAnd_m8, bitAnd_m8] at e
  exact q p H' hp s e
end
def sp_sign_of_number : Sp := fun vs H Q _ => ∃ n : Int, vs = [.int n] ∧ (0 ≤ n ∧ n < 64) ∧ Q (.str ⟨#[sgn n]⟩) H
theorem sc_sign_of_number : FnScope ["number"] ["number"] (defScope s_sign_of_number) := ⟨rfl, rfl, rfl, by decide +kernel, rfl, by decide +kernel, by decide +kernel⟩
section
theorem len_sign_of_number {vs : List V} {H : Hp} {Q : VK} {E : XK} (h : (sp_sign_of_number) vs H Q E) : vs.length = 1 := by
  repeat (obtain ⟨_, h⟩ := h)
  subst_vars; rfl
variable {P : Program} {w : World} {K : PySem.W.Frag} {mg : Str → Option Value} {base : Heap}
theorem ok_sign_of_number (T : Tx K mg) : Cal P w K mg base CX0 1 (He.ga K "sign_of_number") ["number"] (sp_sign_of_number) := by
  obtain ⟨fd, F⟩ := T.F_sign_of_number
  refine ⟨⟨fd, F.ok sc_sign_of_number (fun vs H Q E h => len_sign_of_number h) (fun cdv A outer s H vs Q E hr h => ⟨_, PSs.nox (
      (pss_one (ps_ret (pe_ix ix_str (C8.pe_gc (by rfl) T.k_SIGNS) (pv 0) (fun _ _ => rfl))))), ?_⟩), F.bindsN fun _ _ _ _ _ _ us hl => match us, hl with | [_], _ => rfl⟩, F.kp⟩
  obtain ⟨n, rfl, ⟨h0, h1⟩, q⟩ := h
  walk_at "rd"
  refine r_ixS (len_le rfl) ?_ q
  obtain ⟨k, rfl⟩ : ∃ k : Nat, n = (k : Int) := ⟨n.toNat, by omega⟩
  exact atI_nat (sgn_at (n := (k : Int)) h0 h1)
end
def sp_number_of_sign (K : PySem.W.Frag) : Sp := fun vs H Q E => ∃ c : Nat, vs = [.str ⟨#[c]⟩] ∧ ((c ∈ SG → Q (.int (num c)) H) ∧ (c ∉ SG → E (.ref (He.ga K "BadText")) none H))
theorem r_sindexG {H : Hp} {Q : VK} {c : Nat} (h : c ∈ SG) (q : Q (.int (num c)) H) : rSindex (.str SIG) [.str ⟨#[c]⟩] H Q := by
  obtain ⟨r, e⟩ := sig_at h
  exact ⟨SIG, ⟨#[c]⟩, _, r, rfl, rfl, e, q⟩
theorem sc_number_of_sign : FnScope ["sign"] ["sign"] (defScope s_number_of_sign) := ⟨rfl, rfl, rfl, by decide +kernel, rfl, by decide +kernel, by decide +kernel⟩
section
theorem len_number_of_sign {K : PySem.W.Frag} {vs : List V} {H : Hp} {Q : VK} {E : XK} (h : (sp_number_of_sign K) vs H Q E) : vs.length = 1 := by
  repeat (obtain ⟨_, h⟩ := h)
  subst_vars; rfl
variable {P : Program} {w : World} {K : PySem.W.Frag} {mg : Str → Option Value} {base : Heap}
theorem ok_number_of_sign (T : Tx K mg) : Cal P w K mg base (L2.CX P w) 1 (He.ga K "number_of_sign") ["sign"] (sp_number_of_sign K) := by
  obtain ⟨fd, F⟩ := T.F_number_of_sign
  refine ⟨⟨fd, F.ok sc_number_of_sign (fun vs H Q E h => len_number_of_sign h) (fun cdv A outer s H vs Q E hr h => ⟨_, (
      (pss_cons (ps_if (PW.pt (pw_or (pt_not (pt_val (pe_callB (isiK K) (by rfl) T.b_isinstance boot_isinstance (pa_cons (pv 0) (pa_cons (pe_bltn (v := .ty "str") (by rfl) T.b_str (by decide +kernel) rfl) pa_nil))))) (pw_or (pt_cmpR op_ne (pe_callB cal_lenS (by rfl) T.b_len PySem.boot_len (pa_cons (pv 0) pa_nil)) pe_int (nomark _)) (pw_or1 (pt_cmpR op_notInS (pv 0) (C8.pe_gc (by rfl) T.k_SIGNS) rfl)))))
      (pss_one (ps_raise rfl (takes_of rfl rfl rfl rfl) (pmk_own PySem.F.excBase_ValueError T.x_BadText.1 T.gx_BadText T.x_BadText.2.1 (raises_own T.x_BadText.2.2.1 T.x_BadText.2.2.2) rfl))) pss_nil)
      (pss_one (ps_ret (pe_bmK K PySem.F.plainAttrs_str PySem.F.slot_str_index PySem.F.type_str_index mt_sindexK (C8.pe_gc (by rfl) T.k_SIGNS) (pa_cons (pv 0) pa_nil)))))), ?_⟩), F.bindsN fun _ _ _ _ _ _ us hl => match us, hl with | [_], _ => rfl⟩, F.kp⟩
  obtain ⟨c, rfl, q1, q2⟩ := h
  walk_at "rd"
  refine r_lenS (len_le rfl) ?_
  walk_at "rd"
  refine r_noN rfl ?_
  walk_at "rd"
  refine r_ifN (fun hc => ?_) fun hc => ?_
  · exact q2 hc
  · walk_at "rd"
    exact r_sindexG hc (q1 hc)
end
def six (n : Int) : Bool := decide (0 ≤ n ∧ n ≤ 63)
def sp_signs_text : Sp := fun vs H Q _ => ∃ (a : Addr) (ns : List Int), vs = [.ref a] ∧ Ints H a ns ∧ ns.length ≤ 100000 ∧ ns.all six = true ∧ ∀ H', Same H H' → Q (.str (txt (ns.map sgn))) H'
theorem six_at {ns : List Int} (h : ns.all six = true) {n : Int} (m : n ∈ ns) : 0 ≤ n ∧ n < 64 := by
  have := of_decide_eq_true (List.all_eq_true.mp h n m)
  omega
theorem sc_signs_text : FnScope ["numbers", "number"] ["numbers"] (defScope s_signs_text) := ⟨rfl, rfl, rfl, by decide +kernel, rfl, by decide +kernel, by decide +kernel⟩
section
theorem len_signs_text {vs : List V} {H : Hp} {Q : VK} {E : XK} (h : (sp_signs_text) vs H Q E) : vs.length = 1 := by
  repeat (obtain ⟨_, h⟩ := h)
  subst_vars; rfl
variable {P : Program} {w : World} {K : PySem.W.Frag} {mg : Str → Option Value} {base : Heap}
theorem ok_signs_text (T : Tx K mg) : Cal P w K mg base CX0 2 (He.ga K "signs_text") ["numbers"] (sp_signs_text) := by
  obtain ⟨fd, F⟩ := T.F_signs_text
  refine ⟨⟨fd, F.ok sc_signs_text (fun vs H Q E h => len_signs_text h) (fun cdv A outer s H vs Q E hr h => ⟨_, PSs.nox (
      (pss_one (ps_ret (pe_joinKK K pe_str (pe_lc (own := [("number", 1)]) rfl sc_signs_text.nd (pi_listK K (pv 0)) (blkOk_by (own := [("number", 1)]) (N := ["numbers", "number"]) (sc := defScope s_signs_text) (by decide +kernel)) (fun _ _ _ _ _ => (pg_name (i := 1) sc_signs_text.nd rfl (Or.inl rfl))) (fun _ _ _ _ _ => pts_nil) (fun _ _ _ _ _ => (pe_cal (ok_sign_of_number T) hr (by decide) (by rfl) T.g_sign_of_number pass0 (pa_cons (pv 1) pa_nil)))))))), ?_⟩), F.bindsN fun _ _ _ _ _ _ us hl => match us, hl with | [_], _ => rfl⟩, F.kp⟩
  obtain ⟨a, ns, rfl, hn, hz, h6, q⟩ := h
  walk_at "rd"
  refine r_kil (ints_sq hn) ?_
  refine klc_L (ints_sq hn) (szl hz) (fun n => .str ⟨#[sgn n]⟩) (fun n H1 hi s Z z => ?_) fun p H' hp s e => ?_
  · walk_at "rd"
    refine ⟨rfl, ?_⟩
    walk_at "rd"
    exact ⟨n, rfl, six_at h6 hi, z H1 (Same.refl H1)⟩
  · walk_at "rd"
    refine r_join (ys := (ns.map sgn).map fun c => (⟨#[c]⟩ : Str)) (by rw [e, List.map_map, List.map_map]; rfl) ?_ ?_
    · rw [sum_ones _ ("" : Str) rfl, List.length_map]; omega
    · rw [join_signs ("" : Str) rfl]
      exact q H' s
end
def sp_numbers_of_text (K : PySem.W.Frag) : Sp := fun vs H Q E => ∃ z : Str, vs = [.str z] ∧ z.length ≤ 100000 ∧ (((∀ c ∈ z.cps.toList, c ∈ SG) → ∀ p H', H p = none → Same H H' → Ints H' p (z.cps.toList.map num) → Q (.ref p) H') ∧ ((∃ c ∈ z.cps.toList, c ∉ SG) → ∀ H', Same H H' → E (.ref (He.ga K "BadText")) none H'))
theorem sc_numbers_of_text : FnScope ["text", "sign"] ["text"] (defScope s_numbers_of_text) := ⟨rfl, rfl, rfl, by decide +kernel, rfl, by decide +kernel, by decide +kernel⟩
section
theorem len_numbers_of_text {K : PySem.W.Frag} {vs : List V} {H : Hp} {Q : VK} {E : XK} (h : (sp_numbers_of_text K) vs H Q E) : vs.length = 1 := by
  repeat (obtain ⟨_, h⟩ := h)
  subst_vars; rfl
variable {P : Program} {w : World} {K : PySem.W.Frag} {mg : Str → Option Value} {base : Heap}
theorem ok_numbers_of_text (T : Tx K mg) : Cal P w K mg base (L2.CX P w) 2 (He.ga K "numbers_of_text") ["text"] (sp_numbers_of_text K) := by
  obtain ⟨fd, F⟩ := T.F_numbers_of_text
  refine ⟨⟨fd, F.ok sc_numbers_of_text (fun vs H Q E h => len_numbers_of_text h) (fun cdv A outer s H vs Q E hr h => ⟨_, (
      (pss_cons (ps_if (pt_not (pt_val (pe_callB (isiK K) (by rfl) T.b_isinstance boot_isinstance (pa_cons (pv 0) (pa_cons (pe_bltn (v := .ty "str") (by rfl) T.b_str (by decide +kernel) rfl) pa_nil)))))
      (pss_one ps_never) pss_nil)
      (pss_one (ps_ret (pe_lcX (own := [("sign", 1)]) rfl rfl rfl sc_numbers_of_text.nd (takes_of rfl rfl rfl rfl) (pi_str (pv 0)) (blkOk_by (own := [("sign", 1)]) (N := ["text", "sign"]) (sc := defScope s_numbers_of_text) (by decide +kernel)) (fun _ _ _ _ _ _ => (pg_name (i := 1) sc_numbers_of_text.nd rfl (Or.inl rfl))) (fun _ _ _ _ _ _ => pts_nil) (fun _ _ _ _ _ _ px => (pe_cal (ok_number_of_sign T) hr (by decide) (by rfl) T.g_number_of_sign px (pa_cons (pv 1) pa_nil)))))))), ?_⟩), F.bindsN fun _ _ _ _ _ _ us hl => match us, hl with | [_], _ => rfl⟩, F.kp⟩
  obtain ⟨z, rfl, hz, q1, q2⟩ := h
  walk_at "rd"
  refine klc walk_str (fun _ _ => trivial) (fun i acc _ => (∀ c ∈ z.cps.toList.take i, c ∈ SG) ∧ acc = (z.cps.toList.take i).map fun c => V.int (num c)) ⟨fun c hc => by simp at hc, rfl⟩ (fun D i x H1 H2 acc hi hD s e l r y => ?_) fun p H' ys hp s e l r => ?_
  · obtain ⟨rfl, c, hc, rfl⟩ := y
    have hc' : z.cps.toList[i]? = some c := by rw [← hc]; simp
    walk_at "rd"
    refine ⟨rfl, ?_⟩
    walk_at "rd"
    refine ⟨c, rfl, fun hm => ?_, fun hm => ?_⟩
    · refine r_kyes e l (szt (by have : z.cps.size = z.length := rfl; omega)) s ⟨?_, ?_⟩
      · rw [List.take_add_one, hc']
        intro d hd
        rcases List.mem_append.mp hd with h | h
        · exact r.1 d h
        · simp at h; subst h; exact hm
      · rw [List.take_add_one, hc', r.2]
        simp
    · exact q2 ⟨c, List.mem_of_getElem? hc', hm⟩ H2 (same_of_hid s)
  · have et : z.cps.toList.take z.cps.size = z.cps.toList := List.take_of_length_le (by simp)
    rw [et] at r
    exact q1 r.1 p H' hp s (by show H' p = _; rw [e, r.2]; simp [Function.comp_def])
end
def sp_two_numbers : Sp := fun vs H Q _ => ∃ n : Int, vs = [.int n] ∧ ∀ p H', H p = none → Same H H' → H' p = some (.tup [.int (n / 64), .int (n % 64)]) → Q (.ref p) H'
theorem sc_two_numbers : FnScope ["number"] ["number"] (defScope s_two_numbers) := ⟨rfl, rfl, rfl, by decide +kernel, rfl, by decide +kernel, by decide +kernel⟩
section
theorem len_two_numbers {vs : List V} {H : Hp} {Q : VK} {E : XK} (h : (sp_two_numbers) vs H Q E) : vs.length = 1 := by
  repeat (obtain ⟨_, h⟩ := h)
  subst_vars; rfl
variable {P : Program} {w : World} {K : PySem.W.Frag} {mg : Str → Option Value} {base : Heap}
theorem ok_two_numbers (T : Tx K mg) : Cal P w K mg base CX0 1 (He.ga K "two_numbers") ["number"] (sp_two_numbers) := by
  obtain ⟨fd, F⟩ := T.F_two_numbers
  refine ⟨⟨fd, F.ok sc_two_numbers (fun vs H Q E h => len_two_numbers h) (fun cdv A outer s H vs Q E hr h => ⟨_, PSs.nox (
      (pss_one (ps_ret (pe_tup (pa_cons (pe_op op_shr (pv 0) pe_int) (pa_cons (pe_op op_and (pv 0) pe_int) pa_nil)))))), ?_⟩), F.bindsN fun _ _ _ _ _ _ us hl => match us, hl with | [_], _ => rfl⟩, F.kp⟩
  obtain ⟨n, rfl, q⟩ := h
  walk_at "rd"
  refine r_i (show (0 : Int) ≤ 6 by decide) ?_
  walk_at "rd"
  refine r_ktup (len_le rfl) fun p H' hp s e => ?_
  rw [bitAnd_m6] at e
  exact q p H' hp s e
end
def sp_one_number : Sp := fun vs H Q _ => ∃ h l : Int, vs = [.int h, .int l] ∧ (0 ≤ h ∧ h < 64 ∧ 0 ≤ l ∧ l < 64) ∧ Q (.int (h * 64 + l)) H
theorem sc_one_number : FnScope ["high", "low"] ["high", "low"] (defScope s_one_number) := ⟨rfl, rfl, rfl, by decide +kernel, rfl, by decide +kernel, by decide +kernel⟩
section
theorem len_one_number {vs : List V} {H : Hp} {Q : VK} {E : XK} (h : (sp_one_number) vs H Q E) : vs.length = 2 := by
  repeat (obtain ⟨_, h⟩ := h)
  subst_vars; rfl
variable {P : Program} {w : World} {K : PySem.W.Frag} {mg : Str → Option Value} {base : Heap}
theorem ok_one_number (T : Tx K mg) : Cal P w K mg base CX0 1 (He.ga K "one_number") ["high", "low"] (sp_one_number) := by
  obtain ⟨fd, F⟩ := T.F_one_number
  refine ⟨⟨fd, F.ok sc_one_number (fun vs H Q E h => len_one_number h) (fun cdv A outer s H vs Q E hr h => ⟨_, PSs.nox (
      (pss_one (ps_ret (pe_op op_or (pe_op op_shl (pv 0) pe_int) (pv 1))))), ?_⟩), F.bindsN fun _ _ _ _ _ _ us hl => match us, hl with | [_, _], _ => rfl⟩, F.kp⟩
  obtain ⟨a, b, rfl, ⟨h0, h1, l0, l1⟩, q⟩ := h
  walk_at "rd"
  refine r_i ⟨by omega, by omega, by omega⟩ ?_
  walk_at "rd"
  exact q_int q (or64 h0 h1 l0 l1).symm
end
def sp_check_of : Sp := fun vs H Q _ => ∃ (a : Addr) (ns : List Int), vs = [.ref a] ∧ Ints H a ns ∧ ns.length ≤ 100000 ∧ ∀ H', Same H H' → Q (.int (chk ns)) H'
theorem chkFrom_take (ns : List Int) (i : Nat) (n : Int) (h : ns[i]? = some n) : chkFrom 0 (ns.take (i + 1)) = chkFrom 0 (ns.take i) + ((i : Nat) + 1 : Int) * n := by
  have hi : i < ns.length := (List.getElem?_eq_some_iff.mp h).1
  rw [List.take_add_one, h, chkFrom_append]
  have e : (ns.take i).length = i := by simp; omega
  rw [e]
  simp [chkFrom]
theorem sc_check_of : FnScope ["numbers", "found", "place", "number"] ["numbers"] (defScope s_check_of) := ⟨rfl, rfl, rfl, by decide +kernel, rfl, by decide +kernel, by decide +kernel⟩
section
theorem len_check_of {vs : List V} {H : Hp} {Q : VK} {E : XK} (h : (sp_check_of) vs H Q E) : vs.length = 1 := by
  repeat (obtain ⟨_, h⟩ := h)
  subst_vars; rfl
variable {P : Program} {w : World} {K : PySem.W.Frag} {mg : Str → Option Value} {base : Heap}
theorem ok_check_of (T : Tx K mg) : Cal P w K mg base CX0 1 (He.ga K "check_of") ["numbers"] (sp_check_of) := by
  obtain ⟨fd, F⟩ := T.F_check_of
  refine ⟨⟨fd, F.ok sc_check_of (fun vs H Q E h => len_check_of h) (fun cdv A outer s H vs Q E hr h => ⟨_, PSs.nox (
      (pss_cons (ps_set (i := 1) sc_check_of.nd rfl (Or.inl rfl) pe_int)
      (pss_cons (ps_for PassesOwn.never rfl (pi_enumK K (by rfl) T.b_enumerate (pa_cons (pv 0) pa_nil)) (pg_tupK (n := 2) K rfl (pgs_cons (pg_name (i := 2) sc_check_of.nd rfl (Or.inl rfl)) (pgs_cons (pg_name (i := 3) sc_check_of.nd rfl (Or.inl rfl)) pgs_nil)))
      (pss_one (ps_aug (i := 1) sc_check_of.nd rfl (Or.inl rfl) (pe_op op_mul (pe_op op_add (pv 2) pe_int) (pv 3)) ip_add)))
      (pss_one (ps_ret (pe_op op_mod (pv 1) (C8.pe_gc (by rfl) T.k_CHECK))))))), ?_⟩), F.bindsN fun _ _ _ _ _ _ us hl => match us, hl with | [_], _ => rfl⟩, F.kp⟩
  obtain ⟨a, ns, rfl, hn, hz, q⟩ := h
  walk_at "rd"
  refine r_kie (ints_sq hn) ?_
  refine kfor (walk_enum (xs := ns.map V.int)) (fun i σ H1 => ∃ y z, σ = [some (.ref a), some (.int (chkFrom 0 (ns.take i))), y, z] ∧ Same H H1) ⟨none, none, rfl, Same.refl H⟩ (fun i σ H1 _ h => ?_) (fun i x σ H1 H2 hi h y => ?_) fun σ H1 h => ?_
  · obtain ⟨_, _, _, s⟩ := h
    exact s.seq (ints_sq hn)
  · obtain ⟨u, v, rfl, s⟩ := h
    obtain ⟨T, u1, v1, rfl, hT, rfl, e3, e4⟩ := y
    obtain ⟨n, hn', rfl⟩ := map_atc e4
    have e5 := Option.some.inj e3
    subst e5
    refine r_gt2 (SqT.of upd_same) ?_
    walk_at "rd"
    refine r_i (.inl ⟨by omega, by simp at hi; omega⟩) ?_
    walk_at "rd"
    refine ⟨some (.int i), some (.int n), ?_, s.trans (same_up hT)⟩
    rw [chkFrom_take ns i n hn']
    rfl
  · obtain ⟨u, v, rfl, s⟩ := h
    walk_at "rd"
    refine r_i (show (0 : Int) < 4093 by decide) ?_
    have et : ns.take (ns.map V.int).length = ns := List.take_of_length_le (by simp)
    rw [et]
    exact q H1 s
end
end K44
set_option Elab.async false
set_option linter.all false
set_option maxRecDepth 100000
set_option maxHeartbeats 4000000
namespace K44
open PySem PySem.Spec PyProof.Rows L2
local macro_rules | `(tactic| walk_at "rd1") => `(tactic| first
  | ((with_reducible apply r_var); rfl)
  | ((with_reducible apply r_aug); rfl)
  | with_reducible apply r_isiI
  | with_reducible apply r_tslS
  | with_reducible apply r_try
  | with_reducible apply r_gsub
  | with_reducible apply r_irev
  | with_reducible apply r_trg1
  | with_reducible apply r_sfld
  | with_reducible apply r_afld
  | with_reducible apply r_rAdd
  | with_reducible apply r_dget
  | with_reducible apply r_din
  | with_reducible apply r_dnot
  | with_reducible apply r_dput
  | with_reducible apply r_ikeys
  | with_reducible apply r_m1
  | with_reducible apply r_km1
  | with_reducible apply r_inS
  | with_reducible apply r_notInS
  | with_reducible apply r_isN
  | with_reducible apply r_ip
  | with_reducible apply r_kbmS
  | with_reducible apply r_min2
  | with_reducible apply r_isiB
  | with_reducible apply r_isiS
  | with_reducible apply r_tyes
  | with_reducible apply iteT
  | with_reducible apply iteF
  | with_reducible apply r_nT
  | with_reducible apply r_nF
  | with_reducible apply r_callS
  | with_reducible apply r_meth
  | with_reducible apply r_methS
  | with_reducible apply r_methD
  | with_reducible apply r_make
  | with_reducible apply r_lc
  | with_reducible apply r_for
  | with_reducible apply r_ilist
  | with_reducible apply r_itup
  | with_reducible apply r_irng1
  | with_reducible apply r_irng2
  | with_reducible apply r_istr
  | with_reducible apply r_ienum
  | with_reducible apply r_izip
  | with_reducible apply r_izip3
  | with_reducible apply r_izip4
  | with_reducible apply r_kis
  | with_reducible apply r_c
  | with_reducible apply r_op
  | with_reducible apply r_un
  | with_reducible apply r_i0
  | with_reducible apply r_u
  | with_reducible apply r_eqI
  | with_reducible apply r_neI
  | with_reducible apply r_eqS
  | with_reducible apply r_neS
  | with_reducible apply r_test
  | with_reducible apply r_B
  | with_reducible apply r_bl
  | with_reducible apply r_int
  | with_reducible apply r_and
  | with_reducible apply r_or
  | with_reducible apply r_not
  | with_reducible apply r_andV
  | with_reducible apply r_orV
  | with_reducible apply r_notV
  | with_reducible apply r_chain
  | with_reducible apply r_tif
  | with_reducible apply r_nil
  | with_reducible apply r_cons
  | with_reducible apply r_cb
  | with_reducible apply r_call
  | with_reducible apply r_seq
  | with_reducible apply r_asg
  | with_reducible apply r_name
  | with_reducible apply r_drop
  | with_reducible apply r_ret
  | with_reducible apply r_retN
  | with_reducible apply r_next
  | with_reducible apply r_ifS
  | with_reducible apply r_tup
  | with_reducible apply r_lst
  | with_reducible apply r_sl
  | with_reducible apply r_nopart
  | with_reducible apply r_part
  | with_reducible apply r_fld
  | with_reducible apply r_bm
  | with_reducible apply r_bm0)
local macro_rules | `(tactic| walk_at "rd") => `(tactic| repeat (walk_at "rd1"))

def SMS : Str := "abcdefghijklmnopqrstuvwxyz"
def SML : List Nat := SMS.cps.toList
theorem sml_sg {c : Nat} (h : c ∈ SML) : c ∈ SG := by
  have e : SML.all (fun c => decide (c ∈ SG)) = true := by decide +kernel
  exact of_decide_eq_true (List.all_eq_true.mp e c h)
def isSmall (z : Str) (m : Int) : Bool := decide (1 ≤ z.length ∧ (z.length : Int) ≤ m) && z.cps.toList.all fun c => decide (c ∈ SML)
def sp_is_small : Sp := fun vs H Q _ => ∃ (z : Str) (m : Int), vs = [.str z, .int m] ∧ z.length ≤ 100000 ∧ ∀ H', Same H H' → Q (.bl (isSmall z m)) H'
theorem sc_is_small : FnScope ["thing", "most", "sign"] ["thing", "most"] (defScope s_is_small) := ⟨rfl, rfl, rfl, by decide +kernel, rfl, by decide +kernel, by decide +kernel⟩
section
theorem len_is_small {vs : List V} {H : Hp} {Q : VK} {E : XK} (h : (sp_is_small) vs H Q E) : vs.length = 2 := by
  repeat (obtain ⟨_, h⟩ := h)
  subst_vars; rfl
variable {P : Program} {w : World} {K : PySem.W.Frag} {mg : Str → Option Value} {base : Heap}
theorem ok_is_small (T : Tx K mg) : Cal P w K mg base CX0 1 (He.ga K "is_small") ["thing", "most"] (sp_is_small) := by
  obtain ⟨fd, F⟩ := T.F_is_small
  refine ⟨⟨fd, F.ok sc_is_small (fun vs H Q E h => len_is_small h) (fun cdv A outer s H vs Q E hr h => ⟨_, PSs.nox (
      (pss_cons (ps_if (PW.pt (pw_or (pt_not (pt_val (pe_callB (isiK K) (by rfl) T.b_isinstance boot_isinstance (pa_cons (pv 0) (pa_cons (pe_bltn (v := .ty "str") (by rfl) T.b_str (by decide +kernel) rfl) pa_nil))))) (pw_or1 (pt_not (pt_chain op_le op_le pe_int (pe_callB cal_lenS (by rfl) T.b_len PySem.boot_len (pa_cons (pv 0) pa_nil)) (pv 1))))))
      (pss_one (ps_ret pe_bl)) pss_nil)
      (pss_one (ps_ret (pe_callB (cr_allK K rfl) (by rfl) T.b_all (by decide +kernel) (pa_cons (pe_lc (own := [("sign", 2)]) rfl sc_is_small.nd (pi_str (pv 0)) (blkOk_by (own := [("sign", 2)]) (N := ["thing", "most", "sign"]) (sc := defScope s_is_small) (by decide +kernel)) (fun _ _ _ _ _ => (pg_name (i := 2) sc_is_small.nd rfl (Or.inl rfl))) (fun _ _ _ _ _ => pts_nil) (fun _ _ _ _ _ => (pe_cmpR op_inS (pv 2) (C8.pe_gc (by rfl) T.k_SMALL) rfl))) pa_nil)))))), ?_⟩), F.bindsN fun _ _ _ _ _ _ us hl => match us, hl with | [_, _], _ => rfl⟩, F.kp⟩
  obtain ⟨z, m, rfl, hz, q⟩ := h
  walk_at "rd"
  refine r_lenS (szl hz) ?_
  walk_at "rd"
  have no : ¬ (1 ≤ z.length ∧ (z.length : Int) ≤ m) → isSmall z m = false := fun h => by unfold isSmall; rw [decide_eq_false h]; rfl
  refine r_ifD (fun h1 => ?_) fun h1 => ?_
  · walk_at "rd"
    refine r_ifN (fun h2 => ?_) fun h2 => ?_
    · exact q_bl (q H (Same.refl H)) (no fun h => h2 h.2)
    · walk_at "rd"
      refine klc_S (szl hz) (fun c => .bl (decide (c ∈ SML))) (fun c H1 hc s Z zz => ?_) fun p H' hp s e => ?_
      · walk_at "rd"
        refine ⟨rfl, ?_⟩
        walk_at "rd"
        exact zz H1 (Same.refl H1)
      · walk_at "rd"
        refine r_all e (q_bl (q H' s) ?_)
        unfold isSmall
        rw [decide_eq_true (show 1 ≤ z.length ∧ (z.length : Int) ≤ m from ⟨by omega, h2⟩), Bool.true_and]
  · walk_at "rd"
    exact q_bl (q H (Same.refl H)) (no fun h => h1 (by omega))
end
def sp_is_six_bits : Sp := fun vs H Q _ => ∃ n : Int, vs = [.int n] ∧ Q (.bl (six n)) H
theorem sc_is_six_bits : FnScope ["thing"] ["thing"] (defScope s_is_six_bits) := ⟨rfl, rfl, rfl, by decide +kernel, rfl, by decide +kernel, by decide +kernel⟩
section
theorem len_is_six_bits {vs : List V} {H : Hp} {Q : VK} {E : XK} (h : (sp_is_six_bits) vs H Q E) : vs.length = 1 := by
  repeat (obtain ⟨_, h⟩ := h)
  subst_vars; rfl
variable {P : Program} {w : World} {K : PySem.W.Frag} {mg : Str → Option Value} {base : Heap}
theorem ok_is_six_bits (T : Tx K mg) : Cal P w K mg base CX0 1 (He.ga K "is_six_bits") ["thing"] (sp_is_six_bits) := by
  obtain ⟨fd, F⟩ := T.F_is_six_bits
  refine ⟨⟨fd, F.ok sc_is_six_bits (fun vs H Q E h => len_is_six_bits h) (fun cdv A outer s H vs Q E hr h => ⟨_, PSs.nox (
      (pss_one (ps_ret (pe_and (pe_callB (isiK K) (by rfl) T.b_isinstance boot_isinstance (pa_cons (pv 0) (pa_cons (pe_bltn (v := .ty "int") (by rfl) T.b_int (by decide +kernel) rfl) pa_nil))) (pe_and (pe_not (pe_callB (isiK K) (by rfl) T.b_isinstance boot_isinstance (pa_cons (pv 0) (pa_cons (pe_bltn (v := .ty "bool") (by rfl) T.b_bool (by decide +kernel) rfl) pa_nil)))) (pe_one (pe_chain op_le op_le pe_int (pv 0) pe_int))))))), ?_⟩), F.bindsN fun _ _ _ _ _ _ us hl => match us, hl with | [_], _ => rfl⟩, F.kp⟩
  obtain ⟨n, rfl, q⟩ := h
  walk_at "rd"
  refine r_ifD (fun h1 => ?_) fun h1 => ?_
  · walk_at "rd"
    exact q_bl q (bool_eq (by simp [h1]))
  · exact q_bl q (decide_eq_false (by simp [h1]))
end
structure Prt where
  c : Nat
  nm : Str
  ns : List Int
def Prt.Ok (x : Prt) : Prop := x.c ∈ SML ∧ isSmall x.nm 8 = true ∧ x.ns.length ≤ 2000 ∧ x.ns.all six = true
def PartV (H : Hp) (v : V) (x : Prt) : Prop := ∃ t l, v = .ref t ∧ H t = some (.tup [.str ⟨#[x.c]⟩, .str x.nm, .ref l]) ∧ Ints H l x.ns
theorem PartV.same {H H' : Hp} {v : V} {x : Prt} (s : Same H H') (h : PartV H v x) : PartV H' v x := by
  obtain ⟨t, l, e, h1, h2⟩ := h
  exact ⟨t, l, e, s _ _ h1, s _ _ h2⟩
theorem small_len {z : Str} (h : isSmall z 8 = true) : 1 ≤ z.length ∧ z.length ≤ 8 := by
  unfold isSmall at h
  have := of_decide_eq_true (Bool.and_eq_true _ _ ▸ h).1
  omega
theorem small_in {z : Str} {m : Int} (h : isSmall z m = true) {c : Nat} (hc : c ∈ z.cps.toList) : c ∈ SML := by
  unfold isSmall at h
  exact of_decide_eq_true (List.all_eq_true.mp (Bool.and_eq_true _ _ ▸ h).2 c hc)
theorem small_one {c : Nat} (h : c ∈ SML) : isSmall ⟨#[c]⟩ 1 = true := by
  unfold isSmall
  rw [decide_eq_true (show 1 ≤ (⟨#[c]⟩ : Str).length ∧ (((⟨#[c]⟩ : Str).length : Nat) : Int) ≤ 1 from ⟨Nat.le_refl _, Int.le_refl _⟩)]
  simp [h]
def sp_is_part : Sp := fun vs H Q _ => ∃ (v : V) (x : Prt), vs = [v] ∧ PartV H v x ∧ x.Ok ∧ ∀ H', Same H H' → Q (.bl true) H'
theorem sc_is_part : FnScope ["thing", "kind", "name", "numbers", "number"] ["thing"] (defScope s_is_part) := ⟨rfl, rfl, rfl, by decide +kernel, rfl, by decide +kernel, by decide +kernel⟩
section
theorem len_is_part {vs : List V} {H : Hp} {Q : VK} {E : XK} (h : (sp_is_part) vs H Q E) : vs.length = 1 := by
  repeat (obtain ⟨_, h⟩ := h)
  subst_vars; rfl
variable {P : Program} {w : World} {K : PySem.W.Frag} {mg : Str → Option Value} {base : Heap}
theorem ok_is_part (T : Tx K mg) : Cal P w K mg base CX0 2 (He.ga K "is_part") ["thing"] (sp_is_part) := by
  obtain ⟨fd, F⟩ := T.F_is_part
  refine ⟨⟨fd, F.ok sc_is_part (fun vs H Q E h => len_is_part h) (fun cdv A outer s H vs Q E hr h => ⟨_, PSs.nox (
      (pss_cons (ps_if (PW.pt (pw_or (pt_not (pt_val (pe_callB (isiK K) (by rfl) T.b_isinstance boot_isinstance (pa_cons (pv 0) (pa_cons (pe_bltn (v := .ty "tuple") (by rfl) T.b_tuple (by decide +kernel) rfl) pa_nil))))) (pw_or1 (pt_cmpR op_ne (pe_callB (cal_lenK K) (by rfl) T.b_len PySem.boot_len (pa_cons (pv 0) pa_nil)) pe_int (nomark _)))))
      (pss_one (ps_ret pe_bl)) pss_nil)
      (pss_cons (ps_asg (pv 0) (pg_tupK (n := 3) K rfl (pgs_cons (pg_name (i := 1) sc_is_part.nd rfl (Or.inl rfl)) (pgs_cons (pg_name (i := 2) sc_is_part.nd rfl (Or.inl rfl)) (pgs_cons (pg_name (i := 3) sc_is_part.nd rfl (Or.inl rfl)) pgs_nil)))))
      (pss_cons (ps_if (PW.pt (pw_or (pt_not (pt_val (pe_cal (ok_is_small T) hr (by decide) (by rfl) T.g_is_small pass0 (pa_cons (pv 1) (pa_cons pe_int pa_nil))))) (pw_or1 (pt_not (pt_val (pe_cal (ok_is_small T) hr (by decide) (by rfl) T.g_is_small pass0 (pa_cons (pv 2) (pa_cons (C8.pe_gc (by rfl) T.k_MOST_NAME) pa_nil))))))))
      (pss_one (ps_ret pe_bl)) pss_nil)
      (pss_cons (ps_if (PW.pt (pw_or (pt_not (pt_val (pe_callB (isiK K) (by rfl) T.b_isinstance boot_isinstance (pa_cons (pv 3) (pa_cons (pe_bltn (v := .ty "list") (by rfl) T.b_list (by decide +kernel) rfl) pa_nil))))) (pw_or1 (pt_cmpR op_gt (pe_callB (cal_lenK K) (by rfl) T.b_len PySem.boot_len (pa_cons (pv 3) pa_nil)) (C8.pe_gc (by rfl) T.k_MOST_NUMBERS) (nomark _)))))
      (pss_one (ps_ret pe_bl)) pss_nil)
      (pss_one (ps_ret (pe_callB (cr_allK K rfl) (by rfl) T.b_all (by decide +kernel) (pa_cons (pe_lc (own := [("number", 4)]) rfl sc_is_part.nd (pi_listK K (pv 3)) (blkOk_by (own := [("number", 4)]) (N := ["thing", "kind", "name", "numbers", "number"]) (sc := defScope s_is_part) (by decide +kernel)) (fun _ _ _ _ _ => (pg_name (i := 4) sc_is_part.nd rfl (Or.inl rfl))) (fun _ _ _ _ _ => pts_nil) (fun _ _ _ _ _ => (pe_cal (ok_is_six_bits T) hr (by decide) (by rfl) T.g_is_six_bits pass0 (pa_cons (pv 4) pa_nil)))) pa_nil))))))))), ?_⟩), F.bindsN fun _ _ _ _ _ _ us hl => match us, hl with | [_], _ => rfl⟩, F.kp⟩
  obtain ⟨v, x, rfl, ⟨t, l, rfl, ht, hl⟩, ⟨o1, o2, o3, o4⟩, q⟩ := h
  walk_at "rd"
  refine r_isiT ht ?_
  walk_at "rd"
  refine r_lenT (SqT.of ht) ?_
  walk_at "rd"
  refine r_noN rfl ?_
  walk_at "rd"
  refine r_gt3 (SqT.of ht) ?_
  walk_at "rd"
  refine ⟨_, 1, rfl, len_le rfl, fun H1 s1 => ?_⟩
  rw [small_one o1]
  walk_at "rd"
  refine ⟨_, 8, rfl, by have := small_len o2; omega, fun H2 s2 => ?_⟩
  rw [o2]
  walk_at "rd"
  have hl2 := s2 _ _ (s1 _ _ hl)
  refine r_isiL hl2 ?_
  walk_at "rd"
  refine r_lenI hl2 ?_
  walk_at "rd"
  refine r_no (by omega) ?_
  walk_at "rd"
  refine r_kil (ints_sq hl2) ?_
  refine klc_L (ints_sq hl2) (szl (by omega)) (fun n => .bl (six n)) (fun n H3 hn s Z z => ?_) fun p H' hp s e => ?_
  · walk_at "rd"
    refine ⟨rfl, ?_⟩
    walk_at "rd"
    exact ⟨n, rfl, z H3 (Same.refl H3)⟩
  · walk_at "rd"
    refine r_all e ?_
    rw [o4]
    exact q H' ((s1.trans s2).trans s)
end
def sp_need_part : Sp := fun vs H Q _ => ∃ (v : V) (x : Prt), vs = [v] ∧ PartV H v x ∧ x.Ok ∧ ∀ H', Same H H' → Q .non H'
theorem sc_need_part : FnScope ["part"] ["part"] (defScope s_need_part) := ⟨rfl, rfl, rfl, by decide +kernel, rfl, by decide +kernel, by decide +kernel⟩
section
theorem len_need_part {vs : List V} {H : Hp} {Q : VK} {E : XK} (h : (sp_need_part) vs H Q E) : vs.length = 1 := by
  repeat (obtain ⟨_, h⟩ := h)
  subst_vars; rfl
variable {P : Program} {w : World} {K : PySem.W.Frag} {mg : Str → Option Value} {base : Heap}
theorem ok_need_part (T : Tx K mg) : Cal P w K mg base CX0 3 (He.ga K "need_part") ["part"] (sp_need_part) := by
  obtain ⟨fd, F⟩ := T.F_need_part
  refine ⟨⟨fd, F.ok sc_need_part (fun vs H Q E h => len_need_part h) (fun cdv A outer s H vs Q E hr h => ⟨_, PSs.nox (
      (pss_one (ps_if (pt_not (pt_val (pe_cal (ok_is_part T) hr (by decide) (by rfl) T.g_is_part pass0 (pa_cons (pv 0) pa_nil))))
      (pss_one ps_never) pss_nil))), ?_⟩), F.bindsN fun _ _ _ _ _ _ us hl => match us, hl with | [_], _ => rfl⟩, F.kp⟩
  obtain ⟨v, x, rfl, hp, ok, q⟩ := h
  walk_at "rd"
  refine ⟨v, x, rfl, hp, ok, fun H' s' => ?_⟩
  walk_at "rd"
  exact q H' s'
end
def Prt.nums (x : Prt) : List Int := (num x.c :: (x.nm.length : Int) :: x.nm.cps.toList.map num) ++ [(x.ns.length : Int) / 64, (x.ns.length : Int) % 64] ++ x.ns
def sp_part_numbers : Sp := fun vs H Q _ => ∃ (v : V) (x : Prt), vs = [v] ∧ PartV H v x ∧ x.Ok ∧ ∀ p H', H p = none → Same H H' → Ints H' p x.nums → Q (.ref p) H'
theorem sc_part_numbers : FnScope ["part", "kind", "name", "numbers", "found", "sign"] ["part"] (defScope s_part_numbers) := ⟨rfl, rfl, rfl, by decide +kernel, rfl, by decide +kernel, by decide +kernel⟩
section
theorem len_part_numbers {vs : List V} {H : Hp} {Q : VK} {E : XK} (h : (sp_part_numbers) vs H Q E) : vs.length = 1 := by
  repeat (obtain ⟨_, h⟩ := h)
  subst_vars; rfl
variable {P : Program} {w : World} {K : PySem.W.Frag} {mg : Str → Option Value} {base : Heap}
theorem ok_part_numbers (T : Tx K mg) : Cal P w K mg base CX0 4 (He.ga K "part_numbers") ["part"] (sp_part_numbers) := by
  obtain ⟨fd, F⟩ := T.F_part_numbers
  refine ⟨⟨fd, F.ok sc_part_numbers (fun vs H Q E h => len_part_numbers h) (fun cdv A outer s H vs Q E hr h => ⟨_, PSs.nox (
      (pss_cons (ps_expr (pe_cal (ok_need_part T) hr (by decide) (by rfl) T.g_need_part pass0 (pa_cons (pv 0) pa_nil)))
      (pss_cons (ps_asg (pv 0) (pg_tupK (n := 3) K rfl (pgs_cons (pg_name (i := 1) sc_part_numbers.nd rfl (Or.inl rfl)) (pgs_cons (pg_name (i := 2) sc_part_numbers.nd rfl (Or.inl rfl)) (pgs_cons (pg_name (i := 3) sc_part_numbers.nd rfl (Or.inl rfl)) pgs_nil)))))
      (pss_cons (ps_set (i := 4) sc_part_numbers.nd rfl (Or.inl rfl) (pe_lst (pa_cons (pe_cal (ok_number_of_sign T) hr (by decide) (by rfl) T.g_number_of_sign passE0 (pa_cons (pv 1) pa_nil)) (pa_cons (pe_callB cal_lenS (by rfl) T.b_len PySem.boot_len (pa_cons (pv 2) pa_nil)) pa_nil))))
      (pss_cons (ps_aug (i := 4) sc_part_numbers.nd rfl (Or.inl rfl) (pe_lc (own := [("sign", 5)]) rfl sc_part_numbers.nd (pi_str (pv 2)) (blkOk_by (own := [("sign", 5)]) (N := ["part", "kind", "name", "numbers", "found", "sign"]) (sc := defScope s_part_numbers) (by decide +kernel)) (fun _ _ _ _ _ => (pg_name (i := 5) sc_part_numbers.nd rfl (Or.inl rfl))) (fun _ _ _ _ _ => pts_nil) (fun _ _ _ _ _ => (pe_cal (ok_number_of_sign T) hr (by decide) (by rfl) T.g_number_of_sign passE0 (pa_cons (pv 5) pa_nil)))) iop_ext)
      (pss_cons (ps_aug (i := 4) sc_part_numbers.nd rfl (Or.inl rfl) (pe_callTy (cal_listK K) (by rfl) T.b_list (by decide +kernel) (pa_cons (pe_cal (ok_two_numbers T) hr (by decide) (by rfl) T.g_two_numbers pass0 (pa_cons (pe_callB (cal_lenK K) (by rfl) T.b_len PySem.boot_len (pa_cons (pv 3) pa_nil)) pa_nil)) pa_nil)) iop_ext)
      (pss_one (ps_ret (pe_op op_cat (pv 4) (pv 3)))))))))), ?_⟩), F.bindsN fun _ _ _ _ _ _ us hl => match us, hl with | [_], _ => rfl⟩, F.kp⟩
  obtain ⟨v, x, rfl, hp, ok, q⟩ := h
  obtain ⟨t, l, rfl, ht, hl⟩ := id hp
  obtain ⟨o1, o2, o3, o4⟩ := id ok
  have o5 := small_len o2
  have o6 : x.nm.cps.size ≤ 8 := o5.2
  walk_at "rd"
  refine ⟨_, x, rfl, hp, ok, fun H1 s1 => ?_⟩
  walk_at "rd"
  refine r_gt3 (SqT.of (s1 _ _ ht)) ?_
  walk_at "rd"
  refine ⟨x.c, rfl, fun _ => ?_, fun h => absurd (sml_sg o1) h⟩
  walk_at "rd"
  refine r_lenS (szl (by omega)) ?_
  walk_at "rd"
  refine r_klst (len_le rfl) fun p H2 n2 s2 e2 => ?_
  walk_at "rd"
  refine klc_S (szl (by omega)) (fun c => .int (num c)) (fun c H3 hc s Z z => ?_) fun p3 H3 n3 s3 e3 => ?_
  · walk_at "rd"
    refine ⟨rfl, ?_⟩
    walk_at "rd"
    exact ⟨c, rfl, fun _ => z H3 (Same.refl H3), fun h => absurd (sml_sg (small_in o2 hc)) h⟩
  have hlen : x.nm.cps.toList.length = x.nm.length := by simp [Str.length]
  refine r_ext2 (s3 _ _ e2) e3 (szl (by simp; omega)) ?_
  walk_at "rd"
  have sp : Same H1 (upd H3 p (.lst ([.int (num x.c), .int x.nm.length] ++ x.nm.cps.toList.map fun c => .int (num c)))) := fun b o e => by
    have := s2 _ _ e
    rw [upd_ne (ne_of_none e n2)]
    exact s3 _ _ this
  have ep : (upd H3 p (.lst ([.int (num x.c), .int x.nm.length] ++ x.nm.cps.toList.map fun c => .int (num c)))) p = some (.lst ([.int (num x.c), .int x.nm.length] ++ x.nm.cps.toList.map fun c => .int (num c))) := upd_same
  generalize upd H3 p (.lst ([.int (num x.c), .int x.nm.length] ++ x.nm.cps.toList.map fun c => .int (num c))) = H4 at sp ep ⊢
  have hl4 := sp _ _ (s1 _ _ hl)
  refine r_lenI hl4 ?_
  walk_at "rd"
  refine ⟨_, rfl, fun t5 H5 n5 s5 e5 => ?_⟩
  walk_at "rd"
  refine r_listT (SqT.of e5) fun l6 H6 n6 s6 e6 => ?_
  refine r_ext2 (s6 _ _ (s5 _ _ ep)) e6 (szl (by simp; omega)) ?_
  walk_at "rd"
  have ne : l ≠ p := ne_of_none (s1 _ _ hl) n2
  refine r_cat upd_same (by rw [upd_ne ne]; exact s6 _ _ (s5 _ _ hl4)) (szl (by simp; omega)) fun p7 H7 n7 s7 e7 => ?_
  refine q p7 H7 ?_ ?_ ?_
  · have : H6 p7 = none := by
      by_cases h : p7 = p
      · subst h; rw [upd_same] at n7; cases n7
      · rw [upd_ne h] at n7; exact n7
    exact ((s1.trans sp).trans (s5.trans s6)).free this
  · exact fun b o e => s7 _ _ (by rw [upd_ne (ne_of_none (s1 _ _ e) n2)]; exact ((s1.trans sp).trans (s5.trans s6)) _ _ e)
  · show H7 p7 = _
    rw [e7]
    simp [Prt.nums]
end
end K44
set_option Elab.async false
set_option linter.all false
set_option maxRecDepth 100000
set_option maxHeartbeats 4000000
namespace K44
open PySem PySem.Spec PyProof.Rows L2
local macro_rules | `(tactic| walk_at "rd1") => `(tactic| first
  | ((with_reducible apply r_var); rfl)
  | ((with_reducible apply r_aug); rfl)
  | with_reducible apply r_isiI
  | with_reducible apply r_tslS
  | with_reducible apply r_try
  | with_reducible apply r_gsub
  | with_reducible apply r_irev
  | with_reducible apply r_trg1
  | with_reducible apply r_sfld
  | with_reducible apply r_afld
  | with_reducible apply r_rAdd
  | with_reducible apply r_dget
  | with_reducible apply r_din
  | with_reducible apply r_dnot
  | with_reducible apply r_dput
  | with_reducible apply r_ikeys
  | with_reducible apply r_m1
  | with_reducible apply r_km1
  | with_reducible apply r_inS
  | with_reducible apply r_notInS
  | with_reducible apply r_isN
  | with_reducible apply r_ip
  | with_reducible apply r_kbmS
  | with_reducible apply r_min2
  | with_reducible apply r_isiB
  | with_reducible apply r_isiS
  | with_reducible apply r_tyes
  | with_reducible apply iteT
  | with_reducible apply iteF
  | with_reducible apply r_nT
  | with_reducible apply r_nF
  | with_reducible apply r_callS
  | with_reducible apply r_meth
  | with_reducible apply r_methS
  | with_reducible apply r_methD
  | with_reducible apply r_make
  | with_reducible apply r_lc
  | with_reducible apply r_for
  | with_reducible apply r_ilist
  | with_reducible apply r_itup
  | with_reducible apply r_irng1
  | with_reducible apply r_irng2
  | with_reducible apply r_istr
  | with_reducible apply r_ienum
  | with_reducible apply r_izip
  | with_reducible apply r_izip3
  | with_reducible apply r_izip4
  | with_reducible apply r_kis
  | with_reducible apply r_c
  | with_reducible apply r_op
  | with_reducible apply r_un
  | with_reducible apply r_i0
  | with_reducible apply r_u
  | with_reducible apply r_eqI
  | with_reducible apply r_neI
  | with_reducible apply r_eqS
  | with_reducible apply r_neS
  | with_reducible apply r_test
  | with_reducible apply r_B
  | with_reducible apply r_bl
  | with_reducible apply r_int
  | with_reducible apply r_and
  | with_reducible apply r_or
  | with_reducible apply r_not
  | with_reducible apply r_andV
  | with_reducible apply r_orV
  | with_reducible apply r_notV
  | with_reducible apply r_chain
  | with_reducible apply r_tif
  | with_reducible apply r_nil
  | with_reducible apply r_cons
  | with_reducible apply r_cb
  | with_reducible apply r_call
  | with_reducible apply r_seq
  | with_reducible apply r_asg
  | with_reducible apply r_name
  | with_reducible apply r_drop
  | with_reducible apply r_ret
  | with_reducible apply r_retN
  | with_reducible apply r_next
  | with_reducible apply r_ifS
  | with_reducible apply r_tup
  | with_reducible apply r_lst
  | with_reducible apply r_sl
  | with_reducible apply r_nopart
  | with_reducible apply r_part
  | with_reducible apply r_fld
  | with_reducible apply r_bm
  | with_reducible apply r_bm0)
local macro_rules | `(tactic| walk_at "rd") => `(tactic| repeat (walk_at "rd1"))

theorem drop_at {α : Type} {xs ys : List α} {p j : Nat} (h : xs.drop p = ys) : xs[p + j]? = ys[j]? := by rw [← h, List.getElem?_drop]
theorem name_back (nm : Str) (h : ∀ c ∈ nm.cps.toList, c ∈ SG) : txt ((nm.cps.toList.map num).map sgn) = nm := by
  rw [List.map_map]
  have : nm.cps.toList.map (sgn ∘ num) = nm.cps.toList := by
    conv => rhs; rw [← List.map_id nm.cps.toList]
    exact List.map_congr_left fun c hc => sgn_num (h c hc)
  rw [this, txt_of]
theorem Prt.nums_len (x : Prt) : x.nums.length = 4 + x.nm.length + x.ns.length := by
  have : x.nm.cps.toList.length = x.nm.length := by simp [Str.length]
  simp [Prt.nums, Str.length]
  omega
def sp_part_at : Sp := fun vs H Q _ => ∃ (a : Addr) (ns : List Int) (p : Nat) (x : Prt) (post : List Int), vs = [.ref a, .int (p : Nat)] ∧ Ints H a ns ∧ ns.length ≤ 100000 ∧ ns.drop p = x.nums ++ post ∧ p ≤ ns.length ∧ x.Ok ∧
  ∀ q v H', Same H H' → H' q = some (.tup [v, .int ((p + x.nums.length : Nat) : Int)]) → PartV H' v x → Q (.ref q) H'
theorem sc_part_at : FnScope ["numbers", "place", "behind", "end", "name", "part", "number"] ["numbers", "place"] (defScope s_part_at) := ⟨rfl, rfl, rfl, by decide +kernel, rfl, by decide +kernel, by decide +kernel⟩
section
theorem len_part_at {vs : List V} {H : Hp} {Q : VK} {E : XK} (h : (sp_part_at) vs H Q E) : vs.length = 2 := by
  repeat (obtain ⟨_, h⟩ := h)
  subst_vars; rfl
variable {P : Program} {w : World} {K : PySem.W.Frag} {mg : Str → Option Value} {base : Heap}
theorem ok_part_at (T : Tx K mg) : Cal P w K mg base CX0 4 (He.ga K "part_at") ["numbers", "place"] (sp_part_at) := by
  obtain ⟨fd, F⟩ := T.F_part_at
  refine ⟨⟨fd, F.ok sc_part_at (fun vs H Q E h => len_part_at h) (fun cdv A outer s H vs Q E hr h => ⟨_, PSs.nox (
      (pss_cons (ps_if (pt_cmpR op_gt (pe_op op_add (pv 1) pe_int) (pe_callB (cal_lenK K) (by rfl) T.b_len PySem.boot_len (pa_cons (pv 0) pa_nil)) (nomark _))
      (pss_one ps_never) pss_nil)
      (pss_cons (ps_set (i := 2) sc_part_at.nd rfl (Or.inl rfl) (pe_op op_add (pe_op op_add (pv 1) pe_int) (pe_ix (ix_listK K) (pv 0) (pe_op op_add (pv 1) pe_int) (fun _ _ => rfl))))
      (pss_cons (ps_if (pt_cmpR op_gt (pe_op op_add (pv 2) pe_int) (pe_callB (cal_lenK K) (by rfl) T.b_len PySem.boot_len (pa_cons (pv 0) pa_nil)) (nomark _))
      (pss_one ps_never) pss_nil)
      (pss_cons (ps_set (i := 3) sc_part_at.nd rfl (Or.inl rfl) (pe_op op_add (pe_op op_add (pv 2) pe_int) (pe_cal (ok_one_number T) hr (by decide) (by rfl) T.g_one_number pass0 (pa_cons (pe_ix (ix_listK K) (pv 0) (pv 2) (fun _ _ => rfl)) (pa_cons (pe_ix (ix_listK K) (pv 0) (pe_op op_add (pv 2) pe_int) (fun _ _ => rfl)) pa_nil)))))
      (pss_cons (ps_if (pt_cmpR op_gt (pv 3) (pe_callB (cal_lenK K) (by rfl) T.b_len PySem.boot_len (pa_cons (pv 0) pa_nil)) (nomark _))
      (pss_one ps_never) pss_nil)
      (pss_cons (ps_set (i := 4) sc_part_at.nd rfl (Or.inl rfl) (pe_joinKK K pe_str (pe_lc (own := [("number", 6)]) rfl sc_part_at.nd (pi_listK K (pe_slice (sl_listK K) (pv 0) (po_some (pe_op op_add (pv 1) pe_int)) (po_some (pv 2)))) (blkOk_by (own := [("number", 6)]) (N := ["numbers", "place", "behind", "end", "name", "part", "number"]) (sc := defScope s_part_at) (by decide +kernel)) (fun _ _ _ _ _ => (pg_name (i := 6) sc_part_at.nd rfl (Or.inl rfl))) (fun _ _ _ _ _ => pts_nil) (fun _ _ _ _ _ => (pe_cal (ok_sign_of_number T) hr (by decide) (by rfl) T.g_sign_of_number pass0 (pa_cons (pv 6) pa_nil))))))
      (pss_cons (ps_set (i := 5) sc_part_at.nd rfl (Or.inl rfl) (pe_tup (pa_cons (pe_cal (ok_sign_of_number T) hr (by decide) (by rfl) T.g_sign_of_number pass0 (pa_cons (pe_ix (ix_listK K) (pv 0) (pv 1) (fun _ _ => rfl)) pa_nil)) (pa_cons (pv 4) (pa_cons (pe_slice (sl_listK K) (pv 0) (po_some (pe_op op_add (pv 2) pe_int)) (po_some (pv 3))) pa_nil)))))
      (pss_cons (ps_expr (pe_cal (ok_need_part T) hr (by decide) (by rfl) T.g_need_part pass0 (pa_cons (pv 5) pa_nil)))
      (pss_one (ps_ret (pe_tup (pa_cons (pv 5) (pa_cons (pv 3) pa_nil)))))))))))))), ?_⟩), F.bindsN fun _ _ _ _ _ _ us hl => match us, hl with | [_, _], _ => rfl⟩, F.kp⟩
  obtain ⟨a, ns, p, x, post, rfl, hn, hz, hd, hp, ok, q⟩ := h
  obtain ⟨o1, o2, o3, o4⟩ := id ok
  have o5 := small_len o2
  have hlen : x.nm.cps.toList.length = x.nm.length := by simp [Str.length]
  have hcut : ns.length = p + (x.nums.length + post.length) := by
    have := congrArg List.length hd
    rw [List.length_drop, List.length_append] at this
    omega
  rw [Prt.nums_len] at hcut
  have hnums : x.nums ++ post = num x.c :: (x.nm.length : Int) :: (x.nm.cps.toList.map num ++ ((x.ns.length : Int) / 64 :: (x.ns.length : Int) % 64 :: (x.ns ++ post))) := by simp [Prt.nums]
  rw [hnums] at hd
  have g0 : ns[p]? = some (num x.c) := drop_at (j := 0) hd
  have g1 : ns[p + 1]? = some (x.nm.length : Int) := drop_at hd
  have gk : ∀ k, ns[p + (2 + x.nm.length + k)]? = (((x.ns.length : Int) / 64 :: (x.ns.length : Int) % 64 :: (x.ns ++ post)))[k]? := fun k => by
    rw [drop_at hd, show 2 + x.nm.length + k = (x.nm.length + k) + 1 + 1 by omega, List.getElem?_cons_succ, List.getElem?_cons_succ, List.getElem?_append_right (by simp [Str.length])]
    congr 1
    simp [Str.length]
  have g2 := gk 0
  have g3 := gk 1
  rw [show 2 + x.nm.length + 0 = 2 + x.nm.length by omega, List.getElem?_cons_zero] at g2
  rw [List.getElem?_cons_succ, List.getElem?_cons_zero] at g3
  walk_at "rd"
  refine r_lenI hn ?_
  walk_at "rd"
  refine r_no (by omega) ?_
  walk_at "rd"
  refine r_ixL (ints_sq hn) (at_of (show (p : Int) + 1 = ((p + 1 : Nat) : Int) by omega) (ints_at g1)) ?_
  walk_at "rd"
  refine r_lenI hn ?_
  walk_at "rd"
  refine r_no (by omega) ?_
  walk_at "rd"
  refine r_ixL (ints_sq hn) (at_of (show (p : Int) + 2 + x.nm.length = ((p + (2 + x.nm.length) : Nat) : Int) by omega) (ints_at g2)) ?_
  walk_at "rd"
  refine r_ixL (ints_sq hn) (at_of (show (p : Int) + 2 + x.nm.length + 1 = ((p + (2 + x.nm.length + 1) : Nat) : Int) by omega) (ints_at g3)) ?_
  walk_at "rd"
  refine ⟨_, _, rfl, ⟨by omega, by omega, by omega, by omega⟩, ?_⟩
  walk_at "rd"
  refine r_lenI hn ?_
  walk_at "rd"
  refine r_no (by omega) ?_
  walk_at "rd"
  refine r_slL (ints_sq hn) fun p1 H1 n1 s1 e1 => ?_
  rw [show (p : Int) + 2 + x.nm.length = ((p + 2 + x.nm.length : Nat) : Int) by omega, show (p : Int) + 2 = ((p + 2 : Nat) : Int) by omega, cutI_ij] at e1
  have hnm : (ns.drop (p + 2)).take (p + 2 + x.nm.length - (p + 2)) = x.nm.cps.toList.map num := by
    rw [← List.drop_drop, hd]
    show List.take _ (x.nm.cps.toList.map num ++ _) = _
    rw [show p + 2 + x.nm.length - (p + 2) = (x.nm.cps.toList.map num).length by simp [Str.length], List.take_left]
  rw [hnm] at e1
  refine r_kil (ints_sq e1) ?_
  refine klc_L (ints_sq e1) (szl (by simp; have : x.nm.cps.size ≤ 8 := o5.2; omega)) (fun n => .str ⟨#[sgn n]⟩) (fun n H2 hn2 s Z z => ?_) fun p2 H2 n2 s2 e2 => ?_
  · walk_at "rd"
    refine ⟨rfl, ?_⟩
    walk_at "rd"
    refine ⟨n, rfl, ?_, z H2 (Same.refl H2)⟩
    obtain ⟨c, hc, rfl⟩ := List.mem_map.mp hn2
    exact ⟨num_lo c, num_hi (sml_sg (small_in o2 hc))⟩
  · walk_at "rd"
    refine r_join (ys := ((x.nm.cps.toList.map num).map sgn).map fun c => (⟨#[c]⟩ : Str)) (by rw [e2]; simp [List.map_map, Function.comp_def]) ?_ ?_
    · rw [sum_ones _ ("" : Str) rfl]
      simp
      have : x.nm.cps.size ≤ 8 := o5.2
      omega
    rw [join_signs ("" : Str) rfl, name_back x.nm fun c hc => sml_sg (small_in o2 hc)]
    walk_at "rd"
    have hn2 := s2 _ _ (s1 _ _ hn)
    refine r_ixL (ints_sq hn2) (atI_nat (ints_at g0)) ?_
    walk_at "rd"
    refine ⟨_, rfl, ⟨num_lo _, num_hi (sml_sg o1)⟩, ?_⟩
    rw [sgn_num (sml_sg o1)]
    walk_at "rd"
    refine r_slL (ints_sq hn2) fun p3 H3 n3 s3 e3 => ?_
    have em : (x.ns.length : Int) / 64 * 64 + (x.ns.length : Int) % 64 = x.ns.length := by omega
    rw [em, show (p : Int) + 2 + x.nm.length + 2 + x.ns.length = ((p + (2 + x.nm.length + 2) + x.ns.length : Nat) : Int) by omega, show (p : Int) + 2 + x.nm.length + 2 = ((p + (2 + x.nm.length + 2) : Nat) : Int) by omega, cutI_ij] at e3
    have hns : (ns.drop (p + (2 + x.nm.length + 2))).take (p + (2 + x.nm.length + 2) + x.ns.length - (p + (2 + x.nm.length + 2))) = x.ns := by
      rw [← List.drop_drop, hd, show 2 + x.nm.length + 2 = (x.nm.length + 2) + 2 by omega]
      show List.take _ (List.drop (x.nm.length + 2) (x.nm.cps.toList.map num ++ _)) = _
      rw [← List.drop_drop, show x.nm.length = (x.nm.cps.toList.map num).length by simp [Str.length], List.drop_left]
      show List.take _ (x.ns ++ post) = _
      rw [show p + ((x.nm.cps.toList.map num).length + 2 + 2) + x.ns.length - (p + ((x.nm.cps.toList.map num).length + 2 + 2)) = x.ns.length by omega, List.take_left]
    rw [hns] at e3
    walk_at "rd"
    refine r_ktup (len_le rfl) fun p4 H4 n4 s4 e4 => ?_
    walk_at "rd"
    have pv4 : PartV H4 (.ref p4) x := ⟨p4, p3, rfl, e4, s4 _ _ e3⟩
    refine ⟨_, x, rfl, pv4, ok, fun H5 s5 => ?_⟩
    walk_at "rd"
    refine r_ktup (len_le rfl) fun p6 H6 n6 s6 e6 => ?_
    refine q p6 (.ref p4) H6 ((((s1.trans s2).trans s3).trans s4).trans (s5.trans s6)) ?_ (pv4.same (s5.trans s6))
    rw [e6, em, show (p : Int) + 2 + x.nm.length + 2 + x.ns.length = ((p + x.nums.length : Nat) : Int) by rw [Prt.nums_len]; omega]
end
end K44
set_option Elab.async false
set_option linter.all false
set_option maxRecDepth 100000
set_option maxHeartbeats 4000000
namespace K44
open PySem PySem.Spec PyProof.Rows L2
local macro_rules | `(tactic| walk_at "rd1") => `(tactic| first
  | ((with_reducible apply r_var); rfl)
  | ((with_reducible apply r_aug); rfl)
  | with_reducible apply r_isiI
  | with_reducible apply r_tslS
  | with_reducible apply r_try
  | with_reducible apply r_gsub
  | with_reducible apply r_irev
  | with_reducible apply r_trg1
  | with_reducible apply r_sfld
  | with_reducible apply r_afld
  | with_reducible apply r_rAdd
  | with_reducible apply r_dget
  | with_reducible apply r_din
  | with_reducible apply r_dnot
  | with_reducible apply r_dput
  | with_reducible apply r_ikeys
  | with_reducible apply r_m1
  | with_reducible apply r_km1
  | with_reducible apply r_inS
  | with_reducible apply r_notInS
  | with_reducible apply r_isN
  | with_reducible apply r_ip
  | with_reducible apply r_kbmS
  | with_reducible apply r_min2
  | with_reducible apply r_isiB
  | with_reducible apply r_isiS
  | with_reducible apply r_tyes
  | with_reducible apply iteT
  | with_reducible apply iteF
  | with_reducible apply r_nT
  | with_reducible apply r_nF
  | with_reducible apply r_callS
  | with_reducible apply r_meth
  | with_reducible apply r_methS
  | with_reducible apply r_methD
  | with_reducible apply r_make
  | with_reducible apply r_lc
  | with_reducible apply r_for
  | with_reducible apply r_ilist
  | with_reducible apply r_itup
  | with_reducible apply r_irng1
  | with_reducible apply r_irng2
  | with_reducible apply r_istr
  | with_reducible apply r_ienum
  | with_reducible apply r_izip
  | with_reducible apply r_izip3
  | with_reducible apply r_izip4
  | with_reducible apply r_kis
  | with_reducible apply r_c
  | with_reducible apply r_op
  | with_reducible apply r_un
  | with_reducible apply r_i0
  | with_reducible apply r_u
  | with_reducible apply r_eqI
  | with_reducible apply r_neI
  | with_reducible apply r_eqS
  | with_reducible apply r_neS
  | with_reducible apply r_test
  | with_reducible apply r_B
  | with_reducible apply r_bl
  | with_reducible apply r_int
  | with_reducible apply r_and
  | with_reducible apply r_or
  | with_reducible apply r_not
  | with_reducible apply r_andV
  | with_reducible apply r_orV
  | with_reducible apply r_notV
  | with_reducible apply r_chain
  | with_reducible apply r_tif
  | with_reducible apply r_nil
  | with_reducible apply r_cons
  | with_reducible apply r_cb
  | with_reducible apply r_call
  | with_reducible apply r_seq
  | with_reducible apply r_asg
  | with_reducible apply r_name
  | with_reducible apply r_drop
  | with_reducible apply r_ret
  | with_reducible apply r_retN
  | with_reducible apply r_next
  | with_reducible apply r_ifS
  | with_reducible apply r_tup
  | with_reducible apply r_lst
  | with_reducible apply r_sl
  | with_reducible apply r_nopart
  | with_reducible apply r_part
  | with_reducible apply r_fld
  | with_reducible apply r_bm
  | with_reducible apply r_bm0)
local macro_rules | `(tactic| walk_at "rd") => `(tactic| repeat (walk_at "rd1"))

/-! The folio as an object. -/
def fo (d : Addr) (n : Int) : List (Str × V) := putF "size" (.int n) (putF "kept" (.ref d) [])
theorem fo_ne : ¬ ("kept" : Str) = "size" := by decide +kernel
theorem fo_kept (d : Addr) (n : Int) : (fo d n).lookup ("kept" : Str) = some (.ref d) := by
  unfold fo
  rw [lookup_putF, if_neg fo_ne, lookup_putF, if_pos rfl]
theorem fo_size (d : Addr) (n : Int) : (fo d n).lookup ("size" : Str) = some (.int n) := by
  unfold fo
  rw [lookup_putF, if_pos rfl]
theorem fo_eq (d : Addr) (n : Int) : fo d n = ([("kept", V.ref d), ("size", V.int n)] : List (Str × V)) := by
  show (if ("kept" : Str) = "size" then [(("kept" : Str), V.int n)] else (("kept" : Str), V.ref d) :: putF "size" (V.int n) []) = _
  rw [if_neg fo_ne]
  rfl
theorem fo_put (d : Addr) (n m : Int) : putF "size" (.int m) (fo d n) = fo d m := by
  rw [fo_eq, fo_eq]
  show (if ("kept" : Str) = "size" then _ else (("kept" : Str), V.ref d) :: (if ("size" : Str) = "size" then [(("size" : Str), V.int m)] else _)) = _
  rw [if_neg fo_ne, if_pos rfl]
theorem fo_no (d : Addr) (n : Int) {m : Str} (h1 : ¬ m = "size") (h2 : ¬ m = "kept") : (fo d n).lookup m = none := by
  unfold fo
  rw [lookup_putF, if_neg h1, lookup_putF, if_neg h2]
  rfl
theorem fo_len (d : Addr) (n : Int) : (fo d n).length < 1000 := by rw [fo_eq]; exact Nat.lt_of_lt_of_le (show 2 < 3 by decide) (by decide)
def fkey (x : Prt) : List Key := [.inr ⟨#[x.c]⟩, .inr x.nm]
def fkvs (PS : List (Prt × Addr)) : List (List Key × V) := PS.map fun q => (fkey q.1, V.ref q.2)
def fsize (PS : List (Prt × Addr)) : Int := 7 + (PS.map fun q => (q.1.nums.length : Int)).sum
theorem fsize_snoc (PS : List (Prt × Addr)) (q : Prt × Addr) : fsize (PS ++ [q]) = fsize PS + q.1.nums.length := by
  unfold fsize
  rw [List.map_append, List.sum_append]
  simp
  omega
structure FolAt (C : Addr) (H : Hp) (p d : Addr) (PS : List (Prt × Addr)) : Prop where
  ob : ∃ dx, H p = some (.ins C dx (fo d (fsize PS)))
  di : H d = some (.dT (fkvs PS))
  ps : ∀ q ∈ PS, Ints H q.2 q.1.ns ∧ q.1.Ok
  nd : (PS.map fun q => fkey q.1).Nodup
  len : PS.length ≤ 1000
theorem FolAt.same {C : Addr} {H H' : Hp} {p d : Addr} {PS : List (Prt × Addr)} (s : Same H H') (h : FolAt C H p d PS) : FolAt C H' p d PS :=
  ⟨h.ob.imp fun dx e => s _ _ e, s _ _ h.di, fun q hq => ⟨s _ _ (h.ps q hq).1, (h.ps q hq).2⟩, h.nd, h.len⟩
theorem val_none {x : Prt} : ∀ {PS : List (Prt × Addr)}, fkey x ∉ PS.map (fun q => fkey q.1) → valV (fkvs PS) (fkey x) = none
  | [], _ => rfl
  | q :: PS, h => by
    rw [List.map_cons, List.mem_cons, not_or] at h
    exact (valV_neg (p := (fkey q.1, V.ref q.2)) (fun e => h.1 e.symm)).trans (val_none h.2)
theorem val_mem {x : Prt} {l : Addr} : ∀ {PS : List (Prt × Addr)}, (PS.map fun q => fkey q.1).Nodup → (x, l) ∈ PS → valV (fkvs PS) (fkey x) = some (.ref l)
  | [], _, h => by cases h
  | q :: PS, hn, h => by
    rw [List.map_cons, List.nodup_cons] at hn
    rcases List.mem_cons.mp h with h | h
    · subst h
      exact valV_pos (p := (fkey x, V.ref l)) rfl
    · refine (valV_neg (p := (fkey q.1, V.ref q.2)) fun e => hn.1 ?_).trans (val_mem hn.2 h)
      rw [show fkey q.1 = fkey x from e]
      exact List.mem_map.mpr ⟨(x, l), h, rfl⟩
def sp_Folio_init (K : PySem.W.Frag) : Sp := fun vs H Q _ => ∃ (p dx : Addr), vs = [.ref p] ∧ H p = some (.ins (He.ga K "Folio") dx []) ∧ ∀ d H', H d = none → FolAt (He.ga K "Folio") H' p d [] → Fr [p] H H' → Q .non H'
theorem sc_Folio_init : FnScope ["self"] ["self"] (defScope s_Folio_init) := ⟨rfl, rfl, rfl, by decide +kernel, rfl, by decide +kernel, by decide +kernel⟩
section
theorem len_Folio_init {K : PySem.W.Frag} {vs : List V} {H : Hp} {Q : VK} {E : XK} (h : (sp_Folio_init K) vs H Q E) : vs.length = 1 := by
  repeat (obtain ⟨_, h⟩ := h)
  subst_vars; rfl
variable {P : Program} {w : World} {K : PySem.W.Frag} {mg : Str → Option Value} {base : Heap}
theorem ok_Folio_init (T : Tx K mg) : Cal P w K mg base CX0 1 (He.ma K (He.ga K "Folio") "__init__") ["self"] (sp_Folio_init K) := by
  obtain ⟨fd, F⟩ := T.F_Folio_init
  refine ⟨⟨fd, F.ok sc_Folio_init (fun vs H Q E h => len_Folio_init h) (fun cdv A outer s H vs Q E hr h => ⟨_, PSs.nox (
      (pss_cons (ps_fld (pv 0) pe_dnewT rfl)
      (pss_one (ps_fld (pv 0) (C8.pe_gc (by rfl) T.k_LEAST_SIGNS) rfl)))), ?_⟩), F.bindsN fun _ _ _ _ _ _ us hl => match us, hl with | [_], _ => rfl⟩, F.kp⟩
  obtain ⟨p, dx, rfl, hp, q⟩ := h
  walk_at "rd"
  refine r_dnewT fun d H1 n1 s1 e1 => ?_
  walk_at "rd"
  refine r_ksetf (s1 _ _ hp) T.c_Folio T.n_Folio_kept (by decide) ?_
  walk_at "rd"
  refine r_ksetf upd_same T.c_Folio T.n_Folio_size (by show 1 < 1000; decide) ?_
  have npd : d ≠ p := (ne_of_none hp n1).symm
  refine q d _ n1 ⟨⟨dx, upd_same⟩, ?_, ?_, by simp, by decide⟩ ?_
  · rw [upd_ne npd, upd_ne npd]
    exact e1
  · intro z hz
    cases hz
  · exact fr_upd (fr_upd (sfr s1) (List.mem_singleton.mpr rfl)) (List.mem_singleton.mpr rfl)
end
def sp_Folio_put_part (K : PySem.W.Frag) : Sp := fun vs H Q _ => ∃ (p d : Addr) (PS : List (Prt × Addr)) (v : V) (x : Prt), vs = [.ref p, v] ∧ FolAt (He.ga K "Folio") H p d PS ∧ PartV H v x ∧ x.Ok ∧ fkey x ∉ PS.map (fun q => fkey q.1) ∧
  fsize PS + x.nums.length ≤ 3900 ∧ PS.length < 1000 ∧ ∀ l H', H l = none → FolAt (He.ga K "Folio") H' p d (PS ++ [(x, l)]) → Fr [p, d] H H' → Q .non H'
theorem sc_Folio_put_part : FnScope ["self", "part", "kind", "name", "numbers", "more"] ["self", "part"] (defScope s_Folio_put_part) := ⟨rfl, rfl, rfl, by decide +kernel, rfl, by decide +kernel, by decide +kernel⟩
section
theorem len_Folio_put_part {K : PySem.W.Frag} {vs : List V} {H : Hp} {Q : VK} {E : XK} (h : (sp_Folio_put_part K) vs H Q E) : vs.length = 2 := by
  repeat (obtain ⟨_, h⟩ := h)
  subst_vars; rfl
variable {P : Program} {w : World} {K : PySem.W.Frag} {mg : Str → Option Value} {base : Heap}
theorem ok_Folio_put_part (T : Tx K mg) : Cal P w K mg base CX0 5 (He.ma K (He.ga K "Folio") "put_part") ["self", "part"] (sp_Folio_put_part K) := by
  obtain ⟨fd, F⟩ := T.F_Folio_put_part
  refine ⟨⟨fd, F.ok sc_Folio_put_part (fun vs H Q E h => len_Folio_put_part h) (fun cdv A outer s H vs Q E hr h => ⟨_, PSs.nox (
      (pss_cons (ps_expr (pe_cal (ok_need_part T) hr (by decide) (by rfl) T.g_need_part pass0 (pa_cons (pv 1) pa_nil)))
      (pss_cons (ps_asg (pv 1) (pg_tupK (n := 3) K rfl (pgs_cons (pg_name (i := 2) sc_Folio_put_part.nd rfl (Or.inl rfl)) (pgs_cons (pg_name (i := 3) sc_Folio_put_part.nd rfl (Or.inl rfl)) (pgs_cons (pg_name (i := 4) sc_Folio_put_part.nd rfl (Or.inl rfl)) pgs_nil)))))
      (pss_cons (ps_if (pt_cmp (pc_din (hu_of hr) (pe_tup (pa_cons (pv 2) (pa_cons (pv 3) pa_nil))) (pe_fldK K (pv 0) rfl)))
      (pss_one ps_never) pss_nil)
      (pss_cons (ps_set (i := 5) sc_Folio_put_part.nd rfl (Or.inl rfl) (pe_callB (cal_lenK K) (by rfl) T.b_len PySem.boot_len (pa_cons (pe_cal (ok_part_numbers T) hr (by decide) (by rfl) T.g_part_numbers pass0 (pa_cons (pv 1) pa_nil)) pa_nil)))
      (pss_cons (ps_if (pt_cmpR op_gt (pe_op op_add (pe_fldK K (pv 0) rfl) (pv 5)) (C8.pe_gc (by rfl) T.k_MOST_SIGNS) (nomark _))
      (pss_one ps_never) pss_nil)
      (pss_cons (ps_dput (hu_of hr) (pe_fldK K (pv 0) rfl) (pe_tup (pa_cons (pv 2) (pa_cons (pv 3) pa_nil))) (pe_callTy (cal_listK K) (by rfl) T.b_list (by decide +kernel) (pa_cons (pv 4) pa_nil)) rfl)
      (pss_one (ps_fldaug (pv 0) (pv 5) in_add))))))))), ?_⟩), F.bindsN fun _ _ _ _ _ _ us hl => match us, hl with | [_, _], _ => rfl⟩, F.kp⟩
  obtain ⟨p, d, PS, v, x, rfl, F, hv, ok, hk, hz, hl, q⟩ := h
  walk_at "rd"
  refine ⟨v, x, rfl, hv, ok, fun H1 s1 => ?_⟩
  walk_at "rd"
  obtain ⟨t, l, rfl, ht, hns⟩ := hv.same s1
  have F1 := F.same s1
  refine r_gt3 (SqT.of ht) ?_
  walk_at "rd"
  refine r_ktup (len_le rfl) fun b H2 n2 s2 e2 => ?_
  walk_at "rd"
  have F2 := F1.same s2
  obtain ⟨dx, hp⟩ := F2.ob
  refine r_kfld hp T.c_Folio T.n_Folio_kept (fo_kept _ _) ?_
  refine r_kdin (DGet.t (k := fkey x) F2.di e2) ?_
  rw [val_none hk]
  walk_at "rd"
  refine iteF ?_
  walk_at "rd"
  have hv2 : PartV H2 (.ref t) x := (hv.same s1).same s2
  refine ⟨_, x, rfl, hv2, ok, fun p3 H3 n3 s3 e3 => ?_⟩
  walk_at "rd"
  refine r_lenI e3 ?_
  walk_at "rd"
  have F3 := F2.same s3
  refine r_kfld (s3 _ _ hp) T.c_Folio T.n_Folio_size (fo_size _ _) ?_
  walk_at "rd"
  refine r_no (by omega) ?_
  walk_at "rd"
  refine r_list (ints_sq (s3 _ _ (s2 _ _ hns))) fun p4 H4 n4 s4 e4 => ?_
  have F4 := F3.same s4
  have hp4 := s4 _ _ (s3 _ _ hp)
  walk_at "rd"
  refine r_kfld hp4 T.c_Folio T.n_Folio_kept (fo_kept _ _) ?_
  walk_at "rd"
  refine r_ktup (len_le rfl) fun b5 H5 n5 s5 e5 => ?_
  have F5 := F4.same s5
  refine r_kdput (DPut.t (k := fkey x) F5.di e5 (by unfold fkvs; rw [List.length_map]; exact szt (by omega))) ?_
  walk_at "rd"
  have npd : p ≠ d := ne_of (s5 _ _ hp4) F5.di (fun z => by cases z)
  refine r_kaugf (by rw [upd_ne npd]; exact s5 _ _ hp4) T.c_Folio T.n_Folio_size (fo_size _ _) ?_
  walk_at "rd"
  refine ⟨dx, _, by rw [upd_ne npd]; exact s5 _ _ hp4, fo_len _ _, ?_⟩
  rw [fo_put]
  have n4' : H p4 = none := (((s1.trans s2).trans s3)).free n4
  refine q p4 _ n4' ⟨⟨dx, ?_⟩, ?_, ?_, ?_, by simp; omega⟩ ?_
  · rw [upd_same, fsize_snoc]
  · rw [upd_ne npd.symm, upd_same]
    unfold putK
    rw [valV_any, val_none hk]
    unfold fkvs
    simp
  · intro z hz
    rcases List.mem_append.mp hz with hz | hz
    · have := (F5.ps z hz).1
      exact ⟨by show (upd _ _ _) _ = _; rw [upd_ne (ne_of this (s5 _ _ hp4) (fun z => by cases z)), upd_ne (ne_of this F5.di (fun z => by cases z))]; exact this, (F5.ps z hz).2⟩
    · simp at hz
      subst hz
      have := s5 _ _ e4
      exact ⟨by show (upd _ _ _) _ = _; rw [upd_ne (ne_of this (s5 _ _ hp4) (fun z => by cases z)), upd_ne (ne_of this F5.di (fun z => by cases z))]; exact this, ok⟩
  · rw [List.map_append]
    refine List.nodup_append.mpr ⟨F.nd, by simp, ?_⟩
    intro a ha b hb e
    simp at hb
    subst hb
    exact hk (e ▸ ha)
  · exact fr_upd (fr_upd (sfr ((((s1.trans s2).trans s3).trans s4).trans s5)) (by simp)) (by simp)
end
def sp_Folio_need_there (K : PySem.W.Frag) : Sp := fun vs H Q _ => ∃ (p d : Addr) (PS : List (Prt × Addr)) (x : Prt) (l : Addr), vs = [.ref p, .str ⟨#[x.c]⟩, .str x.nm] ∧ FolAt (He.ga K "Folio") H p d PS ∧ (x, l) ∈ PS ∧ ∀ H', Same H H' → Q .non H'
theorem sc_Folio_need_there : FnScope ["self", "kind", "name"] ["self", "kind", "name"] (defScope s_Folio_need_there) := ⟨rfl, rfl, rfl, by decide +kernel, rfl, by decide +kernel, by decide +kernel⟩
section
theorem len_Folio_need_there {K : PySem.W.Frag} {vs : List V} {H : Hp} {Q : VK} {E : XK} (h : (sp_Folio_need_there K) vs H Q E) : vs.length = 3 := by
  repeat (obtain ⟨_, h⟩ := h)
  subst_vars; rfl
variable {P : Program} {w : World} {K : PySem.W.Frag} {mg : Str → Option Value} {base : Heap}
theorem ok_Folio_need_there (T : Tx K mg) : Cal P w K mg base CX0 1 (He.ma K (He.ga K "Folio") "need_there") ["self", "kind", "name"] (sp_Folio_need_there K) := by
  obtain ⟨fd, F⟩ := T.F_Folio_need_there
  refine ⟨⟨fd, F.ok sc_Folio_need_there (fun vs H Q E h => len_Folio_need_there h) (fun cdv A outer s H vs Q E hr h => ⟨_, PSs.nox (
      (pss_one (ps_if (PW.pt (pw_or (pt_not (pt_val (pe_callB (isiK K) (by rfl) T.b_isinstance boot_isinstance (pa_cons (pv 1) (pa_cons (pe_bltn (v := .ty "str") (by rfl) T.b_str (by decide +kernel) rfl) pa_nil))))) (pw_or (pt_not (pt_val (pe_callB (isiK K) (by rfl) T.b_isinstance boot_isinstance (pa_cons (pv 2) (pa_cons (pe_bltn (v := .ty "str") (by rfl) T.b_str (by decide +kernel) rfl) pa_nil))))) (pw_or1 (pt_cmp (pc_dnotin (hu_of hr) (pe_tup (pa_cons (pv 1) (pa_cons (pv 2) pa_nil))) (pe_fldK K (pv 0) rfl)))))))
      (pss_one ps_never) pss_nil))), ?_⟩), F.bindsN fun _ _ _ _ _ _ us hl => match us, hl with | [_, _, _], _ => rfl⟩, F.kp⟩
  obtain ⟨p, d, PS, x, l, rfl, F, hm, q⟩ := h
  walk_at "rd"
  refine r_ktup (len_le rfl) fun b H1 n1 s1 e1 => ?_
  walk_at "rd"
  have F1 := F.same s1
  obtain ⟨dx, hp⟩ := F1.ob
  refine r_kfld hp T.c_Folio T.n_Folio_kept (fo_kept _ _) ?_
  refine r_kdnot (DGet.t (k := fkey x) F1.di e1) ?_
  rw [val_mem F1.nd hm]
  walk_at "rd"
  refine iteF ?_
  walk_at "rd"
  exact q H1 s1
end
def sp_Folio_numbers_of (K : PySem.W.Frag) : Sp := fun vs H Q _ => ∃ (p d : Addr) (PS : List (Prt × Addr)) (x : Prt) (l : Addr), vs = [.ref p, .str ⟨#[x.c]⟩, .str x.nm] ∧ FolAt (He.ga K "Folio") H p d PS ∧ (x, l) ∈ PS ∧ ∀ r H', H r = none → Same H H' → Ints H' r x.ns → Q (.ref r) H'
theorem sc_Folio_numbers_of : FnScope ["self", "kind", "name"] ["self", "kind", "name"] (defScope s_Folio_numbers_of) := ⟨rfl, rfl, rfl, by decide +kernel, rfl, by decide +kernel, by decide +kernel⟩
section
theorem len_Folio_numbers_of {K : PySem.W.Frag} {vs : List V} {H : Hp} {Q : VK} {E : XK} (h : (sp_Folio_numbers_of K) vs H Q E) : vs.length = 3 := by
  repeat (obtain ⟨_, h⟩ := h)
  subst_vars; rfl
variable {P : Program} {w : World} {K : PySem.W.Frag} {mg : Str → Option Value} {base : Heap}
theorem ok_Folio_numbers_of (T : Tx K mg) : Cal P w K mg base CX0 2 (He.ma K (He.ga K "Folio") "numbers_of") ["self", "kind", "name"] (sp_Folio_numbers_of K) := by
  obtain ⟨fd, F⟩ := T.F_Folio_numbers_of
  refine ⟨⟨fd, F.ok sc_Folio_numbers_of (fun vs H Q E h => len_Folio_numbers_of h) (fun cdv A outer s H vs Q E hr h => ⟨_, PSs.nox (
      (pss_cons (ps_expr (pe_calM (pv 0) T.c_Folio T.m_Folio_need_there (ok_Folio_need_there T) hr (by decide) pass0 (pa_cons (pv 1) (pa_cons (pv 2) pa_nil))))
      (pss_one (ps_ret (pe_callTy (cal_listK K) (by rfl) T.b_list (by decide +kernel) (pa_cons (pe_dget (hu_of hr) (pe_fldK K (pv 0) rfl) (pe_tup (pa_cons (pv 1) (pa_cons (pv 2) pa_nil))) (fun _ _ => rfl)) pa_nil)))))), ?_⟩), F.bindsN fun _ _ _ _ _ _ us hl => match us, hl with | [_, _, _], _ => rfl⟩, F.kp⟩
  obtain ⟨p, d, PS, x, l, rfl, F, hm, q⟩ := h
  obtain ⟨dx, hp⟩ := F.ob
  walk_at "rd"
  refine r_kmeth hp (fo_no _ _ (by decide +kernel) (by decide +kernel)) ?_
  walk_at "rd"
  refine ⟨p, d, PS, x, l, rfl, F, hm, fun H1 s1 => ?_⟩
  walk_at "rd"
  refine r_kfld (s1 _ _ hp) T.c_Folio T.n_Folio_kept (fo_kept _ _) ?_
  walk_at "rd"
  refine r_ktup (len_le rfl) fun b H2 n2 s2 e2 => ?_
  have F2 := (F.same s1).same s2
  have g := DGet.t (k := fkey x) F2.di e2
  rw [val_mem F2.nd hm] at g
  refine r_kdget g ?_
  walk_at "rd"
  refine r_list (ints_sq (F2.ps _ hm).1) fun r H3 n3 s3 e3 => ?_
  exact q r H3 ((s1.trans s2).free n3) ((s1.trans s2).trans s3) e3
end
def fnames (PS : List (Prt × Addr)) (c : Nat) : List Str := (PS.filter fun q => decide (q.1.c = c)).map fun q => q.1.nm
theorem fkvs_at {PS : List (Prt × Addr)} {i : Nat} {k : List Key} {v : V} (h : (fkvs PS)[i]? = some (k, v)) : ∃ q, PS[i]? = some q ∧ k = fkey q.1 ∧ v = .ref q.2 := by
  obtain ⟨q, e1, e2⟩ := map_atc h
  cases e2
  exact ⟨q, e1, rfl, rfl⟩
def sp_Folio_names_of (K : PySem.W.Frag) : Sp := fun vs H Q _ => ∃ (p d : Addr) (PS : List (Prt × Addr)) (c : Nat), vs = [.ref p, .str ⟨#[c]⟩] ∧ FolAt (He.ga K "Folio") H p d PS ∧ ∀ r H', H r = none → Same H H' → H' r = some (.lst ((fnames PS c).map V.str)) → Q (.ref r) H'
theorem sc_Folio_names_of : FnScope ["self", "kind", "other", "name"] ["self", "kind"] (defScope s_Folio_names_of) := ⟨rfl, rfl, rfl, by decide +kernel, rfl, by decide +kernel, by decide +kernel⟩
section
theorem len_Folio_names_of {K : PySem.W.Frag} {vs : List V} {H : Hp} {Q : VK} {E : XK} (h : (sp_Folio_names_of K) vs H Q E) : vs.length = 2 := by
  repeat (obtain ⟨_, h⟩ := h)
  subst_vars; rfl
variable {P : Program} {w : World} {K : PySem.W.Frag} {mg : Str → Option Value} {base : Heap}
theorem ok_Folio_names_of (T : Tx K mg) : Cal P w K mg base CX0 1 (He.ma K (He.ga K "Folio") "names_of") ["self", "kind"] (sp_Folio_names_of K) := by
  obtain ⟨fd, F⟩ := T.F_Folio_names_of
  refine ⟨⟨fd, F.ok sc_Folio_names_of (fun vs H Q E h => len_Folio_names_of h) (fun cdv A outer s H vs Q E hr h => ⟨_, PSs.nox (
      (pss_one (ps_ret (pe_lock (pe_lc (own := [("other", 2), ("name", 3)]) rfl sc_Folio_names_of.nd (pi_keys (pe_fldK K (pv 0) rfl)) (blkOk_by (own := [("other", 2), ("name", 3)]) (N := ["self", "kind", "other", "name"]) (sc := defScope s_Folio_names_of) (by decide +kernel)) (fun _ _ _ _ _ => (pg_tupK (n := 2) K rfl (pgs_cons (pg_name (i := 2) sc_Folio_names_of.nd rfl (Or.inl rfl)) (pgs_cons (pg_name (i := 3) sc_Folio_names_of.nd rfl (Or.inl rfl)) pgs_nil)))) (fun _ _ _ _ _ => (pts_one (pt_cmpR op_eq (pv 2) (pv 1) (nomark _)))) (fun _ _ _ _ _ => (pv 3))))))), ?_⟩), F.bindsN fun _ _ _ _ _ _ us hl => match us, hl with | [_, _], _ => rfl⟩, F.kp⟩
  obtain ⟨p, d, PS, c, rfl, F, q⟩ := h
  obtain ⟨dx, hp⟩ := F.ob
  have npd : p ≠ d := ne_of hp F.di (fun z => by cases z)
  walk_at "rd"
  refine r_lockE F.di trivial fun od => ?_
  walk_at "rd"
  refine r_kfld (by rw [upd_ne npd]; exact hp) T.c_Folio T.n_Folio_kept (fo_kept _ _) ?_
  refine r_kkeysT upd_same ?_
  refine klc walk_keysT (fun H' s => s _ _ upd_same) (fun i acc _ => acc = (fnames (PS.take i) c).map V.str) rfl (fun D i x H1 H2 acc hi hD s e l r y => ?_) fun b H' ys hb s e l r => ?_
  · obtain ⟨rfl, k, v, t, hkv, rfl, ht⟩ := y
    obtain ⟨q1, hq, rfl, rfl⟩ := fkvs_at hkv
    refine r_gt2 (SqT.of ht) ?_
    refine ⟨rfl, ?_⟩
    walk_at "rd"
    have et : PS.take (i + 1) = PS.take i ++ [q1] := by rw [List.take_add_one, hq]; rfl
    have hl : i < PS.length := (List.getElem?_eq_some_iff.mp hq).1
    refine r_eqS (i := ⟨#[q1.1.c]⟩) ?_
    walk_at "rd"
    refine r_if (fun hc => ?_) fun hc => ?_
    · walk_at "rd"
      have hc' : q1.1.c = c := by simpa using hc
      refine r_kyes e l (szt (by have := F.len; omega)) s ?_
      rw [et, r]
      unfold fnames
      simp [hc']
      rfl
    · have hc' : ¬ q1.1.c = c := by simpa using hc
      refine r_kno e l s ?_
      rw [et, r]
      unfold fnames
      simp [hc']
  · have hbd : b ≠ d := fun z => by subst z; rw [upd_same] at hb; cases hb
    have hb' : H b = none := by rw [upd_ne hbd] at hb; exact hb
    refine ⟨lock_frz s, q b _ hb' (lock_same F.di s) ?_⟩
    rw [upd_ne hbd, e, r, List.take_of_length_le (by unfold fkvs; simp)]
end
/-- a part whose tuple and list were not there in H0 -/
def PartN (H0 H : Hp) (v : V) (x : Prt) : Prop := ∃ t l, v = .ref t ∧ H0 t = none ∧ H0 l = none ∧ H t = some (.tup [.str ⟨#[x.c]⟩, .str x.nm, .ref l]) ∧ Ints H l x.ns
theorem PartN.same {H0 H H' : Hp} {v : V} {x : Prt} (s : Same H H') (h : PartN H0 H v x) : PartN H0 H' v x := by
  obtain ⟨t, l, e, n1, n2, h1, h2⟩ := h
  exact ⟨t, l, e, n1, n2, s _ _ h1, s _ _ h2⟩
theorem PartN.v {H0 H : Hp} {v : V} {x : Prt} (h : PartN H0 H v x) : PartV H v x := by
  obtain ⟨t, l, e, _, _, h1, h2⟩ := h
  exact ⟨t, l, e, h1, h2⟩
theorem PartN.hid {H0 H : Hp} {v : V} {x : Prt} {D : Addr} {o : HO} (hD : H0 D = some o) (h : PartN H0 H v x) : PartN H0 (hid D H) v x := by
  obtain ⟨t, l, e, n1, n2, h1, h2⟩ := h
  exact ⟨t, l, e, n1, n2, by rw [hid_ne (ne_of_none hD n1).symm]; exact h1, by show K44.hid D H l = _; rw [hid_ne (ne_of_none hD n2).symm]; exact h2⟩
def PartVs (H0 H : Hp) (vs : List V) (xs : List Prt) : Prop := vs.length = xs.length ∧ ∀ (i : Nat) (x : Prt), xs[i]? = some x → ∃ v, vs[i]? = some v ∧ PartN H0 H v x
theorem PartVs.same {H0 H H' : Hp} {vs : List V} {xs : List Prt} (s : Same H H') (h : PartVs H0 H vs xs) : PartVs H0 H' vs xs := ⟨h.1, fun i x e => (h.2 i x e).imp fun v e => ⟨e.1, e.2.same s⟩⟩
theorem PartVs.snoc {H0 H : Hp} {vs : List V} {xs : List Prt} {v : V} {x : Prt} (h : PartVs H0 H vs xs) (hv : PartN H0 H v x) : PartVs H0 H (vs ++ [v]) (xs ++ [x]) := by
  refine ⟨by simp [h.1], fun i y e => ?_⟩
  by_cases hi : i < xs.length
  · rw [List.getElem?_append_left hi] at e
    obtain ⟨u, e1, e2⟩ := h.2 i y e
    exact ⟨u, by rw [List.getElem?_append_left (by rw [h.1]; exact hi)]; exact e1, e2⟩
  · rw [List.getElem?_append_right (by omega)] at e
    have hi0 : i - xs.length = 0 := by
      have := (List.getElem?_eq_some_iff.mp e).1
      simp at this
      omega
    rw [hi0] at e
    have ey : x = y := Option.some.inj e
    subst ey
    exact ⟨v, by rw [List.getElem?_append_right (by rw [h.1]; omega), h.1, hi0]; rfl, hv⟩
def sp_Folio_all_parts (K : PySem.W.Frag) : Sp := fun vs H Q _ => ∃ (p d : Addr) (PS : List (Prt × Addr)), vs = [.ref p] ∧ FolAt (He.ga K "Folio") H p d PS ∧ ∀ r us H', H r = none → Same H H' → H' r = some (.lst us) → PartVs H H' us (PS.map (·.1)) → Q (.ref r) H'
theorem sc_Folio_all_parts : FnScope ["self", "kind", "name"] ["self"] (defScope s_Folio_all_parts) := ⟨rfl, rfl, rfl, by decide +kernel, rfl, by decide +kernel, by decide +kernel⟩
section
theorem len_Folio_all_parts {K : PySem.W.Frag} {vs : List V} {H : Hp} {Q : VK} {E : XK} (h : (sp_Folio_all_parts K) vs H Q E) : vs.length = 1 := by
  repeat (obtain ⟨_, h⟩ := h)
  subst_vars; rfl
variable {P : Program} {w : World} {K : PySem.W.Frag} {mg : Str → Option Value} {base : Heap}
theorem ok_Folio_all_parts (T : Tx K mg) : Cal P w K mg base CX0 1 (He.ma K (He.ga K "Folio") "all_parts") ["self"] (sp_Folio_all_parts K) := by
  obtain ⟨fd, F⟩ := T.F_Folio_all_parts
  refine ⟨⟨fd, F.ok sc_Folio_all_parts (fun vs H Q E h => len_Folio_all_parts h) (fun cdv A outer s H vs Q E hr h => ⟨_, PSs.nox (
      (pss_one (ps_ret (pe_lock (pe_lc (own := [("kind", 1), ("name", 2)]) rfl sc_Folio_all_parts.nd (pi_keys (pe_fldK K (pv 0) rfl)) (blkOk_by (own := [("kind", 1), ("name", 2)]) (N := ["self", "kind", "name"]) (sc := defScope s_Folio_all_parts) (by decide +kernel)) (fun _ _ _ _ _ => (pg_tupK (n := 2) K rfl (pgs_cons (pg_name (i := 1) sc_Folio_all_parts.nd rfl (Or.inl rfl)) (pgs_cons (pg_name (i := 2) sc_Folio_all_parts.nd rfl (Or.inl rfl)) pgs_nil)))) (fun _ _ _ _ _ => pts_nil) (fun _ _ _ _ _ => (pe_tup (pa_cons (pv 1) (pa_cons (pv 2) (pa_cons (pe_callTy (cal_listK K) (by rfl) T.b_list (by decide +kernel) (pa_cons (pe_dget (hu_of hr) (pe_fldK K (pv 0) rfl) (pe_tup (pa_cons (pv 1) (pa_cons (pv 2) pa_nil))) (fun _ _ => rfl)) pa_nil)) pa_nil)))))))))), ?_⟩), F.bindsN fun _ _ _ _ _ _ us hl => match us, hl with | [_], _ => rfl⟩, F.kp⟩
  obtain ⟨p, d, PS, rfl, F, q⟩ := h
  obtain ⟨dx, hp⟩ := F.ob
  have npd : p ≠ d := ne_of hp F.di (fun z => by cases z)
  walk_at "rd"
  refine r_lockE F.di trivial fun od => ?_
  have hp0 : (upd H d (.frz od (.dT (fkvs PS)))) p = some (.ins (He.ga K "Folio") dx (fo d (fsize PS))) := by rw [upd_ne npd]; exact hp
  walk_at "rd"
  refine r_kfld hp0 T.c_Folio T.n_Folio_kept (fo_kept _ _) ?_
  refine r_kkeysT upd_same ?_
  refine klc walk_keysT (fun H' s => s _ _ upd_same) (fun i acc H' => PartVs H H' acc ((PS.take i).map (·.1))) ⟨rfl, fun i x e => by simp at e⟩ (fun D i x H1 H2 acc hi hD s e l r y => ?_) fun b H' ys hb s e l r => ?_
  · obtain ⟨rfl, k, v, t, hkv, rfl, ht⟩ := y
    obtain ⟨q1, hq, rfl, rfl⟩ := fkvs_at hkv
    have hl : i < PS.length := (List.getElem?_eq_some_iff.mp hq).1
    have hm : q1 ∈ PS := List.mem_of_getElem? hq
    refine r_gt2 (SqT.of ht) ?_
    refine ⟨rfl, ?_⟩
    walk_at "rd"
    have sH2 := same_of_hid s
    have back0 : ∀ {b : Addr}, H2 b = none → H b = none := fun {b} h => by
      have h2 : (upd H d (.frz od (.dT (fkvs PS)))) b = none := sH2.free h
      rw [upd_ne (fun z => by subst z; rw [upd_same] at h2; cases h2)] at h2
      exact h2
    refine r_kfld (sH2 _ _ hp0) T.c_Folio T.n_Folio_kept (fo_kept _ _) ?_
    walk_at "rd"
    refine r_ktup (len_le rfl) fun b3 H3 n3 s3 e3 => ?_
    have g : DGet H3 d (.ref b3) (valV (fkvs PS) (fkey q1.1)) := .inr ⟨fkvs PS, fkey q1.1, b3, .inr ⟨od, s3 _ _ (sH2 _ _ upd_same)⟩, rfl, e3, rfl⟩
    rw [val_mem F.nd hm] at g
    refine r_kdget g ?_
    walk_at "rd"
    have hq1 := (F.ps q1 hm).1
    have hq2 : (upd H d (.frz od (.dT (fkvs PS)))) q1.2 = some (.lst (q1.1.ns.map V.int)) := by rw [upd_ne (ne_of hq1 F.di (fun z => by cases z))]; exact hq1
    refine r_list (SqL.of (s3 _ _ (sH2 _ _ hq2))) fun b4 H4 n4 s4 e4 => ?_
    walk_at "rd"
    refine r_ktup (len_le rfl) fun b5 H5 n5 s5 e5 => ?_
    have eD := s5 _ _ (s4 _ _ (s3 _ _ e))
    have nd4 : b4 ≠ D := fun z => by subst z; have := s3 _ _ e; rw [n4] at this; cases this
    have nd5 : b5 ≠ D := fun z => by subst z; have := s4 _ _ (s3 _ _ e); rw [n5] at this; cases this
    refine r_kyes eD l (szt (by have := F.len; omega)) (fun c o ec => ?_) ?_
    · have := s c o ec
      have nc : c ≠ D := ne_of_none ec hD
      rw [hid_ne nc] at this ⊢
      exact s5 _ _ (s4 _ _ (s3 _ _ this))
    · have et : PS.take (i + 1) = PS.take i ++ [q1] := by rw [List.take_add_one, hq]; rfl
      rw [et, List.map_append]
      refine (r.same (hid_same ((s3.trans s4).trans s5))).snoc ⟨b5, b4, rfl, back0 ((s3.trans s4).free n5), back0 (s3.free n4), ?_, ?_⟩
      · rw [hid_ne nd5]
        exact e5
      · show hid D H5 b4 = _
        rw [hid_ne nd4]
        exact s5 _ _ e4
  · have hbd : b ≠ d := fun z => by subst z; rw [upd_same] at hb; cases hb
    have hb' : H b = none := by rw [upd_ne hbd] at hb; exact hb
    refine ⟨lock_frz s, q b ys _ hb' (lock_same F.di s) (by rw [upd_ne hbd]; exact e) ?_⟩
    rw [List.take_of_length_le (by unfold fkvs; simp)] at r
    refine ⟨r.1, fun i x hx => ?_⟩
    obtain ⟨v, e1, t, l1, rfl, m1, m2, e2, e3⟩ := r.2 i x hx
    have hf := lock_frz s
    have f2 : ∀ {c o}, hid b H' c = some o → H' c = some o := fun {c o} z => by
      by_cases h : c = b
      · subst h; rw [hid, if_pos rfl] at z; cases z
      · rw [hid_ne h] at z; exact z
    have k2 := f2 e2
    have k3 := f2 e3
    exact ⟨_, e1, t, l1, rfl, m1, m2, by rw [upd_ne (ne_of k2 hf (fun z => by cases z))]; exact k2, by show (upd _ _ _) _ = _; rw [upd_ne (ne_of k3 hf (fun z => by cases z))]; exact k3⟩
end
def HDN : List Int := ("CF1" : Str).cps.toList.map num
def fbody (xs : List Prt) : List Int := HDN ++ [(xs.length : Int) / 64, (xs.length : Int) % 64] ++ (xs.map Prt.nums).flatten
def ftext (xs : List Prt) : Str := txt ((fbody xs ++ [chk (fbody xs) / 64, chk (fbody xs) % 64]).map sgn)
theorem hd_in : ∀ c ∈ ("CF1" : Str).cps.toList, c ∈ SG := by decide +kernel
theorem chk_lo (ns : List Int) : 0 ≤ chk ns ∧ chk ns < 4093 := ⟨Int.emod_nonneg _ (by decide), Int.emod_lt_of_pos _ (by decide)⟩
theorem six_of {n : Int} (h : 0 ≤ n ∧ n < 64) : six n = true := decide_eq_true (by omega)
theorem Prt.six_nums {x : Prt} (ok : x.Ok) : x.nums.all six = true := by
  obtain ⟨o1, o2, o3, o4⟩ := ok
  have o5 := small_len o2
  unfold Prt.nums
  rw [List.all_append, List.all_append, o4, Bool.and_true, Bool.and_eq_true]
  constructor
  · rw [List.all_cons, List.all_cons, six_of ⟨num_lo _, num_hi (sml_sg o1)⟩, six_of (by omega), Bool.true_and, Bool.true_and, List.all_map]
    exact List.all_eq_true.mpr fun c hc => six_of ⟨num_lo _, num_hi (sml_sg (small_in o2 hc))⟩
  · simp [six_of (show 0 ≤ (x.ns.length : Int) / 64 ∧ (x.ns.length : Int) / 64 < 64 by omega), six_of (show 0 ≤ (x.ns.length : Int) % 64 ∧ (x.ns.length : Int) % 64 < 64 by omega)]
theorem six_body {xs : List Prt} (h : ∀ x ∈ xs, x.Ok) (hl : xs.length ≤ 1000) : (fbody xs).all six = true := by
  unfold fbody
  rw [List.all_append, List.all_append, Bool.and_eq_true, Bool.and_eq_true]
  refine ⟨⟨by decide +kernel, ?_⟩, ?_⟩
  · simp [six_of (show 0 ≤ (xs.length : Int) / 64 ∧ (xs.length : Int) / 64 < 64 by omega), six_of (show 0 ≤ (xs.length : Int) % 64 ∧ (xs.length : Int) % 64 < 64 by omega)]
  · rw [List.all_flatten]
    refine List.all_eq_true.mpr fun l hl => ?_
    obtain ⟨x, hx, rfl⟩ := List.mem_map.mp hl
    exact Prt.six_nums (h x hx)
theorem sum_nums (PS : List (Prt × Addr)) : fsize PS = 7 + ((((PS.map (·.1)).map Prt.nums).flatten.length : Nat) : Int) := by
  unfold fsize
  congr 1
  induction PS with
  | nil => rfl
  | cons q r ih => 
    rw [List.map_cons, List.sum_cons, ih]
    simp
theorem body_len (xs : List Prt) : (fbody xs).length = 5 + (xs.map Prt.nums).flatten.length := by
  unfold fbody
  rw [List.length_append, List.length_append]
  have : HDN.length = 3 := by decide +kernel
  rw [this]
  rfl
def sp_Folio_written (K : PySem.W.Frag) : Sp := fun vs H Q _ => ∃ (p d : Addr) (PS : List (Prt × Addr)), vs = [.ref p] ∧ FolAt (He.ga K "Folio") H p d PS ∧ fsize PS ≤ 3900 ∧ ∀ H', Same H H' → Q (.str (ftext (PS.map (·.1)))) H'
theorem sc_Folio_written : FnScope ["self", "numbers", "part"] ["self"] (defScope s_Folio_written) := ⟨rfl, rfl, rfl, by decide +kernel, rfl, by decide +kernel, by decide +kernel⟩
section
theorem len_Folio_written {K : PySem.W.Frag} {vs : List V} {H : Hp} {Q : VK} {E : XK} (h : (sp_Folio_written K) vs H Q E) : vs.length = 1 := by
  repeat (obtain ⟨_, h⟩ := h)
  subst_vars; rfl
variable {P : Program} {w : World} {K : PySem.W.Frag} {mg : Str → Option Value} {base : Heap}
theorem ok_Folio_written (T : Tx K mg) : Cal P w K mg base CX0 5 (He.ma K (He.ga K "Folio") "written") ["self"] (sp_Folio_written K) := by
  obtain ⟨fd, F⟩ := T.F_Folio_written
  refine ⟨⟨fd, F.ok sc_Folio_written (fun vs H Q E h => len_Folio_written h) (fun cdv A outer s H vs Q E hr h => ⟨_, PSs.nox (
      (pss_cons (ps_set (i := 1) sc_Folio_written.nd rfl (Or.inl rfl) (pe_op op_cat (pe_cal (ok_numbers_of_text T) hr (by decide) (by rfl) T.g_numbers_of_text passE0 (pa_cons (C8.pe_gc (by rfl) T.k_HEAD) pa_nil)) (pe_callTy (cal_listK K) (by rfl) T.b_list (by decide +kernel) (pa_cons (pe_cal (ok_two_numbers T) hr (by decide) (by rfl) T.g_two_numbers pass0 (pa_cons (pe_callB call_len_dT (by rfl) T.b_len PySem.boot_len (pa_cons (pe_fldK K (pv 0) rfl) pa_nil)) pa_nil)) pa_nil))))
      (pss_cons (ps_for PassesOwn.never rfl (pi_listK K (pe_calM0 (pv 0) T.c_Folio T.m_Folio_all_parts (ok_Folio_all_parts T) hr (by decide) pass0)) (pg_name (i := 2) sc_Folio_written.nd rfl (Or.inl rfl))
      (pss_one (ps_aug (i := 1) sc_Folio_written.nd rfl (Or.inl rfl) (pe_cal (ok_part_numbers T) hr (by decide) (by rfl) T.g_part_numbers pass0 (pa_cons (pv 2) pa_nil)) iop_ext)))
      (pss_one (ps_ret (pe_cal (ok_signs_text T) hr (by decide) (by rfl) T.g_signs_text pass0 (pa_cons (pe_op op_cat (pv 1) (pe_callTy (cal_listK K) (by rfl) T.b_list (by decide +kernel) (pa_cons (pe_cal (ok_two_numbers T) hr (by decide) (by rfl) T.g_two_numbers pass0 (pa_cons (pe_cal (ok_check_of T) hr (by decide) (by rfl) T.g_check_of pass0 (pa_cons (pv 1) pa_nil)) pa_nil)) pa_nil))) pa_nil))))))), ?_⟩), F.bindsN fun _ _ _ _ _ _ us hl => match us, hl with | [_], _ => rfl⟩, F.kp⟩
  obtain ⟨p, d, PS, rfl, F, hz, q⟩ := h
  have hlen := F.len
  have hzl : (((PS.map (·.1)).map Prt.nums).flatten.length) ≤ 3900 := by have := sum_nums PS; omega
  walk_at "rd"
  refine ⟨_, rfl, len_le rfl, fun _ p1 H1 n1 s1 e1 => ?_, fun h => absurd h (by rintro ⟨c, hc, h⟩; exact absurd (hd_in c hc) h)⟩
  walk_at "rd"
  have F1 := F.same s1
  obtain ⟨dx, hp⟩ := F1.ob
  refine r_kfld hp T.c_Folio T.n_Folio_kept (fo_kept _ _) ?_
  walk_at "rd"
  refine r_lenD F1.di ?_
  walk_at "rd"
  refine ⟨_, rfl, fun p2 H2 n2 s2 e2 => ?_⟩
  walk_at "rd"
  refine r_listT (SqT.of e2) fun p3 H3 n3 s3 e3 => ?_
  walk_at "rd"
  refine r_cat (s3 _ _ (s2 _ _ e1)) e3 (szl (by simp; decide +kernel)) fun p4 H4 n4 s4 e4 => ?_
  walk_at "rd"
  have sA := ((s1.trans s2).trans s3).trans s4
  have nA : H p4 = none := ((s1.trans s2).trans s3).free n4
  have F4 := F.same sA
  obtain ⟨dx4, hp4⟩ := F4.ob
  refine r_kmeth hp4 (fo_no _ _ (by decide +kernel) (by decide +kernel)) ?_
  walk_at "rd"
  refine ⟨p, d, PS, rfl, F4, fun r us H5 n5 s5 e5 hpv => ?_⟩
  have hr4 : r ≠ p4 := (ne_of_none e4 n5).symm
  have hfl : (fkvs PS).length = PS.length := by unfold fkvs; simp
  have hus : us.length = PS.length := by rw [hpv.1]; simp
  refine r_kil (SqL.of e5) ?_
  refine kfor (walk_list (xs := us)) (fun i σ H6 => ∃ z, σ = [some (.ref p), some (.ref p4), z] ∧ Same H (hid p4 H6) ∧ (H6 r = some (.lst us)) ∧ PartVs H4 (hid p4 H6) us (PS.map (·.1)) ∧ H6 p4 = some (.lst ((HDN ++ [(PS.length : Int) / 64, (PS.length : Int) % 64] ++ (((PS.map (·.1)).take i).map Prt.nums).flatten).map V.int)))
    ⟨none, rfl, hid_same0 (sA.trans s5) nA, e5, ⟨hpv.1, fun i x hx => (hpv.2 i x hx).imp fun v e => ⟨e.1, e.2.hid e4⟩⟩, ?_⟩ (fun i σ H6 _ h => ?_) (fun i x σ H6 H7 hi h y => ?_) fun σ H6 h => ?_
  · rw [s5 _ _ e4]
    simp [HDN, hfl]
  · obtain ⟨z, rfl, a, b, c, d⟩ := h
    exact SqL.of b
  · obtain ⟨z, rfl, a, b, c, d⟩ := h
    obtain ⟨rfl, hx⟩ := y
    have hi' : i < (PS.map (·.1)).length := by simpa [hus] using hi
    obtain ⟨y, hxi⟩ : ∃ y, (PS.map (·.1))[i]? = some y := ⟨_, List.getElem?_eq_getElem hi'⟩
    obtain ⟨v, e1, e2⟩ := c.2 i _ hxi
    rw [hx] at e1
    have ev := Option.some.inj e1
    subst ev
    have hok : y.Ok := by
      obtain ⟨q, hq, e⟩ := List.mem_map.mp (List.mem_of_getElem? hxi)
      rw [← e]
      exact (F.ps q hq).2
    walk_at "rd"
    have ev7 : PartV H7 x y := e2.v.same (fun c o h => by
      by_cases hc : c = p4
      · subst hc; rw [hid, if_pos rfl] at h; cases h
      · rw [hid_ne hc] at h; exact h)
    refine ⟨x, y, rfl, ev7, hok, fun p8 H8 n8 s8 e8 => ?_⟩
    have hlt : (((PS.map (·.1)).take (i + 1)).map Prt.nums).flatten.length ≤ 3900 := by
      refine Nat.le_trans ?_ hzl
      conv => rhs; rw [← List.take_append_drop (i + 1) (PS.map (·.1))]
      rw [List.map_append, List.flatten_append, List.length_append]
      omega
    have et : (PS.map (·.1)).take (i + 1) = (PS.map (·.1)).take i ++ [y] := by rw [List.take_add_one, hxi]; rfl
    rw [et, List.map_append, List.flatten_append, List.length_append] at hlt
    simp only [List.map_cons, List.map_nil, List.flatten_cons, List.flatten_nil, List.append_nil] at hlt
    have h3 : HDN.length = 3 := by decide +kernel
    refine r_ext2 (s8 _ _ d) e8 (szl (by rw [List.length_map, List.length_map, List.length_append, List.length_append, h3]; simp only [List.length_cons, List.length_nil]; omega)) ?_
    walk_at "rd"
    refine ⟨some x, rfl, ?_, ?_, ?_, ?_⟩
    · rw [hid_upd]
      exact fun c o h => hid_same s8 _ _ (a c o h)
    · rw [upd_ne hr4]
      exact s8 _ _ b
    · rw [hid_upd]
      exact c.same (hid_same s8)
    · rw [upd_same, et]
      simp [List.append_assoc]
  · obtain ⟨z, rfl, a, b, c, d⟩ := h
    rw [List.take_of_length_le (by rw [hus]; simp)] at d
    have ed : (HDN ++ [(PS.length : Int) / 64, (PS.length : Int) % 64] ++ (((PS.map (·.1))).map Prt.nums).flatten) = fbody (PS.map (·.1)) := by
      unfold fbody
      rw [List.length_map]
    rw [ed] at d
    have hb := body_len (PS.map (·.1))
    have hok : ∀ x ∈ PS.map (·.1), x.Ok := fun x hx => by
      obtain ⟨q, hq, rfl⟩ := List.mem_map.mp hx
      exact (F.ps q hq).2
    walk_at "rd"
    refine ⟨p4, _, rfl, d, by omega, fun H7 s7 => ?_⟩
    walk_at "rd"
    refine ⟨_, rfl, fun p8 H8 n8 s8 e8 => ?_⟩
    walk_at "rd"
    refine r_listT (SqT.of e8) fun p9 H9 n9 s9 e9 => ?_
    refine r_cat (s9 _ _ (s8 _ _ (s7 _ _ d))) e9 (szl (by simp; omega)) fun p10 H10 n10 s10 e10 => ?_
    walk_at "rd"
    have cl := chk_lo (fbody (PS.map (·.1)))
    refine ⟨p10, fbody (PS.map (·.1)) ++ [chk (fbody (PS.map (·.1))) / 64, chk (fbody (PS.map (·.1))) % 64], rfl, ?_, by simp; omega, ?_, fun H11 s11 => ?_⟩
    · show H10 p10 = _
      rw [e10]
      simp
    · rw [List.all_append, six_body hok (by simp; omega), Bool.true_and]
      simp [six_of (show 0 ≤ chk (fbody (PS.map (·.1))) / 64 ∧ chk (fbody (PS.map (·.1))) / 64 < 64 by omega), six_of (show 0 ≤ chk (fbody (PS.map (·.1))) % 64 ∧ chk (fbody (PS.map (·.1))) % 64 < 64 by omega)]
    · refine q H11 fun c o h => ?_
      exact s11 _ _ (s10 _ _ (s9 _ _ (s8 _ _ (s7 _ _ (same_of_hid a _ _ h)))))
end
end K44
set_option Elab.async false
set_option linter.all false
set_option maxRecDepth 100000
set_option maxHeartbeats 4000000
namespace K44
open PySem PySem.Spec PyProof.Rows L2
local macro_rules | `(tactic| walk_at "rd1") => `(tactic| first
  | ((with_reducible apply r_var); rfl)
  | ((with_reducible apply r_aug); rfl)
  | with_reducible apply r_isiI
  | with_reducible apply r_tslS
  | with_reducible apply r_try
  | with_reducible apply r_gsub
  | with_reducible apply r_irev
  | with_reducible apply r_trg1
  | with_reducible apply r_sfld
  | with_reducible apply r_afld
  | with_reducible apply r_rAdd
  | with_reducible apply r_dget
  | with_reducible apply r_din
  | with_reducible apply r_dnot
  | with_reducible apply r_dput
  | with_reducible apply r_ikeys
  | with_reducible apply r_m1
  | with_reducible apply r_km1
  | with_reducible apply r_inS
  | with_reducible apply r_notInS
  | with_reducible apply r_isN
  | with_reducible apply r_ip
  | with_reducible apply r_kbmS
  | with_reducible apply r_min2
  | with_reducible apply r_isiB
  | with_reducible apply r_isiS
  | with_reducible apply r_tyes
  | with_reducible apply iteT
  | with_reducible apply iteF
  | with_reducible apply r_nT
  | with_reducible apply r_nF
  | with_reducible apply r_callS
  | with_reducible apply r_meth
  | with_reducible apply r_methS
  | with_reducible apply r_methD
  | with_reducible apply r_make
  | with_reducible apply r_lc
  | with_reducible apply r_for
  | with_reducible apply r_ilist
  | with_reducible apply r_itup
  | with_reducible apply r_irng1
  | with_reducible apply r_irng2
  | with_reducible apply r_istr
  | with_reducible apply r_ienum
  | with_reducible apply r_izip
  | with_reducible apply r_izip3
  | with_reducible apply r_izip4
  | with_reducible apply r_kis
  | with_reducible apply r_c
  | with_reducible apply r_op
  | with_reducible apply r_un
  | with_reducible apply r_i0
  | with_reducible apply r_u
  | with_reducible apply r_eqI
  | with_reducible apply r_neI
  | with_reducible apply r_eqS
  | with_reducible apply r_neS
  | with_reducible apply r_test
  | with_reducible apply r_B
  | with_reducible apply r_bl
  | with_reducible apply r_int
  | with_reducible apply r_and
  | with_reducible apply r_or
  | with_reducible apply r_not
  | with_reducible apply r_andV
  | with_reducible apply r_orV
  | with_reducible apply r_notV
  | with_reducible apply r_chain
  | with_reducible apply r_tif
  | with_reducible apply r_nil
  | with_reducible apply r_cons
  | with_reducible apply r_cb
  | with_reducible apply r_call
  | with_reducible apply r_seq
  | with_reducible apply r_asg
  | with_reducible apply r_name
  | with_reducible apply r_drop
  | with_reducible apply r_ret
  | with_reducible apply r_retN
  | with_reducible apply r_next
  | with_reducible apply r_ifS
  | with_reducible apply r_tup
  | with_reducible apply r_lst
  | with_reducible apply r_sl
  | with_reducible apply r_nopart
  | with_reducible apply r_part
  | with_reducible apply r_fld
  | with_reducible apply r_bm
  | with_reducible apply r_bm0)
local macro_rules | `(tactic| walk_at "rd") => `(tactic| repeat (walk_at "rd1"))

/-! Folds. -/
theorem gcut {te : TE} {σ : L2.St} {H : Hp} {Q : VK} (R : V → Hp → Prop) (h : ∀ Z : VK, (∀ v H', Same H H' → R v H' → Z v H') → te σ H Z) (k : ∀ v H', Same H H' → R v H' → Q v H') : te σ H Q := h Q k
theorem isCell_iff {n : Int} : isCell n = true ↔ cell n := by
  unfold isCell cell
  rw [decide_eq_true_iff]
  omega
theorem cells_all {ns : List Int} : ns.all isCell = true ↔ ∀ c ∈ ns, cell c := by
  rw [List.all_eq_true]
  exact ⟨fun h c hc => isCell_iff.mp (h c hc), fun h c hc => isCell_iff.mpr (h c hc)⟩
theorem same_hidU {D : Addr} {H H1 : Hp} {o : HO} (s : Same H (hid D H1)) : Same H (hid D (upd H1 D o)) := by rw [hid_upd]; exact s
theorem same_hidS {D : Addr} {H H1 H2 : Hp} (s : Same H (hid D H1)) (t : Same H1 H2) : Same H (hid D H2) := fun b o e => hid_same t _ _ (s b o e)
def isFold (n : Int) : Bool := decide (0 ≤ n ∧ n ≤ 4)
def sp_is_fold : Sp := fun vs H Q _ => ∃ n : Int, vs = [.int n] ∧ Q (.bl (isFold n)) H
theorem sc_is_fold : FnScope ["thing"] ["thing"] (defScope s_is_fold) := ⟨rfl, rfl, rfl, by decide +kernel, rfl, by decide +kernel, by decide +kernel⟩
section
theorem len_is_fold {vs : List V} {H : Hp} {Q : VK} {E : XK} (h : (sp_is_fold) vs H Q E) : vs.length = 1 := by
  repeat (obtain ⟨_, h⟩ := h)
  subst_vars; rfl
variable {P : Program} {w : World} {K : PySem.W.Frag} {mg : Str → Option Value} {base : Heap}
theorem ok_is_fold (T : Tx K mg) : Cal P w K mg base CX0 1 (He.ga K "is_fold") ["thing"] (sp_is_fold) := by
  obtain ⟨fd, F⟩ := T.F_is_fold
  refine ⟨⟨fd, F.ok sc_is_fold (fun vs H Q E h => len_is_fold h) (fun cdv A outer s H vs Q E hr h => ⟨_, PSs.nox (
      (pss_one (ps_ret (pe_and (pe_callB (isiK K) (by rfl) T.b_isinstance boot_isinstance (pa_cons (pv 0) (pa_cons (pe_bltn (v := .ty "int") (by rfl) T.b_int (by decide +kernel) rfl) pa_nil))) (pe_and (pe_not (pe_callB (isiK K) (by rfl) T.b_isinstance boot_isinstance (pa_cons (pv 0) (pa_cons (pe_bltn (v := .ty "bool") (by rfl) T.b_bool (by decide +kernel) rfl) pa_nil)))) (pe_one (pe_chain op_le op_le pe_int (pv 0) (C8.pe_gc (by rfl) T.k_MOST_RULE)))))))), ?_⟩), F.bindsN fun _ _ _ _ _ _ us hl => match us, hl with | [_], _ => rfl⟩, F.kp⟩
  obtain ⟨n, rfl, q⟩ := h
  walk_at "rd"
  refine r_ifD (fun h1 => ?_) fun h1 => ?_
  · walk_at "rd"
    exact q_bl q (bool_eq (by simp [h1]))
  · exact q_bl q (decide_eq_false (by simp [h1]))
end
def sp_need_fold (K : PySem.W.Frag) : Sp := fun vs H Q E => ∃ n : Int, vs = [.int n] ∧ ((isFold n = true → Q .non H) ∧ (isFold n = false → E (.ref (He.ga K "BadRule")) none H))
theorem sc_need_fold : FnScope ["rule"] ["rule"] (defScope s_need_fold) := ⟨rfl, rfl, rfl, by decide +kernel, rfl, by decide +kernel, by decide +kernel⟩
section
theorem len_need_fold {K : PySem.W.Frag} {vs : List V} {H : Hp} {Q : VK} {E : XK} (h : (sp_need_fold K) vs H Q E) : vs.length = 1 := by
  repeat (obtain ⟨_, h⟩ := h)
  subst_vars; rfl
variable {P : Program} {w : World} {K : PySem.W.Frag} {mg : Str → Option Value} {base : Heap}
theorem ok_need_fold (T : Tx K mg) : Cal P w K mg base (L2N.CX P w) 2 (He.ga K "need_fold") ["rule"] (sp_need_fold K) := by
  obtain ⟨fd, F⟩ := T.F_need_fold
  refine ⟨⟨fd, F.ok sc_need_fold (fun vs H Q E h => len_need_fold h) (fun cdv A outer s H vs Q E hr h => ⟨_, (
      (pss_one (ps_if (pt_not (pt_val (pe_cal (ok_is_fold T) hr (by decide) (by rfl) T.g_is_fold pass0 (pa_cons (pv 0) pa_nil))))
      (pss_one (L2N.ps_raise rfl (L2N.takes_of rfl rfl rfl rfl) (L2N.pmk_own PySem.F.excBase_ValueError T.x_BadRule.1 T.gx_BadRule T.x_BadRule.2.1 (raises_own T.x_BadRule.2.2.1 T.x_BadRule.2.2.2) rfl))) pss_nil))), ?_⟩), F.bindsN fun _ _ _ _ _ _ us hl => match us, hl with | [_], _ => rfl⟩, F.kp⟩
  obtain ⟨n, rfl, q1, q2⟩ := h
  walk_at "rd"
  refine ⟨n, rfl, ?_⟩
  walk_at "rd"
  cases hb : isFold n with
  | true =>
    walk_at "rd"
    exact q1 hb
  | false =>
    walk_at "rd"
    exact q2 hb
end
def sp_stand_for : Sp := fun vs H Q _ => ∃ l u c r : Int, vs = [.int l, .int u, .int c, .int r] ∧ (0 ≤ r ∧ r ≤ 3) ∧ ∀ H', Same H H' → Q (.int (stand l u c r)) H'
theorem sc_stand_for : FnScope ["left", "up", "corner", "rule"] ["left", "up", "corner", "rule"] (defScope s_stand_for) := ⟨rfl, rfl, rfl, by decide +kernel, rfl, by decide +kernel, by decide +kernel⟩
section
theorem len_stand_for {vs : List V} {H : Hp} {Q : VK} {E : XK} (h : (sp_stand_for) vs H Q E) : vs.length = 4 := by
  repeat (obtain ⟨_, h⟩ := h)
  subst_vars; rfl
variable {P : Program} {w : World} {K : PySem.W.Frag} {mg : Str → Option Value} {base : Heap}
theorem ok_stand_for (T : Tx K mg) : Cal P w K mg base CX0 1 (He.ga K "stand_for") ["left", "up", "corner", "rule"] (sp_stand_for) := by
  obtain ⟨fd, F⟩ := T.F_stand_for
  refine ⟨⟨fd, F.ok sc_stand_for (fun vs H Q E h => len_stand_for h) (fun cdv A outer s H vs Q E hr h => ⟨_, PSs.nox (
      (pss_one (ps_ret (pe_ix (ix_listK K) (pe_lst (pa_cons pe_int (pa_cons (pv 0) (pa_cons (pv 1) (pa_cons (pe_op op_sub (pe_op op_add (pv 0) (pv 1)) (pv 2)) pa_nil))))) (pv 3) (fun _ _ => rfl))))), ?_⟩), F.bindsN fun _ _ _ _ _ _ us hl => match us, hl with | [_, _, _, _], _ => rfl⟩, F.kp⟩
  obtain ⟨l, u, c, r, rfl, ⟨r0, r1⟩, q⟩ := h
  walk_at "rd"
  refine r_klst (len_le rfl) fun p H1 n1 s1 e1 => ?_
  walk_at "rd"
  refine r_ixL (SqL.of e1) (v := .int (stand l u c r)) ?_ (q H1 s1)
  have : r = 0 ∨ r = 1 ∨ r = 2 ∨ r = 3 := by omega
  rcases this with rfl | rfl | rfl | rfl <;> rfl
end
def AboveV (H : Hp) (v : V) (n : Nat) (us : List Int) : Prop := (v = .non ∧ us = List.replicate n 0) ∨ ∃ b, v = .ref b ∧ Ints H b us
theorem AboveV.same {H H' : Hp} {v : V} {n : Nat} {us : List Int} (s : Same H H') (h : AboveV H v n us) : AboveV H' v n us := by
  rcases h with h | ⟨b, e, h⟩
  · exact .inl h
  · exact .inr ⟨b, e, s _ _ h⟩
def sp_row_above : Sp := fun vs H Q _ => ∃ (a : Addr) (ns : List Int) (v : V) (us : List Int), vs = [.ref a, v] ∧ Ints H a ns ∧ ns.length ≤ 100000 ∧ AboveV H v ns.length us ∧ ∀ u H', Same H H' → Ints H' u us → Q (.ref u) H'
theorem sc_row_above : FnScope ["row", "above"] ["row", "above"] (defScope s_row_above) := ⟨rfl, rfl, rfl, by decide +kernel, rfl, by decide +kernel, by decide +kernel⟩
section
theorem len_row_above {vs : List V} {H : Hp} {Q : VK} {E : XK} (h : (sp_row_above) vs H Q E) : vs.length = 2 := by
  repeat (obtain ⟨_, h⟩ := h)
  subst_vars; rfl
variable {P : Program} {w : World} {K : PySem.W.Frag} {mg : Str → Option Value} {base : Heap}
theorem ok_row_above (T : Tx K mg) : Cal P w K mg base CX0 1 (He.ga K "row_above") ["row", "above"] (sp_row_above) := by
  obtain ⟨fd, F⟩ := T.F_row_above
  refine ⟨⟨fd, F.ok sc_row_above (fun vs H Q E h => len_row_above h) (fun cdv A outer s H vs Q E hr h => ⟨_, PSs.nox (
      (pss_cons (ps_if (pt_cmpR op_isN1 (pv 1) pe_non (nomark _))
      (pss_one (ps_ret (pe_op op_rep (pe_lst (pa_cons pe_int pa_nil)) (pe_callB (cal_lenK K) (by rfl) T.b_len PySem.boot_len (pa_cons (pv 0) pa_nil))))) pss_nil)
      (pss_one (ps_ret (pv 1))))), ?_⟩), F.bindsN fun _ _ _ _ _ _ us hl => match us, hl with | [_, _], _ => rfl⟩, F.kp⟩
  obtain ⟨a, ns, v, us, rfl, hn, hz, hv, q⟩ := h
  walk_at "rd"
  rcases hv with ⟨rfl, rfl⟩ | ⟨b, rfl, hb⟩
  · refine iteT ?_
    walk_at "rd"
    refine r_klst (len_le rfl) fun p H1 n1 s1 e1 => ?_
    walk_at "rd"
    refine r_lenI (s1 _ _ hn) ?_
    walk_at "rd"
    refine r_rep e1 (by omega) (by omega) (szl (by simp; omega)) fun p2 H2 n2 s2 e2 => ?_
    walk_at "rd"
    refine q p2 H2 (s1.trans s2) ?_
    show H2 p2 = _
    rw [e2]
    simp
  · refine iteF ?_
    walk_at "rd"
    exact q b H (Same.refl H) hb
end
theorem getD_at {xs : List Int} {i : Nat} {x : Int} (h : xs[i]? = some x) : xs.getD i 0 = x := by rw [List.getD_eq_getElem?_getD, h]; rfl
theorem ix_prev {K : PySem.W.Frag} {H : Hp} {Q : VK} {a : Addr} {ns : List Int} {i : Nat} (hn : Ints H a ns) (h0 : 0 < i) (hi : i - 1 < ns.length) (q : Q (.int (prev ns i)) H) : rIxL K (.ref a) (.int ((i : Nat) - 1 : Int)) H Q := by
  refine r_ixL (ints_sq hn) (at_of (show (i : Int) - 1 = ((i - 1 : Nat) : Int) by omega) (ints_at (List.getElem?_eq_getElem hi))) ?_
  unfold prev at q
  rw [if_neg (by omega), getD_at (List.getElem?_eq_getElem hi)] at q
  exact q
def sp_folded_row : Sp := fun vs H Q _ => ∃ (a : Addr) (ns : List Int) (v : V) (us : List Int) (r : Int), vs = [.ref a, v, .int r] ∧ Ints H a ns ∧ ns.length ≤ 1000 ∧ AboveV H v ns.length us ∧ us.length = ns.length ∧ isFold r = true ∧
  ∀ p H', H p = none → Same H H' → Ints H' p (foldRow r ns us) → Q (.ref p) H'
theorem sc_folded_row : FnScope ["row", "above", "rule", "ups", "cell", "found", "place", "left", "corner", "up"] ["row", "above", "rule"] (defScope s_folded_row) := ⟨rfl, rfl, rfl, by decide +kernel, rfl, by decide +kernel, by decide +kernel⟩
section
theorem len_folded_row {vs : List V} {H : Hp} {Q : VK} {E : XK} (h : (sp_folded_row) vs H Q E) : vs.length = 3 := by
  repeat (obtain ⟨_, h⟩ := h)
  subst_vars; rfl
variable {P : Program} {w : World} {K : PySem.W.Frag} {mg : Str → Option Value} {base : Heap}
theorem ok_folded_row (T : Tx K mg) : Cal P w K mg base CX0 3 (He.ga K "folded_row") ["row", "above", "rule"] (sp_folded_row) := by
  obtain ⟨fd, F⟩ := T.F_folded_row
  refine ⟨⟨fd, F.ok sc_folded_row (fun vs H Q E h => len_folded_row h) (fun cdv A outer s H vs Q E hr h => ⟨_, PSs.nox (
      (pss_cons (ps_expr (pe_cal (ok_need_fold T) hr (by decide) (by rfl) T.g_need_fold passE0N (pa_cons (pv 2) pa_nil)))
      (pss_cons (ps_set (i := 3) sc_folded_row.nd rfl (Or.inl rfl) (pe_cal (ok_row_above T) hr (by decide) (by rfl) T.g_row_above pass0 (pa_cons (pv 0) (pa_cons (pv 1) pa_nil))))
      (pss_cons (ps_if (pt_cmpR op_eq (pv 2) pe_int (nomark _))
      (pss_one (ps_ret (pe_lc (own := [("cell", 4), ("up", 9)]) rfl sc_folded_row.nd (pi_zipK K (by rfl) T.b_zip (pa_cons (pv 0) (pa_cons (pv 3) pa_nil))) (blkOk_by (own := [("cell", 4), ("up", 9)]) (N := ["row", "above", "rule", "ups", "cell", "found", "place", "left", "corner", "up"]) (sc := defScope s_folded_row) (by decide +kernel)) (fun _ _ _ _ _ => (pg_tupK (n := 2) K rfl (pgs_cons (pg_name (i := 4) sc_folded_row.nd rfl (Or.inl rfl)) (pgs_cons (pg_name (i := 9) sc_folded_row.nd rfl (Or.inl rfl)) pgs_nil)))) (fun _ _ _ _ _ => pts_nil) (fun _ _ _ _ _ => (pe_op op_xor (pv 4) (pv 9)))))) pss_nil)
      (pss_cons (ps_set (i := 5) sc_folded_row.nd rfl (Or.inl rfl) (pe_lst pa_nil))
      (pss_cons (ps_for PassesOwn.never rfl (pi_enumK K (by rfl) T.b_enumerate (pa_cons (pv 0) pa_nil)) (pg_tupK (n := 2) K rfl (pgs_cons (pg_name (i := 6) sc_folded_row.nd rfl (Or.inl rfl)) (pgs_cons (pg_name (i := 4) sc_folded_row.nd rfl (Or.inl rfl)) pgs_nil)))
      (pss_cons (ps_asg (pe_ifExp (pt_cmpR op_gt (pv 6) pe_int (nomark _)) (pe_tup (pa_cons (pe_ix (ix_listK K) (pv 0) (pe_op op_sub (pv 6) pe_int) (fun _ _ => rfl)) (pa_cons (pe_ix (ix_listK K) (pv 3) (pe_op op_sub (pv 6) pe_int) (fun _ _ => rfl)) pa_nil))) (pe_tup (pa_cons pe_int (pa_cons pe_int pa_nil)))) (pg_tupK (n := 2) K rfl (pgs_cons (pg_name (i := 7) sc_folded_row.nd rfl (Or.inl rfl)) (pgs_cons (pg_name (i := 8) sc_folded_row.nd rfl (Or.inl rfl)) pgs_nil))))
      (pss_one (ps_expr (pe_bmK K PySem.F.plainAttrs_list PySem.F.slot_list_append PySem.F.type_list_append mt_append (pv 5) (pa_cons (pe_op op_and (pe_op op_sub (pv 4) (pe_cal (ok_stand_for T) hr (by decide) (by rfl) T.g_stand_for pass0 (pa_cons (pv 7) (pa_cons (pe_ix (ix_listK K) (pv 3) (pv 6) (fun _ _ => rfl)) (pa_cons (pv 8) (pa_cons (pv 2) pa_nil)))))) pe_int) pa_nil))))))
      (pss_one (ps_ret (pv 5))))))))), ?_⟩), F.bindsN fun _ _ _ _ _ _ us hl => match us, hl with | [_, _, _], _ => rfl⟩, F.kp⟩
  obtain ⟨a, ns, v, us, r, rfl, hn, hz, hv, hu, hr4, q⟩ := h
  have hr5 := of_decide_eq_true hr4
  walk_at "rd"
  refine ⟨r, rfl, fun _ => ?_, fun h => by rw [hr4] at h; cases h⟩
  walk_at "rd"
  refine ⟨a, ns, v, us, rfl, hn, by omega, hv, fun u H1 s1 hu1 => ?_⟩
  walk_at "rd"
  have hn1 := s1 _ _ hn
  refine r_ifD (fun hr => ?_) fun hr => ?_
  · walk_at "rd"
    refine r_kiz (ints_sq hn1) (ints_sq hu1) ?_
    refine klc_Z (ints_sq hn1) (ints_sq hu1) (szl (by omega)) (fun x y => .int (Builtin.bitXor x y)) (fun i x y t H2 hx hy s2 ht Z z => ?_) fun p H2 n2 s2 e2 => ?_
    · refine r_gt2 (SqT.of ht) ⟨rfl, ?_⟩
      walk_at "rd"
      exact z H2 (Same.refl H2)
    · refine q p H2 (s1.free n2) (s1.trans s2) ?_
      show H2 p = _
      rw [e2]
      unfold foldRow
      rw [if_pos hr, List.map_zipWith]
  · walk_at "rd"
    refine r_klst (len_le rfl) fun p H2 n2 s2 e2 => ?_
    walk_at "rd"
    have hn2 := s2 _ _ hn1
    have hu2 := s2 _ _ hu1
    have hlen := foldGo_len r 0 0 ns us hu.symm
    refine r_kie (ints_sq hn2) ?_
    refine kfor (walk_enum (xs := ns.map V.int)) (fun i σ H3 => ∃ c0 pl l0 k0 u0, σ = [some (.ref a), some v, some (.int r), some (.ref u), c0, some (.ref p), pl, l0, k0, u0] ∧ Same H1 (hid p H3) ∧ H3 p = some (.lst (((foldGo r 0 0 ns us).take i).map V.int)))
      ⟨none, none, none, none, none, rfl, hid_same0 s2 n2, e2⟩ (fun i σ H3 _ h => ?_) (fun i x σ H3 H4 hi h y => ?_) fun σ H3 h => ?_
    · obtain ⟨_, _, _, _, _, _, s, _⟩ := h
      exact (same_of_hid s).seq (ints_sq hn1)
    · obtain ⟨c0, pl, l0, k0, u0, rfl, s3, e3⟩ := h
      obtain ⟨t, y1, y2, rfl, hT, rfl, e5, e6⟩ := y
      obtain ⟨n, hn', rfl⟩ := map_atc e6
      have e7 := Option.some.inj e5
      subst e7
      have hi1 : i < ns.length := (List.getElem?_eq_some_iff.mp hn').1
      have hi2 : i < us.length := by omega
      have s4 : Same H3 (upd H3 t (.tup [.int i, .int n])) := same_up hT
      refine r_gt2 (SqT.of upd_same) ?_
      generalize upd H3 t (.tup [.int i, .int n]) = H4 at s4 ⊢
      have s34 := same_of_hid (same_hidS s3 s4)
      have hn4 := s34 _ _ hn1
      have hu4 := s34 _ _ hu1
      refine r_seq (r_asg (gcut (fun w H' => ∃ T, w = .ref T ∧ H' T = some (.tup [.int (prev ns i), .int (prev us i)])) (fun Z z => ?_) fun w H5 s5 hw => ?_))
      · walk_at "rd"
        refine r_ifD (fun h0 => ?_) fun h0 => ?_
        · walk_at "rd"
          refine ix_prev hn4 (by omega) (by omega) ?_
          walk_at "rd"
          refine ix_prev hu4 (by omega) (by omega) ?_
          walk_at "rd"
          exact r_ktup (len_le rfl) fun T H' nT sT eT => z _ H' sT ⟨T, rfl, eT⟩
        · walk_at "rd"
          have : i = 0 := by omega
          subst this
          exact r_ktup (len_le rfl) fun T H' nT sT eT => z _ H' sT ⟨T, rfl, eT⟩
      · obtain ⟨T, rfl, eT⟩ := hw
        refine r_gt2 (SqT.of eT) ?_
        walk_at "rd"
        refine r_kbmL (SqL.of (s5 _ _ (s4 _ _ e3))) ?_
        walk_at "rd"
        refine r_ixL (ints_sq (s5 _ _ hu4)) (atI_nat (ints_at (List.getElem?_eq_getElem hi2))) ?_
        walk_at "rd"
        refine ⟨_, _, _, r, rfl, by omega, fun H6 s6 => ?_⟩
        walk_at "rd"
        rw [bitAnd_m4]
        have hat := foldGo_at r i 0 0 ns us n us[i] hn' (List.getElem?_eq_getElem hi2)
        have sp := same_hidS (same_hidS (same_hidS s3 s4) s5) s6
        refine r_append (s6 _ _ (s5 _ _ (s4 _ _ e3))) (szt (by simp; omega)) ⟨some (.int n), some (.int i), some (.int (prev ns i)), some (.int (prev us i)), u0, rfl, same_hidU sp, ?_⟩
        rw [upd_same, List.take_add_one, hat]
        simp [prev, prevL]
    · obtain ⟨c0, pl, l0, k0, u0, rfl, s3, e3⟩ := h
      walk_at "rd"
      rw [List.take_of_length_le (by rw [hlen]; simp)] at e3
      refine q p H3 (s1.free n2) (fun b o e => same_of_hid s3 _ _ (s1 _ _ e)) ?_
      show H3 p = _
      rw [e3]
      unfold foldRow
      rw [if_neg hr]
end
end K44
set_option Elab.async false
set_option linter.all false
set_option maxRecDepth 100000
set_option maxHeartbeats 4000000
namespace K44
open PySem PySem.Spec PyProof.Rows L2
local macro_rules | `(tactic| walk_at "rd1") => `(tactic| first
  | ((with_reducible apply r_var); rfl)
  | ((with_reducible apply r_aug); rfl)
  | with_reducible apply r_isiI
  | with_reducible apply r_tslS
  | with_reducible apply r_try
  | with_reducible apply r_gsub
  | with_reducible apply r_irev
  | with_reducible apply r_trg1
  | with_reducible apply r_sfld
  | with_reducible apply r_afld
  | with_reducible apply r_rAdd
  | with_reducible apply r_dget
  | with_reducible apply r_din
  | with_reducible apply r_dnot
  | with_reducible apply r_dput
  | with_reducible apply r_ikeys
  | with_reducible apply r_m1
  | with_reducible apply r_km1
  | with_reducible apply r_inS
  | with_reducible apply r_notInS
  | with_reducible apply r_isN
  | with_reducible apply r_ip
  | with_reducible apply r_kbmS
  | with_reducible apply r_min2
  | with_reducible apply r_isiB
  | with_reducible apply r_isiS
  | with_reducible apply r_tyes
  | with_reducible apply iteT
  | with_reducible apply iteF
  | with_reducible apply r_nT
  | with_reducible apply r_nF
  | with_reducible apply r_callS
  | with_reducible apply r_meth
  | with_reducible apply r_methS
  | with_reducible apply r_methD
  | with_reducible apply r_make
  | with_reducible apply r_lc
  | with_reducible apply r_for
  | with_reducible apply r_ilist
  | with_reducible apply r_itup
  | with_reducible apply r_irng1
  | with_reducible apply r_irng2
  | with_reducible apply r_istr
  | with_reducible apply r_ienum
  | with_reducible apply r_izip
  | with_reducible apply r_izip3
  | with_reducible apply r_izip4
  | with_reducible apply r_kis
  | with_reducible apply r_c
  | with_reducible apply r_op
  | with_reducible apply r_un
  | with_reducible apply r_i0
  | with_reducible apply r_u
  | with_reducible apply r_eqI
  | with_reducible apply r_neI
  | with_reducible apply r_eqS
  | with_reducible apply r_neS
  | with_reducible apply r_test
  | with_reducible apply r_B
  | with_reducible apply r_bl
  | with_reducible apply r_int
  | with_reducible apply r_and
  | with_reducible apply r_or
  | with_reducible apply r_not
  | with_reducible apply r_andV
  | with_reducible apply r_orV
  | with_reducible apply r_notV
  | with_reducible apply r_chain
  | with_reducible apply r_tif
  | with_reducible apply r_nil
  | with_reducible apply r_cons
  | with_reducible apply r_cb
  | with_reducible apply r_call
  | with_reducible apply r_seq
  | with_reducible apply r_asg
  | with_reducible apply r_name
  | with_reducible apply r_drop
  | with_reducible apply r_ret
  | with_reducible apply r_retN
  | with_reducible apply r_next
  | with_reducible apply r_ifS
  | with_reducible apply r_tup
  | with_reducible apply r_lst
  | with_reducible apply r_sl
  | with_reducible apply r_nopart
  | with_reducible apply r_part
  | with_reducible apply r_fld
  | with_reducible apply r_bm
  | with_reducible apply r_bm0)
local macro_rules | `(tactic| walk_at "rd") => `(tactic| repeat (walk_at "rd1"))

/-! Pictures made by a comprehension; zip of three lists; unfolding. -/
/-- a picture none of whose lists were there in H0 -/
def PicN (H0 H : Hp) (a : Addr) (rows : List (List Int)) : Prop := H0 a = none ∧ ∃ ps : List (Addr × List Int), H a = some (.lst (ps.map fun p => V.ref p.1)) ∧ ps.map (·.2) = rows ∧ ∀ p ∈ ps, H0 p.1 = none ∧ Ints H p.1 p.2
theorem PicN.pic {H0 H : Hp} {a : Addr} {rows : List (List Int)} (h : PicN H0 H a rows) : Pic H a rows := by
  obtain ⟨_, ps, h1, h2, h3⟩ := h
  exact ⟨ps, h1, h2, fun p hp => (h3 p hp).2⟩
theorem PicN.same {H0 H H' : Hp} {a : Addr} {rows : List (List Int)} (s : Same H H') (h : PicN H0 H a rows) : PicN H0 H' a rows := by
  obtain ⟨n, ps, h1, h2, h3⟩ := h
  exact ⟨n, ps, s _ _ h1, h2, fun p hp => ⟨(h3 p hp).1, s _ _ (h3 p hp).2⟩⟩
theorem unhid {D b : Addr} {H : Hp} {o : HO} (h : hid D H b = some o) : H b = some o := by
  by_cases e : b = D
  · subst e; rw [hid, if_pos rfl] at h; cases h
  · rw [hid_ne e] at h; exact h
theorem unhid_same {D : Addr} {H : Hp} : Same (hid D H) H := fun _ _ e => unhid e
section
variable {σ : L2.St} {H : Hp} {K : PySem.W.Frag} {Q : VK} {vs : List Nat} {g : TG} {te : TE}
theorem klc_pic {J : It} {n : Nat} {G : Hp → Prop} {Y : Nat → Hp → V → Hp → Prop} (w : Walk J n G Y) (hn : n ≤ sizeLine) (hG : ∀ H', Same H H' → G H') (rows : List (List Int)) (hl : rows.length = n)
    (step : ∀ (i : Nat) x H1 H2 r, rows[i]? = some r → Same H H1 → Y i H1 x H2 → ∀ Z : VK, (∀ p H', Same H1 H' → H1 p = none → Ints H' p r → Z (.ref p) H') → g x (wipe σ vs) H2 fun σ2 H3 => wipe σ2 vs = wipe σ vs ∧ te σ2 H3 Z)
    (q : ∀ p H', Same H H' → PicN H H' p rows → Q (.ref p) H') : KLc g tYes te vs σ Q J H := by
  refine klc w hG (fun i acc h => ∃ ps : List (Addr × List Int), acc = ps.map (fun p => V.ref p.1) ∧ ps.map (·.2) = rows.take i ∧ ∀ p ∈ ps, H p.1 = none ∧ Ints h p.1 p.2) ⟨[], rfl, by simp, fun p hp => by cases hp⟩ (fun D i x H1 H2 acc hi hD s e l r y => ?_) fun p H' ys hp s e _ r => ?_
  · obtain ⟨ps, rfl, h2, h3⟩ := r
    have hr : rows[i]? = some (rows[i]'(by omega)) := List.getElem?_eq_getElem (by omega)
    refine step i x H1 H2 _ hr (same_of_hid s) y (KYes (fun i acc h => ∃ ps : List (Addr × List Int), acc = ps.map (fun p => V.ref p.1) ∧ ps.map (·.2) = rows.take i ∧ ∀ p ∈ ps, H p.1 = none ∧ Ints h p.1 p.2) H D i) fun p H' s' np hp => ?_
    have nD : p ≠ D := fun z => by subst z; rw [np] at e; cases e
    refine r_kyes (s' _ _ e) l (by omega) (same_hidS s s') ⟨ps ++ [(p, rows[i]'(by omega))], by simp, by rw [List.map_append, h2, List.take_add_one, hr]; rfl, fun z hz => ?_⟩
    rcases List.mem_append.mp hz with hz | hz
    · exact ⟨(h3 z hz).1, hid_same s' _ _ (h3 z hz).2⟩
    · simp at hz
      subst hz
      exact ⟨(same_of_hid s).free np, by show hid D H' p = _; rw [hid_ne nD]; exact hp⟩
  · obtain ⟨ps, rfl, h2, h3⟩ := r
    rw [List.take_of_length_le (by omega)] at h2
    exact q p H' s ⟨hp, ps, e, h2, fun z hz => ⟨(h3 z hz).1, unhid (h3 z hz).2⟩⟩
theorem walk_zip3 {a b c : Addr} {xs ys zs : List V} {n : Nat} (h1 : xs.length = n) (h2 : ys.length = n) (h3 : zs.length = n) : Walk (Itzn K [a, b, c]) n (fun H => SqL K H a xs ∧ SqL K H b ys ∧ SqL K H c zs)
    (fun i H v H' => ∃ T x y z, v = .ref T ∧ H T = none ∧ H' = upd H T (.tup [x, y, z]) ∧ xs[i]? = some x ∧ ys[i]? = some y ∧ zs[i]? = some z) := by
  refine ⟨fun i H hi q => ?_, fun H q => ?_, fun i H v H' hi q y => ?_⟩
  · intro d hd
    simp only [List.mem_cons, List.not_mem_nil, or_false] at hd
    rcases hd with rfl | rfl | rfl
    · exact ⟨xs, _, q.1, List.getElem?_eq_getElem (by omega)⟩
    · exact ⟨ys, _, q.2.1, List.getElem?_eq_getElem (by omega)⟩
    · exact ⟨zs, _, q.2.2, List.getElem?_eq_getElem (by omega)⟩
  · refine ⟨fun d hd => ?_, a, by simp, xs, q.1, by omega⟩
    simp only [List.mem_cons, List.not_mem_nil, or_false] at hd
    rcases hd with rfl | rfl | rfl
    · exact ⟨_, q.1⟩
    · exact ⟨_, q.2.1⟩
    · exact ⟨_, q.2.2⟩
  · obtain ⟨T, us, e1, e2, e3, e4, e5⟩ := y
    have f1 := e5 0 a rfl xs q.1
    have f2 := e5 1 b rfl ys q.2.1
    have f3 := e5 2 c rfl zs q.2.2
    match us, e4 with
    | [x, y, z], _ => exact ⟨T, x, y, z, e1, e2, e3, f1, f2, f3⟩
theorem walk_zip4 {a b c d : Addr} {xs ys zs us : List V} {n : Nat} (h1 : xs.length = n) (h2 : ys.length = n) (h3 : zs.length = n) (h4 : us.length = n) : Walk (Itzn K [a, b, c, d]) n (fun H => SqL K H a xs ∧ SqL K H b ys ∧ SqL K H c zs ∧ SqL K H d us)
    (fun i H v H' => ∃ T x y z u, v = .ref T ∧ H T = none ∧ H' = upd H T (.tup [x, y, z, u]) ∧ xs[i]? = some x ∧ ys[i]? = some y ∧ zs[i]? = some z ∧ us[i]? = some u) := by
  refine ⟨fun i H hi q => ?_, fun H q => ?_, fun i H v H' hi q y => ?_⟩
  · intro e he
    simp only [List.mem_cons, List.not_mem_nil, or_false] at he
    rcases he with rfl | rfl | rfl | rfl
    · exact ⟨xs, _, q.1, List.getElem?_eq_getElem (by omega)⟩
    · exact ⟨ys, _, q.2.1, List.getElem?_eq_getElem (by omega)⟩
    · exact ⟨zs, _, q.2.2.1, List.getElem?_eq_getElem (by omega)⟩
    · exact ⟨us, _, q.2.2.2, List.getElem?_eq_getElem (by omega)⟩
  · refine ⟨fun e he => ?_, a, by simp, xs, q.1, by omega⟩
    simp only [List.mem_cons, List.not_mem_nil, or_false] at he
    rcases he with rfl | rfl | rfl | rfl
    · exact ⟨_, q.1⟩
    · exact ⟨_, q.2.1⟩
    · exact ⟨_, q.2.2.1⟩
    · exact ⟨_, q.2.2.2⟩
  · obtain ⟨T, vs, e1, e2, e3, e4, e5⟩ := y
    have f1 := e5 0 a rfl xs q.1
    have f2 := e5 1 b rfl ys q.2.1
    have f3 := e5 2 c rfl zs q.2.2.1
    have f4 := e5 3 d rfl us q.2.2.2
    match vs, e4 with
    | [x, y, z, u], _ => exact ⟨T, x, y, z, u, e1, e2, e3, f1, f2, f3, f4⟩
/-- zip over three lists, four lists: what is walked -/
def KI3 (K : PySem.W.Frag) (R : It → Hp → Prop) : List V → Hp → Prop := fun vs H1 => ∃ a1 a2 a3 : Addr, vs = [.ref a1, .ref a2, .ref a3] ∧ (∀ a ∈ [a1, a2, a3], ∃ xs, SqL K H1 a xs) ∧ R (Itzn K [a1, a2, a3]) H1
theorem r_izip3 {ta : TA} {R : It → Hp → Prop} (q : ta σ H (KI3 K R)) : iZip3 K ta σ H R := q
theorem r_ki3 {a b c : Addr} {xs ys zs : List V} {R : It → Hp → Prop} (h1 : SqL K H a xs) (h2 : SqL K H b ys) (h3 : SqL K H c zs) (q : R (Itzn K [a, b, c]) H) : KI3 K R [.ref a, .ref b, .ref c] H :=
  ⟨a, b, c, rfl, fun d hd => by
    simp only [List.mem_cons, List.not_mem_nil, or_false] at hd
    rcases hd with rfl | rfl | rfl
    · exact ⟨_, h1⟩
    · exact ⟨_, h2⟩
    · exact ⟨_, h3⟩, q⟩
def KI4 (K : PySem.W.Frag) (R : It → Hp → Prop) : List V → Hp → Prop := fun vs H1 => ∃ a1 a2 a3 a4 : Addr, vs = [.ref a1, .ref a2, .ref a3, .ref a4] ∧ (∀ a ∈ [a1, a2, a3, a4], ∃ xs, SqL K H1 a xs) ∧ R (Itzn K [a1, a2, a3, a4]) H1
theorem r_izip4 {ta : TA} {R : It → Hp → Prop} (q : ta σ H (KI4 K R)) : iZip4 K ta σ H R := q
theorem r_ki4 {a b c d : Addr} {xs ys zs us : List V} {R : It → Hp → Prop} (h1 : SqL K H a xs) (h2 : SqL K H b ys) (h3 : SqL K H c zs) (h4 : SqL K H d us) (q : R (Itzn K [a, b, c, d]) H) : KI4 K R [.ref a, .ref b, .ref c, .ref d] H :=
  ⟨a, b, c, d, rfl, fun e he => by
    simp only [List.mem_cons, List.not_mem_nil, or_false] at he
    rcases he with rfl | rfl | rfl | rfl
    · exact ⟨_, h1⟩
    · exact ⟨_, h2⟩
    · exact ⟨_, h3⟩
    · exact ⟨_, h4⟩, q⟩
end
def sp_unfolded_row : Sp := fun vs H Q _ => ∃ (a : Addr) (ns : List Int) (v : V) (us : List Int) (r : Int), vs = [.ref a, v, .int r] ∧ Ints H a ns ∧ ns.length ≤ 1000 ∧ AboveV H v ns.length us ∧ us.length = ns.length ∧ isFold r = true ∧
  ∀ p H', H p = none → Same H H' → Ints H' p (unfoldRow r ns us) → Q (.ref p) H'
theorem sc_unfolded_row : FnScope ["row", "above", "rule", "ups", "cell", "found", "place", "left", "corner", "up"] ["row", "above", "rule"] (defScope s_unfolded_row) := ⟨rfl, rfl, rfl, by decide +kernel, rfl, by decide +kernel, by decide +kernel⟩
section
theorem len_unfolded_row {vs : List V} {H : Hp} {Q : VK} {E : XK} (h : (sp_unfolded_row) vs H Q E) : vs.length = 3 := by
  repeat (obtain ⟨_, h⟩ := h)
  subst_vars; rfl
variable {P : Program} {w : World} {K : PySem.W.Frag} {mg : Str → Option Value} {base : Heap}
theorem ok_unfolded_row (T : Tx K mg) : Cal P w K mg base CX0 3 (He.ga K "unfolded_row") ["row", "above", "rule"] (sp_unfolded_row) := by
  obtain ⟨fd, F⟩ := T.F_unfolded_row
  refine ⟨⟨fd, F.ok sc_unfolded_row (fun vs H Q E h => len_unfolded_row h) (fun cdv A outer s H vs Q E hr h => ⟨_, PSs.nox (
      (pss_cons (ps_expr (pe_cal (ok_need_fold T) hr (by decide) (by rfl) T.g_need_fold passE0N (pa_cons (pv 2) pa_nil)))
      (pss_cons (ps_set (i := 3) sc_unfolded_row.nd rfl (Or.inl rfl) (pe_cal (ok_row_above T) hr (by decide) (by rfl) T.g_row_above pass0 (pa_cons (pv 0) (pa_cons (pv 1) pa_nil))))
      (pss_cons (ps_if (pt_cmpR op_eq (pv 2) pe_int (nomark _))
      (pss_one (ps_ret (pe_lc (own := [("cell", 4), ("up", 9)]) rfl sc_unfolded_row.nd (pi_zipK K (by rfl) T.b_zip (pa_cons (pv 0) (pa_cons (pv 3) pa_nil))) (blkOk_by (own := [("cell", 4), ("up", 9)]) (N := ["row", "above", "rule", "ups", "cell", "found", "place", "left", "corner", "up"]) (sc := defScope s_unfolded_row) (by decide +kernel)) (fun _ _ _ _ _ => (pg_tupK (n := 2) K rfl (pgs_cons (pg_name (i := 4) sc_unfolded_row.nd rfl (Or.inl rfl)) (pgs_cons (pg_name (i := 9) sc_unfolded_row.nd rfl (Or.inl rfl)) pgs_nil)))) (fun _ _ _ _ _ => pts_nil) (fun _ _ _ _ _ => (pe_op op_xor (pv 4) (pv 9)))))) pss_nil)
      (pss_cons (ps_set (i := 5) sc_unfolded_row.nd rfl (Or.inl rfl) (pe_lst pa_nil))
      (pss_cons (ps_for PassesOwn.never rfl (pi_enumK K (by rfl) T.b_enumerate (pa_cons (pv 0) pa_nil)) (pg_tupK (n := 2) K rfl (pgs_cons (pg_name (i := 6) sc_unfolded_row.nd rfl (Or.inl rfl)) (pgs_cons (pg_name (i := 4) sc_unfolded_row.nd rfl (Or.inl rfl)) pgs_nil)))
      (pss_cons (ps_asg (pe_ifExp (pt_cmpR op_gt (pv 6) pe_int (nomark _)) (pe_tup (pa_cons (pe_ix (ix_listK K) (pv 5) (pe_op op_sub (pv 6) pe_int) (fun _ _ => rfl)) (pa_cons (pe_ix (ix_listK K) (pv 3) (pe_op op_sub (pv 6) pe_int) (fun _ _ => rfl)) pa_nil))) (pe_tup (pa_cons pe_int (pa_cons pe_int pa_nil)))) (pg_tupK (n := 2) K rfl (pgs_cons (pg_name (i := 7) sc_unfolded_row.nd rfl (Or.inl rfl)) (pgs_cons (pg_name (i := 8) sc_unfolded_row.nd rfl (Or.inl rfl)) pgs_nil))))
      (pss_one (ps_expr (pe_bmK K PySem.F.plainAttrs_list PySem.F.slot_list_append PySem.F.type_list_append mt_append (pv 5) (pa_cons (pe_op op_and (pe_op op_add (pv 4) (pe_cal (ok_stand_for T) hr (by decide) (by rfl) T.g_stand_for pass0 (pa_cons (pv 7) (pa_cons (pe_ix (ix_listK K) (pv 3) (pv 6) (fun _ _ => rfl)) (pa_cons (pv 8) (pa_cons (pv 2) pa_nil)))))) pe_int) pa_nil))))))
      (pss_one (ps_ret (pv 5))))))))), ?_⟩), F.bindsN fun _ _ _ _ _ _ us hl => match us, hl with | [_, _, _], _ => rfl⟩, F.kp⟩
  obtain ⟨a, ns, v, us, r, rfl, hn, hz, hv, hu, hr4, q⟩ := h
  have hr5 := of_decide_eq_true hr4
  walk_at "rd"
  refine ⟨r, rfl, fun _ => ?_, fun h => by rw [hr4] at h; cases h⟩
  walk_at "rd"
  refine ⟨a, ns, v, us, rfl, hn, by omega, hv, fun u H1 s1 hu1 => ?_⟩
  walk_at "rd"
  have hn1 := s1 _ _ hn
  refine r_ifD (fun hr => ?_) fun hr => ?_
  · walk_at "rd"
    refine r_kiz (ints_sq hn1) (ints_sq hu1) ?_
    refine klc_Z (ints_sq hn1) (ints_sq hu1) (szl (by omega)) (fun x y => .int (Builtin.bitXor x y)) (fun i x y t H2 hx hy s2 ht Z z => ?_) fun p H2 n2 s2 e2 => ?_
    · refine r_gt2 (SqT.of ht) ⟨rfl, ?_⟩
      walk_at "rd"
      exact z H2 (Same.refl H2)
    · refine q p H2 (s1.free n2) (s1.trans s2) ?_
      show H2 p = _
      rw [e2]
      unfold unfoldRow
      rw [if_pos hr, List.map_zipWith]
  · walk_at "rd"
    refine r_klst (len_le rfl) fun p H2 n2 s2 e2 => ?_
    walk_at "rd"
    have hn2 := s2 _ _ hn1
    have hu2 := s2 _ _ hu1
    have hlen := unfoldGo_len r 0 0 ns us hu.symm
    refine r_kie (ints_sq hn2) ?_
    refine kfor (walk_enum (xs := ns.map V.int)) (fun i σ H3 => ∃ c0 pl l0 k0 u0, σ = [some (.ref a), some v, some (.int r), some (.ref u), c0, some (.ref p), pl, l0, k0, u0] ∧ Same H1 (hid p H3) ∧ Ints H3 p ((unfoldGo r 0 0 ns us).take i))
      ⟨none, none, none, none, none, rfl, hid_same0 s2 n2, e2⟩ (fun i σ H3 _ h => ?_) (fun i x σ H3 H4 hi h y => ?_) fun σ H3 h => ?_
    · obtain ⟨_, _, _, _, _, _, s, _⟩ := h
      exact (same_of_hid s).seq (ints_sq hn1)
    · obtain ⟨c0, pl, l0, k0, u0, rfl, s3, e3⟩ := h
      obtain ⟨t, y1, y2, rfl, hT, rfl, e5, e6⟩ := y
      obtain ⟨n, hn', rfl⟩ := map_atc e6
      have e7 := Option.some.inj e5
      subst e7
      have hi1 : i < ns.length := (List.getElem?_eq_some_iff.mp hn').1
      have hi2 : i < us.length := by omega
      have s4 : Same H3 (upd H3 t (.tup [.int i, .int n])) := same_up hT
      refine r_gt2 (SqT.of upd_same) ?_
      generalize upd H3 t (.tup [.int i, .int n]) = H4 at s4 ⊢
      have s34 := same_of_hid (same_hidS s3 s4)
      have hu4 := s34 _ _ hu1
      refine r_seq (r_asg (gcut (fun w H' => ∃ T, w = .ref T ∧ H' T = some (.tup [.int (prev (unfoldGo r 0 0 ns us) i), .int (prev us i)])) (fun Z z => ?_) fun w H5 s5 hw => ?_))
      · walk_at "rd"
        refine r_ifD (fun h0 => ?_) fun h0 => ?_
        · walk_at "rd"
          have ep : prev ((unfoldGo r 0 0 ns us).take i) i = prev (unfoldGo r 0 0 ns us) i := by
            unfold prev
            rw [if_neg (by omega), if_neg (by omega), List.getD_eq_getElem?_getD, List.getD_eq_getElem?_getD, List.getElem?_take_of_lt (by omega)]
          refine ix_prev (s4 _ _ e3) (by omega) (by rw [List.length_take, hlen]; omega) ?_
          rw [ep]
          walk_at "rd"
          refine ix_prev hu4 (by omega) (by omega) ?_
          walk_at "rd"
          exact r_ktup (len_le rfl) fun T H' nT sT eT => z _ H' sT ⟨T, rfl, eT⟩
        · walk_at "rd"
          have : i = 0 := by omega
          subst this
          exact r_ktup (len_le rfl) fun T H' nT sT eT => z _ H' sT ⟨T, rfl, eT⟩
      · obtain ⟨T, rfl, eT⟩ := hw
        refine r_gt2 (SqT.of eT) ?_
        walk_at "rd"
        refine r_kbmL (SqL.of (s5 _ _ (s4 _ _ e3))) ?_
        walk_at "rd"
        refine r_ixL (ints_sq (s5 _ _ hu4)) (atI_nat (ints_at (List.getElem?_eq_getElem hi2))) ?_
        walk_at "rd"
        refine ⟨_, _, _, r, rfl, by omega, fun H6 s6 => ?_⟩
        walk_at "rd"
        rw [bitAnd_m4]
        have hat := unfoldGo_at r i 0 0 ns us n us[i] hn' (List.getElem?_eq_getElem hi2)
        have sp := same_hidS (same_hidS (same_hidS s3 s4) s5) s6
        refine r_append (s6 _ _ (s5 _ _ (s4 _ _ e3))) (szt (by simp; omega)) ⟨some (.int n), some (.int i), some (.int (prev (unfoldGo r 0 0 ns us) i)), some (.int (prev us i)), u0, rfl, same_hidU sp, ?_⟩
        show (upd _ _ _) _ = _
        rw [upd_same, List.take_add_one, hat]
        simp [prev, prevL]
    · obtain ⟨c0, pl, l0, k0, u0, rfl, s3, e3⟩ := h
      walk_at "rd"
      rw [List.take_of_length_le (by rw [hlen]; simp)] at e3
      refine q p H3 (s1.free n2) (fun b o e => same_of_hid s3 _ _ (s1 _ _ e)) ?_
      unfold unfoldRow
      rw [if_neg hr]
      exact e3
end
def sp_need_folds (K : PySem.W.Frag) : Sp := fun vs H Q E => ∃ (a : Addr) (rows : List (List Int)) (b : Addr) (ks : List Int), vs = [.ref a, .ref b] ∧ Pic H a rows ∧ PicOk rows ∧ Ints H b ks ∧ ks.length = rows.length ∧
  ((ks.all isFold = true → ∀ H', Same H H' → Q .non H') ∧ (ks.all isFold = false → ∀ H', Same H H' → E (.ref (He.ga K "BadRule")) none H'))
theorem sc_need_folds : FnScope ["picture", "rules", "rule"] ["picture", "rules"] (defScope s_need_folds) := ⟨rfl, rfl, rfl, by decide +kernel, rfl, by decide +kernel, by decide +kernel⟩
section
theorem len_need_folds {K : PySem.W.Frag} {vs : List V} {H : Hp} {Q : VK} {E : XK} (h : (sp_need_folds K) vs H Q E) : vs.length = 2 := by
  repeat (obtain ⟨_, h⟩ := h)
  subst_vars; rfl
variable {P : Program} {w : World} {K : PySem.W.Frag} {mg : Str → Option Value} {base : Heap}
theorem ok_need_folds (T : Tx K mg) : Cal P w K mg base (L2N.CX P w) 6 (He.ga K "need_folds") ["picture", "rules"] (sp_need_folds K) := by
  obtain ⟨fd, F⟩ := T.F_need_folds
  refine ⟨⟨fd, F.ok sc_need_folds (fun vs H Q E h => len_need_folds h) (fun cdv A outer s H vs Q E hr h => ⟨_, (
      (pss_cons (ps_expr (pe_cal (ok_need_picture T) hr (by decide) (by rfl) T.g_need_picture pass0 (pa_cons (pv 0) pa_nil)))
      (pss_cons (ps_if (PW.pt (pw_or (pt_not (pt_val (pe_callB (isiK K) (by rfl) T.b_isinstance boot_isinstance (pa_cons (pv 1) (pa_cons (pe_bltn (v := .ty "list") (by rfl) T.b_list (by decide +kernel) rfl) pa_nil))))) (pw_or1 (pt_cmpR op_ne (pe_callB (cal_lenK K) (by rfl) T.b_len PySem.boot_len (pa_cons (pv 1) pa_nil)) (pe_callB (cal_lenK K) (by rfl) T.b_len PySem.boot_len (pa_cons (pv 0) pa_nil)) (nomark _)))))
      (pss_one ps_never) pss_nil)
      (pss_one (ps_for (passes_of rfl) rfl (pi_listK K (pv 1)) (pg_name (i := 2) sc_need_folds.nd rfl (Or.inl rfl))
      (pss_one (ps_expr (pe_cal (ok_need_fold T) hr (by decide) (by rfl) T.g_need_fold (L2N.passes_call (L2N.takes_of rfl rfl rfl rfl) (fun _ _ _ _ h => h)) (pa_cons (pv 2) pa_nil))))))))), ?_⟩), F.bindsN fun _ _ _ _ _ _ us hl => match us, hl with | [_, _], _ => rfl⟩, F.kp⟩
  obtain ⟨a, rows, b, ks, rfl, hp, ok, hk, hl, q1, q2⟩ := h
  walk_at "rd"
  refine ⟨a, rows, rfl, hp, ok, fun H1 s1 => ?_⟩
  walk_at "rd"
  refine r_isiL (s1 _ _ hk) ?_
  walk_at "rd"
  refine r_lenI (s1 _ _ hk) ?_
  walk_at "rd"
  obtain ⟨ps, h1, h2, h3⟩ := hp.same s1
  refine r_len (SqL.of h1) ?_
  walk_at "rd"
  have hps : ps.length = rows.length := by rw [← h2]; simp
  refine r_noN (by simp; omega) ?_
  walk_at "rd"
  refine r_kil (ints_sq (s1 _ _ hk)) ?_
  refine kfor (walk_list (xs := ks.map V.int)) (fun i σ H2 => (∃ z, σ = [some (.ref a), some (.ref b), z]) ∧ H2 = H1 ∧ ∀ k ∈ ks.take i, isFold k = true) ⟨⟨none, rfl⟩, rfl, fun k hk => by simp at hk⟩ (fun i σ H2 _ h => ?_) (fun i x σ H2 H3 hi h y => ?_) fun σ H2 h => ?_
  · obtain ⟨_, rfl, _⟩ := h
    exact ints_sq (s1 _ _ hk)
  · obtain ⟨⟨z, rfl⟩, rfl, h⟩ := h
    obtain ⟨rfl, hx⟩ := y
    obtain ⟨k, hk', rfl⟩ := map_atc hx
    walk_at "rd"
    refine ⟨k, rfl, fun hf => ?_, fun hf => ?_⟩
    · refine ⟨⟨_, rfl⟩, rfl, fun j hj => ?_⟩
      rw [List.take_add_one, hk'] at hj
      rcases List.mem_append.mp hj with hj | hj
      · exact h j hj
      · simp at hj; subst hj; exact hf
    · refine q2 ?_ _ s1
      rw [List.all_eq_false]
      exact ⟨k, List.mem_of_getElem? hk', by rw [hf]; decide⟩
  · obtain ⟨_, rfl, h⟩ := h
    rw [List.take_of_length_le (by simp)] at h
    exact q1 (List.all_eq_true.mpr h) H2 s1
end
end K44
set_option Elab.async false
set_option linter.all false
set_option maxRecDepth 100000
set_option maxHeartbeats 4000000
namespace K44
open PySem PySem.Spec PyProof.Rows L2
local macro_rules | `(tactic| walk_at "rd1") => `(tactic| first
  | ((with_reducible apply r_var); rfl)
  | ((with_reducible apply r_aug); rfl)
  | with_reducible apply r_isiI
  | with_reducible apply r_tslS
  | with_reducible apply r_try
  | with_reducible apply r_gsub
  | with_reducible apply r_irev
  | with_reducible apply r_trg1
  | with_reducible apply r_sfld
  | with_reducible apply r_afld
  | with_reducible apply r_rAdd
  | with_reducible apply r_dget
  | with_reducible apply r_din
  | with_reducible apply r_dnot
  | with_reducible apply r_dput
  | with_reducible apply r_ikeys
  | with_reducible apply r_m1
  | with_reducible apply r_km1
  | with_reducible apply r_inS
  | with_reducible apply r_notInS
  | with_reducible apply r_isN
  | with_reducible apply r_ip
  | with_reducible apply r_kbmS
  | with_reducible apply r_min2
  | with_reducible apply r_isiB
  | with_reducible apply r_isiS
  | with_reducible apply r_tyes
  | with_reducible apply iteT
  | with_reducible apply iteF
  | with_reducible apply r_nT
  | with_reducible apply r_nF
  | with_reducible apply r_callS
  | with_reducible apply r_meth
  | with_reducible apply r_methS
  | with_reducible apply r_methD
  | with_reducible apply r_make
  | with_reducible apply r_lc
  | with_reducible apply r_for
  | with_reducible apply r_ilist
  | with_reducible apply r_itup
  | with_reducible apply r_irng1
  | with_reducible apply r_irng2
  | with_reducible apply r_istr
  | with_reducible apply r_ienum
  | with_reducible apply r_izip
  | with_reducible apply r_izip3
  | with_reducible apply r_izip4
  | with_reducible apply r_kis
  | with_reducible apply r_c
  | with_reducible apply r_op
  | with_reducible apply r_un
  | with_reducible apply r_i0
  | with_reducible apply r_u
  | with_reducible apply r_eqI
  | with_reducible apply r_neI
  | with_reducible apply r_eqS
  | with_reducible apply r_neS
  | with_reducible apply r_test
  | with_reducible apply r_B
  | with_reducible apply r_bl
  | with_reducible apply r_int
  | with_reducible apply r_and
  | with_reducible apply r_or
  | with_reducible apply r_not
  | with_reducible apply r_andV
  | with_reducible apply r_orV
  | with_reducible apply r_notV
  | with_reducible apply r_chain
  | with_reducible apply r_tif
  | with_reducible apply r_nil
  | with_reducible apply r_cons
  | with_reducible apply r_cb
  | with_reducible apply r_call
  | with_reducible apply r_seq
  | with_reducible apply r_asg
  | with_reducible apply r_name
  | with_reducible apply r_drop
  | with_reducible apply r_ret
  | with_reducible apply r_retN
  | with_reducible apply r_next
  | with_reducible apply r_ifS
  | with_reducible apply r_tup
  | with_reducible apply r_lst
  | with_reducible apply r_sl
  | with_reducible apply r_nopart
  | with_reducible apply r_part
  | with_reducible apply r_fld
  | with_reducible apply r_bm
  | with_reducible apply r_bm0)
local macro_rules | `(tactic| walk_at "rd") => `(tactic| repeat (walk_at "rd1"))

theorem PicOk.wide {rows : List (List Int)} (h : PicOk rows) : ∃ w, 1 ≤ w ∧ w ≤ 24 ∧ Wide w rows := by
  obtain ⟨_, _, w, w1, w2, k⟩ := h
  exact ⟨w, w1, w2, fun r hr => ⟨(k r hr).1, cells_all.mp (k r hr).2⟩⟩
theorem PicOk.of {rows : List (List Int)} {w : Nat} (h1 : 1 ≤ rows.length) (h2 : rows.length ≤ 24) (w1 : 1 ≤ w) (w2 : w ≤ 24) (k : Wide w rows) : PicOk rows := ⟨h1, h2, w, w1, w2, fun r hr => ⟨(k r hr).1, cells_all.mpr (k r hr).2⟩⟩
theorem ps_at {ps : List (Addr × List Int)} {rows : List (List Int)} (h : ps.map (·.2) = rows) {i : Nat} {x : List Int} (hx : rows[i]? = some x) : ∃ a, ps[i]? = some (a, x) := by
  rw [← h] at hx
  obtain ⟨q, e1, e2⟩ := map_atc hx
  obtain ⟨a, y⟩ := q
  subst e2
  exact ⟨a, e1⟩
theorem cut_m1 (xs : List V) : cutV xs none (some (-1)) = xs.take (xs.length - 1) := cut_neg xs 1 (by decide)
theorem above_at {H : Hp} {ps : List (Addr × List Int)} {rows : List (List Int)} (h : ps.map (·.2) = rows) (hi : ∀ p ∈ ps, Ints H p.1 p.2) {w i : Nat} (hl : i < ps.length) {v : V}
    (hv : ([V.non] ++ (ps.map fun p => V.ref p.1).take ((ps.map fun p => V.ref p.1).length - 1))[i]? = some v) (n : Nat) : AboveV H v n (ups (upAt none rows i) n) := by
  cases i with
  | zero =>
    have := Option.some.inj hv
    subst this
    exact .inl ⟨rfl, rfl⟩
  | succ i =>
    have e : ([V.non] ++ (ps.map fun p => V.ref p.1).take ((ps.map fun p => V.ref p.1).length - 1))[i + 1]? = ((ps.map fun p => V.ref p.1).take ((ps.map fun p => V.ref p.1).length - 1))[i]? := rfl
    rw [e, List.getElem?_take_of_lt (by simp; omega)] at hv
    obtain ⟨q, e1, e2⟩ := map_atc hv
    subst e2
    refine .inr ⟨q.1, rfl, ?_⟩
    have eu : upAt none rows (i + 1) = some q.2 := by
      show rows[i]? = some q.2
      rw [← h, List.getElem?_map, e1]
      rfl
    rw [eu]
    exact hi q (List.mem_of_getElem? e1)
theorem up_len {w : Nat} {rows : List (List Int)} (h : ∀ r ∈ rows, r.length = w) (i : Nat) : (ups (upAt none rows i) w).length = w := by
  cases i with
  | zero => simp [upAt, ups]
  | succ i =>
    show (ups rows[i]? w).length = w
    cases e : rows[i]? with
    | none => simp [ups]
    | some r => exact h r (List.mem_of_getElem? e)
def sp_folded_picture : Sp := fun vs H Q _ => ∃ (a : Addr) (rows : List (List Int)) (b : Addr) (ks : List Int), vs = [.ref a, .ref b] ∧ Pic H a rows ∧ PicOk rows ∧ Ints H b ks ∧ ks.length = rows.length ∧ ks.all isFold = true ∧
  ∀ p H', Same H H' → PicN H H' p (foldPic none rows ks) → Q (.ref p) H'
theorem sc_folded_picture : FnScope ["picture", "rules", "aboves", "row", "above", "rule"] ["picture", "rules"] (defScope s_folded_picture) := ⟨rfl, rfl, rfl, by decide +kernel, rfl, by decide +kernel, by decide +kernel⟩
section
theorem len_folded_picture {vs : List V} {H : Hp} {Q : VK} {E : XK} (h : (sp_folded_picture) vs H Q E) : vs.length = 2 := by
  repeat (obtain ⟨_, h⟩ := h)
  subst_vars; rfl
variable {P : Program} {w : World} {K : PySem.W.Frag} {mg : Str → Option Value} {base : Heap}
theorem ok_folded_picture (T : Tx K mg) : Cal P w K mg base CX0 7 (He.ga K "folded_picture") ["picture", "rules"] (sp_folded_picture) := by
  obtain ⟨fd, F⟩ := T.F_folded_picture
  refine ⟨⟨fd, F.ok sc_folded_picture (fun vs H Q E h => len_folded_picture h) (fun cdv A outer s H vs Q E hr h => ⟨_, PSs.nox (
      (pss_cons (ps_expr (pe_cal (ok_need_folds T) hr (by decide) (by rfl) T.g_need_folds passE0N (pa_cons (pv 0) (pa_cons (pv 1) pa_nil))))
      (pss_cons (ps_set (i := 2) sc_folded_picture.nd rfl (Or.inl rfl) (pe_op op_cat (pe_lst (pa_cons pe_non pa_nil)) (pe_slice (sl_listK K) (pv 0) po_none (po_some (pe_un un_neg pe_int)))))
      (pss_one (ps_ret (pe_lc (own := [("row", 3), ("above", 4), ("rule", 5)]) rfl sc_folded_picture.nd (pi_zip3K K (by rfl) T.b_zip (pa_cons (pv 0) (pa_cons (pv 2) (pa_cons (pv 1) pa_nil)))) (blkOk_by (own := [("row", 3), ("above", 4), ("rule", 5)]) (N := ["picture", "rules", "aboves", "row", "above", "rule"]) (sc := defScope s_folded_picture) (by decide +kernel)) (fun _ _ _ _ _ => (pg_tupK (n := 3) K rfl (pgs_cons (pg_name (i := 3) sc_folded_picture.nd rfl (Or.inl rfl)) (pgs_cons (pg_name (i := 4) sc_folded_picture.nd rfl (Or.inl rfl)) (pgs_cons (pg_name (i := 5) sc_folded_picture.nd rfl (Or.inl rfl)) pgs_nil))))) (fun _ _ _ _ _ => pts_nil) (fun _ _ _ _ _ => (pe_cal (ok_folded_row T) hr (by decide) (by rfl) T.g_folded_row pass0 (pa_cons (pv 3) (pa_cons (pv 4) (pa_cons (pv 5) pa_nil))))))))))), ?_⟩), F.bindsN fun _ _ _ _ _ _ us hl => match us, hl with | [_, _], _ => rfl⟩, F.kp⟩
  obtain ⟨a, rows, b, ks, rfl, hp, ok, hk, hl, hf, q⟩ := h
  obtain ⟨w, w1, w2, hw⟩ := ok.wide
  walk_at "rd"
  refine ⟨a, rows, b, ks, rfl, hp, ok, hk, hl, fun _ H1 s1 => ?_, fun h => by rw [hf] at h; cases h⟩
  walk_at "rd"
  refine r_klst (len_le rfl) fun p1 H2 n2 s2 e2 => ?_
  walk_at "rd"
  obtain ⟨ps, h1, h2, h3⟩ := (hp.same s1).same s2
  have hpl : ps.length = rows.length := by rw [← h2]; simp
  have hr24 := ok.2.1
  refine r_slL (SqL.of h1) fun p3 H3 n3 s3 e3 => ?_
  rw [cut_m1] at e3
  walk_at "rd"
  refine r_cat (s3 _ _ e2) e3 (szl (by simp; omega)) fun p4 H4 n4 s4 e4 => ?_
  walk_at "rd"
  have hk4 := s4 _ _ (s3 _ _ (s2 _ _ (s1 _ _ hk)))
  have h14 := s4 _ _ (s3 _ _ h1)
  have h34 : ∀ p ∈ ps, Ints H4 p.1 p.2 := fun p hp => s4 _ _ (s3 _ _ (h3 p hp))
  have sA := ((s1.trans s2).trans s3).trans s4
  refine r_ki3 (SqL.of h14) (SqL.of e4) (ints_sq hk4) ?_
  have l1 : (ps.map fun p => V.ref p.1).length = rows.length := by simp [hpl]
  have l2 : ([V.non] ++ (ps.map fun p => V.ref p.1).take ((ps.map fun p => V.ref p.1).length - 1)).length = rows.length := by simp; have := ok.1; omega
  have l3 : (ks.map V.int).length = rows.length := by simp [hl]
  refine klc_pic (walk_zip3 l1 l2 l3) (szl (by omega)) (fun H' s => ⟨SqL.of (s _ _ h14), SqL.of (s _ _ e4), ints_sq (s _ _ hk4)⟩) (foldPic none rows ks) (foldPic_len none rows ks hl.symm) (fun i x H5 H6 r hr s5 y Z z => ?_) fun p H5 s5 hpn => ?_
  · obtain ⟨t, x1, x2, x3, rfl, hT, rfl, f1, f2, f3⟩ := y
    obtain ⟨q1, g1, rfl⟩ := map_atc f1
    obtain ⟨k, g3, rfl⟩ := map_atc f3
    have hm : q1 ∈ ps := List.mem_of_getElem? g1
    have s6 : Same H5 (upd H5 t (.tup [.ref q1.1, x2, .int k])) := same_up hT
    refine r_gt3 (SqT.of upd_same) ⟨rfl, ?_⟩
    generalize upd H5 t (.tup [.ref q1.1, x2, .int k]) = H6 at s6 ⊢
    have hx : rows[i]? = some q1.2 := by rw [← h2, List.getElem?_map, g1]; rfl
    have hwq := hw q1.2 (List.mem_of_getElem? hx)
    have hat := foldPic_at i none rows ks q1.2 k hx g3
    rw [hr] at hat
    have er := Option.some.inj hat
    walk_at "rd"
    refine ⟨q1.1, q1.2, x2, ups (upAt none rows i) q1.2.length, k, rfl, s6 _ _ (s5 _ _ (h34 q1 hm)), by omega, (above_at h2 h34 (w := w) (List.getElem?_eq_some_iff.mp g1).1 f2 _).same (s5.trans s6), ?_, List.all_eq_true.mp hf k (List.mem_of_getElem? g3), fun p7 H7 n7 s7 e7 => ?_⟩
    · rw [hwq.1]
      exact up_len (fun r hr => (hw r hr).1) i
    · rw [← er] at e7
      exact z p7 H7 (s6.trans s7) (s6.free n7) e7
  · refine q p H5 (sA.trans s5) ?_
    obtain ⟨n, qs, k1, k2, k3⟩ := hpn
    exact ⟨sA.free n, qs, k1, k2, fun z hz => ⟨sA.free (k3 z hz).1, (k3 z hz).2⟩⟩
end
def sp_unfolded_picture (K : PySem.W.Frag) : Sp := fun vs H Q E => ∃ (a : Addr) (rows : List (List Int)) (b : Addr) (ks : List Int), vs = [.ref a, .ref b] ∧ Pic H a rows ∧ PicOk rows ∧ Ints H b ks ∧ ks.length = rows.length ∧
  ((ks.all isFold = true → ∀ p H', Same H H' → Pic H' p (unfoldPic none rows ks) → Q (.ref p) H') ∧ (ks.all isFold = false → ∀ H', Same H H' → E (.ref (He.ga K "BadRule")) none H'))
theorem sc_unfolded_picture : FnScope ["rows", "rules", "found", "row", "rule", "above"] ["rows", "rules"] (defScope s_unfolded_picture) := ⟨rfl, rfl, rfl, by decide +kernel, rfl, by decide +kernel, by decide +kernel⟩
section
theorem len_unfolded_picture {K : PySem.W.Frag} {vs : List V} {H : Hp} {Q : VK} {E : XK} (h : (sp_unfolded_picture K) vs H Q E) : vs.length = 2 := by
  repeat (obtain ⟨_, h⟩ := h)
  subst_vars; rfl
variable {P : Program} {w : World} {K : PySem.W.Frag} {mg : Str → Option Value} {base : Heap}
theorem ok_unfolded_picture (T : Tx K mg) : Cal P w K mg base (L2N.CX P w) 7 (He.ga K "unfolded_picture") ["rows", "rules"] (sp_unfolded_picture K) := by
  obtain ⟨fd, F⟩ := T.F_unfolded_picture
  refine ⟨⟨fd, F.ok sc_unfolded_picture (fun vs H Q E h => len_unfolded_picture h) (fun cdv A outer s H vs Q E hr h => ⟨_, (
      (pss_cons (ps_expr (pe_cal (ok_need_folds T) hr (by decide) (by rfl) T.g_need_folds (L2N.passes_call (L2N.takes_of rfl rfl rfl rfl) (fun _ _ _ _ h => h)) (pa_cons (pv 0) (pa_cons (pv 1) pa_nil))))
      (pss_cons (ps_set (i := 2) sc_unfolded_picture.nd rfl (Or.inl rfl) (pe_lst pa_nil))
      (pss_cons (ps_for (passes_of rfl) rfl (pi_zipK K (by rfl) T.b_zip (pa_cons (pv 0) (pa_cons (pv 1) pa_nil))) (pg_tupK (n := 2) K rfl (pgs_cons (pg_name (i := 3) sc_unfolded_picture.nd rfl (Or.inl rfl)) (pgs_cons (pg_name (i := 4) sc_unfolded_picture.nd rfl (Or.inl rfl)) pgs_nil)))
      (pss_cons (ps_set (i := 5) sc_unfolded_picture.nd rfl (Or.inl rfl) (pe_ifExp (pt_cmpR (op_neDK K hr.units) (pv 2) (pe_lst pa_nil) (nomark _)) (pe_ix (ix_listK K) (pv 2) (pe_un un_neg pe_int) (fun _ _ => rfl)) pe_non))
      (pss_one (ps_expr (pe_bmK K PySem.F.plainAttrs_list PySem.F.slot_list_append PySem.F.type_list_append mt_append (pv 2) (pa_cons (pe_cal (ok_unfolded_row T) hr (by decide) (by rfl) T.g_unfolded_row pass0 (pa_cons (pv 3) (pa_cons (pv 5) (pa_cons (pv 4) pa_nil)))) pa_nil))))))
      (pss_one (ps_ret (pv 2))))))), ?_⟩), F.bindsN fun _ _ _ _ _ _ us hl => match us, hl with | [_, _], _ => rfl⟩, F.kp⟩
  obtain ⟨a, rows, b, ks, rfl, hp, ok, hk, hl, q1, q2⟩ := h
  obtain ⟨w, w1, w2, hw⟩ := ok.wide
  have hr24 := ok.2.1
  walk_at "rd"
  refine ⟨a, rows, b, ks, rfl, hp, ok, hk, hl, fun hf H1 s1 => ?_, q2⟩
  walk_at "rd"
  refine r_klst (len_le rfl) fun p H2 n2 s2 e2 => ?_
  walk_at "rd"
  obtain ⟨ps, h1, h2, h3⟩ := hp.same s1
  have hpl : ps.length = rows.length := by rw [← h2]; simp
  have hul := unfoldPic_len none rows ks hl.symm
  refine r_kiz (SqL.of (s2 _ _ h1)) (ints_sq (s2 _ _ (s1 _ _ hk))) ?_
  refine kfor (walk_zip (xs := ps.map fun p => V.ref p.1) (ys := ks.map V.int) (n := rows.length) (by simp [hpl, hl])) (fun i σ H3 => (∃ z1 z2 z3, σ = [some (.ref a), some (.ref b), some (.ref p), z1, z2, z3]) ∧ Same H1 (hid p H3) ∧
    ∃ qs : List (Addr × List Int), H3 p = some (.lst (qs.map fun q => V.ref q.1)) ∧ qs.map (·.2) = (unfoldPic none rows ks).take i ∧ ∀ q ∈ qs, Ints (hid p H3) q.1 q.2) ⟨⟨none, none, none, rfl⟩, hid_same0 s2 n2, [], e2, by simp, fun q hq => by cases hq⟩ (fun i σ H3 _ h => ?_) (fun i x σ H3 H4 hi h y => ?_) fun σ H3 h => ?_
  · obtain ⟨_, s, _⟩ := h
    exact ⟨SqL.of (same_of_hid s _ _ h1), ints_sq (same_of_hid s _ _ (s1 _ _ hk))⟩
  · obtain ⟨⟨z1, z2, z3, rfl⟩, s3, qs, k1, k2, k3⟩ := h
    obtain ⟨t, x1, x2, rfl, hT, rfl, f1, f2⟩ := y
    obtain ⟨y1, g1, rfl⟩ := map_atc f1
    obtain ⟨k, g3, rfl⟩ := map_atc f2
    have hm : y1 ∈ ps := List.mem_of_getElem? g1
    have hx : rows[i]? = some y1.2 := by rw [← h2, List.getElem?_map, g1]; rfl
    have hwq := hw y1.2 (List.mem_of_getElem? hx)
    have hat := unfoldPic_at i none rows ks y1.2 k hx g3
    have s4 : Same H3 (upd H3 t (.tup [.ref y1.1, .int k])) := same_up hT
    refine r_gt2 (SqT.of upd_same) ?_
    generalize upd H3 t (.tup [.ref y1.1, .int k]) = H4 at s4 ⊢
    have hql : qs.length = i := by
      have := congrArg List.length k2
      simp at this
      omega
    refine r_seq (r_asg (gcut (fun v H' => AboveV H' v y1.2.length (ups (upAt none (unfoldPic none rows ks) i) y1.2.length)) (fun Z z => ?_) fun v H5 s5 hv => ?_))
    · walk_at "rd"
      refine r_klst (len_le rfl) fun p5 H5 n5 s5 e5 => ?_
      have k15 := s5 _ _ (s4 _ _ k1)
      have k35 : ∀ q ∈ qs, Ints H5 q.1 q.2 := fun q hq => s5 _ _ (s4 _ _ (unhid (k3 q hq)))
      refine r_neD (dp_P (SqL.of k15) k35) (dp_nil e5) (shaped_P _) shaped_nil ?_
      rw [eqv_P0]
      walk_at "rd"
      cases i with
      | zero =>
        have : qs = [] := List.length_eq_zero_iff.mp hql
        subst this
        refine iteF ?_
        walk_at "rd"
        exact z _ H5 s5 (.inl ⟨rfl, rfl⟩)
      | succ i =>
        have hne : (qs.map (·.2)).isEmpty = false := by
          cases qs with
          | nil => simp at hql
          | cons a b => rfl
        rw [hne]
        walk_at "rd"
        have hlast : ∃ y2, qs[i]? = some y2 := ⟨qs[i]'(by omega), List.getElem?_eq_getElem (by omega)⟩
        obtain ⟨y2, hy2⟩ := hlast
        refine r_ixL (SqL.of k15) (v := .ref y2.1) (atI_neg (j := 1) (by decide) (by simp; omega) ?_) ?_
        · rw [List.length_map, hql, show i + 1 - 1 = i by omega, List.getElem?_map, hy2]
          rfl
        · refine z _ H5 s5 (.inr ⟨y2.1, rfl, ?_⟩)
          have e2' : ((unfoldPic none rows ks).take (i + 1))[i]? = some y2.2 := by rw [← k2, List.getElem?_map, hy2]; rfl
          rw [List.getElem?_take_of_lt (by omega)] at e2'
          rw [show upAt none (unfoldPic none rows ks) (i + 1) = some y2.2 from e2']
          exact k35 y2 (List.mem_of_getElem? hy2)
    · walk_at "rd"
      refine r_kbmL (SqL.of (s5 _ _ (s4 _ _ k1))) ?_
      walk_at "rd"
      refine ⟨y1.1, y1.2, v, _, k, rfl, s5 _ _ (s4 _ _ (same_of_hid s3 _ _ (h3 y1 hm))), by omega, hv, ?_, List.all_eq_true.mp hf k (List.mem_of_getElem? g3), fun p6 H6 n6 s6 e6 => ?_⟩
      · rw [hwq.1]
        exact up_len (unfoldPic_w none rows ks (fun r e => by cases e) fun r hr => (hw r hr).1) i
      · have s36 := (s4.trans s5).trans s6
        have np : p6 ≠ p := fun z => by subst z; have := s5 _ _ (s4 _ _ k1); rw [n6] at this; cases this
        walk_at "rd"
        refine r_append (s36 _ _ k1) (szt (by simp; omega)) ?_
        refine ⟨⟨_, _, _, rfl⟩, same_hidU (same_hidS s3 s36), qs ++ [(p6, unfoldRow k y1.2 (ups (upAt none (unfoldPic none rows ks) i) y1.2.length))], ?_, ?_, ?_⟩
        · rw [upd_same]
          simp
        · rw [List.map_append, k2, List.take_add_one, hat]
          rfl
        · rw [hid_upd]
          intro z hz
          rcases List.mem_append.mp hz with hz | hz
          · exact hid_same s36 _ _ (k3 z hz)
          · simp at hz
            subst hz
            show hid p H6 p6 = _
            rw [hid_ne np]
            exact e6
  · obtain ⟨⟨z1, z2, z3, rfl⟩, s3, qs, k1, k2, k3⟩ := h
    walk_at "rd"
    rw [List.take_of_length_le (by omega)] at k2
    exact q1 hf p H3 (s1.trans (same_of_hid s3)) ⟨qs, k1, k2, fun z hz => unhid (k3 z hz)⟩
end
def sp_many_runs : Sp := fun vs H Q _ => ∃ (a : Addr) (ns : List Int), vs = [.ref a] ∧ Ints H a ns ∧ ns.length ≤ 1000 ∧ ∀ (m : Int) H', Same H H' → Q (.int m) H'
theorem sc_many_runs : FnScope ["cells", "one", "other"] ["cells"] (defScope s_many_runs) := ⟨rfl, rfl, rfl, by decide +kernel, rfl, by decide +kernel, by decide +kernel⟩
section
theorem len_many_runs {vs : List V} {H : Hp} {Q : VK} {E : XK} (h : (sp_many_runs) vs H Q E) : vs.length = 1 := by
  repeat (obtain ⟨_, h⟩ := h)
  subst_vars; rfl
variable {P : Program} {w : World} {K : PySem.W.Frag} {mg : Str → Option Value} {base : Heap}
theorem ok_many_runs (T : Tx K mg) : Cal P w K mg base CX0 1 (He.ga K "many_runs") ["cells"] (sp_many_runs) := by
  obtain ⟨fd, F⟩ := T.F_many_runs
  refine ⟨⟨fd, F.ok sc_many_runs (fun vs H Q E h => len_many_runs h) (fun cdv A outer s H vs Q E hr h => ⟨_, PSs.nox (
      (pss_one (ps_ret (pe_op op_add pe_int (pe_callB (cal_lenK K) (by rfl) T.b_len PySem.boot_len (pa_cons (pe_lc (own := [("one", 1), ("other", 2)]) rfl sc_many_runs.nd (pi_zipK K (by rfl) T.b_zip (pa_cons (pv 0) (pa_cons (pe_slice (sl_listK K) (pv 0) (po_some pe_int) po_none) pa_nil))) (blkOk_by (own := [("one", 1), ("other", 2)]) (N := ["cells", "one", "other"]) (sc := defScope s_many_runs) (by decide +kernel)) (fun _ _ _ _ _ => (pg_tupK (n := 2) K rfl (pgs_cons (pg_name (i := 1) sc_many_runs.nd rfl (Or.inl rfl)) (pgs_cons (pg_name (i := 2) sc_many_runs.nd rfl (Or.inl rfl)) pgs_nil)))) (fun _ _ _ _ _ => (pts_one (pt_cmpR op_ne (pv 1) (pv 2) (nomark _)))) (fun _ _ _ _ _ => (pv 1))) pa_nil)))))), ?_⟩), F.bindsN fun _ _ _ _ _ _ us hl => match us, hl with | [_], _ => rfl⟩, F.kp⟩
  obtain ⟨a, ns, rfl, hn, hz, q⟩ := h
  walk_at "rd"
  refine r_slL (ints_sq hn) fun p1 H1 n1 s1 e1 => ?_
  rw [show (1 : Int) = ((1 : Nat) : Int) from rfl, cutI_i] at e1
  walk_at "rd"
  refine r_kiz (ints_sq (s1 _ _ hn)) (ints_sq e1) ?_
  refine klc (walk_zip (xs := ns.map V.int) (ys := (ns.drop 1).map V.int) (n := min ns.length (ns.drop 1).length) (by simp)) (fun H' s => ⟨ints_sq (s _ _ (s1 _ _ hn)), ints_sq (s _ _ e1)⟩) (fun i acc h => True) trivial (fun D i x H2 H3 acc hi hD s e l r y => ?_) fun p H2 ys hp s e l r => ?_
  · obtain ⟨t, x1, x2, rfl, hT, rfl, f1, f2⟩ := y
    obtain ⟨y1, g1, rfl⟩ := map_atc f1
    obtain ⟨y2, g2, rfl⟩ := map_atc f2
    have s3 : Same H2 (upd H2 t (.tup [.int y1, .int y2])) := same_up hT
    refine r_gt2 (SqT.of upd_same) ⟨rfl, ?_⟩
    generalize upd H2 t (.tup [.int y1, .int y2]) = H3 at s3 ⊢
    walk_at "rd"
    refine r_if (fun hc => ?_) fun hc => ?_
    · walk_at "rd"
      exact r_kyes (s3 _ _ e) l (szt (by omega)) (same_hidS s s3) trivial
    · exact r_kno (s3 _ _ e) l (same_hidS s s3) trivial
  · walk_at "rd"
    refine r_len (SqL.of e) ?_
    walk_at "rd"
    exact q _ H2 (s1.trans s)
end
def sp_best_rules : Sp := fun vs H Q _ => ∃ (a : Addr) (rows : List (List Int)), vs = [.ref a] ∧ Pic H a rows ∧ PicOk rows ∧ ∀ p ks H', H p = none → Same H H' → Ints H' p ks → ks.length = rows.length → ks.all isFold = true → Q (.ref p) H'
theorem min_at {ns : List Int} {m : Int} (h : m ∈ ns) : ∃ j : Nat, ns[j]? = some m ∧ ∀ (i : Nat) (z : Int), i < j → ns[i]? = some z → z ≠ m := by
  induction ns with
  | nil => cases h
  | cons a r ih =>
    by_cases e : a = m
    · exact ⟨0, by rw [e]; rfl, fun i z hi => absurd hi (Nat.not_lt_zero _)⟩
    · rcases List.mem_cons.mp h with h | h
      · exact absurd h.symm e
      · obtain ⟨j, h1, h2⟩ := ih h
        refine ⟨j + 1, h1, fun i z hi hz => ?_⟩
        cases i with
        | zero => exact fun q => e (by have := Option.some.inj hz; rw [this, q])
        | succ i => exact h2 i z (by omega) hz
theorem r_indexI {K : PySem.W.Frag} {H : Hp} {Q : VK} {a : Addr} {ns : List Int} {m : Int} (h : Ints H a ns) (hm : m ∈ ns) (q : ∀ j : Nat, j < ns.length → Q (.int (j : Nat)) H) : rIndex K (.ref a) [.int m] H Q := by
  obtain ⟨j, h1, h2⟩ := min_at hm
  refine ⟨a, ns.map V.int, .int m, j, .int m, rfl, rfl, SqL.of h, rfl, ?_, ints_at h1, ?_, fun i z hi hz => ?_, q j (List.getElem?_eq_some_iff.mp h1).1⟩
  · rw [List.all_map]
    exact List.all_eq_true.mpr fun _ _ => rfl
  · exact beq_iff_eq.mpr rfl
  · obtain ⟨n, hn, rfl⟩ := map_atc hz
    exact beq_eq_false_iff_ne.mpr (h2 i n hi hn)
theorem sc_best_rules : FnScope ["picture", "found", "row", "above", "prices", "rule"] ["picture"] (defScope s_best_rules) := ⟨rfl, rfl, rfl, by decide +kernel, rfl, by decide +kernel, by decide +kernel⟩
section
theorem len_best_rules {vs : List V} {H : Hp} {Q : VK} {E : XK} (h : (sp_best_rules) vs H Q E) : vs.length = 1 := by
  repeat (obtain ⟨_, h⟩ := h)
  subst_vars; rfl
variable {P : Program} {w : World} {K : PySem.W.Frag} {mg : Str → Option Value} {base : Heap}
theorem ok_best_rules (T : Tx K mg) : Cal P w K mg base CX0 6 (He.ga K "best_rules") ["picture"] (sp_best_rules) := by
  obtain ⟨fd, F⟩ := T.F_best_rules
  refine ⟨⟨fd, F.ok sc_best_rules (fun vs H Q E h => len_best_rules h) (fun cdv A outer s H vs Q E hr h => ⟨_, PSs.nox (
      (pss_cons (ps_expr (pe_cal (ok_need_picture T) hr (by decide) (by rfl) T.g_need_picture pass0 (pa_cons (pv 0) pa_nil)))
      (pss_cons (ps_set (i := 1) sc_best_rules.nd rfl (Or.inl rfl) (pe_lst pa_nil))
      (pss_cons (ps_for PassesOwn.never rfl (pi_zipK K (by rfl) T.b_zip (pa_cons (pv 0) (pa_cons (pe_op op_cat (pe_lst (pa_cons pe_non pa_nil)) (pe_slice (sl_listK K) (pv 0) po_none (po_some (pe_un un_neg pe_int)))) pa_nil))) (pg_tupK (n := 2) K rfl (pgs_cons (pg_name (i := 2) sc_best_rules.nd rfl (Or.inr rfl)) (pgs_cons (pg_name (i := 3) sc_best_rules.nd rfl (Or.inr rfl)) pgs_nil)))
      (pss_cons (ps_setLc (i := 4) (own := [("rule", 5)]) rfl sc_best_rules.nd rfl rfl (sw_true rfl rfl rfl (by decide +kernel)) (pi_range1 (by rfl) T.b_range (pa_cons (pe_op op_add (C8.pe_gc (by rfl) T.k_MOST_RULE) pe_int) pa_nil)) (blkOk_by (own := [("rule", 5)]) (N := ["picture", "found", "row", "above", "prices", "rule"]) (sc := defScope s_best_rules) (by decide +kernel)) (fun _ _ _ _ _ => (pg_name (i := 5) sc_best_rules.nd rfl (Or.inl rfl))) (fun _ _ _ _ _ => pts_nil) (fun _ _ _ _ _ => (pe_cal (ok_many_runs T) hr (by decide) (by rfl) T.g_many_runs pass0 (pa_cons (pe_cal (ok_folded_row T) hr (by decide) (by rfl) T.g_folded_row pass0 (pa_cons (pv 2) (pa_cons (pv 3) (pa_cons (pv 5) pa_nil)))) pa_nil))))
      (pss_one (ps_expr (pe_bmK K PySem.F.plainAttrs_list PySem.F.slot_list_append PySem.F.type_list_append mt_append (pv 1) (pa_cons (pe_bmK K PySem.F.plainAttrs_list PySem.F.slot_list_index PySem.F.type_list_index (mt_indexK K) (pv 4) (pa_cons (pe_callB (cr_minK K rfl) (by rfl) T.b_min (by decide +kernel) (pa_cons (pv 4) pa_nil)) pa_nil)) pa_nil))))))
      (pss_one (ps_ret (pv 1))))))), ?_⟩), F.bindsN fun _ _ _ _ _ _ us hl => match us, hl with | [_], _ => rfl⟩, F.kp⟩
  obtain ⟨a, rows, rfl, hp, ok, q⟩ := h
  obtain ⟨w, w1, w2, hw⟩ := ok.wide
  have hr24 := ok.2.1
  walk_at "rd"
  refine ⟨a, rows, rfl, hp, ok, fun H1 s1 => ?_⟩
  walk_at "rd"
  refine r_klst (len_le rfl) fun p H2 n2 s2 e2 => ?_
  walk_at "rd"
  refine r_klst (len_le rfl) fun p3 H3 n3 s3 e3 => ?_
  walk_at "rd"
  have sA := (s1.trans s2).trans s3
  obtain ⟨ps, o1, h2, o3⟩ := id hp
  have h1 := sA _ _ o1
  have hpl : ps.length = rows.length := by rw [← h2]; simp
  refine r_slL (SqL.of h1) fun p4 H4 n4 s4 e4 => ?_
  rw [cut_m1] at e4
  refine r_cat (s4 _ _ e3) e4 (szl (by simp; omega)) fun p5 H5 n5 s5 e5 => ?_
  have s45 := s4.trans s5
  have ne1 : p ≠ p5 := ne_of_none (s4 _ _ (s3 _ _ e2)) n5
  have npH1 : H p = none := s1.free n2
  have np0 : ∀ {b o}, H b = some o → b ≠ p := fun {b o} h => ne_of_none h npH1
  refine r_kiz (SqL.of (s45 _ _ h1)) (SqL.of e5) ?_
  have hps : Same H (hid p H5) := hid_same0 (sA.trans s45) npH1
  have e50 : (hid p H5) p5 = some (.lst ([V.non] ++ (ps.map fun p => V.ref p.1).take ((ps.map fun p => V.ref p.1).length - 1))) := by rw [hid_ne ne1.symm]; exact e5
  have hps1 := hps _ _ o1
  have hpi : ∀ y ∈ ps, Ints (hid p H5) y.1 y.2 := fun y hy => hps _ _ (o3 y hy)
  have l1 : (ps.map fun p => V.ref p.1).length = rows.length := by simp [hpl]
  have l2 : ([V.non] ++ (ps.map fun p => V.ref p.1).take ((ps.map fun p => V.ref p.1).length - 1)).length = rows.length := by simp; have := ok.1; omega
  refine kfor (walk_zip (xs := ps.map fun p => V.ref p.1) (ys := [V.non] ++ (ps.map fun p => V.ref p.1).take ((ps.map fun p => V.ref p.1).length - 1)) (n := rows.length) (by rw [l2, l1]; omega)) (fun i σ H6 => (∃ z1 z2 z3 z4, σ = [some (.ref a), some (.ref p), z1, z2, z3, z4]) ∧ Same (hid p H5) (hid p H6) ∧
    ∃ ks, Ints H6 p ks ∧ ks.length = i ∧ ks.all isFold = true) ⟨⟨none, none, none, none, rfl⟩, Same.refl _, [], s45 _ _ (s3 _ _ e2), rfl, rfl⟩ (fun i σ H6 _ h => ?_) (fun i x σ H6 H7 hi h y => ?_) fun σ H6 h => ?_
  · obtain ⟨_, s, _⟩ := h
    exact ⟨SqL.of (unhid (s _ _ hps1)), SqL.of (unhid (s _ _ e50))⟩
  · obtain ⟨⟨z1, z2, z3, z4, rfl⟩, s6, ks, k1, k2, k3⟩ := h
    obtain ⟨t, x1, x2, rfl, hT, rfl, f1, f2⟩ := y
    obtain ⟨y1, g1, rfl⟩ := map_atc f1
    have hm : y1 ∈ ps := List.mem_of_getElem? g1
    have hx : rows[i]? = some y1.2 := by rw [← h2, List.getElem?_map, g1]; rfl
    have hwq := hw y1.2 (List.mem_of_getElem? hx)
    have s7 : Same H6 (upd H6 t (.tup [.ref y1.1, x2])) := same_up hT
    refine r_gt2 (SqT.of upd_same) ?_
    generalize upd H6 t (.tup [.ref y1.1, x2]) = H7 at s7 ⊢
    have habv := above_at h2 hpi (w := w) (List.getElem?_eq_some_iff.mp g1).1 f2 y1.2.length
    have s57 : Same (hid p H5) H7 := fun b o e => s7 _ _ (unhid (s6 _ _ e))
    walk_at "rd"
    refine r_ki1 (by omega) (by omega) ?_
    refine klc (walk_range (lo := 0) (n := 5)) (fun _ _ => trivial) (fun i acc h => ∃ ms : List Int, acc = ms.map V.int ∧ ms.length = i) ⟨[], rfl, rfl⟩ (fun D j x H8 H9 acc hj hD s e l r y => ?_) fun p9 H9 ys hp9 s9 e9 l9 r9 => ?_
    · obtain ⟨rfl, rfl⟩ := y
      obtain ⟨ms, rfl, hms⟩ := r
      walk_at "rd"
      refine ⟨rfl, ?_⟩
      walk_at "rd"
      have sD := same_of_hid s
      refine ⟨y1.1, y1.2, x2, ups (upAt none rows i) y1.2.length, _, rfl, sD _ _ (s57 _ _ (hpi y1 hm)), by omega, (habv.same s57).same sD, ?_, decide_eq_true (by omega), fun p10 H10 n10 s10 e10 => ?_⟩
      · rw [hwq.1]
        exact up_len (fun r hr => (hw r hr).1) i
      · refine ⟨p10, _, rfl, e10, ?_, fun m H11 s11 => ?_⟩
        · rw [foldRow_len (by rw [hwq.1]; exact (up_len (fun r hr => (hw r hr).1) i).symm)]
          omega
        · exact r_kyes (s11 _ _ (s10 _ _ e)) l (szt (by omega)) (same_hidS s (s10.trans s11)) ⟨ms ++ [m], by simp, by simp [hms]⟩
    · obtain ⟨ms, rfl, hms⟩ := r9
      walk_at "rd"
      have k9 := s9 _ _ (s7 _ _ k1)
      refine r_kbmL (SqL.of k9) ?_
      walk_at "rd"
      refine r_kbmL (SqL.of e9) ?_
      walk_at "rd"
      refine r_min e9 (by omega) fun m hm _ => ?_
      walk_at "rd"
      refine r_indexI e9 hm fun j hj => ?_
      walk_at "rd"
      refine r_append k9 (szt (by simp; omega)) ?_
      refine ⟨⟨_, _, _, _, rfl⟩, fun b o e => ?_, ks ++ [(j : Int)], ?_, by simp [k2], ?_⟩
      · rw [hid_upd]
        exact hid_same (s7.trans s9) _ _ (s6 _ _ e)
      · show (upd _ _ _) _ = _
        rw [upd_same]
        simp
      · rw [List.all_append, k3]
        simp only [List.all_cons, List.all_nil, Bool.and_true, Bool.true_and]
        exact decide_eq_true (by omega)
  · obtain ⟨⟨z1, z2, z3, z4, rfl⟩, s6, ks, k1, k2, k3⟩ := h
    walk_at "rd"
    exact q p ks H6 npH1 (fun b o e => unhid (s6 _ _ (hps _ _ e))) k1 k2 k3
end
end K44
set_option Elab.async false
set_option linter.all false
set_option maxRecDepth 100000
set_option maxHeartbeats 4000000
namespace K44
open PySem PySem.Spec PyProof.Rows L2
local macro_rules | `(tactic| walk_at "rd1") => `(tactic| first
  | ((with_reducible apply r_var); rfl)
  | ((with_reducible apply r_aug); rfl)
  | with_reducible apply r_isiI
  | with_reducible apply r_tslS
  | with_reducible apply r_try
  | with_reducible apply r_gsub
  | with_reducible apply r_irev
  | with_reducible apply r_trg1
  | with_reducible apply r_sfld
  | with_reducible apply r_afld
  | with_reducible apply r_rAdd
  | with_reducible apply r_dget
  | with_reducible apply r_din
  | with_reducible apply r_dnot
  | with_reducible apply r_dput
  | with_reducible apply r_ikeys
  | with_reducible apply r_m1
  | with_reducible apply r_km1
  | with_reducible apply r_inS
  | with_reducible apply r_notInS
  | with_reducible apply r_isN
  | with_reducible apply r_ip
  | with_reducible apply r_kbmS
  | with_reducible apply r_min2
  | with_reducible apply r_isiB
  | with_reducible apply r_isiS
  | with_reducible apply r_tyes
  | with_reducible apply iteT
  | with_reducible apply iteF
  | with_reducible apply r_nT
  | with_reducible apply r_nF
  | with_reducible apply r_callS
  | with_reducible apply r_meth
  | with_reducible apply r_methS
  | with_reducible apply r_methD
  | with_reducible apply r_make
  | with_reducible apply r_lc
  | with_reducible apply r_for
  | with_reducible apply r_ilist
  | with_reducible apply r_itup
  | with_reducible apply r_irng1
  | with_reducible apply r_irng2
  | with_reducible apply r_istr
  | with_reducible apply r_ienum
  | with_reducible apply r_izip
  | with_reducible apply r_izip3
  | with_reducible apply r_izip4
  | with_reducible apply r_kis
  | with_reducible apply r_c
  | with_reducible apply r_op
  | with_reducible apply r_un
  | with_reducible apply r_i0
  | with_reducible apply r_u
  | with_reducible apply r_eqI
  | with_reducible apply r_neI
  | with_reducible apply r_eqS
  | with_reducible apply r_neS
  | with_reducible apply r_test
  | with_reducible apply r_B
  | with_reducible apply r_bl
  | with_reducible apply r_int
  | with_reducible apply r_and
  | with_reducible apply r_or
  | with_reducible apply r_not
  | with_reducible apply r_andV
  | with_reducible apply r_orV
  | with_reducible apply r_notV
  | with_reducible apply r_chain
  | with_reducible apply r_tif
  | with_reducible apply r_nil
  | with_reducible apply r_cons
  | with_reducible apply r_cb
  | with_reducible apply r_call
  | with_reducible apply r_seq
  | with_reducible apply r_asg
  | with_reducible apply r_name
  | with_reducible apply r_drop
  | with_reducible apply r_ret
  | with_reducible apply r_retN
  | with_reducible apply r_next
  | with_reducible apply r_ifS
  | with_reducible apply r_tup
  | with_reducible apply r_lst
  | with_reducible apply r_sl
  | with_reducible apply r_nopart
  | with_reducible apply r_part
  | with_reducible apply r_fld
  | with_reducible apply r_bm
  | with_reducible apply r_bm0)
local macro_rules | `(tactic| walk_at "rd") => `(tactic| repeat (walk_at "rd1"))

def sp_all_cells : Sp := fun vs H Q _ => ∃ (a : Addr) (rows : List (List Int)), vs = [.ref a] ∧ Pic H a rows ∧ PicOk rows ∧ ∀ p H', H p = none → Same H H' → Ints H' p rows.flatten → Q (.ref p) H'
theorem flat_len {w : Nat} : ∀ {rows : List (List Int)}, (∀ r ∈ rows, r.length = w) → rows.flatten.length = w * rows.length
  | [], _ => by simp
  | r :: rows, h => by
    rw [List.flatten_cons, List.length_append, flat_len fun r hr => h r (List.mem_cons_of_mem _ hr), h r (List.mem_cons_self ..), List.length_cons, Nat.mul_succ]
    omega
theorem sc_all_cells : FnScope ["picture", "found", "row"] ["picture"] (defScope s_all_cells) := ⟨rfl, rfl, rfl, by decide +kernel, rfl, by decide +kernel, by decide +kernel⟩
section
theorem len_all_cells {vs : List V} {H : Hp} {Q : VK} {E : XK} (h : (sp_all_cells) vs H Q E) : vs.length = 1 := by
  repeat (obtain ⟨_, h⟩ := h)
  subst_vars; rfl
variable {P : Program} {w : World} {K : PySem.W.Frag} {mg : Str → Option Value} {base : Heap}
theorem ok_all_cells (T : Tx K mg) : Cal P w K mg base CX0 6 (He.ga K "all_cells") ["picture"] (sp_all_cells) := by
  obtain ⟨fd, F⟩ := T.F_all_cells
  refine ⟨⟨fd, F.ok sc_all_cells (fun vs H Q E h => len_all_cells h) (fun cdv A outer s H vs Q E hr h => ⟨_, PSs.nox (
      (pss_cons (ps_expr (pe_cal (ok_need_picture T) hr (by decide) (by rfl) T.g_need_picture pass0 (pa_cons (pv 0) pa_nil)))
      (pss_cons (ps_set (i := 1) sc_all_cells.nd rfl (Or.inl rfl) (pe_lst pa_nil))
      (pss_cons (ps_for PassesOwn.never rfl (pi_listK K (pv 0)) (pg_name (i := 2) sc_all_cells.nd rfl (Or.inl rfl))
      (pss_one (ps_aug (i := 1) sc_all_cells.nd rfl (Or.inl rfl) (pv 2) iop_ext)))
      (pss_one (ps_ret (pv 1))))))), ?_⟩), F.bindsN fun _ _ _ _ _ _ us hl => match us, hl with | [_], _ => rfl⟩, F.kp⟩
  obtain ⟨a, rows, rfl, hp, ok, q⟩ := h
  obtain ⟨w, w1, w2, hw⟩ := ok.wide
  have hr24 := ok.2.1
  walk_at "rd"
  refine ⟨a, rows, rfl, hp, ok, fun H1 s1 => ?_⟩
  walk_at "rd"
  refine r_klst (len_le rfl) fun p H2 n2 s2 e2 => ?_
  walk_at "rd"
  obtain ⟨ps, h1, h2, h3⟩ := hp.same s1
  have hpl : ps.length = rows.length := by rw [← h2]; simp
  have hfl : rows.flatten.length ≤ 576 := by
    rw [flat_len fun r hr => (hw r hr).1]
    exact Nat.mul_le_mul w2 hr24
  refine r_kil (SqL.of (s2 _ _ h1)) ?_
  refine kfor (walk_list (xs := ps.map fun p => V.ref p.1)) (fun i σ H3 => (∃ z1, σ = [some (.ref a), some (.ref p), z1]) ∧ Same H1 (hid p H3) ∧ Ints H3 p (rows.take i).flatten) ⟨⟨none, rfl⟩, hid_same0 s2 n2, e2⟩ (fun i σ H3 _ h => ?_) (fun i x σ H3 H4 hi h y => ?_) fun σ H3 h => ?_
  · obtain ⟨_, s, _⟩ := h
    exact SqL.of (same_of_hid s _ _ h1)
  · obtain ⟨⟨z1, rfl⟩, s3, e3⟩ := h
    obtain ⟨rfl, hx⟩ := y
    obtain ⟨y1, g1, rfl⟩ := map_atc hx
    have hm : y1 ∈ ps := List.mem_of_getElem? g1
    have hx : rows[i]? = some y1.2 := by rw [← h2, List.getElem?_map, g1]; rfl
    have et : (rows.take (i + 1)).flatten = (rows.take i).flatten ++ y1.2 := by rw [List.take_add_one, hx]; simp
    have hlt : ((rows.take i).flatten ++ y1.2).length ≤ 576 := by
      rw [← et]
      refine Nat.le_trans ?_ hfl
      conv => rhs; rw [← List.take_append_drop (i + 1) rows]
      rw [List.flatten_append, List.length_append]
      omega
    rw [List.length_append] at hlt
    walk_at "rd"
    refine r_ext2 e3 (same_of_hid s3 _ _ (h3 y1 hm)) (szl (by rw [List.length_map, List.length_map]; omega)) ?_
    walk_at "rd"
    refine ⟨⟨_, rfl⟩, same_hidU s3, ?_⟩
    show (upd _ _ _) _ = _
    rw [upd_same, et, List.map_append]
  · obtain ⟨⟨z1, rfl⟩, s3, e3⟩ := h
    walk_at "rd"
    rw [List.take_of_length_le (by simp; omega)] at e3
    exact q p H3 (s1.free n2) (s1.trans (same_of_hid s3)) e3
end
def chunkM (w h : Nat) (cs : List Int) : List (List Int) := (List.range h).map fun y => (cs.drop (y * w)).take w
def sp_rows_by : Sp := fun vs H Q _ => ∃ (a : Addr) (cs : List Int) (w h : Nat), vs = [.ref a, .int w] ∧ Ints H a cs ∧ cs.all isCell = true ∧ cs.length = w * h ∧ (1 ≤ w ∧ w ≤ 24) ∧ (1 ≤ h ∧ h ≤ 24) ∧ ∀ p H', Same H H' → PicN H H' p (chunkM w h cs) → Q (.ref p) H'
theorem chunk_at {w h : Nat} {cs : List Int} {i : Nat} {r : List Int} (e : (chunkM w h cs)[i]? = some r) : r = (cs.drop (i * w)).take w ∧ i < h := by
  obtain ⟨k, e1, e2⟩ := map_atc e
  have hi := (List.getElem?_eq_some_iff.mp e1).1
  simp at hi
  have : k = i := by
    rw [List.getElem?_range hi] at e1
    exact (Option.some.inj e1).symm
  subst this
  exact ⟨e2, hi⟩
theorem chunk_flat {w : Nat} : ∀ {rows : List (List Int)}, (∀ r ∈ rows, r.length = w) → chunkM w rows.length rows.flatten = rows
  | [], _ => rfl
  | r :: rows, h => by
    have ih := chunk_flat fun r hr => h r (List.mem_cons_of_mem _ hr)
    have hr := h r (List.mem_cons_self ..)
    unfold chunkM at ih ⊢
    rw [List.length_cons, List.range_succ_eq_map, List.map_cons, List.map_map]
    congr 1
    · simp [← hr]
    · conv => rhs; rw [← ih]
      refine List.map_congr_left fun y _ => ?_
      show ((r ++ rows.flatten).drop ((y + 1) * w)).take w = _
      rw [Nat.succ_mul, Nat.add_comm, ← List.drop_drop, ← hr, List.drop_left]
theorem sc_rows_by : FnScope ["cells", "wide", "high", "rest", "y"] ["cells", "wide"] (defScope s_rows_by) := ⟨rfl, rfl, rfl, by decide +kernel, rfl, by decide +kernel, by decide +kernel⟩
section
theorem len_rows_by {vs : List V} {H : Hp} {Q : VK} {E : XK} (h : (sp_rows_by) vs H Q E) : vs.length = 2 := by
  repeat (obtain ⟨_, h⟩ := h)
  subst_vars; rfl
variable {P : Program} {w : World} {K : PySem.W.Frag} {mg : Str → Option Value} {base : Heap}
theorem ok_rows_by (T : Tx K mg) : Cal P w K mg base CX0 4 (He.ga K "rows_by") ["cells", "wide"] (sp_rows_by) := by
  obtain ⟨fd, F⟩ := T.F_rows_by
  refine ⟨⟨fd, F.ok sc_rows_by (fun vs H Q E h => len_rows_by h) (fun cdv A outer s H vs Q E hr h => ⟨_, PSs.nox (
      (pss_cons (ps_if (pt_not (pt_val (pe_cal (ok_are_cells T) hr (by decide) (by rfl) T.g_are_cells pass0 (pa_cons (pv 0) pa_nil))))
      (pss_one ps_never) pss_nil)
      (pss_cons (ps_if (pt_not (pt_val (pe_cal (ok_is_among T) hr (by decide) (by rfl) T.g_is_among pass0 (pa_cons (pv 1) (pa_cons pe_int (pa_cons (C8.pe_gc (by rfl) T.k_MOST_SIDE) pa_nil))))))
      (pss_one ps_never) pss_nil)
      (pss_cons (ps_asg (pe_callB cal_divmod (by rfl) T.b_divmod (by decide +kernel) (pa_cons (pe_callB (cal_lenK K) (by rfl) T.b_len PySem.boot_len (pa_cons (pv 0) pa_nil)) (pa_cons (pv 1) pa_nil))) (pg_tupK (n := 2) K rfl (pgs_cons (pg_name (i := 2) sc_rows_by.nd rfl (Or.inl rfl)) (pgs_cons (pg_name (i := 3) sc_rows_by.nd rfl (Or.inl rfl)) pgs_nil))))
      (pss_cons (ps_if (PW.pt (pw_or (pt_cmpR op_ne (pv 3) pe_int (nomark _)) (pw_or1 (pt_not (pt_val (pe_cal (ok_is_among T) hr (by decide) (by rfl) T.g_is_among pass0 (pa_cons (pv 2) (pa_cons pe_int (pa_cons (C8.pe_gc (by rfl) T.k_MOST_SIDE) pa_nil)))))))))
      (pss_one ps_never) pss_nil)
      (pss_one (ps_ret (pe_lc (own := [("y", 4)]) rfl sc_rows_by.nd (pi_range1 (by rfl) T.b_range (pa_cons (pv 2) pa_nil)) (blkOk_by (own := [("y", 4)]) (N := ["cells", "wide", "high", "rest", "y"]) (sc := defScope s_rows_by) (by decide +kernel)) (fun _ _ _ _ _ => (pg_name (i := 4) sc_rows_by.nd rfl (Or.inl rfl))) (fun _ _ _ _ _ => pts_nil) (fun _ _ _ _ _ => (pe_slice (sl_listK K) (pv 0) (po_some (pe_op op_mul (pv 4) (pv 1))) (po_some (pe_op op_add (pe_op op_mul (pv 4) (pv 1)) (pv 1))))))))))))), ?_⟩), F.bindsN fun _ _ _ _ _ _ us hl => match us, hl with | [_, _], _ => rfl⟩, F.kp⟩
  obtain ⟨a, cs, w, hh, rfl, hc, hall, hl, ⟨w1, w2⟩, ⟨h1, h2⟩, q⟩ := h
  have hm : w * hh ≤ 576 := Nat.mul_le_mul w2 h2
  walk_at "rd"
  refine ⟨a, cs, rfl, hc, by omega, fun H1 s1 => ?_⟩
  rw [hall]
  walk_at "rd"
  refine ⟨_, 1, 24, rfl, ?_⟩
  rw [decide_eq_true (by omega)]
  walk_at "rd"
  have hc1 := s1 _ _ hc
  refine r_lenI hc1 ?_
  walk_at "rd"
  refine r_divm ⟨by omega, by omega⟩ fun t H2 n2 s2 e2 => ?_
  walk_at "rd"
  have ed : (cs.length : Int) / (w : Int) = (hh : Int) := by
    rw [hl, Int.natCast_mul, Int.mul_ediv_cancel_left _ (by omega)]
  have em : (cs.length : Int) % (w : Int) = 0 := by
    rw [hl, Int.natCast_mul, Int.mul_emod_right]
  rw [ed, em] at e2
  refine r_gt2 (SqT.of e2) ?_
  walk_at "rd"
  refine r_noN rfl ?_
  walk_at "rd"
  refine ⟨_, 1, 24, rfl, ?_⟩
  rw [decide_eq_true (by omega)]
  walk_at "rd"
  refine r_ki1 (by omega) (by omega) ?_
  rw [show ((hh : Nat) : Int).toNat = hh from rfl]
  have hc2 := s2 _ _ hc1
  refine klc_pic (walk_range (lo := 0) (n := hh)) (szl (by omega)) (fun _ _ => trivial) (chunkM w hh cs) (by simp [chunkM]) (fun i x H3 H4 r hr s3 y Z z => ?_) fun p H3 s3 hpn => ?_
  · obtain ⟨rfl, rfl⟩ := y
    obtain ⟨rfl, hi⟩ := chunk_at hr
    walk_at "rd"
    refine ⟨rfl, ?_⟩
    walk_at "rd"
    refine r_i (.inr ⟨by omega, by omega⟩) ?_
    walk_at "rd"
    refine r_i (.inr ⟨by omega, by omega⟩) ?_
    walk_at "rd"
    refine r_slL (ints_sq (s3 _ _ hc2)) fun p5 H5 n5 s5 e5 => ?_
    rw [show (0 + (i : Int)) * (w : Int) = ((i * w : Nat) : Int) by rw [Int.natCast_mul, Int.zero_add], show ((i * w : Nat) : Int) + (w : Int) = ((i * w + w : Nat) : Int) by omega, cutI_ij, show i * w + w - i * w = w by omega] at e5
    exact z p5 H5 s5 n5 e5
  · obtain ⟨n, qs, k1, k2, k3⟩ := hpn
    have s12 := s1.trans s2
    exact q p H3 (s12.trans s3) ⟨s12.free n, qs, k1, k2, fun z hz => ⟨s12.free (k3 z hz).1, (k3 z hz).2⟩⟩
end
def sp_need_cells : Sp := fun vs H Q _ => ∃ (a : Addr) (cs : List Int), vs = [.ref a] ∧ Ints H a cs ∧ cs.all isCell = true ∧ cs.length ≤ 576 ∧ ∀ H', Same H H' → Q .non H'
theorem sc_need_cells : FnScope ["cells"] ["cells"] (defScope s_need_cells) := ⟨rfl, rfl, rfl, by decide +kernel, rfl, by decide +kernel, by decide +kernel⟩
section
theorem len_need_cells {vs : List V} {H : Hp} {Q : VK} {E : XK} (h : (sp_need_cells) vs H Q E) : vs.length = 1 := by
  repeat (obtain ⟨_, h⟩ := h)
  subst_vars; rfl
variable {P : Program} {w : World} {K : PySem.W.Frag} {mg : Str → Option Value} {base : Heap}
theorem ok_need_cells (T : Tx K mg) : Cal P w K mg base CX0 4 (He.ga K "need_cells") ["cells"] (sp_need_cells) := by
  obtain ⟨fd, F⟩ := T.F_need_cells
  refine ⟨⟨fd, F.ok sc_need_cells (fun vs H Q E h => len_need_cells h) (fun cdv A outer s H vs Q E hr h => ⟨_, PSs.nox (
      (pss_one (ps_if (PW.pt (pw_or (pt_not (pt_val (pe_cal (ok_are_cells T) hr (by decide) (by rfl) T.g_are_cells pass0 (pa_cons (pv 0) pa_nil)))) (pw_or1 (pt_cmpR op_gt (pe_callB (cal_lenK K) (by rfl) T.b_len PySem.boot_len (pa_cons (pv 0) pa_nil)) (C8.pe_gc (by rfl) T.k_MOST_CELLS) (nomark _)))))
      (pss_one ps_never) pss_nil))), ?_⟩), F.bindsN fun _ _ _ _ _ _ us hl => match us, hl with | [_], _ => rfl⟩, F.kp⟩
  obtain ⟨a, cs, rfl, hc, hall, hl, q⟩ := h
  walk_at "rd"
  refine ⟨a, cs, rfl, hc, by omega, fun H1 s1 => ?_⟩
  rw [hall]
  walk_at "rd"
  refine r_lenI (s1 _ _ hc) ?_
  walk_at "rd"
  refine r_no (by omega) ?_
  walk_at "rd"
  exact q H1 s1
end
def wayT (w : Int × Int × Int) : List V := [.int w.1, .int w.2.1, .int w.2.2]
def WaysAt (H : Hp) (p : Addr) (ws : List (Int × Int × Int)) : Prop := ∃ qs : List (Addr × (Int × Int × Int)), H p = some (.lst (qs.map fun q => V.ref q.1)) ∧ qs.map (·.2) = ws ∧ ∀ q ∈ qs, H q.1 = some (.tup (wayT q.2))
theorem WaysAt.same {H H' : Hp} {p : Addr} {ws : List (Int × Int × Int)} (s : Same H H') (h : WaysAt H p ws) : WaysAt H' p ws := by
  obtain ⟨qs, h1, h2, h3⟩ := h
  exact ⟨qs, s _ _ h1, h2, fun q hq => s _ _ (h3 q hq)⟩
theorem WaysAt.snoc {H H' : Hp} {p t : Addr} {ws : List (Int × Int × Int)} {w : Int × Int × Int} {xs : List V} (h : WaysAt H p ws) (s : Same H H') (ht : H' t = some (.tup (wayT w))) (hx : H' p = some (.lst xs)) : WaysAt (upd H' p (.lst (xs ++ [.ref t]))) p (ws ++ [w]) := by
  obtain ⟨qs, h1, h2, h3⟩ := h
  have e := s _ _ h1
  rw [hx] at e
  cases e
  refine ⟨qs ++ [(t, w)], by rw [upd_same]; simp, by simp [h2], fun q hq => ?_⟩
  rcases List.mem_append.mp hq with hq | hq
  · have := s _ _ (h3 q hq)
    rw [upd_ne (ne_of this hx (fun z => by cases z))]
    exact this
  · simp at hq
    subst hq
    rw [upd_ne (ne_of ht hx (fun z => by cases z))]
    exact ht
theorem WaysAt.lst {H : Hp} {p : Addr} {ws : List (Int × Int × Int)} (h : WaysAt H p ws) : ∃ xs, H p = some (.lst xs) ∧ xs.length = ws.length := by
  obtain ⟨qs, h1, h2, h3⟩ := h
  exact ⟨_, h1, by rw [← h2]; simp⟩
def sp_ways_on : Sp := fun vs H Q _ => ∃ (a : Addr) (cs : List Int) (i : Nat), vs = [.ref a, .int i] ∧ Ints H a cs ∧ cs.length ≤ 1000 ∧ i < cs.length ∧ ∀ p H', H p = none → Same H H' → WaysAt H' p (waysM cs i) → Q (.ref p) H'
theorem sc_ways_on : FnScope ["cells", "at", "found", "many", "like"] ["cells", "at"] (defScope s_ways_on) := ⟨rfl, rfl, rfl, by decide +kernel, rfl, by decide +kernel, by decide +kernel⟩
section
theorem len_ways_on {vs : List V} {H : Hp} {Q : VK} {E : XK} (h : (sp_ways_on) vs H Q E) : vs.length = 2 := by
  repeat (obtain ⟨_, h⟩ := h)
  subst_vars; rfl
variable {P : Program} {w : World} {K : PySem.W.Frag} {mg : Str → Option Value} {base : Heap}
theorem ok_ways_on (T : Tx K mg) : Cal P w K mg base CX0 1 (He.ga K "ways_on") ["cells", "at"] (sp_ways_on) := by
  obtain ⟨fd, F⟩ := T.F_ways_on
  refine ⟨⟨fd, F.ok sc_ways_on (fun vs H Q E h => len_ways_on h) (fun cdv A outer s H vs Q E hr h => ⟨_, PSs.nox (
      (pss_cons (ps_set (i := 2) sc_ways_on.nd rfl (Or.inl rfl) (pe_lst pa_nil))
      (pss_cons (ps_for PassesOwn.never rfl (pi_range2 (by rfl) T.b_range (pa_cons pe_int (pa_cons (pe_op op_add (pe_callB (cal_min2 rfl) (by rfl) T.b_min (by decide +kernel) (pa_cons (C8.pe_gc (by rfl) T.k_MOST_PLAIN) (pa_cons (pe_op op_sub (pe_callB (cal_lenK K) (by rfl) T.b_len PySem.boot_len (pa_cons (pv 0) pa_nil)) (pv 1)) pa_nil))) pe_int) pa_nil))) (pg_name (i := 3) sc_ways_on.nd rfl (Or.inl rfl))
      (pss_one (ps_expr (pe_bmK K PySem.F.plainAttrs_list PySem.F.slot_list_append PySem.F.type_list_append mt_append (pv 2) (pa_cons (pe_tup (pa_cons (pe_op op_sub (pv 3) pe_int) (pa_cons (pe_op op_add pe_int (pv 3)) (pa_cons (pe_op op_add (pv 1) (pv 3)) pa_nil)))) pa_nil)))))
      (pss_cons (ps_set (i := 4) sc_ways_on.nd rfl (Or.inl rfl) pe_int)
      (pss_cons (ps_while PassesOwn.never (PW.pt (pw_and (pt_cmpR op_lt (pv 4) (C8.pe_gc (by rfl) T.k_MOST_LIKE) (nomark _)) (pw_and (pt_cmpR op_lt (pe_op op_add (pv 1) (pv 4)) (pe_callB (cal_lenK K) (by rfl) T.b_len PySem.boot_len (pa_cons (pv 0) pa_nil)) (nomark _)) (pw_and1 (pt_cmpR op_eq (pe_ix (ix_listK K) (pv 0) (pe_op op_add (pv 1) (pv 4)) (fun _ _ => rfl)) (pe_ix (ix_listK K) (pv 0) (pv 1) (fun _ _ => rfl)) (nomark _))))))
      (pss_cons (ps_aug (i := 4) sc_ways_on.nd rfl (Or.inl rfl) pe_int ip_add)
      (pss_one (ps_expr (pe_bmK K PySem.F.plainAttrs_list PySem.F.slot_list_append PySem.F.type_list_append mt_append (pv 2) (pa_cons (pe_tup (pa_cons (pe_op op_add (pv 4) (C8.pe_gc (by rfl) T.k_FIRST_LIKE)) (pa_cons pe_int (pa_cons (pe_op op_add (pv 1) (pv 4)) pa_nil)))) pa_nil))))))
      (pss_one (ps_ret (pv 2)))))))), ?_⟩), F.bindsN fun _ _ _ _ _ _ us hl => match us, hl with | [_, _], _ => rfl⟩, F.kp⟩
  obtain ⟨a, cs, i, rfl, hc, hl, hi, q⟩ := h
  obtain ⟨c0, h0⟩ : ∃ c0, cs[i]? = some c0 := ⟨_, List.getElem?_eq_getElem hi⟩
  walk_at "rd"
  refine r_klst (len_le rfl) fun p H1 n1 s1 e1 => ?_
  walk_at "rd"
  refine r_lenI (s1 _ _ hc) ?_
  walk_at "rd"
  have epl : ((if (cs.length : Int) - i < 16 then (cs.length : Int) - i else 16) + 1 - 1).toNat = plain cs i := by
    unfold plain
    split <;> omega
  have epb : -(2 ^ 62) ≤ ((if (cs.length : Int) - i < 16 then (cs.length : Int) - i else 16) + 1) ∧ ((if (cs.length : Int) - i < 16 then (cs.length : Int) - i else 16) + 1) < 2 ^ 62 := by
    split <;> omega
  refine r_ki2 ⟨by omega, by omega, epb.1, epb.2⟩ ?_
  rw [epl]
  have hpl : plain cs i ≤ 16 := by unfold plain; omega
  have hex : extra cs i ≤ 16 := by unfold extra; omega
  refine kfor (walk_range (lo := 1) (n := plain cs i)) (fun j σ H2 => (∃ z1 z2, σ = [some (.ref a), some (.int i), some (.ref p), z1, z2]) ∧ Same H (hid p H2) ∧ WaysAt H2 p ((List.range j).map fun k => (((k : Nat) : Int), ((k + 2 : Nat) : Int), ((i + k + 1 : Nat) : Int))))
    ⟨⟨none, none, rfl⟩, hid_same0 s1 n1, [], e1, rfl, fun q hq => by cases hq⟩ (fun _ _ _ _ _ => trivial) (fun j x σ H2 H3 hj h y => ?_) fun σ H2 h => ?_
  · obtain ⟨⟨z1, z2, rfl⟩, s2, hw⟩ := h
    obtain ⟨rfl, rfl⟩ := y
    obtain ⟨xs, hx, hxl⟩ := hw.lst
    walk_at "rd"
    refine r_kbmL (SqL.of hx) ?_
    walk_at "rd"
    refine r_ktup (len_le rfl) fun t H4 n4 s4 e4 => ?_
    walk_at "rd"
    refine r_append (s4 _ _ hx) (szt (by rw [hxl]; simp; omega)) ?_
    refine ⟨⟨_, _, rfl⟩, same_hidU (same_hidS s2 s4), ?_⟩
    rw [List.range_succ, List.map_append]
    refine hw.snoc (w := (((j : Nat) : Int), ((j + 2 : Nat) : Int), ((i + j + 1 : Nat) : Int))) s4 ?_ (s4 _ _ hx)
    rw [e4]
    unfold wayT
    simp only
    rw [show (1 : Int) + j - 1 = j by omega, show (1 : Int) + (1 + j) = ((j + 2 : Nat) : Int) by omega, show (i : Int) + (1 + j) = ((i + j + 1 : Nat) : Int) by omega]
  · obtain ⟨⟨z1, z2, rfl⟩, s2, hw⟩ := h
    walk_at "rd"
    refine r_while (fun m σ H3 => ∃ j z1, j ≤ extra cs i ∧ m = extra cs i - j ∧ σ = [some (.ref a), some (.int i), some (.ref p), z1, some (.int ((j + 1 : Nat) : Int))] ∧ Same H (hid p H3) ∧
      WaysAt H3 p (((List.range (plain cs i)).map fun k => (((k : Nat) : Int), ((k + 2 : Nat) : Int), ((i + k + 1 : Nat) : Int))) ++ ((List.range j).map fun k => (((k + 16 : Nat) : Int), (2 : Int), ((i + k + 2 : Nat) : Int)))))
      (extra cs i) ⟨0, z1, Nat.zero_le _, rfl, rfl, s2, by simpa using hw⟩ (fun m σ H3 h => ?_)
    obtain ⟨j, y1, hj, rfl, rfl, s3, hw3⟩ := h
    have hc3 := same_of_hid s3 _ _ hc
    have fin : ¬ j < extra cs i → Q (.ref p) H3 := fun hn => by
      have : j = extra cs i := by omega
      subst this
      exact q p H3 n1 (same_of_hid s3) hw3
    have key := extra_lt h0 hj
    walk_at "rd"
    refine r_ifD (fun h1 => ?_) fun h1 => ?_
    · walk_at "rd"
      refine r_lenI hc3 ?_
      walk_at "rd"
      refine r_ifD (fun h2 => ?_) fun h2 => ?_
      · walk_at "rd"
        obtain ⟨c1, hc1⟩ : ∃ c1, cs[i + 1 + j]? = some c1 := ⟨_, List.getElem?_eq_getElem (by omega)⟩
        refine r_ixL (ints_sq hc3) (at_of (show (i : Int) + ((j + 1 : Nat) : Int) = ((i + 1 + j : Nat) : Int) by omega) (ints_at hc1)) ?_
        walk_at "rd"
        refine r_ixL (ints_sq hc3) (atI_nat (ints_at h0)) ?_
        walk_at "rd"
        refine r_kwD (fun h3 => ?_) fun h3 => ?_
        · have hlt : j < extra cs i := key.mpr ⟨by omega, c1, hc1, h3⟩
          obtain ⟨xs, hx, hxl⟩ := hw3.lst
          walk_at "rd"
          refine r_kbmL (SqL.of hx) ?_
          walk_at "rd"
          refine r_ktup (len_le rfl) fun t H4 n4 s4 e4 => ?_
          walk_at "rd"
          refine r_append (s4 _ _ hx) (szt (by rw [hxl]; simp; omega)) ?_
          refine ⟨extra cs i - (j + 1), by omega, j + 1, y1, by omega, rfl, ?_, same_hidU (same_hidS s3 s4), ?_⟩
          · show [some (V.ref a), some (V.int i), some (V.ref p), y1, some (V.int (((j + 1 : Nat) : Int) + 1))] = _
            rw [show ((j + 1 : Nat) : Int) + 1 = ((j + 1 + 1 : Nat) : Int) by omega]
          · rw [List.range_succ, List.map_append, ← List.append_assoc]
            refine hw3.snoc (w := (((j + 16 : Nat) : Int), (2 : Int), ((i + j + 2 : Nat) : Int))) s4 ?_ (s4 _ _ hx)
            rw [e4]
            unfold wayT
            simp only
            rw [show ((j + 1 : Nat) : Int) + 1 + 14 = ((j + 16 : Nat) : Int) by omega, show (i : Int) + (((j + 1 : Nat) : Int) + 1) = ((i + j + 2 : Nat) : Int) by omega]
        · walk_at "rd"
          refine fin fun hlt => ?_
          obtain ⟨_, x, e, e2⟩ := key.mp hlt
          rw [hc1] at e
          exact h3 ((Option.some.inj e).trans e2)
      · refine r_kwF ?_
        walk_at "rd"
        refine fin fun hlt => ?_
        obtain ⟨_, x, e, _⟩ := key.mp hlt
        have := (List.getElem?_eq_some_iff.mp e).1
        omega
    · refine r_kwF ?_
      walk_at "rd"
      exact fin fun hlt => h1 (by have := (key.mp hlt).1; omega)
end
end K44
set_option Elab.async false
set_option linter.all false
set_option maxRecDepth 100000
set_option maxHeartbeats 4000000
namespace K44
open PySem PySem.Spec PyProof.Rows L2
local macro_rules | `(tactic| walk_at "rd1") => `(tactic| first
  | ((with_reducible apply r_var); rfl)
  | ((with_reducible apply r_aug); rfl)
  | with_reducible apply r_isiI
  | with_reducible apply r_tslS
  | with_reducible apply r_try
  | with_reducible apply r_gsub
  | with_reducible apply r_irev
  | with_reducible apply r_trg1
  | with_reducible apply r_sfld
  | with_reducible apply r_afld
  | with_reducible apply r_rAdd
  | with_reducible apply r_dget
  | with_reducible apply r_din
  | with_reducible apply r_dnot
  | with_reducible apply r_dput
  | with_reducible apply r_ikeys
  | with_reducible apply r_m1
  | with_reducible apply r_km1
  | with_reducible apply r_inS
  | with_reducible apply r_notInS
  | with_reducible apply r_isN
  | with_reducible apply r_ip
  | with_reducible apply r_kbmS
  | with_reducible apply r_min2
  | with_reducible apply r_isiB
  | with_reducible apply r_isiS
  | with_reducible apply r_tyes
  | with_reducible apply iteT
  | with_reducible apply iteF
  | with_reducible apply r_nT
  | with_reducible apply r_nF
  | with_reducible apply r_callS
  | with_reducible apply r_meth
  | with_reducible apply r_methS
  | with_reducible apply r_methD
  | with_reducible apply r_make
  | with_reducible apply r_lc
  | with_reducible apply r_for
  | with_reducible apply r_ilist
  | with_reducible apply r_itup
  | with_reducible apply r_irng1
  | with_reducible apply r_irng2
  | with_reducible apply r_istr
  | with_reducible apply r_ienum
  | with_reducible apply r_izip
  | with_reducible apply r_izip3
  | with_reducible apply r_izip4
  | with_reducible apply r_kis
  | with_reducible apply r_c
  | with_reducible apply r_op
  | with_reducible apply r_un
  | with_reducible apply r_i0
  | with_reducible apply r_u
  | with_reducible apply r_eqI
  | with_reducible apply r_neI
  | with_reducible apply r_eqS
  | with_reducible apply r_neS
  | with_reducible apply r_test
  | with_reducible apply r_B
  | with_reducible apply r_bl
  | with_reducible apply r_int
  | with_reducible apply r_and
  | with_reducible apply r_or
  | with_reducible apply r_not
  | with_reducible apply r_andV
  | with_reducible apply r_orV
  | with_reducible apply r_notV
  | with_reducible apply r_chain
  | with_reducible apply r_tif
  | with_reducible apply r_nil
  | with_reducible apply r_cons
  | with_reducible apply r_cb
  | with_reducible apply r_call
  | with_reducible apply r_seq
  | with_reducible apply r_asg
  | with_reducible apply r_name
  | with_reducible apply r_drop
  | with_reducible apply r_ret
  | with_reducible apply r_retN
  | with_reducible apply r_next
  | with_reducible apply r_ifS
  | with_reducible apply r_tup
  | with_reducible apply r_lst
  | with_reducible apply r_sl
  | with_reducible apply r_nopart
  | with_reducible apply r_part
  | with_reducible apply r_fld
  | with_reducible apply r_bm
  | with_reducible apply r_bm0)
local macro_rules | `(tactic| walk_at "rd") => `(tactic| repeat (walk_at "rd1"))

def wcost (P : List Int) (w : Int × Int × Int) : Int := w.2.1 + P.getD w.2.2.toNat 0
def sp_pack_prices : Sp := fun vs H Q _ => ∃ (a : Addr) (cs : List Int), vs = [.ref a] ∧ Ints H a cs ∧ cs.all isCell = true ∧ cs.length ≤ 576 ∧ ∀ p H' P, H p = none → Same H H' → Ints H' p P → P.length = cs.length + 1 → (∀ i, i < cs.length → ∃ w ∈ waysM cs i, wcost P w = P.getD i 0) → Q (.ref p) H'
theorem sc_pack_prices : FnScope ["cells", "prices", "at", "head", "many", "end"] ["cells"] (defScope s_pack_prices) := ⟨rfl, rfl, rfl, by decide +kernel, rfl, by decide +kernel, by decide +kernel⟩
section
theorem len_pack_prices {vs : List V} {H : Hp} {Q : VK} {E : XK} (h : (sp_pack_prices) vs H Q E) : vs.length = 1 := by
  repeat (obtain ⟨_, h⟩ := h)
  subst_vars; rfl
variable {P : Program} {w : World} {K : PySem.W.Frag} {mg : Str → Option Value} {base : Heap}
theorem ok_pack_prices (T : Tx K mg) : Cal P w K mg base CX0 5 (He.ga K "pack_prices") ["cells"] (sp_pack_prices) := by
  obtain ⟨fd, F⟩ := T.F_pack_prices
  refine ⟨⟨fd, F.ok sc_pack_prices (fun vs H Q E h => len_pack_prices h) (fun cdv A outer s H vs Q E hr h => ⟨_, PSs.nox (
      (pss_cons (ps_expr (pe_cal (ok_need_cells T) hr (by decide) (by rfl) T.g_need_cells pass0 (pa_cons (pv 0) pa_nil)))
      (pss_cons (ps_set (i := 1) sc_pack_prices.nd rfl (Or.inr rfl) (pe_op op_rep (pe_lst (pa_cons pe_int pa_nil)) (pe_op op_add (pe_callB (cal_lenK K) (by rfl) T.b_len PySem.boot_len (pa_cons (pv 0) pa_nil)) pe_int)))
      (pss_cons (ps_for PassesOwn.never rfl (pi_revR (by rfl) T.b_reversed (prg_1 (by rfl) T.b_range (pe_callB (cal_lenK K) (by rfl) T.b_len PySem.boot_len (pa_cons (pv 0) pa_nil)))) (pg_name (i := 2) sc_pack_prices.nd rfl (Or.inl rfl))
      (pss_one (ps_asg (pe_callB (cr_minK K rfl) (by rfl) T.b_min (by decide +kernel) (pa_cons (pe_lc (own := [("head", 3), ("many", 4), ("end", 5)]) rfl sc_pack_prices.nd (pi_listK K (pe_cal (ok_ways_on T) hr (by decide) (by rfl) T.g_ways_on pass0 (pa_cons (pv 0) (pa_cons (pv 2) pa_nil)))) (blkOk_by (own := [("head", 3), ("many", 4), ("end", 5)]) (N := ["cells", "prices", "at", "head", "many", "end"]) (sc := defScope s_pack_prices) (by decide +kernel)) (fun _ _ _ _ _ => (pg_tupK (n := 3) K rfl (pgs_cons (pg_name (i := 3) sc_pack_prices.nd rfl (Or.inl rfl)) (pgs_cons (pg_name (i := 4) sc_pack_prices.nd rfl (Or.inl rfl)) (pgs_cons (pg_name (i := 5) sc_pack_prices.nd rfl (Or.inl rfl)) pgs_nil))))) (fun _ _ _ _ _ => pts_nil) (fun _ _ _ _ _ => (pe_op op_add (pv 4) (pe_ix (ix_listK K) (pv 1) (pv 5) (fun _ _ => rfl))))) pa_nil)) (pg_sub (pv 1) (pv 2) set_list))))
      (pss_one (ps_ret (pv 1))))))), ?_⟩), F.bindsN fun _ _ _ _ _ _ us hl => match us, hl with | [_], _ => rfl⟩, F.kp⟩
  obtain ⟨a, cs, rfl, hc, hall, hl, q⟩ := h
  have hokc : ∀ c ∈ cs, okc c = true := List.all_eq_true.mp hall
  walk_at "rd"
  refine ⟨a, cs, rfl, hc, hall, hl, fun H1 s1 => ?_⟩
  walk_at "rd"
  refine r_klst (len_le rfl) fun p1 H2 n2 s2 e2 => ?_
  walk_at "rd"
  have hc2 := s2 _ _ (s1 _ _ hc)
  refine r_lenI hc2 ?_
  walk_at "rd"
  refine r_rep e2 (by omega) (by omega) (szl (by simp; omega)) fun p H3 n3 s3 e3 => ?_
  walk_at "rd"
  have s13 := (s1.trans s2).trans s3
  have np : H p = none := (s1.trans s2).free n3
  have hc3 := s3 _ _ hc2
  refine r_lenI hc3 ?_
  walk_at "rd"
  refine ⟨by omega, by omega, by omega, by omega, ?_⟩
  have e3' : Ints H3 p (List.replicate (cs.length + 1) 0) := by
    show H3 p = _
    rw [e3]
    simp
  rw [show ((cs.length : Int) - 0).toNat = cs.length by omega]
  refine kfor walk_rangeC (fun i σ H4 => (∃ z1 z2 z3 z4, σ = [some (.ref a), some (.ref p), z1, z2, z3, z4]) ∧ Same H (hid p H4) ∧ ∃ P, Ints H4 p P ∧ P.length = cs.length + 1 ∧ ∀ k, cs.length - i ≤ k → k < cs.length → ∃ w ∈ waysM cs k, wcost P w = P.getD k 0)
    ⟨⟨none, none, none, none, rfl⟩, hid_same0 s13 np, _, e3', by simp, fun k h1 h2 => by omega⟩ (fun _ _ _ _ _ => trivial) (fun i x σ H4 H5 hi h y => ?_) fun σ H4 h => ?_
  · obtain ⟨⟨z1, z2, z3, z4, rfl⟩, s4, P, hP, hPl, hPc⟩ := h
    obtain ⟨rfl, hx⟩ := y
    have hat : (0 : Int) + ((cs.length : Nat) : Int) - 1 + (i : Nat) * -1 = ((cs.length - 1 - i : Nat) : Int) := by omega
    have hx := hx.trans (congrArg V.int hat)
    subst hx
    have hat2 : cs.length - 1 - i < cs.length := by omega
    generalize ho : cs.length - 1 - i = o at hat2 ⊢
    have hc4 := same_of_hid s4 _ _ hc
    walk_at "rd"
    refine ⟨a, cs, o, rfl, hc4, by omega, hat2, fun p5 H5 n5 s5 w5 => ?_⟩
    obtain ⟨qs, k1, k2, k3⟩ := w5
    refine r_kil (SqL.of k1) ?_
    have hwl := ways_len cs o
    have hql : qs.length ≤ 32 := by rw [← k2] at hwl; simpa using hwl
    have hwok : ∀ q ∈ qs, ∃ k : Nat, q.2.2.2 = ((o + k : Nat) : Int) ∧ 1 ≤ k ∧ o + k ≤ cs.length := fun q hq => by
      obtain ⟨k, e1, e2, e3, _⟩ := way_ok hokc (show (q.2.1, q.2.2.1, q.2.2.2) ∈ waysM cs o by rw [← k2]; exact List.mem_map_of_mem hq)
      exact ⟨k, e1, e2, e3⟩
    have hP5 := s5 _ _ hP
    refine klc_L (SqL.of k1) (szl (by omega)) (fun q => .int (wcost P q.2)) (fun q H6 hq s6 Z z => ?_) fun p6 H6 n6 s6 e6 => ?_
    · refine r_gt3 (SqT.of (s6 _ _ (k3 q hq))) ⟨rfl, ?_⟩
      walk_at "rd"
      obtain ⟨k, e1, e2, e3⟩ := hwok q hq
      have hlt : o + k < P.length := by omega
      refine r_ixL (ints_sq (s6 _ _ hP5)) (at_of e1 (ints_at (List.getElem?_eq_getElem hlt))) ?_
      walk_at "rd"
      have := z H6 (Same.refl H6)
      unfold wcost at this
      rw [e1, show ((o + k : Nat) : Int).toNat = o + k from rfl, getD_at (List.getElem?_eq_getElem hlt)] at this
      exact this
    · walk_at "rd"
      have e6' : Ints H6 p6 (qs.map fun q => wcost P q.2) := by
        show H6 p6 = _
        rw [e6, List.map_map]
        rfl
      have hne : 0 < qs.length := by
        have := ways_ne hat2
        rw [← k2] at this
        exact List.length_pos_iff.mpr fun z => this (by rw [z]; rfl)
      refine r_min e6' (by simpa using hne) fun m hm _ => ?_
      walk_at "rd"
      have hP6 := s6 _ _ hP5
      refine r_setL hP6 rfl (by rw [List.length_map, hPl]; omega) ?_
      refine ⟨⟨_, _, _, _, rfl⟩, same_hidU (same_hidS s4 (s5.trans s6)), P.set o m, ?_, by simp [hPl], fun k h1 h2 => ?_⟩
      · show (upd _ _ _) _ = _
        rw [upd_same, List.map_set]
      · have hset : ∀ {j : Nat}, j ≠ o → (P.set o m).getD j 0 = P.getD j 0 := fun {j} hj => by
          rw [List.getD_eq_getElem?_getD, List.getD_eq_getElem?_getD, List.getElem?_set_ne (Ne.symm hj)]
        by_cases hk : k = o
        · subst hk
          obtain ⟨q, hq, rfl⟩ := List.mem_map.mp hm
          refine ⟨q.2, by rw [← k2]; exact List.mem_map_of_mem hq, ?_⟩
          obtain ⟨j, e1, e2, e3⟩ := hwok q hq
          have : wcost (P.set k (wcost P q.2)) q.2 = wcost P q.2 := by
            unfold wcost
            rw [e1, show ((k + j : Nat) : Int).toNat = k + j from rfl]
            rw [List.getD_eq_getElem?_getD, List.getD_eq_getElem?_getD, List.getElem?_set_ne (by omega)]
          rw [this, List.getD_eq_getElem?_getD, List.getElem?_set_self (by omega)]
          rfl
        · obtain ⟨w, hw, e⟩ := hPc k (by omega) h2
          refine ⟨w, hw, ?_⟩
          obtain ⟨j, e1, e2, e3, _⟩ := way_ok hokc (show (w.1, w.2.1, w.2.2) ∈ waysM cs k from hw)
          rw [hset hk, ← e]
          unfold wcost
          rw [e1, show ((k + j : Nat) : Int).toNat = k + j from rfl, hset (by omega)]
  · obtain ⟨⟨z1, z2, z3, z4, rfl⟩, s4, P, hP, hPl, hPc⟩ := h
    walk_at "rd"
    exact q p H4 P np (same_of_hid s4) hP hPl fun i hi => hPc i (by omega) hi
end
def sp_packed : Sp := fun vs H Q _ => ∃ (a : Addr) (cs : List Int), vs = [.ref a] ∧ Ints H a cs ∧ cs.all isCell = true ∧ cs.length ≤ 576 ∧ ∀ p H' out, H p = none → Same H H' → Ints H' p out → Packs out cs → Q (.ref p) H'
theorem sc_packed : FnScope ["cells", "prices", "found", "at", "fit", "head", "many", "end", "way"] ["cells"] (defScope s_packed) := ⟨rfl, rfl, rfl, by decide +kernel, rfl, by decide +kernel, by decide +kernel⟩
section
theorem len_packed {vs : List V} {H : Hp} {Q : VK} {E : XK} (h : (sp_packed) vs H Q E) : vs.length = 1 := by
  repeat (obtain ⟨_, h⟩ := h)
  subst_vars; rfl
variable {P : Program} {w : World} {K : PySem.W.Frag} {mg : Str → Option Value} {base : Heap}
theorem ok_packed (T : Tx K mg) : Cal P w K mg base CX0 6 (He.ga K "packed") ["cells"] (sp_packed) := by
  obtain ⟨fd, F⟩ := T.F_packed
  refine ⟨⟨fd, F.ok sc_packed (fun vs H Q E h => len_packed h) (fun cdv A outer s H vs Q E hr h => ⟨_, PSs.nox (
      (pss_cons (ps_set (i := 1) sc_packed.nd rfl (Or.inr rfl) (pe_cal (ok_pack_prices T) hr (by decide) (by rfl) T.g_pack_prices pass0 (pa_cons (pv 0) pa_nil)))
      (pss_cons (ps_set (i := 2) sc_packed.nd rfl (Or.inl rfl) (pe_lst pa_nil))
      (pss_cons (ps_set (i := 3) sc_packed.nd rfl (Or.inr rfl) pe_int)
      (pss_cons (ps_while PassesOwn.never (pt_cmpR op_lt (pv 3) (pe_callB (cal_lenK K) (by rfl) T.b_len PySem.boot_len (pa_cons (pv 0) pa_nil)) (nomark _))
      (pss_cons (ps_setLc (i := 4) (own := [("way", 8)]) rfl sc_packed.nd rfl rfl (sw_true rfl rfl rfl (by decide +kernel)) (pi_listK K (pe_cal (ok_ways_on T) hr (by decide) (by rfl) T.g_ways_on pass0 (pa_cons (pv 0) (pa_cons (pv 3) pa_nil)))) (blkOk_by (own := [("way", 8)]) (N := ["cells", "prices", "found", "at", "fit", "head", "many", "end", "way"]) (sc := defScope s_packed) (by decide +kernel)) (fun _ _ _ _ _ => (pg_name (i := 8) sc_packed.nd rfl (Or.inl rfl))) (fun _ _ _ _ _ => (pts_one (pt_cmpR op_eq (pe_op op_add (pe_ix (ix_tupK K) (pv 8) pe_int (fun _ _ => rfl)) (pe_ix (ix_listK K) (pv 1) (pe_ix (ix_tupK K) (pv 8) pe_int (fun _ _ => rfl)) (fun _ _ => rfl))) (pe_ix (ix_listK K) (pv 1) (pv 3) (fun _ _ => rfl)) (nomark _)))) (fun _ _ _ _ _ => (pv 8)))
      (pss_cons (ps_asg (pe_ix (ix_listK K) (pv 4) (pe_un un_neg pe_int) (fun _ _ => rfl)) (pg_tupK (n := 3) K rfl (pgs_cons (pg_name (i := 5) sc_packed.nd rfl (Or.inl rfl)) (pgs_cons (pg_name (i := 6) sc_packed.nd rfl (Or.inl rfl)) (pgs_cons (pg_name (i := 7) sc_packed.nd rfl (Or.inl rfl)) pgs_nil)))))
      (pss_cons (ps_expr (pe_bmK K PySem.F.plainAttrs_list PySem.F.slot_list_append PySem.F.type_list_append mt_append (pv 2) (pa_cons (pv 5) pa_nil)))
      (pss_cons (ps_expr (pe_bmK K PySem.F.plainAttrs_list PySem.F.slot_list_extend PySem.F.type_list_extend mt_extend (pv 2) (pa_cons (pe_slice (sl_listK K) (pv 0) (po_some (pv 3)) (po_some (pe_op op_sub (pe_op op_add (pv 3) (pv 6)) pe_int))) pa_nil)))
      (pss_one (ps_set (i := 3) sc_packed.nd rfl (Or.inr rfl) (pv 7))))))))
      (pss_one (ps_ret (pv 2)))))))), ?_⟩), F.bindsN fun _ _ _ _ _ _ us hl => match us, hl with | [_], _ => rfl⟩, F.kp⟩
  obtain ⟨a, cs, rfl, hc, hall, hl, q⟩ := h
  have hokc : ∀ c ∈ cs, okc c = true := List.all_eq_true.mp hall
  walk_at "rd"
  refine ⟨a, cs, rfl, hc, hall, hl, fun pp H1 P n1 s1 hP hPl hPc => ?_⟩
  walk_at "rd"
  refine r_klst (len_le rfl) fun p H2 n2 s2 e2 => ?_
  walk_at "rd"
  refine r_while (fun m σ H3 => ∃ (o : Nat) (f : List Int), m = cs.length - o ∧ o ≤ cs.length ∧ (∃ z1 z2 z3 z4 z5, σ = [some (.ref a), some (.ref pp), some (.ref p), some (.int o), z1, z2, z3, z4, z5]) ∧ Same H1 (hid p H3) ∧ Ints H3 p f ∧ Packs f (cs.take o))
    cs.length ⟨0, [], rfl, Nat.zero_le _, ⟨none, none, none, none, none, rfl⟩, hid_same0 s2 n2, e2, .nil⟩ (fun m σ H3 h => ?_)
  obtain ⟨o, f, rfl, ho, ⟨z1, z2, z3, z4, z5, rfl⟩, s3, hf, hpk⟩ := h
  have s3' := same_of_hid s3
  walk_at "rd"
  refine r_lenI (s3' _ _ (s1 _ _ hc)) ?_
  walk_at "rd"
  refine r_kwD (fun h1 => ?_) fun h1 => ?_
  · have ho2 : o < cs.length := by omega
    walk_at "rd"
    refine ⟨a, cs, o, rfl, s3' _ _ (s1 _ _ hc), by omega, ho2, fun p5 H5 n5 s5 w5 => ?_⟩
    obtain ⟨qs, k1, k2, k3⟩ := w5
    have hwl := ways_len cs o
    have hql : qs.length ≤ 32 := by rw [← k2] at hwl; simpa using hwl
    have hP5 := s5 _ _ (s3' _ _ hP)
    have hwok : ∀ q ∈ qs, ∃ k : Nat, q.2.2.2 = ((o + k : Nat) : Int) ∧ 1 ≤ k ∧ o + k ≤ cs.length ∧ 2 ≤ q.2.2.1 ∧ q.2.2.1 ≤ 17 ∧ Grp (q.2.1 :: (cs.drop o).take (q.2.2.1 - 1).toNat) ((cs.drop o).take k) := fun q hq =>
      way_ok hokc (show (q.2.1, q.2.2.1, q.2.2.2) ∈ waysM cs o by rw [← k2]; exact List.mem_map_of_mem hq)
    refine r_kil (SqL.of k1) ?_
    refine klc (walk_list (xs := qs.map fun q => V.ref q.1)) (fun H' s => SqL.of (s _ _ k1)) (fun i acc _ => ∃ ss : List (Addr × (Int × Int × Int)), acc = ss.map (fun q => V.ref q.1) ∧ (∀ q ∈ ss, q ∈ qs) ∧ ((∃ k q, k < i ∧ qs[k]? = some q ∧ wcost P q.2 = P.getD o 0) → ss ≠ [])) ⟨[], rfl, fun q hq => absurd hq (by simp), fun ⟨k, q, hk, _⟩ => absurd hk (Nat.not_lt_zero _)⟩
      (fun D i x H6 H7 acc hi hD s e l r y => ?_) fun p6 H6 ys hp6 s6 e6 l6 r6 => ?_
    · obtain ⟨rfl, hx⟩ := y
      obtain ⟨q1, g1, rfl⟩ := map_atc hx
      obtain ⟨ss, rfl, r1, r2⟩ := r
      have hm : q1 ∈ qs := List.mem_of_getElem? g1
      have sD := same_of_hid s
      obtain ⟨k, e1, ek, e3, _⟩ := hwok q1 hm
      have hlt : o + k < P.length := by omega
      walk_at "rd"
      refine ⟨rfl, ?_⟩
      walk_at "rd"
      refine r_ixT (SqT.of (sD _ _ (k3 q1 hm))) (v := .int q1.2.2.1) rfl ?_
      walk_at "rd"
      refine r_ixT (SqT.of (sD _ _ (k3 q1 hm))) (v := .int q1.2.2.2) rfl ?_
      refine r_ixL (ints_sq (sD _ _ hP5)) (at_of e1 (ints_at (List.getElem?_eq_getElem hlt))) ?_
      walk_at "rd"
      have ho1 : o < P.length := by omega
      refine r_ixL (ints_sq (sD _ _ hP5)) (atI_nat (ints_at (List.getElem?_eq_getElem ho1))) ?_
      walk_at "rd"
      have ecost : wcost P q1.2 = q1.2.2.1 + P[o + k] := by
        unfold wcost
        rw [e1, show ((o + k : Nat) : Int).toNat = o + k from rfl, getD_at (List.getElem?_eq_getElem hlt)]
      refine r_ifD (fun hcc => ?_) fun hcc => ?_
      · walk_at "rd"
        refine r_kyes e l (szt (by simp at hi; omega)) s ⟨ss ++ [q1], by simp, fun q hq => ?_, fun _ h => by simp at h⟩
        rcases List.mem_append.mp hq with hq | hq
        · exact r1 q hq
        · simp at hq; subst hq; exact hm
      · refine r_kno e l s ⟨ss, rfl, r1, fun ⟨j, q, hj, g, hq⟩ => r2 ⟨j, q, ?_, g, hq⟩⟩
        by_cases hj2 : j = i
        · subst hj2
          rw [g1] at g
          cases g
          rw [ecost, getD_at (List.getElem?_eq_getElem ho1)] at hq
          exact absurd hq hcc
        · omega
    · obtain ⟨ss, rfl, r1, r2⟩ := r6
      have hne : ss ≠ [] := by
        obtain ⟨w, hw, ew⟩ := hPc o ho2
        rw [← k2] at hw
        obtain ⟨q, hq, rfl⟩ := List.mem_map.mp hw
        obtain ⟨j, hj⟩ := List.getElem?_of_mem hq
        exact r2 ⟨j, q, by have := (List.getElem?_eq_some_iff.mp hj).1; simpa using this, hj, ew⟩
      have hpos : 0 < ss.length := List.length_pos_iff.mpr hne
      obtain ⟨q1, hq1⟩ : ∃ q1, ss[ss.length - 1]? = some q1 := ⟨_, List.getElem?_eq_getElem (by omega)⟩
      have hm : q1 ∈ qs := r1 _ (List.mem_of_getElem? hq1)
      obtain ⟨k, e1, ek, ek2, em1, em2, hg⟩ := hwok q1 hm
      walk_at "rd"
      refine r_ixL (SqL.of e6) (v := .ref q1.1) (atI_neg (j := 1) (by decide) (by simp; omega) ?_) ?_
      · rw [List.length_map, List.getElem?_map, hq1]
        rfl
      refine r_gt3 (SqT.of (s6 _ _ (k3 q1 hm))) ?_
      have s36 := s5.trans s6
      have hf6 := s36 _ _ hf
      have hfl := hpk.go.1
      rw [List.length_take] at hfl
      walk_at "rd"
      refine r_kbmL (SqL.of hf6) ?_
      walk_at "rd"
      refine r_append hf6 (szt (by simp; omega)) ?_
      walk_at "rd"
      have hap : a ≠ p := by
        have := s1 _ _ hc
        exact ne_of_none this n2
      have hc6 : (upd H6 p (.lst (f.map V.int ++ [.int q1.2.1]))) a = some (.lst (cs.map V.int)) := by
        rw [upd_ne hap]
        exact s36 _ _ (s3' _ _ (s1 _ _ hc))
      refine r_kbmL (SqL.of upd_same) ?_
      walk_at "rd"
      refine r_slL (ints_sq hc6) fun p7 H7 n7 s7 e7 => ?_
      rw [show (o : Int) + q1.2.2.1 - 1 = ((o + (q1.2.2.1 - 1).toNat : Nat) : Int) by omega, cutI_ij, show o + (q1.2.2.1 - 1).toNat - o = (q1.2.2.1 - 1).toNat by omega] at e7
      walk_at "rd"
      refine r_extend (s7 _ _ upd_same) e7 (szl (by simp; omega)) ?_
      walk_at "rd"
      refine ⟨cs.length - (o + k), by omega, o + k, f ++ (q1.2.1 :: (cs.drop o).take (q1.2.2.1 - 1).toNat), rfl, ek2, ⟨some (.ref p6), some (.int q1.2.1), some (.int q1.2.2.1), some (.int q1.2.2.2), z5, ?_⟩, ?_, ?_, ?_⟩
      · rw [← e1]
        rfl
      · rw [hid_upd]
        intro b oo eb
        have hb := s3 _ _ eb
        have nb : b ≠ p := fun z => by subst z; rw [hid, if_pos rfl] at hb; cases hb
        rw [hid_ne nb] at hb ⊢
        refine s7 _ _ ?_
        rw [upd_ne nb]
        exact s36 _ _ hb
      · show (upd _ _ _) _ = _
        rw [upd_same]
        simp
      · have et : cs.take (o + k) = cs.take o ++ (cs.drop o).take k := by rw [List.take_add]
        rw [et]
        exact .snoc hpk hg
  · walk_at "rd"
    have : o = cs.length := by omega
    subst this
    rw [List.take_length] at hpk
    exact q p H3 f (s1.free n2) (s1.trans s3') hf hpk
end
def sp_part_behind (K : PySem.W.Frag) : Sp := fun vs H Q E => ∃ (a : Addr) (ns : List Int) (i : Nat), vs = [.ref a, .int i] ∧ Ints H a ns ∧ ns.length ≤ 100000 ∧ i < ns.length ∧
  ((∀ c r, partM (ns.drop i) = some (c, r) → ∀ p l H', Same H H' → H' p = some (.tup [.ref l, .int ((ns.length - r.length : Nat) : Int)]) → H l = none → Ints H' l c → Q (.ref p) H') ∧
    (partM (ns.drop i) = none → ∀ H', Same H H' → E (.ref (He.ga K "BadPack")) none H'))
theorem okc_all (c : List Int) : c.all isCell = c.all okc := rfl
theorem sc_part_behind : FnScope ["numbers", "at", "last", "cells"] ["numbers", "at"] (defScope s_part_behind) := ⟨rfl, rfl, rfl, by decide +kernel, rfl, by decide +kernel, by decide +kernel⟩
section
theorem len_part_behind {K : PySem.W.Frag} {vs : List V} {H : Hp} {Q : VK} {E : XK} (h : (sp_part_behind K) vs H Q E) : vs.length = 2 := by
  repeat (obtain ⟨_, h⟩ := h)
  subst_vars; rfl
variable {P : Program} {w : World} {K : PySem.W.Frag} {mg : Str → Option Value} {base : Heap}
theorem ok_part_behind (T : Tx K mg) : Cal P w K mg base (L2N.CX P w) 4 (He.ga K "part_behind") ["numbers", "at"] (sp_part_behind K) := by
  obtain ⟨fd, F⟩ := T.F_part_behind
  refine ⟨⟨fd, F.ok sc_part_behind (fun vs H Q E h => len_part_behind h) (fun cdv A outer s H vs Q E hr h => ⟨_, (
      (pss_cons (ps_if (pt_not (pt_val (pe_cal (ok_is_among T) hr (by decide) (by rfl) T.g_is_among pass0 (pa_cons (pe_ix (ix_listK K) (pv 0) (pv 1) (fun _ _ => rfl)) (pa_cons pe_int (pa_cons (C8.pe_gc (by rfl) T.k_MOST_HEAD) pa_nil))))))
      (pss_one (L2N.ps_raise rfl (L2N.takes_of rfl rfl rfl rfl) (L2N.pmk_own PySem.F.excBase_ValueError T.x_BadPack.1 T.gx_BadPack T.x_BadPack.2.1 (raises_own T.x_BadPack.2.2.1 T.x_BadPack.2.2.2) rfl))) pss_nil)
      (pss_cons (ps_if (pt_cmpR op_lt (pe_ix (ix_listK K) (pv 0) (pv 1) (fun _ _ => rfl)) (C8.pe_gc (by rfl) T.k_MOST_PLAIN) (nomark _))
      (pss_cons (ps_set (i := 2) sc_part_behind.nd rfl (Or.inl rfl) (pe_op op_add (pe_op op_add (pv 1) pe_int) (pe_ix (ix_listK K) (pv 0) (pv 1) (fun _ _ => rfl))))
      (pss_one (ps_set (i := 3) sc_part_behind.nd rfl (Or.inl rfl) (pe_slice (sl_listK K) (pv 0) (po_some (pe_op op_add (pv 1) pe_int)) (po_some (pv 2)))))) (pss_cons (ps_set (i := 2) sc_part_behind.nd rfl (Or.inl rfl) (pe_op op_add (pv 1) pe_int))
      (pss_one (ps_set (i := 3) sc_part_behind.nd rfl (Or.inl rfl) (pe_op op_rep (pe_slice (sl_listK K) (pv 0) (po_some (pe_op op_add (pv 1) pe_int)) (po_some (pv 2))) (pe_op op_sub (pe_ix (ix_listK K) (pv 0) (pv 1) (fun _ _ => rfl)) (C8.pe_gc (by rfl) T.k_FIRST_LIKE)))))))
      (pss_cons (ps_if (PW.pt (pw_or (pt_cmpR op_gt (pv 2) (pe_callB (cal_lenK K) (by rfl) T.b_len PySem.boot_len (pa_cons (pv 0) pa_nil)) (nomark _)) (pw_or1 (pt_not (pt_val (pe_cal (ok_are_cells T) hr (by decide) (by rfl) T.g_are_cells pass0 (pa_cons (pv 3) pa_nil)))))))
      (pss_one (L2N.ps_raise rfl (L2N.takes_of rfl rfl rfl rfl) (L2N.pmk_own PySem.F.excBase_ValueError T.x_BadPack.1 T.gx_BadPack T.x_BadPack.2.1 (raises_own T.x_BadPack.2.2.1 T.x_BadPack.2.2.2) rfl))) pss_nil)
      (pss_one (ps_ret (pe_tup (pa_cons (pv 3) (pa_cons (pv 2) pa_nil))))))))), ?_⟩), F.bindsN fun _ _ _ _ _ _ us hl => match us, hl with | [_, _], _ => rfl⟩, F.kp⟩
  obtain ⟨a, ns, i, rfl, hn, hz, hi, q1, q2⟩ := h
  obtain ⟨h0, hh0⟩ : ∃ h0, ns[i]? = some h0 := ⟨_, List.getElem?_eq_getElem hi⟩
  have hd : ns.drop i = h0 :: ns.drop (i + 1) := by
    rw [List.drop_eq_getElem_cons hi]
    congr 1
    have := List.getElem?_eq_getElem hi
    rw [hh0] at this
    exact (Option.some.inj this).symm
  generalize ht : ns.drop (i + 1) = t at hd
  have htl : t.length + i + 1 = ns.length := by rw [← ht, List.length_drop]; omega
  rw [hd] at q1 q2
  walk_at "rd"
  refine r_ixL (ints_sq hn) (atI_nat (ints_at hh0)) ?_
  walk_at "rd"
  refine ⟨h0, 0, 31, rfl, ?_⟩
  walk_at "rd"
  refine r_ifN (fun hb => ?_) fun hb => ?_
  · refine q2 ?_ H (Same.refl H)
    show partC h0 t = none
    unfold partC
    rw [if_neg hb]
  · walk_at "rd"
    refine r_ixL (ints_sq hn) (atI_nat (ints_at hh0)) ?_
    walk_at "rd"
    refine r_ifD (fun h16 => ?_) fun h16 => ?_
    · walk_at "rd"
      refine r_ixL (ints_sq hn) (atI_nat (ints_at hh0)) ?_
      walk_at "rd"
      refine r_slL (ints_sq hn) fun l H1 n1 s1 e1 => ?_
      have ek : (i : Int) + 2 + h0 = ((i + 1 + (h0.toNat + 1) : Nat) : Int) := by omega
      rw [ek, show (i : Int) + 1 = ((i + 1 : Nat) : Int) by omega, cutI_ij, ht, show i + 1 + (h0.toNat + 1) - (i + 1) = h0.toNat + 1 by omega] at e1
      walk_at "rd"
      refine r_lenI (s1 _ _ hn) ?_
      walk_at "rd"
      have pM : partM (h0 :: t) = plainC h0 t := by
        show partC h0 t = _
        unfold partC
        rw [if_pos hb, if_pos h16]
      rw [pM] at q1 q2
      refine r_ifD (fun hl => ?_) fun hl => ?_
      · walk_at "rd"
        refine q2 ?_ H1 s1
        unfold plainC
        rw [if_pos (by omega)]
      · walk_at "rd"
        refine ⟨l, _, rfl, e1, by rw [List.length_take]; omega, fun H2 s2 => ?_⟩
        rw [okc_all]
        unfold plainC at q1 q2
        rw [if_neg (by omega)] at q1 q2
        cases hc : (t.take (h0.toNat + 1)).all okc with
        | false =>
          walk_at "rd"
          rw [hc] at q2
          exact q2 rfl H2 (s1.trans s2)
        | true =>
          walk_at "rd"
          rw [hc] at q1
          refine r_ktup (len_le rfl) fun p H3 n3 s3 e3 => ?_
          refine q1 _ _ rfl p l H3 ((s1.trans s2).trans s3) ?_ n1 (s3 _ _ (s2 _ _ e1))
          rw [e3, ek]
          congr 6
          rw [List.length_drop]
          omega
    · walk_at "rd"
      refine r_slL (ints_sq hn) fun l0 H1 n1 s1 e1 => ?_
      have ek : (i : Int) + 2 = ((i + 1 + 1 : Nat) : Int) := by omega
      rw [ek, show (i : Int) + 1 = ((i + 1 : Nat) : Int) by omega, cutI_ij, ht, show i + 1 + 1 - (i + 1) = 1 by omega] at e1
      walk_at "rd"
      refine r_ixL (ints_sq (s1 _ _ hn)) (atI_nat (ints_at hh0)) ?_
      walk_at "rd"
      refine r_rep e1 (by omega) (by omega) (szl (by
        have : ((t.take 1).map V.int).length ≤ 1 := by simp; omega
        have h2 : (h0 - 14).toNat ≤ 17 := by omega
        have := Nat.mul_le_mul this h2
        omega)) fun l H2 n2 s2 e2 => ?_
      walk_at "rd"
      refine r_lenI (s2 _ _ (s1 _ _ hn)) ?_
      walk_at "rd"
      have pM : partM (h0 :: t) = likeC h0 t := by
        show partC h0 t = _
        unfold partC
        rw [if_pos hb, if_neg h16]
      rw [pM] at q1 q2
      cases t with
      | nil =>
        refine r_yes (by simp at htl; omega) ?_
        walk_at "rd"
        exact q2 rfl H2 (s1.trans s2)
      | cons c r =>
        refine r_no (by simp at htl; omega) ?_
        walk_at "rd"
        have e2' : Ints H2 l (List.replicate (h0 - 14).toNat c) := by
          show H2 l = _
          rw [e2]
          simp
        refine ⟨l, _, rfl, e2', by rw [List.length_replicate]; omega, fun H3 s3 => ?_⟩
        have eall : (List.replicate (h0 - 14).toNat c).all isCell = okc c := by
          rw [List.all_replicate, if_neg (by omega)]
          rfl
        rw [eall]
        have eL : likeC h0 (c :: r) = if okc c = true then some (List.replicate (h0 - 14).toNat c, r) else none := rfl
        rw [eL] at q1 q2
        cases hc : okc c with
        | false =>
          walk_at "rd"
          rw [hc] at q2
          exact q2 rfl H3 ((s1.trans s2).trans s3)
        | true =>
          walk_at "rd"
          rw [hc] at q1
          refine r_ktup (len_le rfl) fun p H4 n4 s4 e4 => ?_
          refine q1 _ _ rfl p l H4 (((s1.trans s2).trans s3).trans s4) ?_ (s1.free n2) (s4 _ _ (s3 _ _ e2'))
          rw [e4, ek]
          congr 6
          simp at htl
          omega
end
def sp_unpacked (K : PySem.W.Frag) : Sp := fun vs H Q E => ∃ (a : Addr) (ns : List Int), vs = [.ref a] ∧ Ints H a ns ∧ ns.length ≤ 100000 ∧
  ((∀ cs, unpackM ns = some cs → ∀ p H', H p = none → Same H H' → Ints H' p cs → Q (.ref p) H') ∧ (unpackM ns = none → ∀ H', Same H H' → E (.ref (He.ga K "BadPack")) none H'))
theorem sc_unpacked : FnScope ["numbers", "found", "at", "cells"] ["numbers"] (defScope s_unpacked) := ⟨rfl, rfl, rfl, by decide +kernel, rfl, by decide +kernel, by decide +kernel⟩
section
theorem len_unpacked {K : PySem.W.Frag} {vs : List V} {H : Hp} {Q : VK} {E : XK} (h : (sp_unpacked K) vs H Q E) : vs.length = 1 := by
  repeat (obtain ⟨_, h⟩ := h)
  subst_vars; rfl
variable {P : Program} {w : World} {K : PySem.W.Frag} {mg : Str → Option Value} {base : Heap}
theorem ok_unpacked (T : Tx K mg) : Cal P w K mg base (L2N.CX P w) 5 (He.ga K "unpacked") ["numbers"] (sp_unpacked K) := by
  obtain ⟨fd, F⟩ := T.F_unpacked
  refine ⟨⟨fd, F.ok sc_unpacked (fun vs H Q E h => len_unpacked h) (fun cdv A outer s H vs Q E hr h => ⟨_, (
      (pss_cons (ps_if (pt_not (pt_val (pe_callB (isiK K) (by rfl) T.b_isinstance boot_isinstance (pa_cons (pv 0) (pa_cons (pe_bltn (v := .ty "list") (by rfl) T.b_list (by decide +kernel) rfl) pa_nil)))))
      (pss_one (L2N.ps_raise rfl (L2N.takes_of rfl rfl rfl rfl) (L2N.pmk_own PySem.F.excBase_ValueError T.x_BadPack.1 T.gx_BadPack T.x_BadPack.2.1 (raises_own T.x_BadPack.2.2.1 T.x_BadPack.2.2.2) rfl))) pss_nil)
      (pss_cons (ps_set (i := 1) sc_unpacked.nd rfl (Or.inl rfl) (pe_lst pa_nil))
      (pss_cons (ps_set (i := 2) sc_unpacked.nd rfl (Or.inl rfl) pe_int)
      (pss_cons (ps_while (passes_of rfl) (pt_cmpR op_lt (pv 2) (pe_callB (cal_lenK K) (by rfl) T.b_len PySem.boot_len (pa_cons (pv 0) pa_nil)) (nomark _))
      (pss_cons (ps_asg (pe_cal (ok_part_behind T) hr (by decide) (by rfl) T.g_part_behind (L2N.passes_call (L2N.takes_of rfl rfl rfl rfl) (fun _ _ _ _ h => h)) (pa_cons (pv 0) (pa_cons (pv 2) pa_nil))) (pg_tupK (n := 2) K rfl (pgs_cons (pg_name (i := 3) sc_unpacked.nd rfl (Or.inl rfl)) (pgs_cons (pg_name (i := 2) sc_unpacked.nd rfl (Or.inl rfl)) pgs_nil))))
      (pss_cons (ps_expr (pe_bmK K PySem.F.plainAttrs_list PySem.F.slot_list_extend PySem.F.type_list_extend mt_extend (pv 1) (pa_cons (pv 3) pa_nil)))
      (pss_one (ps_if (pt_cmpR op_gt (pe_callB (cal_lenK K) (by rfl) T.b_len PySem.boot_len (pa_cons (pv 1) pa_nil)) (C8.pe_gc (by rfl) T.k_MOST_CELLS) (nomark _))
      (pss_one (L2N.ps_raise rfl (L2N.takes_of rfl rfl rfl rfl) (L2N.pmk_own PySem.F.excBase_ValueError T.x_BadPack.1 T.gx_BadPack T.x_BadPack.2.1 (raises_own T.x_BadPack.2.2.1 T.x_BadPack.2.2.2) rfl))) pss_nil)))))
      (pss_one (ps_ret (pv 1)))))))), ?_⟩), F.bindsN fun _ _ _ _ _ _ us hl => match us, hl with | [_], _ => rfl⟩, F.kp⟩
  obtain ⟨a, ns, rfl, hn, hz, q1, q2⟩ := h
  walk_at "rd"
  refine r_isiL hn ?_
  walk_at "rd"
  refine r_klst (len_le rfl) fun p H1 n1 s1 e1 => ?_
  walk_at "rd"
  refine r_while (fun m σ H2 => ∃ (o n : Nat) (acc : List Int), m = ns.length - o ∧ o ≤ ns.length ∧ ns.length - o ≤ n ∧ (∃ z, σ = [some (.ref a), some (.ref p), some (.int o), z]) ∧ Same H (hid p H2) ∧ Ints H2 p acc ∧ acc.length ≤ 576 ∧ unpackM ns = (unpackGo n acc.length (ns.drop o)).map (acc ++ ·))
    ns.length ⟨0, ns.length, [], rfl, Nat.zero_le _, by omega, ⟨none, rfl⟩, hid_same0 s1 n1, e1, by simp, by unfold unpackM; simp⟩ (fun m σ H2 h => ?_)
  obtain ⟨o, n, acc, rfl, ho, hno, ⟨z, rfl⟩, s2, hacc, hal, hu⟩ := h
  have s2' := same_of_hid s2
  walk_at "rd"
  refine r_lenI (s2' _ _ hn) ?_
  walk_at "rd"
  refine r_kwD (fun h1 => ?_) fun h1 => ?_
  · have ho2 : o < ns.length := by omega
    obtain ⟨m, rfl⟩ : ∃ m, n = m + 1 := ⟨n - 1, by omega⟩
    walk_at "rd"
    refine ⟨a, ns, o, rfl, s2' _ _ hn, hz, ho2, fun c r hp t l H3 s3 e3 nl e4 => ?_, fun hp H3 s3 => ?_⟩
    · have hless := partM_less hp
      rw [List.length_drop] at hless
      obtain ⟨⟨k, hk⟩, hcl⟩ := partM_drop hp
      have hrd : ns.drop (ns.length - r.length) = r := by
        rw [hk, List.drop_drop]
        exact drop_back ns (o + k)
      rw [unpackGo_step hp] at hu
      walk_at "rd"
      refine r_gt2 (SqT.of e3) ?_
      walk_at "rd"
      refine r_kbmL (SqL.of (s3 _ _ hacc)) ?_
      walk_at "rd"
      refine r_extend (s3 _ _ hacc) e4 (szl (by simp; omega)) ?_
      walk_at "rd"
      have elen : Ints (upd H3 p (.lst (acc.map V.int ++ c.map V.int))) p (acc ++ c) := by
        show (upd _ _ _) _ = _
        rw [upd_same, List.map_append]
      refine r_lenI elen ?_
      walk_at "rd"
      refine r_ifD (fun h5 => ?_) fun h5 => ?_
      · walk_at "rd"
        rw [List.length_append] at h5
        rw [if_pos (by omega)] at hu
        refine q2 hu _ fun b oo eb => ?_
        have nb : b ≠ p := ne_of_none eb n1
        rw [upd_ne nb]
        exact s3 _ _ (s2' _ _ eb)
      · walk_at "rd"
        rw [List.length_append] at h5
        rw [if_neg (by omega), Option.map_map] at hu
        refine ⟨r.length, by omega, ns.length - r.length, m, acc ++ c, by omega, by omega, by omega, ⟨_, rfl⟩, same_hidU (same_hidS s2 s3), elen, by rw [List.length_append]; omega, ?_⟩
        rw [hu, hrd, List.length_append]
        congr 1
        funext x
        simp
    · rw [show ns.drop o = ns.drop o from rfl] at hp
      have : unpackGo (m + 1) acc.length (ns.drop o) = none := by
        cases hd : ns.drop o with
        | nil =>
          have := congrArg List.length hd
          simp at this
          omega
        | cons x t =>
          rw [hd] at hp
          show (match partM (x :: t) with | none => none | some (c, r) => if acc.length + c.length > 576 then none else (unpackGo m (acc.length + c.length) r).map (c ++ ·)) = none
          rw [hp]
      rw [this] at hu
      exact q2 hu H3 (s2'.trans s3)
  · walk_at "rd"
    have hd : ns.drop o = [] := List.drop_of_length_le (by omega)
    rw [hd] at hu
    have : unpackGo n acc.length [] = some [] := by cases n <;> rfl
    rw [this] at hu
    refine q1 acc (by rw [hu]; simp) p H2 n1 s2' hacc
end
def PicNums (rows : List (List Int)) (ns : List Int) : Prop := ∃ (w : Nat) (ks out : List Int), (1 ≤ w ∧ w ≤ 24) ∧ Wide w rows ∧ ns = [(w : Int) - 1, (rows.length : Int) - 1] ++ ks ++ out ∧ ks.length = rows.length ∧ ks.all isFold = true ∧ Packs out (foldPic none rows ks).flatten
theorem foldPic_ok {rows : List (List Int)} {ks : List Int} (ok : PicOk rows) (hl : ks.length = rows.length) : PicOk (foldPic none rows ks) := by
  obtain ⟨w, w1, w2, hw⟩ := ok.wide
  have := foldPic_len none rows ks hl.symm
  exact .of (by rw [this]; exact ok.1) (by rw [this]; exact ok.2.1) w1 w2 (foldPic_wide none rows ks (fun r e => by cases e) hw)
theorem flat_ok {rows : List (List Int)} (ok : PicOk rows) : rows.flatten.all isCell = true ∧ rows.flatten.length ≤ 576 := by
  obtain ⟨w, w1, w2, hw⟩ := ok.wide
  refine ⟨cells_all.mpr fun c hc => ?_, ?_⟩
  · obtain ⟨r, hr, hc⟩ := List.mem_flatten.mp hc
    exact (hw r hr).2 c hc
  · rw [flat_len fun r hr => (hw r hr).1]
    exact Nat.mul_le_mul w2 ok.2.1
def sp_picture_numbers : Sp := fun vs H Q _ => ∃ (a : Addr) (rows : List (List Int)), vs = [.ref a] ∧ Pic H a rows ∧ PicOk rows ∧ ∀ p H' ns, H p = none → Same H H' → Ints H' p ns → PicNums rows ns → Q (.ref p) H'
theorem sc_picture_numbers : FnScope ["picture", "wide", "high", "rules"] ["picture"] (defScope s_picture_numbers) := ⟨rfl, rfl, rfl, by decide +kernel, rfl, by decide +kernel, by decide +kernel⟩
section
theorem len_picture_numbers {vs : List V} {H : Hp} {Q : VK} {E : XK} (h : (sp_picture_numbers) vs H Q E) : vs.length = 1 := by
  repeat (obtain ⟨_, h⟩ := h)
  subst_vars; rfl
variable {P : Program} {w : World} {K : PySem.W.Frag} {mg : Str → Option Value} {base : Heap}
theorem ok_picture_numbers (T : Tx K mg) : Cal P w K mg base CX0 8 (He.ga K "picture_numbers") ["picture"] (sp_picture_numbers) := by
  obtain ⟨fd, F⟩ := T.F_picture_numbers
  refine ⟨⟨fd, F.ok sc_picture_numbers (fun vs H Q E h => len_picture_numbers h) (fun cdv A outer s H vs Q E hr h => ⟨_, PSs.nox (
      (pss_cons (ps_asg (pe_cal (ok_size_of T) hr (by decide) (by rfl) T.g_size_of pass0 (pa_cons (pv 0) pa_nil)) (pg_tupK (n := 2) K rfl (pgs_cons (pg_name (i := 1) sc_picture_numbers.nd rfl (Or.inl rfl)) (pgs_cons (pg_name (i := 2) sc_picture_numbers.nd rfl (Or.inl rfl)) pgs_nil))))
      (pss_cons (ps_set (i := 3) sc_picture_numbers.nd rfl (Or.inl rfl) (pe_cal (ok_best_rules T) hr (by decide) (by rfl) T.g_best_rules pass0 (pa_cons (pv 0) pa_nil)))
      (pss_one (ps_ret (pe_op op_cat (pe_op op_cat (pe_lst (pa_cons (pe_op op_sub (pv 1) pe_int) (pa_cons (pe_op op_sub (pv 2) pe_int) pa_nil))) (pv 3)) (pe_cal (ok_packed T) hr (by decide) (by rfl) T.g_packed pass0 (pa_cons (pe_cal (ok_all_cells T) hr (by decide) (by rfl) T.g_all_cells pass0 (pa_cons (pe_cal (ok_folded_picture T) hr (by decide) (by rfl) T.g_folded_picture pass0 (pa_cons (pv 0) (pa_cons (pv 3) pa_nil))) pa_nil)) pa_nil)))))))), ?_⟩), F.bindsN fun _ _ _ _ _ _ us hl => match us, hl with | [_], _ => rfl⟩, F.kp⟩
  obtain ⟨a, rows, rfl, hp, ok, q⟩ := h
  obtain ⟨w, w1, w2, hw⟩ := ok.wide
  walk_at "rd"
  refine ⟨a, rows, w, rfl, hp, ok, fun r hr => (hw r hr).1, fun t H1 s1 e1 => ?_⟩
  refine r_gt2 (SqT.of e1) ?_
  walk_at "rd"
  refine ⟨a, rows, rfl, hp.same s1, ok, fun p2 ks H2 n2 s2 e2 hkl hkf => ?_⟩
  walk_at "rd"
  refine r_klst (len_le rfl) fun p3 H3 n3 s3 e3 => ?_
  have e3' : Ints H3 p3 [(w : Int) - 1, (rows.length : Int) - 1] := e3
  walk_at "rd"
  refine r_cat e3 (s3 _ _ e2) (szl (by simp; have := ok.2.1; omega)) fun p4 H4 n4 s4 e4 => ?_
  walk_at "rd"
  have s14 := ((s1.trans s2).trans s3).trans s4
  refine ⟨a, rows, p2, ks, rfl, hp.same s14, ok, s4 _ _ (s3 _ _ e2), hkl, hkf, fun p5 H5 s5 hpn => ?_⟩
  refine ⟨p5, _, rfl, hpn.pic, foldPic_ok ok hkl, fun p6 H6 n6 s6 e6 => ?_⟩
  obtain ⟨fa, fl⟩ := flat_ok (foldPic_ok ok hkl)
  refine ⟨p6, _, rfl, e6, fa, fl, fun p7 H7 out n7 s7 e7 hpk => ?_⟩
  have hol := hpk.go.1
  refine r_cat (s7 _ _ (s6 _ _ (s5 _ _ e4))) e7 (szl (by simp; have := ok.2.1; simp at hol fl; omega)) fun p8 H8 n8 s8 e8 => ?_
  have s18 := (((s14.trans s5).trans s6).trans s7)
  refine q p8 H8 ([(w : Int) - 1, (rows.length : Int) - 1] ++ ks ++ out) (s18.free n8) (s18.trans s8) ?_ ⟨w, ks, out, ⟨w1, w2⟩, hw, rfl, hkl, hkf, hpk⟩
  show H8 p8 = _
  rw [e8]
  simp
end
end K44
set_option Elab.async false
set_option linter.all false
set_option maxRecDepth 100000
set_option maxHeartbeats 4000000
namespace K44
open PySem PySem.Spec PyProof.Rows L2
local macro_rules | `(tactic| walk_at "rd1") => `(tactic| first
  | ((with_reducible apply r_var); rfl)
  | ((with_reducible apply r_aug); rfl)
  | with_reducible apply r_isiI
  | with_reducible apply r_tslS
  | with_reducible apply r_try
  | with_reducible apply r_gsub
  | with_reducible apply r_irev
  | with_reducible apply r_trg1
  | with_reducible apply r_sfld
  | with_reducible apply r_afld
  | with_reducible apply r_rAdd
  | with_reducible apply r_dget
  | with_reducible apply r_din
  | with_reducible apply r_dnot
  | with_reducible apply r_dput
  | with_reducible apply r_ikeys
  | with_reducible apply r_m1
  | with_reducible apply r_km1
  | with_reducible apply r_inS
  | with_reducible apply r_notInS
  | with_reducible apply r_isN
  | with_reducible apply r_ip
  | with_reducible apply r_kbmS
  | with_reducible apply r_min2
  | with_reducible apply r_isiB
  | with_reducible apply r_isiS
  | with_reducible apply r_tyes
  | with_reducible apply iteT
  | with_reducible apply iteF
  | with_reducible apply r_nT
  | with_reducible apply r_nF
  | with_reducible apply r_callS
  | with_reducible apply r_meth
  | with_reducible apply r_methS
  | with_reducible apply r_methD
  | with_reducible apply r_make
  | with_reducible apply r_lc
  | with_reducible apply r_for
  | with_reducible apply r_ilist
  | with_reducible apply r_itup
  | with_reducible apply r_irng1
  | with_reducible apply r_irng2
  | with_reducible apply r_istr
  | with_reducible apply r_ienum
  | with_reducible apply r_izip
  | with_reducible apply r_izip3
  | with_reducible apply r_izip4
  | with_reducible apply r_kis
  | with_reducible apply r_c
  | with_reducible apply r_op
  | with_reducible apply r_un
  | with_reducible apply r_i0
  | with_reducible apply r_u
  | with_reducible apply r_eqI
  | with_reducible apply r_neI
  | with_reducible apply r_eqS
  | with_reducible apply r_neS
  | with_reducible apply r_test
  | with_reducible apply r_B
  | with_reducible apply r_bl
  | with_reducible apply r_int
  | with_reducible apply r_and
  | with_reducible apply r_or
  | with_reducible apply r_not
  | with_reducible apply r_andV
  | with_reducible apply r_orV
  | with_reducible apply r_notV
  | with_reducible apply r_chain
  | with_reducible apply r_tif
  | with_reducible apply r_nil
  | with_reducible apply r_cons
  | with_reducible apply r_cb
  | with_reducible apply r_call
  | with_reducible apply r_seq
  | with_reducible apply r_asg
  | with_reducible apply r_name
  | with_reducible apply r_drop
  | with_reducible apply r_ret
  | with_reducible apply r_retN
  | with_reducible apply r_next
  | with_reducible apply r_ifS
  | with_reducible apply r_tup
  | with_reducible apply r_lst
  | with_reducible apply r_sl
  | with_reducible apply r_nopart
  | with_reducible apply r_part
  | with_reducible apply r_fld
  | with_reducible apply r_bm
  | with_reducible apply r_bm0)
local macro_rules | `(tactic| walk_at "rd") => `(tactic| repeat (walk_at "rd1"))

def sp_need_pack (K : PySem.W.Frag) : Sp := fun vs H Q E => ∃ (a : Addr) (ns : List Int) (many : Int), vs = [.ref a, .int many] ∧ Ints H a ns ∧ ns.length ≤ 100000 ∧
  ((∀ cs, unpackM ns = some cs → (cs.length : Int) = many → ∀ p H', H p = none → Same H H' → Ints H' p cs → Q (.ref p) H') ∧ ((∀ cs, unpackM ns = some cs → (cs.length : Int) ≠ many) → ∀ H', Same H H' → E (.ref (He.ga K "BadPart")) none H'))
theorem sc_need_pack : FnScope ["numbers", "many", "cells"] ["numbers", "many"] (defScope s_need_pack) := ⟨rfl, rfl, rfl, by decide +kernel, rfl, by decide +kernel, by decide +kernel⟩
section
theorem len_need_pack {K : PySem.W.Frag} {vs : List V} {H : Hp} {Q : VK} {E : XK} (h : (sp_need_pack K) vs H Q E) : vs.length = 2 := by
  repeat (obtain ⟨_, h⟩ := h)
  subst_vars; rfl
variable {P : Program} {w : World} {K : PySem.W.Frag} {mg : Str → Option Value} {base : Heap}
theorem ok_need_pack (T : Tx K mg) : Cal P w K mg base (L2.CX P w) 6 (He.ga K "need_pack") ["numbers", "many"] (sp_need_pack K) := by
  obtain ⟨fd, F⟩ := T.F_need_pack
  refine ⟨⟨fd, F.ok sc_need_pack (fun vs H Q E h => len_need_pack h) (fun cdv A outer s H vs Q E hr h => ⟨_, (
      (pss_cons (ps_try_sureK (pss_one (ps_if (pt_cmpR op_ne (pe_callB (cal_lenK K) (by rfl) T.b_len PySem.boot_len (pa_cons (pv 2) pa_nil)) (pv 1) (nomark _))
      (pss_one (ps_raise rfl (takes_of rfl rfl rfl rfl) (pmk_own PySem.F.excBase_ValueError T.x_BadPart.1 T.gx_BadPart T.x_BadPart.2.1 (raises_own T.x_BadPart.2.2.1 T.x_BadPart.2.2.2) rfl))) pss_nil)) rfl rfl ⟨rfl, by decide, .inl T.gx_BadPack⟩ (fun hd => L2H.passesAt_of rfl hd) (takes_of rfl rfl rfl rfl)
      (fun W pn xe tk po => (pss_one (ps_set (i := 2) sc_need_pack.nd rfl (Or.inl rfl) (pe_calS (ok_unpacked T) hr (by decide) (by rfl) T.g_unpacked (fun σ => L2N.passAt tk σ) (pa_cons (pv 0) pa_nil)))))
      (fun a oe cls d pn hz hf tkS hot => (pss_one (L2H.ps_raiseH hot tkS (L2N.pmk_own PySem.F.excBase_ValueError T.x_BadPart.1 T.gx_BadPart T.x_BadPart.2.1 (raises_own T.x_BadPart.2.2.1 T.x_BadPart.2.2.2) rfl)))))
      (pss_one (ps_ret (pv 2))))), ?_⟩), F.bindsN fun _ _ _ _ _ _ us hl => match us, hl with | [_, _], _ => rfl⟩, F.kp⟩
  obtain ⟨a, ns, many, rfl, hn, hz, q1, q2⟩ := h
  walk_at "rd"
  refine ⟨a, ns, rfl, hn, hz, fun cs hu p H1 n1 s1 e1 => ?_, fun hu H1 s1 => ?_⟩
  · walk_at "rd"
    refine r_lenI e1 ?_
    walk_at "rd"
    refine r_ifN (fun h1 => ?_) fun h1 => ?_
    · walk_at "rd"
      refine q2 (fun cs' hu' => ?_) H1 s1
      rw [hu] at hu'
      cases hu'
      exact h1
    · walk_at "rd"
      exact q1 cs hu h1 p H1 n1 s1 e1
  · refine ⟨T.e_BadPack_BadPack, fun b nb => ?_⟩
    exact q2 (fun cs' hu' => by rw [hu] at hu'; cases hu') H1 s1
end
def picM : List Int → Option (List (List Int))
  | a :: b :: t => if a < 24 ∧ b < 24 then (match unpackM (t.drop (b.toNat + 1)) with
    | some cs => if cs.length = (a.toNat + 1) * (b.toNat + 1) then (if (t.take (b.toNat + 1)).all isFold = true then some (unfoldPic none (chunkM (a.toNat + 1) (b.toNat + 1) cs) (t.take (b.toNat + 1))) else none) else none
    | none => none) else none
  | _ => none
theorem picM_eq (a b : Int) (t : List Int) : picM (a :: b :: t) = if a < 24 ∧ b < 24 then (match unpackM (t.drop (b.toNat + 1)) with
    | some cs => if cs.length = (a.toNat + 1) * (b.toNat + 1) then (if (t.take (b.toNat + 1)).all isFold = true then some (unfoldPic none (chunkM (a.toNat + 1) (b.toNat + 1) cs) (t.take (b.toNat + 1))) else none) else none
    | none => none) else none := rfl
/-- what was written is read back -/
theorem pic_back {rows : List (List Int)} {ns : List Int} (ok : PicOk rows) (h : PicNums rows ns) : picM ns = some rows := by
  obtain ⟨w, ks, out, ⟨w1, w2⟩, hw, rfl, hkl, hkf, hpk⟩ := h
  have h1 := ok.1
  have h2 := ok.2.1
  have hf := foldPic_ok ok hkl
  have hfl := foldPic_len none rows ks hkl.symm
  have hfw : Wide w (foldPic none rows ks) := foldPic_wide none rows ks (fun r e => by cases e) hw
  show picM (((w : Int) - 1) :: ((rows.length : Int) - 1) :: (ks ++ out)) = _
  rw [picM_eq, if_pos (by omega), show ((w : Int) - 1).toNat + 1 = w by omega, show ((rows.length : Int) - 1).toNat + 1 = rows.length by omega, ← hkl, List.drop_left, List.take_left, unpack_packs hpk (flat_ok hf).2]
  simp only
  have hlen : (foldPic none rows ks).flatten.length = w * rows.length := by rw [flat_len fun r hr => (hfw r hr).1, hfl]
  rw [if_pos (by rw [hlen, hkl]), if_pos hkf, hkl]
  have hch : chunkM w rows.length (foldPic none rows ks).flatten = foldPic none rows ks := by
    rw [← hfl]
    exact chunk_flat fun r hr => (hfw r hr).1
  rw [hch, unfoldPic_fold none rows ks hkl.symm (fun r e => by cases e) hw]
theorem chunk_wide {w h : Nat} {cs : List Int} (hl : cs.length = w * h) (hc : cs.all isCell = true) : Wide w (chunkM w h cs) := fun r hr => by
  obtain ⟨i, hi⟩ := List.getElem?_of_mem hr
  obtain ⟨rfl, hlt⟩ := chunk_at hi
  refine ⟨?_, fun c hm => cells_all.mp hc c (List.mem_of_mem_drop (List.mem_of_mem_take hm))⟩
  rw [List.length_take, List.length_drop, hl]
  have h1 : i * w + w ≤ w * h := by
    rw [← Nat.succ_mul, Nat.mul_comm w h]
    exact Nat.mul_le_mul_right w hlt
  omega
def sp_picture_by_numbers (K : PySem.W.Frag) : Sp := fun vs H Q E => ∃ (a : Addr) (ns : List Int), vs = [.ref a] ∧ Ints H a ns ∧ ns.length ≤ 100000 ∧ ns.all six = true ∧
  ((∀ rows, picM ns = some rows → ∀ p H', Same H H' → Pic H' p rows → Q (.ref p) H') ∧ (picM ns = none → ∀ H', Same H H' → E (.ref (He.ga K "BadPart")) none H'))
theorem sc_picture_by_numbers : FnScope ["numbers", "wide", "high", "cells"] ["numbers"] (defScope s_picture_by_numbers) := ⟨rfl, rfl, rfl, by decide +kernel, rfl, by decide +kernel, by decide +kernel⟩
section
theorem len_picture_by_numbers {K : PySem.W.Frag} {vs : List V} {H : Hp} {Q : VK} {E : XK} (h : (sp_picture_by_numbers K) vs H Q E) : vs.length = 1 := by
  repeat (obtain ⟨_, h⟩ := h)
  subst_vars; rfl
variable {P : Program} {w : World} {K : PySem.W.Frag} {mg : Str → Option Value} {base : Heap}
theorem ok_picture_by_numbers (T : Tx K mg) : Cal P w K mg base (L2.CX P w) 8 (He.ga K "picture_by_numbers") ["numbers"] (sp_picture_by_numbers K) := by
  obtain ⟨fd, F⟩ := T.F_picture_by_numbers
  refine ⟨⟨fd, F.ok sc_picture_by_numbers (fun vs H Q E h => len_picture_by_numbers h) (fun cdv A outer s H vs Q E hr h => ⟨_, (
      (pss_cons (ps_if (PW.pt (pw_or (pt_cmpR op_lt (pe_callB (cal_lenK K) (by rfl) T.b_len PySem.boot_len (pa_cons (pv 0) pa_nil)) pe_int (nomark _)) (pw_or1 (pt_cmpR op_ge (pe_callB (cr_maxK K rfl) (by rfl) T.b_max (by decide +kernel) (pa_cons (pe_slice (sl_listK K) (pv 0) po_none (po_some pe_int)) pa_nil)) (C8.pe_gc (by rfl) T.k_MOST_SIDE) (nomark _)))))
      (pss_one (ps_raise rfl (takes_of rfl rfl rfl rfl) (pmk_own PySem.F.excBase_ValueError T.x_BadPart.1 T.gx_BadPart T.x_BadPart.2.1 (raises_own T.x_BadPart.2.2.1 T.x_BadPart.2.2.2) rfl))) pss_nil)
      (pss_cons (ps_set (i := 1) sc_picture_by_numbers.nd rfl (Or.inl rfl) (pe_op op_add (pe_ix (ix_listK K) (pv 0) pe_int (fun _ _ => rfl)) pe_int))
      (pss_cons (ps_set (i := 2) sc_picture_by_numbers.nd rfl (Or.inl rfl) (pe_op op_add (pe_ix (ix_listK K) (pv 0) pe_int (fun _ _ => rfl)) pe_int))
      (pss_cons (ps_set (i := 3) sc_picture_by_numbers.nd rfl (Or.inl rfl) (pe_cal (ok_need_pack T) hr (by decide) (by rfl) T.g_need_pack (passes_call (takes_of rfl rfl rfl rfl) (fun _ _ _ _ h => h)) (pa_cons (pe_slice (sl_listK K) (pv 0) (po_some (pe_op op_add pe_int (pv 2))) po_none) (pa_cons (pe_op op_mul (pv 1) (pv 2)) pa_nil))))
      (pss_one (ps_try_sureK pss_nil rfl rfl ⟨rfl, by decide, .inl T.gx_BadRule⟩ (fun hd => L2H.passesAt_of rfl hd) (takes_of rfl rfl rfl rfl)
      (fun W pn xe tk po => (pss_one (ps_ret (pe_calS (ok_unfolded_picture T) hr (by decide) (by rfl) T.g_unfolded_picture (fun σ => L2N.passAt tk σ) (pa_cons (pe_cal (ok_rows_by T) hr (by decide) (by rfl) T.g_rows_by pass0 (pa_cons (pv 3) (pa_cons (pv 1) pa_nil))) (pa_cons (pe_slice (sl_listK K) (pv 0) (po_some pe_int) (po_some (pe_op op_add pe_int (pv 2)))) pa_nil))))))
      (fun a oe cls d pn hz hf tkS hot => (pss_one (L2H.ps_raiseH hot tkS (L2N.pmk_own PySem.F.excBase_ValueError T.x_BadPart.1 T.gx_BadPart T.x_BadPart.2.1 (raises_own T.x_BadPart.2.2.1 T.x_BadPart.2.2.2) rfl))))))))))), ?_⟩), F.bindsN fun _ _ _ _ _ _ us hl => match us, hl with | [_], _ => rfl⟩, F.kp⟩
  obtain ⟨o, ns, rfl, hn, hz, h6, q1, q2⟩ := h
  walk_at "rd"
  refine r_lenI hn ?_
  walk_at "rd"
  match ns, hn, hz, h6, q1, q2 with
  | [], hn, hz, h6, q1, q2 =>
    refine r_yes (by simp) ?_
    walk_at "rd"
    exact q2 rfl H (Same.refl H)
  | [_], hn, hz, h6, q1, q2 =>
    refine r_yes (by simp) ?_
    walk_at "rd"
    exact q2 rfl H (Same.refl H)
  | a :: b :: t, hn, hz, h6, q1, q2 =>
    refine r_no (by simp; omega) ?_
    have ha := six_at h6 (List.mem_cons_self ..)
    have hb := six_at h6 (n := b) (List.mem_cons_of_mem _ (List.mem_cons_self ..))
    rw [picM_eq] at q1 q2
    walk_at "rd"
    refine r_slL (ints_sq hn) fun p1 H1 n1 s1 e1 => ?_
    rw [show (2 : Int) = ((2 : Nat) : Int) from rfl, cutI_j] at e1
    walk_at "rd"
    refine r_max (ns := [a, b]) e1 (by simp) fun m hm hmm => ?_
    walk_at "rd"
    have hma := hmm a (by simp)
    have hmb := hmm b (by simp)
    refine r_ifD (fun h24 => ?_) fun h24 => ?_
    · walk_at "rd"
      refine q2 ?_ H1 s1
      simp only [List.mem_cons, List.not_mem_nil, or_false] at hm
      rw [if_neg (by rcases hm with rfl | rfl <;> omega)]
    · have h24' : a < 24 ∧ b < 24 := by omega
      rw [if_pos h24'] at q1 q2
      have hn1 := s1 _ _ hn
      walk_at "rd"
      refine r_ixL (ints_sq hn1) (v := .int a) (atI_nat (j := 0) rfl) ?_
      walk_at "rd"
      refine r_ixL (ints_sq hn1) (v := .int b) (atI_nat (j := 1) rfl) ?_
      walk_at "rd"
      refine r_slL (ints_sq hn1) fun p2 H2 n2 s2 e2 => ?_
      rw [show (2 : Int) + (b + 1) = ((2 + (b.toNat + 1) : Nat) : Int) by omega, cutI_i, ← List.drop_drop] at e2
      walk_at "rd"
      refine r_i (.inl ⟨by omega, by omega⟩) ?_
      walk_at "rd"
      have s02 := s1.trans s2
      have eab : (a + 1) * (b + 1) = (((a.toNat + 1) * (b.toNat + 1) : Nat) : Int) := by
        rw [Int.natCast_mul]
        congr 1 <;> omega
      refine ⟨p2, _, _, rfl, e2, by simp; simp at hz; omega, fun cs hu hcl p3 H3 n3 s3 e3 => ?_, fun hbad H3 s3 => ?_⟩
      · have hu : unpackM (t.drop (b.toNat + 1)) = some cs := hu
        rw [eab] at hcl
        have hcl : cs.length = (a.toNat + 1) * (b.toNat + 1) := by omega
        rw [hu] at q1 q2
        simp only at q1 q2
        rw [if_pos hcl] at q1 q2
        have hcell : cs.all isCell = true := unpackM_ok hu
        have htl : b.toNat + 1 < t.length := by
          by_cases hh : b.toNat + 1 < t.length
          · exact hh
          · rw [List.drop_of_length_le (by omega)] at hu
            have : cs = [] := by
              have : unpackM [] = some [] := rfl
              rw [this] at hu
              exact (Option.some.inj hu).symm
            rw [this] at hcl
            have : 0 < (a.toNat + 1) * (b.toNat + 1) := Nat.mul_pos (by omega) (by omega)
            simp at hcl
        walk_at "rd"
        refine ⟨p3, cs, a.toNat + 1, b.toNat + 1, ?_, e3, hcell, hcl, ⟨by omega, by omega⟩, ⟨by omega, by omega⟩, fun p4 H4 s4 hpn => ?_⟩
        · rw [show a + 1 = ((a.toNat + 1 : Nat) : Int) by omega]
        walk_at "rd"
        have hn4 := s4 _ _ (s3 _ _ (s2 _ _ hn1))
        refine r_slL (ints_sq hn4) fun p5 H5 n5 s5 e5 => ?_
        rw [show (2 : Int) + (b + 1) = ((2 + (b.toNat + 1) : Nat) : Int) by omega, show (2 : Int) = ((2 : Nat) : Int) from rfl, cutI_ij, show 2 + (b.toNat + 1) - 2 = b.toNat + 1 by omega] at e5
        have e5' : Ints H5 p5 (t.take (b.toNat + 1)) := e5
        walk_at "rd"
        have s05 := ((s02.trans s3).trans s4).trans s5
        have hchl : (chunkM (a.toNat + 1) (b.toNat + 1) cs).length = b.toNat + 1 := by simp [chunkM]
        refine ⟨p4, _, p5, t.take (b.toNat + 1), rfl, (hpn.same s5).pic, .of (by omega) (by omega) (by omega) (by omega) (chunk_wide hcl hcell), e5', by rw [hchl, List.length_take]; omega, fun hf p6 H6 s6 hp6 => ?_, fun hf H6 s6 => ?_⟩
        · rw [if_pos hf] at q1
          exact q1 _ rfl p6 H6 (s05.trans s6) hp6
        · refine ⟨T.e_BadRule_BadRule, fun _ _ => ?_⟩
          rw [if_neg (by rw [hf]; decide)] at q2
          exact q2 rfl H6 (s05.trans s6)
      · refine q2 ?_ H3 (s02.trans s3)
        cases hu : unpackM (t.drop (b.toNat + 1)) with
        | none => rfl
        | some cs =>
          simp only
          rw [if_neg fun hcl => hbad cs hu (by rw [hcl, eab])]
end
end K44
set_option Elab.async false
set_option linter.all false
set_option maxRecDepth 100000
set_option maxHeartbeats 4000000
namespace K44
open PySem PySem.Spec PyProof.Rows L2
local macro_rules | `(tactic| walk_at "rd1") => `(tactic| first
  | ((with_reducible apply r_var); rfl)
  | ((with_reducible apply r_aug); rfl)
  | with_reducible apply r_isiI
  | with_reducible apply r_tslS
  | with_reducible apply r_try
  | with_reducible apply r_gsub
  | with_reducible apply r_irev
  | with_reducible apply r_trg1
  | with_reducible apply r_sfld
  | with_reducible apply r_afld
  | with_reducible apply r_rAdd
  | with_reducible apply r_dget
  | with_reducible apply r_din
  | with_reducible apply r_dnot
  | with_reducible apply r_dput
  | with_reducible apply r_ikeys
  | with_reducible apply r_m1
  | with_reducible apply r_km1
  | with_reducible apply r_inS
  | with_reducible apply r_notInS
  | with_reducible apply r_isN
  | with_reducible apply r_ip
  | with_reducible apply r_kbmS
  | with_reducible apply r_min2
  | with_reducible apply r_isiB
  | with_reducible apply r_isiS
  | with_reducible apply r_tyes
  | with_reducible apply iteT
  | with_reducible apply iteF
  | with_reducible apply r_nT
  | with_reducible apply r_nF
  | with_reducible apply r_callS
  | with_reducible apply r_meth
  | with_reducible apply r_methS
  | with_reducible apply r_methD
  | with_reducible apply r_make
  | with_reducible apply r_lc
  | with_reducible apply r_for
  | with_reducible apply r_ilist
  | with_reducible apply r_itup
  | with_reducible apply r_irng1
  | with_reducible apply r_irng2
  | with_reducible apply r_istr
  | with_reducible apply r_ienum
  | with_reducible apply r_izip
  | with_reducible apply r_izip3
  | with_reducible apply r_izip4
  | with_reducible apply r_kis
  | with_reducible apply r_c
  | with_reducible apply r_op
  | with_reducible apply r_un
  | with_reducible apply r_i0
  | with_reducible apply r_u
  | with_reducible apply r_eqI
  | with_reducible apply r_neI
  | with_reducible apply r_eqS
  | with_reducible apply r_neS
  | with_reducible apply r_test
  | with_reducible apply r_B
  | with_reducible apply r_bl
  | with_reducible apply r_int
  | with_reducible apply r_and
  | with_reducible apply r_or
  | with_reducible apply r_not
  | with_reducible apply r_andV
  | with_reducible apply r_orV
  | with_reducible apply r_notV
  | with_reducible apply r_chain
  | with_reducible apply r_tif
  | with_reducible apply r_nil
  | with_reducible apply r_cons
  | with_reducible apply r_cb
  | with_reducible apply r_call
  | with_reducible apply r_seq
  | with_reducible apply r_asg
  | with_reducible apply r_name
  | with_reducible apply r_drop
  | with_reducible apply r_ret
  | with_reducible apply r_retN
  | with_reducible apply r_next
  | with_reducible apply r_ifS
  | with_reducible apply r_tup
  | with_reducible apply r_lst
  | with_reducible apply r_sl
  | with_reducible apply r_nopart
  | with_reducible apply r_part
  | with_reducible apply r_fld
  | with_reducible apply r_bm
  | with_reducible apply r_bm0)
local macro_rules | `(tactic| walk_at "rd") => `(tactic| repeat (walk_at "rd1"))

/-! Palettes. -/
abbrev Col := Int × Int × Int
def dC (c : Col) : PyData := .tuple [.int c.1, .int c.2.1, .int c.2.2]
theorem dp_C {K : PySem.W.Frag} {H : Hp} {t : Addr} {c : Col} (h : H t = some (.tup (wayT c))) : Dp K H (.ref t) (dC c) := .tup (SqT.of h) (.cons (.int _) (.cons (.int _) (.cons (.int _) .nil)))
theorem dp_Cs {K : PySem.W.Frag} {H : Hp} {l : Addr} {qs : List (Addr × Col)} (h : H l = some (.lst (qs.map fun q => V.ref q.1))) (hi : ∀ q ∈ qs, H q.1 = some (.tup (wayT q.2))) : Dp K H (.ref l) (.list ((qs.map (·.2)).map dC)) := by
  rw [List.map_map]
  exact .lst (SqL.of h) (dp_map fun q hq => dp_C (hi q hq))
theorem shaped_C (c : Col) : SeqAt.shaped (dC c) = true := shaped_of (by simp [dC, PyData.canLay0, PyData.canLayAll0]) (by simp [dC, PyData.depth, PyData.depthAll])
theorem shaped_Cs (cs : List Col) : SeqAt.shaped (.list (cs.map dC)) = true := shaped_of (by
  simp only [PyData.canLay0]; exact lay_map fun x _ => SeqAt.canLay_of_shaped (shaped_C x)) (by
  simp only [PyData.depth]
  have := depth_map (g := dC) (n := 1) (xs := cs) fun x _ => by simp [dC, PyData.depth, PyData.depthAll]
  omega)
theorem eqv_C (a b : Col) : PyData.eqv (dC a) (dC b) = decide (a = b) := by
  obtain ⟨a1, a2, a3⟩ := a
  obtain ⟨b1, b2, b3⟩ := b
  simp only [dC, PyData.eqv, PyData.eqvAll, Bool.and_true]
  by_cases h1 : a1 = b1 <;> by_cases h2 : a2 = b2 <;> by_cases h3 : a3 = b3 <;> simp [h1, h2, h3]
theorem any_C (cs : List Col) (c : Col) : ((cs.map dC).any fun z => PyData.eqv z (dC c)) = decide (c ∈ cs) := by
  induction cs with
  | nil => simp
  | cons a r ih =>
    rw [List.map_cons, List.any_cons, ih, eqv_C]
    by_cases h : a = c
    · simp [h]
    · have : ¬ c = a := fun e => h e.symm
      simp [h, this]
def ColOk (c : Col) : Prop := isShare c.1 ∧ isShare c.2.1 ∧ isShare c.2.2
def pf (l : Addr) : List (Str × V) := [("shades", .ref l)]
def PalAt (C : Addr) (H : Hp) (p : Addr) (cols : List Col) : Prop := ∃ dx l, H p = some (.ins C dx (pf l)) ∧ WaysAt H l cols
theorem PalAt.same {C : Addr} {H H' : Hp} {p : Addr} {cols : List Col} (s : Same H H') (h : PalAt C H p cols) : PalAt C H' p cols := by
  obtain ⟨dx, l, h1, h2⟩ := h
  exact ⟨dx, l, s _ _ h1, h2.same s⟩
theorem pf_at (l : Addr) : (pf l).lookup ("shades" : Str) = some (.ref l) := by
  have : pf l = putF "shades" (.ref l) [] := rfl
  rw [this, lookup_putF, if_pos rfl]
theorem pf_no (l : Addr) {m : Str} (h : ¬ m = "shades") : (pf l).lookup m = none := by
  have : pf l = putF "shades" (.ref l) [] := rfl
  rw [this, lookup_putF, if_neg h]
  rfl
def sp_Palette_init (K : PySem.W.Frag) : Sp := fun vs H Q E => ∃ (p dx l : Addr) (cols : List Col), vs = [.ref p, .ref l] ∧ H p = some (.ins (He.ga K "Palette") dx []) ∧ WaysAt H l cols ∧ (1 ≤ cols.length ∧ cols.length ≤ 16) ∧ (∀ c ∈ cols, ColOk c) ∧
  ((cols.Nodup → ∀ H', PalAt (He.ga K "Palette") H' p cols → Fr [p] H H' → Q .non H') ∧ (¬ cols.Nodup → ∀ H', Same H H' → E (.ref (He.ga K "BadPalette")) none H'))
theorem sc_Palette_init : FnScope ["self", "colours", "place", "colour"] ["self", "colours"] (defScope s_Palette_init) := ⟨rfl, rfl, rfl, by decide +kernel, rfl, by decide +kernel, by decide +kernel⟩
section
theorem len_Palette_init {K : PySem.W.Frag} {vs : List V} {H : Hp} {Q : VK} {E : XK} (h : (sp_Palette_init K) vs H Q E) : vs.length = 2 := by
  repeat (obtain ⟨_, h⟩ := h)
  subst_vars; rfl
variable {P : Program} {w : World} {K : PySem.W.Frag} {mg : Str → Option Value} {base : Heap}
theorem ok_Palette_init (T : Tx K mg) : Cal P w K mg base (L2N.CX P w) 3 (He.ma K (He.ga K "Palette") "__init__") ["self", "colours"] (sp_Palette_init K) := by
  obtain ⟨fd, F⟩ := T.F_Palette_init
  refine ⟨⟨fd, F.ok sc_Palette_init (fun vs H Q E h => len_Palette_init h) (fun cdv A outer s H vs Q E hr h => ⟨_, (
      (pss_cons (ps_if (PW.pt (pw_or (pt_not (pt_val (pe_callB (isiK K) (by rfl) T.b_isinstance boot_isinstance (pa_cons (pv 1) (pa_cons (pe_bltn (v := .ty "list") (by rfl) T.b_list (by decide +kernel) rfl) pa_nil))))) (pw_or1 (pt_not (pt_chain op_le op_le pe_int (pe_callB (cal_lenK K) (by rfl) T.b_len PySem.boot_len (pa_cons (pv 1) pa_nil)) (C8.pe_gc (by rfl) T.k_MOST_COLOURS))))))
      (pss_one (L2N.ps_raise rfl (L2N.takes_of rfl rfl rfl rfl) (L2N.pmk_own PySem.F.excBase_ValueError T.x_BadPalette.1 T.gx_BadPalette T.x_BadPalette.2.1 (raises_own T.x_BadPalette.2.2.1 T.x_BadPalette.2.2.2) rfl))) pss_nil)
      (pss_cons (ps_for (passes_of rfl) rfl (pi_enumK K (by rfl) T.b_enumerate (pa_cons (pv 1) pa_nil)) (pg_tupK (n := 2) K rfl (pgs_cons (pg_name (i := 2) sc_Palette_init.nd rfl (Or.inl rfl)) (pgs_cons (pg_name (i := 3) sc_Palette_init.nd rfl (Or.inl rfl)) pgs_nil)))
      (pss_one (ps_if (PW.pt (pw_or (pt_not (pt_val (pe_cal (ok_is_colour T) hr (by decide) (by rfl) T.g_is_colour pass0 (pa_cons (pv 3) pa_nil)))) (pw_or1 (pt_cmpR (op_inDK K (u65 hr)) (pv 3) (pe_slice (sl_listK K) (pv 1) po_none (po_some (pv 2))) rfl))))
      (pss_one (L2N.ps_raise rfl (L2N.takes_of rfl rfl rfl rfl) (L2N.pmk_own PySem.F.excBase_ValueError T.x_BadPalette.1 T.gx_BadPalette T.x_BadPalette.2.1 (raises_own T.x_BadPalette.2.2.1 T.x_BadPalette.2.2.2) rfl))) pss_nil)))
      (pss_one (ps_fld (pv 0) (pe_callTy (cal_listK K) (by rfl) T.b_list (by decide +kernel) (pa_cons (pv 1) pa_nil)) rfl))))), ?_⟩), F.bindsN fun _ _ _ _ _ _ us hl => match us, hl with | [_, _], _ => rfl⟩, F.kp⟩
  obtain ⟨p, dx, l, cols, rfl, hp, ⟨qs, k1, k2, k3⟩, ⟨l1, l2⟩, hok, q1, q2⟩ := h
  have hql : qs.length = cols.length := by rw [← k2]; simp
  walk_at "rd"
  refine r_isiL k1 ?_
  walk_at "rd"
  refine r_len (SqL.of k1) ?_
  walk_at "rd"
  refine r_yes (by simp; omega) ?_
  walk_at "rd"
  refine r_noN (by simp; omega) ?_
  walk_at "rd"
  refine r_kie (SqL.of k1) ?_
  refine kfor (walk_enum (xs := qs.map fun q => V.ref q.1)) (fun i σ H1 => (∃ z1 z2, σ = [some (.ref p), some (.ref l), z1, z2]) ∧ Same H H1 ∧ (cols.take i).Nodup) ⟨⟨none, none, rfl⟩, Same.refl H, by simp⟩ (fun i σ H1 _ h => ?_) (fun i x σ H1 H2 hi h y => ?_) fun σ H1 h => ?_
  · exact SqL.of (h.2.1 _ _ k1)
  · obtain ⟨⟨z1, z2, rfl⟩, s1, hnd⟩ := h
    obtain ⟨t, y1, y2, rfl, hT, rfl, e5, e6⟩ := y
    obtain ⟨q, hq, rfl⟩ := map_atc e6
    have e7 := Option.some.inj e5
    subst e7
    have hm : q ∈ qs := List.mem_of_getElem? hq
    have hc : cols[i]? = some q.2 := by rw [← k2, List.getElem?_map, hq]; rfl
    have s2 : Same H1 (upd H1 t (.tup [.int i, .ref q.1])) := same_up hT
    refine r_gt2 (SqT.of upd_same) ?_
    generalize upd H1 t (.tup [.int i, .ref q.1]) = H2 at s2 ⊢
    have s02 := s1.trans s2
    walk_at "rd"
    refine ⟨q.1, q.2.1, q.2.2.1, q.2.2.2, rfl, s02 _ _ (k3 q hm), hok q.2 (List.mem_of_getElem? hc), fun H3 s3 => ?_⟩
    walk_at "rd"
    have s03 := s02.trans s3
    refine r_slL (SqL.of (s03 _ _ k1)) fun p4 H4 n4 s4 e4 => ?_
    rw [cut_j, ← List.map_take] at e4
    have s04 := s03.trans s4
    have hd := dp_Cs (K := K) e4 fun z hz => s04 _ _ (k3 z (List.mem_of_mem_take hz))
    refine ⟨dC q.2, _, dp_C (s04 _ _ (k3 q hm)), hd, shaped_C _, shaped_Cs _, ?_⟩
    rw [any_C, List.map_take, k2]
    walk_at "rd"
    have et : cols.take (i + 1) = cols.take i ++ [q.2] := by rw [List.take_add_one, hc]; rfl
    refine r_ifD (fun hin => ?_) fun hin => ?_
    · walk_at "rd"
      refine q2 (fun hn => ?_) H4 s04
      have h3 : (cols.take (i + 1)).Nodup := hn.sublist (List.take_sublist _ _)
      rw [et, List.nodup_append] at h3
      exact h3.2.2 _ hin _ (List.mem_singleton.mpr rfl) rfl
    · walk_at "rd"
      refine ⟨⟨_, _, rfl⟩, s04, ?_⟩
      rw [et, List.nodup_append]
      exact ⟨hnd, by simp, fun a ha b hb e => hin (by simp at hb; rw [← hb, ← e]; exact ha)⟩
  · obtain ⟨⟨z1, z2, rfl⟩, s1, hnd⟩ := h
    rw [List.take_of_length_le (by simp; omega)] at hnd
    walk_at "rd"
    refine r_list (SqL.of (s1 _ _ k1)) fun p2 H2 n2 s2 e2 => ?_
    have hp2 := s2 _ _ (s1 _ _ hp)
    walk_at "rd"
    refine r_ksetf hp2 T.c_Palette T.n_Palette_shades (by decide) ?_
    refine q1 hnd _ ⟨dx, p2, upd_same, qs, ?_, k2, fun z hz => ?_⟩ (fr_upd (sfr (s1.trans s2)) (List.mem_singleton.mpr rfl))
    · rw [upd_ne (ne_of e2 hp2 (fun z => by cases z))]
      exact e2
    · have := s2 _ _ (s1 _ _ (k3 z hz))
      rw [upd_ne (ne_of this hp2 (fun z => by cases z))]
      exact this
end
def sp_Palette_colours (K : PySem.W.Frag) : Sp := fun vs H Q _ => ∃ (p : Addr) (cols : List Col), vs = [.ref p] ∧ PalAt (He.ga K "Palette") H p cols ∧ ∀ r H', H r = none → Same H H' → WaysAt H' r cols → Q (.ref r) H'
theorem sc_Palette_colours : FnScope ["self"] ["self"] (defScope s_Palette_colours) := ⟨rfl, rfl, rfl, by decide +kernel, rfl, by decide +kernel, by decide +kernel⟩
section
theorem len_Palette_colours {K : PySem.W.Frag} {vs : List V} {H : Hp} {Q : VK} {E : XK} (h : (sp_Palette_colours K) vs H Q E) : vs.length = 1 := by
  repeat (obtain ⟨_, h⟩ := h)
  subst_vars; rfl
variable {P : Program} {w : World} {K : PySem.W.Frag} {mg : Str → Option Value} {base : Heap}
theorem ok_Palette_colours (T : Tx K mg) : Cal P w K mg base CX0 1 (He.ma K (He.ga K "Palette") "colours") ["self"] (sp_Palette_colours K) := by
  obtain ⟨fd, F⟩ := T.F_Palette_colours
  refine ⟨⟨fd, F.ok sc_Palette_colours (fun vs H Q E h => len_Palette_colours h) (fun cdv A outer s H vs Q E hr h => ⟨_, PSs.nox (
      (pss_one (ps_ret (pe_callTy (cal_listK K) (by rfl) T.b_list (by decide +kernel) (pa_cons (pe_fldK K (pv 0) rfl) pa_nil))))), ?_⟩), F.bindsN fun _ _ _ _ _ _ us hl => match us, hl with | [_], _ => rfl⟩, F.kp⟩
  obtain ⟨p, cols, rfl, ⟨dx, l, hp, qs, k1, k2, k3⟩, q⟩ := h
  walk_at "rd"
  refine r_kfld hp T.c_Palette T.n_Palette_shades (pf_at _) ?_
  walk_at "rd"
  exact r_list (SqL.of k1) fun r H1 n1 s1 e1 => q r H1 n1 s1 ⟨qs, e1, k2, fun z hz => s1 _ _ (k3 z hz)⟩
end
def sp_Palette_many (K : PySem.W.Frag) : Sp := fun vs H Q _ => ∃ (p : Addr) (cols : List Col), vs = [.ref p] ∧ PalAt (He.ga K "Palette") H p cols ∧ Q (.int cols.length) H
theorem sc_Palette_many : FnScope ["self"] ["self"] (defScope s_Palette_many) := ⟨rfl, rfl, rfl, by decide +kernel, rfl, by decide +kernel, by decide +kernel⟩
section
theorem len_Palette_many {K : PySem.W.Frag} {vs : List V} {H : Hp} {Q : VK} {E : XK} (h : (sp_Palette_many K) vs H Q E) : vs.length = 1 := by
  repeat (obtain ⟨_, h⟩ := h)
  subst_vars; rfl
variable {P : Program} {w : World} {K : PySem.W.Frag} {mg : Str → Option Value} {base : Heap}
theorem ok_Palette_many (T : Tx K mg) : Cal P w K mg base CX0 1 (He.ma K (He.ga K "Palette") "many") ["self"] (sp_Palette_many K) := by
  obtain ⟨fd, F⟩ := T.F_Palette_many
  refine ⟨⟨fd, F.ok sc_Palette_many (fun vs H Q E h => len_Palette_many h) (fun cdv A outer s H vs Q E hr h => ⟨_, PSs.nox (
      (pss_one (ps_ret (pe_callB (cal_lenK K) (by rfl) T.b_len PySem.boot_len (pa_cons (pe_fldK K (pv 0) rfl) pa_nil))))), ?_⟩), F.bindsN fun _ _ _ _ _ _ us hl => match us, hl with | [_], _ => rfl⟩, F.kp⟩
  obtain ⟨p, cols, rfl, ⟨dx, l, hp, qs, k1, k2, k3⟩, q⟩ := h
  walk_at "rd"
  refine r_kfld hp T.c_Palette T.n_Palette_shades (pf_at _) ?_
  walk_at "rd"
  refine r_len (SqL.of k1) ?_
  rw [List.length_map]
  rw [← k2, List.length_map] at q
  exact q
end
def colSix (c : Col) : List Int := ([18, 12, 6, 0] : List Int).map fun s => colN c.1 c.2.1 c.2.2 / 2 ^ s.toNat % 64
def palNums (cols : List Col) : List Int := ((cols.length : Int) - 1) :: (cols.map colSix).flatten
def sp_palette_numbers (K : PySem.W.Frag) : Sp := fun vs H Q _ => ∃ (p : Addr) (cols : List Col), vs = [.ref p] ∧ PalAt (He.ga K "Palette") H p cols ∧ (1 ≤ cols.length ∧ cols.length ≤ 16) ∧ (∀ c ∈ cols, ColOk c) ∧ ∀ r H', H r = none → Same H H' → Ints H' r (palNums cols) → Q (.ref r) H'
theorem six_flat (cs : List Col) : (cs.map colSix).flatten.length = 4 * cs.length := by
  induction cs with
  | nil => rfl
  | cons a r ih =>
    rw [List.map_cons, List.flatten_cons, List.length_append, ih, List.length_cons]
    show 4 + _ = _
    omega
theorem sc_palette_numbers : FnScope ["palette", "found", "colour", "number", "shift"] ["palette"] (defScope s_palette_numbers) := ⟨rfl, rfl, rfl, by decide +kernel, rfl, by decide +kernel, by decide +kernel⟩
section
theorem len_palette_numbers {K : PySem.W.Frag} {vs : List V} {H : Hp} {Q : VK} {E : XK} (h : (sp_palette_numbers K) vs H Q E) : vs.length = 1 := by
  repeat (obtain ⟨_, h⟩ := h)
  subst_vars; rfl
variable {P : Program} {w : World} {K : PySem.W.Frag} {mg : Str → Option Value} {base : Heap}
theorem ok_palette_numbers (T : Tx K mg) : Cal P w K mg base CX0 5 (He.ga K "palette_numbers") ["palette"] (sp_palette_numbers K) := by
  obtain ⟨fd, F⟩ := T.F_palette_numbers
  refine ⟨⟨fd, F.ok sc_palette_numbers (fun vs H Q E h => len_palette_numbers h) (fun cdv A outer s H vs Q E hr h => ⟨_, PSs.nox (
      (pss_cons (ps_set (i := 1) sc_palette_numbers.nd rfl (Or.inl rfl) (pe_lst (pa_cons (pe_op op_sub (pe_calM0 (pv 0) T.c_Palette T.m_Palette_many (ok_Palette_many T) hr (by decide) pass0) pe_int) pa_nil)))
      (pss_cons (ps_for PassesOwn.never rfl (pi_listK K (pe_calM0 (pv 0) T.c_Palette T.m_Palette_colours (ok_Palette_colours T) hr (by decide) pass0)) (pg_name (i := 2) sc_palette_numbers.nd rfl (Or.inl rfl))
      (pss_cons (ps_set (i := 3) sc_palette_numbers.nd rfl (Or.inr rfl) (pe_cal (ok_colour_number T) hr (by decide) (by rfl) T.g_colour_number pass0 (pa_cons (pv 2) pa_nil)))
      (pss_one (ps_aug (i := 1) sc_palette_numbers.nd rfl (Or.inl rfl) (pe_lc (own := [("shift", 4)]) rfl sc_palette_numbers.nd (pi_tupK K (pe_tup (pa_cons pe_int (pa_cons pe_int (pa_cons pe_int (pa_cons pe_int pa_nil)))))) (blkOk_by (own := [("shift", 4)]) (N := ["palette", "found", "colour", "number", "shift"]) (sc := defScope s_palette_numbers) (by decide +kernel)) (fun _ _ _ _ _ => (pg_name (i := 4) sc_palette_numbers.nd rfl (Or.inl rfl))) (fun _ _ _ _ _ => pts_nil) (fun _ _ _ _ _ => (pe_op op_and (pe_op op_shr (pv 3) (pv 4)) pe_int))) iop_ext))))
      (pss_one (ps_ret (pv 1)))))), ?_⟩), F.bindsN fun _ _ _ _ _ _ us hl => match us, hl with | [_], _ => rfl⟩, F.kp⟩
  obtain ⟨p, cols, rfl, hp, ⟨l1, l2⟩, hok, q⟩ := h
  have hpo := hp
  obtain ⟨dx, l, hp1, _⟩ := id hp
  walk_at "rd"
  refine r_kmeth hp1 (pf_no _ (by decide +kernel)) ?_
  walk_at "rd"
  refine ⟨p, cols, rfl, hp, ?_⟩
  walk_at "rd"
  refine r_klst (len_le rfl) fun f H1 n1 s1 e1 => ?_
  walk_at "rd"
  refine r_kmeth (s1 _ _ hp1) (pf_no _ (by decide +kernel)) ?_
  walk_at "rd"
  refine ⟨p, cols, rfl, hp.same s1, fun r H2 n2 s2 w2 => ?_⟩
  obtain ⟨qs, k1, k2, k3⟩ := w2
  have hql : qs.length = cols.length := by rw [← k2]; simp
  have nrf : r ≠ f := (ne_of_none e1 n2).symm
  have e2 := s2 _ _ e1
  refine r_kil (SqL.of k1) ?_
  refine kfor (walk_list (xs := qs.map fun q => V.ref q.1)) (fun i σ H3 => (∃ z1 z2, σ = [some (.ref p), some (.ref f), z1, z2, none]) ∧ Same (hid f H2) (hid f H3) ∧ Ints H3 f (((cols.length : Int) - 1) :: ((cols.take i).map colSix).flatten)) ⟨⟨none, none, rfl⟩, Same.refl _, e2⟩ (fun i σ H3 _ h => ?_) (fun i x σ H3 H4 hi h y => ?_) fun σ H3 h => ?_
  · exact SqL.of (unhid (h.2.1 _ _ (by rw [hid_ne nrf]; exact k1)))
  · obtain ⟨⟨z1, z2, rfl⟩, s3, e3⟩ := h
    obtain ⟨rfl, hx⟩ := y
    obtain ⟨q1, g1, rfl⟩ := map_atc hx
    have hm : q1 ∈ qs := List.mem_of_getElem? g1
    have hc : cols[i]? = some q1.2 := by rw [← k2, List.getElem?_map, g1]; rfl
    have ht : H4 q1.1 = some (.tup (wayT q1.2)) := unhid (s3 _ _ (by rw [hid_ne (ne_of (k3 q1 hm) e2 (fun z => by cases z))]; exact k3 q1 hm))
    walk_at "rd"
    refine ⟨q1.1, q1.2.1, q1.2.2.1, q1.2.2.2, rfl, ht, hok q1.2 (List.mem_of_getElem? hc), fun H5 s5 => ?_⟩
    walk_at "rd"
    refine r_ktup (len_le rfl) fun t H6 n6 s6 e6 => ?_
    refine r_kit (SqT.of e6) ?_
    refine klc_T (as := [18, 12, 6, 0]) (c := V.int) (fun H' s => SqT.of (s _ _ e6)) (len_le rfl) (fun s => .int (colN q1.2.1 q1.2.2.1 q1.2.2.2 / 2 ^ s.toNat % 64)) (fun x H7 hx7 s7 Z z => ?_) fun p7 H7 n7 s7 e7 => ?_
    · walk_at "rd"
      refine ⟨rfl, ?_⟩
      walk_at "rd"
      refine r_i (show (0 : Int) ≤ x by simp at hx7; omega) ?_
      walk_at "rd"
      rw [bitAnd_m6]
      exact z H7 (Same.refl H7)
    · have e7' : Ints H7 p7 (colSix q1.2) := e7
      have s37 := (s5.trans s6).trans s7
      have e3' := s37 _ _ e3
      have hfl := six_flat (cols.take i)
      refine r_ext2 e3' e7' (szl (by
        rw [List.length_map, List.length_map, List.length_cons, hfl, List.length_take]
        show 4 * _ + 1 + 4 ≤ _
        omega)) ?_
      walk_at "rd"
      refine ⟨⟨_, _, rfl⟩, ?_, ?_⟩
      · rw [hid_upd]
        exact fun b o e => hid_same s37 _ _ (s3 _ _ e)
      · show (upd _ _ _) _ = _
        rw [upd_same, List.take_add_one, hc]
        simp
  · obtain ⟨⟨z1, z2, rfl⟩, s3, e3⟩ := h
    rw [List.take_of_length_le (by simp; omega)] at e3
    walk_at "rd"
    refine q f H3 n1 (fun b o e => ?_) e3
    have nb : b ≠ f := ne_of_none e n1
    exact unhid (s3 _ _ (by rw [hid_ne nb]; exact s2 _ _ (s1 _ _ e)))
end
end K44
set_option Elab.async false
set_option linter.all false
set_option maxRecDepth 100000
set_option maxHeartbeats 4000000
namespace K44
open PySem PySem.Spec PyProof.Rows L2
local macro_rules | `(tactic| walk_at "rd1") => `(tactic| first
  | ((with_reducible apply r_var); rfl)
  | ((with_reducible apply r_aug); rfl)
  | with_reducible apply r_isiI
  | with_reducible apply r_tslS
  | with_reducible apply r_try
  | with_reducible apply r_gsub
  | with_reducible apply r_irev
  | with_reducible apply r_trg1
  | with_reducible apply r_sfld
  | with_reducible apply r_afld
  | with_reducible apply r_rAdd
  | with_reducible apply r_dget
  | with_reducible apply r_din
  | with_reducible apply r_dnot
  | with_reducible apply r_dput
  | with_reducible apply r_ikeys
  | with_reducible apply r_m1
  | with_reducible apply r_km1
  | with_reducible apply r_inS
  | with_reducible apply r_notInS
  | with_reducible apply r_isN
  | with_reducible apply r_ip
  | with_reducible apply r_kbmS
  | with_reducible apply r_min2
  | with_reducible apply r_isiB
  | with_reducible apply r_isiS
  | with_reducible apply r_tyes
  | with_reducible apply iteT
  | with_reducible apply iteF
  | with_reducible apply r_nT
  | with_reducible apply r_nF
  | with_reducible apply r_callS
  | with_reducible apply r_meth
  | with_reducible apply r_methS
  | with_reducible apply r_methD
  | with_reducible apply r_make
  | with_reducible apply r_lc
  | with_reducible apply r_for
  | with_reducible apply r_ilist
  | with_reducible apply r_itup
  | with_reducible apply r_irng1
  | with_reducible apply r_irng2
  | with_reducible apply r_istr
  | with_reducible apply r_ienum
  | with_reducible apply r_izip
  | with_reducible apply r_izip3
  | with_reducible apply r_izip4
  | with_reducible apply r_kis
  | with_reducible apply r_c
  | with_reducible apply r_op
  | with_reducible apply r_un
  | with_reducible apply r_i0
  | with_reducible apply r_u
  | with_reducible apply r_eqI
  | with_reducible apply r_neI
  | with_reducible apply r_eqS
  | with_reducible apply r_neS
  | with_reducible apply r_test
  | with_reducible apply r_B
  | with_reducible apply r_bl
  | with_reducible apply r_int
  | with_reducible apply r_and
  | with_reducible apply r_or
  | with_reducible apply r_not
  | with_reducible apply r_andV
  | with_reducible apply r_orV
  | with_reducible apply r_notV
  | with_reducible apply r_chain
  | with_reducible apply r_tif
  | with_reducible apply r_nil
  | with_reducible apply r_cons
  | with_reducible apply r_cb
  | with_reducible apply r_call
  | with_reducible apply r_seq
  | with_reducible apply r_asg
  | with_reducible apply r_name
  | with_reducible apply r_drop
  | with_reducible apply r_ret
  | with_reducible apply r_retN
  | with_reducible apply r_next
  | with_reducible apply r_ifS
  | with_reducible apply r_tup
  | with_reducible apply r_lst
  | with_reducible apply r_sl
  | with_reducible apply r_nopart
  | with_reducible apply r_part
  | with_reducible apply r_fld
  | with_reducible apply r_bm
  | with_reducible apply r_bm0)
local macro_rules | `(tactic| walk_at "rd") => `(tactic| repeat (walk_at "rd1"))

/-! A palette from its numbers. -/
def pk (ns : List Int) (i : Int) : List Int := pickS ns (some i) (some 4)
def palNum (a b c d : Int) : Int := Builtin.bitOr (Builtin.bitOr (Builtin.bitOr (a * 2 ^ (18 : Int).toNat) (b * 2 ^ (12 : Int).toNat)) (c * 2 ^ (6 : Int).toNat)) d
def colOf (n : Int) : Col := (n / 65536, n / 256 % 256, n % 256)
def palAt (ns : List Int) (i : Nat) : Int := palNum ((pk ns 1).getD i 0) ((pk ns 2).getD i 0) ((pk ns 3).getD i 0) ((pk ns 4).getD i 0)
def palCols (ns : List Int) : List Col := (List.range (pk ns 1).length).map fun i => colOf (palAt ns i)
structure PalIn (ns : List Int) : Prop where
  len : (ns.length : Int) = 1 + 4 * (ns.getD 0 0 + 1)
  l2 : (pk ns 2).length = (pk ns 1).length
  l3 : (pk ns 3).length = (pk ns 1).length
  l4 : (pk ns 4).length = (pk ns 1).length
  lo : 1 ≤ (pk ns 1).length
  hi : (pk ns 1).length ≤ 16
  s1 : ∀ x ∈ pk ns 1, 0 ≤ x ∧ x < 64
  s2 : ∀ x ∈ pk ns 2, 0 ≤ x ∧ x < 64
  s3 : ∀ x ∈ pk ns 3, 0 ≤ x ∧ x < 64
  n0 : ∀ i ∈ List.range (pk ns 1).length, 0 ≤ palAt ns i ∧ palAt ns i ≤ 16777215
theorem palCols_ok {ns : List Int} (h : PalIn ns) : ∀ c ∈ palCols ns, ColOk c := fun c hc => by
  obtain ⟨i, hi, rfl⟩ := List.mem_map.mp hc
  have := h.n0 i hi
  unfold ColOk isShare colOf
  simp only
  omega
theorem getD_in {ns : List Int} {i : Nat} (h : i < ns.length) : ns[i]? = some (ns.getD i 0) := by
  rw [List.getD_eq_getElem?_getD, List.getElem?_eq_getElem h]
  rfl
def sp_palette_by_numbers (K : PySem.W.Frag) : Sp := fun vs H Q E => ∃ (a : Addr) (ns : List Int), vs = [.ref a] ∧ Ints H a ns ∧ ns.length ≤ 1000 ∧ PalIn ns ∧
  (((palCols ns).Nodup → ∀ p H', Same H H' → PalAt (He.ga K "Palette") H' p (palCols ns) → Q (.ref p) H') ∧ (¬ (palCols ns).Nodup → ∀ H', Same H H' → E (.ref (He.ga K "BadPart")) none H'))
theorem sc_palette_by_numbers : FnScope ["numbers", "colours", "high", "more", "less", "low"] ["numbers"] (defScope s_palette_by_numbers) := ⟨rfl, rfl, rfl, by decide +kernel, rfl, by decide +kernel, by decide +kernel⟩
section
theorem len_palette_by_numbers {K : PySem.W.Frag} {vs : List V} {H : Hp} {Q : VK} {E : XK} (h : (sp_palette_by_numbers K) vs H Q E) : vs.length = 1 := by
  repeat (obtain ⟨_, h⟩ := h)
  subst_vars; rfl
variable {P : Program} {w : World} {K : PySem.W.Frag} {mg : Str → Option Value} {base : Heap}
theorem ok_palette_by_numbers (T : Tx K mg) : Cal P w K mg base (L2.CX P w) 5 (He.ga K "palette_by_numbers") ["numbers"] (sp_palette_by_numbers K) := by
  obtain ⟨fd, F⟩ := T.F_palette_by_numbers
  refine ⟨⟨fd, F.ok sc_palette_by_numbers (fun vs H Q E h => len_palette_by_numbers h) (fun cdv A outer s H vs Q E hr h => ⟨_, (
      (pss_cons (ps_if (PW.pt (pw_or (pt_cmpR (op_eqDK K hr.units) (pv 0) (pe_lst pa_nil) (nomark _)) (pw_or1 (pt_cmpR op_ne (pe_callB (cal_lenK K) (by rfl) T.b_len PySem.boot_len (pa_cons (pv 0) pa_nil)) (pe_op op_add pe_int (pe_op op_mul pe_int (pe_op op_add (pe_ix (ix_listK K) (pv 0) pe_int (fun _ _ => rfl)) pe_int))) (nomark _)))))
      (pss_one (ps_raise rfl (takes_of rfl rfl rfl rfl) (pmk_own PySem.F.excBase_ValueError T.x_BadPart.1 T.gx_BadPart T.x_BadPart.2.1 (raises_own T.x_BadPart.2.2.1 T.x_BadPart.2.2.2) rfl))) pss_nil)
      (pss_cons (ps_set (i := 1) sc_palette_by_numbers.nd rfl (Or.inl rfl) (pe_lst pa_nil))
      (pss_cons (ps_for (passes_of rfl) rfl (pi_zip4K K (by rfl) T.b_zip (pa_cons (pe_sliceSK K (pv 0) (po_some pe_int) (po_some pe_int)) (pa_cons (pe_sliceSK K (pv 0) (po_some pe_int) (po_some pe_int)) (pa_cons (pe_sliceSK K (pv 0) (po_some pe_int) (po_some pe_int)) (pa_cons (pe_sliceSK K (pv 0) (po_some pe_int) (po_some pe_int)) pa_nil))))) (pg_tupK (n := 4) K rfl (pgs_cons (pg_name (i := 2) sc_palette_by_numbers.nd rfl (Or.inl rfl)) (pgs_cons (pg_name (i := 3) sc_palette_by_numbers.nd rfl (Or.inl rfl)) (pgs_cons (pg_name (i := 4) sc_palette_by_numbers.nd rfl (Or.inl rfl)) (pgs_cons (pg_name (i := 5) sc_palette_by_numbers.nd rfl (Or.inl rfl)) pgs_nil)))))
      (pss_one (ps_expr (pe_bmK K PySem.F.plainAttrs_list PySem.F.slot_list_append PySem.F.type_list_append mt_append (pv 1) (pa_cons (pe_cal (ok_colour_by_number T) hr (by decide) (by rfl) T.g_colour_by_number pass0 (pa_cons (pe_op op_or (pe_op op_or (pe_op op_or (pe_op op_shl (pv 2) pe_int) (pe_op op_shl (pv 3) pe_int)) (pe_op op_shl (pv 4) pe_int)) (pv 5)) pa_nil)) pa_nil)))))
      (pss_one (ps_try_sureK pss_nil rfl rfl ⟨rfl, by decide, .inl T.gx_BadPalette⟩ (fun hd => L2H.passesAt_of rfl hd) (takes_of rfl rfl rfl rfl)
      (fun W pn xe tk po => (pss_one (ps_ret (pe_calK T.m_Palette_init (ok_Palette_init T) hr (by decide) (by rfl) T.gc_Palette (L2N.passes_call (E := fun cls d H => ∀ σ, W cls d σ H) tk (fun _ _ σ _ h => h σ)) (pa_cons (pv 1) pa_nil)))))
      (fun a oe cls d pn hz hf tkS hot => (pss_one (L2H.ps_raiseH hot tkS (L2N.pmk_own PySem.F.excBase_ValueError T.x_BadPart.1 T.gx_BadPart T.x_BadPart.2.1 (raises_own T.x_BadPart.2.2.1 T.x_BadPart.2.2.2) rfl)))))))))), ?_⟩), F.bindsN fun _ _ _ _ _ _ us hl => match us, hl with | [_], _ => rfl⟩, F.kp⟩
  obtain ⟨a, ns, rfl, hn, hz, pin, q1, q2⟩ := h
  have hne : ∃ n0 t, ns = n0 :: t := by
    cases ns with
    | nil => have := pin.lo; simp [pk, pickS] at this; exact absurd this (by decide)
    | cons n0 t => exact ⟨n0, t, rfl⟩
  obtain ⟨n0, t, hnt⟩ := hne
  have h0 : ns[0]? = some n0 := by rw [hnt]; rfl
  walk_at "rd"
  refine r_klst (len_le rfl) fun p1 H1 n1 s1 e1 => ?_
  refine r_eqD (dp_I (ints_sq (s1 _ _ hn))) (dp_nil e1) (shaped_I _) shaped_nil ?_
  rw [eqv_I0, show ns.isEmpty = false by rw [hnt]; rfl]
  walk_at "rd"
  have hn1 := s1 _ _ hn
  refine r_lenI hn1 ?_
  walk_at "rd"
  refine r_ixL (ints_sq hn1) (v := .int n0) (atI_nat (j := 0) (ints_at h0)) ?_
  walk_at "rd"
  have hlen := pin.len
  rw [getD_at h0] at hlen
  refine r_i (.inl ⟨by omega, by omega⟩) ?_
  walk_at "rd"
  refine r_noN hlen ?_
  walk_at "rd"
  refine r_klst (len_le rfl) fun f H2 n2 s2 e2 => ?_
  have hn2 := s2 _ _ hn1
  walk_at "rd"
  have hpz : ∀ {i : Int}, (pk ns i).length ≤ 16 → (pickS (ns.map V.int) (some i) (some 4)).length ≤ sizeLine := fun {i} h => by
    rw [pick_map, List.length_map]
    exact szl (Nat.le_trans h (by decide))
  refine r_kslS (ints_sq hn2) (by decide) (hpz pin.hi) fun pa H3 n3 s3 e3 => ?_
  rw [pick_map] at e3
  walk_at "rd"
  refine r_kslS (ints_sq (s3 _ _ hn2)) (by decide) (hpz (by rw [pin.l2]; exact pin.hi)) fun pb H4 n4 s4 e4 => ?_
  rw [pick_map] at e4
  walk_at "rd"
  refine r_kslS (ints_sq (s4 _ _ (s3 _ _ hn2))) (by decide) (hpz (by rw [pin.l3]; exact pin.hi)) fun pc H5 n5 s5 e5 => ?_
  rw [pick_map] at e5
  walk_at "rd"
  refine r_kslS (ints_sq (s5 _ _ (s4 _ _ (s3 _ _ hn2)))) (by decide) (hpz (by rw [pin.l4]; exact pin.hi)) fun pd H6 n6 s6 e6 => ?_
  rw [pick_map] at e6
  have e3' : Ints H6 pa (pk ns 1) := s6 _ _ (s5 _ _ (s4 _ _ e3))
  have e4' : Ints H6 pb (pk ns 2) := s6 _ _ (s5 _ _ e4)
  have e5' : Ints H6 pc (pk ns 3) := s6 _ _ e5
  have e6' : Ints H6 pd (pk ns 4) := e6
  have s26 := ((s3.trans s4).trans s5).trans s6
  have ef := s26 _ _ e2
  have na : pa ≠ f := (ne_of_none e2 n3).symm
  have nb : pb ≠ f := (ne_of_none (s3 _ _ e2) n4).symm
  have nc : pc ≠ f := (ne_of_none (s4 _ _ (s3 _ _ e2)) n5).symm
  have nd : pd ≠ f := (ne_of_none (s5 _ _ (s4 _ _ (s3 _ _ e2))) n6).symm
  walk_at "rd"
  refine r_ki4 (ints_sq e3') (ints_sq e4') (ints_sq e5') (ints_sq e6') ?_
  generalize hL : (pk ns 1).length = n
  have l1 : ((pk ns 1).map V.int).length = n := by simp [hL]
  have l2 : ((pk ns 2).map V.int).length = n := by simp [pin.l2, hL]
  have l3 : ((pk ns 3).map V.int).length = n := by simp [pin.l3, hL]
  have l4 : ((pk ns 4).map V.int).length = n := by simp [pin.l4, hL]
  have hn16 : n ≤ 16 := by rw [← hL]; exact pin.hi
  have hn1' : 1 ≤ n := by rw [← hL]; exact pin.lo
  refine kfor (walk_zip4 l1 l2 l3 l4) (fun i σ H7 => (∃ z1 z2 z3 z4, σ = [some (.ref a), some (.ref f), z1, z2, z3, z4]) ∧ Same (hid f H6) (hid f H7) ∧ WaysAt H7 f ((palCols ns).take i))
    ⟨⟨none, none, none, none, rfl⟩, Same.refl _, [], ef, by simp, fun q hq => by cases hq⟩ (fun i σ H7 _ h => ?_) (fun i x σ H7 H8 hi h y => ?_) fun σ H7 h => ?_
  · have s := h.2.1
    exact ⟨ints_sq (unhid (s _ _ (by rw [hid_ne na]; exact e3'))), ints_sq (unhid (s _ _ (by rw [hid_ne nb]; exact e4'))), ints_sq (unhid (s _ _ (by rw [hid_ne nc]; exact e5'))), ints_sq (unhid (s _ _ (by rw [hid_ne nd]; exact e6')))⟩
  · obtain ⟨⟨z1, z2, z3, z4, rfl⟩, s7, hw⟩ := h
    obtain ⟨t, x1, x2, x3, x4, rfl, hT, rfl, f1, f2, f3, f4⟩ := y
    obtain ⟨y1, g1, rfl⟩ := map_atc f1
    obtain ⟨y2, g2, rfl⟩ := map_atc f2
    obtain ⟨y3, g3, rfl⟩ := map_atc f3
    obtain ⟨y4, g4, rfl⟩ := map_atc f4
    have b1 := pin.s1 _ (List.mem_of_getElem? g1)
    have b2 := pin.s2 _ (List.mem_of_getElem? g2)
    have b3 := pin.s3 _ (List.mem_of_getElem? g3)
    have hb := pin.n0 i (List.mem_range.mpr (by rw [hL]; exact hi))
    have hcol : (palCols ns)[i]? = some (colOf (palAt ns i)) := by
      unfold palCols
      rw [List.getElem?_map, List.getElem?_range (by rw [hL]; exact hi)]
      rfl
    have epa : palNum y1 y2 y3 y4 = palAt ns i := by
      unfold palAt
      rw [getD_at g1, getD_at g2, getD_at g3, getD_at g4]
    have s8 : Same H7 (upd H7 t (.tup [.int y1, .int y2, .int y3, .int y4])) := same_up hT
    refine r_gt4 (SqT.of upd_same) ?_
    generalize upd H7 t (.tup [.int y1, .int y2, .int y3, .int y4]) = H8 at s8 ⊢
    obtain ⟨xs, hx, hxl⟩ := hw.lst
    walk_at "rd"
    refine r_kbmL (SqL.of (s8 _ _ hx)) ?_
    walk_at "rd"
    refine r_i ⟨by omega, by omega, by omega⟩ ?_
    walk_at "rd"
    refine r_i ⟨by omega, by omega, by omega⟩ ?_
    walk_at "rd"
    refine r_i ⟨by omega, by omega, by omega⟩ ?_
    walk_at "rd"
    refine ⟨palAt ns i, ?_, hb, fun p9 H9 n9 s9 e9 => ?_⟩
    · rw [← epa]
      rfl
    walk_at "rd"
    have hxl' : xs.length ≤ 100 := by rw [hxl, List.length_take]; omega
    refine r_append (s9 _ _ (s8 _ _ hx)) (szt (by omega)) ?_
    refine ⟨⟨_, _, _, _, rfl⟩, ?_, ?_⟩
    · rw [hid_upd]
      exact fun b o e => hid_same (s8.trans s9) _ _ (s7 _ _ e)
    · rw [List.take_add_one, hcol]
      exact hw.snoc (s8.trans s9) e9 (s9 _ _ (s8 _ _ hx))
  · obtain ⟨⟨z1, z2, z3, z4, rfl⟩, s7, hw⟩ := h
    have hcl : (palCols ns).length = n := by simp [palCols, hL]
    rw [List.take_of_length_le (by omega)] at hw
    have sA : Same H H7 := fun b o e => by
      have e2' := s2 _ _ (s1 _ _ e)
      have nb : b ≠ f := ne_of_none (s1 _ _ e) n2
      exact unhid (s7 _ _ (by rw [hid_ne nb]; exact s26 _ _ e2'))
    walk_at "rd"
    intro x dx nx ndx nex
    have sx : Same H7 (upd (upd H7 dx (.own x)) x (.ins (He.ga K "Palette") dx [])) := fun b o e => by
      rw [upd_ne (ne_of_none e nx), upd_ne (ne_of_none e ndx)]
      exact e
    refine ⟨x, dx, f, palCols ns, rfl, upd_same, hw.same sx, ⟨by omega, by omega⟩, palCols_ok pin, fun hnd H8 hp8 fr8 => ⟨rfl, ?_⟩, fun hnd H8 s8 σ => ⟨T.e_BadPalette_BadPalette, fun _ _ => ?_⟩⟩
    · refine q1 hnd x H8 (fun b o e => ?_) hp8
      have e7 := sA _ _ e
      exact fr8 _ _ (sx _ _ e7) (by simp; exact ne_of_none e7 nx)
    · exact q2 hnd H8 (sA.trans (sx.trans s8))
end
end K44
set_option Elab.async false
set_option linter.all false
set_option maxRecDepth 100000
set_option maxHeartbeats 4000000
namespace K44
open PySem PySem.Spec PyProof.Rows L2
local macro_rules | `(tactic| walk_at "rd1") => `(tactic| first
  | ((with_reducible apply r_var); rfl)
  | ((with_reducible apply r_aug); rfl)
  | with_reducible apply r_isiI
  | with_reducible apply r_tslS
  | with_reducible apply r_try
  | with_reducible apply r_gsub
  | with_reducible apply r_irev
  | with_reducible apply r_trg1
  | with_reducible apply r_sfld
  | with_reducible apply r_afld
  | with_reducible apply r_rAdd
  | with_reducible apply r_dget
  | with_reducible apply r_din
  | with_reducible apply r_dnot
  | with_reducible apply r_dput
  | with_reducible apply r_ikeys
  | with_reducible apply r_m1
  | with_reducible apply r_km1
  | with_reducible apply r_inS
  | with_reducible apply r_notInS
  | with_reducible apply r_isN
  | with_reducible apply r_ip
  | with_reducible apply r_kbmS
  | with_reducible apply r_min2
  | with_reducible apply r_isiB
  | with_reducible apply r_isiS
  | with_reducible apply r_tyes
  | with_reducible apply iteT
  | with_reducible apply iteF
  | with_reducible apply r_nT
  | with_reducible apply r_nF
  | with_reducible apply r_callS
  | with_reducible apply r_meth
  | with_reducible apply r_methS
  | with_reducible apply r_methD
  | with_reducible apply r_make
  | with_reducible apply r_lc
  | with_reducible apply r_for
  | with_reducible apply r_ilist
  | with_reducible apply r_itup
  | with_reducible apply r_irng1
  | with_reducible apply r_irng2
  | with_reducible apply r_istr
  | with_reducible apply r_ienum
  | with_reducible apply r_izip
  | with_reducible apply r_izip3
  | with_reducible apply r_izip4
  | with_reducible apply r_kis
  | with_reducible apply r_c
  | with_reducible apply r_op
  | with_reducible apply r_un
  | with_reducible apply r_i0
  | with_reducible apply r_u
  | with_reducible apply r_eqI
  | with_reducible apply r_neI
  | with_reducible apply r_eqS
  | with_reducible apply r_neS
  | with_reducible apply r_test
  | with_reducible apply r_B
  | with_reducible apply r_bl
  | with_reducible apply r_int
  | with_reducible apply r_and
  | with_reducible apply r_or
  | with_reducible apply r_not
  | with_reducible apply r_andV
  | with_reducible apply r_orV
  | with_reducible apply r_notV
  | with_reducible apply r_chain
  | with_reducible apply r_tif
  | with_reducible apply r_nil
  | with_reducible apply r_cons
  | with_reducible apply r_cb
  | with_reducible apply r_call
  | with_reducible apply r_seq
  | with_reducible apply r_asg
  | with_reducible apply r_name
  | with_reducible apply r_drop
  | with_reducible apply r_ret
  | with_reducible apply r_retN
  | with_reducible apply r_next
  | with_reducible apply r_ifS
  | with_reducible apply r_tup
  | with_reducible apply r_lst
  | with_reducible apply r_sl
  | with_reducible apply r_nopart
  | with_reducible apply r_part
  | with_reducible apply r_fld
  | with_reducible apply r_bm
  | with_reducible apply r_bm0)
local macro_rules | `(tactic| walk_at "rd") => `(tactic| repeat (walk_at "rd1"))

/-! Albums. -/
def hids (S : List Addr) (H : Hp) : Hp := fun b => if b ∈ S then none else H b
theorem hids_ne {S : List Addr} {b : Addr} {H : Hp} (h : b ∉ S) : hids S H b = H b := if_neg h
theorem unhids {S : List Addr} {b : Addr} {H : Hp} {o : HO} (h : hids S H b = some o) : H b = some o ∧ b ∉ S := by
  by_cases e : b ∈ S
  · rw [hids, if_pos e] at h; cases h
  · rw [hids_ne e] at h; exact ⟨h, e⟩
theorem hids_fr {S : List Addr} {H H' : Hp} (f : Fr S H H') : Same (hids S H) (hids S H') := fun b o e => by
  obtain ⟨h, n⟩ := unhids e
  rw [hids_ne n]
  exact f b o h n
def sp_copied_rows : Sp := fun vs H Q _ => ∃ (a : Addr) (rows : List (List Int)), vs = [.ref a] ∧ Pic H a rows ∧ rows.length ≤ 100 ∧ (∀ r ∈ rows, r.length ≤ 100) ∧ ∀ p H', Same H H' → PicN H H' p rows → Q (.ref p) H'
theorem sc_copied_rows : FnScope ["picture", "row"] ["picture"] (defScope s_copied_rows) := ⟨rfl, rfl, rfl, by decide +kernel, rfl, by decide +kernel, by decide +kernel⟩
section
theorem len_copied_rows {vs : List V} {H : Hp} {Q : VK} {E : XK} (h : (sp_copied_rows) vs H Q E) : vs.length = 1 := by
  repeat (obtain ⟨_, h⟩ := h)
  subst_vars; rfl
variable {P : Program} {w : World} {K : PySem.W.Frag} {mg : Str → Option Value} {base : Heap}
theorem ok_copied_rows (T : Tx K mg) : Cal P w K mg base CX0 1 (He.ga K "copied_rows") ["picture"] (sp_copied_rows) := by
  obtain ⟨fd, F⟩ := T.F_copied_rows
  refine ⟨⟨fd, F.ok sc_copied_rows (fun vs H Q E h => len_copied_rows h) (fun cdv A outer s H vs Q E hr h => ⟨_, PSs.nox (
      (pss_one (ps_ret (pe_lc (own := [("row", 1)]) rfl sc_copied_rows.nd (pi_listK K (pv 0)) (blkOk_by (own := [("row", 1)]) (N := ["picture", "row"]) (sc := defScope s_copied_rows) (by decide +kernel)) (fun _ _ _ _ _ => (pg_name (i := 1) sc_copied_rows.nd rfl (Or.inl rfl))) (fun _ _ _ _ _ => pts_nil) (fun _ _ _ _ _ => (pe_callTy (cal_listK K) (by rfl) T.b_list (by decide +kernel) (pa_cons (pv 1) pa_nil))))))), ?_⟩), F.bindsN fun _ _ _ _ _ _ us hl => match us, hl with | [_], _ => rfl⟩, F.kp⟩
  obtain ⟨a, rows, rfl, ⟨ps, h1, h2, h3⟩, hl, hr, q⟩ := h
  have hpl : ps.length = rows.length := by rw [← h2]; simp
  walk_at "rd"
  refine r_kil (SqL.of h1) ?_
  refine klc_pic (walk_list (xs := ps.map fun p => V.ref p.1)) (szl (by simp; omega)) (fun H' s => SqL.of (s _ _ h1)) rows (by simp [hpl]) (fun i x H1 H2 r hri s y Z z => ?_) fun p H1 s1 hpn => ?_
  · obtain ⟨rfl, hx⟩ := y
    obtain ⟨q1, g1, rfl⟩ := map_atc hx
    have : rows[i]? = some q1.2 := by rw [← h2, List.getElem?_map, g1]; rfl
    rw [hri] at this
    have e := Option.some.inj this
    subst e
    walk_at "rd"
    refine ⟨rfl, ?_⟩
    walk_at "rd"
    exact r_list (SqL.of (s _ _ (h3 q1 (List.mem_of_getElem? g1)))) fun p5 H5 n5 s5 e5 => z p5 H5 s5 n5 e5
  · exact q p H1 s1 hpn
end
structure AlbS where
  p : Addr
  o : Addr
  e : Addr
  u : Addr
  b : Addr
  c : Addr
def AlbS.M (A : AlbS) : List Addr := [A.p, A.o, A.e, A.u, A.b, A.c]
def af (A : AlbS) : List (Str × V) := [("order", .ref A.o), ("held", .ref A.e), ("hues", .ref A.u), ("past", .ref A.b), ("ahead", .ref A.c)]
theorem af_put (A : AlbS) : putF "ahead" (.ref A.c) (putF "past" (.ref A.b) (putF "hues" (.ref A.u) (putF "held" (.ref A.e) (putF "order" (.ref A.o) [])))) = af A := by
  simp only [putF, show ¬ ("order" : Str) = "held" by decide +kernel, show ¬ ("order" : Str) = "hues" by decide +kernel, show ¬ ("order" : Str) = "past" by decide +kernel, show ¬ ("order" : Str) = "ahead" by decide +kernel, show ¬ ("held" : Str) = "hues" by decide +kernel,
    show ¬ ("held" : Str) = "past" by decide +kernel, show ¬ ("held" : Str) = "ahead" by decide +kernel, show ¬ ("hues" : Str) = "past" by decide +kernel, show ¬ ("hues" : Str) = "ahead" by decide +kernel, show ¬ ("past" : Str) = "ahead" by decide +kernel, if_false]
  rfl
theorem af_look (A : AlbS) (m : Str) : (af A).lookup m = if m = "ahead" then some (V.ref A.c) else if m = "past" then some (V.ref A.b) else if m = "hues" then some (V.ref A.u) else if m = "held" then some (V.ref A.e) else if m = "order" then some (V.ref A.o) else none := by
  rw [← af_put, lookup_putF, lookup_putF, lookup_putF, lookup_putF, lookup_putF]
  rfl
theorem af_o (A : AlbS) : (af A).lookup ("order" : Str) = some (.ref A.o) := by
  rw [af_look, if_neg (by decide +kernel), if_neg (by decide +kernel), if_neg (by decide +kernel), if_neg (by decide +kernel), if_pos rfl]
theorem af_e (A : AlbS) : (af A).lookup ("held" : Str) = some (.ref A.e) := by
  rw [af_look, if_neg (by decide +kernel), if_neg (by decide +kernel), if_neg (by decide +kernel), if_pos rfl]
theorem af_u (A : AlbS) : (af A).lookup ("hues" : Str) = some (.ref A.u) := by
  rw [af_look, if_neg (by decide +kernel), if_neg (by decide +kernel), if_pos rfl]
theorem af_b (A : AlbS) : (af A).lookup ("past" : Str) = some (.ref A.b) := by
  rw [af_look, if_neg (by decide +kernel), if_pos rfl]
theorem af_c (A : AlbS) : (af A).lookup ("ahead" : Str) = some (.ref A.c) := by
  rw [af_look, if_pos rfl]
theorem af_no (A : AlbS) {m : Str} (h1 : ¬ m = "ahead") (h2 : ¬ m = "past") (h3 : ¬ m = "hues") (h4 : ¬ m = "held") (h5 : ¬ m = "order") : (af A).lookup m = none := by
  rw [af_look, if_neg h1, if_neg h2, if_neg h3, if_neg h4, if_neg h5]
structure Ent where
  nm : Str
  a : Addr
  rows : List (List Int)
structure AlbumAt (C : Addr) (H : Hp) (A : AlbS) (L : List Ent) (hx : List V) : Prop where
  ob : ∃ dx, H A.p = some (.ins C dx (af A))
  or : H A.o = some (.lst (L.map fun x => V.str x.nm))
  he : H A.e = some (.dK (L.map fun x => ((Sum.inr x.nm : Key), V.ref x.a)))
  hu : H A.u = some (.lst hx)
  pa : ∃ xs, H A.b = some (.lst xs) ∧ xs.length ≤ L.length
  ah : ∃ xs, H A.c = some (.lst xs)
  di : [A.o, A.u, A.b, A.c].Nodup
  pi : ∀ x ∈ L, Pic (hids A.M H) x.a x.rows ∧ PicOk x.rows
  nd : (L.map fun x => x.nm).Nodup
  hl : hx.length = 16
  ll : L.length ≤ 17
theorem AlbumAt.same {C : Addr} {H H' : Hp} {A : AlbS} {L : List Ent} {hx : List V} (s : Same H H') (h : AlbumAt C H A L hx) : AlbumAt C H' A L hx :=
  ⟨h.ob.imp fun _ e => s _ _ e, s _ _ h.or, s _ _ h.he, s _ _ h.hu, h.pa.imp fun _ e => ⟨s _ _ e.1, e.2⟩, h.ah.imp fun _ e => s _ _ e, h.di, fun x hx => ⟨(h.pi x hx).1.same (hids_fr (sfr s)), (h.pi x hx).2⟩, h.nd, h.hl, h.ll⟩
def greys : List Col := (List.range 16).map fun (i : Nat) => ((17 * (i : Int), 17 * (i : Int), 17 * (i : Int)) : Col)
def GreyAt (H : Hp) (A : AlbS) (hx : List V) : Prop := ∃ qs : List (Addr × Col), hx = qs.map (fun q => V.ref q.1) ∧ qs.map (·.2) = greys ∧ ∀ q ∈ qs, hids A.M H q.1 = some (.tup (wayT q.2))
theorem GreyAt.fr {H H' : Hp} {A : AlbS} {hx : List V} (f : Fr A.M H H') (h : GreyAt H A hx) : GreyAt H' A hx := by
  obtain ⟨qs, h1, h2, h3⟩ := h
  exact ⟨qs, h1, h2, fun q hq => hids_fr f _ _ (h3 q hq)⟩
theorem pic_small {rows : List (List Int)} (ok : PicOk rows) : rows.length ≤ 100 ∧ ∀ r ∈ rows, r.length ≤ 100 := by
  obtain ⟨w, w1, w2, hw⟩ := ok.wide
  exact ⟨by have := ok.2.1; omega, fun r hr => by have := (hw r hr).1; omega⟩
def sp_Album_names (K : PySem.W.Frag) : Sp := fun vs H Q _ => ∃ (A : AlbS) (L : List Ent) (hx : List V), vs = [.ref A.p] ∧ AlbumAt (He.ga K "Album") H A L hx ∧ ∀ r H', H r = none → Same H H' → H' r = some (.lst (L.map fun x => V.str x.nm)) → Q (.ref r) H'
theorem sc_Album_names : FnScope ["self"] ["self"] (defScope s_Album_names) := ⟨rfl, rfl, rfl, by decide +kernel, rfl, by decide +kernel, by decide +kernel⟩
section
theorem len_Album_names {K : PySem.W.Frag} {vs : List V} {H : Hp} {Q : VK} {E : XK} (h : (sp_Album_names K) vs H Q E) : vs.length = 1 := by
  repeat (obtain ⟨_, h⟩ := h)
  subst_vars; rfl
variable {P : Program} {w : World} {K : PySem.W.Frag} {mg : Str → Option Value} {base : Heap}
theorem ok_Album_names (T : Tx K mg) : Cal P w K mg base CX0 1 (He.ma K (He.ga K "Album") "names") ["self"] (sp_Album_names K) := by
  obtain ⟨fd, F⟩ := T.F_Album_names
  refine ⟨⟨fd, F.ok sc_Album_names (fun vs H Q E h => len_Album_names h) (fun cdv A outer s H vs Q E hr h => ⟨_, PSs.nox (
      (pss_one (ps_ret (pe_callTy (cal_listK K) (by rfl) T.b_list (by decide +kernel) (pa_cons (pe_fldK K (pv 0) rfl) pa_nil))))), ?_⟩), F.bindsN fun _ _ _ _ _ _ us hl => match us, hl with | [_], _ => rfl⟩, F.kp⟩
  obtain ⟨A, L, hx, rfl, h, q⟩ := h
  obtain ⟨dx, hp⟩ := h.ob
  walk_at "rd"
  refine r_kfld hp T.c_Album T.n_Album_order (af_o _) ?_
  walk_at "rd"
  exact r_list (SqL.of h.or) fun r H1 n1 s1 e1 => q r H1 n1 s1 e1
end
theorem held_val {L : List Ent} {n : Str} : valV (L.map fun x => ((Sum.inr x.nm : Key), V.ref x.a)) (Sum.inr n) = (L.find? fun x => decide (x.nm = n)).map fun x => V.ref x.a := by
  induction L with
  | nil => rfl
  | cons x r ih =>
    rw [List.map_cons]
    by_cases h : x.nm = n
    · rw [valV_pos (by show (Sum.inr x.nm : Key) = Sum.inr n; rw [h])]
      simp [h]
    · rw [valV_neg (by show ¬ (Sum.inr x.nm : Key) = Sum.inr n; intro e; exact h (Sum.inr.inj e)), ih]
      simp [h]
theorem held_none {L : List Ent} {n : Str} (h : n ∉ L.map fun x => x.nm) : valV (L.map fun x => ((Sum.inr x.nm : Key), V.ref x.a)) (Sum.inr n) = none := by
  rw [held_val, List.find?_eq_none.mpr]
  · rfl
  · intro x hx e
    exact h (List.mem_map.mpr ⟨x, hx, by simpa using e⟩)
theorem held_mem {L : List Ent} (hn : (L.map fun x => x.nm).Nodup) {x : Ent} (h : x ∈ L) : valV (L.map fun x => ((Sum.inr x.nm : Key), V.ref x.a)) (Sum.inr x.nm) = some (.ref x.a) := by
  induction L with
  | nil => cases h
  | cons y r ih =>
    rw [List.map_cons, List.nodup_cons] at hn
    rw [List.map_cons]
    rcases List.mem_cons.mp h with h | h
    · subst h
      exact valV_pos rfl
    · rw [valV_neg, ih hn.2 h]
      intro e
      exact hn.1 (List.mem_map.mpr ⟨x, h, (Sum.inr.inj e).symm⟩)
def sp_Album_need_name (K : PySem.W.Frag) : Sp := fun vs H Q _ => ∃ (A : AlbS) (L : List Ent) (hx : List V) (x : Ent), vs = [.ref A.p, .str x.nm] ∧ AlbumAt (He.ga K "Album") H A L hx ∧ x ∈ L ∧ Q .non H
theorem sc_Album_need_name : FnScope ["self", "name"] ["self", "name"] (defScope s_Album_need_name) := ⟨rfl, rfl, rfl, by decide +kernel, rfl, by decide +kernel, by decide +kernel⟩
section
theorem len_Album_need_name {K : PySem.W.Frag} {vs : List V} {H : Hp} {Q : VK} {E : XK} (h : (sp_Album_need_name K) vs H Q E) : vs.length = 2 := by
  repeat (obtain ⟨_, h⟩ := h)
  subst_vars; rfl
variable {P : Program} {w : World} {K : PySem.W.Frag} {mg : Str → Option Value} {base : Heap}
theorem ok_Album_need_name (T : Tx K mg) : Cal P w K mg base CX0 1 (He.ma K (He.ga K "Album") "need_name") ["self", "name"] (sp_Album_need_name K) := by
  obtain ⟨fd, F⟩ := T.F_Album_need_name
  refine ⟨⟨fd, F.ok sc_Album_need_name (fun vs H Q E h => len_Album_need_name h) (fun cdv A outer s H vs Q E hr h => ⟨_, PSs.nox (
      (pss_one (ps_if (PW.pt (pw_or (pt_not (pt_val (pe_callB (isiK K) (by rfl) T.b_isinstance boot_isinstance (pa_cons (pv 1) (pa_cons (pe_bltn (v := .ty "str") (by rfl) T.b_str (by decide +kernel) rfl) pa_nil))))) (pw_or1 (pt_cmp (pc_dnotin (hu_of hr) (pv 1) (pe_fldK K (pv 0) rfl))))))
      (pss_one ps_never) pss_nil))), ?_⟩), F.bindsN fun _ _ _ _ _ _ us hl => match us, hl with | [_, _], _ => rfl⟩, F.kp⟩
  obtain ⟨A, L, hx, x, rfl, h, hm, q⟩ := h
  obtain ⟨dx, hp⟩ := h.ob
  walk_at "rd"
  refine r_kfld hp T.c_Album T.n_Album_held (af_e _) ?_
  refine r_kdnot (DGet.k (k := Sum.inr x.nm) h.he) ?_
  rw [held_mem h.nd hm]
  walk_at "rd"
  refine iteF ?_
  walk_at "rd"
  exact q
end
def sp_Album_picture (K : PySem.W.Frag) : Sp := fun vs H Q _ => ∃ (A : AlbS) (L : List Ent) (hx : List V) (x : Ent), vs = [.ref A.p, .str x.nm] ∧ AlbumAt (He.ga K "Album") H A L hx ∧ x ∈ L ∧ ∀ r H', Same H H' → PicN H H' r x.rows → Q (.ref r) H'
theorem hids_sub {S : List Addr} {H : Hp} : Same (hids S H) H := fun _ _ e => (unhids e).1
theorem sc_Album_picture : FnScope ["self", "name"] ["self", "name"] (defScope s_Album_picture) := ⟨rfl, rfl, rfl, by decide +kernel, rfl, by decide +kernel, by decide +kernel⟩
section
theorem len_Album_picture {K : PySem.W.Frag} {vs : List V} {H : Hp} {Q : VK} {E : XK} (h : (sp_Album_picture K) vs H Q E) : vs.length = 2 := by
  repeat (obtain ⟨_, h⟩ := h)
  subst_vars; rfl
variable {P : Program} {w : World} {K : PySem.W.Frag} {mg : Str → Option Value} {base : Heap}
theorem ok_Album_picture (T : Tx K mg) : Cal P w K mg base CX0 2 (He.ma K (He.ga K "Album") "picture") ["self", "name"] (sp_Album_picture K) := by
  obtain ⟨fd, F⟩ := T.F_Album_picture
  refine ⟨⟨fd, F.ok sc_Album_picture (fun vs H Q E h => len_Album_picture h) (fun cdv A outer s H vs Q E hr h => ⟨_, PSs.nox (
      (pss_cons (ps_expr (pe_calM (pv 0) T.c_Album T.m_Album_need_name (ok_Album_need_name T) hr (by decide) pass0 (pa_cons (pv 1) pa_nil)))
      (pss_one (ps_ret (pe_cal (ok_copied_rows T) hr (by decide) (by rfl) T.g_copied_rows pass0 (pa_cons (pe_dget (hu_of hr) (pe_fldK K (pv 0) rfl) (pv 1) (fun _ _ => rfl)) pa_nil)))))), ?_⟩), F.bindsN fun _ _ _ _ _ _ us hl => match us, hl with | [_, _], _ => rfl⟩, F.kp⟩
  obtain ⟨A, L, hx, x, rfl, h, hm, q⟩ := h
  obtain ⟨dx, hp⟩ := h.ob
  walk_at "rd"
  refine r_kmeth hp (af_no _ (by decide +kernel) (by decide +kernel) (by decide +kernel) (by decide +kernel) (by decide +kernel)) ?_
  walk_at "rd"
  refine ⟨A, L, hx, x, rfl, h, hm, ?_⟩
  walk_at "rd"
  refine r_kfld hp T.c_Album T.n_Album_held (af_e _) ?_
  walk_at "rd"
  have g := DGet.k (k := Sum.inr x.nm) h.he
  rw [held_mem h.nd hm] at g
  refine r_kdget g ?_
  walk_at "rd"
  obtain ⟨hpic, ok⟩ := h.pi x hm
  obtain ⟨z1, z2⟩ := pic_small ok
  exact ⟨x.a, x.rows, rfl, hpic.same hids_sub, z1, z2, fun p H1 s1 hpn => q p H1 s1 hpn⟩
end
def sp_Album_palette (K : PySem.W.Frag) : Sp := fun vs H Q _ => ∃ (A : AlbS) (L : List Ent) (hx : List V), vs = [.ref A.p] ∧ AlbumAt (He.ga K "Album") H A L hx ∧ GreyAt H A hx ∧ ∀ r H', Same H H' → PalAt (He.ga K "Palette") H' r greys → Q (.ref r) H'
theorem greys_ok : ∀ c ∈ greys, ColOk c := fun c hc => by
  obtain ⟨i, hi, rfl⟩ := List.mem_map.mp hc
  have := List.mem_range.mp hi
  unfold ColOk isShare
  simp only
  omega
theorem greys_nd : greys.Nodup := by decide +kernel
theorem sc_Album_palette : FnScope ["self"] ["self"] (defScope s_Album_palette) := ⟨rfl, rfl, rfl, by decide +kernel, rfl, by decide +kernel, by decide +kernel⟩
section
theorem len_Album_palette {K : PySem.W.Frag} {vs : List V} {H : Hp} {Q : VK} {E : XK} (h : (sp_Album_palette K) vs H Q E) : vs.length = 1 := by
  repeat (obtain ⟨_, h⟩ := h)
  subst_vars; rfl
variable {P : Program} {w : World} {K : PySem.W.Frag} {mg : Str → Option Value} {base : Heap}
theorem ok_Album_palette (T : Tx K mg) : Cal P w K mg base CX0 5 (He.ma K (He.ga K "Album") "palette") ["self"] (sp_Album_palette K) := by
  obtain ⟨fd, F⟩ := T.F_Album_palette
  refine ⟨⟨fd, F.ok sc_Album_palette (fun vs H Q E h => len_Album_palette h) (fun cdv A outer s H vs Q E hr h => ⟨_, PSs.nox (
      (pss_one (ps_ret (pe_calK T.m_Palette_init (ok_Palette_init T) hr (by decide) (by rfl) T.gc_Palette passE0N (pa_cons (pe_fldK K (pv 0) rfl) pa_nil))))), ?_⟩), F.bindsN fun _ _ _ _ _ _ us hl => match us, hl with | [_], _ => rfl⟩, F.kp⟩
  obtain ⟨A, L, hx, rfl, h, ⟨qs, g1, g2, g3⟩, q⟩ := h
  obtain ⟨dx, hp⟩ := h.ob
  walk_at "rd"
  refine r_kfld hp T.c_Album T.n_Album_hues (af_u _) ?_
  walk_at "rd"
  intro x dx nx ndx nex
  have sx : Same H (upd (upd H dx (.own x)) x (.ins (He.ga K "Palette") dx [])) := fun b o e => by
    rw [upd_ne (ne_of_none e nx), upd_ne (ne_of_none e ndx)]
    exact e
  have hu := h.hu
  rw [g1] at hu
  refine ⟨x, dx, A.u, greys, rfl, upd_same, ⟨qs, sx _ _ hu, g2, fun z hz => sx _ _ (unhids (g3 z hz)).1⟩, ⟨by decide, by decide⟩, greys_ok, fun _ H1 hp1 fr1 => ⟨rfl, ?_⟩, fun hn => absurd greys_nd hn⟩
  exact q x H1 (fun b o e => fr1 _ _ (sx _ _ e) (by simp; exact ne_of_none e nx)) hp1
end
def sp_Album_tint (K : PySem.W.Frag) : Sp := fun vs H Q _ => ∃ (A : AlbS) (L : List Ent) (hx : List V) (i : Nat) (v : V), vs = [.ref A.p, .int i, v] ∧ AlbumAt (He.ga K "Album") H A L hx ∧ i < 16 ∧ ∀ H', AlbumAt (He.ga K "Album") H' A L (hx.set i v) → Fr A.M H H' → Q .non H'
theorem sc_Album_tint : FnScope ["self", "cell", "colour"] ["self", "cell", "colour"] (defScope s_Album_tint) := ⟨rfl, rfl, rfl, by decide +kernel, rfl, by decide +kernel, by decide +kernel⟩
section
theorem len_Album_tint {K : PySem.W.Frag} {vs : List V} {H : Hp} {Q : VK} {E : XK} (h : (sp_Album_tint K) vs H Q E) : vs.length = 3 := by
  repeat (obtain ⟨_, h⟩ := h)
  subst_vars; rfl
variable {P : Program} {w : World} {K : PySem.W.Frag} {mg : Str → Option Value} {base : Heap}
theorem ok_Album_tint (T : Tx K mg) : Cal P w K mg base CX0 1 (He.ma K (He.ga K "Album") "tint") ["self", "cell", "colour"] (sp_Album_tint K) := by
  obtain ⟨fd, F⟩ := T.F_Album_tint
  refine ⟨⟨fd, F.ok sc_Album_tint (fun vs H Q E h => len_Album_tint h) (fun cdv A outer s H vs Q E hr h => ⟨_, PSs.nox (
      (pss_one (ps_asg (pv 2) (pg_sub (pe_fldK K (pv 0) rfl) (pv 1) set_list)))), ?_⟩), F.bindsN fun _ _ _ _ _ _ us hl => match us, hl with | [_, _, _], _ => rfl⟩, F.kp⟩
  obtain ⟨A, L, hx, i, v, rfl, h, hi, q⟩ := h
  obtain ⟨dx, hp⟩ := h.ob
  have hhl := h.hl
  have di := h.di
  simp only [List.nodup_cons, List.mem_cons, List.not_mem_nil, or_false, not_or] at di
  obtain ⟨⟨d1, d2, d3⟩, ⟨d4, d5⟩, d6, _⟩ := di
  walk_at "rd"
  refine r_kfld hp T.c_Album T.n_Album_hues (af_u _) ?_
  walk_at "rd"
  refine r_setL h.hu rfl (by omega) ?_
  have fr : Fr A.M H (upd H A.u (.lst (hx.set i v))) := fr_upd (Fr.refl _ _) (by simp [AlbS.M])
  refine q _ ⟨⟨dx, ?_⟩, ?_, ?_, upd_same, ?_, ?_, h.di, fun x hxm => ⟨(h.pi x hxm).1.same (hids_fr fr), (h.pi x hxm).2⟩, h.nd, by simp [hhl], h.ll⟩ fr
  · rw [upd_ne (ne_of hp h.hu (fun z => by cases z))]; exact hp
  · rw [upd_ne d1]; exact h.or
  · rw [upd_ne (ne_of h.he h.hu (fun z => by cases z))]; exact h.he
  · obtain ⟨xs, e1, e2⟩ := h.pa
    exact ⟨xs, by rw [upd_ne (Ne.symm d4)]; exact e1, e2⟩
  · obtain ⟨xs, e1⟩ := h.ah
    exact ⟨xs, by rw [upd_ne (Ne.symm d5)]; exact e1⟩
end
def sp_Album_hold (K : PySem.W.Frag) : Sp := fun vs H Q _ => ∃ (A : AlbS) (L : List Ent) (hx : List V) (n : Str) (a : Addr) (rows : List (List Int)), vs = [.ref A.p, .str n, .ref a, .non] ∧ AlbumAt (He.ga K "Album") H A L hx ∧ Pic H a rows ∧ PicOk rows ∧ n ∉ L.map (fun x => x.nm) ∧ L.length ≤ 16 ∧
  ∀ r H', AlbumAt (He.ga K "Album") H' A (L ++ [⟨n, r, rows⟩]) hx → Fr A.M H H' → (∀ xs, H A.b = some (.lst xs) → H' A.b = some (.lst xs)) → Q .non H'
theorem sc_Album_hold : FnScope ["self", "name", "picture", "place"] ["self", "name", "picture", "place"] (defScope s_Album_hold) := ⟨rfl, rfl, rfl, by decide +kernel, rfl, by decide +kernel, by decide +kernel⟩
section
theorem len_Album_hold {K : PySem.W.Frag} {vs : List V} {H : Hp} {Q : VK} {E : XK} (h : (sp_Album_hold K) vs H Q E) : vs.length = 4 := by
  repeat (obtain ⟨_, h⟩ := h)
  subst_vars; rfl
variable {P : Program} {w : World} {K : PySem.W.Frag} {mg : Str → Option Value} {base : Heap}
theorem ok_Album_hold (T : Tx K mg) : CalD P w K mg base CX0 2 (He.ma K (He.ga K "Album") "hold") ["self", "name", "picture", "place"] [.non] (sp_Album_hold K) := by
  obtain ⟨fd, F⟩ := T.F_Album_hold
  obtain ⟨ds, hv, hb⟩ := F.binds1 (ps := ["self", "name", "picture", "place"]) 3 0 (by simp [d_Album_hold, He.DefD.dvs]) rfl (fun _ _ _ _ _ _ _ us its hl hi => match us, hl, its, hi with | [_, _, _], _, [_], _ => ⟨_, rfl, rfl⟩)
  refine ⟨⟨fd, ds, F.ok sc_Album_hold (fun vs H Q E h => len_Album_hold h) (fun cdv A outer s H vs Q E hr h => ⟨_, PSs.nox (
      (pss_cons (ps_dput (hu_of hr) (pe_fldK K (pv 0) rfl) (pv 1) (pe_cal (ok_copied_rows T) hr (by decide) (by rfl) T.g_copied_rows pass0 (pa_cons (pv 2) pa_nil)) rfl)
      (pss_cons (ps_if (pt_cmpR op_isN1 (pv 3) pe_non (nomark _))
      (pss_one (ps_set (i := 3) sc_Album_hold.nd rfl (Or.inl rfl) (pe_callB (cal_lenK K) (by rfl) T.b_len PySem.boot_len (pa_cons (pe_fldK K (pv 0) rfl) pa_nil)))) pss_nil)
      (pss_one (ps_expr (pe_bmK K PySem.F.plainAttrs_list PySem.F.slot_list_insert PySem.F.type_list_insert mt_insertK (pe_fldK K (pv 0) rfl) (pa_cons (pv 3) (pa_cons (pv 1) pa_nil)))))))), ?_⟩), hv, hb⟩, F.kp⟩
  obtain ⟨A, L, hx, n, a, rows, rfl, h, hpic, ok, hn, hl, q⟩ := h
  obtain ⟨z1, z2⟩ := pic_small ok
  have di := h.di
  simp only [List.nodup_cons, List.mem_cons, List.not_mem_nil, or_false, not_or] at di
  obtain ⟨⟨d1, d2, d3⟩, ⟨d4, d5⟩, d6, _⟩ := di
  walk_at "rd"
  refine ⟨a, rows, rfl, hpic, z1, z2, fun r H1 s1 hpn => ?_⟩
  have h1 := h.same s1
  obtain ⟨dx, hp⟩ := h1.ob
  walk_at "rd"
  refine r_kfld hp T.c_Album T.n_Album_held (af_e _) ?_
  walk_at "rd"
  refine r_kdput (DPut.k (k := Sum.inr n) h1.he (by rw [List.length_map]; exact szt (by omega))) ?_
  have hkv : putK (L.map fun x => ((Sum.inr x.nm : Key), V.ref x.a)) (Sum.inr n) (.ref r) = (L ++ [(⟨n, r, rows⟩ : Ent)]).map fun x => ((Sum.inr x.nm : Key), V.ref x.a) := by
    unfold putK
    rw [valV_any, held_none hn]
    simp
  rw [hkv]
  walk_at "rd"
  have ne1 : ∀ {b o}, H1 b = some o → (∀ kvs, o ≠ .dK kvs) → b ≠ A.e := fun {b o} e hk => ne_of e h1.he (hk _)
  have hp2 : (upd H1 A.e (.dK ((L ++ [(⟨n, r, rows⟩ : Ent)]).map fun x => ((Sum.inr x.nm : Key), V.ref x.a)))) A.p = some (.ins (He.ga K "Album") dx (af A)) := by rw [upd_ne (ne1 hp (fun _ z => by cases z))]; exact hp
  have ho2 : (upd H1 A.e (.dK ((L ++ [(⟨n, r, rows⟩ : Ent)]).map fun x => ((Sum.inr x.nm : Key), V.ref x.a)))) A.o = some (.lst (L.map fun x => V.str x.nm)) := by rw [upd_ne (ne1 h1.or (fun _ z => by cases z))]; exact h1.or
  refine iteT ?_
  walk_at "rd"
  refine r_kfld hp2 T.c_Album T.n_Album_order (af_o _) ?_
  walk_at "rd"
  refine r_len (SqL.of ho2) ?_
  walk_at "rd"
  refine r_kfld hp2 T.c_Album T.n_Album_order (af_o _) ?_
  refine r_kbmL (SqL.of ho2) ?_
  walk_at "rd"
  refine r_insert ho2 (by rw [List.length_map]; exact szt (by omega)) (by omega) (by rw [List.length_map]; omega) ?_
  have hins : ((L.map fun x => V.str x.nm).take ((((L.map fun x => V.str x.nm).length : Nat) : Int)).toNat ++ [V.str n] ++ (L.map fun x => V.str x.nm).drop ((((L.map fun x => V.str x.nm).length : Nat) : Int)).toNat) = (L ++ [(⟨n, r, rows⟩ : Ent)]).map fun x => V.str x.nm := by
    rw [Int.toNat_natCast, List.take_length, List.drop_length]
    simp
  rw [hins]
  have fr : Fr A.M H (upd (upd H1 A.e (.dK ((L ++ [(⟨n, r, rows⟩ : Ent)]).map fun x => ((Sum.inr x.nm : Key), V.ref x.a)))) A.o (.lst ((L ++ [(⟨n, r, rows⟩ : Ent)]).map fun x => V.str x.nm))) :=
    fr_upd (fr_upd (sfr s1) (by simp [AlbS.M])) (by simp [AlbS.M])
  have at2 : ∀ {b o}, H1 b = some o → b ≠ A.o → b ≠ A.e → (upd (upd H1 A.e (.dK ((L ++ [(⟨n, r, rows⟩ : Ent)]).map fun x => ((Sum.inr x.nm : Key), V.ref x.a)))) A.o (.lst ((L ++ [(⟨n, r, rows⟩ : Ent)]).map fun x => V.str x.nm))) b = some o := fun {b o} e n1 n2 => by
    rw [upd_ne n1, upd_ne n2]
    exact e
  refine q r _ ⟨⟨dx, at2 hp (ne_of hp h1.or (fun z => by cases z)) (ne1 hp (fun _ z => by cases z))⟩, upd_same, ?_, at2 h1.hu (Ne.symm d1) (ne1 h1.hu (fun _ z => by cases z)), ?_, ?_, h.di, fun x hxm => ?_, ?_, h.hl, by simp; omega⟩ fr fun xs e => at2 (s1 _ _ e) (Ne.symm d2) (ne1 (s1 _ _ e) (fun _ z => by cases z))
  · rw [upd_ne (Ne.symm (ne1 h1.or (fun _ z => by cases z))), upd_same]
  · obtain ⟨xs, e1, e2⟩ := h1.pa
    exact ⟨xs, at2 e1 (Ne.symm d2) (ne1 e1 (fun _ z => by cases z)), by simp; omega⟩
  · obtain ⟨xs, e1⟩ := h1.ah
    exact ⟨xs, at2 e1 (Ne.symm d3) (ne1 e1 (fun _ z => by cases z))⟩
  · rcases List.mem_append.mp hxm with hxm | hxm
    · exact ⟨(h.pi x hxm).1.same (hids_fr fr), (h.pi x hxm).2⟩
    · simp at hxm
      subst hxm
      refine ⟨?_, ok⟩
      obtain ⟨nr, ps, k1, k2, k3⟩ := hpn
      have hM : ∀ m ∈ A.M, ∃ o, H m = some o := fun m hm => by
        simp only [AlbS.M, List.mem_cons, List.not_mem_nil, or_false] at hm
        rcases hm with rfl | rfl | rfl | rfl | rfl | rfl
        · exact h.ob.elim fun _ e => ⟨_, e⟩
        · exact ⟨_, h.or⟩
        · exact ⟨_, h.he⟩
        · exact ⟨_, h.hu⟩
        · exact h.pa.elim fun _ e => ⟨_, e.1⟩
        · exact h.ah.elim fun _ e => ⟨_, e⟩
      have out : ∀ {b}, H b = none → b ∉ A.M := fun {b} hb hm => by
        obtain ⟨o, e⟩ := hM b hm
        rw [hb] at e
        cases e
      have go : ∀ {b o}, H b = none → H1 b = some o → hids A.M (upd (upd H1 A.e (.dK ((L ++ [(⟨n, r, rows⟩ : Ent)]).map fun x => ((Sum.inr x.nm : Key), V.ref x.a)))) A.o (.lst ((L ++ [(⟨n, r, rows⟩ : Ent)]).map fun x => V.str x.nm))) b = some o := fun {b o} hb e => by
        have hm := out hb
        rw [hids_ne hm]
        exact at2 e (fun z => hm (by rw [z]; simp [AlbS.M])) (fun z => hm (by rw [z]; simp [AlbS.M]))
      exact ⟨ps, go nr k1, k2, fun p hp => go (k3 p hp).1 (k3 p hp).2⟩
  · rw [List.map_append, List.nodup_append]
    exact ⟨h.nd, by simp, fun x hx y hy e => hn (by simp at hy; rw [← hy, ← e]; exact hx)⟩
end
end K44
set_option Elab.async false
set_option linter.all false
set_option maxRecDepth 100000
set_option maxHeartbeats 4000000
namespace K44
open PySem PySem.Spec PyProof.Rows L2
local macro_rules | `(tactic| walk_at "rd1") => `(tactic| first
  | ((with_reducible apply r_var); rfl)
  | ((with_reducible apply r_aug); rfl)
  | with_reducible apply r_isiI
  | with_reducible apply r_tslS
  | with_reducible apply r_try
  | with_reducible apply r_gsub
  | with_reducible apply r_irev
  | with_reducible apply r_trg1
  | with_reducible apply r_sfld
  | with_reducible apply r_afld
  | with_reducible apply r_rAdd
  | with_reducible apply r_dget
  | with_reducible apply r_din
  | with_reducible apply r_dnot
  | with_reducible apply r_dput
  | with_reducible apply r_ikeys
  | with_reducible apply r_m1
  | with_reducible apply r_km1
  | with_reducible apply r_inS
  | with_reducible apply r_notInS
  | with_reducible apply r_isN
  | with_reducible apply r_ip
  | with_reducible apply r_kbmS
  | with_reducible apply r_min2
  | with_reducible apply r_isiB
  | with_reducible apply r_isiS
  | with_reducible apply r_tyes
  | with_reducible apply iteT
  | with_reducible apply iteF
  | with_reducible apply r_nT
  | with_reducible apply r_nF
  | with_reducible apply r_callS
  | with_reducible apply r_meth
  | with_reducible apply r_methS
  | with_reducible apply r_methD
  | with_reducible apply r_make
  | with_reducible apply r_lc
  | with_reducible apply r_for
  | with_reducible apply r_ilist
  | with_reducible apply r_itup
  | with_reducible apply r_irng1
  | with_reducible apply r_irng2
  | with_reducible apply r_istr
  | with_reducible apply r_ienum
  | with_reducible apply r_izip
  | with_reducible apply r_izip3
  | with_reducible apply r_izip4
  | with_reducible apply r_kis
  | with_reducible apply r_c
  | with_reducible apply r_op
  | with_reducible apply r_un
  | with_reducible apply r_i0
  | with_reducible apply r_u
  | with_reducible apply r_eqI
  | with_reducible apply r_neI
  | with_reducible apply r_eqS
  | with_reducible apply r_neS
  | with_reducible apply r_test
  | with_reducible apply r_B
  | with_reducible apply r_bl
  | with_reducible apply r_int
  | with_reducible apply r_and
  | with_reducible apply r_or
  | with_reducible apply r_not
  | with_reducible apply r_andV
  | with_reducible apply r_orV
  | with_reducible apply r_notV
  | with_reducible apply r_chain
  | with_reducible apply r_tif
  | with_reducible apply r_nil
  | with_reducible apply r_cons
  | with_reducible apply r_cb
  | with_reducible apply r_call
  | with_reducible apply r_seq
  | with_reducible apply r_asg
  | with_reducible apply r_name
  | with_reducible apply r_drop
  | with_reducible apply r_ret
  | with_reducible apply r_retN
  | with_reducible apply r_next
  | with_reducible apply r_ifS
  | with_reducible apply r_tup
  | with_reducible apply r_lst
  | with_reducible apply r_sl
  | with_reducible apply r_nopart
  | with_reducible apply r_part
  | with_reducible apply r_fld
  | with_reducible apply r_bm
  | with_reducible apply r_bm0)
local macro_rules | `(tactic| walk_at "rd") => `(tactic| repeat (walk_at "rd1"))

section
variable {σ : L2.St} {H : Hp} {K : PySem.W.Frag} {Q : VK} {vs : List Nat} {g : TG} {te : TE}
theorem klc_ways {J : It} {n : Nat} {G : Hp → Prop} {Y : Nat → Hp → V → Hp → Prop} (w : Walk J n G Y) (hn : n ≤ sizeLine) (hG : ∀ H', Same H H' → G H') (ws : List Col) (hl : ws.length = n)
    (step : ∀ (i : Nat) x H1 H2 c, ws[i]? = some c → Same H H1 → Y i H1 x H2 → ∀ Z : VK, (∀ t H', Same H1 H' → H1 t = none → H' t = some (.tup (wayT c)) → Z (.ref t) H') → g x (wipe σ vs) H2 fun σ2 H3 => wipe σ2 vs = wipe σ vs ∧ te σ2 H3 Z)
    (q : ∀ p H', H p = none → Same H H' → WaysAt H' p ws → Q (.ref p) H') : KLc g tYes te vs σ Q J H := by
  refine klc w hG (fun i acc h => ∃ qs : List (Addr × Col), acc = qs.map (fun q => V.ref q.1) ∧ qs.map (·.2) = ws.take i ∧ ∀ q ∈ qs, h q.1 = some (.tup (wayT q.2))) ⟨[], rfl, by simp, fun p hp => by cases hp⟩ (fun D i x H1 H2 acc hi hD s e l r y => ?_) fun p H' ys hp s e _ r => ?_
  · obtain ⟨qs, rfl, h2, h3⟩ := r
    have hr : ws[i]? = some (ws[i]'(by omega)) := List.getElem?_eq_getElem (by omega)
    refine step i x H1 H2 _ hr (same_of_hid s) y (KYes (fun i acc h => ∃ qs : List (Addr × Col), acc = qs.map (fun q => V.ref q.1) ∧ qs.map (·.2) = ws.take i ∧ ∀ q ∈ qs, h q.1 = some (.tup (wayT q.2))) H D i) fun t H' s' nt ht => ?_
    have nD : t ≠ D := fun z => by subst z; rw [nt] at e; cases e
    refine r_kyes (s' _ _ e) l (by omega) (same_hidS s s') ⟨qs ++ [(t, ws[i]'(by omega))], by simp, by rw [List.map_append, h2, List.take_add_one, hr]; rfl, fun z hz => ?_⟩
    rcases List.mem_append.mp hz with hz | hz
    · exact hid_same s' _ _ (h3 z hz)
    · simp at hz
      subst hz
      show hid D H' t = _
      rw [hid_ne nD]
      exact ht
  · obtain ⟨qs, rfl, h2, h3⟩ := r
    rw [List.take_of_length_le (by omega)] at h2
    exact q p H' hp s ⟨qs, e, h2, fun z hz => unhid (h3 z hz)⟩
end
def sp_Album_init (K : PySem.W.Frag) : Sp := fun vs H Q _ => ∃ (p dx : Addr), vs = [.ref p] ∧ H p = some (.ins (He.ga K "Album") dx []) ∧ ∀ (A : AlbS) H' hx, A.p = p → (∀ b ∈ [A.o, A.e, A.u, A.b, A.c], H b = none) → AlbumAt (He.ga K "Album") H' A [] hx → GreyAt H' A hx → Fr [p] H H' → Q .non H'
theorem sc_Album_init : FnScope ["self", "cell"] ["self"] (defScope s_Album_init) := ⟨rfl, rfl, rfl, by decide +kernel, rfl, by decide +kernel, by decide +kernel⟩
section
theorem len_Album_init {K : PySem.W.Frag} {vs : List V} {H : Hp} {Q : VK} {E : XK} (h : (sp_Album_init K) vs H Q E) : vs.length = 1 := by
  repeat (obtain ⟨_, h⟩ := h)
  subst_vars; rfl
variable {P : Program} {w : World} {K : PySem.W.Frag} {mg : Str → Option Value} {base : Heap}
theorem ok_Album_init (T : Tx K mg) : Cal P w K mg base CX0 1 (He.ma K (He.ga K "Album") "__init__") ["self"] (sp_Album_init K) := by
  obtain ⟨fd, F⟩ := T.F_Album_init
  refine ⟨⟨fd, F.ok sc_Album_init (fun vs H Q E h => len_Album_init h) (fun cdv A outer s H vs Q E hr h => ⟨_, PSs.nox (
      (pss_cons (ps_fld (pv 0) (pe_lst pa_nil) rfl)
      (pss_cons (ps_fld (pv 0) pe_dnewK rfl)
      (pss_cons (ps_fld (pv 0) (pe_lc (own := [("cell", 1)]) rfl sc_Album_init.nd (pi_range1 (by rfl) T.b_range (pa_cons (pe_op op_add (C8.pe_gc (by rfl) T.k_MOST_CELL) pe_int) pa_nil)) (blkOk_by (own := [("cell", 1)]) (N := ["self", "cell"]) (sc := defScope s_Album_init) (by decide +kernel)) (fun _ _ _ _ _ => (pg_name (i := 1) sc_Album_init.nd rfl (Or.inl rfl))) (fun _ _ _ _ _ => pts_nil) (fun _ _ _ _ _ => (pe_tup (pa_cons (pe_op op_mul pe_int (pv 1)) (pa_cons (pe_op op_mul pe_int (pv 1)) (pa_cons (pe_op op_mul pe_int (pv 1)) pa_nil)))))) rfl)
      (pss_cons (ps_fld (pv 0) (pe_lst pa_nil) rfl)
      (pss_one (ps_fld (pv 0) (pe_lst pa_nil) rfl))))))), ?_⟩), F.bindsN fun _ _ _ _ _ _ us hl => match us, hl with | [_], _ => rfl⟩, F.kp⟩
  obtain ⟨p, dx, rfl, hp, q⟩ := h
  walk_at "rd"
  refine r_klst (len_le rfl) fun o H1 n1 s1 e1 => ?_
  walk_at "rd"
  refine r_ksetf (s1 _ _ hp) T.c_Album T.n_Album_order (by decide) ?_
  have po : p ≠ o := ne_of_none hp n1
  generalize h2 : upd H1 p (.ins (He.ga K "Album") dx (putF "order" (.ref o) [])) = H2
  have p2 : H2 p = some (.ins (He.ga K "Album") dx (putF "order" (.ref o) [])) := by rw [← h2, upd_same]
  have f2 : Fr [p] H H2 := by rw [← h2]; exact fr_upd (sfr s1) (by simp)
  have o2 : H2 o = some (.lst []) := by rw [← h2, upd_ne po.symm]; exact e1
  walk_at "rd"
  refine r_dnewK fun e H3 n3 s3 e3 => ?_
  walk_at "rd"
  refine r_ksetf (s3 _ _ p2) T.c_Album T.n_Album_held (by show 1 < 1000; decide) ?_
  have pe : p ≠ e := ne_of_none p2 n3
  generalize h4 : upd H3 p (.ins (He.ga K "Album") dx (putF "held" (.ref e) (putF "order" (.ref o) []))) = H4
  have p4 : H4 p = some (.ins (He.ga K "Album") dx (putF "held" (.ref e) (putF "order" (.ref o) []))) := by rw [← h4, upd_same]
  have f4 : Fr [p] H2 H4 := by rw [← h4]; exact fr_upd (sfr s3) (by simp)
  have o4 : H4 o = some (.lst []) := f4 _ _ o2 (by simp [po.symm])
  have e4 : H4 e = some (.dK []) := by rw [← h4, upd_ne pe.symm]; exact e3
  walk_at "rd"
  refine r_ki1 (by decide) (by decide) ?_
  refine klc_ways (walk_range (lo := 0) (n := 16)) (szl (by decide)) (fun _ _ => trivial) greys (by decide +kernel) (fun i x H5 H6 c hc s y Z z => ?_) fun u H5 n5 s5 w5 => ?_
  · obtain ⟨rfl, rfl⟩ := y
    have hi : i < 16 := by have := (List.getElem?_eq_some_iff.mp hc).1; simpa [greys] using this
    have ec : c = (17 * (i : Int), 17 * (i : Int), 17 * (i : Int)) := by
      unfold greys at hc
      rw [List.getElem?_map, List.getElem?_range hi] at hc
      exact (Option.some.inj hc).symm
    subst ec
    walk_at "rd"
    refine ⟨rfl, ?_⟩
    walk_at "rd"
    refine r_i (.inl ⟨by omega, by omega⟩) ?_
    walk_at "rd"
    refine r_i (.inl ⟨by omega, by omega⟩) ?_
    walk_at "rd"
    refine r_i (.inl ⟨by omega, by omega⟩) ?_
    walk_at "rd"
    refine r_ktup (len_le rfl) fun t H7 n7 s7 e7 => z t H7 s7 n7 ?_
    rw [e7]
    unfold wayT
    simp only [Int.zero_add]
  walk_at "rd"
  have pu : p ≠ u := ne_of_none p4 n5
  refine r_ksetf (s5 _ _ p4) T.c_Album T.n_Album_hues (by show 2 < 1000; decide) ?_
  generalize h6 : upd H5 p (.ins (He.ga K "Album") dx (putF "hues" (.ref u) (putF "held" (.ref e) (putF "order" (.ref o) [])))) = H6
  have p6 : H6 p = some (.ins (He.ga K "Album") dx (putF "hues" (.ref u) (putF "held" (.ref e) (putF "order" (.ref o) [])))) := by rw [← h6, upd_same]
  have f6 : Fr [p] H4 H6 := by rw [← h6]; exact fr_upd (sfr s5) (by simp)
  have g6 : Fr [p] H5 H6 := by rw [← h6]; exact fr_upd (Fr.refl _ _) (by simp)
  walk_at "rd"
  refine r_klst (len_le rfl) fun b H7 n7 s7 e7 => ?_
  walk_at "rd"
  have pb : p ≠ b := ne_of_none p6 n7
  refine r_ksetf (s7 _ _ p6) T.c_Album T.n_Album_past (by show 3 < 1000; decide) ?_
  generalize h8 : upd H7 p (.ins (He.ga K "Album") dx (putF "past" (.ref b) (putF "hues" (.ref u) (putF "held" (.ref e) (putF "order" (.ref o) []))))) = H8
  have p8 : H8 p = some (.ins (He.ga K "Album") dx (putF "past" (.ref b) (putF "hues" (.ref u) (putF "held" (.ref e) (putF "order" (.ref o) []))))) := by rw [← h8, upd_same]
  have f8 : Fr [p] H6 H8 := by rw [← h8]; exact fr_upd (sfr s7) (by simp)
  have b8 : H8 b = some (.lst []) := by rw [← h8, upd_ne pb.symm]; exact e7
  walk_at "rd"
  refine r_klst (len_le rfl) fun c H9 n9 s9 e9 => ?_
  walk_at "rd"
  have pc : p ≠ c := ne_of_none p8 n9
  refine r_ksetf (s9 _ _ p8) T.c_Album T.n_Album_ahead (by show 4 < 1000; decide) ?_
  rw [af_put ⟨p, o, e, u, b, c⟩]
  generalize h10 : upd H9 p (.ins (He.ga K "Album") dx (af ⟨p, o, e, u, b, c⟩)) = H10
  have f10 : Fr [p] H8 H10 := by rw [← h10]; exact fr_upd (sfr s9) (by simp)
  have f4x : Fr [p] H4 H10 := (f6.trans f8).trans f10
  have f5x : Fr [p] H5 H10 := (g6.trans f8).trans f10
  obtain ⟨qs, k1, k2, k3⟩ := w5
  have o10 : H10 o = some (.lst []) := f4x _ _ o4 (by simp [po.symm])
  have e10 : H10 e = some (.dK []) := f4x _ _ e4 (by simp [pe.symm])
  have u10 : H10 u = some (.lst (qs.map fun q => V.ref q.1)) := f5x _ _ k1 (by simp [pu.symm])
  have b10 : H10 b = some (.lst []) := f10 _ _ b8 (by simp [pb.symm])
  have c10 : H10 c = some (.lst []) := by rw [← h10, upd_ne pc.symm]; exact e9
  have p10 : H10 p = some (.ins (He.ga K "Album") dx (af ⟨p, o, e, u, b, c⟩)) := by rw [← h10, upd_same]
  have ou : o ≠ u := ne_of_none o4 n5
  have f46 : Fr [p] H4 H6 := f6
  have ob : o ≠ b := ne_of_none (f6 _ _ o4 (by simp [po.symm])) n7
  have oc : o ≠ c := ne_of_none ((f6.trans f8) _ _ o4 (by simp [po.symm])) n9
  have ub : u ≠ b := ne_of_none (g6 _ _ k1 (by simp [pu.symm])) n7
  have uc : u ≠ c := ne_of_none ((g6.trans f8) _ _ k1 (by simp [pu.symm])) n9
  have bc : b ≠ c := ne_of_none b8 n9
  have back : ∀ {Hk : Hp} {x : Addr}, Fr [p] H Hk → Hk x = none → x ≠ p → H x = none := fun {Hk x} f hx hne => by
    cases hh : H x with
    | none => rfl
    | some v =>
      have := f _ _ hh (by simp [hne])
      rw [hx] at this
      cases this
  refine q ⟨p, o, e, u, b, c⟩ H10 (qs.map fun q => V.ref q.1) rfl (fun x hx => ?_) ⟨⟨dx, p10⟩, o10, e10, u10, ⟨[], b10, Nat.zero_le _⟩, ⟨[], c10⟩, ?_, (fun x hx => absurd hx (by simp)), List.nodup_nil, ?_, Nat.zero_le _⟩ ⟨qs, rfl, k2, fun z hz => ?_⟩ ((f2.trans f4).trans f4x)
  · simp only [List.mem_cons, List.not_mem_nil, or_false] at hx
    rcases hx with rfl | rfl | rfl | rfl | rfl
    · exact n1
    · exact back f2 n3 pe.symm
    · exact back (f2.trans f4) n5 pu.symm
    · exact back ((f2.trans f4).trans f6) n7 pb.symm
    · exact back (((f2.trans f4).trans f6).trans f8) n9 pc.symm
  · simp only [List.nodup_cons, List.mem_cons, List.not_mem_nil, or_false, not_or, List.nodup_nil, not_false_eq_true, and_true]
    exact ⟨⟨ou, ob, oc⟩, ⟨ub, uc⟩, bc⟩
  · have := congrArg List.length k2
    simp only [List.length_map] at this ⊢
    rw [this]
    decide +kernel
  · have ht : H10 z.1 = some (.tup (wayT z.2)) := f5x _ _ (k3 z hz) (by simp; exact ne_of (k3 z hz) (s5 _ _ p4) (fun z => by cases z))
    rw [hids_ne]
    · exact ht
    · intro hm
      simp only [AlbS.M, List.mem_cons, List.not_mem_nil, or_false] at hm
      rcases hm with hm | hm | hm | hm | hm | hm
      · exact ne_of ht p10 (fun z => by cases z) hm
      · exact ne_of ht o10 (fun z => by cases z) hm
      · exact ne_of ht e10 (fun z => by cases z) hm
      · exact ne_of ht u10 (fun z => by cases z) hm
      · exact ne_of ht b10 (fun z => by cases z) hm
      · exact ne_of ht c10 (fun z => by cases z) hm
end
def cf (n : Str) (a : Addr) : List (Str × V) := putF "come" (.ref a) (putF "called" (.str n) [])
theorem cf_ne : ¬ ("called" : Str) = "come" := by decide +kernel
theorem cf_n (n : Str) (a : Addr) : (cf n a).lookup ("called" : Str) = some (.str n) := by
  unfold cf
  rw [lookup_putF, if_neg cf_ne, lookup_putF, if_pos rfl]
theorem cf_a (n : Str) (a : Addr) : (cf n a).lookup ("come" : Str) = some (.ref a) := by
  unfold cf
  rw [lookup_putF, if_pos rfl]
theorem cf_no (n : Str) (a : Addr) {m : Str} (h1 : ¬ m = "come") (h2 : ¬ m = "called") : (cf n a).lookup m = none := by
  unfold cf
  rw [lookup_putF, if_neg h1, lookup_putF, if_neg h2]
  rfl
def sp_Came_init (K : PySem.W.Frag) : Sp := fun vs H Q _ => ∃ (s dx : Addr) (n : Str) (a : Addr), vs = [.ref s, .str n, .ref a] ∧ H s = some (.ins (He.ga K "Came") dx []) ∧ ∀ H', H' s = some (.ins (He.ga K "Came") dx (cf n a)) → Fr [s] H H' → Q .non H'
theorem sc_Came_init : FnScope ["self", "called", "come"] ["self", "called", "come"] (defScope s_Came_init) := ⟨rfl, rfl, rfl, by decide +kernel, rfl, by decide +kernel, by decide +kernel⟩
section
theorem len_Came_init {K : PySem.W.Frag} {vs : List V} {H : Hp} {Q : VK} {E : XK} (h : (sp_Came_init K) vs H Q E) : vs.length = 3 := by
  repeat (obtain ⟨_, h⟩ := h)
  subst_vars; rfl
variable {P : Program} {w : World} {K : PySem.W.Frag} {mg : Str → Option Value} {base : Heap}
theorem ok_Came_init (T : Tx K mg) : Cal P w K mg base CX0 1 (He.ma K (He.ga K "Came") "__init__") ["self", "called", "come"] (sp_Came_init K) := by
  obtain ⟨fd, F⟩ := T.F_Came_init
  refine ⟨⟨fd, F.ok sc_Came_init (fun vs H Q E h => len_Came_init h) (fun cdv A outer s H vs Q E hr h => ⟨_, PSs.nox (
      (pss_cons (ps_fld (pv 0) (pv 1) rfl)
      (pss_one (ps_fld (pv 0) (pv 2) rfl)))), ?_⟩), F.bindsN fun _ _ _ _ _ _ us hl => match us, hl with | [_, _, _], _ => rfl⟩, F.kp⟩
  obtain ⟨s, dx, n, a, rfl, hs, q⟩ := h
  walk_at "rd"
  refine r_ksetf hs T.c_Came T.n_Came_called (by decide) ?_
  walk_at "rd"
  refine r_ksetf upd_same T.c_Came T.n_Came_come (by show 1 < 1000; decide) ?_
  exact q _ upd_same (fr_upd (fr_upd (Fr.refl _ _) (by simp)) (by simp))
end
def sp_Came_again (K : PySem.W.Frag) : Sp := fun vs H Q _ => ∃ (s dx : Addr) (A : AlbS) (L : List Ent) (hx : List V) (n : Str) (a : Addr) (rows : List (List Int)), vs = [.ref s, .ref A.p] ∧ H s = some (.ins (He.ga K "Came") dx (cf n a)) ∧ AlbumAt (He.ga K "Album") H A L hx ∧ Pic H a rows ∧ PicOk rows ∧ n ∉ L.map (fun x => x.nm) ∧ L.length ≤ 16 ∧
  ∀ r H', AlbumAt (He.ga K "Album") H' A (L ++ [⟨n, r, rows⟩]) hx → Fr A.M H H' → (∀ xs, H A.b = some (.lst xs) → H' A.b = some (.lst xs)) → Q .non H'
theorem sc_Came_again : FnScope ["self", "album"] ["self", "album"] (defScope s_Came_again) := ⟨rfl, rfl, rfl, by decide +kernel, rfl, by decide +kernel, by decide +kernel⟩
section
theorem len_Came_again {K : PySem.W.Frag} {vs : List V} {H : Hp} {Q : VK} {E : XK} (h : (sp_Came_again K) vs H Q E) : vs.length = 2 := by
  repeat (obtain ⟨_, h⟩ := h)
  subst_vars; rfl
variable {P : Program} {w : World} {K : PySem.W.Frag} {mg : Str → Option Value} {base : Heap}
theorem ok_Came_again (T : Tx K mg) : Cal P w K mg base CX0 3 (He.ma K (He.ga K "Came") "again") ["self", "album"] (sp_Came_again K) := by
  obtain ⟨fd, F⟩ := T.F_Came_again
  refine ⟨⟨fd, F.ok sc_Came_again (fun vs H Q E h => len_Came_again h) (fun cdv A outer s H vs Q E hr h => ⟨_, PSs.nox (
      (pss_one (ps_expr (pe_calMD (pv 1) T.c_Album T.m_Album_hold (ok_Album_hold T) hr (by decide) pass0 (pa_cons (pe_fldK K (pv 0) rfl) (pa_cons (pe_fldK K (pv 0) rfl) pa_nil)))))), ?_⟩), F.bindsN fun _ _ _ _ _ _ us hl => match us, hl with | [_, _], _ => rfl⟩, F.kp⟩
  obtain ⟨s, dx, A, L, hx, n, a, rows, rfl, hs, h, hpic, ok, hn, hl, q⟩ := h
  obtain ⟨dxa, hp⟩ := h.ob
  refine r_drop (r_methD ?_)
  walk_at "rd"
  refine r_kmethD hp (af_no _ (by decide +kernel) (by decide +kernel) (by decide +kernel) (by decide +kernel) (by decide +kernel)) ?_
  walk_at "rd"
  refine r_kfld hs T.c_Came T.n_Came_called (cf_n _ _) ?_
  walk_at "rd"
  refine r_kfld hs T.c_Came T.n_Came_come (cf_a _ _) ?_
  walk_at "rd"
  exact ⟨A, L, hx, n, a, rows, rfl, h, hpic, ok, hn, hl, fun r H' h' fr hb => q r H' h' fr hb⟩
end
def sp_Album_go (K : PySem.W.Frag) : Sp := fun vs H Q _ => ∃ (s dx : Addr) (A : AlbS) (L : List Ent) (hx : List V) (n : Str) (a : Addr) (rows : List (List Int)), vs = [.ref A.p, .ref s] ∧ H s = some (.ins (He.ga K "Came") dx (cf n a)) ∧ AlbumAt (He.ga K "Album") H A L hx ∧ Pic H a rows ∧ PicOk rows ∧ n ∉ L.map (fun x => x.nm) ∧ L.length ≤ 16 ∧
  ∀ r H', AlbumAt (He.ga K "Album") H' A (L ++ [⟨n, r, rows⟩]) hx → Fr A.M H H' → Q .non H'
theorem sc_Album_go : FnScope ["self", "step"] ["self", "step"] (defScope s_Album_go) := ⟨rfl, rfl, rfl, by decide +kernel, rfl, by decide +kernel, by decide +kernel⟩
section
theorem len_Album_go {K : PySem.W.Frag} {vs : List V} {H : Hp} {Q : VK} {E : XK} (h : (sp_Album_go K) vs H Q E) : vs.length = 2 := by
  repeat (obtain ⟨_, h⟩ := h)
  subst_vars; rfl
variable {P : Program} {w : World} {K : PySem.W.Frag} {mg : Str → Option Value} {base : Heap}
theorem ok_Album_go (T : Tx K mg) : Cal P w K mg base CX0 4 (He.ma K (He.ga K "Album") "go") ["self", "step"] (sp_Album_go K) := by
  obtain ⟨fd, F⟩ := T.F_Album_go
  refine ⟨⟨fd, F.ok sc_Album_go (fun vs H Q E h => len_Album_go h) (fun cdv A outer s H vs Q E hr h => ⟨_, PSs.nox (
      (pss_cons (ps_expr (pe_calM (pv 1) T.c_Came T.m_Came_again (ok_Came_again T) hr (by decide) pass0 (pa_cons (pv 0) pa_nil)))
      (pss_cons (ps_expr (pe_bmK K PySem.F.plainAttrs_list PySem.F.slot_list_append PySem.F.type_list_append mt_append (pe_fldK K (pv 0) rfl) (pa_cons (pv 1) pa_nil)))
      (pss_one (ps_expr (pe_bm0 PySem.F.plainAttrs_list PySem.F.slot_list_clear PySem.F.type_list_clear mt_clear (pe_fldK K (pv 0) rfl))))))), ?_⟩), F.bindsN fun _ _ _ _ _ _ us hl => match us, hl with | [_, _], _ => rfl⟩, F.kp⟩
  obtain ⟨s, dx, A, L, hx, n, a, rows, rfl, hs, h, hpic, ok, hn, hl, q⟩ := h
  have di := h.di
  simp only [List.nodup_cons, List.mem_cons, List.not_mem_nil, or_false, not_or] at di
  obtain ⟨⟨d1, d2, d3⟩, ⟨d4, d5⟩, d6, _⟩ := di
  walk_at "rd"
  refine r_kmeth hs (cf_no _ _ (by decide +kernel) (by decide +kernel)) ?_
  walk_at "rd"
  refine ⟨s, dx, A, L, hx, n, a, rows, rfl, hs, h, hpic, ok, hn, hl, fun r H1 h1 fr1 hbk => ?_⟩
  obtain ⟨dxa, hp⟩ := h1.ob
  walk_at "rd"
  refine r_kfld hp T.c_Album T.n_Album_past (af_b _) ?_
  obtain ⟨xs, b0, b2⟩ := h.pa
  have b1 := hbk xs b0
  refine r_kbmL (SqL.of b1) ?_
  walk_at "rd"
  refine r_append b1 (szt (by omega)) ?_
  walk_at "rd"
  have pb : A.p ≠ A.b := ne_of hp b1 (fun z => by cases z)
  refine r_kfld (by rw [upd_ne pb]; exact hp) T.c_Album T.n_Album_ahead (af_c _) ?_
  obtain ⟨ys, c1⟩ := h1.ah
  have c2 : (upd H1 A.b (.lst (xs ++ [.ref s]))) A.c = some (.lst ys) := by rw [upd_ne (Ne.symm d6)]; exact c1
  refine r_kbm0L (SqL.of c2) ?_
  refine r_clear c2 ?_
  have fr2 : Fr A.M H1 (upd (upd H1 A.b (.lst (xs ++ [.ref s]))) A.c (.lst [])) := fr_upd (fr_upd (Fr.refl _ _) (by simp [AlbS.M])) (by simp [AlbS.M])
  have at2 : ∀ {b o}, H1 b = some o → b ≠ A.b → b ≠ A.c → (upd (upd H1 A.b (.lst (xs ++ [.ref s]))) A.c (.lst [])) b = some o := fun {b o} e n1 n2 => by
    rw [upd_ne n2, upd_ne n1]
    exact e
  refine q r _ ⟨⟨dxa, at2 hp pb (ne_of hp c1 (fun z => by cases z))⟩, at2 h1.or d2 d3, at2 h1.he (ne_of h1.he b1 (fun z => by cases z)) (ne_of h1.he c1 (fun z => by cases z)), at2 h1.hu d4 d5, ⟨_, by rw [upd_ne d6, upd_same], ?_⟩, ⟨[], upd_same⟩, h1.di, fun x hxm => ⟨(h1.pi x hxm).1.same (hids_fr fr2), (h1.pi x hxm).2⟩, h1.nd, h1.hl, h1.ll⟩ (fr1.trans fr2)
  simp
  omega
end
def sp_Album_need_room (K : PySem.W.Frag) : Sp := fun vs H Q _ => ∃ (A : AlbS) (L : List Ent) (hx : List V) (n : Str), vs = [.ref A.p, .str n] ∧ AlbumAt (He.ga K "Album") H A L hx ∧ n ∉ L.map (fun x => x.nm) ∧ L.length < 16 ∧ Q .non H
theorem sc_Album_need_room : FnScope ["self", "name"] ["self", "name"] (defScope s_Album_need_room) := ⟨rfl, rfl, rfl, by decide +kernel, rfl, by decide +kernel, by decide +kernel⟩
section
theorem len_Album_need_room {K : PySem.W.Frag} {vs : List V} {H : Hp} {Q : VK} {E : XK} (h : (sp_Album_need_room K) vs H Q E) : vs.length = 2 := by
  repeat (obtain ⟨_, h⟩ := h)
  subst_vars; rfl
variable {P : Program} {w : World} {K : PySem.W.Frag} {mg : Str → Option Value} {base : Heap}
theorem ok_Album_need_room (T : Tx K mg) : Cal P w K mg base CX0 1 (He.ma K (He.ga K "Album") "need_room") ["self", "name"] (sp_Album_need_room K) := by
  obtain ⟨fd, F⟩ := T.F_Album_need_room
  refine ⟨⟨fd, F.ok sc_Album_need_room (fun vs H Q E h => len_Album_need_room h) (fun cdv A outer s H vs Q E hr h => ⟨_, PSs.nox (
      (pss_cons (ps_if (pt_cmp (pc_din (hu_of hr) (pv 1) (pe_fldK K (pv 0) rfl)))
      (pss_one ps_never) pss_nil)
      (pss_one (ps_if (pt_cmpR op_eq (pe_callB (cal_lenK K) (by rfl) T.b_len PySem.boot_len (pa_cons (pe_fldK K (pv 0) rfl) pa_nil)) (C8.pe_gc (by rfl) T.k_MOST_PICTURES) (nomark _))
      (pss_one ps_never) pss_nil)))), ?_⟩), F.bindsN fun _ _ _ _ _ _ us hl => match us, hl with | [_, _], _ => rfl⟩, F.kp⟩
  obtain ⟨A, L, hx, n, rfl, h, hn, hl, q⟩ := h
  obtain ⟨dx, hp⟩ := h.ob
  walk_at "rd"
  refine r_kfld hp T.c_Album T.n_Album_held (af_e _) ?_
  refine r_kdin (DGet.k (k := Sum.inr n) h.he) ?_
  rw [held_none hn]
  walk_at "rd"
  refine iteF ?_
  walk_at "rd"
  refine r_kfld hp T.c_Album T.n_Album_order (af_o _) ?_
  walk_at "rd"
  refine r_len (SqL.of h.or) ?_
  walk_at "rd"
  refine r_no (by rw [List.length_map]; omega) ?_
  walk_at "rd"
  exact q
end
def sp_Album_need_room_x (K : PySem.W.Frag) : Sp := fun vs H Q E => ∃ (A : AlbS) (L : List Ent) (hx : List V) (n : Str), vs = [.ref A.p, .str n] ∧ AlbumAt (He.ga K "Album") H A L hx ∧ n ∉ L.map (fun x => x.nm) ∧ L.length = 16 ∧ E (.ref (He.ga K "TooMany")) none H
section
theorem len_Album_need_room_x {K : PySem.W.Frag} {vs : List V} {H : Hp} {Q : VK} {E : XK} (h : (sp_Album_need_room_x K) vs H Q E) : vs.length = 2 := by
  repeat (obtain ⟨_, h⟩ := h)
  subst_vars; rfl
variable {P : Program} {w : World} {K : PySem.W.Frag} {mg : Str → Option Value} {base : Heap}
theorem ok_Album_need_room_x (T : Tx K mg) : Cal P w K mg base (L2N.CX P w) 1 (He.ma K (He.ga K "Album") "need_room") ["self", "name"] (sp_Album_need_room_x K) := by
  obtain ⟨fd, F⟩ := T.F_Album_need_room
  refine ⟨⟨fd, F.ok sc_Album_need_room (fun vs H Q E h => len_Album_need_room_x h) (fun cdv A outer s H vs Q E hr h => ⟨_, (
      (pss_cons (ps_if (pt_cmp (pc_din (hu_of hr) (pv 1) (pe_fldK K (pv 0) rfl)))
      (pss_one ps_never) pss_nil)
      (pss_one (ps_if (pt_cmpR op_eq (pe_callB (cal_lenK K) (by rfl) T.b_len PySem.boot_len (pa_cons (pe_fldK K (pv 0) rfl) pa_nil)) (C8.pe_gc (by rfl) T.k_MOST_PICTURES) (nomark _))
      (pss_one (L2N.ps_raise rfl (L2N.takes_of rfl rfl rfl rfl) (L2N.pmk_own PySem.F.excBase_ValueError T.x_TooMany.1 T.gx_TooMany T.x_TooMany.2.1 (raises_own T.x_TooMany.2.2.1 T.x_TooMany.2.2.2) rfl))) pss_nil)))), ?_⟩), F.bindsN fun _ _ _ _ _ _ us hl => match us, hl with | [_, _], _ => rfl⟩, F.kp⟩
  obtain ⟨A, L, hx, n, rfl, h, hn, hl, q⟩ := h
  obtain ⟨dx, hp⟩ := h.ob
  walk_at "rd"
  refine r_kfld hp T.c_Album T.n_Album_held (af_e _) ?_
  refine r_kdin (DGet.k (k := Sum.inr n) h.he) ?_
  rw [held_none hn]
  walk_at "rd"
  refine iteF ?_
  walk_at "rd"
  refine r_kfld hp T.c_Album T.n_Album_order (af_o _) ?_
  walk_at "rd"
  refine r_len (SqL.of h.or) ?_
  walk_at "rd"
  refine r_yes (by rw [List.length_map, hl]; rfl) ?_
  walk_at "rd"
  exact q
end
def sp_Album_put (K : PySem.W.Frag) : Sp := fun vs H Q _ => ∃ (A : AlbS) (L : List Ent) (hx : List V) (n : Str) (a : Addr) (rows : List (List Int)), vs = [.ref A.p, .str n, .ref a] ∧ AlbumAt (He.ga K "Album") H A L hx ∧ Pic H a rows ∧ PicOk rows ∧ isSmall n 8 = true ∧ n ∉ L.map (fun x => x.nm) ∧ L.length < 16 ∧
  ∀ r H', AlbumAt (He.ga K "Album") H' A (L ++ [⟨n, r, rows⟩]) hx → Fr A.M H H' → Q .non H'
theorem sc_Album_put : FnScope ["self", "name", "picture"] ["self", "name", "picture"] (defScope s_Album_put) := ⟨rfl, rfl, rfl, by decide +kernel, rfl, by decide +kernel, by decide +kernel⟩
section
theorem len_Album_put {K : PySem.W.Frag} {vs : List V} {H : Hp} {Q : VK} {E : XK} (h : (sp_Album_put K) vs H Q E) : vs.length = 3 := by
  repeat (obtain ⟨_, h⟩ := h)
  subst_vars; rfl
variable {P : Program} {w : World} {K : PySem.W.Frag} {mg : Str → Option Value} {base : Heap}
theorem ok_Album_put (T : Tx K mg) : Cal P w K mg base CX0 6 (He.ma K (He.ga K "Album") "put") ["self", "name", "picture"] (sp_Album_put K) := by
  obtain ⟨fd, F⟩ := T.F_Album_put
  refine ⟨⟨fd, F.ok sc_Album_put (fun vs H Q E h => len_Album_put h) (fun cdv A outer s H vs Q E hr h => ⟨_, PSs.nox (
      (pss_cons (ps_if (pt_not (pt_val (pe_cal (ok_is_small T) hr (by decide) (by rfl) T.g_is_small pass0 (pa_cons (pv 1) (pa_cons (C8.pe_gc (by rfl) T.k_MOST_NAME) pa_nil)))))
      (pss_one ps_never) pss_nil)
      (pss_cons (ps_expr (pe_cal (ok_need_picture T) hr (by decide) (by rfl) T.g_need_picture pass0 (pa_cons (pv 2) pa_nil)))
      (pss_cons (ps_expr (pe_calM (pv 0) T.c_Album T.m_Album_need_room (ok_Album_need_room T) hr (by decide) pass0 (pa_cons (pv 1) pa_nil)))
      (pss_one (ps_expr (pe_calM (pv 0) T.c_Album T.m_Album_go (ok_Album_go T) hr (by decide) pass0 (pa_cons (pe_calK T.m_Came_init (ok_Came_init T) hr (by decide) (by rfl) T.gc_Came pass0 (pa_cons (pv 1) (pa_cons (pe_cal (ok_copied_rows T) hr (by decide) (by rfl) T.g_copied_rows pass0 (pa_cons (pv 2) pa_nil)) pa_nil))) pa_nil)))))))), ?_⟩), F.bindsN fun _ _ _ _ _ _ us hl => match us, hl with | [_, _, _], _ => rfl⟩, F.kp⟩
  obtain ⟨A, L, hx, n, a, rows, rfl, h, hpic, ok, hs, hn, hl, q⟩ := h
  obtain ⟨z1, z2⟩ := pic_small ok
  walk_at "rd"
  refine ⟨n, 8, rfl, by have := (small_len hs).2; omega, fun H1 s1 => ?_⟩
  rw [hs]
  walk_at "rd"
  refine ⟨a, rows, rfl, hpic.same s1, ok, fun H2 s2 => ?_⟩
  have s12 := s1.trans s2
  have h2 := h.same s12
  obtain ⟨dx, hp⟩ := h2.ob
  walk_at "rd"
  refine r_kmeth hp (af_no _ (by decide +kernel) (by decide +kernel) (by decide +kernel) (by decide +kernel) (by decide +kernel)) ?_
  walk_at "rd"
  refine ⟨A, L, hx, n, rfl, h2, hn, hl, ?_⟩
  walk_at "rd"
  refine r_kmeth hp (af_no _ (by decide +kernel) (by decide +kernel) (by decide +kernel) (by decide +kernel) (by decide +kernel)) ?_
  walk_at "rd"
  refine ⟨a, rows, rfl, (hpic.same s12), z1, z2, fun r3 H3 s3 hpn => ?_⟩
  walk_at "rd"
  intro x dxx nx ndx nex
  have sx : Same H3 (upd (upd H3 dxx (.own x)) x (.ins (He.ga K "Came") dxx [])) := fun b o e => by
    rw [upd_ne (ne_of_none e nx), upd_ne (ne_of_none e ndx)]
    exact e
  refine ⟨x, dxx, n, r3, rfl, upd_same, fun H4 x4 fr4 => ⟨rfl, ?_⟩⟩
  have s34 : Same H3 H4 := fun b o e => fr4 _ _ (sx _ _ e) (by simp; exact ne_of_none e nx)
  walk_at "rd"
  have s04 := (s12.trans s3).trans s34
  refine ⟨x, dxx, A, L, hx, n, r3, rows, rfl, x4, h.same s04, (hpn.same s34).pic, ok, hn, by omega, fun r H5 h5 fr5 => ?_⟩
  exact q r H5 h5 ((sfr s04).trans fr5)
end
def sp_Album_put_x (K : PySem.W.Frag) : Sp := fun vs H Q E => ∃ (A : AlbS) (L : List Ent) (hx : List V) (n : Str) (a : Addr) (rows : List (List Int)), vs = [.ref A.p, .str n, .ref a] ∧ AlbumAt (He.ga K "Album") H A L hx ∧ Pic H a rows ∧ PicOk rows ∧ isSmall n 8 = true ∧ n ∉ L.map (fun x => x.nm) ∧ L.length = 16 ∧
  ∀ H', Same H H' → E (.ref (He.ga K "TooMany")) none H'
section
theorem len_Album_put_x {K : PySem.W.Frag} {vs : List V} {H : Hp} {Q : VK} {E : XK} (h : (sp_Album_put_x K) vs H Q E) : vs.length = 3 := by
  repeat (obtain ⟨_, h⟩ := h)
  subst_vars; rfl
variable {P : Program} {w : World} {K : PySem.W.Frag} {mg : Str → Option Value} {base : Heap}
theorem ok_Album_put_x (T : Tx K mg) : Cal P w K mg base (L2N.CX P w) 6 (He.ma K (He.ga K "Album") "put") ["self", "name", "picture"] (sp_Album_put_x K) := by
  obtain ⟨fd, F⟩ := T.F_Album_put
  refine ⟨⟨fd, F.ok sc_Album_put (fun vs H Q E h => len_Album_put_x h) (fun cdv A outer s H vs Q E hr h => ⟨_, (
      (pss_cons (ps_if (pt_not (pt_val (pe_cal (ok_is_small T) hr (by decide) (by rfl) T.g_is_small pass0 (pa_cons (pv 1) (pa_cons (C8.pe_gc (by rfl) T.k_MOST_NAME) pa_nil)))))
      (pss_one ps_never) pss_nil)
      (pss_cons (ps_expr (pe_cal (ok_need_picture T) hr (by decide) (by rfl) T.g_need_picture pass0 (pa_cons (pv 2) pa_nil)))
      (pss_cons (ps_expr (pe_calM (pv 0) T.c_Album T.m_Album_need_room (ok_Album_need_room_x T) hr (by decide) (L2N.passes_call (L2N.takes_of rfl rfl rfl rfl) (fun _ _ _ _ h => h)) (pa_cons (pv 1) pa_nil)))
      (pss_one (ps_expr (pe_calM (pv 0) T.c_Album T.m_Album_go (ok_Album_go T) hr (by decide) pass0 (pa_cons (pe_calK T.m_Came_init (ok_Came_init T) hr (by decide) (by rfl) T.gc_Came pass0 (pa_cons (pv 1) (pa_cons (pe_cal (ok_copied_rows T) hr (by decide) (by rfl) T.g_copied_rows pass0 (pa_cons (pv 2) pa_nil)) pa_nil))) pa_nil)))))))), ?_⟩), F.bindsN fun _ _ _ _ _ _ us hl => match us, hl with | [_, _, _], _ => rfl⟩, F.kp⟩
  obtain ⟨A, L, hx, n, a, rows, rfl, h, hpic, ok, hs, hn, hl, q⟩ := h
  walk_at "rd"
  refine ⟨n, 8, rfl, by have := (small_len hs).2; omega, fun H1 s1 => ?_⟩
  rw [hs]
  walk_at "rd"
  refine ⟨a, rows, rfl, hpic.same s1, ok, fun H2 s2 => ?_⟩
  have s12 := s1.trans s2
  have h2 := h.same s12
  obtain ⟨dx, hp⟩ := h2.ob
  walk_at "rd"
  refine r_kmeth hp (af_no _ (by decide +kernel) (by decide +kernel) (by decide +kernel) (by decide +kernel) (by decide +kernel)) ?_
  walk_at "rd"
  exact ⟨A, L, hx, n, rfl, h2, hn, hl, q H2 s12⟩
end
end K44
set_option Elab.async false
set_option linter.all false
set_option maxRecDepth 100000
set_option maxHeartbeats 4000000
namespace K44
open PySem PySem.Spec PyProof.Rows L2
local macro_rules | `(tactic| walk_at "rd1") => `(tactic| first
  | ((with_reducible apply r_var); rfl)
  | ((with_reducible apply r_aug); rfl)
  | with_reducible apply r_isiI
  | with_reducible apply r_tslS
  | with_reducible apply r_try
  | with_reducible apply r_gsub
  | with_reducible apply r_irev
  | with_reducible apply r_trg1
  | with_reducible apply r_sfld
  | with_reducible apply r_afld
  | with_reducible apply r_rAdd
  | with_reducible apply r_dget
  | with_reducible apply r_din
  | with_reducible apply r_dnot
  | with_reducible apply r_dput
  | with_reducible apply r_ikeys
  | with_reducible apply r_m1
  | with_reducible apply r_km1
  | with_reducible apply r_inS
  | with_reducible apply r_notInS
  | with_reducible apply r_isN
  | with_reducible apply r_ip
  | with_reducible apply r_kbmS
  | with_reducible apply r_min2
  | with_reducible apply r_isiB
  | with_reducible apply r_isiS
  | with_reducible apply r_tyes
  | with_reducible apply iteT
  | with_reducible apply iteF
  | with_reducible apply r_nT
  | with_reducible apply r_nF
  | with_reducible apply r_callS
  | with_reducible apply r_meth
  | with_reducible apply r_methS
  | with_reducible apply r_methD
  | with_reducible apply r_make
  | with_reducible apply r_lc
  | with_reducible apply r_for
  | with_reducible apply r_ilist
  | with_reducible apply r_itup
  | with_reducible apply r_irng1
  | with_reducible apply r_irng2
  | with_reducible apply r_istr
  | with_reducible apply r_ienum
  | with_reducible apply r_izip
  | with_reducible apply r_izip3
  | with_reducible apply r_izip4
  | with_reducible apply r_kis
  | with_reducible apply r_c
  | with_reducible apply r_op
  | with_reducible apply r_un
  | with_reducible apply r_i0
  | with_reducible apply r_u
  | with_reducible apply r_eqI
  | with_reducible apply r_neI
  | with_reducible apply r_eqS
  | with_reducible apply r_neS
  | with_reducible apply r_test
  | with_reducible apply r_B
  | with_reducible apply r_bl
  | with_reducible apply r_int
  | with_reducible apply r_and
  | with_reducible apply r_or
  | with_reducible apply r_not
  | with_reducible apply r_andV
  | with_reducible apply r_orV
  | with_reducible apply r_notV
  | with_reducible apply r_chain
  | with_reducible apply r_tif
  | with_reducible apply r_nil
  | with_reducible apply r_cons
  | with_reducible apply r_cb
  | with_reducible apply r_call
  | with_reducible apply r_seq
  | with_reducible apply r_asg
  | with_reducible apply r_name
  | with_reducible apply r_drop
  | with_reducible apply r_ret
  | with_reducible apply r_retN
  | with_reducible apply r_next
  | with_reducible apply r_ifS
  | with_reducible apply r_tup
  | with_reducible apply r_lst
  | with_reducible apply r_sl
  | with_reducible apply r_nopart
  | with_reducible apply r_part
  | with_reducible apply r_fld
  | with_reducible apply r_bm
  | with_reducible apply r_bm0)
local macro_rules | `(tactic| walk_at "rd") => `(tactic| repeat (walk_at "rd1"))

/-! An album written. -/
def cP : Nat := 112
def cC : Nat := 99
def MAINs : Str := "main"
def palPart : Prt := ⟨cP, MAINs, palNums greys⟩
theorem palPart_ok : palPart.Ok := ⟨by decide +kernel, by decide +kernel, by decide +kernel, by decide +kernel⟩
theorem palPart_len : palPart.nums.length = 73 := by decide +kernel
def PicPart (x : Ent) (y : Prt) : Prop := y.c = cC ∧ y.nm = x.nm ∧ PicNums x.rows y.ns
def wsize (L : List Ent) : Nat := (L.map fun x => 14 + x.rows.length + 2 * x.rows.flatten.length).sum
theorem fold_flat {rows : List (List Int)} {ks : List Int} (ok : PicOk rows) (hl : ks.length = rows.length) : (foldPic none rows ks).flatten.length = rows.flatten.length := by
  obtain ⟨w, w1, w2, hw⟩ := ok.wide
  have h2 : Wide w (foldPic none rows ks) := foldPic_wide none rows ks (fun r e => by cases e) hw
  rw [flat_len fun r hr => (h2 r hr).1, flat_len fun r hr => (hw r hr).1, foldPic_len none rows ks hl.symm]
theorem picNums_ok {rows : List (List Int)} {ns : List Int} (ok : PicOk rows) (h : PicNums rows ns) : ns.all six = true ∧ ns.length ≤ 2 + rows.length + 2 * rows.flatten.length := by
  obtain ⟨w, ks, out, ⟨w1, w2⟩, hw, rfl, hkl, hkf, hpk⟩ := h
  obtain ⟨g1, g2, _⟩ := hpk.go
  have h1 := ok.1
  have h2 := ok.2.1
  rw [fold_flat ok hkl] at g1
  refine ⟨?_, by simp only [List.length_append, List.length_cons, List.length_nil]; omega⟩
  rw [List.all_append, List.all_append, Bool.and_eq_true, Bool.and_eq_true]
  refine ⟨⟨?_, List.all_eq_true.mpr fun k hk => ?_⟩, List.all_eq_true.mpr fun k hk => ?_⟩
  · simp only [List.all_cons, List.all_nil, Bool.and_true, Bool.and_eq_true]
    exact ⟨six_of (by omega), six_of (by omega)⟩
  · have := of_decide_eq_true (List.all_eq_true.mp hkf k hk)
    exact six_of (by omega)
  · have := g2 k hk
    exact six_of (by omega)
theorem picPart_ok {x : Ent} {y : Prt} (ok : PicOk x.rows) (hs : isSmall x.nm 8 = true) (h : PicPart x y) : y.Ok ∧ y.nums.length ≤ 14 + x.rows.length + 2 * x.rows.flatten.length := by
  obtain ⟨c, nm, ns⟩ := y
  obtain ⟨rfl, rfl, hn⟩ := h
  obtain ⟨a, b⟩ := picNums_ok ok hn
  have hf := (flat_ok ok).2
  have h2 := ok.2.1
  have b : ns.length ≤ 2 + x.rows.length + 2 * x.rows.flatten.length := b
  refine ⟨⟨by show cC ∈ SML; decide +kernel, hs, by show ns.length ≤ 2000; omega, a⟩, ?_⟩
  rw [Prt.nums_len]
  have := (small_len hs).2
  show 4 + x.nm.length + ns.length ≤ _
  omega
inductive PicParts : List Ent → List Prt → Prop
  | nil : PicParts [] []
  | snoc {L : List Ent} {ys : List Prt} {x : Ent} {y : Prt} : PicParts L ys → PicPart x y → PicParts (L ++ [x]) (ys ++ [y])
def sp_written_album (K : PySem.W.Frag) : Sp := fun vs H Q _ => ∃ (A : AlbS) (L : List Ent) (hx : List V), vs = [.ref A.p] ∧ AlbumAt (He.ga K "Album") H A L hx ∧ GreyAt H A hx ∧ (∀ x ∈ L, isSmall x.nm 8 = true) ∧ wsize L ≤ 3800 ∧
  ∀ H' ys, Same H H' → PicParts L ys → Q (.str (ftext (palPart :: ys))) H'
theorem fkey_c {x y : Prt} (h : fkey x = fkey y) : x.c = y.c ∧ x.nm = y.nm := by
  unfold fkey at h
  simp at h
  exact h
theorem parts_names {L : List Ent} {ys : List Prt} (h : PicParts L ys) : ys.map (fun y => (y.c, y.nm)) = L.map fun x => (cC, x.nm) := by
  induction h with
  | nil => rfl
  | snoc _ hp ih =>
    rw [List.map_append, List.map_append, ih]
    simp [hp.1, hp.2.1]
theorem wsize_take (L : List Ent) (i : Nat) {x : Ent} (h : L[i]? = some x) : wsize (L.take (i + 1)) = wsize (L.take i) + (14 + x.rows.length + 2 * x.rows.flatten.length) := by
  unfold wsize
  rw [List.take_add_one, h, List.map_append, List.sum_append]
  simp
theorem wsize_le (L : List Ent) (i : Nat) : wsize (L.take i) ≤ wsize L := by
  unfold wsize
  conv => rhs; rw [← List.take_append_drop i L]
  rw [List.map_append, List.sum_append]
  omega
theorem sc_written_album : FnScope ["album", "folio", "name"] ["album"] (defScope s_written_album) := ⟨rfl, rfl, rfl, by decide +kernel, rfl, by decide +kernel, by decide +kernel⟩
section
theorem len_written_album {K : PySem.W.Frag} {vs : List V} {H : Hp} {Q : VK} {E : XK} (h : (sp_written_album K) vs H Q E) : vs.length = 1 := by
  repeat (obtain ⟨_, h⟩ := h)
  subst_vars; rfl
variable {P : Program} {w : World} {K : PySem.W.Frag} {mg : Str → Option Value} {base : Heap}
theorem ok_written_album (T : Tx K mg) : Cal P w K mg base CX0 9 (He.ga K "written_album") ["album"] (sp_written_album K) := by
  obtain ⟨fd, F⟩ := T.F_written_album
  refine ⟨⟨fd, F.ok sc_written_album (fun vs H Q E h => len_written_album h) (fun cdv A outer s H vs Q E hr h => ⟨_, PSs.nox (
      (pss_cons (ps_set (i := 1) sc_written_album.nd rfl (Or.inl rfl) (pe_calK0 T.m_Folio_init (ok_Folio_init T) hr (by decide) (by rfl) T.gc_Folio pass0))
      (pss_cons (ps_expr (pe_calM (pv 1) T.c_Folio T.m_Folio_put_part (ok_Folio_put_part T) hr (by decide) pass0 (pa_cons (pe_tup (pa_cons pe_str (pa_cons (C8.pe_gc (by rfl) T.k_MAIN) (pa_cons (pe_cal (ok_palette_numbers T) hr (by decide) (by rfl) T.g_palette_numbers pass0 (pa_cons (pe_calM0 (pv 0) T.c_Album T.m_Album_palette (ok_Album_palette T) hr (by decide) pass0) pa_nil)) pa_nil)))) pa_nil)))
      (pss_cons (ps_for PassesOwn.never rfl (pi_listK K (pe_calM0 (pv 0) T.c_Album T.m_Album_names (ok_Album_names T) hr (by decide) pass0)) (pg_name (i := 2) sc_written_album.nd rfl (Or.inl rfl))
      (pss_one (ps_expr (pe_calM (pv 1) T.c_Folio T.m_Folio_put_part (ok_Folio_put_part T) hr (by decide) pass0 (pa_cons (pe_tup (pa_cons pe_str (pa_cons (pv 2) (pa_cons (pe_cal (ok_picture_numbers T) hr (by decide) (by rfl) T.g_picture_numbers pass0 (pa_cons (pe_calM (pv 0) T.c_Album T.m_Album_picture (ok_Album_picture T) hr (by decide) pass0 (pa_cons (pv 2) pa_nil)) pa_nil)) pa_nil)))) pa_nil)))))
      (pss_one (ps_ret (pe_calM0 (pv 1) T.c_Folio T.m_Folio_written (ok_Folio_written T) hr (by decide) pass0))))))), ?_⟩), F.bindsN fun _ _ _ _ _ _ us hl => match us, hl with | [_], _ => rfl⟩, F.kp⟩
  obtain ⟨A, L, hx, rfl, h, hg, hs, hw, q⟩ := h
  have hll := h.ll
  walk_at "rd"
  intro fp dx nx ndx nex
  have sx : Same H (upd (upd H dx (.own fp)) fp (.ins (He.ga K "Folio") dx [])) := fun b o e => by
    rw [upd_ne (ne_of_none e nx), upd_ne (ne_of_none e ndx)]
    exact e
  refine ⟨fp, dx, rfl, upd_same, fun d H1 nd F1 fr1 => ⟨rfl, ?_⟩⟩
  have s1 : Same H H1 := fun b o e => fr1 _ _ (sx _ _ e) (by simp; exact ne_of_none e nx)
  have nd0 : H d = none := sx.free nd
  have off : ∀ {b o}, H b = some o → b ∉ [fp, d] := fun {b o} e => by
    simp only [List.mem_cons, List.not_mem_nil, or_false, not_or]
    exact ⟨ne_of_none e nx, ne_of_none e nd0⟩
  walk_at "rd"
  obtain ⟨dxf, f1⟩ := F1.ob
  refine r_kmeth f1 (fo_no _ _ (by decide +kernel) (by decide +kernel)) ?_
  walk_at "rd"
  obtain ⟨dxa, hp⟩ := h.ob
  refine r_kmeth (s1 _ _ hp) (af_no _ (by decide +kernel) (by decide +kernel) (by decide +kernel) (by decide +kernel) (by decide +kernel)) ?_
  walk_at "rd"
  refine ⟨A, L, hx, rfl, h.same s1, hg.fr (sfr s1), fun pa H2 s2 hpal => ?_⟩
  refine ⟨pa, greys, rfl, hpal, ⟨by decide, by decide⟩, greys_ok, fun r3 H3 n3 s3 e3 => ?_⟩
  walk_at "rd"
  refine r_ktup (len_le rfl) fun t4 H4 n4 s4 e4 => ?_
  walk_at "rd"
  have s14 := (s2.trans s3).trans s4
  refine ⟨fp, d, [], .ref t4, palPart, rfl, F1.same s14, ⟨t4, r3, rfl, e4, s4 _ _ e3⟩, palPart_ok, by simp, by rw [palPart_len]; decide, by decide, fun l5 H5 n5 F5 fr5 => ?_⟩
  have s5 : Same H H5 := fun b o e => fr5 _ _ (s14 _ _ (s1 _ _ e)) (off e)
  walk_at "rd"
  refine r_kmeth (s5 _ _ hp) (af_no _ (by decide +kernel) (by decide +kernel) (by decide +kernel) (by decide +kernel) (by decide +kernel)) ?_
  walk_at "rd"
  refine ⟨A, L, hx, rfl, h.same s5, fun r6 H6 n6 s6 e6 => ?_⟩
  have F6 := F5.same s6
  refine r_kil (SqL.of e6) ?_
  refine kfor (walk_list (xs := L.map fun x => V.str x.nm)) (fun i σ H7 => (∃ z, σ = [some (.ref A.p), some (.ref fp), z]) ∧ Same H H7 ∧ H7 r6 = some (.lst (L.map fun x => V.str x.nm)) ∧ ∃ (PS : List (Prt × Addr)) (ys : List Prt), FolAt (He.ga K "Folio") H7 fp d ((palPart, l5) :: PS) ∧ PS.map (·.1) = ys ∧ PicParts (L.take i) ys ∧ fsize ((palPart, l5) :: PS) ≤ 7 + 73 + wsize (L.take i))
    ⟨⟨none, rfl⟩, s5.trans s6, e6, [], [], F6, rfl, .nil, ?_⟩ (fun i σ H7 _ h => ?_) (fun i x σ H7 H8 hi hh y => ?_) fun σ H7 hh => ?_
  · show (7 : Int) + (([(palPart, l5)] : List (Prt × Addr)).map fun q => (q.1.nums.length : Int)).sum ≤ _
    simp [palPart_len, wsize]
  · exact SqL.of h.2.2.1
  · obtain ⟨⟨z, rfl⟩, s7, e7, PS, ys, F7, hys, hpp, hfs⟩ := hh
    obtain ⟨rfl, hx1⟩ := y
    obtain ⟨ent, g1, rfl⟩ := map_atc hx1
    have hm : ent ∈ L := List.mem_of_getElem? g1
    have hi' : i < L.length := (List.getElem?_eq_some_iff.mp g1).1
    obtain ⟨dx7, f7⟩ := F7.ob
    walk_at "rd"
    refine r_kmeth f7 (fo_no _ _ (by decide +kernel) (by decide +kernel)) ?_
    walk_at "rd"
    refine r_kmeth (s7 _ _ hp) (af_no _ (by decide +kernel) (by decide +kernel) (by decide +kernel) (by decide +kernel) (by decide +kernel)) ?_
    walk_at "rd"
    refine ⟨A, L, hx, ent, rfl, h.same s7, hm, fun r8 H9 s9 hpn => ?_⟩
    have ok := (h.pi ent hm).2
    refine ⟨r8, ent.rows, rfl, hpn.pic, ok, fun r10 H10 ns n10 s10 e10 hpic => ?_⟩
    walk_at "rd"
    refine r_ktup (len_le rfl) fun t11 H11 n11 s11 e11 => ?_
    walk_at "rd"
    have s7b := (s9.trans s10).trans s11
    have hpart : PicPart ent ⟨cC, ent.nm, ns⟩ := ⟨rfl, rfl, hpic⟩
    obtain ⟨pok, plen⟩ := picPart_ok ok (hs ent hm) hpart
    have hwt := wsize_take L i g1
    have hwl := wsize_le L (i + 1)
    refine ⟨fp, d, (palPart, l5) :: PS, .ref t11, ⟨cC, ent.nm, ns⟩, rfl, F7.same s7b, ⟨t11, r10, rfl, e11, s11 _ _ e10⟩, pok, ?_, by omega, ?_, fun l12 H12 n12 F12 fr12 => ?_⟩
    · intro hk
      simp only [List.map_cons, List.mem_cons] at hk
      rcases hk with hk | hk
      · have := (fkey_c hk).1
        exact absurd (show cC = cP from this) (by decide)
      · obtain ⟨q, hq, e⟩ := List.mem_map.mp hk
        have hname := parts_names hpp
        have : (cC, ent.nm) ∈ (L.take i).map fun x => (cC, x.nm) := by
          rw [← hname, ← hys]
          refine List.mem_map.mpr ⟨q.1, List.mem_map_of_mem hq, ?_⟩
          have := fkey_c e
          rw [this.1, this.2]
        obtain ⟨x2, hx2, e2⟩ := List.mem_map.mp this
        have e3 : x2.nm = ent.nm := (Prod.mk.inj e2).2
        obtain ⟨j, hj⟩ := List.getElem?_of_mem hx2
        have hji : j < i := by
          have := (List.getElem?_eq_some_iff.mp hj).1
          simp at this
          omega
        rw [List.getElem?_take_of_lt hji] at hj
        have := nd_ix h.nd (i := j) (j := i) (x := ent.nm) (by rw [List.getElem?_map, hj]; exact congrArg some e3) (by rw [List.getElem?_map, g1]; rfl)
        omega
    · have hl1 : PS.length = i := by
        have := congrArg List.length (parts_names hpp)
        rw [← hys] at this
        simp at this
        omega
      simp
      omega
    · have sH : Same H H12 := fun b o e => fr12 _ _ (s7b _ _ (s7 _ _ e)) (off e)
      have F12' : FolAt (He.ga K "Folio") H12 fp d ((palPart, l5) :: (PS ++ [(⟨cC, ent.nm, ns⟩, l12)])) := F12
      refine ⟨⟨_, rfl⟩, sH, ?_, PS ++ [(⟨cC, ent.nm, ns⟩, l12)], ys ++ [⟨cC, ent.nm, ns⟩], F12', by simp [hys], ?_, ?_⟩
      · refine fr12 _ _ (s7b _ _ e7) ?_
        have F7' := F7.same s7b
        have e7' := s7b _ _ e7
        simp only [List.mem_cons, List.not_mem_nil, or_false, not_or]
        obtain ⟨dq, fq⟩ := F7'.ob
        exact ⟨ne_of e7' fq (fun z => by cases z), ne_of e7' F7'.di (fun z => by cases z)⟩
      · rw [List.take_add_one, g1]
        exact .snoc hpp hpart
      · rw [← List.cons_append, fsize_snoc]
        show fsize ((palPart, l5) :: PS) + ((⟨cC, ent.nm, ns⟩ : Prt).nums.length : Int) ≤ _
        omega
  · obtain ⟨⟨z, rfl⟩, s7, e7, PS, ys, F7, hys, hpp, hfs⟩ := hh
    rw [List.take_of_length_le (by simp)] at hpp hfs
    obtain ⟨dx7, f7⟩ := F7.ob
    walk_at "rd"
    refine r_kmeth f7 (fo_no _ _ (by decide +kernel) (by decide +kernel)) ?_
    walk_at "rd"
    refine ⟨fp, d, (palPart, l5) :: PS, rfl, F7, by omega, fun H8 s8 => ?_⟩
    rw [List.map_cons, hys]
    exact q H8 ys (s7.trans s8) hpp
end
end K44
set_option Elab.async false
set_option linter.all false
set_option maxRecDepth 100000
set_option maxHeartbeats 4000000
namespace K44
open PySem PySem.Spec PyProof.Rows L2
local macro_rules | `(tactic| walk_at "rd1") => `(tactic| first
  | ((with_reducible apply r_var); rfl)
  | ((with_reducible apply r_aug); rfl)
  | with_reducible apply r_isiI
  | with_reducible apply r_tslS
  | with_reducible apply r_try
  | with_reducible apply r_gsub
  | with_reducible apply r_irev
  | with_reducible apply r_trg1
  | with_reducible apply r_sfld
  | with_reducible apply r_afld
  | with_reducible apply r_rAdd
  | with_reducible apply r_dget
  | with_reducible apply r_din
  | with_reducible apply r_dnot
  | with_reducible apply r_dput
  | with_reducible apply r_ikeys
  | with_reducible apply r_m1
  | with_reducible apply r_km1
  | with_reducible apply r_inS
  | with_reducible apply r_notInS
  | with_reducible apply r_isN
  | with_reducible apply r_ip
  | with_reducible apply r_kbmS
  | with_reducible apply r_min2
  | with_reducible apply r_isiB
  | with_reducible apply r_isiS
  | with_reducible apply r_tyes
  | with_reducible apply iteT
  | with_reducible apply iteF
  | with_reducible apply r_nT
  | with_reducible apply r_nF
  | with_reducible apply r_callS
  | with_reducible apply r_meth
  | with_reducible apply r_methS
  | with_reducible apply r_methD
  | with_reducible apply r_make
  | with_reducible apply r_lc
  | with_reducible apply r_for
  | with_reducible apply r_ilist
  | with_reducible apply r_itup
  | with_reducible apply r_irng1
  | with_reducible apply r_irng2
  | with_reducible apply r_istr
  | with_reducible apply r_ienum
  | with_reducible apply r_izip
  | with_reducible apply r_izip3
  | with_reducible apply r_izip4
  | with_reducible apply r_kis
  | with_reducible apply r_c
  | with_reducible apply r_op
  | with_reducible apply r_un
  | with_reducible apply r_i0
  | with_reducible apply r_u
  | with_reducible apply r_eqI
  | with_reducible apply r_neI
  | with_reducible apply r_eqS
  | with_reducible apply r_neS
  | with_reducible apply r_test
  | with_reducible apply r_B
  | with_reducible apply r_bl
  | with_reducible apply r_int
  | with_reducible apply r_and
  | with_reducible apply r_or
  | with_reducible apply r_not
  | with_reducible apply r_andV
  | with_reducible apply r_orV
  | with_reducible apply r_notV
  | with_reducible apply r_chain
  | with_reducible apply r_tif
  | with_reducible apply r_nil
  | with_reducible apply r_cons
  | with_reducible apply r_cb
  | with_reducible apply r_call
  | with_reducible apply r_seq
  | with_reducible apply r_asg
  | with_reducible apply r_name
  | with_reducible apply r_drop
  | with_reducible apply r_ret
  | with_reducible apply r_retN
  | with_reducible apply r_next
  | with_reducible apply r_ifS
  | with_reducible apply r_tup
  | with_reducible apply r_lst
  | with_reducible apply r_sl
  | with_reducible apply r_nopart
  | with_reducible apply r_part
  | with_reducible apply r_fld
  | with_reducible apply r_bm
  | with_reducible apply r_bm0)
local macro_rules | `(tactic| walk_at "rd") => `(tactic| repeat (walk_at "rd1"))

section
variable {σ : L2.St} {H : Hp} {C : Addr} {sp : Sp} {ta : TA} {Q : XK}
theorem r_mko (q : ta σ H fun vs H1 => vs.length ≤ 1000 ∧ ∀ a, H1 a = none → sp (.ref a :: vs) (upd H1 a (exo a C none))
  (fun v H2 => v = .non ∧ ∃ (d : Addr) (fs : List (Str × V)), H2 a = some (exo a C (some d)) ∧ H2 d = some (exd d fs) ∧ H1 d = none ∧ Q (.ref C) (some d) (upd (del H2 a) d (.xd fs))) (fun _ _ _ => False)) : tMkO C sp [] ta σ H Q := by
  unfold tMkO
  simp only [List.append_nil]
  exact q
end
def sp_BadCheck_init (K : PySem.W.Frag) : Sp := fun vs H Q _ => ∃ (a : Addr) (x y : Int), vs = [.ref a, .int x, .int y] ∧ H a = some (exo a (He.ga K "BadCheck") none) ∧ OexC K (He.ga K "BadCheck") ∧
  ∀ d, H d = none → d ≠ a → Q .non (upd (upd (upd H d (exd d [("due", .int x)])) a (exo a (He.ga K "BadCheck") (some d))) d (exd d [("found", .int y), ("due", .int x)]))
theorem sc_BadCheck_init : FnScope ["self", "due", "found"] ["self", "due", "found"] (defScope s_BadCheck_init) := ⟨rfl, rfl, rfl, by decide +kernel, rfl, by decide +kernel, by decide +kernel⟩
section
theorem len_BadCheck_init {K : PySem.W.Frag} {vs : List V} {H : Hp} {Q : VK} {E : XK} (h : (sp_BadCheck_init K) vs H Q E) : vs.length = 3 := by
  repeat (obtain ⟨_, h⟩ := h)
  subst_vars; rfl
variable {P : Program} {w : World} {K : PySem.W.Frag} {mg : Str → Option Value} {base : Heap}
theorem ok_BadCheck_init (T : Tx K mg) : Cal P w K mg base CX0 1 (He.ma K (He.ga K "BadCheck") "__init__") ["self", "due", "found"] (sp_BadCheck_init K) := by
  obtain ⟨fd, F⟩ := T.F_BadCheck_init
  refine ⟨⟨fd, F.ok sc_BadCheck_init (fun vs H Q E h => len_BadCheck_init h) (fun cdv A outer s H vs Q E hr h => ⟨_, PSs.nox (
      (pss_cons (ps_expr (pe_basei (by rfl) T.gx_FolioError (T.more 4 rfl) (pa_cons (pv 0) (pa_cons pe_str pa_nil))))
      (pss_cons (ps_ost (pv 0) (pv 1)) (pss_one (ps_ost (pv 0) (pv 2)))))), ?_⟩), F.bindsN fun _ _ _ _ _ _ us hl => match us, hl with | [_, _, _], _ => rfl⟩, F.kp⟩
  obtain ⟨a, x, y, rfl, ha, ho, q⟩ := h
  walk_at "rd"
  refine ⟨.ref a, rfl, a, He.ga K "BadCheck", [.str _], rfl, by simp, ho, ha, ?_⟩
  walk_at "rd"
  refine ⟨.int x, rfl, .ref a, rfl, a, He.ga K "BadCheck", rfl, ho, of_decide_eq_true (T.more 1 rfl), .inl ⟨ha, fun d nd na => ?_⟩⟩
  refine ⟨.int y, rfl, .ref a, rfl, a, He.ga K "BadCheck", rfl, ho, of_decide_eq_true (T.more 2 rfl), .inr ⟨d, [("due", .int x)], upd_same, by rw [upd_ne na, upd_same], len_le rfl, ?_⟩⟩
  exact q d nd na
end
def CF1 : Str := "CF1"
def nums (z : Str) : List Int := z.cps.toList.map num
/-- a text whose head is none: too short, or other signs -/
def headBad (z : Str) : Prop := (nums z).length < 7 ∨ txt (z.cps.toList.take 3) ≠ CF1
def dueOf (z : Str) : Int := chk ((nums z).take ((nums z).length - 2))
def foundOf (z : Str) : Int := (nums z).getD ((nums z).length - 2) 0 * 64 + (nums z).getD ((nums z).length - 1) 0
theorem nums_six {z : Str} (h : ∀ c ∈ z.cps.toList, c ∈ SG) : ∀ n ∈ nums z, 0 ≤ n ∧ n < 64 := fun n hn => by
  obtain ⟨c, hc, rfl⟩ := List.mem_map.mp hn
  exact ⟨num_lo c, num_hi (h c hc)⟩
/-- what the folio's text says back -/
structure GoodText (z : Str) (xs : List Prt) : Prop where
  tx : z = ftext xs
  ok : ∀ x ∈ xs, x.Ok
  nd : (xs.map fkey).Nodup
  ln : xs.length ≤ 1000
  sz : (fbody xs).length + 2 ≤ 3900
theorem good_nums {z : Str} {xs : List Prt} (g : GoodText z xs) : nums z = fbody xs ++ [chk (fbody xs) / 64, chk (fbody xs) % 64] ∧ ∀ c ∈ z.cps.toList, c ∈ SG := by
  have cl := chk_lo (fbody xs)
  have h6 : ∀ n ∈ fbody xs ++ [chk (fbody xs) / 64, chk (fbody xs) % 64], 0 ≤ n ∧ n < 64 := fun n hn => by
    rcases List.mem_append.mp hn with hn | hn
    · exact six_at (six_body g.ok g.ln) hn
    · simp only [List.mem_cons, List.not_mem_nil, or_false] at hn
      rcases hn with rfl | rfl <;> omega
  have ez : z.cps.toList = (fbody xs ++ [chk (fbody xs) / 64, chk (fbody xs) % 64]).map sgn := by rw [g.tx]; exact txt_list _
  refine ⟨?_, fun c hc => ?_⟩
  · unfold nums
    rw [ez, List.map_map]
    conv => rhs; rw [← List.map_id (fbody xs ++ [chk (fbody xs) / 64, chk (fbody xs) % 64])]
    exact List.map_congr_left fun n hn => num_sgn (h6 n hn).1 (h6 n hn).2
  · rw [ez] at hc
    obtain ⟨n, hn, rfl⟩ := List.mem_map.mp hc
    exact sgn_mem (h6 n hn).1 (h6 n hn).2
theorem hdn_txt : txt (HDN.map sgn) = CF1 := by decide +kernel
theorem hdn_len : HDN.length = 3 := by decide +kernel
theorem good_head {z : Str} {xs : List Prt} (g : GoodText z xs) : ¬ headBad z := by
  obtain ⟨e, _⟩ := good_nums g
  have hl := body_len xs
  rintro (h | h)
  · rw [e, List.length_append, hl] at h
    simp only [List.length_cons, List.length_nil] at h
    omega
  · apply h
    have ez : z.cps.toList = (fbody xs ++ [chk (fbody xs) / 64, chk (fbody xs) % 64]).map sgn := by rw [g.tx]; exact txt_list _
    rw [ez, ← List.map_take]
    have : (fbody xs ++ [chk (fbody xs) / 64, chk (fbody xs) % 64]).take 3 = HDN := by
      unfold fbody
      rw [List.append_assoc, List.append_assoc, ← hdn_len, List.take_left]
    rw [this]
    exact hdn_txt
theorem good_chk {z : Str} {xs : List Prt} (g : GoodText z xs) : (nums z).take ((nums z).length - 2) = fbody xs ∧ dueOf z = chk (fbody xs) ∧ foundOf z = chk (fbody xs) := by
  obtain ⟨e, _⟩ := good_nums g
  have cl := chk_lo (fbody xs)
  have e1 : (nums z).length - 2 = (fbody xs).length := by rw [e]; simp
  have e2 : (nums z).take ((nums z).length - 2) = fbody xs := by rw [e1, e, List.take_left]
  refine ⟨e2, by unfold dueOf; rw [e2], ?_⟩
  have e3 : (nums z).length - 1 = (fbody xs).length + 1 := by rw [e]; simp
  unfold foundOf
  rw [e1, e3, e, List.getD_eq_getElem?_getD, List.getD_eq_getElem?_getD, List.getElem?_append_right (Nat.le_refl _), List.getElem?_append_right (by omega)]
  simp
  omega
def sp_read_folio (K : PySem.W.Frag) : Sp := fun vs H Q E => ∃ z : Str, vs = [.str z] ∧ z.length ≤ 100000 ∧ ((∀ c ∈ z.cps.toList, c ∈ SG) → ¬ headBad z → dueOf z = foundOf z → ∃ xs, GoodText z xs) ∧
  (((∃ c ∈ z.cps.toList, c ∉ SG) → ∀ H', Same H H' → E (.ref (He.ga K "BadText")) none H') ∧
   ((∀ c ∈ z.cps.toList, c ∈ SG) → headBad z → ∀ H', Same H H' → E (.ref (He.ga K "BadHead")) none H') ∧
   ((∀ c ∈ z.cps.toList, c ∈ SG) → ¬ headBad z → dueOf z ≠ foundOf z → ∀ d H', Same H H' → H d = none → H' d = some (.xd [("found", .int (foundOf z)), ("due", .int (dueOf z))]) → E (.ref (He.ga K "BadCheck")) (some d) H') ∧
   (∀ xs, GoodText z xs → ∀ p d PS H', Same H H' → H p = none → H d = none → FolAt (He.ga K "Folio") H' p d PS → PS.map (·.1) = xs → Q (.ref p) H'))
theorem sc_read_folio : FnScope ["text", "numbers", "due", "found", "folio", "place", "turn", "part", "e"] ["text"] (defScope s_read_folio) := ⟨rfl, rfl, rfl, by decide +kernel, rfl, by decide +kernel, by decide +kernel⟩
section
theorem len_read_folio {K : PySem.W.Frag} {vs : List V} {H : Hp} {Q : VK} {E : XK} (h : (sp_read_folio K) vs H Q E) : vs.length = 1 := by
  repeat (obtain ⟨_, h⟩ := h)
  subst_vars; rfl
variable {P : Program} {w : World} {K : PySem.W.Frag} {mg : Str → Option Value} {base : Heap}
theorem ok_read_folio (T : Tx K mg) : Cal P w K mg base (L2.CX P w) 6 (He.ga K "read_folio") ["text"] (sp_read_folio K) := by
  obtain ⟨fd, F⟩ := T.F_read_folio
  refine ⟨⟨fd, F.ok sc_read_folio (fun vs H Q E h => len_read_folio h) (fun cdv A outer s H vs Q E hr h => ⟨_, (
      (pss_cons (ps_set (i := 1) sc_read_folio.nd rfl (Or.inl rfl) (pe_cal (ok_numbers_of_text T) hr (by decide) (by rfl) T.g_numbers_of_text (passes_call (takes_of rfl rfl rfl rfl) (fun _ _ _ _ h => h)) (pa_cons (pv 0) pa_nil)))
      (pss_cons (ps_if (PW.pt (pw_or (pt_cmpR op_lt (pe_callB (cal_lenK K) (by rfl) T.b_len PySem.boot_len (pa_cons (pv 1) pa_nil)) (C8.pe_gc (by rfl) T.k_LEAST_SIGNS) (nomark _)) (pw_or1 (pt_cmpR op_ne (pe_slice sl_str (pv 0) po_none (po_some (pe_callB cal_lenS (by rfl) T.b_len PySem.boot_len (pa_cons (C8.pe_gc (by rfl) T.k_HEAD) pa_nil)))) (C8.pe_gc (by rfl) T.k_HEAD) (nomark _)))))
      (pss_one (ps_raise rfl (takes_of rfl rfl rfl rfl) (pmk_own PySem.F.excBase_ValueError T.x_BadHead.1 T.gx_BadHead T.x_BadHead.2.1 (raises_own T.x_BadHead.2.2.1 T.x_BadHead.2.2.2) rfl))) pss_nil)
      (pss_cons (ps_set (i := 2) sc_read_folio.nd rfl (Or.inl rfl) (pe_cal (ok_check_of T) hr (by decide) (by rfl) T.g_check_of pass0 (pa_cons (pe_slice (sl_listK K) (pv 1) po_none (po_some (pe_un un_neg pe_int))) pa_nil)))
      (pss_cons (ps_set (i := 3) sc_read_folio.nd rfl (Or.inl rfl) (pe_cal (ok_one_number T) hr (by decide) (by rfl) T.g_one_number pass0 (pa_cons (pe_ix (ix_listK K) (pv 1) (pe_un un_neg pe_int) (fun _ _ => rfl)) (pa_cons (pe_ix (ix_listK K) (pv 1) (pe_un un_neg pe_int) (fun _ _ => rfl)) pa_nil))))
      (pss_cons (ps_if (pt_cmpR op_ne (pv 2) (pv 3) (nomark _))
      (pss_one (ps_raise rfl (takes_of rfl rfl rfl rfl) (pmk_cal (oexC_of (T.more 0 rfl)) (and_of (T.more 5 rfl)) (ok_BadCheck_init T) hr (by decide) (by rfl) T.gx_BadCheck (pa_cons (pv 2) (pa_cons (pv 3) pa_nil))))) pss_nil)
      (pss_cons (ps_set (i := 4) sc_read_folio.nd rfl (Or.inl rfl) (pe_calK0 T.m_Folio_init (ok_Folio_init T) hr (by decide) (by rfl) T.gc_Folio pass0))
      (pss_cons (ps_set (i := 5) sc_read_folio.nd rfl (Or.inl rfl) (pe_op op_add (pe_callB cal_lenS (by rfl) T.b_len PySem.boot_len (pa_cons (C8.pe_gc (by rfl) T.k_HEAD) pa_nil)) pe_int))
      (pss_cons (ps_for (passes_of rfl) rfl (pi_range1 (by rfl) T.b_range (pa_cons (pe_cal (ok_one_number T) hr (by decide) (by rfl) T.g_one_number pass0 (pa_cons (pe_ix (ix_listK K) (pv 1) pe_int (fun _ _ => rfl)) (pa_cons (pe_ix (ix_listK K) (pv 1) pe_int (fun _ _ => rfl)) pa_nil))) pa_nil)) (pg_name (i := 6) sc_read_folio.nd rfl (Or.inl rfl))
      (pss_cons (ps_asg (pe_cal (ok_part_at T) hr (by decide) (by rfl) T.g_part_at pass0 (pa_cons (pe_slice (sl_listK K) (pv 1) po_none (po_some (pe_un un_neg pe_int))) (pa_cons (pv 5) pa_nil))) (pg_tupK (n := 2) K rfl (pgs_cons (pg_name (i := 7) sc_read_folio.nd rfl (Or.inl rfl)) (pgs_cons (pg_name (i := 5) sc_read_folio.nd rfl (Or.inl rfl)) pgs_nil))))
      (pss_one (ps_try_thru0 (pss_one (ps_expr (pe_calM (pv 4) T.c_Folio T.m_Folio_put_part (ok_Folio_put_part T) hr (by decide) pass0 (pa_cons (pv 7) pa_nil))))))))
      (pss_cons (ps_if (pt_cmpR op_ne (pv 5) (pe_op op_sub (pe_callB (cal_lenK K) (by rfl) T.b_len PySem.boot_len (pa_cons (pv 1) pa_nil)) pe_int) (nomark _))
      (pss_one ps_never) pss_nil)
      (pss_one (ps_ret (pv 4))))))))))))), ?_⟩), F.bindsN fun _ _ _ _ _ _ us hl => match us, hl with | [_], _ => rfl⟩, F.kp⟩
  obtain ⟨z, rfl, hz, hgood, qT, qH, qC, qG⟩ := h
  walk_at "rd"
  refine ⟨z, rfl, hz, fun hall p H1 n1 s1 e1 => ?_, qT⟩
  have e1 : Ints H1 p (nums z) := e1
  have h6 := nums_six hall
  have hnl : (nums z).length = z.length := by simp [nums, Str.length]
  walk_at "rd"
  refine r_lenI e1 ?_
  walk_at "rd"
  refine r_ifD (fun h7 => ?_) fun h7 => ?_
  · walk_at "rd"
    exact qH hall (.inl (by omega)) H1 s1
  walk_at "rd"
  refine r_lenS (len_le rfl) ?_
  walk_at "rd"
  refine r_slS (szl hz) ?_
  have ecut : cutS z none (some (((("CF1" : Str).length : Nat)) : Int)) = txt (z.cps.toList.take 3) := cutS_j z 3
  rw [ecut]
  walk_at "rd"
  refine r_ifN (fun hh => ?_) fun hh => ?_
  · walk_at "rd"
    exact qH hall (.inr hh) H1 s1
  have hnb : ¬ headBad z := by
    rintro (h | h)
    · omega
    · exact h hh
  walk_at "rd"
  refine r_slL (ints_sq e1) fun p2 H2 n2 s2 e2 => ?_
  rw [show (-2 : Int) = -((2 : Nat) : Int) from rfl, cutI_neg _ _ (by decide)] at e2
  refine ⟨p2, _, rfl, e2, by rw [List.length_take]; omega, fun H3 s3 => ?_⟩
  walk_at "rd"
  have e13 := s3 _ _ (s2 _ _ e1)
  have s03 := (s1.trans s2).trans s3
  have g2 : (nums z)[(nums z).length - 2]? = some ((nums z).getD ((nums z).length - 2) 0) := getD_in (by omega)
  have g1 : (nums z)[(nums z).length - 1]? = some ((nums z).getD ((nums z).length - 1) 0) := getD_in (by omega)
  have b2 := h6 _ (List.mem_of_getElem? g2)
  have b1 := h6 _ (List.mem_of_getElem? g1)
  refine r_ixL (ints_sq e13) (v := .int ((nums z).getD ((nums z).length - 2) 0)) (atI_neg (j := 2) (by decide) (by simp; omega) ?_) ?_
  · rw [List.length_map]; exact ints_at g2
  walk_at "rd"
  refine r_ixL (ints_sq e13) (v := .int ((nums z).getD ((nums z).length - 1) 0)) (atI_neg (j := 1) (by decide) (by simp; omega) ?_) ?_
  · rw [List.length_map]; exact ints_at g1
  walk_at "rd"
  refine ⟨_, _, rfl, ⟨b2.1, b2.2, b1.1, b1.2⟩, ?_⟩
  walk_at "rd"
  refine r_ifN (fun hd => ?_) fun hd => ?_
  · refine r_mko ?_
    walk_at "rd"
    refine ⟨len_le rfl, fun a na => ⟨a, dueOf z, foundOf z, rfl, upd_same, oexC_of (T.more 0 rfl), fun d nd nda => ⟨rfl, d, [("found", .int (foundOf z)), ("due", .int (dueOf z))], ?_, upd_same, ?_, ?_⟩⟩⟩
    · rw [upd_ne (Ne.symm nda), upd_same]
      rfl
    · rw [upd_ne nda] at nd
      exact nd
    · rw [upd_ne nda] at nd
      refine qC hall hnb hd d _ (fun b o e => ?_) (s03.free nd) upd_same
      have e3 := s03 _ _ e
      have n1 : b ≠ a := ne_of_none e3 na
      have n2 : b ≠ d := ne_of_none e3 nd
      rw [upd_ne n2, del_ne n1, upd_ne n2, upd_ne n1, upd_ne n2, upd_ne n1]
      exact e3
  obtain ⟨xs, g⟩ := hgood hall hnb hd
  obtain ⟨en, _⟩ := good_nums g
  obtain ⟨ebody, _, _⟩ := good_chk g
  have hbl := body_len xs
  have hsz := g.sz
  have hln := g.ln
  have hnl2 : (nums z).length = (fbody xs).length + 2 := by rw [en]; simp
  walk_at "rd"
  intro fp dx nx ndx nex
  have sx : Same H3 (upd (upd H3 dx (.own fp)) fp (.ins (He.ga K "Folio") dx [])) := fun b o e => by
    rw [upd_ne (ne_of_none e nx), upd_ne (ne_of_none e ndx)]
    exact e
  refine ⟨fp, dx, rfl, upd_same, fun d H4 nd F4 fr4 => ⟨rfl, ?_⟩⟩
  have s4 : Same H3 H4 := fun b o e => fr4 _ _ (sx _ _ e) (by simp; exact ne_of_none e nx)
  have nd0 : H3 d = none := sx.free nd
  have off : ∀ {b o}, H3 b = some o → b ∉ [fp, d] := fun {b o} e => by
    simp only [List.mem_cons, List.not_mem_nil, or_false, not_or]
    exact ⟨ne_of_none e nx, ne_of_none e nd0⟩
  walk_at "rd"
  refine r_lenS (len_le rfl) ?_
  walk_at "rd"
  have e14 := s4 _ _ e13
  have hb3 : (fbody xs)[3]? = some ((xs.length : Int) / 64) := by
    unfold fbody
    rw [List.append_assoc, List.getElem?_append_right (by rw [hdn_len]; decide), hdn_len]
    rfl
  have hb4 : (fbody xs)[4]? = some ((xs.length : Int) % 64) := by
    unfold fbody
    rw [List.append_assoc, List.getElem?_append_right (by rw [hdn_len]; decide), hdn_len]
    rfl
  have n3 : (nums z)[3]? = some ((xs.length : Int) / 64) := by rw [en, List.getElem?_append_left (by omega)]; exact hb3
  have n4 : (nums z)[4]? = some ((xs.length : Int) % 64) := by rw [en, List.getElem?_append_left (by omega)]; exact hb4
  refine r_ixL (ints_sq e14) (atI_nat (j := 3) (ints_at n3)) ?_
  walk_at "rd"
  refine r_ixL (ints_sq e14) (atI_nat (j := 4) (ints_at n4)) ?_
  walk_at "rd"
  refine ⟨_, _, rfl, ⟨by omega, by omega, by omega, by omega⟩, ?_⟩
  have ex : (xs.length : Int) / 64 * 64 + (xs.length : Int) % 64 = xs.length := by omega
  rw [ex]
  refine r_ki1 (by omega) (by omega) ?_
  rw [Int.toNat_natCast]
  have hfin : ∀ i, ((xs.take i).map Prt.nums).flatten.length ≤ (xs.map Prt.nums).flatten.length := fun i => by
    conv => rhs; rw [← List.take_append_drop i xs]
    rw [List.map_append, List.flatten_append, List.length_append]
    omega
  refine kfor (walk_range (lo := 0) (n := xs.length)) (fun i σ H5 => (∃ z1 z2 z3, σ = [some (.str z), some (.ref p), some (.int (dueOf z)), some (.int (foundOf z)), some (.ref fp), some (.int ((5 + ((xs.take i).map Prt.nums).flatten.length : Nat) : Int)), z1, z2, z3]) ∧ Same H3 H5 ∧
      ∃ PS, FolAt (He.ga K "Folio") H5 fp d PS ∧ PS.map (·.1) = xs.take i) ⟨⟨none, none, none, rfl⟩, s4, [], F4, rfl⟩ (fun _ _ _ _ _ => trivial) (fun i x σ H5 H6 hi hh y => ?_) fun σ H5 hh => ?_
  · obtain ⟨⟨z1, z2, z3, rfl⟩, s5, PS, F5, hPS⟩ := hh
    obtain ⟨rfl, rfl⟩ := y
    obtain ⟨xi, hxi⟩ : ∃ xi, xs[i]? = some xi := ⟨_, List.getElem?_eq_getElem hi⟩
    have et : xs.take (i + 1) = xs.take i ++ [xi] := by rw [List.take_add_one, hxi]; rfl
    have e15 := s5 _ _ e13
    walk_at "rd"
    refine r_slL (ints_sq e15) fun p7 H7 n7 s7 e7 => ?_
    rw [show (-2 : Int) = -((2 : Nat) : Int) from rfl, cutI_neg _ _ (by decide), ebody] at e7
    walk_at "rd"
    have hdrop : (fbody xs).drop (5 + ((xs.take i).map Prt.nums).flatten.length) = xi.nums ++ ((xs.drop (i + 1)).map Prt.nums).flatten := by
      have h5 : (HDN ++ [(xs.length : Int) / 64, (xs.length : Int) % 64]).length = 5 := by rw [List.length_append, hdn_len]; rfl
      unfold fbody
      rw [← List.drop_drop]
      conv => lhs; arg 2; arg 1; rw [← h5]
      rw [List.drop_left]
      conv => lhs; arg 2; rw [← List.take_append_drop i xs]
      rw [List.map_append, List.flatten_append, List.drop_left, List.drop_eq_getElem_cons hi, List.map_cons, List.flatten_cons]
      have : xs[i] = xi := by
        have := List.getElem?_eq_getElem hi
        rw [hxi] at this
        exact (Option.some.inj this).symm
      rw [this]
    have hok := g.ok xi (List.mem_of_getElem? hxi)
    have hle := hfin i
    have hle2 := hfin (i + 1)
    rw [et, List.map_append, List.flatten_append, List.length_append] at hle2
    simp only [List.map_cons, List.map_nil, List.flatten_cons, List.flatten_nil, List.append_nil] at hle2
    refine ⟨p7, fbody xs, _, xi, _, rfl, e7, by omega, hdrop, by omega, hok, fun t v H8 s8 e8 hv => ?_⟩
    refine r_gt2 (SqT.of e8) ?_
    walk_at "rd"
    have s58 := s7.trans s8
    have F8 := F5.same s58
    obtain ⟨dx8, f8⟩ := F8.ob
    refine r_kmeth f8 (fo_no _ _ (by decide +kernel) (by decide +kernel)) ?_
    walk_at "rd"
    refine ⟨fp, d, PS, v, xi, rfl, F8, hv, hok, ?_, ?_, ?_, fun l H9 n9 F9 fr9 => ?_⟩
    · intro hk
      rw [show PS.map (fun q => fkey q.1) = (PS.map (·.1)).map fkey by rw [List.map_map]; rfl, hPS] at hk
      obtain ⟨j, hj⟩ := List.getElem?_of_mem hk
      obtain ⟨xj, ej, ek⟩ := map_atc hj
      have hji : j < i := by
        have := (List.getElem?_eq_some_iff.mp ej).1
        simp at this
        omega
      rw [List.getElem?_take_of_lt hji] at ej
      have := nd_ix g.nd (i := j) (j := i) (x := fkey xi) (by rw [List.getElem?_map, ej]; exact congrArg some ek.symm) (by rw [List.getElem?_map, hxi]; rfl)
      omega
    · rw [sum_nums, hPS]
      omega
    · have := congrArg List.length hPS
      simp at this
      omega
    · refine ⟨⟨some (.int (0 + i)), some v, z3, ?_⟩, fun b o e => fr9 _ _ (s58 _ _ (s5 _ _ e)) (off e), PS ++ [(xi, l)], F9, by rw [List.map_append, hPS, et]; rfl⟩
      rw [et, List.map_append, List.flatten_append, List.length_append]
      simp only [List.map_cons, List.map_nil, List.flatten_cons, List.flatten_nil, List.append_nil]
      rw [← Nat.add_assoc]
      rfl
  · obtain ⟨⟨z1, z2, z3, rfl⟩, s5, PS, F5, hPS⟩ := hh
    rw [List.take_length] at hPS ⊢
    walk_at "rd"
    refine r_lenI (s5 _ _ e13) ?_
    walk_at "rd"
    refine r_noN (by omega) ?_
    walk_at "rd"
    exact qG xs g fp d PS H5 (fun b o e => s5 _ _ (s03 _ _ e)) (s03.free nx) (s03.free nd0) F5 hPS
end
end K44
set_option Elab.async false
set_option linter.all false
set_option maxRecDepth 100000
set_option maxHeartbeats 4000000
namespace K44
open PySem PySem.Spec PyProof.Rows L2
local macro_rules | `(tactic| walk_at "rd1") => `(tactic| first
  | ((with_reducible apply r_var); rfl)
  | ((with_reducible apply r_aug); rfl)
  | with_reducible apply r_isiI
  | with_reducible apply r_tslS
  | with_reducible apply r_try
  | with_reducible apply r_gsub
  | with_reducible apply r_irev
  | with_reducible apply r_trg1
  | with_reducible apply r_sfld
  | with_reducible apply r_afld
  | with_reducible apply r_rAdd
  | with_reducible apply r_dget
  | with_reducible apply r_din
  | with_reducible apply r_dnot
  | with_reducible apply r_dput
  | with_reducible apply r_ikeys
  | with_reducible apply r_m1
  | with_reducible apply r_km1
  | with_reducible apply r_inS
  | with_reducible apply r_notInS
  | with_reducible apply r_isN
  | with_reducible apply r_ip
  | with_reducible apply r_kbmS
  | with_reducible apply r_min2
  | with_reducible apply r_isiB
  | with_reducible apply r_isiS
  | with_reducible apply r_tyes
  | with_reducible apply iteT
  | with_reducible apply iteF
  | with_reducible apply r_nT
  | with_reducible apply r_nF
  | with_reducible apply r_callS
  | with_reducible apply r_meth
  | with_reducible apply r_methS
  | with_reducible apply r_methD
  | with_reducible apply r_make
  | with_reducible apply r_lc
  | with_reducible apply r_for
  | with_reducible apply r_ilist
  | with_reducible apply r_itup
  | with_reducible apply r_irng1
  | with_reducible apply r_irng2
  | with_reducible apply r_istr
  | with_reducible apply r_ienum
  | with_reducible apply r_izip
  | with_reducible apply r_izip3
  | with_reducible apply r_izip4
  | with_reducible apply r_kis
  | with_reducible apply r_c
  | with_reducible apply r_op
  | with_reducible apply r_un
  | with_reducible apply r_i0
  | with_reducible apply r_u
  | with_reducible apply r_eqI
  | with_reducible apply r_neI
  | with_reducible apply r_eqS
  | with_reducible apply r_neS
  | with_reducible apply r_test
  | with_reducible apply r_B
  | with_reducible apply r_bl
  | with_reducible apply r_int
  | with_reducible apply r_and
  | with_reducible apply r_or
  | with_reducible apply r_not
  | with_reducible apply r_andV
  | with_reducible apply r_orV
  | with_reducible apply r_notV
  | with_reducible apply r_chain
  | with_reducible apply r_tif
  | with_reducible apply r_nil
  | with_reducible apply r_cons
  | with_reducible apply r_cb
  | with_reducible apply r_call
  | with_reducible apply r_seq
  | with_reducible apply r_asg
  | with_reducible apply r_name
  | with_reducible apply r_drop
  | with_reducible apply r_ret
  | with_reducible apply r_retN
  | with_reducible apply r_next
  | with_reducible apply r_ifS
  | with_reducible apply r_tup
  | with_reducible apply r_lst
  | with_reducible apply r_sl
  | with_reducible apply r_nopart
  | with_reducible apply r_part
  | with_reducible apply r_fld
  | with_reducible apply r_bm
  | with_reducible apply r_bm0)
local macro_rules | `(tactic| walk_at "rd") => `(tactic| repeat (walk_at "rd1"))

/-! An album opened. -/
def partsC (c : Nat) (xs : List Prt) : List Prt := xs.filter fun x => decide (x.c = c)
def picsM : List Prt → Option (List (Str × List (List Int)))
  | [] => some []
  | x :: r => match picM x.ns with
    | none => none
    | some rows => (picsM r).map ((x.nm, rows) :: ·)
def openM (xs : List Prt) : Option (List (Str × List (List Int))) :=
  if (partsC cP xs).map (·.nm) = [MAINs] ∧ xs.length = 1 + (partsC cC xs).length ∧ (partsC cC xs).length ≤ 16 then
    (match (partsC cP xs).head? with
      | some x => if (palCols x.ns).Nodup ∧ (palCols x.ns).length = 16 then picsM (partsC cC xs) else none
      | none => none)
  else none
theorem fnames_parts (PS : List (Prt × Addr)) (c : Nat) : fnames PS c = (partsC c (PS.map (·.1))).map (·.nm) := by
  unfold fnames partsC
  rw [List.filter_map, List.map_map]
  rfl
theorem sml_ok {z : Str} {m : Int} (h : isSmall z m = true) : PyData.strOk z = true := by
  unfold PyData.strOk
  rw [← Array.all_toList]
  refine List.all_eq_true.mpr fun c hc => ?_
  have e : SML.all (fun c => decide (c < 0x110000)) = true := by decide +kernel
  exact List.all_eq_true.mp e c (small_in h hc)
def PalsIn (xs : List Prt) : Prop := ∀ x ∈ xs, x.c = cP → x.nm = MAINs → PalIn x.ns ∧ x.ns.length ≤ 1000
theorem picsM_at : ∀ {ps : List Prt} {r : List (Str × List (List Int))}, picsM ps = some r → r.length = ps.length ∧ ∀ (i : Nat) x, ps[i]? = some x → ∃ rows, picM x.ns = some rows ∧ r[i]? = some (x.nm, rows)
  | [], r, h => by
    cases h
    exact ⟨rfl, fun i x e => by simp at e⟩
  | p :: ps, r, h => by
    have h : (match picM p.ns with | none => none | some rows => (picsM ps).map ((p.nm, rows) :: ·)) = some r := h
    cases hp : picM p.ns with
    | none => rw [hp] at h; cases h
    | some rows =>
      rw [hp] at h
      simp only at h
      cases hr : picsM ps with
      | none => rw [hr] at h; cases h
      | some r2 =>
        rw [hr] at h
        have := Option.some.inj h
        subst this
        obtain ⟨a, b⟩ := picsM_at hr
        refine ⟨by simp [a], fun i x e => ?_⟩
        cases i with
        | zero => 
          have := Option.some.inj e
          subst this
          exact ⟨rows, hp, rfl⟩
        | succ i => exact b i x e
theorem picsM_none : ∀ {ps : List Prt}, picsM ps = none → ∃ x ∈ ps, picM x.ns = none
  | [], h => by cases h
  | p :: ps, h => by
    have h : (match picM p.ns with | none => none | some rows => (picsM ps).map ((p.nm, rows) :: ·)) = none := h
    cases hp : picM p.ns with
    | none => exact ⟨p, List.mem_cons_self .., hp⟩
    | some rows =>
      rw [hp] at h
      simp only [Option.map_eq_none_iff] at h
      obtain ⟨x, hx, e⟩ := picsM_none h
      exact ⟨x, List.mem_cons_of_mem _ hx, e⟩
theorem picsM_of {ps : List Prt} {f : Nat → List (List Int)} (h : ∀ (i : Nat) x, ps[i]? = some x → picM x.ns = some (f i)) : picsM ps = some (ps.mapIdx fun i x => (x.nm, f i)) := by
  induction ps generalizing f with
  | nil => rfl
  | cons p ps ih =>
    have h0 := h 0 p rfl
    have hr := ih (f := fun i => f (i + 1)) fun i x e => h (i + 1) x e
    show (match picM p.ns with | none => none | some rows => (picsM ps).map ((p.nm, rows) :: ·)) = _
    rw [h0]
    simp only [hr, Option.map_some, List.mapIdx_cons]
theorem picsM_get : ∀ {ps : List Prt} {r : List (Str × List (List Int))}, r.length = ps.length → (∀ (j : Nat) x, ps[j]? = some x → ∃ rows, picM x.ns = some rows ∧ r[j]? = some (x.nm, rows)) → picsM ps = some r
  | [], [], _, _ => rfl
  | p :: ps, y :: r, hl, h => by
    obtain ⟨rows, h1, h2⟩ := h 0 p rfl
    have e : y = (p.nm, rows) := Option.some.inj h2
    have ih := picsM_get (ps := ps) (r := r) (by simpa using hl) fun j x e => h (j + 1) x e
    show (match picM p.ns with | none => none | some rows => (picsM ps).map ((p.nm, rows) :: ·)) = _
    rw [h1]
    simp only [ih, Option.map_some, e]
theorem picsM_bad : ∀ {ps : List Prt} {x : Prt}, x ∈ ps → picM x.ns = none → picsM ps = none
  | p :: ps, x, hx, h => by
    show (match picM p.ns with | none => none | some rows => (picsM ps).map ((p.nm, rows) :: ·)) = none
    rcases List.mem_cons.mp hx with e | e
    · subst e
      rw [h]
    · cases picM p.ns with
      | none => rfl
      | some rows => simp only [picsM_bad e h, Option.map_none]
theorem parts_nd {c : Nat} {xs : List Prt} (h : (xs.map fkey).Nodup) : ((partsC c xs).map (·.nm)).Nodup := by
  have h1 : ((partsC c xs).map fkey).Nodup := h.sublist (List.Sublist.map _ (List.filter_sublist))
  have h2 : (partsC c xs).map fkey = ((partsC c xs).map (·.nm)).map fun n => ([.inr ⟨#[c]⟩, .inr n] : List Key) := by
    rw [List.map_map]
    refine List.map_congr_left fun x hx => ?_
    have : x.c = c := by simpa using (List.mem_filter.mp hx).2
    show fkey x = _
    unfold fkey
    rw [this]
    rfl
  rw [h2] at h1
  exact (List.pairwise_map.mp h1).imp fun h e => h (by rw [e])
theorem unfoldGo_cell (r : Int) : ∀ (l c : Int) (xs us : List Int), ∀ y ∈ unfoldGo r l c xs us, cell y
  | _, _, [], _, _, h => by simp [unfoldGo] at h
  | _, _, _ :: _, [], _, h => by simp [unfoldGo] at h
  | l, c, x :: xs, u :: us, y, h => by
    rcases List.mem_cons.mp h with h | h
    · rw [h]
      exact ⟨Int.emod_nonneg _ (by decide), Int.emod_lt_of_pos _ (by decide)⟩
    · exact unfoldGo_cell r _ u xs us y h
theorem unfoldPic_wide {w : Nat} : ∀ (p : Option (List Int)) (rows : List (List Int)) (ks : List Int), UpOk w p → Wide w rows → Wide w (unfoldPic p rows ks)
  | _, [], _, _, _ => fun r h => by simp [unfoldPic] at h
  | _, _ :: _, [], _, _ => fun r h => by simp [unfoldPic] at h
  | p, x :: xs, k :: ks, hp, hw => fun r h => by
    obtain ⟨hl, hc⟩ := hw x (List.mem_cons_self ..)
    obtain ⟨ul, uc⟩ := ups_ok hp
    have e1 : (unfoldRow k x (ups p x.length)).length = w := by rw [hl, unfoldRow_len (by rw [hl, ul]), hl]
    have e2 : ∀ c ∈ unfoldRow k x (ups p x.length), cell c := by
      rw [hl]
      unfold unfoldRow
      split
      · exact (zip_xor x _ (by rw [hl, ul]) hc uc).2
      · exact unfoldGo_cell k 0 0 x _
    rcases List.mem_cons.mp h with h | h
    · rw [h]; exact ⟨e1, e2⟩
    · exact unfoldPic_wide _ xs ks (fun r e => by cases e; exact ⟨e1, e2⟩) (fun r hr => hw r (List.mem_cons_of_mem _ hr)) r h
theorem picM_ok {ns : List Int} {rows : List (List Int)} (h6 : ns.all six = true) (h : picM ns = some rows) : PicOk rows := by
  match ns, h6, h with
  | [], _, h => cases h
  | [_], _, h => cases h
  | a :: b :: t, h6, h =>
    have ha := six_at h6 (n := a) (List.mem_cons_self ..)
    have hb := six_at h6 (n := b) (List.mem_cons_of_mem _ (List.mem_cons_self ..))
    rw [picM_eq] at h
    by_cases h24 : a < 24 ∧ b < 24
    · rw [if_pos h24] at h
      cases hu : unpackM (t.drop (b.toNat + 1)) with
      | none => rw [hu] at h; cases h
      | some cs =>
        rw [hu] at h
        simp only at h
        by_cases hl : cs.length = (a.toNat + 1) * (b.toNat + 1)
        · rw [if_pos hl] at h
          by_cases hf : (t.take (b.toNat + 1)).all isFold = true
          · rw [if_pos hf] at h
            have := Option.some.inj h
            subst this
            have hcell : cs.all isCell = true := unpackM_ok hu
            have hchl : (chunkM (a.toNat + 1) (b.toNat + 1) cs).length = b.toNat + 1 := by simp [chunkM]
            have htl : b.toNat + 1 ≤ t.length := by
              by_cases hh : b.toNat + 1 ≤ t.length
              · exact hh
              · rw [List.drop_of_length_le (by omega)] at hu
                have e : unpackM [] = some [] := rfl
                rw [e] at hu
                have := Option.some.inj hu
                rw [← this] at hl
                have : 0 < (a.toNat + 1) * (b.toNat + 1) := Nat.mul_pos (by omega) (by omega)
                simp at hl
            have hlen : (unfoldPic none (chunkM (a.toNat + 1) (b.toNat + 1) cs) (t.take (b.toNat + 1))).length = b.toNat + 1 := by
              rw [unfoldPic_len _ _ _ (by rw [hchl, List.length_take]; omega), hchl]
            exact .of (by omega) (by omega) (by omega) (by omega) (unfoldPic_wide none _ _ (fun r e => by cases e) (chunk_wide hl hcell))
          · rw [if_neg hf] at h; cases h
        · rw [if_neg hl] at h; cases h
    · rw [if_neg h24] at h; cases h
def sp_opened_album (K : PySem.W.Frag) : Sp := fun vs H Q E => ∃ z : Str, vs = [.str z] ∧ z.length ≤ 100000 ∧ ((∀ c ∈ z.cps.toList, c ∈ SG) → ¬ headBad z → dueOf z = foundOf z → ∃ xs, GoodText z xs) ∧ (∀ xs, GoodText z xs → PalsIn xs) ∧
  (((∃ c ∈ z.cps.toList, c ∉ SG) → ∀ H', Same H H' → E (.ref (He.ga K "BadText")) none H') ∧
   ((∀ c ∈ z.cps.toList, c ∈ SG) → headBad z → ∀ H', Same H H' → E (.ref (He.ga K "BadHead")) none H') ∧
   ((∀ c ∈ z.cps.toList, c ∈ SG) → ¬ headBad z → dueOf z ≠ foundOf z → ∀ d H', Same H H' → H d = none → H' d = some (.xd [("found", .int (foundOf z)), ("due", .int (dueOf z))]) → E (.ref (He.ga K "BadCheck")) (some d) H') ∧
   (∀ xs, GoodText z xs → (openM xs = none → ∀ H', Same H H' → E (.ref (He.ga K "BadPart")) none H') ∧
     (∀ r, openM xs = some r → ∀ (A : AlbS) (L : List Ent) (hx : List V) H', Same H H' → AlbumAt (He.ga K "Album") H' A L hx → L.map (fun x => (x.nm, x.rows)) = r → Q (.ref A.p) H')))
theorem sc_opened_album : FnScope ["text", "folio", "found", "palette", "cell", "colour", "name"] ["text"] (defScope s_opened_album) := ⟨rfl, rfl, rfl, by decide +kernel, rfl, by decide +kernel, by decide +kernel⟩
section
theorem len_opened_album {K : PySem.W.Frag} {vs : List V} {H : Hp} {Q : VK} {E : XK} (h : (sp_opened_album K) vs H Q E) : vs.length = 1 := by
  repeat (obtain ⟨_, h⟩ := h)
  subst_vars; rfl
variable {P : Program} {w : World} {K : PySem.W.Frag} {mg : Str → Option Value} {base : Heap}
theorem ok_opened_album (T : Tx K mg) : Cal P w K mg base (L2.CX P w) 9 (He.ga K "opened_album") ["text"] (sp_opened_album K) := by
  obtain ⟨fd, F⟩ := T.F_opened_album
  refine ⟨⟨fd, F.ok sc_opened_album (fun vs H Q E h => len_opened_album h) (fun cdv A outer s H vs Q E hr h => ⟨_, (
      (pss_cons (ps_set (i := 1) sc_opened_album.nd rfl (Or.inl rfl) (pe_cal (ok_read_folio T) hr (by decide) (by rfl) T.g_read_folio (passes_call (takes_of rfl rfl rfl rfl) (fun _ _ _ _ h => h)) (pa_cons (pv 0) pa_nil)))
      (pss_cons (ps_if (PW.pt (pw_or (pt_cmpR (op_neDK K hr.units) (pe_calM (pv 1) T.c_Folio T.m_Folio_names_of (ok_Folio_names_of T) hr (by decide) pass0 (pa_cons pe_str pa_nil)) (pe_lst (pa_cons (C8.pe_gc (by rfl) T.k_MAIN) pa_nil)) (nomark _)) (pw_or1 (pt_cmpR op_ne (pe_callB (cal_lenK K) (by rfl) T.b_len PySem.boot_len (pa_cons (pe_calM0 (pv 1) T.c_Folio T.m_Folio_all_parts (ok_Folio_all_parts T) hr (by decide) pass0) pa_nil)) (pe_op op_add pe_int (pe_callB (cal_lenK K) (by rfl) T.b_len PySem.boot_len (pa_cons (pe_calM (pv 1) T.c_Folio T.m_Folio_names_of (ok_Folio_names_of T) hr (by decide) pass0 (pa_cons pe_str pa_nil)) pa_nil))) (nomark _)))))
      (pss_one (ps_raise rfl (takes_of rfl rfl rfl rfl) (pmk_own PySem.F.excBase_ValueError T.x_BadPart.1 T.gx_BadPart T.x_BadPart.2.1 (raises_own T.x_BadPart.2.2.1 T.x_BadPart.2.2.2) rfl))) pss_nil)
      (pss_cons (ps_if (pt_cmpR op_gt (pe_callB (cal_lenK K) (by rfl) T.b_len PySem.boot_len (pa_cons (pe_calM (pv 1) T.c_Folio T.m_Folio_names_of (ok_Folio_names_of T) hr (by decide) pass0 (pa_cons pe_str pa_nil)) pa_nil)) (C8.pe_gc (by rfl) T.k_MOST_PICTURES) (nomark _))
      (pss_one (ps_raise rfl (takes_of rfl rfl rfl rfl) (pmk_own PySem.F.excBase_ValueError T.x_BadPart.1 T.gx_BadPart T.x_BadPart.2.1 (raises_own T.x_BadPart.2.2.1 T.x_BadPart.2.2.2) rfl))) pss_nil)
      (pss_cons (ps_set (i := 2) sc_opened_album.nd rfl (Or.inl rfl) (pe_calK0 T.m_Album_init (ok_Album_init T) hr (by decide) (by rfl) T.gc_Album pass0))
      (pss_cons (ps_set (i := 3) sc_opened_album.nd rfl (Or.inl rfl) (pe_cal (ok_palette_by_numbers T) hr (by decide) (by rfl) T.g_palette_by_numbers (passes_call (takes_of rfl rfl rfl rfl) (fun _ _ _ _ h => h)) (pa_cons (pe_calM (pv 1) T.c_Folio T.m_Folio_numbers_of (ok_Folio_numbers_of T) hr (by decide) pass0 (pa_cons pe_str (pa_cons (C8.pe_gc (by rfl) T.k_MAIN) pa_nil))) pa_nil)))
      (pss_cons (ps_if (pt_cmpR op_ne (pe_calM0 (pv 3) T.c_Palette T.m_Palette_many (ok_Palette_many T) hr (by decide) pass0) (pe_op op_add (C8.pe_gc (by rfl) T.k_MOST_CELL) pe_int) (nomark _))
      (pss_one (ps_raise rfl (takes_of rfl rfl rfl rfl) (pmk_own PySem.F.excBase_ValueError T.x_BadPart.1 T.gx_BadPart T.x_BadPart.2.1 (raises_own T.x_BadPart.2.2.1 T.x_BadPart.2.2.2) rfl))) pss_nil)
      (pss_cons (ps_for (passes_of rfl) rfl (pi_enumK K (by rfl) T.b_enumerate (pa_cons (pe_calM0 (pv 3) T.c_Palette T.m_Palette_colours (ok_Palette_colours T) hr (by decide) pass0) pa_nil)) (pg_tupK (n := 2) K rfl (pgs_cons (pg_name (i := 4) sc_opened_album.nd rfl (Or.inl rfl)) (pgs_cons (pg_name (i := 5) sc_opened_album.nd rfl (Or.inl rfl)) pgs_nil)))
      (pss_one (ps_expr (pe_calM (pv 2) T.c_Album T.m_Album_tint (ok_Album_tint T) hr (by decide) pass0 (pa_cons (pv 4) (pa_cons (pv 5) pa_nil))))))
      (pss_cons (ps_for (passes_of rfl) rfl (pi_listK K (pe_calM (pv 1) T.c_Folio T.m_Folio_names_of (ok_Folio_names_of T) hr (by decide) pass0 (pa_cons pe_str pa_nil))) (pg_name (i := 6) sc_opened_album.nd rfl (Or.inl rfl))
      (pss_one (ps_expr (pe_calMD (pv 2) T.c_Album T.m_Album_hold (ok_Album_hold T) hr (by decide) pass0 (pa_cons (pv 6) (pa_cons (pe_cal (ok_picture_by_numbers T) hr (by decide) (by rfl) T.g_picture_by_numbers (passes_call (takes_of rfl rfl rfl rfl) (fun _ _ _ _ h => h)) (pa_cons (pe_calM (pv 1) T.c_Folio T.m_Folio_numbers_of (ok_Folio_numbers_of T) hr (by decide) pass0 (pa_cons pe_str (pa_cons (pv 6) pa_nil))) pa_nil)) pa_nil))))))
      (pss_one (ps_ret (pv 2)))))))))))), ?_⟩), F.bindsN fun _ _ _ _ _ _ us hl => match us, hl with | [_], _ => rfl⟩, F.kp⟩
  obtain ⟨z, rfl, hz, hgood, hpals, qT, qH, qC, qG⟩ := h
  walk_at "rd"
  refine ⟨z, rfl, hz, hgood, qT, qH, qC, fun xs g fp d PS H1 s1 nfp nd F1 hPS => ?_⟩
  obtain ⟨qN, qS⟩ := qG xs g
  have hpal := hpals xs g
  have hok : ∀ x ∈ xs, x.Ok := g.ok
  obtain ⟨dx1, f1⟩ := F1.ob
  have fmeth : ∀ {m : Str}, ¬ m = "size" → ¬ m = "kept" → (fo d (fsize PS)).lookup m = none := fun a b => fo_no _ _ a b
  have en : ∀ c, fnames PS c = (partsC c xs).map (·.nm) := fun c => by rw [fnames_parts, hPS]
  have hss : ∀ c, ∀ z ∈ (partsC c xs).map (·.nm), PyData.strOk z = true := fun c z hz => by
    obtain ⟨x, hx, rfl⟩ := List.mem_map.mp hz
    exact sml_ok (hok x (List.mem_filter.mp hx).1).2.1
  walk_at "rd"
  refine r_kmeth f1 (fmeth (by decide +kernel) (by decide +kernel)) ?_
  walk_at "rd"
  refine ⟨fp, d, PS, cP, rfl, F1, fun r2 H2 n2 s2 e2 => ?_⟩
  rw [en] at e2
  walk_at "rd"
  refine r_klst (len_le rfl) fun l3 H3 n3 s3 e3 => ?_
  have e3' : H3 l3 = some (.lst (([MAINs] : List Str).map V.str)) := e3
  refine r_neD (dp_S (SqL.of (s3 _ _ e2))) (dp_S (SqL.of e3')) (shaped_S (hss cP)) (shaped_S (by simp; decide +kernel)) ?_
  rw [eqv_S]
  walk_at "rd"
  refine r_ifN (fun hne => ?_) fun hpn => ?_
  · walk_at "rd"
    refine qN ?_ H3 ((s1.trans s2).trans s3)
    unfold openM
    rw [if_neg fun h => hne h.1]
  have s03 := (s1.trans s2).trans s3
  have s13 := s2.trans s3
  walk_at "rd"
  refine r_kmeth (s13 _ _ f1) (fmeth (by decide +kernel) (by decide +kernel)) ?_
  walk_at "rd"
  refine ⟨fp, d, PS, rfl, F1.same s13, fun r4 us H4 n4 s4 e4 hpv => ?_⟩
  walk_at "rd"
  refine r_len (SqL.of e4) ?_
  walk_at "rd"
  have s14 := s13.trans s4
  refine r_kmeth (s14 _ _ f1) (fmeth (by decide +kernel) (by decide +kernel)) ?_
  walk_at "rd"
  refine ⟨fp, d, PS, cC, rfl, F1.same s14, fun r5 H5 n5 s5 e5 => ?_⟩
  rw [en] at e5
  walk_at "rd"
  refine r_len (SqL.of e5) ?_
  walk_at "rd"
  have hul : us.length = xs.length := by rw [hpv.1, hPS]
  refine r_ifN (fun hne => ?_) fun hlen => ?_
  · walk_at "rd"
    refine qN ?_ H5 ((s1.trans s14).trans s5)
    unfold openM
    rw [if_neg]
    rintro ⟨_, h2, _⟩
    refine hne ?_
    rw [hul, h2]
    simp
  have hlen' : xs.length = 1 + (partsC cC xs).length := by
    rw [hul] at hlen
    simp only [List.length_map] at hlen
    omega
  have s15 := s14.trans s5
  walk_at "rd"
  refine r_kmeth (s15 _ _ f1) (fmeth (by decide +kernel) (by decide +kernel)) ?_
  walk_at "rd"
  refine ⟨fp, d, PS, cC, rfl, F1.same s15, fun r6 H6 n6 s6 e6 => ?_⟩
  rw [en] at e6
  walk_at "rd"
  refine r_len (SqL.of e6) ?_
  walk_at "rd"
  have s16 := s15.trans s6
  refine r_ifD (fun h16 => ?_) fun h16 => ?_
  · walk_at "rd"
    refine qN ?_ H6 (s1.trans s16)
    unfold openM
    rw [if_neg]
    rintro ⟨_, _, h3⟩
    simp only [List.length_map] at h16
    omega
  have h16' : (partsC cC xs).length ≤ 16 := by
    simp only [List.length_map] at h16
    omega
  have hcond : (partsC cP xs).map (·.nm) = [MAINs] ∧ xs.length = 1 + (partsC cC xs).length ∧ (partsC cC xs).length ≤ 16 := ⟨hpn, hlen', h16'⟩
  obtain ⟨px, hpx⟩ : ∃ px, partsC cP xs = [px] := by
    cases hq : partsC cP xs with
    | nil => rw [hq] at hpn; cases hpn
    | cons a r =>
      cases r with
      | nil => exact ⟨a, rfl⟩
      | cons b r => rw [hq] at hpn; simp at hpn
  have hpm : px ∈ xs ∧ px.c = cP := by
    have : px ∈ partsC cP xs := by rw [hpx]; simp
    obtain ⟨h1, h2⟩ := List.mem_filter.mp this
    exact ⟨h1, by simpa using h2⟩
  have hpnm : px.nm = MAINs := by rw [hpx] at hpn; simpa using hpn
  obtain ⟨pin, plen⟩ := hpal px hpm.1 hpm.2 hpnm
  have eopen : openM xs = if (palCols px.ns).Nodup ∧ (palCols px.ns).length = 16 then picsM (partsC cC xs) else none := by
    unfold openM
    rw [if_pos hcond, hpx]
    rfl
  rw [eopen] at qN qS
  walk_at "rd"
  intro ap dx nx ndx nex
  have sx : Same H6 (upd (upd H6 dx (.own ap)) ap (.ins (He.ga K "Album") dx [])) := fun b o e => by
    rw [upd_ne (ne_of_none e nx), upd_ne (ne_of_none e ndx)]
    exact e
  refine ⟨ap, dx, rfl, upd_same, fun A H7 hx7 hAp hnew A7 _ fr7 => ⟨rfl, ?_⟩⟩
  have s7 : Same H6 H7 := fun b o e => fr7 _ _ (sx _ _ e) (by simp; exact ne_of_none e nx)
  have s17 := s16.trans s7
  have off : ∀ {b o}, H6 b = some o → b ∉ A.M := fun {b o} e hm => by
    have hb := sx _ _ e
    simp only [AlbS.M, List.mem_cons, List.not_mem_nil, or_false] at hm
    rcases hm with rfl | hm
    · rw [hAp] at e
      rw [nx] at e
      cases e
    · have := hnew b (by simpa using hm)
      rw [hb] at this
      cases this
  obtain ⟨pl, hpl⟩ : ∃ l, (px, l) ∈ PS := by
    have : px ∈ PS.map (·.1) := by rw [hPS]; exact hpm.1
    obtain ⟨q, hq, e⟩ := List.mem_map.mp this
    exact ⟨q.2, by rw [← e]; exact hq⟩
  walk_at "rd"
  refine r_kmeth (s17 _ _ f1) (fmeth (by decide +kernel) (by decide +kernel)) ?_
  walk_at "rd"
  refine ⟨fp, d, PS, px, pl, by rw [hpm.2, hpnm]; rfl, F1.same s17, hpl, fun r8 H8 n8 s8 e8 => ?_⟩
  refine ⟨r8, px.ns, rfl, e8, plen, pin, fun hnd pp H9 s9 hp9 => ?_, fun hnd H9 s9 => qN (if_neg fun h => hnd h.1) H9 ((s1.trans s17).trans (s8.trans s9))⟩
  have s79 := s8.trans s9
  have s19 := s17.trans s79
  obtain ⟨dxp, lp, p9, _⟩ := id hp9
  walk_at "rd"
  refine r_kmeth p9 (pf_no _ (by decide +kernel)) ?_
  walk_at "rd"
  refine ⟨pp, palCols px.ns, rfl, hp9, ?_⟩
  walk_at "rd"
  refine r_ifN (fun hne => ?_) fun hcl => ?_
  · walk_at "rd"
    exact qN (if_neg fun h => hne (by rw [h.2]; rfl)) H9 (s1.trans s19)
  have hcl' : (palCols px.ns).length = 16 := by omega
  rw [if_pos ⟨hnd, hcl'⟩] at qN qS
  have A9 := A7.same s79
  walk_at "rd"
  refine r_kmeth p9 (pf_no _ (by decide +kernel)) ?_
  walk_at "rd"
  refine ⟨pp, palCols px.ns, rfl, hp9, fun r10 H10 n10 s10 w10 => ?_⟩
  obtain ⟨qs, k1, k2, k3⟩ := w10
  have hql : qs.length = 16 := by rw [← hcl', ← k2]; simp
  have A10 := A9.same s10
  have hM : ∀ {b}, b ∈ A.M → ∃ o, H9 b = some o := fun {b} hm => by
    simp only [AlbS.M, List.mem_cons, List.not_mem_nil, or_false] at hm
    rcases hm with rfl | rfl | rfl | rfl | rfl | rfl
    · exact A9.ob.elim fun _ e => ⟨_, e⟩
    · exact ⟨_, A9.or⟩
    · exact ⟨_, A9.he⟩
    · exact ⟨_, A9.hu⟩
    · exact A9.pa.elim fun _ e => ⟨_, e.1⟩
    · exact A9.ah.elim fun _ e => ⟨_, e⟩
  have out : ∀ {b}, H9 b = none → b ∉ A.M := fun {b} hb hm => by
    obtain ⟨o, e⟩ := hM hm
    rw [hb] at e
    cases e
  have s610 := (s7.trans s79).trans s10
  refine r_kie (SqL.of k1) ?_
  refine kfor (walk_enum (xs := qs.map fun q => V.ref q.1)) (fun i σ H11 => (∃ z1 z2 z3, σ = [some (.str z), some (.ref fp), some (.ref A.p), some (.ref pp), z1, z2, z3]) ∧ Same H6 H11 ∧ H11 r10 = some (.lst (qs.map fun q => V.ref q.1)) ∧ ∃ hx, AlbumAt (He.ga K "Album") H11 A [] hx) ⟨⟨none, none, none, by rw [← hAp]; rfl⟩, s610, k1, hx7, A10⟩ (fun i σ H11 _ h => ?_) (fun i x σ H11 H12 hi hh y => ?_) fun σ H11 hh => ?_
  · exact SqL.of h.2.2.1
  · obtain ⟨⟨z1, z2, z3, rfl⟩, s11, e11, hx, A11⟩ := hh
    obtain ⟨t, y1, y2, rfl, hT, rfl, e5, e6⟩ := y
    obtain ⟨q, hq, rfl⟩ := map_atc e6
    have e7 := Option.some.inj e5
    subst e7
    have hi16 : i < 16 := by
      have := (List.getElem?_eq_some_iff.mp hq).1
      omega
    have s12 : Same H11 (upd H11 t (.tup [.int i, .ref q.1])) := same_up hT
    refine r_gt2 (SqT.of upd_same) ?_
    generalize upd H11 t (.tup [.int i, .ref q.1]) = H12 at s12 ⊢
    have A12 := A11.same s12
    obtain ⟨dx12, p12⟩ := A12.ob
    walk_at "rd"
    refine r_kmeth p12 (af_no _ (by decide +kernel) (by decide +kernel) (by decide +kernel) (by decide +kernel) (by decide +kernel)) ?_
    walk_at "rd"
    refine ⟨A, [], hx, i, .ref q.1, rfl, A12, hi16, fun H13 A13 fr13 => ?_⟩
    refine ⟨⟨_, _, _, rfl⟩, fun b o e => fr13 _ _ (s12 _ _ (s11 _ _ e)) (off e), fr13 _ _ (s12 _ _ e11) (out n10), _, A13⟩
  · obtain ⟨⟨z1, z2, z3, rfl⟩, s11, e11, hx, A11⟩ := hh
    have f11 := s11 _ _ (s16 _ _ f1)
    walk_at "rd"
    refine r_kmeth f11 (fmeth (by decide +kernel) (by decide +kernel)) ?_
    walk_at "rd"
    refine ⟨fp, d, PS, cC, rfl, F1.same (s16.trans s11), fun r12 H12 n12 s12 e12 => ?_⟩
    rw [en] at e12
    have A12 := A11.same s12
    have hM2 : ∀ {b}, b ∈ A.M → ∃ o, H11 b = some o := fun {b} hm => by
      simp only [AlbS.M, List.mem_cons, List.not_mem_nil, or_false] at hm
      rcases hm with rfl | rfl | rfl | rfl | rfl | rfl
      · exact A11.ob.elim fun _ e => ⟨_, e⟩
      · exact ⟨_, A11.or⟩
      · exact ⟨_, A11.he⟩
      · exact ⟨_, A11.hu⟩
      · exact A11.pa.elim fun _ e => ⟨_, e.1⟩
      · exact A11.ah.elim fun _ e => ⟨_, e⟩
    have off12 : r12 ∉ A.M := fun hm => by
      obtain ⟨o, e⟩ := hM2 hm
      rw [n12] at e
      cases e
    refine r_kil (SqL.of e12) ?_
    refine kfor (walk_list (xs := ((partsC cC xs).map (·.nm)).map V.str)) (fun i σ H13 => (∃ z1 z2 z3, σ = [some (.str z), some (.ref fp), some (.ref A.p), some (.ref pp), z1, z2, z3]) ∧ Same H6 H13 ∧ H13 r12 = some (.lst (((partsC cC xs).map (·.nm)).map V.str)) ∧
      ∃ L, AlbumAt (He.ga K "Album") H13 A L hx ∧ L.map (fun x => x.nm) = ((partsC cC xs).take i).map (·.nm) ∧ ∀ (j : Nat) x, (partsC cC xs)[j]? = some x → j < i → ∃ rows, picM x.ns = some rows ∧ (L.map fun x => (x.nm, x.rows))[j]? = some (x.nm, rows))
      ⟨⟨_, _, _, rfl⟩, s11.trans s12, e12, [], A12, by simp, fun j x _ hj => absurd hj (Nat.not_lt_zero _)⟩ (fun i σ H13 _ h => ?_) (fun i x σ H13 H14 hi hh y => ?_) fun σ H13 hh => ?_
    · exact SqL.of h.2.2.1
    · obtain ⟨⟨z1, z2, z3, rfl⟩, s13', e13, L, A13, hLn, hLp⟩ := hh
      obtain ⟨rfl, hx1⟩ := y
      obtain ⟨nm, hnm, rfl⟩ := map_atc hx1
      obtain ⟨xi, hxi, rfl⟩ := map_atc hnm
      have hxm : xi ∈ partsC cC xs := List.mem_of_getElem? hxi
      obtain ⟨hxm1, hxm2⟩ := List.mem_filter.mp hxm
      have hxc : xi.c = cC := by simpa using hxm2
      obtain ⟨xl, hxl⟩ : ∃ l, (xi, l) ∈ PS := by
        have : xi ∈ PS.map (·.1) := by rw [hPS]; exact hxm1
        obtain ⟨q, hq, e⟩ := List.mem_map.mp this
        exact ⟨q.2, by rw [← e]; exact hq⟩
      have hLl : L.length = i := by
        have := congrArg List.length hLn
        simp at this
        have := (List.getElem?_eq_some_iff.mp hxi).1
        omega
      obtain ⟨dx13, p13⟩ := A13.ob
      refine r_drop (r_methD ?_)
      walk_at "rd"
      refine r_kmethD p13 (af_no _ (by decide +kernel) (by decide +kernel) (by decide +kernel) (by decide +kernel) (by decide +kernel)) ?_
      walk_at "rd"
      refine r_kmeth (s13' _ _ (s16 _ _ f1)) (fmeth (by decide +kernel) (by decide +kernel)) ?_
      walk_at "rd"
      refine ⟨fp, d, PS, xi, xl, by rw [hxc]; rfl, F1.same (s16.trans s13'), hxl, fun r14 H14 n14 s14' e14 => ?_⟩
      have hxo := hok xi hxm1
      refine ⟨r14, xi.ns, rfl, e14, by have := hxo.2.2.1; omega, hxo.2.2.2, fun rows hrows pr H15 s15' hpr => ?_, fun hbad H15 s15' => ?_⟩
      · have ok := picM_ok hxo.2.2.2 hrows
        have s1315 := s14'.trans s15'
        have hll := List.length_take (i := i) (l := partsC cC xs)
        walk_at "rd"
        refine ⟨A, L, hx, xi.nm, pr, rows, rfl, A13.same s1315, hpr, ok, ?_, by have := (List.getElem?_eq_some_iff.mp hxi).1; omega, fun r16 H16 A16 fr16 _ => ?_⟩
        · rw [hLn]
          intro hm
          obtain ⟨j, hj⟩ := List.getElem?_of_mem hm
          have hji : j < i := by
            have := (List.getElem?_eq_some_iff.mp hj).1
            simp at this
            omega
          rw [List.getElem?_map, List.getElem?_take_of_lt hji] at hj
          have := nd_ix (parts_nd (c := cC) g.nd) (i := j) (j := i) (x := xi.nm) (by rw [List.getElem?_map]; exact hj) (by rw [List.getElem?_map, hxi]; rfl)
          omega
        · have out13 : r12 ∉ A.M := off12
          have A17 : AlbumAt (He.ga K "Album") H16 A (L ++ [(⟨xi.nm, r16, rows⟩ : Ent)]) hx := A16
          refine ⟨⟨_, _, _, rfl⟩, fun b o e => fr16 _ _ (s1315 _ _ (s13' _ _ e)) (off e), fr16 _ _ (s1315 _ _ e13) out13, L ++ [(⟨xi.nm, r16, rows⟩ : Ent)], A17, ?_, fun j x hj hji => ?_⟩
          · rw [List.map_append, hLn, List.take_add_one, hxi]
            simp
          · by_cases hj2 : j < i
            · obtain ⟨rs, p1, p2⟩ := hLp j x hj hj2
              exact ⟨rs, p1, by rw [List.map_append, List.getElem?_append_left (by rw [List.length_map, hLl]; exact hj2)]; exact p2⟩
            · have : j = i := by omega
              subst this
              rw [hxi] at hj
              have := Option.some.inj hj
              subst this
              refine ⟨rows, hrows, ?_⟩
              rw [List.map_append, List.getElem?_append_right (by rw [List.length_map, hLl]; exact Nat.le_refl _), List.length_map, hLl, Nat.sub_self]
              rfl
      · exact qN (picsM_bad hxm hbad) H15 ((s1.trans s16).trans (s13'.trans (s14'.trans s15')))
    · obtain ⟨⟨z1, z2, z3, rfl⟩, s13', e13, L, A13, hLn, hLp⟩ := hh
      walk_at "rd"
      rw [List.take_of_length_le (by simp)] at hLn
      have hLl : L.length = (partsC cC xs).length := by
        have := congrArg List.length hLn
        simpa using this
      refine qS _ (picsM_get (r := L.map fun x => (x.nm, x.rows)) (by simp [hLl]) fun j x hj => hLp j x hj (by have := (List.getElem?_eq_some_iff.mp hj).1; simpa using this)) A L hx H13 ((s1.trans s16).trans s13') A13 rfl
end
end K44
set_option Elab.async false
set_option linter.all false
set_option maxRecDepth 100000
set_option maxHeartbeats 4000000
namespace K44
open PySem PySem.Spec PyProof.Rows L2
local macro_rules | `(tactic| walk_at "rd1") => `(tactic| first
  | ((with_reducible apply r_var); rfl)
  | ((with_reducible apply r_aug); rfl)
  | with_reducible apply r_isiI
  | with_reducible apply r_tslS
  | with_reducible apply r_try
  | with_reducible apply r_gsub
  | with_reducible apply r_irev
  | with_reducible apply r_trg1
  | with_reducible apply r_sfld
  | with_reducible apply r_afld
  | with_reducible apply r_rAdd
  | with_reducible apply r_dget
  | with_reducible apply r_din
  | with_reducible apply r_dnot
  | with_reducible apply r_dput
  | with_reducible apply r_ikeys
  | with_reducible apply r_m1
  | with_reducible apply r_km1
  | with_reducible apply r_inS
  | with_reducible apply r_notInS
  | with_reducible apply r_isN
  | with_reducible apply r_ip
  | with_reducible apply r_kbmS
  | with_reducible apply r_min2
  | with_reducible apply r_isiB
  | with_reducible apply r_isiS
  | with_reducible apply r_tyes
  | with_reducible apply iteT
  | with_reducible apply iteF
  | with_reducible apply r_nT
  | with_reducible apply r_nF
  | with_reducible apply r_callS
  | with_reducible apply r_meth
  | with_reducible apply r_methS
  | with_reducible apply r_methD
  | with_reducible apply r_make
  | with_reducible apply r_lc
  | with_reducible apply r_for
  | with_reducible apply r_ilist
  | with_reducible apply r_itup
  | with_reducible apply r_irng1
  | with_reducible apply r_irng2
  | with_reducible apply r_istr
  | with_reducible apply r_ienum
  | with_reducible apply r_izip
  | with_reducible apply r_izip3
  | with_reducible apply r_izip4
  | with_reducible apply r_kis
  | with_reducible apply r_c
  | with_reducible apply r_op
  | with_reducible apply r_un
  | with_reducible apply r_i0
  | with_reducible apply r_u
  | with_reducible apply r_eqI
  | with_reducible apply r_neI
  | with_reducible apply r_eqS
  | with_reducible apply r_neS
  | with_reducible apply r_test
  | with_reducible apply r_B
  | with_reducible apply r_bl
  | with_reducible apply r_int
  | with_reducible apply r_and
  | with_reducible apply r_or
  | with_reducible apply r_not
  | with_reducible apply r_andV
  | with_reducible apply r_orV
  | with_reducible apply r_notV
  | with_reducible apply r_chain
  | with_reducible apply r_tif
  | with_reducible apply r_nil
  | with_reducible apply r_cons
  | with_reducible apply r_cb
  | with_reducible apply r_call
  | with_reducible apply r_seq
  | with_reducible apply r_asg
  | with_reducible apply r_name
  | with_reducible apply r_drop
  | with_reducible apply r_ret
  | with_reducible apply r_retN
  | with_reducible apply r_next
  | with_reducible apply r_ifS
  | with_reducible apply r_tup
  | with_reducible apply r_lst
  | with_reducible apply r_sl
  | with_reducible apply r_nopart
  | with_reducible apply r_part
  | with_reducible apply r_fld
  | with_reducible apply r_bm
  | with_reducible apply r_bm0)
local macro_rules | `(tactic| walk_at "rd") => `(tactic| repeat (walk_at "rd1"))

theorem none_of {H H1 : Hp} {p : Addr} (s : Same H H1) (h : H1 p = none) : H p = none := by
  cases e : H p with
  | none => rfl
  | some o => have := s _ _ e; rw [h] at this; cases this
def cellAt (ns : List Int) (k : Nat) : Int := ns.getD k 0
def sp_law_cell_at (K : PySem.W.Frag) : Sp := fun vs H Q _ => ∃ (a : Addr) (ns : List Int) (k : Nat), vs = [.ref a, .int k] ∧ SqL K H a (ns.map V.int) ∧ ns.length ≤ 63 ∧ Q (.int (cellAt ns k)) H
theorem sc_law_cell_at : FnScope ["_law_script", "_law_k"] ["_law_script", "_law_k"] (defScope s_law_cell_at) := ⟨rfl, rfl, rfl, by decide +kernel, rfl, by decide +kernel, by decide +kernel⟩
section
theorem len_law_cell_at {K : PySem.W.Frag} {vs : List V} {H : Hp} {Q : VK} {E : XK} (h : (sp_law_cell_at K) vs H Q E) : vs.length = 2 := by
  repeat (obtain ⟨_, h⟩ := h)
  subst_vars; rfl
variable {P : Program} {w : World} {K : PySem.W.Frag} {mg : Str → Option Value} {base : Heap}
theorem ok_law_cell_at (T : Tx K mg) : Cal P w K mg base CX0 1 (He.ga K "_law_cell_at") ["_law_script", "_law_k"] (sp_law_cell_at K) := by
  obtain ⟨fd, F⟩ := T.F_law_cell_at
  refine ⟨⟨fd, F.ok sc_law_cell_at (fun vs H Q E h => len_law_cell_at h) (fun cdv A outer s H vs Q E hr h => ⟨_, PSs.nox (
      (pss_cons (ps_if (pt_cmpR op_lt (pv 1) (pe_callB (cal_lenK K) (by rfl) T.b_len PySem.boot_len (pa_cons (pv 0) pa_nil)) (nomark _))
      (pss_one (ps_ret (pe_ix (ix_listK K) (pv 0) (pv 1) (fun _ _ => rfl)))) pss_nil)
      (pss_one (ps_ret pe_int)))), ?_⟩), F.bindsN fun _ _ _ _ _ _ us hl => match us, hl with | [_, _], _ => rfl⟩, F.kp⟩
  obtain ⟨a, ns, k, rfl, hs, hz, q⟩ := h
  walk_at "rd"
  refine r_len hs ?_
  rw [List.length_map]
  walk_at "rd"
  refine r_ifD (fun hk => ?_) fun hk => ?_
  · walk_at "rd"
    have hk' : k < ns.length := by omega
    refine r_ixL hs (atI_nat (by rw [List.getElem?_map, List.getElem?_eq_getElem hk']; rfl)) ?_
    have : cellAt ns k = ns[k] := by simp [cellAt, hk']
    rw [this] at q
    exact q
  · walk_at "rd"
    have : cellAt ns k = 0 := by
      have : ns.length ≤ k := by omega
      simp [cellAt, this]
    rw [this] at q
    exact q
end
def mixed (c k : Int) : Int := (c % 1000000007 + 7919 * k + 13) * (c % 1000000007 + 7919 * k + 13) % 1000000007 * (c % 1000000007 + 7919 * k + 13) % 998244353 / 11
theorem mixed_nn (c k : Int) : 0 ≤ mixed c k := by
  unfold mixed
  omega
def sp_law_mixed : Sp := fun vs H Q _ => ∃ (c k : Int), vs = [.int c, .int k] ∧ (0 ≤ k ∧ k ≤ 100000) ∧ Q (.int (mixed c k)) H
theorem sc_law_mixed : FnScope ["_law_cell", "_law_k", "_law_number"] ["_law_cell", "_law_k"] (defScope s_law_mixed) := ⟨rfl, rfl, rfl, by decide +kernel, rfl, by decide +kernel, by decide +kernel⟩
section
theorem len_law_mixed {vs : List V} {H : Hp} {Q : VK} {E : XK} (h : (sp_law_mixed) vs H Q E) : vs.length = 2 := by
  repeat (obtain ⟨_, h⟩ := h)
  subst_vars; rfl
variable {P : Program} {w : World} {K : PySem.W.Frag} {mg : Str → Option Value} {base : Heap}
theorem ok_law_mixed (T : Tx K mg) : Cal P w K mg base CX0 1 (He.ga K "_law_mixed") ["_law_cell", "_law_k"] (sp_law_mixed) := by
  obtain ⟨fd, F⟩ := T.F_law_mixed
  refine ⟨⟨fd, F.ok sc_law_mixed (fun vs H Q E h => len_law_mixed h) (fun cdv A outer s H vs Q E hr h => ⟨_, PSs.nox (
      (pss_cons (ps_set (i := 2) sc_law_mixed.nd rfl (Or.inl rfl) (pe_op op_add (pe_op op_add (pe_op op_mod (pv 0) pe_int) (pe_op op_mul pe_int (pv 1))) pe_int))
      (pss_one (ps_ret (pe_op op_fdiv (pe_op op_mod (pe_op op_mul (pe_op op_mod (pe_op op_mul (pv 2) (pv 2)) pe_int) (pv 2)) pe_int) pe_int))))), ?_⟩), F.bindsN fun _ _ _ _ _ _ us hl => match us, hl with | [_, _], _ => rfl⟩, F.kp⟩
  obtain ⟨c, k, rfl, ⟨k0, k1⟩, q⟩ := h
  have hm : CMul (c % 1000000007 + 7919 * k + 13) (c % 1000000007 + 7919 * k + 13) := .inl ⟨by omega, by omega⟩
  have m : CMul 7919 k := .inl ⟨by decide, by decide⟩
  walk_at "rd"
  refine r_i (by decide) ?_
  walk_at "rd"
  refine r_i m ?_
  walk_at "rd"
  refine r_i hm ?_
  walk_at "rd"
  refine r_i (by decide) ?_
  walk_at "rd"
  refine r_i (.inl ⟨by omega, by omega⟩) ?_
  walk_at "rd"
  refine r_i (by decide) ?_
  walk_at "rd"
  refine r_i ⟨by decide, by decide⟩ ?_
  exact q
end
def wordL (c : Int) : List Nat := (List.range (c / 7 % 8).toNat).map fun (k : Nat) => 97 + (mixed c k % 8).toNat
def nameT (c : Int) : Nat := ((c / 56).fmod (((wordL c).length : Nat) + 1)).toNat
def nameC (c : Int) (s : Nat) : List Nat := (wordL c).take (nameT c) ++ s :: (wordL c).drop (nameT c)
def nameL (c : Int) (s : Nat) : Str := txt (nameC c s)
theorem txt_cat3 (a b : List Nat) (s : Nat) : txt a ++ ⟨#[s]⟩ ++ txt b = txt (a ++ s :: b) := by
  show (⟨(a.toArray ++ #[s]) ++ b.toArray⟩ : Str) = ⟨(a ++ s :: b).toArray⟩
  congr 1
  simp
theorem txt_cat2 (a : List Nat) (s : Nat) : txt a ++ (⟨#[s]⟩ : Str) = txt (a ++ [s]) := by
  show (⟨a.toArray ++ #[s]⟩ : Str) = ⟨(a ++ [s]).toArray⟩
  congr 1
  simp
theorem nameT_eq (c : Int) : (c / 56).fmod (((wordL c).length : Nat) + 1) = (nameT c : Int) := by
  have : 0 ≤ (c / 56).fmod (((wordL c).length : Int) + 1) := by
    rw [Int.fmod_eq_emod_of_nonneg _ (by omega)]
    exact Int.emod_nonneg _ (by omega)
  unfold nameT
  omega
theorem nameT_lt (c : Int) : nameT c < (wordL c).length + 1 := by
  have : (c / 56).fmod (((wordL c).length : Int) + 1) < (wordL c).length + 1 := by
    rw [Int.fmod_eq_emod_of_nonneg _ (by omega)]
    exact Int.emod_lt_of_pos _ (by omega)
  unfold nameT
  omega
theorem wordL_len (c : Int) : (wordL c).length ≤ 7 := by
  unfold wordL
  rw [List.length_map, List.length_range]
  omega
def sp_law_names : Sp := fun vs H Q _ => ∃ c : Int, vs = [.int c, .str "kmp"] ∧ ∀ p H', H p = none → Same H H' → H' p = some (.lst ([107, 109, 112].map fun s => .str (nameL c s))) → Q (.ref p) H'
theorem abc_at (m : Int) (h : 0 ≤ m) : atI ("abcdefgh" : Str).cps.toList (m % 8) = some (97 + (m % 8).toNat) := by
  obtain ⟨k, hk⟩ : ∃ k : Nat, m % 8 = (k : Int) := ⟨(m % 8).toNat, by omega⟩
  have k8 : k < 8 := by omega
  rw [hk]
  refine atI_nat ?_
  have : ∀ j : Nat, j < 8 → ("abcdefgh" : Str).cps.toList[j]? = some (97 + j) := by decide +kernel
  simpa using this k k8
theorem sc_law_names : FnScope ["_law_cell", "_law_signs", "_law_word", "_law_at", "_law_sign", "_law_k"] ["_law_cell", "_law_signs"] (defScope s_law_names) := ⟨rfl, rfl, rfl, by decide +kernel, rfl, by decide +kernel, by decide +kernel⟩
section
theorem len_law_names {vs : List V} {H : Hp} {Q : VK} {E : XK} (h : (sp_law_names) vs H Q E) : vs.length = 2 := by
  repeat (obtain ⟨_, h⟩ := h)
  subst_vars; rfl
variable {P : Program} {w : World} {K : PySem.W.Frag} {mg : Str → Option Value} {base : Heap}
theorem ok_law_names (T : Tx K mg) : Cal P w K mg base CX0 2 (He.ga K "_law_names") ["_law_cell", "_law_signs"] (sp_law_names) := by
  obtain ⟨fd, F⟩ := T.F_law_names
  refine ⟨⟨fd, F.ok sc_law_names (fun vs H Q E h => len_law_names h) (fun cdv A outer s H vs Q E hr h => ⟨_, PSs.nox (
      (pss_cons (ps_set (i := 2) sc_law_names.nd rfl (Or.inr rfl) (pe_joinKK K pe_str (pe_lc (own := [("_law_k", 5)]) rfl sc_law_names.nd (pi_range1 (by rfl) T.b_range (pa_cons (pe_op op_mod (pe_op op_fdiv (pv 0) pe_int) pe_int) pa_nil)) (blkOk_by (own := [("_law_k", 5)]) (N := ["_law_cell", "_law_signs", "_law_word", "_law_at", "_law_sign", "_law_k"]) (sc := defScope s_law_names) (by decide +kernel)) (fun _ _ _ _ _ => (pg_name (i := 5) sc_law_names.nd rfl (Or.inl rfl))) (fun _ _ _ _ _ => pts_nil) (fun _ _ _ _ _ => (pe_ix ix_str pe_str (pe_op op_mod (pe_cal (ok_law_mixed T) hr (by decide) (by rfl) T.g_law_mixed pass0 (pa_cons (pv 0) (pa_cons (pv 5) pa_nil))) pe_int) (fun _ _ => rfl))))))
      (pss_cons (ps_set (i := 3) sc_law_names.nd rfl (Or.inr rfl) (pe_op op_modN (pe_op op_fdiv (pv 0) pe_int) (pe_op op_add (pe_callB cal_lenS (by rfl) T.b_len PySem.boot_len (pa_cons (pv 2) pa_nil)) pe_int)))
      (pss_one (ps_ret (pe_lc (own := [("_law_sign", 4)]) rfl sc_law_names.nd (pi_str (pv 1)) (blkOk_by (own := [("_law_sign", 4)]) (N := ["_law_cell", "_law_signs", "_law_word", "_law_at", "_law_sign", "_law_k"]) (sc := defScope s_law_names) (by decide +kernel)) (fun _ _ _ _ _ => (pg_name (i := 4) sc_law_names.nd rfl (Or.inl rfl))) (fun _ _ _ _ _ => pts_nil) (fun _ _ _ _ _ => (pe_op op_catS (pe_op op_catS (pe_slice sl_str (pv 2) po_none (po_some (pv 3))) (pv 4)) (pe_slice sl_str (pv 2) (po_some (pv 3)) po_none))))))))), ?_⟩), F.bindsN fun _ _ _ _ _ _ us hl => match us, hl with | [_, _], _ => rfl⟩, F.kp⟩
  obtain ⟨c, rfl, q⟩ := h
  walk_at "rd"
  refine r_i ⟨by decide, by decide⟩ ?_
  walk_at "rd"
  refine r_i (by decide) ?_
  walk_at "rd"
  refine r_ki1 (by omega) (by omega) ?_
  refine klc_R (szl (by omega)) (fun k => .str ⟨#[97 + (mixed c k % 8).toNat]⟩) (fun i H1 hi s Z z => ?_) fun p H1 hp s1 e1 => ?_
  · walk_at "rd"
    refine ⟨rfl, ?_⟩
    walk_at "rd"
    refine ⟨c, i, by simp, ⟨by omega, by omega⟩, ?_⟩
    walk_at "rd"
    refine r_i (by decide) ?_
    exact r_ixS (len_le rfl) (abc_at _ (mixed_nn c i)) (z H1 (Same.refl H1))
  · walk_at "rd"
    have hz := wordL_len c
    refine r_join (ys := (wordL c).map fun x => (⟨#[x]⟩ : Str)) (by rw [e1, wordL, List.map_map, List.map_map]; rfl) ?_ ?_
    · rw [sum_ones _ ("" : Str) rfl]; omega
    · rw [join_signs ("" : Str) rfl]
      walk_at "rd"
      refine r_i ⟨by decide, by decide⟩ ?_
      walk_at "rd"
      refine r_lenS (szl (show (txt (wordL c)).length ≤ 100000 by rw [txt_len]; omega)) ?_
      rw [txt_len]
      walk_at "rd"
      refine r_i (by omega) ?_
      walk_at "rd"
      refine klc_S (len_le rfl) (fun s => .str (nameL c s)) (fun x H2 hx s2 Z z => ?_) fun p2 H2 hp2 s2 e2 => ?_
      · walk_at "rd"
        refine ⟨rfl, ?_⟩
        walk_at "rd"
        have lt := nameT_lt c
        rw [nameT_eq]
        refine r_slS (szl (show (txt (wordL c)).length ≤ 100000 by rw [txt_len]; omega)) ?_
        rw [cutS_j, txt_list]
        walk_at "rd"
        refine r_catS (szl ?_) ?_
        · rw [txt_len, List.length_take]
          show _ + 1 ≤ _
          omega
        walk_at "rd"
        refine r_slS (szl (show (txt (wordL c)).length ≤ 100000 by rw [txt_len]; omega)) ?_
        rw [cutS_i, txt_list]
        refine r_catS (szl ?_) ?_
        · rw [txt_cat2, txt_len, txt_len, List.length_append, List.length_take, List.length_drop]
          show _ + 1 + _ ≤ _
          omega
        · rw [txt_cat3]
          exact z H2 (Same.refl H2)
      · exact q p2 H2 (none_of s1 hp2) (s1.trans s2) e2
end
def shareL (n : Nat) (l : Int) (i : Nat) : List Int := (n - 1 : Int) :: (List.range i).flatMap fun (k : Nat) => [(k : Int), 0, 0, if k + 1 = n then l else 0]
theorem shareL_succ (n : Nat) (l : Int) (i : Nat) : shareL n l (i + 1) = shareL n l i ++ [(i : Int), 0, 0, if i + 1 = n then l else 0] := by
  simp [shareL, List.range_succ]
theorem shareL_len (n : Nat) (l : Int) (i : Nat) : (shareL n l i).length = 4 * i + 1 := by
  induction i with
  | zero => rfl
  | succ i h => rw [shareL_succ, List.length_append, h]; simp; omega
def sp_law_shares : Sp := fun vs H Q _ => ∃ (n : Nat) (l : Int), vs = [.int n, .int l] ∧ n ≤ 100 ∧ ∀ p H', H p = none → Same H H' → H' p = some (.lst ((shareL n l n).map V.int)) → Q (.ref p) H'
theorem sc_law_shares : FnScope ["_law_many", "_law_last", "_law_found", "_law_k"] ["_law_many", "_law_last"] (defScope s_law_shares) := ⟨rfl, rfl, rfl, by decide +kernel, rfl, by decide +kernel, by decide +kernel⟩
section
theorem len_law_shares {vs : List V} {H : Hp} {Q : VK} {E : XK} (h : (sp_law_shares) vs H Q E) : vs.length = 2 := by
  repeat (obtain ⟨_, h⟩ := h)
  subst_vars; rfl
variable {P : Program} {w : World} {K : PySem.W.Frag} {mg : Str → Option Value} {base : Heap}
theorem ok_law_shares (T : Tx K mg) : Cal P w K mg base CX0 1 (He.ga K "_law_shares") ["_law_many", "_law_last"] (sp_law_shares) := by
  obtain ⟨fd, F⟩ := T.F_law_shares
  refine ⟨⟨fd, F.ok sc_law_shares (fun vs H Q E h => len_law_shares h) (fun cdv A outer s H vs Q E hr h => ⟨_, PSs.nox (
      (pss_cons (ps_set (i := 2) sc_law_shares.nd rfl (Or.inl rfl) (pe_lst (pa_cons (pe_op op_sub (pv 0) pe_int) pa_nil)))
      (pss_cons (ps_for PassesOwn.never rfl (pi_range1 (by rfl) T.b_range (pa_cons (pv 0) pa_nil)) (pg_name (i := 3) sc_law_shares.nd rfl (Or.inl rfl))
      (pss_one (ps_set (i := 2) sc_law_shares.nd rfl (Or.inl rfl) (pe_op op_cat (pv 2) (pe_lst (pa_cons (pv 3) (pa_cons pe_int (pa_cons pe_int (pa_cons (pe_ifExp (pt_cmpR op_eq (pv 3) (pe_op op_sub (pv 0) pe_int) (nomark _)) (pv 1) pe_int) pa_nil)))))))))
      (pss_one (ps_ret (pv 2)))))), ?_⟩), F.bindsN fun _ _ _ _ _ _ us hl => match us, hl with | [_, _], _ => rfl⟩, F.kp⟩
  obtain ⟨n, l, rfl, hn, q⟩ := h
  walk_at "rd"
  refine r_klst (len_le rfl) fun p0 H0 hp0 s0 e0 => ?_
  walk_at "rd"
  refine r_ki1 (by omega) (by omega) ?_
  refine kfor walk_range (fun i σ H1 => ∃ p y, σ = [some (.int n), some (.int l), some (.ref p), y] ∧ H p = none ∧ Same H H1 ∧ H1 p = some (.lst ((shareL n l i).map V.int))) ⟨p0, none, rfl, hp0, s0, e0⟩ (fun _ _ _ _ _ => trivial) (fun i x σ H1 H2 hi hP y => ?_) fun σ H1 hP => ?_
  · obtain ⟨p, y0, rfl, hp, s, e⟩ := hP
    obtain ⟨rfl, rfl⟩ := y
    walk_at "rd"
    refine r_ifD (fun hc => ?_) fun hc => ?_
    all_goals
      walk_at "rd"
      refine r_klst (len_le rfl) fun p2 H3 hp2 s2 e2 => ?_
      refine r_cat (s2 _ _ e) e2 (szl (by rw [List.length_map, shareL_len]; simp; omega)) fun p3 H4 hp3 s3 e3 => ?_
      walk_at "rd"
      refine ⟨p3, _, rfl, none_of (s.trans s2) hp3, s.trans (s2.trans s3), ?_⟩
      rw [e3, shareL_succ, List.map_append]
    · rw [if_pos (by omega)]
      simp
    · rw [if_neg (by omega)]
      simp
  · obtain ⟨p, y0, rfl, hp, s, e⟩ := hP
    walk_at "rd"
    simp at e
    exact q p H1 hp s e
end
end K44
set_option Elab.async false
set_option linter.all false
set_option maxRecDepth 100000
set_option maxHeartbeats 4000000
namespace K44
open PySem PySem.Spec PyProof.Rows L2
local macro_rules | `(tactic| walk_at "rd1") => `(tactic| first
  | ((with_reducible apply r_var); rfl)
  | ((with_reducible apply r_aug); rfl)
  | with_reducible apply r_isiI
  | with_reducible apply r_tslS
  | with_reducible apply r_try
  | with_reducible apply r_gsub
  | with_reducible apply r_irev
  | with_reducible apply r_trg1
  | with_reducible apply r_sfld
  | with_reducible apply r_afld
  | with_reducible apply r_rAdd
  | with_reducible apply r_dget
  | with_reducible apply r_din
  | with_reducible apply r_dnot
  | with_reducible apply r_dput
  | with_reducible apply r_ikeys
  | with_reducible apply r_m1
  | with_reducible apply r_km1
  | with_reducible apply r_inS
  | with_reducible apply r_notInS
  | with_reducible apply r_isN
  | with_reducible apply r_ip
  | with_reducible apply r_kbmS
  | with_reducible apply r_min2
  | with_reducible apply r_isiB
  | with_reducible apply r_isiS
  | with_reducible apply r_tyes
  | with_reducible apply iteT
  | with_reducible apply iteF
  | with_reducible apply r_nT
  | with_reducible apply r_nF
  | with_reducible apply r_callS
  | with_reducible apply r_meth
  | with_reducible apply r_methS
  | with_reducible apply r_methD
  | with_reducible apply r_make
  | with_reducible apply r_lc
  | with_reducible apply r_for
  | with_reducible apply r_ilist
  | with_reducible apply r_itup
  | with_reducible apply r_irng1
  | with_reducible apply r_irng2
  | with_reducible apply r_istr
  | with_reducible apply r_ienum
  | with_reducible apply r_izip
  | with_reducible apply r_izip3
  | with_reducible apply r_izip4
  | with_reducible apply r_kis
  | with_reducible apply r_c
  | with_reducible apply r_op
  | with_reducible apply r_un
  | with_reducible apply r_i0
  | with_reducible apply r_u
  | with_reducible apply r_eqI
  | with_reducible apply r_neI
  | with_reducible apply r_eqS
  | with_reducible apply r_neS
  | with_reducible apply r_test
  | with_reducible apply r_B
  | with_reducible apply r_bl
  | with_reducible apply r_int
  | with_reducible apply r_and
  | with_reducible apply r_or
  | with_reducible apply r_not
  | with_reducible apply r_andV
  | with_reducible apply r_orV
  | with_reducible apply r_notV
  | with_reducible apply r_chain
  | with_reducible apply r_tif
  | with_reducible apply r_nil
  | with_reducible apply r_cons
  | with_reducible apply r_cb
  | with_reducible apply r_call
  | with_reducible apply r_seq
  | with_reducible apply r_asg
  | with_reducible apply r_name
  | with_reducible apply r_drop
  | with_reducible apply r_ret
  | with_reducible apply r_retN
  | with_reducible apply r_next
  | with_reducible apply r_ifS
  | with_reducible apply r_tup
  | with_reducible apply r_lst
  | with_reducible apply r_sl
  | with_reducible apply r_nopart
  | with_reducible apply r_part
  | with_reducible apply r_fld
  | with_reducible apply r_bm
  | with_reducible apply r_bm0)
local macro_rules | `(tactic| walk_at "rd") => `(tactic| repeat (walk_at "rd1"))

theorem m144 {w h : Nat} (e : (w ≤ 24 ∧ h ≤ 6) ∨ (w ≤ 6 ∧ h ≤ 24)) : w * h ≤ 144 := by
  rcases e with ⟨a, b⟩ | ⟨a, b⟩
  · have : w * h ≤ 24 * 6 := Nat.mul_le_mul a b
    omega
  · have : w * h ≤ 6 * 24 := Nat.mul_le_mul a b
    omega
theorem r_scut {s1 s2 : TS} {D : Ends} {σ : L2.St} {H : Hp} (R : L2.St → Hp → Prop) (h : ∀ N : L2.St → Hp → Prop, (∀ σ' H', R σ' H' → N σ' H') → s1 { D with nx := N } σ H) (k : ∀ σ' H', R σ' H' → s2 D σ' H') : tSeq s1 s2 D σ H := h (s2 D) k
def sp_law_picture (K : PySem.W.Frag) : Sp := fun vs H Q _ => ∃ (a : Addr) (ns : List Int) (k : Nat), vs = [.ref a, .int k, .int 6] ∧ SqL K H a (ns.map V.int) ∧ ns.length ≤ 63 ∧ ∀ p H' rows, Same H H' → PicN H H' p rows → PicOk rows → rows.flatten.length ≤ 144 → Q (.ref p) H'
def picCell (hu b c : Int) (y x : Nat) : Int := (b + (mixed c (24 * y + x)).fmod hu) % 16
def picRows (w h : Nat) (hu b c : Int) : List (List Int) := (List.range h).map fun y => (List.range w).map fun x => picCell hu b c y x
theorem picRows_ok {w h : Nat} {hu b c : Int} (h1 : 1 ≤ w) (h2 : w ≤ 24) (h3 : 1 ≤ h) (h4 : h ≤ 24) : PicOk (picRows w h hu b c) := by
  refine ⟨by simp [picRows]; omega, by simp [picRows]; omega, w, h1, h2, fun r hr => ?_⟩
  obtain ⟨y, _, rfl⟩ := List.mem_map.mp hr
  refine ⟨by simp, List.all_eq_true.mpr fun z hz => ?_⟩
  obtain ⟨x, _, rfl⟩ := List.mem_map.mp hz
  have : 0 ≤ picCell hu b c y x ∧ picCell hu b c y x ≤ 15 := by
    unfold picCell
    omega
  exact decide_eq_true this
theorem sc_law_picture : FnScope ["_law_script", "_law_at", "_law_most", "_law_side", "_law_wide", "_law_high", "_law_hues", "_law_base", "_law_cells", "_law_y", "_law_x"] ["_law_script", "_law_at", "_law_most"] (defScope s_law_picture) := ⟨rfl, rfl, rfl, by decide +kernel, rfl, by decide +kernel, by decide +kernel⟩
section
theorem len_law_picture {K : PySem.W.Frag} {vs : List V} {H : Hp} {Q : VK} {E : XK} (h : (sp_law_picture K) vs H Q E) : vs.length = 3 := by
  repeat (obtain ⟨_, h⟩ := h)
  subst_vars; rfl
variable {P : Program} {w : World} {K : PySem.W.Frag} {mg : Str → Option Value} {base : Heap}
theorem ok_law_picture (T : Tx K mg) : Cal P w K mg base CX0 2 (He.ga K "_law_picture") ["_law_script", "_law_at", "_law_most"] (sp_law_picture K) := by
  obtain ⟨fd, F⟩ := T.F_law_picture
  refine ⟨⟨fd, F.ok sc_law_picture (fun vs H Q E h => len_law_picture h) (fun cdv A outer s H vs Q E hr h => ⟨_, PSs.nox (
      (pss_cons (ps_set (i := 3) sc_law_picture.nd rfl (Or.inl rfl) (pe_cal (ok_law_cell_at T) hr (by decide) (by rfl) T.g_law_cell_at pass0 (pa_cons (pv 0) (pa_cons (pv 1) pa_nil))))
      (pss_cons (ps_set (i := 4) sc_law_picture.nd rfl (Or.inr rfl) (pe_op op_add pe_int (pe_op op_modN (pv 3) (pv 2))))
      (pss_cons (ps_set (i := 5) sc_law_picture.nd rfl (Or.inl rfl) (pe_op op_add pe_int (pe_op op_modN (pe_op op_fdivN (pv 3) (pv 2)) (pv 2))))
      (pss_cons (ps_if (pt_cmpR op_eq (pe_op op_mod (pe_op op_fdivN (pe_op op_fdivN (pv 3) (pv 2)) (pv 2)) pe_int) pe_int (nomark _))
      (pss_one (ps_set (i := 4) sc_law_picture.nd rfl (Or.inr rfl) (pe_op op_add pe_int (pe_op op_mod (pe_op op_fdiv (pe_op op_fdivN (pe_op op_fdivN (pv 3) (pv 2)) (pv 2)) pe_int) pe_int)))) (pss_one (ps_if (pt_cmpR op_eq (pe_op op_mod (pe_op op_fdivN (pe_op op_fdivN (pv 3) (pv 2)) (pv 2)) pe_int) pe_int (nomark _))
      (pss_one (ps_set (i := 5) sc_law_picture.nd rfl (Or.inl rfl) (pe_op op_add pe_int (pe_op op_mod (pe_op op_fdiv (pe_op op_fdivN (pe_op op_fdivN (pv 3) (pv 2)) (pv 2)) pe_int) pe_int)))) pss_nil)))
      (pss_cons (ps_set (i := 6) sc_law_picture.nd rfl (Or.inr rfl) (pe_ix (ix_listK K) (pe_lst (pa_cons pe_int (pa_cons pe_int (pa_cons pe_int (pa_cons pe_int pa_nil))))) (pe_op op_mod (pe_cal (ok_law_cell_at T) hr (by decide) (by rfl) T.g_law_cell_at pass0 (pa_cons (pv 0) (pa_cons (pe_op op_add (pv 1) pe_int) pa_nil))) pe_int) (fun _ _ => rfl)))
      (pss_cons (ps_set (i := 7) sc_law_picture.nd rfl (Or.inr rfl) (pe_op op_mod (pe_op op_fdiv (pe_cal (ok_law_cell_at T) hr (by decide) (by rfl) T.g_law_cell_at pass0 (pa_cons (pv 0) (pa_cons (pe_op op_add (pv 1) pe_int) pa_nil))) pe_int) pe_int))
      (pss_cons (ps_set (i := 8) sc_law_picture.nd rfl (Or.inr rfl) (pe_cal (ok_law_cell_at T) hr (by decide) (by rfl) T.g_law_cell_at pass0 (pa_cons (pv 0) (pa_cons (pe_op op_add (pv 1) pe_int) pa_nil))))
      (pss_one (ps_ret (pe_lc (own := [("_law_y", 9)]) rfl sc_law_picture.nd (pi_range1 (by rfl) T.b_range (pa_cons (pv 5) pa_nil)) (blkOk_by (own := [("_law_y", 9)]) (N := ["_law_script", "_law_at", "_law_most", "_law_side", "_law_wide", "_law_high", "_law_hues", "_law_base", "_law_cells", "_law_y", "_law_x"]) (sc := defScope s_law_picture) (by decide +kernel)) (fun _ _ _ _ _ => (pg_name (i := 9) sc_law_picture.nd rfl (Or.inr rfl))) (fun _ _ _ _ _ => pts_nil) (fun _ _ _ _ _ => (pe_lc (own := [("_law_x", 10)]) rfl sc_law_picture.nd (pi_range1 (by rfl) T.b_range (pa_cons (pv 4) pa_nil)) (blkOk_by (own := [("_law_x", 10)]) (N := ["_law_script", "_law_at", "_law_most", "_law_side", "_law_wide", "_law_high", "_law_hues", "_law_base", "_law_cells", "_law_y", "_law_x"]) (sc := (relS { kind := .function, names := [(".0", .local), ("_law_y", .cell), ("range", .globalImplicit), ("_law_base", .free), ("_law_cells", .free), ("_law_hues", .free), ("_law_wide", .free)], isGenerator := false, isCoroutine := false } (defScope s_law_picture))) (by decide +kernel)) (fun _ _ _ _ _ => (pg_name (i := 10) sc_law_picture.nd rfl (Or.inl rfl))) (fun _ _ _ _ _ => pts_nil) (fun _ _ _ _ _ => (pe_op op_mod (pe_op op_add (pv 7) (pe_op op_modN (pe_cal (ok_law_mixed T) hr (by decide) (by rfl) T.g_law_mixed pass0 (pa_cons (pv 8) (pa_cons (pe_op op_add (pe_op op_mul pe_int (pv 9)) (pv 10)) pa_nil))) (pv 6))) pe_int))))))))))))))), ?_⟩), F.bindsN fun _ _ _ _ _ _ us hl => match us, hl with | [_, _, _], _ => rfl⟩, F.kp⟩
  obtain ⟨a, ns, k, rfl, hs, hz, q⟩ := h
  walk_at "rd"
  refine ⟨a, ns, k, rfl, hs, hz, ?_⟩
  generalize cellAt ns k = S
  walk_at "rd"
  refine r_i (by decide) ?_
  rw [Int.fmod_eq_emod_of_nonneg _ (by decide)]
  walk_at "rd"
  refine r_i ⟨by decide, by decide⟩ ?_
  walk_at "rd"
  refine r_i (by decide) ?_
  rw [Int.fdiv_eq_ediv_of_nonneg _ (by decide), Int.fmod_eq_emod_of_nonneg _ (by decide)]
  refine r_i0 ?_
  refine r_name ?_
  with_reducible refine r_scut (fun σ' H1 => H1 = H ∧ ∃ (w h : Nat), (1 ≤ w ∧ w ≤ 24 ∧ 1 ≤ h ∧ h ≤ 24 ∧ w * h ≤ 144) ∧ σ' = [some (.ref a), some (.int k), some (.int 6), some (.int S), some (.int w), some (.int h), none, none, none, none, none]) (fun N hN => ?_) (fun σ' H1 hR => ?_)
  · have e1 : 1 + S % 6 = (((1 + S % 6).toNat : Nat) : Int) := by omega
    have e2 : 1 + S / 6 % 6 = (((1 + S / 6 % 6).toNat : Nat) : Int) := by omega
    walk_at "rd"
    refine r_i ⟨by decide, by decide⟩ ?_
    walk_at "rd"
    refine r_i ⟨by decide, by decide⟩ ?_
    walk_at "rd"
    refine r_i (by decide) ?_
    rw [Int.fdiv_eq_ediv_of_nonneg _ (by decide), Int.fdiv_eq_ediv_of_nonneg _ (by decide)]
    walk_at "rd"
    refine r_ifD (fun hc => ?_) fun hc => ?_
    · walk_at "rd"
      refine r_i ⟨by decide, by decide⟩ ?_
      walk_at "rd"
      refine r_i ⟨by decide, by decide⟩ ?_
      walk_at "rd"
      refine r_i ⟨by decide, by decide⟩ ?_
      walk_at "rd"
      refine r_i (by decide) ?_
      rw [Int.fdiv_eq_ediv_of_nonneg _ (by decide), Int.fdiv_eq_ediv_of_nonneg _ (by decide)]
      walk_at "rd"
      refine hN _ _ ⟨rfl, (1 + S / 6 / 6 / 8 % 24).toNat, (1 + S / 6 % 6).toNat, ⟨by omega, by omega, by omega, by omega, ?_⟩, ?_⟩
      · exact m144 (.inl ⟨by omega, by omega⟩)
      · rw [show (((1 + S / 6 / 6 / 8 % 24).toNat : Nat) : Int) = 1 + S / 6 / 6 / 8 % 24 by omega, ← e2]
        rfl
    · walk_at "rd"
      refine r_i ⟨by decide, by decide⟩ ?_
      walk_at "rd"
      refine r_i ⟨by decide, by decide⟩ ?_
      walk_at "rd"
      refine r_i (by decide) ?_
      rw [Int.fdiv_eq_ediv_of_nonneg _ (by decide), Int.fdiv_eq_ediv_of_nonneg _ (by decide)]
      walk_at "rd"
      refine r_ifD (fun hd => ?_) fun hd => ?_
      · walk_at "rd"
        refine r_i ⟨by decide, by decide⟩ ?_
        walk_at "rd"
        refine r_i ⟨by decide, by decide⟩ ?_
        walk_at "rd"
        refine r_i ⟨by decide, by decide⟩ ?_
        walk_at "rd"
        refine r_i (by decide) ?_
        rw [Int.fdiv_eq_ediv_of_nonneg _ (by decide), Int.fdiv_eq_ediv_of_nonneg _ (by decide)]
        walk_at "rd"
        refine hN _ _ ⟨rfl, (1 + S % 6).toNat, (1 + S / 6 / 6 / 8 % 24).toNat, ⟨by omega, by omega, by omega, by omega, ?_⟩, ?_⟩
        · exact m144 (.inr ⟨by omega, by omega⟩)
        · rw [show (((1 + S / 6 / 6 / 8 % 24).toNat : Nat) : Int) = 1 + S / 6 / 6 / 8 % 24 by omega, ← e1]
          rfl
      · walk_at "rd"
        refine hN _ _ ⟨rfl, (1 + S % 6).toNat, (1 + S / 6 % 6).toNat, ⟨by omega, by omega, by omega, by omega, ?_⟩, ?_⟩
        · exact m144 (.inr ⟨by omega, by omega⟩)
        · rw [← e1, ← e2]
          rfl
  · obtain ⟨rfl, w, h, ⟨w1, w2, h1, h2, hwh⟩, rfl⟩ := hR
    walk_at "rd"
    refine r_klst (len_le rfl) fun p1 H2 hp1 s1 e1 => ?_
    walk_at "rd"
    refine ⟨a, ns, k + 1, rfl, s1.seq hs, hz, ?_⟩
    generalize cellAt ns (k + 1) = S1
    walk_at "rd"
    refine r_i (by decide) ?_
    obtain ⟨m, hm⟩ : ∃ m : Nat, S1 % 4 = (m : Int) := ⟨(S1 % 4).toNat, by omega⟩
    have m4 : m < 4 := by omega
    rw [hm]
    have hh : ∃ hu : Int, ([16, 2, 3, 4] : List Int)[m]? = some hu ∧ 0 < hu := by
      have : ∀ m : Nat, m < 4 → ∃ hu : Int, ([16, 2, 3, 4] : List Int)[m]? = some hu ∧ 0 < hu := fun m hm => by
        match m, hm with
        | 0, _ => exact ⟨16, rfl, by decide⟩
        | 1, _ => exact ⟨2, rfl, by decide⟩
        | 2, _ => exact ⟨3, rfl, by decide⟩
        | 3, _ => exact ⟨4, rfl, by decide⟩
      exact this m m4
    obtain ⟨hu, hhu, hpos⟩ := hh
    refine r_ixL (v := .int hu) (SqL.of e1) (atI_nat (by
      have : ([V.int 16, V.int 2, V.int 3, V.int 4] : List V)[m]? = (([16, 2, 3, 4] : List Int).map V.int)[m]? := rfl
      rw [this, List.getElem?_map, hhu]
      rfl)) ?_
    walk_at "rd"
    refine ⟨a, ns, k + 1, rfl, s1.seq hs, hz, ?_⟩
    generalize cellAt ns (k + 1) = S2
    walk_at "rd"
    refine r_i ⟨by decide, by decide⟩ ?_
    walk_at "rd"
    refine r_i (by decide) ?_
    generalize S2 / 4 % 16 = b0
    walk_at "rd"
    refine ⟨a, ns, k + 2, rfl, s1.seq hs, hz, ?_⟩
    generalize cellAt ns (k + 2) = cs
    walk_at "rd"
    refine r_ki1 (by omega) (by omega) ?_
    have hrl : (picRows w h hu b0 cs).length = h := by simp [picRows]
    refine klc_pic (walk_range (lo := 0) (n := ((h : Nat) : Int).toNat)) (szl (by omega)) (fun _ _ => trivial) (picRows w h hu b0 cs) (by rw [hrl]; rfl) (fun i x H3 H4 r hr s3 y Z z => ?_) fun p H3 s3 hpn => ?_
    · obtain ⟨rfl, rfl⟩ := y
      have hi : i < h := by rw [← hrl]; exact (List.getElem?_eq_some_iff.mp hr).1
      have er : r = (List.range w).map fun x => picCell hu b0 cs i x := by
        rw [picRows, List.getElem?_map, List.getElem?_range hi] at hr
        exact (Option.some.inj hr).symm
      walk_at "rd"
      refine ⟨rfl, ?_⟩
      walk_at "rd"
      refine r_ki1 (by omega) (by omega) ?_
      refine klc_R (lo := 0) (n := ((w : Nat) : Int).toNat) (szl (by omega)) (fun x => .int (picCell hu b0 cs i x)) (fun x H5 hx s5 Z2 z2 => ?_) fun p2 H5 hp2 s5 e5 => ?_
      · walk_at "rd"
        refine ⟨rfl, ?_⟩
        walk_at "rd"
        refine r_i (.inl ⟨by decide, by decide⟩) ?_
        walk_at "rd"
        have hx' : x < w := by omega
        refine ⟨cs, 24 * i + x, by simp, ⟨by omega, by omega⟩, ?_⟩
        walk_at "rd"
        refine r_i (show hu ≠ 0 by omega) ?_
        walk_at "rd"
        refine r_i (by decide) ?_
        exact z2 H5 (Same.refl H5)
      · refine z p2 H5 s5 hp2 ?_
        show H5 p2 = _
        rw [e5, er, List.map_map]
        rfl
    · obtain ⟨np, ps, ep, mp, hps⟩ := hpn
      refine q p H3 (picRows w h hu b0 cs) (s1.trans s3) ⟨none_of s1 np, ps, ep, mp, fun x hx => ⟨none_of s1 (hps x hx).1, (hps x hx).2⟩⟩ (picRows_ok w1 w2 h1 h2) ?_
      rw [flat_len (w := w) fun r hr => ?_, hrl]
      · exact hwh
      · obtain ⟨y, _, rfl⟩ := List.mem_map.mp hr
        simp
end
end K44
set_option Elab.async false
set_option linter.all false
set_option maxRecDepth 100000
set_option maxHeartbeats 4000000
namespace K44
open PySem PySem.Spec PyProof.Rows L2
local macro_rules | `(tactic| walk_at "rd1") => `(tactic| first
  | ((with_reducible apply r_var); rfl)
  | ((with_reducible apply r_aug); rfl)
  | with_reducible apply r_isiI
  | with_reducible apply r_tslS
  | with_reducible apply r_try
  | with_reducible apply r_gsub
  | with_reducible apply r_irev
  | with_reducible apply r_trg1
  | with_reducible apply r_sfld
  | with_reducible apply r_afld
  | with_reducible apply r_rAdd
  | with_reducible apply r_dget
  | with_reducible apply r_din
  | with_reducible apply r_dnot
  | with_reducible apply r_dput
  | with_reducible apply r_ikeys
  | with_reducible apply r_m1
  | with_reducible apply r_km1
  | with_reducible apply r_inS
  | with_reducible apply r_notInS
  | with_reducible apply r_isN
  | with_reducible apply r_ip
  | with_reducible apply r_kbmS
  | with_reducible apply r_min2
  | with_reducible apply r_isiB
  | with_reducible apply r_isiS
  | with_reducible apply r_tyes
  | with_reducible apply iteT
  | with_reducible apply iteF
  | with_reducible apply r_nT
  | with_reducible apply r_nF
  | with_reducible apply r_callS
  | with_reducible apply r_meth
  | with_reducible apply r_methS
  | with_reducible apply r_methD
  | with_reducible apply r_make
  | with_reducible apply r_lc
  | with_reducible apply r_for
  | with_reducible apply r_ilist
  | with_reducible apply r_itup
  | with_reducible apply r_irng1
  | with_reducible apply r_irng2
  | with_reducible apply r_istr
  | with_reducible apply r_ienum
  | with_reducible apply r_izip
  | with_reducible apply r_izip3
  | with_reducible apply r_izip4
  | with_reducible apply r_kis
  | with_reducible apply r_c
  | with_reducible apply r_op
  | with_reducible apply r_un
  | with_reducible apply r_i0
  | with_reducible apply r_u
  | with_reducible apply r_eqI
  | with_reducible apply r_neI
  | with_reducible apply r_eqS
  | with_reducible apply r_neS
  | with_reducible apply r_test
  | with_reducible apply r_B
  | with_reducible apply r_bl
  | with_reducible apply r_int
  | with_reducible apply r_and
  | with_reducible apply r_or
  | with_reducible apply r_not
  | with_reducible apply r_andV
  | with_reducible apply r_orV
  | with_reducible apply r_notV
  | with_reducible apply r_chain
  | with_reducible apply r_tif
  | with_reducible apply r_nil
  | with_reducible apply r_cons
  | with_reducible apply r_cb
  | with_reducible apply r_call
  | with_reducible apply r_seq
  | with_reducible apply r_asg
  | with_reducible apply r_name
  | with_reducible apply r_drop
  | with_reducible apply r_ret
  | with_reducible apply r_retN
  | with_reducible apply r_next
  | with_reducible apply r_ifS
  | with_reducible apply r_tup
  | with_reducible apply r_lst
  | with_reducible apply r_sl
  | with_reducible apply r_nopart
  | with_reducible apply r_part
  | with_reducible apply r_fld
  | with_reducible apply r_bm
  | with_reducible apply r_bm0)
local macro_rules | `(tactic| walk_at "rd") => `(tactic| repeat (walk_at "rd1"))

theorem r_tcut {t : TT} {σ : L2.St} {H : Hp} {Q : Bool → Hp → Prop} (h : ∀ Z : Bool → Hp → Prop, (∀ b, Z b H) → t σ H Z) (k : ∀ b, Q b H) : t σ H Q := h Q k
theorem r_ixM {z : Str} {n : Int} {H : Hp} {Q : VK} (hz : Nat.ble z.length 1000 = true) (hp : Nat.ble 1 z.length = true) (q : ∀ f : Nat, f ∈ z.cps.toList → Q (.str ⟨#[f]⟩) H) :
    rI (fun _ j => j ≠ 0) (fun i j => V.int (i.fmod j)) (.int n) (.int (z.length : Nat)) H fun y H2 => rIxS (.str z) y H2 Q := by
  have h1 := len_le hp
  have h2 := len_le hz
  refine r_i (by omega) ?_
  obtain ⟨m, hm, hml⟩ : ∃ m : Nat, n.fmod (z.length : Int) = (m : Int) ∧ m < z.cps.toList.length := by
    rw [Int.fmod_eq_emod_of_nonneg _ (by omega)]
    have a := Int.emod_nonneg n (by omega : (z.length : Int) ≠ 0)
    have b := Int.emod_lt_of_pos n (by omega : (0 : Int) < (z.length : Int))
    refine ⟨(n % (z.length : Int)).toNat, by omega, ?_⟩
    rw [Array.length_toList]
    show _ < z.length
    omega
  rw [hm]
  exact r_ixS (szl (by omega)) (atI_nat (List.getElem?_eq_getElem hml)) (q _ (List.getElem_mem hml))
theorem of_all {l : List Nat} (h : l.all (fun c => decide (c < 1114112)) = true) {f : Nat} (hf : f ∈ l) : f < 1114112 := by simpa using List.all_eq_true.mp h f hf
def Chg (cs t : List Nat) : Prop := ∃ i, i < cs.length ∧ ((∃ f, f < 1114112 ∧ t = cs.take i ++ f :: cs.drop (i + 1)) ∨ ∃ x y, cs[i]? = some x ∧ cs[i + 1]? = some y ∧ t = cs.take i ++ y :: x :: cs.drop (i + 2))
def sp_law_changed : Sp := fun vs H Q _ => ∃ (cs : List Nat) (c : Int), vs = [.str (txt cs), .int c] ∧ (6 ≤ cs.length ∧ cs.length ≤ 100000) ∧ (∀ x ∈ cs, x ∈ SG) ∧ ∀ t H', Same H H' → Chg cs t → Q (.str (txt t)) H'
theorem sc_law_changed : FnScope ["_law_text", "_law_cell", "_law_signs", "_law_at", "_law_some", "_law_number"] ["_law_text", "_law_cell"] (defScope s_law_changed) := ⟨rfl, rfl, rfl, by decide +kernel, rfl, by decide +kernel, by decide +kernel⟩
section
theorem len_law_changed {vs : List V} {H : Hp} {Q : VK} {E : XK} (h : (sp_law_changed) vs H Q E) : vs.length = 2 := by
  repeat (obtain ⟨_, h⟩ := h)
  subst_vars; rfl
variable {P : Program} {w : World} {K : PySem.W.Frag} {mg : Str → Option Value} {base : Heap}
theorem ok_law_changed (T : Tx K mg) : Cal P w K mg base CX0 1 (He.ga K "_law_changed") ["_law_text", "_law_cell"] (sp_law_changed) := by
  obtain ⟨fd, F⟩ := T.F_law_changed
  refine ⟨⟨fd, F.ok sc_law_changed (fun vs H Q E h => len_law_changed h) (fun cdv A outer s H vs Q E hr h => ⟨_, PSs.nox (
      (pss_cons (ps_set (i := 2) sc_law_changed.nd rfl (Or.inl rfl) pe_str)
      (pss_cons (ps_set (i := 3) sc_law_changed.nd rfl (Or.inl rfl) (pe_op op_modN (pe_op op_fdiv (pv 1) pe_int) (pe_callB cal_lenS (by rfl) T.b_len PySem.boot_len (pa_cons (pv 0) pa_nil))))
      (pss_cons (ps_if (pt_cmpR op_eq (pe_op op_mod (pv 1) pe_int) pe_int (nomark _))
      (pss_one (ps_set (i := 3) sc_law_changed.nd rfl (Or.inl rfl) (pe_ix (ix_listK K) (pe_lst (pa_cons pe_int (pa_cons pe_int (pa_cons pe_int (pa_cons (pe_op op_sub (pe_callB cal_lenS (by rfl) T.b_len PySem.boot_len (pa_cons (pv 0) pa_nil)) pe_int) (pa_cons (pe_op op_sub (pe_callB cal_lenS (by rfl) T.b_len PySem.boot_len (pa_cons (pv 0) pa_nil)) pe_int) (pa_cons (pe_op op_sub (pe_callB cal_lenS (by rfl) T.b_len PySem.boot_len (pa_cons (pv 0) pa_nil)) pe_int) (pa_cons pe_int pa_nil)))))))) (pe_op op_mod (pe_op op_fdiv (pv 1) pe_int) pe_int) (fun _ _ => rfl)))) pss_nil)
      (pss_cons (ps_if (pt_cmpR op_eq (pe_op op_mod (pv 1) pe_int) pe_int (nomark _))
      (pss_cons (ps_set (i := 4) sc_law_changed.nd rfl (Or.inl rfl) pe_str)
      (pss_one (ps_ret (pe_op op_catS (pe_op op_catS (pe_slice sl_str (pv 0) po_none (po_some (pv 3))) (pe_ix ix_str (pv 4) (pe_op op_modN (pe_op op_fdiv (pv 1) pe_int) (pe_callB cal_lenS (by rfl) T.b_len PySem.boot_len (pa_cons (pv 4) pa_nil))) (fun _ _ => rfl))) (pe_slice sl_str (pv 0) (po_some (pe_op op_add (pv 3) pe_int)) po_none))))) pss_nil)
      (pss_cons (ps_if (PW.pt (pw_or (pt_cmpR op_gt (pe_op op_mod (pv 1) pe_int) pe_int (nomark _)) (pw_or1 (PW.pt (pw_and (pt_cmpR op_eq (pe_op op_mod (pv 1) pe_int) pe_int (nomark _)) (pw_and1 (pt_cmpR op_eq (pe_op op_mod (pe_op op_fdiv (pv 1) pe_int) pe_int) pe_int (nomark _))))))))
      (pss_cons (ps_set (i := 3) sc_law_changed.nd rfl (Or.inl rfl) (pe_callB (cal_min2 rfl) (by rfl) T.b_min (by decide +kernel) (pa_cons (pv 3) (pa_cons (pe_op op_sub (pe_callB cal_lenS (by rfl) T.b_len PySem.boot_len (pa_cons (pv 0) pa_nil)) pe_int) pa_nil))))
      (pss_one (ps_ret (pe_op op_catS (pe_op op_catS (pe_op op_catS (pe_slice sl_str (pv 0) po_none (po_some (pv 3))) (pe_ix ix_str (pv 0) (pe_op op_add (pv 3) pe_int) (fun _ _ => rfl))) (pe_ix ix_str (pv 0) (pv 3) (fun _ _ => rfl))) (pe_slice sl_str (pv 0) (po_some (pe_op op_add (pv 3) pe_int)) po_none))))) pss_nil)
      (pss_cons (ps_set (i := 5) sc_law_changed.nd rfl (Or.inl rfl) (pe_op op_add (pe_op op_add (pe_bmK K PySem.F.plainAttrs_str PySem.F.slot_str_index PySem.F.type_str_index mt_sindexK (pv 2) (pa_cons (pe_ix ix_str (pv 0) (pv 3) (fun _ _ => rfl)) pa_nil)) pe_int) (pe_op op_mod (pe_op op_fdiv (pv 1) pe_int) pe_int)))
      (pss_one (ps_ret (pe_op op_catS (pe_op op_catS (pe_slice sl_str (pv 0) po_none (po_some (pv 3))) (pe_ix ix_str (pv 2) (pe_op op_mod (pv 5) pe_int) (fun _ _ => rfl))) (pe_slice sl_str (pv 0) (po_some (pe_op op_add (pv 3) pe_int)) po_none))))))))))), ?_⟩), F.bindsN fun _ _ _ _ _ _ us hl => match us, hl with | [_, _], _ => rfl⟩, F.kp⟩
  obtain ⟨cs, c, rfl, ⟨hl, hl2⟩, hg, q⟩ := h
  have hln : (txt cs).length = cs.length := txt_len cs
  have hsz : (txt cs).length ≤ sizeLine := szl (by omega)
  walk_at "rd"
  refine r_i ⟨by decide, by decide⟩ ?_
  walk_at "rd"
  refine r_lenS hsz ?_
  rw [hln]
  refine r_i (by omega) ?_
  rw [Int.fmod_eq_emod_of_nonneg _ (by omega)]
  refine r_name ?_
  with_reducible refine r_scut (fun σ' H1 => Same H H1 ∧ ∃ i : Nat, i < cs.length ∧ σ' = [some (.str (txt cs)), some (.int c), some (.str SIG), some (.int i), none, none]) (fun N hN => ?_) (fun σ' H1 hR => ?_)
  · have h0 : 0 ≤ c / 8 % (cs.length : Int) := Int.emod_nonneg _ (by omega)
    have h1 : c / 8 % (cs.length : Int) < cs.length := Int.emod_lt_of_pos _ (by omega)
    walk_at "rd"
    refine r_i (by decide) ?_
    walk_at "rd"
    refine r_ifD (fun hc => ?_) fun hc => ?_
    · walk_at "rd"
      refine r_lenS hsz ?_
      walk_at "rd"
      refine r_lenS hsz ?_
      walk_at "rd"
      refine r_lenS hsz ?_
      walk_at "rd"
      refine r_klst (len_le rfl) fun p H2 hp s2 e2 => ?_
      walk_at "rd"
      refine r_i ⟨by decide, by decide⟩ ?_
      walk_at "rd"
      refine r_i (by decide) ?_
      obtain ⟨m, hm⟩ : ∃ m : Nat, c / 8 % 7 = (m : Int) := ⟨(c / 8 % 7).toNat, by omega⟩
      have m7 : m < 7 := by omega
      rw [hm]
      rw [hln] at e2
      have hh : ∃ j : Nat, j < cs.length ∧ ([V.int 0, V.int 3, V.int 4, V.int ((cs.length : Nat) - 1), V.int ((cs.length : Nat) - 2), V.int ((cs.length : Nat) - 3), V.int 5] : List V)[m]? = some (V.int (j : Int)) := by
        match m, m7 with
        | 0, _ => exact ⟨0, by omega, rfl⟩
        | 1, _ => exact ⟨3, by omega, rfl⟩
        | 2, _ => exact ⟨4, by omega, rfl⟩
        | 3, _ => exact ⟨cs.length - 1, by omega, by show some (V.int _) = _; congr 2; omega⟩
        | 4, _ => exact ⟨cs.length - 2, by omega, by show some (V.int _) = _; congr 2; omega⟩
        | 5, _ => exact ⟨cs.length - 3, by omega, by show some (V.int _) = _; congr 2; omega⟩
        | 6, _ => exact ⟨5, by omega, rfl⟩
      obtain ⟨j, hj, hhj⟩ := hh
      refine r_ixL (SqL.of e2) (atI_nat hhj) ?_
      walk_at "rd"
      exact hN _ _ ⟨s2, j, hj, rfl⟩
    · walk_at "rd"
      refine hN _ _ ⟨Same.refl H, (c / 8 % (cs.length : Int)).toNat, by omega, ?_⟩
      rw [Int.toNat_of_nonneg h0]
      rfl
  · obtain ⟨s1, i, hi, rfl⟩ := hR
    obtain ⟨x, hx⟩ : ∃ x, cs[i]? = some x := ⟨_, List.getElem?_eq_getElem hi⟩
    walk_at "rd"
    refine r_i (by decide) ?_
    walk_at "rd"
    refine r_ifD (fun hc => ?_) fun hc => ?_
    · walk_at "rd"
      refine r_slS hsz ?_
      rw [cutS_j, txt_list]
      walk_at "rd"
      refine r_i ⟨by decide, by decide⟩ ?_
      walk_at "rd"
      refine r_lenS (len_le rfl) ?_
      refine r_ixM rfl rfl fun f hf => ?_
      have hf2 := of_all (by decide +kernel) hf
      refine r_catS (szl ?_) ?_
      · rw [txt_len, List.length_take]
        show _ + 1 ≤ _
        omega
      walk_at "rd"
      refine r_slS hsz ?_
      rw [show (i : Int) + 1 = ((i + 1 : Nat) : Int) by omega, cutS_i, txt_list, txt_cat2]
      refine r_catS (szl ?_) ?_
      · rw [txt_len, txt_len, List.length_append, List.length_take, List.length_drop]
        show _ + 1 + _ ≤ _
        omega
      rw [← txt_cat2, txt_cat3]
      exact q _ _ s1 ⟨i, hi, .inl ⟨_, hf2, rfl⟩⟩
    · with_reducible refine r_next ?_
      with_reducible refine r_seq ?_
      with_reducible refine r_ifS ?_
      refine r_tcut (fun Z z => ?_) fun b => ?_
      · walk_at "rd"
        refine r_i (by decide) ?_
        walk_at "rd"
        refine r_ifD (fun hd => ?_) fun hd => ?_
        · exact z true
        walk_at "rd"
        refine r_i (by decide) ?_
        walk_at "rd"
        refine r_ifD (fun he => ?_) fun he => ?_
        · walk_at "rd"
          refine r_i ⟨by decide, by decide⟩ ?_
          walk_at "rd"
          refine r_i (by decide) ?_
          walk_at "rd"
          exact z _
        · exact z _
      · cases b
        · refine iteF ?_
          walk_at "rd"
          refine r_ixS hsz (by rw [txt_list]; exact atI_nat hx) ?_
          walk_at "rd"
          refine r_sindexG (hg x (List.mem_of_getElem? hx)) ?_
          walk_at "rd"
          refine r_i ⟨by decide, by decide⟩ ?_
          walk_at "rd"
          refine r_i (by decide) ?_
          walk_at "rd"
          refine r_slS hsz ?_
          rw [cutS_j, txt_list]
          walk_at "rd"
          refine r_i (by decide) ?_
          generalize (num x + 1 + c / 40000 % 63) = u
          obtain ⟨m, hm⟩ : ∃ m : Nat, u % 64 = (m : Int) := ⟨(u % 64).toNat, by omega⟩
          rw [hm]
          refine r_ixS (len_le rfl) (atI_nat (List.getElem?_eq_getElem (show m < SG.length by rw [sg_len]; omega))) ?_
          refine r_catS (szl ?_) ?_
          · rw [txt_len, List.length_take]
            show _ + 1 ≤ _
            omega
          walk_at "rd"
          refine r_slS hsz ?_
          rw [show (i : Int) + 1 = ((i + 1 : Nat) : Int) by omega, cutS_i, txt_list, txt_cat2]
          refine r_catS (szl ?_) ?_
          · rw [txt_len, txt_len, List.length_append, List.length_take, List.length_drop]
            show _ + 1 + _ ≤ _
            omega
          rw [← txt_cat2, txt_cat3]
          exact q _ _ s1 ⟨i, hi, .inl ⟨_, of_all (l := SG) (by decide +kernel) (List.getElem_mem _), rfl⟩⟩
        · refine iteT ?_
          walk_at "rd"
          refine r_lenS hsz ?_
          rw [hln]
          walk_at "rd"
          obtain ⟨j, hj, hj2⟩ : ∃ j : Nat, j + 1 < cs.length ∧ (if (cs.length : Int) - 2 < (i : Int) then (cs.length : Int) - 2 else (i : Int)) = (j : Int) := ⟨min i (cs.length - 2), by omega, by split <;> omega⟩
          rw [hj2]
          obtain ⟨x, hx⟩ : ∃ x, cs[j]? = some x := ⟨_, List.getElem?_eq_getElem (by omega)⟩
          obtain ⟨y, hy⟩ : ∃ y, cs[j + 1]? = some y := ⟨_, List.getElem?_eq_getElem hj⟩
          walk_at "rd"
          refine r_slS hsz ?_
          rw [cutS_j, txt_list]
          walk_at "rd"
          refine r_ixS hsz (by rw [txt_list]; exact atI_nat (j := j + 1) hy) ?_
          refine r_catS (szl ?_) ?_
          · rw [txt_len, List.length_take]
            show _ + 1 ≤ _
            omega
          walk_at "rd"
          refine r_ixS hsz (by rw [txt_list]; exact atI_nat hx) ?_
          rw [txt_cat2]
          refine r_catS (szl ?_) ?_
          · rw [txt_len, List.length_append, List.length_take]
            show _ + 1 + 1 ≤ _
            omega
          walk_at "rd"
          refine r_slS hsz ?_
          rw [show (j : Int) + 2 = ((j + 2 : Nat) : Int) by omega, cutS_i, txt_list, txt_cat2]
          refine r_catS (szl ?_) ?_
          · rw [txt_len, txt_len, List.length_append, List.length_append, List.length_take, List.length_drop]
            show _ + 1 + 1 + _ ≤ _
            omega
          rw [← txt_cat2, txt_cat3, List.append_assoc]
          exact q _ _ s1 ⟨j, by omega, .inr ⟨x, y, hx, hy, rfl⟩⟩
end
end K44
set_option Elab.async false
set_option linter.all false
set_option maxRecDepth 100000
set_option maxHeartbeats 4000000
namespace K44
open PySem PySem.Spec PyProof.Rows L2
local macro_rules | `(tactic| walk_at "rd1") => `(tactic| first
  | ((with_reducible apply r_var); rfl)
  | ((with_reducible apply r_aug); rfl)
  | with_reducible apply r_isiI
  | with_reducible apply r_tslS
  | with_reducible apply r_try
  | with_reducible apply r_gsub
  | with_reducible apply r_irev
  | with_reducible apply r_trg1
  | with_reducible apply r_sfld
  | with_reducible apply r_afld
  | with_reducible apply r_rAdd
  | with_reducible apply r_dget
  | with_reducible apply r_din
  | with_reducible apply r_dnot
  | with_reducible apply r_dput
  | with_reducible apply r_ikeys
  | with_reducible apply r_m1
  | with_reducible apply r_km1
  | with_reducible apply r_inS
  | with_reducible apply r_notInS
  | with_reducible apply r_isN
  | with_reducible apply r_ip
  | with_reducible apply r_kbmS
  | with_reducible apply r_min2
  | with_reducible apply r_isiB
  | with_reducible apply r_isiS
  | with_reducible apply r_tyes
  | with_reducible apply iteT
  | with_reducible apply iteF
  | with_reducible apply r_nT
  | with_reducible apply r_nF
  | with_reducible apply r_callS
  | with_reducible apply r_meth
  | with_reducible apply r_methS
  | with_reducible apply r_methD
  | with_reducible apply r_make
  | with_reducible apply r_lc
  | with_reducible apply r_for
  | with_reducible apply r_ilist
  | with_reducible apply r_itup
  | with_reducible apply r_irng1
  | with_reducible apply r_irng2
  | with_reducible apply r_istr
  | with_reducible apply r_ienum
  | with_reducible apply r_izip
  | with_reducible apply r_izip3
  | with_reducible apply r_izip4
  | with_reducible apply r_kis
  | with_reducible apply r_c
  | with_reducible apply r_op
  | with_reducible apply r_un
  | with_reducible apply r_i0
  | with_reducible apply r_u
  | with_reducible apply r_eqI
  | with_reducible apply r_neI
  | with_reducible apply r_eqS
  | with_reducible apply r_neS
  | with_reducible apply r_test
  | with_reducible apply r_B
  | with_reducible apply r_bl
  | with_reducible apply r_int
  | with_reducible apply r_and
  | with_reducible apply r_or
  | with_reducible apply r_not
  | with_reducible apply r_andV
  | with_reducible apply r_orV
  | with_reducible apply r_notV
  | with_reducible apply r_chain
  | with_reducible apply r_tif
  | with_reducible apply r_nil
  | with_reducible apply r_cons
  | with_reducible apply r_cb
  | with_reducible apply r_call
  | with_reducible apply r_seq
  | with_reducible apply r_asg
  | with_reducible apply r_name
  | with_reducible apply r_drop
  | with_reducible apply r_ret
  | with_reducible apply r_retN
  | with_reducible apply r_next
  | with_reducible apply r_ifS
  | with_reducible apply r_tup
  | with_reducible apply r_lst
  | with_reducible apply r_sl
  | with_reducible apply r_nopart
  | with_reducible apply r_part
  | with_reducible apply r_fld
  | with_reducible apply r_bm
  | with_reducible apply r_bm0)
local macro_rules | `(tactic| walk_at "rd") => `(tactic| repeat (walk_at "rd1"))

/-! What is due of a text that differs. -/
def refD (a b c d : Bool) (e : PyData) : PyData := .tuple [.str "refused", .list [.bool a, .bool b, .bool c, .bool d], .bool true, e]
open Classical in
noncomputable def dueD (cs : List Nat) : PyData :=
  if ∃ x ∈ cs, x ∉ SG then refD true false false false .none
  else if txt (cs.take 3) ≠ CF1 then refD false true false false .none
  else refD false false true false (.tuple [.int (dueOf (txt cs)), .int (foundOf (txt cs))])
theorem dueD_1 {cs : List Nat} (h : ∃ x ∈ cs, x ∉ SG) : dueD cs = refD true false false false .none := by unfold dueD; rw [if_pos h]
theorem dueD_2 {cs : List Nat} (h : ∀ x ∈ cs, x ∈ SG) (h2 : txt (cs.take 3) ≠ CF1) : dueD cs = refD false true false false .none := by
  unfold dueD; rw [if_neg (fun ⟨x, a, b⟩ => b (h x a)), if_pos h2]
theorem dueD_3 {cs : List Nat} (h : ∀ x ∈ cs, x ∈ SG) (h2 : txt (cs.take 3) = CF1) : dueD cs = refD false false true false (.tuple [.int (dueOf (txt cs)), .int (foundOf (txt cs))]) := by
  unfold dueD; rw [if_neg (fun ⟨x, a, b⟩ => b (h x a)), if_neg (fun z => z h2)]
section
variable {K : PySem.W.Frag} {H : Hp}
theorem dp_ref {p l : Addr} {a b c d : Bool} {v : V} {e : PyData} (hp : H p = some (.tup [.str "refused", .ref l, .bl true, v])) (hl : H l = some (.lst [.bl a, .bl b, .bl c, .bl d])) (hv : Dp K H v e) : Dp K H (.ref p) (refD a b c d e) :=
  .tup (SqT.of hp) (.cons (.str _) (.cons (.lst (SqL.of hl) (.cons (.bl _) (.cons (.bl _) (.cons (.bl _) (.cons (.bl _) .nil))))) (.cons (.bl _) (.cons hv .nil))))
theorem dp_two {p : Addr} {x y : Int} (hp : H p = some (.tup [.int x, .int y])) : Dp K H (.ref p) (.tuple [.int x, .int y]) := .tup (SqT.of hp) (.cons (.int _) (.cons (.int _) .nil))
end
theorem mapIdx_sum (k : Nat) : ∀ ns : List Int, (ns.mapIdx fun i n => ((i : Int) + (k : Int) + 1) * n).sum = chkFrom k ns
  | [] => rfl
  | n :: ns => by
    rw [List.mapIdx_cons, List.sum_cons]
    have ih := mapIdx_sum (k + 1) ns
    have e : (fun (i : Nat) (n : Int) => (((i + 1 : Nat) : Int) + (k : Int) + 1) * n) = fun (i : Nat) (n : Int) => ((i : Int) + ((k + 1 : Nat) : Int) + 1) * n := by
      funext i n
      congr 1
      omega
    rw [e, ih]
    show ((0 : Nat) + (k : Int) + 1) * n + chkFrom (k + 1) ns = ((k : Nat) + 1 : Int) * n + chkFrom (k + 1) ns
    congr 2
    omega
theorem mapIdx_int (f : Nat → Int → Int) (ns : List Int) : (ns.mapIdx f).map V.int = ns.mapIdx fun i n => V.int (f i n) := List.ext_getElem (by simp) (fun i h1 h2 => by simp)
theorem filter_none {cs : List Nat} (h : (cs.filter fun c => decide (c ∉ SG)) = []) : ∀ x ∈ cs, x ∈ SG := fun x hx => by
  have := List.filter_eq_nil_iff.mp h x hx
  simpa using this
def sp_law_due (K : PySem.W.Frag) : Sp := fun vs H Q _ => ∃ (cs : List Nat), vs = [.str (txt cs)] ∧ (7 ≤ cs.length ∧ cs.length ≤ 100000) ∧ (∀ x ∈ cs, x < 1114112) ∧ ∀ p H', Same H H' → Dp K H' (.ref p) (dueD cs) → Q (.ref p) H'
theorem sc_law_due : FnScope ["_law_text", "_law_signs", "_law_numbers", "_law_due_here", "_law_sign", "_law_k", "_law_number"] ["_law_text"] (defScope s_law_due) := ⟨rfl, rfl, rfl, by decide +kernel, rfl, by decide +kernel, by decide +kernel⟩
section
theorem len_law_due {K : PySem.W.Frag} {vs : List V} {H : Hp} {Q : VK} {E : XK} (h : (sp_law_due K) vs H Q E) : vs.length = 1 := by
  repeat (obtain ⟨_, h⟩ := h)
  subst_vars; rfl
variable {P : Program} {w : World} {K : PySem.W.Frag} {mg : Str → Option Value} {base : Heap}
theorem ok_law_due (T : Tx K mg) : Cal P w K mg base CX0 1 (He.ga K "_law_due") ["_law_text"] (sp_law_due K) := by
  obtain ⟨fd, F⟩ := T.F_law_due
  refine ⟨⟨fd, F.ok sc_law_due (fun vs H Q E h => len_law_due h) (fun cdv A outer s H vs Q E hr h => ⟨_, PSs.nox (
      (pss_cons (ps_set (i := 1) sc_law_due.nd rfl (Or.inr rfl) pe_str)
      (pss_cons (ps_if (pt_cmpR (op_neDK K hr.units) (pe_lc (own := [("_law_sign", 4)]) rfl sc_law_due.nd (pi_str (pv 0)) (blkOk_by (own := [("_law_sign", 4)]) (N := ["_law_text", "_law_signs", "_law_numbers", "_law_due_here", "_law_sign", "_law_k", "_law_number"]) (sc := defScope s_law_due) (by decide +kernel)) (fun _ _ _ _ _ => (pg_name (i := 4) sc_law_due.nd rfl (Or.inl rfl))) (fun _ _ _ _ _ => (pts_one (pt_cmpR op_notInS (pv 4) (pv 1) rfl))) (fun _ _ _ _ _ => (pv 4))) (pe_lst pa_nil) (nomark _))
      (pss_one (ps_ret (pe_tup (pa_cons pe_str (pa_cons (pe_lst (pa_cons pe_bl (pa_cons pe_bl (pa_cons pe_bl (pa_cons pe_bl pa_nil))))) (pa_cons pe_bl (pa_cons pe_non pa_nil))))))) pss_nil)
      (pss_cons (ps_if (pt_cmpR op_ne (pe_slice sl_str (pv 0) po_none (po_some pe_int)) pe_str (nomark _))
      (pss_one (ps_ret (pe_tup (pa_cons pe_str (pa_cons (pe_lst (pa_cons pe_bl (pa_cons pe_bl (pa_cons pe_bl (pa_cons pe_bl pa_nil))))) (pa_cons pe_bl (pa_cons pe_non pa_nil))))))) pss_nil)
      (pss_cons (ps_setLc (i := 2) (own := [("_law_sign", 4)]) rfl sc_law_due.nd rfl rfl (sw_true rfl rfl rfl (by decide +kernel)) (pi_str (pv 0)) (blkOk_by (own := [("_law_sign", 4)]) (N := ["_law_text", "_law_signs", "_law_numbers", "_law_due_here", "_law_sign", "_law_k", "_law_number"]) (sc := defScope s_law_due) (by decide +kernel)) (fun _ _ _ _ _ => (pg_name (i := 4) sc_law_due.nd rfl (Or.inl rfl))) (fun _ _ _ _ _ => pts_nil) (fun _ _ _ _ _ => (pe_bmK K PySem.F.plainAttrs_str PySem.F.slot_str_index PySem.F.type_str_index mt_sindexK (pv 1) (pa_cons (pv 4) pa_nil))))
      (pss_cons (ps_set (i := 3) sc_law_due.nd rfl (Or.inl rfl) (pe_op op_mod (pe_callB (cr_sumK K rfl) (by rfl) T.b_sum boot_sum (pa_cons (pe_lc (own := [("_law_k", 5), ("_law_number", 6)]) rfl sc_law_due.nd (pi_enumK K (by rfl) T.b_enumerate (pa_cons (pe_slice (sl_listK K) (pv 2) po_none (po_some (pe_un un_neg pe_int))) pa_nil)) (blkOk_by (own := [("_law_k", 5), ("_law_number", 6)]) (N := ["_law_text", "_law_signs", "_law_numbers", "_law_due_here", "_law_sign", "_law_k", "_law_number"]) (sc := defScope s_law_due) (by decide +kernel)) (fun _ _ _ _ _ => (pg_tupK (n := 2) K rfl (pgs_cons (pg_name (i := 5) sc_law_due.nd rfl (Or.inl rfl)) (pgs_cons (pg_name (i := 6) sc_law_due.nd rfl (Or.inl rfl)) pgs_nil)))) (fun _ _ _ _ _ => pts_nil) (fun _ _ _ _ _ => (pe_op op_mul (pe_op op_add (pv 5) pe_int) (pv 6)))) pa_nil)) pe_int))
      (pss_one (ps_ret (pe_tup (pa_cons pe_str (pa_cons (pe_lst (pa_cons pe_bl (pa_cons pe_bl (pa_cons pe_bl (pa_cons pe_bl pa_nil))))) (pa_cons pe_bl (pa_cons (pe_tup (pa_cons (pv 3) (pa_cons (pe_op op_add (pe_op op_mul pe_int (pe_ix (ix_listK K) (pv 2) (pe_un un_neg pe_int) (fun _ _ => rfl))) (pe_ix (ix_listK K) (pv 2) (pe_un un_neg pe_int) (fun _ _ => rfl))) pa_nil))) pa_nil))))))))))))), ?_⟩), F.bindsN fun _ _ _ _ _ _ us hl => match us, hl with | [_], _ => rfl⟩, F.kp⟩
  obtain ⟨cs, rfl, ⟨hl, hl2⟩, hok, q⟩ := h
  have hln : (txt cs).length = cs.length := txt_len cs
  have hsz : (txt cs).length ≤ sizeLine := szl (by omega)
  walk_at "rd"
  refine klc walk_str (fun _ _ => trivial) (fun i acc _ => acc = (((cs.take i).filter fun c => decide (c ∉ SG)).map fun c => (⟨#[c]⟩ : Str)).map V.str) rfl (fun D i x H1 H2 acc hi hD s e l r y => ?_) fun p1 H1 ys n1 s1 e1 l1 r1 => ?_
  · obtain ⟨rfl, c, hc, rfl⟩ := y
    have hc' : cs[i]? = some c := by rw [← txt_list cs, ← hc]; simp
    subst r
    walk_at "rd"
    refine ⟨rfl, ?_⟩
    walk_at "rd"
    have et : cs.take (i + 1) = cs.take i ++ [c] := by rw [List.take_add_one, hc']; rfl
    have hi2 : i < cs.length := (List.getElem?_eq_some_iff.mp hc').1
    refine r_ifN (fun hm => ?_) fun hm => ?_
    · walk_at "rd"
      refine r_kyes e l (szt (by omega)) s ?_
      have hm' : c ∉ SG := hm
      rw [et]
      simp [hm']
    · refine r_kno e l s ?_
      have hm' : c ∈ SG := hm
      rw [et]
      simp [hm']
  have ecs : cs.take (txt cs).cps.size = cs := List.take_of_length_le (by have : (txt cs).cps.size = (txt cs).length := rfl; omega)
  rw [ecs] at r1
  subst r1
  walk_at "rd"
  refine r_klst (len_le rfl) fun p2 H2 n2 s2 e2 => ?_
  have e2' : H2 p2 = some (.lst (([] : List Str).map V.str)) := e2
  refine r_neD (dp_S (SqL.of (s2 _ _ e1))) (dp_S (SqL.of e2')) (shaped_S fun z hz => ?_) (shaped_S (by simp)) ?_
  · obtain ⟨c, hc, rfl⟩ := List.mem_map.mp hz
    have := hok c (List.mem_filter.mp hc).1
    unfold PyData.strOk
    simpa using this
  rw [eqv_S]
  walk_at "rd"
  refine r_ifN (fun hne => ?_) fun hnil => ?_
  · walk_at "rd"
    refine r_klst (len_le rfl) fun p3 H3 n3 s3 e3 => ?_
    walk_at "rd"
    refine r_ktup (len_le rfl) fun p4 H4 n4 s4 e4 => ?_
    refine q p4 H4 (((s1.trans s2).trans s3).trans s4) ?_
    have hex : ∃ x ∈ cs, x ∉ SG := by
      by_cases hh : ∃ x ∈ cs, x ∉ SG
      · exact hh
      · exfalso
        refine hne ?_
        rw [List.map_eq_nil_iff, List.filter_eq_nil_iff]
        intro x hx
        have : x ∈ SG := by
          by_cases hs : x ∈ SG
          · exact hs
          · exact absurd ⟨x, hx, hs⟩ hh
        simp [this]
    rw [dueD_1 hex]
    exact dp_ref e4 (s4 _ _ e3) .non
  have hall : ∀ x ∈ cs, x ∈ SG := filter_none (List.map_eq_nil_iff.mp hnil)
  walk_at "rd"
  refine r_slS hsz ?_
  rw [show (3 : Int) = ((3 : Nat) : Int) from rfl, cutS_j, txt_list]
  walk_at "rd"
  refine r_ifN (fun hh => ?_) fun hh => ?_
  · walk_at "rd"
    refine r_klst (len_le rfl) fun p3 H3 n3 s3 e3 => ?_
    walk_at "rd"
    refine r_ktup (len_le rfl) fun p4 H4 n4 s4 e4 => ?_
    refine q p4 H4 (((s1.trans s2).trans s3).trans s4) ?_
    rw [dueD_2 hall hh]
    exact dp_ref e4 (s4 _ _ e3) .non
  rw [dueD_3 hall hh] at q
  walk_at "rd"
  refine klc_S hsz (fun c => .int (num c)) (fun c H3 hc s3 Z z => ?_) fun p3 H3 n3 s3 e3 => ?_
  · rw [txt_list] at hc
    walk_at "rd"
    refine ⟨rfl, ?_⟩
    walk_at "rd"
    refine r_sindexG (hall c hc) ?_
    exact z H3 (Same.refl H3)
  rw [txt_list] at e3
  have e3' : Ints H3 p3 (nums (txt cs)) := by
    show H3 p3 = _
    rw [e3]
    unfold nums
    rw [txt_list, List.map_map]
    rfl
  have hnl : (nums (txt cs)).length = cs.length := by unfold nums; rw [List.length_map, txt_list]
  walk_at "rd"
  refine r_slL (ints_sq e3') fun p4 H4 n4 s4 e4 => ?_
  rw [show (-2 : Int) = -((2 : Nat) : Int) from rfl, cutI_neg _ _ (by decide)] at e4
  walk_at "rd"
  refine r_kie (SqL.of e4) ?_
  refine klc_E (SqL.of e4) (szl (by rw [List.length_take]; omega)) (fun i n => .int (((i : Int) + 1) * n)) (fun i n T2 H5 hn s5 hT Z z => ?_) fun p5 H5 n5 s5 e5 => ?_
  · have hi : i < cs.length := by
      have := (List.getElem?_eq_some_iff.mp hn).1
      rw [List.length_take] at this
      omega
    refine r_gt2 (SqT.of hT) ⟨rfl, ?_⟩
    walk_at "rd"
    refine r_i (.inl ⟨by omega, by omega⟩) ?_
    exact z H5 (Same.refl H5)
  walk_at "rd"
  refine r_sum (ns := ((nums (txt cs)).take ((nums (txt cs)).length - 2)).mapIdx fun i n => ((i : Int) + 1) * n) (by rw [mapIdx_int]; exact SqL.of e5) ?_
  have esum : (((nums (txt cs)).take ((nums (txt cs)).length - 2)).mapIdx fun i n => ((i : Int) + 1) * n).sum = chkFrom 0 ((nums (txt cs)).take ((nums (txt cs)).length - 2)) := by
    rw [← mapIdx_sum 0]
    congr 1
  rw [esum]
  walk_at "rd"
  refine r_i (show (0 : Int) < 4093 by decide) ?_
  walk_at "rd"
  refine r_klst (len_le rfl) fun p6 H6 n6 s6 e6 => ?_
  have e36 := s6 _ _ (s5 _ _ (s4 _ _ e3'))
  have g2 : (nums (txt cs))[(nums (txt cs)).length - 2]? = some ((nums (txt cs)).getD ((nums (txt cs)).length - 2) 0) := getD_in (by omega)
  have g1 : (nums (txt cs))[(nums (txt cs)).length - 1]? = some ((nums (txt cs)).getD ((nums (txt cs)).length - 1) 0) := getD_in (by omega)
  walk_at "rd"
  refine r_ixL (ints_sq e36) (v := .int ((nums (txt cs)).getD ((nums (txt cs)).length - 2) 0)) (atI_neg (j := 2) (by decide) (by simp; omega) ?_) ?_
  · rw [List.length_map]; exact ints_at g2
  refine r_i (.inl ⟨by decide, by decide⟩) ?_
  walk_at "rd"
  refine r_ixL (ints_sq e36) (v := .int ((nums (txt cs)).getD ((nums (txt cs)).length - 1) 0)) (atI_neg (j := 1) (by decide) (by simp; omega) ?_) ?_
  · rw [List.length_map]; exact ints_at g1
  walk_at "rd"
  refine r_ktup (len_le rfl) fun p7 H7 n7 s7 e7 => ?_
  walk_at "rd"
  refine r_ktup (len_le rfl) fun p8 H8 n8 s8 e8 => ?_
  refine q p8 H8 (((((((s1.trans s2).trans s3).trans s4).trans s5).trans s6).trans s7).trans s8) ?_
  refine dp_ref e8 (s8 _ _ (s7 _ _ e6)) (dp_two ?_)
  rw [s8 _ _ e7]
  unfold dueOf foundOf chk
  rw [Int.mul_comm 64]
end
end K44
set_option Elab.async false
set_option linter.all false
set_option maxRecDepth 100000
set_option maxHeartbeats 4000000
namespace K44
open PySem PySem.Spec PyProof.Rows L2
local macro_rules | `(tactic| walk_at "rd1") => `(tactic| first
  | ((with_reducible apply r_var); rfl)
  | ((with_reducible apply r_aug); rfl)
  | with_reducible apply r_isiI
  | with_reducible apply r_tslS
  | with_reducible apply r_try
  | with_reducible apply r_gsub
  | with_reducible apply r_irev
  | with_reducible apply r_trg1
  | with_reducible apply r_sfld
  | with_reducible apply r_afld
  | with_reducible apply r_rAdd
  | with_reducible apply r_dget
  | with_reducible apply r_din
  | with_reducible apply r_dnot
  | with_reducible apply r_dput
  | with_reducible apply r_ikeys
  | with_reducible apply r_m1
  | with_reducible apply r_km1
  | with_reducible apply r_inS
  | with_reducible apply r_notInS
  | with_reducible apply r_isN
  | with_reducible apply r_ip
  | with_reducible apply r_kbmS
  | with_reducible apply r_min2
  | with_reducible apply r_isiB
  | with_reducible apply r_isiS
  | with_reducible apply r_tyes
  | with_reducible apply iteT
  | with_reducible apply iteF
  | with_reducible apply r_nT
  | with_reducible apply r_nF
  | with_reducible apply r_callS
  | with_reducible apply r_meth
  | with_reducible apply r_methS
  | with_reducible apply r_methD
  | with_reducible apply r_make
  | with_reducible apply r_lc
  | with_reducible apply r_for
  | with_reducible apply r_ilist
  | with_reducible apply r_itup
  | with_reducible apply r_irng1
  | with_reducible apply r_irng2
  | with_reducible apply r_istr
  | with_reducible apply r_ienum
  | with_reducible apply r_izip
  | with_reducible apply r_izip3
  | with_reducible apply r_izip4
  | with_reducible apply r_kis
  | with_reducible apply r_c
  | with_reducible apply r_op
  | with_reducible apply r_un
  | with_reducible apply r_i0
  | with_reducible apply r_u
  | with_reducible apply r_eqI
  | with_reducible apply r_neI
  | with_reducible apply r_eqS
  | with_reducible apply r_neS
  | with_reducible apply r_test
  | with_reducible apply r_B
  | with_reducible apply r_bl
  | with_reducible apply r_int
  | with_reducible apply r_and
  | with_reducible apply r_or
  | with_reducible apply r_not
  | with_reducible apply r_andV
  | with_reducible apply r_orV
  | with_reducible apply r_notV
  | with_reducible apply r_chain
  | with_reducible apply r_tif
  | with_reducible apply r_nil
  | with_reducible apply r_cons
  | with_reducible apply r_cb
  | with_reducible apply r_call
  | with_reducible apply r_seq
  | with_reducible apply r_asg
  | with_reducible apply r_name
  | with_reducible apply r_drop
  | with_reducible apply r_ret
  | with_reducible apply r_retN
  | with_reducible apply r_next
  | with_reducible apply r_ifS
  | with_reducible apply r_tup
  | with_reducible apply r_lst
  | with_reducible apply r_sl
  | with_reducible apply r_nopart
  | with_reducible apply r_part
  | with_reducible apply r_fld
  | with_reducible apply r_bm
  | with_reducible apply r_bm0)
local macro_rules | `(tactic| walk_at "rd") => `(tactic| repeat (walk_at "rd1"))

/-! How an album's text is told of. -/
/-- what is refused, and how that is told -/
def Ref (z : Str) (d : PyData) : Prop :=
  ((∃ c ∈ z.cps.toList, c ∉ SG) ∧ d = refD true false false false .none) ∨
  ((∀ c ∈ z.cps.toList, c ∈ SG) ∧ headBad z ∧ d = refD false true false false .none) ∨
  ((∀ c ∈ z.cps.toList, c ∈ SG) ∧ ¬ headBad z ∧ dueOf z ≠ foundOf z ∧ d = refD false false true false (.tuple [.int (dueOf z), .int (foundOf z)])) ∨
  (∃ xs, GoodText z xs ∧ openM xs = none ∧ PalsIn xs ∧ (∀ ys, GoodText z ys → ys = xs) ∧ d = refD false false false true .none)
structure CaseE (K : PySem.W.Frag) (H : Hp) (C : Addr) (d : Option Addr) (b1 b2 b3 b4 : Bool) (e : PyData) : Prop where
  ex : PySem.W.exmOne K (.ref C) (.ref (He.ga K "FolioError")) = some true
  c : ExcC K C
  k1 : PySem.W.kitOne K (.ref C) (.ref (He.ga K "BadText")) = some b1
  k2 : PySem.W.kitOne K (.ref C) (.ref (He.ga K "BadHead")) = some b2
  k3 : PySem.W.kitOne K (.ref C) (.ref (He.ga K "BadCheck")) = some b3
  k4 : PySem.W.kitOne K (.ref C) (.ref (He.ga K "BadPart")) = some b4
  kv : PySem.W.kitOne K (.ref C) (.type "ValueError") = some true
  dd : ∀ x, d = some x → ∃ fs, H x = some (.xd fs)
  b : (b3 = false ∧ e = .none) ∨ (b3 = true ∧ C = He.ga K "BadCheck" ∧ ∃ (x : Addr) (m n : Int), d = some x ∧ H x = some (.xd [("found", .int n), ("due", .int m)]) ∧ e = .tuple [.int m, .int n])
theorem told_cut {K : PySem.W.Frag} {mg : Str → Option Value} (T : Tx K mg) {z : Str} {d : PyData} {H : Hp} {Q : VK} {E : XK} (hz : z.length ≤ 100000) (hr : Ref z d)
    (main : ∀ C dx b1 b2 b3 b4 e H1, Same H H1 → CaseE K H1 C dx b1 b2 b3 b4 e → d = refD b1 b2 b3 b4 e → E (.ref C) dx H1) : sp_opened_album K [.str z] H Q E := by
  have gsg : ∀ xs, GoodText z xs → ∀ c ∈ z.cps.toList, c ∈ SG := fun xs g => (good_nums g).2
  have gdf : ∀ xs, GoodText z xs → dueOf z = foundOf z := fun xs g => by
    obtain ⟨_, a, b⟩ := good_chk g
    rw [a, b]
  have cT : ∀ {H1 : Hp}, CaseE K H1 (He.ga K "BadText") none true false false false .none := fun {H1} => ⟨T.e_BadText_FolioError, excC_of (T.more 6 rfl), of_decide_eq_true (T.more 11 rfl), of_decide_eq_true (T.more 12 rfl), of_decide_eq_true (T.more 13 rfl), of_decide_eq_true (T.more 14 rfl), of_decide_eq_true (T.more 28 rfl), fun x h => (by cases h), .inl ⟨rfl, rfl⟩⟩
  have cH : ∀ {H1 : Hp}, CaseE K H1 (He.ga K "BadHead") none false true false false .none := fun {H1} => ⟨T.e_BadHead_FolioError, excC_of (T.more 7 rfl), of_decide_eq_true (T.more 15 rfl), of_decide_eq_true (T.more 16 rfl), of_decide_eq_true (T.more 17 rfl), of_decide_eq_true (T.more 18 rfl), of_decide_eq_true (T.more 29 rfl), fun x h => (by cases h), .inl ⟨rfl, rfl⟩⟩
  have cP : ∀ {H1 : Hp}, CaseE K H1 (He.ga K "BadPart") none false false false true .none := fun {H1} => ⟨T.e_BadPart_FolioError, excC_of (T.more 9 rfl), of_decide_eq_true (T.more 23 rfl), of_decide_eq_true (T.more 24 rfl), of_decide_eq_true (T.more 25 rfl), of_decide_eq_true (T.more 26 rfl), of_decide_eq_true (T.more 31 rfl), fun x h => (by cases h), .inl ⟨rfl, rfl⟩⟩
  have cC : ∀ {H1 : Hp} {x : Addr} {m n : Int}, H1 x = some (.xd [("found", .int n), ("due", .int m)]) → CaseE K H1 (He.ga K "BadCheck") (some x) false false true false (.tuple [.int m, .int n]) := fun {H1 x m n} hx => ⟨T.e_BadCheck_FolioError, excC_of (T.more 8 rfl), of_decide_eq_true (T.more 19 rfl), of_decide_eq_true (T.more 20 rfl), of_decide_eq_true (T.more 21 rfl), of_decide_eq_true (T.more 22 rfl), of_decide_eq_true (T.more 30 rfl), fun y h => (by cases h; exact ⟨_, hx⟩), .inr ⟨rfl, rfl, x, m, n, rfl, hx, rfl⟩⟩
  refine ⟨z, rfl, hz, fun h1 h2 h3 => ?_, fun xs g => ?_, fun hb H1 s1 => ?_, fun h1 hb H1 s1 => ?_, fun h1 h2 h3 x H1 s1 nx hx => ?_, fun xs g => ⟨fun ho H1 s1 => ?_, fun r ho => ?_⟩⟩
  · rcases hr with ⟨⟨c, a, b⟩, _⟩ | ⟨_, b, _⟩ | ⟨_, _, b, _⟩ | ⟨xs, g, _⟩
    · exact absurd (h1 c a) b
    · exact absurd b h2
    · exact absurd h3 b
    · exact ⟨xs, g⟩
  · rcases hr with ⟨⟨c, a, b⟩, _⟩ | ⟨_, b, _⟩ | ⟨_, _, b, _⟩ | ⟨ys, _, _, p, u, _⟩
    · exact absurd (gsg xs g c a) b
    · exact absurd b (good_head g)
    · exact absurd (gdf xs g) b
    · rw [u xs g]; exact p
  · rcases hr with ⟨_, e⟩ | ⟨a, _⟩ | ⟨a, _⟩ | ⟨ys, g, _⟩
    · exact main _ _ _ _ _ _ _ H1 s1 cT e
    · exact hb.elim fun c h => absurd (a c h.1) h.2
    · exact hb.elim fun c h => absurd (a c h.1) h.2
    · exact hb.elim fun c h => absurd (gsg ys g c h.1) h.2
  · rcases hr with ⟨⟨c, a, b⟩, _⟩ | ⟨_, _, e⟩ | ⟨_, b, _⟩ | ⟨ys, g, _⟩
    · exact absurd (h1 c a) b
    · exact main _ _ _ _ _ _ _ H1 s1 cH e
    · exact absurd hb b
    · exact absurd hb (good_head g)
  · rcases hr with ⟨⟨c, a, b⟩, _⟩ | ⟨_, b, _⟩ | ⟨_, _, _, e⟩ | ⟨ys, g, _⟩
    · exact absurd (h1 c a) b
    · exact absurd b h2
    · exact main _ _ _ _ _ _ _ H1 s1 (cC hx) e
    · exact absurd (gdf ys g) h3
  · rcases hr with ⟨⟨c, a, b⟩, _⟩ | ⟨_, b, _⟩ | ⟨_, _, b, _⟩ | ⟨ys, _, _, p, u, e⟩
    · exact absurd (gsg xs g c a) b
    · exact absurd b (good_head g)
    · exact absurd (gdf xs g) b
    · exact main _ _ _ _ _ _ _ H1 s1 cP e
  · rcases hr with ⟨⟨c, a, b⟩, _⟩ | ⟨_, b, _⟩ | ⟨_, _, b, _⟩ | ⟨ys, _, o, p, u, e⟩
    · exact absurd (gsg xs g c a) b
    · exact absurd b (good_head g)
    · exact absurd (gdf xs g) b
    · rw [u xs g, o] at ho
      cases ho
def sp_law_told (K : PySem.W.Frag) : Sp := fun vs H Q _ => ∃ (z : Str) (d : PyData), vs = [.str z] ∧ z.length ≤ 100000 ∧ Ref z d ∧ ∀ p H', Same H H' → Dp K H' (.ref p) d → Q (.ref p) H'
theorem sc_law_told : FnScope ["_law_text", "e", "_law_names_here", "_law_checks"] ["_law_text"] (defScope s_law_told) := ⟨rfl, rfl, rfl, by decide +kernel, rfl, by decide +kernel, by decide +kernel⟩
section
theorem len_law_told {K : PySem.W.Frag} {vs : List V} {H : Hp} {Q : VK} {E : XK} (h : (sp_law_told K) vs H Q E) : vs.length = 1 := by
  repeat (obtain ⟨_, h⟩ := h)
  subst_vars; rfl
variable {P : Program} {w : World} {K : PySem.W.Frag} {mg : Str → Option Value} {base : Heap}
theorem ok_law_told (T : Tx K mg) : Cal P w K mg base CX0 10 (He.ga K "_law_told") ["_law_text"] (sp_law_told K) := by
  obtain ⟨fd, F⟩ := T.F_law_told
  refine ⟨⟨fd, F.ok sc_law_told (fun vs H Q E h => len_law_told h) (fun cdv A outer s H vs Q E hr h => ⟨_, PSs.nox (
      (pss_one (ps_as (i := 1) rfl rfl sc_law_told.nd rfl rfl ⟨rfl, by decide, .inl T.gx_FolioError⟩ takes0
      (fun W pn xe tk po => (pss_one (ps_ret (pe_lst (pa_cons (pe_calS (ok_opened_album T) hr (by decide) (by rfl) T.g_opened_album (fun σ => L2.passAt tk σ) (pa_cons (pv 0) pa_nil)) pa_nil)))))
      (fun a oe cls d pn hz hf => (pss_cons (ps_set (i := 2) sc_law_told.nd rfl (Or.inl rfl) (pe_lst (pa_cons (pe_callB (call_isC K hz hf) (by rfl) T.b_isinstance boot_isinstance (pa_cons (pv 1) (pa_cons (C8.pe_gc (v := .ref (He.ga K "BadText")) (by rfl) ⟨_, T.gx_BadText, rfl⟩) pa_nil))) (pa_cons (pe_callB (call_isC K hz hf) (by rfl) T.b_isinstance boot_isinstance (pa_cons (pv 1) (pa_cons (C8.pe_gc (v := .ref (He.ga K "BadHead")) (by rfl) ⟨_, T.gx_BadHead, rfl⟩) pa_nil))) (pa_cons (pe_callB (call_isC K hz hf) (by rfl) T.b_isinstance boot_isinstance (pa_cons (pv 1) (pa_cons (C8.pe_gc (v := .ref (He.ga K "BadCheck")) (by rfl) ⟨_, T.gx_BadCheck, rfl⟩) pa_nil))) (pa_cons (pe_callB (call_isC K hz hf) (by rfl) T.b_isinstance boot_isinstance (pa_cons (pv 1) (pa_cons (C8.pe_gc (v := .ref (He.ga K "BadPart")) (by rfl) ⟨_, T.gx_BadPart, rfl⟩) pa_nil))) pa_nil))))))
      (pss_cons (ps_set (i := 3) sc_law_told.nd rfl (Or.inl rfl) (pe_ifExp (pt_val (pe_callB (call_isC K hz hf) (by rfl) T.b_isinstance boot_isinstance (pa_cons (pv 1) (pa_cons (C8.pe_gc (v := .ref (He.ga K "BadCheck")) (by rfl) ⟨_, T.gx_BadCheck, rfl⟩) pa_nil)))) (pe_tup (pa_cons (pe_xf (xfB_ok (T.more 3 rfl)) (of_decide_eq_true (T.more 1 rfl)) hz hf (pv 1)) (pa_cons (pe_xf (xfB_ok (T.more 3 rfl)) (of_decide_eq_true (T.more 2 rfl)) hz hf (pv 1)) pa_nil))) pe_non))
      (pss_one (ps_ret (pe_tup (pa_cons pe_str (pa_cons (pv 2) (pa_cons (pe_callB (call_isC K hz hf) (by rfl) T.b_isinstance boot_isinstance (pa_cons (pv 1) (pa_cons (pe_bltn (v := .ty "ValueError") (by rfl) T.b_ValueError (by decide +kernel) rfl) pa_nil))) (pa_cons (pv 3) pa_nil))))))))))))), ?_⟩), F.bindsN fun _ _ _ _ _ _ us hl => match us, hl with | [_], _ => rfl⟩, F.kp⟩
  obtain ⟨z, d, rfl, hz, hr, q⟩ := h
  refine r_as ?_
  walk_at "rd"
  refine told_cut T hz hr fun C dx b1 b2 b3 b4 e H1 s1 ce ed => ?_
  refine ⟨true, ce.ex, fun _ a na => ?_, fun z => by cases z⟩
  subst ed
  walk_at "rd"
  refine ⟨.ref _, .ref (He.ga K "BadText"), C, b1, rfl, rfl, ce.c, ce.dd, fun u r => r, ce.k1, ?_⟩
  walk_at "rd"
  refine ⟨.ref _, .ref (He.ga K "BadHead"), C, b2, rfl, rfl, ce.c, ce.dd, fun u r => r, ce.k2, ?_⟩
  walk_at "rd"
  refine ⟨.ref _, .ref (He.ga K "BadCheck"), C, b3, rfl, rfl, ce.c, ce.dd, fun u r => r, ce.k3, ?_⟩
  walk_at "rd"
  refine ⟨.ref _, .ref (He.ga K "BadPart"), C, b4, rfl, rfl, ce.c, ce.dd, fun u r => r, ce.k4, ?_⟩
  walk_at "rd"
  refine r_klst (len_le rfl) fun p2 H2 n2 s2 e2 => ?_
  walk_at "rd"
  have dd2 : ∀ x, dx = some x → ∃ fs, H2 x = some (.xd fs) := fun x h => (ce.dd x h).imp fun _ h => s2 _ _ h
  refine ⟨.ref _, .ref (He.ga K "BadCheck"), C, b3, rfl, rfl, ce.c, dd2, fun u r => r, ce.k3, ?_⟩
  walk_at "rd"
  rcases ce.b with ⟨rfl, rfl⟩ | ⟨rfl, rfl, x, m, n, rfl, hx, rfl⟩
  · refine iteF ?_
    walk_at "rd"
    refine ⟨.ty "ValueError", .type "ValueError", C, true, rfl, rfl, ce.c, dd2, fun u r => r, ce.kv, ?_⟩
    walk_at "rd"
    refine r_ktup (len_le rfl) fun p3 H3 n3 s3 e3 => ?_
    exact q p3 H3 ((s1.trans s2).trans s3) (dp_ref e3 (s3 _ _ e2) .non)
  · refine iteT ?_
    walk_at "rd"
    have hx2 := s2 _ _ hx
    refine ⟨.ref a, rfl, rfl, rfl, x, _, .int m, rfl, hx2, rfl, ?_⟩
    walk_at "rd"
    refine ⟨.ref a, rfl, rfl, rfl, x, _, .int n, rfl, hx2, rfl, ?_⟩
    walk_at "rd"
    refine r_ktup (len_le rfl) fun p3 H3 n3 s3 e3 => ?_
    walk_at "rd"
    have dd3 : ∀ y, some x = some y → ∃ fs, H3 y = some (.xd fs) := fun y h => (dd2 y h).imp fun _ h => s3 _ _ h
    refine ⟨.ty "ValueError", .type "ValueError", _, true, rfl, rfl, ce.c, dd3, fun u r => r, ce.kv, ?_⟩
    walk_at "rd"
    refine r_ktup (len_le rfl) fun p4 H4 n4 s4 e4 => ?_
    exact q p4 H4 (((s1.trans s2).trans s3).trans s4) (dp_ref e4 (s4 _ _ (s3 _ _ e2)) (dp_two (s4 _ _ e3)))
end
end K44
set_option Elab.async false
set_option linter.all false
set_option maxRecDepth 100000
set_option maxHeartbeats 4000000
namespace K44
open PySem PySem.Spec PyProof.Rows L2
/-! The plain law: a text that differs is refused as is due; what a folio's text says back is one thing. -/
def wsum (f : Nat → Int) : Nat → List Int → Int
  | _, [] => 0
  | k, n :: r => f k * n + wsum f (k + 1) r
theorem wsum_append (f : Nat → Int) (k : Nat) : ∀ (a b : List Int), wsum f k (a ++ b) = wsum f k a + wsum f (k + a.length) b
  | [], b => by simp [wsum]
  | n :: a, b => by
    show f k * n + wsum f (k + 1) (a ++ b) = f k * n + wsum f (k + 1) a + wsum f (k + (a.length + 1)) b
    rw [wsum_append f (k + 1) a b, show k + 1 + a.length = k + (a.length + 1) by omega]
    omega
theorem wsum_chk {f : Nat → Int} {N : Nat} (h : ∀ i, i < N → f i = (i : Int) + 1) : ∀ (k : Nat) (a : List Int), k + a.length ≤ N → wsum f k a = chkFrom k a
  | _, [], _ => rfl
  | k, n :: a, hl => by
    simp only [List.length_cons] at hl
    show f k * n + wsum f (k + 1) a = ((k : Nat) + 1 : Int) * n + chkFrom (k + 1) a
    rw [wsum_chk h (k + 1) a (by omega), h k (by omega)]
def wt (n i : Nat) : Int := if i < n then (i : Int) + 1 else if i = n then -64 else -1
theorem two_of {α : Type} {l : List α} (h : l.length = 2) : ∃ a b, l = [a, b] := by
  match l, h with
  | [a, b], _ => exact ⟨a, b, rfl⟩
theorem wsum_whole {ms : List Int} {n : Nat} (h : ms.length = n + 2) : wsum (wt n) 0 ms = chkFrom 0 (ms.take n) - (ms.getD n 0 * 64 + ms.getD (n + 1) 0) := by
  obtain ⟨a, b, hab⟩ := two_of (show (ms.drop n).length = 2 by rw [List.length_drop]; omega)
  have g0 : ms[n]? = some a := by
    have : (ms.drop n)[0]? = some a := by rw [hab]; rfl
    rw [List.getElem?_drop] at this
    exact this
  have g1 : ms[n + 1]? = some b := by
    have : (ms.drop n)[1]? = some b := by rw [hab]; rfl
    rw [List.getElem?_drop] at this
    exact this
  rw [List.getD_eq_getElem?_getD, List.getD_eq_getElem?_getD, g0, g1]
  have e : ms = ms.take n ++ [a, b] := by rw [← hab, List.take_append_drop]
  have hl : (ms.take n).length = n := by rw [List.length_take]; omega
  conv => lhs; rw [e]
  rw [wsum_append, hl, wsum_chk (N := n) (fun i hi => by unfold wt; rw [if_pos hi]) 0 (ms.take n) (by omega)]
  have w0 : wt n (0 + n) = -64 := by unfold wt; rw [if_neg (by omega), if_pos (by omega)]
  have w1 : wt n (0 + n + 1) = -1 := by unfold wt; rw [if_neg (by omega), if_neg (by omega)]
  show chkFrom 0 (ms.take n) + (wt n (0 + n) * a + (wt n (0 + n + 1) * b + 0)) = _
  rw [w0, w1]
  show _ = chkFrom 0 (ms.take n) - (a * 64 + b)
  omega
theorem due_found {t : List Nat} {n : Nat} (hl : t.length = n + 2) : (dueOf (txt t) - foundOf (txt t) - wsum (wt n) 0 (t.map num)) % 4093 = 0 := by
  have e : nums (txt t) = t.map num := by unfold nums; rw [txt_list]
  unfold dueOf foundOf chk
  rw [e, List.length_map, hl, show n + 2 - 2 = n by omega, show n + 2 - 1 = n + 1 by omega, wsum_whole (by rw [List.length_map]; exact hl)]
  omega
theorem p4093 {a b : Int} (h : (4093 : Int) ∣ a * b) (h0 : b ≠ 0) (h1 : -64 < b) (h2 : b < 64) : (4093 : Int) ∣ a := by
  have k : (4093 : Nat) ∣ a.natAbs * b.natAbs := by
    rw [← Int.natAbs_mul]
    exact Int.natAbs_dvd_natAbs.mpr h
  have c : Nat.Coprime 4093 b.natAbs := by
    have : ∀ m : Nat, m < 64 → 0 < m → Nat.gcd 4093 m = 1 := by decide +kernel
    exact this _ (by omega) (by omega)
  exact Int.natAbs_dvd_natAbs.mp (c.dvd_of_dvd_mul_right k)
theorem split_at {α : Type} {cs : List α} {i : Nat} {x : α} (h : cs[i]? = some x) : cs = cs.take i ++ x :: cs.drop (i + 1) := by
  obtain ⟨hi, e⟩ := List.getElem?_eq_some_iff.mp h
  conv => lhs; rw [← List.take_append_drop i cs, List.drop_eq_getElem_cons hi, e]
theorem num_ne {x y : Nat} (hx : x ∈ SG) (hy : y ∈ SG) (h : x ≠ y) : num x ≠ num y := fun e => h (by rw [← sgn_num hx, ← sgn_num hy, e])
theorem chg_len {cs t : List Nat} (h : Chg cs t) : t.length = cs.length := by
  obtain ⟨i, hi, ⟨f, _, rfl⟩ | ⟨x, y, hx, hy, rfl⟩⟩ := h
  · simp; omega
  · have := (List.getElem?_eq_some_iff.mp hy).1
    simp; omega
theorem due_ne {cs t : List Nat} {n : Nat} (hl : cs.length = n + 2) (hn : n ≤ 3900) (hcs : ∀ x ∈ cs, x ∈ SG) (ht : ∀ x ∈ t, x ∈ SG) (hc : Chg cs t) (hne : t ≠ cs) (h0 : dueOf (txt cs) = foundOf (txt cs)) : dueOf (txt t) ≠ foundOf (txt t) := by
  intro h1
  have a := due_found hl
  have b := due_found (t := t) (n := n) (by rw [chg_len hc, hl])
  have hd : (4093 : Int) ∣ wsum (wt n) 0 (t.map num) - wsum (wt n) 0 (cs.map num) := Int.dvd_of_emod_eq_zero (by omega)
  have bd : ∀ {x y : Nat}, x ∈ SG → y ∈ SG → -64 < num x - num y ∧ num x - num y < 64 := fun {x y} hx hy => by
    have := num_lo x; have := num_lo y; have := num_hi hx; have := num_hi hy
    omega
  obtain ⟨i, hi, ⟨f, _, rfl⟩ | ⟨x, y, hx, hy, rfl⟩⟩ := hc
  · obtain ⟨x, hx⟩ : ∃ x, cs[i]? = some x := ⟨_, List.getElem?_eq_getElem hi⟩
    have e := split_at hx
    have hA : (cs.take i).length = i := by rw [List.length_take]; omega
    have fx : f ≠ x := fun z => hne (by subst z; exact e.symm)
    have hfs : f ∈ SG := ht f (by simp)
    have hxs : x ∈ SG := hcs x (List.mem_of_getElem? hx)
    have ed : wsum (wt n) 0 ((cs.take i ++ f :: cs.drop (i + 1)).map num) - wsum (wt n) 0 (cs.map num) = wt n i * (num f - num x) := by
      conv => lhs; arg 2; rw [e]
      simp only [List.map_append, List.map_cons, wsum_append, wsum, List.length_map, hA, Nat.zero_add, Int.mul_sub]
      omega
    rw [ed] at hd
    have nn := num_ne hfs hxs fx
    have k := p4093 hd (by omega) (bd hfs hxs).1 (bd hfs hxs).2
    unfold wt at k
    split at k
    · omega
    · split at k <;> omega
  · have hi2 := (List.getElem?_eq_some_iff.mp hy).1
    have e := split_at hx
    have e2 : cs.drop (i + 1) = y :: cs.drop (i + 2) := by
      obtain ⟨h1, h2⟩ := List.getElem?_eq_some_iff.mp hy
      rw [List.drop_eq_getElem_cons h1, h2]
    rw [e2] at e
    have hA : (cs.take i).length = i := by rw [List.length_take]; omega
    have xy : y ≠ x := fun z => hne (by subst z; exact e.symm)
    have hys : y ∈ SG := hcs y (List.mem_of_getElem? hy)
    have hxs : x ∈ SG := hcs x (List.mem_of_getElem? hx)
    have ed : wsum (wt n) 0 ((cs.take i ++ y :: x :: cs.drop (i + 2)).map num) - wsum (wt n) 0 (cs.map num) = (wt n i - wt n (i + 1)) * (num y - num x) := by
      conv => lhs; arg 2; rw [e]
      simp only [List.map_append, List.map_cons, wsum_append, wsum, List.length_map, hA, Nat.zero_add, Int.mul_sub, Int.sub_mul]
      omega
    rw [ed] at hd
    have nn := num_ne hys hxs xy
    have k := p4093 hd (by omega) (bd hys hxs).1 (bd hys hxs).2
    unfold wt at k
    split at k <;> split at k <;> (try split at k) <;> (try split at k) <;> omega
theorem good_len {z : Str} {xs : List Prt} (g : GoodText z xs) : z.cps.toList.length = (fbody xs).length + 2 := by
  have e := congrArg List.length (good_nums g).1
  unfold nums at e
  rw [List.length_map, List.length_append] at e
  exact e
/-- a text that differs is refused as is due -/
theorem chg_ref {cs t : List Nat} {xs : List Prt} (g : GoodText (txt cs) xs) (hc : Chg cs t) (hne : t ≠ cs) : Ref (txt t) (dueD t) := by
  have hl := good_len g
  rw [txt_list] at hl
  have hb := body_len xs
  have hz := g.sz
  have hcs := (good_nums g).2
  rw [txt_list] at hcs
  have tl := chg_len hc
  by_cases h1 : ∃ x ∈ t, x ∉ SG
  · exact .inl ⟨by rw [txt_list]; exact h1, dueD_1 h1⟩
  have ht : ∀ x ∈ t, x ∈ SG := fun x hx => by
    by_cases h : x ∈ SG
    · exact h
    · exact absurd ⟨x, hx, h⟩ h1
  have ht' : ∀ x ∈ (txt t).cps.toList, x ∈ SG := by rw [txt_list]; exact ht
  by_cases h2 : txt (t.take 3) = CF1
  · refine .inr (.inr (.inl ⟨ht', ?_, ?_, dueD_3 ht h2⟩))
    · rintro (h | h)
      · unfold nums at h
        rw [List.length_map, txt_list] at h
        omega
      · rw [txt_list] at h
        exact h h2
    · refine due_ne hl (by omega) hcs ht hc hne ?_
      obtain ⟨_, a, b⟩ := good_chk g
      rw [a, b]
  · exact .inr (.inl ⟨ht', .inr (by rw [txt_list]; exact h2), dueD_2 ht h2⟩)
/-! ### what a folio's text says back is one thing -/
theorem app_inj {α : Type} {a b c d : List α} (hl : a.length = c.length) (h : a ++ b = c ++ d) : a = c ∧ b = d := List.append_inj h hl
theorem nums_inj {x y : Prt} {A B : List Int} (hx : x.Ok) (hy : y.Ok) (h : x.nums ++ A = y.nums ++ B) : x = y ∧ A = B := by
  obtain ⟨c, nm, ns⟩ := x
  obtain ⟨c2, nm2, ns2⟩ := y
  obtain ⟨x1, x2, x3, x4⟩ := hx
  obtain ⟨y1, y2, y3, y4⟩ := hy
  have h : num c :: (nm.length : Int) :: (nm.cps.toList.map num ++ ((ns.length : Int) / 64 :: (ns.length : Int) % 64 :: (ns ++ A))) = num c2 :: (nm2.length : Int) :: (nm2.cps.toList.map num ++ ((ns2.length : Int) / 64 :: (ns2.length : Int) % 64 :: (ns2 ++ B))) := by
    simpa [Prt.nums] using h
  obtain ⟨h1, h⟩ := List.cons_eq_cons.mp h
  obtain ⟨h2, h⟩ := List.cons_eq_cons.mp h
  have hl : nm.length = nm2.length := by omega
  obtain ⟨h3, h⟩ := app_inj (by simp; exact hl) h
  obtain ⟨h4, h⟩ := List.cons_eq_cons.mp h
  obtain ⟨h5, h⟩ := List.cons_eq_cons.mp h
  obtain ⟨h6, h7⟩ := app_inj (by omega) h
  have e1 : c = c2 := ((show sgn (num c) = c from sgn_num (sml_sg x1)).symm.trans (congrArg sgn h1)).trans (sgn_num (sml_sg y1))
  have e2 : nm = nm2 := ((name_back nm fun c hc => sml_sg (small_in x2 hc)).symm.trans (congrArg (fun l : List Int => txt (l.map sgn)) h3)).trans (name_back nm2 fun c hc => sml_sg (small_in y2 hc))
  subst e1 e2 h6
  exact ⟨rfl, h7⟩
theorem flat_inj : ∀ {xs ys : List Prt}, xs.length = ys.length → (∀ x ∈ xs, x.Ok) → (∀ y ∈ ys, y.Ok) → (xs.map Prt.nums).flatten = (ys.map Prt.nums).flatten → xs = ys
  | [], [], _, _, _, _ => rfl
  | x :: xs, y :: ys, hl, hx, hy, h => by
    rw [List.map_cons, List.flatten_cons, List.map_cons, List.flatten_cons] at h
    obtain ⟨e, h2⟩ := nums_inj (hx x (List.mem_cons_self ..)) (hy y (List.mem_cons_self ..)) h
    rw [e, flat_inj (by simpa using hl) (fun z hz => hx z (List.mem_cons_of_mem _ hz)) (fun z hz => hy z (List.mem_cons_of_mem _ hz)) h2]
theorem good_one {z : Str} {xs ys : List Prt} (g : GoodText z xs) (g2 : GoodText z ys) : ys = xs := by
  have e1 := (good_nums g).1
  have e2 := (good_nums g2).1
  have l1 := congrArg List.length e1
  have l2 := congrArg List.length e2
  rw [List.length_append] at l1 l2
  simp only [List.length_cons, List.length_nil] at l1 l2
  rw [e1] at e2
  obtain ⟨eb, _⟩ := app_inj (by omega) e2
  unfold fbody at eb
  rw [List.append_assoc, List.append_assoc] at eb
  obtain ⟨_, eb⟩ := List.append_inj eb (by rfl)
  obtain ⟨ed, ef⟩ := List.append_inj eb (by rfl)
  have h1 := (List.cons_eq_cons.mp ed).1
  have h2 := (List.cons_eq_cons.mp (List.cons_eq_cons.mp ed).2).1
  exact (flat_inj (by omega) g.ok g2.ok ef).symm
end K44
set_option Elab.async false
set_option linter.all false
set_option maxRecDepth 100000
set_option maxHeartbeats 4000000
namespace K44
open PySem PySem.Spec PyProof.Rows L2
/-! An album's own text is good, and says the album. -/
theorem parts_at {L : List Ent} {ys : List Prt} (h : PicParts L ys) : ys.length = L.length ∧ ∀ (i : Nat) x y, L[i]? = some x → ys[i]? = some y → PicPart x y := by
  induction h with
  | nil => exact ⟨rfl, fun i x y h => by simp at h⟩
  | @snoc L ys a b _ hp ih =>
    obtain ⟨hl, ha⟩ := ih
    refine ⟨by simp [hl], fun i x y hx hy => ?_⟩
    by_cases hi : i < L.length
    · rw [List.getElem?_append_left hi] at hx
      rw [List.getElem?_append_left (by omega)] at hy
      exact ha i x y hx hy
    · rw [List.getElem?_append_right (by omega)] at hx
      rw [List.getElem?_append_right (by omega)] at hy
      have h1 := (List.getElem?_eq_some_iff.mp hx).1
      simp only [List.length_cons, List.length_nil] at h1
      have e0 : i - L.length = 0 := by omega
      rw [e0] at hx
      rw [hl, e0] at hy
      cases hx
      cases hy
      exact hp
theorem wsize_snoc (L : List Ent) (x : Ent) : wsize (L ++ [x]) = wsize L + (14 + x.rows.length + 2 * x.rows.flatten.length) := by
  unfold wsize
  rw [List.map_append, List.sum_append]
  simp
theorem parts_ok {L : List Ent} {ys : List Prt} (h : PicParts L ys) (ok : ∀ x ∈ L, PicOk x.rows ∧ isSmall x.nm 8 = true) : (∀ y ∈ ys, y.Ok ∧ y.c = cC) ∧ (ys.map Prt.nums).flatten.length ≤ wsize L := by
  induction h with
  | nil => exact ⟨fun y hy => (by cases hy), by simp⟩
  | @snoc L ys a b _ hp ih =>
    obtain ⟨h1, h2⟩ := ih fun x hx => ok x (List.mem_append_left _ hx)
    obtain ⟨k1, k2⟩ := ok a (by simp)
    obtain ⟨p1, p2⟩ := picPart_ok k1 k2 hp
    refine ⟨fun y hy => ?_, ?_⟩
    · rcases List.mem_append.mp hy with hy | hy
      · exact h1 y hy
      · simp at hy
        subst hy
        exact ⟨p1, hp.1⟩
    · rw [wsize_snoc, List.map_append, List.flatten_append, List.length_append]
      have eb : (([b] : List Prt).map Prt.nums).flatten = b.nums := by simp
      rw [eb]
      omega
theorem pal_in : PalIn (palNums greys) := ⟨by decide +kernel, by decide +kernel, by decide +kernel, by decide +kernel, by decide +kernel, by decide +kernel, by decide +kernel, by decide +kernel, by decide +kernel, by decide +kernel⟩
theorem pal_cols : (palCols (palNums greys)).Nodup ∧ (palCols (palNums greys)).length = 16 := by decide +kernel
theorem filt_all {ys : List Prt} {c : Nat} (h : ∀ y ∈ ys, y.c = c) : partsC c ys = ys := List.filter_eq_self.mpr fun y hy => decide_eq_true (h y hy)
theorem filt_no {ys : List Prt} {c : Nat} (h : ∀ y ∈ ys, y.c ≠ c) : partsC c ys = [] := List.filter_eq_nil_iff.mpr fun y hy => by simpa using h y hy
theorem alb_good {L : List Ent} {ys : List Prt} (hp : PicParts L ys) (ok : ∀ x ∈ L, PicOk x.rows ∧ isSmall x.nm 8 = true) (nd : (L.map fun x => x.nm).Nodup) (hl : L.length ≤ 16) (hw : wsize L ≤ 3800) :
    GoodText (ftext (palPart :: ys)) (palPart :: ys) ∧ openM (palPart :: ys) = some (L.map fun x => (x.nm, x.rows)) ∧ PalsIn (palPart :: ys) := by
  obtain ⟨yl, ya⟩ := parts_at hp
  obtain ⟨y1, y2⟩ := parts_ok hp ok
  have yn : ys.map (·.nm) = L.map fun x => x.nm := by
    have := congrArg (List.map Prod.snd) (parts_names hp)
    rw [List.map_map, List.map_map] at this
    exact this
  have hC : partsC cC (palPart :: ys) = ys := by
    unfold partsC
    rw [List.filter_cons_of_neg (by decide)]
    exact filt_all fun y hy => (y1 y hy).2
  have hP : partsC cP (palPart :: ys) = [palPart] := by
    unfold partsC
    rw [List.filter_cons_of_pos (by decide)]
    have : partsC cP ys = [] := filt_no fun y hy => by rw [(y1 y hy).2]; decide
    unfold partsC at this
    rw [this]
  refine ⟨⟨rfl, fun x hx => ?_, ?_, by simp; omega, ?_⟩, ?_, fun x hx hc hn => ?_⟩
  · rcases List.mem_cons.mp hx with rfl | hx
    · exact palPart_ok
    · exact (y1 x hx).1
  · rw [List.map_cons, List.nodup_cons]
    refine ⟨fun hm => ?_, ?_⟩
    · obtain ⟨y, hy, e⟩ := List.mem_map.mp hm
      have := (fkey_c e).1
      rw [(y1 y hy).2] at this
      exact absurd this (by decide)
    · have e : ys.map fkey = (ys.map (·.nm)).map fun n => ([.inr ⟨#[cC]⟩, .inr n] : List Key) := by
        rw [List.map_map]
        refine List.map_congr_left fun y hy => ?_
        show fkey y = _
        unfold fkey
        rw [(y1 y hy).2]
        rfl
      rw [e, yn]
      exact List.pairwise_map.mpr (nd.imp fun h z => h (by simpa using z))
  · rw [body_len, List.map_cons, List.flatten_cons, List.length_append, palPart_len]
    omega
  · unfold openM
    rw [hC, hP, if_pos ⟨rfl, by simp; omega, by omega⟩]
    show (if (palCols (palNums greys)).Nodup ∧ (palCols (palNums greys)).length = 16 then picsM ys else none) = _
    rw [if_pos pal_cols]
    refine picsM_get (by simp [yl]) fun j y hy => ?_
    have hj : j < L.length := by have := (List.getElem?_eq_some_iff.mp hy).1; omega
    have hx : L[j]? = some (L[j]'hj) := List.getElem?_eq_getElem hj
    obtain ⟨p1, p2, p3⟩ := ya j _ y hx hy
    refine ⟨(L[j]'hj).rows, pic_back (ok _ (List.getElem_mem hj)).1 p3, ?_⟩
    rw [List.getElem?_map, hx, p2]
    rfl
  · rcases List.mem_cons.mp hx with rfl | hx
    · exact ⟨pal_in, by show (palNums greys).length ≤ 1000; decide +kernel⟩
    · rw [(y1 x hx).2] at hc
      exact absurd hc (by decide)
end K44
set_option Elab.async false
set_option linter.all false
set_option maxRecDepth 100000
set_option maxHeartbeats 4000000
namespace K44
open PySem PySem.Spec PyProof.Rows L2
local macro_rules | `(tactic| walk_at "rd1") => `(tactic| first
  | ((with_reducible apply r_var); rfl)
  | ((with_reducible apply r_aug); rfl)
  | with_reducible apply r_isiI
  | with_reducible apply r_tslS
  | with_reducible apply r_try
  | with_reducible apply r_gsub
  | with_reducible apply r_irev
  | with_reducible apply r_trg1
  | with_reducible apply r_sfld
  | with_reducible apply r_afld
  | with_reducible apply r_rAdd
  | with_reducible apply r_dget
  | with_reducible apply r_din
  | with_reducible apply r_dnot
  | with_reducible apply r_dput
  | with_reducible apply r_ikeys
  | with_reducible apply r_m1
  | with_reducible apply r_km1
  | with_reducible apply r_inS
  | with_reducible apply r_notInS
  | with_reducible apply r_isN
  | with_reducible apply r_ip
  | with_reducible apply r_kbmS
  | with_reducible apply r_min2
  | with_reducible apply r_isiB
  | with_reducible apply r_isiS
  | with_reducible apply r_tyes
  | with_reducible apply iteT
  | with_reducible apply iteF
  | with_reducible apply r_nT
  | with_reducible apply r_nF
  | with_reducible apply r_callS
  | with_reducible apply r_meth
  | with_reducible apply r_methS
  | with_reducible apply r_methD
  | with_reducible apply r_make
  | with_reducible apply r_lc
  | with_reducible apply r_for
  | with_reducible apply r_ilist
  | with_reducible apply r_itup
  | with_reducible apply r_irng1
  | with_reducible apply r_irng2
  | with_reducible apply r_istr
  | with_reducible apply r_ienum
  | with_reducible apply r_izip
  | with_reducible apply r_izip3
  | with_reducible apply r_izip4
  | with_reducible apply r_kis
  | with_reducible apply r_c
  | with_reducible apply r_op
  | with_reducible apply r_un
  | with_reducible apply r_i0
  | with_reducible apply r_u
  | with_reducible apply r_eqI
  | with_reducible apply r_neI
  | with_reducible apply r_eqS
  | with_reducible apply r_neS
  | with_reducible apply r_test
  | with_reducible apply r_B
  | with_reducible apply r_bl
  | with_reducible apply r_int
  | with_reducible apply r_and
  | with_reducible apply r_or
  | with_reducible apply r_not
  | with_reducible apply r_andV
  | with_reducible apply r_orV
  | with_reducible apply r_notV
  | with_reducible apply r_chain
  | with_reducible apply r_tif
  | with_reducible apply r_nil
  | with_reducible apply r_cons
  | with_reducible apply r_cb
  | with_reducible apply r_call
  | with_reducible apply r_seq
  | with_reducible apply r_asg
  | with_reducible apply r_name
  | with_reducible apply r_drop
  | with_reducible apply r_ret
  | with_reducible apply r_retN
  | with_reducible apply r_next
  | with_reducible apply r_ifS
  | with_reducible apply r_tup
  | with_reducible apply r_lst
  | with_reducible apply r_sl
  | with_reducible apply r_nopart
  | with_reducible apply r_part
  | with_reducible apply r_fld
  | with_reducible apply r_bm
  | with_reducible apply r_bm0)
local macro_rules | `(tactic| walk_at "rd") => `(tactic| repeat (walk_at "rd1"))

/-! Folios that are no album's. -/
def S16 : List Int := shareL 16 0 16
def S15 : List Int := shareL 15 0 15
def S4 : List Int := 15 :: (List.replicate 16 ([1, 2, 3, 4] : List Int)).flatten
def OTHs : Str := "other"
def palN (c : Int) : List Int := if c % 7 = 3 then S15 else if c % 7 = 4 then S4 else S16
def mainN (c : Int) : Str := if c % 7 ≠ 6 ∨ c / 7 % 2 = 0 then MAINs else OTHs
def kdN (c : Int) : Nat := ([100, 110, 120] : List Nat).getD (c / 7 % 3).toNat 0
def nmN (n : Str) (c : Int) : Str := if c / 21 % 2 = 0 then n else MAINs
def badL : List (List Int) := [[], [0], [24, 0, 0, 0, 1], [0, 0, 5, 0, 1], [0, 0, 0, 0, 16], [0, 0, 0, 32, 1], [1, 0, 0, 0, 1], [0, 0, 0, 1, 1, 1], [0, 0, 0, 0]]
def badN (c : Int) : List Int := badL.getD (c / 7 % 9).toNat []
def a1 (c : Int) : List Prt := if c % 7 = 2 then [] else [⟨cP, mainN c, palN c⟩]
def a2 (n : Str) (c : Int) : List Prt := if c % 7 = 0 then [⟨kdN c, nmN n c, []⟩] else []
def a3 (n : Str) (c : Int) : List Prt := if c % 7 = 1 then [⟨cP, n, S16⟩] else []
def a5 (n : Str) (c : Int) : List Prt := if c % 7 = 5 then [⟨cC, n, badN c⟩] else []
def x1 (k : Nat) : Prt := ⟨cC, txt [120, 97 + k], [0, 0, 0, 0, (k : Int) % 16]⟩
def x17 : List Prt := (List.range 17).map x1
def a6 (c : Int) : List Prt := if c % 7 = 6 ∧ c / 7 % 2 = 0 then x17 else []
def noAlb (n : Str) (c : Int) : List Prt := a1 c ++ a2 n c ++ a3 n c ++ a5 n c ++ a6 c
theorem noAlb_cases (n : Str) (c : Int) : (noAlb n c = [⟨cP, MAINs, S16⟩, ⟨kdN c, nmN n c, []⟩]) ∨ (noAlb n c = [⟨cP, MAINs, S16⟩, ⟨cP, n, S16⟩]) ∨ (noAlb n c = []) ∨ (noAlb n c = [⟨cP, MAINs, S15⟩]) ∨ (noAlb n c = [⟨cP, MAINs, S4⟩]) ∨
    (noAlb n c = [⟨cP, MAINs, S16⟩, ⟨cC, n, badN c⟩]) ∨ (noAlb n c = ⟨cP, MAINs, S16⟩ :: x17) ∨ (noAlb n c = [⟨cP, OTHs, S16⟩]) := by
  unfold noAlb a1 a2 a3 a5 a6 palN mainN
  rcases (show c % 7 = 0 ∨ c % 7 = 1 ∨ c % 7 = 2 ∨ c % 7 = 3 ∨ c % 7 = 4 ∨ c % 7 = 5 ∨ c % 7 = 6 by omega) with e | e | e | e | e | e | e
  · exact .inl (by simp [e])
  · exact .inr (.inl (by simp [e]))
  · exact .inr (.inr (.inl (by simp [e])))
  · exact .inr (.inr (.inr (.inl (by simp [e]))))
  · exact .inr (.inr (.inr (.inr (.inl (by simp [e])))))
  · exact .inr (.inr (.inr (.inr (.inr (.inl (by simp [e]))))))
  · by_cases h : c / 7 % 2 = 0
    · exact .inr (.inr (.inr (.inr (.inr (.inr (.inl (by simp [e, h])))))))
    · exact .inr (.inr (.inr (.inr (.inr (.inr (.inr (by simp [e, h])))))))
def fsz (xs : List Prt) : Int := 7 + (xs.map fun x => (x.nums.length : Int)).sum
theorem fsz_of (PS : List (Prt × Addr)) : fsize PS = fsz (PS.map (·.1)) := by
  unfold fsize fsz
  rw [List.map_map]
  rfl
theorem kdN_in (c : Int) : kdN c = 100 ∨ kdN c = 110 ∨ kdN c = 120 := by
  unfold kdN
  rcases (show (c / 7 % 3).toNat = 0 ∨ (c / 7 % 3).toNat = 1 ∨ (c / 7 % 3).toNat = 2 by omega) with e | e | e <;> rw [e]
  · exact .inl rfl
  · exact .inr (.inl rfl)
  · exact .inr (.inr rfl)
theorem badN_in (c : Int) : badN c ∈ badL := by
  have h : (c / 7 % 9).toNat < badL.length := by show (c / 7 % 9).toNat < 9; omega
  unfold badN
  rw [List.getD_eq_getElem?_getD, List.getElem?_eq_getElem h]
  exact List.getElem_mem h
theorem main_small : isSmall MAINs 8 = true := by decide +kernel
theorem oth_small : isSmall OTHs 8 = true := by decide +kernel
theorem nmN_small {n : Str} (h : isSmall n 8 = true) (c : Int) : isSmall (nmN n c) 8 = true := by
  unfold nmN
  split
  · exact h
  · exact main_small
theorem s16_ok {nm : Str} (h : isSmall nm 8 = true) : (⟨cP, nm, S16⟩ : Prt).Ok := ⟨by show cP ∈ SML; decide +kernel, h, by show S16.length ≤ 2000; decide +kernel, by show S16.all six = true; decide +kernel⟩
theorem fkey_ne {x y : Prt} (h : x.c ≠ y.c ∨ x.nm ≠ y.nm) : fkey x ≠ fkey y := fun e => by
  obtain ⟨a, b⟩ := fkey_c e
  rcases h with h | h
  · exact h a
  · exact h b
theorem two_nd {x y : Prt} (h : fkey x ≠ fkey y) : (([x, y] : List Prt).map fkey).Nodup := by simpa using h
theorem s16_len (nm : Str) : (⟨cP, nm, S16⟩ : Prt).nums.length = nm.length + 69 := by
  rw [Prt.nums_len]
  have : S16.length = 65 := by decide +kernel
  show 4 + nm.length + S16.length = _
  omega
theorem x17_ok : ∀ x ∈ x17, x.Ok ∧ x.c = cC ∧ x.nums.length = 11 := fun x hx => by
  obtain ⟨k, hk, rfl⟩ := List.mem_map.mp hx
  have hk := List.mem_range.mp hk
  have : ∀ k : Nat, k < 17 → (x1 k).c ∈ SML ∧ isSmall (x1 k).nm 8 = true ∧ (x1 k).ns.length ≤ 2000 ∧ (x1 k).ns.all six = true ∧ (x1 k).nums.length = 11 := by decide +kernel
  obtain ⟨a, b, c, d, e⟩ := this k hk
  exact ⟨⟨a, b, c, d⟩, rfl, e⟩
theorem x17_nd : (x17.map (·.nm)).Nodup := by decide +kernel
theorem noAlb_ok {n : Str} (hs : isSmall n 8 = true) (hne : n ≠ MAINs) (c : Int) : (∀ x ∈ noAlb n c, x.Ok) ∧ ((noAlb n c).map fkey).Nodup ∧ fsz (noAlb n c) ≤ 3900 ∧ (noAlb n c).length ≤ 900 := by
  have hl := small_len hs
  have hml : MAINs.length = 4 := by decide +kernel
  have hol : OTHs.length = 5 := by decide +kernel
  have hm := s16_ok main_small
  rcases noAlb_cases n c with e | e | e | e | e | e | e | e <;> rw [e]
  · have hk : kdN c ∈ SML ∧ kdN c ≠ cP := by rcases kdN_in c with h | h | h <;> rw [h] <;> decide +kernel
    have hn := nmN_small hs c
    have hnl := small_len hn
    refine ⟨fun x hx => ?_, two_nd (fkey_ne (.inl fun z => hk.2 z.symm)), ?_, by simp⟩
    · rcases List.mem_cons.mp hx with rfl | hx
      · exact hm
      · have := List.mem_singleton.mp hx
        subst this
        exact ⟨hk.1, hn, by simp, by simp⟩
    · show 7 + (((⟨cP, MAINs, S16⟩ : Prt).nums.length : Int) + (((⟨kdN c, nmN n c, []⟩ : Prt).nums.length : Int) + 0)) ≤ 3900
      rw [s16_len, Prt.nums_len]
      show 7 + (((MAINs.length + 69 : Nat) : Int) + (((4 + (nmN n c).length + 0 : Nat) : Int) + 0)) ≤ 3900
      omega
  · refine ⟨fun x hx => ?_, two_nd (fkey_ne (.inr fun z => hne z.symm)), ?_, by simp⟩
    · rcases List.mem_cons.mp hx with rfl | hx
      · exact hm
      · have := List.mem_singleton.mp hx
        subst this
        exact s16_ok hs
    · show 7 + (((⟨cP, MAINs, S16⟩ : Prt).nums.length : Int) + (((⟨cP, n, S16⟩ : Prt).nums.length : Int) + 0)) ≤ 3900
      rw [s16_len, s16_len]
      omega
  · exact ⟨fun x hx => (by cases hx), by simp, by decide, by simp⟩
  · refine ⟨fun x hx => ?_, by simp, by decide +kernel, by simp⟩
    have := List.mem_singleton.mp hx
    subst this
    exact ⟨by show cP ∈ SML; decide +kernel, main_small, by show S15.length ≤ 2000; decide +kernel, by show S15.all six = true; decide +kernel⟩
  · refine ⟨fun x hx => ?_, by simp, by decide +kernel, by simp⟩
    have := List.mem_singleton.mp hx
    subst this
    exact ⟨by show cP ∈ SML; decide +kernel, main_small, by show S4.length ≤ 2000; decide +kernel, by show S4.all six = true; decide +kernel⟩
  · have hb : ∀ l ∈ badL, l.length ≤ 6 ∧ l.all six = true := by decide +kernel
    obtain ⟨b1, b2⟩ := hb _ (badN_in c)
    refine ⟨fun x hx => ?_, two_nd (fkey_ne (.inl (by show cP ≠ cC; decide))), ?_, by simp⟩
    · rcases List.mem_cons.mp hx with rfl | hx
      · exact hm
      · have := List.mem_singleton.mp hx
        subst this
        exact ⟨by show cC ∈ SML; decide +kernel, hs, by show (badN c).length ≤ 2000; omega, b2⟩
    · show 7 + (((⟨cP, MAINs, S16⟩ : Prt).nums.length : Int) + (((⟨cC, n, badN c⟩ : Prt).nums.length : Int) + 0)) ≤ 3900
      rw [s16_len, Prt.nums_len]
      show 7 + (((MAINs.length + 69 : Nat) : Int) + (((4 + n.length + (badN c).length : Nat) : Int) + 0)) ≤ 3900
      omega
  · refine ⟨fun x hx => ?_, ?_, by decide +kernel, by decide +kernel⟩
    · rcases List.mem_cons.mp hx with rfl | hx
      · exact hm
      · exact (x17_ok x hx).1
    · rw [List.map_cons, List.nodup_cons]
      refine ⟨fun h => ?_, ?_⟩
      · obtain ⟨y, hy, e⟩ := List.mem_map.mp h
        have := (fkey_c e).1
        rw [(x17_ok y hy).2.1] at this
        exact absurd this (by show cC ≠ cP; decide)
      · have := x17_nd
        exact List.pairwise_map.mpr ((List.pairwise_map.mp this).imp fun h z => h (fkey_c z).2)
  · refine ⟨fun x hx => ?_, by simp, by decide +kernel, by simp⟩
    have := List.mem_singleton.mp hx
    subst this
    exact s16_ok oth_small
theorem put_ok {C : Addr} {H : Hp} {fp d : Addr} {PS : List (Prt × Addr)} {A : List Prt} {x : Prt} {L : List Prt} (B : List Prt) (hPS : PS.map (·.1) = A) (e : L = A ++ x :: B) (nd : (L.map fkey).Nodup) (sz : fsz L ≤ 3900) (ln : L.length ≤ 900) :
    fkey x ∉ PS.map (fun q => fkey q.1) ∧ fsize PS + x.nums.length ≤ 3900 ∧ PS.length < 1000 := by
  subst e
  rw [List.map_append, List.map_cons, List.nodup_append] at nd
  have hl : PS.length = A.length := by rw [← hPS]; simp
  refine ⟨fun h => ?_, ?_, by simp at ln; omega⟩
  · have h2 : fkey x ∈ A.map fkey := by rw [← hPS, List.map_map]; exact h
    exact nd.2.2 _ h2 _ (List.mem_cons_self ..) rfl
  · rw [fsz_of, hPS]
    unfold fsz at sz ⊢
    rw [List.map_append, List.map_cons, List.sum_append, List.sum_cons] at sz
    have : ∀ l : List Prt, 0 ≤ (l.map fun x => (x.nums.length : Int)).sum := fun l => by
      induction l with
      | nil => simp
      | cons a l ih => rw [List.map_cons, List.sum_cons]; omega
    have := this B
    omega
theorem fol_keep {C fp d : Addr} {PS : List (Prt × Addr)} {H1 H' : Hp} {b : Addr} {o : List V} (F : FolAt C H1 fp d PS) (fr : Fr [fp, d] H1 H') (e : H1 b = some (.lst o)) : H' b = some (.lst o) := fr _ _ e (by
  simp only [List.mem_cons, List.not_mem_nil, or_false, not_or]
  obtain ⟨dq, fq⟩ := F.ob
  exact ⟨ne_of e fq (fun z => by cases z), ne_of e F.di (fun z => by cases z)⟩)
theorem r_vcut {t : TE} {σ : L2.St} {H : Hp} {Q : VK} (v : V) (h : ∀ Z : VK, Z v H → t σ H Z) (k : Q v H) : t σ H Q := h Q k
theorem r_bcut {t : TT} {σ : L2.St} {H : Hp} {Q : Bool → Hp → Prop} (b : Bool) (h : ∀ Z : Bool → Hp → Prop, Z b H → t σ H Z) (k : Q b H) : t σ H Q := h Q k
def StN (C a fp d pp : Addr) (c : Int) (H : Hp) (L : List Prt) : L2.St → Hp → Prop := fun σ' H' => ∃ (PS : List (Prt × Addr)) (y5 y6 : Option V), σ' = [some (.ref a), some (.int c), some (.ref fp), some (.int (c % 7)), some (.ref pp), y5, y6] ∧ Same H H' ∧ Ints H' pp (palN c) ∧ FolAt C H' fp d PS ∧ PS.map (·.1) = L
def sp_law_no_album (K : PySem.W.Frag) : Sp := fun vs H Q _ => ∃ (a : Addr) (c : Int) (n : Str) (r : List V), vs = [.ref a, .int c] ∧ H a = some (.lst (.str n :: r)) ∧ isSmall n 8 = true ∧ n ≠ MAINs ∧ ∀ H', Same H H' → Q (.str (ftext (noAlb n c))) H'
theorem sc_law_no_album : FnScope ["_law_names_here", "_law_cell", "_law_folio", "_law_way", "_law_palette", "_law_numbers", "_law_k"] ["_law_names_here", "_law_cell"] (defScope s_law_no_album) := ⟨rfl, rfl, rfl, by decide +kernel, rfl, by decide +kernel, by decide +kernel⟩
section
theorem len_law_no_album {K : PySem.W.Frag} {vs : List V} {H : Hp} {Q : VK} {E : XK} (h : (sp_law_no_album K) vs H Q E) : vs.length = 2 := by
  repeat (obtain ⟨_, h⟩ := h)
  subst_vars; rfl
variable {P : Program} {w : World} {K : PySem.W.Frag} {mg : Str → Option Value} {base : Heap}
theorem ok_law_no_album (T : Tx K mg) : Cal P w K mg base CX0 6 (He.ga K "_law_no_album") ["_law_names_here", "_law_cell"] (sp_law_no_album K) := by
  obtain ⟨fd, F⟩ := T.F_law_no_album
  refine ⟨⟨fd, F.ok sc_law_no_album (fun vs H Q E h => len_law_no_album h) (fun cdv A outer s H vs Q E hr h => ⟨_, PSs.nox (
      (pss_cons (ps_set (i := 2) sc_law_no_album.nd rfl (Or.inl rfl) (pe_calK0 T.m_Folio_init (ok_Folio_init T) hr (by decide) (by rfl) T.gc_Folio pass0))
      (pss_cons (ps_set (i := 3) sc_law_no_album.nd rfl (Or.inl rfl) (pe_op op_mod (pv 1) pe_int))
      (pss_cons (ps_set (i := 4) sc_law_no_album.nd rfl (Or.inl rfl) (pe_ix (ix_listK K) (pe_lst (pa_cons (pe_cal (ok_law_shares T) hr (by decide) (by rfl) T.g_law_shares pass0 (pa_cons pe_int (pa_cons pe_int pa_nil))) (pa_cons (pe_cal (ok_law_shares T) hr (by decide) (by rfl) T.g_law_shares pass0 (pa_cons pe_int (pa_cons pe_int pa_nil))) (pa_cons (pe_op op_cat (pe_lst (pa_cons pe_int pa_nil)) (pe_op op_rep (pe_lst (pa_cons pe_int (pa_cons pe_int (pa_cons pe_int (pa_cons pe_int pa_nil))))) pe_int)) pa_nil)))) (pe_ix (ix_listK K) (pe_lst (pa_cons pe_int (pa_cons pe_int (pa_cons pe_int (pa_cons pe_int (pa_cons pe_int (pa_cons pe_int (pa_cons pe_int pa_nil)))))))) (pv 3) (fun _ _ => rfl)) (fun _ _ => rfl)))
      (pss_cons (ps_if (pt_cmpR op_ne (pv 3) pe_int (nomark _))
      (pss_one (ps_expr (pe_calM (pv 2) T.c_Folio T.m_Folio_put_part (ok_Folio_put_part T) hr (by decide) pass0 (pa_cons (pe_tup (pa_cons pe_str (pa_cons (pe_ifExp (PW.pt (pw_or (pt_cmpR op_ne (pv 3) pe_int (nomark _)) (pw_or1 (pt_cmpR op_eq (pe_op op_mod (pe_op op_fdiv (pv 1) pe_int) pe_int) pe_int (nomark _))))) pe_str pe_str) (pa_cons (pv 4) pa_nil)))) pa_nil)))) pss_nil)
      (pss_cons (ps_if (pt_cmpR op_eq (pv 3) pe_int (nomark _))
      (pss_one (ps_expr (pe_calM (pv 2) T.c_Folio T.m_Folio_put_part (ok_Folio_put_part T) hr (by decide) pass0 (pa_cons (pe_tup (pa_cons (pe_ix (ix_listK K) (pe_lst (pa_cons pe_str (pa_cons pe_str (pa_cons pe_str pa_nil)))) (pe_op op_mod (pe_op op_fdiv (pv 1) pe_int) pe_int) (fun _ _ => rfl)) (pa_cons (pe_ix (ix_listK K) (pe_lst (pa_cons (pe_ix (ix_listK K) (pv 0) pe_int (fun _ _ => rfl)) (pa_cons pe_str pa_nil))) (pe_op op_mod (pe_op op_fdiv (pv 1) pe_int) pe_int) (fun _ _ => rfl)) (pa_cons (pe_lst pa_nil) pa_nil)))) pa_nil)))) pss_nil)
      (pss_cons (ps_if (pt_cmpR op_eq (pv 3) pe_int (nomark _))
      (pss_one (ps_expr (pe_calM (pv 2) T.c_Folio T.m_Folio_put_part (ok_Folio_put_part T) hr (by decide) pass0 (pa_cons (pe_tup (pa_cons pe_str (pa_cons (pe_ix (ix_listK K) (pv 0) pe_int (fun _ _ => rfl)) (pa_cons (pv 4) pa_nil)))) pa_nil)))) pss_nil)
      (pss_cons (ps_if (pt_cmpR op_eq (pv 3) pe_int (nomark _))
      (pss_cons (ps_set (i := 5) sc_law_no_album.nd rfl (Or.inl rfl) (pe_lst (pa_cons (pe_lst pa_nil) (pa_cons (pe_lst (pa_cons pe_int pa_nil)) (pa_cons (pe_lst (pa_cons pe_int (pa_cons pe_int (pa_cons pe_int (pa_cons pe_int (pa_cons pe_int pa_nil)))))) (pa_cons (pe_lst (pa_cons pe_int (pa_cons pe_int (pa_cons pe_int (pa_cons pe_int (pa_cons pe_int pa_nil)))))) (pa_cons (pe_lst (pa_cons pe_int (pa_cons pe_int (pa_cons pe_int (pa_cons pe_int (pa_cons pe_int pa_nil)))))) (pa_cons (pe_lst (pa_cons pe_int (pa_cons pe_int (pa_cons pe_int (pa_cons pe_int (pa_cons pe_int pa_nil)))))) (pa_cons (pe_lst (pa_cons pe_int (pa_cons pe_int (pa_cons pe_int (pa_cons pe_int (pa_cons pe_int pa_nil)))))) pa_nil)))))))))
      (pss_one (ps_expr (pe_calM (pv 2) T.c_Folio T.m_Folio_put_part (ok_Folio_put_part T) hr (by decide) pass0 (pa_cons (pe_tup (pa_cons pe_str (pa_cons (pe_ix (ix_listK K) (pv 0) pe_int (fun _ _ => rfl)) (pa_cons (pe_ix (ix_listK K) (pe_op op_cat (pv 5) (pe_lst (pa_cons (pe_lst (pa_cons pe_int (pa_cons pe_int (pa_cons pe_int (pa_cons pe_int (pa_cons pe_int (pa_cons pe_int pa_nil))))))) (pa_cons (pe_lst (pa_cons pe_int (pa_cons pe_int (pa_cons pe_int (pa_cons pe_int pa_nil))))) pa_nil)))) (pe_op op_mod (pe_op op_fdiv (pv 1) pe_int) pe_int) (fun _ _ => rfl)) pa_nil)))) pa_nil))))) pss_nil)
      (pss_cons (ps_if (PW.pt (pw_and (pt_cmpR op_eq (pv 3) pe_int (nomark _)) (pw_and1 (pt_cmpR op_eq (pe_op op_mod (pe_op op_fdiv (pv 1) pe_int) pe_int) pe_int (nomark _)))))
      (pss_one (ps_for PassesOwn.never rfl (pi_range1 (by rfl) T.b_range (pa_cons pe_int pa_nil)) (pg_name (i := 6) sc_law_no_album.nd rfl (Or.inl rfl))
      (pss_one (ps_expr (pe_calM (pv 2) T.c_Folio T.m_Folio_put_part (ok_Folio_put_part T) hr (by decide) pass0 (pa_cons (pe_tup (pa_cons pe_str (pa_cons (pe_op op_catS pe_str (pe_ix ix_str pe_str (pv 6) (fun _ _ => rfl))) (pa_cons (pe_lst (pa_cons pe_int (pa_cons pe_int (pa_cons pe_int (pa_cons pe_int (pa_cons (pe_op op_mod (pv 6) pe_int) pa_nil)))))) pa_nil)))) pa_nil)))))) pss_nil)
      (pss_one (ps_ret (pe_calM0 (pv 2) T.c_Folio T.m_Folio_written (ok_Folio_written T) hr (by decide) pass0)))))))))))), ?_⟩), F.bindsN fun _ _ _ _ _ _ us hl => match us, hl with | [_, _], _ => rfl⟩, F.kp⟩
  obtain ⟨a, c, n, r, rfl, ha, hs, hne, q⟩ := h
  obtain ⟨nok, nnd, nsz, nln⟩ := noAlb_ok hs hne c
  walk_at "rd"
  intro fp dx nx ndx nex
  have sx : Same H (upd (upd H dx (.own fp)) fp (.ins (He.ga K "Folio") dx [])) := fun b o e => by
    rw [upd_ne (ne_of_none e nx), upd_ne (ne_of_none e ndx)]
    exact e
  refine ⟨fp, dx, rfl, upd_same, fun d H1 nd F1 fr1 => ⟨rfl, ?_⟩⟩
  have s1 : Same H H1 := fun b o e => fr1 _ _ (sx _ _ e) (by simp; exact ne_of_none e nx)
  have nd0 : H d = none := sx.free nd
  have off : ∀ {b o}, H b = some o → b ∉ [fp, d] := fun {b o} e => by
    simp only [List.mem_cons, List.not_mem_nil, or_false, not_or]
    exact ⟨ne_of_none e nx, ne_of_none e nd0⟩
  walk_at "rd"
  refine r_i (by decide) ?_
  walk_at "rd"
  refine ⟨16, 0, rfl, by decide, fun p2 H2 n2 s2 e2 => ?_⟩
  walk_at "rd"
  refine ⟨15, 0, rfl, by decide, fun p3 H3 n3 s3 e3 => ?_⟩
  walk_at "rd"
  refine r_klst (len_le rfl) fun p4 H4 n4 s4 e4 => ?_
  walk_at "rd"
  refine r_klst (len_le rfl) fun p5 H5 n5 s5 e5 => ?_
  walk_at "rd"
  refine r_rep e5 (by decide) (by decide) (len_le rfl) fun p6 H6 n6 s6 e6 => ?_
  refine r_cat (s6 _ _ (s5 _ _ e4)) e6 (len_le rfl) fun p7 H7 n7 s7 e7 => ?_
  walk_at "rd"
  refine r_klst (len_le rfl) fun p8 H8 n8 s8 e8 => ?_
  walk_at "rd"
  refine r_klst (len_le rfl) fun p9 H9 n9 s9 e9 => ?_
  walk_at "rd"
  have s19 := ((((((s2.trans s3).trans s4).trans s5).trans s6).trans s7).trans s8).trans s9
  have i16 : Ints H9 p2 S16 := s9 _ _ (s8 _ _ (s7 _ _ (s6 _ _ (s5 _ _ (s4 _ _ (s3 _ _ e2))))))
  have i15 : Ints H9 p3 S15 := s9 _ _ (s8 _ _ (s7 _ _ (s6 _ _ (s5 _ _ (s4 _ _ e3)))))
  have i4 : Ints H9 p7 S4 := s9 _ _ (s8 _ _ e7)
  obtain ⟨wv, pp, h1, h2, h3⟩ : ∃ (wv : Int) (pp : Addr), atI [V.int 0, V.int 0, V.int 0, V.int 1, V.int 2, V.int 0, V.int 0] (c % 7) = some (.int wv) ∧ atI [V.ref p2, V.ref p3, V.ref p7] wv = some (.ref pp) ∧ Ints H9 pp (palN c) := by
    unfold palN
    rcases (show c % 7 = 0 ∨ c % 7 = 1 ∨ c % 7 = 2 ∨ c % 7 = 3 ∨ c % 7 = 4 ∨ c % 7 = 5 ∨ c % 7 = 6 by omega) with e | e | e | e | e | e | e <;> rw [e]
    · exact ⟨0, p2, rfl, rfl, i16⟩
    · exact ⟨0, p2, rfl, rfl, i16⟩
    · exact ⟨0, p2, rfl, rfl, i16⟩
    · exact ⟨1, p3, rfl, rfl, i15⟩
    · exact ⟨2, p7, rfl, rfl, i4⟩
    · exact ⟨0, p2, rfl, rfl, i16⟩
    · exact ⟨0, p2, rfl, rfl, i16⟩
  refine r_ixL (SqL.of e9) h1 ?_
  refine r_ixL (SqL.of (s9 _ _ e8)) h2 ?_
  refine r_name ?_
  have F9 := F1.same s19
  have st0 : StN (He.ga K "Folio") a fp d pp c H [] [some (.ref a), some (.int c), some (.ref fp), some (.int (c % 7)), some (.ref pp), none, none] H9 := ⟨[], none, none, rfl, s1.trans s19, h3, F9, rfl⟩
  with_reducible refine r_scut (StN (He.ga K "Folio") a fp d pp c H (a1 c)) (fun N hN => ?_) (fun σ' H' hR => ?_)
  · walk_at "rd"
    refine r_ifN (fun hw => ?_) fun hw => ?_
    · have ea : a1 c = [⟨cP, mainN c, palN c⟩] := by unfold a1; rw [if_neg hw]
      obtain ⟨dxf, f1⟩ := F9.ob
      refine r_drop (r_meth ?_)
      walk_at "rd"
      refine r_kmeth f1 (fo_no _ _ (by decide +kernel) (by decide +kernel)) ?_
      refine r_cons (r_tup (r_cons (r_c (r_cons ?_))))
      refine r_vcut (.str (mainN c)) (fun Z z => ?_) ?_
      · unfold mainN at z
        walk_at "rd"
        refine r_ifN (fun hm => ?_) fun hm => ?_
        · walk_at "rd"
          rw [if_pos (.inl hm)] at z
          exact z
        · walk_at "rd"
          refine r_i ⟨by decide, by decide⟩ ?_
          walk_at "rd"
          refine r_i (by decide) ?_
          walk_at "rd"
          refine r_ifD (fun hk => ?_) fun hk => ?_
          · rw [if_pos (.inr hk)] at z
            walk_at "rd"
            exact z
          · rw [if_neg (fun h => h.elim (fun h => h hm) hk)] at z
            walk_at "rd"
            exact z
      · walk_at "rd"
        refine r_ktup (len_le rfl) fun t H10 n10 s10 e10 => ?_
        walk_at "rd"
        have hx : (⟨cP, mainN c, palN c⟩ : Prt).Ok := nok _ (by unfold noAlb; rw [ea]; simp)
        obtain ⟨k1, k2, k3⟩ := put_ok (C := He.ga K "Folio") (H := H9) (fp := fp) (d := d) (PS := []) (A := []) (x := ⟨cP, mainN c, palN c⟩) (L := noAlb n c) (a2 n c ++ a3 n c ++ a5 n c ++ a6 c) rfl (by unfold noAlb; rw [ea]; simp) nnd nsz nln
        have F10 := F9.same s10
        refine ⟨fp, d, [], .ref t, ⟨cP, mainN c, palN c⟩, rfl, F10, ⟨t, pp, rfl, e10, s10 _ _ h3⟩, hx, k1, k2, k3, fun l H11 n11 F11 fr11 => ?_⟩
        refine hN _ _ ⟨_, none, none, rfl, fun b o e => fr11 _ _ (s10 _ _ (s19 _ _ (s1 _ _ e))) (off e), fol_keep F10 fr11 (s10 _ _ h3), F11, by rw [ea]; rfl⟩
    · walk_at "rd"
      have ea : a1 c = [] := by unfold a1; rw [if_pos hw]
      refine hN _ _ ?_
      rw [ea]
      exact st0
  clear st0
  obtain ⟨PS, y5, y6, rfl, sA, iA, FA, hA⟩ := hR
  have haA := sA _ _ ha
  with_reducible refine r_scut (StN (He.ga K "Folio") a fp d pp c H (a1 c ++ a2 n c)) (fun N hN => ?_) (fun σ' H'' hR => ?_)
  · walk_at "rd"
    refine r_ifD (fun hw => ?_) fun hw => ?_
    · have ea : a2 n c = [⟨kdN c, nmN n c, []⟩] := by unfold a2; rw [if_pos hw]
      obtain ⟨dxf, f1⟩ := FA.ob
      walk_at "rd"
      refine r_kmeth f1 (fo_no _ _ (by decide +kernel) (by decide +kernel)) ?_
      walk_at "rd"
      refine r_klst (len_le rfl) fun q1 G1 m1 t1 g1 => ?_
      walk_at "rd"
      refine r_i ⟨by decide, by decide⟩ ?_
      walk_at "rd"
      refine r_i (by decide) ?_
      refine r_ixL (v := .str ⟨#[kdN c]⟩) (SqL.of g1) ?_ ?_
      · unfold kdN
        rcases (show c / 7 % 3 = 0 ∨ c / 7 % 3 = 1 ∨ c / 7 % 3 = 2 by omega) with e | e | e <;> rw [e] <;> rfl
      walk_at "rd"
      refine r_ixL (v := .str n) (SqL.of (t1 _ _ haA)) (atI_nat (j := 0) rfl) ?_
      walk_at "rd"
      refine r_klst (len_le rfl) fun q2 G2 m2 t2 g2 => ?_
      walk_at "rd"
      refine r_i ⟨by decide, by decide⟩ ?_
      walk_at "rd"
      refine r_i (by decide) ?_
      refine r_ixL (v := .str (nmN n c)) (SqL.of g2) ?_ ?_
      · unfold nmN
        rcases (show c / 21 % 2 = 0 ∨ c / 21 % 2 = 1 by omega) with e | e <;> rw [e] <;> rfl
      walk_at "rd"
      refine r_klst (len_le rfl) fun q3 G3 m3 t3 g3 => ?_
      walk_at "rd"
      refine r_ktup (len_le rfl) fun t H10 n10 s10 e10 => ?_
      walk_at "rd"
      have sG := ((t1.trans t2).trans t3).trans s10
      have hx : (⟨kdN c, nmN n c, []⟩ : Prt).Ok := nok _ (by unfold noAlb; rw [ea]; simp)
      obtain ⟨k1, k2, k3⟩ := put_ok (C := He.ga K "Folio") (H := H9) (fp := fp) (d := d) (x := ⟨kdN c, nmN n c, []⟩) (L := noAlb n c) (a3 n c ++ a5 n c ++ a6 c) hA (by unfold noAlb; rw [ea]; simp) nnd nsz nln
      have F10 := FA.same sG
      refine ⟨fp, d, PS, .ref t, ⟨kdN c, nmN n c, []⟩, rfl, F10, ⟨t, q3, rfl, e10, s10 _ _ g3⟩, hx, k1, k2, k3, fun l H11 n11 F11 fr11 => ?_⟩
      refine hN _ _ ⟨_, _, _, rfl, fun b o e => fr11 _ _ (sG _ _ (sA _ _ e)) (off e), fol_keep F10 fr11 (sG _ _ iA), F11, by rw [ea, List.map_append, hA]; rfl⟩
    · walk_at "rd"
      have ea : a2 n c = [] := by unfold a2; rw [if_neg hw]
      exact hN _ _ ⟨_, _, _, rfl, sA, iA, FA, by rw [hA, ea, List.append_nil]⟩
  clear haA hA FA iA sA
  obtain ⟨PS, y5, y6, rfl, sA, iA, FA, hA⟩ := hR
  have haA := sA _ _ ha
  with_reducible refine r_scut (StN (He.ga K "Folio") a fp d pp c H (a1 c ++ a2 n c ++ a3 n c)) (fun N hN => ?_) (fun σ' H''' hR => ?_)
  · walk_at "rd"
    refine r_ifD (fun hw => ?_) fun hw => ?_
    · have ea : a3 n c = [⟨cP, n, S16⟩] := by unfold a3; rw [if_pos hw]
      have ep : palN c = S16 := by unfold palN; rw [if_neg (by omega), if_neg (by omega)]
      rw [ep] at iA
      obtain ⟨dxf, f1⟩ := FA.ob
      walk_at "rd"
      refine r_kmeth f1 (fo_no _ _ (by decide +kernel) (by decide +kernel)) ?_
      walk_at "rd"
      refine r_ixL (v := .str n) (SqL.of haA) (atI_nat (j := 0) rfl) ?_
      walk_at "rd"
      refine r_ktup (len_le rfl) fun t H10 n10 s10 e10 => ?_
      walk_at "rd"
      have hx : (⟨cP, n, S16⟩ : Prt).Ok := nok _ (by unfold noAlb; rw [ea]; simp)
      obtain ⟨k1, k2, k3⟩ := put_ok (C := He.ga K "Folio") (H := H9) (fp := fp) (d := d) (x := ⟨cP, n, S16⟩) (L := noAlb n c) (a5 n c ++ a6 c) hA (by unfold noAlb; rw [ea]; simp) nnd nsz nln
      have F10 := FA.same s10
      refine ⟨fp, d, PS, .ref t, ⟨cP, n, S16⟩, rfl, F10, ⟨t, pp, rfl, e10, s10 _ _ iA⟩, hx, k1, k2, k3, fun l H11 n11 F11 fr11 => ?_⟩
      refine hN _ _ ⟨_, _, _, rfl, fun b o e => fr11 _ _ (s10 _ _ (sA _ _ e)) (off e), by rw [ep]; exact fol_keep F10 fr11 (s10 _ _ iA), F11, by rw [ea, List.map_append, hA]; rfl⟩
    · walk_at "rd"
      have ea : a3 n c = [] := by unfold a3; rw [if_neg hw]
      exact hN _ _ ⟨_, _, _, rfl, sA, iA, FA, by rw [hA, ea, List.append_nil]⟩
  clear haA hA FA iA sA
  obtain ⟨PS, y5, y6, rfl, sA, iA, FA, hA⟩ := hR
  have haA := sA _ _ ha
  with_reducible refine r_scut (StN (He.ga K "Folio") a fp d pp c H (a1 c ++ a2 n c ++ a3 n c ++ a5 n c)) (fun N hN => ?_) (fun σ' H4' hR => ?_)
  · walk_at "rd"
    refine r_ifD (fun hw => ?_) fun hw => ?_
    · have ea : a5 n c = [⟨cC, n, badN c⟩] := by unfold a5; rw [if_pos hw]
      obtain ⟨dxf, f1⟩ := FA.ob
      walk_at "rd"
      refine r_klst (len_le rfl) fun b0 G0 m0 t0 g0 => ?_
      walk_at "rd"
      refine r_klst (len_le rfl) fun b1 G1 m1 t1 g1 => ?_
      walk_at "rd"
      refine r_klst (len_le rfl) fun b2 G2 m2 t2 g2 => ?_
      walk_at "rd"
      refine r_klst (len_le rfl) fun b3 G3 m3 t3 g3 => ?_
      walk_at "rd"
      refine r_klst (len_le rfl) fun b4 G4 m4 t4 g4 => ?_
      walk_at "rd"
      refine r_klst (len_le rfl) fun b5 G5 m5 t5 g5 => ?_
      walk_at "rd"
      refine r_klst (len_le rfl) fun b6 G6 m6 t6 g6 => ?_
      walk_at "rd"
      refine r_klst (len_le rfl) fun l7 G7 m7 t7 g7 => ?_
      walk_at "rd"
      have t07 := ((((((t0.trans t1).trans t2).trans t3).trans t4).trans t5).trans t6).trans t7
      refine r_kmeth (t07 _ _ f1) (fo_no _ _ (by decide +kernel) (by decide +kernel)) ?_
      walk_at "rd"
      refine r_ixL (v := .str n) (SqL.of (t07 _ _ haA)) (atI_nat (j := 0) rfl) ?_
      walk_at "rd"
      refine r_klst (len_le rfl) fun b8 G8 m8 t8 g8 => ?_
      walk_at "rd"
      refine r_klst (len_le rfl) fun b9 G9 m9 t9 g9 => ?_
      walk_at "rd"
      refine r_klst (len_le rfl) fun lA GA mA tA gA => ?_
      refine r_cat (tA _ _ (t9 _ _ (t8 _ _ g7))) gA (len_le rfl) fun lB GB mB tB gB => ?_
      walk_at "rd"
      refine r_i ⟨by decide, by decide⟩ ?_
      walk_at "rd"
      refine r_i (by decide) ?_
      have tAB := tA.trans tB
      have t8B := (t8.trans t9).trans tAB
      obtain ⟨bl, hb1, hb2⟩ : ∃ bl : Addr, atI ([V.ref b0, V.ref b1, V.ref b2, V.ref b3, V.ref b4, V.ref b5, V.ref b6] ++ [V.ref b8, V.ref b9]) (c / 7 % 9) = some (.ref bl) ∧ Ints GB bl (badN c) := by
        have k7 := fun {b o} (h : G7 b = some o) => t8B b o h
        have k6 := fun {b o} (h : G6 b = some o) => k7 (t7 b o h)
        have k5 := fun {b o} (h : G5 b = some o) => k6 (t6 b o h)
        have k4 := fun {b o} (h : G4 b = some o) => k5 (t5 b o h)
        have k3 := fun {b o} (h : G3 b = some o) => k4 (t4 b o h)
        have k2 := fun {b o} (h : G2 b = some o) => k3 (t3 b o h)
        have k1 := fun {b o} (h : G1 b = some o) => k2 (t2 b o h)
        have k0 := fun {b o} (h : G0 b = some o) => k1 (t1 b o h)
        unfold badN
        rcases (show c / 7 % 9 = 0 ∨ c / 7 % 9 = 1 ∨ c / 7 % 9 = 2 ∨ c / 7 % 9 = 3 ∨ c / 7 % 9 = 4 ∨ c / 7 % 9 = 5 ∨ c / 7 % 9 = 6 ∨ c / 7 % 9 = 7 ∨ c / 7 % 9 = 8 by omega) with e | e | e | e | e | e | e | e | e <;> rw [e]
        · exact ⟨b0, rfl, k0 g0⟩
        · exact ⟨b1, rfl, k1 g1⟩
        · exact ⟨b2, rfl, k2 g2⟩
        · exact ⟨b3, rfl, k3 g3⟩
        · exact ⟨b4, rfl, k4 g4⟩
        · exact ⟨b5, rfl, k5 g5⟩
        · exact ⟨b6, rfl, k6 g6⟩
        · exact ⟨b8, rfl, tAB _ _ (t9 _ _ g8)⟩
        · exact ⟨b9, rfl, tAB _ _ g9⟩
      refine r_ixL (SqL.of gB) hb1 ?_
      walk_at "rd"
      refine r_ktup (len_le rfl) fun t H10 n10 s10 e10 => ?_
      walk_at "rd"
      have sG := (t07.trans t8B).trans s10
      have hx : (⟨cC, n, badN c⟩ : Prt).Ok := nok _ (by unfold noAlb; rw [ea]; simp)
      obtain ⟨k1, k2, k3⟩ := put_ok (C := He.ga K "Folio") (H := H9) (fp := fp) (d := d) (x := ⟨cC, n, badN c⟩) (L := noAlb n c) (a6 c) hA (by unfold noAlb; rw [ea]; simp) nnd nsz nln
      have F10 := FA.same sG
      refine ⟨fp, d, PS, .ref t, ⟨cC, n, badN c⟩, rfl, F10, ⟨t, bl, rfl, e10, s10 _ _ hb2⟩, hx, k1, k2, k3, fun l H11 n11 F11 fr11 => ?_⟩
      refine hN _ _ ⟨_, _, _, rfl, fun b o e => fr11 _ _ (sG _ _ (sA _ _ e)) (off e), fol_keep F10 fr11 (sG _ _ iA), F11, by rw [ea, List.map_append, hA]; rfl⟩
    · walk_at "rd"
      have ea : a5 n c = [] := by unfold a5; rw [if_neg hw]
      exact hN _ _ ⟨_, _, _, rfl, sA, iA, FA, by rw [hA, ea, List.append_nil]⟩
  clear haA hA FA iA sA
  obtain ⟨PS, y5, y6, rfl, sA, iA, FA, hA⟩ := hR
  with_reducible refine r_scut (StN (He.ga K "Folio") a fp d pp c H (noAlb n c)) (fun N hN => ?_) (fun σ' H5' hR => ?_)
  · with_reducible refine r_ifS ?_
    refine r_bcut (decide (c % 7 = 6 ∧ c / 7 % 2 = 0)) (fun Z z => ?_) ?_
    · walk_at "rd"
      refine r_ifD (fun h6 => ?_) fun h6 => ?_
      · walk_at "rd"
        refine r_i ⟨by decide, by decide⟩ ?_
        walk_at "rd"
        refine r_i (by decide) ?_
        walk_at "rd"
        have e : decide (c / 7 % 2 = 0) = decide (c % 7 = 6 ∧ c / 7 % 2 = 0) := by simp [h6]
        rw [e]
        exact z
      · have e : false = decide (c % 7 = 6 ∧ c / 7 % 2 = 0) := by simp [h6]
        rw [← e] at z
        exact z
    refine r_ifD (fun hw => ?_) fun hw => ?_
    · have ea : a6 c = x17 := by unfold a6; rw [if_pos hw]
      have el : noAlb n c = (a1 c ++ a2 n c ++ a3 n c ++ a5 n c) ++ x17 := by unfold noAlb; rw [ea]
      walk_at "rd"
      refine r_ki1 (by decide) (by decide) ?_
      refine kfor (walk_range (lo := 0) (n := 17)) (fun i σ H1 => StN (He.ga K "Folio") a fp d pp c H ((a1 c ++ a2 n c ++ a3 n c ++ a5 n c) ++ x17.take i) σ H1) ⟨PS, _, _, rfl, sA, iA, FA, by rw [hA]; simp⟩ (fun _ _ _ _ _ => trivial) (fun i x σ H1 H2 hi hP y => ?_) fun σ H1 hP => ?_
      · obtain ⟨PS1, y5, y6, rfl, sB, iB, FB, hB⟩ := hP
        obtain ⟨rfl, rfl⟩ := y
        obtain ⟨dxf, f1⟩ := FB.ob
        walk_at "rd"
        refine r_kmeth f1 (fo_no _ _ (by decide +kernel) (by decide +kernel)) ?_
        walk_at "rd"
        have hxi : x17[i]? = some (x1 i) := by unfold x17; rw [List.getElem?_map, List.getElem?_range hi]; rfl
        have habc : ("abcdefghijklmnopq" : Str).cps.toList[i]? = some (97 + i) := by
          have : ∀ j : Nat, j < 17 → ("abcdefghijklmnopq" : Str).cps.toList[j]? = some (97 + j) := by decide +kernel
          exact this i hi
        refine r_ixS (len_le rfl) (by show atI _ (0 + (i : Int)) = _; rw [Int.zero_add]; exact atI_nat habc) ?_
        refine r_catS (len_le rfl) ?_
        rw [show ("x" : Str) ++ (⟨#[97 + i]⟩ : Str) = txt [120, 97 + i] from rfl]
        walk_at "rd"
        refine r_i (by decide) ?_
        walk_at "rd"
        refine r_klst (len_le rfl) fun q1 G1 m1 t1 g1 => ?_
        rw [Int.zero_add] at g1
        walk_at "rd"
        refine r_ktup (len_le rfl) fun t H10 n10 s10 e10 => ?_
        walk_at "rd"
        have sG := t1.trans s10
        have hx : (x1 i).Ok := (x17_ok _ (List.mem_of_getElem? hxi)).1
        have et : x17.take (i + 1) = x17.take i ++ [x1 i] := by rw [List.take_add_one, hxi]; rfl
        obtain ⟨k1, k2, k3⟩ := put_ok (C := He.ga K "Folio") (H := H9) (fp := fp) (d := d) (x := x1 i) (L := noAlb n c) (x17.drop (i + 1)) hB (by
          rw [el]
          conv => lhs; rw [← List.take_append_drop (i + 1) x17, et]
          simp) nnd nsz nln
        have F10 := FB.same sG
        refine ⟨fp, d, PS1, .ref t, x1 i, rfl, F10, ⟨t, q1, rfl, e10, s10 _ _ g1⟩, hx, k1, k2, k3, fun l H11 n11 F11 fr11 => ?_⟩
        exact ⟨_, _, _, rfl, fun b o e => fr11 _ _ (sG _ _ (sB _ _ e)) (off e), fol_keep F10 fr11 (sG _ _ iB), F11, by rw [et, List.map_append, hB]; simp⟩
      · rw [List.take_of_length_le (by decide +kernel), ← el] at hP
        exact hN _ _ hP
    · walk_at "rd"
      have ea : a6 c = [] := by unfold a6; rw [if_neg hw]
      exact hN _ _ ⟨_, _, _, rfl, sA, iA, FA, by rw [hA]; unfold noAlb; rw [ea, List.append_nil]⟩
  clear hA FA iA sA
  obtain ⟨PS, y5, y6, rfl, sA, iA, FA, hA⟩ := hR
  obtain ⟨dxf, f1⟩ := FA.ob
  walk_at "rd"
  refine r_kmeth f1 (fo_no _ _ (by decide +kernel) (by decide +kernel)) ?_
  walk_at "rd"
  refine ⟨fp, d, PS, rfl, FA, by rw [fsz_of, hA]; exact nsz, fun H6 s6 => ?_⟩
  rw [hA]
  exact q H6 (sA.trans s6)
end
end K44
set_option Elab.async false
set_option linter.all false
set_option maxRecDepth 100000
set_option maxHeartbeats 4000000
namespace K44
open PySem PySem.Spec PyProof.Rows L2
/-! Folios that are no album's are refused with BadPart. -/
theorem fsz_flat (xs : List Prt) : fsz xs = 7 + ((xs.map Prt.nums).flatten.length : Int) := by
  unfold fsz
  congr 1
  induction xs with
  | nil => rfl
  | cons x xs ih =>
    rw [List.map_cons, List.sum_cons, ih, List.map_cons, List.flatten_cons, List.length_append]
    omega
theorem pal16 : PalIn S16 := ⟨by decide +kernel, by decide +kernel, by decide +kernel, by decide +kernel, by decide +kernel, by decide +kernel, by decide +kernel, by decide +kernel, by decide +kernel, by decide +kernel⟩
theorem pal15 : PalIn S15 := ⟨by decide +kernel, by decide +kernel, by decide +kernel, by decide +kernel, by decide +kernel, by decide +kernel, by decide +kernel, by decide +kernel, by decide +kernel, by decide +kernel⟩
theorem pal4 : PalIn S4 := ⟨by decide +kernel, by decide +kernel, by decide +kernel, by decide +kernel, by decide +kernel, by decide +kernel, by decide +kernel, by decide +kernel, by decide +kernel, by decide +kernel⟩
theorem pal_lens : S16.length ≤ 1000 ∧ S15.length ≤ 1000 ∧ S4.length ≤ 1000 := by decide +kernel
theorem bad_none : ∀ l ∈ badL, picM l = none := by decide +kernel
theorem open15 : openM [⟨cP, MAINs, S15⟩] = none := by decide +kernel
theorem open4 : openM [⟨cP, MAINs, S4⟩] = none := by decide +kernel
theorem open17 : openM (⟨cP, MAINs, S16⟩ :: x17) = none := by decide +kernel
theorem openO : openM [⟨cP, OTHs, S16⟩] = none := by decide +kernel
theorem noAlb_none {n : Str} (hne : n ≠ MAINs) (c : Int) : openM (noAlb n c) = none ∧ PalsIn (noAlb n c) := by
  have p16 : PalIn S16 ∧ S16.length ≤ 1000 := ⟨pal16, pal_lens.1⟩
  rcases noAlb_cases n c with e | e | e | e | e | e | e | e <;> rw [e]
  · have hk : kdN c ≠ cP ∧ kdN c ≠ cC := by rcases kdN_in c with h | h | h <;> rw [h] <;> decide
    refine ⟨?_, fun x hx hc hn => ?_⟩
    · unfold openM
      rw [if_neg]
      rintro ⟨_, h, _⟩
      have : partsC cC [⟨cP, MAINs, S16⟩, ⟨kdN c, nmN n c, []⟩] = [] := filt_no fun y hy => by
        rcases List.mem_cons.mp hy with rfl | hy
        · show cP ≠ cC
          decide
        · have := List.mem_singleton.mp hy
          subst this
          exact hk.2
      rw [this] at h
      simp at h
    · rcases List.mem_cons.mp hx with rfl | hx
      · exact p16
      · have := List.mem_singleton.mp hx
        subst this
        exact absurd hc hk.1
  · refine ⟨?_, fun x hx hc hn => ?_⟩
    · unfold openM
      rw [if_neg]
      rintro ⟨h, _⟩
      rw [filt_all fun y hy => by
        rcases List.mem_cons.mp hy with rfl | hy
        · rfl
        · have := List.mem_singleton.mp hy
          subst this
          rfl] at h
      simp at h
    · rcases List.mem_cons.mp hx with rfl | hx
      · exact p16
      · have := List.mem_singleton.mp hx
        subst this
        exact p16
  · refine ⟨?_, fun x hx => by cases hx⟩
    unfold openM
    rw [if_neg]
    rintro ⟨h, _⟩
    cases h
  · refine ⟨open15, fun x hx hc hn => ?_⟩
    have := List.mem_singleton.mp hx
    subst this
    exact ⟨pal15, pal_lens.2.1⟩
  · refine ⟨open4, fun x hx hc hn => ?_⟩
    have := List.mem_singleton.mp hx
    subst this
    exact ⟨pal4, pal_lens.2.2⟩
  · refine ⟨?_, fun x hx hc hn => ?_⟩
    · have h1 : partsC cP [⟨cP, MAINs, S16⟩, ⟨cC, n, badN c⟩] = [⟨cP, MAINs, S16⟩] := rfl
      have h2 : partsC cC [⟨cP, MAINs, S16⟩, ⟨cC, n, badN c⟩] = [⟨cC, n, badN c⟩] := rfl
      unfold openM
      rw [h1, h2]
      split
      · show (if (palCols S16).Nodup ∧ (palCols S16).length = 16 then picsM [⟨cC, n, badN c⟩] else none) = none
        split
        · exact picsM_bad (List.mem_singleton.mpr rfl) (bad_none _ (badN_in c))
        · rfl
      · rfl
    · rcases List.mem_cons.mp hx with rfl | hx
      · exact p16
      · have := List.mem_singleton.mp hx
        subst this
        exact absurd hc (by show cC ≠ cP; decide)
  · refine ⟨open17, fun x hx hc hn => ?_⟩
    rcases List.mem_cons.mp hx with rfl | hx
    · exact p16
    · rw [(x17_ok x hx).2.1] at hc
      exact absurd hc (by decide)
  · refine ⟨openO, fun x hx hc hn => ?_⟩
    have := List.mem_singleton.mp hx
    subst this
    exact absurd hn (by show ¬ OTHs = MAINs; decide +kernel)
theorem noAlb_ref {n : Str} (hs : isSmall n 8 = true) (hne : n ≠ MAINs) (c : Int) : Ref (ftext (noAlb n c)) (refD false false false true .none) := by
  obtain ⟨h1, h2, h3, h4⟩ := noAlb_ok hs hne c
  obtain ⟨k1, k2⟩ := noAlb_none hne c
  have g : GoodText (ftext (noAlb n c)) (noAlb n c) := ⟨rfl, h1, h2, by omega, by rw [body_len]; rw [fsz_flat] at h3; omega⟩
  exact .inr (.inr (.inr ⟨_, g, k1, k2, fun ys g2 => good_one g g2, rfl⟩))
theorem ftext_len (xs : List Prt) : (ftext xs).length = (fbody xs).length + 2 := by
  unfold ftext
  rw [txt_len, List.length_map, List.length_append]
  rfl
theorem noAlb_len {n : Str} (hs : isSmall n 8 = true) (hne : n ≠ MAINs) (c : Int) : (ftext (noAlb n c)).length ≤ 100000 := by
  obtain ⟨_, _, h3, _⟩ := noAlb_ok hs hne c
  rw [ftext_len, body_len]
  rw [fsz_flat] at h3
  omega
end K44
set_option Elab.async false
set_option linter.all false
set_option maxRecDepth 100000
set_option maxHeartbeats 4000000
namespace K44
open PySem PySem.Spec PyProof.Rows L2
local macro_rules | `(tactic| walk_at "rd1") => `(tactic| first
  | ((with_reducible apply r_var); rfl)
  | ((with_reducible apply r_aug); rfl)
  | with_reducible apply r_isiI
  | with_reducible apply r_tslS
  | with_reducible apply r_try
  | with_reducible apply r_gsub
  | with_reducible apply r_irev
  | with_reducible apply r_trg1
  | with_reducible apply r_sfld
  | with_reducible apply r_afld
  | with_reducible apply r_rAdd
  | with_reducible apply r_dget
  | with_reducible apply r_din
  | with_reducible apply r_dnot
  | with_reducible apply r_dput
  | with_reducible apply r_ikeys
  | with_reducible apply r_m1
  | with_reducible apply r_km1
  | with_reducible apply r_inS
  | with_reducible apply r_notInS
  | with_reducible apply r_isN
  | with_reducible apply r_ip
  | with_reducible apply r_kbmS
  | with_reducible apply r_min2
  | with_reducible apply r_isiB
  | with_reducible apply r_isiS
  | with_reducible apply r_tyes
  | with_reducible apply iteT
  | with_reducible apply iteF
  | with_reducible apply r_nT
  | with_reducible apply r_nF
  | with_reducible apply r_callS
  | with_reducible apply r_meth
  | with_reducible apply r_methS
  | with_reducible apply r_methD
  | with_reducible apply r_make
  | with_reducible apply r_lc
  | with_reducible apply r_for
  | with_reducible apply r_ilist
  | with_reducible apply r_itup
  | with_reducible apply r_irng1
  | with_reducible apply r_irng2
  | with_reducible apply r_istr
  | with_reducible apply r_ienum
  | with_reducible apply r_izip
  | with_reducible apply r_izip3
  | with_reducible apply r_izip4
  | with_reducible apply r_kis
  | with_reducible apply r_c
  | with_reducible apply r_op
  | with_reducible apply r_un
  | with_reducible apply r_i0
  | with_reducible apply r_u
  | with_reducible apply r_eqI
  | with_reducible apply r_neI
  | with_reducible apply r_eqS
  | with_reducible apply r_neS
  | with_reducible apply r_test
  | with_reducible apply r_B
  | with_reducible apply r_bl
  | with_reducible apply r_int
  | with_reducible apply r_and
  | with_reducible apply r_or
  | with_reducible apply r_not
  | with_reducible apply r_andV
  | with_reducible apply r_orV
  | with_reducible apply r_notV
  | with_reducible apply r_chain
  | with_reducible apply r_tif
  | with_reducible apply r_nil
  | with_reducible apply r_cons
  | with_reducible apply r_cb
  | with_reducible apply r_call
  | with_reducible apply r_seq
  | with_reducible apply r_asg
  | with_reducible apply r_name
  | with_reducible apply r_drop
  | with_reducible apply r_ret
  | with_reducible apply r_retN
  | with_reducible apply r_next
  | with_reducible apply r_ifS
  | with_reducible apply r_tup
  | with_reducible apply r_lst
  | with_reducible apply r_sl
  | with_reducible apply r_nopart
  | with_reducible apply r_part
  | with_reducible apply r_fld
  | with_reducible apply r_bm
  | with_reducible apply r_bm0)
local macro_rules | `(tactic| walk_at "rd") => `(tactic| repeat (walk_at "rd1"))

theorem good_size {z : Str} {xs : List Prt} (g : GoodText z xs) : 7 ≤ z.length ∧ z.length ≤ 3900 := by
  have h := good_len g
  have e : z.cps.toList.length = z.length := by simp [Str.length]
  have b := body_len xs
  have s := g.sz
  omega
theorem open_good {K : PySem.W.Frag} {H : Hp} {Q : VK} {E : XK} {z : Str} {xs : List Prt} {r : List (Str × List (List Int))} (g : GoodText z xs) (ho : openM xs = some r) (hp : PalsIn xs)
    (q : ∀ (A : AlbS) (L : List Ent) (hx : List V) H', Same H H' → AlbumAt (He.ga K "Album") H' A L hx → L.map (fun x => (x.nm, x.rows)) = r → Q (.ref A.p) H') : sp_opened_album K [.str z] H Q E := by
  have hs := good_size g
  refine ⟨z, rfl, by omega, fun _ _ _ => ⟨xs, g⟩, fun ys g2 => by rw [good_one g g2]; exact hp, fun ⟨c, h1, h2⟩ => absurd ((good_nums g).2 c h1) h2, fun _ h => absurd h (good_head g), fun _ _ h => ?_, fun ys g2 => ?_⟩
  · obtain ⟨_, a, b⟩ := good_chk g
    exact absurd (by rw [a, b]) h
  · rw [good_one g g2, ho]
    exact ⟨fun h => (by cases h), fun r2 h A L hx H' s a e => q A L hx H' s a (by rw [e, Option.some.inj h])⟩
theorem dp_pic {K : PySem.W.Frag} {H : Hp} {a : Addr} {rows : List (List Int)} (h : Pic H a rows) : Dp K H (.ref a) (dP rows) := by
  obtain ⟨ps, h1, h2, h3⟩ := h
  rw [← h2]
  exact dp_P (SqL.of h1) h3
theorem one_pic {H : Hp} {a b : Addr} {v : Int} (h1 : H a = some (.lst [.ref b])) (h2 : H b = some (.lst [.int v])) : Pic H a [[v]] := ⟨[(b, [v])], h1, rfl, fun p hp => by
  have := List.mem_singleton.mp hp
  subst this
  exact h2⟩
theorem one_ok {v : Int} (h : 0 ≤ v ∧ v < 16) : PicOk [[v]] := .of (w := 1) (by simp) (by simp) (by decide) (by decide) fun r hr => by
  have := List.mem_singleton.mp hr
  subst this
  refine ⟨rfl, fun c hc => ?_⟩
  have := List.mem_singleton.mp hc
  subst this
  exact h
def six1 (c : Int) (k : Nat) : Str × List (List Int) := (txt [97 + k], [[(c / 7 + (k : Int)) % 16]])
theorem six1_nm : ((List.range 16).map fun k => (txt [97 + k] : Str)).Nodup ∧ (∀ k ∈ List.range 16, isSmall (txt [97 + k]) 8 = true) ∧ (∀ k ∈ List.range 16, txt [97 + k] ≠ ("zz" : Str)) := by decide +kernel
theorem ent_nms {L : List Ent} {r : List (Str × List (List Int))} (h : L.map (fun x => (x.nm, x.rows)) = r) : (L.map fun x => x.nm) = r.map (·.1) := by rw [← h, List.map_map]; rfl
theorem wsize_of {L : List Ent} {m : Nat} (h : ∀ x ∈ L, x.rows.length + 2 * x.rows.flatten.length ≤ m) : wsize L ≤ L.length * (14 + m) := by
  induction L with
  | nil => simp [wsize]
  | cons a L ih =>
    have h1 := h a (List.mem_cons_self ..)
    have h2 := ih fun x hx => h x (List.mem_cons_of_mem _ hx)
    unfold wsize at h2 ⊢
    rw [List.map_cons, List.sum_cons, List.length_cons, Nat.add_mul, Nat.one_mul]
    omega
def sp_law_sixteen (K : PySem.W.Frag) : Sp := fun vs H Q _ => ∃ (c : Int), vs = [.int c] ∧ ∀ H', Same H H' → Q (.bl true) H'
theorem sc_law_sixteen : FnScope ["_law_cell", "_law_album", "_law_k", "_law_found", "_law_error", "e"] ["_law_cell"] (defScope s_law_sixteen) := ⟨rfl, rfl, rfl, by decide +kernel, rfl, by decide +kernel, by decide +kernel⟩
section
theorem len_law_sixteen {K : PySem.W.Frag} {vs : List V} {H : Hp} {Q : VK} {E : XK} (h : (sp_law_sixteen K) vs H Q E) : vs.length = 1 := by
  repeat (obtain ⟨_, h⟩ := h)
  subst_vars; rfl
variable {P : Program} {w : World} {K : PySem.W.Frag} {mg : Str → Option Value} {base : Heap}
theorem ok_law_sixteen (T : Tx K mg) : Cal P w K mg base CX0 10 (He.ga K "_law_sixteen") ["_law_cell"] (sp_law_sixteen K) := by
  obtain ⟨fd, F⟩ := T.F_law_sixteen
  refine ⟨⟨fd, F.ok sc_law_sixteen (fun vs H Q E h => len_law_sixteen h) (fun cdv A outer s H vs Q E hr h => ⟨_, PSs.nox (
      (pss_cons (ps_set (i := 1) sc_law_sixteen.nd rfl (Or.inl rfl) (pe_calK0 T.m_Album_init (ok_Album_init T) hr (by decide) (by rfl) T.gc_Album pass0))
      (pss_cons (ps_for PassesOwn.never rfl (pi_range1 (by rfl) T.b_range (pa_cons pe_int pa_nil)) (pg_name (i := 2) sc_law_sixteen.nd rfl (Or.inl rfl))
      (pss_one (ps_expr (pe_calM (pv 1) T.c_Album T.m_Album_put (ok_Album_put T) hr (by decide) pass0 (pa_cons (pe_ix ix_str pe_str (pv 2) (fun _ _ => rfl)) (pa_cons (pe_lst (pa_cons (pe_lst (pa_cons (pe_op op_mod (pe_op op_add (pe_op op_fdiv (pv 0) pe_int) (pv 2)) pe_int) pa_nil)) pa_nil)) pa_nil))))))
      (pss_cons (ps_set (i := 3) sc_law_sixteen.nd rfl (Or.inl rfl) (pe_cal (ok_opened_album T) hr (by decide) (by rfl) T.g_opened_album passE0 (pa_cons (pe_cal (ok_written_album T) hr (by decide) (by rfl) T.g_written_album pass0 (pa_cons (pv 1) pa_nil)) pa_nil)))
      (pss_cons (ps_if (PW.pt (pw_or (pt_cmpR (op_neDK K hr.units) (pe_calM0 (pv 3) T.c_Album T.m_Album_names (ok_Album_names T) hr (by decide) pass0) (pe_calM0 (pv 1) T.c_Album T.m_Album_names (ok_Album_names T) hr (by decide) pass0) (nomark _)) (pw_or1 (pt_cmpR (op_neDK K hr.units) (pe_calM (pv 3) T.c_Album T.m_Album_picture (ok_Album_picture T) hr (by decide) pass0 (pa_cons pe_str pa_nil)) (pe_calM (pv 1) T.c_Album T.m_Album_picture (ok_Album_picture T) hr (by decide) pass0 (pa_cons pe_str pa_nil)) (nomark _)))))
      (pss_one (ps_ret pe_bl)) pss_nil)
      (pss_cons (ps_set (i := 4) sc_law_sixteen.nd rfl (Or.inl rfl) pe_non)
      (pss_cons (ps_keep (i := 5) rfl rfl rfl sc_law_sixteen.nd rfl rfl ⟨rfl, by decide, .inl T.gx_FolioError⟩
      (fun W pn xe tk => (pss_one (ps_expr (pe_calMS (pv 3) T.c_Album T.m_Album_put (ok_Album_put_x T) hr (by decide) (fun σ => L2N.passAt tk σ) (pa_cons pe_str (pa_cons (pe_lst (pa_cons (pe_lst (pa_cons pe_int pa_nil)) pa_nil)) pa_nil))))))
      (fun a oe cls d pn => (pss_one (ps_set (i := 4) sc_law_sixteen.nd rfl (Or.inl rfl) (pv 5)))))
      (pss_one (ps_ret (pe_and (pe_callB (call_isX K) (by rfl) T.b_isinstance boot_isinstance (pa_cons (pv 4) (pa_cons (C8.pe_gc (v := .ref (He.ga K "TooMany")) (by rfl) ⟨_, T.gx_TooMany, rfl⟩) pa_nil))) (pe_one (pe_cmpR (op_eqDK K hr.units) (pe_calM0 (pv 3) T.c_Album T.m_Album_names (ok_Album_names T) hr (by decide) pass0) (pe_calM0 (pv 1) T.c_Album T.m_Album_names (ok_Album_names T) hr (by decide) pass0) (nomark _))))))))))))), ?_⟩), F.bindsN fun _ _ _ _ _ _ us hl => match us, hl with | [_], _ => rfl⟩, F.kp⟩
  obtain ⟨c, rfl, q⟩ := h
  walk_at "rd"
  intro ap dx nx ndx nex
  have sx : Same H (upd (upd H dx (.own ap)) ap (.ins (He.ga K "Album") dx [])) := fun b o e => by
    rw [upd_ne (ne_of_none e nx), upd_ne (ne_of_none e ndx)]
    exact e
  refine ⟨ap, dx, rfl, upd_same, fun A H7 hx7 hAp hnew A7 g7 fr7 => ⟨rfl, ?_⟩⟩
  have A7 : AlbumAt (He.ga K "Album") H7 A [] hx7 := A7
  have s7 : Same H H7 := fun b o e => fr7 _ _ (sx _ _ e) (by simp; exact ne_of_none e nx)
  have off : ∀ {b o}, H b = some o → b ∉ A.M := fun {b o} e hm => by
    simp only [AlbS.M, List.mem_cons, List.not_mem_nil, or_false] at hm
    rcases hm with rfl | hm
    · rw [hAp, nx] at e
      cases e
    · have := hnew b (by simpa using hm)
      rw [sx _ _ e] at this
      cases this
  subst hAp
  walk_at "rd"
  refine r_ki1 (by decide) (by decide) ?_
  obtain ⟨sx1, sx2, sx3⟩ := six1_nm
  refine kfor (walk_range (lo := 0) (n := 16)) (fun i σ H1 => (∃ y2, σ = [some (.int c), some (.ref A.p), y2, none, none, none]) ∧ Same H H1 ∧ ∃ L, AlbumAt (He.ga K "Album") H1 A L hx7 ∧ GreyAt H1 A hx7 ∧ L.map (fun x => (x.nm, x.rows)) = (List.range i).map (six1 c))
    ⟨⟨none, rfl⟩, s7, [], A7, g7, rfl⟩ (fun _ _ _ _ _ => trivial) (fun i x σ H1 H2 hi hP y => ?_) fun σ H1 hP => ?_
  · obtain ⟨⟨y2, rfl⟩, s1, L, A1, g1, hL⟩ := hP
    obtain ⟨rfl, rfl⟩ := y
    have hll : L.length = i := by have := congrArg List.length hL; simpa using this
    have hnm := ent_nms hL
    obtain ⟨dxa, p1⟩ := A1.ob
    walk_at "rd"
    refine r_kmeth p1 (af_no _ (by decide +kernel) (by decide +kernel) (by decide +kernel) (by decide +kernel) (by decide +kernel)) ?_
    walk_at "rd"
    have habc : ("abcdefghijklmnop" : Str).cps.toList[i]? = some (97 + i) := by
      have : ∀ j : Nat, j < 16 → ("abcdefghijklmnop" : Str).cps.toList[j]? = some (97 + j) := by decide +kernel
      exact this i hi
    refine r_ixS (len_le rfl) (by show atI _ (0 + (i : Int)) = _; rw [Int.zero_add]; exact atI_nat habc) ?_
    walk_at "rd"
    refine r_i ⟨by decide, by decide⟩ ?_
    walk_at "rd"
    refine r_i (by decide) ?_
    walk_at "rd"
    refine r_klst (len_le rfl) fun r1 H3 n3 s3 e3 => ?_
    walk_at "rd"
    refine r_klst (len_le rfl) fun r2 H4 n4 s4 e4 => ?_
    walk_at "rd"
    rw [Int.zero_add] at e3
    have s14 := s3.trans s4
    have hv : 0 ≤ (c / 7 + (i : Int)) % 16 ∧ (c / 7 + (i : Int)) % 16 < 16 := by omega
    refine ⟨A, L, hx7, txt [97 + i], r2, [[(c / 7 + (i : Int)) % 16]], rfl, A1.same s14, one_pic e4 (s4 _ _ e3), one_ok hv, sx2 i (List.mem_range.mpr hi), ?_, by omega, fun r H5 A5 fr5 => ?_⟩
    · rw [hnm, List.map_map]
      intro hm
      obtain ⟨j, hj, ej⟩ := List.mem_map.mp hm
      have hj := List.mem_range.mp hj
      have := nd_ix sx1 (i := j) (j := i) (x := txt [97 + i]) (by rw [List.getElem?_map, List.getElem?_range (by omega)]; exact congrArg some ej) (by rw [List.getElem?_map, List.getElem?_range (by omega)]; rfl)
      omega
    · refine ⟨⟨_, rfl⟩, fun b o e => fr5 _ _ (s14 _ _ (s1 _ _ e)) (off e), _, A5, (g1.fr (sfr s14)).fr fr5, ?_⟩
      rw [List.map_append, hL, List.range_succ, List.map_append]
      rfl
  · obtain ⟨⟨y2, rfl⟩, s1, L, A1, g1, hL⟩ := hP
    have hll : L.length = 16 := by have := congrArg List.length hL; simpa using this
    have hnm := ent_nms hL
    rw [List.map_map] at hnm
    have hnm : (L.map fun x => x.nm) = (List.range 16).map fun k => (txt [97 + k] : Str) := hnm
    have hat : ∀ x ∈ L, ∃ k, k < 16 ∧ x.nm = txt [97 + k] ∧ x.rows = [[(c / 7 + (k : Int)) % 16]] := fun x hx => by
      have : (x.nm, x.rows) ∈ (List.range 16).map (six1 c) := by rw [← hL]; exact List.mem_map.mpr ⟨x, hx, rfl⟩
      obtain ⟨k, hk, e⟩ := List.mem_map.mp this
      exact ⟨k, List.mem_range.mp hk, (congrArg Prod.fst e).symm, (congrArg Prod.snd e).symm⟩
    have hsm : ∀ x ∈ L, isSmall x.nm 8 = true := fun x hx => by
      obtain ⟨k, hk, e, _⟩ := hat x hx
      rw [e]
      exact sx2 k (List.mem_range.mpr hk)
    have hws : wsize L ≤ 3800 := by
      have := wsize_of (L := L) (m := 3) fun x hx => by
        obtain ⟨k, hk, _, e⟩ := hat x hx
        rw [e]
        simp
      rw [hll] at this
      omega
    walk_at "rd"
    refine ⟨A, L, hx7, rfl, A1, g1, hsm, hws, fun H2 ys s2 hpp => ?_⟩
    obtain ⟨gd, go, gp⟩ := alb_good hpp (fun x hx => ⟨(A1.pi x hx).2, hsm x hx⟩) A1.nd (by omega) hws
    have A2 := A1.same s2
    walk_at "rd"
    refine open_good gd go gp fun B L2 hxB H3 s3 B3 hB => ?_
    have A3 := A2.same s3
    have s03 := (s1.trans s2).trans s3
    have hnB := ent_nms hB
    rw [List.map_map] at hnB
    have hnB : (L2.map fun x => x.nm) = L.map fun x => x.nm := hnB
    have hbl : L2.length = 16 := by have := congrArg List.length hB; simpa [hll] using this
    obtain ⟨dxb, pb⟩ := B3.ob
    have bno : ∀ {m : Str}, ¬ m = "ahead" → ¬ m = "past" → ¬ m = "hues" → ¬ m = "held" → ¬ m = "order" → (af B).lookup m = none := fun h1 h2 h3 h4 h5 => af_no B h1 h2 h3 h4 h5
    have ano : ∀ {m : Str}, ¬ m = "ahead" → ¬ m = "past" → ¬ m = "hues" → ¬ m = "held" → ¬ m = "order" → (af A).lookup m = none := fun h1 h2 h3 h4 h5 => af_no A h1 h2 h3 h4 h5
    have hok : ∀ z ∈ (L.map fun x => x.nm), PyData.strOk z = true := fun z hz => by
      obtain ⟨x, hx, rfl⟩ := List.mem_map.mp hz
      exact sml_ok (hsm x hx)
    walk_at "rd"
    refine r_kmeth pb (bno (by decide +kernel) (by decide +kernel) (by decide +kernel) (by decide +kernel) (by decide +kernel)) ?_
    walk_at "rd"
    refine ⟨B, L2, hxB, rfl, B3, fun r4 H4 n4 s4 e4 => ?_⟩
    have A4 := A3.same s4
    have B4 := B3.same s4
    obtain ⟨dxa, pa⟩ := A4.ob
    walk_at "rd"
    refine r_kmeth pa (ano (by decide +kernel) (by decide +kernel) (by decide +kernel) (by decide +kernel) (by decide +kernel)) ?_
    walk_at "rd"
    refine ⟨A, L, hx7, rfl, A4, fun r5 H5 n5 s5 e5 => ?_⟩
    have eN : ∀ {r : Addr} {h : Hp} {M : List Ent}, h r = some (.lst (M.map fun x => V.str x.nm)) → h r = some (.lst ((M.map fun x => x.nm).map V.str)) := fun {r h M} e => by rw [List.map_map]; exact e
    refine r_neD (dp_S (SqL.of (eN (s5 _ _ e4)))) (dp_S (SqL.of (eN e5))) (shaped_S (by rw [hnB]; exact hok)) (shaped_S hok) ?_
    rw [eqv_S, hnB]
    walk_at "rd"
    refine r_noN rfl ?_
    obtain ⟨x, hx⟩ : ∃ x, L[15]? = some x := ⟨_, List.getElem?_eq_getElem (by omega)⟩
    obtain ⟨x2, hx2⟩ : ∃ x2, L2[15]? = some x2 := ⟨_, List.getElem?_eq_getElem (by omega)⟩
    have ex : (x2.nm, x2.rows) = (x.nm, x.rows) := by
      have := congrArg (fun l : List (Str × List (List Int)) => l[15]?) hB
      simp only [List.getElem?_map, hx, hx2, Option.map_some] at this
      exact Option.some.inj this
    have exn : x.nm = ("p" : Str) := by
      have := congrArg (fun l : List Str => l[15]?) hnm
      simp only [List.getElem?_map, hx, Option.map_some] at this
      have e2 : ((List.range 16)[15]?).map (fun k => (txt [97 + k] : Str)) = some ("p" : Str) := by decide +kernel
      rw [e2] at this
      exact Option.some.inj this
    have hxm : x ∈ L := List.mem_of_getElem? hx
    have hxm2 : x2 ∈ L2 := List.mem_of_getElem? hx2
    have ex1 : x2.nm = x.nm := congrArg Prod.fst ex
    have ex2 : x2.rows = x.rows := congrArg Prod.snd ex
    have A5 := A4.same s5
    have B5 := B4.same s5
    walk_at "rd"
    refine r_kmeth (s5 _ _ (s4 _ _ pb)) (bno (by decide +kernel) (by decide +kernel) (by decide +kernel) (by decide +kernel) (by decide +kernel)) ?_
    walk_at "rd"
    refine ⟨B, L2, hxB, x2, by rw [ex1, exn], B5, hxm2, fun r6 H6 s6 pn6 => ?_⟩
    have A6 := A5.same s6
    have B6 := B5.same s6
    walk_at "rd"
    refine r_kmeth (s6 _ _ (s5 _ _ pa)) (ano (by decide +kernel) (by decide +kernel) (by decide +kernel) (by decide +kernel) (by decide +kernel)) ?_
    walk_at "rd"
    refine ⟨A, L, hx7, x, by rw [exn], A6, hxm, fun r7 H7' s7' pn7 => ?_⟩
    have A7' := A6.same s7'
    have B7' := B6.same s7'
    refine r_neD (dp_pic (pn6.same s7').pic) (dp_pic pn7.pic) (shaped_P _) (shaped_P _) ?_
    rw [ex2, eqv_same (shaped_P _)]
    walk_at "rd"
    have s47 := ((s4.trans s5).trans s6).trans s7'
    refine r_keep ?_
    walk_at "rd"
    refine r_kmethS (s47 _ _ pb) (bno (by decide +kernel) (by decide +kernel) (by decide +kernel) (by decide +kernel) (by decide +kernel)) ?_
    walk_at "rd"
    refine r_klst (len_le rfl) fun r8 H8 n8 s8 e8 => ?_
    walk_at "rd"
    refine r_klst (len_le rfl) fun r9 H9 n9 s9 e9 => ?_
    walk_at "rd"
    have s89 := s8.trans s9
    refine ⟨B, L2, hxB, "zz", r9, [[1]], rfl, B7'.same s89, one_pic e9 (s9 _ _ e8), one_ok (by decide), by decide +kernel, ?_, hbl, fun H10 s10 => ?_⟩
    · rw [hnB, hnm]
      intro hm
      obtain ⟨k, hk, e⟩ := List.mem_map.mp hm
      exact sx3 k hk e
    refine ⟨T.e_TooMany_FolioError, fun a na => ?_⟩
    walk_at "rd"
    refine ⟨_, rfl, rfl, fun na2 => ?_⟩
    have sA : Same H10 (upd H10 a (exk a (He.ga K "TooMany"))) := same_up na2
    generalize hH : upd H10 a (exk a (He.ga K "TooMany")) = H11 at sA ⊢
    have ea : H11 a = some (exk a (He.ga K "TooMany")) := by rw [← hH, upd_same]
    have s811 := (s89.trans s10).trans sA
    have A11 := A7'.same s811
    have B11 := B7'.same s811
    walk_at "rd"
    refine ⟨a, He.ga K "TooMany", .ref _, .ref _, true, rfl, ea, excC_of (T.more 10 rfl), fun u r => r, of_decide_eq_true (T.more 27 rfl), ?_⟩
    walk_at "rd"
    obtain ⟨dxb2, pb2⟩ := B11.ob
    refine r_kmeth pb2 (bno (by decide +kernel) (by decide +kernel) (by decide +kernel) (by decide +kernel) (by decide +kernel)) ?_
    walk_at "rd"
    refine ⟨B, L2, hxB, rfl, B11, fun r12 H12 n12 s12 e12 => ?_⟩
    obtain ⟨dxa2, pa2⟩ := (A11.same s12).ob
    walk_at "rd"
    refine r_kmeth pa2 (ano (by decide +kernel) (by decide +kernel) (by decide +kernel) (by decide +kernel) (by decide +kernel)) ?_
    walk_at "rd"
    refine ⟨A, L, hx7, rfl, A11.same s12, fun r13 H13 n13 s13 e13 => ?_⟩
    refine r_eqD (dp_S (SqL.of (eN (s13 _ _ e12)))) (dp_S (SqL.of (eN e13))) (shaped_S (by rw [hnB]; exact hok)) (shaped_S hok) ?_
    rw [eqv_S, hnB, decide_eq_true rfl]
    exact q H13 ((s03.trans s47).trans (s811.trans (s12.trans s13)))
end
end K44
set_option Elab.async false
set_option linter.all false
set_option maxRecDepth 100000
set_option maxHeartbeats 4000000
namespace K44
open PySem PySem.Spec PyProof.Rows L2
local macro_rules | `(tactic| walk_at "rd1") => `(tactic| first
  | ((with_reducible apply r_var); rfl)
  | ((with_reducible apply r_aug); rfl)
  | with_reducible apply r_isiI
  | with_reducible apply r_tslS
  | with_reducible apply r_try
  | with_reducible apply r_gsub
  | with_reducible apply r_irev
  | with_reducible apply r_trg1
  | with_reducible apply r_sfld
  | with_reducible apply r_afld
  | with_reducible apply r_rAdd
  | with_reducible apply r_dget
  | with_reducible apply r_din
  | with_reducible apply r_dnot
  | with_reducible apply r_dput
  | with_reducible apply r_ikeys
  | with_reducible apply r_m1
  | with_reducible apply r_km1
  | with_reducible apply r_inS
  | with_reducible apply r_notInS
  | with_reducible apply r_isN
  | with_reducible apply r_ip
  | with_reducible apply r_kbmS
  | with_reducible apply r_min2
  | with_reducible apply r_isiB
  | with_reducible apply r_isiS
  | with_reducible apply r_tyes
  | with_reducible apply iteT
  | with_reducible apply iteF
  | with_reducible apply r_nT
  | with_reducible apply r_nF
  | with_reducible apply r_callS
  | with_reducible apply r_meth
  | with_reducible apply r_methS
  | with_reducible apply r_methD
  | with_reducible apply r_make
  | with_reducible apply r_lc
  | with_reducible apply r_for
  | with_reducible apply r_ilist
  | with_reducible apply r_itup
  | with_reducible apply r_irng1
  | with_reducible apply r_irng2
  | with_reducible apply r_istr
  | with_reducible apply r_ienum
  | with_reducible apply r_izip
  | with_reducible apply r_izip3
  | with_reducible apply r_izip4
  | with_reducible apply r_kis
  | with_reducible apply r_c
  | with_reducible apply r_op
  | with_reducible apply r_un
  | with_reducible apply r_i0
  | with_reducible apply r_u
  | with_reducible apply r_eqI
  | with_reducible apply r_neI
  | with_reducible apply r_eqS
  | with_reducible apply r_neS
  | with_reducible apply r_test
  | with_reducible apply r_B
  | with_reducible apply r_bl
  | with_reducible apply r_int
  | with_reducible apply r_and
  | with_reducible apply r_or
  | with_reducible apply r_not
  | with_reducible apply r_andV
  | with_reducible apply r_orV
  | with_reducible apply r_notV
  | with_reducible apply r_chain
  | with_reducible apply r_tif
  | with_reducible apply r_nil
  | with_reducible apply r_cons
  | with_reducible apply r_cb
  | with_reducible apply r_call
  | with_reducible apply r_seq
  | with_reducible apply r_asg
  | with_reducible apply r_name
  | with_reducible apply r_drop
  | with_reducible apply r_ret
  | with_reducible apply r_retN
  | with_reducible apply r_next
  | with_reducible apply r_ifS
  | with_reducible apply r_tup
  | with_reducible apply r_lst
  | with_reducible apply r_sl
  | with_reducible apply r_nopart
  | with_reducible apply r_part
  | with_reducible apply r_fld
  | with_reducible apply r_bm
  | with_reducible apply r_bm0)
local macro_rules | `(tactic| walk_at "rd") => `(tactic| repeat (walk_at "rd1"))

/-! The law. -/
theorem seqT_same {K : PySem.W.Frag} {H H' : Hp} {a : Addr} {xs : List V} (e : Same H H') (h : SqT K H a xs) : SqT K H' a xs := by
  rcases h with (h | ⟨o, h⟩) | h
  · exact Or.inl (Or.inl (e _ _ h))
  · exact Or.inl (Or.inr ⟨o, e _ _ h⟩)
  · exact Or.inr h
mutual
theorem dp_same {K : PySem.W.Frag} {H H' : Hp} (s : Same H H') : ∀ (d : PyData) (v : V), Dp K H v d → Dp K H' v d
  | .none, _, h => by cases h; exact .non
  | .bool b, _, h => by cases h; exact .bl b
  | .int i, _, h => by cases h; exact .int i
  | .str x, _, h => by cases h; exact .str x
  | .list ds, _, h => by cases h with | lst h1 h2 => exact .lst (s.seq h1) (dpa_same s ds _ h2)
  | .tuple ds, _, h => by cases h with | tup h1 h2 => exact .tup (seqT_same s h1) (dpa_same s ds _ h2)
  | .dict _, _, h => by cases h
theorem dpa_same {K : PySem.W.Frag} {H H' : Hp} (s : Same H H') : ∀ (ds : List PyData) (vs : List V), DpAll K H vs ds → DpAll K H' vs ds
  | [], _, h => by cases h; exact .nil
  | d :: ds, _, h => by cases h with | cons h1 h2 => exact .cons (dp_same s d _ h1) (dpa_same s ds _ h2)
end
theorem shaped_ref {a b c d : Bool} {e : PyData} (h1 : e.canLay0 = true) (h2 : e.depth ≤ 10) : SeqAt.shaped (refD a b c d e) = true := shaped_of (by
  simp only [refD, PyData.canLay0, PyData.canLayAll0, h1, Bool.and_true]
  decide +kernel) (by
  simp only [refD, PyData.depth, PyData.depthAll]
  omega)
theorem shaped_two {a b c d : Bool} {x y : Int} : SeqAt.shaped (refD a b c d (.tuple [.int x, .int y])) = true := shaped_ref (by simp [PyData.canLay0, PyData.canLayAll0]) (by simp [PyData.depth, PyData.depthAll])
theorem shaped_non {a b c d : Bool} : SeqAt.shaped (refD a b c d .none) = true := shaped_ref (by simp [PyData.canLay0]) (by simp [PyData.depth])
theorem shaped_due (cs : List Nat) : SeqAt.shaped (dueD cs) = true := by
  unfold dueD
  split
  · exact shaped_non
  · split
    · exact shaped_non
    · exact shaped_two
theorem wordL_in (c : Int) : ∀ x ∈ wordL c, x ∈ SML := fun x hx => by
  obtain ⟨k, _, rfl⟩ := List.mem_map.mp hx
  have h : (mixed c k % 8).toNat < 8 := by omega
  have e : ∀ m : Nat, m < 8 → 97 + m ∈ SML := by decide +kernel
  exact e _ h
theorem nameC_in {c : Int} {s : Nat} (hs : s ∈ SML) : ∀ x ∈ nameC c s, x ∈ SML := fun x hx => by
  unfold nameC at hx
  rcases List.mem_append.mp hx with h | h
  · exact wordL_in c x (List.mem_of_mem_take h)
  · rcases List.mem_cons.mp h with rfl | h
    · exact hs
    · exact wordL_in c x (List.mem_of_mem_drop h)
theorem name_small {c : Int} {s : Nat} (hs : s ∈ SML) : isSmall (nameL c s) 8 = true := by
  have hl := wordL_len c
  have ht := nameT_lt c
  have e : (nameL c s).length = (wordL c).length + 1 := by
    unfold nameL
    rw [txt_len]
    unfold nameC
    rw [List.length_append, List.length_cons, List.length_take, List.length_drop]
    omega
  unfold isSmall
  rw [decide_eq_true (show 1 ≤ (nameL c s).length ∧ ((nameL c s).length : Int) ≤ 8 by omega), Bool.true_and]
  refine List.all_eq_true.mpr fun x hx => decide_eq_true (nameC_in (c := c) hs x ?_)
  unfold nameL at hx
  rw [txt_list] at hx
  exact hx
theorem name_inj {c : Int} {s t : Nat} (h : nameL c s = nameL c t) : s = t := by
  have h2 := txt_inj h
  unfold nameC at h2
  exact (List.cons_eq_cons.mp (List.append_cancel_left h2)).1
theorem name_main (c : Int) : nameL c 107 ≠ MAINs := fun h => by
  have h1 : (107 : Nat) ∈ (nameL c 107).cps.toList := by
    unfold nameL
    rw [txt_list]
    unfold nameC
    simp
  rw [h] at h1
  exact absurd h1 (by decide +kernel)
theorem kmp_in : ∀ s ∈ ([107, 109, 112] : List Nat), s ∈ SML := by decide +kernel
theorem chg_ok {cs t : List Nat} (h : Chg cs t) (hcs : ∀ x ∈ cs, x ∈ SG) : ∀ x ∈ t, x < 1114112 := fun x hx => by
  have sg : ∀ x ∈ SG, x < 1114112 := fun x hx => of_all (l := SG) (by decide +kernel) hx
  obtain ⟨i, hi, ⟨f, hf, rfl⟩ | ⟨y, z, hy, hz, rfl⟩⟩ := h
  · rcases List.mem_append.mp hx with h | h
    · exact sg x (hcs x (List.mem_of_mem_take h))
    · rcases List.mem_cons.mp h with rfl | h
      · exact hf
      · exact sg x (hcs x (List.mem_of_mem_drop h))
  · rcases List.mem_append.mp hx with h | h
    · exact sg x (hcs x (List.mem_of_mem_take h))
    · rcases List.mem_cons.mp h with rfl | h
      · exact sg _ (hcs _ (List.mem_of_getElem? hz))
      · rcases List.mem_cons.mp h with rfl | h
        · exact sg _ (hcs _ (List.mem_of_getElem? hy))
        · exact sg x (hcs x (List.mem_of_mem_drop h))
theorem alb_off {K : PySem.W.Frag} {H : Hp} {A : AlbS} {ap dx : Addr} {C : Addr} (nx : H ap = none) (ndx : H dx = none) (hAp : A.p = ap) (hnew : ∀ b ∈ [A.o, A.e, A.u, A.b, A.c], upd (upd H dx (.own ap)) ap (.ins C dx []) b = none) : ∀ {b o}, H b = some o → b ∉ A.M := fun {b o} e hm => by
  simp only [AlbS.M, List.mem_cons, List.not_mem_nil, or_false] at hm
  rcases hm with rfl | hm
  · rw [hAp, nx] at e
    cases e
  · have := hnew b (by simpa using hm)
    rw [upd_ne (ne_of_none e nx), upd_ne (ne_of_none e ndx), e] at this
    cases this
theorem eN {r : Addr} {h : Hp} {M : List Ent} (e : h r = some (.lst (M.map fun x => V.str x.nm))) : h r = some (.lst ((M.map fun x => x.nm).map V.str)) := by rw [List.map_map]; exact e
def sp_law (K : PySem.W.Frag) : Sp := fun vs H Q _ => ∃ (a : Addr) (ns : List Int), vs = [.ref a] ∧ SqL K H a (ns.map V.int) ∧ ns.length ≤ 63 ∧ ∀ H', Q (.bl true) H'
theorem sc_law : FnScope ["_law_script", "_law_album", "_law_names_here", "_law_k", "_law_text", "_law_cell", "_law_other", "_law_found", "_law_good", "_law_name"] ["_law_script"] (defScope s_law) := ⟨rfl, rfl, rfl, by decide +kernel, rfl, by decide +kernel, by decide +kernel⟩
section
theorem len_law {K : PySem.W.Frag} {vs : List V} {H : Hp} {Q : VK} {E : XK} (h : (sp_law K) vs H Q E) : vs.length = 1 := by
  repeat (obtain ⟨_, h⟩ := h)
  subst_vars; rfl
variable {P : Program} {w : World} {K : PySem.W.Frag} {mg : Str → Option Value} {base : Heap}
theorem ok_law (T : Tx K mg) : ∃ fd : FuncData, (∀ (s : Shared) (v : Value), BindsTo s fd ⟨[v], []⟩ [("_law_script", v)]) ∧ ∀ base : Heap, FnOk P w K mg base CX0 11 (He.ga K "law") fd ["_law_script"] (sp_law K) := by
  obtain ⟨fd, F⟩ := T.F_law
  refine ⟨fd, fun s v => F.bindsA (ps := ["_law_script"]) (fun _ _ _ _ _ _ us hl => match us, hl with | [_], _ => rfl) s [v] rfl, fun base => F.ok sc_law (fun vs H Q E h => len_law h) (fun cdv A outer s H vs Q E hr h => ⟨_, PSs.nox (
      (pss_cons (ps_set (i := 1) sc_law.nd rfl (Or.inr rfl) (pe_calK0 T.m_Album_init (ok_Album_init T) hr (by decide) (by rfl) T.gc_Album pass0))
      (pss_cons (ps_set (i := 2) sc_law.nd rfl (Or.inl rfl) (pe_cal (ok_law_names T) hr (by decide) (by rfl) T.g_law_names pass0 (pa_cons (pe_cal (ok_law_cell_at T) hr (by decide) (by rfl) T.g_law_cell_at pass0 (pa_cons (pv 0) (pa_cons pe_int pa_nil))) (pa_cons pe_str pa_nil))))
      (pss_cons (ps_for PassesOwn.never rfl (pi_range1 (by rfl) T.b_range (pa_cons (pe_op op_mod (pe_cal (ok_law_cell_at T) hr (by decide) (by rfl) T.g_law_cell_at pass0 (pa_cons (pv 0) (pa_cons pe_int pa_nil))) pe_int) pa_nil)) (pg_name (i := 3) sc_law.nd rfl (Or.inl rfl))
      (pss_one (ps_expr (pe_calM (pv 1) T.c_Album T.m_Album_put (ok_Album_put T) hr (by decide) pass0 (pa_cons (pe_ix (ix_listK K) (pv 2) (pv 3) (fun _ _ => rfl)) (pa_cons (pe_cal (ok_law_picture T) hr (by decide) (by rfl) T.g_law_picture pass0 (pa_cons (pv 0) (pa_cons (pe_op op_add pe_int (pe_op op_mul pe_int (pv 3))) (pa_cons pe_int pa_nil)))) pa_nil))))))
      (pss_cons (ps_set (i := 4) sc_law.nd rfl (Or.inl rfl) (pe_cal (ok_written_album T) hr (by decide) (by rfl) T.g_written_album pass0 (pa_cons (pv 1) pa_nil)))
      (pss_cons (ps_if (pt_cmpR (op_neDK K hr.units) (pe_calM0 (pe_cal (ok_opened_album T) hr (by decide) (by rfl) T.g_opened_album passE0 (pa_cons (pv 4) pa_nil)) T.c_Album T.m_Album_names (ok_Album_names T) hr (by decide) pass0) (pe_calM0 (pv 1) T.c_Album T.m_Album_names (ok_Album_names T) hr (by decide) pass0) (nomark _))
      (pss_one (ps_ret pe_bl)) pss_nil)
      (pss_cons (ps_for PassesOwn.never rfl (pi_listK K (pe_slice (sl_listK K) (pv 0) (po_some pe_int) (po_some pe_int))) (pg_name (i := 5) sc_law.nd rfl (Or.inl rfl))
      (pss_cons (ps_set (i := 6) sc_law.nd rfl (Or.inl rfl) (pe_cal (ok_law_changed T) hr (by decide) (by rfl) T.g_law_changed pass0 (pa_cons (pv 4) (pa_cons (pv 5) pa_nil))))
      (pss_one (ps_if (PW.pt (pw_and (pt_cmpR op_ne (pv 6) (pv 4) (nomark _)) (pw_and1 (pt_cmpR (op_neDK K hr.units) (pe_cal (ok_law_told T) hr (by decide) (by rfl) T.g_law_told pass0 (pa_cons (pv 6) pa_nil)) (pe_cal (ok_law_due T) hr (by decide) (by rfl) T.g_law_due pass0 (pa_cons (pv 6) pa_nil)) (nomark _)))))
      (pss_one (ps_ret pe_bl)) pss_nil))))
      (pss_cons (ps_if (PW.pt (pw_and (pt_cmpR op_eq (pe_op op_mod (pe_cal (ok_law_cell_at T) hr (by decide) (by rfl) T.g_law_cell_at pass0 (pa_cons (pv 0) (pa_cons pe_int pa_nil))) pe_int) pe_int (nomark _)) (pw_and1 (pt_not (pt_val (pe_cal (ok_law_sixteen T) hr (by decide) (by rfl) T.g_law_sixteen pass0 (pa_cons (pe_cal (ok_law_cell_at T) hr (by decide) (by rfl) T.g_law_cell_at pass0 (pa_cons (pv 0) (pa_cons pe_int pa_nil))) pa_nil)))))))
      (pss_one (ps_ret pe_bl)) pss_nil)
      (pss_cons (ps_set (i := 7) sc_law.nd rfl (Or.inl rfl) (pe_cal (ok_law_told T) hr (by decide) (by rfl) T.g_law_told pass0 (pa_cons (pe_cal (ok_law_no_album T) hr (by decide) (by rfl) T.g_law_no_album pass0 (pa_cons (pv 2) (pa_cons (pe_cal (ok_law_cell_at T) hr (by decide) (by rfl) T.g_law_cell_at pass0 (pa_cons (pv 0) (pa_cons pe_int pa_nil))) pa_nil))) pa_nil)))
      (pss_cons (ps_if (pt_cmpR (op_neDK K hr.units) (pv 7) (pe_tup (pa_cons pe_str (pa_cons (pe_lst (pa_cons pe_bl (pa_cons pe_bl (pa_cons pe_bl (pa_cons pe_bl pa_nil))))) (pa_cons pe_bl (pa_cons pe_non pa_nil))))) (nomark _))
      (pss_one (ps_ret pe_bl)) pss_nil)
      (pss_cons (ps_set (i := 8) sc_law.nd rfl (Or.inr rfl) (pe_cal (ok_opened_album T) hr (by decide) (by rfl) T.g_opened_album passE0 (pa_cons (pv 4) pa_nil)))
      (pss_cons (ps_if (pt_cmpR (op_neDK K hr.units) (pe_calM0 (pv 8) T.c_Album T.m_Album_names (ok_Album_names T) hr (by decide) pass0) (pe_calM0 (pv 1) T.c_Album T.m_Album_names (ok_Album_names T) hr (by decide) pass0) (nomark _))
      (pss_one (ps_ret pe_bl)) pss_nil)
      (pss_one (ps_ret (pe_cmpR (op_eqDK K hr.units) (pe_lc (own := [("_law_name", 9)]) rfl sc_law.nd (pi_listK K (pe_calM0 (pv 8) T.c_Album T.m_Album_names (ok_Album_names T) hr (by decide) pass0)) (blkOk_by (own := [("_law_name", 9)]) (N := ["_law_script", "_law_album", "_law_names_here", "_law_k", "_law_text", "_law_cell", "_law_other", "_law_found", "_law_good", "_law_name"]) (sc := defScope s_law) (by decide +kernel)) (fun _ _ _ _ _ => (pg_name (i := 9) sc_law.nd rfl (Or.inl rfl))) (fun _ _ _ _ _ => (pts_one (pt_cmpR (op_neDK K hr.units) (pe_calM (pv 8) T.c_Album T.m_Album_picture (ok_Album_picture T) hr (by decide) pass0 (pa_cons (pv 9) pa_nil)) (pe_calM (pv 1) T.c_Album T.m_Album_picture (ok_Album_picture T) hr (by decide) pass0 (pa_cons (pv 9) pa_nil)) (nomark _)))) (fun _ _ _ _ _ => (pv 9))) (pe_lst pa_nil) (nomark _)))))))))))))))), ?_⟩)⟩
  obtain ⟨sa, ns, rfl, hsa, hnl, q⟩ := h
  walk_at "rd"
  intro ap dx nx ndx nex
  have sx : Same H (upd (upd H dx (.own ap)) ap (.ins (He.ga K "Album") dx [])) := fun b o e => by
    rw [upd_ne (ne_of_none e nx), upd_ne (ne_of_none e ndx)]
    exact e
  refine ⟨ap, dx, rfl, upd_same, fun A H1 hx1 hAp hnew A1 g1 fr1 => ⟨rfl, ?_⟩⟩
  have A1 : AlbumAt (He.ga K "Album") H1 A [] hx1 := A1
  have s1 : Same H H1 := fun b o e => fr1 _ _ (sx _ _ e) (by simp; exact ne_of_none e nx)
  have off : ∀ {b o}, H b = some o → b ∉ A.M := alb_off (K := K) nx ndx hAp hnew
  subst hAp
  walk_at "rd"
  refine ⟨sa, ns, 0, rfl, s1.seq hsa, hnl, ?_⟩
  walk_at "rd"
  generalize cellAt ns 0 = c0
  refine ⟨c0, rfl, fun pn H2 n2 s2 e2 => ?_⟩
  have s02 := s1.trans s2
  walk_at "rd"
  refine ⟨sa, ns, 1, rfl, s02.seq hsa, hnl, ?_⟩
  walk_at "rd"
  generalize cellAt ns 1 = c1
  refine r_i (by decide) ?_
  walk_at "rd"
  refine r_ki1 (by omega) (by omega) ?_
  obtain ⟨m, hm, hm3⟩ : ∃ m : Nat, (c1 % 4).toNat = m ∧ m ≤ 3 := ⟨_, rfl, by omega⟩
  rw [hm]
  have A2 := A1.same s2
  have pnM : pn ∉ A.M := fun hmm => by
    have hh : ∃ o, H1 pn = some o := by
      simp only [AlbS.M, List.mem_cons, List.not_mem_nil, or_false] at hmm
      rcases hmm with rfl | rfl | rfl | rfl | rfl | rfl
      · exact A1.ob.elim fun _ e => ⟨_, e⟩
      · exact ⟨_, A1.or⟩
      · exact ⟨_, A1.he⟩
      · exact ⟨_, A1.hu⟩
      · exact A1.pa.elim fun _ e => ⟨_, e.1⟩
      · exact A1.ah.elim fun _ e => ⟨_, e⟩
    obtain ⟨o, e⟩ := hh
    rw [n2] at e
    cases e
  refine kfor (walk_range (lo := 0) (n := m)) (fun i σ H3 => (∃ y, σ = [some (.ref sa), some (.ref A.p), some (.ref pn), y, none, none, none, none, none, none]) ∧ Same H H3 ∧ H3 pn = some (.lst ([107, 109, 112].map fun s => V.str (nameL c0 s))) ∧
    ∃ L, AlbumAt (He.ga K "Album") H3 A L hx1 ∧ GreyAt H3 A hx1 ∧ (L.map fun x => x.nm) = (([107, 109, 112] : List Nat).take i).map (nameL c0) ∧ ∀ x ∈ L, x.rows.flatten.length ≤ 144)
    ⟨⟨none, rfl⟩, s02, e2, [], A2, g1.fr (sfr s2), rfl, fun x hx => (by cases hx)⟩ (fun _ _ _ _ _ => trivial) (fun i x σ H3 H4 hi hP y => ?_) fun σ H3 hP => ?_
  · obtain ⟨⟨y3, rfl⟩, s3, e3, L, A3, g3, hL, hrows⟩ := hP
    obtain ⟨rfl, rfl⟩ := y
    obtain ⟨sg, hsg⟩ : ∃ sg, ([107, 109, 112] : List Nat)[i]? = some sg := ⟨_, List.getElem?_eq_getElem (by simp; omega)⟩
    have hsm := List.mem_of_getElem? hsg
    have hll : L.length = i := by have := congrArg List.length hL; simp at this; omega
    obtain ⟨dxa, p3⟩ := A3.ob
    walk_at "rd"
    refine r_kmeth p3 (af_no _ (by decide +kernel) (by decide +kernel) (by decide +kernel) (by decide +kernel) (by decide +kernel)) ?_
    walk_at "rd"
    refine r_ixL (v := .str (nameL c0 sg)) (SqL.of e3) (by show atI _ (0 + (i : Int)) = _; rw [Int.zero_add]; exact atI_nat (by rw [List.getElem?_map, hsg]; rfl)) ?_
    walk_at "rd"
    refine r_i (.inl ⟨by decide, by decide⟩) ?_
    walk_at "rd"
    refine ⟨sa, ns, 2 + 3 * i, by rw [show (2 : Int) + 3 * (0 + (i : Int)) = ((2 + 3 * i : Nat) : Int) by omega], s3.seq hsa, hnl, fun pp H5 rows s5 pn5 ok5 hl5 => ?_⟩
    walk_at "rd"
    refine ⟨A, L, hx1, nameL c0 sg, pp, rows, rfl, A3.same s5, pn5.pic, ok5, name_small (kmp_in sg hsm), ?_, by omega, fun r H6 A6 fr6 => ?_⟩
    · rw [hL]
      intro hmm
      obtain ⟨s2, hs2, es2⟩ := List.mem_map.mp hmm
      have e2 := name_inj es2
      subst e2
      obtain ⟨j, hj⟩ := List.getElem?_of_mem hs2
      have hj2 := (List.getElem?_eq_some_iff.mp hj).1
      rw [List.length_take] at hj2
      rw [List.getElem?_take_of_lt (by omega)] at hj
      have := nd_ix (show ([107, 109, 112] : List Nat).Nodup by decide) hj hsg
      omega
    · refine ⟨⟨_, rfl⟩, fun b o e => fr6 _ _ (s5 _ _ (s3 _ _ e)) (off e), fr6 _ _ (s5 _ _ e3) pnM, _, A6, (g3.fr (sfr s5)).fr fr6, ?_, fun x hx => ?_⟩
      · rw [List.map_append, hL, List.take_add_one, hsg, List.map_append]
        rfl
      · rcases List.mem_append.mp hx with hx | hx
        · exact hrows x hx
        · have := List.mem_singleton.mp hx
          subst this
          exact hl5
  obtain ⟨⟨y3, rfl⟩, s3, e3, L, A3, g3, hL, hrows⟩ := hP
  have hll : L.length ≤ 3 := by have := congrArg List.length hL; simp at this; omega
  have hsm : ∀ x ∈ L, isSmall x.nm 8 = true := fun x hx => by
    have : x.nm ∈ (([107, 109, 112] : List Nat).take m).map (nameL c0) := by rw [← hL]; exact List.mem_map.mpr ⟨x, hx, rfl⟩
    obtain ⟨sg, hsg, e⟩ := List.mem_map.mp this
    rw [← e]
    exact name_small (kmp_in sg (List.mem_of_mem_take hsg))
  have hws : wsize L ≤ 3800 := by
    have h1 := wsize_of (L := L) (m := 312) fun x hx => by
      have h2 := hrows x hx
      have h3 := (A3.pi x hx).2.2.1
      omega
    have h2 : L.length * (14 + 312) ≤ 3 * (14 + 312) := Nat.mul_le_mul_right _ hll
    omega
  walk_at "rd"
  refine ⟨A, L, hx1, rfl, A3, g3, hsm, hws, fun H4 ys s4 hpp => ?_⟩
  obtain ⟨gd, go, gp⟩ := alb_good hpp (fun x hx => ⟨(A3.pi x hx).2, hsm x hx⟩) A3.nd (by omega) hws
  have s04 := s3.trans s4
  have A4 := A3.same s4
  have e4 := s4 _ _ e3
  obtain ⟨cs, hcs⟩ : ∃ cs, ftext (palPart :: ys) = txt cs := ⟨_, rfl⟩
  rw [hcs] at gd ⊢
  have hsz := good_size gd
  rw [txt_len] at hsz
  have hsg := (good_nums gd).2
  rw [txt_list] at hsg
  have hok : ∀ z ∈ (L.map fun x => x.nm), PyData.strOk z = true := fun z hz => by
    obtain ⟨x, hx, rfl⟩ := List.mem_map.mp hz
    exact sml_ok (hsm x hx)
  walk_at "rd"
  refine open_good gd go gp fun B L2 hxB H5 s5 B5 hB => ?_
  have hnB := ent_nms hB
  rw [List.map_map] at hnB
  have hnB : (L2.map fun x => x.nm) = L.map fun x => x.nm := hnB
  obtain ⟨dxb, pb⟩ := B5.ob
  have ano : ∀ (A : AlbS) {m : Str}, ¬ m = "ahead" → ¬ m = "past" → ¬ m = "hues" → ¬ m = "held" → ¬ m = "order" → (af A).lookup m = none := fun A {m} h1 h2 h3 h4 h5 => af_no A h1 h2 h3 h4 h5
  refine r_kmeth pb (ano B (by decide +kernel) (by decide +kernel) (by decide +kernel) (by decide +kernel) (by decide +kernel)) ?_
  walk_at "rd"
  refine ⟨B, L2, hxB, rfl, B5, fun r6 H6 n6 s6 e6 => ?_⟩
  have A6 := A4.same (s5.trans s6)
  obtain ⟨dxa, pa⟩ := A6.ob
  walk_at "rd"
  refine r_kmeth pa (ano A (by decide +kernel) (by decide +kernel) (by decide +kernel) (by decide +kernel) (by decide +kernel)) ?_
  walk_at "rd"
  refine ⟨A, L, hx1, rfl, A6, fun r7 H7 n7 s7 e7 => ?_⟩
  refine r_neD (dp_S (SqL.of (eN (s7 _ _ e6)))) (dp_S (SqL.of (eN e7))) (shaped_S (by rw [hnB]; exact hok)) (shaped_S hok) ?_
  rw [eqv_S, hnB]
  walk_at "rd"
  refine r_noN rfl ?_
  walk_at "rd"
  have s47 := (s5.trans s6).trans s7
  have s07 := s04.trans s47
  refine r_slL (s07.seq hsa) fun p8 H8 n8 s8 e8 => ?_
  rw [show (11 : Int) = ((11 : Nat) : Int) from rfl, show (19 : Int) = ((19 : Nat) : Int) from rfl, cutI_ij] at e8
  generalize (ns.drop 11).take (19 - 11) = cells at e8
  refine r_kil (SqL.of e8) ?_
  have s48 := s47.trans s8
  refine kfor (walk_list (xs := cells.map V.int)) (fun i σ H9 => (∃ y3 y5 y6, σ = [some (.ref sa), some (.ref A.p), some (.ref pn), y3, some (.str (txt cs)), y5, y6, none, none, none]) ∧ Same H8 H9)
    ⟨⟨_, _, _, rfl⟩, Same.refl _⟩ (fun i σ H9 _ h => ?_) (fun i x σ H9 H10 hi hP y => ?_) fun σ H9 hP => ?_
  · exact SqL.of (h.2 _ _ e8)
  · obtain ⟨⟨y3, y5, y6, rfl⟩, s9⟩ := hP
    obtain ⟨rfl, hx⟩ := y
    obtain ⟨cell, _, rfl⟩ := map_atc hx
    walk_at "rd"
    refine ⟨cs, cell, rfl, ⟨by omega, by omega⟩, hsg, fun t H11 s11 hch => ?_⟩
    walk_at "rd"
    have tl := chg_len hch
    refine r_ifN (fun hne => ?_) fun hne => ?_
    · walk_at "rd"
      have hne' : t ≠ cs := fun e => hne (by rw [e])
      refine ⟨txt t, dueD t, rfl, by rw [txt_len]; omega, chg_ref gd hch hne', fun p12 H12 s12 d12 => ?_⟩
      walk_at "rd"
      refine ⟨t, rfl, ⟨by omega, by omega⟩, chg_ok hch hsg, fun p13 H13 s13 d13 => ?_⟩
      refine r_neD (dp_same s13 _ _ d12) d13 (shaped_due t) (shaped_due t) ?_
      rw [eqv_same (shaped_due t)]
      walk_at "rd"
      exact ⟨⟨_, _, _, rfl⟩, ((s9.trans s11).trans s12).trans s13⟩
    · walk_at "rd"
      exact ⟨⟨_, _, _, rfl⟩, s9.trans s11⟩
  obtain ⟨⟨y3, y5, y6, rfl⟩, s9⟩ := hP
  have s49 := s48.trans s9
  have s09 := s04.trans s49
  with_reducible refine r_scut (fun σ' H' => σ' = [some (.ref sa), some (.ref A.p), some (.ref pn), y3, some (.str (txt cs)), y5, y6, none, none, none] ∧ Same H9 H') (fun N hN => ?_) (fun σ' H10 hR => ?_)
  · walk_at "rd"
    refine ⟨sa, ns, 19, rfl, s09.seq hsa, hnl, ?_⟩
    walk_at "rd"
    refine r_i (by decide) ?_
    walk_at "rd"
    refine r_ifD (fun h6 => ?_) fun h6 => ?_
    · walk_at "rd"
      refine ⟨sa, ns, 19, rfl, s09.seq hsa, hnl, ?_⟩
      walk_at "rd"
      refine ⟨cellAt ns 19, rfl, fun H10 s10 => ?_⟩
      walk_at "rd"
      exact hN _ _ ⟨rfl, s10⟩
    · walk_at "rd"
      exact hN _ _ ⟨rfl, Same.refl _⟩
  obtain ⟨rfl, s10⟩ := hR
  have s410 := s49.trans s10
  have s010 := s04.trans s410
  walk_at "rd"
  refine ⟨sa, ns, 19, rfl, s010.seq hsa, hnl, ?_⟩
  walk_at "rd"
  generalize cellAt ns 19 = c19
  have hn1 : isSmall (nameL c0 107) 8 = true := name_small (kmp_in 107 (by decide))
  have hn2 := name_main c0
  refine ⟨pn, c19, nameL c0 107, _, rfl, s410 _ _ e4, hn1, hn2, fun H11 s11 => ?_⟩
  walk_at "rd"
  refine ⟨_, _, rfl, noAlb_len hn1 hn2 c19, noAlb_ref hn1 hn2 c19, fun p12 H12 s12 d12 => ?_⟩
  walk_at "rd"
  refine r_klst (len_le rfl) fun p13 H13 n13 s13 e13 => ?_
  walk_at "rd"
  refine r_ktup (len_le rfl) fun p14 H14 n14 s14 e14 => ?_
  refine r_neD (dp_same (s13.trans s14) _ _ d12) (dp_ref e14 (s14 _ _ e13) .non) shaped_non shaped_non ?_
  rw [eqv_same shaped_non]
  walk_at "rd"
  have s414 := s410.trans (s11.trans (s12.trans (s13.trans s14)))
  clear hnB
  refine open_good gd go gp fun G LG hxG H15 s15 G15 hG => ?_
  have hnG := ent_nms hG
  rw [List.map_map] at hnG
  have hnG : (LG.map fun x => x.nm) = L.map fun x => x.nm := hnG
  obtain ⟨dxg, pg⟩ := G15.ob
  walk_at "rd"
  refine r_kmeth pg (ano G (by decide +kernel) (by decide +kernel) (by decide +kernel) (by decide +kernel) (by decide +kernel)) ?_
  walk_at "rd"
  refine ⟨G, LG, hxG, rfl, G15, fun r16 H16 n16 s16 e16 => ?_⟩
  have A16 := A4.same (s414.trans (s15.trans s16))
  have G16 := G15.same s16
  obtain ⟨dxa2, pa2⟩ := A16.ob
  walk_at "rd"
  refine r_kmeth pa2 (ano A (by decide +kernel) (by decide +kernel) (by decide +kernel) (by decide +kernel) (by decide +kernel)) ?_
  walk_at "rd"
  refine ⟨A, L, hx1, rfl, A16, fun r17 H17 n17 s17 e17 => ?_⟩
  refine r_neD (dp_S (SqL.of (eN (s17 _ _ e16)))) (dp_S (SqL.of (eN e17))) (shaped_S (by rw [hnG]; exact hok)) (shaped_S hok) ?_
  rw [eqv_S, hnG]
  walk_at "rd"
  refine r_noN rfl ?_
  walk_at "rd"
  have A17 := A16.same s17
  have G17 := G16.same s17
  obtain ⟨dxg2, pg2⟩ := G17.ob
  refine r_kmeth pg2 (ano G (by decide +kernel) (by decide +kernel) (by decide +kernel) (by decide +kernel) (by decide +kernel)) ?_
  walk_at "rd"
  refine ⟨G, LG, hxG, rfl, G17, fun r18 H18 n18 s18 e18 => ?_⟩
  have A18 := A17.same s18
  have G18 := G17.same s18
  refine r_kil (SqL.of e18) ?_
  refine klc (walk_list (xs := LG.map fun x => V.str x.nm)) (fun H' s => SqL.of (s _ _ e18)) (fun i acc _ => acc = []) rfl (fun D i x H19 H20 acc hi hD s e l r y => ?_) fun p19 H19 ys2 hp19 s19 e19 l19 r19 => ?_
  · obtain ⟨rfl, hx⟩ := y
    obtain ⟨g, hg, rfl⟩ := map_atc hx
    subst r
    have hgm : g ∈ LG := List.mem_of_getElem? hg
    obtain ⟨x, hxm, ex⟩ : ∃ x, x ∈ L ∧ (x.nm, x.rows) = (g.nm, g.rows) := by
      have : (g.nm, g.rows) ∈ L.map fun x => (x.nm, x.rows) := by rw [← hG]; exact List.mem_map.mpr ⟨g, hgm, rfl⟩
      obtain ⟨x, h1, h2⟩ := List.mem_map.mp this
      exact ⟨x, h1, h2⟩
    have exn : x.nm = g.nm := congrArg Prod.fst ex
    have exr : x.rows = g.rows := congrArg Prod.snd ex
    have sD := same_of_hid s
    have A20 := A18.same sD
    have G20 := G18.same sD
    obtain ⟨dxg3, pg3⟩ := G20.ob
    walk_at "rd"
    refine ⟨rfl, ?_⟩
    walk_at "rd"
    refine r_kmeth pg3 (ano G (by decide +kernel) (by decide +kernel) (by decide +kernel) (by decide +kernel) (by decide +kernel)) ?_
    walk_at "rd"
    refine ⟨G, LG, hxG, g, rfl, G20, hgm, fun r21 H21 s21 pn21 => ?_⟩
    have A21 := A20.same s21
    obtain ⟨dxa3, pa3⟩ := A21.ob
    walk_at "rd"
    refine r_kmeth pa3 (ano A (by decide +kernel) (by decide +kernel) (by decide +kernel) (by decide +kernel) (by decide +kernel)) ?_
    walk_at "rd"
    refine ⟨A, L, hx1, x, by rw [exn], A21, hxm, fun r22 H22 s22 pn22 => ?_⟩
    refine r_neD (dp_pic (pn21.same s22).pic) (dp_pic pn22.pic) (shaped_P _) (shaped_P _) ?_
    rw [exr, eqv_same (shaped_P _)]
    walk_at "rd"
    have sDD := s21.trans s22
    exact r_kno (sDD _ _ e) l (same_hidS s sDD) rfl
  · subst r19
    walk_at "rd"
    refine r_klst (len_le rfl) fun p20 H20 n20 s20 e20 => ?_
    refine r_eqD (dp_nil (s20 _ _ e19)) (dp_nil e20) shaped_nil shaped_nil ?_
    rw [eqv_same shaped_nil]
    exact q H20
end
end K44
set_option Elab.async false
set_option linter.all false
set_option maxRecDepth 100000
set_option maxHeartbeats 4000000
namespace K44
open PySem PySem.Spec PyProof.Rows L2
theorem walked : Walked := fun P w K h mg f X G hfa c d => by
  have T : Tx K mg := ⟨⟨h, X, G⟩, c, d⟩
  obtain ⟨fd, hb, hF⟩ := ok_law (P := P) (w := w) T
  have e : f = He.ga K "law" := by
    have := T.g_law
    rw [hfa] at this
    exact Value.ref.inj (Option.some.inj this)
  subst e
  exact ⟨fd, hb, fun base _ _ => ((hF base).mono (by decide)).imp fun _ _ _ _ h => h⟩
end K44
theorem PySem.Challenge.cw_cellfolio_k44_whole_one_sign_of_an_album_holds : PySem.Challenge.rw_cellfolio_k44_whole_one_sign_of_an_album.Holds := by
  exact K44.close K44.walked
