import PyProof.Rows.All
import Wide.All
import OpenK.AllK
import Wide.FinOn
import KE.KStateDown
import Lean
import HandS.ForMost
import HandS.Exc
import HandS.TryOnly
import HandS.TryElse
import HandS.ExcOwn
import HandS.WordsExc
import HandS.Defaults
import HandS.Wide
import HandS.Codes
import HandS.More
import HandS.TupAny
import HandS.Zip
import HandS.IsInst
import HandS.HeadEnd
import HandS.HeadHook1
import HandS.HeadHook2
import HandS.HeadHook3
import PyProof.AssignAttr
import HandS.WordsDict
import KE.GoesMore
import KE.GoesEnum
import HandS.NoneIn
import PyProof.Rows.SeqMore
import HandS.Head0
import HandS.Head1
import HandS.Head2
import PySem.Challenge.RW_nearplane_k82_whole_updates
set_option Elab.async false
set_option linter.all false
set_option maxRecDepth 100000
/-! The law over the given program: the defs by places, the run of the top, the walk of each def, the plain mathematics, the end. -/
namespace Np
open PySem PySem.Spec PyProof.Rows L2
def top (i : Nat) : Stmt := PySem.Challenge.pw_nearplane_k82_whole_updates.main.body.getD i (.Pass ⟨0, 0, 0, 0⟩)
abbrev s_is_whole : Stmt := top 14
abbrev s_is_ratio : Stmt := top 16
abbrev s_shared : Stmt := top 15
abbrev s_ratio : Stmt := top 17
abbrev s_plus : Stmt := top 18
abbrev s_minus : Stmt := top 19
abbrev s_times : Stmt := top 20
abbrev s_over : Stmt := top 21
abbrev s_is_still : Stmt := top 29
abbrev s_scaled : Stmt := top 27
abbrev s_taken : Stmt := top 26
abbrev s_dot : Stmt := top 28
abbrev s_square : Stmt := top 31
abbrev s_parted : Stmt := top 32
abbrev s_lefts : Stmt := top 33
abbrev s_nearest : Stmt := top 34
abbrev s_turned : Stmt := top 44
abbrev s_is_row : Stmt := top 24
abbrev s_is_point : Stmt := top 47
abbrev s_looked_points : Stmt := top 48
abbrev s_Fit_init__ : Stmt := inClass (top 49) 0
abbrev s_Fit_told : Stmt := inClass (top 49) 1
abbrev s_Fit_free : Stmt := inClass (top 49) 2
abbrev s_Fit_rests : Stmt := inClass (top 49) 3
abbrev s_Fit_squares : Stmt := inClass (top 49) 4
abbrev s_Fit_ways : Stmt := inClass (top 49) 5
abbrev s_Fit_sure : Stmt := inClass (top 49) 6
abbrev s_Fit_pull : Stmt := inClass (top 49) 8
abbrev s_Fit_pulls : Stmt := inClass (top 49) 9
abbrev s_Fit_value : Stmt := inClass (top 49) 7
abbrev s_Fit_word : Stmt := inClass (top 49) 10
abbrev s_Plane_noted : Stmt := inClass (top 52) 1
abbrev s_Plane_take : Stmt := inClass (top 52) 3
abbrev s_Plane_mark : Stmt := inClass (top 52) 14
abbrev s_Plane_width : Stmt := inClass (top 52) 7
abbrev s_Plane_back : Stmt := inClass (top 52) 15
abbrev s_Plane_lay : Stmt := inClass (top 52) 2
abbrev s_Plane_narrow : Stmt := inClass (top 52) 5
abbrev s_Plane_widen : Stmt := inClass (top 52) 4
abbrev s_Plane_init__ : Stmt := inClass (top 52) 0
abbrev s_Plane_fit : Stmt := inClass (top 52) 8
abbrev s_Plane_points : Stmt := inClass (top 52) 6
abbrev s_Plane_told : Stmt := inClass (top 52) 10
abbrev s_Plane_free : Stmt := inClass (top 52) 11
abbrev s_Plane_ways : Stmt := inClass (top 52) 12
abbrev s_Plane_squares : Stmt := inClass (top 52) 13
abbrev s_shown : Stmt := top 56
abbrev s_read_whole : Stmt := top 57
abbrev s_read : Stmt := top 58
abbrev s_shown_row : Stmt := top 59
abbrev s_read_row : Stmt := top 60
abbrev s_is_name : Stmt := top 67
abbrev s_read_number : Stmt := top 69
abbrev s_read_wide : Stmt := top 70
abbrev s_read_things : Stmt := top 71
abbrev s_read_long : Stmt := top 72
abbrev s_in_figures : Stmt := top 74
abbrev s_told_word : Stmt := top 75
abbrev s_told_value : Stmt := top 76
abbrev s_done_to : Stmt := top 78
abbrev s_told_of : Stmt := top 79
abbrev s_kinds_of : Stmt := top 68
abbrev s_Desk_part_of : Stmt := inClass (top 80) 1
abbrev s_Desk_parts_of : Stmt := inClass (top 80) 2
abbrev s_Desk_say : Stmt := inClass (top 80) 3
abbrev s_law_cell : Stmt := top 82
abbrev s_law_spread : Stmt := top 83
abbrev s_law_mixed : Stmt := top 84
abbrev s_law_low : Stmt := top 85
abbrev s_law_less : Stmt := top 86
abbrev s_law_times : Stmt := top 87
abbrev s_law_thing : Stmt := top 88
abbrev s_law_text : Stmt := top 89
abbrev s_law_row_text : Stmt := top 90
abbrev s_law_ratio_of : Stmt := top 91
abbrev s_law_point : Stmt := top 92
abbrev s_law_line : Stmt := top 93
abbrev s_Desk_init__ : Stmt := inClass (top 80) 0
abbrev s_law_answers : Stmt := top 95
abbrev s_law_beside : Stmt := top 96
abbrev s_law_deed : Stmt := top 94
abbrev s_law_words_good : Stmt := top 97
abbrev s_law_stepped : Stmt := top 98
abbrev s_law_step_good : Stmt := top 99
abbrev s_law : Stmt := top 100
def lineTab : List (Str × List Str) := [("plane", ["new", "wide"]), ("lay", ["known", "ratio", "row"]), ("take", ["known", "number"]), ("widen", ["known", "row"]), ("narrow", ["known"]), ("back", ["known", "number"]), ("mark", ["known"]),
  ("told", ["known"]), ("rests", ["known"]), ("pulls", ["known"]), ("squares", ["known"]), ("free", ["known"]), ("ways", ["known"]), ("value", ["known", "long"]), ("word", ["known", "number"])]
end Np
section
set_option linter.all false
set_option maxRecDepth 100000
set_option maxHeartbeats 0
/-! The head: what is looked at behind the top, and the top's run. -/
namespace Np
open PySem PySem.Spec PySem.W PySem.Calls PyProof.Rows L2 SX
def d0 : He.DefD := ⟨("shared", none), "shared", "shared", defArgs s_shared, defBody s_shared, defScope s_shared, [], []⟩
def d1 : He.DefD := ⟨("ratio", none), "ratio", "ratio", defArgs s_ratio, defBody s_ratio, defScope s_ratio, [], []⟩
def d2 : He.DefD := ⟨("plus", none), "plus", "plus", defArgs s_plus, defBody s_plus, defScope s_plus, [], []⟩
def d3 : He.DefD := ⟨("minus", none), "minus", "minus", defArgs s_minus, defBody s_minus, defScope s_minus, [], []⟩
def d4 : He.DefD := ⟨("times", none), "times", "times", defArgs s_times, defBody s_times, defScope s_times, [], []⟩
def d5 : He.DefD := ⟨("over", none), "over", "over", defArgs s_over, defBody s_over, defScope s_over, [], []⟩
def d6 : He.DefD := ⟨("is_whole", none), "is_whole", "is_whole", defArgs s_is_whole, defBody s_is_whole, defScope s_is_whole, [], []⟩
def d7 : He.DefD := ⟨("is_ratio", none), "is_ratio", "is_ratio", defArgs s_is_ratio, defBody s_is_ratio, defScope s_is_ratio, [], []⟩
def d8 : He.DefD := ⟨("is_still", none), "is_still", "is_still", defArgs s_is_still, defBody s_is_still, defScope s_is_still, [], []⟩
def d9 : He.DefD := ⟨("scaled", none), "scaled", "scaled", defArgs s_scaled, defBody s_scaled, defScope s_scaled, [], []⟩
def d10 : He.DefD := ⟨("taken", none), "taken", "taken", defArgs s_taken, defBody s_taken, defScope s_taken, [], []⟩
def d11 : He.DefD := ⟨("dot", none), "dot", "dot", defArgs s_dot, defBody s_dot, defScope s_dot, [.non], []⟩
def d12 : He.DefD := ⟨("square", none), "square", "square", defArgs s_square, defBody s_square, defScope s_square, [], []⟩
def d13 : He.DefD := ⟨("parted", none), "parted", "parted", defArgs s_parted, defBody s_parted, defScope s_parted, [], []⟩
def d14 : He.DefD := ⟨("lefts", none), "lefts", "lefts", defArgs s_lefts, defBody s_lefts, defScope s_lefts, [], []⟩
def d15 : He.DefD := ⟨("nearest", none), "nearest", "nearest", defArgs s_nearest, defBody s_nearest, defScope s_nearest, [], []⟩
def d16 : He.DefD := ⟨("turned", none), "turned", "turned", defArgs s_turned, defBody s_turned, defScope s_turned, [], []⟩
def d17 : He.DefD := ⟨("is_row", none), "is_row", "is_row", defArgs s_is_row, defBody s_is_row, defScope s_is_row, [], []⟩
def d18 : He.DefD := ⟨("is_point", none), "is_point", "is_point", defArgs s_is_point, defBody s_is_point, defScope s_is_point, [], []⟩
def d19 : He.DefD := ⟨("looked_points", none), "looked_points", "looked_points", defArgs s_looked_points, defBody s_looked_points, defScope s_looked_points, [], []⟩
def d20 : He.DefD := ⟨("Fit", some "__init__"), "__init__", "Fit.__init__", defArgs s_Fit_init__, defBody s_Fit_init__, defScope s_Fit_init__, [], []⟩
def d21 : He.DefD := ⟨("Fit", some "told"), "told", "Fit.told", defArgs s_Fit_told, defBody s_Fit_told, defScope s_Fit_told, [], []⟩
def d22 : He.DefD := ⟨("Fit", some "rests"), "rests", "Fit.rests", defArgs s_Fit_rests, defBody s_Fit_rests, defScope s_Fit_rests, [], []⟩
def d23 : He.DefD := ⟨("Fit", some "squares"), "squares", "Fit.squares", defArgs s_Fit_squares, defBody s_Fit_squares, defScope s_Fit_squares, [], []⟩
def d24 : He.DefD := ⟨("Fit", some "free"), "free", "Fit.free", defArgs s_Fit_free, defBody s_Fit_free, defScope s_Fit_free, [], []⟩
def d25 : He.DefD := ⟨("Fit", some "ways"), "ways", "Fit.ways", defArgs s_Fit_ways, defBody s_Fit_ways, defScope s_Fit_ways, [], []⟩
def d26 : He.DefD := ⟨("Fit", some "sure"), "sure", "Fit.sure", defArgs s_Fit_sure, defBody s_Fit_sure, defScope s_Fit_sure, [], []⟩
def d27 : He.DefD := ⟨("Fit", some "pull"), "pull", "Fit.pull", defArgs s_Fit_pull, defBody s_Fit_pull, defScope s_Fit_pull, [], []⟩
def d28 : He.DefD := ⟨("Fit", some "pulls"), "pulls", "Fit.pulls", defArgs s_Fit_pulls, defBody s_Fit_pulls, defScope s_Fit_pulls, [], []⟩
def d29 : He.DefD := ⟨("Fit", some "value"), "value", "Fit.value", defArgs s_Fit_value, defBody s_Fit_value, defScope s_Fit_value, [], []⟩
def d30 : He.DefD := ⟨("Fit", some "word"), "word", "Fit.word", defArgs s_Fit_word, defBody s_Fit_word, defScope s_Fit_word, [], []⟩
def d31 : He.DefD := ⟨("Plane", some "noted"), "noted", "Plane.noted", defArgs s_Plane_noted, defBody s_Plane_noted, defScope s_Plane_noted, [], []⟩
def d32 : He.DefD := ⟨("Plane", some "mark"), "mark", "Plane.mark", defArgs s_Plane_mark, defBody s_Plane_mark, defScope s_Plane_mark, [], []⟩
def d33 : He.DefD := ⟨("Plane", some "width"), "width", "Plane.width", defArgs s_Plane_width, defBody s_Plane_width, defScope s_Plane_width, [], []⟩
def d34 : He.DefD := ⟨("Plane", some "take"), "take", "Plane.take", defArgs s_Plane_take, defBody s_Plane_take, defScope s_Plane_take, [], []⟩
def d35 : He.DefD := ⟨("Plane", some "back"), "back", "Plane.back", defArgs s_Plane_back, defBody s_Plane_back, defScope s_Plane_back, [], []⟩
def d36 : He.DefD := ⟨("Plane", some "lay"), "lay", "Plane.lay", defArgs s_Plane_lay, defBody s_Plane_lay, defScope s_Plane_lay, [.non], []⟩
def d37 : He.DefD := ⟨("Plane", some "narrow"), "narrow", "Plane.narrow", defArgs s_Plane_narrow, defBody s_Plane_narrow, defScope s_Plane_narrow, [], []⟩
def d38 : He.DefD := ⟨("Plane", some "widen"), "widen", "Plane.widen", defArgs s_Plane_widen, defBody s_Plane_widen, defScope s_Plane_widen, [], []⟩
def d39 : He.DefD := ⟨("Plane", some "__init__"), "__init__", "Plane.__init__", defArgs s_Plane_init__, defBody s_Plane_init__, defScope s_Plane_init__, [], []⟩
def d40 : He.DefD := ⟨("Plane", some "fit"), "fit", "Plane.fit", defArgs s_Plane_fit, defBody s_Plane_fit, defScope s_Plane_fit, [], []⟩
def d41 : He.DefD := ⟨("Plane", some "told"), "told", "Plane.told", defArgs s_Plane_told, defBody s_Plane_told, defScope s_Plane_told, [], []⟩
def d42 : He.DefD := ⟨("Plane", some "free"), "free", "Plane.free", defArgs s_Plane_free, defBody s_Plane_free, defScope s_Plane_free, [], []⟩
def d43 : He.DefD := ⟨("Plane", some "ways"), "ways", "Plane.ways", defArgs s_Plane_ways, defBody s_Plane_ways, defScope s_Plane_ways, [], []⟩
def d44 : He.DefD := ⟨("Plane", some "squares"), "squares", "Plane.squares", defArgs s_Plane_squares, defBody s_Plane_squares, defScope s_Plane_squares, [], []⟩
def d45 : He.DefD := ⟨("Plane", some "points"), "points", "Plane.points", defArgs s_Plane_points, defBody s_Plane_points, defScope s_Plane_points, [], []⟩
def d46 : He.DefD := ⟨("shown", none), "shown", "shown", defArgs s_shown, defBody s_shown, defScope s_shown, [], []⟩
def d47 : He.DefD := ⟨("read_whole", none), "read_whole", "read_whole", defArgs s_read_whole, defBody s_read_whole, defScope s_read_whole, [], []⟩
def d48 : He.DefD := ⟨("read", none), "read", "read", defArgs s_read, defBody s_read, defScope s_read, [], []⟩
def d49 : He.DefD := ⟨("shown_row", none), "shown_row", "shown_row", defArgs s_shown_row, defBody s_shown_row, defScope s_shown_row, [], []⟩
def d50 : He.DefD := ⟨("read_row", none), "read_row", "read_row", defArgs s_read_row, defBody s_read_row, defScope s_read_row, [], []⟩
def d51 : He.DefD := ⟨("is_name", none), "is_name", "is_name", defArgs s_is_name, defBody s_is_name, defScope s_is_name, [], []⟩
def d52 : He.DefD := ⟨("read_number", none), "read_number", "read_number", defArgs s_read_number, defBody s_read_number, defScope s_read_number, [], []⟩
def d53 : He.DefD := ⟨("read_wide", none), "read_wide", "read_wide", defArgs s_read_wide, defBody s_read_wide, defScope s_read_wide, [], []⟩
def d54 : He.DefD := ⟨("read_things", none), "read_things", "read_things", defArgs s_read_things, defBody s_read_things, defScope s_read_things, [], []⟩
def d55 : He.DefD := ⟨("read_long", none), "read_long", "read_long", defArgs s_read_long, defBody s_read_long, defScope s_read_long, [], []⟩
def d56 : He.DefD := ⟨("in_figures", none), "in_figures", "in_figures", defArgs s_in_figures, defBody s_in_figures, defScope s_in_figures, [], []⟩
def d57 : He.DefD := ⟨("told_word", none), "told_word", "told_word", defArgs s_told_word, defBody s_told_word, defScope s_told_word, [], []⟩
def d58 : He.DefD := ⟨("told_value", none), "told_value", "told_value", defArgs s_told_value, defBody s_told_value, defScope s_told_value, [], []⟩
def d59 : He.DefD := ⟨("done_to", none), "done_to", "done_to", defArgs s_done_to, defBody s_done_to, defScope s_done_to, [], []⟩
def d60 : He.DefD := ⟨("told_of", none), "told_of", "told_of", defArgs s_told_of, defBody s_told_of, defScope s_told_of, [], []⟩
def d61 : He.DefD := ⟨("kinds_of", none), "kinds_of", "kinds_of", defArgs s_kinds_of, defBody s_kinds_of, defScope s_kinds_of, [], []⟩
def d62 : He.DefD := ⟨("Desk", some "part_of"), "part_of", "Desk.part_of", defArgs s_Desk_part_of, defBody s_Desk_part_of, defScope s_Desk_part_of, [], []⟩
def d63 : He.DefD := ⟨("Desk", some "parts_of"), "parts_of", "Desk.parts_of", defArgs s_Desk_parts_of, defBody s_Desk_parts_of, defScope s_Desk_parts_of, [], []⟩
def d64 : He.DefD := ⟨("Desk", some "say"), "say", "Desk.say", defArgs s_Desk_say, defBody s_Desk_say, defScope s_Desk_say, [], []⟩
def d65 : He.DefD := ⟨("_law_cell", none), "_law_cell", "_law_cell", defArgs s_law_cell, defBody s_law_cell, defScope s_law_cell, [], []⟩
def d66 : He.DefD := ⟨("_law_spread", none), "_law_spread", "_law_spread", defArgs s_law_spread, defBody s_law_spread, defScope s_law_spread, [], []⟩
def d67 : He.DefD := ⟨("_law_mixed", none), "_law_mixed", "_law_mixed", defArgs s_law_mixed, defBody s_law_mixed, defScope s_law_mixed, [], []⟩
def d68 : He.DefD := ⟨("_law_low", none), "_law_low", "_law_low", defArgs s_law_low, defBody s_law_low, defScope s_law_low, [], []⟩
def d69 : He.DefD := ⟨("_law_less", none), "_law_less", "_law_less", defArgs s_law_less, defBody s_law_less, defScope s_law_less, [], []⟩
def d70 : He.DefD := ⟨("_law_times", none), "_law_times", "_law_times", defArgs s_law_times, defBody s_law_times, defScope s_law_times, [], []⟩
def d71 : He.DefD := ⟨("_law_thing", none), "_law_thing", "_law_thing", defArgs s_law_thing, defBody s_law_thing, defScope s_law_thing, [], []⟩
def d72 : He.DefD := ⟨("_law_text", none), "_law_text", "_law_text", defArgs s_law_text, defBody s_law_text, defScope s_law_text, [], []⟩
def d73 : He.DefD := ⟨("_law_row_text", none), "_law_row_text", "_law_row_text", defArgs s_law_row_text, defBody s_law_row_text, defScope s_law_row_text, [], []⟩
def d74 : He.DefD := ⟨("_law_ratio_of", none), "_law_ratio_of", "_law_ratio_of", defArgs s_law_ratio_of, defBody s_law_ratio_of, defScope s_law_ratio_of, [], []⟩
def d75 : He.DefD := ⟨("_law_point", none), "_law_point", "_law_point", defArgs s_law_point, defBody s_law_point, defScope s_law_point, [], []⟩
def d76 : He.DefD := ⟨("_law_line", none), "_law_line", "_law_line", defArgs s_law_line, defBody s_law_line, defScope s_law_line, [], []⟩
def d77 : He.DefD := ⟨("Desk", some "__init__"), "__init__", "Desk.__init__", defArgs s_Desk_init__, defBody s_Desk_init__, defScope s_Desk_init__, [], []⟩
def d78 : He.DefD := ⟨("_law_answers", none), "_law_answers", "_law_answers", defArgs s_law_answers, defBody s_law_answers, defScope s_law_answers, [], []⟩
def d79 : He.DefD := ⟨("_law_beside", none), "_law_beside", "_law_beside", defArgs s_law_beside, defBody s_law_beside, defScope s_law_beside, [], []⟩
def d80 : He.DefD := ⟨("_law_deed", none), "_law_deed", "_law_deed", defArgs s_law_deed, defBody s_law_deed, defScope s_law_deed, [], []⟩
def d81 : He.DefD := ⟨("_law_words_good", none), "_law_words_good", "_law_words_good", defArgs s_law_words_good, defBody s_law_words_good, defScope s_law_words_good, [], []⟩
def d82 : He.DefD := ⟨("_law_stepped", none), "_law_stepped", "_law_stepped", defArgs s_law_stepped, defBody s_law_stepped, defScope s_law_stepped, [], []⟩
def d83 : He.DefD := ⟨("_law_step_good", none), "_law_step_good", "_law_step_good", defArgs s_law_step_good, defBody s_law_step_good, defScope s_law_step_good, [], []⟩
def d84 : He.DefD := ⟨("law", none), "law", "law", defArgs s_law, defBody s_law, defScope s_law, [], []⟩
def fnA : List He.DefD := [d0, d1, d2, d3, d4, d5, d6, d7, d8, d9, d10, d11, d12, d13, d14, d15, d16, d17, d18, d19, d20, d21, d22, d23, d24, d25, d26, d27, d28, d29, d30, d31, d32, d33, d34, d35, d36, d37, d38, d39, d40, d41, d42, d43, d44, d45, d46, d47, d48, d49, d50, d51, d52, d53, d54, d55, d56, d57, d58, d59, d60, d61, d62, d63, d64, d65, d66, d67, d68, d69, d70, d71, d72, d73, d74, d75, d76, d77, d78, d79, d80, d81, d82, d83, d84]
def fa0 : List He.Fa := [.free "abs", .free "len", .free "isinstance", .free "int", .free "bool", .free "str", .free "list", .free "tuple", .free "dict", .free "all", .free "max", .free "range", .free "enumerate", .free "zip", .int "MOST_WIDE_fits" 12, .int "MOST_WIDE_planes" 12, .int "MOST_WIDE_desk" 12, .int "MOST_FIGURES_texts" 60, .int "MOST_FIGURES_desk" 6, .int "MOST_NAME" 8, .str "FIGURES" "0123456789", .str "LETTERS" "abcdefghijklmnopqrstuvwxyz", .glo "NOUGHT", .glo "ONE", .glo "LINES", .glo "NotSure", .glo "Fit", .glo "Plane", .glo "Desk", .glo "shared"]
def fa1 : List He.Fa := [.glo "ratio", .glo "plus", .glo "minus", .glo "times", .glo "over", .glo "is_whole", .glo "is_ratio", .glo "is_still", .glo "scaled", .glo "taken", .glo "dot", .glo "square", .glo "parted", .glo "lefts", .glo "nearest", .glo "turned", .glo "is_row", .glo "is_point", .glo "looked_points", .glo "shown", .glo "read_whole", .glo "read", .glo "shown_row", .glo "read_row", .glo "is_name", .glo "read_number", .glo "read_wide", .glo "read_things", .glo "read_long", .glo "in_figures"]
def fa2 : List He.Fa := [.glo "told_word", .glo "told_value", .glo "done_to", .glo "told_of", .glo "kinds_of", .glo "_law_cell", .glo "_law_spread", .glo "_law_mixed", .glo "_law_low", .glo "_law_less", .glo "_law_times", .glo "_law_thing", .glo "_law_text", .glo "_law_row_text", .glo "_law_ratio_of", .glo "_law_point", .glo "_law_line", .glo "_law_answers", .glo "_law_beside", .glo "_law_deed", .glo "_law_words_good", .glo "_law_stepped", .glo "_law_step_good", .glo "law", .cls "Fit", .mkr "Fit", .noat "Fit" "points_kept", .noat "Fit" "wide", .noat "Fit" "columns", .noat "Fit" "wants"]
def fa3 : List He.Fa := [.noat "Fit" "weights", .noat "Fit" "parts", .noat "Fit" "shares", .noat "Fit" "rest", .cls "Plane", .mkr "Plane", .noat "Plane" "span", .noat "Plane" "kept", .noat "Plane" "fresh", .noat "Plane" "trail", .cls "Desk", .mkr "Desk", .noat "Desk" "by_name", .meth "Fit" "told", .meth "Fit" "rests", .meth "Fit" "squares", .meth "Fit" "free", .meth "Fit" "ways", .meth "Fit" "sure", .meth "Fit" "pull", .meth "Fit" "pulls", .meth "Fit" "value", .meth "Fit" "word", .meth "Plane" "noted", .meth "Plane" "mark", .meth "Plane" "width", .meth "Plane" "take", .meth "Plane" "back", .meth "Plane" "lay", .meth "Plane" "narrow"]
def fa4 : List He.Fa := [.meth "Plane" "widen", .meth "Plane" "fit", .meth "Plane" "told", .meth "Plane" "free", .meth "Plane" "ways", .meth "Plane" "squares", .meth "Plane" "points", .meth "Desk" "part_of", .meth "Desk" "parts_of", .meth "Desk" "say", .exc "NotSure", .exm "NotSure" "NotSure" true]
def faA : List He.Fa := fa0 ++ fa1 ++ fa2 ++ fa3 ++ fa4
def lineKeys : List PySem.Str := ["plane", "end", "names", "lay", "take", "widen", "narrow", "back", "mark", "told", "rests", "pulls", "squares", "free", "ways", "value", "word", "floor"]
def tsA : List He.Tab := [(fun K => He.ga K "LINES", lineKeys)]
/-- a tuple of these stands at a -/
def tupAt (K : PySem.W.Frag) (a : Addr) (vs : List V) : Bool := match K.lookup a with
  | some ⟨.type c, _, .seq its _, _⟩ => decide (c = "tuple") && decide (its.size ≤ sizeLine) && He.relAll vs its.toList
  | _ => false
theorem tupAt_ok {K : PySem.W.Frag} {a : Addr} {vs : List V} (h : tupAt K a vs = true) (H : Hp) : SqT K H a vs := by
  unfold tupAt at h
  split at h
  · rename_i c od its n sl q
    simp only [Bool.and_eq_true, decide_eq_true_eq] at h
    obtain ⟨⟨h1, h2⟩, h3⟩ := h
    exact .inr ⟨_, its, n, q, congrArg Value.type h1, rfl, h2, He.relAll_ok h3⟩
  · cases h
def lineAt (K : PySem.W.Frag) (q : PySem.Str × List PySem.Str) : Bool := match PySem.W.nsIn K (He.ga K "LINES") q.1 with
  | some (some (.ref a)) => tupAt K a (q.2.map V.str)
  | _ => false
def extra (K : PySem.W.Frag) : Bool := tupAt K (He.ga K "NOUGHT") [.int 0, .int 1] && tupAt K (He.ga K "ONE") [.int 1, .int 1] && lineTab.all (lineAt K)
/-! ### the addresses that are looked at, by paths -/
def valsR (g : Addr → Option Obj) (a : Addr) : List Addr := match g a with
  | some o => (match o.data with
    | .dict es _ => es.toList.flatMap fun e => He.refV e.val
    | _ => [])
  | none => []
def refsR (g : Addr → Option Obj) (a : Addr) : List Addr := match g a with
  | some o => (match o.data with
    | .func fd => He.refV fd.code ++ He.refV fd.defaults
    | .cls cd => [cd.ns]
    | .dict es _ => es.toList.flatMap fun e => He.refV e.val
    | _ => [])
  | none => []
def asR (g : Addr → Option Obj) : List Addr :=
  let A0 := valsR g mainGlobals
  let A1 := A0.flatMap (refsR g)
  let A2 := A1.flatMap (valsR g)
  let A3 := A2.flatMap (refsR g)
  mainGlobals :: (A0 ++ A1 ++ A2 ++ A3)
/-! ### the hook -/
def obsK (K : PySem.W.Frag) : He.AlT × Bool := (He.obsT faA fnA tsA K, extra K)
def valK (w : World) : He.AlT × Bool := (He.valT fnA tsA w, true)
def SaysK (w : World) (K : PySem.W.Frag) : Prop := obsK K = valK w
def hkA : PySem.W.Hook where
  α := He.AlT × Bool
  obs := fun s => obsK (He.frG s.heap.get? (asR s.heap.get?))
  val := valK
  says := fun w h => ∃ K : PySem.W.Frag, K.In h ∧ SaysK w K
  of := fun _ _ e => ⟨_, He.frG_in, e⟩
  keeps := fun _ _ _ ⟨K, hK, c⟩ k => ⟨K, PySem.W.Frag.In.keeps hK k, c⟩
def obA (s : PySem.W.SharedT) : He.AlT × Bool := obsK (He.frG (HandSHeadRun.getT s) (asR (HandSHeadRun.getT s)))
theorem obA_eq (s : PySem.W.SharedT) : obA s = hkA.obs s.abs := by
  have e : HandSHeadRun.getT s = s.abs.heap.get? := funext (HandSHeadRun.getT_eq s)
  unfold obA
  rw [e]
  rfl
abbrev R0 : PySem.W.OpenRow := PySem.W.OpenLaw.row PySem.Challenge.rw_nearplane_k82_whole_updates
def nmA0 : List PySem.Str := ["_wall", "PlaneError", "NoRatio", "NoText", "NoPoint", "NotSure", "NoColumn", "NoMark", "NoName", "NoLine", "NOUGHT", "ONE", "is_whole", "shared", "is_ratio", "ratio", "plus", "minus", "times", "over", "less", "is_row", "added", "taken", "scaled", "dot", "is_still", "square", "parted", "lefts"]
def nmA1 : List PySem.Str := ["nearest", "looked_marks", "shares_by", "prices_by", "first_below", "step_to", "settled", "floor", "turned", "MOST_WIDE_fits", "is_point", "looked_points", "Fit", "MOST_WIDE_planes", "Plane", "FIGURES", "MOST_FIGURES_texts", "shown", "read_whole", "read", "shown_row", "read_row", "LETTERS", "MOST_NAME", "MOST_WIDE_desk", "MOST_FIGURES_desk", "LINES", "is_name", "kinds_of", "read_number"]
def nmA2 : List PySem.Str := ["read_wide", "read_things", "read_long", "read_columns", "in_figures", "told_word", "told_value", "told_floor", "done_to", "told_of", "Desk", "_law_cell", "_law_spread", "_law_mixed", "_law_low", "_law_less", "_law_times", "_law_thing", "_law_text", "_law_row_text", "_law_ratio_of", "_law_point", "_law_line", "_law_deed", "_law_answers", "_law_beside", "_law_words_good", "_law_stepped", "_law_step_good"]
def namesA : List PySem.Str := nmA0 ++ nmA1 ++ nmA2
theorem runF (w : World) : HandSHeadRun.RunEq R0 (PySem.W.view R0.prog [100]) hkA obA 6200 namesA (w.withFollow "special-get-raises" false) := by
  intro os
  kernel_rfl
theorem runT (w : World) : HandSHeadRun.RunEq R0 (PySem.W.view R0.prog [100]) hkA obA 6200 namesA (w.withFollow "special-get-raises" true) := by
  intro os
  kernel_rfl
theorem runA (w : World) : HandSHeadRun.RunEq R0 (PySem.W.view R0.prog [100]) hkA obA 6200 namesA w := PySem.W.byRow2 "special-get-raises" runF runT w
end Np
end
section
set_option linter.all false
/-! The mathematics: the mirror of the fits over lists of rationals. -/
namespace Np
abbrev Row := List Rat
def dot3 : Row → Row → Row → Rat
  | a :: as, b :: bs, w :: ws => a * b * w + dot3 as bs ws
  | _, _, _ => 0
def dot2 : Row → Row → Rat
  | a :: as, b :: bs => a * b + dot2 as bs
  | _, _ => 0
def taken (a b : Row) : Row := List.zipWith (fun x y => x - y) a b
def scaled (a : Row) (q : Rat) : Row := a.map (fun x => x * q)
def still (a : Row) : Bool := a.all (fun x => x == 0)
abbrev Part := Row × Row
def pstep (row ws : Row) (acc p : Part) : Part :=
  if still p.1 = true then (acc.1, acc.2 ++ [0])
  else (taken acc.1 (scaled p.1 (dot3 row p.1 ws / dot3 p.1 p.1 ws)),
    taken acc.2 (scaled p.2 (dot3 row p.1 ws / dot3 p.1 p.1 ws)) ++ [dot3 row p.1 ws / dot3 p.1 p.1 ws])
def parted (row : Row) (ps : List Part) (ws : Row) : Part := ps.foldl (pstep row ws) (row, [])
def lefts (rows : List Row) (ws : Row) : List Part := rows.foldl (fun ps r => ps ++ [parted r ps ws]) []
structure Pt where
  row : Row
  want : Rat
  wt : Rat
  deriving DecidableEq
def colsOf (ps : List Pt) (m : Nat) : List Row := (List.range m).map fun k => ps.map fun p => p.row.getD k 0
def wantsOf (ps : List Pt) : Row := ps.map (·.want)
def wtsOf (ps : List Pt) : Row := ps.map (·.wt)
def partsOf (ps : List Pt) (m : Nat) : List Part := lefts (colsOf ps m) (wtsOf ps)
def fitOf (ps : List Pt) (m : Nat) : Part := parted (wantsOf ps) (partsOf ps m) (wtsOf ps)
def toldOf (ps : List Pt) (m : Nat) : Row := (fitOf ps m).2
def restOf (ps : List Pt) (m : Nat) : Row := (fitOf ps m).1
def freeIn (parts : List Part) : List Nat := (List.range parts.length).filter fun k => still (parts.getD k ([], [])).1
def wayIn (parts : List Part) (m k : Nat) : Row := (parts.getD k ([], [])).2.map (fun s => 0 - s) ++ [1] ++ List.replicate (m - k - 1) 0
def freeOf (ps : List Pt) (m : Nat) : List Nat := freeIn (partsOf ps m)
def waysOf (ps : List Pt) (m : Nat) : List Row := (freeOf ps m).map fun k => wayIn (partsOf ps m) m k
def squaresOf (ps : List Pt) (m : Nat) : Rat := dot3 (restOf ps m) (restOf ps m) (wtsOf ps)
def sureB (ps : List Pt) (m : Nat) (row : Row) : Bool := (waysOf ps m).all fun w => dot2 row w == 0
def valueOf (ps : List Pt) (m : Nat) (row : Row) : Rat := dot2 row (toldOf ps m)
def pullStep (ws : Row) (i : Nat) (acc : Rat) (p : Part) : Rat :=
  if still p.1 = true then acc else acc + p.1.getD i 0 * p.1.getD i 0 / dot3 p.1 p.1 ws
def pullOf (ps : List Pt) (m i : Nat) : Rat := (partsOf ps m).foldl (pullStep (wtsOf ps) i) 0 * (wtsOf ps).getD i 0
def wordOf (ps : List Pt) (m i : Nat) : Option Rat :=
  if sureB (ps.eraseIdx i) m (ps.getD i ⟨[], 0, 0⟩).row = true then some (valueOf (ps.eraseIdx i) m (ps.getD i ⟨[], 0, 0⟩).row) else none

/-! ### functions -/
section
variable {α : Type}
def sm (l : List α) (f : α → Rat) : Rat := (l.map f).sum
theorem sm_nil (f : α → Rat) : sm [] f = 0 := rfl
theorem sm_cons (a : α) (l : List α) (f : α → Rat) : sm (a :: l) f = f a + sm l f := by
  unfold sm; rw [List.map_cons, List.sum_cons]
theorem sm_congr {l : List α} {f g : α → Rat} (h : ∀ a, a ∈ l → f a = g a) : sm l f = sm l g := by
  unfold sm
  rw [List.map_congr_left h]
theorem sm_add (l : List α) (f g : α → Rat) : sm l (fun a => f a + g a) = sm l f + sm l g := by
  induction l with
  | nil => rw [sm_nil, sm_nil, sm_nil]; grind
  | cons a l ih => rw [sm_cons, sm_cons, sm_cons, ih]; grind
theorem sm_sub (l : List α) (f g : α → Rat) : sm l (fun a => f a - g a) = sm l f - sm l g := by
  induction l with
  | nil => rw [sm_nil, sm_nil, sm_nil]; grind
  | cons a l ih => rw [sm_cons, sm_cons, sm_cons, ih]; grind
theorem sm_mul (l : List α) (f : α → Rat) (q : Rat) : sm l (fun a => f a * q) = sm l f * q := by
  induction l with
  | nil => rw [sm_nil, sm_nil]; grind
  | cons a l ih => rw [sm_cons, sm_cons, ih]; grind
theorem sm_zero (l : List α) : sm l (fun _ => 0) = 0 := by
  induction l with
  | nil => rfl
  | cons a l ih => rw [sm_cons, ih]; grind
theorem sm_perm {l l' : List α} (h : l.Perm l') (f : α → Rat) : sm l f = sm l' f := by
  induction h with
  | nil => rfl
  | cons a _ ih => rw [sm_cons, sm_cons, ih]
  | swap a b l => rw [sm_cons, sm_cons, sm_cons, sm_cons]; grind
  | trans _ _ h1 h2 => rw [h1, h2]
theorem sm_append (l l' : List α) (f : α → Rat) : sm (l ++ l') f = sm l f + sm l' f := by
  induction l with
  | nil => rw [List.nil_append, sm_nil]; grind
  | cons a l ih => rw [List.cons_append, sm_cons, sm_cons, ih]; grind
theorem sq_nonneg (a : Rat) : 0 ≤ a * a := by
  rcases Rat.le_total (a := 0) (b := a) with h | h
  · exact Rat.mul_nonneg h h
  · have := Rat.mul_nonneg (a := -a) (b := -a) (by grind) (by grind)
    grind
theorem sm_nonneg {l : List α} {f : α → Rat} (h : ∀ a, a ∈ l → 0 ≤ f a) : 0 ≤ sm l f := by
  induction l with
  | nil => rw [sm_nil]; exact Rat.le_refl
  | cons a l ih =>
    rw [sm_cons]
    have h1 := h a (List.mem_cons_self)
    have h2 := ih (fun b hb => h b (List.mem_cons_of_mem _ hb))
    grind
theorem sm_eq_zero {l : List α} {f : α → Rat} (h : ∀ a, a ∈ l → 0 ≤ f a) (e : sm l f = 0) : ∀ a, a ∈ l → f a = 0 := by
  induction l with
  | nil => intro a ha; cases ha
  | cons b l ih =>
    have h1 := h b (List.mem_cons_self)
    have hl := fun c hc => h c (List.mem_cons_of_mem _ hc)
    have h2 := sm_nonneg hl
    rw [sm_cons] at e
    intro a ha
    rcases List.mem_cons.mp ha with rfl | ha
    · grind
    · exact ih hl (by grind) a ha
def ip (l : List α) (wt f g : α → Rat) : Rat := sm l (fun a => f a * g a * wt a)
theorem ip_comm (l : List α) (wt f g : α → Rat) : ip l wt f g = ip l wt g f := sm_congr fun a _ => by grind
theorem ip_sub_left (l : List α) (wt f f' g : α → Rat) : ip l wt (fun a => f a - f' a) g = ip l wt f g - ip l wt f' g := by
  unfold ip
  rw [← sm_sub]
  exact sm_congr fun a _ => by grind
theorem ip_mul_left (l : List α) (wt f g : α → Rat) (q : Rat) : ip l wt (fun a => f a * q) g = ip l wt f g * q := by
  unfold ip
  rw [← sm_mul]
  exact sm_congr fun a _ => by grind
theorem ip_congr {l : List α} {wt f f' g g' : α → Rat} (h1 : ∀ a, a ∈ l → f a = f' a) (h2 : ∀ a, a ∈ l → g a = g' a) : ip l wt f g = ip l wt f' g' :=
  sm_congr fun a ha => by rw [h1 a ha, h2 a ha]
theorem ip_perm {l l' : List α} (h : l.Perm l') (wt f g : α → Rat) : ip l wt f g = ip l' wt f g := sm_perm h _
theorem ip_self_zero {l : List α} {wt f : α → Rat} (hw : ∀ a, a ∈ l → 0 < wt a) (e : ip l wt f f = 0) : ∀ a, a ∈ l → f a = 0 := fun a ha => by
  have hn : ∀ b, b ∈ l → 0 ≤ f b * f b * wt b := fun b hb => Rat.mul_nonneg (sq_nonneg _) (Rat.le_of_lt (hw b hb))
  have h := sm_eq_zero hn e a ha
  have hp := hw a ha
  have h2 : f a * f a = 0 := by
    rcases Rat.mul_eq_zero.mp h with q | q
    · exact q
    · grind
  rcases Rat.mul_eq_zero.mp h2 with q | q <;> exact q
def stillF (l : List α) (f : α → Rat) : Bool := l.all fun a => f a == 0
theorem stillF_iff {l : List α} {f : α → Rat} : stillF l f = true ↔ ∀ a, a ∈ l → f a = 0 := by
  unfold stillF
  rw [List.all_eq_true]
  exact ⟨fun h a ha => eq_of_beq (h a ha), fun h a ha => by rw [h a ha]; rfl⟩
theorem stillF_perm {l l' : List α} (h : l.Perm l') (f : α → Rat) : stillF l f = stillF l' f := by
  rw [Bool.eq_iff_iff, stillF_iff, stillF_iff]
  exact ⟨fun q a ha => q a (h.mem_iff.mpr ha), fun q a ha => q a (h.mem_iff.mp ha)⟩
theorem ip_still {l : List α} {wt f g : α → Rat} (h : stillF l g = true) : ip l wt f g = 0 := by
  have h1 := stillF_iff.mp h
  have : ip l wt f g = sm l (fun _ => 0) := sm_congr fun a ha => by rw [h1 a ha]; grind
  rw [this, sm_zero]
abbrev FPart (α : Type) := (α → Rat) × Row
def fstep (l : List α) (wt g : α → Rat) (acc p : FPart α) : FPart α :=
  if stillF l p.1 = true then (acc.1, acc.2 ++ [0])
  else (fun a => acc.1 a - p.1 a * (ip l wt g p.1 / ip l wt p.1 p.1),
    taken acc.2 (scaled p.2 (ip l wt g p.1 / ip l wt p.1 p.1)) ++ [ip l wt g p.1 / ip l wt p.1 p.1])
def fparted (l : List α) (wt g : α → Rat) (ps : List (FPart α)) : FPart α := ps.foldl (fstep l wt g) (g, [])
def flefts (l : List α) (wt : α → Rat) (gs : List (α → Rat)) : List (FPart α) := gs.foldl (fun ps g => ps ++ [fparted l wt g ps]) []
theorem fstep_perm {l l' : List α} (h : l.Perm l') (wt : α → Rat) : fstep l wt = fstep l' wt := by
  funext g acc p
  unfold fstep
  rw [stillF_perm h, ip_perm h, ip_perm h]
theorem fparted_perm {l l' : List α} (h : l.Perm l') (wt : α → Rat) : fparted l wt = fparted l' wt := by
  funext g ps
  unfold fparted
  rw [fstep_perm h]
theorem flefts_perm {l l' : List α} (h : l.Perm l') (wt : α → Rat) : flefts l wt = flefts l' wt := by
  funext gs
  unfold flefts
  rw [fparted_perm h]
/-! ### lists are maps of functions -/
theorem dot3_map (l : List α) (f g wt : α → Rat) : dot3 (l.map f) (l.map g) (l.map wt) = ip l wt f g := by
  induction l with
  | nil => rfl
  | cons a l ih =>
    show f a * g a * wt a + dot3 (l.map f) (l.map g) (l.map wt) = _
    rw [ih]
    exact (sm_cons a l (fun a => f a * g a * wt a)).symm
theorem still_map (l : List α) (f : α → Rat) : still (l.map f) = stillF l f := by
  unfold still stillF
  rw [List.all_map]
  rfl
theorem taken_map (l : List α) (f g : α → Rat) : taken (l.map f) (l.map g) = l.map fun a => f a - g a := by
  unfold taken
  rw [List.zipWith_map]
  exact List.zipWith_self ..
theorem scaled_map (l : List α) (f : α → Rat) (q : Rat) : scaled (l.map f) q = l.map fun a => f a * q := by
  unfold scaled
  rw [List.map_map]
  rfl
def lay (l : List α) (p : FPart α) : Part := (l.map p.1, p.2)
theorem pstep_lay (l : List α) (wt g : α → Rat) (acc p : FPart α) : pstep (l.map g) (l.map wt) (lay l acc) (lay l p) = lay l (fstep l wt g acc p) := by
  unfold pstep fstep
  show (if still (l.map p.1) = true then _ else _) = _
  rw [still_map]
  split
  · rfl
  · show (taken (l.map acc.1) (scaled (l.map p.1) (dot3 (l.map g) (l.map p.1) (l.map wt) / dot3 (l.map p.1) (l.map p.1) (l.map wt))), _) = _
    rw [dot3_map, dot3_map, scaled_map, taken_map]
    show (_, taken acc.2 (scaled p.2 (dot3 (l.map g) (l.map p.1) (l.map wt) / dot3 (l.map p.1) (l.map p.1) (l.map wt))) ++ [dot3 (l.map g) (l.map p.1) (l.map wt) / dot3 (l.map p.1) (l.map p.1) (l.map wt)]) = _
    rw [dot3_map, dot3_map]
    rfl
theorem fold_lay (l : List α) (wt g : α → Rat) : ∀ (ps : List (FPart α)) (acc : FPart α), (ps.map (lay l)).foldl (pstep (l.map g) (l.map wt)) (lay l acc) = lay l (ps.foldl (fstep l wt g) acc)
  | [], _ => rfl
  | p :: ps, acc => by
    rw [List.map_cons, List.foldl_cons, List.foldl_cons, pstep_lay]
    exact fold_lay l wt g ps _
theorem parted_lay (l : List α) (wt g : α → Rat) (ps : List (FPart α)) : parted (l.map g) (ps.map (lay l)) (l.map wt) = lay l (fparted l wt g ps) := fold_lay l wt g ps (g, [])
theorem lefts_fold (l : List α) (wt : α → Rat) : ∀ (gs : List (α → Rat)) (ps : List (FPart α)), (gs.map fun g => l.map g).foldl (fun ps r => ps ++ [parted r ps (l.map wt)]) (ps.map (lay l)) = (gs.foldl (fun ps g => ps ++ [fparted l wt g ps]) ps).map (lay l)
  | [], _ => rfl
  | g :: gs, ps => by
    rw [List.map_cons, List.foldl_cons, List.foldl_cons, parted_lay]
    have e : ps.map (lay l) ++ [lay l (fparted l wt g ps)] = (ps ++ [fparted l wt g ps]).map (lay l) := by rw [List.map_append]; rfl
    rw [e]
    exact lefts_fold l wt gs _
theorem lefts_lay (l : List α) (wt : α → Rat) (gs : List (α → Rat)) : lefts (gs.map fun g => l.map g) (l.map wt) = (flefts l wt gs).map (lay l) := lefts_fold l wt gs []

/-! ### what the parts are -/
theorem dot2_nil_right (x : Row) : dot2 x [] = 0 := by cases x <;> rfl
theorem dot2_nil_left (s : Row) : dot2 [] s = 0 := by cases s <;> rfl
theorem dot2_snoc : ∀ (x s : Row) (b : Rat), dot2 x (s ++ [b]) = dot2 x s + x.getD s.length 0 * b
  | [], s, b => by
    rw [dot2_nil_left, dot2_nil_left]
    show (0 : Rat) = 0 + (0 : Rat) * b
    grind
  | a :: x, [], b => by
    show a * b + dot2 x [] = dot2 (a :: x) [] + a * b
    rw [dot2_nil_right, dot2_nil_right]
    grind
  | a :: x, c :: s, b => by
    show a * c + dot2 x (s ++ [b]) = a * c + dot2 x s + x.getD s.length 0 * b
    rw [dot2_snoc x s b]
    grind
theorem dot2_sub : ∀ (x s t : Row), s.length = t.length → dot2 x (taken s t) = dot2 x s - dot2 x t
  | [], s, t, _ => by rw [dot2_nil_left, dot2_nil_left, dot2_nil_left]; grind
  | a :: x, [], [], _ => by
    show dot2 (a :: x) [] = dot2 (a :: x) [] - dot2 (a :: x) []
    rw [dot2_nil_right]; grind
  | a :: x, c :: s, d :: t, h => by
    show a * (c - d) + dot2 x (taken s t) = a * c + dot2 x s - (a * d + dot2 x t)
    rw [dot2_sub x s t (Nat.succ.inj h)]
    grind
theorem dot2_mul : ∀ (x s : Row) (q : Rat), dot2 x (scaled s q) = dot2 x s * q
  | [], s, q => by rw [dot2_nil_left, dot2_nil_left]; grind
  | a :: x, [], q => by
    show dot2 (a :: x) [] = dot2 (a :: x) [] * q
    rw [dot2_nil_right]; grind
  | a :: x, c :: s, q => by
    show a * (c * q) + dot2 x (scaled s q) = (a * c + dot2 x s) * q
    rw [dot2_mul x s q]
    grind
theorem taken_length (s t : Row) (h : s.length = t.length) : (taken s t).length = s.length := by
  unfold taken
  rw [List.length_zipWith, h, Nat.min_self]
theorem scaled_length (s : Row) (q : Rat) : (scaled s q).length = s.length := List.length_map ..
section
variable {α : Type} (l : List α) (wt : α → Rat) (x : α → Row)
def Reps : Nat → List (FPart α) → Prop
  | _, [] => True
  | k, p :: ps => p.2.length = k ∧ (∀ a, p.1 a = (x a).getD k 0 - dot2 (x a) p.2) ∧ Reps (k + 1) ps
theorem Reps.append {x : α → Row} : ∀ {ps : List (FPart α)} {k : Nat} {qs : List (FPart α)}, Reps x k ps → Reps x (k + ps.length) qs → Reps x k (ps ++ qs)
  | [], k, qs, _, h => h
  | p :: ps, k, qs, h1, h2 => ⟨h1.1, h1.2.1, Reps.append h1.2.2 (by rw [show k + 1 + ps.length = k + (ps.length + 1) by omega]; exact h2)⟩
theorem Reps.get {x : α → Row} : ∀ {ps : List (FPart α)} {k j : Nat} {p : FPart α}, Reps x k ps → ps[j]? = some p → p.2.length = k + j ∧ ∀ a, p.1 a = (x a).getD (k + j) 0 - dot2 (x a) p.2
  | [], _, _, _, _, e => by cases e
  | q :: ps, k, 0, p, h, e => by
    cases Option.some.inj e
    exact ⟨h.1, h.2.1⟩
  | q :: ps, k, j + 1, p, h, e => by
    rw [show k + (j + 1) = k + 1 + j by omega]
    exact Reps.get h.2.2 e
variable {l wt x}
theorem fstep_rep {g : α → Rat} {k : Nat} {acc p : FPart α} (hp1 : p.2.length = k) (hp2 : ∀ a, p.1 a = (x a).getD k 0 - dot2 (x a) p.2) (h1 : acc.2.length = k) (h2 : ∀ a, acc.1 a = g a - dot2 (x a) acc.2) :
    (fstep l wt g acc p).2.length = k + 1 ∧ ∀ a, (fstep l wt g acc p).1 a = g a - dot2 (x a) (fstep l wt g acc p).2 := by
  unfold fstep
  split
  · refine ⟨by rw [List.length_append, h1]; rfl, fun a => ?_⟩
    show acc.1 a = g a - dot2 (x a) (acc.2 ++ [0])
    rw [dot2_snoc, h2 a]
    grind
  · have hl : acc.2.length = (scaled p.2 (ip l wt g p.1 / ip l wt p.1 p.1)).length := by rw [scaled_length, h1, hp1]
    refine ⟨?_, fun a => ?_⟩
    · show (taken acc.2 (scaled p.2 _) ++ [_]).length = _
      rw [List.length_append, taken_length _ _ hl, h1]; rfl
    · show acc.1 a - p.1 a * _ = g a - dot2 (x a) (taken acc.2 (scaled p.2 _) ++ [_])
      rw [dot2_snoc, dot2_sub _ _ _ hl, dot2_mul, taken_length _ _ hl, h1, h2 a, hp2 a]
      grind
theorem fold_rep {g : α → Rat} : ∀ {ps : List (FPart α)} {k : Nat} {acc : FPart α}, Reps x k ps → acc.2.length = k → (∀ a, acc.1 a = g a - dot2 (x a) acc.2) →
    (ps.foldl (fstep l wt g) acc).2.length = k + ps.length ∧ ∀ a, (ps.foldl (fstep l wt g) acc).1 a = g a - dot2 (x a) (ps.foldl (fstep l wt g) acc).2
  | [], k, acc, _, h1, h2 => ⟨h1, h2⟩
  | p :: ps, k, acc, h, h1, h2 => by
    rw [List.foldl_cons]
    obtain ⟨e1, e2⟩ := fstep_rep (l := l) (wt := wt) h.1 h.2.1 h1 h2
    obtain ⟨e3, e4⟩ := fold_rep (g := g) h.2.2 e1 e2
    exact ⟨by rw [e3, List.length_cons]; omega, e4⟩
theorem fparted_rep {g : α → Rat} {ps : List (FPart α)} (h : Reps x 0 ps) : (fparted l wt g ps).2.length = ps.length ∧ ∀ a, (fparted l wt g ps).1 a = g a - dot2 (x a) (fparted l wt g ps).2 := by
  obtain ⟨e1, e2⟩ := fold_rep (l := l) (wt := wt) (g := g) (acc := (g, [])) h rfl (fun a => by
    show g a = g a - dot2 (x a) []
    rw [dot2_nil_right]; grind)
  exact ⟨by rw [show (fparted l wt g ps).2.length = _ from e1]; omega, e2⟩
/-- upright on all parts -/
def Orth (l : List α) (wt : α → Rat) (ps : List (FPart α)) : Prop := ps.Pairwise fun p q => ip l wt p.1 q.1 = 0
theorem fstep_ip (g : α → Rat) (acc p : FPart α) (q : α → Rat) : stillF l p.1 = false →
    ip l wt (fstep l wt g acc p).1 q = ip l wt acc.1 q - ip l wt p.1 q * (ip l wt g p.1 / ip l wt p.1 p.1) := fun h => by
  unfold fstep
  rw [h]
  show ip l wt (fun a => acc.1 a - p.1 a * _) q = _
  rw [ip_sub_left, ip_mul_left]
theorem fold_orth (hw : ∀ a, a ∈ l → 0 < wt a) {g : α → Rat} : ∀ {todo done : List (FPart α)} {acc : FPart α}, Orth l wt (done ++ todo) → (∀ p, p ∈ done → ip l wt acc.1 p.1 = 0) → (∀ p, p ∈ todo → ip l wt acc.1 p.1 = ip l wt g p.1) →
    ∀ p, p ∈ done ++ todo → ip l wt (todo.foldl (fstep l wt g) acc).1 p.1 = 0
  | [], done, acc, _, h1, _ => fun p hp => by
    rw [List.append_nil] at hp
    exact h1 p hp
  | q :: todo, done, acc, ho, h1, h2 => by
    have e : done ++ q :: todo = (done ++ [q]) ++ todo := by rw [List.append_assoc]; rfl
    rw [e] at ho ⊢
    rw [List.foldl_cons]
    have hq2 := h2 q List.mem_cons_self
    have o1 : ∀ p, p ∈ done → ip l wt p.1 q.1 = 0 := fun p hp => by
      have := (List.pairwise_append.mp (List.pairwise_append.mp ho).1).2.2 p hp q (List.mem_singleton.mpr rfl)
      exact this
    have o2 : ∀ p, p ∈ todo → ip l wt q.1 p.1 = 0 := fun p hp => (List.pairwise_append.mp ho).2.2 q (List.mem_append_right _ (List.mem_singleton.mpr rfl)) p hp
    cases hs : stillF l q.1 with
    | true =>
      have e1 : (fstep l wt g acc q).1 = acc.1 := by
        unfold fstep
        rw [hs]
        rfl
      refine fold_orth hw ho (fun p hp => ?_) (fun p hp => ?_)
      · rw [e1]
        rcases List.mem_append.mp hp with hp | hp
        · exact h1 p hp
        · rw [List.mem_singleton.mp hp]
          exact ip_still hs
      · rw [e1]
        exact h2 p (List.mem_cons_of_mem _ hp)
    | false =>
      have hne : ip l wt q.1 q.1 ≠ 0 := fun z => by
        have := stillF_iff.mpr (ip_self_zero hw z)
        rw [hs] at this
        cases this
      refine fold_orth hw ho (fun p hp => ?_) (fun p hp => ?_)
      · rw [fstep_ip g acc q p.1 hs]
        rcases List.mem_append.mp hp with hp | hp
        · rw [h1 p hp, ip_comm, o1 p hp]
          grind
        · rw [List.mem_singleton.mp hp, hq2]
          grind
      · rw [fstep_ip g acc q p.1 hs, h2 p (List.mem_cons_of_mem _ hp), o2 p hp]
        grind
theorem fparted_orth (hw : ∀ a, a ∈ l → 0 < wt a) {g : α → Rat} {ps : List (FPart α)} (ho : Orth l wt ps) : ∀ p, p ∈ ps → ip l wt (fparted l wt g ps).1 p.1 = 0 :=
  fold_orth (done := []) (acc := (g, [])) hw ho (fun p hp => by cases hp) (fun _ _ => rfl)
/-- all of it for the columns -/
def colF (x : α → Row) (k : Nat) : α → Rat := fun a => (x a).getD k 0
def fcols (l : List α) (wt : α → Rat) (x : α → Row) (m : Nat) : List (FPart α) := flefts l wt ((List.range m).map (colF x))
theorem flefts_snoc (gs : List (α → Rat)) (g : α → Rat) : flefts l wt (gs ++ [g]) = flefts l wt gs ++ [fparted l wt g (flefts l wt gs)] := by
  unfold flefts
  rw [List.foldl_append]
  rfl
theorem fcols_succ (m : Nat) : fcols l wt x (m + 1) = fcols l wt x m ++ [fparted l wt (colF x m) (fcols l wt x m)] := by
  unfold fcols
  rw [List.range_succ, List.map_append]
  exact flefts_snoc _ _
theorem fcols_length (m : Nat) : (fcols l wt x m).length = m := by
  induction m with
  | zero => rfl
  | succ m ih => rw [fcols_succ, List.length_append, ih]; rfl
theorem fcols_rep (m : Nat) : Reps x 0 (fcols l wt x m) := by
  induction m with
  | zero => trivial
  | succ m ih =>
    rw [fcols_succ]
    refine ih.append ?_
    obtain ⟨h1, h2⟩ := fparted_rep (l := l) (wt := wt) (g := colF x m) ih
    rw [fcols_length] at h1 ⊢
    rw [Nat.zero_add]
    exact ⟨h1, h2, trivial⟩
theorem fcols_orth (hw : ∀ a, a ∈ l → 0 < wt a) (m : Nat) : Orth l wt (fcols l wt x m) := by
  induction m with
  | zero => exact List.Pairwise.nil
  | succ m ih =>
    rw [fcols_succ]
    refine List.pairwise_append.mpr ⟨ih, List.pairwise_singleton .., fun p hp q hq => ?_⟩
    rw [List.mem_singleton.mp hq, ip_comm]
    exact fparted_orth hw ih p hp
def fcol (l : List α) (wt : α → Rat) (x : α → Row) (k : Nat) : FPart α := fparted l wt (colF x k) (fcols l wt x k)
theorem fcols_at {m k : Nat} (h : k < m) : (fcols l wt x m)[k]? = some (fcol l wt x k) := by
  induction m with
  | zero => exact absurd h (Nat.not_lt_zero _)
  | succ m ih =>
    rw [fcols_succ]
    by_cases e : k = m
    · subst e
      rw [List.getElem?_append_right (by rw [fcols_length]; exact Nat.le_refl _), fcols_length, Nat.sub_self]
      rfl
    · rw [List.getElem?_append_left (by rw [fcols_length]; omega)]
      exact ih (by omega)
theorem fcol_rep (k : Nat) : (fcol l wt x k).2.length = k ∧ ∀ a, (fcol l wt x k).1 a = (x a).getD k 0 - dot2 (x a) (fcol l wt x k).2 := by
  obtain ⟨h1, h2⟩ := fparted_rep (l := l) (wt := wt) (g := colF x k) (fcols_rep (l := l) (wt := wt) (x := x) k)
  rw [fcols_length] at h1
  exact ⟨h1, h2⟩
theorem fcols_get {m k : Nat} (h : k < m) : ∃ p, (fcols l wt x m)[k]? = some p ∧ p.2.length = k ∧ ∀ a, p.1 a = (x a).getD k 0 - dot2 (x a) p.2 :=
  ⟨_, fcols_at h, fcol_rep k⟩
/-- a row of so many shares, split at its end -/
theorem row_snoc {s : Row} {k : Nat} (h : s.length = k + 1) : ∃ s' b, s = s' ++ [b] ∧ s'.length = k := by
  have hne : s ≠ [] := fun e => by rw [e] at h; cases h
  exact ⟨s.dropLast, s.getLast hne, (List.dropLast_concat_getLast hne).symm, by rw [List.length_dropLast, h]; rfl⟩
/-- what is upright on all parts is upright on all mixes of columns -/
theorem orth_mix {r : α → Rat} {m : Nat} (h : ∀ p, p ∈ fcols l wt x m → ip l wt r p.1 = 0) : ∀ k, k ≤ m → ∀ s : Row, s.length = k → ip l wt r (fun a => dot2 (x a) s) = 0 := by
  intro k
  induction k with
  | zero =>
    intro _ s hs
    have e : s = [] := List.length_eq_zero_iff.mp hs
    subst e
    have : ip l wt r (fun a => dot2 (x a) []) = sm l (fun _ => 0) := sm_congr fun a _ => by
      show r a * dot2 (x a) [] * wt a = 0
      rw [dot2_nil_right]; grind
    rw [this, sm_zero]
  | succ k ih =>
    intro hk s hs
    obtain ⟨s', b, rfl, hs'⟩ := row_snoc hs
    obtain ⟨p, hp, hl, hr⟩ := fcols_get (l := l) (wt := wt) (x := x) (show k < m by omega)
    have h1 := ih (by omega) s' hs'
    have h2 := ih (by omega) p.2 hl
    have h3 := h p (List.mem_of_getElem? hp)
    have e : ip l wt (fun a => dot2 (x a) (s' ++ [b])) r = ip l wt (fun a => dot2 (x a) s') r + (ip l wt p.1 r + ip l wt (fun a => dot2 (x a) p.2) r) * b := by
      unfold ip
      rw [← sm_add, ← sm_mul, ← sm_add]
      refine sm_congr fun a _ => ?_
      show dot2 (x a) (s' ++ [b]) * r a * wt a = dot2 (x a) s' * r a * wt a + (p.1 a * r a * wt a + dot2 (x a) p.2 * r a * wt a) * b
      rw [dot2_snoc, hs', hr a]
      grind
    rw [ip_comm, e, ip_comm, h1, ip_comm l wt p.1, h3, ip_comm l wt _ r, h2]
    grind
theorem fparted_mix (hw : ∀ a, a ∈ l → 0 < wt a) {g : α → Rat} {m : Nat} {s : Row} (hs : s.length = m) : ip l wt (fparted l wt g (fcols l wt x m)).1 (fun a => dot2 (x a) s) = 0 :=
  orth_mix (m := m) (fparted_orth hw (fcols_orth hw m)) m (Nat.le_refl m) s hs
/-! ### leaving one out -/
def way (S : Row) (m : Nat) : Row := S.map (fun s => 0 - s) ++ [1] ++ List.replicate (m - S.length - 1) 0
theorem dot2_zeros : ∀ (y s : Row) (n : Nat), dot2 y (s ++ List.replicate n 0) = dot2 y s := by
  intro y s n
  induction n generalizing s with
  | zero => rw [List.replicate_zero, List.append_nil]
  | succ n ih =>
    have e : s ++ List.replicate (n + 1) (0 : Rat) = (s ++ [0]) ++ List.replicate n 0 := by
      rw [List.append_assoc]; rfl
    rw [e, ih, dot2_snoc]
    grind
theorem dot2_neg : ∀ (y s : Row), dot2 y (s.map fun v => 0 - v) = 0 - dot2 y s
  | [], s => by rw [dot2_nil_left, dot2_nil_left]; grind
  | a :: y, [] => by
    show dot2 (a :: y) [] = 0 - dot2 (a :: y) []
    rw [dot2_nil_right]; grind
  | a :: y, c :: s => by
    show a * (0 - c) + dot2 y (s.map fun v => 0 - v) = 0 - (a * c + dot2 y s)
    rw [dot2_neg y s]
    grind
theorem dot2_way (y S : Row) (m : Nat) : dot2 y (way S m) = y.getD S.length 0 - dot2 y S := by
  unfold way
  rw [dot2_zeros, dot2_snoc, dot2_neg, List.length_map]
  grind
theorem way_length {S : Row} {m : Nat} (h : S.length < m) : (way S m).length = m := by
  unfold way
  rw [List.length_append, List.length_append, List.length_map, List.length_replicate, List.length_singleton]
  omega
/-- where the others are sure, what gives nought at them gives nought here -/
theorem kernel (hw : ∀ a, a ∈ l → 0 < wt a) {y : Row} : ∀ k, (∀ j, j < k → stillF l (fcol l wt x j).1 = true → y.getD j 0 = dot2 y (fcol l wt x j).2) →
    ∀ u : Row, u.length = k → (∀ a, a ∈ l → dot2 (x a) u = 0) → dot2 y u = 0 := by
  intro k
  induction k with
  | zero =>
    intro _ u hu _
    have e : u = [] := List.length_eq_zero_iff.mp hu
    rw [e, dot2_nil_right]
  | succ k ih =>
    intro hs u hu hz
    obtain ⟨u', b, rfl, hu'⟩ := row_snoc hu
    obtain ⟨hl, hr⟩ := fcol_rep (l := l) (wt := wt) (x := x) k
    have hlen : u'.length = (scaled (fcol l wt x k).2 (-b)).length := by rw [scaled_length, hl, hu']
    have hvl : (taken u' (scaled (fcol l wt x k).2 (-b))).length = k := by rw [taken_length _ _ hlen, hu']
    have hv : ∀ z : Row, dot2 z (taken u' (scaled (fcol l wt x k).2 (-b))) = dot2 z u' + dot2 z (fcol l wt x k).2 * b := fun z => by
      rw [dot2_sub _ _ _ hlen, dot2_mul]
      grind
    have hx : ∀ a, a ∈ l → dot2 (x a) (taken u' (scaled (fcol l wt x k).2 (-b))) + (fcol l wt x k).1 a * b = 0 := fun a ha => by
      have h1 := hz a ha
      rw [dot2_snoc, hu'] at h1
      rw [hv, hr a]
      grind
    have ih' := ih (fun j hj => hs j (by omega)) _ hvl
    rw [dot2_snoc, hu']
    cases hst : stillF l (fcol l wt x k).1 with
    | true =>
      have h0 := stillF_iff.mp hst
      have h1 := ih' fun a ha => by
        have := hx a ha
        rw [h0 a ha] at this
        grind
      rw [hv] at h1
      rw [hs k (by omega) hst]
      exact h1
    | false =>
      have hne : ip l wt (fcol l wt x k).1 (fcol l wt x k).1 ≠ 0 := fun z => by
        have := stillF_iff.mpr (ip_self_zero hw z)
        rw [hst] at this
        cases this
      have h2 : ip l wt (fcol l wt x k).1 (fun a => dot2 (x a) (taken u' (scaled (fcol l wt x k).2 (-b)))) = 0 := fparted_mix hw hvl
      have h3 : ip l wt (fcol l wt x k).1 (fun a => dot2 (x a) (taken u' (scaled (fcol l wt x k).2 (-b)))) + ip l wt (fcol l wt x k).1 (fcol l wt x k).1 * b = 0 := by
        unfold ip
        rw [← sm_mul, ← sm_add, ← sm_zero l]
        refine sm_congr fun a ha => ?_
        have := hx a ha
        show (fcol l wt x k).1 a * dot2 (x a) _ * wt a + (fcol l wt x k).1 a * (fcol l wt x k).1 a * wt a * b = 0
        have e : (fcol l wt x k).1 a * dot2 (x a) (taken u' (scaled (fcol l wt x k).2 (-b))) * wt a + (fcol l wt x k).1 a * (fcol l wt x k).1 a * wt a * b
          = (dot2 (x a) (taken u' (scaled (fcol l wt x k).2 (-b))) + (fcol l wt x k).1 a * b) * ((fcol l wt x k).1 a * wt a) := by grind
        rw [e, this]
        grind
      rw [h2] at h3
      have hb : b = 0 := by
        rcases Rat.mul_eq_zero.mp (show ip l wt (fcol l wt x k).1 (fcol l wt x k).1 * b = 0 by grind) with q | q
        · exact absurd q hne
        · exact q
      subst hb
      have h1 := ih' fun a ha => by
        have := hx a ha
        grind
      rw [hv] at h1
      grind
section
variable {l' : List α} {i : α} {m : Nat} {t : Row} {e : α → Rat}
/-- what the mix nearest to 1 here, 0 elsewhere says -/
theorem loo_t (hl : ∀ f : α → Rat, sm l f = f i + sm l' f) (he : e i = 1) (he' : ∀ a, a ∈ l' → e a = 0)
    (ht : ∀ s : Row, s.length = m → ip l wt (fun a => e a - dot2 (x a) t) (fun a => dot2 (x a) s) = 0) {s : Row} (hs : s.length = m) :
    wt i * dot2 (x i) s = dot2 (x i) t * dot2 (x i) s * wt i + ip l' wt (fun a => dot2 (x a) t) (fun a => dot2 (x a) s) := by
  have h := ht s hs
  unfold ip at h ⊢
  rw [hl] at h
  have e1 : sm l' (fun a => (e a - dot2 (x a) t) * dot2 (x a) s * wt a) = sm l' (fun a => dot2 (x a) t * dot2 (x a) s * wt a * (-1)) := sm_congr fun a ha => by
    rw [he' a ha]
    grind
  rw [sm_mul] at e1
  have h2 : (e i - dot2 (x i) t) * dot2 (x i) s * wt i + sm l' (fun a => (e a - dot2 (x a) t) * dot2 (x a) s * wt a) = 0 := h
  rw [e1, he] at h2
  show wt i * dot2 (x i) s = dot2 (x i) t * dot2 (x i) s * wt i + sm l' (fun a => dot2 (x a) t * dot2 (x a) s * wt a)
  grind
theorem loo_ne (hl : ∀ f : α → Rat, sm l f = f i + sm l' f) (hw' : ∀ a, a ∈ l' → 0 < wt a) (he : e i = 1) (he' : ∀ a, a ∈ l' → e a = 0)
    (ht : ∀ s : Row, s.length = m → ip l wt (fun a => e a - dot2 (x a) t) (fun a => dot2 (x a) s) = 0) (htl : t.length = m)
    (hk : ∀ u : Row, u.length = m → (∀ a, a ∈ l' → dot2 (x a) u = 0) → dot2 (x i) u = 0) : dot2 (x i) t ≠ 1 := fun h1 => by
  have h := loo_t hl he he' ht htl
  rw [h1] at h
  have h2 : ip l' wt (fun a => dot2 (x a) t) (fun a => dot2 (x a) t) = 0 := by grind
  have h3 := hk t htl (ip_self_zero hw' h2)
  rw [h1] at h3
  exact absurd h3 (by decide)
theorem loo_one (hl : ∀ f : α → Rat, sm l f = f i + sm l' f) (hwi : 0 < wt i) (he : e i = 1) (he' : ∀ a, a ∈ l' → e a = 0)
    (ht : ∀ s : Row, s.length = m → ip l wt (fun a => e a - dot2 (x a) t) (fun a => dot2 (x a) s) = 0)
    {u : Row} (hu : u.length = m) (hz : ∀ a, a ∈ l' → dot2 (x a) u = 0) (hn : dot2 (x i) u ≠ 0) : dot2 (x i) t = 1 := by
  have h := loo_t hl he he' ht hu
  have e1 : ip l' wt (fun a => dot2 (x a) t) (fun a => dot2 (x a) u) = sm l' (fun _ => 0) := sm_congr fun a ha => by
    show dot2 (x a) t * dot2 (x a) u * wt a = 0
    rw [hz a ha]
    grind
  rw [e1, sm_zero] at h
  have h2 : (1 - dot2 (x i) t) * (dot2 (x i) u * wt i) = 0 := by grind
  rcases Rat.mul_eq_zero.mp h2 with q | q
  · grind
  · rcases Rat.mul_eq_zero.mp q with q | q
    · exact absurd q hn
    · grind
theorem loo_rest (hl : ∀ f : α → Rat, sm l f = f i + sm l' f) (hw : ∀ a, a ∈ l → 0 < wt a) (hi : i ∈ l) (he : e i = 1) (he' : ∀ a, a ∈ l' → e a = 0)
    (ht : ∀ s : Row, s.length = m → ip l wt (fun a => e a - dot2 (x a) t) (fun a => dot2 (x a) s) = 0) (htl : t.length = m) {y : α → Rat} {s1 s2 : Row} (l1 : s1.length = m) (l2 : s2.length = m)
    (h1 : ∀ s : Row, s.length = m → ip l wt (fun a => y a - dot2 (x a) s1) (fun a => dot2 (x a) s) = 0)
    (h2 : ∀ s : Row, s.length = m → ip l' wt (fun a => y a - dot2 (x a) s2) (fun a => dot2 (x a) s) = 0) :
    y i - dot2 (x i) s1 = (1 - dot2 (x i) t) * (y i - dot2 (x i) s2) := by
  have q0 : ∀ s : Row, s.length = m → ip l wt (fun a => y a - dot2 (x a) s2 - dot2 (x a) t * (y i - dot2 (x i) s2)) (fun a => dot2 (x a) s) = 0 := fun s hs => by
    have a1 := loo_t hl he he' ht hs
    have a2 := h2 s hs
    have a3 : ip l' wt (fun a => y a - dot2 (x a) s2 - dot2 (x a) t * (y i - dot2 (x i) s2)) (fun a => dot2 (x a) s) = ip l' wt (fun a => y a - dot2 (x a) s2) (fun a => dot2 (x a) s) - ip l' wt (fun a => dot2 (x a) t) (fun a => dot2 (x a) s) * (y i - dot2 (x i) s2) := by
      rw [ip_sub_left, ip_mul_left]
    unfold ip at a3 ⊢
    rw [hl]
    unfold ip at a1 a2
    rw [a2] at a3
    show (y i - dot2 (x i) s2 - dot2 (x i) t * (y i - dot2 (x i) s2)) * dot2 (x i) s * wt i + _ = 0
    rw [a3]
    have a4 : sm l' (fun a => dot2 (x a) t * dot2 (x a) s * wt a) = wt i * dot2 (x i) s - dot2 (x i) t * dot2 (x i) s * wt i := by
      have a1' : wt i * dot2 (x i) s = dot2 (x i) t * dot2 (x i) s * wt i + sm l' (fun a => dot2 (x a) t * dot2 (x a) s * wt a) := a1
      grind
    show _ + (0 - sm l' (fun a => dot2 (x a) t * dot2 (x a) s * wt a) * (y i - dot2 (x i) s2)) = 0
    rw [a4]
    grind
  have e1 : (taken s1 s2).length = m := by rw [taken_length _ _ (l1.trans l2.symm), l1]
  have e2 : (taken s1 s2).length = (scaled t (y i - dot2 (x i) s2)).length := by rw [e1, scaled_length, htl]
  have e3 : (taken (taken s1 s2) (scaled t (y i - dot2 (x i) s2))).length = m := by rw [taken_length _ _ e2, e1]
  have ev : ∀ z : Row, dot2 z (taken (taken s1 s2) (scaled t (y i - dot2 (x i) s2))) = dot2 z s1 - dot2 z s2 - dot2 z t * (y i - dot2 (x i) s2) := fun z => by
    rw [dot2_sub _ _ _ e2, dot2_sub _ _ _ (l1.trans l2.symm), dot2_mul]
  have hv : ip l wt (fun a => dot2 (x a) (taken (taken s1 s2) (scaled t (y i - dot2 (x i) s2)))) (fun a => dot2 (x a) (taken (taken s1 s2) (scaled t (y i - dot2 (x i) s2)))) = 0 := by
    have b1 := q0 _ e3
    have b2 := h1 _ e3
    have b3 : ip l wt (fun a => dot2 (x a) (taken (taken s1 s2) (scaled t (y i - dot2 (x i) s2)))) (fun a => dot2 (x a) (taken (taken s1 s2) (scaled t (y i - dot2 (x i) s2))))
      = ip l wt (fun a => (y a - dot2 (x a) s2 - dot2 (x a) t * (y i - dot2 (x i) s2)) - (y a - dot2 (x a) s1)) (fun a => dot2 (x a) (taken (taken s1 s2) (scaled t (y i - dot2 (x i) s2)))) := ip_congr (fun a _ => by rw [ev]; grind) (fun _ _ => rfl)
    rw [b3, ip_sub_left, b1, b2]
    grind
  have := ip_self_zero hw hv i hi
  rw [ev] at this
  grind
end
end
end

/-! ### the fits of lists of points -/
section
variable {α : Type} (l : List α) (pt : α → Pt)
def xF : α → Row := fun a => (pt a).row
def wF : α → Rat := fun a => (pt a).wt
def yF : α → Rat := fun a => (pt a).want
theorem cols_map (m : Nat) : colsOf (l.map pt) m = ((List.range m).map (colF (xF pt))).map fun g => l.map g := by
  unfold colsOf
  rw [List.map_map]
  refine List.map_congr_left fun k _ => ?_
  show (l.map pt).map (fun p => p.row.getD k 0) = l.map (colF (xF pt) k)
  rw [List.map_map]
  rfl
theorem wts_map : wtsOf (l.map pt) = l.map (wF pt) := by
  unfold wtsOf
  rw [List.map_map]
  rfl
theorem wants_map : wantsOf (l.map pt) = l.map (yF pt) := by
  unfold wantsOf
  rw [List.map_map]
  rfl
theorem parts_map (m : Nat) : partsOf (l.map pt) m = (fcols l (wF pt) (xF pt) m).map (lay l) := by
  unfold partsOf
  rw [cols_map, wts_map]
  exact lefts_lay l (wF pt) _
def ffit (m : Nat) : FPart α := fparted l (wF pt) (yF pt) (fcols l (wF pt) (xF pt) m)
theorem fit_map (m : Nat) : fitOf (l.map pt) m = lay l (ffit l pt m) := by
  unfold fitOf
  rw [parts_map, wts_map, wants_map]
  exact parted_lay l (wF pt) (yF pt) _
theorem told_map (m : Nat) : toldOf (l.map pt) m = (ffit l pt m).2 := by
  unfold toldOf
  rw [fit_map]
  rfl
theorem rest_map (m : Nat) : restOf (l.map pt) m = l.map (ffit l pt m).1 := by
  unfold restOf
  rw [fit_map]
  rfl
theorem part_getD {m k : Nat} (h : k < m) : (partsOf (l.map pt) m).getD k ([], []) = lay l (fcol l (wF pt) (xF pt) k) := by
  rw [parts_map, List.getD_eq_getElem?_getD, List.getElem?_map, fcols_at h]
  rfl
theorem parts_length (m : Nat) : (partsOf (l.map pt) m).length = m := by
  rw [parts_map, List.length_map, fcols_length]
theorem free_map (m : Nat) : freeOf (l.map pt) m = (List.range m).filter fun k => stillF l (fcol l (wF pt) (xF pt) k).1 := by
  unfold freeOf freeIn
  rw [parts_length]
  refine List.filter_congr fun k hk => ?_
  rw [part_getD l pt (List.mem_range.mp hk)]
  exact still_map l _
theorem way_map {m k : Nat} (h : k < m) : wayIn (partsOf (l.map pt) m) m k = way (fcol l (wF pt) (xF pt) k).2 m := by
  unfold wayIn way
  rw [part_getD l pt h, (fcol_rep (l := l) (wt := wF pt) (x := xF pt) k).1]
  rfl
theorem ways_map (m : Nat) : waysOf (l.map pt) m = (freeOf (l.map pt) m).map fun k => way (fcol l (wF pt) (xF pt) k).2 m := by
  unfold waysOf
  refine List.map_congr_left fun k hk => way_map l pt ?_
  rw [free_map] at hk
  exact List.mem_range.mp (List.mem_filter.mp hk).1
theorem squares_map (m : Nat) : squaresOf (l.map pt) m = ip l (wF pt) (ffit l pt m).1 (ffit l pt m).1 := by
  unfold squaresOf
  rw [rest_map, wts_map, dot3_map]
theorem sure_map (m : Nat) (y : Row) : sureB (l.map pt) m y = true ↔ ∀ k, k < m → stillF l (fcol l (wF pt) (xF pt) k).1 = true → y.getD k 0 = dot2 y (fcol l (wF pt) (xF pt) k).2 := by
  have key : ∀ k, dot2 y (way (fcol l (wF pt) (xF pt) k).2 m) = y.getD k 0 - dot2 y (fcol l (wF pt) (xF pt) k).2 := fun k => by
    rw [dot2_way, (fcol_rep (l := l) (wt := wF pt) (x := xF pt) k).1]
  unfold sureB
  rw [ways_map, free_map, List.all_map, List.all_eq_true]
  constructor
  · intro h k hk hs
    have h1 := eq_of_beq (h k (List.mem_filter.mpr ⟨List.mem_range.mpr hk, hs⟩))
    rw [key k] at h1
    grind
  · intro h k hk
    obtain ⟨h1, h2⟩ := List.mem_filter.mp hk
    have h3 := h k (List.mem_range.mp h1) h2
    show (dot2 y (way (fcol l (wF pt) (xF pt) k).2 m) == 0) = true
    rw [key k, h3]
    exact beq_iff_eq.mpr (by grind)
end
/-! ### the order of the points is of no matter -/
section
variable {ps qs : List Pt} (h : ps.Perm qs) (m : Nat)
include h
theorem fcol_perm : fcol ps (wF id) (xF id) = fcol qs (wF id) (xF id) := by
  funext k
  unfold fcol fcols
  rw [fparted_perm h, flefts_perm h]
theorem told_perm : toldOf ps m = toldOf qs m := by
  have e1 := told_map ps id m
  have e2 := told_map qs id m
  rw [List.map_id] at e1 e2
  rw [e1, e2]
  unfold ffit fcols
  rw [fparted_perm h, flefts_perm h]
theorem free_perm : freeOf ps m = freeOf qs m := by
  have e1 := free_map ps id m
  have e2 := free_map qs id m
  rw [List.map_id] at e1 e2
  rw [e1, e2, fcol_perm h]
  refine List.filter_congr fun k _ => stillF_perm h _
theorem ways_perm : waysOf ps m = waysOf qs m := by
  have e1 := ways_map ps id m
  have e2 := ways_map qs id m
  rw [List.map_id] at e1 e2
  rw [e1, e2, fcol_perm h, free_perm h]
theorem squares_perm : squaresOf ps m = squaresOf qs m := by
  have e1 := squares_map ps id m
  have e2 := squares_map qs id m
  rw [List.map_id] at e1 e2
  rw [e1, e2, ip_perm h]
  unfold ffit fcols
  rw [fparted_perm h, flefts_perm h]
theorem sure_perm (y : Row) : sureB ps m y = sureB qs m y := by
  unfold sureB
  rw [ways_perm h]
theorem value_perm (y : Row) : valueOf ps m y = valueOf qs m y := by
  unfold valueOf
  rw [told_perm h]
end
/-! ### leaving one out, of lists -/
theorem fold_pull {α : Type} {l : List α} {wt e : α → Rat} {i : α} {c : Rat} (hip : ∀ f : α → Rat, ip l wt e f = f i * c) : ∀ (ps : List (FPart α)) (acc : FPart α) (z : Rat),
    (ps.foldl (fstep l wt e) acc).1 i = acc.1 i - (ps.foldl (fun a p => if stillF l p.1 = true then a else a + p.1 i * p.1 i / ip l wt p.1 p.1) z - z) * c
  | [], acc, z => by
    show acc.1 i = acc.1 i - (z - z) * c
    grind
  | p :: ps, acc, z => by
    rw [List.foldl_cons, List.foldl_cons]
    cases hs : stillF l p.1 with
    | true =>
      have e1 : (fstep l wt e acc p).1 = acc.1 := by
        unfold fstep
        rw [hs]
        rfl
      rw [fold_pull hip ps (fstep l wt e acc p) z, e1]
      rfl
    | false =>
      have e1 : (fstep l wt e acc p).1 i = acc.1 i - p.1 i * (ip l wt e p.1 / ip l wt p.1 p.1) := by
        unfold fstep
        rw [hs]
        rfl
      rw [hip] at e1
      have e2 : (if false = true then z else z + p.1 i * p.1 i / ip l wt p.1 p.1) = z + p.1 i * p.1 i / ip l wt p.1 p.1 := rfl
      rw [e2, fold_pull hip ps (fstep l wt e acc p) (z + p.1 i * p.1 i / ip l wt p.1 p.1), e1]
      have e4 : p.1 i * (p.1 i * c / ip l wt p.1 p.1) = p.1 i * p.1 i / ip l wt p.1 p.1 * c := by
        rw [Rat.div_def, Rat.div_def, Rat.mul_assoc, Rat.mul_assoc, Rat.mul_assoc, Rat.mul_comm c]
      rw [e4]
      generalize p.1 i * p.1 i / ip l wt p.1 p.1 = q
      generalize List.foldl _ (z + q) ps = F
      have h0 : ∀ A q c F z : Rat, A - q * c - (F - (z + q)) * c = A - (F - z) * c := by intros; grind
      exact h0 _ _ _ _ _
theorem foldl_lay {α : Type} {l : List α} {ws : Row} {wt : α → Rat} {i : Nat} {a : α} (hws : ws = l.map wt) (hi : l[i]? = some a) : ∀ (ps : List (FPart α)) (z : Rat),
    (ps.map (lay l)).foldl (pullStep ws i) z = ps.foldl (fun acc p => if stillF l p.1 = true then acc else acc + p.1 a * p.1 a / ip l wt p.1 p.1) z
  | [], z => rfl
  | p :: ps, z => by
    rw [List.map_cons, List.foldl_cons, List.foldl_cons, foldl_lay hws hi ps]
    congr 1
    unfold pullStep
    show (if still (l.map p.1) = true then z else z + (l.map p.1).getD i 0 * (l.map p.1).getD i 0 / dot3 (l.map p.1) (l.map p.1) ws) = _
    have e : (l.map p.1).getD i 0 = p.1 a := by
      rw [List.getD_eq_getElem?_getD, List.getElem?_map, hi]
      rfl
    rw [still_map, e, hws, dot3_map]
def noPt : Pt := ⟨[], 0, 0⟩
theorem getD_at {α : Type} (l : List α) (d : α) {j : Nat} (h : j < l.length) : l.getD j d = l[j] := by
  rw [List.getD_eq_getElem?_getD, List.getElem?_eq_getElem h]
  rfl
theorem list_map (ps : List Pt) : (List.range ps.length).map (fun j => ps.getD j noPt) = ps := by
  refine List.ext_getElem (by rw [List.length_map, List.length_range]) fun j h1 h2 => ?_
  rw [List.getElem_map, List.getElem_range, getD_at _ _ h2]
theorem erase_map {α β : Type} (f : α → β) : ∀ (l : List α) (i : Nat), (l.map f).eraseIdx i = (l.eraseIdx i).map f
  | [], _ => rfl
  | _ :: _, 0 => rfl
  | a :: l, i + 1 => congrArg (f a :: ·) (erase_map f l i)
theorem erase_perm {α : Type} : ∀ (l : List α) (i : Nat) (a : α), l[i]? = some a → l.Perm (a :: l.eraseIdx i)
  | [], _, _, h => by cases h
  | b :: l, 0, a, h => by
    cases Option.some.inj h
    exact List.Perm.refl _
  | b :: l, i + 1, a, h => ((erase_perm l i a h).cons b).trans (List.Perm.swap a b _)
theorem loo (ps : List Pt) (m i : Nat) (hi : i < ps.length) (hw : ∀ p, p ∈ ps → 0 < p.wt) :
    (sureB (ps.eraseIdx i) m (ps.getD i noPt).row = true → pullOf ps m i ≠ 1 ∧
      (restOf ps m).getD i 0 = (1 - pullOf ps m i) * ((ps.getD i noPt).want - valueOf (ps.eraseIdx i) m (ps.getD i noPt).row)) ∧
    (sureB (ps.eraseIdx i) m (ps.getD i noPt).row = false → pullOf ps m i = 1) := by
  -- places
  have hps := list_map ps
  have hx : (List.range ps.length)[i]? = some i := by rw [List.getElem?_range hi]
  have hperm := erase_perm _ _ _ hx
  have hnd : (i :: (List.range ps.length).eraseIdx i).Nodup := hperm.nodup_iff.mp List.nodup_range
  have hni : i ∉ (List.range ps.length).eraseIdx i := (List.nodup_cons.mp hnd).1
  have hl : ∀ f : Nat → Rat, sm (List.range ps.length) f = f i + sm ((List.range ps.length).eraseIdx i) f := fun f => by rw [sm_perm hperm, sm_cons]
  have hmem : i ∈ List.range ps.length := List.mem_range.mpr hi
  have hsub : ∀ a, a ∈ (List.range ps.length).eraseIdx i → a ∈ List.range ps.length := fun a ha => hperm.mem_iff.mpr (List.mem_cons_of_mem _ ha)
  have hwl : ∀ a, a ∈ List.range ps.length → 0 < wF (fun j => ps.getD j noPt) a := fun a ha => by
    have h1 := List.mem_range.mp ha
    show 0 < (ps.getD a noPt).wt
    rw [getD_at _ _ h1]
    exact hw _ (List.getElem_mem h1)
  have hwl' : ∀ a, a ∈ (List.range ps.length).eraseIdx i → 0 < wF (fun j => ps.getD j noPt) a := fun a ha => hwl a (hsub a ha)
  have hoth : ps.eraseIdx i = ((List.range ps.length).eraseIdx i).map (fun j => ps.getD j noPt) := by
    rw [← erase_map, hps]
  generalize hL : List.range ps.length = L at *
  generalize hL' : L.eraseIdx i = L' at *
  generalize hpt : (fun j => ps.getD j noPt) = pt at *
  have hpi : ps.getD i noPt = pt i := by rw [← hpt]
  rw [hpi, hoth]
  -- 1 here, 0 elsewhere
  let e : Nat → Rat := fun a => if a = i then 1 else 0
  have he : e i = 1 := if_pos rfl
  have he' : ∀ a, a ∈ L' → e a = 0 := fun a ha => if_neg fun (q : a = i) => hni (by rw [← q]; exact ha)
  obtain ⟨tl, tr⟩ := fparted_rep (l := L) (wt := wF pt) (g := e) (fcols_rep (l := L) (wt := wF pt) (x := xF pt) m)
  rw [fcols_length] at tl
  have ht : ∀ s : Row, s.length = m → ip L (wF pt) (fun a => e a - dot2 (xF pt a) (fparted L (wF pt) e (fcols L (wF pt) (xF pt) m)).2) (fun a => dot2 (xF pt a) s) = 0 := fun s hs => by
    have h1 := fparted_mix (x := xF pt) hwl (g := e) hs
    have e1 : (fparted L (wF pt) e (fcols L (wF pt) (xF pt) m)).1 = fun a => e a - dot2 (xF pt a) (fparted L (wF pt) e (fcols L (wF pt) (xF pt) m)).2 := funext tr
    rw [e1] at h1
    exact h1
  have hpull : pullOf ps m i = dot2 (xF pt i) (fparted L (wF pt) e (fcols L (wF pt) (xF pt) m)).2 := by
    have h1 := tr i
    have hip : ∀ f : Nat → Rat, ip L (wF pt) e f = f i * wF pt i := fun f => by
      unfold ip
      rw [hl]
      have : sm L' (fun a => e a * f a * wF pt a) = sm L' (fun _ => 0) := sm_congr fun a ha => by rw [he' a ha]; grind
      rw [this, sm_zero, he]
      grind
    have h2 := fold_pull hip (fcols L (wF pt) (xF pt) m) (e, []) 0
    have h3 : (fparted L (wF pt) e (fcols L (wF pt) (xF pt) m)).1 i = _ := h2
    rw [h3] at h1
    unfold pullOf
    rw [← hps, parts_map, wts_map, foldl_lay rfl hx]
    have e4 : (L.map (wF pt)).getD i 0 = wF pt i := by
      rw [List.getD_eq_getElem?_getD, List.getElem?_map, hx]
      rfl
    rw [e4]
    grind
  rw [hpull]
  obtain ⟨l1, r1⟩ := fparted_rep (l := L) (wt := wF pt) (g := yF pt) (fcols_rep (l := L) (wt := wF pt) (x := xF pt) m)
  obtain ⟨l2, r2⟩ := fparted_rep (l := L') (wt := wF pt) (g := yF pt) (fcols_rep (l := L') (wt := wF pt) (x := xF pt) m)
  rw [fcols_length] at l1 l2
  constructor
  · intro hs
    have hk := kernel (x := xF pt) hwl' m (y := xF pt i) ((sure_map L' pt m (pt i).row).mp hs)
    refine ⟨loo_ne hl hwl' he he' ht tl fun u hu hz => hk u hu hz, ?_⟩
    have hrest : (restOf ps m).getD i 0 = yF pt i - dot2 (xF pt i) (ffit L pt m).2 := by
      rw [← hps, rest_map, List.getD_eq_getElem?_getD, List.getElem?_map, hx]
      exact r1 i
    rw [hrest]
    unfold valueOf
    rw [told_map]
    refine loo_rest hl hwl hmem he he' ht tl l1 l2 (fun s hs => ?_) (fun s hs => ?_)
    · have h1 := fparted_mix (x := xF pt) hwl (g := yF pt) hs
      have e1 : (fparted L (wF pt) (yF pt) (fcols L (wF pt) (xF pt) m)).1 = fun a => yF pt a - dot2 (xF pt a) (fparted L (wF pt) (yF pt) (fcols L (wF pt) (xF pt) m)).2 := funext r1
      rw [e1] at h1
      exact h1
    · have h1 := fparted_mix (x := xF pt) hwl' (g := yF pt) hs
      have e1 : (fparted L' (wF pt) (yF pt) (fcols L' (wF pt) (xF pt) m)).1 = fun a => yF pt a - dot2 (xF pt a) (fparted L' (wF pt) (yF pt) (fcols L' (wF pt) (xF pt) m)).2 := funext r2
      rw [e1] at h1
      exact h1
  · intro hs
    have hns : ¬ ∀ k, k < m → stillF L' (fcol L' (wF pt) (xF pt) k).1 = true → (pt i).row.getD k 0 = dot2 (pt i).row (fcol L' (wF pt) (xF pt) k).2 := fun q => by
      have := (sure_map L' pt m (pt i).row).mpr q
      rw [hs] at this
      cases this
    have hex : ∃ k, k < m ∧ stillF L' (fcol L' (wF pt) (xF pt) k).1 = true ∧ (pt i).row.getD k 0 ≠ dot2 (pt i).row (fcol L' (wF pt) (xF pt) k).2 := by
      refine Classical.byContradiction fun q => hns fun k hk hst => Classical.byContradiction fun z => q ⟨k, hk, hst, z⟩
    obtain ⟨k, hk, hst, hne⟩ := hex
    obtain ⟨fl, fr⟩ := fcol_rep (l := L') (wt := wF pt) (x := xF pt) k
    refine loo_one hl (hwl i hmem) he he' ht (u := way (fcol L' (wF pt) (xF pt) k).2 m) (way_length (by rw [fl]; exact hk)) (fun a ha => ?_) ?_
    · have h1 := stillF_iff.mp hst a ha
      rw [dot2_way, fl, ← fr a]
      exact h1
    · rw [dot2_way, fl]
      intro z
      refine hne ?_
      have h0 : ∀ a b : Rat, a - b = 0 → a = b := by intros; grind
      exact h0 _ _ z
end Np
end
section
set_option linter.all false
/-! Numbers: a ratio of two whole numbers, sizes. -/
namespace Np
/-- what a number may be to be reckoned with and told -/
def Sz (q : Rat) : Prop := q.num.natAbs < 2 ^ 1920 ∧ q.den < 2 ^ 1920
theorem ratio_num {a b : Int} (hb : 0 < b) : (Rat.divInt a b).num = a / (Int.gcd a b : Nat) := by
  rw [Rat.num_divInt, Int.sign_eq_one_of_pos hb, Int.one_mul, Int.gcd_comm]
theorem ratio_den {a b : Int} (hb : 0 < b) : ((Rat.divInt a b).den : Int) = b / (Int.gcd a b : Nat) := by
  rw [Rat.den_divInt, if_neg (by omega), Int.gcd_comm]
  show ((b.natAbs / Int.gcd a b : Nat) : Int) = _
  rw [Int.natCast_ediv, Int.natAbs_of_nonneg (by omega)]
theorem add_rat (a b : Rat) : a + b = Rat.divInt (a.num * b.den + b.num * a.den) (a.den * b.den) := by
  rw [Rat.add_def', ← Rat.divInt_ofNat]
  rfl
theorem sub_rat (a b : Rat) : a - b = Rat.divInt (a.num * b.den - b.num * a.den) (a.den * b.den) := by
  rw [Rat.sub_def', ← Rat.divInt_ofNat]
  rfl
theorem mul_rat (a b : Rat) : a * b = Rat.divInt (a.num * b.num) (a.den * b.den) := by
  rw [Rat.mul_def', ← Rat.divInt_ofNat]
  rfl
theorem div_rat (a b : Rat) : a / b = Rat.divInt (a.num * b.den) (a.den * b.num) := by
  have h : a * b⁻¹ = Rat.divInt a.num a.den * Rat.divInt b.den b.num := by
    rw [Rat.num_divInt_den, Rat.inv_def]
  rw [Rat.div_def, h, Rat.divInt_mul_divInt]
theorem den_pos (q : Rat) : (0 : Int) < (q.den : Nat) := by have := q.den_pos; omega
theorem num_pos {q : Rat} (h : 0 < q) : 0 < q.num := by
  have := (Rat.lt_iff 0 q).mp h
  simpa using this
theorem cross_lt {a b c d : Int} {n : Nat} (h1 : a.natAbs < 2 ^ n) (h2 : b.natAbs < 2 ^ n) (h3 : c.natAbs < 2 ^ n) (h4 : d.natAbs < 2 ^ n) : (a * b + c * d).natAbs < 2 ^ (n + n + 1) ∧ (a * b - c * d).natAbs < 2 ^ (n + n + 1) := by
  have e1 : (a * b).natAbs < 2 ^ (n + n) := by
    rw [Int.natAbs_mul, Nat.pow_add]
    exact Nat.mul_lt_mul'' h1 h2
  have e2 : (c * d).natAbs < 2 ^ (n + n) := by
    rw [Int.natAbs_mul, Nat.pow_add]
    exact Nat.mul_lt_mul'' h3 h4
  have e3 : 2 ^ (n + n + 1) = 2 ^ (n + n) + 2 ^ (n + n) := by rw [Nat.pow_succ]; omega
  omega
theorem cross_one {a b : Int} {n : Nat} (h1 : a.natAbs < 2 ^ n) (h2 : b.natAbs < 2 ^ n) : (a * b).natAbs < 2 ^ (n + n + 1) := by
  have e1 : (a * b).natAbs < 2 ^ (n + n) := by
    rw [Int.natAbs_mul, Nat.pow_add]
    exact Nat.mul_lt_mul'' h1 h2
  have e3 : 2 ^ (n + n + 1) = 2 ^ (n + n) + 2 ^ (n + n) := by rw [Nat.pow_succ]; omega
  omega
theorem Sz.n {q : Rat} (h : Sz q) : q.num.natAbs < 2 ^ 1920 := h.1
theorem Sz.d {q : Rat} (h : Sz q) : ((q.den : Nat) : Int).natAbs < 2 ^ 1920 := h.2
theorem gcd_step (a b : Int) (hb : 0 < b) : Int.gcd b (a % b) = Int.gcd a b := by
  have e : a = a % b + b * (a / b) := (Int.emod_add_mul_ediv a b).symm
  rw [Int.gcd_comm a b]
  conv => rhs; rw [e]
  rw [Int.gcd_add_mul_left_right]
end Np
end
section
set_option linter.all false
/-! What the reckoning asks of sizes and shapes. -/
namespace Np
theorem take_more {α : Type} {l : List α} {i : Nat} {x : α} (h : l[i]? = some x) : l.take (i + 1) = l.take i ++ [x] := by
  rw [List.take_add_one, h]
  rfl
theorem taken_more {a b : Row} {i : Nat} {x y : Rat} (ha : a[i]? = some x) (hb : b[i]? = some y) : taken (a.take (i + 1)) (b.take (i + 1)) = taken (a.take i) (b.take i) ++ [x - y] := by
  rw [take_more ha, take_more hb]
  unfold taken
  have h1 := (List.getElem?_eq_some_iff.mp ha).1
  have h2 := (List.getElem?_eq_some_iff.mp hb).1
  rw [List.zipWith_append (by rw [List.length_take, List.length_take]; omega)]
  rfl
/-- what a weighted dot reckons with -/
def DotOk : Row → Row → Row → Rat → Prop
  | a :: as, b :: bs, w :: ws, acc => Sz a ∧ Sz b ∧ Sz w ∧ Sz (a * b) ∧ Sz (a * b * w) ∧ Sz acc ∧ DotOk as bs ws (acc + a * b * w)
  | _, _, _, _ => True
def Dot2Ok : Row → Row → Rat → Prop
  | a :: as, b :: bs, acc => Sz a ∧ Sz b ∧ Sz (a * b) ∧ Sz acc ∧ Dot2Ok as bs (acc + a * b)
  | _, _, _ => True
theorem dot3_take : ∀ {a b c : Row} {i : Nat} {x y z : Rat}, a[i]? = some x → b[i]? = some y → c[i]? = some z → dot3 (a.take (i + 1)) (b.take (i + 1)) (c.take (i + 1)) = dot3 (a.take i) (b.take i) (c.take i) + x * y * z
  | p :: a, q :: b, r :: c, 0, x, y, z, h1, h2, h3 => by
    cases Option.some.inj h1
    cases Option.some.inj h2
    cases Option.some.inj h3
    show p * q * r + 0 = 0 + p * q * r
    grind
  | p :: a, q :: b, r :: c, i + 1, x, y, z, h1, h2, h3 => by
    have ih := dot3_take (a := a) (b := b) (c := c) (i := i) h1 h2 h3
    show p * q * r + dot3 (a.take (i + 1)) (b.take (i + 1)) (c.take (i + 1)) = p * q * r + dot3 (a.take i) (b.take i) (c.take i) + x * y * z
    rw [ih]
    grind
  | [], _, _, _, _, _, _, h, _, _ => by simp at h
  | _ :: _, [], _, _, _, _, _, _, h, _ => by simp at h
  | _ :: _, _ :: _, [], _, _, _, _, _, _, h => by simp at h
theorem dot2_take : ∀ {a b : Row} {i : Nat} {x y : Rat}, a[i]? = some x → b[i]? = some y → dot2 (a.take (i + 1)) (b.take (i + 1)) = dot2 (a.take i) (b.take i) + x * y
  | p :: a, q :: b, 0, x, y, h1, h2 => by
    cases Option.some.inj h1
    cases Option.some.inj h2
    show p * q + 0 = 0 + p * q
    grind
  | p :: a, q :: b, i + 1, x, y, h1, h2 => by
    have ih := dot2_take (a := a) (b := b) (i := i) h1 h2
    show p * q + dot2 (a.take (i + 1)) (b.take (i + 1)) = p * q + dot2 (a.take i) (b.take i) + x * y
    rw [ih]
    grind
  | [], _, _, _, _, h, _ => by simp at h
  | _ :: _, [], _, _, _, _, h => by simp at h
/-! ### sizes and shapes -/
def byOf (row ws : Row) (p : Part) : Rat := dot3 row p.1 ws / dot3 p.1 p.1 ws
structure StepOk (row ws : Row) (acc p : Part) : Prop where
  d1 : DotOk row p.1 ws 0
  d2 : DotOk p.1 p.1 ws 0
  s1 : Sz (dot3 row p.1 ws)
  s2 : Sz (dot3 p.1 p.1 ws)
  pos : 0 < dot3 p.1 p.1 ws
  by_ : Sz (byOf row ws p)
  p1 : ∀ x, x ∈ p.1 → Sz x
  a1 : ∀ x, x ∈ acc.1 → Sz x
  c1 : ∀ x, x ∈ scaled p.1 (byOf row ws p) → Sz x
  p2 : ∀ x, x ∈ p.2 → Sz x
  a2 : ∀ x, x ∈ acc.2 → Sz x
  c2 : ∀ x, x ∈ scaled p.2 (byOf row ws p) → Sz x
def accOf (row ws : Row) (ps : List Part) (k : Nat) : Part := (ps.take k).foldl (pstep row ws) (row, [])
def ShapeOk (n : Nat) (ps : List Part) : Prop := ∀ (k : Nat) (p : Part), ps[k]? = some p → p.1.length = n ∧ p.2.length = k
structure PartedOk (row ws : Row) (ps : List Part) : Prop where
  step : ∀ (k : Nat) (p : Part), ps[k]? = some p → still p.1 = false → StepOk row ws (accOf row ws ps k) p
theorem accOf_succ {row ws : Row} {ps : List Part} {k : Nat} {p : Part} (h : ps[k]? = some p) : accOf row ws ps (k + 1) = pstep row ws (accOf row ws ps k) p := by
  unfold accOf
  rw [take_more h, List.foldl_append]
  rfl
theorem accOf_all (row ws : Row) (ps : List Part) : accOf row ws ps ps.length = parted row ps ws := by
  unfold accOf parted
  rw [List.take_length]
theorem accOf_shape {row ws : Row} {ps : List Part} {n : Nat} (hr : row.length = n) (hs : ShapeOk n ps) : ∀ k, k ≤ ps.length → (accOf row ws ps k).1.length = n ∧ (accOf row ws ps k).2.length = k := by
  intro k
  induction k with
  | zero => exact fun _ => ⟨hr, rfl⟩
  | succ k ih =>
    intro hk
    obtain ⟨i1, i2⟩ := ih (by omega)
    have e : ps[k]? = some ps[k] := List.getElem?_eq_getElem (by omega)
    obtain ⟨h1, h2⟩ := hs k _ e
    rw [accOf_succ e]
    unfold pstep
    split
    · refine ⟨i1, ?_⟩
      rw [List.length_append, i2]
      rfl
    · refine ⟨?_, ?_⟩
      · rw [taken_length _ _ (by rw [scaled_length, i1, h1]), i1]
      · rw [List.length_append, taken_length _ _ (by rw [scaled_length, i2, h2]), i2]
        rfl
theorem parted_shape {row ws : Row} {ps : List Part} {n : Nat} (hr : row.length = n) (hs : ShapeOk n ps) : (parted row ps ws).1.length = n ∧ (parted row ps ws).2.length = ps.length := by
  rw [← accOf_all]
  exact accOf_shape hr hs _ (Nat.le_refl _)
theorem lefts_snoc (rows : List Row) (r ws : Row) : lefts (rows ++ [r]) ws = lefts rows ws ++ [parted r (lefts rows ws) ws] := by
  unfold lefts
  rw [List.foldl_append]
  rfl
theorem lefts_len (ws : Row) : ∀ k (rows : List Row), rows.length = k → (lefts rows ws).length = k := by
  intro k
  induction k with
  | zero =>
    intro rows h
    rw [List.length_eq_zero_iff.mp h]
    rfl
  | succ k ih =>
    intro rows h
    have hne : rows ≠ [] := fun e => by rw [e] at h; cases h
    rw [← List.dropLast_concat_getLast hne, lefts_snoc, List.length_append, ih _ (by rw [List.length_dropLast, h]; rfl)]
    rfl
theorem lefts_take (rows : List Row) (ws : Row) (k : Nat) (h : k ≤ rows.length) : (lefts (rows.take k) ws).length = k := lefts_len ws k _ (by rw [List.length_take]; omega)
theorem lefts_shape (rows : List Row) (ws : Row) (n : Nat) (hr : ∀ r, r ∈ rows → r.length = n) : ∀ k, k ≤ rows.length → ShapeOk n (lefts (rows.take k) ws) := by
  intro k
  induction k with
  | zero => exact fun _ j p e => by cases e
  | succ k ih =>
    intro hk j p e
    have er : rows[k]? = some rows[k] := List.getElem?_eq_getElem (by omega)
    rw [take_more er, lefts_snoc] at e
    have hl := lefts_take rows ws k (by omega)
    by_cases hj : j < k
    · rw [List.getElem?_append_left (by omega)] at e
      exact ih (by omega) j p e
    · by_cases q : j = k
      · subst q
        rw [List.getElem?_append_right (by omega), hl, Nat.sub_self] at e
        cases Option.some.inj e
        have := parted_shape (ws := ws) (hr _ (List.getElem_mem (by omega : j < rows.length))) (ih (by omega))
        rw [hl] at this
        exact this
      · rw [List.getElem?_eq_none (by rw [List.length_append, hl]; show k + 1 ≤ j; omega)] at e
        cases e
def LeftsOk (rows : List Row) (ws : Row) : Prop := ∀ (k : Nat) (r : Row), rows[k]? = some r → PartedOk r ws (lefts (rows.take k) ws)
end Np
end
section
set_option linter.all false
set_option maxRecDepth 100000
set_option maxHeartbeats 4000000
/-! The base of the walk: the text by places, data in the heap, loops over anything. -/
namespace L2
open PySem PySem.Spec PyProof.Rows
theorem DpAll.length {K : PySem.W.Frag} {H : Hp} : ∀ {vs : List V} {ds : List PyData}, DpAll K H vs ds → vs.length = ds.length
  | _, _, .nil => rfl
  | _, _, .cons _ r => congrArg (· + 1) (DpAll.length r)
theorem DpAll.get {K : PySem.W.Frag} {H : Hp} : ∀ {vs : List V} {ds : List PyData} {i : Nat} {d : PyData}, DpAll K H vs ds → ds[i]? = some d → ∃ v, vs[i]? = some v ∧ Dp K H v d
  | _, _, _, _, .nil, e => by cases e
  | _, _, 0, _, .cons a _, e => by
    cases Option.some.inj e
    exact ⟨_, rfl, a⟩
  | _, _, i + 1, _, .cons _ r, e => DpAll.get (i := i) r e
theorem DpAll.get' {K : PySem.W.Frag} {H : Hp} : ∀ {vs : List V} {ds : List PyData} {i : Nat} {v : V}, DpAll K H vs ds → vs[i]? = some v → ∃ d, ds[i]? = some d ∧ Dp K H v d
  | _, _, _, _, .nil, e => by cases e
  | _, _, 0, _, .cons a _, e => by
    cases Option.some.inj e
    exact ⟨_, rfl, a⟩
  | _, _, i + 1, _, .cons _ r, e => DpAll.get' (i := i) r e
theorem DpAll.snoc {K : PySem.W.Frag} {H : Hp} : ∀ {vs : List V} {ds : List PyData} {v : V} {d : PyData}, DpAll K H vs ds → Dp K H v d → DpAll K H (vs ++ [v]) (ds ++ [d])
  | _, _, _, _, .nil, h => .cons h .nil
  | _, _, _, _, .cons a r, h => .cons a (DpAll.snoc r h)
theorem DpAll.append {K : PySem.W.Frag} {H : Hp} : ∀ {vs ws : List V} {ds es : List PyData}, DpAll K H vs ds → DpAll K H ws es → DpAll K H (vs ++ ws) (ds ++ es)
  | _, _, _, _, .nil, h => h
  | _, _, _, _, .cons a r, h => .cons a (DpAll.append r h)
theorem DpAll.take {K : PySem.W.Frag} {H : Hp} : ∀ {vs : List V} {ds : List PyData} (n : Nat), DpAll K H vs ds → DpAll K H (vs.take n) (ds.take n)
  | _, _, 0, _ => by rw [List.take_zero, List.take_zero]; exact .nil
  | _, _, _ + 1, .nil => .nil
  | _, _, n + 1, .cons a r => .cons a (DpAll.take n r)
theorem DpAll.drop {K : PySem.W.Frag} {H : Hp} : ∀ {vs : List V} {ds : List PyData} (n : Nat), DpAll K H vs ds → DpAll K H (vs.drop n) (ds.drop n)
  | _, _, 0, h => h
  | _, _, _ + 1, .nil => .nil
  | _, _, n + 1, .cons _ r => DpAll.drop n r
theorem DpAll.set {K : PySem.W.Frag} {H : Hp} {v : V} {d : PyData} (h : Dp K H v d) : ∀ {vs : List V} {ds : List PyData} (n : Nat), DpAll K H vs ds → DpAll K H (vs.set n v) (ds.set n d)
  | _, _, _, .nil => .nil
  | _, _, 0, .cons _ r => .cons h r
  | _, _, n + 1, .cons a r => .cons a (DpAll.set h n r)
end L2
namespace Np
open PySem PySem.Spec PyProof.Rows L2

/-! ### data in the heap -/
mutual
theorem dp_same {K : PySem.W.Frag} {H H' : Hp} (e : Same H H') : ∀ {v : V} {d : PyData}, Dp K H v d → Dp K H' v d
  | _, _, .non => .non
  | _, _, .bl b => .bl b
  | _, _, .int i => .int i
  | _, _, .str x => .str x
  | _, _, .lst h a => .lst (e.seq h) (dps_same e a)
  | _, _, .tup h a => .tup (by
      rcases h with (h | ⟨o, h⟩) | h
      · exact .inl (.inl (e _ _ h))
      · exact .inl (.inr ⟨o, e _ _ h⟩)
      · exact .inr h) (dps_same e a)
theorem dps_same {K : PySem.W.Frag} {H H' : Hp} (e : Same H H') : ∀ {vs : List V} {ds : List PyData}, DpAll K H vs ds → DpAll K H' vs ds
  | _, _, .nil => .nil
  | _, _, .cons a r => .cons (dp_same e a) (dps_same e r)
end
theorem _root_.L2.Same.tup {K : PySem.W.Frag} {H H' : Hp} {a : Addr} {xs : List V} (e : Same H H') (h : SqT K H a xs) : SqT K H' a xs := by
  rcases h with (h | ⟨o, h⟩) | h
  · exact .inl (.inl (e _ _ h))
  · exact .inl (.inr ⟨o, e _ _ h⟩)
  · exact .inr h
theorem same_new {H : Hp} {p : Addr} {o : HO} (h : H p = Option.none) : Same H (upd H p o) := fun b u e => by
  rw [upd_ne (ne_of_none e h)]
  exact e
/-- an object that was not there at the beginning is written -/
theorem same_put {H0 H : Hp} {p : Addr} {o : HO} (e : Same H0 H) (h : H0 p = Option.none) : Same H0 (upd H p o) := fun b u q => by
  rw [upd_ne (ne_of_none q h)]
  exact e _ _ q
/-- a ratio, a row of them -/
def encQ (q : Rat) : PyData := .tuple [.int q.num, .int (q.den : Nat)]
def encs (r : Row) : List PyData := r.map encQ
def encR (r : Row) : PyData := .list (encs r)
/-- a value is a list at an address of these data -/
def Lst (K : PySem.W.Frag) (H : Hp) (v : V) (ds : List PyData) : Prop := ∃ a xs, v = .ref a ∧ SqL K H a xs ∧ DpAll K H xs ds
def Tup (K : PySem.W.Frag) (H : Hp) (v : V) (ds : List PyData) : Prop := ∃ a xs, v = .ref a ∧ SqT K H a xs ∧ DpAll K H xs ds
theorem dp_list {K : PySem.W.Frag} {H : Hp} {v : V} {ds : List PyData} (h : Dp K H v (.list ds)) : Lst K H v ds := by
  cases h with
  | lst a b => exact ⟨_, _, rfl, a, b⟩
theorem dp_tup {K : PySem.W.Frag} {H : Hp} {v : V} {ds : List PyData} (h : Dp K H v (.tuple ds)) : Tup K H v ds := by
  cases h with
  | tup a b => exact ⟨_, _, rfl, a, b⟩
theorem dp_int {K : PySem.W.Frag} {H : Hp} {v : V} {i : Int} (h : Dp K H v (.int i)) : v = .int i := by
  cases h; rfl
theorem dp_str {K : PySem.W.Frag} {H : Hp} {v : V} {i : Str} (h : Dp K H v (.str i)) : v = .str i := by
  cases h; rfl
theorem dp_q {K : PySem.W.Frag} {H : Hp} {v : V} {q : Rat} (h : Dp K H v (encQ q)) : ∃ a, v = .ref a ∧ SqT K H a [.int q.num, .int (q.den : Nat)] := by
  obtain ⟨a, xs, rfl, hs, hd⟩ := dp_tup h
  cases hd with
  | cons h1 r =>
    cases r with
    | cons h2 r =>
      cases r
      cases dp_int h1
      cases dp_int h2
      exact ⟨a, rfl, hs⟩
theorem q_dp {K : PySem.W.Frag} {H : Hp} {a : Addr} {q : Rat} (h : SqT K H a [.int q.num, .int (q.den : Nat)]) : Dp K H (.ref a) (encQ q) := .tup h (.cons (.int _) (.cons (.int _) .nil))

/-! ### a heap without one address -/
def rem (H : Hp) (D : Addr) : Hp := fun b => if b = D then Option.none else H b
theorem rem_ne {H : Hp} {D b : Addr} (h : b ≠ D) : rem H D b = H b := if_neg h
theorem rem_at {H : Hp} {D : Addr} : rem H D D = Option.none := if_pos rfl
theorem rem_sub (H : Hp) (D : Addr) : Same (rem H D) H := fun b o e => by
  by_cases h : b = D
  · subst h
    rw [rem_at] at e
    cases e
  · rw [rem_ne h] at e
    exact e
theorem rem_upd (H : Hp) (D : Addr) (o : HO) : rem (upd H D o) D = rem H D := by
  funext b
  by_cases h : b = D
  · subst h
    rw [rem_at, rem_at]
  · rw [rem_ne h, rem_ne h, upd_ne h]
theorem rem_none {H : Hp} {D : Addr} (h : H D = Option.none) : rem H D = H := by
  funext b
  by_cases e : b = D
  · subst e
    rw [rem_at, h]
  · rw [rem_ne e]
theorem rem_same {H H' : Hp} {D : Addr} (h : Same H H') : Same (rem H D) (rem H' D) := fun b o e => by
  by_cases q : b = D
  · subst q
    rw [rem_at] at e
    cases e
  · rw [rem_ne q] at e ⊢
    exact h _ _ e
/-- what stood ahead of D stands in the heap without D -/
theorem same_rem {H0 H : Hp} {D : Addr} (h : Same H0 H) (n : H0 D = Option.none) : Same H0 (rem H D) := fun b o e => by
  rw [rem_ne (ne_of_none e n)]
  exact h _ _ e
theorem rem_lst {K : PySem.W.Frag} {H : Hp} {D a : Addr} {xs : List V} (h : SqT K H a xs) {o : HO} (hD : H D = some o) (ho : ∀ ys, o ≠ .tup ys) (hf : ∀ ob u, o ≠ .frz ob u) : SqT K (rem H D) a xs := by
  rcases h with (h | ⟨ob, h⟩) | h
  · refine .inl (.inl ?_)
    rw [rem_ne (ne_of h hD fun e => ho _ e.symm)]
    exact h
  · refine .inl (.inr ⟨ob, ?_⟩)
    rw [rem_ne (ne_of h hD fun e => hf _ _ e.symm)]
    exact h
  · exact .inr h
theorem rem_q {K : PySem.W.Frag} {H : Hp} {D : Addr} {v : V} {q : Rat} (h : Dp K H v (encQ q)) {ys : List V} (hD : H D = some (.lst ys)) : Dp K (rem H D) v (encQ q) := by
  obtain ⟨a, rfl, hs⟩ := dp_q h
  exact q_dp (rem_lst hs hD (fun _ e => nomatch e) fun _ _ e => nomatch e)
theorem rem_qs {K : PySem.W.Frag} {H : Hp} {D : Addr} {ys : List V} (hD : H D = some (.lst ys)) : ∀ {r : Row} {xs : List V}, DpAll K H xs (encs r) → DpAll K (rem H D) xs (encs r)
  | [], _, .nil => .nil
  | _ :: _, _, .cons a r => .cons (rem_q a hD) (rem_qs hD r)

/-! ### loops over anything -/
theorem for_by {J : It} {n : Nat} {g : TG} {tb : TS} {D : Ends} {σ : L2.St} {H : Hp} (Pv : Nat → L2.St → Hp → Prop) (h0 : Pv 0 σ H)
    (hs : ∀ i σ H, i < n → Pv i σ H → J.go i H ∧ ∀ x H', J.yld i H x H' → g x σ H' fun σ2 H2 => tb { D with nx := Pv (i + 1), ct := Pv (i + 1), bk := D.nx } σ2 H2) (hd : ∀ σ H, Pv n σ H → J.stop n H ∧ D.nx σ H) :
    ∃ W : Nat → Nat → L2.St → Hp → Prop, (∃ m, W 0 m σ H) ∧ ∀ i m σ H, W i m σ H →
      (J.stop i H ∧ D.nx σ H) ∨ (J.go i H ∧ ∃ N : L2.St → Hp → Prop, (∀ σ' H', N σ' H' → ∃ m', m' < m ∧ W (i + 1) m' σ' H') ∧ ∀ x H', J.yld i H x H' → g x σ H' fun σ2 H2 => tb { D with nx := N, ct := N, bk := D.nx } σ2 H2) := by
  refine ⟨fun i m σ H => m = n - i ∧ i ≤ n ∧ Pv i σ H, ⟨n, by simp, Nat.zero_le _, h0⟩, ?_⟩
  rintro i m σ H ⟨rfl, hi, p⟩
  by_cases hlt : i < n
  · obtain ⟨a, b⟩ := hs i σ H hlt p
    exact .inr ⟨a, Pv (i + 1), fun σ' H' p' => ⟨n - (i + 1), by omega, rfl, hlt, p'⟩, b⟩
  · have e : i = n := by omega
    subst e
    exact .inl (hd σ H p)
theorem lc_by {J : It} {n : Nat} {g : TG} {tt : TT} {te : TE} {vs : List Nat} {σ : L2.St} {H1 : Hp} {D : Addr} {Qd : Hp → Prop} (Pv : Nat → Hp → Prop) (h0 : Pv 0 (upd H1 D (.lst [])))
    (hs : ∀ i H, i < n → Pv i H → J.go i H ∧ ∀ x H', J.yld i H x H' → g x (wipe σ vs) H' fun σ2 H2 => wipe σ2 vs = wipe σ vs ∧ tt σ2 H2 fun b H3 =>
      if b = true then te σ2 H3 fun y H4 => ∃ acc, H4 D = some (.lst acc) ∧ acc.length < sizeLine ∧ Pv (i + 1) (upd H4 D (.lst (acc ++ [y]))) else Pv (i + 1) H3) (hd : ∀ H, Pv n H → J.stop n H ∧ Qd H) :
    ∃ W : Nat → Nat → Hp → Prop, (∃ m, W 0 m (upd H1 D (.lst []))) ∧ ∀ i m H, W i m H →
      (J.stop i H ∧ Qd H) ∨ (J.go i H ∧ ∃ Nx : Hp → Prop, (∀ H', Nx H' → ∃ m', m' < m ∧ W (i + 1) m' H') ∧ ∀ x H', J.yld i H x H' → g x (wipe σ vs) H' fun σ2 H2 => wipe σ2 vs = wipe σ vs ∧ tt σ2 H2 fun b H3 =>
        if b = true then te σ2 H3 fun y H4 => ∃ acc, H4 D = some (.lst acc) ∧ acc.length < sizeLine ∧ Nx (upd H4 D (.lst (acc ++ [y]))) else Nx H3) := by
  refine ⟨fun i m H => m = n - i ∧ i ≤ n ∧ Pv i H, ⟨n, by simp, Nat.zero_le _, h0⟩, ?_⟩
  rintro i m H ⟨rfl, hi, p⟩
  by_cases hlt : i < n
  · obtain ⟨a, b⟩ := hs i H hlt p
    exact .inr ⟨a, Pv (i + 1), fun H' p' => ⟨n - (i + 1), by omega, rfl, hlt, p'⟩, b⟩
  · have e : i = n := by omega
    subst e
    exact .inl (hd H p)

/-! ### rules in a comprehension's block: the written part is told -/
section
variable {X : Cx} {K : PySem.W.Frag}
theorem ix_listK (hK : X.K = K) : IxR X (rIxL K) := by
  subst hK
  exact ix_list
theorem ix_tupK (hK : X.K = K) : IxR X (rIxT K) := by
  subst hK
  exact ix_tup
theorem sl_listK (hK : X.K = K) : SlR X (rSlL K) := by
  subst hK
  exact sl_list
theorem op_eqK (hK : X.K = K) (hu : X.A.units + 64 < cLine) : OpR X (compareOp .Eq) (rEqD K) := by
  subst hK
  exact op_eqD hu
theorem call_list_ofK (hK : X.K = K) : CallR X (.type "list") (fun xs H Q => ∃ p ys, xs = [.ref p] ∧ (SqL K H p ys ∨ SqT K H p ys) ∧ ∀ l, H l = none → Q (.ref l) (upd H l (.lst ys))) := by
  subst hK
  exact call_list_of
theorem pi_listK {tg l : Expr} {tl : TE} (hK : X.K = K) (hl : PE X l tl) : PI X tg l (iList K tl) := by
  subst hK
  exact pi_list hl
theorem pg_tupK {es : List Expr} {k : Nat} {t : TGs} {n : Nat} {pos : Pos} (hK : X.K = K) (hc : X.calm = true) (h : PGs X es t)
    (hn : (assignEach es X.env).length = n := by rfl) (hst : (assignEach es X.env).findIdx? (·.1) = none := by rfl) : PG X (.Tuple es k pos) (gTup K n t) := by
  subst hK
  exact pg_tup hc h hn hst
end

/-! ### defs as they stand behind the top -/
structure DefAt (K : PySem.W.Frag) (mg : Str → Option Value) (x : Str) (st : Stmt) : Prop where
  ex : ∃ f fd, FunD K x x (defArgs st) (defBody st) (defScope st) [] [] f fd ∧ mg x = some (.ref f)
section
variable {P : Program} {w : World} {K : PySem.W.Frag} {mg : Str → Option Value} {base : Heap}
abbrev BindOk (x qual : Str) (st : Stmt) (ps : List Str) : Prop := ∀ (kV doc pm : Value) (an : Option Addr) (cdv ct : Value) (us : List Value), us.length = ps.length → bindArgs (PySem.W.fnOf x qual (defArgs st) (defBody st) (defScope st) .none kV doc pm an cdv ct) ⟨us, []⟩ = pure (ps.zip us)
theorem cal_of {x : Str} {st : Stmt} {N ps : List Str} {k : Nat} {sp : Sp} (F : DefAt K mg x st) (S : FnScope N ps (defScope st)) (hb : BindOk x x st ps) (len : ∀ vs H Q E, sp vs H Q E → vs.length = ps.length)
    (hbody : ∀ (f : Addr) (cdv : Value) (A : Around) (outer : List Env) (s : Shared) (H : Hp) (vs : List V) (Q : VK) (E : XK), Room k (A.deeper (envOfC x (defScope st) s.heap.objs.size f cdv)) → sp vs H Q E →
      ∃ t, PSs (cxOf CX0 P w K mg base N x (defScope st) f cdv A outer s H E).nox (defBody st) t ∧ t { nx := fun _ H' => Q .non H', rt := Q } (start N vs) H) : C8.Cal P w K mg base (k + 1) x sp [] := by
  obtain ⟨f, fd, F, g⟩ := F.ex
  refine ⟨f, fd, ps, [], F.ok S len fun cdv A outer s H vs Q E hr hsp => ?_, g, F.kp, F.bindsN hb, .nil⟩
  obtain ⟨t, h1, h2⟩ := hbody f cdv A outer s H vs Q E hr hsp
  exact ⟨t, h1.nox, h2⟩
/-- a def with defaults -/
structure DefAtD (K : PySem.W.Frag) (mg : Str → Option Value) (x : Str) (st : Stmt) (dvs : List V) : Prop where
  ex : ∃ f fd, FunD K x x (defArgs st) (defBody st) (defScope st) dvs [] f fd ∧ mg x = some (.ref f)
abbrev BindOkD (x qual : Str) (st : Stmt) (ps : List Str) (m n j : Nat) : Prop := ∀ (T : Addr) (kV doc pm : Value) (an : Option Addr) (cdv ct : Value) (us its : List Value), us.length = n → its.length = m →
      ∃ k, bindArgs (PySem.W.fnOf x qual (defArgs st) (defBody st) (defScope st) (.ref T) kV doc pm an cdv ct) ⟨us, []⟩ = seqItems? (.ref T) >>= k ∧ k (some its.toArray) = pure (ps.zip (us ++ its.drop j))
theorem calD_of {x : Str} {st : Stmt} {N ps : List Str} {k : Nat} {sp : Sp} {dvs : List V} {n j : Nat} (F : DefAtD K mg x st dvs) (S : FnScope N ps (defScope st)) (hd : dvs ≠ []) (hn : n + (dvs.length - j) = ps.length) (hb : BindOkD x x st ps dvs.length n j) (len : ∀ vs H Q E, sp vs H Q E → vs.length = ps.length)
    (hbody : ∀ (f : Addr) (cdv : Value) (A : Around) (outer : List Env) (s : Shared) (H : Hp) (vs : List V) (Q : VK) (E : XK), Room k (A.deeper (envOfC x (defScope st) s.heap.objs.size f cdv)) → sp vs H Q E →
      ∃ t, PSs (cxOf CX0 P w K mg base N x (defScope st) f cdv A outer s H E).nox (defBody st) t ∧ t { nx := fun _ H' => Q .non H', rt := Q } (start N vs) H) : C8.Cal P w K mg base (k + 1) x sp (dvs.drop j) := by
  obtain ⟨f, fd, F, g⟩ := F.ex
  obtain ⟨ds, rd, bd⟩ := F.binds1 n j hd hn hb
  refine ⟨f, fd, ps, ds, F.ok S len fun cdv A outer s H vs Q E hr hsp => ?_, g, F.kp, bd, rd⟩
  obtain ⟨t, h1, h2⟩ := hbody f cdv A outer s H vs Q E hr hsp
  exact ⟨t, h1.nox, h2⟩
end
end Np
end
section
set_option linter.all false
set_option maxRecDepth 100000
set_option maxHeartbeats 4000000
/-! The ratios' walk. -/
namespace Np
open PySem PySem.Spec PyProof.Rows L2
/-- the module's names that a body reads -/
structure Txt (K : PySem.W.Frag) (mg : Str → Option Value) (aN aO : Addr) : Prop where
  abs : mg "abs" = none
  len : mg "len" = none
  isinstance : mg "isinstance" = none
  int : mg "int" = none
  bool : mg "bool" = none
  str : mg "str" = none
  list : mg "list" = none
  tuple : mg "tuple" = none
  dict : mg "dict" = none
  all : mg "all" = none
  max : mg "max" = none
  range : mg "range" = none
  enumerate : mg "enumerate" = none
  zip : mg "zip" = none
  NOUGHT : ∃ u, mg "NOUGHT" = some u ∧ RelV (.ref aN) u
  ONE : ∃ u, mg "ONE" = some u ∧ RelV (.ref aO) u
  sN : ∀ H, SqT K H aN [.int 0, .int 1]
  sO : ∀ H, SqT K H aO [.int 1, .int 1]
  MOST_WIDE_fits : ∃ u, mg "MOST_WIDE_fits" = some u ∧ RelV (.int 12) u
  MOST_WIDE_planes : ∃ u, mg "MOST_WIDE_planes" = some u ∧ RelV (.int 12) u
  MOST_WIDE_desk : ∃ u, mg "MOST_WIDE_desk" = some u ∧ RelV (.int 12) u
  MOST_FIGURES_texts : ∃ u, mg "MOST_FIGURES_texts" = some u ∧ RelV (.int 60) u
  MOST_FIGURES_desk : ∃ u, mg "MOST_FIGURES_desk" = some u ∧ RelV (.int 6) u
  MOST_NAME : ∃ u, mg "MOST_NAME" = some u ∧ RelV (.int 8) u
  FIGURES : ∃ u, mg "FIGURES" = some u ∧ RelV (.str "0123456789") u
  LETTERS : ∃ u, mg "LETTERS" = some u ∧ RelV (.str "abcdefghijklmnopqrstuvwxyz") u
theorem Txt.nought {K : PySem.W.Frag} {mg : Str → Option Value} {aN aO : Addr} (T : Txt K mg aN aO) (H : Hp) : Dp K H (.ref aN) (encQ 0) := q_dp (T.sN H)
theorem Txt.one {K : PySem.W.Frag} {mg : Str → Option Value} {aN aO : Addr} (T : Txt K mg aN aO) (H : Hp) : Dp K H (.ref aO) (encQ 1) := q_dp (T.sO H)

/-- it hands back a ratio and leaves all as it was -/
def GiveQ (K : PySem.W.Frag) (H : Hp) (Q : VK) (d : PyData) : Prop := ∀ H' v, Same H H' → Dp K H' v d → Q v H'
def spShared : Sp := fun vs H Q _ => ∃ a b : Int, vs = [.int a, .int b] ∧ Q (.int (Int.gcd a b : Nat)) H
def spRatio (K : PySem.W.Frag) : Sp := fun vs H Q _ => ∃ a b : Int, vs = [.int a, .int b] ∧ 0 < b ∧ a.natAbs < 2 ^ 3841 ∧ b.natAbs < 2 ^ 3841 ∧ GiveQ K H Q (encQ (Rat.divInt a b))
def spOp (K : PySem.W.Frag) (f : Rat → Rat → Rat) (C : Rat → Prop) : Sp := fun vs H Q _ => ∃ x y a b, vs = [x, y] ∧ Dp K H x (encQ a) ∧ Dp K H y (encQ b) ∧ Sz a ∧ Sz b ∧ C b ∧ GiveQ K H Q (encQ (f a b))
abbrev spPlus (K : PySem.W.Frag) : Sp := spOp K (fun a b => a + b) fun _ => True
abbrev spMinus (K : PySem.W.Frag) : Sp := spOp K (fun a b => a - b) fun _ => True
abbrev spTimes (K : PySem.W.Frag) : Sp := spOp K (fun a b => a * b) fun _ => True
abbrev spOver (K : PySem.W.Frag) : Sp := spOp K (fun a b => a / b) fun b => 0 < b
def spWhole : Sp := fun vs H Q _ => ∃ i : Int, vs = [.int i] ∧ Q (.bl true) H
/-- of a pair of whole numbers -/
def spIsRatio (K : PySem.W.Frag) : Sp := fun vs H Q _ => ∃ (v : V) (a b : Int), vs = [v] ∧ (∃ p, v = .ref p ∧ SqT K H p [.int a, .int b]) ∧ Q (.bl (decide (0 < b) && decide (Int.gcd a b = 1))) H
abbrev N_is_whole : List Str := ["thing"]
theorem sc_is_whole : FnScope ["thing"] ["thing"] (defScope s_is_whole) := ⟨rfl, rfl, rfl, by decide +kernel, rfl, by decide +kernel, by decide +kernel⟩
theorem b_is_whole : BindOk "is_whole" "is_whole" s_is_whole ["thing"] := fun _ _ _ _ _ _ us hl => match us, hl with | [_], _ => rfl
abbrev N_is_ratio : List Str := ["thing"]
theorem sc_is_ratio : FnScope ["thing"] ["thing"] (defScope s_is_ratio) := ⟨rfl, rfl, rfl, by decide +kernel, rfl, by decide +kernel, by decide +kernel⟩
theorem b_is_ratio : BindOk "is_ratio" "is_ratio" s_is_ratio ["thing"] := fun _ _ _ _ _ _ us hl => match us, hl with | [_], _ => rfl
abbrev N_shared : List Str := ["one", "other", "rest"]
theorem sc_shared : FnScope ["one", "other", "rest"] ["one", "other"] (defScope s_shared) := ⟨rfl, rfl, rfl, by decide +kernel, rfl, by decide +kernel, by decide +kernel⟩
theorem b_shared : BindOk "shared" "shared" s_shared ["one", "other"] := fun _ _ _ _ _ _ us hl => match us, hl with | [_, _], _ => rfl
abbrev N_ratio : List Str := ["top", "bottom", "by"]
theorem sc_ratio : FnScope ["top", "bottom", "by"] ["top", "bottom"] (defScope s_ratio) := ⟨rfl, rfl, rfl, by decide +kernel, rfl, by decide +kernel, by decide +kernel⟩
theorem b_ratio : BindOk "ratio" "ratio" s_ratio ["top", "bottom"] := fun _ _ _ _ _ _ us hl => match us, hl with | [_, _], _ => rfl
abbrev N_plus : List Str := ["one", "other"]
theorem sc_plus : FnScope ["one", "other"] ["one", "other"] (defScope s_plus) := ⟨rfl, rfl, rfl, by decide +kernel, rfl, by decide +kernel, by decide +kernel⟩
theorem b_plus : BindOk "plus" "plus" s_plus ["one", "other"] := fun _ _ _ _ _ _ us hl => match us, hl with | [_, _], _ => rfl
abbrev N_minus : List Str := ["one", "other"]
theorem sc_minus : FnScope ["one", "other"] ["one", "other"] (defScope s_minus) := ⟨rfl, rfl, rfl, by decide +kernel, rfl, by decide +kernel, by decide +kernel⟩
theorem b_minus : BindOk "minus" "minus" s_minus ["one", "other"] := fun _ _ _ _ _ _ us hl => match us, hl with | [_, _], _ => rfl
abbrev N_times : List Str := ["one", "other"]
theorem sc_times : FnScope ["one", "other"] ["one", "other"] (defScope s_times) := ⟨rfl, rfl, rfl, by decide +kernel, rfl, by decide +kernel, by decide +kernel⟩
theorem b_times : BindOk "times" "times" s_times ["one", "other"] := fun _ _ _ _ _ _ us hl => match us, hl with | [_, _], _ => rfl
abbrev N_over : List Str := ["one", "other"]
theorem sc_over : FnScope ["one", "other"] ["one", "other"] (defScope s_over) := ⟨rfl, rfl, rfl, by decide +kernel, rfl, by decide +kernel, by decide +kernel⟩
theorem b_over : BindOk "over" "over" s_over ["one", "other"] := fun _ _ _ _ _ _ us hl => match us, hl with | [_, _], _ => rfl
section
variable {P : Program} {w : World} {K : PySem.W.Frag} {mg : Str → Option Value} {base : Heap} {aN aO : Addr}
theorem k_shared (T : Txt K mg aN aO) (F : DefAt K mg "shared" s_shared) : C8.Cal P w K mg base 1 "shared" spShared [] := by
  refine cal_of F sc_shared b_shared (fun vs H Q E h => ?_) (fun f cdv A outer s H vs Q E hr h => ?_)
  · obtain ⟨a, b, rfl, _⟩ := h
    rfl
  · obtain ⟨a, b, rfl, hQ⟩ := h
    refine ⟨_, (pss_cons (ps_set (i := 0) sc_shared.nd rfl (Or.inl rfl) (pe_callB call_abs rfl T.abs (by decide +kernel) (pa_cons (pv 0) pa_nil)))
    (pss_cons (ps_set (i := 1) sc_shared.nd rfl (Or.inl rfl) (pe_callB call_abs rfl T.abs (by decide +kernel) (pa_cons (pv 1) pa_nil)))
    (pss_cons (ps_while PassesOwn.never (pt_cmpR op_ne (pv 1) pe_int (nomark _))
    (pss_cons (ps_set (i := 2) sc_shared.nd rfl (Or.inl rfl) (pe_op op_mod (pv 0) (pv 1)))
    (pss_cons (ps_set (i := 0) sc_shared.nd rfl (Or.inl rfl) (pv 1))
    (pss_one (ps_set (i := 1) sc_shared.nd rfl (Or.inl rfl) (pv 2))))))
    (pss_one (ps_ret (pv 0)))))), ?_⟩
    refine ⟨_, rfl, a, rfl, _, rfl, b, rfl, ?_⟩
    refine while_by (fun σ H' => H' = H ∧ ∃ (x y : Int) (r : Option V), σ = [some (.int x), some (.int y), r] ∧ 0 ≤ x ∧ 0 ≤ y ∧ Int.gcd x y = Int.gcd a b) (fun σ _ => match σ with
      | [_, some (.int y), _] => y.toNat
      | _ => 0) ⟨rfl, (if a < 0 then -a else a), (if b < 0 then -b else b), none, rfl, by split <;> omega, by split <;> omega, ?_⟩ ?_ ?_
    · have ea : (if a < 0 then -a else a) = (a.natAbs : Int) := by split <;> omega
      have eb : (if b < 0 then -b else b) = (b.natAbs : Int) := by split <;> omega
      rw [ea, eb]
      rfl
    · rintro σ H' ⟨rfl, x, y, r, rfl, hx, hy, hg⟩
      refine ⟨_, rfl, rfl, _, rfl, ?_⟩
      by_cases e : y = 0
      · subst e
        show if (!decide (V.int 0 = V.int 0)) = true then _ else _
        rw [decide_eq_true rfl]
        refine iteF ?_
        refine ⟨_, rfl, ?_⟩
        have e2 : x = ((Int.gcd a b : Nat) : Int) := by
          rw [← hg, Int.gcd_zero_right]
          omega
        rw [e2]
        exact hQ
      · have e1 : (!decide (V.int y = V.int 0)) = true := by
          rw [decide_eq_false (fun q => e (by cases q; rfl))]
          rfl
        rw [e1]
        refine iteT ?_
        refine ⟨_, rfl, _, rfl, _, _, rfl, rfl, (by omega), _, rfl, _, rfl, ⟨rfl, y, x % y, _, rfl, hy, Int.emod_nonneg _ e, ?_⟩, ?_⟩
        · rw [gcd_step x y (by omega)]
          exact hg
        · show (x % y).toNat < y.toNat
          have := Int.emod_lt_of_pos x (show 0 < y by omega)
          have := Int.emod_nonneg x e
          omega
    · rintro σ H' R R' hRR ⟨v, h1, h2⟩
      obtain ⟨h3, k, h4, h5⟩ := h2
      exact ⟨v, h1, h3, k, h4, hRR _ _ h5⟩
theorem k_ratio (T : Txt K mg aN aO) (F : DefAt K mg "ratio" s_ratio) (c_shared : C8.Cal P w K mg base 1 "shared" spShared []) : C8.Cal P w K mg base 2 "ratio" (spRatio K) [] := by
  refine cal_of F sc_ratio b_ratio (fun vs H Q E h => ?_) (fun f cdv A outer s H vs Q E hr h => ?_)
  · obtain ⟨a, b, rfl, _⟩ := h
    rfl
  · obtain ⟨a, b, rfl, hb, ha2, hb2, hQ⟩ := h
    refine ⟨_, (pss_cons (ps_if (pt_cmpR op_eq (pv 1) pe_int (nomark _)) (pss_one ps_never)
    pss_nil)
    (pss_cons (ps_set (i := 2) sc_ratio.nd rfl (Or.inl rfl) (C8.pe_c c_shared hr (by decide) rfl (pa_cons (pv 0) (pa_cons (pv 1) pa_nil))))
    (pss_cons (ps_if (pt_cmpR op_lt (pv 1) pe_int (nomark _)) (pss_one (ps_set (i := 2) sc_ratio.nd rfl (Or.inl rfl) (pe_un un_neg (pv 2))))
    pss_nil)
    (pss_one (ps_ret (pe_tup (pa_cons (pe_op op_fdivW (pv 0) (pv 2)) (pa_cons (pe_op op_fdivW (pv 1) (pv 2)) pa_nil)))))))), ?_⟩
    refine ⟨_, rfl, rfl, _, rfl, ?_⟩
    have e0 : decide (V.int b = V.int 0) = false := decide_eq_false fun q => by
      cases q
      omega
    rw [e0]
    refine iteF ?_
    refine ⟨_, rfl, _, rfl, a, b, rfl, ?_⟩
    refine ⟨_, rfl, _, _, rfl, rfl, _, rfl, ?_⟩
    rw [decide_eq_false (by omega)]
    refine iteF ?_
    have hg : 0 < Int.gcd a b := Int.gcd_pos_of_ne_zero_right _ (by omega)
    have hg2 : ((Int.gcd a b : Nat) : Int).natAbs < 2 ^ 3841 := by
      have h1 : Int.gcd a b ≤ b.natAbs := Nat.le_of_dvd (by omega) (Nat.gcd_dvd_right _ _)
      show Int.gcd a b < _
      omega
    have hd : CDivW a ((Int.gcd a b : Nat) : Int) := wide_div (by omega) hg2 (by decide) (by decide)
    have hd2 : CDivW b ((Int.gcd a b : Nat) : Int) := wide_div (by omega) hg2 (by decide) (by decide)
    refine ⟨_, rfl, _, rfl, _, _, rfl, rfl, hd, _, rfl, _, rfl, _, _, rfl, rfl, hd2, (by show 2 ≤ sizeLine; decide), fun p hp => ?_⟩
    refine hQ _ _ (same_new hp) (q_dp (SqT.of ?_))
    rw [upd_same, ratio_num hb, ratio_den hb]
theorem k_plus (T : Txt K mg aN aO) (F : DefAt K mg "plus" s_plus) (c_ratio : C8.Cal P w K mg base 2 "ratio" (spRatio K) []) : C8.Cal P w K mg base 3 "plus" (spPlus K) [] := by
  refine cal_of F sc_plus b_plus (fun vs H Q E h => ?_) (fun f cdv A outer s H vs Q E hr h => ?_)
  · obtain ⟨x, y, a, b, rfl, _⟩ := h
    rfl
  · obtain ⟨x, y, a, b, rfl, hx, hy, sa, sb, _, hQ⟩ := h
    refine ⟨_, (pss_one (ps_ret (C8.pe_c c_ratio hr (by decide) rfl (pa_cons (pe_op op_add (pe_op op_mulW (pe_ix ix_tup (pv 0) pe_int (fun _ _ => rfl)) (pe_ix ix_tup (pv 1) pe_int (fun _ _ => rfl))) (pe_op op_mulW (pe_ix ix_tup (pv 1) pe_int (fun _ _ => rfl)) (pe_ix ix_tup (pv 0) pe_int (fun _ _ => rfl)))) (pa_cons (pe_op op_mulW (pe_ix ix_tup (pv 0) pe_int (fun _ _ => rfl)) (pe_ix ix_tup (pv 1) pe_int (fun _ _ => rfl))) pa_nil))))), ?_⟩
    obtain ⟨p, rfl, tp⟩ := dp_q hx
    obtain ⟨q, rfl, tq⟩ := dp_q hy
    refine ⟨_, rfl, p, _, _, _, rfl, rfl, tp, rfl, _, rfl, q, _, _, _, rfl, rfl, tq, rfl, _, _, rfl, rfl, wide_mul sa.n sb.d (by decide) (by decide) (by decide), ?_⟩
    refine ⟨_, rfl, q, _, _, _, rfl, rfl, tq, rfl, _, rfl, p, _, _, _, rfl, rfl, tp, rfl, _, _, rfl, rfl, wide_mul sb.n sa.d (by decide) (by decide) (by decide), _, _, rfl, rfl, ?_⟩
    refine ⟨_, rfl, p, _, _, _, rfl, rfl, tp, rfl, _, rfl, q, _, _, _, rfl, rfl, tq, rfl, _, _, rfl, rfl, wide_mul sa.d sb.d (by decide) (by decide) (by decide), ?_⟩
    refine ⟨_, _, rfl, Int.mul_pos (den_pos a) (den_pos b), (cross_lt sa.n sb.d sb.n sa.d).1, cross_one sa.d sb.d, ?_⟩
    rw [← add_rat]
    exact hQ
theorem k_minus (T : Txt K mg aN aO) (F : DefAt K mg "minus" s_minus) (c_ratio : C8.Cal P w K mg base 2 "ratio" (spRatio K) []) : C8.Cal P w K mg base 3 "minus" (spMinus K) [] := by
  refine cal_of F sc_minus b_minus (fun vs H Q E h => ?_) (fun f cdv A outer s H vs Q E hr h => ?_)
  · obtain ⟨x, y, a, b, rfl, _⟩ := h
    rfl
  · obtain ⟨x, y, a, b, rfl, hx, hy, sa, sb, hc, hQ⟩ := h
    refine ⟨_, (pss_one (ps_ret (C8.pe_c c_ratio hr (by decide) rfl (pa_cons (pe_op op_sub (pe_op op_mulW (pe_ix ix_tup (pv 0) pe_int (fun _ _ => rfl)) (pe_ix ix_tup (pv 1) pe_int (fun _ _ => rfl))) (pe_op op_mulW (pe_ix ix_tup (pv 1) pe_int (fun _ _ => rfl)) (pe_ix ix_tup (pv 0) pe_int (fun _ _ => rfl)))) (pa_cons (pe_op op_mulW (pe_ix ix_tup (pv 0) pe_int (fun _ _ => rfl)) (pe_ix ix_tup (pv 1) pe_int (fun _ _ => rfl))) pa_nil))))), ?_⟩
    obtain ⟨p, rfl, tp⟩ := dp_q hx
    obtain ⟨q, rfl, tq⟩ := dp_q hy
    refine ⟨_, rfl, p, _, _, _, rfl, rfl, tp, rfl, _, rfl, q, _, _, _, rfl, rfl, tq, rfl, _, _, rfl, rfl, wide_mul sa.n sb.d (by decide) (by decide) (by decide), ?_⟩
    refine ⟨_, rfl, q, _, _, _, rfl, rfl, tq, rfl, _, rfl, p, _, _, _, rfl, rfl, tp, rfl, _, _, rfl, rfl, wide_mul sb.n sa.d (by decide) (by decide) (by decide), _, _, rfl, rfl, ?_⟩
    refine ⟨_, rfl, p, _, _, _, rfl, rfl, tp, rfl, _, rfl, q, _, _, _, rfl, rfl, tq, rfl, _, _, rfl, rfl, wide_mul sa.d sb.d (by decide) (by decide) (by decide), ?_⟩
    refine ⟨_, _, rfl, Int.mul_pos (den_pos a) (den_pos b), (cross_lt sa.n sb.d sb.n sa.d).2, cross_one sa.d sb.d, ?_⟩
    rw [← sub_rat]
    exact hQ
theorem k_times (T : Txt K mg aN aO) (F : DefAt K mg "times" s_times) (c_ratio : C8.Cal P w K mg base 2 "ratio" (spRatio K) []) : C8.Cal P w K mg base 3 "times" (spTimes K) [] := by
  refine cal_of F sc_times b_times (fun vs H Q E h => ?_) (fun f cdv A outer s H vs Q E hr h => ?_)
  · obtain ⟨x, y, a, b, rfl, _⟩ := h
    rfl
  · obtain ⟨x, y, a, b, rfl, hx, hy, sa, sb, hc, hQ⟩ := h
    refine ⟨_, (pss_one (ps_ret (C8.pe_c c_ratio hr (by decide) rfl (pa_cons (pe_op op_mulW (pe_ix ix_tup (pv 0) pe_int (fun _ _ => rfl)) (pe_ix ix_tup (pv 1) pe_int (fun _ _ => rfl))) (pa_cons (pe_op op_mulW (pe_ix ix_tup (pv 0) pe_int (fun _ _ => rfl)) (pe_ix ix_tup (pv 1) pe_int (fun _ _ => rfl))) pa_nil))))), ?_⟩
    obtain ⟨p, rfl, tp⟩ := dp_q hx
    obtain ⟨q, rfl, tq⟩ := dp_q hy
    refine ⟨_, rfl, p, _, _, _, rfl, rfl, tp, rfl, _, rfl, q, _, _, _, rfl, rfl, tq, rfl, _, _, rfl, rfl, wide_mul sa.n sb.n (by decide) (by decide) (by decide), ?_⟩
    refine ⟨_, rfl, p, _, _, _, rfl, rfl, tp, rfl, _, rfl, q, _, _, _, rfl, rfl, tq, rfl, _, _, rfl, rfl, wide_mul sa.d sb.d (by decide) (by decide) (by decide), ?_⟩
    refine ⟨_, _, rfl, Int.mul_pos (den_pos a) (den_pos b), cross_one sa.n sb.n, cross_one sa.d sb.d, ?_⟩
    rw [← mul_rat]
    exact hQ
theorem k_over (T : Txt K mg aN aO) (F : DefAt K mg "over" s_over) (c_ratio : C8.Cal P w K mg base 2 "ratio" (spRatio K) []) : C8.Cal P w K mg base 3 "over" (spOver K) [] := by
  refine cal_of F sc_over b_over (fun vs H Q E h => ?_) (fun f cdv A outer s H vs Q E hr h => ?_)
  · obtain ⟨x, y, a, b, rfl, _⟩ := h
    rfl
  · obtain ⟨x, y, a, b, rfl, hx, hy, sa, sb, hc, hQ⟩ := h
    refine ⟨_, (pss_one (ps_ret (C8.pe_c c_ratio hr (by decide) rfl (pa_cons (pe_op op_mulW (pe_ix ix_tup (pv 0) pe_int (fun _ _ => rfl)) (pe_ix ix_tup (pv 1) pe_int (fun _ _ => rfl))) (pa_cons (pe_op op_mulW (pe_ix ix_tup (pv 0) pe_int (fun _ _ => rfl)) (pe_ix ix_tup (pv 1) pe_int (fun _ _ => rfl))) pa_nil))))), ?_⟩
    obtain ⟨p, rfl, tp⟩ := dp_q hx
    obtain ⟨q, rfl, tq⟩ := dp_q hy
    refine ⟨_, rfl, p, _, _, _, rfl, rfl, tp, rfl, _, rfl, q, _, _, _, rfl, rfl, tq, rfl, _, _, rfl, rfl, wide_mul sa.n sb.d (by decide) (by decide) (by decide), ?_⟩
    refine ⟨_, rfl, p, _, _, _, rfl, rfl, tp, rfl, _, rfl, q, _, _, _, rfl, rfl, tq, rfl, _, _, rfl, rfl, wide_mul sa.d sb.n (by decide) (by decide) (by decide), ?_⟩
    refine ⟨_, _, rfl, Int.mul_pos (den_pos a) (num_pos hc), cross_one sa.n sb.d, cross_one sa.d sb.n, ?_⟩
    rw [← div_rat]
    exact hQ
/-! ### looks -/
theorem ty_tup {H : Hp} {a : Addr} {xs : List V} (h : SqT K H a xs) : TyX K H (.ref a) (.type "tuple") := by
  rcases h with (h | ⟨o, h⟩) | ⟨o, its, n, h1, h2, _⟩
  · exact .base (.tup h)
  · exact .fTuple h
  · exact .kTuple h1 h2
theorem ty_lst {H : Hp} {a : Addr} {xs : List V} (h : SqL K H a xs) : TyX K H (.ref a) (.type "list") := by
  rcases h with (h | ⟨o, h⟩) | ⟨o, its, n, h1, h2, _⟩
  · exact .base (.lst h)
  · exact .base (.frz h)
  · exact .kList h1 h2
theorem kit_b {a b : String} {r : Bool} (h : kitB a b = some r) : PySem.W.kitOne K (.type a) (.type b) = some r := h
theorem k_is_whole (T : Txt K mg aN aO) (F : DefAt K mg "is_whole" s_is_whole) : C8.Cal P w K mg base 1 "is_whole" spWhole [] := by
  refine cal_of F sc_is_whole b_is_whole (fun vs H Q E h => ?_) (fun f cdv A outer s H vs Q E hr h => ?_)
  · obtain ⟨i, rfl, _⟩ := h
    rfl
  · obtain ⟨i, rfl, hQ⟩ := h
    refine ⟨_, (pss_one (ps_ret (pe_and (pe_callB call_isi rfl T.isinstance (by decide +kernel) (pa_cons (pv 0) (pa_cons (pe_bltn (v := .ty "int") (u := .type "int") rfl T.int (by decide +kernel) rfl) pa_nil))) (pe_one (pe_not (pe_callB call_isi rfl T.isinstance (by decide +kernel) (pa_cons (pv 0) (pa_cons (pe_bltn (v := .ty "bool") (u := .type "bool") rfl T.bool (by decide +kernel) rfl) pa_nil)))))))), ?_⟩
    refine ⟨_, rfl, _, _, _, _, true, rfl, .ty "int", .base (.int i), kit_b (by decide +kernel), true, rfl, iteT ?_⟩
    exact ⟨_, rfl, _, _, _, _, false, rfl, .ty "bool", .base (.int i), kit_b (by decide +kernel), false, rfl, hQ⟩
theorem k_is_ratio (T : Txt K mg aN aO) (F : DefAt K mg "is_ratio" s_is_ratio) (c_is_whole : C8.Cal P w K mg base 1 "is_whole" spWhole []) (c_shared : C8.Cal P w K mg base 1 "shared" spShared []) : C8.Cal P w K mg base 2 "is_ratio" (spIsRatio K) [] := by
  refine cal_of F sc_is_ratio b_is_ratio (fun vs H Q E h => ?_) (fun f cdv A outer s H vs Q E hr h => ?_)
  · obtain ⟨v, a, b, rfl, _⟩ := h
    rfl
  · obtain ⟨v, a, b, rfl, ⟨p, rfl, tp⟩, hQ⟩ := h
    refine ⟨_, (pss_cons (ps_if (PW.pt (pw_or (pt_not (pt_val (pe_callB call_isi rfl T.isinstance (by decide +kernel) (pa_cons (pv 0) (pa_cons (pe_bltn (v := .ty "tuple") (u := .type "tuple") rfl T.tuple (by decide +kernel) rfl) pa_nil))))) (pw_or (pt_cmpR op_ne (pe_callB call_len_seq rfl T.len (by decide +kernel) (pa_cons (pv 0) pa_nil)) pe_int (nomark _)) (pw_or (pt_not (pt_val (C8.pe_c c_is_whole hr (by decide) rfl (pa_cons (pe_ix ix_tup (pv 0) pe_int (fun _ _ => rfl)) pa_nil)))) (pw_or1 (pt_not (pt_val (C8.pe_c c_is_whole hr (by decide) rfl (pa_cons (pe_ix ix_tup (pv 0) pe_int (fun _ _ => rfl)) pa_nil))))))))) (pss_one (ps_ret pe_bl))
    pss_nil)
    (pss_one (ps_ret (pe_and (pe_cmpR op_gt (pe_ix ix_tup (pv 0) pe_int (fun _ _ => rfl)) pe_int (nomark _)) (pe_one (pe_cmpR op_eq (C8.pe_c c_shared hr (by decide) rfl (pa_cons (pe_ix ix_tup (pv 0) pe_int (fun _ _ => rfl)) (pa_cons (pe_ix ix_tup (pv 0) pe_int (fun _ _ => rfl)) pa_nil))) pe_int (nomark _))))))), ?_⟩
    refine ⟨_, rfl, _, _, _, _, true, rfl, .ty "tuple", ty_tup tp, kit_b (by decide +kernel), true, rfl, iteF ?_⟩
    refine ⟨_, rfl, p, _, rfl, .inr tp, rfl, _, rfl, ?_⟩
    rw [show (!decide (V.int (([V.int a, V.int b] : List V).length : Nat) = V.int 2)) = false from rfl]
    refine iteF ?_
    refine ⟨_, rfl, p, _, _, _, rfl, rfl, tp, rfl, _, rfl, true, rfl, iteF ?_⟩
    refine ⟨_, rfl, p, _, _, _, rfl, rfl, tp, rfl, _, rfl, true, rfl, iteF ?_⟩
    refine ⟨_, rfl, p, _, _, _, rfl, rfl, tp, rfl, _, _, rfl, rfl, _, rfl, ?_⟩
    by_cases hb : 0 < b
    · rw [decide_eq_true hb] at hQ ⊢
      refine iteT ?_
      refine ⟨_, rfl, p, _, _, _, rfl, rfl, tp, rfl, _, rfl, p, _, _, _, rfl, rfl, tp, rfl, a, b, rfl, rfl, ?_⟩
      have e : decide (V.int ((Int.gcd a b : Nat) : Int) = V.int 1) = decide (Int.gcd a b = 1) := by
        by_cases h1 : Int.gcd a b = 1
        · rw [h1]
          rfl
        · rw [decide_eq_false h1, decide_eq_false fun q => h1 (by have := V.int.inj q; omega)]
      rw [e]
      rw [Bool.true_and] at hQ
      exact hQ
    · rw [decide_eq_false hb] at hQ ⊢
      exact iteF hQ
theorem isRatio_of (q : Rat) : (decide (0 < ((q.den : Nat) : Int)) && decide (Int.gcd q.num (q.den : Nat) = 1)) = true := by
  rw [decide_eq_true (den_pos q), decide_eq_true (show Int.gcd q.num (q.den : Nat) = 1 from q.reduced)]
  rfl
end
end Np
end
section
set_option linter.all false
set_option maxRecDepth 100000
set_option maxHeartbeats 4000000
/-! The rows' walk. -/
namespace Np
open PySem PySem.Spec PyProof.Rows L2
/-- a new list of these data is handed back, all else is as it was -/
def GiveL (K : PySem.W.Frag) (H : Hp) (Q : VK) (ds : List PyData) : Prop := ∀ H' p xs, Same H H' → H p = Option.none → H' p = some (.lst xs) → DpAll K H' xs ds → Q (.ref p) H'
theorem eqv_q (a b : Rat) : PyData.eqv (encQ a) (encQ b) = decide (a = b) := by
  have e : PyData.eqv (encQ a) (encQ b) = (a.num == b.num && (((a.den : Nat) : Int) == ((b.den : Nat) : Int) && true)) := by
    unfold encQ
    simp only [PyData.eqv, PyData.eqvAll]
  rw [e, Bool.and_true]
  by_cases h : a = b
  · subst h
    rw [decide_eq_true rfl, beq_self_eq_true, beq_self_eq_true]
    rfl
  · rw [decide_eq_false h]
    cases h1 : a.num == b.num with
    | false => rfl
    | true =>
      cases h2 : ((a.den : Nat) : Int) == ((b.den : Nat) : Int) with
      | false => rfl
      | true =>
        have e1 := eq_of_beq h1
        have e2 := eq_of_beq h2
        exact absurd (Rat.ext e1 (by omega)) h
theorem shaped_q (a : Rat) : SeqAt.shaped (encQ a) = true := rfl
theorem encs_get {r : Row} {i : Nat} {d : PyData} (h : (encs r)[i]? = some d) : ∃ q, r[i]? = some q ∧ d = encQ q := by
  unfold encs at h
  rw [List.getElem?_map] at h
  cases e : r[i]? with
  | none =>
    rw [e] at h
    cases h
  | some q =>
    rw [e] at h
    exact ⟨q, rfl, (Option.some.inj h).symm⟩
theorem len_small {n : Nat} (h : n ≤ 4096) : n < sizeLine := Nat.lt_of_le_of_lt h (by decide)
def spStill (K : PySem.W.Frag) : Sp := fun vs H Q _ => ∃ v r, vs = [v] ∧ Dp K H v (encR r) ∧ r.length ≤ 4096 ∧ ∀ H', Same H H' → Q (.bl (still r)) H'
def spScaled (K : PySem.W.Frag) : Sp := fun vs H Q _ => ∃ v u r q, vs = [v, u] ∧ Dp K H v (encR r) ∧ Dp K H u (encQ q) ∧ r.length ≤ 4096 ∧ Sz q ∧ (∀ x, x ∈ r → Sz x) ∧ GiveL K H Q (encs (scaled r q))
def spTaken (K : PySem.W.Frag) : Sp := fun vs H Q _ => ∃ v u a b, vs = [v, u] ∧ Dp K H v (encR a) ∧ Dp K H u (encR b) ∧ a.length ≤ 4096 ∧ a.length = b.length ∧ (∀ x, x ∈ a → Sz x) ∧ (∀ x, x ∈ b → Sz x) ∧ GiveL K H Q (encs (taken a b))
def spDot3 (K : PySem.W.Frag) : Sp := fun vs H Q _ => ∃ x y z a b c, vs = [x, y, z] ∧ Dp K H x (encR a) ∧ Dp K H y (encR b) ∧ Dp K H z (encR c) ∧ a.length ≤ 4096 ∧ a.length = b.length ∧ a.length = c.length ∧ DotOk a b c 0 ∧ GiveQ K H Q (encQ (dot3 a b c))
def spDot2 (K : PySem.W.Frag) : Sp := fun vs H Q _ => ∃ x y a b, vs = [x, y, .non] ∧ Dp K H x (encR a) ∧ Dp K H y (encR b) ∧ a.length ≤ 4096 ∧ a.length = b.length ∧ Dot2Ok a b 0 ∧ GiveQ K H Q (encQ (dot2 a b))
def spDot (K : PySem.W.Frag) : Sp := fun vs H Q E => spDot3 K vs H Q E ∨ spDot2 K vs H Q E
abbrev N_is_still : List Str := ["row", "one"]
theorem sc_is_still : FnScope ["row", "one"] ["row"] (defScope s_is_still) := ⟨rfl, rfl, rfl, by decide +kernel, rfl, by decide +kernel, by decide +kernel⟩
theorem b_is_still : BindOk "is_still" "is_still" s_is_still ["row"] := fun _ _ _ _ _ _ us hl => match us, hl with | [_], _ => rfl
abbrev N_scaled : List Str := ["row", "by", "one"]
theorem sc_scaled : FnScope ["row", "by", "one"] ["row", "by"] (defScope s_scaled) := ⟨rfl, rfl, rfl, by decide +kernel, rfl, by decide +kernel, by decide +kernel⟩
theorem b_scaled : BindOk "scaled" "scaled" s_scaled ["row", "by"] := fun _ _ _ _ _ _ us hl => match us, hl with | [_, _], _ => rfl
abbrev N_taken : List Str := ["one", "other", "mine", "its"]
theorem sc_taken : FnScope ["one", "other", "mine", "its"] ["one", "other"] (defScope s_taken) := ⟨rfl, rfl, rfl, by decide +kernel, rfl, by decide +kernel, by decide +kernel⟩
theorem b_taken : BindOk "taken" "taken" s_taken ["one", "other"] := fun _ _ _ _ _ _ us hl => match us, hl with | [_, _], _ => rfl
section
variable {P : Program} {w : World} {K : PySem.W.Frag} {mg : Str → Option Value} {base : Heap} {aN aO : Addr}
theorem k_is_still (T : Txt K mg aN aO) (F : DefAt K mg "is_still" s_is_still) : C8.Cal P w K mg base 1 "is_still" (spStill K) [] := by
  refine cal_of F sc_is_still b_is_still (fun vs H Q E h => ?_) (fun f cdv A outer s H vs Q E hr h => ?_)
  · obtain ⟨v, r, rfl, _⟩ := h
    rfl
  · obtain ⟨v, r, rfl, hv, hl, hQ⟩ := h
    obtain ⟨a, xs, rfl, hs, hd⟩ := dp_list hv
    have hlen := hd.length
    rw [encs, List.length_map] at hlen
    refine ⟨_, (pss_one (ps_ret (pe_callB (cr_all rfl) rfl T.all (by decide +kernel) (pa_cons (pe_lc (own := [("one", 1)]) rfl sc_is_still.nd (pi_list (pv 0)) (blkOk_by (own := [("one", 1)]) (N := N_is_still) (sc := defScope s_is_still) (by decide +kernel)) (fun _ _ _ _ _ => (pg_name (i := 1) sc_is_still.nd rfl (Or.inl rfl))) (fun _ _ _ _ _ => pts_nil) (fun _ _ _ _ _ => (pe_cmpR (op_eqK (K := K) rfl hr.units) (pv 1) (C8.pe_gc rfl T.NOUGHT) (nomark _)))) pa_nil)))), ?_⟩
    refine ⟨_, rfl, a, rfl, ⟨xs, hs⟩, fun D hD => lc_list (K := K) (a := a) (xs := xs) (fun i H' => Same H H' ∧ H' D = some (.lst ((r.take i).map fun q => V.bl (q == 0))))
      ⟨same_new hD, upd_same⟩ (fun i H' _ hP => hP.1.seq hs) (fun i x H' hx hP => ?_) (fun H' hP => ?_)⟩
    · obtain ⟨hS, hL⟩ := hP
      obtain ⟨d, hd1, hd2⟩ := hd.get' hx
      obtain ⟨q, hq, rfl⟩ := encs_get hd1
      refine ⟨rfl, ?_⟩
      refine ⟨_, rfl, _, _, dp_same hS hd2, T.nought _, shaped_q q, shaped_q 0, ?_⟩
      refine ⟨_, hL, len_small ?_, same_put hS hD, ?_⟩
      · rw [List.length_map]
        exact Nat.le_trans (List.length_take_le _ _) (by have := (List.getElem?_eq_some_iff.mp hq).1; omega)
      · rw [upd_same, take_more hq, List.map_append, eqv_q]
        rfl
    · obtain ⟨hS, hL⟩ := hP
      rw [hlen, List.take_length] at hL
      refine ⟨D, r.map (fun q => q == 0), rfl, SqL.of (by rw [hL, List.map_map]; rfl), ?_⟩
      have e : (r.map fun q => q == 0).all id = still r := by
        rw [List.all_map]
        rfl
      rw [e]
      exact hQ _ hS
theorem k_scaled (T : Txt K mg aN aO) (F : DefAt K mg "scaled" s_scaled) (c_times : C8.Cal P w K mg base 3 "times" (spTimes K) []) : C8.Cal P w K mg base 4 "scaled" (spScaled K) [] := by
  refine cal_of F sc_scaled b_scaled (fun vs H Q E h => ?_) (fun f cdv A outer s H vs Q E hr h => ?_)
  · obtain ⟨v, u, r, q, rfl, _⟩ := h
    rfl
  · obtain ⟨v, u, r, q, rfl, hv, hu, hl, sq, sr, hQ⟩ := h
    obtain ⟨a, xs, rfl, hs, hd⟩ := dp_list hv
    have hlen := hd.length
    rw [encs, List.length_map] at hlen
    refine ⟨_, (pss_one (ps_ret (pe_lc (own := [("one", 2)]) rfl sc_scaled.nd (pi_list (pv 0)) (blkOk_by (own := [("one", 2)]) (N := N_scaled) (sc := defScope s_scaled) (by decide +kernel)) (fun _ _ _ _ _ => (pg_name (i := 2) sc_scaled.nd rfl (Or.inl rfl))) (fun _ _ _ _ _ => pts_nil) (fun _ _ _ _ _ => (C8.pe_c c_times hr (by decide) rfl (pa_cons (pv 2) (pa_cons (pv 1) pa_nil))))))), ?_⟩
    refine ⟨_, rfl, a, rfl, ⟨xs, hs⟩, fun D hD => lc_list (K := K) (a := a) (xs := xs) (fun i H' => Same H H' ∧ ∃ ys, H' D = some (.lst ys) ∧ DpAll K (rem H' D) ys (encs (scaled (r.take i) q)))
      ⟨same_new hD, [], upd_same, .nil⟩ (fun i H' _ hP => hP.1.seq hs) (fun i x H' hx hP => ?_) (fun H' hP => ?_)⟩
    · obtain ⟨hS, ys, hL, hY⟩ := hP
      obtain ⟨d, hd1, hd2⟩ := hd.get' hx
      obtain ⟨z, hz, rfl⟩ := encs_get hd1
      refine ⟨rfl, ?_⟩
      refine ⟨_, rfl, _, rfl, _, _, _, _, rfl, dp_same hS hd2, dp_same hS hu, sr z (List.mem_of_getElem? hz), sq, trivial, fun H2 v2 s2 h2 => ?_⟩
      refine ⟨_, s2 _ _ hL, len_small ?_, same_put (hS.trans s2) hD, _, upd_same, ?_⟩
      · rw [hY.length]
        unfold encs scaled
        rw [List.length_map, List.length_map]
        exact Nat.le_trans (List.length_take_le _ _) (by have := (List.getElem?_eq_some_iff.mp hz).1; omega)
      · rw [rem_upd, take_more hz]
        have e : encs (scaled (r.take i ++ [z]) q) = encs (scaled (r.take i) q) ++ [encQ (z * q)] := by
          unfold encs scaled
          rw [List.map_append, List.map_append]
          rfl
        rw [e]
        exact (dps_same (rem_same s2) hY).snoc (rem_q h2 (s2 _ _ hL))
    · obtain ⟨hS, ys, hL, hY⟩ := hP
      rw [hlen, List.take_length] at hY
      exact hQ _ _ _ hS hD hL (dps_same (rem_sub _ _) hY)
theorem k_taken (T : Txt K mg aN aO) (F : DefAt K mg "taken" s_taken) (c_minus : C8.Cal P w K mg base 3 "minus" (spMinus K) []) : C8.Cal P w K mg base 4 "taken" (spTaken K) [] := by
  refine cal_of F sc_taken b_taken (fun vs H Q E h => ?_) (fun f cdv A outer s H vs Q E hr h => ?_)
  · obtain ⟨v, u, r, q, rfl, _⟩ := h
    rfl
  · obtain ⟨v, u, r, r2, rfl, hv, hu, hl, hll, sr, sr2, hQ⟩ := h
    obtain ⟨a, xs, rfl, hs, hd⟩ := dp_list hv
    obtain ⟨b, ys, rfl, hs2, hd2⟩ := dp_list hu
    have hlen := hd.length
    rw [encs, List.length_map] at hlen
    have hlen2 := hd2.length
    rw [encs, List.length_map] at hlen2
    refine ⟨_, (pss_one (ps_ret (pe_lc (own := [("mine", 2), ("its", 3)]) rfl sc_taken.nd (pi_zip rfl T.zip (pa_cons (pv 0) (pa_cons (pv 1) pa_nil))) (blkOk_by (own := [("mine", 2), ("its", 3)]) (N := N_taken) (sc := defScope s_taken) (by decide +kernel)) (fun _ _ _ _ _ => (pg_tupK (K := K) (n := 2) rfl rfl (pgs_cons (pg_name (i := 2) sc_taken.nd rfl (Or.inl rfl)) (pgs_cons (pg_name (i := 3) sc_taken.nd rfl (Or.inl rfl)) pgs_nil)))) (fun _ _ _ _ _ => pts_nil) (fun _ _ _ _ _ => (C8.pe_c c_minus hr (by decide) rfl (pa_cons (pv 2) (pa_cons (pv 3) pa_nil))))))), ?_⟩
    refine ⟨_, rfl, _, rfl, a, b, xs, ys, rfl, hs, hs2, fun D hD => lc_by (n := r.length) (fun i H' => Same H H' ∧ ∃ zs, H' D = some (.lst zs) ∧ DpAll K (rem H' D) zs (encs (taken (r.take i) (r2.take i))))
      ⟨same_new hD, [], upd_same, .nil⟩ (fun i H' hi hP => ?_) (fun H' hP => ?_)⟩
    · obtain ⟨hS, zs, hL, hZ⟩ := hP
      have hx : xs[i]? = some xs[i] := List.getElem?_eq_getElem (by omega)
      have hy : ys[i]? = some ys[i] := List.getElem?_eq_getElem (by omega)
      obtain ⟨d, e1, e2⟩ := hd.get' hx
      obtain ⟨z, hz, rfl⟩ := encs_get e1
      obtain ⟨d', e3, e4⟩ := hd2.get' hy
      obtain ⟨z', hz', rfl⟩ := encs_get e3
      refine ⟨⟨xs, ys, _, _, hS.seq hs, hS.seq hs2, hx, hy⟩, fun v' H1 hv' => ?_⟩
      obtain ⟨t, x, y, rfl, ht, rfl, hx', hy'⟩ := hv'
      have ex := hx' xs (hS.seq hs)
      have ey := hy' ys (hS.seq hs2)
      rw [hx] at ex
      rw [hy] at ey
      cases Option.some.inj ex
      cases Option.some.inj ey
      have s1 : Same H' (upd H' t (.tup [xs[i], ys[i]])) := same_new ht
      have hS1 := hS.trans s1
      refine ⟨t, _, rfl, SqT.of upd_same, rfl, _, _, rfl, _, _, rfl, ⟨rfl, rfl, ?_⟩⟩
      refine ⟨_, rfl, _, rfl, _, _, _, _, rfl, dp_same hS1 e2, dp_same hS1 e4, sr z (List.mem_of_getElem? hz), sr2 z' (List.mem_of_getElem? hz'), trivial, fun H2 v2 s2 h2 => ?_⟩
      have hL1 := s1 _ _ hL
      refine ⟨_, s2 _ _ hL1, len_small ?_, same_put (hS1.trans s2) hD, _, upd_same, ?_⟩
      · rw [hZ.length]
        unfold encs taken
        rw [List.length_map, List.length_zipWith, List.length_take, List.length_take]
        omega
      · rw [rem_upd, taken_more hz hz']
        have e : encs (taken (r.take i) (r2.take i) ++ [z - z']) = encs (taken (r.take i) (r2.take i)) ++ [encQ (z - z')] := by
          unfold encs
          rw [List.map_append]
          rfl
        rw [e]
        exact (dps_same (rem_same (s1.trans s2)) hZ).snoc (rem_q h2 (s2 _ _ hL1))
    · obtain ⟨hS, zs, hL, hZ⟩ := hP
      refine ⟨⟨xs, ys, hS.seq hs, hS.seq hs2, .inl (by omega)⟩, ?_⟩
      rw [List.take_length, hll, List.take_length] at hZ
      exact hQ _ _ _ hS hD hL (dps_same (rem_sub _ _) hZ)
end
end Np
end
section
set_option linter.all false
set_option maxRecDepth 100000
set_option maxHeartbeats 4000000
/-! The dots' walk. -/
namespace Np
open PySem PySem.Spec PyProof.Rows L2
theorem DotOk.at : ∀ {a b c : Row} {i : Nat} {x y z acc : Rat}, a[i]? = some x → b[i]? = some y → c[i]? = some z → DotOk a b c acc →
    Sz x ∧ Sz y ∧ Sz z ∧ Sz (x * y) ∧ Sz (x * y * z) ∧ Sz (acc + dot3 (a.take i) (b.take i) (c.take i))
  | p :: a, q :: b, r :: c, 0, x, y, z, acc, h1, h2, h3, h => by
    cases Option.some.inj h1
    cases Option.some.inj h2
    cases Option.some.inj h3
    obtain ⟨h1, h2, h3, h4, h5, h6, _⟩ := h
    refine ⟨h1, h2, h3, h4, h5, ?_⟩
    show Sz (acc + 0)
    rw [Rat.add_zero]
    exact h6
  | p :: a, q :: b, r :: c, i + 1, x, y, z, acc, h1, h2, h3, h => by
    have ih := DotOk.at (a := a) (b := b) (c := c) (i := i) (acc := acc + p * q * r) h1 h2 h3 h.2.2.2.2.2.2
    refine ⟨ih.1, ih.2.1, ih.2.2.1, ih.2.2.2.1, ih.2.2.2.2.1, ?_⟩
    show Sz (acc + (p * q * r + dot3 (a.take i) (b.take i) (c.take i)))
    rw [← Rat.add_assoc]
    exact ih.2.2.2.2.2
  | [], _, _, _, _, _, _, _, h, _, _, _ => by simp at h
  | _ :: _, [], _, _, _, _, _, _, _, h, _, _ => by simp at h
  | _ :: _, _ :: _, [], _, _, _, _, _, _, _, h, _ => by simp at h
theorem Dot2Ok.at : ∀ {a b : Row} {i : Nat} {x y acc : Rat}, a[i]? = some x → b[i]? = some y → Dot2Ok a b acc → Sz x ∧ Sz y ∧ Sz (x * y) ∧ Sz (acc + dot2 (a.take i) (b.take i))
  | p :: a, q :: b, 0, x, y, acc, h1, h2, h => by
    cases Option.some.inj h1
    cases Option.some.inj h2
    obtain ⟨h1, h2, h4, h6, _⟩ := h
    refine ⟨h1, h2, h4, ?_⟩
    show Sz (acc + 0)
    rw [Rat.add_zero]
    exact h6
  | p :: a, q :: b, i + 1, x, y, acc, h1, h2, h => by
    have ih := Dot2Ok.at (a := a) (b := b) (i := i) (acc := acc + p * q) h1 h2 h.2.2.2.2
    refine ⟨ih.1, ih.2.1, ih.2.2.1, ?_⟩
    show Sz (acc + (p * q + dot2 (a.take i) (b.take i)))
    rw [← Rat.add_assoc]
    exact ih.2.2.2
  | [], _, _, _, _, _, h, _, _ => by simp at h
  | _ :: _, [], _, _, _, _, _, h, _ => by simp at h
abbrev N_dot : List Str := ["one", "other", "weights", "found", "k", "mine", "product"]
theorem sc_dot : FnScope ["one", "other", "weights", "found", "k", "mine", "product"] ["one", "other", "weights"] (defScope s_dot) := ⟨rfl, rfl, rfl, by decide +kernel, rfl, by decide +kernel, by decide +kernel⟩
abbrev N_square : List Str := ["row", "weights"]
theorem sc_square : FnScope ["row", "weights"] ["row", "weights"] (defScope s_square) := ⟨rfl, rfl, rfl, by decide +kernel, rfl, by decide +kernel, by decide +kernel⟩
theorem b_square : BindOk "square" "square" s_square ["row", "weights"] := fun _ _ _ _ _ _ us hl => match us, hl with | [_, _], _ => rfl
theorem b_dot3 : BindOkD "dot" "dot" s_dot ["one", "other", "weights"] 1 3 1 := fun _ _ _ _ _ _ _ us its h1 h2 => match us, its, h1, h2 with | [_, _, _], [_], _, _ => ⟨_, rfl, rfl⟩
theorem b_dot2 : BindOkD "dot" "dot" s_dot ["one", "other", "weights"] 1 2 0 := fun _ _ _ _ _ _ _ us its h1 h2 => match us, its, h1, h2 with | [_, _], [_], _, _ => ⟨_, rfl, rfl⟩
/-- a list's item at a whole number -/
theorem lst_at {K : PySem.W.Frag} {H : Hp} {v : V} {r : Row} {i : Nat} {x : Rat} (h : Dp K H v (encR r)) (hi : r[i]? = some x) : ∃ p xs u, v = .ref p ∧ SqL K H p xs ∧ atI xs (i : Int) = some u ∧ Dp K H u (encQ x) := by
  obtain ⟨a, xs, rfl, hs, hd⟩ := dp_list h
  obtain ⟨u, h1, h2⟩ := hd.get (i := i) (d := encQ x) (by
    unfold encs
    rw [List.getElem?_map, hi]
    rfl)
  exact ⟨a, xs, u, rfl, hs, atI_nat h1, h2⟩
section
variable {P : Program} {w : World} {K : PySem.W.Frag} {mg : Str → Option Value} {base : Heap} {aN aO : Addr}
theorem body_dot (T : Txt K mg aN aO) (c_times : C8.Cal P w K mg base 3 "times" (spTimes K) []) (c_plus : C8.Cal P w K mg base 3 "plus" (spPlus K) [])
    (f : Addr) (cdv : Value) (A : Around) (outer : List Env) (s : Shared) (H : Hp) (vs : List V) (Q : VK) (E : XK) (hr : Room 3 (A.deeper (envOfC "dot" (defScope s_dot) s.heap.objs.size f cdv))) (h : spDot K vs H Q E) :
      ∃ t, PSs (cxOf CX0 P w K mg base N_dot "dot" (defScope s_dot) f cdv A outer s H E).nox (defBody s_dot) t ∧ t { nx := fun _ H' => Q .non H', rt := Q } (start N_dot vs) H := by
  refine ⟨_, (pss_cons (ps_set (i := 3) sc_dot.nd rfl (Or.inl rfl) (C8.pe_gc rfl T.NOUGHT))
    (pss_cons (ps_for PassesOwn.never rfl (pi_enum rfl T.enumerate (pa_cons (pv 0) pa_nil)) (pg_tup rfl (pgs_cons (pg_name (i := 4) sc_dot.nd rfl (Or.inl rfl)) (pgs_cons (pg_name (i := 5) sc_dot.nd rfl (Or.inl rfl)) pgs_nil)))
    (pss_cons (ps_set (i := 6) sc_dot.nd rfl (Or.inl rfl) (C8.pe_c c_times hr (by decide) rfl (pa_cons (pv 5) (pa_cons (pe_ix ix_list (pv 1) (pv 4) (fun _ _ => rfl)) pa_nil))))
    (pss_cons (ps_if (pt_cmpR op_notN (pv 2) pe_non (nomark _)) (pss_one (ps_set (i := 6) sc_dot.nd rfl (Or.inl rfl) (C8.pe_c c_times hr (by decide) rfl (pa_cons (pv 6) (pa_cons (pe_ix ix_list (pv 2) (pv 4) (fun _ _ => rfl)) pa_nil)))))
    pss_nil)
    (pss_one (ps_set (i := 3) sc_dot.nd rfl (Or.inl rfl) (C8.pe_c c_plus hr (by decide) rfl (pa_cons (pv 3) (pa_cons (pv 6) pa_nil))))))))
    (pss_one (ps_ret (pv 3))))), ?_⟩
  rcases h with ⟨x, y, z, a, b, c, rfl, hx, hy, hz, hl, l1, l2, ok, hQ⟩ | ⟨x, y, a, b, rfl, hx, hy, hl, l1, ok, hQ⟩
  · obtain ⟨pa, xs, rfl, hs, hd⟩ := dp_list hx
    have hlen := hd.length
    rw [encs, List.length_map] at hlen
    refine ⟨_, rfl, pa, xs, rfl, hs, for_by (n := a.length) (fun i σ H' => Same H H' ∧ ∃ fv k m p, σ = [some (V.ref pa), some y, some z, some fv, k, m, p] ∧ Dp K H' fv (encQ (dot3 (a.take i) (b.take i) (c.take i))))
      ⟨Same.refl _, _, Option.none, Option.none, Option.none, rfl, T.nought _⟩ (fun i σ H' hi hP => ?_) (fun σ H' hP => ?_)⟩
    · obtain ⟨hS, fv, k, m, p, rfl, hf⟩ := hP
      have ea : a[i]? = some a[i] := List.getElem?_eq_getElem hi
      have eb : b[i]? = some b[i] := List.getElem?_eq_getElem (by omega)
      have ec : c[i]? = some c[i] := List.getElem?_eq_getElem (by omega)
      obtain ⟨o1, o2, o3, o4, o5, o6⟩ := ok.at ea eb ec
      rw [Rat.zero_add] at o6
      have hx1 : xs[i]? = some xs[i] := List.getElem?_eq_getElem (by omega)
      obtain ⟨d, e1, e2⟩ := hd.get' hx1
      obtain ⟨z1, hz1, rfl⟩ := encs_get e1
      rw [ea] at hz1
      cases Option.some.inj hz1
      refine ⟨⟨xs, _, hS.seq hs, hx1⟩, fun v' H1 hv' => ?_⟩
      obtain ⟨t, x', rfl, ht, rfl, hx'⟩ := hv'
      have ex := hx' xs (hS.seq hs)
      rw [hx1] at ex
      cases Option.some.inj ex
      have s1 : Same H' (upd H' t (.tup [.int (i : Nat), xs[i]])) := same_new ht
      have hS1 := hS.trans s1
      obtain ⟨p1, ys, u1, rfl, q1, q2, q3⟩ := lst_at (dp_same hS1 hy) eb
      refine ⟨t, _, rfl, SqT.of upd_same, rfl, _, _, rfl, _, _, rfl, rfl, ?_⟩
      refine ⟨_, rfl, _, rfl, _, rfl, p1, ys, _, u1, rfl, rfl, q1, q2, _, _, _, _, rfl, dp_same hS1 e2, q3, o1, o2, trivial, fun H2 v2 s2 h2 => ?_⟩
      have hS2 := hS1.trans s2
      obtain ⟨p2, zs, u2, rfl, r1, r2, r3⟩ := lst_at (dp_same hS2 hz) ec
      refine ⟨_, rfl, rfl, _, rfl, iteT ?_⟩
      refine ⟨_, rfl, _, rfl, _, rfl, p2, zs, _, u2, rfl, rfl, r1, r2, _, _, _, _, rfl, h2, r3, o4, o3, trivial, fun H3 v3 s3 h3 => ?_⟩
      have hS3 := hS2.trans s3
      refine ⟨_, rfl, _, rfl, _, _, _, _, rfl, dp_same (s1.trans (s2.trans s3)) hf, h3, o6, o5, trivial, fun H4 v4 s4 h4 => ?_⟩
      refine ⟨hS3.trans s4, _, _, _, _, rfl, ?_⟩
      rw [dot3_take ea eb ec]
      exact h4
    · obtain ⟨hS, fv, k, m, p, rfl, hf⟩ := hP
      refine ⟨⟨xs, hS.seq hs, by omega⟩, ?_⟩
      refine ⟨_, rfl, hQ _ _ hS ?_⟩
      rw [List.take_length, l1, List.take_length, ← l1, l2, List.take_length] at hf
      exact hf
  · obtain ⟨pa, xs, rfl, hs, hd⟩ := dp_list hx
    have hlen := hd.length
    rw [encs, List.length_map] at hlen
    refine ⟨_, rfl, pa, xs, rfl, hs, for_by (n := a.length) (fun i σ H' => Same H H' ∧ ∃ fv k m p, σ = [some (V.ref pa), some y, some V.non, some fv, k, m, p] ∧ Dp K H' fv (encQ (dot2 (a.take i) (b.take i))))
      ⟨Same.refl _, _, Option.none, Option.none, Option.none, rfl, T.nought _⟩ (fun i σ H' hi hP => ?_) (fun σ H' hP => ?_)⟩
    · obtain ⟨hS, fv, k, m, p, rfl, hf⟩ := hP
      have ea : a[i]? = some a[i] := List.getElem?_eq_getElem hi
      have eb : b[i]? = some b[i] := List.getElem?_eq_getElem (by omega)
      obtain ⟨o1, o2, o4, o6⟩ := ok.at ea eb
      rw [Rat.zero_add] at o6
      have hx1 : xs[i]? = some xs[i] := List.getElem?_eq_getElem (by omega)
      obtain ⟨d, e1, e2⟩ := hd.get' hx1
      obtain ⟨z1, hz1, rfl⟩ := encs_get e1
      rw [ea] at hz1
      cases Option.some.inj hz1
      refine ⟨⟨xs, _, hS.seq hs, hx1⟩, fun v' H1 hv' => ?_⟩
      obtain ⟨t, x', rfl, ht, rfl, hx'⟩ := hv'
      have ex := hx' xs (hS.seq hs)
      rw [hx1] at ex
      cases Option.some.inj ex
      have s1 : Same H' (upd H' t (.tup [.int (i : Nat), xs[i]])) := same_new ht
      have hS1 := hS.trans s1
      obtain ⟨p1, ys, u1, rfl, q1, q2, q3⟩ := lst_at (dp_same hS1 hy) eb
      refine ⟨t, _, rfl, SqT.of upd_same, rfl, _, _, rfl, _, _, rfl, rfl, ?_⟩
      refine ⟨_, rfl, _, rfl, _, rfl, p1, ys, _, u1, rfl, rfl, q1, q2, _, _, _, _, rfl, dp_same hS1 e2, q3, o1, o2, trivial, fun H2 v2 s2 h2 => ?_⟩
      have hS2 := hS1.trans s2
      refine ⟨_, rfl, rfl, _, rfl, iteF ?_⟩
      refine ⟨_, rfl, _, rfl, _, _, _, _, rfl, dp_same (s1.trans s2) hf, h2, o6, o4, trivial, fun H4 v4 s4 h4 => ?_⟩
      refine ⟨hS2.trans s4, _, _, _, _, rfl, ?_⟩
      rw [dot2_take ea eb]
      exact h4
    · obtain ⟨hS, fv, k, m, p, rfl, hf⟩ := hP
      refine ⟨⟨xs, hS.seq hs, by omega⟩, ?_⟩
      refine ⟨_, rfl, hQ _ _ hS ?_⟩
      rw [List.take_length, l1, List.take_length] at hf
      exact hf
theorem len_dot {K : PySem.W.Frag} : ∀ vs H Q E, spDot K vs H Q E → vs.length = ["one", "other", "weights"].length := by
  rintro vs H Q E (⟨x, y, z, a, b, c, rfl, _⟩ | ⟨x, y, a, b, rfl, _⟩) <;> rfl
theorem k_dot (T : Txt K mg aN aO) (F : DefAtD K mg "dot" s_dot [.non]) (c_times : C8.Cal P w K mg base 3 "times" (spTimes K) []) (c_plus : C8.Cal P w K mg base 3 "plus" (spPlus K) []) :
    C8.Cal P w K mg base 4 "dot" (spDot K) [] :=
  calD_of (n := 3) (j := 1) F sc_dot (fun e => nomatch e) rfl b_dot3 len_dot (body_dot T c_times c_plus)
theorem k_dot2 (T : Txt K mg aN aO) (F : DefAtD K mg "dot" s_dot [.non]) (c_times : C8.Cal P w K mg base 3 "times" (spTimes K) []) (c_plus : C8.Cal P w K mg base 3 "plus" (spPlus K) []) :
    C8.Cal P w K mg base 4 "dot" (spDot K) [.non] :=
  calD_of (n := 2) (j := 0) F sc_dot (fun e => nomatch e) rfl b_dot2 len_dot (body_dot T c_times c_plus)
def spSquare (K : PySem.W.Frag) : Sp := fun vs H Q _ => ∃ x z a c, vs = [x, z] ∧ Dp K H x (encR a) ∧ Dp K H z (encR c) ∧ a.length ≤ 4096 ∧ a.length = c.length ∧ DotOk a a c 0 ∧ GiveQ K H Q (encQ (dot3 a a c))
theorem k_square (T : Txt K mg aN aO) (F : DefAt K mg "square" s_square) (c_dot : C8.Cal P w K mg base 4 "dot" (spDot K) []) : C8.Cal P w K mg base 5 "square" (spSquare K) [] := by
  refine cal_of F sc_square b_square (fun vs H Q E h => ?_) (fun f cdv A outer s H vs Q E hr h => ?_)
  · obtain ⟨x, z, a, c, rfl, _⟩ := h
    rfl
  · obtain ⟨x, z, a, c, rfl, hx, hz, hl, l1, ok, hQ⟩ := h
    refine ⟨_, (pss_one (ps_ret (C8.pe_c c_dot hr (by decide) rfl (pa_cons (pv 0) (pa_cons (pv 0) (pa_cons (pv 1) pa_nil)))))), ?_⟩
    exact ⟨_, rfl, _, rfl, _, rfl, .inl ⟨_, _, _, a, a, c, rfl, hx, hx, hz, hl, rfl, l1, ok, hQ⟩⟩
end
end Np
end
section
set_option linter.all false
set_option maxRecDepth 100000
set_option maxHeartbeats 4000000
/-! The upright parts' walk. -/
namespace Np
open PySem PySem.Spec PyProof.Rows L2
/-! ### what a call has made -/
/-- the heap behind a call without the lists that stood ahead of it -/
def dif (H H' : Hp) : Hp := fun b => match H b with
  | some (.lst _) => Option.none
  | _ => H' b
theorem dif_lst {H H' : Hp} {b : Addr} {xs : List V} (h : H b = some (.lst xs)) : dif H H' b = Option.none := by
  unfold dif
  rw [h]
theorem dif_not {H H' : Hp} {b : Addr} (h : ∀ xs, H b ≠ some (.lst xs)) : dif H H' b = H' b := by
  unfold dif
  split
  · rename_i xs e
    exact absurd e (h xs)
  · rfl
theorem dif_cases (H : Hp) (b : Addr) : (∃ xs, H b = some (.lst xs)) ∨ ∀ xs, H b ≠ some (.lst xs) := by
  by_cases h : ∃ xs, H b = some (.lst xs)
  · exact .inl h
  · exact .inr fun xs e => h ⟨xs, e⟩
theorem dif_sub (H H' : Hp) : Same (dif H H') H' := fun b o e => by
  rcases dif_cases H b with ⟨xs, h⟩ | h
  · rw [dif_lst h] at e
    cases e
  · rw [dif_not h] at e
    exact e
theorem dif_late {H H1 H2 : Hp} (s : Same H H1) : Same (dif H1 H2) (dif H H2) := fun b o e => by
  rcases dif_cases H b with ⟨xs, h⟩ | h
  · rw [dif_lst (s _ _ h)] at e
    cases e
  · rw [dif_not h]
    exact dif_sub _ _ _ _ e
theorem dif_grow {H H1 H2 : Hp} (s : Same H1 H2) : Same (dif H H1) (dif H H2) := fun b o e => by
  rcases dif_cases H b with ⟨xs, h⟩ | h
  · rw [dif_lst h] at e
    cases e
  · rw [dif_not h] at e ⊢
    exact s _ _ e
theorem dif_rem {H H' : Hp} {D : Addr} {xs : List V} (h : H D = some (.lst xs)) : Same (dif H H') (rem H' D) := fun b o e => by
  by_cases q : b = D
  · subst q
    rw [dif_lst h] at e
    cases e
  · rw [rem_ne q]
    exact dif_sub _ _ _ _ e
/-- new in a heap without D -/
theorem rem_dif {H H' : Hp} {D : Addr} : Same (rem (dif H H') D) (dif H (rem H' D)) := fun b o e => by
  by_cases q : b = D
  · subst q
    rw [rem_at] at e
    cases e
  · rw [rem_ne q] at e
    rcases dif_cases H b with ⟨xs, h⟩ | h
    · rw [dif_lst h] at e
      cases e
    · rw [dif_not h] at e ⊢
      rw [rem_ne q]
      exact e
section
variable {K : PySem.W.Frag} {H H' : Hp}
theorem dif_tup {a : Addr} {xs : List V} (s : Same H H') (h : SqT K H' a xs) : SqT K (dif H H') a xs := by
  rcases h with (h | ⟨o, h⟩) | h
  · refine .inl (.inl ?_)
    rw [dif_not fun ys e => by
      rw [s _ _ e] at h
      cases h]
    exact h
  · refine .inl (.inr ⟨o, ?_⟩)
    rw [dif_not fun ys e => by
      rw [s _ _ e] at h
      cases h]
    exact h
  · exact .inr h
theorem dif_q {v : V} {q : Rat} (s : Same H H') (h : Dp K H' v (encQ q)) : Dp K (dif H H') v (encQ q) := by
  obtain ⟨a, rfl, hs⟩ := dp_q h
  exact q_dp (dif_tup s hs)
theorem dif_qs (s : Same H H') : ∀ {r : Row} {xs : List V}, DpAll K H' xs (encs r) → DpAll K (dif H H') xs (encs r)
  | [], _, .nil => .nil
  | _ :: _, _, .cons a r => .cons (dif_q s a) (dif_qs s r)
theorem dif_new {p : Addr} {xs : List V} {ds : List PyData} (h : H p = Option.none) (h' : H' p = some (.lst xs)) (hd : DpAll K (dif H H') xs ds) : Dp K (dif H H') (.ref p) (.list ds) := by
  refine .lst (SqL.of ?_) hd
  rw [dif_not fun ys e => by
    rw [h] at e
    cases e]
  exact h'
end
/-- new data are handed back, all else is as it was -/
def GiveF (K : PySem.W.Frag) (H : Hp) (Q : VK) (d : PyData) : Prop := ∀ H' v, Same H H' → Dp K (dif H H') v d → Q v H'
theorem GiveF.ofL {K : PySem.W.Frag} {H : Hp} {Q : VK} {r : Row} (h : GiveF K H Q (encR r)) : GiveL K H Q (encs r) := fun H' p xs s hp hx hd => h H' _ s (dif_new hp hx (dif_qs s hd))
def encP (p : Part) : PyData := .tuple [encR p.1, encR p.2]
theorem dp_pair {K : PySem.W.Frag} {H : Hp} {v : V} {d e : PyData} (h : Dp K H v (.tuple [d, e])) : ∃ a x y, v = .ref a ∧ SqT K H a [x, y] ∧ Dp K H x d ∧ Dp K H y e := by
  obtain ⟨a, xs, rfl, hs, hd⟩ := dp_tup h
  cases hd with
  | cons h1 r =>
    cases r with
    | cons h2 r =>
      cases r
      exact ⟨a, _, _, rfl, hs, h1, h2⟩
/-- the shares' list within the inner loop -/
def mid (a b : Row) (z : Row) (j : Nat) : Row := taken (a.take j) (b.take j) ++ (a.drop j ++ z)
theorem mid_zero (a b z : Row) : mid a b z 0 = a ++ z := rfl
theorem mid_all {a b z : Row} (h : a.length = b.length) : mid a b z a.length = taken a b ++ z := by
  unfold mid
  rw [List.take_length, h, List.take_length, ← h, List.drop_length, List.nil_append]
theorem mid_len {a b : Row} (j : Nat) (h : a.length = b.length) (hj : j ≤ a.length) : (taken (a.take j) (b.take j)).length = j := by
  rw [taken_length _ _ (by rw [List.length_take, List.length_take, h]), List.length_take]
  omega
theorem mid_at {a b z : Row} {j : Nat} {x : Rat} (h : a.length = b.length) (ha : a[j]? = some x) : (mid a b z j)[j]? = some x := by
  have hj := (List.getElem?_eq_some_iff.mp ha).1
  unfold mid
  rw [List.getElem?_append_right (by rw [mid_len j h (by omega)]; exact Nat.le_refl _), mid_len j h (by omega), Nat.sub_self]
  rw [List.getElem?_append_left (by rw [List.length_drop]; omega), List.getElem?_drop]
  exact ha
theorem mid_set {a b z : Row} {j : Nat} {x y : Rat} (h : a.length = b.length) (ha : a[j]? = some x) (hb : b[j]? = some y) : (mid a b z j).set j (x - y) = mid a b z (j + 1) := by
  have hj := (List.getElem?_eq_some_iff.mp ha).1
  unfold mid
  rw [taken_more ha hb, List.set_append_right _ _ (by rw [mid_len j h (by omega)]; exact Nat.le_refl _), mid_len j h (by omega), Nat.sub_self]
  have e : a.drop j = x :: a.drop (j + 1) := by
    rw [List.drop_eq_getElem_cons hj]
    congr 1
    exact Option.some.inj ((List.getElem?_eq_getElem hj).symm.trans ha)
  rw [e, List.append_assoc]
  rfl
theorem encs_set (r : Row) (j : Nat) (x : Rat) : encs (r.set j x) = (encs r).set j (encQ x) := by
  unfold encs
  rw [List.map_set]
theorem encs_len (r : Row) : (encs r).length = r.length := List.length_map ..
theorem encs_app (r z : Row) : encs (r ++ z) = encs r ++ encs z := List.map_append ..
theorem ixN_nat {n k : Nat} (h : k < n) : ixN n (k : Int) = some k := by
  unfold ixN
  rw [if_pos (by omega), if_pos (by omega), Int.toNat_natCast]
theorem lst_in {K : PySem.W.Frag} {H : Hp} {xs : List V} {r : Row} {i : Nat} {x : Rat} (h : DpAll K H xs (encs r)) (hi : r[i]? = some x) : ∃ u, xs[i]? = some u ∧ Dp K H u (encQ x) :=
  h.get (i := i) (d := encQ x) (by
    unfold encs
    rw [List.getElem?_map, hi]
    rfl)
theorem flat_rep {α : Type} (n : Nat) (x : α) : (List.replicate n [x]).flatten = List.replicate n x := by
  induction n with
  | zero => rfl
  | succ n ih => rw [List.replicate_succ, List.flatten_cons, ih, List.replicate_succ]; rfl
theorem zeros_dp {K : PySem.W.Frag} {H : Hp} {v : V} (h : Dp K H v (encQ 0)) : ∀ n, DpAll K H (List.replicate n v) (encs (List.replicate n 0))
  | 0 => .nil
  | n + 1 => .cons h (zeros_dp h n)
def spParted (K : PySem.W.Frag) : Sp := fun vs H Q _ => ∃ x y z row ps ws, vs = [x, y, z] ∧ Dp K H x (encR row) ∧ Dp K H y (.list (ps.map encP)) ∧ Dp K H z (encR ws) ∧
  row.length ≤ 4096 ∧ ps.length ≤ 4096 ∧ row.length = ws.length ∧ ShapeOk row.length ps ∧ PartedOk row ws ps ∧ GiveF K H Q (encP (parted row ps ws))
abbrev N_parted : List Str := ["row", "parts", "weights", "left", "shares", "k", "part", "by", "j", "share"]
theorem sc_parted : FnScope ["row", "parts", "weights", "left", "shares", "k", "part", "by", "j", "share"] ["row", "parts", "weights"] (defScope s_parted) := ⟨rfl, rfl, rfl, by decide +kernel, rfl, by decide +kernel, by decide +kernel⟩
theorem b_parted : BindOk "parted" "parted" s_parted ["row", "parts", "weights"] := fun _ _ _ _ _ _ us hl => match us, hl with | [_, _, _], _ => rfl
section
variable {P : Program} {w : World} {K : PySem.W.Frag} {mg : Str → Option Value} {base : Heap} {aN aO : Addr}
theorem k_parted (T : Txt K mg aN aO) (F : DefAt K mg "parted" s_parted) (c_is_still : C8.Cal P w K mg base 1 "is_still" (spStill K) []) (c_dot : C8.Cal P w K mg base 4 "dot" (spDot K) []) (c_square : C8.Cal P w K mg base 5 "square" (spSquare K) [])
    (c_over : C8.Cal P w K mg base 3 "over" (spOver K) []) (c_taken : C8.Cal P w K mg base 4 "taken" (spTaken K) []) (c_scaled : C8.Cal P w K mg base 4 "scaled" (spScaled K) []) (c_plus : C8.Cal P w K mg base 3 "plus" (spPlus K) []) (c_minus : C8.Cal P w K mg base 3 "minus" (spMinus K) [])
    (c_times : C8.Cal P w K mg base 3 "times" (spTimes K) []) : C8.Cal P w K mg base 6 "parted" (spParted K) [] := by
  refine cal_of F sc_parted b_parted (fun vs H Q E h => ?_) (fun f cdv A outer s H vs Q E hr h => ?_)
  · obtain ⟨x, y, z, row, ps, ws, rfl, _⟩ := h
    rfl
  · obtain ⟨x, y, z, row, ps, ws, rfl, hx, hy, hz, hl, hpl, hw, hsh, ok, hQ⟩ := h
    obtain ⟨pr, xs, rfl, hs, hd⟩ := dp_list hx
    obtain ⟨pp, ys, rfl, hsp, hdp⟩ := dp_list hy
    have hyl := hdp.length
    rw [List.length_map] at hyl
    refine ⟨_, (pss_cons (ps_set (i := 3) sc_parted.nd rfl (Or.inl rfl) (pe_callTy call_list_of rfl T.list (by decide +kernel) (pa_cons (pv 0) pa_nil)))
    (pss_cons (ps_set (i := 4) sc_parted.nd rfl (Or.inl rfl) (pe_op op_rep (pe_lst (pa_cons (C8.pe_gc rfl T.NOUGHT) pa_nil)) (pe_callB call_len_seq rfl T.len (by decide +kernel) (pa_cons (pv 1) pa_nil))))
    (pss_cons (ps_for PassesOwn.never rfl (pi_enum rfl T.enumerate (pa_cons (pv 1) pa_nil)) (pg_tup rfl (pgs_cons (pg_name (i := 5) sc_parted.nd rfl (Or.inl rfl)) (pgs_cons (pg_name (i := 6) sc_parted.nd rfl (Or.inl rfl)) pgs_nil)))
    (pss_one (ps_if (pt_not (pt_val (C8.pe_c c_is_still hr (by decide) rfl (pa_cons (pe_ix ix_tup (pv 6) pe_int (fun _ _ => rfl)) pa_nil)))) (pss_cons (ps_set (i := 7) sc_parted.nd rfl (Or.inl rfl) (C8.pe_c c_over hr (by decide) rfl (pa_cons (C8.pe_c c_dot hr (by decide) rfl (pa_cons (pv 0) (pa_cons (pe_ix ix_tup (pv 6) pe_int (fun _ _ => rfl)) (pa_cons (pv 2) pa_nil)))) (pa_cons (C8.pe_c c_square hr (by decide) rfl (pa_cons (pe_ix ix_tup (pv 6) pe_int (fun _ _ => rfl)) (pa_cons (pv 2) pa_nil))) pa_nil))))
    (pss_cons (ps_set (i := 3) sc_parted.nd rfl (Or.inl rfl) (C8.pe_c c_taken hr (by decide) rfl (pa_cons (pv 3) (pa_cons (C8.pe_c c_scaled hr (by decide) rfl (pa_cons (pe_ix ix_tup (pv 6) pe_int (fun _ _ => rfl)) (pa_cons (pv 7) pa_nil))) pa_nil))))
    (pss_cons (ps_asg (C8.pe_c c_plus hr (by decide) rfl (pa_cons (pe_ix ix_list (pv 4) (pv 5) (fun _ _ => rfl)) (pa_cons (pv 7) pa_nil))) (pg_sub (pv 4) (pv 5) set_list))
    (pss_one (ps_for PassesOwn.never rfl (pi_enum rfl T.enumerate (pa_cons (pe_ix ix_tup (pv 6) pe_int (fun _ _ => rfl)) pa_nil)) (pg_tup rfl (pgs_cons (pg_name (i := 8) sc_parted.nd rfl (Or.inl rfl)) (pgs_cons (pg_name (i := 9) sc_parted.nd rfl (Or.inl rfl)) pgs_nil)))
    (pss_one (ps_asg (C8.pe_c c_minus hr (by decide) rfl (pa_cons (pe_ix ix_list (pv 4) (pv 8) (fun _ _ => rfl)) (pa_cons (C8.pe_c c_times hr (by decide) rfl (pa_cons (pv 7) (pa_cons (pv 9) pa_nil))) pa_nil))) (pg_sub (pv 4) (pv 8) set_list))))))))
    pss_nil)))
    (pss_one (ps_ret (pe_tup (pa_cons (pv 3) (pa_cons (pv 4) pa_nil)))))))), ?_⟩
    -- left = list(row)
    refine ⟨_, rfl, pr, xs, rfl, .inl hs, fun l0 hl0 => ?_⟩
    have s0 : Same H (upd H l0 (.lst xs)) := same_new hl0
    -- shares = [NOUGHT] * len(parts)
    refine ⟨by show 1 ≤ sizeLine; decide, fun t0 ht0 => ?_⟩
    have s1 := s0.trans (same_new (o := .lst [V.ref aN]) ht0)
    refine ⟨_, rfl, pp, ys, rfl, .inl (s1.seq hsp), t0, _, _, rfl, rfl, upd_same, by omega, by omega, ?_, fun S hS => ?_⟩
    · rw [Int.toNat_natCast]
      have := len_small hpl
      show 1 * ys.length ≤ sizeLine
      omega
    have s2 := s1.trans (same_new (o := .lst (List.replicate ((ys.length : Nat) : Int).toNat [V.ref aN]).flatten) hS)
    rw [flat_rep, Int.toNat_natCast] at *
    have hSH : H S = Option.none := s1.free hS
    -- the loop
    refine ⟨_, rfl, pp, ys, rfl, s2.seq hsp, for_by (n := ps.length) (fun k σ H' => Same H H' ∧ ∃ lv kk pt bb jj sh zs, σ = [some (V.ref pr), some (V.ref pp), some z, some lv, some (V.ref S), kk, pt, bb, jj, sh] ∧
        Dp K (dif H (rem H' S)) lv (encR (accOf row ws ps k).1) ∧ H' S = some (.lst zs) ∧ DpAll K (rem H' S) zs (encs ((accOf row ws ps k).2 ++ List.replicate (ps.length - k) 0)))
      ⟨s2, _, Option.none, Option.none, Option.none, Option.none, Option.none, _, rfl, ?_, upd_same, ?_⟩ (fun k σ H' hk hP => ?_) (fun σ H' hP => ?_)⟩
    · have hSl : S ≠ l0 := fun e => by
        subst e
        rw [upd_ne (fun e => by subst e; rw [upd_same] at ht0; cases ht0), upd_same] at hS
        cases hS
      have htl : t0 ≠ l0 := fun e => by
        subst e
        rw [upd_same] at ht0
        cases ht0
      have sr : Same H (rem (upd (upd (upd H l0 (.lst xs)) t0 (.lst [V.ref aN])) S (.lst (List.replicate ys.length (V.ref aN)))) S) := same_rem s2 hSH
      refine dif_new (xs := xs) hl0 ?_ (dif_qs sr (dps_same sr hd))
      rw [rem_ne hSl.symm, upd_ne hSl.symm, upd_ne htl.symm, upd_same]
    · rw [rem_upd, Nat.sub_zero, ← hyl]
      show DpAll K _ _ (encs ([] ++ List.replicate ys.length 0))
      rw [List.nil_append]
      exact zeros_dp (T.nought _) _
    · -- a turn
      obtain ⟨hSm, lv, kk, pt, bb, jj, sh, zs, rfl, hlv, hSz, hzs⟩ := hP
      have ep : ps[k]? = some ps[k] := List.getElem?_eq_getElem hk
      obtain ⟨sh1, sh2⟩ := hsh k _ ep
      obtain ⟨ac1, ac2⟩ := accOf_shape (ws := ws) rfl hsh k (by omega)
      have ey : ys[k]? = some ys[k] := List.getElem?_eq_getElem (by omega)
      obtain ⟨d, ed, hd1⟩ := hdp.get' ey
      rw [List.getElem?_map, ep] at ed
      cases Option.some.inj ed
      obtain ⟨pa, l1, l2, epa, hpaH, hp1H, hw2⟩ := dp_pair hd1
      rw [epa] at ey
      have hpa := hSm.tup hpaH
      have hp1 := dp_same hSm hp1H
      refine ⟨⟨ys, _, hSm.seq hsp, ey⟩, fun v' H1 hv' => ?_⟩
      obtain ⟨t, x', rfl, ht, rfl, hx'⟩ := hv'
      have ex := hx' ys (hSm.seq hsp)
      rw [ey] at ex
      cases Option.some.inj ex
      have n1 : Same H' (upd H' t (.tup [.int (k : Nat), V.ref pa])) := same_new ht
      have m1 := hSm.trans n1
      refine ⟨t, _, rfl, SqT.of upd_same, rfl, _, _, rfl, _, _, rfl, rfl, ?_⟩
      refine ⟨_, rfl, pa, _, _, l1, rfl, rfl, n1.tup hpa, rfl, l1, _, rfl, dp_same n1 hp1, by omega, fun H2 n2 => ?_⟩
      have m2 := m1.trans n2
      refine ⟨_, rfl, ?_⟩
      have nx : accOf row ws ps (k + 1) = pstep row ws (accOf row ws ps k) ps[k] := accOf_succ ep
      have nS2 : Same H' H2 := n1.trans n2
      cases hst : still ps[k].1 with
      | true =>
        refine iteF ?_
        have e : pstep row ws (accOf row ws ps k) ps[k] = ((accOf row ws ps k).1, (accOf row ws ps k).2 ++ [0]) := by
          unfold pstep
          rw [if_pos hst]
        refine ⟨m2, lv, _, _, _, _, _, zs, rfl, ?_, nS2 _ _ hSz, ?_⟩
        · rw [nx, e]
          exact dp_same (dif_grow (rem_same nS2)) hlv
        · rw [nx, e]
          have e2 : (accOf row ws ps k).2 ++ [0] ++ List.replicate (ps.length - (k + 1)) 0 = (accOf row ws ps k).2 ++ List.replicate (ps.length - k) 0 := by
            rw [List.append_assoc, show ps.length - k = (ps.length - (k + 1)) + 1 by omega, List.replicate_succ]
            rfl
          show DpAll K (rem H2 S) zs (encs ((accOf row ws ps k).2 ++ [0] ++ List.replicate (ps.length - (k + 1)) 0))
          rw [e2]
          exact dps_same (rem_same nS2) hzs
      | false =>
        refine iteT ?_
        have so := ok.step k _ ep hst
        have e : pstep row ws (accOf row ws ps k) ps[k] = (taken (accOf row ws ps k).1 (scaled ps[k].1 (byOf row ws ps[k])), taken (accOf row ws ps k).2 (scaled ps[k].2 (byOf row ws ps[k])) ++ [byOf row ws ps[k]]) := by
          unfold pstep
          rw [hst]
          rfl
        rw [e] at nx
        obtain ⟨acc, hacc⟩ : ∃ a : Part, a = accOf row ws ps k := ⟨_, rfl⟩
        rw [← hacc] at hlv hzs ac1 ac2 so nx
        obtain ⟨by', hby⟩ : ∃ q : Rat, q = byOf row ws ps[k] := ⟨_, rfl⟩
        have sb := so.by_
        have sc1 := so.c1
        have sc2 := so.c2
        rw [← hby] at nx sb sc1 sc2
        -- by = over(dot(row, part[0], weights), square(part[0], weights))
        refine ⟨_, rfl, _, rfl, pa, _, _, l1, rfl, rfl, (n1.trans n2).tup hpa, rfl, _, rfl, .inl ⟨_, _, _, row, ps[k].1, ws, rfl, dp_same m2 hx, dp_same nS2 hp1, dp_same m2 hz, hl, sh1.symm, hw, so.d1, fun H3 v3 n3 h3 => ?_⟩⟩
        have m3 := m2.trans n3
        have nS3 := nS2.trans n3
        refine ⟨_, rfl, pa, _, _, l1, rfl, rfl, nS3.tup hpa, rfl, _, rfl, _, _, ps[k].1, ws, rfl, dp_same nS3 hp1, dp_same m3 hz, by omega, by omega, so.d2, fun H4 v4 n4 h4 => ?_⟩
        have m4 := m3.trans n4
        have nS4 := nS3.trans n4
        refine ⟨_, _, _, _, rfl, dp_same n4 h3, h4, so.s1, so.s2, so.pos, fun H5 v5 n5 h5 => ?_⟩
        have m5 := m4.trans n5
        have nS5 := nS4.trans n5
        have h5' : Dp K H5 v5 (encQ by') := by
          rw [hby]
          exact h5
        -- left = taken(left, scaled(part[0], by))
        refine ⟨_, rfl, _, rfl, pa, _, _, l1, rfl, rfl, nS5.tup hpa, rfl, _, rfl, l1, v5, ps[k].1, by', rfl, dp_same nS5 hp1, h5', by omega, sb, so.p1, fun H6 q6 x6 n6 f6 h6 d6 => ?_⟩
        have m6 := m5.trans n6
        have nS6 := nS5.trans n6
        have hlv6 : Dp K H6 lv (encR acc.1) := dp_same ((dif_sub _ _).trans ((rem_sub _ _).trans nS6)) hlv
        refine ⟨lv, _, acc.1, _, rfl, hlv6, .lst (SqL.of h6) d6, by omega, by rw [scaled_length]; omega, so.a1, sc1, fun H7 q7 x7 n7 f7 h7 d7 => ?_⟩
        have m7 := m6.trans n7
        have nS7 := nS6.trans n7
        have hS7 := nS7 _ _ hSz
        -- shares[k] = plus(shares[k], by)
        have hz7 := dps_same (rem_same nS7) hzs
        have el : (acc.2 ++ List.replicate (ps.length - k) 0)[k]? = some (0 : Rat) := by
          rw [List.getElem?_append_right (by omega), ac2, Nat.sub_self, show ps.length - k = (ps.length - (k + 1)) + 1 by omega, List.replicate_succ]
          rfl
        obtain ⟨u0, eu0, hu0⟩ := lst_in hz7 el
        refine ⟨_, rfl, _, rfl, S, zs, _, u0, rfl, rfl, SqL.of hS7, atI_nat eu0, _, rfl, _, _, (0 : Rat), by', rfl, dp_same (rem_sub _ _) hu0, dp_same (n6.trans n7) h5', ⟨by decide, by decide⟩, sb, trivial, fun H8 v8 n8 h8 => ?_⟩
        have m8 := m7.trans n8
        have nS8 := nS7.trans n8
        have hS8 := n8 _ _ hS7
        have h8 : Dp K H8 v8 (encQ (0 + by')) := h8
        rw [Rat.zero_add] at h8
        have zl := hz7.length
        rw [encs_len, List.length_append, ac2, List.length_replicate] at zl
        refine ⟨_, rfl, _, rfl, S, zs, _, k, rfl, rfl, hS8, ixN_nat (by omega), ?_⟩
        have nS8' : rem (upd H8 S (.lst (zs.set k v8))) S = rem H8 S := rem_upd _ _ _
        have z8 : DpAll K (rem H8 S) (zs.set k v8) (encs (acc.2 ++ by' :: List.replicate (ps.length - (k + 1)) 0)) := by
          have := DpAll.set (rem_q h8 hS8) k (dps_same (rem_same n8) hz7)
          rw [← encs_set, List.set_append_right _ _ (by omega), ac2, Nat.sub_self, show ps.length - k = (ps.length - (k + 1)) + 1 by omega, List.replicate_succ] at this
          exact this
        have lv7 : Dp K (dif H (rem H8 S)) (.ref q7) (encR (taken acc.1 (scaled ps[k].1 by'))) := by
          have nq : q7 ≠ S := (ne_of_none (n6 _ _ (nS5 _ _ hSz)) f7).symm
          refine dif_new (xs := x7) (m6.free f7) (by rw [rem_ne nq]; exact n8 _ _ h7) (dif_qs (same_rem m8 hSH) (rem_qs hS8 (dps_same n8 d7)))
        have m8' : Same H (upd H8 S (.lst (zs.set k v8))) := same_put m8 hSH
        -- for j, share in enumerate(part[1])
        obtain ⟨pw, xw, rfl, hsw, hdw⟩ := dp_list hw2
        have hwl := hdw.length
        rw [encs_len] at hwl
        refine ⟨_, rfl, pa, _, _, .ref pw, rfl, rfl, m8'.tup hpaH, rfl, pw, xw, rfl, m8'.seq hsw, for_by (n := ps[k].2.length) (fun j σ H9 => Same H H9 ∧ ∃ jj sh zs9, σ = [some (V.ref pr), some (V.ref pp), some z, some (V.ref q7), some (V.ref S), some (V.int (k : Nat)), some (V.ref pa), some v5, jj, sh] ∧
            Dp K (dif H (rem H9 S)) (.ref q7) (encR (taken acc.1 (scaled ps[k].1 by'))) ∧ Dp K H9 v5 (encQ by') ∧ H9 S = some (.lst zs9) ∧ DpAll K (rem H9 S) zs9 (encs (mid acc.2 (scaled ps[k].2 by') (by' :: List.replicate (ps.length - (k + 1)) 0) j)))
          ⟨m8', _, _, _, rfl, ?_, ?_, upd_same, ?_⟩ (fun j σ H9 hj hP => ?_) (fun σ H9 hP => ?_)⟩
        · rw [nS8']
          exact lv7
        · refine dp_same (rem_sub _ S) ?_
          rw [nS8']
          exact rem_q (dp_same (n6.trans (n7.trans n8)) h5') hS8
        · rw [nS8', mid_zero]
          exact z8
        · obtain ⟨g1, jj, sh, zs9, rfl, g2, g3, g4, g5⟩ := hP
          have ew : xw[j]? = some xw[j] := List.getElem?_eq_getElem (by omega)
          obtain ⟨dw, e1, e2⟩ := hdw.get' ew
          obtain ⟨zw, hzw, rfl⟩ := encs_get e1
          refine ⟨⟨xw, _, g1.seq hsw, ew⟩, fun v' Ha hv' => ?_⟩
          obtain ⟨t', x', rfl, ht', rfl, hx''⟩ := hv'
          have ex' := hx'' xw (g1.seq hsw)
          rw [ew] at ex'
          cases Option.some.inj ex'
          have na : Same H9 (upd H9 t' (.tup [.int (j : Nat), xw[j]])) := same_new ht'
          have ga := g1.trans na
          have hlen2 : acc.2.length = (scaled ps[k].2 by').length := by rw [scaled_length, ac2, sh2]
          have eac : acc.2[j]? = some acc.2[j] := List.getElem?_eq_getElem (by omega)
          have esc : (scaled ps[k].2 by')[j]? = some (zw * by') := by
            unfold scaled
            rw [List.getElem?_map, hzw]
            rfl
          obtain ⟨u9, eu9, hu9⟩ := lst_in g5 (mid_at hlen2 eac)
          refine ⟨t', _, rfl, SqT.of upd_same, rfl, _, _, rfl, _, _, rfl, rfl, ?_⟩
          refine ⟨_, rfl, _, rfl, S, zs9, _, u9, rfl, rfl, SqL.of (na _ _ g4), atI_nat eu9, _, rfl, _, rfl, _, _, by', zw, rfl, dp_same na g3, dp_same ga e2, sb, so.p2 zw (List.mem_of_getElem? hzw), trivial, fun Hb vb nb hb => ?_⟩
          have gb := ga.trans nb
          refine ⟨_, _, acc.2[j], by' * zw, rfl, dp_same ((rem_sub _ _).trans (na.trans nb)) hu9, hb, so.a2 _ (List.getElem_mem _), ?_, trivial, fun Hc vc nc hc => ?_⟩
          · rw [Rat.mul_comm]
            exact sc2 _ (List.mem_of_getElem? esc)
          have n9c := na.trans (nb.trans nc)
          have hSc := n9c _ _ g4
          have z9l := g5.length
          rw [encs_len] at z9l
          refine ⟨_, rfl, _, rfl, S, zs9, _, j, rfl, rfl, hSc, ixN_nat ?_, ?_⟩
          · rw [z9l]
            exact (List.getElem?_eq_some_iff.mp (mid_at hlen2 eac)).1
          have nSc : rem (upd Hc S (.lst (zs9.set j vc))) S = rem Hc S := rem_upd _ _ _
          refine ⟨same_put (gb.trans nc) hSH, _, _, _, rfl, ?_, ?_, upd_same, ?_⟩
          · rw [nSc]
            exact dp_same (dif_grow (rem_same n9c)) g2
          · refine dp_same (rem_sub _ S) ?_
            rw [nSc]
            exact rem_q (dp_same n9c g3) hSc
          · rw [nSc, ← mid_set hlen2 eac esc, encs_set, Rat.mul_comm zw]
            exact DpAll.set (rem_q hc hSc) j (dps_same (rem_same n9c) g5)
        · obtain ⟨g1, jj, sh, zs9, rfl, g2, g3, g4, g5⟩ := hP
          have hlen2 : acc.2.length = (scaled ps[k].2 by').length := by rw [scaled_length, ac2, sh2]
          refine ⟨⟨xw, g1.seq hsw, by omega⟩, g1, _, _, _, _, _, _, zs9, rfl, ?_, g4, ?_⟩
          · rw [nx]
            exact g2
          · rw [nx]
            show DpAll K (rem H9 S) zs9 (encs (taken acc.2 (scaled ps[k].2 by') ++ [by'] ++ List.replicate (ps.length - (k + 1)) 0))
            have e3 : ps[k].2.length = acc.2.length := by omega
            rw [e3, mid_all hlen2] at g5
            rw [List.append_assoc]
            exact g5
    · obtain ⟨hSm, lv, kk, pt, bb, jj, sh, zs, rfl, hlv, hSz, hzs⟩ := hP
      refine ⟨⟨ys, hSm.seq hsp, by omega⟩, ?_⟩
      rw [accOf_all, Nat.sub_self] at *
      refine ⟨_, rfl, _, rfl, (by show 2 ≤ sizeLine; decide), fun t ht => ?_⟩
      have n1 : Same H' (upd H' t (.tup [lv, .ref S])) := same_new ht
      refine hQ _ _ (hSm.trans n1) (.tup (dif_tup (hSm.trans n1) (SqT.of upd_same)) (.cons (dp_same ((dif_grow ((rem_sub _ _).trans n1))) hlv) (.cons (dif_new hSH (n1 _ _ hSz) ?_) .nil)))
      rw [List.replicate_zero, List.append_nil] at hzs
      exact dif_qs (hSm.trans n1) (dps_same ((rem_sub _ _).trans n1) hzs)
end
end Np
end
section
set_option linter.all false
set_option maxRecDepth 100000
set_option maxHeartbeats 4000000
/-! lefts, nearest, turned. -/
namespace Np
open PySem PySem.Spec PyProof.Rows L2
def spLefts (K : PySem.W.Frag) : Sp := fun vs H Q _ => ∃ x z rows ws, vs = [x, z] ∧ Dp K H x (.list (rows.map encR)) ∧ Dp K H z (encR ws) ∧
  ws.length ≤ 4096 ∧ rows.length ≤ 4096 ∧ (∀ r, r ∈ rows → r.length = ws.length) ∧ LeftsOk rows ws ∧ GiveF K H Q (.list ((lefts rows ws).map encP))
def spNearest (K : PySem.W.Frag) : Sp := fun vs H Q _ => ∃ x y z rows row ws, vs = [x, y, z] ∧ Dp K H x (.list (rows.map encR)) ∧ Dp K H y (encR row) ∧ Dp K H z (encR ws) ∧
  ws.length ≤ 4096 ∧ rows.length ≤ 4096 ∧ (∀ r, r ∈ rows → r.length = ws.length) ∧ row.length = ws.length ∧ LeftsOk rows ws ∧ PartedOk row ws (lefts rows ws) ∧
  GiveF K H Q (.tuple [encR (parted row (lefts rows ws) ws).2, encR (parted row (lefts rows ws) ws).1])
def colsR (rows : List Row) (m : Nat) : List Row := (List.range m).map fun k => rows.map fun r => r.getD k 0
def spTurned (K : PySem.W.Frag) : Sp := fun vs H Q _ => ∃ x rows m, vs = [x, .int (m : Nat)] ∧ Dp K H x (.list (rows.map encR)) ∧ rows.length ≤ 4096 ∧ m ≤ 4096 ∧ (∀ r, r ∈ rows → r.length = m) ∧ GiveF K H Q (.list ((colsR rows m).map encR))
abbrev N_lefts : List Str := ["rows", "weights", "parts", "row"]
theorem sc_lefts : FnScope ["rows", "weights", "parts", "row"] ["rows", "weights"] (defScope s_lefts) := ⟨rfl, rfl, rfl, by decide +kernel, rfl, by decide +kernel, by decide +kernel⟩
theorem b_lefts : BindOk "lefts" "lefts" s_lefts ["rows", "weights"] := fun _ _ _ _ _ _ us hl => match us, hl with | [_, _], _ => rfl
abbrev N_nearest : List Str := ["rows", "row", "weights", "left", "shares"]
theorem sc_nearest : FnScope ["rows", "row", "weights", "left", "shares"] ["rows", "row", "weights"] (defScope s_nearest) := ⟨rfl, rfl, rfl, by decide +kernel, rfl, by decide +kernel, by decide +kernel⟩
theorem b_nearest : BindOk "nearest" "nearest" s_nearest ["rows", "row", "weights"] := fun _ _ _ _ _ _ us hl => match us, hl with | [_, _, _], _ => rfl
abbrev N_turned : List Str := ["table", "wide", "k", "row"]
theorem sc_turned : FnScope ["table", "wide", "k", "row"] ["table", "wide"] (defScope s_turned) := ⟨rfl, rfl, rfl, by decide +kernel, rfl, by decide +kernel, by decide +kernel⟩
theorem b_turned : BindOk "turned" "turned" s_turned ["table", "wide"] := fun _ _ _ _ _ _ us hl => match us, hl with | [_, _], _ => rfl
def retScope (b : List Stmt) : Scope := match b with
  | [.Return (some (.ListComp _ _ sc _)) _] => sc
  | _ => ⟨.function, [], false, false, []⟩
theorem rows_get {K : PySem.W.Frag} {H : Hp} {xs : List V} {rows : List Row} {i : Nat} {v : V} (h : DpAll K H xs (rows.map encR)) (hv : xs[i]? = some v) : ∃ r, rows[i]? = some r ∧ Dp K H v (encR r) := by
  obtain ⟨d, h1, h2⟩ := h.get' hv
  rw [List.getElem?_map] at h1
  cases e : rows[i]? with
  | none =>
    rw [e] at h1
    cases h1
  | some r =>
    rw [e] at h1
    cases Option.some.inj h1
    exact ⟨r, rfl, h2⟩
section
variable {P : Program} {w : World} {K : PySem.W.Frag} {mg : Str → Option Value} {base : Heap} {aN aO : Addr}
theorem k_lefts (T : Txt K mg aN aO) (F : DefAt K mg "lefts" s_lefts) (c_parted : C8.Cal P w K mg base 6 "parted" (spParted K) []) : C8.Cal P w K mg base 7 "lefts" (spLefts K) [] := by
  refine cal_of F sc_lefts b_lefts (fun vs H Q E h => ?_) (fun f cdv A outer s H vs Q E hr h => ?_)
  · obtain ⟨x, z, rows, ws, rfl, _⟩ := h
    rfl
  · obtain ⟨x, z, rows, ws, rfl, hx, hz, hwl, hrl, hsh, ok, hQ⟩ := h
    obtain ⟨pr, xs, rfl, hs, hd⟩ := dp_list hx
    have hlen := hd.length
    rw [List.length_map] at hlen
    refine ⟨_, (pss_cons (ps_set (i := 2) sc_lefts.nd rfl (Or.inl rfl) (pe_lst pa_nil))
    (pss_cons (ps_for PassesOwn.never rfl (pi_list (pv 0)) (pg_name (i := 3) sc_lefts.nd rfl (Or.inl rfl))
    (pss_one (ps_expr (pe_bm PySem.F.plainAttrs_list PySem.F.slot_list_append PySem.F.type_list_append mt_append (pv 2) (pa_cons (C8.pe_c c_parted hr (by decide) rfl (pa_cons (pv 3) (pa_cons (pv 2) (pa_cons (pv 1) pa_nil)))) pa_nil)))))
    (pss_one (ps_ret (pv 2))))), ?_⟩
    refine ⟨Nat.zero_le _, fun D hD => ?_⟩
    have s0 : Same H (upd H D (.lst [])) := same_new hD
    refine ⟨_, rfl, pr, rfl, ⟨xs, s0.seq hs⟩, for_list (K := K) (a := pr) (xs := xs) (fun k σ H' => Same H H' ∧ ∃ rv ys, σ = [some (V.ref pr), some z, some (V.ref D), rv] ∧ H' D = some (.lst ys) ∧ DpAll K (dif H (rem H' D)) ys ((lefts (rows.take k) ws).map encP))
      ⟨s0, Option.none, [], rfl, upd_same, .nil⟩ (fun k σ H' _ hP => hP.1.seq hs) (fun k v σ H' hv hP => ?_) (fun σ H' hP => ?_)⟩
    · obtain ⟨m1, rv, ys, rfl, hL, hY⟩ := hP
      obtain ⟨r, er, hr2⟩ := rows_get hd hv
      have hk := (List.getElem?_eq_some_iff.mp er).1
      have hll := lefts_take rows ws k (by omega)
      have hrr := hsh r (List.mem_of_getElem? er)
      refine ⟨_, rfl, .inl ⟨rfl, _, SqL.of hL⟩, _, rfl, _, rfl, _, rfl, v, .ref D, z, r, lefts (rows.take k) ws, ws, rfl, dp_same m1 hr2, .lst (SqL.of hL) (dps_same ((dif_sub _ _).trans (rem_sub _ _)) hY), dp_same m1 hz, by omega, by omega, hrr,
        (by rw [hrr]; exact lefts_shape rows ws _ hsh k (by omega)), ok k r er, fun H2 u n2 h2 => ?_⟩
      have hL2 := n2 _ _ hL
      have yl := hY.length
      rw [List.length_map, hll] at yl
      refine ⟨D, ys, u, rfl, rfl, hL2, len_small (by omega), same_put (m1.trans n2) hD, _, _, rfl, upd_same, ?_⟩
      rw [rem_upd, take_more er, lefts_snoc, List.map_append]
      refine (dps_same (dif_grow (rem_same n2)) hY).snoc ?_
      have e : Same (dif H' H2) (dif H (rem H2 D)) := fun b o q => by
        have q1 := dif_rem hL _ _ q
        have q2 := dif_late m1 _ _ q
        rcases dif_cases H b with ⟨xs', h'⟩ | h'
        · rw [dif_lst h'] at q2
          cases q2
        · rw [dif_not h']
          exact q1
      exact dp_same e h2
    · obtain ⟨m1, rv, ys, rfl, hL, hY⟩ := hP
      rw [hlen, List.take_length] at hY
      exact ⟨_, rfl, hQ _ _ m1 (dif_new hD hL (dps_same (dif_grow (rem_sub _ _)) hY))⟩
theorem k_nearest (T : Txt K mg aN aO) (F : DefAt K mg "nearest" s_nearest) (c_parted : C8.Cal P w K mg base 6 "parted" (spParted K) []) (c_lefts : C8.Cal P w K mg base 7 "lefts" (spLefts K) []) : C8.Cal P w K mg base 8 "nearest" (spNearest K) [] := by
  refine cal_of F sc_nearest b_nearest (fun vs H Q E h => ?_) (fun f cdv A outer s H vs Q E hr h => ?_)
  · obtain ⟨x, y, z, rows, row, ws, rfl, _⟩ := h
    rfl
  · obtain ⟨x, y, z, rows, row, ws, rfl, hx, hy, hz, hwl, hrl, hsh, hr2, ok, ok2, hQ⟩ := h
    refine ⟨_, (pss_cons (ps_asg (C8.pe_c c_parted hr (by decide) rfl (pa_cons (pv 1) (pa_cons (C8.pe_c c_lefts hr (by decide) rfl (pa_cons (pv 0) (pa_cons (pv 2) pa_nil))) (pa_cons (pv 2) pa_nil)))) (pg_tup rfl (pgs_cons (pg_name (i := 3) sc_nearest.nd rfl (Or.inl rfl)) (pgs_cons (pg_name (i := 4) sc_nearest.nd rfl (Or.inl rfl)) pgs_nil))))
    (pss_one (ps_ret (pe_tup (pa_cons (pv 4) (pa_cons (pv 3) pa_nil)))))), ?_⟩
    refine ⟨_, rfl, _, rfl, _, rfl, _, _, rows, ws, rfl, hx, hz, hwl, hrl, hsh, ok, fun H1 v1 n1 h1 => ?_⟩
    have hll := lefts_len ws _ rows rfl
    have hss := lefts_shape rows ws ws.length hsh rows.length (Nat.le_refl _)
    rw [List.take_length] at hss
    refine ⟨_, rfl, _, _, _, row, lefts rows ws, ws, rfl, dp_same n1 hy, dp_same (dif_sub _ _) h1, dp_same n1 hz, by omega, by omega, hr2, (by rw [hr2]; exact hss), ok2, fun H2 v2 n2 h2 => ?_⟩
    have m2 := n1.trans n2
    obtain ⟨a, u1, u2, rfl, ha, hu1, hu2⟩ := dp_pair h2
    refine ⟨a, _, rfl, (dif_sub _ _).tup ha, rfl, _, _, rfl, _, _, rfl, rfl, ?_⟩
    refine ⟨_, rfl, _, rfl, (by show 2 ≤ sizeLine; decide), fun t ht => ?_⟩
    have n3 : Same H2 (upd H2 t (.tup [u2, u1])) := same_new ht
    have e : Same (dif H1 H2) (dif H (upd H2 t (.tup [u2, u1]))) := (dif_late n1).trans (dif_grow n3)
    exact hQ _ _ (m2.trans n3) (.tup (dif_tup (m2.trans n3) (SqT.of upd_same)) (.cons (dp_same e hu2) (.cons (dp_same e hu1) .nil)))
theorem k_turned (T : Txt K mg aN aO) (F : DefAt K mg "turned" s_turned) : C8.Cal P w K mg base 1 "turned" (spTurned K) [] := by
  refine cal_of F sc_turned b_turned (fun vs H Q E h => ?_) (fun f cdv A outer s H vs Q E hr h => ?_)
  · obtain ⟨x, rows, m, rfl, _⟩ := h
    rfl
  · obtain ⟨x, rows, m, rfl, hx, hrl, hml, hsh, hQ⟩ := h
    obtain ⟨pr, xs, rfl, hs, hd⟩ := dp_list hx
    have hlen := hd.length
    rw [List.length_map] at hlen
    refine ⟨_, (pss_one (ps_ret (pe_lc (own := [("k", 2)]) rfl sc_turned.nd (pi_range1 rfl T.range (pa_cons (pv 1) pa_nil)) (blkOk_by (own := [("k", 2)]) (N := N_turned) (sc := defScope s_turned) (by decide +kernel)) (fun _ _ _ _ _ => (pg_name (i := 2) sc_turned.nd rfl (Or.inr rfl))) (fun _ _ _ _ _ => pts_nil) (fun _ _ _ _ _ => (pe_lc (own := [("row", 3)]) rfl sc_turned.nd (pi_listK (K := K) rfl (pv 0)) (blkOk_by (own := [("row", 3)]) (N := N_turned) (sc := relS (retScope (defBody s_turned)) (defScope s_turned)) (by decide +kernel)) (fun _ _ _ _ _ => (pg_name (i := 3) sc_turned.nd rfl (Or.inl rfl))) (fun _ _ _ _ _ => pts_nil) (fun _ _ _ _ _ => (pe_ix (ix_listK (K := K) rfl) (pv 3) (pv 2) (fun _ _ => rfl)))))))), ?_⟩
    refine ⟨_, rfl, (m : Nat), rfl, by omega, by omega, fun D hD => lc_by (n := m) (fun k H' => Same H H' ∧ ∃ ys, H' D = some (.lst ys) ∧ DpAll K (dif H (rem H' D)) ys ((colsR rows k).map encR))
      ⟨same_new hD, [], upd_same, .nil⟩ (fun k H' hk hP => ?_) (fun H' hP => ?_)⟩
    · obtain ⟨m1, ys, hL, hY⟩ := hP
      refine ⟨by show k < ((m : Nat) : Int).toNat; omega, fun v H1 hv => ?_⟩
      obtain ⟨rfl, rfl⟩ := hv
      refine ⟨rfl, ?_⟩
      refine ⟨_, rfl, pr, rfl, ⟨xs, m1.seq hs⟩, fun D2 hD2 => lc_list (K := K) (a := pr) (xs := xs) (fun i H2 => Same H1 H2 ∧ ∃ zs, H2 D2 = some (.lst zs) ∧ DpAll K (rem H2 D2) zs (encs ((rows.take i).map fun r => r.getD k 0)))
        ⟨same_new hD2, [], upd_same, .nil⟩ (fun i H2 _ hP => hP.1.seq (m1.seq hs)) (fun i x H2 hx hP => ?_) (fun H2 hP => ?_)⟩
      · obtain ⟨m2, zs, hL2, hZ⟩ := hP
        obtain ⟨r, er, hr2⟩ := rows_get hd hx
        have m12 := m1.trans m2
        have hrk : r[k]? = some (r.getD k 0) := by
          have := hsh r (List.mem_of_getElem? er)
          rw [List.getD_eq_getElem?_getD, List.getElem?_eq_getElem (by omega)]
          rfl
        obtain ⟨p, us, u, rfl, q1, q2, q3⟩ := lst_at (dp_same m12 hr2) hrk
        refine ⟨rfl, ?_⟩
        refine ⟨_, rfl, _, rfl, p, us, _, u, rfl, rfl, q1, by rw [Int.zero_add]; exact q2, ?_⟩
        refine ⟨_, hL2, len_small ?_, same_put m2 hD2, _, upd_same, ?_⟩
        · rw [hZ.length, encs_len, List.length_map]
          exact Nat.le_trans (List.length_take_le _ _) (by have := (List.getElem?_eq_some_iff.mp er).1; omega)
        · rw [rem_upd, take_more er, List.map_append, encs_app]
          exact hZ.snoc (rem_q q3 hL2)
      · obtain ⟨m2, zs, hL2, hZ⟩ := hP
        rw [hlen, List.take_length] at hZ
        have hLD := m2 _ _ hL
        have yl := hY.length
        unfold colsR at yl
        rw [List.length_map, List.length_map, List.length_range] at yl
        refine ⟨ys, hLD, len_small (by omega), same_put (m1.trans m2) hD, _, upd_same, ?_⟩
        rw [rem_upd]
        have e : (colsR rows (k + 1)).map encR = (colsR rows k).map encR ++ [encR (rows.map fun r => r.getD k 0)] := by
          unfold colsR
          rw [List.range_succ, List.map_append, List.map_append]
          rfl
        rw [e]
        have hne : D2 ≠ D := (ne_of_none hL hD2).symm
        refine (dps_same (dif_grow (rem_same m2)) hY).snoc (dif_new (m1.free hD2) (by rw [rem_ne hne]; exact hL2) (dif_qs (same_rem (m1.trans m2) hD) (rem_qs hLD (dps_same (rem_sub _ _) hZ))))
    · obtain ⟨m1, ys, hL, hY⟩ := hP
      exact ⟨by show ((m : Nat) : Int).toNat ≤ m; omega, hQ _ _ m1 (dif_new hD hL (dps_same (dif_grow (rem_sub _ _)) hY))⟩
end
end Np
end
section
set_option linter.all false
set_option exponentiation.threshold 5000
/-! Sizes: numbers with a common bottom. -/
namespace Np
def Cd (D N : Nat) (q : Rat) : Prop := ∃ z : Int, q * (D : Rat) = (z : Rat) ∧ z.natAbs ≤ N
def Cv (d n : Nat) (v : Row) : Prop := ∃ D : Nat, 0 < D ∧ D ≤ 2 ^ d ∧ ∀ q, q ∈ v → Cd D (2 ^ n) q
def Cq (d n : Nat) (q : Rat) : Prop := ∃ D : Nat, 0 < D ∧ D ≤ 2 ^ d ∧ Cd D (2 ^ n) q
theorem cast_pos {D : Nat} (h : 0 < D) : (D : Rat) ≠ 0 := by
  intro e
  have : ((D : Nat) : Rat) = ((0 : Nat) : Rat) := e
  rw [Rat.natCast_inj] at this
  omega
theorem cd_sz {D N : Nat} {q : Rat} (hD : 0 < D) (h : Cd D N q) : q.num.natAbs ≤ N ∧ q.den ≤ D := by
  obtain ⟨z, hz, hn⟩ := h
  have e1 : q * ((q.den : Nat) : Rat) = ((q.num : Int) : Rat) := by
    have := Rat.num_divInt_den q
    have hd : ((q.den : Nat) : Rat) ≠ 0 := cast_pos q.den_pos
    conv => lhs; lhs; rw [← this]
    rw [Rat.divInt_eq_div]
    have e : (((q.den : Nat) : Int) : Rat) = ((q.den : Nat) : Rat) := Rat.intCast_natCast _
    rw [e, Rat.div_mul_cancel hd]
  have e2 : ((q.num * (D : Int) : Int) : Rat) = ((z * (q.den : Nat) : Int) : Rat) := by
    rw [Rat.intCast_mul, Rat.intCast_mul, ← e1, ← hz, Rat.intCast_natCast, Rat.intCast_natCast]
    grind
  have e3 : q.num * (D : Int) = z * (q.den : Nat) := Rat.intCast_inj.mp e2
  have e4 : q.num.natAbs * D = z.natAbs * q.den := by
    have := congrArg Int.natAbs e3
    rw [Int.natAbs_mul, Int.natAbs_mul] at this
    exact this
  have hdvd : q.den ∣ D := by
    have h1 : q.den ∣ q.num.natAbs * D := ⟨z.natAbs, by rw [e4, Nat.mul_comm]⟩
    exact Nat.Coprime.dvd_of_dvd_mul_left (Nat.Coprime.symm q.reduced) h1
  have hle := Nat.le_of_dvd hD hdvd
  refine ⟨?_, hle⟩
  have : q.num.natAbs * D ≤ z.natAbs * D := by rw [e4]; exact Nat.mul_le_mul_left _ hle
  exact Nat.le_trans (Nat.le_of_mul_le_mul_right this hD) hn
theorem Cd.mono {D N N' : Nat} {q : Rat} (h : Cd D N q) (hn : N ≤ N') : Cd D N' q := by
  obtain ⟨z, a, b⟩ := h
  exact ⟨z, a, Nat.le_trans b hn⟩
theorem Cd.mul {D1 N1 D2 N2 : Nat} {a b : Rat} (h1 : Cd D1 N1 a) (h2 : Cd D2 N2 b) : Cd (D1 * D2) (N1 * N2) (a * b) := by
  obtain ⟨z1, e1, n1⟩ := h1
  obtain ⟨z2, e2, n2⟩ := h2
  refine ⟨z1 * z2, ?_, ?_⟩
  · rw [Rat.natCast_mul, Rat.intCast_mul, ← e1, ← e2]
    grind
  · rw [Int.natAbs_mul]
    exact Nat.mul_le_mul n1 n2
theorem Cd.add {D N1 N2 : Nat} {a b : Rat} (h1 : Cd D N1 a) (h2 : Cd D N2 b) : Cd D (N1 + N2) (a + b) := by
  obtain ⟨z1, e1, n1⟩ := h1
  obtain ⟨z2, e2, n2⟩ := h2
  refine ⟨z1 + z2, ?_, by omega⟩
  rw [Rat.intCast_add, ← e1, ← e2]
  grind
theorem Cd.sub {D N1 N2 : Nat} {a b : Rat} (h1 : Cd D N1 a) (h2 : Cd D N2 b) : Cd D (N1 + N2) (a - b) := by
  obtain ⟨z1, e1, n1⟩ := h1
  obtain ⟨z2, e2, n2⟩ := h2
  refine ⟨z1 - z2, ?_, by omega⟩
  rw [Rat.intCast_sub, ← e1, ← e2]
  grind
theorem Cd.up {D N : Nat} {a : Rat} (h : Cd D N a) (k : Nat) : Cd (D * k) (N * k) a := by
  obtain ⟨z, e, n⟩ := h
  refine ⟨z * k, ?_, ?_⟩
  · rw [Rat.natCast_mul, Rat.intCast_mul, ← e, Rat.intCast_natCast]
    grind
  · rw [Int.natAbs_mul]
    exact Nat.mul_le_mul_right _ n
theorem Cd.zero (D N : Nat) : Cd D N 0 := ⟨0, by rw [Rat.zero_mul]; rfl, Nat.zero_le _⟩
theorem Cd.div {D1 N1 D2 N2 : Nat} {a b : Rat} (h1 : Cd D1 N1 a) (h2 : Cd D2 N2 b) (hb : b ≠ 0) (p1 : 0 < D1) (p2 : 0 < D2) : ∃ D, 0 < D ∧ D ≤ D1 * N2 ∧ Cd D (N1 * D2) (a / b) := by
  obtain ⟨z1, e1, n1⟩ := h1
  obtain ⟨z2, e2, n2⟩ := h2
  have hz : z2 ≠ 0 := fun e => by
    rw [e] at e2
    rcases Rat.mul_eq_zero.mp (show b * (D2 : Rat) = 0 from e2) with q | q
    · exact hb q
    · exact cast_pos p2 q
  have hz2 : 0 < z2.natAbs := by omega
  refine ⟨D1 * z2.natAbs, Nat.mul_pos p1 hz2, Nat.mul_le_mul_left _ n2, z1 * (z2.sign * D2), ?_, ?_⟩
  · have e3 : ((z2.natAbs : Nat) : Rat) = ((z2.sign * z2 : Int) : Rat) := by
      have e : ((z2.natAbs : Nat) : Int) = z2.sign * z2 := by
        rcases Int.lt_or_gt_of_ne hz with q | q
        · rw [Int.sign_eq_neg_one_of_neg q]
          omega
        · rw [Int.sign_eq_one_of_pos q]
          omega
      rw [← Rat.intCast_natCast, e]
    rw [Rat.natCast_mul, e3, Rat.intCast_mul, Rat.intCast_mul, Rat.intCast_mul, Rat.intCast_natCast, ← e1, ← e2, Rat.div_def]
    have e4 : b⁻¹ * b = 1 := Rat.inv_mul_cancel b hb
    grind
  · rw [Int.natAbs_mul, Int.natAbs_mul, Int.natAbs_sign_of_ne_zero hz, Nat.one_mul]
    exact Nat.mul_le_mul_right _ n1
theorem pow_lt {a b : Nat} (h : a ≤ b) : 2 ^ a ≤ 2 ^ b := Nat.pow_le_pow_right (by decide) h
theorem Cq.sz {d n : Nat} {q : Rat} (h : Cq d n q) (hd : d ≤ 1919) (hn : n ≤ 1919) : Sz q := by
  obtain ⟨D, h1, h2, h3⟩ := h
  obtain ⟨a, b⟩ := cd_sz h1 h3
  have e1 : 2 ^ d ≤ 2 ^ 1919 := pow_lt hd
  have e2 : 2 ^ n ≤ 2 ^ 1919 := pow_lt hn
  have e3 : (2 : Nat) ^ 1919 < 2 ^ 1920 := Nat.pow_lt_pow_right (by decide) (by decide)
  generalize (2 : Nat) ^ 1919 = M at *
  generalize hK : (2 : Nat) ^ 1920 = L at *
  unfold Sz
  rw [hK]
  exact ⟨Nat.lt_of_le_of_lt (Nat.le_trans a e2) e3, Nat.lt_of_le_of_lt (Nat.le_trans b (Nat.le_trans h2 e1)) e3⟩
theorem Cq.mono {d n d' n' : Nat} {q : Rat} (h : Cq d n q) (hd : d ≤ d') (hn : n ≤ n') : Cq d' n' q := by
  obtain ⟨D, h1, h2, h3⟩ := h
  exact ⟨D, h1, Nat.le_trans h2 (pow_lt hd), h3.mono (pow_lt hn)⟩
theorem Cv.mono {d n d' n' : Nat} {v : Row} (h : Cv d n v) (hd : d ≤ d') (hn : n ≤ n') : Cv d' n' v := by
  obtain ⟨D, h1, h2, h3⟩ := h
  exact ⟨D, h1, Nat.le_trans h2 (pow_lt hd), fun q hq => (h3 q hq).mono (pow_lt hn)⟩
theorem Cv.at {d n : Nat} {v : Row} {q : Rat} (h : Cv d n v) (hq : q ∈ v) : Cq d n q := by
  obtain ⟨D, h1, h2, h3⟩ := h
  exact ⟨D, h1, h2, h3 q hq⟩
theorem Cv.nil (d n : Nat) : Cv d n [] := ⟨1, by decide, Nat.one_le_two_pow, fun q hq => by cases hq⟩
theorem Cq.mul {d1 n1 d2 n2 : Nat} {a b : Rat} (h1 : Cq d1 n1 a) (h2 : Cq d2 n2 b) : Cq (d1 + d2) (n1 + n2) (a * b) := by
  obtain ⟨D1, a1, a2, a3⟩ := h1
  obtain ⟨D2, b1, b2, b3⟩ := h2
  refine ⟨D1 * D2, Nat.mul_pos a1 b1, ?_, ?_⟩
  · rw [Nat.pow_add]
    exact Nat.mul_le_mul a2 b2
  · rw [Nat.pow_add]
    exact a3.mul b3
theorem Cq.div {d1 n1 d2 n2 : Nat} {a b : Rat} (h1 : Cq d1 n1 a) (h2 : Cq d2 n2 b) (hb : b ≠ 0) : Cq (d1 + n2) (n1 + d2) (a / b) := by
  obtain ⟨D1, a1, a2, a3⟩ := h1
  obtain ⟨D2, b1, b2, b3⟩ := h2
  obtain ⟨D, c1, c2, c3⟩ := a3.div b3 hb a1 b1
  refine ⟨D, c1, ?_, ?_⟩
  · rw [Nat.pow_add]
    exact Nat.le_trans c2 (Nat.mul_le_mul_right _ a2)
  · rw [Nat.pow_add]
    exact c3.mono (Nat.mul_le_mul_left _ b2)
/-- two numbers, one bottom -/
theorem Cq.add {d1 n1 d2 n2 : Nat} {a b : Rat} (h1 : Cq d1 n1 a) (h2 : Cq d2 n2 b) : Cq (d1 + d2) (max (n1 + d2) (n2 + d1) + 1) (a + b) := by
  obtain ⟨D1, a1, a2, a3⟩ := h1
  obtain ⟨D2, b1, b2, b3⟩ := h2
  refine ⟨D1 * D2, Nat.mul_pos a1 b1, ?_, ?_⟩
  · rw [Nat.pow_add]
    exact Nat.mul_le_mul a2 b2
  · have h := (a3.up D2).add (by
      have := b3.up D1
      rw [Nat.mul_comm D2 D1] at this
      exact this)
    refine h.mono ?_
    have e1 : 2 ^ n1 * D2 ≤ 2 ^ (max (n1 + d2) (n2 + d1)) := Nat.le_trans (Nat.mul_le_mul_left _ b2) (by rw [← Nat.pow_add]; exact pow_lt (by omega))
    have e2 : 2 ^ n2 * D1 ≤ 2 ^ (max (n1 + d2) (n2 + d1)) := Nat.le_trans (Nat.mul_le_mul_left _ a2) (by rw [← Nat.pow_add]; exact pow_lt (by omega))
    rw [Nat.pow_succ]
    omega
/-! ### dots -/
theorem dot_go {Da Db Dc na nb nc : Nat} {D N : Nat} (hD : D = Da * Db * Dc) (hN : N = 2 ^ na * 2 ^ nb * 2 ^ nc) (pa : 0 < Da) (pb : 0 < Db) (pc : 0 < Dc) (hsD : D ≤ 2 ^ 1919) {L : Nat} (hsN : L * N ≤ 2 ^ 1919) :
    ∀ (a b c : Row) (j : Nat) (acc : Rat), j + a.length ≤ L → (∀ q, q ∈ a → Cd Da (2 ^ na) q) → (∀ q, q ∈ b → Cd Db (2 ^ nb) q) → (∀ q, q ∈ c → Cd Dc (2 ^ nc) q) → Cd D (j * N) acc →
      DotOk a b c acc ∧ Cd D (L * N) (acc + dot3 a b c)
  | [], b, c, j, acc, hl, _, _, _, h => by
    refine ⟨trivial, ?_⟩
    show Cd D (L * N) (acc + 0)
    rw [Rat.add_zero]
    exact h.mono (Nat.mul_le_mul_right _ (by have : j + 0 ≤ L := hl; omega))
  | _ :: _, [], c, j, acc, hl, _, _, _, h => by
    refine ⟨trivial, ?_⟩
    show Cd D (L * N) (acc + 0)
    rw [Rat.add_zero]
    exact h.mono (Nat.mul_le_mul_right _ (by omega))
  | _ :: _, _ :: _, [], j, acc, hl, _, _, _, h => by
    refine ⟨trivial, ?_⟩
    show Cd D (L * N) (acc + 0)
    rw [Rat.add_zero]
    exact h.mono (Nat.mul_le_mul_right _ (by omega))
  | x :: a, y :: b, z :: c, j, acc, hl, ha, hb, hc, h => by
    have hx := ha x List.mem_cons_self
    have hy := hb y List.mem_cons_self
    have hz := hc z List.mem_cons_self
    have hxy := hx.mul hy
    have hxyz := hxy.mul hz
    rw [← hD, ← hN] at hxyz
    have hlen : j + (a.length + 1) ≤ L := hl
    have p1 : 1 ≤ 2 ^ na := Nat.one_le_two_pow
    have p2 : 1 ≤ 2 ^ nb := Nat.one_le_two_pow
    have p3 : 1 ≤ 2 ^ nc := Nat.one_le_two_pow
    have hN1 : N ≤ 2 ^ 1919 := Nat.le_trans (Nat.le_mul_of_pos_left _ (by omega)) hsN
    have hDD : Da * Db ≤ D := by rw [hD]; exact Nat.le_mul_of_pos_right _ pc
    have hNN : 2 ^ na * 2 ^ nb ≤ N := by rw [hN]; exact Nat.le_mul_of_pos_right _ p3
    have hDa : Da ≤ D := Nat.le_trans (Nat.le_mul_of_pos_right _ pb) hDD
    have hDb : Db ≤ D := Nat.le_trans (Nat.le_mul_of_pos_left _ pa) hDD
    have hDc : Dc ≤ D := by rw [hD]; exact Nat.le_mul_of_pos_left _ (Nat.mul_pos pa pb)
    have hNa : 2 ^ na ≤ N := Nat.le_trans (Nat.le_mul_of_pos_right _ p2) hNN
    have hNb : 2 ^ nb ≤ N := Nat.le_trans (Nat.le_mul_of_pos_left _ p1) hNN
    have hNc : 2 ^ nc ≤ N := by rw [hN]; exact Nat.le_mul_of_pos_left _ (Nat.mul_pos p1 p2)
    have tz : ∀ {D' N' : Nat} {q : Rat}, 0 < D' → D' ≤ D → N' ≤ 2 ^ 1919 → Cd D' N' q → Sz q := fun {D' N' q} k1 k2 k3 k4 =>
      (show Cq 1919 1919 q from ⟨D', k1, Nat.le_trans k2 hsD, k4.mono k3⟩).sz (Nat.le_refl _) (Nat.le_refl _)
    have pD : 0 < D := by rw [hD]; exact Nat.mul_pos (Nat.mul_pos pa pb) pc
    have hacc : Cd D ((j + 1) * N) (acc + x * y * z) := by
      rw [Nat.add_mul, Nat.one_mul]
      exact h.add hxyz
    have ih := dot_go hD hN pa pb pc hsD hsN a b c (j + 1) (acc + x * y * z) (by omega) (fun q hq => ha q (List.mem_cons_of_mem _ hq)) (fun q hq => hb q (List.mem_cons_of_mem _ hq)) (fun q hq => hc q (List.mem_cons_of_mem _ hq)) hacc
    refine ⟨⟨tz pa hDa (Nat.le_trans hNa hN1) hx, tz pb hDb (Nat.le_trans hNb hN1) hy, tz pc hDc (Nat.le_trans hNc hN1) hz, tz (Nat.mul_pos pa pb) hDD (Nat.le_trans hNN hN1) hxy, tz pD (Nat.le_refl _) hN1 hxyz, ?_, ih.1⟩, ?_⟩
    · exact tz pD (Nat.le_refl _) (Nat.le_trans (Nat.mul_le_mul_right _ (by omega)) hsN) h
    · show Cd D (L * N) (acc + (x * y * z + dot3 a b c))
      rw [← Rat.add_assoc]
      exact ih.2
theorem dot_ok {a b c : Row} {da na db nb dc nc e : Nat} (ha : Cv da na a) (hb : Cv db nb b) (hc : Cv dc nc c) (hl : a.length ≤ 2 ^ e) (hd : da + db + dc ≤ 1919) (hn : na + nb + nc + e ≤ 1919) :
    DotOk a b c 0 ∧ Cq (da + db + dc) (na + nb + nc + e) (dot3 a b c) := by
  obtain ⟨Da, a1, a2, a3⟩ := ha
  obtain ⟨Db, b1, b2, b3⟩ := hb
  obtain ⟨Dc, c1, c2, c3⟩ := hc
  have hD : Da * Db * Dc ≤ 2 ^ (da + db + dc) := by
    rw [Nat.pow_add, Nat.pow_add]
    exact Nat.mul_le_mul (Nat.mul_le_mul a2 b2) c2
  have hN : 2 ^ e * (2 ^ na * 2 ^ nb * 2 ^ nc) = 2 ^ (na + nb + nc + e) := by
    rw [Nat.pow_add, Nat.pow_add, Nat.pow_add, Nat.mul_comm]
  obtain ⟨r1, r2⟩ := dot_go rfl rfl a1 b1 c1 (Nat.le_trans hD (pow_lt hd)) (by rw [hN]; exact pow_lt hn) a b c 0 0 (by rw [Nat.zero_add]; exact hl) a3 b3 c3 (Cd.zero _ _)
  refine ⟨r1, Da * Db * Dc, Nat.mul_pos (Nat.mul_pos a1 b1) c1, hD, ?_⟩
  rw [← hN]
  rw [Rat.zero_add] at r2
  exact r2
theorem dot2_go {Da Db na nb : Nat} {D N : Nat} (hD : D = Da * Db) (hN : N = 2 ^ na * 2 ^ nb) (pa : 0 < Da) (pb : 0 < Db) (hsD : D ≤ 2 ^ 1919) {L : Nat} (hsN : L * N ≤ 2 ^ 1919) :
    ∀ (a b : Row) (j : Nat) (acc : Rat), j + a.length ≤ L → (∀ q, q ∈ a → Cd Da (2 ^ na) q) → (∀ q, q ∈ b → Cd Db (2 ^ nb) q) → Cd D (j * N) acc →
      Dot2Ok a b acc ∧ Cd D (L * N) (acc + dot2 a b)
  | [], b, j, acc, hl, _, _, h => by
    refine ⟨trivial, ?_⟩
    have e : dot2 [] b = 0 := dot2_nil_left b
    rw [e, Rat.add_zero]
    exact h.mono (Nat.mul_le_mul_right _ (by have : j + 0 ≤ L := hl; omega))
  | _ :: _, [], j, acc, hl, _, _, h => by
    refine ⟨trivial, ?_⟩
    show Cd D (L * N) (acc + 0)
    rw [Rat.add_zero]
    exact h.mono (Nat.mul_le_mul_right _ (by omega))
  | x :: a, y :: b, j, acc, hl, ha, hb, h => by
    have hx := ha x List.mem_cons_self
    have hy := hb y List.mem_cons_self
    have hxy := hx.mul hy
    rw [← hD, ← hN] at hxy
    have hlen : j + (a.length + 1) ≤ L := hl
    have p1 : 1 ≤ 2 ^ na := Nat.one_le_two_pow
    have p2 : 1 ≤ 2 ^ nb := Nat.one_le_two_pow
    have hN1 : N ≤ 2 ^ 1919 := Nat.le_trans (Nat.le_mul_of_pos_left _ (by omega)) hsN
    have hDa : Da ≤ D := by rw [hD]; exact Nat.le_mul_of_pos_right _ pb
    have hDb : Db ≤ D := by rw [hD]; exact Nat.le_mul_of_pos_left _ pa
    have hNa : 2 ^ na ≤ N := by rw [hN]; exact Nat.le_mul_of_pos_right _ p2
    have hNb : 2 ^ nb ≤ N := by rw [hN]; exact Nat.le_mul_of_pos_left _ p1
    have tz : ∀ {D' N' : Nat} {q : Rat}, 0 < D' → D' ≤ D → N' ≤ 2 ^ 1919 → Cd D' N' q → Sz q := fun {D' N' q} k1 k2 k3 k4 =>
      (show Cq 1919 1919 q from ⟨D', k1, Nat.le_trans k2 hsD, k4.mono k3⟩).sz (Nat.le_refl _) (Nat.le_refl _)
    have pD : 0 < D := by rw [hD]; exact Nat.mul_pos pa pb
    have hacc : Cd D ((j + 1) * N) (acc + x * y) := by
      rw [Nat.add_mul, Nat.one_mul]
      exact h.add hxy
    have ih := dot2_go hD hN pa pb hsD hsN a b (j + 1) (acc + x * y) (by omega) (fun q hq => ha q (List.mem_cons_of_mem _ hq)) (fun q hq => hb q (List.mem_cons_of_mem _ hq)) hacc
    refine ⟨⟨tz pa hDa (Nat.le_trans hNa hN1) hx, tz pb hDb (Nat.le_trans hNb hN1) hy, tz pD (Nat.le_refl _) hN1 hxy, ?_, ih.1⟩, ?_⟩
    · exact tz pD (Nat.le_refl _) (Nat.le_trans (Nat.mul_le_mul_right _ (by omega)) hsN) h
    · show Cd D (L * N) (acc + (x * y + dot2 a b))
      rw [← Rat.add_assoc]
      exact ih.2
theorem dot2_ok {a b : Row} {da na db nb e : Nat} (ha : Cv da na a) (hb : Cv db nb b) (hl : a.length ≤ 2 ^ e) (hd : da + db ≤ 1919) (hn : na + nb + e ≤ 1919) :
    Dot2Ok a b 0 ∧ Cq (da + db) (na + nb + e) (dot2 a b) := by
  obtain ⟨Da, a1, a2, a3⟩ := ha
  obtain ⟨Db, b1, b2, b3⟩ := hb
  have hD : Da * Db ≤ 2 ^ (da + db) := by
    rw [Nat.pow_add]
    exact Nat.mul_le_mul a2 b2
  have hN : 2 ^ e * (2 ^ na * 2 ^ nb) = 2 ^ (na + nb + e) := by
    rw [Nat.pow_add, Nat.pow_add, Nat.mul_comm]
  obtain ⟨r1, r2⟩ := dot2_go rfl rfl a1 b1 (Nat.le_trans hD (pow_lt hd)) (by rw [hN]; exact pow_lt hn) a b 0 0 (by rw [Nat.zero_add]; exact hl) a3 b3 (Cd.zero _ _)
  refine ⟨r1, Da * Db, Nat.mul_pos a1 b1, hD, ?_⟩
  rw [← hN]
  rw [Rat.zero_add] at r2
  exact r2
/-! ### rows -/
theorem cv_scaled {d n e m : Nat} {v : Row} {q : Rat} (h : Cv d n v) (hq : Cq e m q) : Cv (d + e) (n + m) (scaled v q) := by
  obtain ⟨D, a1, a2, a3⟩ := h
  obtain ⟨E, b1, b2, b3⟩ := hq
  refine ⟨D * E, Nat.mul_pos a1 b1, by rw [Nat.pow_add]; exact Nat.mul_le_mul a2 b2, fun x hx => ?_⟩
  obtain ⟨y, hy, rfl⟩ := List.mem_map.mp hx
  rw [Nat.pow_add]
  exact (a3 y hy).mul b3
theorem mem_taken : ∀ {a b : Row} {x : Rat}, x ∈ taken a b → ∃ y z, y ∈ a ∧ z ∈ b ∧ x = y - z
  | [], b, x, h => by cases b <;> cases h
  | _ :: _, [], x, h => by cases h
  | p :: a, q :: b, x, h => by
    rcases List.mem_cons.mp (show x ∈ (p - q) :: taken a b from h) with e | h
    · exact ⟨p, q, List.mem_cons_self, List.mem_cons_self, e⟩
    · obtain ⟨y, z, hy, hz, e⟩ := mem_taken h
      exact ⟨y, z, List.mem_cons_of_mem _ hy, List.mem_cons_of_mem _ hz, e⟩
theorem cv_taken {d n e m : Nat} {a b : Row} (h1 : Cv d n a) (h2 : Cv e m b) : Cv (d + e) (max (n + e) (m + d) + 1) (taken a b) := by
  obtain ⟨D, a1, a2, a3⟩ := h1
  obtain ⟨E, b1, b2, b3⟩ := h2
  refine ⟨D * E, Nat.mul_pos a1 b1, by rw [Nat.pow_add]; exact Nat.mul_le_mul a2 b2, fun x hx => ?_⟩
  obtain ⟨y, z, hy, hz, rfl⟩ := mem_taken hx
  have h := ((a3 y hy).up E).sub (by
    have := (b3 z hz).up D
    rw [Nat.mul_comm E D] at this
    exact this)
  refine h.mono ?_
  have e1 : 2 ^ n * E ≤ 2 ^ (max (n + e) (m + d)) := Nat.le_trans (Nat.mul_le_mul_left _ b2) (by rw [← Nat.pow_add]; exact pow_lt (by omega))
  have e2 : 2 ^ m * D ≤ 2 ^ (max (n + e) (m + d)) := Nat.le_trans (Nat.mul_le_mul_left _ a2) (by rw [← Nat.pow_add]; exact pow_lt (by omega))
  rw [Nat.pow_succ]
  omega
/-- the shares behind a step: one bottom for all -/
theorem cv_shares {d n e m g h : Nat} {a b : Row} {q : Rat} (h1 : Cv d n a) (h2 : Cv e m b) (hq : Cq g h q) : Cv (d + e + g) (max (n + e + g) (max m e + h + d) + 1) (taken a (scaled b q) ++ [q]) := by
  obtain ⟨D, a1, a2, a3⟩ := h1
  obtain ⟨E, b1, b2, b3⟩ := h2
  obtain ⟨G, c1, c2, c3⟩ := hq
  refine ⟨D * (E * G), Nat.mul_pos a1 (Nat.mul_pos b1 c1), ?_, fun x hx => ?_⟩
  · rw [Nat.add_assoc, Nat.pow_add, Nat.pow_add]
    exact Nat.mul_le_mul a2 (Nat.mul_le_mul b2 c2)
  · have big : ∀ k, k ≤ max (n + e + g) (max m e + h + d) → 2 ^ k ≤ 2 ^ (max (n + e + g) (max m e + h + d)) := fun k hk => pow_lt hk
    rcases List.mem_append.mp hx with hx | hx
    · obtain ⟨y, z, hy, hz, rfl⟩ := mem_taken hx
      obtain ⟨u, hu, rfl⟩ := List.mem_map.mp hz
      have k := ((a3 y hy).up (E * G)).sub (by
        have := ((b3 u hu).mul c3).up D
        rw [Nat.mul_comm (E * G) D] at this
        exact this)
      refine k.mono ?_
      have e1 : 2 ^ n * (E * G) ≤ 2 ^ (max (n + e + g) (max m e + h + d)) := Nat.le_trans (Nat.mul_le_mul_left _ (Nat.mul_le_mul b2 c2)) (by rw [← Nat.pow_add, ← Nat.pow_add]; exact big _ (by omega))
      have e2 : 2 ^ m * 2 ^ h * D ≤ 2 ^ (max (n + e + g) (max m e + h + d)) := Nat.le_trans (Nat.mul_le_mul_left _ a2) (by rw [← Nat.pow_add, ← Nat.pow_add]; exact big _ (by omega))
      rw [Nat.pow_succ]
      omega
    · rw [List.mem_singleton.mp hx]
      have k := c3.up (D * E)
      rw [show G * (D * E) = D * (E * G) by rw [Nat.mul_comm, Nat.mul_assoc]] at k
      refine k.mono ?_
      have e1 : 2 ^ h * (D * E) ≤ 2 ^ (max (n + e + g) (max m e + h + d)) := Nat.le_trans (Nat.mul_le_mul_left _ (Nat.mul_le_mul a2 b2)) (by rw [← Nat.pow_add, ← Nat.pow_add]; exact big _ (by omega))
      rw [Nat.pow_succ]
      omega
theorem cv_snoc0 {d n : Nat} {a : Row} (h : Cv d n a) : Cv d n (a ++ [0]) := by
  obtain ⟨D, a1, a2, a3⟩ := h
  refine ⟨D, a1, a2, fun x hx => ?_⟩
  rcases List.mem_append.mp hx with hx | hx
  · exact a3 x hx
  · rw [List.mem_singleton.mp hx]
    exact Cd.zero _ _
/-! ### weights above nought -/
theorem dot3_nonneg : ∀ (v w : Row), (∀ x, x ∈ w → 0 < x) → 0 ≤ dot3 v v w
  | [], w, _ => Rat.le_refl
  | _ :: _, [], _ => Rat.le_refl
  | x :: v, y :: w, h => by
    have ih := dot3_nonneg v w fun z hz => h z (List.mem_cons_of_mem _ hz)
    have h1 : 0 ≤ x * x * y := Rat.mul_nonneg (sq_nonneg x) (Rat.le_of_lt (h y List.mem_cons_self))
    show 0 ≤ x * x * y + dot3 v v w
    grind
theorem dot3_still : ∀ (v w : Row), v.length = w.length → (∀ x, x ∈ w → 0 < x) → dot3 v v w = 0 → still v = true
  | [], w, _, _, _ => rfl
  | x :: v, y :: w, hl, h, e => by
    have hn := dot3_nonneg v w fun z hz => h z (List.mem_cons_of_mem _ hz)
    have hy := h y List.mem_cons_self
    have h1 : 0 ≤ x * x * y := Rat.mul_nonneg (sq_nonneg x) (Rat.le_of_lt hy)
    have e' : x * x * y + dot3 v v w = 0 := e
    have e1 : x * x * y = 0 := by grind
    have e2 : dot3 v v w = 0 := by grind
    have ih := dot3_still v w (Nat.succ.inj hl) (fun z hz => h z (List.mem_cons_of_mem _ hz)) e2
    have hx : x = 0 := by
      rcases Rat.mul_eq_zero.mp e1 with q | q
      · rcases Rat.mul_eq_zero.mp q with q | q <;> exact q
      · grind
    show (x == 0 && still v) = true
    rw [ih, hx]
    rfl
theorem dot3_pos {v w : Row} (hl : v.length = w.length) (h : ∀ x, x ∈ w → 0 < x) (hs : still v = false) : 0 < dot3 v v w := by
  have h1 := dot3_nonneg v w h
  have h2 : dot3 v v w ≠ 0 := fun e => by
    rw [dot3_still v w hl h e] at hs
    cases hs
  grind
/-! ### the parts -/
structure Bits where
  d : Nat
  n : Nat
  e : Nat
  m : Nat
def Bits.next (a p : Bits) : Bits := ⟨a.d + (p.d + (11 + p.d + 2 * p.n)), max (a.n + (p.d + (11 + p.d + 2 * p.n))) (p.n + (14 + p.n + 2 * p.d) + a.d) + 1,
  a.e + p.e + (11 + p.d + 2 * p.n), max (a.m + p.e + (11 + p.d + 2 * p.n)) (max p.m p.e + (14 + p.n + 2 * p.d) + a.e) + 1⟩
structure Bd (b : Bits) (p : Part) : Prop where
  l : Cv b.d b.n p.1
  s : Cv b.e b.m p.2
def Bits.fine (a p : Bits) : Bool := decide (a.d ≤ 1919) && decide (a.n ≤ 1919) && decide (a.e ≤ 1919) && decide (a.m ≤ 1919) && decide ((a.next p).d ≤ 1919) && decide ((a.next p).n ≤ 1919) && decide ((a.next p).e ≤ 1919) && decide ((a.next p).m ≤ 1919) &&
  decide (p.d + p.d + 2 ≤ 1919) && decide (p.n + p.n + 3 + 3 ≤ 1919) && decide (p.e ≤ 1919) && decide (p.m ≤ 1919) && decide (14 + p.n + 2 * p.d + p.n ≤ 1919) && decide (14 + p.n + 2 * p.d + p.m ≤ 1919) && decide (p.d + (11 + p.d + 2 * p.n) ≤ 1919) && decide (p.e + (11 + p.d + 2 * p.n) ≤ 1919)
theorem pstep_bd {row ws : Row} {acc p : Part} {a b : Bits} (hrow : Cv 3 6 row) (hws : Cv 2 3 ws) (ha : Bd a acc) (hp : Bd b p) (hpos : ∀ x, x ∈ ws → 0 < x) (l1 : row.length ≤ 2 ^ 3) (l2 : p.1.length = row.length) (l3 : p.1.length = ws.length) (hf : a.fine b = true) :
    Bd (a.next b) (pstep row ws acc p) ∧ (still p.1 = false → StepOk row ws acc p) := by
  unfold Bits.fine at hf
  simp only [Bool.and_eq_true, decide_eq_true_eq] at hf
  obtain ⟨⟨⟨⟨⟨⟨⟨⟨⟨⟨⟨⟨⟨⟨⟨f1, f2⟩, f3⟩, f4⟩, f5⟩, f6⟩, f7⟩, f8⟩, f9⟩, f10⟩, f11⟩, f12⟩, f13⟩, f14⟩, f15⟩, f16⟩ := hf
  obtain ⟨hal, has⟩ := ha
  obtain ⟨hpl, hps⟩ := hp
  cases hst : still p.1 with
  | true =>
    refine ⟨?_, fun q => by cases q⟩
    have e : pstep row ws acc p = (acc.1, acc.2 ++ [0]) := by
      unfold pstep
      rw [if_pos hst]
    rw [e]
    refine ⟨hal.mono ?_ ?_, (cv_snoc0 has).mono ?_ ?_⟩
    · show a.d ≤ a.d + _
      omega
    · show a.n ≤ max (a.n + _) _ + 1
      omega
    · show a.e ≤ a.e + b.e + _
      omega
    · show a.m ≤ max (a.m + b.e + _) _ + 1
      omega
  | false =>
    obtain ⟨d1, q1⟩ := dot_ok (e := 3) hrow hpl hws l1 (by omega) (by omega)
    obtain ⟨d2, q2⟩ := dot_ok (e := 3) hpl hpl hws (by rw [l2]; exact l1) (by omega) (by omega)
    have hp0 := dot3_pos l3 hpos hst
    have hne : dot3 p.1 p.1 ws ≠ 0 := fun z => by rw [z] at hp0; exact absurd hp0 (by decide)
    have q3 : Cq (11 + b.d + 2 * b.n) (14 + b.n + 2 * b.d) (byOf row ws p) := (q1.div q2 hne).mono (by omega) (by omega)
    have c1 : Cv (b.d + (11 + b.d + 2 * b.n)) (b.n + (14 + b.n + 2 * b.d)) (scaled p.1 (byOf row ws p)) := cv_scaled hpl q3
    have c2 : Cv (b.e + (11 + b.d + 2 * b.n)) (b.m + (14 + b.n + 2 * b.d)) (scaled p.2 (byOf row ws p)) := cv_scaled hps q3
    have e : pstep row ws acc p = (taken acc.1 (scaled p.1 (byOf row ws p)), taken acc.2 (scaled p.2 (byOf row ws p)) ++ [byOf row ws p]) := by
      unfold pstep
      rw [hst]
      rfl
    refine ⟨?_, fun _ => ⟨d1, d2, q1.sz (by omega) (by omega), q2.sz (by omega) (by omega), hp0, q3.sz (by omega) (by omega), fun x hx => (hpl.at hx).sz (by omega) (by omega), fun x hx => (hal.at hx).sz f1 f2, fun x hx => (c1.at hx).sz (by omega) (by omega),
      fun x hx => (hps.at hx).sz (by omega) (by omega), fun x hx => (has.at hx).sz f3 f4, fun x hx => (c2.at hx).sz (by omega) (by omega)⟩⟩
    rw [e]
    exact ⟨cv_taken hal c1, cv_shares has hps q3⟩
def lim : Nat → Bits
  | 0 => ⟨3, 6, 0, 0⟩
  | n + 1 => (lim n).next (lim n)
theorem lim_fine : ∀ k, k ≤ 2 → (lim k).fine (lim k) = true
  | 0, _ => by decide
  | 1, _ => by decide
  | 2, _ => by decide
  | k + 3, h => by omega
theorem acc_bd {row ws : Row} {ps : List Part} (hrow : Cv 3 6 row) (hws : Cv 2 3 ws) (hpos : ∀ x, x ∈ ws → 0 < x) (l1 : row.length ≤ 2 ^ 3) (l2 : row.length = ws.length) (h3 : ps.length ≤ 3) (hsh : ShapeOk row.length ps) (hps : ∀ (k : Nat) (p : Part), ps[k]? = some p → Bd (lim k) p) :
    (∀ k, k ≤ ps.length → Bd (lim k) (accOf row ws ps k)) ∧ PartedOk row ws ps := by
  have main : ∀ k, k ≤ ps.length → Bd (lim k) (accOf row ws ps k) := by
    intro k
    induction k with
    | zero => exact fun _ => ⟨hrow, Cv.nil _ _⟩
    | succ k ih =>
      intro hk
      have e : ps[k]? = some ps[k] := List.getElem?_eq_getElem (by omega)
      obtain ⟨s1, s2⟩ := hsh k _ e
      rw [accOf_succ e]
      exact (pstep_bd hrow hws (ih (by omega)) (hps k _ e) hpos l1 s1 (by omega) (lim_fine k (by omega))).1
  refine ⟨main, ⟨fun k p e hst => ?_⟩⟩
  have hk := (List.getElem?_eq_some_iff.mp e).1
  obtain ⟨s1, s2⟩ := hsh k _ e
  exact (pstep_bd hrow hws (main k (by omega)) (hps k _ e) hpos l1 s1 (by omega) (lim_fine k (by omega))).2 hst
theorem lefts_bd {rows : List Row} {ws : Row} (hrows : ∀ r, r ∈ rows → Cv 3 6 r ∧ r.length = ws.length) (hws : Cv 2 3 ws) (hpos : ∀ x, x ∈ ws → 0 < x) (l1 : ws.length ≤ 2 ^ 3) (h3 : rows.length ≤ 3) :
    (∀ k, k ≤ rows.length → ∀ (j : Nat) (p : Part), (lefts (rows.take k) ws)[j]? = some p → Bd (lim j) p) ∧ LeftsOk rows ws := by
  have main : ∀ k, k ≤ rows.length → ∀ (j : Nat) (p : Part), (lefts (rows.take k) ws)[j]? = some p → Bd (lim j) p := by
    intro k
    induction k with
    | zero => exact fun _ j p e => by cases e
    | succ k ih =>
      intro hk j p e
      have er : rows[k]? = some rows[k] := List.getElem?_eq_getElem (by omega)
      have hl := lefts_take rows ws k (by omega)
      obtain ⟨c, rl⟩ := hrows _ (List.getElem_mem (by omega : k < rows.length))
      rw [take_more er, lefts_snoc] at e
      by_cases hj : j < k
      · rw [List.getElem?_append_left (by omega)] at e
        exact ih (by omega) j p e
      · by_cases q : j = k
        · subst q
          rw [List.getElem?_append_right (by omega), hl, Nat.sub_self] at e
          cases Option.some.inj e
          have sh := lefts_shape rows ws ws.length (fun r hr => (hrows r hr).2) j (by omega)
          have := (acc_bd c hws hpos (by omega) rl (by omega) (by rw [rl]; exact sh) (ih (by omega))).1 j (by omega)
          have e2 := accOf_all rows[j] ws (lefts (rows.take j) ws)
          rw [hl] at e2
          rw [e2] at this
          exact this
        · rw [List.getElem?_eq_none (by rw [List.length_append, hl]; show k + 1 ≤ j; omega)] at e
          cases e
  refine ⟨main, fun k r er => ?_⟩
  have hk := (List.getElem?_eq_some_iff.mp er).1
  obtain ⟨c, rl⟩ := hrows r (List.mem_of_getElem? er)
  have hl := lefts_take rows ws k (by omega)
  have sh := lefts_shape rows ws ws.length (fun r hr => (hrows r hr).2) k (by omega)
  exact (acc_bd c hws hpos (by omega) rl (by omega) (by rw [rl]; exact sh) (main k (by omega))).2
/-! ### small points -/
structure Small (ps : List Pt) (m : Nat) : Prop where
  m3 : m ≤ 3
  len : ps.length ≤ 8
  row : ∀ p, p ∈ ps → p.row.length = m
  rowT : ∀ p, p ∈ ps → ∀ x, x ∈ p.row → Cd 6 (2 ^ 6) x
  want : ∀ p, p ∈ ps → Cd 6 (2 ^ 6) p.want
  wt : ∀ p, p ∈ ps → Cd 3 (2 ^ 3) p.wt ∧ 0 < p.wt
theorem lim_le : ∀ k, k ≤ 3 → (lim k).d ≤ 916 ∧ (lim k).n ≤ 922 ∧ (lim k).e ≤ 892 ∧ (lim k).m ≤ 895
  | 0, _ => by decide
  | 1, _ => by decide
  | 2, _ => by decide
  | 3, _ => by decide
  | k + 4, h => by omega
theorem lim_le2 : ∀ k, k ≤ 2 → (lim k).d ≤ 179 ∧ (lim k).n ≤ 184 ∧ (lim k).e ≤ 167 ∧ (lim k).m ≤ 169
  | 0, _ => by decide
  | 1, _ => by decide
  | 2, _ => by decide
  | k + 3, h => by omega
theorem colsR_cols (ps : List Pt) (m : Nat) : ((List.range m).map fun k => (ps.map (·.row)).map fun r => r.getD k 0) = colsOf ps m := by
  unfold colsOf
  refine List.map_congr_left fun k _ => ?_
  rw [List.map_map]
  rfl
theorem cd_getD {v : Row} {D N : Nat} (h : ∀ x, x ∈ v → Cd D N x) (i : Nat) : Cd D N (v.getD i 0) := by
  rw [List.getD_eq_getElem?_getD]
  cases e : v[i]? with
  | none => exact Cd.zero _ _
  | some x => exact h x (List.mem_of_getElem? e)
section
variable {ps : List Pt} {m : Nat}
theorem Small.cols (S : Small ps m) : ∀ r, r ∈ colsOf ps m → Cv 3 6 r ∧ r.length = (wtsOf ps).length := fun r hr => by
  unfold colsOf at hr
  obtain ⟨k, _, rfl⟩ := List.mem_map.mp hr
  refine ⟨⟨6, by decide, by decide, fun q hq => ?_⟩, by unfold wtsOf; rw [List.length_map, List.length_map]⟩
  obtain ⟨p, hp, rfl⟩ := List.mem_map.mp hq
  exact cd_getD (S.rowT p hp) k
theorem Small.cWants (S : Small ps m) : Cv 3 6 (wantsOf ps) := ⟨6, by decide, by decide, fun q hq => by
  obtain ⟨p, hp, rfl⟩ := List.mem_map.mp hq
  exact S.want p hp⟩
theorem Small.cWts (S : Small ps m) : Cv 2 3 (wtsOf ps) := ⟨3, by decide, by decide, fun q hq => by
  obtain ⟨p, hp, rfl⟩ := List.mem_map.mp hq
  exact (S.wt p hp).1⟩
theorem Small.pos (S : Small ps m) : ∀ x, x ∈ wtsOf ps → 0 < x := fun q hq => by
  obtain ⟨p, hp, rfl⟩ := List.mem_map.mp hq
  exact (S.wt p hp).2
theorem wts_len (ps : List Pt) : (wtsOf ps).length = ps.length := List.length_map ..
theorem wants_len (ps : List Pt) : (wantsOf ps).length = ps.length := List.length_map ..
theorem cols_len (ps : List Pt) (m : Nat) : (colsOf ps m).length = m := by
  unfold colsOf
  rw [List.length_map, List.length_range]
theorem parts_len (ps : List Pt) (m : Nat) : (partsOf ps m).length = m := by
  unfold partsOf
  exact lefts_len _ m _ (cols_len ps m)
theorem Small.lefts (S : Small ps m) : LeftsOk (colsOf ps m) (wtsOf ps) :=
  (lefts_bd S.cols S.cWts S.pos (by rw [wts_len]; exact S.len) (by rw [cols_len]; exact S.m3)).2
theorem Small.parts (S : Small ps m) : ∀ (k : Nat) (p : Part), (partsOf ps m)[k]? = some p → Bd (lim k) p := by
  have := (lefts_bd S.cols S.cWts S.pos (by rw [wts_len]; exact S.len) (by rw [cols_len]; exact S.m3)).1 m (by rw [cols_len]; exact Nat.le_refl _)
  rw [List.take_of_length_le (by rw [cols_len]; exact Nat.le_refl _)] at this
  exact this
theorem Small.shape (S : Small ps m) : ShapeOk ps.length (partsOf ps m) := by
  have := lefts_shape (colsOf ps m) (wtsOf ps) ps.length (fun r hr => by rw [(S.cols r hr).2, wts_len]) m (by rw [cols_len]; exact Nat.le_refl _)
  rw [List.take_of_length_le (by rw [cols_len]; exact Nat.le_refl _)] at this
  exact this
theorem Small.near (S : Small ps m) : PartedOk (wantsOf ps) (wtsOf ps) (partsOf ps m) :=
  (acc_bd S.cWants S.cWts S.pos (by rw [wants_len]; exact S.len) (by rw [wants_len, wts_len]) (by rw [parts_len]; exact S.m3) (by rw [wants_len]; exact S.shape) S.parts).2
theorem Small.fit (S : Small ps m) : Bd (lim m) (fitOf ps m) := by
  have := (acc_bd S.cWants S.cWts S.pos (by rw [wants_len]; exact S.len) (by rw [wants_len, wts_len]) (by rw [parts_len]; exact S.m3) (by rw [wants_len]; exact S.shape) S.parts).1 m (by rw [parts_len]; exact Nat.le_refl _)
  unfold fitOf
  rw [← accOf_all, parts_len]
  exact this
theorem Small.cRest (S : Small ps m) : Cv 916 922 (restOf ps m) := by
  have h := lim_le m S.m3
  exact S.fit.l.mono h.1 h.2.1
theorem Small.cTold (S : Small ps m) : Cv 892 895 (toldOf ps m) := by
  have h := lim_le m S.m3
  exact S.fit.s.mono h.2.2.1 h.2.2.2
theorem fit_shape (S : Small ps m) : (restOf ps m).length = ps.length ∧ (toldOf ps m).length = m := by
  have := parted_shape (row := wantsOf ps) (ws := wtsOf ps) (n := ps.length) (wants_len ps) S.shape
  rw [parts_len] at this
  exact this
theorem Small.zRest (S : Small ps m) : ∀ x, x ∈ restOf ps m → Sz x := fun x hx => (S.cRest.at hx).sz (by decide) (by decide)
theorem Small.zTold (S : Small ps m) : ∀ x, x ∈ toldOf ps m → Sz x := fun x hx => (S.cTold.at hx).sz (by decide) (by decide)
theorem Small.squares (S : Small ps m) : DotOk (restOf ps m) (restOf ps m) (wtsOf ps) 0 ∧ Sz (squaresOf ps m) := by
  obtain ⟨h1, h2⟩ := dot_ok (e := 3) S.cRest S.cRest S.cWts (by rw [(fit_shape S).1]; exact S.len) (by decide) (by decide)
  exact ⟨h1, h2.sz (by decide) (by decide)⟩
theorem Small.part (S : Small ps m) {k : Nat} {p : Part} (h : (partsOf ps m)[k]? = some p) : Cv 179 184 p.1 ∧ Cv 167 169 p.2 ∧ p.1.length = ps.length ∧ p.2.length = k ∧ k < m := by
  have hk := (List.getElem?_eq_some_iff.mp h).1
  rw [parts_len] at hk
  have b := S.parts k p h
  have l := lim_le2 k (by have := S.m3; omega)
  obtain ⟨s1, s2⟩ := S.shape k p h
  exact ⟨b.l.mono l.1 l.2.1, b.s.mono l.2.2.1 l.2.2.2, s1, s2, hk⟩
theorem Small.zShares (S : Small ps m) {k : Nat} {p : Part} (h : (partsOf ps m)[k]? = some p) : ∀ x, x ∈ p.2 → Sz x := fun x hx => ((S.part h).2.1.at hx).sz (by decide) (by decide)
theorem cv_way {S : Row} {d n : Nat} (h : Cv d n S) (hd : d ≤ n) (m : Nat) : Cv d n (S.map (fun s => 0 - s) ++ [1] ++ List.replicate m 0) := by
  obtain ⟨D, a1, a2, a3⟩ := h
  refine ⟨D, a1, a2, fun q hq => ?_⟩
  rcases List.mem_append.mp hq with hq | hq
  · rcases List.mem_append.mp hq with hq | hq
    · obtain ⟨x, hx, rfl⟩ := List.mem_map.mp hq
      have := (Cd.zero D 0).sub (a3 x hx)
      rw [Nat.zero_add] at this
      exact this
    · rw [List.mem_singleton.mp hq]
      refine ⟨D, by rw [Rat.one_mul, Rat.intCast_natCast], ?_⟩
      exact Nat.le_trans a2 (pow_lt hd)
  · rw [List.eq_of_mem_replicate hq]
    exact Cd.zero _ _
theorem free_mem (S : Small ps m) {k : Nat} (h : k ∈ freeOf ps m) : ∃ p, (partsOf ps m)[k]? = some p ∧ (partsOf ps m).getD k ([], []) = p := by
  unfold freeOf freeIn at h
  obtain ⟨h1, _⟩ := List.mem_filter.mp h
  have hk := List.mem_range.mp h1
  exact ⟨_, List.getElem?_eq_getElem hk, getD_at _ _ hk⟩
theorem Small.way (S : Small ps m) {w : Row} (h : w ∈ waysOf ps m) : Cv 167 169 w ∧ w.length = m := by
  unfold waysOf at h
  obtain ⟨k, hk, rfl⟩ := List.mem_map.mp h
  obtain ⟨p, e1, e2⟩ := free_mem S hk
  obtain ⟨_, q2, _, q4, q5⟩ := S.part e1
  unfold wayIn
  rw [e2]
  refine ⟨cv_way q2 (by decide) _, ?_⟩
  rw [List.length_append, List.length_append, List.length_map, List.length_replicate, q4]
  show k + 1 + (m - k - 1) = m
  omega
theorem Small.zWay (S : Small ps m) {w : Row} (h : w ∈ waysOf ps m) : ∀ x, x ∈ w → Sz x := fun x hx => ((S.way h).1.at hx).sz (by decide) (by decide)
/-- a row that may be asked for -/
def TinyRow (m : Nat) (y : Row) : Prop := y.length = m ∧ ∀ x, x ∈ y → Cd 6 (2 ^ 6) x
theorem TinyRow.cv {y : Row} (h : TinyRow m y) : Cv 3 6 y := ⟨6, by decide, by decide, h.2⟩
theorem Small.sure (S : Small ps m) {y w : Row} (h : TinyRow m y) (hw : w ∈ waysOf ps m) : Dot2Ok y w 0 :=
  (dot2_ok (e := 2) h.cv (S.way hw).1 (by rw [h.1]; exact Nat.le_trans S.m3 (by decide)) (by decide) (by decide)).1
theorem Small.value (S : Small ps m) {y : Row} (h : TinyRow m y) : Dot2Ok y (toldOf ps m) 0 ∧ Sz (valueOf ps m y) := by
  obtain ⟨h1, h2⟩ := dot2_ok (e := 2) h.cv S.cTold (by rw [h.1]; exact Nat.le_trans S.m3 (by decide)) (by decide) (by decide)
  exact ⟨h1, h2.sz (by decide) (by decide)⟩
/-! ### pulls -/
def pullAcc (ps : List Pt) (m i k : Nat) : Rat := ((partsOf ps m).take k).foldl (pullStep (wtsOf ps) i) 0
theorem pullAcc_succ {i k : Nat} {p : Part} (h : (partsOf ps m)[k]? = some p) : pullAcc ps m i (k + 1) = pullStep (wtsOf ps) i (pullAcc ps m i k) p := by
  unfold pullAcc
  rw [take_more h, List.foldl_append]
  rfl
theorem pullAcc_all (i : Nat) : pullAcc ps m i m * (wtsOf ps).getD i 0 = pullOf ps m i := by
  unfold pullAcc pullOf
  rw [List.take_of_length_le (by rw [parts_len]; exact Nat.le_refl _)]
def pb : Nat → Nat × Nat
  | 0 => (0, 0)
  | k + 1 => ((pb k).1 + (2 * (lim k).d + (2 * (lim k).n + 6)), max ((pb k).2 + (2 * (lim k).d + (2 * (lim k).n + 6))) (2 * (lim k).n + (2 * (lim k).d + 2) + (pb k).1) + 1)
theorem pb_le : ∀ k, k ≤ 3 → (pb k).1 ≤ 900 ∧ (pb k).2 ≤ 904
  | 0, _ => by decide
  | 1, _ => by decide
  | 2, _ => by decide
  | 3, _ => by decide
  | k + 4, h => by omega
structure PullOk (ws : Row) (i : Nat) (acc : Rat) (p : Part) : Prop where
  l : Sz (p.1.getD i 0)
  ll : Sz (p.1.getD i 0 * p.1.getD i 0)
  d : DotOk p.1 p.1 ws 0
  q : Sz (dot3 p.1 p.1 ws)
  pos : 0 < dot3 p.1 p.1 ws
  o : Sz (p.1.getD i 0 * p.1.getD i 0 / dot3 p.1 p.1 ws)
  a : Sz acc
theorem cq_getD {v : Row} {d n : Nat} (h : Cv d n v) (i : Nat) : Cq d n (v.getD i 0) := by
  obtain ⟨D, a1, a2, a3⟩ := h
  exact ⟨D, a1, a2, cd_getD a3 i⟩
theorem pull_step (S : Small ps m) {i k : Nat} {p : Part} (h : (partsOf ps m)[k]? = some p) (ha : Cq (pb k).1 (pb k).2 (pullAcc ps m i k)) :
    Cq (pb (k + 1)).1 (pb (k + 1)).2 (pullAcc ps m i (k + 1)) ∧ (still p.1 = false → PullOk (wtsOf ps) i (pullAcc ps m i k) p) := by
  obtain ⟨_, _, q3, _, q5⟩ := S.part h
  have b := (S.parts k p h).l
  have hk : k ≤ 2 := by have := S.m3; omega
  have l2 := lim_le2 k hk
  have pk := pb_le k (by omega)
  rw [pullAcc_succ h]
  unfold pullStep
  cases hst : still p.1 with
  | true =>
    rw [if_pos rfl]
    refine ⟨ha.mono ?_ ?_, fun q => by cases q⟩
    · show (pb k).1 ≤ (pb k).1 + _
      omega
    · show (pb k).2 ≤ max ((pb k).2 + _) _ + 1
      omega
  | false =>
    rw [if_neg (by decide)]
    obtain ⟨d1, d2⟩ := dot_ok (e := 3) b b S.cWts (by rw [q3]; exact S.len) (by omega) (by omega)
    have hp := dot3_pos (by rw [q3, wts_len]) S.pos hst
    have hne : dot3 p.1 p.1 (wtsOf ps) ≠ 0 := fun z => by rw [z] at hp; exact absurd hp (by decide)
    have c1 := cq_getD b i
    have c2 := c1.mul c1
    have c3 : Cq (2 * (lim k).d + (2 * (lim k).n + 6)) (2 * (lim k).n + (2 * (lim k).d + 2)) (p.1.getD i 0 * p.1.getD i 0 / dot3 p.1 p.1 (wtsOf ps)) := (c2.div d2 hne).mono (by omega) (by omega)
    refine ⟨ha.add c3, fun _ => ⟨c1.sz (by omega) (by omega), c2.sz (by omega) (by omega), d1, d2.sz (by omega) (by omega), hp, c3.sz (by omega) (by omega), ha.sz (by omega) (by omega)⟩⟩
theorem pull_all (S : Small ps m) (i : Nat) : ∀ k, k ≤ m → Cq (pb k).1 (pb k).2 (pullAcc ps m i k) := by
  intro k
  induction k with
  | zero => exact fun _ => ⟨1, by decide, by decide, Cd.zero _ _⟩
  | succ k ih =>
    intro hk
    have hk' : k < (partsOf ps m).length := by rw [parts_len]; omega
    have e : (partsOf ps m)[k]? = some (partsOf ps m)[k] := List.getElem?_eq_getElem hk'
    exact (pull_step S e (ih (by omega))).1
theorem Small.pull (S : Small ps m) (i : Nat) : (∀ (k : Nat) (p : Part), (partsOf ps m)[k]? = some p → still p.1 = false → PullOk (wtsOf ps) i (pullAcc ps m i k) p) ∧ Sz (pullAcc ps m i m) ∧ Sz ((wtsOf ps).getD i 0) ∧ Sz (pullOf ps m i) := by
  have h := pull_all S i m (Nat.le_refl _)
  have hb := pb_le m S.m3
  have w := cq_getD S.cWts i
  refine ⟨fun k p e hst => (pull_step S e (pull_all S i k ?_)).2 hst, h.sz (by omega) (by omega), w.sz (by decide) (by decide), ?_⟩
  · have := (S.part e).2.2.2.2
    omega
  · rw [← pullAcc_all]
    exact (h.mul w).sz (by omega) (by omega)
end
end Np
end
section
set_option linter.all false
set_option maxRecDepth 100000
set_option maxHeartbeats 4000000
/-! The fits' making. -/
namespace Np
open PySem PySem.Spec PyProof.Rows L2
/-! ### fields by names -/
theorem putF_app : ∀ {fs : List (Str × V)} {f : Str} {v : V}, (fs.map (·.1)).contains f = false → putF f v fs = fs ++ [(f, v)]
  | [], _, _, _ => rfl
  | (g, x) :: r, f, v, h => by
    rw [List.map_cons, List.contains_cons, Bool.or_eq_false_iff] at h
    have hn : ¬ g = f := fun e => by
      have h1 : (f == g) = false := h.1
      rw [e, beq_self_eq_true] at h1
      cases h1
    show (if g = f then (g, v) :: r else (g, x) :: putF f v r) = _
    rw [if_neg hn, putF_app h.2]
    rfl
theorem look_ix : ∀ {fs : List (Str × V)} {i : Nat} {f : Str} {v : V}, fs[i]? = some (f, v) → ((fs.map (·.1)).take i).contains f = false → fs.lookup f = some v
  | [], _, _, _, h, _ => by cases h
  | (g, x) :: r, 0, f, v, h, _ => by
    cases Option.some.inj h
    rw [List.lookup_cons, beq_self_eq_true]
  | (g, x) :: r, i + 1, f, v, h, hn => by
    rw [List.map_cons, List.take_succ_cons, List.contains_cons, Bool.or_eq_false_iff] at hn
    rw [List.lookup_cons, show (f == g) = false from hn.1]
    exact look_ix (i := i) h hn.2
theorem look_no : ∀ {fs : List (Str × V)} {f : Str}, (fs.map (·.1)).contains f = false → fs.lookup f = Option.none
  | [], _, _ => rfl
  | (g, x) :: r, f, h => by
    rw [List.map_cons, List.contains_cons, Bool.or_eq_false_iff] at h
    rw [List.lookup_cons, show (f == g) = false from h.1]
    exact look_no h.2
/-! ### heaps that differ elsewhere than in lists and tuples -/
def Seqs (H H' : Hp) : Prop := ∀ b o, H b = some o → (∀ C dx fs, o ≠ .ins C dx fs) → H' b = some o
theorem _root_.L2.Same.seqs {H H' : Hp} (s : Same H H') : Seqs H H' := fun b o e _ => s b o e
theorem Seqs.put {H : Hp} {x C dx : Addr} {fs : List (Str × V)} {o : HO} (h : H x = some (.ins C dx fs)) : Seqs H (upd H x o) := fun b u e hn => by
  rw [upd_ne fun q => by
    subst q
    rw [h] at e
    exact hn _ _ _ (Option.some.inj e).symm]
  exact e
theorem Seqs.l {K : PySem.W.Frag} {H H' : Hp} (s : Seqs H H') {a : Addr} {xs : List V} (h : SqL K H a xs) : SqL K H' a xs := by
  rcases h with (h | ⟨o, h⟩) | h
  · exact .inl (.inl (s _ _ h fun _ _ _ e => nomatch e))
  · exact .inl (.inr ⟨o, s _ _ h fun _ _ _ e => nomatch e⟩)
  · exact .inr h
theorem Seqs.t {K : PySem.W.Frag} {H H' : Hp} (s : Seqs H H') {a : Addr} {xs : List V} (h : SqT K H a xs) : SqT K H' a xs := by
  rcases h with (h | ⟨o, h⟩) | h
  · exact .inl (.inl (s _ _ h fun _ _ _ e => nomatch e))
  · exact .inl (.inr ⟨o, s _ _ h fun _ _ _ e => nomatch e⟩)
  · exact .inr h
mutual
theorem dp_seqs {K : PySem.W.Frag} {H H' : Hp} (e : Seqs H H') : ∀ {v : V} {d : PyData}, Dp K H v d → Dp K H' v d
  | _, _, .non => .non
  | _, _, .bl b => .bl b
  | _, _, .int i => .int i
  | _, _, .str x => .str x
  | _, _, .lst h a => .lst (e.l h) (dps_seqs e a)
  | _, _, .tup h a => .tup (e.t h) (dps_seqs e a)
theorem dps_seqs {K : PySem.W.Frag} {H H' : Hp} (e : Seqs H H') : ∀ {vs : List V} {ds : List PyData}, DpAll K H vs ds → DpAll K H' vs ds
  | _, _, .nil => .nil
  | _, _, .cons a r => .cons (dp_seqs e a) (dps_seqs e r)
end
/-- all but x is as it was -/
def But (x : Addr) (H H' : Hp) : Prop := ∀ b o, H b = some o → b ≠ x → H' b = some o
theorem But.refl (x : Addr) (H : Hp) : But x H H := fun _ _ e _ => e
theorem But.trans {x : Addr} {H H1 H2 : Hp} (a : But x H H1) (b : But x H1 H2) : But x H H2 := fun c o e n => b c o (a c o e n) n
theorem _root_.L2.Same.but {x : Addr} {H H' : Hp} (s : Same H H') : But x H H' := fun c o e _ => s c o e
theorem But.put {x : Addr} {H : Hp} {o : HO} : But x H (upd H x o) := fun c u e n => by
  rw [upd_ne n]
  exact e
/-! ### methods as they stand behind the top -/
structure MethAt (K : PySem.W.Frag) (C : Addr) (m qual : Str) (st : Stmt) : Prop where
  ex : ∃ f fd, FunD K m qual (defArgs st) (defBody st) (defScope st) [] [] f fd ∧ Meth K C m f
structure InitAt (K : PySem.W.Frag) (mg : Str → Option Value) (C : Addr) (x qual : Str) (st : Stmt) : Prop where
  ex : ∃ f fd, FunD K "__init__" qual (defArgs st) (defBody st) (defScope st) [] [] f fd ∧ Mk K C f ∧ mg x = some (.ref C)
section
variable {P : Program} {w : World} {K : PySem.W.Frag} {mg : Str → Option Value} {base : Heap}
theorem met_of {C : Addr} {m qual : Str} {st : Stmt} {N ps : List Str} {k : Nat} {sp : Sp} (c : Cls K C) (F : MethAt K C m qual st) (S : FnScope N ps (defScope st)) (hb : BindOk m qual st ps) (len : ∀ vs H Q E, sp vs H Q E → vs.length = ps.length)
    (hbody : ∀ (f : Addr) (cdv : Value) (A : Around) (outer : List Env) (s : Shared) (H : Hp) (vs : List V) (Q : VK) (E : XK), Room k (A.deeper (envOfC qual (defScope st) s.heap.objs.size f cdv)) → sp vs H Q E →
      ∃ t, PSs (cxOf CX0 P w K mg base N qual (defScope st) f cdv A outer s H E).nox (defBody st) t ∧ t { nx := fun _ H' => Q .non H', rt := Q } (start N vs) H) : C8.Met P w K mg base (k + 1) C m sp [] := by
  obtain ⟨f, fd, F, g⟩ := F.ex
  refine ⟨f, fd, ps, [], c, g, F.ok S len fun cdv A outer s H vs Q E hr hsp => ?_, F.bindsN hb, .nil⟩
  obtain ⟨t, h1, h2⟩ := hbody f cdv A outer s H vs Q E hr hsp
  exact ⟨t, h1.nox, h2⟩
theorem mak_of {C : Addr} {x qual : Str} {st : Stmt} {N ps : List Str} {k : Nat} {sp : Sp} (F : InitAt K mg C x qual st) (S : FnScope N ps (defScope st)) (hb : BindOk "__init__" qual st ps) (len : ∀ vs H Q E, sp vs H Q E → vs.length = ps.length)
    (hbody : ∀ (f : Addr) (cdv : Value) (A : Around) (outer : List Env) (s : Shared) (H : Hp) (vs : List V) (Q : VK) (E : XK), Room k (A.deeper (envOfC qual (defScope st) s.heap.objs.size f cdv)) → sp vs H Q E →
      ∃ t, PSs (cxOf CX0 P w K mg base N qual (defScope st) f cdv A outer s H E).nox (defBody st) t ∧ t { nx := fun _ H' => Q .non H', rt := Q } (start N vs) H) : C8.Mak P w K mg base (k + 1) x C sp [] := by
  obtain ⟨f, fd, F, g, h⟩ := F.ex
  refine ⟨f, fd, ps, [], g, F.ok S len fun cdv A outer s H vs Q E hr hsp => ?_, h, F.bindsN hb, .nil⟩
  obtain ⟨t, h1, h2⟩ := hbody f cdv A outer s H vs Q E hr hsp
  exact ⟨t, h1.nox, h2⟩
end
/-! ### points -/
def encPt (p : Pt) : PyData := .tuple [encR p.row, encQ p.want, encQ p.wt]
theorem dp_pt {K : PySem.W.Frag} {H : Hp} {v : V} {p : Pt} (h : Dp K H v (encPt p)) : ∃ a x y z, v = .ref a ∧ SqT K H a [x, y, z] ∧ Dp K H x (encR p.row) ∧ Dp K H y (encQ p.want) ∧ Dp K H z (encQ p.wt) := by
  obtain ⟨a, xs, rfl, hs, hd⟩ := dp_tup h
  cases hd with
  | cons h1 r =>
    cases r with
    | cons h2 r =>
      cases r with
      | cons h3 r =>
        cases r
        exact ⟨a, _, _, _, rfl, hs, h1, h2, h3⟩
theorem pts_get {K : PySem.W.Frag} {H : Hp} {xs : List V} {ps : List Pt} {i : Nat} {v : V} (h : DpAll K H xs (ps.map encPt)) (hv : xs[i]? = some v) : ∃ p, ps[i]? = some p ∧ Dp K H v (encPt p) := by
  obtain ⟨d, h1, h2⟩ := h.get' hv
  rw [List.getElem?_map] at h1
  cases e : ps[i]? with
  | none =>
    rw [e] at h1
    cases h1
  | some r =>
    rw [e] at h1
    cases Option.some.inj h1
    exact ⟨r, rfl, h2⟩
def spIsRow (K : PySem.W.Frag) : Sp := fun vs H Q _ => ∃ (x : V) (r : Row), vs = [x, .int (r.length : Nat)] ∧ Dp K H x (encR r) ∧ r.length ≤ 4096 ∧ ∀ H', Same H H' → Q (.bl true) H'
def spIsPoint (K : PySem.W.Frag) : Sp := fun vs H Q _ => ∃ (x : V) (p : Pt), vs = [x, .int (p.row.length : Nat)] ∧ Dp K H x (encPt p) ∧ p.row.length ≤ 4096 ∧ 0 < p.wt ∧ ∀ H', Same H H' → Q (.bl true) H'
def spLooked (K : PySem.W.Frag) : Sp := fun vs H Q _ => ∃ (x : V) (ps : List Pt) (m : Nat), vs = [x, .int (m : Nat)] ∧ Dp K H x (.list (ps.map encPt)) ∧ m ≤ 12 ∧ ps.length ≤ 4096 ∧ (∀ p, p ∈ ps → p.row.length = m ∧ 0 < p.wt) ∧
  ∀ H' D xs, Same H H' → H D = Option.none → H' D = some (.lst xs) → DpAll K (dif H H') xs (ps.map encPt) → Q (.ref D) H'
abbrev N_is_row : List Str := ["thing", "long", "one"]
theorem sc_is_row : FnScope ["thing", "long", "one"] ["thing", "long"] (defScope s_is_row) := ⟨rfl, rfl, rfl, by decide +kernel, rfl, by decide +kernel, by decide +kernel⟩
theorem b_is_row : BindOk "is_row" "is_row" s_is_row ["thing", "long"] := fun _ _ _ _ _ _ us hl => match us, hl with | [_, _], _ => rfl
abbrev N_is_point : List Str := ["thing", "wide"]
theorem sc_is_point : FnScope ["thing", "wide"] ["thing", "wide"] (defScope s_is_point) := ⟨rfl, rfl, rfl, by decide +kernel, rfl, by decide +kernel, by decide +kernel⟩
theorem b_is_point : BindOk "is_point" "is_point" s_is_point ["thing", "wide"] := fun _ _ _ _ _ _ us hl => match us, hl with | [_, _], _ => rfl
abbrev N_looked_points : List Str := ["points", "wide", "row", "want", "weight", "point"]
theorem sc_looked_points : FnScope ["points", "wide", "row", "want", "weight", "point"] ["points", "wide"] (defScope s_looked_points) := ⟨rfl, rfl, rfl, by decide +kernel, rfl, by decide +kernel, by decide +kernel⟩
theorem b_looked_points : BindOk "looked_points" "looked_points" s_looked_points ["points", "wide"] := fun _ _ _ _ _ _ us hl => match us, hl with | [_, _], _ => rfl
section
variable {P : Program} {w : World} {K : PySem.W.Frag} {mg : Str → Option Value} {base : Heap} {aN aO : Addr}
theorem k_is_row (T : Txt K mg aN aO) (F : DefAt K mg "is_row" s_is_row) (c_is_ratio : C8.Cal P w K mg base 2 "is_ratio" (spIsRatio K) []) : C8.Cal P w K mg base 3 "is_row" (spIsRow K) [] := by
  refine cal_of F sc_is_row b_is_row (fun vs H Q E h => ?_) (fun f cdv A outer s H vs Q E hr h => ?_)
  · obtain ⟨x, r, rfl, _⟩ := h
    rfl
  · obtain ⟨x, r, rfl, hx, hl, hQ⟩ := h
    obtain ⟨a, xs, rfl, hs, hd⟩ := dp_list hx
    have hlen := hd.length
    rw [encs_len] at hlen
    refine ⟨_, (pss_cons (ps_if (PW.pt (pw_or (pt_not (pt_val (pe_callB call_isi rfl T.isinstance (by decide +kernel) (pa_cons (pv 0) (pa_cons (pe_bltn (v := .ty "list") (u := .type "list") rfl T.list (by decide +kernel) rfl) pa_nil))))) (pw_or1 (pt_cmpR op_ne (pe_callB call_len_seq rfl T.len (by decide +kernel) (pa_cons (pv 0) pa_nil)) (pv 1) (nomark _))))) (pss_one (ps_ret pe_bl))
    pss_nil)
    (pss_one (ps_ret (pe_callB (cr_all rfl) rfl T.all (by decide +kernel) (pa_cons (pe_lc (own := [("one", 2)]) rfl sc_is_row.nd (pi_list (pv 0)) (blkOk_by (own := [("one", 2)]) (N := N_is_row) (sc := defScope s_is_row) (by decide +kernel)) (fun _ _ _ _ _ => (pg_name (i := 2) sc_is_row.nd rfl (Or.inl rfl))) (fun _ _ _ _ _ => pts_nil) (fun _ _ _ _ _ => (C8.pe_c c_is_ratio hr (by decide) rfl (pa_cons (pv 2) pa_nil)))) pa_nil))))), ?_⟩
    refine ⟨_, rfl, _, _, _, _, true, rfl, .ty "list", ty_lst hs, kit_b (by decide +kernel), true, rfl, iteF ?_⟩
    refine ⟨_, rfl, a, xs, rfl, .inl hs, _, rfl, rfl, _, rfl, ?_⟩
    rw [hlen, decide_eq_true rfl]
    refine iteF ?_
    refine ⟨_, rfl, a, rfl, ⟨xs, hs⟩, fun D hD => lc_list (K := K) (a := a) (xs := xs) (fun i H' => Same H H' ∧ H' D = some (.lst (List.replicate i (V.bl true))))
      ⟨same_new hD, upd_same⟩ (fun i H' _ hP => hP.1.seq hs) (fun i x H' hx hP => ?_) (fun H' hP => ?_)⟩
    · obtain ⟨m1, hL⟩ := hP
      obtain ⟨d, hd1, hd2⟩ := hd.get' hx
      obtain ⟨q, hq, rfl⟩ := encs_get hd1
      have hi := (List.getElem?_eq_some_iff.mp hq).1
      obtain ⟨p, rfl, hp⟩ := dp_q hd2
      refine ⟨rfl, ?_⟩
      refine ⟨_, rfl, _, _, _, rfl, ⟨p, rfl, m1.tup hp⟩, _, hL, len_small (by rw [List.length_replicate]; omega), same_put m1 hD, ?_⟩
      rw [upd_same, isRatio_of, ← List.replicate_succ']
    · obtain ⟨m1, hL⟩ := hP
      refine ⟨D, List.replicate xs.length true, rfl, SqL.of (by rw [hL, List.map_replicate]), ?_⟩
      have e : (List.replicate xs.length true).all id = true := List.all_eq_true.mpr fun b hb => List.eq_of_mem_replicate hb
      rw [e]
      exact hQ _ m1
theorem k_is_point (T : Txt K mg aN aO) (F : DefAt K mg "is_point" s_is_point) (c_is_row : C8.Cal P w K mg base 3 "is_row" (spIsRow K) []) (c_is_ratio : C8.Cal P w K mg base 2 "is_ratio" (spIsRatio K) []) : C8.Cal P w K mg base 4 "is_point" (spIsPoint K) [] := by
  refine cal_of F sc_is_point b_is_point (fun vs H Q E h => ?_) (fun f cdv A outer s H vs Q E hr h => ?_)
  · obtain ⟨x, p, rfl, _⟩ := h
    rfl
  · obtain ⟨x, p, rfl, hx, hl, hw, hQ⟩ := h
    obtain ⟨a, v1, v2, v3, rfl, hs, h1, h2, h3⟩ := dp_pt hx
    refine ⟨_, (pss_cons (ps_if (PW.pt (pw_or (pt_not (pt_val (pe_callB call_isi rfl T.isinstance (by decide +kernel) (pa_cons (pv 0) (pa_cons (pe_bltn (v := .ty "tuple") (u := .type "tuple") rfl T.tuple (by decide +kernel) rfl) pa_nil))))) (pw_or (pt_cmpR op_ne (pe_callB call_len_seq rfl T.len (by decide +kernel) (pa_cons (pv 0) pa_nil)) pe_int (nomark _)) (pw_or1 (pt_not (pt_val (C8.pe_c c_is_row hr (by decide) rfl (pa_cons (pe_ix ix_tup (pv 0) pe_int (fun _ _ => rfl)) (pa_cons (pv 1) pa_nil))))))))) (pss_one (ps_ret pe_bl))
    pss_nil)
    (pss_one (ps_ret (pe_and (C8.pe_c c_is_ratio hr (by decide) rfl (pa_cons (pe_ix ix_tup (pv 0) pe_int (fun _ _ => rfl)) pa_nil)) (pe_and (C8.pe_c c_is_ratio hr (by decide) rfl (pa_cons (pe_ix ix_tup (pv 0) pe_int (fun _ _ => rfl)) pa_nil)) (pe_one (pe_cmpR op_gt (pe_ix ix_tup (pe_ix ix_tup (pv 0) pe_int (fun _ _ => rfl)) pe_int (fun _ _ => rfl)) pe_int (nomark _)))))))), ?_⟩
    refine ⟨_, rfl, _, _, _, _, true, rfl, .ty "tuple", ty_tup hs, kit_b (by decide +kernel), true, rfl, iteF ?_⟩
    refine ⟨_, rfl, a, _, rfl, .inr hs, rfl, _, rfl, ?_⟩
    rw [show (!decide (V.int (([v1, v2, v3] : List V).length : Nat) = V.int 3)) = false from rfl]
    refine iteF ?_
    refine ⟨_, rfl, a, _, _, v1, rfl, rfl, hs, rfl, _, rfl, v1, p.row, rfl, h1, hl, fun H1 n1 => ⟨true, rfl, iteF ?_⟩⟩
    obtain ⟨b, rfl, hb⟩ := dp_q h2
    obtain ⟨c, rfl, hc⟩ := dp_q h3
    have hs1 := n1.tup hs
    refine ⟨_, rfl, a, _, _, .ref b, rfl, rfl, hs1, rfl, _, _, _, rfl, ⟨b, rfl, n1.tup hb⟩, ?_⟩
    refine ⟨true, by rw [isRatio_of], iteT ?_⟩
    refine ⟨_, rfl, a, _, _, .ref c, rfl, rfl, hs1, rfl, _, _, _, rfl, ⟨c, rfl, n1.tup hc⟩, ?_⟩
    refine ⟨true, by rw [isRatio_of], iteT ?_⟩
    refine ⟨_, rfl, a, _, _, .ref c, rfl, rfl, hs1, rfl, c, _, _, _, rfl, rfl, n1.tup hc, rfl, _, _, rfl, rfl, ?_⟩
    show Q (V.bl (decide ((0 : Int) < p.wt.num))) H1
    rw [decide_eq_true (num_pos hw)]
    exact hQ _ n1
theorem k_looked_points (T : Txt K mg aN aO) (F : DefAt K mg "looked_points" s_looked_points) (c_is_whole : C8.Cal P w K mg base 1 "is_whole" spWhole []) (c_is_point : C8.Cal P w K mg base 4 "is_point" (spIsPoint K) []) :
    C8.Cal P w K mg base 5 "looked_points" (spLooked K) [] := by
  refine cal_of F sc_looked_points b_looked_points (fun vs H Q E h => ?_) (fun f cdv A outer s H vs Q E hr h => ?_)
  · obtain ⟨x, ps, m, rfl, _⟩ := h
    rfl
  · obtain ⟨x, ps, m, rfl, hx, hm, hl, hps, hQ⟩ := h
    obtain ⟨a, xs, rfl, hs, hd⟩ := dp_list hx
    have hlen := hd.length
    rw [List.length_map] at hlen
    refine ⟨_, (pss_cons (ps_if (PW.pt (pw_or (pt_not (pt_val (C8.pe_c c_is_whole hr (by decide) rfl (pa_cons (pv 1) pa_nil)))) (pw_or (pt_not (pt_chain op_le op_le pe_int (pv 1) (C8.pe_gc rfl T.MOST_WIDE_fits))) (pw_or1 (pt_not (pt_val (pe_callB call_isi rfl T.isinstance (by decide +kernel) (pa_cons (pv 0) (pa_cons (pe_bltn (v := .ty "list") (u := .type "list") rfl T.list (by decide +kernel) rfl) pa_nil))))))))) (pss_one ps_never)
    pss_nil)
    (pss_cons (ps_if (pt_not (pt_val (pe_callB (cr_all rfl) rfl T.all (by decide +kernel) (pa_cons (pe_lc (own := [("point", 5)]) rfl sc_looked_points.nd (pi_list (pv 0)) (blkOk_by (own := [("point", 5)]) (N := N_looked_points) (sc := defScope s_looked_points) (by decide +kernel)) (fun _ _ _ _ _ => (pg_name (i := 5) sc_looked_points.nd rfl (Or.inl rfl))) (fun _ _ _ _ _ => pts_nil) (fun _ _ _ _ _ => (C8.pe_c c_is_point hr (by decide) rfl (pa_cons (pv 5) (pa_cons (pv 1) pa_nil))))) pa_nil)))) (pss_one ps_never)
    pss_nil)
    (pss_one (ps_ret (pe_lc (own := [("row", 2), ("want", 3), ("weight", 4)]) rfl sc_looked_points.nd (pi_list (pv 0)) (blkOk_by (own := [("row", 2), ("want", 3), ("weight", 4)]) (N := N_looked_points) (sc := defScope s_looked_points) (by decide +kernel)) (fun _ _ _ _ _ => (pg_tupK (K := K) (n := 3) rfl rfl (pgs_cons (pg_name (i := 2) sc_looked_points.nd rfl (Or.inl rfl)) (pgs_cons (pg_name (i := 3) sc_looked_points.nd rfl (Or.inl rfl)) (pgs_cons (pg_name (i := 4) sc_looked_points.nd rfl (Or.inl rfl)) pgs_nil))))) (fun _ _ _ _ _ => pts_nil) (fun _ _ _ _ _ => (pe_tup (pa_cons (pe_callTy (call_list_ofK (K := K) rfl) rfl T.list (by decide +kernel) (pa_cons (pv 2) pa_nil)) (pa_cons (pv 3) (pa_cons (pv 4) pa_nil)))))))))), ?_⟩
    refine ⟨_, rfl, _, rfl, true, rfl, iteF ?_⟩
    refine ⟨_, rfl, _, _, rfl, rfl, true, congrArg V.bl (decide_eq_true (by omega)), iteT ?_⟩
    refine ⟨_, _, rfl, rfl, true, congrArg V.bl (decide_eq_true (by omega)), iteF ?_⟩
    refine ⟨_, rfl, _, _, _, _, true, rfl, .ty "list", ty_lst hs, kit_b (by decide +kernel), true, rfl, iteF ?_⟩
    refine ⟨_, rfl, a, rfl, ⟨xs, hs⟩, fun D hD => lc_list (K := K) (a := a) (xs := xs) (fun i H' => Same H H' ∧ H' D = some (.lst (List.replicate i (V.bl true))))
      ⟨same_new hD, upd_same⟩ (fun i H' _ hP => hP.1.seq hs) (fun i x H' hx hP => ?_) (fun H' hP => ?_)⟩
    · obtain ⟨m1, hL⟩ := hP
      obtain ⟨p, hp, hd2⟩ := pts_get hd hx
      have hi := (List.getElem?_eq_some_iff.mp hp).1
      obtain ⟨q1, q2⟩ := hps p (List.mem_of_getElem? hp)
      refine ⟨rfl, ?_⟩
      refine ⟨_, rfl, _, rfl, x, p, by rw [q1]; rfl, dp_same m1 hd2, by omega, q2, fun H2 n2 => ⟨_, n2 _ _ hL, len_small (by rw [List.length_replicate]; omega), same_put (m1.trans n2) hD, ?_⟩⟩
      rw [upd_same, ← List.replicate_succ']
    · obtain ⟨m1, hL⟩ := hP
      refine ⟨D, List.replicate xs.length true, rfl, SqL.of (by rw [hL, List.map_replicate]), true, ?_, ?_⟩
      · exact congrArg V.bl (List.all_eq_true.mpr fun b hb => List.eq_of_mem_replicate hb)
      refine iteF ?_
      refine ⟨_, rfl, a, rfl, ⟨xs, m1.seq hs⟩, fun D2 hD2 => lc_list (K := K) (a := a) (xs := xs) (fun i H2 => Same H' H2 ∧ ∃ ys, H2 D2 = some (.lst ys) ∧ DpAll K (dif H (rem H2 D2)) ys ((ps.take i).map encPt))
        ⟨same_new hD2, [], upd_same, .nil⟩ (fun i H2 _ hP => hP.1.seq (m1.seq hs)) (fun i x H2 hx hP => ?_) (fun H2 hP => ?_)⟩
      · obtain ⟨m2, ys, hL2, hY⟩ := hP
        obtain ⟨p, hp, hd2⟩ := pts_get hd hx
        have hi := (List.getElem?_eq_some_iff.mp hp).1
        have m12 := m1.trans m2
        obtain ⟨t, v1, v2, v3, rfl, ht, h1, h2, h3⟩ := dp_pt hd2
        obtain ⟨b, us, rfl, hb, hbd⟩ := dp_list h1
        refine ⟨t, _, rfl, m12.tup ht, rfl, _, _, rfl, _, _, rfl, _, _, rfl, ⟨rfl, rfl, ?_⟩⟩
        refine ⟨_, rfl, b, us, rfl, .inl (m12.seq hb), fun l hl2 => ⟨_, rfl, _, rfl, (by show 3 ≤ sizeLine; decide), fun u hu => ?_⟩⟩
        have n1 : Same H2 (upd H2 l (.lst us)) := same_new hl2
        have n2 : Same H2 (upd (upd H2 l (.lst us)) u (.tup [.ref l, v2, v3])) := n1.trans (same_new hu)
        have hl0 : H l = Option.none := m12.free hl2
        have hD0 : H D2 = Option.none := m1.free hD2
        have hL3 := n2 _ _ hL2
        have lD : l ≠ D2 := (ne_of_none hL2 hl2).symm
        have uD : u ≠ D2 := (ne_of_none (n1 _ _ hL2) hu).symm
        have hul : l ≠ u := fun e => by
          subst e
          rw [upd_same] at hu
          cases hu
        refine ⟨_, hL3, len_small ?_, same_put (m2.trans n2) hD2, _, upd_same, ?_⟩
        · rw [hY.length, List.length_map]
          exact Nat.le_trans (List.length_take_le _ _) (by omega)
        · rw [rem_upd, take_more hp, List.map_append]
          have mm : Same H (rem (upd (upd H2 l (.lst us)) u (.tup [.ref l, v2, v3])) D2) := same_rem (m12.trans n2) hD0
          refine (dps_same (dif_grow (rem_same n2)) hY).snoc (.tup (dif_tup mm (SqT.of ?_)) (.cons (dif_new hl0 ?_ (dif_qs mm (dps_same mm hbd))) (.cons (dif_q mm (dp_same mm h2)) (.cons (dif_q mm (dp_same mm h3)) .nil))))
          · rw [rem_ne uD, upd_same]
          · rw [rem_ne lD, upd_ne hul, upd_same]
      · obtain ⟨m2, ys, hL2, hY⟩ := hP
        rw [hlen, List.take_length] at hY
        exact hQ _ _ _ (m1.trans m2) (m1.free hD2) hL2 (dps_same (dif_grow (rem_sub _ _)) hY)
end
end Np
end
section
set_option linter.all false
set_option maxRecDepth 100000
set_option maxHeartbeats 4000000
/-! The class Fit: its making. -/
namespace Np
open PySem PySem.Spec PyProof.Rows L2
theorem Seqs.trans {H H1 H2 : Hp} (a : Seqs H H1) (b : Seqs H1 H2) : Seqs H H2 := fun c o e n => b c o (a c o e n) n
theorem Seqs.refl (H : Hp) : Seqs H H := fun _ _ e _ => e
abbrev fitFlds : List Str := ["points_kept", "wide", "columns", "wants", "weights", "parts", "shares", "rest"]
structure FitC (K : PySem.W.Frag) (C : Addr) : Prop where
  cls : Cls K C
  na : ∀ f, f ∈ fitFlds → NoAttr K C f
/-- a fit in the heap -/
def FitAt (K : PySem.W.Frag) (C : Addr) (H : Hp) (x : Addr) (ps : List Pt) (m : Nat) : Prop := ∃ dx v0 v2 v3 v4 v5 v6 v7,
  H x = some (.ins C dx [("points_kept", v0), ("wide", .int (m : Nat)), ("columns", v2), ("wants", v3), ("weights", v4), ("parts", v5), ("shares", v6), ("rest", v7)]) ∧
  Dp K H v0 (.list (ps.map encPt)) ∧ Dp K H v2 (.list ((colsOf ps m).map encR)) ∧ Dp K H v3 (encR (wantsOf ps)) ∧ Dp K H v4 (encR (wtsOf ps)) ∧ Dp K H v5 (.list ((partsOf ps m).map encP)) ∧
  Dp K H v6 (encR (toldOf ps m)) ∧ Dp K H v7 (encR (restOf ps m))
theorem FitAt.same {K : PySem.W.Frag} {C : Addr} {H H' : Hp} {x : Addr} {ps : List Pt} {m : Nat} (s : Same H H') (h : FitAt K C H x ps m) : FitAt K C H' x ps m := by
  obtain ⟨dx, v0, v2, v3, v4, v5, v6, v7, h0, h1, h2, h3, h4, h5, h6, h7⟩ := h
  exact ⟨dx, v0, v2, v3, v4, v5, v6, v7, s _ _ h0, dp_same s h1, dp_same s h2, dp_same s h3, dp_same s h4, dp_same s h5, dp_same s h6, dp_same s h7⟩
def spFitInit (K : PySem.W.Frag) (C : Addr) : Sp := fun vs H Q _ => ∃ x dx pv ps m, vs = [.ref x, pv, .int (m : Nat)] ∧ H x = some (.ins C dx []) ∧ Dp K H pv (.list (ps.map encPt)) ∧ Small ps m ∧
  ∀ H', But x H H' → FitAt K C H' x ps m → Q .non H'
theorem Small.rowsLen {ps : List Pt} {m : Nat} (S : Small ps m) : ∀ r, r ∈ ps.map (·.row) → r.length = m := fun r hr => by
  obtain ⟨p, hp, rfl⟩ := List.mem_map.mp hr
  exact S.row p hp
theorem stay {X : Hp} {p : Hp → Prop} (h : ∀ G, G = X → p G) : p X := h X rfl
theorem map_row (ps : List Pt) : ps.map (fun p => encR p.row) = (ps.map (·.row)).map encR := by rw [List.map_map]; rfl
theorem map_want (ps : List Pt) : ps.map (fun p => encQ p.want) = encs (wantsOf ps) := by unfold encs wantsOf; rw [List.map_map]; rfl
theorem map_wt (ps : List Pt) : ps.map (fun p => encQ p.wt) = encs (wtsOf ps) := by unfold encs wtsOf; rw [List.map_map]; rfl
abbrev N_Fit_init__ : List Str := ["self", "points", "wide", "found", "row", "want", "weight"]
theorem sc_Fit_init__ : FnScope ["self", "points", "wide", "found", "row", "want", "weight"] ["self", "points", "wide"] (defScope s_Fit_init__) := ⟨rfl, rfl, rfl, by decide +kernel, rfl, by decide +kernel, by decide +kernel⟩
theorem b_Fit_init__ : BindOk "__init__" "Fit.__init__" s_Fit_init__ ["self", "points", "wide"] := fun _ _ _ _ _ _ us hl => match us, hl with | [_, _, _], _ => rfl
section
variable {P : Program} {w : World} {K : PySem.W.Frag} {mg : Str → Option Value} {base : Heap} {aN aO C : Addr}
theorem k_Fit (T : Txt K mg aN aO) (c : FitC K C) (F : InitAt K mg C "Fit" "Fit.__init__" s_Fit_init__) (c_looked_points : C8.Cal P w K mg base 5 "looked_points" (spLooked K) []) (c_turned : C8.Cal P w K mg base 1 "turned" (spTurned K) [])
    (c_lefts : C8.Cal P w K mg base 7 "lefts" (spLefts K) []) (c_nearest : C8.Cal P w K mg base 8 "nearest" (spNearest K) []) : C8.Mak P w K mg base 9 "Fit" C (spFitInit K C) [] := by
  refine mak_of F sc_Fit_init__ b_Fit_init__ (fun vs H Q E h => ?_) (fun f cdv A outer s H vs Q E hr h => ?_)
  · obtain ⟨x, dx, pz, ps, m, rfl, _⟩ := h
    rfl
  · obtain ⟨x, dx, pz, ps, m, rfl, hx, hp, S, hQ⟩ := h
    have c0 := c.cls
    have na := c.na
    have lm : m ≤ 3 := S.m3
    have ll : ps.length ≤ 8 := S.len
    refine ⟨_, (pss_cons (ps_fld (pv 0) (C8.pe_c c_looked_points hr (by decide) rfl (pa_cons (pv 1) (pa_cons (pv 2) pa_nil))) rfl)
    (pss_cons (ps_fld (pv 0) (pv 2) rfl)
    (pss_cons (ps_fld (pv 0) (C8.pe_c c_turned hr (by decide) rfl (pa_cons (pe_lc (own := [("row", 4), ("want", 5), ("weight", 6)]) rfl sc_Fit_init__.nd (pi_list (pe_fld (pv 0) rfl)) (blkOk_by (own := [("row", 4), ("want", 5), ("weight", 6)]) (N := N_Fit_init__) (sc := defScope s_Fit_init__) (by decide +kernel)) (fun _ _ _ _ _ => (pg_tupK (K := K) (n := 3) rfl rfl (pgs_cons (pg_name (i := 4) sc_Fit_init__.nd rfl (Or.inl rfl)) (pgs_cons (pg_name (i := 5) sc_Fit_init__.nd rfl (Or.inl rfl)) (pgs_cons (pg_name (i := 6) sc_Fit_init__.nd rfl (Or.inl rfl)) pgs_nil))))) (fun _ _ _ _ _ => pts_nil) (fun _ _ _ _ _ => (pv 4))) (pa_cons (pv 2) pa_nil))) rfl)
    (pss_cons (ps_fld (pv 0) (pe_lc (own := [("row", 4), ("want", 5), ("weight", 6)]) rfl sc_Fit_init__.nd (pi_list (pe_fld (pv 0) rfl)) (blkOk_by (own := [("row", 4), ("want", 5), ("weight", 6)]) (N := N_Fit_init__) (sc := defScope s_Fit_init__) (by decide +kernel)) (fun _ _ _ _ _ => (pg_tupK (K := K) (n := 3) rfl rfl (pgs_cons (pg_name (i := 4) sc_Fit_init__.nd rfl (Or.inl rfl)) (pgs_cons (pg_name (i := 5) sc_Fit_init__.nd rfl (Or.inl rfl)) (pgs_cons (pg_name (i := 6) sc_Fit_init__.nd rfl (Or.inl rfl)) pgs_nil))))) (fun _ _ _ _ _ => pts_nil) (fun _ _ _ _ _ => (pv 5))) rfl)
    (pss_cons (ps_fld (pv 0) (pe_lc (own := [("row", 4), ("want", 5), ("weight", 6)]) rfl sc_Fit_init__.nd (pi_list (pe_fld (pv 0) rfl)) (blkOk_by (own := [("row", 4), ("want", 5), ("weight", 6)]) (N := N_Fit_init__) (sc := defScope s_Fit_init__) (by decide +kernel)) (fun _ _ _ _ _ => (pg_tupK (K := K) (n := 3) rfl rfl (pgs_cons (pg_name (i := 4) sc_Fit_init__.nd rfl (Or.inl rfl)) (pgs_cons (pg_name (i := 5) sc_Fit_init__.nd rfl (Or.inl rfl)) (pgs_cons (pg_name (i := 6) sc_Fit_init__.nd rfl (Or.inl rfl)) pgs_nil))))) (fun _ _ _ _ _ => pts_nil) (fun _ _ _ _ _ => (pv 6))) rfl)
    (pss_cons (ps_fld (pv 0) (C8.pe_c c_lefts hr (by decide) rfl (pa_cons (pe_fld (pv 0) rfl) (pa_cons (pe_fld (pv 0) rfl) pa_nil))) rfl)
    (pss_cons (ps_set (i := 3) sc_Fit_init__.nd rfl (Or.inl rfl) (C8.pe_c c_nearest hr (by decide) rfl (pa_cons (pe_fld (pv 0) rfl) (pa_cons (pe_fld (pv 0) rfl) (pa_cons (pe_fld (pv 0) rfl) pa_nil)))))
    (pss_cons (ps_fld (pv 0) (pe_ix ix_tup (pv 3) pe_int (fun _ _ => rfl)) rfl)
    (pss_one (ps_fld (pv 0) (pe_ix ix_tup (pv 3) pe_int (fun _ _ => rfl)) rfl)))))))))), ?_⟩
    refine ⟨_, rfl, _, rfl, pz, ps, m, rfl, hp, by omega, by omega, (fun p hp => ⟨S.row p hp, (S.wt p hp).2⟩), fun H1 LA xs n1 hLA hLA1 hxs0 => ?_⟩
    have hxs := dps_same (dif_sub H H1) hxs0
    have hlen := hxs.length
    rw [List.length_map] at hlen
    have hx1 := n1 _ _ hx
    refine ⟨_, rfl, x, C, dx, _, rfl, hx1, c0, na _ (by decide), by decide, ?_⟩
    refine ⟨_, rfl, _, rfl, x, C, dx, _, rfl, upd_same, c0, na _ (by decide), by show 1 < 1000; decide, ?_⟩
    -- columns
    have q2 : Seqs H1 (upd (upd H1 x (.ins C dx [("points_kept", .ref LA)])) x (.ins C dx [("points_kept", .ref LA), ("wide", .int (m : Nat))])) := (Seqs.put hx1).trans (Seqs.put upd_same)
    have b2 : But x H (upd (upd H1 x (.ins C dx [("points_kept", .ref LA)])) x (.ins C dx [("points_kept", .ref LA), ("wide", .int (m : Nat))])) := (n1.but.trans But.put).trans But.put
    refine stay (X := upd (upd H1 x (.ins C dx [("points_kept", .ref LA)])) x (.ins C dx [("points_kept", .ref LA), ("wide", .int (m : Nat))])) fun G2 e2 => ?_
    rw [← e2] at q2 b2
    have x2 : G2 x = some (.ins C dx [("points_kept", .ref LA), ("wide", .int (m : Nat))]) := by rw [e2]; exact upd_same
    have la2 : G2 LA = some (.lst xs) := q2 _ _ hLA1 fun _ _ _ e => nomatch e
    refine ⟨_, rfl, x, C, dx, _, _, rfl, x2, c0, na _ (by decide), rfl, LA, rfl, ⟨xs, SqL.of la2⟩, fun D hD => lc_list (K := K) (a := LA) (xs := xs) (fun i H' => Same G2 H' ∧ ∃ ys, H' D = some (.lst ys) ∧ DpAll K H1 ys ((ps.take i).map fun p => encR p.row))
      ⟨same_new hD, [], upd_same, .nil⟩ (fun i H' _ hP => hP.1.seq (.inl (.inl la2))) (fun i v H' hv hP => ?_) (fun H' hP => ?_)⟩
    · obtain ⟨m1, ys, hL, hY⟩ := hP
      obtain ⟨p, hp, hd2⟩ := pts_get hxs hv
      have hi := (List.getElem?_eq_some_iff.mp hp).1
      obtain ⟨t, v1, v2, v3, rfl, ht, h1, h2, h3⟩ := dp_pt hd2
      refine ⟨t, _, rfl, (q2.trans m1.seqs).t ht, rfl, _, _, rfl, _, _, rfl, _, _, rfl, ⟨rfl, rfl, ?_⟩⟩
      refine ⟨_, rfl, _, hL, len_small (by rw [hY.length, List.length_map]; exact Nat.le_trans (List.length_take_le _ _) (by omega)), same_put m1 hD, _, upd_same, ?_⟩
      rw [take_more hp, List.map_append]
      exact hY.snoc h1
    · obtain ⟨m1, ys, hL, hY⟩ := hP
      rw [hlen, List.take_length, map_row] at hY
      have q3 := q2.trans m1.seqs
      refine ⟨_, rfl, _, ps.map (·.row), m, rfl, .lst (SqL.of hL) (dps_seqs q3 hY), by rw [List.length_map]; omega, by omega, S.rowsLen, fun G3 v2 n3 h2 => ?_⟩
      have q4 := q3.trans n3.seqs
      have x3 := n3 _ _ (m1 _ _ x2)
      have b3 := (b2.trans m1.but).trans n3.but
      refine ⟨_, rfl, x, C, dx, _, rfl, x3, c0, na _ (by decide), by show 2 < 1000; decide, ?_⟩
      have q3q := q4
      have q3b := b3
      refine stay fun G4 e4 => ?_
      have x4 : G4 x = some (.ins C dx [("points_kept", .ref LA), ("wide", .int (m : Nat)), ("columns", v2)]) := by rw [e4]; exact upd_same
      have b4 : But x H G4 := by rw [e4]; exact q3b.trans But.put
      have q4 : Seqs H1 G4 := by rw [e4]; exact q3q.trans (Seqs.put x3)
      have la4 : G4 LA = some (.lst xs) := q4 _ _ hLA1 fun _ _ _ e => nomatch e
      have h2' : Dp K G4 v2 (.list ((colsOf ps m).map encR)) := by
        rw [← colsR_cols]
        refine dp_seqs ?_ (dp_same (dif_sub _ _) h2)
        rw [e4]; exact Seqs.put x3
      -- wants
      refine ⟨_, rfl, x, C, dx, _, _, rfl, x4, c0, na _ (by decide), rfl, LA, rfl, ⟨xs, SqL.of la4⟩, fun D3 hD3 => lc_list (K := K) (a := LA) (xs := xs) (fun i H' => Same G4 H' ∧ ∃ ys, H' D3 = some (.lst ys) ∧ DpAll K H1 ys ((ps.take i).map fun p => encQ p.want))
        ⟨same_new hD3, [], upd_same, .nil⟩ (fun i H' _ hP => hP.1.seq (.inl (.inl la4))) (fun i v H' hv hP => ?_) (fun H' hP => ?_)⟩
      · obtain ⟨m1, ys, hL, hY⟩ := hP
        obtain ⟨p, hp, hd2⟩ := pts_get hxs hv
        have hi := (List.getElem?_eq_some_iff.mp hp).1
        obtain ⟨t, v1, v2, v3, rfl, ht, h1, h2, h3⟩ := dp_pt hd2
        refine ⟨t, _, rfl, (q4.trans m1.seqs).t ht, rfl, _, _, rfl, _, _, rfl, _, _, rfl, ⟨rfl, rfl, ?_⟩⟩
        refine ⟨_, rfl, _, hL, len_small (by rw [hY.length, List.length_map]; exact Nat.le_trans (List.length_take_le _ _) (by omega)), same_put m1 hD3, _, upd_same, ?_⟩
        rw [take_more hp, List.map_append]
        exact hY.snoc h2
      obtain ⟨m1, ys, hL, hY⟩ := hP
      rw [hlen, List.take_length, map_want] at hY
      have q5q := q4.trans m1.seqs
      have q5b := b4.trans m1.but
      have x4' := m1 _ _ x4
      refine ⟨_, rfl, x, C, dx, _, rfl, x4', c0, na _ (by decide), by show 3 < 1000; decide, ?_⟩
      refine stay fun G5 e5 => ?_
      have x5 : G5 x = some (.ins C dx [("points_kept", .ref LA), ("wide", .int (m : Nat)), ("columns", v2), ("wants", .ref D3)]) := by rw [e5]; exact upd_same
      have b5 : But x H G5 := by rw [e5]; exact q5b.trans But.put
      have q5 : Seqs H1 G5 := by rw [e5]; exact q5q.trans (Seqs.put x4')
      have t5 : Seqs G4 G5 := by rw [e5]; exact m1.seqs.trans (Seqs.put x4')
      have h2' := dp_seqs t5 h2'
      have h3' : Dp K G5 (.ref D3) (encR (wantsOf ps)) := .lst (SqL.of (by rw [e5]; exact Seqs.put x4' _ _ hL fun _ _ _ e => nomatch e)) (dps_seqs q5 hY)
      have la5 : G5 LA = some (.lst xs) := q5 _ _ hLA1 fun _ _ _ e => nomatch e
      -- weights
      refine ⟨_, rfl, x, C, dx, _, _, rfl, x5, c0, na _ (by decide), rfl, LA, rfl, ⟨xs, SqL.of la5⟩, fun D hD => lc_list (K := K) (a := LA) (xs := xs) (fun i H' => Same G5 H' ∧ ∃ ys, H' D = some (.lst ys) ∧ DpAll K H1 ys ((ps.take i).map fun p => encQ p.wt))
        ⟨same_new hD, [], upd_same, .nil⟩ (fun i H' _ hP => hP.1.seq (.inl (.inl la5))) (fun i v H' hv hP => ?_) (fun H' hP => ?_)⟩
      · obtain ⟨m1, ys, hL, hY⟩ := hP
        obtain ⟨p, hp, hd2⟩ := pts_get hxs hv
        have hi := (List.getElem?_eq_some_iff.mp hp).1
        obtain ⟨t, v1, v2, v3, rfl, ht, h1, h2, h3⟩ := dp_pt hd2
        refine ⟨t, _, rfl, (q5.trans m1.seqs).t ht, rfl, _, _, rfl, _, _, rfl, _, _, rfl, ⟨rfl, rfl, ?_⟩⟩
        refine ⟨_, rfl, _, hL, len_small (by rw [hY.length, List.length_map]; exact Nat.le_trans (List.length_take_le _ _) (by omega)), same_put m1 hD, _, upd_same, ?_⟩
        rw [take_more hp, List.map_append]
        exact hY.snoc h3
      obtain ⟨m1, ys, hL, hY⟩ := hP
      rw [hlen, List.take_length, map_wt] at hY
      have q6q := q5.trans m1.seqs
      have q6b := b5.trans m1.but
      have x5' := m1 _ _ x5
      refine ⟨_, rfl, x, C, dx, _, rfl, x5', c0, na _ (by decide), by show 4 < 1000; decide, ?_⟩
      refine stay fun G6 e6 => ?_
      have x6 : G6 x = some (.ins C dx [("points_kept", .ref LA), ("wide", .int (m : Nat)), ("columns", v2), ("wants", .ref D3), ("weights", .ref D)]) := by rw [e6]; exact upd_same
      have b6 : But x H G6 := by rw [e6]; exact q6b.trans But.put
      have q6 : Seqs H1 G6 := by rw [e6]; exact q6q.trans (Seqs.put x5')
      have t6 : Seqs G5 G6 := by rw [e6]; exact m1.seqs.trans (Seqs.put x5')
      have h2' := dp_seqs t6 h2'
      have h3' := dp_seqs t6 h3'
      have h4' : Dp K G6 (.ref D) (encR (wtsOf ps)) := .lst (SqL.of (by rw [e6]; exact Seqs.put x5' _ _ hL fun _ _ _ e => nomatch e)) (dps_seqs q6 hY)
      -- parts
      refine ⟨_, rfl, x, C, dx, _, _, rfl, x6, c0, na _ (by decide), rfl, _, rfl, x, C, dx, _, _, rfl, x6, c0, na _ (by decide), rfl, _, _, colsOf ps m, wtsOf ps, rfl, h2', h4', by rw [wts_len]; omega, by rw [cols_len]; omega, fun r hr => (S.cols r hr).2, S.lefts, fun G7 v5 n7 h5 => ?_⟩
      have x7 := n7 _ _ x6
      have h5 := dp_same (dif_sub _ _) h5
      refine ⟨_, rfl, x, C, dx, _, rfl, x7, c0, na _ (by decide), by show 5 < 1000; decide, ?_⟩
      have q7q := q6.trans n7.seqs
      have q7b := b6.trans n7.but
      refine stay fun G8 e8 => ?_
      have x8 : G8 x = some (.ins C dx [("points_kept", .ref LA), ("wide", .int (m : Nat)), ("columns", v2), ("wants", .ref D3), ("weights", .ref D), ("parts", v5)]) := by rw [e8]; exact upd_same
      have b8 : But x H G8 := by rw [e8]; exact q7b.trans But.put
      have q8 : Seqs H1 G8 := by rw [e8]; exact q7q.trans (Seqs.put x7)
      have t8 : Seqs G7 G8 := by rw [e8]; exact Seqs.put x7
      have h2' := dp_seqs (n7.seqs.trans t8) h2'
      have h3' := dp_seqs (n7.seqs.trans t8) h3'
      have h4' := dp_seqs (n7.seqs.trans t8) h4'
      have h5' := dp_seqs t8 h5
      -- found
      refine ⟨_, rfl, x, C, dx, _, _, rfl, x8, c0, na _ (by decide), rfl, _, rfl, x, C, dx, _, _, rfl, x8, c0, na _ (by decide), rfl, _, rfl, x, C, dx, _, _, rfl, x8, c0, na _ (by decide), rfl, _, _, _, colsOf ps m, wantsOf ps, wtsOf ps, rfl, h2', h3', h4', by rw [wts_len]; omega, by rw [cols_len]; omega, fun r hr => (S.cols r hr).2, by rw [wants_len, wts_len], S.lefts, S.near, fun G9 v9 n9 h9 => ?_⟩
      obtain ⟨a9, y1, y2, rfl, ha9, hy1, hy2⟩ := dp_pair (dp_same (dif_sub _ _) h9)
      have x9 := n9 _ _ x8
      refine ⟨_, rfl, a9, _, _, y1, rfl, rfl, ha9, rfl, _, rfl, x, C, dx, _, rfl, x9, c0, na _ (by decide), by show 6 < 1000; decide, ?_⟩
      have q9q := q8.trans n9.seqs
      have q9b := b8.trans n9.but
      refine stay fun G10 e10 => ?_
      have x10 : G10 x = some (.ins C dx [("points_kept", .ref LA), ("wide", .int (m : Nat)), ("columns", v2), ("wants", .ref D3), ("weights", .ref D), ("parts", v5), ("shares", y1)]) := by rw [e10]; exact upd_same
      have b10 : But x H G10 := by rw [e10]; exact q9b.trans But.put
      have q10 : Seqs H1 G10 := by rw [e10]; exact q9q.trans (Seqs.put x9)
      have t10 : Seqs G9 G10 := by rw [e10]; exact Seqs.put x9
      refine ⟨_, rfl, a9, _, _, y2, rfl, rfl, t10.t ha9, rfl, _, rfl, x, C, dx, _, rfl, x10, c0, na _ (by decide), by show 7 < 1000; decide, ?_⟩
      have q10q := q10
      have q10b := b10
      refine stay fun G11 e11 => ?_
      have x11 : G11 x = some (.ins C dx [("points_kept", .ref LA), ("wide", .int (m : Nat)), ("columns", v2), ("wants", .ref D3), ("weights", .ref D), ("parts", v5), ("shares", y1), ("rest", y2)]) := by rw [e11]; exact upd_same
      have b11 : But x H G11 := by rw [e11]; exact q10b.trans But.put
      have q11 : Seqs H1 G11 := by rw [e11]; exact q10q.trans (Seqs.put x10)
      have t11 : Seqs G9 G11 := by rw [e11]; exact t10.trans (Seqs.put x10)
      have t89 := n9.seqs.trans t11
      exact hQ _ b11 ⟨dx, _, _, _, _, _, _, _, x11, .lst (SqL.of (q11 _ _ hLA1 fun _ _ _ e => nomatch e)) (dps_seqs q11 hxs), dp_seqs t89 h2', dp_seqs t89 h3', dp_seqs t89 h4', dp_seqs t89 h5', dp_seqs t11 hy1, dp_seqs t11 hy2⟩
end
end Np
end
section
set_option linter.all false
set_option maxRecDepth 100000
set_option maxHeartbeats 4000000
/-! The class Fit: its methods. -/
namespace Np
open PySem PySem.Spec PyProof.Rows L2
/-- a method of a fit that hands back data -/
def spFitG (K : PySem.W.Frag) (C : Addr) (g : List Pt → Nat → PyData) : Sp := fun vs H Q _ => ∃ x ps m, vs = [.ref x] ∧ FitAt K C H x ps m ∧ Small ps m ∧ GiveF K H Q (g ps m)
def encInts (ks : List Nat) : PyData := .list (ks.map fun k => .int (k : Nat))
def gTold (ps : List Pt) (m : Nat) : PyData := encR (toldOf ps m)
def gRests (ps : List Pt) (m : Nat) : PyData := encR (restOf ps m)
def gFree (ps : List Pt) (m : Nat) : PyData := encInts (freeOf ps m)
def gSquares (ps : List Pt) (m : Nat) : PyData := encQ (squaresOf ps m)
def gWays (ps : List Pt) (m : Nat) : PyData := .list ((waysOf ps m).map encR)
def pullsOf (ps : List Pt) (m : Nat) : Row := (List.range ps.length).map fun i => pullOf ps m i
def gPulls (ps : List Pt) (m : Nat) : PyData := encR (pullsOf ps m)
def spSure (K : PySem.W.Frag) (C : Addr) : Sp := fun vs H Q _ => ∃ x y ps m row, vs = [.ref x, y] ∧ FitAt K C H x ps m ∧ Small ps m ∧ Dp K H y (encR row) ∧ TinyRow m row ∧ ∀ H', Same H H' → Q (.bl (sureB ps m row)) H'
def spPull (K : PySem.W.Frag) (C : Addr) : Sp := fun vs H Q _ => ∃ x ps m k, vs = [.ref x, .int (k : Nat)] ∧ FitAt K C H x ps m ∧ Small ps m ∧ k < ps.length ∧ GiveQ K H Q (encQ (pullOf ps m k))
abbrev N_Fit_told : List Str := ["self"]
theorem sc_Fit_told : FnScope ["self"] ["self"] (defScope s_Fit_told) := ⟨rfl, rfl, rfl, by decide +kernel, rfl, by decide +kernel, by decide +kernel⟩
theorem b_Fit_told : BindOk "told" "Fit.told" s_Fit_told ["self"] := fun _ _ _ _ _ _ us hl => match us, hl with | [_], _ => rfl
abbrev N_Fit_free : List Str := ["self", "k", "part"]
theorem sc_Fit_free : FnScope ["self", "k", "part"] ["self"] (defScope s_Fit_free) := ⟨rfl, rfl, rfl, by decide +kernel, rfl, by decide +kernel, by decide +kernel⟩
theorem b_Fit_free : BindOk "free" "Fit.free" s_Fit_free ["self"] := fun _ _ _ _ _ _ us hl => match us, hl with | [_], _ => rfl
abbrev N_Fit_rests : List Str := ["self"]
theorem sc_Fit_rests : FnScope ["self"] ["self"] (defScope s_Fit_rests) := ⟨rfl, rfl, rfl, by decide +kernel, rfl, by decide +kernel, by decide +kernel⟩
theorem b_Fit_rests : BindOk "rests" "Fit.rests" s_Fit_rests ["self"] := fun _ _ _ _ _ _ us hl => match us, hl with | [_], _ => rfl
abbrev N_Fit_squares : List Str := ["self"]
theorem sc_Fit_squares : FnScope ["self"] ["self"] (defScope s_Fit_squares) := ⟨rfl, rfl, rfl, by decide +kernel, rfl, by decide +kernel, by decide +kernel⟩
theorem b_Fit_squares : BindOk "squares" "Fit.squares" s_Fit_squares ["self"] := fun _ _ _ _ _ _ us hl => match us, hl with | [_], _ => rfl
abbrev N_Fit_ways : List Str := ["self", "found", "k", "way", "share"]
theorem sc_Fit_ways : FnScope ["self", "found", "k", "way", "share"] ["self"] (defScope s_Fit_ways) := ⟨rfl, rfl, rfl, by decide +kernel, rfl, by decide +kernel, by decide +kernel⟩
theorem b_Fit_ways : BindOk "ways" "Fit.ways" s_Fit_ways ["self"] := fun _ _ _ _ _ _ us hl => match us, hl with | [_], _ => rfl
abbrev N_Fit_sure : List Str := ["self", "row", "way"]
theorem sc_Fit_sure : FnScope ["self", "row", "way"] ["self", "row"] (defScope s_Fit_sure) := ⟨rfl, rfl, rfl, by decide +kernel, rfl, by decide +kernel, by decide +kernel⟩
theorem b_Fit_sure : BindOk "sure" "Fit.sure" s_Fit_sure ["self", "row"] := fun _ _ _ _ _ _ us hl => match us, hl with | [_, _], _ => rfl
abbrev N_Fit_pull : List Str := ["self", "k", "found", "left", "shares"]
theorem sc_Fit_pull : FnScope ["self", "k", "found", "left", "shares"] ["self", "k"] (defScope s_Fit_pull) := ⟨rfl, rfl, rfl, by decide +kernel, rfl, by decide +kernel, by decide +kernel⟩
theorem b_Fit_pull : BindOk "pull" "Fit.pull" s_Fit_pull ["self", "k"] := fun _ _ _ _ _ _ us hl => match us, hl with | [_, _], _ => rfl
abbrev N_Fit_pulls : List Str := ["self", "k"]
theorem sc_Fit_pulls : FnScope ["self", "k"] ["self"] (defScope s_Fit_pulls) := ⟨rfl, rfl, rfl, by decide +kernel, rfl, by decide +kernel, by decide +kernel⟩
theorem b_Fit_pulls : BindOk "pulls" "Fit.pulls" s_Fit_pulls ["self"] := fun _ _ _ _ _ _ us hl => match us, hl with | [_], _ => rfl
theorem part_get {K : PySem.W.Frag} {H : Hp} {xs : List V} {ps : List Part} {i : Nat} {p : Part} (h : DpAll K H xs (ps.map encP)) (hp : ps[i]? = some p) : ∃ a x y, xs[i]? = some (.ref a) ∧ SqT K H a [x, y] ∧ Dp K H x (encR p.1) ∧ Dp K H y (encR p.2) := by
  obtain ⟨v, h1, h2⟩ := h.get (i := i) (d := encP p) (by rw [List.getElem?_map, hp]; rfl)
  obtain ⟨a, x, y, rfl, q1, q2, q3⟩ := dp_pair h2
  exact ⟨a, x, y, h1, q1, q2, q3⟩
/-- the free columns among the first -/
def freeUp (parts : List Part) (i : Nat) : List Nat := (List.range i).filter fun k => still (parts.getD k ([], [])).1
theorem freeUp_succ {parts : List Part} {i : Nat} {p : Part} (h : parts[i]? = some p) : freeUp parts (i + 1) = freeUp parts i ++ (if still p.1 = true then [i] else []) := by
  unfold freeUp
  rw [List.range_succ, List.filter_append]
  congr 1
  have e : parts.getD i ([], []) = p := by rw [List.getD_eq_getElem?_getD, h]; rfl
  show List.filter _ [i] = _
  simp only [List.filter_cons, List.filter_nil, e]
theorem freeUp_len (parts : List Part) (i : Nat) : (freeUp parts i).length ≤ i := by
  unfold freeUp
  exact Nat.le_trans (List.length_filter_le _ _) (by rw [List.length_range]; exact Nat.le_refl _)
section
variable {P : Program} {w : World} {K : PySem.W.Frag} {mg : Str → Option Value} {base : Heap} {aN aO C : Addr}
theorem k_told (T : Txt K mg aN aO) (c : FitC K C) (F : MethAt K C "told" "Fit.told" s_Fit_told) : C8.Met P w K mg base 1 C "told" (spFitG K C gTold) [] := by
  refine met_of c.cls F sc_Fit_told b_Fit_told (fun vs H Q E h => ?_) (fun f cdv A outer s H vs Q E hr h => ?_)
  · obtain ⟨x, ps, m, rfl, _⟩ := h
    rfl
  · obtain ⟨x, ps, m, rfl, hx, S, hQ⟩ := h
    obtain ⟨dx, v0, v2, v3, v4, v5, v6, v7, h0, h1, h2, h3, h4, h5, h6, h7⟩ := hx
    have c0 := c.cls
    have na := c.na
    obtain ⟨a, xs, rfl, hs, hd⟩ := dp_list h6
    refine ⟨_, (pss_one (ps_ret (pe_callTy call_list_of rfl T.list (by decide +kernel) (pa_cons (pe_fld (pv 0) rfl) pa_nil)))), ?_⟩
    refine ⟨_, rfl, x, C, dx, _, _, rfl, h0, c0, na _ (by decide), rfl, a, xs, rfl, .inl hs, fun l hl => ?_⟩
    exact hQ _ _ (same_new hl) (dif_new hl upd_same (dif_qs (same_new hl) (dps_same (same_new hl) hd)))
theorem k_rests (T : Txt K mg aN aO) (c : FitC K C) (F : MethAt K C "rests" "Fit.rests" s_Fit_rests) : C8.Met P w K mg base 1 C "rests" (spFitG K C gRests) [] := by
  refine met_of c.cls F sc_Fit_rests b_Fit_rests (fun vs H Q E h => ?_) (fun f cdv A outer s H vs Q E hr h => ?_)
  · obtain ⟨x, ps, m, rfl, _⟩ := h
    rfl
  · obtain ⟨x, ps, m, rfl, hx, S, hQ⟩ := h
    obtain ⟨dx, v0, v2, v3, v4, v5, v6, v7, h0, h1, h2, h3, h4, h5, h6, h7⟩ := hx
    have c0 := c.cls
    have na := c.na
    obtain ⟨a, xs, rfl, hs, hd⟩ := dp_list h7
    refine ⟨_, (pss_one (ps_ret (pe_callTy call_list_of rfl T.list (by decide +kernel) (pa_cons (pe_fld (pv 0) rfl) pa_nil)))), ?_⟩
    refine ⟨_, rfl, x, C, dx, _, _, rfl, h0, c0, na _ (by decide), rfl, a, xs, rfl, .inl hs, fun l hl => ?_⟩
    exact hQ _ _ (same_new hl) (dif_new hl upd_same (dif_qs (same_new hl) (dps_same (same_new hl) hd)))
theorem k_squares (T : Txt K mg aN aO) (c : FitC K C) (F : MethAt K C "squares" "Fit.squares" s_Fit_squares) (c_square : C8.Cal P w K mg base 5 "square" (spSquare K) []) : C8.Met P w K mg base 6 C "squares" (spFitG K C gSquares) [] := by
  refine met_of c.cls F sc_Fit_squares b_Fit_squares (fun vs H Q E h => ?_) (fun f cdv A outer s H vs Q E hr h => ?_)
  · obtain ⟨x, ps, m, rfl, _⟩ := h
    rfl
  · obtain ⟨x, ps, m, rfl, hx, S, hQ⟩ := h
    obtain ⟨dx, v0, v2, v3, v4, v5, v6, v7, h0, h1, h2, h3, h4, h5, h6, h7⟩ := hx
    have c0 := c.cls
    have na := c.na
    have ll := S.len
    obtain ⟨f1, f2⟩ := fit_shape S
    refine ⟨_, (pss_one (ps_ret (C8.pe_c c_square hr (by decide) rfl (pa_cons (pe_fld (pv 0) rfl) (pa_cons (pe_fld (pv 0) rfl) pa_nil))))), ?_⟩
    refine ⟨_, rfl, x, C, dx, _, _, rfl, h0, c0, na _ (by decide), rfl, _, rfl, x, C, dx, _, _, rfl, h0, c0, na _ (by decide), rfl, _, _, restOf ps m, wtsOf ps, rfl, h7, h4, by omega, by rw [f1, wts_len], S.squares.1, fun H' v s' h' => hQ _ _ s' (dif_q s' h')⟩
theorem k_free (T : Txt K mg aN aO) (c : FitC K C) (F : MethAt K C "free" "Fit.free" s_Fit_free) (c_is_still : C8.Cal P w K mg base 1 "is_still" (spStill K) []) : C8.Met P w K mg base 2 C "free" (spFitG K C gFree) [] := by
  refine met_of c.cls F sc_Fit_free b_Fit_free (fun vs H Q E h => ?_) (fun f cdv A outer s H vs Q E hr h => ?_)
  · obtain ⟨x, ps, m, rfl, _⟩ := h
    rfl
  · obtain ⟨x, ps, m, rfl, hx, S, hQ⟩ := h
    obtain ⟨dx, v0, v2, v3, v4, v5, v6, v7, h0, h1, h2, h3, h4, h5, h6, h7⟩ := hx
    have c0 := c.cls
    have na := c.na
    have lm := S.m3
    have ll := S.len
    obtain ⟨a, xs, rfl, hs, hd⟩ := dp_list h5
    have hlen := hd.length
    rw [List.length_map, parts_len] at hlen
    refine ⟨_, (pss_one (ps_ret (pe_lc (own := [("k", 1), ("part", 2)]) rfl sc_Fit_free.nd (pi_enum rfl T.enumerate (pa_cons (pe_fld (pv 0) rfl) pa_nil)) (blkOk_by (own := [("k", 1), ("part", 2)]) (N := N_Fit_free) (sc := defScope s_Fit_free) (by decide +kernel)) (fun _ _ _ _ _ => (pg_tupK (K := K) (n := 2) rfl rfl (pgs_cons (pg_name (i := 1) sc_Fit_free.nd rfl (Or.inl rfl)) (pgs_cons (pg_name (i := 2) sc_Fit_free.nd rfl (Or.inl rfl)) pgs_nil)))) (fun _ _ _ _ _ => (pts_one (pt_val (C8.pe_c c_is_still hr (by decide) rfl (pa_cons (pe_ix (ix_tupK (K := K) rfl) (pv 2) pe_int (fun _ _ => rfl)) pa_nil))))) (fun _ _ _ _ _ => (pv 1))))), ?_⟩
    refine ⟨_, rfl, x, C, dx, _, _, rfl, h0, c0, na _ (by decide), rfl, a, xs, rfl, hs, fun D hD => lc_by (n := m) (fun i H' => Same H H' ∧ H' D = some (.lst ((freeUp (partsOf ps m) i).map fun k => V.int (k : Nat))))
      ⟨same_new hD, upd_same⟩ (fun i H' hi hP => ?_) (fun H' hP => ?_)⟩
    · obtain ⟨m1, hL⟩ := hP
      obtain ⟨p, ep⟩ : ∃ p, (partsOf ps m)[i]? = some p := ⟨_, List.getElem?_eq_getElem (by rw [parts_len]; exact hi)⟩
      obtain ⟨pa, l1, l2, ex, hpa, hp1, hp2⟩ := part_get hd ep
      refine ⟨⟨xs, _, m1.seq hs, ex⟩, fun v H1 hv => ?_⟩
      obtain ⟨t, x', rfl, ht, rfl, hx'⟩ := hv
      have ex2 := hx' xs (m1.seq hs)
      rw [ex] at ex2
      cases Option.some.inj ex2
      have n1 : Same H' (upd H' t (.tup [.int (i : Nat), V.ref pa])) := same_new ht
      have m2 := m1.trans n1
      refine ⟨t, _, rfl, SqT.of upd_same, rfl, _, _, rfl, _, _, rfl, ⟨rfl, rfl, ?_⟩⟩
      have sp := (S.part ep).2.2.1
      refine ⟨_, rfl, pa, _, _, l1, rfl, rfl, m2.tup hpa, rfl, _, _, rfl, dp_same m2 hp1, by omega, fun H2 n2 => ?_⟩
      have m3 := m2.trans n2
      have hL2 := n2 _ _ (n1 _ _ hL)
      refine ⟨_, rfl, ?_⟩
      cases hst : still p.1 with
      | true =>
        refine iteT ?_
        refine ⟨_, rfl, _, hL2, len_small (by rw [List.length_map]; have := freeUp_len (partsOf ps m) i; omega), same_put m3 hD, ?_⟩
        rw [upd_same, freeUp_succ ep, hst, if_pos rfl, List.map_append]
        rfl
      | false =>
        refine iteF ?_
        refine ⟨m3, ?_⟩
        rw [hL2, freeUp_succ ep, hst]
        show _ = some (HO.lst (List.map _ (_ ++ [])))
        rw [List.append_nil]
    · obtain ⟨m1, hL⟩ := hP
      refine ⟨⟨xs, m1.seq hs, by omega⟩, hQ _ _ m1 (dif_new hD hL ?_)⟩
      have e : freeOf ps m = freeUp (partsOf ps m) m := by
        unfold freeOf freeIn freeUp
        rw [parts_len]
      rw [e]
      generalize freeUp (partsOf ps m) m = ks
      induction ks with
      | nil => exact .nil
      | cons k r ih => exact .cons (.int _) ih
theorem int_get {K : PySem.W.Frag} {H : Hp} {xs : List V} {ks : List Nat} {i : Nat} {v : V} (h : DpAll K H xs (ks.map fun k => PyData.int (k : Nat))) (hv : xs[i]? = some v) : ∃ k, ks[i]? = some k ∧ v = .int (k : Nat) := by
  obtain ⟨d, h1, h2⟩ := h.get' hv
  rw [List.getElem?_map] at h1
  cases e : ks[i]? with
  | none =>
    rw [e] at h1
    cases h1
  | some r =>
    rw [e] at h1
    cases Option.some.inj h1
    exact ⟨r, rfl, dp_int h2⟩
theorem k_ways (T : Txt K mg aN aO) (c : FitC K C) (F : MethAt K C "ways" "Fit.ways" s_Fit_ways) (c_Fit_free : C8.Met P w K mg base 2 C "free" (spFitG K C gFree) []) (c_minus : C8.Cal P w K mg base 3 "minus" (spMinus K) []) : C8.Met P w K mg base 4 C "ways" (spFitG K C gWays) [] := by
  refine met_of c.cls F sc_Fit_ways b_Fit_ways (fun vs H Q E h => ?_) (fun f cdv A outer s H vs Q E hr h => ?_)
  · obtain ⟨x, ps, m, rfl, _⟩ := h
    rfl
  · obtain ⟨x, ps, m, rfl, hx, S, hQ⟩ := h
    have hx0 := hx
    obtain ⟨dx, v0, v2, v3, v4, v5, v6, v7, h0, h1, h2, h3, h4, h5, h6, h7⟩ := hx
    have c0 := c.cls
    have na := c.na
    have lm := S.m3
    have ll := S.len
    obtain ⟨ap, xp, rfl, hsp, hdp⟩ := dp_list h5
    refine ⟨_, (pss_cons (ps_set (i := 1) sc_Fit_ways.nd rfl (Or.inl rfl) (pe_lst pa_nil))
    (pss_cons (ps_for PassesOwn.never rfl (pi_list (C8.pe_mt0 c_Fit_free hr (by decide) (pv 0))) (pg_name (i := 2) sc_Fit_ways.nd rfl (Or.inl rfl))
    (pss_cons (ps_setLc (i := 3) (own := [("share", 4)]) rfl sc_Fit_ways.nd rfl rfl (sw_true rfl rfl rfl (by decide +kernel)) (pi_list (pe_ix ix_tup (pe_ix ix_list (pe_fld (pv 0) rfl) (pv 2) (fun _ _ => rfl)) pe_int (fun _ _ => rfl))) (blkOk_by (own := [("share", 4)]) (N := N_Fit_ways) (sc := defScope s_Fit_ways) (by decide +kernel)) (fun _ _ _ _ _ => (pg_name (i := 4) sc_Fit_ways.nd rfl (Or.inl rfl))) (fun _ _ _ _ _ => pts_nil) (fun _ _ _ _ _ => (C8.pe_c c_minus hr (by decide) rfl (pa_cons (C8.pe_gc rfl T.NOUGHT) (pa_cons (pv 4) pa_nil)))))
    (pss_one (ps_expr (pe_bm PySem.F.plainAttrs_list PySem.F.slot_list_append PySem.F.type_list_append mt_append (pv 1) (pa_cons (pe_op op_cat (pe_op op_cat (pv 3) (pe_lst (pa_cons (C8.pe_gc rfl T.ONE) pa_nil))) (pe_op op_rep (pe_lst (pa_cons (C8.pe_gc rfl T.NOUGHT) pa_nil)) (pe_op op_sub (pe_op op_sub (pe_fld (pv 0) rfl) (pv 2)) pe_int))) pa_nil))))))
    (pss_one (ps_ret (pv 1))))), ?_⟩
    refine ⟨Nat.zero_le _, fun F0 hF => ?_⟩
    have s0 : Same H (upd H F0 (.lst [])) := same_new hF
    refine ⟨_, rfl, x, dx, _, rfl, s0 _ _ h0, rfl, x, ps, m, rfl, hx0.same s0, S, fun H1 v1 n1 hv1 => ?_⟩
    have n01 := s0.trans n1
    have hF1 := n1 _ _ (upd_same (H := H))
    obtain ⟨b, xs, rfl, hs0, hd⟩ := dp_list hv1
    have hs1 : SqL K (rem H1 F0) b xs := (dif_rem upd_same).seq hs0
    have hlen := hd.length
    rw [List.length_map] at hlen
    have fl : (freeOf ps m).length ≤ m := by
      have := freeUp_len (partsOf ps m) m
      unfold freeOf freeIn
      rw [parts_len]
      exact this
    refine ⟨b, rfl, ⟨xs, (rem_sub _ _).seq hs1⟩, for_list (K := K) (a := b) (xs := xs) (fun i σ H' => Same H H' ∧ Same (rem H1 F0) (rem H' F0) ∧ ∃ a2 a3 a4 ys, σ = [some (V.ref x), some (V.ref F0), a2, a3, a4] ∧ H' F0 = some (.lst ys) ∧ DpAll K (dif H (rem H' F0)) ys (((freeOf ps m).take i).map fun k => encR (wayIn (partsOf ps m) m k)))
      ⟨n01, fun _ _ e => e, Option.none, Option.none, Option.none, [], rfl, hF1, .nil⟩ (fun i σ H' _ hP => (rem_sub _ _).seq (hP.2.1.seq hs1)) (fun i v σ H' hv hP => ?_) (fun σ H' hP => ?_)⟩
    · obtain ⟨m1, r1, a2, a3, a4, ys, rfl, hL, hY⟩ := hP
      obtain ⟨k, hk, rfl⟩ := int_get hd hv
      obtain ⟨p, ep, epd⟩ := free_mem S (List.mem_of_getElem? hk)
      obtain ⟨z1, z2, z3, z4, z5⟩ := S.part ep
      obtain ⟨pa, u1, u2, ex, hpa, hp1, hp2⟩ := part_get hdp ep
      obtain ⟨bs, us, rfl, hbs, hus⟩ := dp_list hp2
      have hul := hus.length
      rw [encs_len] at hul
      have hi := (List.getElem?_eq_some_iff.mp hk).1
      refine ⟨_, rfl, x, C, dx, _, _, rfl, m1 _ _ h0, c0, na _ (by decide), rfl, _, rfl, ap, xp, _, _, rfl, rfl, m1.seq hsp, atI_nat ex, pa, _, _, _, rfl, rfl, m1.tup hpa, rfl, bs, rfl, ⟨us, m1.seq hbs⟩, fun D hD => lc_list (K := K) (a := bs) (xs := us) (fun j H2 => Same H' H2 ∧ ∃ zs, H2 D = some (.lst zs) ∧ DpAll K (rem H2 D) zs (encs ((p.2.take j).map fun s => 0 - s)))
        ⟨same_new hD, [], upd_same, .nil⟩ (fun j H2 _ hP => hP.1.seq (m1.seq hbs)) (fun j v H2 hv hP => ?_) (fun H2 hP => ?_)⟩
      · obtain ⟨m2, zs, hL2, hZ⟩ := hP
        obtain ⟨d, hd1, hd2⟩ := hus.get' hv
        obtain ⟨q, hq, rfl⟩ := encs_get hd1
        have hj := (List.getElem?_eq_some_iff.mp hq).1
        have m12 := m1.trans m2
        refine ⟨rfl, ?_⟩
        refine ⟨_, rfl, _, _, (0 : Rat), q, rfl, T.nought _, dp_same m12 hd2, ⟨by decide, by decide⟩, S.zShares ep q (List.mem_of_getElem? hq), trivial, fun H3 v3 n3 h3 => ?_⟩
        have hL3 := n3 _ _ hL2
        refine ⟨_, hL3, len_small ?_, same_put (m2.trans n3) hD, _, upd_same, ?_⟩
        · rw [hZ.length, encs_len, List.length_map]
          exact Nat.le_trans (List.length_take_le _ _) (by omega)
        · rw [rem_upd, take_more hq, List.map_append, encs_app]
          exact (dps_same (rem_same n3) hZ).snoc (rem_q h3 hL3)
      · obtain ⟨m2, zs, hL2, hZ⟩ := hP
        rw [hul, List.take_length] at hZ
        have m12 := m1.trans m2
        have zl := hZ.length
        rw [encs_len, List.length_map, z4] at zl
        have yl := hY.length
        rw [List.length_map] at yl
        have tl := List.length_take_le i (freeOf ps m)
        have hLF := m2 _ _ hL
        have nDF : D ≠ F0 := (ne_of_none hL hD).symm
        refine ⟨_, rfl, .inl ⟨rfl, _, SqL.of hLF⟩, _, rfl, by show 1 ≤ sizeLine; decide, fun t1 ht1 => ?_⟩
        have n3 : Same H2 (upd H2 t1 (.lst [V.ref aO])) := same_new ht1
        refine ⟨D, t1, zs, _, rfl, rfl, n3 _ _ hL2, upd_same, len_small (by omega), fun t2 ht2 => ?_⟩
        refine stay fun H4 e4 => ?_
        have n4 : Same H2 H4 := by rw [e4]; exact n3.trans (same_new ht2)
        have hw2 : H4 t2 = some (.lst (zs ++ [V.ref aO])) := by rw [e4]; exact upd_same
        have f2 : H2 t2 = Option.none := n3.free ht2
        refine ⟨by show 1 ≤ sizeLine; decide, fun t3 ht3 => ?_⟩
        have n5 : Same H4 (upd H4 t3 (.lst [V.ref aN])) := same_new ht3
        refine ⟨_, rfl, x, C, dx, _, _, rfl, n5 _ _ (n4 _ _ (m12 _ _ h0)), c0, na _ (by decide), rfl, _, rfl, _, _, rfl, rfl, _, _, rfl, rfl, t3, _, _, rfl, rfl, upd_same, by omega, by omega, Nat.le_of_lt (len_small (by show 1 * ((m : Nat) - (k : Nat) - 1 : Int).toNat ≤ _; omega)), fun t4 ht4 => ?_⟩
        rw [flat_rep]
        have eT : ((m : Nat) - (k : Nat) - 1 : Int).toNat = m - k - 1 := by omega
        rw [eT]
        have n6 := n5.trans (same_new (o := .lst (List.replicate (m - k - 1) (V.ref aN))) ht4)
        refine ⟨t2, t4, _, _, rfl, rfl, n6 _ _ hw2, upd_same, Nat.le_of_lt (len_small (by rw [List.length_append, List.length_replicate]; show zs.length + 1 + _ ≤ _; omega)), fun t5 ht5 => ?_⟩
        refine stay fun H6 e6 => ?_
        have n7 : Same H2 H6 := by rw [e6]; exact n4.trans (n6.trans (same_new ht5))
        have hw5 : H6 t5 = some (.lst (zs ++ [V.ref aO] ++ List.replicate (m - k - 1) (V.ref aN))) := by rw [e6]; exact upd_same
        have f5 : H2 t5 = Option.none := (n4.trans n6).free ht5
        have hL6 := n7 _ _ hLF
        have n5F : t5 ≠ F0 := (ne_of_none hLF f5).symm
        refine ⟨F0, ys, .ref t5, rfl, rfl, hL6, len_small (by omega), same_put (m12.trans n7) hF, ?_, _, _, _, _, rfl, upd_same, ?_⟩
        · rw [rem_upd]
          exact r1.trans (rem_same (m2.trans n7))
        · rw [rem_upd, take_more hk, List.map_append]
          refine (dps_same (dif_grow (rem_same (m2.trans n7))) hY).snoc (dif_new (m12.free f5) (by rw [rem_ne n5F]; exact hw5) ?_)
          unfold wayIn
          rw [epd, encs_app, encs_app]
          have mm : Same H (rem H6 F0) := same_rem (m12.trans n7) hF
          refine DpAll.append (DpAll.append (dif_qs mm (rem_qs hL6 (dps_same ((rem_sub _ _).trans n7) hZ))) (.cons (dif_q mm (T.one _)) .nil)) (dif_qs mm (zeros_dp (T.nought _) _))
    · obtain ⟨m1, r1, a2, a3, a4, ys, rfl, hL, hY⟩ := hP
      rw [hlen, List.take_length] at hY
      refine ⟨_, rfl, hQ _ _ m1 (dif_new hF hL ?_)⟩
      have e : (freeOf ps m).map (fun k => encR (wayIn (partsOf ps m) m k)) = (waysOf ps m).map encR := by
        unfold waysOf
        rw [List.map_map]
        rfl
      rw [← e]
      exact dps_same (dif_grow (rem_sub _ _)) hY
theorem k_sure (T : Txt K mg aN aO) (c : FitC K C) (F : MethAt K C "sure" "Fit.sure" s_Fit_sure) (c_Fit_ways : C8.Met P w K mg base 4 C "ways" (spFitG K C gWays) []) (c_dot2 : C8.Cal P w K mg base 4 "dot" (spDot K) [.non]) : C8.Met P w K mg base 5 C "sure" (spSure K C) [] := by
  refine met_of c.cls F sc_Fit_sure b_Fit_sure (fun vs H Q E h => ?_) (fun f cdv A outer s H vs Q E hr h => ?_)
  · obtain ⟨x, y, ps, m, row, rfl, _⟩ := h
    rfl
  · obtain ⟨x, y, ps, m, row, rfl, hx, S, hy, hrow, hQ⟩ := h
    have hx0 := hx
    obtain ⟨dx, v0, v2, v3, v4, v5, v6, v7, h0, h1, h2, h3, h4, h5, h6, h7⟩ := hx
    have lm := S.m3
    refine ⟨_, (pss_one (ps_ret (pe_callB (cr_all rfl) rfl T.all (by decide +kernel) (pa_cons (pe_lc (own := [("way", 2)]) rfl sc_Fit_sure.nd (pi_list (C8.pe_mt0 c_Fit_ways hr (by decide) (pv 0))) (blkOk_by (own := [("way", 2)]) (N := N_Fit_sure) (sc := defScope s_Fit_sure) (by decide +kernel)) (fun _ _ _ _ _ => (pg_name (i := 2) sc_Fit_sure.nd rfl (Or.inl rfl))) (fun _ _ _ _ _ => pts_nil) (fun _ _ _ _ _ => (pe_cmpR (op_eqK (K := K) rfl hr.units) (C8.pe_c c_dot2 hr (by decide) rfl (pa_cons (pv 1) (pa_cons (pv 2) pa_nil))) (C8.pe_gc rfl T.NOUGHT) (nomark _)))) pa_nil)))), ?_⟩
    refine ⟨_, rfl, x, dx, _, rfl, h0, rfl, x, ps, m, rfl, hx0, S, fun H1 v1 n1 hv1 => ?_⟩
    obtain ⟨b, xs, rfl, hs, hd⟩ := dp_list (dp_same (dif_sub _ _) hv1)
    have hlen := hd.length
    rw [List.length_map] at hlen
    have fl : (waysOf ps m).length ≤ m := by
      have := freeUp_len (partsOf ps m) m
      unfold waysOf freeOf freeIn
      rw [parts_len, List.length_map]
      exact this
    refine ⟨b, rfl, ⟨xs, hs⟩, fun D hD => lc_list (K := K) (a := b) (xs := xs) (fun i H' => Same H1 H' ∧ H' D = some (.lst (((waysOf ps m).take i).map fun w => V.bl (dot2 row w == 0))))
      ⟨same_new hD, upd_same⟩ (fun i H' _ hP => hP.1.seq hs) (fun i v H' hv hP => ?_) (fun H' hP => ?_)⟩
    · obtain ⟨m1, hL⟩ := hP
      obtain ⟨wy, hw, hwd⟩ := rows_get hd hv
      have hwm := List.mem_of_getElem? hw
      have hi := (List.getElem?_eq_some_iff.mp hw).1
      refine ⟨rfl, ?_⟩
      refine ⟨_, rfl, _, rfl, .inr ⟨_, _, row, wy, rfl, dp_same (n1.trans m1) hy, dp_same m1 hwd, by rw [hrow.1]; omega, by rw [hrow.1, (S.way hwm).2], S.sure hrow hwm, fun H2 v2 n2 h2 => ?_⟩⟩
      refine ⟨_, _, h2, T.nought _, shaped_q _, shaped_q 0, ?_⟩
      have hL2 := n2 _ _ hL
      refine ⟨_, hL2, len_small ?_, same_put (m1.trans n2) hD, ?_⟩
      · rw [List.length_map]
        exact Nat.le_trans (List.length_take_le _ _) (by omega)
      · rw [upd_same, take_more hw, List.map_append, eqv_q]
        rfl
    · obtain ⟨m1, hL⟩ := hP
      rw [hlen, List.take_length] at hL
      refine ⟨D, (waysOf ps m).map (fun w => dot2 row w == 0), rfl, SqL.of (by rw [hL, List.map_map]; rfl), ?_⟩
      have e : ((waysOf ps m).map fun w => dot2 row w == 0).all id = sureB ps m row := by
        rw [List.all_map]
        rfl
      rw [e]
      exact hQ _ (n1.trans m1)
theorem k_pull (T : Txt K mg aN aO) (c : FitC K C) (F : MethAt K C "pull" "Fit.pull" s_Fit_pull) (c_is_still : C8.Cal P w K mg base 1 "is_still" (spStill K) []) (c_plus : C8.Cal P w K mg base 3 "plus" (spPlus K) []) (c_over : C8.Cal P w K mg base 3 "over" (spOver K) [])
    (c_times : C8.Cal P w K mg base 3 "times" (spTimes K) []) (c_square : C8.Cal P w K mg base 5 "square" (spSquare K) []) : C8.Met P w K mg base 6 C "pull" (spPull K C) [] := by
  refine met_of c.cls F sc_Fit_pull b_Fit_pull (fun vs H Q E h => ?_) (fun f cdv A outer s H vs Q E hr h => ?_)
  · obtain ⟨x, ps, m, k, rfl, _⟩ := h
    rfl
  · obtain ⟨x, ps, m, k, rfl, hx, S, hk, hQ⟩ := h
    obtain ⟨dx, v0, v2, v3, v4, v5, v6, v7, h0, h1, h2, h3, h4, h5, h6, h7⟩ := hx
    have c0 := c.cls
    have na := c.na
    have lm := S.m3
    have ll := S.len
    obtain ⟨z1, z2, z3, z4⟩ := S.pull k
    obtain ⟨ap, xp, rfl, hsp, hdp⟩ := dp_list h5
    have hlen := hdp.length
    rw [List.length_map, parts_len] at hlen
    refine ⟨_, (pss_cons (ps_set (i := 2) sc_Fit_pull.nd rfl (Or.inl rfl) (C8.pe_gc rfl T.NOUGHT))
    (pss_cons (ps_for PassesOwn.never rfl (pi_list (pe_fld (pv 0) rfl)) (pg_tup rfl (pgs_cons (pg_name (i := 3) sc_Fit_pull.nd rfl (Or.inl rfl)) (pgs_cons (pg_name (i := 4) sc_Fit_pull.nd rfl (Or.inl rfl)) pgs_nil)))
    (pss_one (ps_if (pt_not (pt_val (C8.pe_c c_is_still hr (by decide) rfl (pa_cons (pv 3) pa_nil)))) (pss_one (ps_set (i := 2) sc_Fit_pull.nd rfl (Or.inl rfl) (C8.pe_c c_plus hr (by decide) rfl (pa_cons (pv 2) (pa_cons (C8.pe_c c_over hr (by decide) rfl (pa_cons (C8.pe_c c_times hr (by decide) rfl (pa_cons (pe_ix ix_list (pv 3) (pv 1) (fun _ _ => rfl)) (pa_cons (pe_ix ix_list (pv 3) (pv 1) (fun _ _ => rfl)) pa_nil))) (pa_cons (C8.pe_c c_square hr (by decide) rfl (pa_cons (pv 3) (pa_cons (pe_fld (pv 0) rfl) pa_nil))) pa_nil))) pa_nil)))))
    pss_nil)))
    (pss_one (ps_ret (C8.pe_c c_times hr (by decide) rfl (pa_cons (pv 2) (pa_cons (pe_ix ix_list (pe_fld (pv 0) rfl) (pv 1) (fun _ _ => rfl)) pa_nil))))))), ?_⟩
    refine ⟨_, rfl, x, C, dx, _, _, rfl, h0, c0, na _ (by decide), rfl, ap, rfl, ⟨xp, hsp⟩, for_list (K := K) (a := ap) (xs := xp) (fun i σ H' => Same H H' ∧ ∃ fv a3 a4, σ = [some (V.ref x), some (V.int (k : Nat)), some fv, a3, a4] ∧ Dp K H' fv (encQ (pullAcc ps m k i)))
      ⟨fun _ _ e => e, _, Option.none, Option.none, rfl, T.nought _⟩ (fun i σ H' _ hP => hP.1.seq hsp) (fun i v σ H' hv hP => ?_) (fun σ H' hP => ?_)⟩
    · obtain ⟨m1, fv, a3, a4, rfl, hfv⟩ := hP
      obtain ⟨p, ep⟩ : ∃ p, (partsOf ps m)[i]? = some p := ⟨_, List.getElem?_eq_getElem (by rw [parts_len]; have := (List.getElem?_eq_some_iff.mp hv).1; omega)⟩
      obtain ⟨pa, u1, u2, ex, hpa, hp1, hp2⟩ := part_get hdp ep
      rw [hv] at ex
      cases Option.some.inj ex
      obtain ⟨y1, y2, y3, y4, y5⟩ := S.part ep
      refine ⟨pa, _, rfl, m1.tup hpa, rfl, _, _, rfl, _, _, rfl, rfl, ?_⟩
      refine ⟨_, rfl, _, _, rfl, dp_same m1 hp1, by omega, fun H2 n2 => ?_⟩
      have m2 := m1.trans n2
      refine ⟨_, rfl, ?_⟩
      cases hst : still p.1 with
      | true =>
        refine iteF ?_
        refine ⟨m2, fv, _, _, rfl, ?_⟩
        rw [pullAcc_succ ep]
        unfold pullStep
        rw [if_pos hst]
        exact dp_same n2 hfv
      | false =>
        refine iteT ?_
        have ok := z1 i p ep hst
        obtain ⟨bq, us, u, rfl, q1, q2, q3⟩ := lst_at (dp_same m2 hp1) (show p.1[k]? = some (p.1.getD k 0) by
          rw [List.getD_eq_getElem?_getD, List.getElem?_eq_getElem (by omega)]
          rfl)
        refine ⟨_, rfl, _, rfl, _, rfl, bq, us, _, u, rfl, rfl, q1, q2, _, rfl, _, rfl, bq, us, _, u, rfl, rfl, q1, q2, _, _, _, _, rfl, q3, q3, ok.l, ok.l, trivial, fun H3 v3 n3 h3 => ?_⟩
        have m3 := m2.trans n3
        refine ⟨_, rfl, _, rfl, x, C, dx, _, _, rfl, m3 _ _ h0, c0, na _ (by decide), rfl, _, _, p.1, wtsOf ps, rfl, dp_same m3 hp1, dp_same m3 h4, by omega, by rw [y3, wts_len], ok.d, fun H4 v4 n4 h4' => ?_⟩
        refine ⟨_, _, _, _, rfl, dp_same n4 h3, h4', ok.ll, ok.q, ok.pos, fun H5 v5 n5 h5' => ?_⟩
        refine ⟨_, _, _, _, rfl, dp_same (n2.trans (n3.trans (n4.trans n5))) hfv, h5', ok.a, ok.o, trivial, fun H6 v6' n6 h6' => ?_⟩
        refine ⟨m3.trans (n4.trans (n5.trans n6)), v6', _, _, rfl, ?_⟩
        rw [pullAcc_succ ep]
        unfold pullStep
        rw [hst]
        exact h6'
    · obtain ⟨m1, fv, a3, a4, rfl, hfv⟩ := hP
      rw [hlen] at hfv
      obtain ⟨bq, us, u, rfl, q1, q2, q3⟩ := lst_at (dp_same m1 h4) (show (wtsOf ps)[k]? = some ((wtsOf ps).getD k 0) by
        rw [List.getD_eq_getElem?_getD, List.getElem?_eq_getElem (by rw [wts_len]; exact hk)]
        rfl)
      refine ⟨_, rfl, _, rfl, x, C, dx, _, _, rfl, m1 _ _ h0, c0, na _ (by decide), rfl, _, rfl, bq, us, _, u, rfl, rfl, q1, q2, _, _, _, _, rfl, hfv, q3, z2, z3, trivial, fun H2 v2 n2 h2 => ?_⟩
      refine hQ _ _ (m1.trans n2) ?_
      rw [← pullAcc_all]
      exact h2
theorem k_pulls (T : Txt K mg aN aO) (c : FitC K C) (F : MethAt K C "pulls" "Fit.pulls" s_Fit_pulls) (c_Fit_pull : C8.Met P w K mg base 6 C "pull" (spPull K C) []) : C8.Met P w K mg base 7 C "pulls" (spFitG K C gPulls) [] := by
  refine met_of c.cls F sc_Fit_pulls b_Fit_pulls (fun vs H Q E h => ?_) (fun f cdv A outer s H vs Q E hr h => ?_)
  · obtain ⟨x, ps, m, rfl, _⟩ := h
    rfl
  · obtain ⟨x, ps, m, rfl, hx, S, hQ⟩ := h
    have hx0 := hx
    obtain ⟨dx, v0, v2, v3, v4, v5, v6, v7, h0, h1, h2, h3, h4, h5, h6, h7⟩ := hx
    have c0 := c.cls
    have na := c.na
    have lm := S.m3
    have ll := S.len
    obtain ⟨a, xs, rfl, hs, hd⟩ := dp_list h1
    have hlen := hd.length
    rw [List.length_map] at hlen
    refine ⟨_, (pss_one (ps_ret (pe_lc (own := [("k", 1)]) rfl sc_Fit_pulls.nd (pi_range1 rfl T.range (pa_cons (pe_callB call_len_seq rfl T.len (by decide +kernel) (pa_cons (pe_fld (pv 0) rfl) pa_nil)) pa_nil)) (blkOk_by (own := [("k", 1)]) (N := N_Fit_pulls) (sc := defScope s_Fit_pulls) (by decide +kernel)) (fun _ _ _ _ _ => (pg_name (i := 1) sc_Fit_pulls.nd rfl (Or.inl rfl))) (fun _ _ _ _ _ => pts_nil) (fun _ _ _ _ _ => (C8.pe_mt c_Fit_pull hr (by decide) (pv 0) (pa_cons (pv 1) pa_nil)))))), ?_⟩
    refine ⟨_, rfl, x, C, dx, _, _, rfl, h0, c0, na _ (by decide), rfl, a, xs, rfl, .inl hs, _, rfl, by omega, by omega, fun D hD => lc_by (n := ps.length) (fun i H' => Same H H' ∧ ∃ ys, H' D = some (.lst ys) ∧ DpAll K (rem H' D) ys (encs ((List.range i).map fun k => pullOf ps m k)))
      ⟨same_new hD, [], upd_same, .nil⟩ (fun i H' hi hP => ?_) (fun H' hP => ?_)⟩
    · obtain ⟨m1, ys, hL, hY⟩ := hP
      refine ⟨by show i < ((xs.length : Nat) : Int).toNat; omega, fun v H1 hv => ?_⟩
      obtain ⟨rfl, rfl⟩ := hv
      refine ⟨rfl, ?_⟩
      refine ⟨_, rfl, x, dx, _, rfl, m1 _ _ h0, rfl, _, rfl, x, ps, m, i, by rw [Int.zero_add]; rfl, hx0.same m1, S, hi, fun H2 v2 n2 h2 => ?_⟩
      have hL2 := n2 _ _ hL
      refine ⟨_, hL2, len_small ?_, same_put (m1.trans n2) hD, _, upd_same, ?_⟩
      · rw [hY.length, encs_len, List.length_map, List.length_range]
        omega
      · rw [rem_upd, List.range_succ, List.map_append, encs_app]
        exact (dps_same (rem_same n2) hY).snoc (rem_q h2 hL2)
    · obtain ⟨m1, ys, hL, hY⟩ := hP
      exact ⟨by show ((xs.length : Nat) : Int).toNat ≤ _; omega, hQ _ _ m1 (dif_new hD hL (dif_qs m1 (dps_same (rem_sub _ _) hY)))⟩
end
end Np
end
section
set_option linter.all false
set_option maxRecDepth 100000
set_option maxHeartbeats 4000000
/-! The class Fit: value, which may raise, and word. -/
namespace Np
open PySem PySem.Spec PyProof.Rows L2
/-- o.m(e, ..) within a try: what it raises is wished for at the slots as they stand -/
def tMethS (C : Addr) (m : Str) (sp : Sp) (E : L2.St → XK) (ta : TE) (t : TA) : TE := fun σ H Q => ta σ H fun x H1 => ∃ a dx fs, x = .ref a ∧ H1 a = some (.ins C dx fs) ∧ fs.lookup m = none ∧ t σ H1 fun vs H2 => sp (x :: vs) H2 Q (E σ)
theorem pe_methS {X : Cx} {CX : CXT} {k : Nat} {f C : Addr} {fd : FuncData} {ps : List Str} {sp : Sp} {E : L2.St → XK} {m : Str} {pos apos : Pos} {e o : Expr} {es : List Expr} {ta : TE} {t : TA} {pl : Sem Bool} (he : PE X o ta) (c : Cls X.K C) (hm : Meth X.K C m f)
    (F : FnOk X.prog X.w X.K X.mg X.base CX k f fd ps sp) (hr : Room k X.A) (hb : Binds X.K fd ps []) (hx : ∀ σ, PassesAt CX X σ (E σ)) (ha : PA X (e :: es) t)
    (hst : starEach (e :: es) X.env = (false, eval e X.env) :: starEach es X.env := by rfl) (hpl : (backTo pos (starEach es X.env)).any (·.1) = false := by rfl)
    (ht : eval (.Call (.Attribute o m apos) (e :: es) [] pos) X.env = (do
      let ov ← eval o X.env
      standAt apos.atName
      let (f, first) ← holding [ov] (getMethod ov m pl)
      callWith pos f first (backTo pos (starEach (e :: es) X.env)) (backToKw pos (keywordEach [] X.env))) := by rfl) :
    PE X (.Call (.Attribute o m apos) (e :: es) [] pos) (tMethS C m sp E ta t) := by
  refine ⟨fun pins s σ H Q I h => ?_⟩
  refine PySem.W.methodCall_KW (pl := pl) (thn (he.run pins s σ H _ I h) fun u s1 ⟨x, H1, I1, rx, a, dx, fs, ex, ea, l, q⟩ => ?_) ht
  subst ex
  obtain rfl : u = Value.ref a := rx
  refine getmeth_ok I1 ea c hm l ?_
  refine PySem.W.callWith_K (first := [.ref a]) (h₀ := X.base) I.ok.mod.kin hm.kp (thn (ha.run pos pins s1 σ H1 _ I1 q) fun us s2 ⟨vs, H2, I2, r, q2⟩ => ⟨I2.kIn, ?_⟩) hst hpl
  exact run_fnS (us := .ref a :: us) (vs := .ref a :: vs) F hr hb (hx σ) I2 (.cons rfl r) q2
/-- a method that may raise -/
structure MetX (P : Program) (w : World) (K : PySem.W.Frag) (mg : Str → Option Value) (base : Heap) (k : Nat) (C : Addr) (m : Str) (sp : Sp) : Prop where
  ex : ∃ (f : Addr) (fd : FuncData) (ps : List Str), Cls K C ∧ Meth K C m f ∧ FnOk P w K mg base (L2.CX P w) k f fd ps sp ∧ Binds K fd ps []
section
variable {X : Cx} {k j : Nat} {C : Addr} {m : Str} {sp : Sp} {pos apos : Pos} {e o : Expr} {es : List Expr} {ta : TE} {t : TA}
/-- called where it does not raise -/
theorem pe_mtL {pl : Sem Bool} (c : MetX X.prog X.w X.K X.mg X.base k C m sp) (hr : Room j X.A) (hk : k ≤ j) (he : PE X o ta) (ha : PA X (e :: es) t)
    (hst : starEach (e :: es) X.env = (false, eval e X.env) :: starEach es X.env := by rfl) (hpl : (backTo pos (starEach es X.env)).any (·.1) = false := by rfl)
    (ht : eval (.Call (.Attribute o m apos) (e :: es) [] pos) X.env = (do
      let ov ← eval o X.env
      standAt apos.atName
      let (f, first) ← holding [ov] (getMethod ov m pl)
      callWith pos f first (backTo pos (starEach (e :: es) X.env)) (backToKw pos (keywordEach [] X.env))) := by rfl) :
    PE X (.Call (.Attribute o m apos) (e :: es) [] pos) (tMeth C m sp [] C8.E0 ta t) := by
  obtain ⟨f, fd, ps, hc, hm, F, b⟩ := c.ex
  exact pe_meth (pl := pl) he hc hm F (hr.mono hk) b .nil passL ha hst hpl ht
theorem pe_mtS {pl : Sem Bool} {W : WX} (c : MetX X.prog X.w X.K X.mg X.base k C m sp) (hr : Room j X.A) (hk : k ≤ j) (tk : Takes X W) (he : PE X o ta) (ha : PA X (e :: es) t)
    (hst : starEach (e :: es) X.env = (false, eval e X.env) :: starEach es X.env := by rfl) (hpl : (backTo pos (starEach es X.env)).any (·.1) = false := by rfl)
    (ht : eval (.Call (.Attribute o m apos) (e :: es) [] pos) X.env = (do
      let ov ← eval o X.env
      standAt apos.atName
      let (f, first) ← holding [ov] (getMethod ov m pl)
      callWith pos f first (backTo pos (starEach (e :: es) X.env)) (backToKw pos (keywordEach [] X.env))) := by rfl) :
    PE X (.Call (.Attribute o m apos) (e :: es) [] pos) (tMethS C m sp (WE W) ta t) := by
  obtain ⟨f, fd, ps, hc, hm, F, b⟩ := c.ex
  exact pe_methS (pl := pl) he hc hm F (hr.mono hk) b (fun σ => passAt tk σ) ha hst hpl ht
end
/-- an own error's class -/
structure ErrAt (K : PySem.W.Frag) (mg : Str → Option Value) (x : Str) (C : Addr) : Prop where
  g : mg x = some (.ref C)
  x : PySem.W.excIn K C [.type "ValueError", .type "Exception", .type "BaseException", .type "object"] "ValueError.__new__" = true
  k : PySem.W.keepIn K (.ref C) = true
  b : PySem.W.subIn K (.ref C) (.type "BaseException") = some true
  t : PySem.W.typeIn K (.ref C) = some (.type "type")
  e : PySem.W.exmOne K (.ref C) (.ref C) = some true
def spValue (K : PySem.W.Frag) (C CN : Addr) : Sp := fun vs H Q E => ∃ x y ps m row, vs = [.ref x, y] ∧ FitAt K C H x ps m ∧ Small ps m ∧ Dp K H y (encR row) ∧ TinyRow m row ∧
  (sureB ps m row = true → GiveQ K H Q (encQ (valueOf ps m row))) ∧ (sureB ps m row = false → ∀ H', Same H H' → E (.ref CN) none H')
theorem cut_pre (xs : List V) (k : Nat) : cutV xs none (some (k : Int)) = xs.take k := by
  unfold cutV
  rw [HT.sIx_none, HT.sIx_nat, List.drop_zero, Nat.sub_zero]
  by_cases h : k ≤ xs.length
  · rw [Nat.min_eq_left h]
  · rw [Nat.min_eq_right (by omega), List.take_length, List.take_of_length_le (by omega)]
theorem cut_suf (xs : List V) (k : Nat) : cutV xs (some (k : Int)) none = xs.drop k := by
  unfold cutV
  rw [HT.sIx_none, HT.sIx_nat]
  by_cases h : k ≤ xs.length
  · rw [Nat.min_eq_left h, List.take_of_length_le (by rw [List.length_drop]; exact Nat.le_refl _)]
  · rw [Nat.min_eq_right (by omega), Nat.sub_self, List.take_zero, List.drop_of_length_le (by omega)]
theorem Small.erase {ps : List Pt} {m : Nat} (S : Small ps m) (k : Nat) : Small (ps.eraseIdx k) m := by
  have h : ∀ p, p ∈ ps.eraseIdx k → p ∈ ps := fun p hp => List.mem_of_mem_eraseIdx hp
  exact ⟨S.m3, Nat.le_trans (List.length_eraseIdx_le ..) S.len, fun p hp => S.row p (h p hp), fun p hp => S.rowT p (h p hp), fun p hp => S.want p (h p hp), fun p hp => S.wt p (h p hp)⟩
theorem Small.tiny {ps : List Pt} {m : Nat} (S : Small ps m) {p : Pt} (hp : p ∈ ps) : TinyRow m p.row := ⟨S.row p hp, S.rowT p hp⟩
theorem stayS {sp : Sp} {vs : List V} {X : Hp} {Q : VK} {E : XK} (h : ∀ G, G = X → sp vs G Q E) : sp vs X Q E := h X rfl
/-- a ratio or None -/
def OptQ (K : PySem.W.Frag) (H : Hp) (v : V) : Option Rat → Prop
  | some q => Dp K H v (encQ q)
  | none => v = .non
def spWord (K : PySem.W.Frag) (C : Addr) : Sp := fun vs H Q _ => ∃ x ps m k, vs = [.ref x, .int (k : Nat)] ∧ FitAt K C H x ps m ∧ Small ps m ∧ k < ps.length ∧ ∀ H' v, Same H H' → OptQ K H' v (wordOf ps m k) → Q v H'
abbrev N_Fit_value : List Str := ["self", "row"]
theorem sc_Fit_value : FnScope ["self", "row"] ["self", "row"] (defScope s_Fit_value) := ⟨rfl, rfl, rfl, by decide +kernel, rfl, by decide +kernel, by decide +kernel⟩
theorem b_Fit_value : BindOk "value" "Fit.value" s_Fit_value ["self", "row"] := fun _ _ _ _ _ _ us hl => match us, hl with | [_, _], _ => rfl
abbrev N_Fit_word : List Str := ["self", "k", "others", "row"]
theorem sc_Fit_word : FnScope ["self", "k", "others", "row"] ["self", "k"] (defScope s_Fit_word) := ⟨rfl, rfl, rfl, by decide +kernel, rfl, by decide +kernel, by decide +kernel⟩
theorem b_Fit_word : BindOk "word" "Fit.word" s_Fit_word ["self", "k"] := fun _ _ _ _ _ _ us hl => match us, hl with | [_, _], _ => rfl
section
variable {P : Program} {w : World} {K : PySem.W.Frag} {mg : Str → Option Value} {base : Heap} {aN aO C CN : Addr}
theorem metX_of {C : Addr} {m qual : Str} {st : Stmt} {N ps : List Str} {k : Nat} {sp : Sp} (c : Cls K C) (F : MethAt K C m qual st) (S : FnScope N ps (defScope st)) (hb : BindOk m qual st ps) (len : ∀ vs H Q E, sp vs H Q E → vs.length = ps.length)
    (hbody : ∀ (f : Addr) (cdv : Value) (A : Around) (outer : List Env) (s : Shared) (H : Hp) (vs : List V) (Q : VK) (E : XK), Room k (A.deeper (envOfC qual (defScope st) s.heap.objs.size f cdv)) → sp vs H Q E →
      ∃ t, PSs (cxOf (L2.CX P w) P w K mg base N qual (defScope st) f cdv A outer s H E) (defBody st) t ∧ t { nx := fun _ H' => Q .non H', rt := Q } (start N vs) H) : MetX P w K mg base (k + 1) C m sp := by
  obtain ⟨f, fd, F, g⟩ := F.ex
  exact ⟨f, fd, ps, c, g, F.ok S len fun cdv A outer s H vs Q E hr hsp => hbody f cdv A outer s H vs Q E hr hsp, F.bindsN hb⟩
theorem k_value (T : Txt K mg aN aO) (c : FitC K C) (R : ErrAt K mg "NotSure" CN) (F : MethAt K C "value" "Fit.value" s_Fit_value) (c_Fit_sure : C8.Met P w K mg base 5 C "sure" (spSure K C) []) (c_dot2 : C8.Cal P w K mg base 4 "dot" (spDot K) [.non]) : MetX P w K mg base 6 C "value" (spValue K C CN) := by
  refine metX_of c.cls F sc_Fit_value b_Fit_value (fun vs H Q E h => ?_) (fun f cdv A outer s H vs Q E hr h => ?_)
  · obtain ⟨x, y, ps, m, row, rfl, _⟩ := h
    rfl
  · obtain ⟨x, y, ps, m, row, rfl, hx, S, hy, hrow, hQ, hE⟩ := h
    have hx0 := hx
    obtain ⟨dx, v0, v2, v3, v4, v5, v6, v7, h0, h1, h2, h3, h4, h5, h6, h7⟩ := hx
    have c0 := c.cls
    have na := c.na
    have lm := S.m3
    refine ⟨_, (pss_cons (ps_if (pt_not (pt_val (C8.pe_mt c_Fit_sure hr (by decide) (pv 0) (pa_cons (pv 1) pa_nil)))) (pss_one (ps_raise rfl (takes_of rfl rfl rfl rfl) (pmk_own PySem.F.excBase_ValueError R.x R.g R.k (raises_own R.b R.t) (by exact rfl))))
    pss_nil)
    (pss_one (ps_ret (C8.pe_c c_dot2 hr (by decide) rfl (pa_cons (pv 1) (pa_cons (pe_fld (pv 0) rfl) pa_nil)))))), ?_⟩
    refine ⟨_, rfl, x, dx, _, rfl, h0, rfl, _, rfl, x, y, ps, m, row, rfl, hx0, S, hy, hrow, fun H1 n1 => ⟨_, rfl, ?_⟩⟩
    cases hs : sureB ps m row with
    | false =>
      refine iteT ?_
      exact hE hs _ n1
    | true =>
      refine iteF ?_
      refine ⟨_, rfl, _, rfl, x, C, dx, _, _, rfl, n1 _ _ h0, c0, na _ (by decide), rfl, .inr ⟨_, _, row, toldOf ps m, rfl, dp_same n1 hy, dp_same n1 h6, by rw [hrow.1]; omega, by rw [hrow.1, (fit_shape S).2], (S.value hrow).1, fun H2 v n2 h2 => ?_⟩⟩
      exact hQ hs _ _ (n1.trans n2) h2
theorem k_word (T : Txt K mg aN aO) (c : FitC K C) (F : MethAt K C "word" "Fit.word" s_Fit_word) (c_Fit : C8.Mak P w K mg base 9 "Fit" C (spFitInit K C) []) (c_Fit_sure : C8.Met P w K mg base 5 C "sure" (spSure K C) [])
    (c_Fit_value : MetX P w K mg base 6 C "value" (spValue K C CN)) : C8.Met P w K mg base 11 C "word" (spWord K C) [] := by
  refine met_of c.cls F sc_Fit_word b_Fit_word (fun vs H Q E h => ?_) (fun f cdv A outer s H vs Q E hr h => ?_)
  · obtain ⟨x, ps, m, k, rfl, _⟩ := h
    rfl
  · obtain ⟨x, ps, m, k, rfl, hx, S, hk, hQ⟩ := h
    have hx0 := hx
    obtain ⟨dx, v0, v2, v3, v4, v5, v6, v7, h0, h1, h2, h3, h4, h5, h6, h7⟩ := hx
    have c0 := c.cls
    have na := c.na
    have lm := S.m3
    have ll := S.len
    obtain ⟨a, xs, rfl, hs, hd⟩ := dp_list h1
    have hlen := hd.length
    rw [List.length_map] at hlen
    obtain ⟨p, ep⟩ : ∃ p, ps[k]? = some p := ⟨_, List.getElem?_eq_getElem hk⟩
    have pm := List.mem_of_getElem? ep
    have eg : ps.getD k ⟨[], 0, 0⟩ = p := by rw [List.getD_eq_getElem?_getD, ep]; rfl
    obtain ⟨pv0, ex, hpv⟩ := hd.get (i := k) (d := encPt p) (by rw [List.getElem?_map, ep]; rfl)
    obtain ⟨pa, w1, w2, w3, rfl, hpa, hw1, hw2, hw3⟩ := dp_pt hpv
    refine ⟨_, (pss_cons (ps_set (i := 2) sc_Fit_word.nd rfl (Or.inl rfl) (C8.pe_mk c_Fit hr (by decide) rfl (pa_cons (pe_op op_cat (pe_slice sl_list (pe_fld (pv 0) rfl) po_none (po_some (pv 1))) (pe_slice sl_list (pe_fld (pv 0) rfl) (po_some (pe_op op_add (pv 1) pe_int)) po_none)) (pa_cons (pe_fld (pv 0) rfl) pa_nil))))
    (pss_cons (ps_set (i := 3) sc_Fit_word.nd rfl (Or.inl rfl) (pe_ix ix_tup (pe_ix ix_list (pe_fld (pv 0) rfl) (pv 1) (fun _ _ => rfl)) pe_int (fun _ _ => rfl)))
    (pss_cons (ps_if (pt_not (pt_val (C8.pe_mt c_Fit_sure hr (by decide) (pv 2) (pa_cons (pv 3) pa_nil)))) (pss_one (ps_ret pe_non))
    pss_nil)
    (pss_one (ps_ret (pe_mtL c_Fit_value hr (by decide) (pv 2) (pa_cons (pv 3) pa_nil))))))), ?_⟩
    refine ⟨_, rfl, x, C, dx, _, _, rfl, h0, c0, na _ (by decide), rfl, _, rfl, _, rfl, a, xs, rfl, hs, fun l1 hl1 => ?_⟩
    rw [cut_pre]
    have n1 : Same H (upd H l1 (.lst (xs.take k))) := same_new hl1
    refine ⟨_, rfl, x, C, dx, _, _, rfl, n1 _ _ h0, c0, na _ (by decide), rfl, _, rfl, _, _, rfl, rfl, _, rfl, a, xs, rfl, n1.seq hs, fun l2 hl2 => ?_⟩
    have eC : ((k : Nat) : Int) + 1 = ((k + 1 : Nat) : Int) := by omega
    rw [eC, cut_suf]
    refine stay fun H2 e2 => ?_
    have n2 : Same (upd H l1 (.lst (xs.take k))) H2 := by rw [e2]; exact same_new hl2
    have q1 : H2 l1 = some (.lst (xs.take k)) := n2 _ _ upd_same
    have q2 : H2 l2 = some (.lst (xs.drop (k + 1))) := by rw [e2]; exact upd_same
    have n02 := n1.trans n2
    refine ⟨l1, l2, _, _, rfl, rfl, q1, q2, Nat.le_of_lt (len_small (by rw [List.length_take, List.length_drop]; omega)), fun l3 hl3 => ?_⟩
    have n3 : Same H (upd H2 l3 (.lst (xs.take k ++ xs.drop (k + 1)))) := n02.trans (same_new hl3)
    refine ⟨_, rfl, x, C, dx, _, _, rfl, n3 _ _ h0, c0, na _ (by decide), rfl, fun y dy hy hdy hne => ?_⟩
    have n4 : Same H (upd (upd (upd H2 l3 (.lst (xs.take k ++ xs.drop (k + 1)))) dy (.own y)) y (.ins C dy [])) := n3.trans ((same_new hdy).trans (same_new (by rw [upd_ne hne.symm]; exact hy)))
    refine stayS (sp := spFitInit K C) fun H4 e4 => ?_
    rw [← e4] at n4
    have hyH4 : H4 y = some (.ins C dy []) := by rw [e4]; exact upd_same
    have nyl : l3 ≠ y := fun e => by
      subst e
      rw [upd_same] at hy
      cases hy
    have nyd : l3 ≠ dy := fun e => by
      subst e
      rw [upd_same] at hdy
      cases hdy
    have q4 : H4 l3 = some (.lst (xs.take k ++ xs.drop (k + 1))) := by rw [e4, upd_ne nyl, upd_ne nyd, upd_same]
    have ed : (ps.eraseIdx k).map encPt = (ps.map encPt).take k ++ (ps.map encPt).drop (k + 1) := by
      rw [← erase_map, List.eraseIdx_eq_take_drop_succ]
    have Se := S.erase k
    refine ⟨y, dy, .ref l3, ps.eraseIdx k, m, rfl, hyH4, .lst (SqL.of q4) ?_, Se, fun H5 b5 f5 => ⟨rfl, ?_⟩⟩
    · rw [ed]
      exact DpAll.append (DpAll.take _ (dps_same n4 hd)) (DpAll.drop _ (dps_same n4 hd))
    have n5 : Same H H5 := fun b o e => by
      refine b5 _ _ (n4 _ _ e) fun eq => ?_
      subst eq
      have := n3 _ _ e
      rw [this] at hy
      cases hy
    refine ⟨_, rfl, x, C, dx, _, _, rfl, n5 _ _ h0, c0, na _ (by decide), rfl, _, rfl, a, xs, _, _, rfl, rfl, n5.seq hs, atI_nat ex, pa, _, _, w1, rfl, rfl, n5.tup hpa, rfl, ?_⟩
    have f5' := f5
    obtain ⟨dx', v0', v2', v3', v4', v5', v6', v7', h0', _⟩ := f5'
    refine ⟨_, rfl, y, dx', _, rfl, h0', rfl, _, rfl, y, w1, ps.eraseIdx k, m, p.row, rfl, f5, Se, dp_same n5 hw1, S.tiny pm, fun H6 n6 => ⟨_, rfl, ?_⟩⟩
    have eW : wordOf ps m k = if sureB (ps.eraseIdx k) m p.row = true then some (valueOf (ps.eraseIdx k) m p.row) else none := by
      unfold wordOf
      rw [eg]
    cases hsu : sureB (ps.eraseIdx k) m p.row with
    | false =>
      refine iteT ?_
      refine hQ _ _ (n5.trans n6) ?_
      rw [eW, hsu]
      exact rfl
    | true =>
      refine iteF ?_
      refine ⟨_, rfl, y, dx', _, rfl, n6 _ _ h0', rfl, _, rfl, y, w1, ps.eraseIdx k, m, p.row, rfl, f5.same n6, Se, dp_same (n5.trans n6) hw1, S.tiny pm, fun _ H7 v n7 h7 => ?_, fun z => by rw [hsu] at z; cases z⟩
      refine hQ _ _ ((n5.trans n6).trans n7) ?_
      rw [eW, hsu]
      exact h7
end
end Np
end
section
set_option linter.all false
set_option maxRecDepth 100000
set_option maxHeartbeats 4000000
/-! Planes in the heap. -/
namespace Np
open PySem PySem.Spec PyProof.Rows L2
/-! ### rules -/
/-- o.f = the item, within a tuple of targets -/
def gFld (K : PySem.W.Frag) (ta : TE) (f : Str) : TG := fun v σ H Q => ta σ H fun x H1 => ∃ a C dx fs, x = .ref a ∧ H1 a = some (.ins C dx fs) ∧ Cls K C ∧ NoAttr K C f ∧ fs.length < 1000 ∧ Q σ (upd H1 a (.ins C dx (putF f v fs)))
theorem pg_fld {X : Cx} {o : Expr} {ta : TE} {f : Str} {pos : Pos} (ho : PE X o ta) : PG X (.Attribute o f pos) (gFld X.K ta f) := by
  refine ⟨fun pins s σ H v u Q I r h => ?_⟩
  rw [assign_Attribute]
  refine wpAny_bind (wpAny_holding (thn (ho.run pins s σ H _ I h) fun ov s1 ⟨x, H1, I1, r1, a, C, dx, fs, ex, ea, c, n, l, q1⟩ => ?_))
  subst ex
  obtain rfl : ov = Value.ref a := r1
  refine wpAny_bind (wpAny_standAt (wpAny_bind (wpAny_holding (setattr_ok I1 ea c n l r fun s3 I3 => ?_))))
  exact wpAny_release ⟨σ, _, I3, q1⟩
/-! ### the tuples of a heap -/
def tp (H : Hp) : Hp := fun b => match H b with
  | some (.tup xs) => some (.tup xs)
  | some (.frz o (.tup xs)) => some (.frz o (.tup xs))
  | _ => Option.none
def isT : Option HO → Bool
  | some (.tup _) => true
  | some (.frz _ (.tup _)) => true
  | _ => false
theorem tp_of {H : Hp} {b : Addr} (h : isT (H b) = true) : tp H b = H b := by
  unfold tp
  split
  · rename_i e; rw [e]
  · rename_i e; rw [e]
  · rename_i h1 h2
    unfold isT at h
    split at h
    · rename_i e; exact absurd e (h1 _)
    · rename_i e; exact absurd e (h2 _ _)
    · cases h
theorem tp_none {H : Hp} {b : Addr} (h : isT (H b) = false) : tp H b = Option.none := by
  unfold tp
  split
  · rename_i e; rw [e] at h; cases h
  · rename_i e; rw [e] at h; cases h
  · rfl
theorem tp_some {H : Hp} {b : Addr} {o : HO} (h : tp H b = some o) : H b = some o ∧ isT (H b) = true := by
  cases e : isT (H b) with
  | true => rw [tp_of e] at h; exact ⟨h, rfl⟩
  | false => rw [tp_none e] at h; cases h
theorem tp_sub (H : Hp) : Same (tp H) H := fun b o e => (tp_some e).1
theorem tp_grow {H H' : Hp} (s : Same H H') : Same (tp H) (tp H') := fun b o e => by
  obtain ⟨h1, h2⟩ := tp_some e
  have h3 := s _ _ h1
  rw [tp_of (by rw [h3, ← h1]; exact h2)]
  exact h3
/-- a thing that is no tuple is written -/
theorem tp_put {H : Hp} {a : Addr} {o : HO} (h : isT (H a) = false) : Same (tp H) (tp (upd H a o)) := fun b u e => by
  obtain ⟨h1, h2⟩ := tp_some e
  have hne : b ≠ a := fun q => by
    subst q
    rw [h] at h2
    cases h2
  rw [tp_of (by rw [upd_ne hne]; exact h2), upd_ne hne]
  exact h1
section
variable {K : PySem.W.Frag} {H : Hp}
theorem tp_tup {a : Addr} {xs : List V} (h : SqT K H a xs) : SqT K (tp H) a xs := by
  rcases h with (h | ⟨o, h⟩) | h
  · refine .inl (.inl ?_)
    rw [tp_of (by rw [h]; rfl)]
    exact h
  · refine .inl (.inr ⟨o, ?_⟩)
    rw [tp_of (by rw [h]; rfl)]
    exact h
  · exact .inr h
theorem tp_q {v : V} {q : Rat} (h : Dp K H v (encQ q)) : Dp K (tp H) v (encQ q) := by
  obtain ⟨a, rfl, hs⟩ := dp_q h
  exact q_dp (tp_tup hs)
theorem tp_qs : ∀ {r : Row} {xs : List V}, DpAll K H xs (encs r) → DpAll K (tp H) xs (encs r)
  | [], _, .nil => .nil
  | _ :: _, _, .cons a r => .cons (tp_q a) (tp_qs r)
end
/-! ### points that are kept -/
def encTR (r : Row) : PyData := .tuple (encs r)
def encPk (p : Pt) : PyData := .tuple [encTR p.row, encQ p.want, encQ p.wt]
theorem dp_pk {K : PySem.W.Frag} {H : Hp} {v : V} {p : Pt} (h : Dp K H v (encPk p)) : ∃ a x y z, v = .ref a ∧ SqT K H a [x, y, z] ∧ Dp K H x (encTR p.row) ∧ Dp K H y (encQ p.want) ∧ Dp K H z (encQ p.wt) := by
  obtain ⟨a, xs, rfl, hs, hd⟩ := dp_tup h
  cases hd with
  | cons h1 r =>
    cases r with
    | cons h2 r =>
      cases r with
      | cons h3 r =>
        cases r
        exact ⟨a, _, _, _, rfl, hs, h1, h2, h3⟩
theorem tp_pk {K : PySem.W.Frag} {H : Hp} {v : V} {p : Pt} (h : Dp K H v (encPk p)) : Dp K (tp H) v (encPk p) := by
  obtain ⟨a, x, y, z, rfl, hs, h1, h2, h3⟩ := dp_pk h
  obtain ⟨b, xs, rfl, ht, hd⟩ := dp_tup h1
  exact .tup (tp_tup hs) (.cons (.tup (tp_tup ht) (tp_qs hd)) (.cons (tp_q h2) (.cons (tp_q h3) .nil)))
abbrev Kept := List (Nat × Pt)
structure PS where
  span : Nat
  kept : Kept
  fresh : Nat
abbrev Pl := PS × List PS
abbrev nk (n : Nat) : Key := .inl (n : Int)
inductive KvAll (K : PySem.W.Frag) (T : Hp) : List (Key × V) → Kept → Prop
  | nil : KvAll K T [] []
  | cons {n : Nat} {p : Pt} {v : V} {kvs : List (Key × V)} {ks : Kept} (h : Dp K T v (encPk p)) (r : KvAll K T kvs ks) : KvAll K T ((nk n, v) :: kvs) ((n, p) :: ks)
theorem KvAll.same {K : PySem.W.Frag} {T T' : Hp} (s : Same T T') : ∀ {kvs : List (Key × V)} {ks : Kept}, KvAll K T kvs ks → KvAll K T' kvs ks
  | _, _, .nil => .nil
  | _, _, .cons h r => .cons (dp_same s h) (r.same s)
theorem KvAll.length {K : PySem.W.Frag} {T : Hp} : ∀ {kvs : List (Key × V)} {ks : Kept}, KvAll K T kvs ks → kvs.length = ks.length
  | _, _, .nil => rfl
  | _, _, .cons _ r => congrArg (· + 1) r.length
theorem KvAll.app {K : PySem.W.Frag} {T : Hp} : ∀ {kvs kvs' : List (Key × V)} {ks ks' : Kept}, KvAll K T kvs ks → KvAll K T kvs' ks' → KvAll K T (kvs ++ kvs') (ks ++ ks')
  | _, _, _, _, .nil, h => h
  | _, _, _, _, .cons h r, h' => .cons h (r.app h')
theorem KvAll.get {K : PySem.W.Frag} {T : Hp} : ∀ {kvs : List (Key × V)} {ks : Kept} {i : Nat} {n : Nat} {p : Pt}, KvAll K T kvs ks → ks[i]? = some (n, p) → ∃ v, kvs[i]? = some (nk n, v) ∧ Dp K T v (encPk p)
  | _, _, _, _, _, .nil, e => by cases e
  | _, _, 0, _, _, .cons h _, e => by
    cases Option.some.inj e
    exact ⟨_, rfl, h⟩
  | _, _, i + 1, _, _, .cons _ r, e => KvAll.get (i := i) r e
theorem KvAll.get' {K : PySem.W.Frag} {T : Hp} : ∀ {kvs : List (Key × V)} {ks : Kept} {i : Nat} {k : Key} {v : V}, KvAll K T kvs ks → kvs[i]? = some (k, v) → ∃ n p, ks[i]? = some (n, p) ∧ k = nk n ∧ Dp K T v (encPk p)
  | _, _, _, _, _, .nil, e => by cases e
  | _, _, 0, _, _, .cons h _, e => by
    cases Option.some.inj e
    exact ⟨_, _, rfl, rfl, h⟩
  | _, _, i + 1, _, _, .cons _ r, e => KvAll.get' (i := i) r e
theorem KvAll.keys {K : PySem.W.Frag} {T : Hp} : ∀ {kvs : List (Key × V)} {ks : Kept}, KvAll K T kvs ks → kvs.map (·.1) = ks.map fun p => nk p.1
  | _, _, .nil => rfl
  | _, _, .cons _ r => congrArg (_ :: ·) r.keys
theorem nk_inj {a b : Nat} (h : nk a = nk b) : a = b := by
  have := Sum.inl.inj h
  omega
theorem KvAll.no {K : PySem.W.Frag} {T : Hp} {n : Nat} : ∀ {kvs : List (Key × V)} {ks : Kept}, KvAll K T kvs ks → (∀ p, p ∈ ks → p.1 ≠ n) → valV kvs (nk n) = Option.none
  | _, _, .nil, _ => rfl
  | _, _, .cons h r, hn => by
    rw [valV_neg fun e => hn _ List.mem_cons_self (nk_inj e)]
    exact r.no fun p hp => hn p (List.mem_cons_of_mem _ hp)
/-- the numbers are apart -/
def KeysApart (ks : Kept) : Prop := (ks.map (·.1)).Nodup
theorem KvAll.look {K : PySem.W.Frag} {T : Hp} : ∀ {kvs : List (Key × V)} {ks : Kept} {i n : Nat} {p : Pt} {v : V}, KvAll K T kvs ks → KeysApart ks → ks[i]? = some (n, p) → kvs[i]? = some (nk n, v) → valV kvs (nk n) = some v
  | _, _, _, _, _, _, .nil, _, e, _ => by cases e
  | _, _, 0, _, _, _, .cons _ _, _, e, e' => by
    cases Option.some.inj e
    cases Option.some.inj e'
    exact valV_pos rfl
  | _, _, i + 1, n, p, v, .cons (n := n0) (ks := ks0) h r, ha, e, e' => by
    have ha' := List.nodup_cons.mp ha
    rw [valV_neg fun q => ha'.1 (by
      rw [nk_inj q]
      exact List.mem_map.mpr ⟨(n, p), List.mem_of_getElem? e, rfl⟩)]
    exact r.look ha'.2 e e'
theorem KvAll.drop {K : PySem.W.Frag} {T : Hp} (n : Nat) : ∀ {kvs : List (Key × V)} {ks : Kept}, KvAll K T kvs ks → KvAll K T (dropK kvs (nk n)) (ks.filter fun p => decide (p.1 ≠ n))
  | _, _, .nil => .nil
  | _, _, .cons (n := m) (p := p) (v := v) (kvs := kvs) (ks := ks) h r => by
    unfold dropK
    rw [List.filter_cons, List.filter_cons]
    by_cases e : m = n
    · subst e
      rw [if_neg (by simp), if_neg (by simp)]
      exact r.drop m
    · rw [if_pos (by simp [nk]; omega), if_pos (by simp [e])]
      exact .cons h (r.drop n)
def KeptAt (K : PySem.W.Frag) (H : Hp) (d : Addr) (ks : Kept) : Prop := ∃ kvs, H d = some (.dK kvs) ∧ KvAll K (tp H) kvs ks
/-- marks: what the plane was -/
inductive TrailAt (K : PySem.W.Frag) (H : Hp) : List V → List Addr → List PS → Prop
  | nil : TrailAt K H [] [] []
  | cons {a d : Addr} {s : PS} {ts : List V} {ds : List Addr} {tr : List PS} (h : SqT K (tp H) a [.int (s.span : Nat), .ref d, .int (s.fresh : Nat)]) (k : KeptAt K H d s.kept) (r : TrailAt K H ts ds tr) : TrailAt K H (.ref a :: ts) (d :: ds) (s :: tr)
def PlaneAt (K : PySem.W.Frag) (C : Addr) (H : Hp) (p : Addr) (st : Pl) (F : List Addr) : Prop := ∃ dx d t ts ds, F = p :: d :: t :: ds ∧ F.Nodup ∧
  H p = some (.ins C dx [("span", .int (st.1.span : Nat)), ("kept", .ref d), ("fresh", .int (st.1.fresh : Nat)), ("trail", .ref t)]) ∧ KeptAt K H d st.1.kept ∧ H t = some (.lst ts) ∧ TrailAt K H ts ds st.2
/-! ### frames -/
def less (F : List Addr) (H : Hp) : Hp := fun b => if b ∈ F then Option.none else H b
theorem less_in {F : List Addr} {H : Hp} {b : Addr} (h : b ∈ F) : less F H b = Option.none := if_pos h
theorem less_out {F : List Addr} {H : Hp} {b : Addr} (h : ¬ b ∈ F) : less F H b = H b := if_neg h
theorem less_sub (F : List Addr) (H : Hp) : Same (less F H) H := fun b o e => by
  by_cases h : b ∈ F
  · rw [less_in h] at e
    cases e
  · rw [less_out h] at e
    exact e
structure Fr (F : List Addr) (H : Hp) (F' : List Addr) (H' : Hp) : Prop where
  s : Same (less F H) (less F' H')
  t : Same (tp H) (tp H')
  n : ∀ b, b ∈ F' → b ∈ F ∨ H b = Option.none
theorem Fr.trans {F F1 F2 : List Addr} {H H1 H2 : Hp} (a : Fr F H F1 H1) (b : Fr F1 H1 F2 H2) : Fr F H F2 H2 := by
  refine ⟨a.s.trans b.s, a.t.trans b.t, fun c h => ?_⟩
  rcases b.n c h with h1 | h1
  · exact a.n c h1
  · by_cases hc : c ∈ F
    · exact .inl hc
    · refine .inr ?_
      cases e : H c with
      | none => rfl
      | some o =>
        have := a.s c o (by rw [less_out hc]; exact e)
        have := less_sub _ _ _ _ this
        rw [h1] at this
        cases this
theorem Fr.of {F : List Addr} {H H' : Hp} (s : Same H H') : Fr F H F H' := ⟨fun b o e => by
  by_cases h : b ∈ F
  · rw [less_in h] at e
    cases e
  · rw [less_out h] at e ⊢
    exact s _ _ e, tp_grow s, fun _ h => .inl h⟩
theorem Fr.put {F : List Addr} {H : Hp} {a : Addr} {o : HO} (h : a ∈ F) (n : isT (H a) = false) : Fr F H F (upd H a o) := ⟨fun b u e => by
  by_cases q : b ∈ F
  · rw [less_in q] at e
    cases e
  · rw [less_out q] at e ⊢
    rw [upd_ne (fun z => q (by rw [z]; exact h))]
    exact e, tp_put n, fun _ h => .inl h⟩
/-- a new thing joins the frame -/
theorem Fr.join {F : List Addr} {H : Hp} {a : Addr} (h : H a = Option.none) {F' : List Addr} (e : ∀ b, b ∈ F' ↔ b ∈ F ∨ b = a) : Fr F H F' H := ⟨fun b u q => by
  by_cases z : b ∈ F
  · rw [less_in z] at q
    cases q
  · rw [less_out z] at q
    rw [less_out fun w => by
      rcases (e b).mp w with w | w
      · exact z w
      · rw [w, h] at q
        cases q]
    exact q, fun _ _ q => q, fun b w => by
    rcases (e b).mp w with w | w
    · exact .inl w
    · exact .inr (by rw [w]; exact h)⟩
/-- what stands outside stays -/
theorem Fr.keep {F F' : List Addr} {H H' : Hp} (f : Fr F H F' H') {b : Addr} {o : HO} (h : ¬ b ∈ F) (e : H b = some o) : H' b = some o := less_sub _ _ _ _ (f.s b o (by rw [less_out h]; exact e))
section
variable {K : PySem.W.Frag} {C : Addr} {H H' : Hp}
theorem KeptAt.move {d : Addr} {ks : Kept} (h : KeptAt K H d ks) (t : Same (tp H) (tp H')) (e : H' d = H d) : KeptAt K H' d ks := by
  obtain ⟨kvs, h1, h2⟩ := h
  exact ⟨kvs, e.trans h1, h2.same t⟩
theorem TrailAt.move (t : Same (tp H) (tp H')) : ∀ {ts : List V} {ds : List Addr} {tr : List PS}, TrailAt K H ts ds tr → (∀ d, d ∈ ds → H' d = H d) → TrailAt K H' ts ds tr
  | _, _, _, .nil, _ => .nil
  | _, _, _, .cons h k r, e => .cons (t.tup h) (k.move t (e _ List.mem_cons_self)) (r.move t fun d hd => e d (List.mem_cons_of_mem _ hd))
theorem TrailAt.there : ∀ {ts : List V} {ds : List Addr} {tr : List PS}, TrailAt K H ts ds tr → ∀ d, d ∈ ds → ∃ kvs, H d = some (.dK kvs)
  | _, _, _, .nil, d, h => by cases h
  | _, _, _, .cons _ k r, d, h => by
    rcases List.mem_cons.mp h with rfl | h
    · obtain ⟨kvs, e, _⟩ := k
      exact ⟨kvs, e⟩
    · exact r.there d h
theorem TrailAt.length : ∀ {ts : List V} {ds : List Addr} {tr : List PS}, TrailAt K H ts ds tr → ts.length = tr.length ∧ ds.length = tr.length
  | _, _, _, .nil => ⟨rfl, rfl⟩
  | _, _, _, .cons _ _ r => ⟨congrArg (· + 1) r.length.1, congrArg (· + 1) r.length.2⟩
theorem TrailAt.snoc {a d : Addr} {s : PS} (h : SqT K (tp H) a [.int (s.span : Nat), .ref d, .int (s.fresh : Nat)]) (k : KeptAt K H d s.kept) : ∀ {ts : List V} {ds : List Addr} {tr : List PS}, TrailAt K H ts ds tr → TrailAt K H (ts ++ [.ref a]) (ds ++ [d]) (tr ++ [s])
  | _, _, _, .nil => .cons h k .nil
  | _, _, _, .cons h' k' r => .cons h' k' (r.snoc h k)
theorem TrailAt.take : ∀ {ts : List V} {ds : List Addr} {tr : List PS} (n : Nat), TrailAt K H ts ds tr → TrailAt K H (ts.take n) (ds.take n) (tr.take n)
  | _, _, _, 0, _ => .nil
  | _, _, _, _ + 1, .nil => .nil
  | _, _, _, n + 1, .cons h k r => .cons h k (r.take n)
theorem TrailAt.get : ∀ {ts : List V} {ds : List Addr} {tr : List PS} {i : Nat} {s : PS}, TrailAt K H ts ds tr → tr[i]? = some s → ∃ a d, ts[i]? = some (.ref a) ∧ ds[i]? = some d ∧ SqT K (tp H) a [.int (s.span : Nat), .ref d, .int (s.fresh : Nat)] ∧ KeptAt K H d s.kept
  | _, _, _, _, _, .nil, e => by cases e
  | _, _, _, 0, _, .cons h k _, e => by
    cases Option.some.inj e
    exact ⟨_, _, rfl, rfl, h, k⟩
  | _, _, _, i + 1, _, .cons _ _ r, e => TrailAt.get (i := i) r e
/-- all of a plane's addresses are there and hold no tuple -/
theorem PlaneAt.there {p : Addr} {st : Pl} {F : List Addr} (h : PlaneAt K C H p st F) : ∀ b, b ∈ F → ∃ o, H b = some o ∧ isT (H b) = false := by
  obtain ⟨dx, d, t, ts, ds, rfl, nd, h0, ⟨kvs, h1, _⟩, h2, h3⟩ := h
  intro b hb
  rcases List.mem_cons.mp hb with rfl | hb
  · exact ⟨_, h0, by rw [h0]; rfl⟩
  rcases List.mem_cons.mp hb with rfl | hb
  · exact ⟨_, h1, by rw [h1]; rfl⟩
  rcases List.mem_cons.mp hb with rfl | hb
  · exact ⟨_, h2, by rw [h2]; rfl⟩
  obtain ⟨kvs', h4⟩ := h3.there b hb
  exact ⟨_, h4, by rw [h4]; rfl⟩
theorem PlaneAt.move {p : Addr} {st : Pl} {F : List Addr} (h : PlaneAt K C H p st F) (t : Same (tp H) (tp H')) (e : ∀ b, b ∈ F → H' b = H b) : PlaneAt K C H' p st F := by
  obtain ⟨dx, d, t', ts, ds, rfl, nd, h0, h1, h2, h3⟩ := h
  have m : ∀ b, b ∈ ds → b ∈ p :: d :: t' :: ds := fun b hb => List.mem_cons_of_mem _ (List.mem_cons_of_mem _ (List.mem_cons_of_mem _ hb))
  exact ⟨dx, d, t', ts, ds, rfl, nd, (e p (by simp)).trans h0, h1.move t (e d (by simp)), (e t' (by simp)).trans h2, h3.move t fun b hb => e b (m b hb)⟩
theorem PlaneAt.same {p : Addr} {st : Pl} {F : List Addr} (h : PlaneAt K C H p st F) (s : Same H H') : PlaneAt K C H' p st F := h.move (tp_grow s) fun b hb => by
  obtain ⟨o, e, _⟩ := h.there b hb
  rw [e]
  exact s _ _ e
end
end Np
end
section
set_option linter.all false
set_option maxRecDepth 100000
set_option maxHeartbeats 4000000
/-! Planes: methods. -/
namespace Np
open PySem PySem.Spec PyProof.Rows L2
abbrev planeFlds : List Str := ["span", "kept", "fresh", "trail"]
structure PlaneC (K : PySem.W.Frag) (C : Addr) : Prop where
  cls : Cls K C
  na : ∀ f, f ∈ planeFlds → NoAttr K C f
theorem nd4 {p d t : Addr} {ds : List Addr} (h : (p :: d :: t :: ds).Nodup) : p ≠ d ∧ p ≠ t ∧ d ≠ t ∧ (∀ b, b ∈ ds → b ≠ p ∧ b ≠ d ∧ b ≠ t) ∧ ds.Nodup := by
  obtain ⟨h1, h2⟩ := List.nodup_cons.mp h
  obtain ⟨h3, h4⟩ := List.nodup_cons.mp h2
  obtain ⟨h5, h6⟩ := List.nodup_cons.mp h4
  refine ⟨fun e => h1 (by rw [e]; exact List.mem_cons_self), fun e => h1 (by rw [e]; exact List.mem_cons_of_mem _ List.mem_cons_self), fun e => h3 (by rw [e]; exact List.mem_cons_self), fun b hb => ⟨fun e => h1 ?_, fun e => h3 ?_, fun e => h5 ?_⟩, h6⟩
  · rw [← e]; exact List.mem_cons_of_mem _ (List.mem_cons_of_mem _ hb)
  · rw [← e]; exact List.mem_cons_of_mem _ hb
  · rw [← e]; exact hb
/-- the points are fine: apart, below the next number, not too many -/
structure PlOk (st : Pl) : Prop where
  n : st.1.kept.length ≤ 8
  t : st.2.length ≤ 100
def spNoted (K : PySem.W.Frag) (C : Addr) : Sp := fun vs H Q _ => ∃ p st F, vs = [.ref p] ∧ PlaneAt K C H p st F ∧ st.1.kept.length ≤ 100 ∧ st.2.length ≤ 100 ∧
  ∀ H' F', Fr F H F' H' → PlaneAt K C H' p (st.1, st.2 ++ [st.1]) F' → Q .non H'
abbrev N_Plane_noted : List Str := ["self"]
theorem sc_Plane_noted : FnScope ["self"] ["self"] (defScope s_Plane_noted) := ⟨rfl, rfl, rfl, by decide +kernel, rfl, by decide +kernel, by decide +kernel⟩
theorem b_Plane_noted : BindOk "noted" "Plane.noted" s_Plane_noted ["self"] := fun _ _ _ _ _ _ us hl => match us, hl with | [_], _ => rfl
abbrev N_Plane_take : List Str := ["self", "number"]
theorem sc_Plane_take : FnScope ["self", "number"] ["self", "number"] (defScope s_Plane_take) := ⟨rfl, rfl, rfl, by decide +kernel, rfl, by decide +kernel, by decide +kernel⟩
theorem b_Plane_take : BindOk "take" "Plane.take" s_Plane_take ["self", "number"] := fun _ _ _ _ _ _ us hl => match us, hl with | [_, _], _ => rfl
abbrev N_Plane_mark : List Str := ["self"]
theorem sc_Plane_mark : FnScope ["self"] ["self"] (defScope s_Plane_mark) := ⟨rfl, rfl, rfl, by decide +kernel, rfl, by decide +kernel, by decide +kernel⟩
theorem b_Plane_mark : BindOk "mark" "Plane.mark" s_Plane_mark ["self"] := fun _ _ _ _ _ _ us hl => match us, hl with | [_], _ => rfl
abbrev N_Plane_width : List Str := ["self"]
theorem sc_Plane_width : FnScope ["self"] ["self"] (defScope s_Plane_width) := ⟨rfl, rfl, rfl, by decide +kernel, rfl, by decide +kernel, by decide +kernel⟩
theorem b_Plane_width : BindOk "width" "Plane.width" s_Plane_width ["self"] := fun _ _ _ _ _ _ us hl => match us, hl with | [_], _ => rfl
abbrev N_Plane_back : List Str := ["self", "mark"]
theorem sc_Plane_back : FnScope ["self", "mark"] ["self", "mark"] (defScope s_Plane_back) := ⟨rfl, rfl, rfl, by decide +kernel, rfl, by decide +kernel, by decide +kernel⟩
theorem b_Plane_back : BindOk "back" "Plane.back" s_Plane_back ["self", "mark"] := fun _ _ _ _ _ _ us hl => match us, hl with | [_, _], _ => rfl
section
variable {P : Program} {w : World} {K : PySem.W.Frag} {mg : Str → Option Value} {base : Heap} {aN aO C : Addr}
theorem k_noted (T : Txt K mg aN aO) (c : PlaneC K C) (F : MethAt K C "noted" "Plane.noted" s_Plane_noted) : C8.Met P w K mg base 1 C "noted" (spNoted K C) [] := by
  refine met_of c.cls F sc_Plane_noted b_Plane_noted (fun vs H Q E h => ?_) (fun f cdv A outer s H vs Q E hr h => ?_)
  · obtain ⟨p, st, F, rfl, _⟩ := h
    rfl
  · obtain ⟨p, st, F, rfl, hp, hn, ht, hQ⟩ := h
    have hp0 := hp
    obtain ⟨dx, d, t, ts, ds, rfl, nd, h0, ⟨kvs, h1, h1'⟩, h2, h3⟩ := hp
    have c0 := c.cls
    have na := c.na
    obtain ⟨e1, e2', e3, e4, e5⟩ := nd4 nd
    have hkl := h1'.length
    have htl := h3.length.1
    refine ⟨_, (pss_one (ps_expr (pe_bm PySem.F.plainAttrs_list PySem.F.slot_list_append PySem.F.type_list_append mt_append (pe_fld (pv 0) rfl) (pa_cons (pe_tup (pa_cons (pe_fld (pv 0) rfl) (pa_cons (pe_callTy call_dictD rfl T.dict (by decide +kernel) (pa_cons (pe_fld (pv 0) rfl) pa_nil)) (pa_cons (pe_fld (pv 0) rfl) pa_nil)))) pa_nil)))), ?_⟩
    refine ⟨_, rfl, p, C, dx, _, _, rfl, h0, c0, na _ (by decide), rfl, .inl ⟨rfl, _, SqL.of h2⟩, _, rfl, p, C, dx, _, _, rfl, h0, c0, na _ (by decide), rfl, _, rfl, p, C, dx, _, _, rfl, h0, c0, na _ (by decide), rfl, d, kvs, rfl, .inl h1, fun d' hd' => ?_⟩
    have n1 : Same H (upd H d' (.dK kvs)) := same_new hd'
    refine ⟨_, rfl, p, C, dx, _, _, rfl, n1 _ _ h0, c0, na _ (by decide), rfl, by show 3 ≤ sizeLine; decide, fun a ha => ?_⟩
    have n2 := n1.trans (same_new (o := .tup [V.int (st.1.span : Nat), .ref d', .int (st.1.fresh : Nat)]) ha)
    have a0 : H a = Option.none := n1.free ha
    have adn : a ≠ d' := fun e => by
      subst e
      rw [upd_same] at ha
      cases ha
    refine stay fun H2 e2 => ?_
    rw [← e2] at n2
    have d2 : H2 d' = some (.dK kvs) := by
      rw [e2, upd_ne adn.symm]
      exact upd_same
    have a2 : SqT K H2 a [V.int (st.1.span : Nat), .ref d', .int (st.1.fresh : Nat)] := by
      rw [e2]
      exact SqT.of upd_same
    have t2 := n2 _ _ h2
    refine ⟨t, ts, .ref a, rfl, rfl, t2, len_small (by omega), ?_⟩
    have hin : ∀ b, b ∈ p :: d :: t :: (ds ++ [d']) ↔ b ∈ p :: d :: t :: ds ∨ b = d' := fun b => by simp [or_assoc]
    have f1 := Fr.join (F := p :: d :: t :: ds) hd' hin
    have f2 := f1.trans (Fr.of n2)
    have f3 := f2.trans (Fr.put (F := p :: d :: t :: (ds ++ [d'])) (a := t) (o := .lst (ts ++ [.ref a])) (by simp) (by rw [t2]; rfl))
    have dF : ¬ d' ∈ p :: d :: t :: ds := fun hm => by
      obtain ⟨o, e, _⟩ := hp0.there _ hm
      rw [hd'] at e
      cases e
    have dt : d' ≠ t := fun e => dF (by rw [e]; simp)
    refine hQ _ _ f3 ⟨dx, d, t, _, _, rfl, ?_, by rw [upd_ne e2']; exact n2 _ _ h0, ⟨kvs, by rw [upd_ne e3]; exact n2 _ _ h1, h1'.same f3.t⟩, upd_same, ?_⟩
    · show ((p :: d :: t :: ds) ++ [d']).Nodup
      refine List.nodup_append.mpr ⟨nd, List.nodup_cons.mpr ⟨List.not_mem_nil, List.nodup_nil⟩, fun x hx y hy => ?_⟩
      rw [List.mem_singleton.mp hy]
      exact fun e => dF (e ▸ hx)
    · refine TrailAt.snoc ((tp_put (by rw [t2]; rfl)).tup (tp_tup a2)) ⟨kvs, by rw [upd_ne dt]; exact d2, h1'.same f3.t⟩ (h3.move f3.t fun b hb => ?_)
      rw [upd_ne (e4 b hb).2.2]
      obtain ⟨kv, e⟩ := h3.there b hb
      rw [e]
      exact n2 _ _ e
theorem k_mark (T : Txt K mg aN aO) (c : PlaneC K C) (F : MethAt K C "mark" "Plane.mark" s_Plane_mark) : C8.Met P w K mg base 1 C "mark" (fun vs H Q _ => ∃ p st F, vs = [.ref p] ∧ PlaneAt K C H p st F ∧ Q (.int (st.2.length : Nat)) H) [] := by
  refine met_of c.cls F sc_Plane_mark b_Plane_mark (fun vs H Q E h => ?_) (fun f cdv A outer s H vs Q E hr h => ?_)
  · obtain ⟨p, st, F, rfl, _⟩ := h
    rfl
  · obtain ⟨p, st, F, rfl, hp, hQ⟩ := h
    obtain ⟨dx, d, t, ts, ds, rfl, nd, h0, ⟨kvs, h1, h1'⟩, h2, h3⟩ := hp
    have c0 := c.cls
    have na := c.na
    refine ⟨_, (pss_one (ps_ret (pe_callB call_len_seq rfl T.len (by decide +kernel) (pa_cons (pe_fld (pv 0) rfl) pa_nil)))), ?_⟩
    refine ⟨_, rfl, p, C, dx, _, _, rfl, h0, c0, na _ (by decide), rfl, t, ts, rfl, .inl (SqL.of h2), ?_⟩
    rw [h3.length.1]
    exact hQ
theorem k_width (T : Txt K mg aN aO) (c : PlaneC K C) (F : MethAt K C "width" "Plane.width" s_Plane_width) : C8.Met P w K mg base 1 C "width" (fun vs H Q _ => ∃ p st F, vs = [.ref p] ∧ PlaneAt K C H p st F ∧ Q (.int (st.1.span : Nat)) H) [] := by
  refine met_of c.cls F sc_Plane_width b_Plane_width (fun vs H Q E h => ?_) (fun f cdv A outer s H vs Q E hr h => ?_)
  · obtain ⟨p, st, F, rfl, _⟩ := h
    rfl
  · obtain ⟨p, st, F, rfl, hp, hQ⟩ := h
    obtain ⟨dx, d, t, ts, ds, rfl, nd, h0, ⟨kvs, h1, h1'⟩, h2, h3⟩ := hp
    have c0 := c.cls
    have na := c.na
    refine ⟨_, (pss_one (ps_ret (pe_fld (pv 0) rfl))), ?_⟩
    exact ⟨_, rfl, p, C, dx, _, _, rfl, h0, c0, na _ (by decide), rfl, hQ⟩
/-- take's plane -/
def dropPt (ks : Kept) (n : Nat) : Kept := ks.filter fun p => decide (p.1 ≠ n)
def spTake (K : PySem.W.Frag) (C : Addr) : Sp := fun vs H Q _ => ∃ (p : Addr) (st : Pl) (F : List Addr) (n i : Nat) (q : Pt), vs = [.ref p, .int (n : Nat)] ∧ PlaneAt K C H p st F ∧ st.1.kept.length ≤ 100 ∧ st.2.length ≤ 100 ∧ KeysApart st.1.kept ∧ st.1.kept[i]? = some (n, q) ∧
  ∀ H' F', Fr F H F' H' → PlaneAt K C H' p (⟨st.1.span, dropPt st.1.kept n, st.1.fresh⟩, st.2 ++ [st.1]) F' → Q .non H'
theorem k_take (T : Txt K mg aN aO) (c : PlaneC K C) (F : MethAt K C "take" "Plane.take" s_Plane_take) (c_is_whole : C8.Cal P w K mg base 1 "is_whole" spWhole []) (c_Plane_noted : C8.Met P w K mg base 1 C "noted" (spNoted K C) []) : C8.Met P w K mg base 2 C "take" (spTake K C) [] := by
  refine met_of c.cls F sc_Plane_take b_Plane_take (fun vs H Q E h => ?_) (fun f cdv A outer s H vs Q E hr h => ?_)
  · obtain ⟨p, st, F, n, i, q, rfl, _⟩ := h
    rfl
  · obtain ⟨p, st, F, n, i, q, rfl, hp, hn, ht, hka, hi, hQ⟩ := h
    have hp0 := hp
    obtain ⟨dx, d, t, ts, ds, rfl, nd, h0, ⟨kvs, h1, h1'⟩, h2, h3⟩ := hp
    have c0 := c.cls
    have na := c.na
    obtain ⟨v, ev, hv⟩ := h1'.get hi
    have hl := h1'.look hka hi ev
    refine ⟨_, (pss_cons (ps_if (PW.pt (pw_or (pt_not (pt_val (C8.pe_c c_is_whole hr (by decide) rfl (pa_cons (pv 1) pa_nil)))) (pw_or1 (pt_cmp (pc_dnotin (hu_of hr) (pv 1) (pe_fld (pv 0) rfl)))))) (pss_one ps_never)
    pss_nil)
    (pss_cons (ps_expr (C8.pe_mt0 c_Plane_noted hr (by decide) (pv 0)))
    (pss_one (ps_expr (pe_dpop1 (pe_fld (pv 0) rfl) (pv 1) ⟨rfl, rfl, rfl, rfl⟩))))), ?_⟩
    refine ⟨_, rfl, _, rfl, true, rfl, iteF ?_⟩
    refine ⟨_, rfl, _, rfl, p, C, dx, _, _, rfl, h0, c0, na _ (by decide), rfl, d, some v, rfl, by rw [← hl]; exact DGet.k (k := nk n) h1, false, rfl, iteF ?_⟩
    refine ⟨_, rfl, p, dx, _, rfl, h0, rfl, p, st, _, rfl, hp0, hn, ht, fun H1 F1 f1 hp1 => ?_⟩
    have hp1' := hp1
    obtain ⟨dx1, d1, t1, ts1, ds1, rfl, nd1, g0, ⟨kvs1, g1, g1'⟩, g2, g3⟩ := hp1
    obtain ⟨e1, e2, e3, e4, e5⟩ := nd4 nd1
    obtain ⟨v1, ev1, hv1⟩ := g1'.get hi
    have hl1 := g1'.look hka hi ev1
    refine ⟨_, rfl, p, C, dx1, _, _, rfl, g0, c0, na _ (by decide), rfl, d1, rfl, .inl ⟨kvs1, .inl g1⟩, _, rfl, kvs1, nk n, v1, g1, rfl, hl1, ?_⟩
    have f2 : Fr (p :: d1 :: t1 :: ds1) H1 (p :: d1 :: t1 :: ds1) (upd H1 d1 (.dK (dropK kvs1 (nk n)))) := Fr.put (by simp) (by rw [g1]; rfl)
    refine hQ _ _ (f1.trans f2) ⟨dx1, d1, t1, ts1, ds1, rfl, nd1, by rw [upd_ne e1]; exact g0, ⟨_, upd_same, (g1'.drop n).same f2.t⟩, by rw [upd_ne e3.symm]; exact g2, g3.move f2.t fun b hb => upd_ne (e4 b hb).2.1⟩
/-- back to a mark -/
def backOf (st : Pl) (k : Nat) : Pl := match st.2[k]? with
  | some s => (s, st.2.take k)
  | none => st
def spBack (K : PySem.W.Frag) (C : Addr) : Sp := fun vs H Q _ => ∃ (p : Addr) (st : Pl) (F : List Addr) (k : Nat), vs = [.ref p, .int (k : Nat)] ∧ PlaneAt K C H p st F ∧ k ≤ st.2.length ∧ st.2.length ≤ 100 ∧
  ∀ H' F', Fr F H F' H' → PlaneAt K C H' p (backOf st k) F' → Q .non H'
theorem Fr.less {F F' : List Addr} {H : Hp} (h : ∀ b, b ∈ F' → b ∈ F) : Fr F H F' H := ⟨fun b o e => by
  by_cases q : b ∈ F
  · rw [less_in q] at e
    cases e
  · rw [less_out q] at e
    rw [less_out fun z => q (h b z)]
    exact e, fun _ _ e => e, fun b z => .inl (h b z)⟩
theorem k_back (T : Txt K mg aN aO) (c : PlaneC K C) (F : MethAt K C "back" "Plane.back" s_Plane_back) (c_is_whole : C8.Cal P w K mg base 1 "is_whole" spWhole []) : C8.Met P w K mg base 2 C "back" (spBack K C) [] := by
  refine met_of c.cls F sc_Plane_back b_Plane_back (fun vs H Q E h => ?_) (fun f cdv A outer s H vs Q E hr h => ?_)
  · obtain ⟨p, st, F, k, rfl, _⟩ := h
    rfl
  · obtain ⟨p, st, F, k, rfl, hp, hk, ht, hQ⟩ := h
    have hp0 := hp
    obtain ⟨dx, d, t, ts, ds, rfl, nd, h0, ⟨kvs, h1, h1'⟩, h2, h3⟩ := hp
    have c0 := c.cls
    have na := c.na
    have tl := h3.length.1
    have tl2 := h3.length.2
    obtain ⟨e1, e2, e3, e4, e5⟩ := nd4 nd
    refine ⟨_, (pss_cons (ps_if (PW.pt (pw_or (pt_not (pt_val (C8.pe_c c_is_whole hr (by decide) rfl (pa_cons (pv 1) pa_nil)))) (pw_or1 (pt_not (pt_chain op_le op_le pe_int (pv 1) (pe_callB call_len_seq rfl T.len (by decide +kernel) (pa_cons (pe_fld (pv 0) rfl) pa_nil))))))) (pss_one ps_never)
    pss_nil)
    (pss_one (ps_if (pt_cmpR op_lt (pv 1) (pe_callB call_len_seq rfl T.len (by decide +kernel) (pa_cons (pe_fld (pv 0) rfl) pa_nil)) (nomark _)) (pss_cons (ps_asg (pe_ix ix_list (pe_fld (pv 0) rfl) (pv 1) (fun _ _ => rfl)) (pg_tup rfl (pgs_cons (pg_fld (pv 0)) (pgs_cons (pg_fld (pv 0)) (pgs_cons (pg_fld (pv 0)) pgs_nil)))))
    (pss_one (ps_fld (pv 0) (pe_slice sl_list (pe_fld (pv 0) rfl) po_none (po_some (pv 1))) rfl)))
    pss_nil))), ?_⟩
    refine ⟨_, rfl, _, rfl, true, rfl, iteF ?_⟩
    refine ⟨_, rfl, _, _, rfl, rfl, true, congrArg V.bl (decide_eq_true (by omega)), iteT ?_⟩
    refine ⟨_, rfl, p, C, dx, _, _, rfl, h0, c0, na _ (by decide), rfl, t, ts, rfl, .inl (SqL.of h2), _, _, rfl, rfl, true, congrArg V.bl (decide_eq_true (by omega)), iteF ?_⟩
    refine ⟨_, rfl, _, rfl, p, C, dx, _, _, rfl, h0, c0, na _ (by decide), rfl, t, ts, rfl, .inl (SqL.of h2), _, _, rfl, rfl, decide (k < ts.length), congrArg V.bl (decide_eq_decide.mpr (by omega)), ?_⟩
    by_cases hkl : k < ts.length
    · rw [decide_eq_true hkl]
      refine iteT ?_
      obtain ⟨s0, es⟩ : ∃ s0, st.2[k]? = some s0 := ⟨_, List.getElem?_eq_getElem (by omega)⟩
      obtain ⟨a, dk, g1, g2, g3, g4⟩ := h3.get es
      refine ⟨_, rfl, p, C, dx, _, _, rfl, h0, c0, na _ (by decide), rfl, _, rfl, t, ts, _, _, rfl, rfl, SqL.of h2, atI_nat g1, a, _, rfl, (tp_sub _).tup g3, rfl, ?_⟩
      refine ⟨_, _, rfl, _, rfl, p, C, dx, _, rfl, h0, c0, na _ (by decide), by show 4 < 1000; decide, ?_⟩
      refine ⟨_, _, rfl, _, rfl, p, C, dx, _, rfl, upd_same, c0, na _ (by decide), by show 4 < 1000; decide, ?_⟩
      refine ⟨_, _, rfl, _, rfl, p, C, dx, _, rfl, upd_same, c0, na _ (by decide), by show 4 < 1000; decide, rfl, ?_⟩
      have hF0 : p ∈ p :: d :: t :: ds := by simp
      have f1 := (Fr.put (F := p :: d :: t :: ds) (H := H) (a := p) (o := .ins C dx (putF "span" (.int (s0.span : Nat)) [("span", .int (st.1.span : Nat)), ("kept", .ref d), ("fresh", .int (st.1.fresh : Nat)), ("trail", .ref t)])) hF0 (by rw [h0]; rfl))
      have f2 := f1.trans (Fr.put (a := p) (o := .ins C dx (putF "kept" (.ref dk) (putF "span" (.int (s0.span : Nat)) [("span", .int (st.1.span : Nat)), ("kept", .ref d), ("fresh", .int (st.1.fresh : Nat)), ("trail", .ref t)]))) hF0 (by rw [upd_same]; rfl))
      have f3 := f2.trans (Fr.put (a := p) (o := .ins C dx (putF "fresh" (.int (s0.fresh : Nat)) (putF "kept" (.ref dk) (putF "span" (.int (s0.span : Nat)) [("span", .int (st.1.span : Nat)), ("kept", .ref d), ("fresh", .int (st.1.fresh : Nat)), ("trail", .ref t)])))) hF0 (by rw [upd_same]; rfl))
      refine stay fun H1 q1 => ?_
      have x1 : H1 p = some (.ins C dx [("span", .int (s0.span : Nat)), ("kept", .ref dk), ("fresh", .int (s0.fresh : Nat)), ("trail", .ref t)]) := by rw [q1]; exact upd_same
      have o1 : ∀ b, b ≠ p → H1 b = H b := fun b hb => by rw [q1, upd_ne hb, upd_ne hb, upd_ne hb]
      have f4 : Fr (p :: d :: t :: ds) H (p :: d :: t :: ds) H1 := by rw [q1]; exact f3
      have t1 : H1 t = some (.lst ts) := by rw [o1 t e2.symm]; exact h2
      refine ⟨_, rfl, p, C, dx, _, _, rfl, x1, c0, na _ (by decide), rfl, _, rfl, _, rfl, t, ts, rfl, SqL.of t1, fun l hl => ?_⟩
      rw [cut_pre]
      have n1 : Same H1 (upd H1 l (.lst (ts.take k))) := same_new hl
      refine ⟨_, rfl, p, C, dx, _, rfl, n1 _ _ x1, c0, na _ (by decide), by show 4 < 1000; decide, ?_⟩
      have lp : p ≠ l := ne_of_none x1 hl
      have hin : ∀ b, b ∈ l :: p :: d :: t :: ds ↔ b ∈ p :: d :: t :: ds ∨ b = l := fun b => by rw [List.mem_cons]; exact or_comm
      have f5 := (f4.trans (Fr.join hl hin)).trans (Fr.of n1)
      have f6 := f5.trans (Fr.put (F := l :: p :: d :: t :: ds) (a := p) (o := .ins C dx [("span", .int (s0.span : Nat)), ("kept", .ref dk), ("fresh", .int (s0.fresh : Nat)), ("trail", .ref l)]) (by simp) (by rw [n1 _ _ x1]; rfl))
      have dkm : dk ∈ ds := List.mem_of_getElem? g2
      have hsub : ∀ b, b ∈ p :: dk :: l :: ds.take k → b ∈ l :: p :: d :: t :: ds := fun b hb => by
        rcases List.mem_cons.mp hb with rfl | hb
        · simp
        rcases List.mem_cons.mp hb with rfl | hb
        · exact List.mem_cons_of_mem _ (List.mem_cons_of_mem _ (List.mem_cons_of_mem _ (List.mem_cons_of_mem _ dkm)))
        rcases List.mem_cons.mp hb with rfl | hb
        · simp
        · exact List.mem_cons_of_mem _ (List.mem_cons_of_mem _ (List.mem_cons_of_mem _ (List.mem_cons_of_mem _ (List.mem_of_mem_take hb))))
      have f7 := f6.trans (Fr.less hsub)
      have lds : ∀ b, b ∈ ds → l ≠ b := fun b hb e => by
        subst e
        obtain ⟨kv, ek⟩ := h3.there _ hb
        rw [← o1 _ (e4 _ hb).1, hl] at ek
        cases ek
      have keep : ∀ b, b ∈ ds → upd (upd H1 l (.lst (ts.take k))) p (.ins C dx [("span", .int (s0.span : Nat)), ("kept", .ref dk), ("fresh", .int (s0.fresh : Nat)), ("trail", .ref l)]) b = H b := fun b hb => by
        rw [upd_ne (e4 b hb).1, upd_ne (lds b hb).symm, o1 b (e4 b hb).1]
      have eb : backOf st k = (s0, st.2.take k) := by
        unfold backOf
        rw [es]
      refine hQ _ _ f7 ?_
      rw [eb]
      refine ⟨dx, dk, l, _, _, rfl, ?_, upd_same, g4.move f7.t (keep _ dkm), by rw [upd_ne lp.symm]; exact upd_same, (h3.take k).move f7.t fun b hb => keep b (List.mem_of_mem_take hb)⟩
      have hkd : k < ds.length := by omega
      have edk : ds[k] = dk := Option.some.inj ((List.getElem?_eq_getElem hkd).symm.trans g2)
      have nsplit : (ds.take k ++ dk :: ds.drop (k + 1)).Nodup := by
        rw [← edk, ← List.drop_eq_getElem_cons hkd, List.take_append_drop]
        exact e5
      obtain ⟨z1, z2, z3⟩ := List.nodup_append.mp nsplit
      refine List.nodup_cons.mpr ⟨fun hm => ?_, List.nodup_cons.mpr ⟨fun hm => ?_, List.nodup_cons.mpr ⟨fun hm => lds _ (List.mem_of_mem_take hm) rfl, z1⟩⟩⟩
      · rcases List.mem_cons.mp hm with e | hm
        · exact (e4 dk dkm).1 e.symm
        rcases List.mem_cons.mp hm with e | hm
        · exact lp e
        · exact (e4 p (List.mem_of_mem_take hm)).1 rfl
      · rcases List.mem_cons.mp hm with e | hm
        · exact lds dk dkm e.symm
        · exact z3 dk hm dk List.mem_cons_self rfl
    · rw [decide_eq_false hkl]
      refine iteF ?_
      refine hQ _ _ (Fr.of fun _ _ e => e) ?_
      unfold backOf
      rw [List.getElem?_eq_none (by omega)]
      exact hp0
end
end Np
end
section
set_option linter.all false
set_option maxRecDepth 100000
set_option maxHeartbeats 4000000
/-! Planes: lay, narrow, widen. -/
namespace Np
open PySem PySem.Spec PyProof.Rows L2
structure MethAtD (K : PySem.W.Frag) (C : Addr) (m qual : Str) (st : Stmt) (dvs : List V) : Prop where
  ex : ∃ f fd, FunD K m qual (defArgs st) (defBody st) (defScope st) dvs [] f fd ∧ Meth K C m f
theorem metD_of {P : Program} {w : World} {K : PySem.W.Frag} {mg : Str → Option Value} {base : Heap} {C : Addr} {m qual : Str} {st : Stmt} {N ps : List Str} {k : Nat} {sp : Sp} {dvs : List V} {n j : Nat} (c : Cls K C) (F : MethAtD K C m qual st dvs) (S : FnScope N ps (defScope st)) (hd : dvs ≠ []) (hn : n + (dvs.length - j) = ps.length) (hb : BindOkD m qual st ps dvs.length n j)
    (len : ∀ vs H Q E, sp vs H Q E → vs.length = ps.length)
    (hbody : ∀ (f : Addr) (cdv : Value) (A : Around) (outer : List Env) (s : Shared) (H : Hp) (vs : List V) (Q : VK) (E : XK), Room k (A.deeper (envOfC qual (defScope st) s.heap.objs.size f cdv)) → sp vs H Q E →
      ∃ t, PSs (cxOf CX0 P w K mg base N qual (defScope st) f cdv A outer s H E).nox (defBody st) t ∧ t { nx := fun _ H' => Q .non H', rt := Q } (start N vs) H) : C8.Met P w K mg base (k + 1) C m sp (dvs.drop j) := by
  obtain ⟨f, fd, F, g⟩ := F.ex
  obtain ⟨ds, rd, bd⟩ := F.binds1 n j hd hn hb
  refine ⟨f, fd, ps, ds, c, g, F.ok S len fun cdv A outer s H vs Q E hr hsp => ?_, bd, rd⟩
  obtain ⟨t, h1, h2⟩ := hbody f cdv A outer s H vs Q E hr hsp
  exact ⟨t, h1.nox, h2⟩
abbrev N_Plane_lay : List Str := ["self", "row", "want", "weight"]
theorem sc_Plane_lay : FnScope ["self", "row", "want", "weight"] ["self", "row", "want", "weight"] (defScope s_Plane_lay) := ⟨rfl, rfl, rfl, by decide +kernel, rfl, by decide +kernel, by decide +kernel⟩
abbrev N_Plane_narrow : List Str := ["self", "number", "row", "want", "weight"]
theorem sc_Plane_narrow : FnScope ["self", "number", "row", "want", "weight"] ["self"] (defScope s_Plane_narrow) := ⟨rfl, rfl, rfl, by decide +kernel, rfl, by decide +kernel, by decide +kernel⟩
theorem b_Plane_narrow : BindOk "narrow" "Plane.narrow" s_Plane_narrow ["self"] := fun _ _ _ _ _ _ us hl => match us, hl with | [_], _ => rfl
abbrev N_Plane_widen : List Str := ["self", "column", "number", "thing", "row", "want", "weight"]
theorem sc_Plane_widen : FnScope ["self", "column", "number", "thing", "row", "want", "weight"] ["self", "column"] (defScope s_Plane_widen) := ⟨rfl, rfl, rfl, by decide +kernel, rfl, by decide +kernel, by decide +kernel⟩
theorem b_Plane_widen : BindOk "widen" "Plane.widen" s_Plane_widen ["self", "column"] := fun _ _ _ _ _ _ us hl => match us, hl with | [_, _], _ => rfl
theorem b_lay : BindOkD "lay" "Plane.lay" s_Plane_lay ["self", "row", "want", "weight"] 1 4 1 := fun _ _ _ _ _ _ _ us its h1 h2 => match us, its, h1, h2 with | [_, _, _, _], [_], _, _ => ⟨_, rfl, rfl⟩
def layOf (st : Pl) (p : Pt) : Pl := (⟨st.1.span, st.1.kept ++ [(st.1.fresh, p)], st.1.fresh + 1⟩, st.2 ++ [st.1])
def spLay (K : PySem.W.Frag) (C : Addr) : Sp := fun vs H Q _ => ∃ (a : Addr) (x y z : V) (st : Pl) (F : List Addr) (p : Pt), vs = [.ref a, x, y, z] ∧ PlaneAt K C H a st F ∧ st.1.kept.length ≤ 100 ∧ st.2.length ≤ 100 ∧ (∀ q, q ∈ st.1.kept → q.1 ≠ st.1.fresh) ∧
  Dp K (less F H) x (encR p.row) ∧ Dp K H y (encQ p.want) ∧ Dp K H z (encQ p.wt) ∧ p.row.length = st.1.span ∧ st.1.span ≤ 12 ∧ 0 < p.wt ∧
  ∀ H' F', Fr F H F' H' → PlaneAt K C H' a (layOf st p) F' → Q (.int (st.1.fresh : Nat)) H'
section
variable {P : Program} {w : World} {K : PySem.W.Frag} {mg : Str → Option Value} {base : Heap} {aN aO C : Addr}
theorem k_lay (T : Txt K mg aN aO) (c : PlaneC K C) (F : MethAtD K C "lay" "Plane.lay" s_Plane_lay [.non]) (c_is_row : C8.Cal P w K mg base 3 "is_row" (spIsRow K) []) (c_is_ratio : C8.Cal P w K mg base 2 "is_ratio" (spIsRatio K) [])
    (c_Plane_noted : C8.Met P w K mg base 1 C "noted" (spNoted K C) []) : C8.Met P w K mg base 4 C "lay" (spLay K C) [] := by
  refine metD_of (n := 4) (j := 1) c.cls F sc_Plane_lay (fun e => nomatch e) rfl b_lay (fun vs H Q E h => ?_) (fun f cdv A outer s H vs Q E hr h => ?_)
  · obtain ⟨a, x, y, z, st, F, p, rfl, _⟩ := h
    rfl
  · obtain ⟨a, x, y, z, st, F, p, rfl, hp, hn, ht, hfr, hx, hy, hz, hlen, hspan, hwt, hQ⟩ := h
    have hp0 := hp
    obtain ⟨dx, d, t, ts, ds, eF, nd, h0, ⟨kvs, h1, h1'⟩, h2, h3⟩ := hp
    have c0 := c.cls
    have na := c.na
    have hxH := dp_same (less_sub F H) hx
    obtain ⟨y0, rfl, hyt⟩ := dp_q hy
    obtain ⟨z0, rfl, hzt⟩ := dp_q hz
    refine ⟨_, (pss_cons (ps_if (pt_cmpR op_isN (pv 3) pe_non (nomark _)) (pss_one (ps_set (i := 3) sc_Plane_lay.nd rfl (Or.inl rfl) (C8.pe_gc rfl T.ONE)))
    pss_nil)
    (pss_cons (ps_if (PW.pt (pw_or (pt_not (pt_val (C8.pe_c c_is_row hr (by decide) rfl (pa_cons (pv 1) (pa_cons (pe_fld (pv 0) rfl) pa_nil))))) (pw_or (pt_not (pt_val (C8.pe_c c_is_ratio hr (by decide) rfl (pa_cons (pv 2) pa_nil)))) (pw_or (pt_not (pt_val (C8.pe_c c_is_ratio hr (by decide) rfl (pa_cons (pv 3) pa_nil)))) (pw_or1 (pt_cmpR op_le (pe_ix ix_tup (pv 3) pe_int (fun _ _ => rfl)) pe_int (nomark _))))))) (pss_one ps_never)
    pss_nil)
    (pss_cons (ps_expr (C8.pe_mt0 c_Plane_noted hr (by decide) (pv 0)))
    (pss_cons (ps_dput (hu_of hr) (pe_fld (pv 0) rfl) (pe_fld (pv 0) rfl) (pe_tup (pa_cons (pe_callTy call_tuple_of rfl T.tuple (by decide +kernel) (pa_cons (pv 1) pa_nil)) (pa_cons (pv 2) (pa_cons (pv 3) pa_nil)))) rfl)
    (pss_cons (ps_fldaug (pv 0) pe_int in_add)
    (pss_one (ps_ret (pe_op op_sub (pe_fld (pv 0) rfl) pe_int)))))))), ?_⟩
    refine ⟨_, rfl, rfl, false, rfl, iteF ?_⟩
    refine ⟨_, rfl, _, rfl, a, C, dx, _, _, rfl, h0, c0, na _ (by decide), rfl, x, p.row, by rw [hlen]; rfl, hxH, by omega, fun H1 n1 => ⟨true, rfl, iteF ?_⟩⟩
    refine ⟨_, rfl, _, _, _, rfl, ⟨y0, rfl, n1.tup hyt⟩, true, by rw [isRatio_of], iteF ?_⟩
    refine ⟨_, rfl, _, _, _, rfl, ⟨z0, rfl, n1.tup hzt⟩, true, by rw [isRatio_of], iteF ?_⟩
    refine ⟨_, rfl, z0, _, _, _, rfl, rfl, n1.tup hzt, rfl, _, _, rfl, rfl, false, congrArg V.bl (decide_eq_false (by have := num_pos hwt; omega)), iteF ?_⟩
    have hp1 := hp0.same n1
    refine ⟨_, rfl, a, dx, _, rfl, n1 _ _ h0, rfl, a, st, F, rfl, hp1, hn, ht, fun H2 F2 f2 hp2 => ?_⟩
    have f02 := (Fr.of (F := F) n1).trans f2
    have hp2' := hp2
    obtain ⟨dx2, d2, t2, ts2, ds2, rfl, nd2, g0, ⟨kvs2, g1, g1'⟩, g2, g3⟩ := hp2
    obtain ⟨e1, e2, e3, e4, e5⟩ := nd4 nd2
    have hx2 := dp_same (f02.s.trans (less_sub _ _)) hx
    obtain ⟨xa, xs, rfl, hxs, hxd⟩ := dp_list hx2
    have kl : kvs2.length = st.1.kept.length := g1'.length
    refine ⟨_, rfl, xa, xs, rfl, .inl ⟨hxs, fun rt hrt => ?_⟩⟩
    have n3 : Same H2 (upd H2 rt (.tup xs)) := same_new hrt
    refine ⟨_, rfl, _, rfl, by show 3 ≤ sizeLine; decide, fun tt htt => ?_⟩
    generalize q4 : upd (upd H2 rt (.tup xs)) tt (.tup [V.ref rt, .ref y0, .ref z0]) = H4
    have n4 : Same H2 H4 := by rw [← q4]; exact n3.trans (same_new htt)
    have hrt4 : H4 rt = some (.tup xs) := by
      rw [← q4]
      exact same_new htt _ _ upd_same
    have htt4 : H4 tt = some (.tup [V.ref rt, .ref y0, .ref z0]) := by rw [← q4]; exact upd_same
    have hd4 := n4 _ _ g1
    refine ⟨_, rfl, a, C, dx2, _, _, rfl, n4 _ _ g0, c0, na _ (by decide), rfl, _, rfl, a, C, dx2, _, _, rfl, n4 _ _ g0, c0, na _ (by decide), rfl, d2, _, rfl, DPut.k (k := nk st.1.fresh) hd4 (len_small (by omega)), ?_⟩
    rw [putK_new _ (g1'.no hfr)]
    have hm : d2 ∈ a :: d2 :: t2 :: ds2 := by simp
    have f4 := (f02.trans (Fr.of n4)).trans (Fr.put (a := d2) (o := .dK (kvs2 ++ [(nk st.1.fresh, .ref tt)])) hm (by rw [hd4]; rfl))
    have tq : Same (tp H4) (tp (upd H4 d2 (.dK (kvs2 ++ [(nk st.1.fresh, .ref tt)])))) := tp_put (by rw [hd4]; rfl)
    have t04 := f02.t.trans (tp_grow n4)
    have hpk : Dp K (tp H4) (.ref tt) (encPk p) := .tup (tp_tup (SqT.of htt4)) (.cons (.tup (tp_tup (SqT.of hrt4)) (tp_qs (dps_same n4 hxd))) (.cons (q_dp (t04.tup (tp_tup hyt))) (.cons (q_dp (t04.tup (tp_tup hzt))) .nil)))
    refine ⟨_, rfl, a, C, dx2, _, _, rfl, by rw [upd_ne e1]; exact n4 _ _ g0, c0, na _ (by decide), rfl, _, _, rfl, rfl, dx2, _, by rw [upd_ne e1]; exact n4 _ _ g0, by show 4 < 1000; decide, ?_⟩
    refine ⟨_, rfl, a, C, dx2, _, _, rfl, upd_same, c0, na _ (by decide), rfl, _, _, rfl, rfl, ?_⟩
    have f5 := f4.trans (Fr.put (a := a) (o := .ins C dx2 [("span", .int (st.1.span : Nat)), ("kept", .ref d2), ("fresh", .int ((st.1.fresh : Nat) + 1)), ("trail", .ref t2)]) (by simp) (by rw [upd_ne e1, n4 _ _ g0]; rfl))
    have tq2 : Same (tp H4) (tp (upd (upd H4 d2 (.dK (kvs2 ++ [(nk st.1.fresh, .ref tt)]))) a (.ins C dx2 [("span", .int (st.1.span : Nat)), ("kept", .ref d2), ("fresh", .int ((st.1.fresh : Nat) + 1)), ("trail", .ref t2)]))) := tq.trans (tp_put (by rw [upd_ne e1, n4 _ _ g0]; rfl))
    have tq3 := (tp_grow n4).trans tq2
    have eI : ((st.1.fresh : Nat) : Int) + 1 - 1 = ((st.1.fresh : Nat) : Int) := by omega
    show Q (.int (((st.1.fresh : Nat) : Int) + 1 - 1)) _
    rw [eI]
    refine hQ _ _ f5 ⟨dx2, d2, t2, ts2, ds2, rfl, nd2, upd_same, ⟨_, by rw [upd_ne e1.symm]; exact upd_same, (KvAll.same tq3 g1').app (.cons (dp_same tq2 hpk) .nil)⟩, by rw [upd_ne e2.symm, upd_ne e3.symm]; exact n4 _ _ g2, g3.move tq3 fun b hb => ?_⟩
    obtain ⟨kv, ek⟩ := g3.there b hb
    rw [upd_ne (e4 b hb).1, upd_ne (e4 b hb).2.1, ek]
    exact n4 _ _ ek
end
end Np
end
section
set_option linter.all false
set_option maxRecDepth 100000
set_option maxHeartbeats 4000000
/-! Planes: narrow, widen. -/
namespace Np
open PySem PySem.Spec PyProof.Rows L2
def mixK (f : Nat → Pt → Pt) (ks : Kept) (i : Nat) : Kept := ks.mapIdx fun j q => (q.1, if j < i then f j q.2 else q.2)
theorem mixK_get (f : Nat → Pt → Pt) (ks : Kept) (i j : Nat) : (mixK f ks i)[j]? = ks[j]?.map fun q => (q.1, if j < i then f j q.2 else q.2) := List.getElem?_mapIdx
theorem mixK_len (f : Nat → Pt → Pt) (ks : Kept) (i : Nat) : (mixK f ks i).length = ks.length := List.length_mapIdx
theorem mixK_zero (f : Nat → Pt → Pt) (ks : Kept) : mixK f ks 0 = ks := by
  refine List.ext_getElem? fun j => ?_
  rw [mixK_get]
  cases ks[j]? with
  | none => rfl
  | some q =>
    show some (q.1, if j < 0 then f j q.2 else q.2) = some q
    rw [if_neg (Nat.not_lt_zero j)]
theorem mixK_set {f : Nat → Pt → Pt} {ks : Kept} {i n : Nat} {p : Pt} (h : ks[i]? = some (n, p)) : (mixK f ks i).set i (n, f i p) = mixK f ks (i + 1) := by
  refine List.ext_getElem? fun j => ?_
  rw [List.getElem?_set, mixK_len, mixK_get, mixK_get]
  have hi := (List.getElem?_eq_some_iff.mp h).1
  by_cases e : i = j
  · subst e
    rw [if_pos rfl, if_pos hi, h]
    show some _ = some (n, if i < i + 1 then f i p else p)
    rw [if_pos (Nat.lt_succ_self i)]
  · rw [if_neg e]
    congr 1
    funext q
    by_cases h1 : j < i
    · rw [if_pos h1, if_pos (Nat.lt_succ_of_lt h1)]
    · rw [if_neg h1, if_neg (by omega)]
theorem mixK_keys (f : Nat → Pt → Pt) (ks : Kept) (i : Nat) : (mixK f ks i).map (·.1) = ks.map (·.1) := by
  refine List.ext_getElem? fun j => ?_
  rw [List.getElem?_map, List.getElem?_map, mixK_get]
  cases ks[j]? <;> rfl
theorem map_set {k : Key} {v : V} : ∀ {kvs : List (Key × V)} {i : Nat} {u : V}, kvs[i]? = some (k, u) → (kvs.map (·.1)).Nodup → kvs.map (fun kv => if kv.1 = k then (kv.1, v) else kv) = kvs.set i (k, v)
  | [], _, _, h, _ => by cases h
  | kv :: r, 0, u, h, hn => by
    cases Option.some.inj h
    have hn' := List.nodup_cons.mp hn
    have e : r.map (fun kv => if kv.1 = k then (kv.1, v) else kv) = r := by
      have : ∀ x, x ∈ r → (if x.1 = k then (x.1, v) else x) = x := fun x hx => by
        rw [if_neg fun q => hn'.1 (by
          show k ∈ _
          rw [← q]
          exact List.mem_map.mpr ⟨x, hx, rfl⟩)]
      rw [List.map_congr_left this, List.map_id']
    rw [List.map_cons, e]
    show (if k = k then (k, v) else (k, u)) :: r = _
    rw [if_pos rfl]
    rfl
  | kv :: r, i + 1, u, h, hn => by
    have hn' := List.nodup_cons.mp hn
    have hne : ¬ kv.1 = k := fun q => hn'.1 (by
      show kv.1 ∈ _
      rw [q]
      exact List.mem_map.mpr ⟨(k, u), List.mem_of_getElem? (show r[i]? = some (k, u) from h), rfl⟩)
    rw [List.map_cons, if_neg hne, map_set (i := i) h hn'.2]
    rfl
theorem putK_set {kvs : List (Key × V)} {k : Key} {v u : V} {i : Nat} (h : kvs[i]? = some (k, u)) (hn : (kvs.map (·.1)).Nodup) : putK kvs k v = kvs.set i (k, v) := by
  unfold putK
  rw [if_pos (List.any_eq_true.mpr ⟨(k, u), List.mem_of_getElem? h, decide_eq_true rfl⟩)]
  exact map_set h hn
theorem KvAll.set {K : PySem.W.Frag} {T : Hp} {p' : Pt} {v' : V} (hv : Dp K T v' (encPk p')) : ∀ {kvs : List (Key × V)} {ks : Kept} {i n : Nat} {p : Pt}, KvAll K T kvs ks → ks[i]? = some (n, p) → KvAll K T (kvs.set i (nk n, v')) (ks.set i (n, p'))
  | _, _, _, _, _, .nil, e => by cases e
  | _, _, 0, _, _, .cons _ r, e => by
    cases Option.some.inj e
    exact .cons hv r
  | _, _, i + 1, _, _, .cons h r, e => .cons h (r.set hv e)
theorem KvAll.nodup {K : PySem.W.Frag} {T : Hp} {kvs : List (Key × V)} {ks : Kept} (h : KvAll K T kvs ks) (a : KeysApart ks) : (kvs.map (·.1)).Nodup := by
  rw [h.keys]
  have e : (ks.map fun p => nk p.1) = (ks.map (·.1)).map nk := by rw [List.map_map]; rfl
  rw [e]
  have : ∀ (l : List Nat), l.Nodup → (l.map nk).Nodup := by
    intro l
    induction l with
    | nil => exact fun _ => List.nodup_nil
    | cons x l ih =>
      intro hl
      obtain ⟨h1, h2⟩ := List.nodup_cons.mp hl
      refine List.nodup_cons.mpr ⟨fun hm => ?_, ih h2⟩
      obtain ⟨y, hy, ey⟩ := List.mem_map.mp hm
      rw [nk_inj ey] at hy
      exact h1 hy
  exact this _ a
def narP (p : Pt) : Pt := ⟨p.row.take (p.row.length - 1), p.want, p.wt⟩
def narOf (st : Pl) : Pl := (⟨st.1.span - 1, mixK (fun _ => narP) st.1.kept st.1.kept.length, st.1.fresh⟩, st.2 ++ [st.1])
def widP (c : Row) (i : Nat) (p : Pt) : Pt := ⟨p.row ++ [c.getD i 0], p.want, p.wt⟩
def widOf (st : Pl) (c : Row) : Pl := (⟨st.1.span + 1, mixK (widP c) st.1.kept st.1.kept.length, st.1.fresh⟩, st.2 ++ [st.1])
def spNarrow (K : PySem.W.Frag) (C : Addr) : Sp := fun vs H Q _ => ∃ (a : Addr) (st : Pl) (F : List Addr), vs = [.ref a] ∧ PlaneAt K C H a st F ∧ st.1.kept.length ≤ 100 ∧ st.2.length ≤ 100 ∧ KeysApart st.1.kept ∧ (∀ q, q ∈ st.1.kept → q.2.row.length = st.1.span) ∧ 0 < st.1.span ∧ st.1.span ≤ 12 ∧
  ∀ H' F', Fr F H F' H' → PlaneAt K C H' a (narOf st) F' → Q .non H'
def spWiden (K : PySem.W.Frag) (C : Addr) : Sp := fun vs H Q _ => ∃ (a : Addr) (x : V) (st : Pl) (F : List Addr) (c : Row), vs = [.ref a, x] ∧ PlaneAt K C H a st F ∧ st.1.kept.length ≤ 100 ∧ st.2.length ≤ 100 ∧ KeysApart st.1.kept ∧ (∀ q, q ∈ st.1.kept → q.2.row.length = st.1.span) ∧ 0 < st.1.span ∧ st.1.span < 12 ∧
  Dp K (less F H) x (encR c) ∧ c.length = st.1.kept.length ∧ ∀ H' F', Fr F H F' H' → PlaneAt K C H' a (widOf st c) F' → Q .non H'
theorem cut_last (xs : List V) (h : xs ≠ []) : cutV xs none (some (-1)) = xs.take (xs.length - 1) ∧ ¬ (HT.sIx xs.length 0 none = 0 ∧ HT.sIx xs.length xs.length (some (-1)) = xs.length) := by
  have hl : 0 < xs.length := List.length_pos_iff.mpr h
  have e : HT.sIx xs.length xs.length (some (-1)) = xs.length - 1 := by
    unfold HT.sIx
    simp only [show (-1 : Int) < 0 by decide, if_true]
    omega
  refine ⟨?_, fun z => ?_⟩
  · unfold cutV
    rw [e, HT.sIx_none, List.drop_zero, Nat.sub_zero]
  · rw [e] at z
    omega
section
variable {P : Program} {w : World} {K : PySem.W.Frag} {mg : Str → Option Value} {base : Heap} {aN aO C : Addr}
theorem k_narrow (T : Txt K mg aN aO) (c : PlaneC K C) (F : MethAt K C "narrow" "Plane.narrow" s_Plane_narrow) (c_Plane_noted : C8.Met P w K mg base 1 C "noted" (spNoted K C) []) : C8.Met P w K mg base 2 C "narrow" (spNarrow K C) [] := by
  refine met_of c.cls F sc_Plane_narrow b_Plane_narrow (fun vs H Q E h => ?_) (fun f cdv A outer s H vs Q E hr h => ?_)
  · obtain ⟨a, st, F, rfl, _⟩ := h
    rfl
  · obtain ⟨a, st, F, rfl, hp, hn, ht, hka, hrows, hsp0, hsp, hQ⟩ := h
    have hp0 := hp
    obtain ⟨dx, d, t, ts, ds, eF, nd, h0, ⟨kvs, h1, h1'⟩, h2, h3⟩ := hp
    have c0 := c.cls
    have na := c.na
    refine ⟨_, (pss_cons (ps_if (pt_cmpR op_eq (pe_fld (pv 0) rfl) pe_int (nomark _)) (pss_one ps_never)
    pss_nil)
    (pss_cons (ps_expr (C8.pe_mt0 c_Plane_noted hr (by decide) (pv 0)))
    (pss_cons (ps_fldaug (pv 0) pe_int in_sub)
    (pss_one (ps_for PassesOwn.never rfl (pi_list (pe_callTy (call_listD rfl) rfl T.list (by decide +kernel) (pa_cons (pe_fld (pv 0) rfl) pa_nil))) (pg_name (i := 1) sc_Plane_narrow.nd rfl (Or.inl rfl))
    (pss_cons (ps_asg (pe_dget (hu_of hr) (pe_fld (pv 0) rfl) (pv 1) (fun _ _ => rfl)) (pg_tup rfl (pgs_cons (pg_name (i := 2) sc_Plane_narrow.nd rfl (Or.inl rfl)) (pgs_cons (pg_name (i := 3) sc_Plane_narrow.nd rfl (Or.inl rfl)) (pgs_cons (pg_name (i := 4) sc_Plane_narrow.nd rfl (Or.inl rfl)) pgs_nil)))))
    (pss_one (ps_dput (hu_of hr) (pe_fld (pv 0) rfl) (pv 1) (pe_tup (pa_cons (pe_slice sl_tupA (pv 2) po_none (po_some (pe_un un_neg pe_int))) (pa_cons (pv 3) (pa_cons (pv 4) pa_nil)))) rfl)))))))), ?_⟩
    refine ⟨_, rfl, a, C, dx, _, _, rfl, h0, c0, na _ (by decide), rfl, rfl, _, rfl, ?_⟩
    rw [show decide (V.int (st.1.span : Nat) = V.int 0) = false from decide_eq_false fun e => by
      have := V.int.inj e
      omega]
    refine iteF ?_
    refine ⟨_, rfl, a, dx, _, rfl, h0, rfl, a, st, F, rfl, hp0, hn, ht, fun H2 F2 f2 hp2 => ?_⟩
    obtain ⟨dx2, d2, t2, ts2, ds2, rfl, nd2, g0, ⟨kvs2, g1, g1'⟩, g2, g3⟩ := hp2
    obtain ⟨e1, e2, e3, e4, e5⟩ := nd4 nd2
    have g1k : KvAll K (tp H2) kvs2 st.1.kept := g1'
    have kl := g1k.length
    have eS : ((st.1.span : Nat) : Int) - 1 = ((st.1.span - 1 : Nat) : Int) := by omega
    refine ⟨_, rfl, a, C, dx2, _, _, rfl, g0, c0, na _ (by decide), rfl, _, _, rfl, rfl, dx2, _, g0, by show 4 < 1000; decide, ?_⟩
    refine stay fun H3 q3 => ?_
    have x3 : H3 a = some (.ins C dx2 [("span", .int (st.1.span - 1 : Nat)), ("kept", .ref d2), ("fresh", .int (st.1.fresh : Nat)), ("trail", .ref t2)]) := by
      rw [q3, ← eS]
      exact upd_same
    have o3 : ∀ b, b ≠ a → H3 b = H2 b := fun b hb => by rw [q3, upd_ne hb]
    have f3 : Fr (a :: d2 :: t2 :: ds2) H2 (a :: d2 :: t2 :: ds2) H3 := by
      rw [q3]
      exact Fr.put (by simp) (by rw [g0]; rfl)
    have d3 : H3 d2 = some (.dK kvs2) := by rw [o3 d2 e1.symm]; exact g1
    refine ⟨_, rfl, a, C, dx2, _, _, rfl, x3, c0, na _ (by decide), rfl, d2, kvs2, rfl, .inl d3, fun l hl => ?_⟩
    have l3 : H3 l = Option.none := hl
    have nF : ¬ l ∈ a :: d2 :: t2 :: ds2 := fun hm => by
      rcases List.mem_cons.mp hm with e | hm
      · rw [e, x3] at l3; cases l3
      rcases List.mem_cons.mp hm with e | hm
      · rw [e, d3] at l3; cases l3
      rcases List.mem_cons.mp hm with e | hm
      · rw [e, o3 t2 e2.symm, g2] at l3; cases l3
      · obtain ⟨kv, ek⟩ := g3.there _ hm
        rw [o3 l (e4 l hm).1, ek] at l3
        cases l3
    generalize q4 : upd H3 l (.lst (kvs2.map fun kv => kV kv.1)) = H4
    have n4 : Same H3 H4 := by rw [← q4]; exact same_new hl
    have l4 : H4 l = some (.lst (kvs2.map fun kv => kV kv.1)) := by rw [← q4]; exact upd_same
    have f4 := f3.trans (Fr.of n4)
    refine ⟨l, rfl, ⟨_, SqL.of l4⟩, for_list (K := K) (a := l) (xs := kvs2.map fun kv => kV kv.1) (fun i σ H' => Fr (a :: d2 :: t2 :: ds2) H4 (a :: d2 :: t2 :: ds2) H' ∧ (∀ b, b ≠ d2 → ∀ o, H4 b = some o → H' b = some o) ∧ ∃ kv a1 a2 a3 a4, σ = [some (V.ref a), a1, a2, a3, a4] ∧ H' d2 = some (.dK kv) ∧ KvAll K (tp H') kv (mixK (fun _ => narP) st.1.kept i))
      ⟨Fr.of fun _ _ e => e, fun _ _ _ e => e, kvs2, Option.none, Option.none, Option.none, Option.none, rfl, n4 _ _ d3, by rw [mixK_zero]; exact g1k.same f4.t⟩ (fun i σ H' _ hP => SqL.of (hP.2.1 l (fun e => nF (by rw [e]; simp)) _ l4)) (fun i v σ H' hv hP => ?_) (fun σ H' hP => ?_)⟩
    · obtain ⟨fr, ok, kv, a1, a2, a3, a4, rfl, hd, hk⟩ := hP
      rw [List.getElem?_map] at hv
      obtain ⟨⟨k0, u0⟩, ek0, ev⟩ := Option.map_eq_some_iff.mp hv
      obtain ⟨n, p, ep, rfl, _⟩ := g1k.get' ek0
      subst ev
      have pm := List.mem_of_getElem? ep
      have hrl := hrows _ pm
      have em : (mixK (fun _ => narP) st.1.kept i)[i]? = some (n, p) := by
        rw [mixK_get, ep]
        show some (n, if i < i then narP p else p) = _
        rw [if_neg (Nat.lt_irrefl i)]
      obtain ⟨v, ev, hv2⟩ := hk.get em
      have hka2 : KeysApart (mixK (fun _ => narP) st.1.kept i) := by
        unfold KeysApart
        rw [mixK_keys]
        exact hka
      have hl2 := hk.look hka2 em ev
      obtain ⟨pa, w1, w2, w3, rfl, hpa, hw1, hw2, hw3⟩ := dp_pk hv2
      obtain ⟨ra, xs, rfl, hra, hxs⟩ := dp_tup hw1
      have hxl := hxs.length
      rw [encs_len] at hxl
      have xne : xs ≠ [] := fun e => by
        rw [e] at hxl
        have : (0 : Nat) = p.row.length := hxl
        have hrl : p.row.length = st.1.span := hrl
        omega
      obtain ⟨cl1, cl2⟩ := cut_last xs xne
      have xa := ok a e1 _ (n4 _ _ x3)
      refine ⟨_, rfl, a, C, dx2, _, _, rfl, xa, c0, na _ (by decide), rfl, _, rfl, d2, _, rfl, by
        have := DGet.k (k := nk n) hd
        rw [hl2] at this
        exact this, pa, _, rfl, (tp_sub _).tup hpa, rfl, _, _, rfl, _, _, rfl, _, _, rfl, rfl, ?_⟩
      refine ⟨_, rfl, 1, rfl, -1, rfl, ra, xs, rfl, (tp_sub _).tup hra, fun z => absurd z cl2, fun _ nt hnt => ?_⟩
      rw [cl1]
      have n5 : Same H' (upd H' nt (.tup (xs.take (xs.length - 1)))) := same_new hnt
      refine ⟨_, rfl, _, rfl, by show 3 ≤ sizeLine; decide, fun tt htt => ?_⟩
      generalize q6 : upd (upd H' nt (.tup (xs.take (xs.length - 1)))) tt (.tup [V.ref nt, w2, w3]) = H6
      have n6 : Same H' H6 := by rw [← q6]; exact n5.trans (same_new htt)
      have hnt6 : H6 nt = some (.tup (xs.take (xs.length - 1))) := by
        rw [← q6]
        exact same_new htt _ _ upd_same
      have htt6 : H6 tt = some (.tup [V.ref nt, w2, w3]) := by rw [← q6]; exact upd_same
      have hd6 := n6 _ _ hd
      have kl6 := hk.length
      rw [mixK_len] at kl6
      refine ⟨_, rfl, a, C, dx2, _, _, rfl, n6 _ _ xa, c0, na _ (by decide), rfl, _, rfl, d2, _, rfl, DPut.k (k := nk n) hd6 (len_small (by omega)), ?_⟩
      rw [putK_set ev (hk.nodup hka2)]
      have t6 := tp_grow n6
      have hm : d2 ∈ a :: d2 :: t2 :: ds2 := by simp
      have t7 : Same (tp H6) (tp (upd H6 d2 (.dK (kv.set i (nk n, .ref tt))))) := tp_put (by rw [hd6]; rfl)
      have hpk : Dp K (tp H6) (.ref tt) (encPk (narP p)) := by
        refine .tup (tp_tup (SqT.of htt6)) (.cons (.tup (tp_tup (SqT.of hnt6)) ?_) (.cons (dp_same t6 hw2) (.cons (dp_same t6 hw3) .nil)))
        have := tp_qs (r := p.row.take (p.row.length - 1)) (H := H6) (K := K) (xs := xs.take (xs.length - 1)) (by
          unfold encs
          rw [List.map_take, ← hxl]
          exact (dps_same ((tp_sub _).trans n6) hxs).take _)
        exact this
      refine ⟨fr.trans ((Fr.of n6).trans (Fr.put hm (by rw [hd6]; rfl))), fun b hb o eo => by rw [upd_ne hb]; exact n6 _ _ (ok b hb o eo), _, _, _, _, _, rfl, upd_same, ?_⟩
      rw [← mixK_set ep]
      exact (hk.same (t6.trans t7)).set (dp_same t7 hpk) em
    · obtain ⟨fr, ok, kv, a1, a2, a3, a4, rfl, hd, hk⟩ := hP
      rw [List.length_map, kl] at hk
      refine hQ _ _ (f2.trans (f4.trans fr)) ⟨dx2, d2, t2, ts2, ds2, rfl, nd2, ok a e1 _ (n4 _ _ x3), ⟨kv, hd, hk⟩, ok t2 e3.symm _ (n4 _ _ (by rw [o3 t2 e2.symm]; exact g2)), g3.move (f4.trans fr).t fun b hb => ?_⟩
      obtain ⟨kv', ek⟩ := g3.there b hb
      rw [ek]
      exact ok b (e4 b hb).2.1 _ (n4 _ _ (by rw [o3 b (e4 b hb).1]; exact ek))
end
end Np
end
section
set_option linter.all false
set_option maxRecDepth 100000
set_option maxHeartbeats 4000000
/-! Planes: widen. -/
namespace Np
open PySem PySem.Spec PyProof.Rows L2
section
variable {P : Program} {w : World} {K : PySem.W.Frag} {mg : Str → Option Value} {base : Heap} {aN aO C : Addr}
theorem k_widen (T : Txt K mg aN aO) (c : PlaneC K C) (F : MethAt K C "widen" "Plane.widen" s_Plane_widen) (c_is_row : C8.Cal P w K mg base 3 "is_row" (spIsRow K) []) (c_Plane_noted : C8.Met P w K mg base 1 C "noted" (spNoted K C) []) : C8.Met P w K mg base 4 C "widen" (spWiden K C) [] := by
  refine met_of c.cls F sc_Plane_widen b_Plane_widen (fun vs H Q E h => ?_) (fun f cdv A outer s H vs Q E hr h => ?_)
  · obtain ⟨a, x, st, F, cl, rfl, _⟩ := h
    rfl
  · obtain ⟨a, x, st, F, cl, rfl, hp, hn, ht, hka, hrows, hsp0, hsp, hx, hcl, hQ⟩ := h
    have hp0 := hp
    obtain ⟨dx, d, t, ts, ds, eF, nd, h0, ⟨kvs, h1, h1'⟩, h2, h3⟩ := hp
    have c0 := c.cls
    have na := c.na
    have kl0 : kvs.length = st.1.kept.length := h1'.length
    have hxH := dp_same (less_sub F H) hx
    obtain ⟨xb, xys, rfl, _, _⟩ := dp_list hx
    refine ⟨_, (pss_cons (ps_if (PW.pt (pw_or (pt_cmpR op_eq (pe_fld (pv 0) rfl) (C8.pe_gc rfl T.MOST_WIDE_planes) (nomark _)) (pw_or1 (pt_not (pt_val (C8.pe_c c_is_row hr (by decide) rfl (pa_cons (pv 1) (pa_cons (pe_callB call_lenD rfl T.len (by decide +kernel) (pa_cons (pe_fld (pv 0) rfl) pa_nil)) pa_nil)))))))) (pss_one ps_never)
    pss_nil)
    (pss_cons (ps_expr (C8.pe_mt0 c_Plane_noted hr (by decide) (pv 0)))
    (pss_cons (ps_fldaug (pv 0) pe_int in_add)
    (pss_one (ps_for PassesOwn.never rfl (pi_zip rfl T.zip (pa_cons (pe_callTy (call_listD rfl) rfl T.list (by decide +kernel) (pa_cons (pe_fld (pv 0) rfl) pa_nil)) (pa_cons (pv 1) pa_nil))) (pg_tup rfl (pgs_cons (pg_name (i := 2) sc_Plane_widen.nd rfl (Or.inl rfl)) (pgs_cons (pg_name (i := 3) sc_Plane_widen.nd rfl (Or.inl rfl)) pgs_nil)))
    (pss_cons (ps_asg (pe_dget (hu_of hr) (pe_fld (pv 0) rfl) (pv 2) (fun _ _ => rfl)) (pg_tup rfl (pgs_cons (pg_name (i := 4) sc_Plane_widen.nd rfl (Or.inl rfl)) (pgs_cons (pg_name (i := 5) sc_Plane_widen.nd rfl (Or.inl rfl)) (pgs_cons (pg_name (i := 6) sc_Plane_widen.nd rfl (Or.inl rfl)) pgs_nil)))))
    (pss_one (ps_dput (hu_of hr) (pe_fld (pv 0) rfl) (pv 2) (pe_tup (pa_cons (pe_op op_catA (pv 4) (pe_tup (pa_cons (pv 3) pa_nil))) (pa_cons (pv 5) (pa_cons (pv 6) pa_nil)))) rfl)))))))), ?_⟩
    refine ⟨_, rfl, a, C, dx, _, _, rfl, h0, c0, na _ (by decide), rfl, rfl, _, rfl, ?_⟩
    rw [show decide (V.int (st.1.span : Nat) = V.int 12) = false from decide_eq_false fun e => by
      have := V.int.inj e
      omega]
    refine iteF ?_
    refine ⟨_, rfl, _, rfl, a, C, dx, _, _, rfl, h0, c0, na _ (by decide), rfl, d, kvs, rfl, h1, _, cl, by rw [hcl, ← kl0]; rfl, hxH, by omega, fun H1 n1 => ⟨true, rfl, iteF ?_⟩⟩
    refine ⟨_, rfl, a, dx, _, rfl, n1 _ _ h0, rfl, a, st, F, rfl, hp0.same n1, hn, ht, fun H2 F2 f2' hp2 => ?_⟩
    have f2 := (Fr.of (F := F) n1).trans f2'
    have hx2 := dp_same f2.s hx
    obtain ⟨dx2, d2, t2, ts2, ds2, rfl, nd2, g0, ⟨kvs2, g1, g1'⟩, g2, g3⟩ := hp2
    obtain ⟨e1, e2, e3, e4, e5⟩ := nd4 nd2
    have g1k : KvAll K (tp H2) kvs2 st.1.kept := g1'
    have kl := g1k.length
    have eS : ((st.1.span : Nat) : Int) + 1 = ((st.1.span + 1 : Nat) : Int) := by omega
    refine ⟨_, rfl, a, C, dx2, _, _, rfl, g0, c0, na _ (by decide), rfl, _, _, rfl, rfl, dx2, _, g0, by show 4 < 1000; decide, ?_⟩
    refine stay fun H3 q3 => ?_
    have x3 : H3 a = some (.ins C dx2 [("span", .int (st.1.span + 1 : Nat)), ("kept", .ref d2), ("fresh", .int (st.1.fresh : Nat)), ("trail", .ref t2)]) := by
      rw [q3, ← eS]
      exact upd_same
    have o3 : ∀ b, b ≠ a → H3 b = H2 b := fun b hb => by rw [q3, upd_ne hb]
    have f3 : Fr (a :: d2 :: t2 :: ds2) H2 (a :: d2 :: t2 :: ds2) H3 := by
      rw [q3]
      exact Fr.put (by simp) (by rw [g0]; rfl)
    have d3 : H3 d2 = some (.dK kvs2) := by rw [o3 d2 e1.symm]; exact g1
    refine ⟨_, rfl, a, C, dx2, _, _, rfl, x3, c0, na _ (by decide), rfl, d2, kvs2, rfl, .inl d3, fun l hl => ?_⟩
    have l3 : H3 l = Option.none := hl
    have nF : ¬ l ∈ a :: d2 :: t2 :: ds2 := fun hm => by
      rcases List.mem_cons.mp hm with e | hm
      · rw [e, x3] at l3; cases l3
      rcases List.mem_cons.mp hm with e | hm
      · rw [e, d3] at l3; cases l3
      rcases List.mem_cons.mp hm with e | hm
      · rw [e, o3 t2 e2.symm, g2] at l3; cases l3
      · obtain ⟨kv, ek⟩ := g3.there _ hm
        rw [o3 l (e4 l hm).1, ek] at l3
        cases l3
    generalize q4 : upd H3 l (.lst (kvs2.map fun kv => kV kv.1)) = H4
    have n4 : Same H3 H4 := by rw [← q4]; exact same_new hl
    have l4 : H4 l = some (.lst (kvs2.map fun kv => kV kv.1)) := by rw [← q4]; exact upd_same
    have f4 := f3.trans (Fr.of n4)
    have f24 := (f3.trans (Fr.of n4))
    have cD0 := dp_same (f24.s.trans (less_sub _ _)) hx2
    obtain ⟨xb0, ys0, exb0, hys0, _⟩ := dp_list cD0
    cases exb0
    refine ⟨_, rfl, l, xb, _, ys0, rfl, SqL.of l4, hys0, for_by (n := st.1.kept.length) (fun i σ H' => Fr (a :: d2 :: t2 :: ds2) H4 (a :: d2 :: t2 :: ds2) H' ∧ (∀ b, b ≠ d2 → ∀ o, H4 b = some o → H' b = some o) ∧ ∃ kv a1 a2 a3 a4 a5, σ = [some (V.ref a), some (V.ref xb), a1, a2, a3, a4, a5] ∧ H' d2 = some (.dK kv) ∧ KvAll K (tp H') kv (mixK (widP cl) st.1.kept i))
      ⟨Fr.of fun _ _ e => e, fun _ _ _ e => e, kvs2, Option.none, Option.none, Option.none, Option.none, Option.none, rfl, n4 _ _ d3, by rw [mixK_zero]; exact g1k.same f4.t⟩ (fun i σ H' hi hP => ?_) (fun σ H' hP => ?_)⟩
    · obtain ⟨fr, ok, kv, a1, a2, a3, a4, a5, rfl, hd, hk⟩ := hP
      have hi' : i < kvs2.length := by omega
      obtain ⟨⟨k0, u0⟩, ek0⟩ : ∃ q, kvs2[i]? = some q := ⟨_, List.getElem?_eq_getElem hi'⟩
      obtain ⟨n, p, ep, rfl, _⟩ := g1k.get' ek0
      have ek1 : (kvs2.map fun kv => kV kv.1)[i]? = some (V.int (n : Nat)) := by
        rw [List.getElem?_map, ek0]
        rfl
      obtain ⟨cq, ecq⟩ : ∃ q, cl[i]? = some q := ⟨_, List.getElem?_eq_getElem (by omega)⟩
      have ecd : cl.getD i 0 = cq := by rw [List.getD_eq_getElem?_getD, ecq]; rfl
      have lL : SqL K H' l (kvs2.map fun kv => kV kv.1) := SqL.of (ok l (fun e => nF (by rw [e]; simp)) _ l4)
      have cD := dp_same (f24.s.trans (fr.s.trans (less_sub _ _))) hx2
      obtain ⟨xb', ys, exb, hys, hyd⟩ := dp_list cD
      cases exb
      obtain ⟨th, eth, hth⟩ := lst_in hyd ecq
      refine ⟨⟨_, _, _, _, lL, hys, ek1, eth⟩, fun v H1 hv => ?_⟩
      obtain ⟨t9, y1, y2, rfl, ht9, rfl, hy1, hy2⟩ := hv
      have q1 := hy1 _ lL
      rw [ek1] at q1
      cases Option.some.inj q1
      have q2 := hy2 _ hys
      rw [eth] at q2
      cases Option.some.inj q2
      have n9 : Same H' (upd H' t9 (.tup [V.int (n : Nat), th])) := same_new ht9
      refine ⟨t9, _, rfl, SqT.of upd_same, rfl, _, _, rfl, _, _, rfl, rfl, ?_⟩
      generalize upd H' t9 (.tup [V.int (n : Nat), th]) = H9 at n9 ⊢
      have fr := fr.trans (Fr.of n9)
      have ok : ∀ b, b ≠ d2 → ∀ o, H4 b = some o → H9 b = some o := fun b hb o eo => n9 _ _ (ok b hb o eo)
      have hd := n9 _ _ hd
      have hk := hk.same (tp_grow n9)
      have hth := tp_q (dp_same n9 hth)
      clear lL hys hyd eth hy1 hy2 q1 q2 cD ht9 n9
      have pm := List.mem_of_getElem? ep
      have hrl : p.row.length = st.1.span := hrows _ pm
      have em : (mixK (widP cl) st.1.kept i)[i]? = some (n, p) := by
        rw [mixK_get, ep]
        show some (n, if i < i then widP cl i p else p) = _
        rw [if_neg (Nat.lt_irrefl i)]
      obtain ⟨v, ev, hv2⟩ := hk.get em
      have hka2 : KeysApart (mixK (widP cl) st.1.kept i) := by
        unfold KeysApart
        rw [mixK_keys]
        exact hka
      have hl2 := hk.look hka2 em ev
      obtain ⟨pa, w1, w2, w3, rfl, hpa, hw1, hw2, hw3⟩ := dp_pk hv2
      obtain ⟨ra, xs, rfl, hra, hxs⟩ := dp_tup hw1
      have hxl := hxs.length
      rw [encs_len] at hxl
      have xne : xs ≠ [] := fun e => by
        rw [e] at hxl
        have : (0 : Nat) = p.row.length := hxl
        have hrl : p.row.length = st.1.span := hrl
        omega
      have xa := ok a e1 _ (n4 _ _ x3)
      refine ⟨_, rfl, a, C, dx2, _, _, rfl, xa, c0, na _ (by decide), rfl, _, rfl, d2, _, rfl, by
        have := DGet.k (k := nk n) hd
        rw [hl2] at this
        exact this, pa, _, rfl, (tp_sub _).tup hpa, rfl, _, _, rfl, _, _, rfl, _, _, rfl, rfl, ?_⟩
      refine ⟨_, rfl, _, rfl, by show 1 ≤ sizeLine; decide, fun t1 ht1 => ?_⟩
      have n1 : Same H9 (upd H9 t1 (.tup [th])) := same_new ht1
      refine ⟨ra, t1, xs, _, rfl, rfl, n1.tup ((tp_sub _).tup hra), SqT.of upd_same, Nat.le_of_lt (len_small (by show xs.length + 1 ≤ _; omega)), fun z => absurd z xne, (fun _ z => absurd z (List.cons_ne_nil _ _)), fun _ _ nt hnt => ?_⟩
      have n5 : Same H9 (upd (upd H9 t1 (.tup [th])) nt (.tup (xs ++ [th]))) := n1.trans (same_new hnt)
      refine ⟨_, rfl, _, rfl, by show 3 ≤ sizeLine; decide, fun tt htt => ?_⟩
      generalize q6 : upd (upd (upd H9 t1 (.tup [th])) nt (.tup (xs ++ [th]))) tt (.tup [V.ref nt, w2, w3]) = H6
      have n6 : Same H9 H6 := by rw [← q6]; exact n5.trans (same_new htt)
      have hnt6 : H6 nt = some (.tup (xs ++ [th])) := by
        rw [← q6]
        exact same_new htt _ _ upd_same
      have htt6 : H6 tt = some (.tup [V.ref nt, w2, w3]) := by rw [← q6]; exact upd_same
      have hd6 := n6 _ _ hd
      have kl6 := hk.length
      rw [mixK_len] at kl6
      refine ⟨_, rfl, a, C, dx2, _, _, rfl, n6 _ _ xa, c0, na _ (by decide), rfl, _, rfl, d2, _, rfl, DPut.k (k := nk n) hd6 (len_small (by omega)), ?_⟩
      rw [putK_set ev (hk.nodup hka2)]
      have t6 := tp_grow n6
      have hm : d2 ∈ a :: d2 :: t2 :: ds2 := by simp
      have t7 : Same (tp H6) (tp (upd H6 d2 (.dK (kv.set i (nk n, .ref tt))))) := tp_put (by rw [hd6]; rfl)
      have hpk : Dp K (tp H6) (.ref tt) (encPk (widP cl i p)) := by
        refine .tup (tp_tup (SqT.of htt6)) (.cons (.tup (tp_tup (SqT.of hnt6)) ?_) (.cons (dp_same t6 hw2) (.cons (dp_same t6 hw3) .nil)))
        show DpAll K (tp H6) (xs ++ [th]) (encs (p.row ++ [cl.getD i 0]))
        rw [encs_app, ecd]
        exact DpAll.append (dps_same t6 hxs) (.cons (dp_same t6 hth) .nil)
      refine ⟨fr.trans ((Fr.of n6).trans (Fr.put hm (by rw [hd6]; rfl))), fun b hb o eo => by rw [upd_ne hb]; exact n6 _ _ (ok b hb o eo), _, _, _, _, _, _, rfl, upd_same, ?_⟩
      rw [← mixK_set ep]
      exact (hk.same (t6.trans t7)).set (dp_same t7 hpk) em
    · obtain ⟨fr, ok, kv, a1, a2, a3, a4, a5, rfl, hd, hk⟩ := hP
      have lL : SqL K H' l (kvs2.map fun kv => kV kv.1) := SqL.of (ok l (fun e => nF (by rw [e]; simp)) _ l4)
      have cD := dp_same (f24.s.trans (fr.s.trans (less_sub _ _))) hx2
      obtain ⟨xb', ys, exb, hys, hyd⟩ := dp_list cD
      cases exb
      refine ⟨⟨_, _, lL, hys, .inl (by rw [List.length_map]; omega)⟩, ?_⟩
      refine hQ _ _ (f2.trans (f4.trans fr)) ⟨dx2, d2, t2, ts2, ds2, rfl, nd2, ok a e1 _ (n4 _ _ x3), ⟨kv, hd, hk⟩, ok t2 e3.symm _ (n4 _ _ (by rw [o3 t2 e2.symm]; exact g2)), g3.move (f4.trans fr).t fun b hb => ?_⟩
      obtain ⟨kv', ek⟩ := g3.there b hb
      rw [ek]
      exact ok b (e4 b hb).2.1 _ (n4 _ _ (by rw [o3 b (e4 b hb).1]; exact ek))
end
end Np
end
section
set_option linter.all false
set_option maxRecDepth 100000
set_option maxHeartbeats 4000000
/-! Planes: making, fit, points, what is told. -/
namespace Np
open PySem PySem.Spec PyProof.Rows L2
/-! ### heaps that have the same sequences -/
def isS : HO → Bool
  | .lst _ => true
  | .tup _ => true
  | .frz _ (.lst _) => true
  | .frz _ (.tup _) => true
  | _ => false
def SeqS (H H' : Hp) : Prop := ∀ b o, H b = some o → isS o = true → H' b = some o
theorem _root_.L2.Same.seqS {H H' : Hp} (s : Same H H') : SeqS H H' := fun b o e _ => s b o e
theorem SeqS.trans {H H1 H2 : Hp} (a : SeqS H H1) (b : SeqS H1 H2) : SeqS H H2 := fun c o e n => b c o (a c o e n) n
theorem SeqS.put {H : Hp} {x : Addr} {o u : HO} (h : H x = some u) (n : isS u = false) : SeqS H (upd H x o) := fun b v e hv => by
  rw [upd_ne fun q => by
    subst q
    rw [h] at e
    cases Option.some.inj e
    rw [n] at hv
    cases hv]
  exact e
theorem SeqS.l {K : PySem.W.Frag} {H H' : Hp} (s : SeqS H H') {a : Addr} {xs : List V} (h : SqL K H a xs) : SqL K H' a xs := by
  rcases h with (h | ⟨o, h⟩) | h
  · exact .inl (.inl (s _ _ h rfl))
  · exact .inl (.inr ⟨o, s _ _ h rfl⟩)
  · exact .inr h
theorem SeqS.t {K : PySem.W.Frag} {H H' : Hp} (s : SeqS H H') {a : Addr} {xs : List V} (h : SqT K H a xs) : SqT K H' a xs := by
  rcases h with (h | ⟨o, h⟩) | h
  · exact .inl (.inl (s _ _ h rfl))
  · exact .inl (.inr ⟨o, s _ _ h rfl⟩)
  · exact .inr h
mutual
theorem dp_seqS {K : PySem.W.Frag} {H H' : Hp} (e : SeqS H H') : ∀ {v : V} {d : PyData}, Dp K H v d → Dp K H' v d
  | _, _, .non => .non
  | _, _, .bl b => .bl b
  | _, _, .int i => .int i
  | _, _, .str x => .str x
  | _, _, .lst h a => .lst (e.l h) (dps_seqS e a)
  | _, _, .tup h a => .tup (e.t h) (dps_seqS e a)
theorem dps_seqS {K : PySem.W.Frag} {H H' : Hp} (e : SeqS H H') : ∀ {vs : List V} {ds : List PyData}, DpAll K H vs ds → DpAll K H' vs ds
  | _, _, .nil => .nil
  | _, _, .cons a r => .cons (dp_seqS e a) (dps_seqS e r)
end
theorem lock_same {H H' : Hp} {d : Addr} {u o : HO} (h : H d = some u) (s : Same (upd H d o) H') : Same H (upd H' d u) := fun b v e => by
  by_cases q : b = d
  · subst q
    rw [h] at e
    rw [upd_same]
    exact e
  · rw [upd_ne q]
    refine s _ _ ?_
    rw [upd_ne q]
    exact e
/-- new lists lie outside a frame -/
theorem new_less {H H' : Hp} {F : List Addr} (s : Same H H') (hF : ∀ b, b ∈ F → ∃ o, H b = some o ∧ isT (H b) = false ∧ ∀ ob u, o ≠ .frz ob u) : SeqS (dif H H') (less F H') := fun b o e n => by
  have e' := dif_sub _ _ _ _ e
  by_cases hb : b ∈ F
  · obtain ⟨u, eu, et, ef⟩ := hF b hb
    have := s _ _ eu
    rw [this] at e'
    cases Option.some.inj e'
    cases o with
    | lst xs =>
      rw [dif_lst eu] at e
      cases e
    | tup xs =>
      rw [eu] at et
      cases et
    | frz ob v => exact absurd rfl (ef ob v)
    | _ => cases n
  · rw [less_out hb]
    exact e'
def ptsOf (st : Pl) : List Pt := st.1.kept.map (·.2)
def spPlInit (K : PySem.W.Frag) (C : Addr) : Sp := fun vs H Q _ => ∃ (a dx : Addr) (m : Nat), vs = [.ref a, .int (m : Nat)] ∧ H a = some (.ins C dx []) ∧ m ≤ 12 ∧ ∀ H' F, But a H H' → (∀ b, b ∈ F → b = a ∨ H b = Option.none) → PlaneAt K C H' a (⟨m, [], 0⟩, []) F → Q .non H'
def spPlFit (K : PySem.W.Frag) (C CF : Addr) : Sp := fun vs H Q _ => ∃ (a : Addr) (st : Pl) (F : List Addr), vs = [.ref a] ∧ PlaneAt K C H a st F ∧ Small (ptsOf st) st.1.span ∧ ∀ H' x, Same H H' → FitAt K CF H' x (ptsOf st) st.1.span → Q (.ref x) H'
def spPlG (K : PySem.W.Frag) (C : Addr) (g : List Pt → Nat → PyData) : Sp := fun vs H Q _ => ∃ (a : Addr) (st : Pl) (F : List Addr), vs = [.ref a] ∧ PlaneAt K C H a st F ∧ Small (ptsOf st) st.1.span ∧ GiveF K H Q (g (ptsOf st) st.1.span)
abbrev N_Plane_init__ : List Str := ["self", "wide"]
theorem sc_Plane_init__ : FnScope ["self", "wide"] ["self", "wide"] (defScope s_Plane_init__) := ⟨rfl, rfl, rfl, by decide +kernel, rfl, by decide +kernel, by decide +kernel⟩
theorem b_Plane_init__ : BindOk "__init__" "Plane.__init__" s_Plane_init__ ["self", "wide"] := fun _ _ _ _ _ _ us hl => match us, hl with | [_, _], _ => rfl
abbrev N_Plane_fit : List Str := ["self", "row", "want", "weight"]
theorem sc_Plane_fit : FnScope ["self", "row", "want", "weight"] ["self"] (defScope s_Plane_fit) := ⟨rfl, rfl, rfl, by decide +kernel, rfl, by decide +kernel, by decide +kernel⟩
theorem b_Plane_fit : BindOk "fit" "Plane.fit" s_Plane_fit ["self"] := fun _ _ _ _ _ _ us hl => match us, hl with | [_], _ => rfl
abbrev N_Plane_points : List Str := ["self", "found", "number", "point", "row", "want", "weight"]
theorem sc_Plane_points : FnScope ["self", "found", "number", "point", "row", "want", "weight"] ["self"] (defScope s_Plane_points) := ⟨rfl, rfl, rfl, by decide +kernel, rfl, by decide +kernel, by decide +kernel⟩
theorem b_Plane_points : BindOk "points" "Plane.points" s_Plane_points ["self"] := fun _ _ _ _ _ _ us hl => match us, hl with | [_], _ => rfl
abbrev N_Plane_told : List Str := ["self"]
theorem sc_Plane_told : FnScope ["self"] ["self"] (defScope s_Plane_told) := ⟨rfl, rfl, rfl, by decide +kernel, rfl, by decide +kernel, by decide +kernel⟩
theorem b_Plane_told : BindOk "told" "Plane.told" s_Plane_told ["self"] := fun _ _ _ _ _ _ us hl => match us, hl with | [_], _ => rfl
abbrev N_Plane_free : List Str := ["self"]
theorem sc_Plane_free : FnScope ["self"] ["self"] (defScope s_Plane_free) := ⟨rfl, rfl, rfl, by decide +kernel, rfl, by decide +kernel, by decide +kernel⟩
theorem b_Plane_free : BindOk "free" "Plane.free" s_Plane_free ["self"] := fun _ _ _ _ _ _ us hl => match us, hl with | [_], _ => rfl
abbrev N_Plane_ways : List Str := ["self"]
theorem sc_Plane_ways : FnScope ["self"] ["self"] (defScope s_Plane_ways) := ⟨rfl, rfl, rfl, by decide +kernel, rfl, by decide +kernel, by decide +kernel⟩
theorem b_Plane_ways : BindOk "ways" "Plane.ways" s_Plane_ways ["self"] := fun _ _ _ _ _ _ us hl => match us, hl with | [_], _ => rfl
abbrev N_Plane_squares : List Str := ["self"]
theorem sc_Plane_squares : FnScope ["self"] ["self"] (defScope s_Plane_squares) := ⟨rfl, rfl, rfl, by decide +kernel, rfl, by decide +kernel, by decide +kernel⟩
theorem b_Plane_squares : BindOk "squares" "Plane.squares" s_Plane_squares ["self"] := fun _ _ _ _ _ _ us hl => match us, hl with | [_], _ => rfl
section
variable {P : Program} {w : World} {K : PySem.W.Frag} {mg : Str → Option Value} {base : Heap} {aN aO C CF : Addr}
theorem k_Plane (T : Txt K mg aN aO) (c : PlaneC K C) (F : InitAt K mg C "Plane" "Plane.__init__" s_Plane_init__) (c_is_whole : C8.Cal P w K mg base 1 "is_whole" spWhole []) : C8.Mak P w K mg base 2 "Plane" C (spPlInit K C) [] := by
  refine mak_of F sc_Plane_init__ b_Plane_init__ (fun vs H Q E h => ?_) (fun f cdv A outer s H vs Q E hr h => ?_)
  · obtain ⟨a, dx, m, rfl, _⟩ := h
    rfl
  · obtain ⟨a, dx, m, rfl, ha, hm, hQ⟩ := h
    have c0 := c.cls
    have na := c.na
    refine ⟨_, (pss_cons (ps_if (PW.pt (pw_or (pt_not (pt_val (C8.pe_c c_is_whole hr (by decide) rfl (pa_cons (pv 1) pa_nil)))) (pw_or1 (pt_not (pt_chain op_le op_le pe_int (pv 1) (C8.pe_gc rfl T.MOST_WIDE_planes)))))) (pss_one ps_never)
    pss_nil)
    (pss_cons (ps_fld (pv 0) (pv 1) rfl)
    (pss_cons (ps_fld (pv 0) pe_dnewK rfl)
    (pss_cons (ps_fld (pv 0) pe_int rfl)
    (pss_one (ps_fld (pv 0) (pe_lst pa_nil) rfl)))))), ?_⟩
    refine ⟨_, rfl, _, rfl, true, rfl, iteF ?_⟩
    refine ⟨_, rfl, _, _, rfl, rfl, true, congrArg V.bl (decide_eq_true (by omega)), iteT ?_⟩
    refine ⟨_, _, rfl, rfl, true, congrArg V.bl (decide_eq_true (by omega)), iteF ?_⟩
    refine ⟨_, rfl, _, rfl, a, C, dx, _, rfl, ha, c0, na _ (by decide), by decide, fun d hd => ?_⟩
    have hda : d ≠ a := fun e => by
      subst e
      rw [upd_same] at hd
      cases hd
    have d0 : H d = Option.none := by
      rw [upd_ne hda] at hd
      exact hd
    refine ⟨_, rfl, a, C, dx, _, rfl, by rw [upd_ne hda.symm]; exact upd_same, c0, na _ (by decide), by show 1 < 1000; decide, ?_⟩
    refine ⟨_, rfl, a, C, dx, _, rfl, upd_same, c0, na _ (by decide), by show 2 < 1000; decide, Nat.zero_le _, fun t ht => ?_⟩
    have hta : t ≠ a := fun e => by
      subst e
      rw [upd_same] at ht
      cases ht
    have htd : t ≠ d := fun e => by
      subst e
      rw [upd_ne hta, upd_ne hta, upd_same] at ht
      cases ht
    have t0 : H t = Option.none := by
      rw [upd_ne hta, upd_ne hta, upd_ne htd, upd_ne hta] at ht
      exact ht
    refine ⟨_, rfl, a, C, dx, _, rfl, by rw [upd_ne hta.symm]; exact upd_same, c0, na _ (by decide), by show 3 < 1000; decide, ?_⟩
    refine hQ _ [a, d, t] (fun b o e hb => ?_) (fun b hb => ?_) ⟨dx, d, t, [], [], rfl, ?_, upd_same, ⟨[], ?_, .nil⟩, ?_, .nil⟩
    · have bd : b ≠ d := ne_of_none e d0
      have bt : b ≠ t := ne_of_none e t0
      rw [upd_ne hb, upd_ne bt, upd_ne hb, upd_ne hb, upd_ne bd, upd_ne hb]
      exact e
    · rcases List.mem_cons.mp hb with e | hb
      · exact .inl e
      rcases List.mem_cons.mp hb with e | hb
      · exact .inr (by rw [e]; exact d0)
      · exact .inr (by rw [List.mem_singleton.mp hb]; exact t0)
    · simp [hda.symm, hta.symm, htd.symm]
    · rw [upd_ne hda, upd_ne htd.symm, upd_ne hda, upd_ne hda]
      exact upd_same
    · rw [upd_ne hta]
      exact upd_same
theorem _root_.Np.PlaneAt.kind {H : Hp} {p : Addr} {st : Pl} {F : List Addr} (h : PlaneAt K C H p st F) : ∀ b, b ∈ F → ∃ o, H b = some o ∧ isT (H b) = false ∧ ∀ ob u, o ≠ .frz ob u := by
  obtain ⟨dx, d, t, ts, ds, rfl, nd, h0, ⟨kvs, h1, _⟩, h2, h3⟩ := h
  intro b hb
  rcases List.mem_cons.mp hb with rfl | hb
  · exact ⟨_, h0, by rw [h0]; rfl, fun _ _ e => nomatch e⟩
  rcases List.mem_cons.mp hb with rfl | hb
  · exact ⟨_, h1, by rw [h1]; rfl, fun _ _ e => nomatch e⟩
  rcases List.mem_cons.mp hb with rfl | hb
  · exact ⟨_, h2, by rw [h2]; rfl, fun _ _ e => nomatch e⟩
  obtain ⟨kvs', h4⟩ := h3.there b hb
  exact ⟨_, h4, by rw [h4]; rfl, fun _ _ e => nomatch e⟩
theorem k_plfit (T : Txt K mg aN aO) (c : PlaneC K C) (F : MethAt K C "fit" "Plane.fit" s_Plane_fit) (c_Fit : C8.Mak P w K mg base 9 "Fit" CF (spFitInit K CF) []) : C8.Met P w K mg base 11 C "fit" (spPlFit K C CF) [] := by
  refine met_of c.cls F sc_Plane_fit b_Plane_fit (fun vs H Q E h => ?_) (fun f cdv A outer s H vs Q E hr h => ?_)
  · obtain ⟨a, st, F, rfl, _⟩ := h
    rfl
  · obtain ⟨a, st, F, rfl, hp, S, hQ⟩ := h
    obtain ⟨dx, d, t, ts, ds, rfl, nd, h0, ⟨kvs, h1, h1'⟩, h2, h3⟩ := hp
    have c0 := c.cls
    have na := c.na
    obtain ⟨e1, e2, e3, e4, e5⟩ := nd4 nd
    have kl := h1'.length
    have ll : st.1.kept.length ≤ 8 := by
      have := S.len
      unfold ptsOf at this
      rw [List.length_map] at this
      exact this
    refine ⟨_, (pss_one (ps_ret (C8.pe_mk c_Fit hr (by decide) rfl (pa_cons (pe_lock (pe_lc (own := [("row", 1), ("want", 2), ("weight", 3)]) rfl sc_Plane_fit.nd (pi_values (pe_fld (pv 0) rfl)) (blkOk_by (own := [("row", 1), ("want", 2), ("weight", 3)]) (N := N_Plane_fit) (sc := defScope s_Plane_fit) (by decide +kernel)) (fun _ _ _ _ _ => (pg_tupK (K := K) (n := 3) rfl rfl (pgs_cons (pg_name (i := 1) sc_Plane_fit.nd rfl (Or.inl rfl)) (pgs_cons (pg_name (i := 2) sc_Plane_fit.nd rfl (Or.inl rfl)) (pgs_cons (pg_name (i := 3) sc_Plane_fit.nd rfl (Or.inl rfl)) pgs_nil))))) (fun _ _ _ _ _ => pts_nil) (fun _ _ _ _ _ => (pe_tup (pa_cons (pe_callTy (call_list_ofK (K := K) rfl) rfl T.list (by decide +kernel) (pa_cons (pv 1) pa_nil)) (pa_cons (pv 2) (pa_cons (pv 3) pa_nil))))))) (pa_cons (pe_fld (pv 0) rfl) pa_nil))))), ?_⟩
    refine ⟨d, _, h1, True.intro, fun od => ?_⟩
    generalize qL : upd H d (.frz od (.dK kvs)) = HL
    have tL : Same (tp H) (tp HL) := by rw [← qL]; exact tp_put (by rw [h1]; rfl)
    have hdL : HL d = some (.frz od (.dK kvs)) := by rw [← qL]; exact upd_same
    have h0L : HL a = some (.ins C dx [("span", .int (st.1.span : Nat)), ("kept", .ref d), ("fresh", .int (st.1.fresh : Nat)), ("trail", .ref t)]) := by rw [← qL, upd_ne e1]; exact h0
    have kL := h1'.same tL
    refine ⟨_, rfl, a, C, dx, _, _, rfl, h0L, c0, na _ (by decide), rfl, d, od, kvs, rfl, hdL, fun D hD => lc_by (n := kvs.length) (fun i H' => Same HL H' ∧ ∃ ys, H' D = some (.lst ys) ∧ DpAll K (rem H' D) ys ((st.1.kept.take i).map fun q => encPt q.2))
      ⟨same_new hD, [], upd_same, .nil⟩ (fun i H' hi hP => ?_) (fun H' hP => ?_)⟩
    · obtain ⟨m1, ys, hL, hY⟩ := hP
      obtain ⟨⟨k0, v0⟩, ek⟩ : ∃ q, kvs[i]? = some q := ⟨_, List.getElem?_eq_getElem hi⟩
      obtain ⟨n, p, ep, rfl, hv⟩ := kL.get' ek
      have hi2 := (List.getElem?_eq_some_iff.mp ep).1
      obtain ⟨pa, w1, w2, w3, rfl, hpa, hw1, hw2, hw3⟩ := dp_pk hv
      obtain ⟨ra, xs, rfl, hra, hxs⟩ := dp_tup hw1
      refine ⟨⟨m1 _ _ hdL, hi⟩, fun v H1 hv' => ?_⟩
      obtain ⟨rfl, k1, ek1⟩ := hv'
      rw [ek] at ek1
      cases Option.some.inj ek1
      have tT := (tp_sub HL).trans m1
      refine ⟨pa, _, rfl, tT.tup hpa, rfl, _, _, rfl, _, _, rfl, _, _, rfl, rfl, rfl, ?_⟩
      refine ⟨_, rfl, ra, xs, rfl, .inr (tT.tup hra), fun l hl => ⟨_, rfl, _, rfl, by show 3 ≤ sizeLine; decide, fun u hu => ?_⟩⟩
      have n1 : Same H1 (upd H1 l (.lst xs)) := same_new hl
      have n2 : Same H1 (upd (upd H1 l (.lst xs)) u (.tup [.ref l, w2, w3])) := n1.trans (same_new hu)
      have lD : l ≠ D := (ne_of_none hL hl).symm
      have uD : u ≠ D := (ne_of_none (n1 _ _ hL) hu).symm
      have hul : l ≠ u := fun e => by
        subst e
        rw [upd_same] at hu
        cases hu
      refine ⟨_, n2 _ _ hL, len_small ?_, same_put (m1.trans n2) hD, _, upd_same, ?_⟩
      · rw [hY.length, List.length_map]
        exact Nat.le_trans (List.length_take_le _ _) (by omega)
      · rw [rem_upd, take_more ep, List.map_append]
        have tq : Same (tp HL) (rem (upd (upd H1 l (.lst xs)) u (.tup [.ref l, w2, w3])) D) := (tp_sub HL).trans (same_rem (m1.trans n2) hD)
        refine (dps_same (rem_same n2) hY).snoc (.tup (SqT.of (by rw [rem_ne uD, upd_same])) (.cons (.lst (SqL.of (by rw [rem_ne lD, upd_ne hul, upd_same])) (dps_same tq hxs)) (.cons (dp_same tq hw2) (.cons (dp_same tq hw3) .nil))))
    · obtain ⟨m1, ys, hL, hY⟩ := hP
      refine ⟨⟨m1 _ _ hdL, Nat.le_refl _⟩, m1 _ _ hdL, ?_⟩
      rw [kl, List.take_length] at hY
      have n3 : Same H (upd H' d (.dK kvs)) := lock_same h1 (by rw [qL]; exact m1)
      have sq : SeqS H' (upd H' d (.dK kvs)) := SeqS.put (m1 _ _ hdL) rfl
      have Dd : D ≠ d := (ne_of_none hdL hD).symm
      generalize upd H' d (.dK kvs) = H3 at n3 sq ⊢
      refine ⟨_, rfl, a, C, dx, _, _, rfl, n3 _ _ h0, c0, na _ (by decide), rfl, fun y dy hy hdy hne => ?_⟩
      have n4 : Same H (upd (upd H3 dy (.own y)) y (.ins CF dy [])) := n3.trans ((same_new hdy).trans (same_new (by rw [upd_ne hne.symm]; exact hy)))
      have n34 : Same H3 (upd (upd H3 dy (.own y)) y (.ins CF dy [])) := (same_new hdy).trans (same_new (by rw [upd_ne hne.symm]; exact hy))
      refine ⟨y, dy, .ref D, ptsOf st, st.1.span, rfl, upd_same, ?_, S, fun H5 b5 f5 => ⟨rfl, hQ _ _ (fun b o e => ?_) f5⟩⟩
      · refine dp_same n34 (dp_seqS sq (.lst (SqL.of hL) ?_))
        unfold ptsOf
        rw [List.map_map]
        exact dps_same (rem_sub _ _) hY
      · refine b5 _ _ (n4 _ _ e) fun eq => ?_
        subst eq
        rw [n3 _ _ e] at hy
        cases hy
end
end Np
end
section
set_option linter.all false
set_option maxRecDepth 100000
set_option maxHeartbeats 4000000
/-! Planes: points, what is told. -/
namespace Np
open PySem PySem.Spec PyProof.Rows L2
def encPn (q : Nat × Pt) : PyData := .tuple [.int (q.1 : Nat), encR q.2.row, encQ q.2.want, encQ q.2.wt]
def spPoints (K : PySem.W.Frag) (C : Addr) : Sp := fun vs H Q _ => ∃ (a : Addr) (st : Pl) (F : List Addr), vs = [.ref a] ∧ PlaneAt K C H a st F ∧ st.1.kept.length ≤ 100 ∧ (∀ q, q ∈ st.1.kept → q.2.row.length ≤ 12) ∧ GiveQ K H Q (.list (st.1.kept.map encPn))
section
variable {P : Program} {w : World} {K : PySem.W.Frag} {mg : Str → Option Value} {base : Heap} {aN aO C CF : Addr}
theorem k_pltold (T : Txt K mg aN aO) (c : PlaneC K C) (F : MethAt K C "told" "Plane.told" s_Plane_told) (c_Plane_fit : C8.Met P w K mg base 11 C "fit" (spPlFit K C CF) []) (c_Fit_told : C8.Met P w K mg base 1 CF "told" (spFitG K CF gTold) []) : C8.Met P w K mg base 12 C "told" (spPlG K C gTold) [] := by
  refine met_of c.cls F sc_Plane_told b_Plane_told (fun vs H Q E h => ?_) (fun f cdv A outer s H vs Q E hr h => ?_)
  · obtain ⟨a, st, F, rfl, _⟩ := h
    rfl
  · obtain ⟨a, st, F, rfl, hp, S, hQ⟩ := h
    have hp0 := hp
    obtain ⟨dx, d, t, ts, ds, rfl, nd, h0, _⟩ := hp
    refine ⟨_, (pss_one (ps_ret (C8.pe_mt0 c_Fit_told hr (by decide) (C8.pe_mt0 c_Plane_fit hr (by decide) (pv 0))))), ?_⟩
    refine ⟨_, rfl, a, dx, _, rfl, h0, rfl, a, st, _, rfl, hp0, S, fun H1 x n1 f1 => ?_⟩
    have f1' := f1
    obtain ⟨dx', v0, v2, v3, v4, v5, v6, v7, x0, _⟩ := f1'
    exact ⟨x, dx', _, rfl, x0, rfl, x, _, _, rfl, f1, S, fun H2 v n2 h2 => hQ _ _ (n1.trans n2) (dp_same (dif_late n1) h2)⟩
theorem k_plfree (T : Txt K mg aN aO) (c : PlaneC K C) (F : MethAt K C "free" "Plane.free" s_Plane_free) (c_Plane_fit : C8.Met P w K mg base 11 C "fit" (spPlFit K C CF) []) (c_Fit_free : C8.Met P w K mg base 2 CF "free" (spFitG K CF gFree) []) : C8.Met P w K mg base 12 C "free" (spPlG K C gFree) [] := by
  refine met_of c.cls F sc_Plane_free b_Plane_free (fun vs H Q E h => ?_) (fun f cdv A outer s H vs Q E hr h => ?_)
  · obtain ⟨a, st, F, rfl, _⟩ := h
    rfl
  · obtain ⟨a, st, F, rfl, hp, S, hQ⟩ := h
    have hp0 := hp
    obtain ⟨dx, d, t, ts, ds, rfl, nd, h0, _⟩ := hp
    refine ⟨_, (pss_one (ps_ret (C8.pe_mt0 c_Fit_free hr (by decide) (C8.pe_mt0 c_Plane_fit hr (by decide) (pv 0))))), ?_⟩
    refine ⟨_, rfl, a, dx, _, rfl, h0, rfl, a, st, _, rfl, hp0, S, fun H1 x n1 f1 => ?_⟩
    have f1' := f1
    obtain ⟨dx', v0, v2, v3, v4, v5, v6, v7, x0, _⟩ := f1'
    exact ⟨x, dx', _, rfl, x0, rfl, x, _, _, rfl, f1, S, fun H2 v n2 h2 => hQ _ _ (n1.trans n2) (dp_same (dif_late n1) h2)⟩
theorem k_plways (T : Txt K mg aN aO) (c : PlaneC K C) (F : MethAt K C "ways" "Plane.ways" s_Plane_ways) (c_Plane_fit : C8.Met P w K mg base 11 C "fit" (spPlFit K C CF) []) (c_Fit_ways : C8.Met P w K mg base 4 CF "ways" (spFitG K CF gWays) []) : C8.Met P w K mg base 12 C "ways" (spPlG K C gWays) [] := by
  refine met_of c.cls F sc_Plane_ways b_Plane_ways (fun vs H Q E h => ?_) (fun f cdv A outer s H vs Q E hr h => ?_)
  · obtain ⟨a, st, F, rfl, _⟩ := h
    rfl
  · obtain ⟨a, st, F, rfl, hp, S, hQ⟩ := h
    have hp0 := hp
    obtain ⟨dx, d, t, ts, ds, rfl, nd, h0, _⟩ := hp
    refine ⟨_, (pss_one (ps_ret (C8.pe_mt0 c_Fit_ways hr (by decide) (C8.pe_mt0 c_Plane_fit hr (by decide) (pv 0))))), ?_⟩
    refine ⟨_, rfl, a, dx, _, rfl, h0, rfl, a, st, _, rfl, hp0, S, fun H1 x n1 f1 => ?_⟩
    have f1' := f1
    obtain ⟨dx', v0, v2, v3, v4, v5, v6, v7, x0, _⟩ := f1'
    exact ⟨x, dx', _, rfl, x0, rfl, x, _, _, rfl, f1, S, fun H2 v n2 h2 => hQ _ _ (n1.trans n2) (dp_same (dif_late n1) h2)⟩
theorem k_plsquares (T : Txt K mg aN aO) (c : PlaneC K C) (F : MethAt K C "squares" "Plane.squares" s_Plane_squares) (c_Plane_fit : C8.Met P w K mg base 11 C "fit" (spPlFit K C CF) []) (c_Fit_squares : C8.Met P w K mg base 6 CF "squares" (spFitG K CF gSquares) []) : C8.Met P w K mg base 12 C "squares" (spPlG K C gSquares) [] := by
  refine met_of c.cls F sc_Plane_squares b_Plane_squares (fun vs H Q E h => ?_) (fun f cdv A outer s H vs Q E hr h => ?_)
  · obtain ⟨a, st, F, rfl, _⟩ := h
    rfl
  · obtain ⟨a, st, F, rfl, hp, S, hQ⟩ := h
    have hp0 := hp
    obtain ⟨dx, d, t, ts, ds, rfl, nd, h0, _⟩ := hp
    refine ⟨_, (pss_one (ps_ret (C8.pe_mt0 c_Fit_squares hr (by decide) (C8.pe_mt0 c_Plane_fit hr (by decide) (pv 0))))), ?_⟩
    refine ⟨_, rfl, a, dx, _, rfl, h0, rfl, a, st, _, rfl, hp0, S, fun H1 x n1 f1 => ?_⟩
    have f1' := f1
    obtain ⟨dx', v0, v2, v3, v4, v5, v6, v7, x0, _⟩ := f1'
    exact ⟨x, dx', _, rfl, x0, rfl, x, _, _, rfl, f1, S, fun H2 v n2 h2 => hQ _ _ (n1.trans n2) (dp_same (dif_late n1) h2)⟩
theorem k_points (T : Txt K mg aN aO) (c : PlaneC K C) (F : MethAt K C "points" "Plane.points" s_Plane_points) : C8.Met P w K mg base 1 C "points" (spPoints K C) [] := by
  refine met_of c.cls F sc_Plane_points b_Plane_points (fun vs H Q E h => ?_) (fun f cdv A outer s H vs Q E hr h => ?_)
  · obtain ⟨a, st, F, rfl, _⟩ := h
    rfl
  · obtain ⟨a, st, F, rfl, hp, ll, hrw, hQ⟩ := h
    obtain ⟨dx, d, t, ts, ds, rfl, nd, h0, ⟨kvs, h1, h1'⟩, h2, h3⟩ := hp
    have c0 := c.cls
    have na := c.na
    obtain ⟨e1, e2, e3, e4, e5⟩ := nd4 nd
    have kl := h1'.length
    refine ⟨_, (pss_cons (ps_set (i := 1) sc_Plane_points.nd rfl (Or.inl rfl) (pe_lst pa_nil))
    (pss_cons (ps_lock (ps_for PassesOwn.never rfl (pi_items (pe_fld (pv 0) rfl)) (pg_tup rfl (pgs_cons (pg_name (i := 2) sc_Plane_points.nd rfl (Or.inl rfl)) (pgs_cons (pg_name (i := 3) sc_Plane_points.nd rfl (Or.inl rfl)) pgs_nil)))
    (pss_cons (ps_asg (pv 3) (pg_tup rfl (pgs_cons (pg_name (i := 4) sc_Plane_points.nd rfl (Or.inl rfl)) (pgs_cons (pg_name (i := 5) sc_Plane_points.nd rfl (Or.inl rfl)) (pgs_cons (pg_name (i := 6) sc_Plane_points.nd rfl (Or.inl rfl)) pgs_nil)))))
    (pss_one (ps_expr (pe_bm PySem.F.plainAttrs_list PySem.F.slot_list_append PySem.F.type_list_append mt_append (pv 1) (pa_cons (pe_tup (pa_cons (pv 2) (pa_cons (pe_callTy call_list_of rfl T.list (by decide +kernel) (pa_cons (pv 4) pa_nil)) (pa_cons (pv 5) (pa_cons (pv 6) pa_nil))))) pa_nil)))))))
    (pss_one (ps_ret (pv 1))))), ?_⟩
    refine ⟨Nat.zero_le _, fun D hD => ?_⟩
    have s0 : Same H (upd H D (.lst [])) := same_new hD
    generalize qA : upd H D (.lst []) = HA at s0 ⊢
    have hDA : HA D = some (.lst []) := by rw [← qA]; exact upd_same
    have h1A := s0 _ _ h1
    refine ⟨d, _, h1A, True.intro, fun od => ?_⟩
    generalize qL : upd HA d (.frz od (.dK kvs)) = HL
    have tL : Same (tp H) (tp HL) := (tp_grow s0).trans (by rw [← qL]; exact tp_put (by rw [h1A]; rfl))
    have hdL : HL d = some (.frz od (.dK kvs)) := by rw [← qL]; exact upd_same
    have Dd : D ≠ d := (ne_of_none h1 hD).symm
    have hDL : HL D = some (.lst []) := by rw [← qL, upd_ne Dd]; exact hDA
    have h0L : HL a = some (.ins C dx [("span", .int (st.1.span : Nat)), ("kept", .ref d), ("fresh", .int (st.1.fresh : Nat)), ("trail", .ref t)]) := by rw [← qL, upd_ne e1]; exact s0 _ _ h0
    have kL := h1'.same tL
    have nD := hD
    refine ⟨_, rfl, a, C, dx, _, _, rfl, h0L, c0, na _ (by decide), rfl, d, od, kvs, rfl, hdL, for_by (n := kvs.length) (fun i σ H' => Same (rem HL D) H' ∧ ∃ ys a2 a3 a4 a5 a6, σ = [some (V.ref a), some (V.ref D), a2, a3, a4, a5, a6] ∧ H' D = some (.lst ys) ∧ DpAll K (rem H' D) ys ((st.1.kept.take i).map encPn))
      ⟨rem_sub _ _, [], Option.none, Option.none, Option.none, Option.none, Option.none, rfl, hDL, .nil⟩ (fun i σ H' hi hP => ?_) (fun σ H' hP => ?_)⟩
    · obtain ⟨m1, ys, a2, a3, a4, a5, a6, rfl, hL, hY⟩ := hP
      obtain ⟨⟨k0, v0⟩, ek⟩ : ∃ q, kvs[i]? = some q := ⟨_, List.getElem?_eq_getElem hi⟩
      obtain ⟨n, p, ep, rfl, hv⟩ := kL.get' ek
      have hi2 := (List.getElem?_eq_some_iff.mp ep).1
      obtain ⟨pa, w1, w2, w3, rfl, hpa, hw1, hw2, hw3⟩ := dp_pk hv
      obtain ⟨ra, xs, rfl, hra, hxs⟩ := dp_tup hw1
      have hdR : rem HL D d = some (.frz od (.dK kvs)) := by rw [rem_ne Dd.symm]; exact hdL
      refine ⟨⟨m1 _ _ hdR, hi⟩, fun v H1 hv' => ?_⟩
      obtain ⟨t9, k1, v1, ek1, rfl, ht9, rfl⟩ := hv'
      rw [ek] at ek1
      cases Option.some.inj ek1
      have n9 : Same H' (upd H' t9 (.tup [kV (nk n), .ref pa])) := same_new ht9
      have tT : Same (tp HL) (rem H' D) := fun b o e => by
        have hb := (tp_some e).1
        have bD : b ≠ D := fun q => by
          subst q
          rw [hDL] at hb
          cases hb
          have := (tp_some e).2
          rw [hDL] at this
          cases this
        rw [rem_ne bD]
        exact m1 _ _ (by rw [rem_ne bD]; exact hb)
      refine ⟨t9, _, rfl, SqT.of upd_same, rfl, _, _, rfl, _, _, rfl, rfl, ?_⟩
      generalize upd H' t9 (.tup [kV (nk n), .ref pa]) = H9 at n9 ⊢
      have tS : Same (tp HL) H9 := tT.trans ((rem_sub _ _).trans n9)
      have tR : Same (tp HL) (rem H9 D) := tT.trans (rem_same n9)
      have hL9 := n9 _ _ hL
      refine ⟨_, rfl, pa, _, rfl, tS.tup hpa, rfl, _, _, rfl, _, _, rfl, _, _, rfl, rfl, ?_⟩
      refine ⟨_, rfl, .inl ⟨rfl, _, SqL.of hL9⟩, _, rfl, _, rfl, ra, xs, rfl, .inr (tS.tup hra), fun l hl => ⟨_, rfl, _, rfl, by show 4 ≤ sizeLine; decide, fun u hu => ?_⟩⟩
      have n1 : Same H9 (upd H9 l (.lst xs)) := same_new hl
      have n2 : Same H9 (upd (upd H9 l (.lst xs)) u (.tup [V.int (n : Nat), .ref l, w2, w3])) := n1.trans (same_new hu)
      have lD : l ≠ D := (ne_of_none hL9 hl).symm
      have uD : u ≠ D := (ne_of_none (n1 _ _ hL9) hu).symm
      have hul : l ≠ u := fun e => by
        subst e
        rw [upd_same] at hu
        cases hu
      have yl := hY.length
      rw [List.length_map] at yl
      have tl := List.length_take_le i st.1.kept
      refine ⟨D, ys, .ref u, rfl, rfl, n2 _ _ hL9, len_small (by omega), same_put (m1.trans (n9.trans n2)) rem_at, _, _, _, _, _, _, rfl, upd_same, ?_⟩
      · rw [rem_upd, take_more ep, List.map_append]
        have tq : Same (tp HL) (rem (upd (upd H9 l (.lst xs)) u (.tup [V.int (n : Nat), .ref l, w2, w3])) D) := tR.trans (rem_same n2)
        refine (dps_same (rem_same (n9.trans n2)) hY).snoc (.tup (SqT.of (by rw [rem_ne uD, upd_same])) (.cons (.int _) (.cons (.lst (SqL.of (by rw [rem_ne lD, upd_ne hul, upd_same])) (dps_same tq hxs)) (.cons (dp_same tq hw2) (.cons (dp_same tq hw3) .nil)))))
    · obtain ⟨m1, ys, a2, a3, a4, a5, a6, rfl, hL, hY⟩ := hP
      have hdR : rem HL D d = some (.frz od (.dK kvs)) := by rw [rem_ne Dd.symm]; exact hdL
      refine ⟨⟨m1 _ _ hdR, Nat.le_refl _⟩, m1 _ _ hdR, _, rfl, ?_⟩
      rw [kl, List.take_length] at hY
      refine hQ _ _ (fun b o e => ?_) (dp_seqS (SeqS.put (m1 _ _ hdR) rfl) (.lst (SqL.of hL) (dps_same (rem_sub _ _) hY)))
      by_cases q : b = d
      · subst q
        rw [h1] at e
        rw [upd_same]
        exact e
      · rw [upd_ne q]
        refine m1 _ _ ?_
        rw [rem_ne (ne_of_none e nD), ← qL, upd_ne q]
        exact s0 _ _ e
end
end Np
end
section
set_option linter.all false
set_option maxRecDepth 100000
set_option maxHeartbeats 4000000
/-! Texts: numbers, ratios and rows as signs. -/
namespace Np
open PySem PySem.Spec PyProof.Rows L2 SX
/-- a whole number's signs -/
def numS (i : Int) : List Nat := if i < 0 then 45 :: TL.numL i.natAbs else TL.numL i.natAbs
theorem num_text (i : Int) : Str.ofString (toString i) = S (numS i) := by
  by_cases h : i < 0
  · obtain ⟨n, rfl⟩ : ∃ n : Nat, i = Int.negSucc n := ⟨i.natAbs - 1, by omega⟩
    have e : numS (Int.negSucc n) = 45 :: TL.numL (n + 1) := by
      unfold numS
      rw [if_pos h]
      rfl
    have e2 := num_S (n + 1)
    have e3 : toString (Int.negSucc n) = "-" ++ toString (((n + 1 : Nat) : Nat) : Int) := rfl
    rw [e, e3]
    rw [Str.ofString_eq_toList] at e2 ⊢
    have e4 := S_inj (a := ((toString (((n + 1 : Nat) : Nat) : Int)).toList.map Char.toNat)) e2
    rw [String.toList_append, List.map_append, e4]
    rfl
  · obtain ⟨n, rfl⟩ : ∃ n : Nat, i = (n : Nat) := ⟨i.toNat, by omega⟩
    rw [num_S]
    unfold numS
    rw [if_neg h]
    rfl
theorem numS_nat (n : Nat) : numS (n : Nat) = TL.numL n := by
  unfold numS
  rw [if_neg (by omega)]
  rfl
/-- a ratio's signs -/
def ratS (q : Rat) : List Nat := if q.den = 1 then numS q.num else numS q.num ++ 47 :: numS (q.den : Nat)
def rowS (r : Row) : List Nat := TL.joinL [44] (r.map ratS)
theorem numS_mem {i : Int} {c : Nat} (h : c ∈ numS i) : c = 45 ∨ (48 ≤ c ∧ c ≤ 57) := by
  unfold numS at h
  split at h
  · rcases List.mem_cons.mp h with h | h
    · exact .inl h
    · exact .inr (TL.numL_digits _ c h)
  · exact .inr (TL.numL_digits _ c h)
theorem ratS_mem {q : Rat} {c : Nat} (h : c ∈ ratS q) : c = 45 ∨ (47 ≤ c ∧ c ≤ 57) := by
  unfold ratS at h
  split at h
  · rcases numS_mem h with h | h
    · exact .inl h
    · exact .inr (by omega)
  · rcases List.mem_append.mp h with h | h
    · rcases numS_mem h with h | h
      · exact .inl h
      · exact .inr (by omega)
    · rcases List.mem_cons.mp h with h | h
      · exact .inr (by omega)
      · rcases numS_mem h with h | h
        · exact .inl h
        · exact .inr (by omega)
theorem numS_ne (i : Int) : numS i ≠ [] := by
  unfold numS
  split
  · exact List.cons_ne_nil _ _
  · exact TL.numL_ne _
theorem ratS_ne (q : Rat) : ratS q ≠ [] := by
  unfold ratS
  split
  · exact numS_ne _
  · exact fun e => numS_ne _ (List.append_eq_nil_iff.mp e).1
theorem numS_inj {i j : Int} (h : numS i = numS j) : i = j := by
  unfold numS at h
  split at h <;> split at h
  · have := TL.numL_inj (List.cons.inj h).2
    omega
  · exfalso
    have := TL.numL_digits j.natAbs 45 (by rw [← h]; exact List.mem_cons_self)
    omega
  · exfalso
    have := TL.numL_digits i.natAbs 45 (by rw [h]; exact List.mem_cons_self)
    omega
  · have := TL.numL_inj h
    omega
theorem split47 : ∀ {a b c d : List Nat}, 47 ∉ a → 47 ∉ c → a ++ 47 :: b = c ++ 47 :: d → a = c ∧ b = d
  | [], b, [], d, _, _, h => ⟨rfl, (List.cons.inj h).2⟩
  | [], b, x :: c, d, _, hc, h => absurd (List.cons.inj h).1 fun e => hc (by rw [e]; exact List.mem_cons_self)
  | x :: a, b, [], d, ha, _, h => absurd (List.cons.inj h).1 fun e => ha (by rw [← e]; exact List.mem_cons_self)
  | x :: a, b, y :: c, d, ha, hc, h => by
    obtain ⟨h1, h2⟩ := List.cons.inj h
    obtain ⟨h3, h4⟩ := split47 (fun z => ha (List.mem_cons_of_mem _ z)) (fun z => hc (List.mem_cons_of_mem _ z)) h2
    exact ⟨by rw [h1, h3], h4⟩
theorem num47 (i : Int) : 47 ∉ numS i := fun h => by
  rcases numS_mem h with h | h <;> omega
theorem ratS_inj {p q : Rat} (h : ratS p = ratS q) : p = q := by
  unfold ratS at h
  split at h <;> rename_i h1 <;> split at h <;> rename_i h2
  · exact Rat.ext (numS_inj h) (h1.trans h2.symm)
  · exact absurd (h ▸ (List.mem_append_right _ List.mem_cons_self : 47 ∈ numS q.num ++ 47 :: numS (q.den : Nat))) (num47 _)
  · exact absurd (h.symm ▸ (List.mem_append_right _ List.mem_cons_self : 47 ∈ numS p.num ++ 47 :: numS (p.den : Nat))) (num47 _)
  · obtain ⟨h3, h4⟩ := split47 (num47 _) (num47 _) h
    refine Rat.ext (numS_inj h3) ?_
    have := numS_inj h4
    omega
/-- small enough to be told -/
theorem Sz.log {q : Rat} (h : Sz q) : q.num.natAbs.log2 < 1920 ∧ ((q.den : Nat) : Int).natAbs.log2 < 1920 := by
  have f : ∀ n : Nat, n < 2 ^ 1920 → n.log2 < 1920 := fun n hn => by
    by_cases h0 : n = 0
    · subst h0
      decide
    · exact (Nat.log2_lt h0).mpr hn
  exact ⟨f _ h.1, f _ (by rw [Int.natAbs_natCast]; exact h.2)⟩
theorem numL_bound {n k : Nat} (h : n < 2 ^ k) (hk : 0 < k) : (TL.numL n).length ≤ k := TL.numL_len hk (Nat.lt_of_lt_of_le h (Nat.pow_le_pow_left (by decide) k))
theorem numS_len {i : Int} {k : Nat} (h : i.natAbs < 2 ^ k) (hk : 0 < k) : (numS i).length ≤ k + 1 := by
  have := numL_bound h hk
  unfold numS
  split
  · rw [List.length_cons]; omega
  · omega
theorem ratS_len {q : Rat} {k : Nat} (h1 : q.num.natAbs < 2 ^ k) (h2 : q.den < 2 ^ k) (hk : 0 < k) : (ratS q).length ≤ 2 * k + 3 := by
  have a := numS_len h1 hk
  have b := numS_len (i := (q.den : Nat)) (by rw [Int.natAbs_natCast]; exact h2) hk
  unfold ratS
  split
  · omega
  · rw [List.length_append, List.length_cons]
    omega
theorem starts_S (a b : List Nat) : Txt.startswith (S a) (S b) = (decide (b.length ≤ a.length) && (a.take b.length == b)) := by
  unfold Txt.startswith
  rw [StrLaws.subAt_eq, S_len, S_len, Nat.zero_add]
  rfl
theorem dec_S (a b : List Nat) : decide (V.str (S a) = V.str (S b)) = decide (a = b) := decide_eq_decide.mpr ⟨fun e => S_inj (V.str.inj e), fun e => by rw [e]⟩
theorem l_minus : ("-" : Str) = S [45] := by decide +kernel
theorem l_empty : ("" : Str) = S [] := by decide +kernel
theorem l_zero : ("0" : Str) = S [48] := by decide +kernel
theorem l_slash : ("/" : Str) = S [47] := by decide +kernel
theorem l_comma : ("," : Str) = S [44] := by decide +kernel
theorem l_figs : ("0123456789" : Str) = S [48, 49, 50, 51, 52, 53, 54, 55, 56, 57] := by decide +kernel
def spShown (K : PySem.W.Frag) : Sp := fun vs H Q _ => ∃ v q, vs = [v] ∧ Dp K H v (encQ q) ∧ Sz q ∧ Q (.str (S (ratS q))) H
def spReadW : Sp := fun vs H Q _ => ∃ i : Int, vs = [.str (S (numS i))] ∧ i.natAbs < 10 ^ 60 ∧ Q (.int i) H
def Fine (q : Rat) : Prop := q.num.natAbs < 10 ^ 60 ∧ q.den < 10 ^ 60
def spRead (K : PySem.W.Frag) : Sp := fun vs H Q _ => ∃ q, vs = [.str (S (ratS q))] ∧ Fine q ∧ GiveF K H Q (encQ q)
def spShownRow (K : PySem.W.Frag) : Sp := fun vs H Q _ => ∃ v r, vs = [v] ∧ Dp K H v (encR r) ∧ r.length ≤ 100 ∧ (∀ q, q ∈ r → Sz q) ∧ ∀ H', Same H H' → Q (.str (S (rowS r))) H'
def spReadRow (K : PySem.W.Frag) : Sp := fun vs H Q _ => ∃ r, vs = [.str (S (rowS r))] ∧ r ≠ [] ∧ r.length ≤ 100 ∧ (∀ q, q ∈ r → Fine q) ∧ GiveF K H Q (encR r)
abbrev N_shown : List Str := ["one"]
theorem sc_shown : FnScope ["one"] ["one"] (defScope s_shown) := ⟨rfl, rfl, rfl, by decide +kernel, rfl, by decide +kernel, by decide +kernel⟩
theorem b_shown : BindOk "shown" "shown" s_shown ["one"] := fun _ _ _ _ _ _ us hl => match us, hl with | [_], _ => rfl
abbrev N_read_whole : List Str := ["text", "figures", "sign"]
theorem sc_read_whole : FnScope ["text", "figures", "sign"] ["text"] (defScope s_read_whole) := ⟨rfl, rfl, rfl, by decide +kernel, rfl, by decide +kernel, by decide +kernel⟩
theorem b_read_whole : BindOk "read_whole" "read_whole" s_read_whole ["text"] := fun _ _ _ _ _ _ us hl => match us, hl with | [_], _ => rfl
abbrev N_read : List Str := ["text", "top", "stroke", "bottom", "found"]
theorem sc_read : FnScope ["text", "top", "stroke", "bottom", "found"] ["text"] (defScope s_read) := ⟨rfl, rfl, rfl, by decide +kernel, rfl, by decide +kernel, by decide +kernel⟩
theorem b_read : BindOk "read" "read" s_read ["text"] := fun _ _ _ _ _ _ us hl => match us, hl with | [_], _ => rfl
abbrev N_shown_row : List Str := ["row", "one"]
theorem sc_shown_row : FnScope ["row", "one"] ["row"] (defScope s_shown_row) := ⟨rfl, rfl, rfl, by decide +kernel, rfl, by decide +kernel, by decide +kernel⟩
theorem b_shown_row : BindOk "shown_row" "shown_row" s_shown_row ["row"] := fun _ _ _ _ _ _ us hl => match us, hl with | [_], _ => rfl
abbrev N_read_row : List Str := ["text", "part"]
theorem sc_read_row : FnScope ["text", "part"] ["text"] (defScope s_read_row) := ⟨rfl, rfl, rfl, by decide +kernel, rfl, by decide +kernel, by decide +kernel⟩
theorem b_read_row : BindOk "read_row" "read_row" s_read_row ["text"] := fun _ _ _ _ _ _ us hl => match us, hl with | [_], _ => rfl
theorem figs_mem {c : Nat} (h : 48 ≤ c ∧ c ≤ 57) : decide (c ∈ ("0123456789" : Str).cps.toList) = true := by
  refine decide_eq_true ?_
  rw [l_figs]
  show c ∈ [48, 49, 50, 51, 52, 53, 54, 55, 56, 57]
  have : c = 48 ∨ c = 49 ∨ c = 50 ∨ c = 51 ∨ c = 52 ∨ c = 53 ∨ c = 54 ∨ c = 55 ∨ c = 56 ∨ c = 57 := by omega
  simp
  exact this
theorem numL_head {n : Nat} (h : (TL.numL n)[0]? = some 48) : n = 0 := by
  induction n using Nat.strongRecOn with
  | _ n ih =>
    by_cases hn : n < 10
    · rw [TL.numL_lt hn] at h
      have := Option.some.inj h
      omega
    · rw [TL.numL_step (by omega)] at h
      have hl : 0 < (TL.numL (n / 10)).length := List.length_pos_iff.mpr (TL.numL_ne _)
      rw [List.getElem?_append_left hl] at h
      have := ih (n / 10) (by omega) h
      omega
section
variable {P : Program} {w : World} {K : PySem.W.Frag} {mg : Str → Option Value} {base : Heap} {aN aO : Addr}
theorem k_shown (T : Txt K mg aN aO) (F : DefAt K mg "shown" s_shown) : C8.Cal P w K mg base 1 "shown" (spShown K) [] := by
  refine cal_of F sc_shown b_shown (fun vs H Q E h => ?_) (fun f cdv A outer s H vs Q E hr h => ?_)
  · obtain ⟨v, q, rfl, _⟩ := h
    rfl
  · obtain ⟨v, q, rfl, hv, sz, hQ⟩ := h
    obtain ⟨a, rfl, hs⟩ := dp_q hv
    have bn := ratS_len sz.1 sz.2 (by decide)
    have b1 := numS_len sz.1 (by decide)
    have b2 := numS_len (i := (q.den : Nat)) (by rw [Int.natAbs_natCast]; exact sz.2) (by decide)
    refine ⟨_, (pss_cons (ps_if (pt_cmpR op_eq (pe_ix ix_tup (pv 0) pe_int (fun _ _ => rfl)) pe_int (nomark _)) (pss_one (ps_ret (pe_callTy call_str_int rfl T.str (by decide +kernel) (pa_cons (pe_ix ix_tup (pv 0) pe_int (fun _ _ => rfl)) pa_nil))))
    pss_nil)
    (pss_one (ps_ret (pe_op op_add_str (pe_op op_add_str (pe_callTy call_str_int rfl T.str (by decide +kernel) (pa_cons (pe_ix ix_tup (pv 0) pe_int (fun _ _ => rfl)) pa_nil)) pe_str) (pe_callTy call_str_int rfl T.str (by decide +kernel) (pa_cons (pe_ix ix_tup (pv 0) pe_int (fun _ _ => rfl)) pa_nil)))))), ?_⟩
    refine ⟨_, rfl, a, _, _, _, rfl, rfl, hs, rfl, rfl, _, rfl, ?_⟩
    by_cases hd : q.den = 1
    · rw [show decide (V.int ((q.den : Nat) : Int) = V.int 1) = true from decide_eq_true (by rw [hd]; rfl)]
      refine iteT ?_
      refine ⟨_, rfl, a, _, _, _, rfl, rfl, hs, rfl, _, rfl, sz.log.1, ?_⟩
      show Q (.str (Str.ofString (toString q.num))) H
      rw [num_text]
      have e : ratS q = numS q.num := by
        unfold ratS
        rw [if_pos hd]
      rw [← e]
      exact hQ
    · rw [show decide (V.int ((q.den : Nat) : Int) = V.int 1) = false from decide_eq_false fun e => hd (by have := V.int.inj e; omega)]
      refine iteF ?_
      refine ⟨_, rfl, a, _, _, _, rfl, rfl, hs, rfl, _, rfl, sz.log.1, ?_⟩
      have e1 : Str.ofString (toString q.num) = S (numS q.num) := num_text _
      have e2 : Str.ofString (toString ((q.den : Nat) : Int)) = S (numS (q.den : Nat)) := num_text _
      refine ⟨_, _, rfl, rfl, ?_, ?_⟩
      · show (Str.ofString (toString q.num)).length + ("/" : Str).length ≤ sizeLine
        rw [e1, l_slash, S_len, S_len, sizeLine_eq]
        show (numS q.num).length + 1 ≤ _
        omega
      refine ⟨_, rfl, a, _, _, _, rfl, rfl, hs, rfl, _, rfl, sz.log.2, _, _, rfl, rfl, ?_, ?_⟩
      · show (Str.ofString (toString q.num) ++ ("/" : Str)).length + (Str.ofString (toString ((q.den : Nat) : Int))).length ≤ sizeLine
        rw [e1, e2, l_slash, S_cat, S_len, S_len, List.length_append, sizeLine_eq]
        show (numS q.num).length + 1 + _ ≤ _
        omega
      show Q (.str (Str.ofString (toString q.num) ++ ("/" : Str) ++ Str.ofString (toString ((q.den : Nat) : Int)))) H
      rw [e1, e2, l_slash, S_cat, S_cat]
      have e : ratS q = numS q.num ++ [47] ++ numS (q.den : Nat) := by
        unfold ratS
        rw [if_neg hd, List.append_assoc]
        rfl
      rw [← e]
      exact hQ
theorem k_read_whole (T : Txt K mg aN aO) (F : DefAt K mg "read_whole" s_read_whole) : C8.Cal P w K mg base 1 "read_whole" spReadW [] := by
  refine cal_of F sc_read_whole b_read_whole (fun vs H Q E h => ?_) (fun f cdv A outer s H vs Q E hr h => ?_)
  · obtain ⟨i, rfl, _⟩ := h
    rfl
  · obtain ⟨i, rfl, hi, hQ⟩ := h
    refine ⟨_, (pss_cons (ps_set (i := 1) sc_read_whole.nd rfl (Or.inl rfl) (pv 0))
    (pss_cons (ps_if (pt_val (pe_m1 PySem.F.slot_str_startswith PySem.F.type_str_startswith mt_startswith (pv 0) pe_str)) (pss_one (ps_set (i := 1) sc_read_whole.nd rfl (Or.inl rfl) (pe_slice C8.sl_txt (pv 0) (po_some pe_int) po_none)))
    pss_nil)
    (pss_cons (ps_if (PW.pt (pw_or (pt_cmpR op_eq (pv 1) pe_str (nomark _)) (pw_or1 (pt_cmpR op_gt (pe_callB call_len_str rfl T.len (by decide +kernel) (pa_cons (pv 1) pa_nil)) (C8.pe_gc rfl T.MOST_FIGURES_texts) (nomark _))))) (pss_one ps_never)
    pss_nil)
    (pss_cons (ps_for PassesOwn.never rfl (pi_str (pv 1)) (pg_name (i := 2) sc_read_whole.nd rfl (Or.inl rfl))
    (pss_one (ps_if (pt_cmpR op_notIn_sign (pv 2) (C8.pe_gc rfl T.FIGURES) rfl) (pss_one ps_never)
    pss_nil)))
    (pss_cons (ps_if (PW.pt (pw_and (pt_cmpR op_eq (pe_ix ix_str (pv 1) pe_int (fun _ _ => rfl)) pe_str (nomark _)) (pw_and1 (pt_cmpR op_ne (pv 0) pe_str (nomark _))))) (pss_one ps_never)
    pss_nil)
    (pss_cons (ps_if (pt_cmpR op_eq (pv 1) (pv 0) (nomark _)) (pss_one (ps_ret (pe_callTy call_int_str rfl T.int (by decide +kernel) (pa_cons (pv 1) pa_nil))))
    pss_nil)
    (pss_one (ps_ret (pe_un un_neg (pe_callTy call_int_str rfl T.int (by decide +kernel) (pa_cons (pv 1) pa_nil))))))))))), ?_⟩
    obtain ⟨L, eL⟩ : ∃ L, L = TL.numL i.natAbs := ⟨_, rfl⟩
    have Ln : L ≠ [] := by rw [eL]; exact TL.numL_ne _
    have Ld : ∀ c, c ∈ L → 48 ≤ c ∧ c ≤ 57 := by rw [eL]; exact TL.numL_digits _
    have Ll : L.length ≤ 60 := by rw [eL]; exact TL.numL_len (by decide) hi
    have Lv : NumText.digitsVal L = i.natAbs := by rw [eL]; exact TL.numL_val _
    obtain ⟨c0, L', eL'⟩ : ∃ c0 L', L = c0 :: L' := by
      cases L with
      | nil => exact absurd rfl Ln
      | cons c r => exact ⟨c, r, rfl⟩
    obtain ⟨tx, htx⟩ : ∃ tx, tx = numS i := ⟨_, rfl⟩
    have hcase : (tx = 45 :: L ∧ i < 0) ∨ (tx = L ∧ ¬ i < 0) := by
      rw [htx, eL]
      unfold numS
      by_cases h : i < 0
      · rw [if_pos h]; exact .inl ⟨rfl, h⟩
      · rw [if_neg h]; exact .inr ⟨rfl, h⟩
    rw [← htx]
    have hst : Txt.startswith (S tx) ("-" : Str) = decide (i < 0) := by
      rw [l_minus, starts_S]
      rcases hcase with ⟨e, h⟩ | ⟨e, h⟩
      · rw [e, decide_eq_true h]; rfl
      · rw [e, decide_eq_false h, eL']
        have := Ld c0 (by rw [eL']; exact List.mem_cons_self)
        show (_ && ([c0] == [45])) = false
        rw [show ([c0] == [45]) = false from beq_eq_false_iff_ne.mpr fun e => by have := (List.cons.inj e).1; omega, Bool.and_false]
    refine ⟨_, rfl, ?_⟩
    refine ⟨_, rfl, ⟨_, rfl⟩, _, _, rfl, rfl, _, rfl, ?_⟩
    rw [hst]
    have e0 : decide (V.str (S L) = V.str ("" : Str)) = false := by
      rw [l_empty, dec_S]
      exact decide_eq_false Ln
    have fin : ∀ j : Nat, ∀ c, L[j]? = some c → decide (c ∈ ("0123456789" : Str).cps.toList) = true := fun j c hc => figs_mem (Ld c (List.mem_of_getElem? hc))
    have z0 : c0 = 48 → i = 0 := fun e => by
      have := numL_head (n := i.natAbs) (by rw [← eL, eL', e]; rfl)
      omega
    have lt : tx.length ≤ 61 := by
      rcases hcase with ⟨e, _⟩ | ⟨e, _⟩
      · rw [e, List.length_cons]; omega
      · rw [e]; omega
    rcases hcase with ⟨e, h⟩ | ⟨e, h⟩
    · rw [decide_eq_true h]
      refine iteT ?_
      refine ⟨_, rfl, 1, rfl, _, rfl, by rw [S_len, sizeLine_eq]; omega, ?_⟩
      rw [slice_from (by decide), show tx.drop (1 : Int).toNat = L from by rw [e]; rfl]
      refine ⟨_, rfl, rfl, _, rfl, ?_⟩
      rw [e0]
      refine iteF ?_
      refine ⟨_, rfl, _, rfl, by rw [S_len, sizeLine_eq]; omega, _, _, rfl, rfl, false, congrArg V.bl (decide_eq_false (by rw [S_len]; omega)), iteF ?_⟩
      refine ⟨_, rfl, _, rfl, for_by (n := L.length) (fun j σ H' => H' = H ∧ ∃ a2, σ = [some (V.str (S tx)), some (V.str (S L)), a2]) ⟨rfl, Option.none, rfl⟩ (fun j σ H' hj hP => ?_) (fun σ H' hP => ?_)⟩
      · obtain ⟨rfl, a2, rfl⟩ := hP
        refine ⟨by show j < (S L).cps.size; simpa using hj, fun v H1 hv => ?_⟩
        obtain ⟨rfl, c, hc, rfl⟩ := hv
        have hc' : L[j]? = some c := by simpa using hc
        refine ⟨_, rfl, c, _, rfl, rfl, _, rfl, ?_⟩
        rw [fin j c hc']
        refine iteF ?_
        exact ⟨rfl, _, rfl⟩
      · obtain ⟨rfl, a2, rfl⟩ := hP
        refine ⟨by show (S L).cps.size ≤ L.length; simp, ?_⟩
        refine ⟨_, rfl, S L, 0, c0, rfl, rfl, by rw [S_len, sizeLine_eq]; omega, by rw [eL']; exact atI_nat (j := 0) rfl, rfl, _, rfl, ?_⟩
        have d1 : decide (V.str (⟨#[c0]⟩ : Str) = V.str ("0" : Str)) = decide (c0 = 48) := by
          rw [l_zero]
          show decide (V.str (S [c0]) = V.str (S [48])) = _
          rw [dec_S]
          exact decide_eq_decide.mpr ⟨fun e => (List.cons.inj e).1, fun e => by rw [e]⟩
        rw [d1]
        by_cases hc : c0 = 48
        · rw [decide_eq_true hc]
          refine iteT ?_
          exact absurd (z0 hc) (by omega)
        · rw [decide_eq_false hc]
          refine iteF ?_
          refine ⟨_, rfl, _, rfl, rfl, _, rfl, ?_⟩
          rw [show decide (V.str (S L) = V.str (S tx)) = false from by
            rw [dec_S, e]
            exact decide_eq_false fun z => by
              have := congrArg List.length z
              rw [List.length_cons] at this
              omega]
          refine iteF ?_
          refine ⟨_, rfl, _, _, rfl, int_S (List.all_eq_true.mpr fun c hc => by rw [decide_eq_true (Ld c hc).1, decide_eq_true (Ld c hc).2]; rfl) Ln (by omega), by rw [S_len]; omega, _, rfl, ?_⟩
          rw [Lv]
          have ei : -((i.natAbs : Nat) : Int) = i := by omega
          show Q (.int (-((i.natAbs : Nat) : Int))) H'
          rw [ei]
          exact hQ
    · rw [decide_eq_false h]
      refine iteF ?_
      have e' : S tx = S L := by rw [e]
      rw [show L2.start ["text", "figures", "sign"] [V.str (S tx)] = [some (V.str (S tx)), Option.none, Option.none] from rfl, show (([some (V.str (S tx)), Option.none, Option.none] : L2.St).set 1 (some (V.str (S tx)))) = [some (V.str (S tx)), some (V.str (S L)), Option.none] from by rw [e']; rfl]
      refine ⟨_, rfl, rfl, _, rfl, ?_⟩
      rw [e0]
      refine iteF ?_
      refine ⟨_, rfl, _, rfl, by rw [S_len, sizeLine_eq]; omega, _, _, rfl, rfl, false, congrArg V.bl (decide_eq_false (by rw [S_len]; omega)), iteF ?_⟩
      refine ⟨_, rfl, _, rfl, for_by (n := L.length) (fun j σ H' => H' = H ∧ ∃ a2, σ = [some (V.str (S tx)), some (V.str (S L)), a2]) ⟨rfl, Option.none, rfl⟩ (fun j σ H' hj hP => ?_) (fun σ H' hP => ?_)⟩
      · obtain ⟨rfl, a2, rfl⟩ := hP
        refine ⟨by show j < (S L).cps.size; simpa using hj, fun v H1 hv => ?_⟩
        obtain ⟨rfl, c, hc, rfl⟩ := hv
        have hc' : L[j]? = some c := by simpa using hc
        refine ⟨_, rfl, c, _, rfl, rfl, _, rfl, ?_⟩
        rw [fin j c hc']
        refine iteF ?_
        exact ⟨rfl, _, rfl⟩
      · obtain ⟨rfl, a2, rfl⟩ := hP
        refine ⟨by show (S L).cps.size ≤ L.length; simp, ?_⟩
        refine ⟨_, rfl, S L, 0, c0, rfl, rfl, by rw [S_len, sizeLine_eq]; omega, by rw [eL']; exact atI_nat (j := 0) rfl, rfl, _, rfl, ?_⟩
        have d1 : decide (V.str (⟨#[c0]⟩ : Str) = V.str ("0" : Str)) = decide (c0 = 48) := by
          rw [l_zero]
          show decide (V.str (S [c0]) = V.str (S [48])) = _
          rw [dec_S]
          exact decide_eq_decide.mpr ⟨fun e => (List.cons.inj e).1, fun e => by rw [e]⟩
        rw [d1]
        by_cases hc : c0 = 48
        · rw [decide_eq_true hc]
          refine iteT ?_
          refine ⟨_, rfl, rfl, _, rfl, ?_⟩
          rw [show decide (V.str (S tx) = V.str ("0" : Str)) = true from by
            rw [l_zero, dec_S, htx, z0 hc]
            decide +kernel]
          refine iteF ?_
          refine ⟨_, rfl, _, rfl, rfl, _, rfl, ?_⟩
          rw [show decide (V.str (S L) = V.str (S tx)) = true from by
            rw [dec_S, e]
            exact decide_eq_true rfl]
          refine iteT ?_
          refine ⟨_, rfl, _, _, rfl, int_S (List.all_eq_true.mpr fun c hc => by rw [decide_eq_true (Ld c hc).1, decide_eq_true (Ld c hc).2]; rfl) Ln (by omega), by rw [S_len]; omega, ?_⟩
          rw [Lv]
          have ei : ((i.natAbs : Nat) : Int) = i := by omega
          show Q (.int ((i.natAbs : Nat) : Int)) H'
          rw [ei]
          exact hQ
        · rw [decide_eq_false hc]
          refine iteF ?_
          refine ⟨_, rfl, _, rfl, rfl, _, rfl, ?_⟩
          rw [show decide (V.str (S L) = V.str (S tx)) = true from by
            rw [dec_S, e]
            exact decide_eq_true rfl]
          refine iteT ?_
          refine ⟨_, rfl, _, _, rfl, int_S (List.all_eq_true.mpr fun c hc => by rw [decide_eq_true (Ld c hc).1, decide_eq_true (Ld c hc).2]; rfl) Ln (by omega), by rw [S_len]; omega, ?_⟩
          rw [Lv]
          have ei : ((i.natAbs : Nat) : Int) = i := by omega
          show Q (.int ((i.natAbs : Nat) : Int)) H'
          rw [ei]
          exact hQ
theorem k_read (T : Txt K mg aN aO) (F : DefAt K mg "read" s_read) (c_read_whole : C8.Cal P w K mg base 1 "read_whole" spReadW []) (c_is_ratio : C8.Cal P w K mg base 2 "is_ratio" (spIsRatio K) []) : C8.Cal P w K mg base 3 "read" (spRead K) [] := by
  refine cal_of F sc_read b_read (fun vs H Q E h => ?_) (fun f cdv A outer s H vs Q E hr h => ?_)
  · obtain ⟨q, rfl, _⟩ := h
    rfl
  · obtain ⟨q, rfl, hf, hQ⟩ := h
    have l1 : (numS q.num).length ≤ 61 := by
      have := TL.numL_len (n := q.num.natAbs) (k := 60) (by decide) hf.1
      unfold numS
      split
      · rw [List.length_cons]; omega
      · omega
    have l2 : (numS (q.den : Nat)).length ≤ 61 := by
      have := TL.numL_len (n := q.den) (k := 60) (by decide) hf.2
      rw [numS_nat]
      omega
    refine ⟨_, (pss_cons (ps_if (pt_not (pt_val (pe_callB call_isi rfl T.isinstance (by decide +kernel) (pa_cons (pv 0) (pa_cons (pe_bltn (v := .ty "str") (u := .type "str") rfl T.str (by decide +kernel) rfl) pa_nil))))) (pss_one ps_never)
    pss_nil)
    (pss_cons (ps_asg (pe_partition (pv 0) pe_str) (pg_tup rfl (pgs_cons (pg_name (i := 1) sc_read.nd rfl (Or.inl rfl)) (pgs_cons (pg_name (i := 2) sc_read.nd rfl (Or.inl rfl)) (pgs_cons (pg_name (i := 3) sc_read.nd rfl (Or.inl rfl)) pgs_nil)))))
    (pss_cons (ps_if (pt_cmpR op_eq (pv 2) pe_str (nomark _)) (pss_one (ps_ret (pe_tup (pa_cons (C8.pe_c c_read_whole hr (by decide) rfl (pa_cons (pv 1) pa_nil)) (pa_cons pe_int pa_nil)))))
    pss_nil)
    (pss_cons (ps_set (i := 4) sc_read.nd rfl (Or.inl rfl) (pe_tup (pa_cons (C8.pe_c c_read_whole hr (by decide) rfl (pa_cons (pv 1) pa_nil)) (pa_cons (C8.pe_c c_read_whole hr (by decide) rfl (pa_cons (pv 3) pa_nil)) pa_nil))))
    (pss_cons (ps_if (PW.pt (pw_or (pt_cmpR op_lt (pe_ix ix_tup (pv 4) pe_int (fun _ _ => rfl)) pe_int (nomark _)) (pw_or1 (pt_not (pt_val (C8.pe_c c_is_ratio hr (by decide) rfl (pa_cons (pv 4) pa_nil))))))) (pss_one ps_never)
    pss_nil)
    (pss_one (ps_ret (pv 4)))))))), ?_⟩
    refine ⟨_, rfl, _, _, _, _, true, rfl, .ty "str", .base (.str _), kit_b (by decide +kernel), true, rfl, iteF ?_⟩
    have ll : (S (ratS q)).length ≤ sizeLine := by
      rw [S_len, sizeLine_eq]
      unfold ratS
      split
      · omega
      · rw [List.length_append, List.length_cons]; omega
    refine ⟨_, rfl, ⟨_, rfl⟩, _, _, rfl, rfl, by decide +kernel, ll, fun t ht => ?_⟩
    by_cases hd : q.den = 1
    · have e : ratS q = numS q.num := by
        unfold ratS
        rw [if_pos hd]
      have ep : Txt.partition (S (ratS q)) ("/" : Str) = (S (numS q.num), S [], S []) := by
        rw [l_slash, e]
        exact partition_none (List.cons_ne_nil _ _) (par_head_none (num47 _))
      rw [ep]
      refine ⟨t, _, rfl, SqT.of upd_same, rfl, _, _, rfl, _, _, rfl, _, _, rfl, rfl, ?_⟩
      refine ⟨_, rfl, rfl, _, rfl, ?_⟩
      rw [show decide (V.str (S []) = V.str ("" : Str)) = true from by rw [l_empty]; exact decide_eq_true rfl]
      refine iteT ?_
      have n1 : Same H (upd H t (.tup [V.str (S (numS q.num)), .str (S []), .str (S [])])) := same_new ht
      refine ⟨_, rfl, q.num, rfl, hf.1, by show 2 ≤ sizeLine; decide, fun u hu => ?_⟩
      have n2 := n1.trans (same_new (o := .tup [V.int q.num, .int 1]) hu)
      refine hQ _ _ n2 (dif_q n2 (q_dp (SqT.of ?_)))
      rw [hd]
      exact upd_same
    · have e : ratS q = numS q.num ++ ([47] ++ numS (q.den : Nat)) := by
        unfold ratS
        rw [if_neg hd]
        rfl
      have ep : Txt.partition (S (ratS q)) ("/" : Str) = (S (numS q.num), S [47], S (numS (q.den : Nat))) := by
        rw [l_slash, e]
        exact partition_some (List.cons_ne_nil _ _) (par_head (sep := []) _ (num47 _))
      rw [ep]
      refine ⟨t, _, rfl, SqT.of upd_same, rfl, _, _, rfl, _, _, rfl, _, _, rfl, rfl, ?_⟩
      refine ⟨_, rfl, rfl, _, rfl, ?_⟩
      rw [show decide (V.str (S [47]) = V.str ("" : Str)) = false from by
        rw [l_empty, dec_S]
        exact decide_eq_false (List.cons_ne_nil _ _)]
      refine iteF ?_
      have n1 : Same H (upd H t (.tup [V.str (S (numS q.num)), .str (S [47]), .str (S (numS (q.den : Nat)))])) := same_new ht
      refine ⟨_, rfl, q.num, rfl, hf.1, _, rfl, ((q.den : Nat) : Int), rfl, by rw [Int.natAbs_natCast]; exact hf.2, by show 2 ≤ sizeLine; decide, fun u hu => ?_⟩
      have n2 := n1.trans (same_new (o := .tup [V.int q.num, .int (q.den : Nat)]) hu)
      have hu2 : SqT K (upd (upd H t (.tup [V.str (S (numS q.num)), .str (S [47]), .str (S (numS (q.den : Nat)))])) u (.tup [V.int q.num, .int (q.den : Nat)])) u [.int q.num, .int (q.den : Nat)] := SqT.of upd_same
      have hd2 : 2 ≤ q.den := by have := q.den_pos; omega
      refine ⟨_, rfl, u, _, _, _, rfl, rfl, hu2, rfl, _, _, rfl, rfl, false, congrArg V.bl (decide_eq_false (by omega)), iteF ?_⟩
      refine ⟨_, rfl, _, _, _, rfl, ⟨u, rfl, hu2⟩, true, by rw [isRatio_of], iteF ?_⟩
      exact ⟨_, rfl, hQ _ _ n2 (dif_q n2 (q_dp hu2))⟩
theorem joinL_len (sep : List Nat) (B : Nat) : ∀ l : List (List Nat), (∀ x, x ∈ l → x.length ≤ B) → (TL.joinL sep l).length ≤ l.length * (B + sep.length)
  | [], _ => Nat.zero_le _
  | [p], h => by
    have := h p List.mem_cons_self
    show p.length ≤ 1 * _
    omega
  | p :: q :: r, h => by
    have h1 := h p List.mem_cons_self
    have h2 := joinL_len sep B (q :: r) fun x hx => h x (List.mem_cons_of_mem _ hx)
    show (p ++ (sep ++ TL.joinL sep (q :: r))).length ≤ _
    rw [List.length_append, List.length_append, List.length_cons, Nat.add_mul]
    omega
theorem sum_len (B : Nat) : ∀ l : List (List Nat), (∀ x, x ∈ l → x.length ≤ B) → ((l.map S).map (·.length)).sum ≤ l.length * B
  | [], _ => Nat.zero_le _
  | p :: r, h => by
    have h1 := h p List.mem_cons_self
    have h2 := sum_len B r fun x hx => h x (List.mem_cons_of_mem _ hx)
    rw [List.map_cons, List.map_cons, List.sum_cons, S_len, List.length_cons, Nat.add_mul]
    omega
theorem map_str {α : Type} (g : α → List Nat) (l : List α) : l.map (fun x => V.str (S (g x))) = ((l.map g).map S).map V.str := by
  rw [List.map_map, List.map_map]
  rfl
theorem k_shown_row (T : Txt K mg aN aO) (F : DefAt K mg "shown_row" s_shown_row) (c_shown : C8.Cal P w K mg base 1 "shown" (spShown K) []) : C8.Cal P w K mg base 2 "shown_row" (spShownRow K) [] := by
  refine cal_of F sc_shown_row b_shown_row (fun vs H Q E h => ?_) (fun f cdv A outer s H vs Q E hr h => ?_)
  · obtain ⟨v, r, rfl, _⟩ := h
    rfl
  · obtain ⟨v, r, rfl, hv, hl, sz, hQ⟩ := h
    obtain ⟨a, xs, rfl, hs, hd⟩ := dp_list hv
    have hlen := hd.length
    rw [encs_len] at hlen
    refine ⟨_, (pss_one (ps_ret (pe_join pe_str (pe_lc (own := [("one", 1)]) rfl sc_shown_row.nd (pi_list (pv 0)) (blkOk_by (own := [("one", 1)]) (N := N_shown_row) (sc := defScope s_shown_row) (by decide +kernel)) (fun _ _ _ _ _ => (pg_name (i := 1) sc_shown_row.nd rfl (Or.inl rfl))) (fun _ _ _ _ _ => pts_nil) (fun _ _ _ _ _ => (C8.pe_c c_shown hr (by decide) rfl (pa_cons (pv 1) pa_nil))))))), ?_⟩
    refine ⟨⟨_, rfl⟩, _, rfl, a, rfl, ⟨xs, hs⟩, fun D hD => lc_list (K := K) (a := a) (xs := xs) (fun i H' => Same H H' ∧ H' D = some (.lst ((r.take i).map fun q => V.str (S (ratS q)))))
      ⟨same_new hD, upd_same⟩ (fun i H' _ hP => hP.1.seq hs) (fun i x H' hx hP => ?_) (fun H' hP => ?_)⟩
    · obtain ⟨m1, hL⟩ := hP
      obtain ⟨d, hd1, hd2⟩ := hd.get' hx
      obtain ⟨q, hq, rfl⟩ := encs_get hd1
      have hi := (List.getElem?_eq_some_iff.mp hq).1
      refine ⟨rfl, ?_⟩
      refine ⟨_, rfl, _, q, rfl, dp_same m1 hd2, sz q (List.mem_of_getElem? hq), _, hL, len_small (by rw [List.length_map]; exact Nat.le_trans (List.length_take_le _ _) (by omega)), same_put m1 hD, ?_⟩
      rw [upd_same, take_more hq, List.map_append]
      rfl
    · obtain ⟨m1, hL⟩ := hP
      rw [hlen, List.take_length, map_str] at hL
      have bl : ∀ x, x ∈ r.map ratS → x.length ≤ 3900 := fun x hx => by
        obtain ⟨q, hq, rfl⟩ := List.mem_map.mp hx
        have := ratS_len (sz q hq).1 (sz q hq).2 (by decide)
        omega
      refine ⟨S [44], D, (r.map ratS).map S, by rw [← l_comma], rfl, .inl (SqL.of hL), ?_, ?_⟩
      · have := sum_len 3900 (r.map ratS) bl
        rw [List.length_map] at this
        rw [List.length_map, List.length_map]
        show _ + r.length * 1 ≤ _
        omega
      · rw [join_S]
        exact hQ _ m1
theorem k_read_row (T : Txt K mg aN aO) (F : DefAt K mg "read_row" s_read_row) (c_read : C8.Cal P w K mg base 3 "read" (spRead K) []) : C8.Cal P w K mg base 4 "read_row" (spReadRow K) [] := by
  refine cal_of F sc_read_row b_read_row (fun vs H Q E h => ?_) (fun f cdv A outer s H vs Q E hr h => ?_)
  · obtain ⟨r, rfl, _⟩ := h
    rfl
  · obtain ⟨r, rfl, hne, hl, hf, hQ⟩ := h
    have bl : ∀ x, x ∈ r.map ratS → x.length ≤ 500 := fun x hx => by
      obtain ⟨q, hq, rfl⟩ := List.mem_map.mp hx
      have := ratS_len (k := 200) (Nat.lt_trans (hf q hq).1 (by decide)) (Nat.lt_trans (hf q hq).2 (by decide)) (by decide)
      omega
    have jl := joinL_len [44] 500 _ bl
    rw [List.length_map] at jl
    have je : rowS r ≠ [] := fun e => by
      unfold rowS at e
      cases r with
      | nil => exact hne rfl
      | cons q r =>
        cases r with
        | nil => exact ratS_ne q e
        | cons z r => exact ratS_ne q (List.append_eq_nil_iff.mp e).1
    have es : Txt.split (S (rowS r)) ("," : Str) = (r.map ratS).map S := by
      rw [l_comma, split_S (List.cons_ne_nil _ _) rfl]
      unfold rowS
      rw [spl_join (fun e => hne (List.map_eq_nil_iff.mp e)) fun p hp => ?_]
      obtain ⟨q, _, rfl⟩ := List.mem_map.mp hp
      exact fun h => by rcases ratS_mem h with h | h <;> omega
    refine ⟨_, (pss_cons (ps_if (pt_not (pt_val (pe_callB call_isi rfl T.isinstance (by decide +kernel) (pa_cons (pv 0) (pa_cons (pe_bltn (v := .ty "str") (u := .type "str") rfl T.str (by decide +kernel) rfl) pa_nil))))) (pss_one ps_never)
    pss_nil)
    (pss_cons (ps_if (pt_cmpR op_eq (pv 0) pe_str (nomark _)) (pss_one (ps_ret (pe_lst pa_nil)))
    pss_nil)
    (pss_one (ps_ret (pe_lc (own := [("part", 1)]) rfl sc_read_row.nd (pi_list (pe_split (pv 0) pe_str)) (blkOk_by (own := [("part", 1)]) (N := N_read_row) (sc := defScope s_read_row) (by decide +kernel)) (fun _ _ _ _ _ => (pg_name (i := 1) sc_read_row.nd rfl (Or.inl rfl))) (fun _ _ _ _ _ => pts_nil) (fun _ _ _ _ _ => (C8.pe_c c_read hr (by decide) rfl (pa_cons (pv 1) pa_nil)))))))), ?_⟩
    refine ⟨_, rfl, _, _, _, _, true, rfl, .ty "str", .base (.str _), kit_b (by decide +kernel), true, rfl, iteF ?_⟩
    refine ⟨_, rfl, rfl, _, rfl, ?_⟩
    rw [show decide (V.str (S (rowS r)) = V.str ("" : Str)) = false from by
      rw [l_empty, dec_S]
      exact decide_eq_false je]
    refine iteF ?_
    refine ⟨_, rfl, ⟨_, rfl⟩, _, _, rfl, rfl, by decide +kernel, ?_, fun a ha => ?_⟩
    · rw [S_len, sizeLine_eq]
      have : r.length * (500 + [44].length) ≤ 100 * 501 := Nat.mul_le_mul hl (Nat.le_refl _)
      unfold rowS
      omega
    rw [es]
    have n1 : Same H (upd H a (.lst (((r.map ratS).map S).map V.str))) := same_new ha
    generalize qA : upd H a (.lst (((r.map ratS).map S).map V.str)) = HA at n1 ⊢
    have hA : SqL K HA a (((r.map ratS).map S).map V.str) := SqL.of (by rw [← qA]; exact upd_same)
    have hlen : (((r.map ratS).map S).map V.str).length = r.length := by rw [List.length_map, List.length_map, List.length_map]
    refine ⟨a, rfl, ⟨_, hA⟩, fun D hD => lc_list (K := K) (a := a) (xs := ((r.map ratS).map S).map V.str) (fun i H' => Same HA H' ∧ ∃ ys, H' D = some (.lst ys) ∧ DpAll K (rem H' D) ys (encs (r.take i)))
      ⟨same_new hD, [], upd_same, .nil⟩ (fun i H' _ hP => hP.1.seq hA) (fun i x H' hx hP => ?_) (fun H' hP => ?_)⟩
    · obtain ⟨m1, ys, hL, hY⟩ := hP
      rw [← map_str, List.getElem?_map] at hx
      obtain ⟨q, hq, rfl⟩ := Option.map_eq_some_iff.mp hx
      have hi := (List.getElem?_eq_some_iff.mp hq).1
      refine ⟨rfl, ?_⟩
      refine ⟨_, rfl, q, rfl, hf q (List.mem_of_getElem? hq), fun H2 v n2 h2 => ?_⟩
      have hL2 := n2 _ _ hL
      refine ⟨_, hL2, len_small (by rw [hY.length, encs_len]; exact Nat.le_trans (List.length_take_le _ _) (by omega)), same_put (m1.trans n2) hD, _, upd_same, ?_⟩
      rw [rem_upd, take_more hq, encs_app]
      exact (dps_same (rem_same n2) hY).snoc (rem_q (dp_same (dif_sub _ _) h2) hL2)
    · obtain ⟨m1, ys, hL, hY⟩ := hP
      rw [hlen, List.take_length] at hY
      have mm := n1.trans m1
      exact hQ _ _ mm (dif_new (n1.free hD) hL (dif_qs mm (dps_same (rem_sub _ _) hY)))
end
end Np
end
section
set_option linter.all false
set_option maxRecDepth 100000
set_option maxHeartbeats 4000000
/-! zip of a tuple and a list, within a for. -/
namespace Np
open PySem PySem.Spec PyProof.Rows L2
def ItM (K : PySem.W.Frag) (a b : Addr) : It :=
  ⟨fun i H => ∃ (xs ys : List V) (x y : V), SqT K H a xs ∧ SqL K H b ys ∧ xs[i]? = some x ∧ ys[i]? = some y,
    fun i H v H' => ∃ T x y, v = .ref T ∧ H T = none ∧ H' = upd H T (.tup [x, y]) ∧ (∀ xs, SqT K H a xs → xs[i]? = some x) ∧ ∀ ys, SqL K H b ys → ys[i]? = some y,
    fun i H => ∃ xs ys : List V, SqT K H a xs ∧ SqL K H b ys ∧ xs.length = i ∧ ys.length = i⟩
theorem turn_zipM {P : Program} {w : World} {K : PySem.W.Frag} {elts : List Expr} {kk : Nat} {tpos : Pos} {a b z TI TO i1 i2 : Addr} (S : ZipSep2 z TI TO i1 i2 [i1, a] [i2, b]) (na : a ≠ i1) (nb : b ≠ i2) :
    Turn P w K (.Tuple elts kk tpos) (ItM K a b) [z, TI, TO, i1, i2] z (fun i h => IsZip h z TI TO .none ∧ IsTupOf2 h TI (.ref i1) (.ref i2) ∧ (∃ x y, IsTupOf2 h TO x y) ∧ h.IsTupleIter i1 a i ∧ h.IsListIter i2 b i) where
  mem := List.mem_cons_self
  obj := fun i h st c hc => by
    obtain ⟨hz, hTI, ⟨x, y, hTO⟩, ⟨o1, e1, _, d1⟩, ⟨o2, e2, _, d2⟩⟩ := st
    have e' : c = z ∨ c = TI ∨ c = TO ∨ c = i1 ∨ c = i2 := by simpa using hc
    rcases e' with rfl | rfl | rfl | rfl | rfl
    · exact ⟨_, hz, fun v q => nomatch q⟩
    · exact ⟨_, hTI, fun v q => nomatch q⟩
    · exact ⟨_, hTO, fun v q => nomatch q⟩
    · exact ⟨o1, e1, fun v q => by rw [d1] at q; cases q⟩
    · exact ⟨o2, e2, fun v q => by rw [d2] at q; cases q⟩
  keep := fun i h h' st k => by
    obtain ⟨hz, hTI, ⟨x, y, hTO⟩, h1, h2⟩ := st
    exact ⟨k z (by simp) _ hz, k TI (by simp) _ hTI, ⟨x, y, k TO (by simp) _ hTO⟩, h1.at fun o q => k i1 (by simp) o q, h2.at fun o q => k i2 (by simp) o q⟩
  item := by
    intro X hP hw hK hc i pins s σ H E I hf st hg
    subst hP hw hK
    obtain ⟨hz, hTI, ⟨x0, y0, hTO⟩, h1, h2⟩ := st
    obtain ⟨xs, ys, x, y, hqx, hqy, hx, hy⟩ := hg
    obtain ⟨its, rv, p, _⟩ := I.tuple hqx
    obtain ⟨its2, rv2, p2, _⟩ := I.list hqy
    obtain ⟨u, hu, ru⟩ := rv.get hx
    obtain ⟨u2, hu2, ru2⟩ := rv2.get hy
    have hzl : z < s.heap.objs.size := Heap.lt_size hz
    have D1 := Draws.tuple (prog := X.prog) (w := X.w) (A := X.A.in1) (I.ok.hd hc) i1 a na its.toArray
    have D2 := Draws.list (prog := X.prog) (w := X.w) (A := X.A.in1) (I.ok.hd hc) i2 b nb its2.toArray
    refine wpAny_pyNext_zipD2_item S D1 D2 hz hTI hTO ⟨h1, p⟩ ⟨h2, p2.isList⟩ (by simpa using (List.getElem?_eq_some_iff.mp hu).1) (by simpa using (List.getElem?_eq_some_iff.mp hu2).1) fun x1 x2 h' tk q1 q2 z' TO' s1' s2' hT hsz hk => ?_
    have e1 : x1 = u := by
      have : its[i]? = some x1 := by simpa using q1
      rw [hu] at this
      exact (Option.some.inj this).symm
    have e2 : x2 = u2 := by
      have : its2[i]? = some x2 := by simpa using q2
      rw [hu2] at this
      exact (Option.some.inj this).symm
    subst e1 e2
    refine ⟨_, rfl, wpAny_letOwnedTupleGo_zip (s := { s with heap := h', toks := tk }) z' fun h'' z'' sb => ?_⟩
    have hT2 : h''.get? s.heap.objs.size = some { cls := .type "tuple", data := .seq #[x1, x2] } := (sb.2 _ (Nat.ne_of_gt hzl)).trans hT
    have new : ObjOk X.prog X.w (upd H s.heap.objs.size (.tup [x, y])) h'' s.heap.objs.size (.tup [x, y]) :=
      ⟨by show 2 ≤ sizeLine; decide, [x1, x2], .cons ru (.cons ru2 .nil), ⟨_, hT2, rfl, _, rfl⟩⟩
    have I1 : Inv X pins σ (upd H s.heap.objs.size (.tup [x, y])) { s with heap := h'', toks := tk } :=
      I.turnedNew (t' := tk) (ch := [z, TI, TO, i1, i2]) (fun c o hb q => (sb.2 c (fun q' => hb (by simp [q']))).trans (hk c o (fun q' => hb (by simp [q'])) (fun q' => hb (by simp [q'])) (fun q' => hb (by simp [q'])) (fun q' => hb (by simp [q'])) q)) hf (Nat.le_refl _) new
    refine ⟨.ref s.heap.objs.size, _, I1, rfl, ⟨_, x, y, rfl, I.hok.fresh (Nat.le_refl _), rfl, fun l hl => by rw [I.tuple_inj hl hqx]; exact hx, fun l hl => by rw [I.list_inj hl hqy]; exact hy⟩, ⟨z'', ?_, ⟨x1, x2, ?_⟩, ?_, ?_⟩, fun c hcm => ?_⟩
    · exact (sb.2 _ S.TIz).trans (hk _ _ S.TIz S.TITO S.TIi1 S.TIi2 hTI)
    · exact (sb.2 _ S.TOz).trans TO'
    · exact s1'.1.at fun o q => (sb.2 _ S.zi1.symm).trans q
    · exact s2'.1.at fun o q => (sb.2 _ S.zi2.symm).trans q
    · have hlt : c < s.heap.objs.size := by
        have e' : c = z ∨ c = TI ∨ c = TO ∨ c = i1 ∨ c = i2 := by simpa using hcm
        rcases e' with q | q | q | q | q
        · rw [q]; exact hzl
        · rw [q]; exact Heap.lt_size hTI
        · rw [q]; exact Heap.lt_size hTO
        · rw [q]; obtain ⟨_, e1, _⟩ := h1; exact Heap.lt_size e1
        · rw [q]; obtain ⟨_, e2, _⟩ := h2; exact Heap.lt_size e2
      rw [upd_ne (Nat.ne_of_lt hlt)]
      exact (hf c hcm).1
  done := by
    intro X hP hw hK hc i pins s σ H E I hf st hg
    subst hP hw hK
    obtain ⟨hz, hTI, ⟨x0, y0, hTO⟩, h1, h2⟩ := st
    obtain ⟨xs, ys, hqx, hqy, hl1, hl2⟩ := hg
    obtain ⟨its, rv, p, _⟩ := I.tuple hqx
    obtain ⟨its2, rv2, p2, _⟩ := I.list hqy
    have l1 := rv.length
    have l2 := rv2.length
    have D1 := Draws.tuple (prog := X.prog) (w := X.w) (A := X.A.in1) (I.ok.hd hc) i1 a na its.toArray
    have D2 := Draws.list (prog := X.prog) (w := X.w) (A := X.A.in1) (I.ok.hd hc) i2 b nb its2.toArray
    exact wpAny_pyNext_zipD2_end S D1 D2 hz hTI hTO ⟨h1, p⟩ ⟨h2, p2.isList⟩ (by simp; omega) (by simp; omega) (.inl (by simp; omega)) fun h' tk hk => ⟨rfl, I.turnedL (t' := tk) (ch := [z, TI, TO, i1, i2]) (fun c o hb q =>
      hk c o (fun q' => hb (by simp [q'])) (fun q' => hb (by simp [q'])) (fun q' => hb (by simp [q'])) (fun q' => hb (by simp [q'])) q) hf⟩
  self := fun A i s Q E st h => wpAny_pyIter_zip st.1 h
def iZipM (K : PySem.W.Frag) (ta : TA) : TI := fun σ H R => ta σ H fun vs H1 => ∃ a b xs ys, vs = [.ref a, .ref b] ∧ SqT K H1 a xs ∧ SqL K H1 b ys ∧ R (ItM K a b) H1
theorem pi_zipM {X : Cx} {e e2 : Expr} {ta : TA} {p pos tpos : Pos} {elts : List Expr} {kk : Nat} (hg : Gl X "zip") (hm : X.mg "zip" = none) (ha : PA X [e, e2] ta)
    (hs : starEach [e, e2] X.env = (false, eval e X.env) :: starEach [e2] X.env := by rfl) (hpl : (backTo pos (starEach [e2] X.env)).any (·.1) = false := by rfl) :
    PI X (.Tuple elts kk tpos) (.Call (.Name "zip" p) [e, e2] [] pos) (iZipM X.K ta) := by
  refine ⟨fun pins s σ H R I h => ?_⟩
  refine Call_ (ld_blt I hg hm PyProof.Rows.boot_zip (PyProof.Rows.callWith_type1 (thn (ha.run pos pins s σ H _ I h) fun us s1 ⟨vs, H1, I1, r1, q1⟩ => ?_) hs hpl))
  obtain ⟨a, b, xs, ys, ex, hqx, hqy, q⟩ := q1
  subst ex
  cases r1 with
  | cons r rr =>
    cases rr with
    | cons r' rr =>
      cases rr
      cases r
      cases r'
      have fresh5 : ∀ c, c ∈ [s1.heap.objs.size + 4, s1.heap.objs.size + 2, s1.heap.objs.size + 3, s1.heap.objs.size, s1.heap.objs.size + 1] → FpOk X pins H1 c := fun c hcm => by
        have e' : c = s1.heap.objs.size + 4 ∨ c = s1.heap.objs.size + 2 ∨ c = s1.heap.objs.size + 3 ∨ c = s1.heap.objs.size ∨ c = s1.heap.objs.size + 1 := by simpa using hcm
        have hle : s1.heap.objs.size ≤ c := by
          rcases e' with z | z | z | z | z <;> (rw [z]; first | exact Nat.le_add_right _ _ | exact Nat.le_refl _)
        exact I1.fpOk hle (I1.hok.fresh hle)
      obtain ⟨its, rv, p1, _⟩ := I1.tuple hqx
      obtain ⟨its2, rv2, p2, _⟩ := I1.list hqy
      obtain ⟨o1, ho1, _⟩ := id p1
      have la : a < s1.heap.objs.size := Heap.lt_size ho1
      have lb : b < s1.heap.objs.size := p2.lt
      refine zip_begins2 (begins_tuple a its.toArray) (begins_list b its2.toArray) p1 p2.isList fun h' hz hTI hTO h1 h2 hsz hk => wpAny_pyIter_zip hz ?_
      have I2 : Inv X pins σ H1 { s1 with heap := h' } := I1.kept (t' := s1.toks) hk
      have S := zip_sep2 (N := s1.heap.objs.size) (fp1 := [a]) (fp2 := [b]) (fun c hc => by rw [List.mem_singleton.mp hc]; exact la) (fun c hc => by rw [List.mem_singleton.mp hc]; exact lb)
      exact ⟨s1.heap.objs.size + 4, [s1.heap.objs.size + 4, s1.heap.objs.size + 2, s1.heap.objs.size + 3, s1.heap.objs.size, s1.heap.objs.size + 1], _, _, H1, rfl, I2, turn_zipM S (Nat.ne_of_lt la) (Nat.ne_of_lt (Nat.lt_succ_of_lt lb)), ⟨hz, hTI, ⟨_, _, hTO⟩, ⟨_, h1, rfl, rfl⟩, ⟨_, h2, rfl, rfl⟩⟩, fresh5, q⟩
end Np
end
section
set_option linter.all false
set_option maxRecDepth 100000
set_option maxHeartbeats 4000000
/-! The desk's readers. -/
namespace Np
open PySem PySem.Spec PyProof.Rows L2 SX
/-! ### data that may be compared -/
def Shp (d : PyData) (k : Nat) : Prop := d.canLay0 = true ∧ d.depth ≤ k
theorem Shp.ok {d : PyData} {k : Nat} (h : Shp d k) (hk : k ≤ 64) : SeqAt.shaped d = true := by
  unfold SeqAt.shaped
  rw [h.1, decide_eq_true (Nat.le_trans h.2 hk)]
  rfl
theorem shp_all {k : Nat} : ∀ {ds : List PyData}, (∀ d, d ∈ ds → Shp d k) → PyData.canLayAll0 ds = true ∧ PyData.depthAll ds ≤ k
  | [], _ => ⟨rfl, Nat.zero_le _⟩
  | d :: ds, h => by
    obtain ⟨h1, h2⟩ := h d List.mem_cons_self
    obtain ⟨h3, h4⟩ := shp_all fun e he => h e (List.mem_cons_of_mem _ he)
    refine ⟨?_, Nat.max_le.mpr ⟨h2, h4⟩⟩
    simp only [PyData.canLayAll0, h1, h3, Bool.and_self]
theorem shp_list {k : Nat} {ds : List PyData} (h : ∀ d, d ∈ ds → Shp d k) : Shp (.list ds) (k + 1) := by
  obtain ⟨h1, h2⟩ := shp_all h
  exact ⟨by simpa only [PyData.canLay0] using h1, Nat.succ_le_succ h2⟩
theorem shp_tup {k : Nat} {ds : List PyData} (h : ∀ d, d ∈ ds → Shp d k) : Shp (.tuple ds) (k + 1) := by
  obtain ⟨h1, h2⟩ := shp_all h
  exact ⟨by simpa only [PyData.canLay0] using h1, Nat.succ_le_succ h2⟩
theorem shp_int (i : Int) (k : Nat) : Shp (.int i) k := ⟨rfl, Nat.zero_le _⟩
theorem shp_q (q : Rat) : Shp (encQ q) 1 := shp_tup fun d hd => by
  rcases List.mem_cons.mp hd with rfl | hd
  · exact shp_int _ _
  · rw [List.mem_singleton.mp hd]
    exact shp_int _ _
theorem shp_R (r : Row) : Shp (encR r) 2 := shp_list fun d hd => by
  obtain ⟨q, _, rfl⟩ := List.mem_map.mp hd
  exact shp_q q
theorem rat_nat (n : Nat) : ratS ((n : Nat) : Rat) = numS (n : Nat) := by
  unfold ratS
  rw [Rat.den_natCast, if_pos rfl, Rat.num_natCast]
/-! ### promises -/
def Nm (nm : List Nat) : Prop := nm ≠ [] ∧ nm.length ≤ 8 ∧ ∀ c, c ∈ nm → 97 ≤ c ∧ c ≤ 122
def spIsName : Sp := fun vs H Q _ => ∃ nm, vs = [.str (S nm)] ∧ Nm nm ∧ ∀ H', Same H H' → Q (.bl true) H'
def spNumber : Sp := fun vs H Q _ => ∃ n : Nat, vs = [.str (S (numS (n : Nat)))] ∧ n < 10 ^ 6 ∧ ∀ H', Same H H' → Q (.int (n : Nat)) H'
def spWide : Sp := fun vs H Q _ => ∃ n : Nat, vs = [.str (S (numS (n : Nat)))] ∧ 1 ≤ n ∧ n ≤ 12 ∧ ∀ H', Same H H' → Q (.int (n : Nat)) H'
def spLong (K : PySem.W.Frag) (C : Addr) : Sp := fun vs H Q _ => ∃ (p : Addr) (st : Pl) (F : List Addr) (r : Row), vs = [.str (S (rowS r)), .ref p] ∧ PlaneAt K C H p st F ∧ st.1.span = r.length ∧ r ≠ [] ∧ r.length ≤ 100 ∧ (∀ q, q ∈ r → Fine q) ∧ GiveF K H Q (encR r)
def intsS (ks : List Nat) : List Nat := TL.joinL [44] (ks.map fun k => numS (k : Nat))
def spFigures (K : PySem.W.Frag) : Sp := fun vs H Q _ => ∃ v ks, vs = [v] ∧ Dp K H v (encInts ks) ∧ ks.length ≤ 100 ∧ (∀ k, k ∈ ks → k < 2 ^ 100) ∧ ∀ H', Same H H' → Q (.str (S (intsS ks))) H'
abbrev N_is_name : List Str := ["word", "sign"]
theorem sc_is_name : FnScope ["word", "sign"] ["word"] (defScope s_is_name) := ⟨rfl, rfl, rfl, by decide +kernel, rfl, by decide +kernel, by decide +kernel⟩
theorem b_is_name : BindOk "is_name" "is_name" s_is_name ["word"] := fun _ _ _ _ _ _ us hl => match us, hl with | [_], _ => rfl
abbrev N_read_number : List Str := ["word", "found"]
theorem sc_read_number : FnScope ["word", "found"] ["word"] (defScope s_read_number) := ⟨rfl, rfl, rfl, by decide +kernel, rfl, by decide +kernel, by decide +kernel⟩
theorem b_read_number : BindOk "read_number" "read_number" s_read_number ["word"] := fun _ _ _ _ _ _ us hl => match us, hl with | [_], _ => rfl
abbrev N_read_wide : List Str := ["word", "wide"]
theorem sc_read_wide : FnScope ["word", "wide"] ["word"] (defScope s_read_wide) := ⟨rfl, rfl, rfl, by decide +kernel, rfl, by decide +kernel, by decide +kernel⟩
theorem b_read_wide : BindOk "read_wide" "read_wide" s_read_wide ["word"] := fun _ _ _ _ _ _ us hl => match us, hl with | [_], _ => rfl
abbrev N_read_things : List Str := ["word", "row"]
theorem sc_read_things : FnScope ["word", "row"] ["word"] (defScope s_read_things) := ⟨rfl, rfl, rfl, by decide +kernel, rfl, by decide +kernel, by decide +kernel⟩
theorem b_read_things : BindOk "read_things" "read_things" s_read_things ["word"] := fun _ _ _ _ _ _ us hl => match us, hl with | [_], _ => rfl
abbrev N_read_long : List Str := ["word", "plane", "row"]
theorem sc_read_long : FnScope ["word", "plane", "row"] ["word", "plane"] (defScope s_read_long) := ⟨rfl, rfl, rfl, by decide +kernel, rfl, by decide +kernel, by decide +kernel⟩
theorem b_read_long : BindOk "read_long" "read_long" s_read_long ["word", "plane"] := fun _ _ _ _ _ _ us hl => match us, hl with | [_, _], _ => rfl
abbrev N_in_figures : List Str := ["numbers", "number"]
theorem sc_in_figures : FnScope ["numbers", "number"] ["numbers"] (defScope s_in_figures) := ⟨rfl, rfl, rfl, by decide +kernel, rfl, by decide +kernel, by decide +kernel⟩
theorem b_in_figures : BindOk "in_figures" "in_figures" s_in_figures ["numbers"] := fun _ _ _ _ _ _ us hl => match us, hl with | [_], _ => rfl
theorem l_letters : ("abcdefghijklmnopqrstuvwxyz" : Str) = S [97, 98, 99, 100, 101, 102, 103, 104, 105, 106, 107, 108, 109, 110, 111, 112, 113, 114, 115, 116, 117, 118, 119, 120, 121, 122] := by decide +kernel
theorem lets_mem {c : Nat} (h : 97 ≤ c ∧ c ≤ 122) : decide (c ∈ ("abcdefghijklmnopqrstuvwxyz" : Str).cps.toList) = true := by
  refine decide_eq_true ?_
  rw [l_letters]
  have : c = 97 ∨ c = 98 ∨ c = 99 ∨ c = 100 ∨ c = 101 ∨ c = 102 ∨ c = 103 ∨ c = 104 ∨ c = 105 ∨ c = 106 ∨ c = 107 ∨ c = 108 ∨ c = 109 ∨ c = 110 ∨ c = 111 ∨ c = 112 ∨ c = 113 ∨ c = 114 ∨ c = 115 ∨ c = 116 ∨ c = 117 ∨ c = 118 ∨ c = 119 ∨ c = 120 ∨ c = 121 ∨ c = 122 := by omega
  simp
  exact this
section
variable {P : Program} {w : World} {K : PySem.W.Frag} {mg : Str → Option Value} {base : Heap} {aN aO C : Addr}
theorem k_is_name (T : Txt K mg aN aO) (F : DefAt K mg "is_name" s_is_name) : C8.Cal P w K mg base 1 "is_name" spIsName [] := by
  refine cal_of F sc_is_name b_is_name (fun vs H Q E h => ?_) (fun f cdv A outer s H vs Q E hr h => ?_)
  · obtain ⟨nm, rfl, _⟩ := h
    rfl
  · obtain ⟨nm, rfl, hn, hQ⟩ := h
    obtain ⟨n1, n2, n3⟩ := hn
    have n0 : 0 < nm.length := List.length_pos_iff.mpr n1
    refine ⟨_, (pss_one (ps_ret (pe_and (pe_chain op_lt op_le pe_int (pe_callB call_len_str rfl T.len (by decide +kernel) (pa_cons (pv 0) pa_nil)) (C8.pe_gc rfl T.MOST_NAME)) (pe_one (pe_callB (cr_all rfl) rfl T.all (by decide +kernel) (pa_cons (pe_lc (own := [("sign", 1)]) rfl sc_is_name.nd (pi_str (pv 0)) (blkOk_by (own := [("sign", 1)]) (N := N_is_name) (sc := defScope s_is_name) (by decide +kernel)) (fun _ _ _ _ _ => (pg_name (i := 1) sc_is_name.nd rfl (Or.inl rfl))) (fun _ _ _ _ _ => pts_nil) (fun _ _ _ _ _ => (pe_cmpR op_in_sign (pv 1) (C8.pe_gc rfl T.LETTERS) rfl))) pa_nil)))))), ?_⟩
    refine ⟨_, rfl, _, rfl, by rw [S_len, sizeLine_eq]; omega, _, _, rfl, rfl, true, congrArg V.bl (decide_eq_true (by rw [S_len]; omega)), iteT ?_⟩
    refine ⟨_, _, rfl, rfl, true, congrArg V.bl (decide_eq_true (by rw [S_len]; omega)), iteT ?_⟩
    refine ⟨_, rfl, _, rfl, fun D hD => lc_by (n := nm.length) (fun i H' => Same H H' ∧ H' D = some (.lst (List.replicate i (V.bl true))))
      ⟨same_new hD, upd_same⟩ (fun i H' hi hP => ?_) (fun H' hP => ?_)⟩
    · obtain ⟨m1, hL⟩ := hP
      refine ⟨by show i < (S nm).cps.size; simpa using hi, fun v H1 hv => ?_⟩
      obtain ⟨rfl, c, hc, rfl⟩ := hv
      have hc' : nm[i]? = some c := by simpa using hc
      refine ⟨rfl, ?_⟩
      refine ⟨_, rfl, c, _, rfl, rfl, ?_⟩
      rw [lets_mem (n3 c (List.mem_of_getElem? hc'))]
      refine ⟨_, hL, len_small (by rw [List.length_replicate]; omega), same_put m1 hD, ?_⟩
      rw [upd_same, ← List.replicate_succ']
    · obtain ⟨m1, hL⟩ := hP
      refine ⟨by show (S nm).cps.size ≤ nm.length; simp, D, List.replicate nm.length true, rfl, SqL.of (by rw [hL, List.map_replicate]), ?_⟩
      have e : (List.replicate nm.length true).all id = true := List.all_eq_true.mpr fun b hb => List.eq_of_mem_replicate hb
      rw [e]
      exact hQ _ m1
theorem k_read_number (T : Txt K mg aN aO) (F : DefAt K mg "read_number" s_read_number) (c_read : C8.Cal P w K mg base 3 "read" (spRead K) []) : C8.Cal P w K mg base 4 "read_number" spNumber [] := by
  refine cal_of F sc_read_number b_read_number (fun vs H Q E h => ?_) (fun f cdv A outer s H vs Q E hr h => ?_)
  · obtain ⟨n, rfl, _⟩ := h
    rfl
  · obtain ⟨n, rfl, hn, hQ⟩ := h
    have ll : (numS (n : Nat)).length ≤ 6 := by
      rw [numS_nat]
      exact TL.numL_len (by decide) hn
    refine ⟨_, (pss_cons (ps_set (i := 1) sc_read_number.nd rfl (Or.inl rfl) (C8.pe_c c_read hr (by decide) rfl (pa_cons (pv 0) pa_nil)))
    (pss_cons (ps_if (PW.pt (pw_or (pt_cmpR op_ne (pe_ix ix_tup (pv 1) pe_int (fun _ _ => rfl)) pe_int (nomark _)) (pw_or (pt_cmpR op_lt (pe_ix ix_tup (pv 1) pe_int (fun _ _ => rfl)) pe_int (nomark _)) (pw_or1 (pt_cmpR op_gt (pe_callB call_len_str rfl T.len (by decide +kernel) (pa_cons (pv 0) pa_nil)) (C8.pe_gc rfl T.MOST_FIGURES_desk) (nomark _)))))) (pss_one ps_never)
    pss_nil)
    (pss_one (ps_ret (pe_ix ix_tup (pv 1) pe_int (fun _ _ => rfl)))))), ?_⟩
    refine ⟨_, rfl, ((n : Nat) : Rat), by rw [rat_nat]; rfl, ⟨by rw [Rat.num_natCast]; exact Nat.lt_trans hn (by decide), by rw [Rat.den_natCast]; decide⟩, fun H1 v n1 hv => ?_⟩
    obtain ⟨a, rfl, hs⟩ := dp_q (dp_same (dif_sub _ _) hv)
    rw [Rat.num_natCast, Rat.den_natCast] at hs
    refine ⟨_, rfl, a, _, _, _, rfl, rfl, hs, rfl, rfl, _, rfl, iteF ?_⟩
    refine ⟨_, rfl, a, _, _, _, rfl, rfl, hs, rfl, _, _, rfl, rfl, false, congrArg V.bl (decide_eq_false (by omega)), iteF ?_⟩
    refine ⟨_, rfl, _, rfl, by rw [S_len, sizeLine_eq]; omega, _, _, rfl, rfl, false, congrArg V.bl (decide_eq_false (by rw [S_len]; omega)), iteF ?_⟩
    exact ⟨_, rfl, a, _, _, _, rfl, rfl, hs, rfl, hQ _ n1⟩
theorem k_read_wide (T : Txt K mg aN aO) (F : DefAt K mg "read_wide" s_read_wide) (c_read_number : C8.Cal P w K mg base 4 "read_number" spNumber []) : C8.Cal P w K mg base 5 "read_wide" spWide [] := by
  refine cal_of F sc_read_wide b_read_wide (fun vs H Q E h => ?_) (fun f cdv A outer s H vs Q E hr h => ?_)
  · obtain ⟨n, rfl, _⟩ := h
    rfl
  · obtain ⟨n, rfl, h1, h2, hQ⟩ := h
    refine ⟨_, (pss_cons (ps_set (i := 1) sc_read_wide.nd rfl (Or.inl rfl) (C8.pe_c c_read_number hr (by decide) rfl (pa_cons (pv 0) pa_nil)))
    (pss_cons (ps_if (pt_not (pt_chain op_le op_le pe_int (pv 1) (C8.pe_gc rfl T.MOST_WIDE_desk))) (pss_one ps_never)
    pss_nil)
    (pss_one (ps_ret (pv 1))))), ?_⟩
    refine ⟨_, rfl, n, rfl, by omega, fun H1 n1 => ?_⟩
    refine ⟨_, rfl, _, _, rfl, rfl, true, congrArg V.bl (decide_eq_true (by omega)), iteT ?_⟩
    refine ⟨_, _, rfl, rfl, true, congrArg V.bl (decide_eq_true (by omega)), iteF ?_⟩
    exact ⟨_, rfl, hQ _ n1⟩
theorem k_read_things (T : Txt K mg aN aO) (F : DefAt K mg "read_things" s_read_things) (c_read_row : C8.Cal P w K mg base 4 "read_row" (spReadRow K) []) : C8.Cal P w K mg base 5 "read_things" (spReadRow K) [] := by
  refine cal_of F sc_read_things b_read_things (fun vs H Q E h => ?_) (fun f cdv A outer s H vs Q E hr h => ?_)
  · obtain ⟨r, rfl, _⟩ := h
    rfl
  · obtain ⟨r, rfl, hne, hl, hf, hQ⟩ := h
    refine ⟨_, (pss_cons (ps_set (i := 1) sc_read_things.nd rfl (Or.inl rfl) (C8.pe_c c_read_row hr (by decide) rfl (pa_cons (pv 0) pa_nil)))
    (pss_cons (ps_if (pt_cmpR (op_eqD hr.units) (pv 1) (pe_lst pa_nil) (nomark _)) (pss_one ps_never)
    pss_nil)
    (pss_one (ps_ret (pv 1))))), ?_⟩
    refine ⟨_, rfl, r, rfl, hne, hl, hf, fun H1 v n1 hv => ?_⟩
    refine ⟨_, rfl, Nat.zero_le _, fun l hl => ?_⟩
    have n2 : Same H1 (upd H1 l (.lst [])) := same_new hl
    refine ⟨_, _, dp_same n2 (dp_same (dif_sub _ _) hv), .lst (SqL.of upd_same) .nil, (shp_R r).ok (by decide), rfl, _, rfl, ?_⟩
    have e : PyData.eqv (encR r) (.list []) = false := by
      cases r with
      | nil => exact absurd rfl hne
      | cons q r => rfl
    rw [e]
    refine iteF ?_
    exact ⟨_, rfl, hQ _ _ (n1.trans n2) (dp_same (dif_grow n2) hv)⟩
theorem k_read_long (T : Txt K mg aN aO) (F : DefAt K mg "read_long" s_read_long) (c_read_things : C8.Cal P w K mg base 5 "read_things" (spReadRow K) []) (c_Plane_width : C8.Met P w K mg base 1 C "width" (fun vs H Q _ => ∃ p st F, vs = [.ref p] ∧ PlaneAt K C H p st F ∧ Q (.int (st.1.span : Nat)) H) []) :
    C8.Cal P w K mg base 6 "read_long" (spLong K C) [] := by
  refine cal_of F sc_read_long b_read_long (fun vs H Q E h => ?_) (fun f cdv A outer s H vs Q E hr h => ?_)
  · obtain ⟨p, st, F, r, rfl, _⟩ := h
    rfl
  · obtain ⟨p, st, F, r, rfl, hp, hsp, hne, hl, hf, hQ⟩ := h
    refine ⟨_, (pss_cons (ps_set (i := 2) sc_read_long.nd rfl (Or.inl rfl) (C8.pe_c c_read_things hr (by decide) rfl (pa_cons (pv 0) pa_nil)))
    (pss_cons (ps_if (pt_cmpR op_ne (pe_callB call_len_seq rfl T.len (by decide +kernel) (pa_cons (pv 2) pa_nil)) (C8.pe_mt0 c_Plane_width hr (by decide) (pv 1)) (nomark _)) (pss_one ps_never)
    pss_nil)
    (pss_one (ps_ret (pv 2))))), ?_⟩
    refine ⟨_, rfl, r, rfl, hne, hl, hf, fun H1 v n1 hv => ?_⟩
    obtain ⟨a, xs, rfl, hs, hd⟩ := dp_list (dp_same (dif_sub _ _) hv)
    have hlen := hd.length
    rw [encs_len] at hlen
    have hp1 := hp.same n1
    have hp1' := hp1
    obtain ⟨dx, d, t, ts, ds, rfl, nd, h0, _⟩ := hp1'
    refine ⟨_, rfl, a, xs, rfl, .inl hs, _, rfl, p, dx, _, rfl, h0, rfl, p, st, _, rfl, hp1, rfl, _, rfl, ?_⟩
    rw [hlen, hsp, decide_eq_true rfl]
    refine iteF ?_
    exact ⟨_, rfl, hQ _ _ n1 hv⟩
theorem k_in_figures (T : Txt K mg aN aO) (F : DefAt K mg "in_figures" s_in_figures) : C8.Cal P w K mg base 1 "in_figures" (spFigures K) [] := by
  refine cal_of F sc_in_figures b_in_figures (fun vs H Q E h => ?_) (fun f cdv A outer s H vs Q E hr h => ?_)
  · obtain ⟨v, ks, rfl, _⟩ := h
    rfl
  · obtain ⟨v, ks, rfl, hv, hl, sz, hQ⟩ := h
    obtain ⟨a, xs, rfl, hs, hd⟩ := dp_list hv
    have hlen := hd.length
    rw [List.length_map] at hlen
    refine ⟨_, (pss_one (ps_ret (pe_join pe_str (pe_lc (own := [("number", 1)]) rfl sc_in_figures.nd (pi_list (pv 0)) (blkOk_by (own := [("number", 1)]) (N := N_in_figures) (sc := defScope s_in_figures) (by decide +kernel)) (fun _ _ _ _ _ => (pg_name (i := 1) sc_in_figures.nd rfl (Or.inl rfl))) (fun _ _ _ _ _ => pts_nil) (fun _ _ _ _ _ => (pe_callTy call_str_int rfl T.str (by decide +kernel) (pa_cons (pv 1) pa_nil))))))), ?_⟩
    refine ⟨⟨_, rfl⟩, _, rfl, a, rfl, ⟨xs, hs⟩, fun D hD => lc_list (K := K) (a := a) (xs := xs) (fun i H' => Same H H' ∧ H' D = some (.lst ((ks.take i).map fun k => V.str (S (numS (k : Nat))))))
      ⟨same_new hD, upd_same⟩ (fun i H' _ hP => hP.1.seq hs) (fun i x H' hx hP => ?_) (fun H' hP => ?_)⟩
    · obtain ⟨m1, hL⟩ := hP
      obtain ⟨k, hk, rfl⟩ := int_get hd hx
      have hi := (List.getElem?_eq_some_iff.mp hk).1
      have bk := sz k (List.mem_of_getElem? hk)
      refine ⟨rfl, ?_⟩
      refine ⟨_, rfl, _, rfl, ?_, _, hL, len_small (by rw [List.length_map]; exact Nat.le_trans (List.length_take_le _ _) (by omega)), same_put m1 hD, ?_⟩
      · rw [Int.natAbs_natCast]
        by_cases h0 : k = 0
        · subst h0; decide
        · exact (Nat.log2_lt h0).mpr (Nat.lt_trans bk (Nat.pow_lt_pow_right (by decide) (by decide)))
      · rw [upd_same, take_more hk, List.map_append]
        show some (HO.lst (_ ++ [V.str (Str.ofString (toString ((k : Nat) : Int)))])) = _
        rw [num_text]
        rfl
    · obtain ⟨m1, hL⟩ := hP
      rw [hlen, List.take_length, map_str fun k : Nat => numS (k : Nat)] at hL
      have bl : ∀ x, x ∈ ks.map (fun k : Nat => numS (k : Nat)) → x.length ≤ 101 := fun x hx => by
        obtain ⟨k, hk, rfl⟩ := List.mem_map.mp hx
        exact numS_len (by rw [Int.natAbs_natCast]; exact sz k hk) (by decide)
      refine ⟨S [44], D, (ks.map fun k : Nat => numS (k : Nat)).map S, by rw [← l_comma], rfl, .inl (SqL.of hL), ?_, ?_⟩
      · have := sum_len 101 _ bl
        rw [List.length_map] at this
        rw [List.length_map, List.length_map]
        show _ + ks.length * 1 ≤ _
        omega
      · rw [join_S]
        exact hQ _ m1
end
end Np
end
section
set_option linter.all false
set_option maxRecDepth 100000
set_option maxHeartbeats 4000000
/-! What a plane tells and what is done to it. -/
namespace Np
open PySem PySem.Spec PyProof.Rows L2 SX
def openS : List Nat := [111, 112, 101, 110]
def okS : List Nat := [111, 107]
theorem l_open : ("open" : Str) = S openS := by decide +kernel
theorem l_ok : ("ok" : Str) = S okS := by decide +kernel
theorem l_space : (" " : Str) = S [32] := by decide +kernel
def optS : Option Rat → List Nat
  | some q => ratS q
  | none => openS
def valS (ps : List Pt) (m : Nat) (r : Row) : List Nat := if sureB ps m r = true then ratS (valueOf ps m r) else openS
def spToldWord (K : PySem.W.Frag) (C : Addr) : Sp := fun vs H Q _ => ∃ (p : Addr) (st : Pl) (F : List Addr) (n i : Nat) (q : Pt), vs = [.ref p, .int (n : Nat)] ∧ PlaneAt K C H p st F ∧ Small (ptsOf st) st.1.span ∧ KeysApart st.1.kept ∧ st.1.kept[i]? = some (n, q) ∧
  ∀ H', Same H H' → Q (.str (S (optS (wordOf (ptsOf st) st.1.span i)))) H'
def spToldValue (K : PySem.W.Frag) (C : Addr) : Sp := fun vs H Q _ => ∃ (p : Addr) (v : V) (st : Pl) (F : List Addr) (r : Row), vs = [.ref p, v] ∧ PlaneAt K C H p st F ∧ Small (ptsOf st) st.1.span ∧ Dp K H v (encR r) ∧ TinyRow st.1.span r ∧
  ∀ H', Same H H' → Q (.str (S (valS (ptsOf st) st.1.span r))) H'
abbrev N_told_word : List Str := ["plane", "number", "numbers", "found", "point"]
theorem sc_told_word : FnScope ["plane", "number", "numbers", "found", "point"] ["plane", "number"] (defScope s_told_word) := ⟨rfl, rfl, rfl, by decide +kernel, rfl, by decide +kernel, by decide +kernel⟩
theorem b_told_word : BindOk "told_word" "told_word" s_told_word ["plane", "number"] := fun _ _ _ _ _ _ us hl => match us, hl with | [_, _], _ => rfl
abbrev N_told_value : List Str := ["plane", "row", "found"]
theorem sc_told_value : FnScope ["plane", "row", "found"] ["plane", "row"] (defScope s_told_value) := ⟨rfl, rfl, rfl, by decide +kernel, rfl, by decide +kernel, by decide +kernel⟩
theorem b_told_value : BindOk "told_value" "told_value" s_told_value ["plane", "row"] := fun _ _ _ _ _ _ us hl => match us, hl with | [_, _], _ => rfl
abbrev N_done_to : List Str := ["plane", "deed", "parts"]
theorem sc_done_to : FnScope ["plane", "deed", "parts"] ["plane", "deed", "parts"] (defScope s_done_to) := ⟨rfl, rfl, rfl, by decide +kernel, rfl, by decide +kernel, by decide +kernel⟩
theorem b_done_to : BindOk "done_to" "done_to" s_done_to ["plane", "deed", "parts"] := fun _ _ _ _ _ _ us hl => match us, hl with | [_, _, _], _ => rfl
abbrev N_told_of : List Str := ["plane", "deed", "parts", "way"]
theorem sc_told_of : FnScope ["plane", "deed", "parts", "way"] ["plane", "deed", "parts"] (defScope s_told_of) := ⟨rfl, rfl, rfl, by decide +kernel, rfl, by decide +kernel, by decide +kernel⟩
theorem b_told_of : BindOk "told_of" "told_of" s_told_of ["plane", "deed", "parts"] := fun _ _ _ _ _ _ us hl => match us, hl with | [_, _, _], _ => rfl
theorem PlaneAt.ins {K : PySem.W.Frag} {C : Addr} {H : Hp} {p : Addr} {st : Pl} {F : List Addr} (h : PlaneAt K C H p st F) : ∃ dx v1 v2 v3 v4, H p = some (.ins C dx [("span", v1), ("kept", v2), ("fresh", v3), ("trail", v4)]) := by
  obtain ⟨dx, d, t, ts, ds, rfl, nd, h0, _⟩ := h
  exact ⟨dx, _, _, _, _, h0⟩
theorem FitAt.ins {K : PySem.W.Frag} {C : Addr} {H : Hp} {x : Addr} {ps : List Pt} {m : Nat} (h : FitAt K C H x ps m) : ∃ dx v0 v1 v2 v3 v4 v5 v6 v7, H x = some (.ins C dx [("points_kept", v0), ("wide", v1), ("columns", v2), ("wants", v3), ("weights", v4), ("parts", v5), ("shares", v6), ("rest", v7)]) := by
  obtain ⟨dx, v0, v2, v3, v4, v5, v6, v7, h0, _⟩ := h
  exact ⟨dx, v0, _, v2, v3, v4, v5, v6, v7, h0⟩
theorem ints_flat (ks : List Nat) : (ks.map fun k => V.int (k : Nat)).all flatV = true := List.all_eq_true.mpr fun v hv => by
  obtain ⟨k, _, rfl⟩ := List.mem_map.mp hv
  rfl
theorem ints_in {ks : List Nat} {n : Nat} (h : n ∈ ks) : inV (.int (n : Nat)) (ks.map fun k => V.int (k : Nat)) = true := by
  unfold inV
  refine List.any_eq_true.mpr ⟨.int (n : Nat), List.mem_map.mpr ⟨n, h, rfl⟩, ?_⟩
  show (((n : Nat) : Int) == ((n : Nat) : Int)) = true
  exact beq_self_eq_true _
section
variable {P : Program} {w : World} {K : PySem.W.Frag} {mg : Str → Option Value} {base : Heap} {aN aO C CF CN : Addr}
theorem k_told_word (T : Txt K mg aN aO) (F : DefAt K mg "told_word" s_told_word) (c_Plane_points : C8.Met P w K mg base 1 C "points" (spPoints K C) []) (c_Plane_fit : C8.Met P w K mg base 11 C "fit" (spPlFit K C CF) []) (c_Fit_word : C8.Met P w K mg base 11 CF "word" (spWord K CF) [])
    (c_shown : C8.Cal P w K mg base 1 "shown" (spShown K) []) : C8.Cal P w K mg base 12 "told_word" (spToldWord K C) [] := by
  refine cal_of F sc_told_word b_told_word (fun vs H Q E h => ?_) (fun f cdv A outer s H vs Q E hr h => ?_)
  · obtain ⟨p, st, F, n, i, q, rfl, _⟩ := h
    rfl
  · obtain ⟨p, st, F, n, i, q, rfl, hp, Sm, hka, hi, hQ⟩ := h
    have ll : st.1.kept.length ≤ 8 := by
      have := Sm.len
      unfold ptsOf at this
      rw [List.length_map] at this
      exact this
    have lm := Sm.m3
    have il := (List.getElem?_eq_some_iff.mp hi).1
    have eP : (ptsOf st)[i]? = some q := by
      unfold ptsOf
      rw [List.getElem?_map, hi]
      rfl
    obtain ⟨dx, v1, v2, v3, v4, h0⟩ := hp.ins
    refine ⟨_, (pss_cons (ps_setLc (i := 2) (own := [("point", 4)]) rfl sc_told_word.nd rfl rfl (sw_true rfl rfl rfl (by decide +kernel)) (pi_list (C8.pe_mt0 c_Plane_points hr (by decide) (pv 0))) (blkOk_by (own := [("point", 4)]) (N := N_told_word) (sc := defScope s_told_word) (by decide +kernel)) (fun _ _ _ _ _ => (pg_name (i := 4) sc_told_word.nd rfl (Or.inl rfl))) (fun _ _ _ _ _ => pts_nil) (fun _ _ _ _ _ => (pe_ix (ix_tupK (K := K) rfl) (pv 4) pe_int (fun _ _ => rfl))))
    (pss_cons (ps_if (pt_cmpR op_notIn_seq (pv 1) (pv 2) (by rfl)) (pss_one ps_never)
    pss_nil)
    (pss_cons (ps_set (i := 3) sc_told_word.nd rfl (Or.inl rfl) (C8.pe_mt c_Fit_word hr (by decide) (C8.pe_mt0 c_Plane_fit hr (by decide) (pv 0)) (pa_cons (pe_bm PySem.F.plainAttrs_list PySem.F.slot_list_index PySem.F.type_list_index mt_index (pv 2) (pa_cons (pv 1) pa_nil)) pa_nil)))
    (pss_cons (ps_if (pt_cmpR op_isN (pv 3) pe_non (nomark _)) (pss_one (ps_ret pe_str))
    pss_nil)
    (pss_one (ps_ret (C8.pe_c c_shown hr (by decide) rfl (pa_cons (pv 3) pa_nil)))))))), ?_⟩
    refine ⟨_, rfl, p, dx, _, rfl, h0, rfl, p, st, F, rfl, hp, by omega, fun z hz => ?_, fun H1 v n1 hv => ?_⟩
    · have := Sm.row z.2 (List.mem_map.mpr ⟨z, hz, rfl⟩)
      omega
    obtain ⟨a, xs, rfl, hs, hd⟩ := dp_list hv
    have hlen := hd.length
    rw [List.length_map] at hlen
    refine ⟨a, rfl, ⟨xs, hs⟩, fun D hD => lc_list (K := K) (a := a) (xs := xs) (fun j H' => Same H1 H' ∧ H' D = some (.lst ((st.1.kept.take j).map fun z => V.int (z.1 : Nat))))
      ⟨same_new hD, upd_same⟩ (fun j H' _ hP => hP.1.seq hs) (fun j x H' hx hP => ?_) (fun H' hP => ?_)⟩
    · obtain ⟨m1, hL⟩ := hP
      obtain ⟨d, hd1, hd2⟩ := hd.get' hx
      rw [List.getElem?_map] at hd1
      obtain ⟨z, ez, rfl⟩ := Option.map_eq_some_iff.mp hd1
      have hj := (List.getElem?_eq_some_iff.mp ez).1
      obtain ⟨b, ys, rfl, hb, hbd⟩ := dp_tup hd2
      cases hbd with
      | cons y1 r =>
        cases dp_int y1
        refine ⟨rfl, ?_⟩
        refine ⟨_, rfl, b, _, _, _, rfl, rfl, m1.tup hb, atI_nat (j := 0) rfl, _, hL, len_small (by rw [List.length_map]; exact Nat.le_trans (List.length_take_le _ _) (by omega)), same_put m1 hD, ?_⟩
        rw [upd_same, take_more ez, List.map_append]
        rfl
    · obtain ⟨m1, hL⟩ := hP
      rw [hlen, List.take_length] at hL
      have eL : (st.1.kept.map fun z => V.int (z.1 : Nat)) = (st.1.kept.map (·.1)).map fun k => V.int (k : Nat) := by rw [List.map_map]; rfl
      rw [eL] at hL
      have nin : n ∈ st.1.kept.map (·.1) := List.mem_map.mpr ⟨(n, q), List.mem_of_getElem? hi, rfl⟩
      refine ⟨_, rfl, _, rfl, D, _, rfl, .inl (SqL.of hL), rfl, ints_flat _, ?_⟩
      rw [ints_in nin]
      refine ⟨_, rfl, iteF ?_⟩
      have m01 := n1.trans m1
      have hp1 := hp.same m01
      refine ⟨_, rfl, p, dx, _, rfl, m01 _ _ h0, rfl, p, st, F, rfl, hp1, Sm, fun H2 x n2 f2 => ?_⟩
      obtain ⟨dx', w0, w1, w2, w3, w4, w5, w6, w7, x0⟩ := f2.ins
      have hL2 := n2 _ _ hL
      refine ⟨x, dx', _, rfl, x0, rfl, ?_⟩
      refine ⟨_, rfl, .inl ⟨rfl, _, SqL.of hL2⟩, _, rfl, D, _, _, i, .int (n : Nat), rfl, rfl, SqL.of hL2, rfl, ints_flat _, ?_, ?_, ?_, x, ptsOf st, st.1.span, i, rfl, f2, Sm, (List.getElem?_eq_some_iff.mp eP).1, fun H3 v n3 hv3 => ?_⟩
      · rw [List.getElem?_map, List.getElem?_map, hi]
        rfl
      · exact beq_self_eq_true ((n : Nat) : Int)
      · intro m z' hm hz
        rw [List.getElem?_map] at hz
        obtain ⟨k, hk, rfl⟩ := Option.map_eq_some_iff.mp hz
        show (((k : Nat) : Int) == ((n : Nat) : Int)) = false
        refine beq_eq_false_iff_ne.mpr fun e => ?_
        have e' : k = n := by omega
        subst e'
        have ei : (st.1.kept.map (·.1))[i]? = some k := by rw [List.getElem?_map, hi]; rfl
        obtain ⟨l1, g1⟩ := List.getElem?_eq_some_iff.mp hk
        obtain ⟨l2, g2⟩ := List.getElem?_eq_some_iff.mp ei
        exact absurd (g1.trans g2.symm) (List.pairwise_iff_getElem.mp hka m i l1 l2 hm)
      · have m13 := m01.trans (n2.trans n3)
        refine ⟨_, rfl, rfl, ?_⟩
        cases ew : wordOf (ptsOf st) st.1.span i with
        | none =>
          rw [ew] at hv3
          have ev : v = .non := hv3
          subst ev
          refine ⟨_, rfl, iteT ?_⟩
          have := hQ H3 m13
          rw [ew] at this
          rw [l_open]
          exact this
        | some qq =>
          rw [ew] at hv3
          have hv4 : Dp K H3 v (encQ qq) := hv3
          obtain ⟨b, rfl, hb⟩ := dp_q hv4
          refine ⟨_, rfl, iteF ?_⟩
          have sz : Sz qq := by
            unfold wordOf at ew
            split at ew
            · cases Option.some.inj ew
              have eg : (ptsOf st).getD i ⟨[], 0, 0⟩ = q := by rw [List.getD_eq_getElem?_getD, eP]; rfl
              rw [eg]
              exact ((Sm.erase i).value (Sm.tiny (List.mem_of_getElem? eP))).2
            · cases ew
          refine ⟨_, rfl, _, qq, rfl, hv4, sz, ?_⟩
          have := hQ H3 m13
          rw [ew] at this
          exact this
theorem k_told_value (T : Txt K mg aN aO) (R : ErrAt K mg "NotSure" CN) (F : DefAt K mg "told_value" s_told_value) (c_Plane_fit : C8.Met P w K mg base 11 C "fit" (spPlFit K C CF) []) (c_Fit_value : MetX P w K mg base 6 CF "value" (spValue K CF CN))
    (c_shown : C8.Cal P w K mg base 1 "shown" (spShown K) []) : C8.Cal P w K mg base 12 "told_value" (spToldValue K C) [] := by
  refine cal_of F sc_told_value b_told_value (fun vs H Q E h => ?_) (fun f cdv A outer s H vs Q E hr h => ?_)
  · obtain ⟨p, v, st, F, r, rfl, _⟩ := h
    rfl
  · obtain ⟨p, v, st, F, r, rfl, hp, Sm, hv, hr', hQ⟩ := h
    obtain ⟨dx, v1, v2, v3, v4, h0⟩ := hp.ins
    refine ⟨_, (pss_one (ps_try_onlyE (tb := fun W => tAsg (tMethS CF "value" (spValue K CF CN) (WE W) (tMeth C "fit" (spPlFit K C CF) [] C8.E0 (tVar 0) tNil) (tCons (tVar 1) tNil)) (gName 2)) (ts := fun _ _ _ => tRet (tC (.str "open"))) (Wout := fun _ _ _ _ => False) (pss_one (ps_ret (C8.pe_c c_shown hr (by decide) rfl (pa_cons (pv 2) pa_nil)))) rfl rfl ⟨rfl, by decide, .inl R.g⟩ takes0 (fun W pn xe tk _ => pss_one (ps_set (i := 2) sc_told_value.nd rfl (Or.inl rfl) (pe_mtS c_Fit_value hr (by decide) tk (C8.pe_mt0 c_Plane_fit hr (by decide) (pv 0)) (pa_cons (pv 1) pa_nil)))) (fun a oe cls d pn _ _ => pss_one (ps_ret pe_str)))), ?_⟩
    refine ⟨_, rfl, p, dx, _, rfl, h0, rfl, p, st, F, rfl, hp, Sm, fun H1 x n1 f1 => ?_⟩
    obtain ⟨dx', w0, w1, w2, w3, w4, w5, w6, w7, x0⟩ := f1.ins
    refine ⟨x, dx', _, rfl, x0, rfl, _, rfl, x, v, ptsOf st, st.1.span, r, rfl, f1, Sm, dp_same n1 hv, hr', fun hs H2 y n2 h2 => ?_, fun hs H2 n2 => ?_⟩
    · refine ⟨_, rfl, _, _, rfl, h2, (Sm.value hr').2, ?_⟩
      have := hQ H2 (n1.trans n2)
      unfold valS at this
      rw [if_pos hs] at this
      exact this
    · refine ⟨true, R.e, fun _ a ha => ?_, fun q => nomatch q⟩
      have := hQ H2 (n1.trans n2)
      unfold valS at this
      rw [hs] at this
      show Q (.str ("open" : Str)) H2
      rw [l_open]
      exact this
end
end Np
end
section
set_option linter.all false
set_option maxRecDepth 100000
set_option maxHeartbeats 4000000
/-! What is done to a plane, what it tells. -/
namespace Np
open PySem PySem.Spec PyProof.Rows L2 SX
inductive Deed
  | lay (q : Pt)
  | take (n i : Nat) (q : Pt)
  | widen (c : Row)
  | narrow
  | back (k : Nat)
def Deed.name : Deed → Str
  | .lay _ => "lay"
  | .take _ _ _ => "take"
  | .widen _ => "widen"
  | .narrow => "narrow"
  | .back _ => "back"
def Deed.parts : Deed → List PyData
  | .lay q => [encQ q.want, encR q.row, encQ q.wt]
  | .take n _ _ => [.int (n : Nat)]
  | .widen c => [encR c]
  | .narrow => []
  | .back k => [.int (k : Nat)]
/-- what holds of a plane always -/
structure PlFine (st : Pl) : Prop where
  n : st.1.kept.length ≤ 100
  t : st.2.length ≤ 100
  apart : KeysApart st.1.kept
  low : ∀ q, q ∈ st.1.kept → q.1 < st.1.fresh
  rows : ∀ q, q ∈ st.1.kept → q.2.row.length = st.1.span
  s0 : 0 < st.1.span
  s1 : st.1.span ≤ 12
  fr : st.1.fresh < 10 ^ 6
def Deed.ok (st : Pl) : Deed → Prop
  | .lay q => q.row.length = st.1.span ∧ 0 < q.wt
  | .take n i q => st.1.kept[i]? = some (n, q)
  | .widen c => st.1.span < 12 ∧ c.length = st.1.kept.length
  | .narrow => True
  | .back k => k ≤ st.2.length
def Deed.next (st : Pl) : Deed → Pl
  | .lay q => layOf st q
  | .take n _ _ => (⟨st.1.span, dropPt st.1.kept n, st.1.fresh⟩, st.2 ++ [st.1])
  | .widen c => widOf st c
  | .narrow => narOf st
  | .back k => backOf st k
def Deed.ans (st : Pl) : Deed → List Nat
  | .lay _ => numS (st.1.fresh : Nat)
  | _ => okS
def spDone (K : PySem.W.Frag) (C : Addr) : Sp := fun vs H Q _ => ∃ (p a : Addr) (us : List V) (st : Pl) (F : List Addr) (d : Deed), vs = [.ref p, .str d.name, .ref a] ∧ PlaneAt K C H p st F ∧ PlFine st ∧ SqL K H a us ∧ DpAll K (less F H) us d.parts ∧ d.ok st ∧
  ∀ H' F', Fr F H F' H' → PlaneAt K C H' p (d.next st) F' → Q (.str (S (d.ans st))) H'
theorem atI0 {u : V} {us : List V} : atI (u :: us) (0 : Int) = some u := atI_nat (j := 0) rfl
theorem atI1 {u v : V} {us : List V} : atI (u :: v :: us) (1 : Int) = some v := atI_nat (j := 1) rfl
theorem atI2 {u v z : V} {us : List V} : atI (u :: v :: z :: us) (2 : Int) = some z := atI_nat (j := 2) rfl
section
variable {P : Program} {w : World} {K : PySem.W.Frag} {mg : Str → Option Value} {base : Heap} {aN aO C CF CN : Addr}
theorem k_done_to (T : Txt K mg aN aO) (F : DefAt K mg "done_to" s_done_to) (c_Plane_lay : C8.Met P w K mg base 4 C "lay" (spLay K C) []) (c_Plane_take : C8.Met P w K mg base 2 C "take" (spTake K C) []) (c_Plane_widen : C8.Met P w K mg base 4 C "widen" (spWiden K C) [])
    (c_Plane_narrow : C8.Met P w K mg base 2 C "narrow" (spNarrow K C) []) (c_Plane_back : C8.Met P w K mg base 2 C "back" (spBack K C) []) : C8.Cal P w K mg base 5 "done_to" (spDone K C) [] := by
  refine cal_of F sc_done_to b_done_to (fun vs H Q E h => ?_) (fun f cdv A outer s H vs Q E hr h => ?_)
  · obtain ⟨p, a, us, st, F, d, rfl, _⟩ := h
    rfl
  · obtain ⟨p, a, us, st, F, d, rfl, hp, fine, hs, hd, ok, hQ⟩ := h
    obtain ⟨dx, v1, v2, v3, v4, h0⟩ := hp.ins
    refine ⟨_, (pss_cons (ps_if (pt_cmpR op_eq (pv 1) pe_str (nomark _)) (pss_cons (ps_if (pt_cmpR op_eq (pe_callB call_len_seq rfl T.len (by decide +kernel) (pa_cons (pv 2) pa_nil)) pe_int (nomark _)) (pss_one (ps_ret (pe_callTy call_str_int rfl T.str (by decide +kernel) (pa_cons (C8.pe_mt c_Plane_lay hr (by decide) (pv 0) (pa_cons (pe_ix ix_list (pv 2) pe_int (fun _ _ => rfl)) (pa_cons (pe_ix ix_list (pv 2) pe_int (fun _ _ => rfl)) (pa_cons (pe_ix ix_list (pv 2) pe_int (fun _ _ => rfl)) pa_nil)))) pa_nil))))
    pss_nil)
    (pss_one ps_never))
    pss_nil)
    (pss_cons (ps_if (pt_cmpR op_eq (pv 1) pe_str (nomark _)) (pss_one (ps_expr (C8.pe_mt c_Plane_take hr (by decide) (pv 0) (pa_cons (pe_ix ix_list (pv 2) pe_int (fun _ _ => rfl)) pa_nil))))
    (pss_one (ps_if (pt_cmpR op_eq (pv 1) pe_str (nomark _)) (pss_one (ps_expr (C8.pe_mt c_Plane_widen hr (by decide) (pv 0) (pa_cons (pe_ix ix_list (pv 2) pe_int (fun _ _ => rfl)) pa_nil))))
    (pss_one (ps_if (pt_cmpR op_eq (pv 1) pe_str (nomark _)) (pss_one (ps_expr (C8.pe_mt0 c_Plane_narrow hr (by decide) (pv 0))))
    (pss_one (ps_expr (C8.pe_mt c_Plane_back hr (by decide) (pv 0) (pa_cons (pe_ix ix_list (pv 2) pe_int (fun _ _ => rfl)) pa_nil)))))))))
    (pss_one (ps_ret pe_str)))), ?_⟩
    cases d with
    | lay q =>
      obtain ⟨ok1, ok2⟩ := ok
      have hd' : DpAll K (less F H) us [encQ q.want, encR q.row, encQ q.wt] := hd
      cases hd' with
      | cons d1 r => cases r with
        | cons d2 r => cases r with
          | cons d3 r =>
            cases r
            refine ⟨_, rfl, rfl, true, by rfl, iteT ?_⟩
            refine ⟨_, rfl, a, _, rfl, .inl hs, rfl, true, by rfl, iteT ?_⟩
            refine ⟨_, rfl, p, dx, _, rfl, h0, rfl, _, rfl, a, _, _, _, rfl, rfl, hs, atI1, _, rfl, a, _, _, _, rfl, rfl, hs, atI0, _, rfl, a, _, _, _, rfl, rfl, hs, atI2, ?_⟩
            have lf := fine.fr
            refine ⟨p, _, _, _, st, F, q, rfl, hp, fine.n, fine.t, fun z hz e => by have := fine.low z hz; omega, d2, dp_same (less_sub _ _) d1, dp_same (less_sub _ _) d3, ok1, fine.s1, ok2, fun H' F' f1 p1 => ?_⟩
            refine ⟨_, rfl, ?_, ?_⟩
            · rw [Int.natAbs_natCast]
              by_cases z : st.1.fresh = 0
              · rw [z]; decide
              · exact (Nat.log2_lt z).mpr (Nat.lt_trans lf (by decide))
            · show Q (.str (Str.ofString (toString ((st.1.fresh : Nat) : Int)))) H'
              rw [num_text]
              exact hQ H' F' f1 p1
    | take n i q =>
      have hd' : DpAll K (less F H) us [.int (n : Nat)] := hd
      cases hd' with
      | cons d1 r =>
        cases r
        cases dp_int d1
        refine ⟨_, rfl, rfl, false, by rfl, iteF ?_⟩
        refine ⟨_, rfl, rfl, true, by rfl, iteT ?_⟩
        refine ⟨_, rfl, p, dx, _, rfl, h0, rfl, _, rfl, a, _, _, _, rfl, rfl, hs, atI0, p, st, F, n, i, q, rfl, hp, fine.n, fine.t, fine.apart, ok, fun H' F' f1 p1 => ?_⟩
        show Q (.str ("ok" : Str)) H'
        rw [l_ok]
        exact hQ H' F' f1 p1
    | widen c =>
      obtain ⟨ok1, ok2⟩ := ok
      have hd' : DpAll K (less F H) us [encR c] := hd
      cases hd' with
      | cons d1 r =>
        cases r
        refine ⟨_, rfl, rfl, false, by rfl, iteF ?_⟩
        refine ⟨_, rfl, rfl, false, by rfl, iteF ?_⟩
        refine ⟨_, rfl, rfl, true, by rfl, iteT ?_⟩
        refine ⟨_, rfl, p, dx, _, rfl, h0, rfl, _, rfl, a, _, _, _, rfl, rfl, hs, atI0, p, _, st, F, c, rfl, hp, fine.n, fine.t, fine.apart, fine.rows, fine.s0, ok1, d1, ok2, fun H' F' f1 p1 => ?_⟩
        show Q (.str ("ok" : Str)) H'
        rw [l_ok]
        exact hQ H' F' f1 p1
    | narrow =>
      refine ⟨_, rfl, rfl, false, by rfl, iteF ?_⟩
      refine ⟨_, rfl, rfl, false, by rfl, iteF ?_⟩
      refine ⟨_, rfl, rfl, false, by rfl, iteF ?_⟩
      refine ⟨_, rfl, rfl, true, by rfl, iteT ?_⟩
      refine ⟨_, rfl, p, dx, _, rfl, h0, rfl, p, st, F, rfl, hp, fine.n, fine.t, fine.apart, fine.rows, fine.s0, fine.s1, fun H' F' f1 p1 => ?_⟩
      show Q (.str ("ok" : Str)) H'
      rw [l_ok]
      exact hQ H' F' f1 p1
    | back k =>
      have hd' : DpAll K (less F H) us [.int (k : Nat)] := hd
      cases hd' with
      | cons d1 r =>
        cases r
        cases dp_int d1
        refine ⟨_, rfl, rfl, false, by rfl, iteF ?_⟩
        refine ⟨_, rfl, rfl, false, by rfl, iteF ?_⟩
        refine ⟨_, rfl, rfl, false, by rfl, iteF ?_⟩
        refine ⟨_, rfl, rfl, false, by rfl, iteF ?_⟩
        refine ⟨_, rfl, p, dx, _, rfl, h0, rfl, _, rfl, a, _, _, _, rfl, rfl, hs, atI0, p, st, F, k, rfl, hp, ok, fine.t, fun H' F' f1 p1 => ?_⟩
        show Q (.str ("ok" : Str)) H'
        rw [l_ok]
        exact hQ H' F' f1 p1
end
end Np
end
section
set_option linter.all false
set_option maxRecDepth 100000
set_option maxHeartbeats 4000000
/-! What a plane tells. -/
namespace Np
open PySem PySem.Spec PyProof.Rows L2 SX
inductive Ask
  | mark | told | rests | pulls | squares | free | ways
  | value (r : Row)
  | word (n i : Nat) (q : Pt)
def Ask.name : Ask → Str
  | .mark => "mark"
  | .told => "told"
  | .rests => "rests"
  | .pulls => "pulls"
  | .squares => "squares"
  | .free => "free"
  | .ways => "ways"
  | .value _ => "value"
  | .word _ _ _ => "word"
def Ask.parts : Ask → List PyData
  | .value r => [encR r]
  | .word n _ _ => [.int (n : Nat)]
  | _ => []
def Ask.ok (st : Pl) : Ask → Prop
  | .value r => TinyRow st.1.span r
  | .word n i q => st.1.kept[i]? = some (n, q)
  | _ => True
def waysS (ps : List Pt) (m : Nat) : List Nat := TL.joinL [32] ((waysOf ps m).map rowS)
def Ask.ans (st : Pl) : Ask → List Nat
  | .mark => numS (st.2.length : Nat)
  | .told => rowS (toldOf (ptsOf st) st.1.span)
  | .rests => rowS (restOf (ptsOf st) st.1.span)
  | .pulls => rowS (pullsOf (ptsOf st) st.1.span)
  | .squares => ratS (squaresOf (ptsOf st) st.1.span)
  | .free => intsS (freeOf (ptsOf st) st.1.span)
  | .ways => waysS (ptsOf st) st.1.span
  | .value r => valS (ptsOf st) st.1.span r
  | .word _ i _ => optS (wordOf (ptsOf st) st.1.span i)
def spTold (K : PySem.W.Frag) (C : Addr) : Sp := fun vs H Q _ => ∃ (p a : Addr) (us : List V) (st : Pl) (F : List Addr) (d : Ask), vs = [.ref p, .str d.name, .ref a] ∧ PlaneAt K C H p st F ∧ PlFine st ∧ Small (ptsOf st) st.1.span ∧ SqL K H a us ∧ DpAll K H us d.parts ∧ d.ok st ∧
  ∀ H', Same H H' → Q (.str (S (d.ans st))) H'
theorem free_len (ps : List Pt) (m : Nat) : (freeOf ps m).length ≤ m ∧ ∀ k, k ∈ freeOf ps m → k < m := by
  have h := freeUp_len (partsOf ps m) m
  unfold freeOf freeIn
  rw [parts_len]
  refine ⟨h, fun k hk => ?_⟩
  exact List.mem_range.mp (List.mem_filter.mp hk).1
section
variable {P : Program} {w : World} {K : PySem.W.Frag} {mg : Str → Option Value} {base : Heap} {aN aO C CF CN : Addr}

theorem k_told_of (T : Txt K mg aN aO) (F : DefAt K mg "told_of" s_told_of) (c_Plane_mark : C8.Met P w K mg base 1 C "mark" (fun vs H Q _ => ∃ p st F, vs = [.ref p] ∧ PlaneAt K C H p st F ∧ Q (.int (st.2.length : Nat)) H) [])
    (c_Plane_told : C8.Met P w K mg base 12 C "told" (spPlG K C gTold) []) (c_Plane_free : C8.Met P w K mg base 12 C "free" (spPlG K C gFree) []) (c_Plane_ways : C8.Met P w K mg base 12 C "ways" (spPlG K C gWays) []) (c_Plane_squares : C8.Met P w K mg base 12 C "squares" (spPlG K C gSquares) [])
    (c_Plane_fit : C8.Met P w K mg base 11 C "fit" (spPlFit K C CF) []) (c_Fit_rests : C8.Met P w K mg base 1 CF "rests" (spFitG K CF gRests) []) (c_Fit_pulls : C8.Met P w K mg base 7 CF "pulls" (spFitG K CF gPulls) [])
    (c_shown : C8.Cal P w K mg base 1 "shown" (spShown K) []) (c_shown_row : C8.Cal P w K mg base 2 "shown_row" (spShownRow K) []) (c_in_figures : C8.Cal P w K mg base 1 "in_figures" (spFigures K) [])
    (c_told_value : C8.Cal P w K mg base 12 "told_value" (spToldValue K C) []) (c_told_word : C8.Cal P w K mg base 12 "told_word" (spToldWord K C) []) : C8.Cal P w K mg base 13 "told_of" (spTold K C) [] := by
  refine cal_of F sc_told_of b_told_of (fun vs H Q E h => ?_) (fun f cdv A outer s H vs Q E hr h => ?_)
  · obtain ⟨p, a, us, st, F, d, rfl, _⟩ := h
    rfl
  · obtain ⟨p, a, us, st, F, d, rfl, hp, fine, Sm, hs, hd, ok, hQ⟩ := h
    obtain ⟨dx, v1, v2, v3, v4, h0⟩ := hp.ins
    have lm := Sm.m3
    have lp := Sm.len
    obtain ⟨fr1, fr2⟩ := fit_shape Sm
    obtain ⟨fl1, fl2⟩ := free_len (ptsOf st) st.1.span
    refine ⟨_, (pss_cons (ps_if (pt_cmpR op_eq (pv 1) pe_str (nomark _)) (pss_one (ps_ret (pe_callTy call_str_int rfl T.str (by decide +kernel) (pa_cons (C8.pe_mt0 c_Plane_mark hr (by decide) (pv 0)) pa_nil))))
    pss_nil)
    (pss_cons (ps_if (pt_cmpR op_eq (pv 1) pe_str (nomark _)) (pss_one (ps_ret (C8.pe_c c_shown_row hr (by decide) rfl (pa_cons (C8.pe_mt0 c_Plane_told hr (by decide) (pv 0)) pa_nil))))
    pss_nil)
    (pss_cons (ps_if (pt_cmpR op_eq (pv 1) pe_str (nomark _)) (pss_one (ps_ret (C8.pe_c c_shown_row hr (by decide) rfl (pa_cons (C8.pe_mt0 c_Fit_rests hr (by decide) (C8.pe_mt0 c_Plane_fit hr (by decide) (pv 0))) pa_nil))))
    pss_nil)
    (pss_cons (ps_if (pt_cmpR op_eq (pv 1) pe_str (nomark _)) (pss_one (ps_ret (C8.pe_c c_shown_row hr (by decide) rfl (pa_cons (C8.pe_mt0 c_Fit_pulls hr (by decide) (C8.pe_mt0 c_Plane_fit hr (by decide) (pv 0))) pa_nil))))
    pss_nil)
    (pss_cons (ps_if (pt_cmpR op_eq (pv 1) pe_str (nomark _)) (pss_one (ps_ret (C8.pe_c c_shown hr (by decide) rfl (pa_cons (C8.pe_mt0 c_Plane_squares hr (by decide) (pv 0)) pa_nil))))
    pss_nil)
    (pss_cons (ps_if (pt_cmpR op_eq (pv 1) pe_str (nomark _)) (pss_one (ps_ret (C8.pe_c c_in_figures hr (by decide) rfl (pa_cons (C8.pe_mt0 c_Plane_free hr (by decide) (pv 0)) pa_nil))))
    pss_nil)
    (pss_cons (ps_if (pt_cmpR op_eq (pv 1) pe_str (nomark _)) (pss_one (ps_ret (pe_join pe_str (pe_lc (own := [("way", 3)]) rfl sc_told_of.nd (pi_list (C8.pe_mt0 c_Plane_ways hr (by decide) (pv 0))) (blkOk_by (own := [("way", 3)]) (N := N_told_of) (sc := defScope s_told_of) (by decide +kernel)) (fun _ _ _ _ _ => (pg_name (i := 3) sc_told_of.nd rfl (Or.inl rfl))) (fun _ _ _ _ _ => pts_nil) (fun _ _ _ _ _ => (C8.pe_c c_shown_row hr (by decide) rfl (pa_cons (pv 3) pa_nil)))))))
    pss_nil)
    (pss_cons (ps_if (pt_cmpR op_eq (pv 1) pe_str (nomark _)) (pss_one (ps_ret (C8.pe_c c_told_value hr (by decide) rfl (pa_cons (pv 0) (pa_cons (pe_ix ix_list (pv 2) pe_int (fun _ _ => rfl)) pa_nil)))))
    pss_nil)
    (pss_cons (ps_if (pt_cmpR op_eq (pv 1) pe_str (nomark _)) (pss_one (ps_ret (C8.pe_c c_told_word hr (by decide) rfl (pa_cons (pv 0) (pa_cons (pe_ix ix_list (pv 2) pe_int (fun _ _ => rfl)) pa_nil)))))
    pss_nil)
    (pss_one ps_never)))))))))), ?_⟩
    cases d with
    | mark =>
      refine ⟨_, rfl, rfl, true, by rfl, iteT ?_⟩
      refine ⟨_, rfl, p, dx, _, rfl, h0, rfl, p, st, F, rfl, hp, _, rfl, ?_, ?_⟩
      · rw [Int.natAbs_natCast]
        have := fine.t
        by_cases z : st.2.length = 0
        · rw [z]; decide
        · exact (Nat.log2_lt z).mpr (Nat.lt_of_le_of_lt this (by decide))
      · show Q (.str (Str.ofString (toString ((st.2.length : Nat) : Int)))) H
        rw [num_text]
        exact hQ H fun _ _ e => e
    | told =>
      refine ⟨_, rfl, rfl, false, by rfl, iteF ?_⟩
      refine ⟨_, rfl, rfl, true, by rfl, iteT ?_⟩
      refine ⟨_, rfl, p, dx, _, rfl, h0, rfl, p, st, F, rfl, hp, Sm, fun H1 v n1 hv => ?_⟩
      exact ⟨_, toldOf (ptsOf st) st.1.span, rfl, dp_same (dif_sub _ _) hv, by omega, Sm.zTold, fun H2 n2 => hQ _ (n1.trans n2)⟩
    | rests =>
      refine ⟨_, rfl, rfl, false, by rfl, iteF ?_⟩
      refine ⟨_, rfl, rfl, false, by rfl, iteF ?_⟩
      refine ⟨_, rfl, rfl, true, by rfl, iteT ?_⟩
      refine ⟨_, rfl, p, dx, _, rfl, h0, rfl, p, st, F, rfl, hp, Sm, fun H1 x n1 f1 => ?_⟩
      obtain ⟨dx', w0, w1, w2, w3, w4, w5, w6, w7, x0⟩ := f1.ins
      refine ⟨x, dx', _, rfl, x0, rfl, x, _, _, rfl, f1, Sm, fun H2 v n2 hv => ?_⟩
      exact ⟨_, restOf (ptsOf st) st.1.span, rfl, dp_same (dif_sub _ _) hv, by omega, Sm.zRest, fun H3 n3 => hQ _ (n1.trans (n2.trans n3))⟩
    | pulls =>
      refine ⟨_, rfl, rfl, false, by rfl, iteF ?_⟩
      refine ⟨_, rfl, rfl, false, by rfl, iteF ?_⟩
      refine ⟨_, rfl, rfl, false, by rfl, iteF ?_⟩
      refine ⟨_, rfl, rfl, true, by rfl, iteT ?_⟩
      refine ⟨_, rfl, p, dx, _, rfl, h0, rfl, p, st, F, rfl, hp, Sm, fun H1 x n1 f1 => ?_⟩
      obtain ⟨dx', w0, w1, w2, w3, w4, w5, w6, w7, x0⟩ := f1.ins
      refine ⟨x, dx', _, rfl, x0, rfl, x, _, _, rfl, f1, Sm, fun H2 v n2 hv => ?_⟩
      refine ⟨_, pullsOf (ptsOf st) st.1.span, rfl, dp_same (dif_sub _ _) hv, ?_, fun q hq => ?_, fun H3 n3 => hQ _ (n1.trans (n2.trans n3))⟩
      · unfold pullsOf
        rw [List.length_map, List.length_range]
        omega
      · obtain ⟨i, _, rfl⟩ := List.mem_map.mp hq
        exact (Sm.pull i).2.2.2
    | squares =>
      refine ⟨_, rfl, rfl, false, by rfl, iteF ?_⟩
      refine ⟨_, rfl, rfl, false, by rfl, iteF ?_⟩
      refine ⟨_, rfl, rfl, false, by rfl, iteF ?_⟩
      refine ⟨_, rfl, rfl, false, by rfl, iteF ?_⟩
      refine ⟨_, rfl, rfl, true, by rfl, iteT ?_⟩
      refine ⟨_, rfl, p, dx, _, rfl, h0, rfl, p, st, F, rfl, hp, Sm, fun H1 v n1 hv => ?_⟩
      exact ⟨_, squaresOf (ptsOf st) st.1.span, rfl, dp_same (dif_sub _ _) hv, Sm.squares.2, hQ _ n1⟩
    | free =>
      refine ⟨_, rfl, rfl, false, by rfl, iteF ?_⟩
      refine ⟨_, rfl, rfl, false, by rfl, iteF ?_⟩
      refine ⟨_, rfl, rfl, false, by rfl, iteF ?_⟩
      refine ⟨_, rfl, rfl, false, by rfl, iteF ?_⟩
      refine ⟨_, rfl, rfl, false, by rfl, iteF ?_⟩
      refine ⟨_, rfl, rfl, true, by rfl, iteT ?_⟩
      refine ⟨_, rfl, p, dx, _, rfl, h0, rfl, p, st, F, rfl, hp, Sm, fun H1 v n1 hv => ?_⟩
      exact ⟨_, freeOf (ptsOf st) st.1.span, rfl, dp_same (dif_sub _ _) hv, by omega, fun k hk => Nat.lt_trans (fl2 k hk) (Nat.lt_of_le_of_lt lm (by decide)), fun H2 n2 => hQ _ (n1.trans n2)⟩
    | ways =>
      refine ⟨_, rfl, rfl, false, by rfl, iteF ?_⟩
      refine ⟨_, rfl, rfl, false, by rfl, iteF ?_⟩
      refine ⟨_, rfl, rfl, false, by rfl, iteF ?_⟩
      refine ⟨_, rfl, rfl, false, by rfl, iteF ?_⟩
      refine ⟨_, rfl, rfl, false, by rfl, iteF ?_⟩
      refine ⟨_, rfl, rfl, false, by rfl, iteF ?_⟩
      refine ⟨_, rfl, rfl, true, by rfl, iteT ?_⟩
      refine ⟨⟨_, rfl⟩, _, rfl, p, dx, _, rfl, h0, rfl, p, st, F, rfl, hp, Sm, fun H1 v n1 hv => ?_⟩
      obtain ⟨b, xs, rfl, hb, hbd⟩ := dp_list (dp_same (dif_sub _ _) hv)
      have hlen := hbd.length
      rw [List.length_map] at hlen
      have wl : (waysOf (ptsOf st) st.1.span).length ≤ st.1.span := by
        unfold waysOf
        rw [List.length_map]
        exact fl1
      refine ⟨b, rfl, ⟨xs, hb⟩, fun D hD => lc_list (K := K) (a := b) (xs := xs) (fun i H' => Same H1 H' ∧ H' D = some (.lst (((waysOf (ptsOf st) st.1.span).take i).map fun r => V.str (S (rowS r)))))
        ⟨same_new hD, upd_same⟩ (fun i H' _ hP => hP.1.seq hb) (fun i x H' hx hP => ?_) (fun H' hP => ?_)⟩
      · obtain ⟨m1, hL⟩ := hP
        obtain ⟨r, hr2, hrd⟩ := rows_get hbd hx
        have hi := (List.getElem?_eq_some_iff.mp hr2).1
        have rm := List.mem_of_getElem? hr2
        have rl := (Sm.way rm).2
        refine ⟨rfl, ?_⟩
        refine ⟨_, rfl, _, r, rfl, dp_same m1 hrd, by omega, Sm.zWay rm, fun H2 n2 => ?_⟩
        have hL2 := n2 _ _ hL
        refine ⟨_, hL2, len_small (by rw [List.length_map]; exact Nat.le_trans (List.length_take_le _ _) (by omega)), same_put (m1.trans n2) hD, ?_⟩
        rw [upd_same, take_more hr2, List.map_append]
        rfl
      · obtain ⟨m1, hL⟩ := hP
        rw [hlen, List.take_length, map_str rowS] at hL
        have bl : ∀ x, x ∈ (waysOf (ptsOf st) st.1.span).map rowS → x.length ≤ 12000 := fun x hx => by
          obtain ⟨r, hr2, rfl⟩ := List.mem_map.mp hx
          have rl := (Sm.way hr2).2
          have jl := joinL_len [44] 3900 (r.map ratS) fun y hy => by
            obtain ⟨q, hq, rfl⟩ := List.mem_map.mp hy
            have sz := Sm.zWay hr2 q hq
            have := ratS_len sz.1 sz.2 (by decide)
            omega
          rw [List.length_map] at jl
          have : List.length r * (3900 + [44].length) ≤ 3 * 3901 := Nat.mul_le_mul (by omega) (Nat.le_refl _)
          unfold rowS
          omega
        refine ⟨S [32], D, ((waysOf (ptsOf st) st.1.span).map rowS).map S, by rw [← l_space], rfl, .inl (SqL.of hL), ?_, ?_⟩
        · have := sum_len 12000 _ bl
          rw [List.length_map] at this
          rw [List.length_map, List.length_map]
          show _ + (waysOf (ptsOf st) st.1.span).length * 1 ≤ _
          omega
        · rw [join_S]
          exact hQ _ (n1.trans m1)
    | value r =>
      have hd' : DpAll K H us [encR r] := hd
      cases hd' with
      | cons d1 rr =>
        cases rr
        refine ⟨_, rfl, rfl, false, by rfl, iteF ?_⟩
        refine ⟨_, rfl, rfl, false, by rfl, iteF ?_⟩
        refine ⟨_, rfl, rfl, false, by rfl, iteF ?_⟩
        refine ⟨_, rfl, rfl, false, by rfl, iteF ?_⟩
        refine ⟨_, rfl, rfl, false, by rfl, iteF ?_⟩
        refine ⟨_, rfl, rfl, false, by rfl, iteF ?_⟩
        refine ⟨_, rfl, rfl, false, by rfl, iteF ?_⟩
        refine ⟨_, rfl, rfl, true, by rfl, iteT ?_⟩
        exact ⟨_, rfl, _, rfl, a, _, _, _, rfl, rfl, hs, atI0, p, _, st, F, r, rfl, hp, Sm, d1, ok, hQ⟩
    | word n i q =>
      have hd' : DpAll K H us [.int (n : Nat)] := hd
      cases hd' with
      | cons d1 rr =>
        cases rr
        cases dp_int d1
        refine ⟨_, rfl, rfl, false, by rfl, iteF ?_⟩
        refine ⟨_, rfl, rfl, false, by rfl, iteF ?_⟩
        refine ⟨_, rfl, rfl, false, by rfl, iteF ?_⟩
        refine ⟨_, rfl, rfl, false, by rfl, iteF ?_⟩
        refine ⟨_, rfl, rfl, false, by rfl, iteF ?_⟩
        refine ⟨_, rfl, rfl, false, by rfl, iteF ?_⟩
        refine ⟨_, rfl, rfl, false, by rfl, iteF ?_⟩
        refine ⟨_, rfl, rfl, false, by rfl, iteF ?_⟩
        refine ⟨_, rfl, rfl, true, by rfl, iteT ?_⟩
        exact ⟨_, rfl, _, rfl, a, _, _, _, rfl, rfl, hs, atI0, p, st, F, n, i, q, rfl, hp, Sm, fine.apart, ok, hQ⟩
end
end Np
end
section
set_option linter.all false
set_option maxRecDepth 100000
set_option maxHeartbeats 4000000
/-! The desk's lines: their kinds. -/
namespace Np
open PySem PySem.Spec PyProof.Rows L2 SX
/-- d.get(word), d a dict that the top has written under a name -/
def tKGet (K : PySem.W.Frag) (d : Addr) (ty : TE) : TE := fun σ H Q => ty σ H fun y H1 => ∃ (z : Str) (u : Value) (v : V), y = .str z ∧ PySem.W.nsIn K d z = some (some u) ∧ RelV v u ∧ Q v H1
theorem pe_kget {X : Cx} {x : Str} {p apos cpos : Pos} {e : Expr} {ty : TE} {d : Addr} (D : ∃ es n, KDict X.K X.w d es n) (hg : Gl X x) (hm : X.mg x = some (.ref d)) (he : PE X e ty) (m : M1 X (.Name x p) "get" apos e cpos) (hd : (x == ("__debug__" : Str)) = false := by decide) :
    PE X (.Call (.Attribute (.Name x p) "get" apos) [e] [] cpos) (tKGet X.K d ty) := by
  obtain ⟨es, n, D⟩ := D
  have ho : PE X (.Name x p) (tC (.ref d)) := C8.pe_gc hg ⟨_, hm, rfl⟩ hd
  refine ⟨fun pins s σ H Q I h => ?_⟩
  refine wpAny_Call_method m.base m.few m.line PySem.F.plainAttrs_dict PySem.F.slot_dict_get PySem.F.type_dict_get (thn (ho.run pins s σ H (fun v H1 => v = .ref d ∧ H = H1) I ⟨rfl, rfl⟩) fun u s1 ⟨x0, H1, I1, rx, ex, eH⟩ => ?_)
  subst ex
  obtain rfl : u = Value.ref d := rx
  rw [← eH] at I1
  have mo := PySem.W.mapOf_K (prog := X.prog) (w := X.w) I1.kIn D.at_ D.lit
  refine ⟨mo.typeIs, mo.noDict, ?_⟩
  rw [m.trees]
  refine Calls.callWith_builtin rfl (Calls.evalArgs_plain (Calls.spliced_cons (thn (he.run pins s1 σ H _ I1 h) fun iv s2 ⟨y, H2, I2, ry, z, u0, v0, ey, en, rv, q⟩ => Calls.spliced_nil ?_)))
  subst ey
  obtain ⟨t, rfl⟩ := ry
  have mo2 := PySem.W.mapOf_K (prog := X.prog) (w := X.w) I2.kIn D.at_ D.lit
  refine call_meetsIn PySem.F.slot_dict_get mo2.typeIs PySem.F.entry_dict_get (PySem.F.args_dict_get_2 _ _) (meets_dict_get (PySem.strKind X.prog X.w) d (PySem.strKind_is X.prog X.w z t) D.low) ⟨_, mo2, ⟨v0, H2, I2.tok _, ?_, q⟩⟩
  rw [PySem.W.find_K D.at_ en]
  exact rv
structure LinesAt (K : PySem.W.Frag) (w : World) (mg : Str → Option Value) (d : Addr) : Prop where
  D : ∃ es n, KDict K w d es n
  g : mg "LINES" = some (.ref d)
  row : ∀ x ks, (x, ks) ∈ lineTab → ∃ a, PySem.W.nsIn K d x = some (some (.ref a)) ∧ ∀ H, SqT K H a (ks.map V.str)
def kindsOf (x : Str) (ks : List Str) (n : Nat) : List Str := if x = "lay" ∧ n = 4 then ks ++ [("ratio" : Str)] else ks
def spKinds (K : PySem.W.Frag) : Sp := fun vs H Q _ => ∃ (a : Addr) (x : Str) (ks : List Str) (rest : List V), vs = [.ref a] ∧ SqL K H a (.str x :: rest) ∧ (x, ks) ∈ lineTab ∧ rest.length ≤ 10 ∧ (kindsOf x ks rest.length).length = rest.length ∧
  ∀ H' b, Same H H' → SqT K H' b ((kindsOf x ks rest.length).map V.str) → Q (.ref b) H'
abbrev N_kinds_of : List Str := ["words", "kinds"]
theorem sc_kinds_of : FnScope ["words", "kinds"] ["words"] (defScope s_kinds_of) := ⟨rfl, rfl, rfl, by decide +kernel, rfl, by decide +kernel, by decide +kernel⟩
theorem b_kinds_of : BindOk "kinds_of" "kinds_of" s_kinds_of ["words"] := fun _ _ _ _ _ _ us hl => match us, hl with | [_], _ => rfl
theorem lineTab_len {x : Str} {ks : List Str} (h : (x, ks) ∈ lineTab) : ks ≠ [] ∧ ks.length ≤ 3 := by
  have : ∀ q, q ∈ lineTab → q.2 ≠ [] ∧ q.2.length ≤ 3 := by decide +kernel
  exact this _ h
section
variable {P : Program} {w : World} {K : PySem.W.Frag} {mg : Str → Option Value} {base : Heap} {aN aO aL : Addr}
theorem k_kinds_of (T : Txt K mg aN aO) (L : LinesAt K w mg aL) (F : DefAt K mg "kinds_of" s_kinds_of) : C8.Cal P w K mg base 1 "kinds_of" (spKinds K) [] := by
  refine cal_of F sc_kinds_of b_kinds_of (fun vs H Q E h => ?_) (fun f cdv A outer s H vs Q E hr h => ?_)
  · obtain ⟨a, x, ks, rest, rfl, _⟩ := h
    rfl
  · obtain ⟨a, x, ks, rest, rfl, hs, hx, hl, hk, hQ⟩ := h
    obtain ⟨b, en, hb⟩ := L.row x ks hx
    obtain ⟨kn, kl⟩ := lineTab_len hx
    refine ⟨_, (pss_cons (ps_set (i := 1) sc_kinds_of.nd rfl (Or.inl rfl) (pe_kget L.D rfl L.g (pe_ix ix_list (pv 0) pe_int (fun _ _ => rfl)) ⟨rfl, rfl, rfl, rfl⟩))
    (pss_cons (ps_if (PW.pt (pw_and (pt_cmpR op_notN (pv 1) pe_non (nomark _)) (pw_and (pt_cmpR op_eq (pe_ix ix_list (pv 0) pe_int (fun _ _ => rfl)) pe_str (nomark _)) (pw_and1 (pt_cmpR op_eq (pe_callB call_len_seq rfl T.len (by decide +kernel) (pa_cons (pv 0) pa_nil)) pe_int (nomark _)))))) (pss_one (ps_set (i := 1) sc_kinds_of.nd rfl (Or.inl rfl) (pe_op op_catA (pv 1) (pe_tup (pa_cons pe_str pa_nil)))))
    pss_nil)
    (pss_cons (ps_if (PW.pt (pw_or (pt_cmpR op_isN (pv 1) pe_non (nomark _)) (pw_or1 (pt_cmpR op_ne (pe_callB call_len_seq rfl T.len (by decide +kernel) (pa_cons (pv 1) pa_nil)) (pe_op op_sub (pe_callB call_len_seq rfl T.len (by decide +kernel) (pa_cons (pv 0) pa_nil)) pe_int) (nomark _))))) (pss_one ps_never)
    pss_nil)
    (pss_one (ps_ret (pv 1)))))), ?_⟩
    refine ⟨_, rfl, a, _, _, _, rfl, rfl, hs, atI0, x, _, .ref b, rfl, en, rfl, ?_⟩
    refine ⟨_, rfl, rfl, _, rfl, iteT ?_⟩
    refine ⟨_, rfl, a, _, _, _, rfl, rfl, hs, atI0, rfl, _, rfl, ?_⟩
    have e1 : decide (V.str x = V.str ("lay" : Str)) = decide (x = "lay") := decide_eq_decide.mpr ⟨fun e => V.str.inj e, fun e => by rw [e]⟩
    rw [e1]
    have fin : ∀ (H' : Hp) (c : Addr) , Same H H' → SqT K H' c ((kindsOf x ks rest.length).map V.str) → ∀ (t : Nat), t = rest.length + 1 → ((kindsOf x ks rest.length).map V.str).length = rest.length := fun _ _ _ _ _ _ => by rw [List.length_map]; exact hk
    by_cases hlay : x = "lay"
    · rw [decide_eq_true hlay]
      refine iteT ?_
      refine ⟨_, rfl, a, _, rfl, .inl hs, rfl, _, rfl, ?_⟩
      by_cases h4 : rest.length = 4
      · have eK : kindsOf x ks rest.length = ks ++ [("ratio" : Str)] := by
          unfold kindsOf
          rw [if_pos ⟨hlay, h4⟩]
        rw [show decide (V.int (((V.str x :: rest : List V).length : Nat) : Int) = V.int 5) = true from decide_eq_true (by rw [List.length_cons, h4]; rfl)]
        refine iteT ?_
        refine ⟨_, rfl, by show 1 ≤ sizeLine; decide, fun t ht => ?_⟩
        have n1 : Same H (upd H t (.tup [V.str "ratio"])) := same_new ht
        refine ⟨b, t, ks.map V.str, _, rfl, rfl, hb _, SqT.of upd_same, Nat.le_of_lt (len_small (by rw [List.length_map]; show ks.length + 1 ≤ _; omega)), fun z => absurd (List.map_eq_nil_iff.mp z) kn, (fun _ z => absurd z (List.cons_ne_nil _ _)), fun _ _ u hu => ?_⟩
        have n2 : Same H (upd (upd H t (.tup [V.str "ratio"])) u (.tup (ks.map V.str ++ [V.str "ratio"]))) := n1.trans (same_new hu)
        have hu2 : SqT K (upd (upd H t (.tup [V.str "ratio"])) u (.tup (ks.map V.str ++ [V.str "ratio"]))) u (ks.map V.str ++ [V.str "ratio"]) := SqT.of upd_same
        rw [eK] at hk
        have hkl : (ks.map V.str ++ [V.str ("ratio" : Str)]).length = rest.length := by
          rw [← hk, List.length_append, List.length_append, List.length_map]
          rfl
        refine ⟨_, rfl, rfl, _, rfl, iteF ?_⟩
        refine ⟨_, rfl, u, _, rfl, .inr hu2, _, rfl, a, _, rfl, .inl (n2.seq hs), _, _, rfl, rfl, rfl, _, rfl, ?_⟩
        rw [hkl, show decide (V.int ((rest.length : Nat) : Int) = V.int ((((V.str x :: rest : List V).length : Nat) : Int) - 1)) = true from decide_eq_true (by rw [List.length_cons]; congr 1; omega)]
        refine iteF ?_
        refine ⟨_, rfl, hQ _ _ n2 ?_⟩
        rw [eK, List.map_append]
        exact hu2
      · have eK : kindsOf x ks rest.length = ks := by
          unfold kindsOf
          rw [if_neg fun z => h4 z.2]
        rw [show decide (V.int (((V.str x :: rest : List V).length : Nat) : Int) = V.int 5) = false from decide_eq_false fun e => h4 (by have := V.int.inj e; rw [List.length_cons] at this; omega)]
        refine iteF ?_
        rw [eK] at hk
        refine ⟨_, rfl, rfl, _, rfl, iteF ?_⟩
        refine ⟨_, rfl, b, _, rfl, .inr (hb _), _, rfl, a, _, rfl, .inl hs, _, _, rfl, rfl, rfl, _, rfl, ?_⟩
        rw [List.length_map, hk, show decide (V.int ((rest.length : Nat) : Int) = V.int ((((V.str x :: rest : List V).length : Nat) : Int) - 1)) = true from decide_eq_true (by rw [List.length_cons]; congr 1; omega)]
        refine iteF ?_
        refine ⟨_, rfl, hQ _ _ (fun _ _ e => e) ?_⟩
        rw [eK]
        exact hb _
    · rw [decide_eq_false hlay]
      refine iteF ?_
      have eK : kindsOf x ks rest.length = ks := by
        unfold kindsOf
        rw [if_neg fun z => hlay z.1]
      rw [eK] at hk
      refine ⟨_, rfl, rfl, _, rfl, iteF ?_⟩
      refine ⟨_, rfl, b, _, rfl, .inr (hb _), _, rfl, a, _, rfl, .inl hs, _, _, rfl, rfl, rfl, _, rfl, ?_⟩
      rw [List.length_map, hk, show decide (V.int ((rest.length : Nat) : Int) = V.int ((((V.str x :: rest : List V).length : Nat) : Int) - 1)) = true from decide_eq_true (by rw [List.length_cons]; congr 1; omega)]
      refine iteF ?_
      refine ⟨_, rfl, hQ _ _ (fun _ _ e => e) ?_⟩
      rw [eK]
      exact hb _
end
end Np
end
section
set_option linter.all false
set_option maxRecDepth 100000
set_option maxHeartbeats 4000000
/-! The desk's parts. -/
namespace Np
open PySem PySem.Spec PyProof.Rows L2 SX
inductive Kd
  | ratio (q : Rat) | row (r : Row) | number (n : Nat) | wide (m : Nat) | long (r : Row)
def Kd.kd : Kd → Str
  | .ratio _ => "ratio"
  | .row _ => "row"
  | .number _ => "number"
  | .wide _ => "wide"
  | .long _ => "long"
def Kd.wd : Kd → List Nat
  | .ratio q => ratS q
  | .row r => rowS r
  | .number n => numS (n : Nat)
  | .wide n => numS (n : Nat)
  | .long r => rowS r
def Kd.data : Kd → PyData
  | .ratio q => encQ q
  | .row r => encR r
  | .number n => .int (n : Nat)
  | .wide n => .int (n : Nat)
  | .long r => encR r
def Kd.ok : Kd → Prop
  | .ratio q => Fine q
  | .row r => r ≠ [] ∧ r.length ≤ 100 ∧ ∀ q, q ∈ r → Fine q
  | .number n => n < 10 ^ 6
  | .wide n => 1 ≤ n ∧ n ≤ 12
  | .long r => r ≠ [] ∧ r.length ≤ 100 ∧ ∀ q, q ∈ r → Fine q
/-- a row as long as the plane is wide -/
def LongOk (K : PySem.W.Frag) (C : Addr) (H : Hp) (pv : V) (d : Kd) : Prop := ∀ r, d = .long r → ∃ (p : Addr) (st : Pl) (F : List Addr), pv = .ref p ∧ PlaneAt K C H p st F ∧ st.1.span = r.length
theorem LongOk.same {K : PySem.W.Frag} {C : Addr} {H H' : Hp} {pv : V} {d : Kd} (h : LongOk K C H pv d) (s : Same H H') : LongOk K C H' pv d := fun r e => by
  obtain ⟨p, st, F, h1, h2, h3⟩ := h r e
  exact ⟨p, st, F, h1, h2.same s, h3⟩
def spPart (K : PySem.W.Frag) (C : Addr) : Sp := fun vs H Q _ => ∃ (v pv : V) (d : Kd), vs = [v, .str d.kd, .str (S d.wd), pv] ∧ d.ok ∧ LongOk K C H pv d ∧ GiveF K H Q d.data
def spParts (K : PySem.W.Frag) (CD C : Addr) : Sp := fun vs H Q _ => ∃ (d a b dx bd : Addr) (kvs : List (Key × V)) (known : Bool) (nm : List Nat) (items : List Kd) (pv : V), vs = [.ref d, .ref a, .ref b] ∧ H d = some (.ins CD dx [("by_name", .ref bd)]) ∧ H bd = some (.dK kvs) ∧
  SqT K H a (V.str (if known = true then "known" else "new") :: items.map fun d => V.str d.kd) ∧ SqL K H b (V.str (S nm) :: items.map fun d => V.str (S d.wd)) ∧ Nm nm ∧ (known = true → (valV kvs (.inr (S nm))).isSome = true) ∧ (valV kvs (.inr (S nm))).getD .non = pv ∧
  items.length ≤ 10 ∧ (∀ d, d ∈ items → d.ok ∧ LongOk K C H pv d) ∧ ∀ H' D us, Same H H' → H' D = some (.lst (pv :: us)) → DpAll K (dif H H') us (items.map Kd.data) → Q (.ref D) H'
abbrev N_Desk_part_of : List Str := ["self", "kind", "word", "plane"]
theorem sc_Desk_part_of : FnScope ["self", "kind", "word", "plane"] ["self", "kind", "word", "plane"] (defScope s_Desk_part_of) := ⟨rfl, rfl, rfl, by decide +kernel, rfl, by decide +kernel, by decide +kernel⟩
theorem b_Desk_part_of : BindOk "part_of" "Desk.part_of" s_Desk_part_of ["self", "kind", "word", "plane"] := fun _ _ _ _ _ _ us hl => match us, hl with | [_, _, _, _], _ => rfl
abbrev N_Desk_parts_of : List Str := ["self", "kinds", "words", "parts", "kind", "word"]
theorem sc_Desk_parts_of : FnScope ["self", "kinds", "words", "parts", "kind", "word"] ["self", "kinds", "words"] (defScope s_Desk_parts_of) := ⟨rfl, rfl, rfl, by decide +kernel, rfl, by decide +kernel, by decide +kernel⟩
theorem b_Desk_parts_of : BindOk "parts_of" "Desk.parts_of" s_Desk_parts_of ["self", "kinds", "words"] := fun _ _ _ _ _ _ us hl => match us, hl with | [_, _, _], _ => rfl
structure DeskC (K : PySem.W.Frag) (C : Addr) : Prop where
  cls : Cls K C
  na : NoAttr K C "by_name"
section
variable {P : Program} {w : World} {K : PySem.W.Frag} {mg : Str → Option Value} {base : Heap} {aN aO CD C : Addr}
theorem k_part_of (T : Txt K mg aN aO) (c : DeskC K CD) (F : MethAt K CD "part_of" "Desk.part_of" s_Desk_part_of) (c_read : C8.Cal P w K mg base 3 "read" (spRead K) []) (c_read_things : C8.Cal P w K mg base 5 "read_things" (spReadRow K) []) (c_read_number : C8.Cal P w K mg base 4 "read_number" spNumber [])
    (c_read_wide : C8.Cal P w K mg base 5 "read_wide" spWide []) (c_read_long : C8.Cal P w K mg base 6 "read_long" (spLong K C) []) : C8.Met P w K mg base 7 CD "part_of" (spPart K C) [] := by
  refine met_of c.cls F sc_Desk_part_of b_Desk_part_of (fun vs H Q E h => ?_) (fun f cdv A outer s H vs Q E hr h => ?_)
  · obtain ⟨v, pv, d, rfl, _⟩ := h
    rfl
  · obtain ⟨v, pz, d, rfl, ok, lo, hQ⟩ := h
    refine ⟨_, (pss_cons (ps_if (pt_cmpR op_eq (pv 1) pe_str (nomark _)) (pss_one (ps_ret (C8.pe_c c_read hr (by decide) rfl (pa_cons (pv 2) pa_nil))))
    pss_nil)
    (pss_cons (ps_if (pt_cmpR op_eq (pv 1) pe_str (nomark _)) (pss_one (ps_ret (C8.pe_c c_read_things hr (by decide) rfl (pa_cons (pv 2) pa_nil))))
    pss_nil)
    (pss_cons (ps_if (pt_cmpR op_eq (pv 1) pe_str (nomark _)) (pss_one (ps_ret (C8.pe_c c_read_number hr (by decide) rfl (pa_cons (pv 2) pa_nil))))
    pss_nil)
    (pss_cons (ps_if (pt_cmpR op_eq (pv 1) pe_str (nomark _)) (pss_one (ps_ret (C8.pe_c c_read_wide hr (by decide) rfl (pa_cons (pv 2) pa_nil))))
    pss_nil)
    (pss_cons (ps_if (pt_cmpR op_eq (pv 1) pe_str (nomark _)) (pss_one ps_never)
    pss_nil)
    (pss_one (ps_ret (C8.pe_c c_read_long hr (by decide) rfl (pa_cons (pv 2) (pa_cons (pv 3) pa_nil)))))))))), ?_⟩
    cases d with
    | ratio q =>
      refine ⟨_, rfl, rfl, true, by rfl, iteT ?_⟩
      exact ⟨_, rfl, q, rfl, ok, hQ⟩
    | row r =>
      refine ⟨_, rfl, rfl, false, by rfl, iteF ?_⟩
      refine ⟨_, rfl, rfl, true, by rfl, iteT ?_⟩
      exact ⟨_, rfl, r, rfl, ok.1, ok.2.1, ok.2.2, hQ⟩
    | number n =>
      refine ⟨_, rfl, rfl, false, by rfl, iteF ?_⟩
      refine ⟨_, rfl, rfl, false, by rfl, iteF ?_⟩
      refine ⟨_, rfl, rfl, true, by rfl, iteT ?_⟩
      exact ⟨_, rfl, n, rfl, ok, fun H' s' => hQ H' _ s' (.int _)⟩
    | wide n =>
      refine ⟨_, rfl, rfl, false, by rfl, iteF ?_⟩
      refine ⟨_, rfl, rfl, false, by rfl, iteF ?_⟩
      refine ⟨_, rfl, rfl, false, by rfl, iteF ?_⟩
      refine ⟨_, rfl, rfl, true, by rfl, iteT ?_⟩
      exact ⟨_, rfl, n, rfl, ok.1, ok.2, fun H' s' => hQ H' _ s' (.int _)⟩
    | long r =>
      refine ⟨_, rfl, rfl, false, by rfl, iteF ?_⟩
      refine ⟨_, rfl, rfl, false, by rfl, iteF ?_⟩
      refine ⟨_, rfl, rfl, false, by rfl, iteF ?_⟩
      refine ⟨_, rfl, rfl, false, by rfl, iteF ?_⟩
      refine ⟨_, rfl, rfl, false, by rfl, iteF ?_⟩
      obtain ⟨p, st, F, rfl, hp, hsp⟩ := lo r rfl
      exact ⟨_, rfl, _, rfl, p, st, F, r, rfl, hp, hsp, ok.1, ok.2.1, ok.2.2, hQ⟩
theorem kd_in (d : Kd) : inV (.str d.kd) [V.str "new", V.str "known"] = false := by
  cases d <;> rfl
theorem first_in (b : Bool) : inV (.str (if b = true then "known" else "new")) [V.str "new", V.str "known"] = true := by
  cases b <;> rfl
theorem k_parts_of (T : Txt K mg aN aO) (c : DeskC K CD) (F : MethAt K CD "parts_of" "Desk.parts_of" s_Desk_parts_of) (c_is_name : C8.Cal P w K mg base 1 "is_name" spIsName []) (c_Desk_part_of : C8.Met P w K mg base 7 CD "part_of" (spPart K C) []) : C8.Met P w K mg base 8 CD "parts_of" (spParts K CD C) [] := by
  refine met_of c.cls F sc_Desk_parts_of b_Desk_parts_of (fun vs H Q E h => ?_) (fun f cdv A outer s H vs Q E hr h => ?_)
  · obtain ⟨d, a, b, dx, bd, kvs, known, nm, items, pz, rfl, _⟩ := h
    rfl
  · obtain ⟨d, a, b, dx, bd, kvs, known, nm, items, pz, rfl, hd, hbd, ha, hb, hnm, hkn, hpz, hil, hit, hQ⟩ := h
    have c0 := c.cls
    have na := c.na
    refine ⟨_, (pss_cons (ps_set (i := 3) sc_Desk_parts_of.nd rfl (Or.inl rfl) (pe_lst pa_nil))
    (pss_cons (ps_for PassesOwn.never rfl (pi_zipM rfl T.zip (pa_cons (pv 1) (pa_cons (pv 2) pa_nil))) (pg_tup rfl (pgs_cons (pg_name (i := 4) sc_Desk_parts_of.nd rfl (Or.inl rfl)) (pgs_cons (pg_name (i := 5) sc_Desk_parts_of.nd rfl (Or.inl rfl)) pgs_nil)))
    (pss_one (ps_if (pt_cmpR op_in_seq (pv 4) (pe_tup (pa_cons pe_str (pa_cons pe_str pa_nil))) (by rfl)) (pss_cons (ps_if (PW.pt (pw_or (pt_not (pt_val (C8.pe_c c_is_name hr (by decide) rfl (pa_cons (pv 5) pa_nil)))) (pw_or1 (PW.pt (pw_and (pt_cmpR op_eq (pv 4) pe_str (nomark _)) (pw_and1 (pt_cmp (pc_dnotin (hu_of hr) (pv 5) (pe_fld (pv 0) rfl))))))))) (pss_one ps_never)
    pss_nil)
    (pss_one (ps_expr (pe_bm PySem.F.plainAttrs_list PySem.F.slot_list_append PySem.F.type_list_append mt_append (pv 3) (pa_cons (pe_dget1 (hu_of hr) (pe_fld (pv 0) rfl) (pv 5) ⟨rfl, rfl, rfl, rfl⟩) pa_nil)))))
    (pss_one (ps_expr (pe_bm PySem.F.plainAttrs_list PySem.F.slot_list_append PySem.F.type_list_append mt_append (pv 3) (pa_cons (C8.pe_mt c_Desk_part_of hr (by decide) (pv 0) (pa_cons (pv 4) (pa_cons (pv 5) (pa_cons (pe_ix ix_list (pv 3) pe_int (fun _ _ => rfl)) pa_nil)))) pa_nil)))))))
    (pss_one (ps_ret (pv 3))))), ?_⟩
    refine ⟨Nat.zero_le _, fun D hD => ?_⟩
    have s0 : Same H (upd H D (.lst [])) := same_new hD
    refine ⟨_, rfl, _, rfl, a, b, _, _, rfl, s0.tup ha, s0.seq hb, for_by (n := items.length + 1) (fun i σ H' => Same H H' ∧ ∃ a4 a5 ys, σ = [some (V.ref d), some (V.ref a), some (V.ref b), some (V.ref D), a4, a5] ∧ H' D = some (.lst ys) ∧ (i = 0 → ys = []) ∧
        ∀ j, i = j + 1 → ∃ us, ys = pz :: us ∧ DpAll K (dif H (rem H' D)) us ((items.take j).map Kd.data))
      ⟨s0, Option.none, Option.none, [], rfl, upd_same, fun _ => rfl, fun j e => absurd e (by omega)⟩ (fun i σ H' hi hP => ?_) (fun σ H' hP => ?_)⟩
    · obtain ⟨m1, a4, a5, ys, rfl, hL, h1, h2⟩ := hP
      have ha' := m1.tup ha
      have hb' := m1.seq hb
      cases i with
      | zero =>
        obtain rfl := h1 rfl
        refine ⟨⟨_, _, _, _, ha', hb', rfl, rfl⟩, fun v H1 hv => ?_⟩
        obtain ⟨t, x, y, rfl, ht, rfl, hx, hy⟩ := hv
        have ex := hx _ ha'
        have ey := hy _ hb'
        cases Option.some.inj ex
        cases Option.some.inj ey
        have n1 : Same H' (upd H' t (.tup [V.str (if known = true then "known" else "new"), V.str (S nm)])) := same_new ht
        refine ⟨t, _, rfl, SqT.of upd_same, rfl, _, _, rfl, _, _, rfl, rfl, ?_⟩
        generalize upd H' t (.tup [V.str (if known = true then "known" else "new"), V.str (S nm)]) = H1 at n1 ⊢
        refine ⟨_, rfl, by show 2 ≤ sizeLine; decide, fun t2 ht2 => ?_⟩
        have n2 : Same H1 (upd H1 t2 (.tup [V.str "new", V.str "known"])) := same_new ht2
        refine ⟨t2, _, rfl, .inr (SqT.of upd_same), rfl, rfl, ?_⟩
        refine ⟨true, congrArg V.bl (first_in known), iteT ?_⟩
        refine ⟨_, rfl, nm, rfl, hnm, fun H3 n3 => ⟨true, rfl, iteF ?_⟩⟩
        have n13 := n1.trans (n2.trans n3)
        have m3 := m1.trans n13
        have hL3 := n13 _ _ hL
        have dg : DGet H3 bd (.str (S nm)) (valV kvs (.inr (S nm))) := DGet.k (k := .inr (S nm)) (m3 _ _ hbd)
        cases known with
        | true =>
          refine ⟨_, rfl, rfl, true, by rfl, iteT ?_⟩
          refine ⟨_, rfl, _, rfl, d, CD, dx, _, _, rfl, m3 _ _ hd, c0, na, rfl, bd, _, rfl, dg, false, by rw [hkn rfl]; rfl, iteF ?_⟩
          refine ⟨_, rfl, .inl ⟨rfl, _, SqL.of hL3⟩, _, rfl, d, CD, dx, _, _, rfl, m3 _ _ hd, c0, na, rfl, bd, rfl, .inl ⟨kvs, .inl (m3 _ _ hbd)⟩, _, rfl, _, dg, D, [], _, rfl, rfl, hL3, by show 0 < sizeLine; decide, same_put m3 hD, _, _, _, rfl, upd_same, fun e => absurd e (by omega), fun j e => ⟨[], by rw [hpz]; rfl, ?_⟩⟩
          obtain rfl : j = 0 := by omega
          exact .nil
        | false =>
          refine ⟨_, rfl, rfl, false, by rfl, iteF (iteF ?_)⟩
          refine ⟨_, rfl, .inl ⟨rfl, _, SqL.of hL3⟩, _, rfl, d, CD, dx, _, _, rfl, m3 _ _ hd, c0, na, rfl, bd, rfl, .inl ⟨kvs, .inl (m3 _ _ hbd)⟩, _, rfl, _, dg, D, [], _, rfl, rfl, hL3, by show 0 < sizeLine; decide, same_put m3 hD, _, _, _, rfl, upd_same, fun e => absurd e (by omega), fun j e => ⟨[], by rw [hpz]; rfl, ?_⟩⟩
          obtain rfl : j = 0 := by omega
          exact .nil
      | succ j =>
        obtain ⟨us, rfl, hus⟩ := h2 j rfl
        have hj : j < items.length := by omega
        obtain ⟨it, eit⟩ : ∃ it, items[j]? = some it := ⟨_, List.getElem?_eq_getElem hj⟩
        obtain ⟨iok, ilo⟩ := hit it (List.mem_of_getElem? eit)
        have ek : (V.str (if known = true then "known" else "new") :: items.map fun d => V.str d.kd)[j + 1]? = some (V.str it.kd) := by
          rw [List.getElem?_cons_succ, List.getElem?_map, eit]
          rfl
        have ew : (V.str (S nm) :: items.map fun d => V.str (S d.wd))[j + 1]? = some (V.str (S it.wd)) := by
          rw [List.getElem?_cons_succ, List.getElem?_map, eit]
          rfl
        refine ⟨⟨_, _, _, _, ha', hb', ek, ew⟩, fun v H1 hv => ?_⟩
        obtain ⟨t, x, y, rfl, ht, rfl, hx, hy⟩ := hv
        have ex := hx _ ha'
        have ey := hy _ hb'
        rw [ek] at ex
        rw [ew] at ey
        cases Option.some.inj ex
        cases Option.some.inj ey
        have n1 : Same H' (upd H' t (.tup [V.str it.kd, V.str (S it.wd)])) := same_new ht
        refine ⟨t, _, rfl, SqT.of upd_same, rfl, _, _, rfl, _, _, rfl, rfl, ?_⟩
        generalize upd H' t (.tup [V.str it.kd, V.str (S it.wd)]) = H1 at n1 ⊢
        refine ⟨_, rfl, by show 2 ≤ sizeLine; decide, fun t2 ht2 => ?_⟩
        have n2 : Same H1 (upd H1 t2 (.tup [V.str "new", V.str "known"])) := same_new ht2
        refine ⟨t2, _, rfl, .inr (SqT.of upd_same), rfl, rfl, ?_⟩
        refine ⟨false, congrArg V.bl (kd_in it), iteF ?_⟩
        generalize upd H1 t2 (.tup [V.str "new", V.str "known"]) = H2 at n2 ⊢
        have n12 := n1.trans n2
        have m2 := m1.trans n12
        have hL2 := n12 _ _ hL
        have ul := hus.length
        rw [List.length_map] at ul
        have tl := List.length_take_le j items
        refine ⟨_, rfl, .inl ⟨rfl, _, SqL.of hL2⟩, _, rfl, d, dx, _, rfl, m2 _ _ hd, rfl, _, rfl, _, rfl, _, rfl, D, _, _, _, rfl, rfl, SqL.of hL2, atI0, _, pz, it, rfl, iok, ilo.same m2, fun H3 v n3 h3 => ?_⟩
        have hL3 := n3 _ _ hL2
        refine ⟨D, pz :: us, v, rfl, rfl, hL3, len_small (by rw [List.length_cons]; omega), same_put (m2.trans n3) hD, _, _, _, rfl, upd_same, fun e => absurd e (by omega), fun k e => ⟨us ++ [v], rfl, ?_⟩⟩
        obtain rfl : k = j + 1 := by omega
        rw [rem_upd, take_more eit, List.map_append]
        refine (dps_same (dif_grow (rem_same (n12.trans n3))) hus).snoc ?_
        have e : Same (dif H2 H3) (dif H (rem H3 D)) := fun b o q => by
          have q1 := dif_rem hL2 _ _ q
          have q2 := dif_late m2 _ _ q
          rcases dif_cases H b with ⟨xs', h'⟩ | h'
          · rw [dif_lst h'] at q2
            cases q2
          · rw [dif_not h']
            exact q1
        exact dp_same e h3
    · obtain ⟨m1, a4, a5, ys, rfl, hL, h1, h2⟩ := hP
      obtain ⟨us, rfl, hus⟩ := h2 items.length rfl
      rw [List.take_length] at hus
      refine ⟨⟨_, _, m1.tup ha, m1.seq hb, by rw [List.length_cons, List.length_map], by rw [List.length_cons, List.length_map]⟩, _, rfl, hQ _ _ _ m1 hL (dps_same (dif_grow (rem_sub _ _)) hus)⟩
end
end Np
end
section
set_option linter.all false
set_option maxRecDepth 100000
set_option maxHeartbeats 4000000
/-! Desks in the heap. -/
namespace Np
open PySem PySem.Spec PyProof.Rows L2 SX
abbrev Ps := List (List Nat × Pl)
abbrev sk (nm : List Nat) : Key := .inr (S nm)
inductive PlanesAt (K : PySem.W.Frag) (C : Addr) (H : Hp) : List (Key × V) → Ps → List (List Addr) → Prop
  | nil : PlanesAt K C H [] [] []
  | cons {nm : List Nat} {p : Addr} {st : Pl} {F : List Addr} {kvs : List (Key × V)} {ps : Ps} {Fs : List (List Addr)} (h : PlaneAt K C H p st F) (r : PlanesAt K C H kvs ps Fs) : PlanesAt K C H ((sk nm, .ref p) :: kvs) ((nm, st) :: ps) (F :: Fs)
def DeskAt (K : PySem.W.Frag) (CD C : Addr) (H : Hp) (d : Addr) (ps : Ps) (G : List Addr) : Prop := ∃ dx bd kvs Fs, H d = some (.ins CD dx [("by_name", .ref bd)]) ∧ H bd = some (.dK kvs) ∧ PlanesAt K C H kvs ps Fs ∧ G = d :: bd :: Fs.flatten ∧ G.Nodup
section
variable {K : PySem.W.Frag} {CD C : Addr} {H H' : Hp}
theorem PlanesAt.there : ∀ {kvs : List (Key × V)} {ps : Ps} {Fs : List (List Addr)}, PlanesAt K C H kvs ps Fs → ∀ b, b ∈ Fs.flatten → ∃ o, H b = some o ∧ isT (H b) = false ∧ ∀ ob u, o ≠ .frz ob u
  | _, _, _, .nil, b, h => by cases h
  | _, _, _, .cons h r, b, hb => by
    rw [List.flatten_cons] at hb
    rcases List.mem_append.mp hb with hb | hb
    · exact h.kind b hb
    · exact r.there b hb
theorem PlanesAt.move (t : Same (tp H) (tp H')) : ∀ {kvs : List (Key × V)} {ps : Ps} {Fs : List (List Addr)}, PlanesAt K C H kvs ps Fs → (∀ b, b ∈ Fs.flatten → H' b = H b) → PlanesAt K C H' kvs ps Fs
  | _, _, _, .nil, _ => .nil
  | _, _, _, .cons h r, e => .cons (h.move t fun b hb => e b (by rw [List.flatten_cons]; exact List.mem_append_left _ hb)) (r.move t fun b hb => e b (by rw [List.flatten_cons]; exact List.mem_append_right _ hb))
theorem PlanesAt.get : ∀ {kvs : List (Key × V)} {ps : Ps} {Fs : List (List Addr)} {i : Nat} {nm : List Nat} {st : Pl}, PlanesAt K C H kvs ps Fs → ps[i]? = some (nm, st) → ∃ p F, kvs[i]? = some (sk nm, .ref p) ∧ Fs[i]? = some F ∧ PlaneAt K C H p st F
  | _, _, _, _, _, _, .nil, e => by cases e
  | _, _, _, 0, _, _, .cons h _, e => by
    cases Option.some.inj e
    exact ⟨_, _, rfl, rfl, h⟩
  | _, _, _, i + 1, _, _, .cons _ r, e => PlanesAt.get (i := i) r e
theorem PlanesAt.length : ∀ {kvs : List (Key × V)} {ps : Ps} {Fs : List (List Addr)}, PlanesAt K C H kvs ps Fs → kvs.length = ps.length ∧ Fs.length = ps.length
  | _, _, _, .nil => ⟨rfl, rfl⟩
  | _, _, _, .cons _ r => ⟨congrArg (· + 1) r.length.1, congrArg (· + 1) r.length.2⟩
theorem sk_inj {a b : List Nat} (h : sk a = sk b) : a = b := S_inj (Sum.inr.inj h)
def NamesApart (ps : Ps) : Prop := (ps.map (·.1)).Nodup
theorem PlanesAt.look : ∀ {kvs : List (Key × V)} {ps : Ps} {Fs : List (List Addr)} {i : Nat} {nm : List Nat} {v : V}, PlanesAt K C H kvs ps Fs → NamesApart ps → kvs[i]? = some (sk nm, v) → valV kvs (sk nm) = some v
  | _, _, _, _, _, _, .nil, _, e => by cases e
  | _, _, _, 0, _, _, .cons _ _, _, e => by
    cases Option.some.inj e
    exact valV_pos rfl
  | _, _, _, i + 1, nm, v, .cons (nm := n0) (ps := ps) (kvs := kvs) h r, ha, e => by
    have ha' := List.nodup_cons.mp ha
    rw [valV_neg fun q => ha'.1 ?_]
    · exact r.look ha'.2 e
    · have e' : kvs[i]? = some (sk nm, v) := e
      have hi : i < ps.length := by rw [← r.length.1]; exact (List.getElem?_eq_some_iff.mp e').1
      obtain ⟨⟨n1, st⟩, e1⟩ : ∃ q, ps[i]? = some q := ⟨_, List.getElem?_eq_getElem hi⟩
      obtain ⟨p, F, g1, _, _⟩ := r.get e1
      rw [e'] at g1
      have : sk nm = sk n1 := (Prod.mk.inj (Option.some.inj g1)).1
      have e3 : n0 = n1 := (sk_inj q).trans (sk_inj this)
      show n0 ∈ _
      rw [e3]
      exact List.mem_map.mpr ⟨(n1, st), List.mem_of_getElem? e1, rfl⟩
theorem PlanesAt.no : ∀ {kvs : List (Key × V)} {ps : Ps} {Fs : List (List Addr)} {nm : List Nat}, PlanesAt K C H kvs ps Fs → (∀ q, q ∈ ps → q.1 ≠ nm) → valV kvs (sk nm) = Option.none
  | _, _, _, _, .nil, _ => rfl
  | _, _, _, _, .cons h r, hn => by
    rw [valV_neg fun e => hn _ List.mem_cons_self (sk_inj e)]
    exact r.no fun q hq => hn q (List.mem_cons_of_mem _ hq)
theorem PlanesAt.keys : ∀ {kvs : List (Key × V)} {ps : Ps} {Fs : List (List Addr)}, PlanesAt K C H kvs ps Fs → kvs.map (·.1) = ps.map fun q => sk q.1
  | _, _, _, .nil => rfl
  | _, _, _, .cons _ r => congrArg (_ :: ·) r.keys
theorem PlanesAt.nodup {kvs : List (Key × V)} {ps : Ps} {Fs : List (List Addr)} (h : PlanesAt K C H kvs ps Fs) (a : NamesApart ps) : (kvs.map (·.1)).Nodup := by
  rw [h.keys]
  have e : (ps.map fun q => sk q.1) = (ps.map (·.1)).map sk := by rw [List.map_map]; rfl
  rw [e]
  have : ∀ (l : List (List Nat)), l.Nodup → (l.map sk).Nodup := by
    intro l
    induction l with
    | nil => exact fun _ => List.nodup_nil
    | cons x l ih =>
      intro hl
      obtain ⟨h1, h2⟩ := List.nodup_cons.mp hl
      refine List.nodup_cons.mpr ⟨fun hm => ?_, ih h2⟩
      obtain ⟨y, hy, ey⟩ := List.mem_map.mp hm
      rw [sk_inj ey] at hy
      exact h1 hy
  exact this _ a
theorem flat_split {Fs : List (List Addr)} {i : Nat} {F : List Addr} (h : Fs[i]? = some F) : Fs.flatten = (Fs.take i).flatten ++ (F ++ (Fs.drop (i + 1)).flatten) := by
  have hi := (List.getElem?_eq_some_iff.mp h).1
  have e : Fs[i] = F := (List.getElem?_eq_some_iff.mp h).2
  conv => lhs; rw [← List.take_append_drop i Fs, List.drop_eq_getElem_cons hi, e]
  rw [List.flatten_append, List.flatten_cons]
theorem flat_set {Fs : List (List Addr)} {i : Nat} {F : List Addr} (h : i < Fs.length) : (Fs.set i F).flatten = (Fs.take i).flatten ++ (F ++ (Fs.drop (i + 1)).flatten) := by
  rw [List.set_eq_take_append_cons_drop, if_pos h, List.flatten_append, List.flatten_cons]
/-- one plane is another, the rest as it was -/
theorem PlanesAt.upd {p : Addr} {nm : List Nat} {st' : Pl} {F' : List Addr} (t : Same (tp H) (tp H')) (np : PlaneAt K C H' p st' F') : ∀ {kvs : List (Key × V)} {ps : Ps} {Fs : List (List Addr)} {i : Nat}, PlanesAt K C H kvs ps Fs → i < ps.length →
    (∀ b, b ∈ (Fs.take i).flatten ∨ b ∈ (Fs.drop (i + 1)).flatten → H' b = H b) → PlanesAt K C H' (kvs.set i (sk nm, .ref p)) (ps.set i (nm, st')) (Fs.set i F')
  | _, _, _, _, .nil, h, _ => by cases h
  | _, _, _, 0, .cons h r, _, e => .cons np (r.move t fun b hb => e b (.inr (by simpa using hb)))
  | _, _, _, i + 1, .cons h r, hi, e => .cons (h.move t fun b hb => e b (.inl (by rw [List.take_succ_cons, List.flatten_cons]; exact List.mem_append_left _ hb)))
      (r.upd t np (by simpa using hi) fun b hb => e b (hb.imp (fun z => by rw [List.take_succ_cons, List.flatten_cons]; exact List.mem_append_right _ z) fun z => z))
theorem nd_swap {A B F F' : List Addr} {x y : Addr} (nd : (x :: y :: (A ++ (F ++ B))).Nodup) (nF : F'.Nodup) (h : ∀ b, b ∈ F' → b ∈ F ∨ ¬ b ∈ x :: y :: (A ++ (F ++ B))) : (x :: y :: (A ++ (F' ++ B))).Nodup := by
  have out : ∀ b, b ∈ F' → b ≠ x ∧ b ≠ y ∧ ¬ b ∈ A ∧ ¬ b ∈ B := fun b hb => by
    rcases h b hb with h1 | h1
    · simp only [List.nodup_cons, List.mem_cons, List.mem_append, not_or, List.nodup_append] at nd
      obtain ⟨⟨n1, n2, n3, n4⟩, ⟨n5, n6, n7⟩, n8, ⟨n9, n10, n11⟩, n12⟩ := nd
      exact ⟨fun e => n3 (e ▸ h1), fun e => n6 (e ▸ h1), fun z => n12 b z b (.inl h1) rfl, fun z => n11 b h1 b z rfl⟩
    · simp only [List.mem_cons, List.mem_append, not_or] at h1
      exact ⟨h1.1, h1.2.1, h1.2.2.1, h1.2.2.2.2⟩
  simp only [List.nodup_cons, List.mem_cons, List.mem_append, not_or, List.nodup_append] at nd ⊢
  obtain ⟨⟨n1, n2, n3, n4⟩, ⟨n5, n6, n7⟩, n8, ⟨n9, n10, n11⟩, n12⟩ := nd
  refine ⟨⟨n1, n2, fun z => (out x z).1 rfl, n4⟩, ⟨n5, fun z => (out y z).2.1 rfl, n7⟩, n8, ⟨nF, n10, fun a ha b hb e => (out a ha).2.2.2 (e ▸ hb)⟩, fun a ha b hb e => ?_⟩
  rcases hb with hb | hb
  · exact (out b hb).2.2.1 (e ▸ ha)
  · exact n12 a ha b (.inr hb) e
theorem PlaneAt.nd {p : Addr} {st : Pl} {F : List Addr} (h : PlaneAt K C H p st F) : F.Nodup := by
  obtain ⟨_, _, _, _, _, rfl, nd, _⟩ := h
  exact nd
/-- a plane of the desk has been changed -/
theorem desk_set {d p : Addr} {ps : Ps} {dx bd : Addr} {kvs : List (Key × V)} {Fs : List (List Addr)} {i : Nat} {nm : List Nat} {st st' : Pl} {F F' : List Addr} (h0 : H d = some (.ins CD dx [("by_name", .ref bd)])) (hb : H bd = some (.dK kvs)) (hp : PlanesAt K C H kvs ps Fs) (nd : (d :: bd :: Fs.flatten).Nodup)
    (hi : ps[i]? = some (nm, st)) (hk : kvs[i]? = some (sk nm, .ref p)) (hF : Fs[i]? = some F) (f : Fr F H F' H') (np : PlaneAt K C H' p st' F') : ∃ G', Fr (d :: bd :: Fs.flatten) H G' H' ∧ DeskAt K CD C H' d (ps.set i (nm, st')) G' := by
  have hl := (List.getElem?_eq_some_iff.mp hF).1
  have hl2 := (List.getElem?_eq_some_iff.mp hi).1
  have es := flat_split hF
  have es' := flat_set (F := F') hl
  rw [es] at nd
  have thr := hp.there
  have nF' : ∀ b, b ∈ F' → b ∈ F ∨ ¬ b ∈ d :: bd :: ((Fs.take i).flatten ++ (F ++ (Fs.drop (i + 1)).flatten)) := fun b hb' => by
    rcases f.n b hb' with z | z
    · exact .inl z
    · refine .inr fun hm => ?_
      rw [← es] at hm
      rcases List.mem_cons.mp hm with e | hm
      · rw [e, h0] at z; cases z
      rcases List.mem_cons.mp hm with e | hm
      · rw [e, hb] at z; cases z
      · obtain ⟨o, e, _⟩ := thr b hm
        rw [e] at z
        cases z
  have nd' := nd_swap nd np.nd nF'
  have nd2 := nd
  simp only [List.nodup_cons, List.mem_cons, List.mem_append, not_or, List.nodup_append] at nd2
  obtain ⟨⟨n1, n2, n3, n4⟩, ⟨n5, n6, n7⟩, n8, ⟨n9, n10, n11⟩, n12⟩ := nd2
  have keep : ∀ b, b ∈ (Fs.take i).flatten ∨ b ∈ (Fs.drop (i + 1)).flatten → H' b = H b := fun b hb' => by
    have bm : b ∈ Fs.flatten := by
      rw [es]
      rcases hb' with z | z
      · exact List.mem_append_left _ z
      · exact List.mem_append_right _ (List.mem_append_right _ z)
    obtain ⟨o, e, _⟩ := thr b bm
    rw [e]
    refine f.keep (fun z => ?_) e
    rcases hb' with y | y
    · exact n12 b y b (.inl z) rfl
    · exact n11 b z b y rfl
  have pk : kvs.set i (sk nm, .ref p) = kvs := by
    refine List.ext_getElem? fun j => ?_
    rw [List.getElem?_set]
    by_cases e : i = j
    · subst e
      rw [if_pos rfl, if_pos (List.getElem?_eq_some_iff.mp hk).1, hk]
    · rw [if_neg e]
  refine ⟨d :: bd :: ((Fs.take i).flatten ++ (F' ++ (Fs.drop (i + 1)).flatten)), ⟨fun b o e => ?_, f.t, fun b hb' => ?_⟩, dx, bd, kvs, Fs.set i F', f.keep n3 h0, f.keep n6 hb, ?_, by rw [es'], nd'⟩
  · by_cases z : b ∈ d :: bd :: Fs.flatten
    · rw [less_in z] at e
      cases e
    · rw [less_out z] at e
      have zF : ¬ b ∈ F := fun q => z (by rw [es]; exact List.mem_cons_of_mem _ (List.mem_cons_of_mem _ (List.mem_append_right _ (List.mem_append_left _ q))))
      rw [less_out fun q => ?_]
      · exact f.keep zF e
      · rw [es] at z
        rcases List.mem_cons.mp q with e1 | q
        · exact z (by rw [e1]; exact List.mem_cons_self)
        rcases List.mem_cons.mp q with e1 | q
        · exact z (by rw [e1]; exact List.mem_cons_of_mem _ List.mem_cons_self)
        rcases List.mem_append.mp q with q | q
        · exact z (List.mem_cons_of_mem _ (List.mem_cons_of_mem _ (List.mem_append_left _ q)))
        rcases List.mem_append.mp q with q | q
        · rcases f.n b q with y | y
          · exact zF y
          · rw [y] at e
            cases e
        · exact z (List.mem_cons_of_mem _ (List.mem_cons_of_mem _ (List.mem_append_right _ (List.mem_append_right _ q))))
  · rw [es]
    rcases List.mem_cons.mp hb' with e1 | q
    · exact .inl (by rw [e1]; exact List.mem_cons_self)
    rcases List.mem_cons.mp q with e1 | q
    · exact .inl (by rw [e1]; exact List.mem_cons_of_mem _ List.mem_cons_self)
    rcases List.mem_append.mp q with q | q
    · exact .inl (List.mem_cons_of_mem _ (List.mem_cons_of_mem _ (List.mem_append_left _ q)))
    rcases List.mem_append.mp q with q | q
    · rcases f.n b q with y | y
      · exact .inl (List.mem_cons_of_mem _ (List.mem_cons_of_mem _ (List.mem_append_right _ (List.mem_append_left _ y))))
      · exact .inr y
    · exact .inl (List.mem_cons_of_mem _ (List.mem_cons_of_mem _ (List.mem_append_right _ (List.mem_append_right _ q))))
  · have := hp.upd (nm := nm) f.t np hl2 keep
    rw [pk] at this
    exact this
theorem DeskAt.same {d : Addr} {ps : Ps} {G : List Addr} (h : DeskAt K CD C H d ps G) (s : Same H H') : DeskAt K CD C H' d ps G := by
  obtain ⟨dx, bd, kvs, Fs, h0, hb, hp, rfl, nd⟩ := h
  refine ⟨dx, bd, kvs, Fs, s _ _ h0, s _ _ hb, hp.move (tp_grow s) fun b hb' => ?_, rfl, nd⟩
  obtain ⟨o, e, _⟩ := hp.there b hb'
  rw [e]
  exact s _ _ e
theorem DeskAt.kind {d : Addr} {ps : Ps} {G : List Addr} (h : DeskAt K CD C H d ps G) : ∀ b, b ∈ G → ∃ o, H b = some o ∧ isT (H b) = false ∧ ∀ ob u, o ≠ .frz ob u := by
  obtain ⟨dx, bd, kvs, Fs, h0, hb, hp, rfl, nd⟩ := h
  intro b hm
  rcases List.mem_cons.mp hm with rfl | hm
  · exact ⟨_, h0, by rw [h0]; rfl, fun _ _ e => nomatch e⟩
  rcases List.mem_cons.mp hm with rfl | hm
  · exact ⟨_, hb, by rw [hb]; rfl, fun _ _ e => nomatch e⟩
  · exact hp.there b hm
theorem PlanesAt.snoc {p : Addr} {nm : List Nat} {st : Pl} {F' : List Addr} (np : PlaneAt K C H p st F') : ∀ {kvs : List (Key × V)} {ps : Ps} {Fs : List (List Addr)}, PlanesAt K C H kvs ps Fs → PlanesAt K C H (kvs ++ [(sk nm, .ref p)]) (ps ++ [(nm, st)]) (Fs ++ [F'])
  | _, _, _, .nil => .cons np .nil
  | _, _, _, .cons h r => .cons h (r.snoc np)
def OptOk (ps : Ps) (nm : List Nat) : Option Nat → Prop
  | none => ∀ q, q ∈ ps → q.1 ≠ nm
  | some i => ∃ st0, ps[i]? = some (nm, st0)
def putAt (ps : Ps) (nm : List Nat) (st : Pl) : Option Nat → Ps
  | none => ps ++ [(nm, st)]
  | some i => ps.set i (nm, st)
/-- a new plane is put into the desk -/
theorem desk_new {d p : Addr} {ps : Ps} {dx bd : Addr} {kvs : List (Key × V)} {Fs : List (List Addr)} {nm : List Nat} {st : Pl} {F' : List Addr} {o : Option Nat} (h0 : H d = some (.ins CD dx [("by_name", .ref bd)])) (hb : H bd = some (.dK kvs)) (hp : PlanesAt K C H kvs ps Fs) (nd : (d :: bd :: Fs.flatten).Nodup)
    (ha : NamesApart ps) (ho : OptOk ps nm o) (s : Same H H') (hF : ∀ b, b ∈ F' → H b = Option.none) (np : PlaneAt K C H' p st F') :
    ∃ G', Fr (d :: bd :: Fs.flatten) H G' (upd H' bd (.dK (putK kvs (sk nm) (.ref p)))) ∧ DeskAt K CD C (upd H' bd (.dK (putK kvs (sk nm) (.ref p)))) d (putAt ps nm st o) G' := by
  have thr := hp.there
  have hb' := s _ _ hb
  have dbd : d ≠ bd := fun e => (List.nodup_cons.mp nd).1 (by rw [e]; exact List.mem_cons_self)
  have bdFs : ¬ bd ∈ Fs.flatten := (List.nodup_cons.mp (List.nodup_cons.mp nd).2).1
  have inG : ∀ b, b ∈ d :: bd :: Fs.flatten → ∃ o, H b = some o := fun b hm => by
    rcases List.mem_cons.mp hm with rfl | hm
    · exact ⟨_, h0⟩
    rcases List.mem_cons.mp hm with rfl | hm
    · exact ⟨_, hb⟩
    · obtain ⟨o, e, _⟩ := thr b hm
      exact ⟨o, e⟩
  have nF' : ∀ b, b ∈ F' → ¬ b ∈ d :: bd :: Fs.flatten := fun b hm z => by
    obtain ⟨o, e⟩ := inG b z
    rw [hF b hm] at e
    cases e
  generalize q2 : upd H' bd (.dK (putK kvs (sk nm) (.ref p))) = H2
  have t2 : Same (tp H') (tp H2) := by rw [← q2]; exact tp_put (by rw [hb']; rfl)
  have e2 : ∀ b, b ≠ bd → H2 b = H' b := fun b hn => by rw [← q2, upd_ne hn]
  have b2 : H2 bd = some (.dK (putK kvs (sk nm) (.ref p))) := by rw [← q2]; exact upd_same
  have t0 := (tp_grow s).trans t2
  have np2 : PlaneAt K C H2 p st F' := np.move t2 fun b hm => e2 b fun e => nF' b hm (by rw [e]; exact List.mem_cons_of_mem _ List.mem_cons_self)
  have h02 : H2 d = some (.ins CD dx [("by_name", .ref bd)]) := by rw [e2 d dbd]; exact s _ _ h0
  have mv : ∀ b, b ∈ Fs.flatten → H2 b = H b := fun b hm => by
    obtain ⟨o, e, _⟩ := thr b hm
    rw [e2 b fun e => bdFs (e ▸ hm), e]
    exact s _ _ e
  have fr : ∀ G', (∀ b, b ∈ G' → b ∈ d :: bd :: Fs.flatten ∨ b ∈ F') → Fr (d :: bd :: Fs.flatten) H G' H2 := fun G' hG => by
    refine ⟨fun b u e => ?_, t0, fun b q => (hG b q).imp id (hF b)⟩
    by_cases z : b ∈ d :: bd :: Fs.flatten
    · rw [less_in z] at e
      cases e
    · rw [less_out z] at e
      have zb : b ≠ bd := fun y => z (by rw [y]; exact List.mem_cons_of_mem _ List.mem_cons_self)
      rw [less_out fun q => ?_, e2 b zb]
      · exact s _ _ e
      · rcases hG b q with y | y
        · exact z y
        · rw [hF b y] at e
          cases e
  cases o with
  | none =>
    have hno := hp.no ho
    rw [putK_new _ hno] at b2
    have pa : PlanesAt K C H2 (kvs ++ [(sk nm, .ref p)]) (ps ++ [(nm, st)]) (Fs ++ [F']) := by
      exact (hp.move t0 mv).snoc np2
    refine ⟨d :: bd :: (Fs ++ [F']).flatten, fr _ fun b hm => ?_, dx, bd, _, _, h02, b2, pa, rfl, ?_⟩
    · rcases List.mem_cons.mp hm with e | hm
      · exact .inl (by rw [e]; exact List.mem_cons_self)
      rcases List.mem_cons.mp hm with e | hm
      · exact .inl (by rw [e]; exact List.mem_cons_of_mem _ List.mem_cons_self)
      rw [List.flatten_append, List.flatten_cons, List.flatten_nil, List.append_nil] at hm
      rcases List.mem_append.mp hm with hm | hm
      · exact .inl (List.mem_cons_of_mem _ (List.mem_cons_of_mem _ hm))
      · exact .inr hm
    · rw [List.flatten_append, List.flatten_cons, List.flatten_nil, List.append_nil]
      show ((d :: bd :: Fs.flatten) ++ F').Nodup
      exact List.nodup_append.mpr ⟨nd, np.nd, fun x hx y hy e => nF' y hy (e ▸ hx)⟩
  | some i =>
    obtain ⟨st0, hi⟩ := ho
    obtain ⟨p0, F, hk, hFi, _⟩ := hp.get hi
    have hl := (List.getElem?_eq_some_iff.mp hFi).1
    have hl2 := (List.getElem?_eq_some_iff.mp hi).1
    rw [putK_set hk (hp.nodup ha)] at b2
    have es := flat_split hFi
    have es' := flat_set (F := F') hl
    have pa := hp.upd (nm := nm) t0 np2 hl2 fun b hm => mv b (by
      rw [es]
      rcases hm with z | z
      · exact List.mem_append_left _ z
      · exact List.mem_append_right _ (List.mem_append_right _ z))
    refine ⟨d :: bd :: (Fs.set i F').flatten, fr _ fun b hm => ?_, dx, bd, _, _, h02, b2, pa, rfl, ?_⟩
    · rw [es]
      rw [es'] at hm
      rcases List.mem_cons.mp hm with e | hm
      · exact .inl (by rw [e]; exact List.mem_cons_self)
      rcases List.mem_cons.mp hm with e | hm
      · exact .inl (by rw [e]; exact List.mem_cons_of_mem _ List.mem_cons_self)
      rcases List.mem_append.mp hm with hm | hm
      · exact .inl (List.mem_cons_of_mem _ (List.mem_cons_of_mem _ (List.mem_append_left _ hm)))
      rcases List.mem_append.mp hm with hm | hm
      · exact .inr hm
      · exact .inl (List.mem_cons_of_mem _ (List.mem_cons_of_mem _ (List.mem_append_right _ (List.mem_append_right _ hm))))
    · rw [es']
      rw [es] at nd nF'
      exact nd_swap nd np.nd fun b hm => .inr (nF' b hm)
end
end Np
end
section
set_option linter.all false
set_option maxRecDepth 100000
set_option maxHeartbeats 4000000
/-! What a desk says. -/
namespace Np
open PySem PySem.Spec PyProof.Rows L2 SX
abbrev tl (x : Str) : List Nat := x.cps.toList
inductive Cmd
  | plane (nm : List Nat) (m : Nat) (o : Option Nat)
  | deed (nm : List Nat) (i : Nat) (d : Deed)
  | ask (nm : List Nat) (i : Nat) (a : Ask)
def Cmd.head : Cmd → Str
  | .plane _ _ _ => "plane"
  | .deed _ _ d => d.name
  | .ask _ _ a => a.name
def Cmd.nm : Cmd → List Nat
  | .plane nm _ _ => nm
  | .deed nm _ _ => nm
  | .ask nm _ _ => nm
def Cmd.known : Cmd → Bool
  | .plane _ _ _ => false
  | _ => true
def Deed.items : Deed → List Kd
  | .lay q => [.ratio q.want, .row q.row, .ratio q.wt]
  | .take n _ _ => [.number n]
  | .widen c => [.row c]
  | .narrow => []
  | .back k => [.number k]
def Ask.items : Ask → List Kd
  | .value r => [.long r]
  | .word n _ _ => [.number n]
  | _ => []
def Cmd.items : Cmd → List Kd
  | .plane _ m _ => [.wide m]
  | .deed _ _ d => d.items
  | .ask _ _ a => a.items
def Cmd.words (c : Cmd) : List (List Nat) := tl c.head :: c.nm :: c.items.map Kd.wd
def Cmd.line (c : Cmd) : List Nat := TL.joinL [32] c.words
def Cmd.ok (ps : Ps) (c : Cmd) : Prop := NamesApart ps ∧ ps.length ≤ 10 ∧ Nm c.nm ∧ (∀ d, d ∈ c.items → d.ok) ∧ match c with
  | .plane nm m o => OptOk ps nm o
  | .deed nm i d => ∃ st, ps[i]? = some (nm, st) ∧ PlFine st ∧ d.ok st
  | .ask nm i a => ∃ st, ps[i]? = some (nm, st) ∧ PlFine st ∧ Small (ptsOf st) st.1.span ∧ a.ok st
/-- the desk behind it, the answer -/
inductive Cmd.Does : Ps → Cmd → Ps → List Nat → Prop
  | plane {ps : Ps} {nm : List Nat} {m : Nat} {o : Option Nat} : Does ps (.plane nm m o) (putAt ps nm (⟨m, [], 0⟩, []) o) okS
  | deed {ps : Ps} {nm : List Nat} {i : Nat} {d : Deed} {st : Pl} (h : ps[i]? = some (nm, st)) : Does ps (.deed nm i d) (ps.set i (nm, d.next st)) (d.ans st)
  | ask {ps : Ps} {nm : List Nat} {i : Nat} {a : Ask} {st : Pl} (h : ps[i]? = some (nm, st)) : Does ps (.ask nm i a) ps (a.ans st)
def spSay (K : PySem.W.Frag) (CD C : Addr) : Sp := fun vs H Q _ => ∃ (d : Addr) (ps : Ps) (G : List Addr) (c : Cmd), vs = [.ref d, .str (S c.line)] ∧ DeskAt K CD C H d ps G ∧ c.ok ps ∧ ∀ H' G' ps' ans, Fr G H G' H' → DeskAt K CD C H' d ps' G' → Cmd.Does ps c ps' ans → Q (.str (S ans)) H'
abbrev N_Desk_say : List Str := ["self", "line", "words", "parts", "deed"]
theorem sc_Desk_say : FnScope ["self", "line", "words", "parts", "deed"] ["self", "line"] (defScope s_Desk_say) := ⟨rfl, rfl, rfl, by decide +kernel, rfl, by decide +kernel, by decide +kernel⟩
theorem b_Desk_say : BindOk "say" "Desk.say" s_Desk_say ["self", "line"] := fun _ _ _ _ _ _ us hl => match us, hl with | [_, _], _ => rfl
theorem head_tab (c : Cmd) : ∃ ks, (c.head, ks) ∈ lineTab ∧ kindsOf c.head ks (c.items.length + 1) = (if c.known = true then ("known" : Str) else "new") :: c.items.map Kd.kd := by
  cases c with
  | plane nm m o => exact ⟨[("new" : Str), ("wide" : Str)], by show (("plane" : Str), [("new" : Str), ("wide" : Str)]) ∈ lineTab; decide +kernel, by show kindsOf "plane" [("new" : Str), ("wide" : Str)] 2 = [("new" : Str), ("wide" : Str)]; decide +kernel⟩
  | deed nm i d =>
    cases d with
    | lay q => exact ⟨[("known" : Str), ("ratio" : Str), ("row" : Str)], by show (("lay" : Str), [("known" : Str), ("ratio" : Str), ("row" : Str)]) ∈ lineTab; decide +kernel, by show kindsOf "lay" [("known" : Str), ("ratio" : Str), ("row" : Str)] 4 = [("known" : Str), ("ratio" : Str), ("row" : Str), ("ratio" : Str)]; decide +kernel⟩
    | take n i q => exact ⟨[("known" : Str), ("number" : Str)], by show (("take" : Str), [("known" : Str), ("number" : Str)]) ∈ lineTab; decide +kernel, by show kindsOf "take" [("known" : Str), ("number" : Str)] 2 = [("known" : Str), ("number" : Str)]; decide +kernel⟩
    | widen c => exact ⟨[("known" : Str), ("row" : Str)], by show (("widen" : Str), [("known" : Str), ("row" : Str)]) ∈ lineTab; decide +kernel, by show kindsOf "widen" [("known" : Str), ("row" : Str)] 2 = [("known" : Str), ("row" : Str)]; decide +kernel⟩
    | narrow  => exact ⟨[("known" : Str)], by show (("narrow" : Str), [("known" : Str)]) ∈ lineTab; decide +kernel, by show kindsOf "narrow" [("known" : Str)] 1 = [("known" : Str)]; decide +kernel⟩
    | back k => exact ⟨[("known" : Str), ("number" : Str)], by show (("back" : Str), [("known" : Str), ("number" : Str)]) ∈ lineTab; decide +kernel, by show kindsOf "back" [("known" : Str), ("number" : Str)] 2 = [("known" : Str), ("number" : Str)]; decide +kernel⟩
  | ask nm i a =>
    cases a with
    | mark  => exact ⟨[("known" : Str)], by show (("mark" : Str), [("known" : Str)]) ∈ lineTab; decide +kernel, by show kindsOf "mark" [("known" : Str)] 1 = [("known" : Str)]; decide +kernel⟩
    | told  => exact ⟨[("known" : Str)], by show (("told" : Str), [("known" : Str)]) ∈ lineTab; decide +kernel, by show kindsOf "told" [("known" : Str)] 1 = [("known" : Str)]; decide +kernel⟩
    | rests  => exact ⟨[("known" : Str)], by show (("rests" : Str), [("known" : Str)]) ∈ lineTab; decide +kernel, by show kindsOf "rests" [("known" : Str)] 1 = [("known" : Str)]; decide +kernel⟩
    | pulls  => exact ⟨[("known" : Str)], by show (("pulls" : Str), [("known" : Str)]) ∈ lineTab; decide +kernel, by show kindsOf "pulls" [("known" : Str)] 1 = [("known" : Str)]; decide +kernel⟩
    | squares  => exact ⟨[("known" : Str)], by show (("squares" : Str), [("known" : Str)]) ∈ lineTab; decide +kernel, by show kindsOf "squares" [("known" : Str)] 1 = [("known" : Str)]; decide +kernel⟩
    | free  => exact ⟨[("known" : Str)], by show (("free" : Str), [("known" : Str)]) ∈ lineTab; decide +kernel, by show kindsOf "free" [("known" : Str)] 1 = [("known" : Str)]; decide +kernel⟩
    | ways  => exact ⟨[("known" : Str)], by show (("ways" : Str), [("known" : Str)]) ∈ lineTab; decide +kernel, by show kindsOf "ways" [("known" : Str)] 1 = [("known" : Str)]; decide +kernel⟩
    | value r => exact ⟨[("known" : Str), ("long" : Str)], by show (("value" : Str), [("known" : Str), ("long" : Str)]) ∈ lineTab; decide +kernel, by show kindsOf "value" [("known" : Str), ("long" : Str)] 2 = [("known" : Str), ("long" : Str)]; decide +kernel⟩
    | word n i q => exact ⟨[("known" : Str), ("number" : Str)], by show (("word" : Str), [("known" : Str), ("number" : Str)]) ∈ lineTab; decide +kernel, by show kindsOf "word" [("known" : Str), ("number" : Str)] 2 = [("known" : Str), ("number" : Str)]; decide +kernel⟩
theorem items_few (c : Cmd) : c.items.length ≤ 3 := by
  cases c with
  | plane => simp [Cmd.items]
  | deed nm i d => cases d <;> simp [Cmd.items, Deed.items]
  | ask nm i a => cases a <;> simp [Cmd.items, Ask.items]
theorem head_ok (c : Cmd) : (tl c.head).all (fun x => decide (x ≠ 32)) = true ∧ (tl c.head).length ≤ 7 := by
  have h : ∀ q, q ∈ lineTab → (tl q.1).all (fun x => decide (x ≠ 32)) = true ∧ (tl q.1).length ≤ 7 := by decide +kernel
  obtain ⟨ks, hk, _⟩ := head_tab c
  exact h _ hk
theorem rowS_mem {r : Row} {c : Nat} (h : c ∈ rowS r) : c ≠ 32 := by
  unfold rowS at h
  have : ∀ l : List (List Nat), (∀ x, x ∈ l → ∀ c, c ∈ x → c ≠ 32) → ∀ c, c ∈ TL.joinL [44] l → c ≠ 32 := by
    intro l
    induction l with
    | nil => exact fun _ c hc => by cases hc
    | cons x l ih =>
      intro hl c hc
      cases l with
      | nil => exact hl x List.mem_cons_self c hc
      | cons y l =>
        have hc : c ∈ x ++ ([44] ++ TL.joinL [44] (y :: l)) := hc
        rcases List.mem_append.mp hc with hc | hc
        · exact hl x List.mem_cons_self c hc
        rcases List.mem_append.mp hc with hc | hc
        · rw [List.mem_singleton.mp hc]
          decide
        · exact ih (fun z hz => hl z (List.mem_cons_of_mem _ hz)) c hc
  refine this _ (fun x hx c hc => ?_) c h
  obtain ⟨q, _, rfl⟩ := List.mem_map.mp hx
  rcases ratS_mem hc with e | e <;> omega
theorem wd_ok {d : Kd} (h : d.ok) : (∀ c, c ∈ d.wd → c ≠ 32) ∧ d.wd.length ≤ 60000 := by
  have num : ∀ n : Nat, n < 2 ^ 100 → (∀ c, c ∈ numS (n : Nat) → c ≠ 32) ∧ (numS (n : Nat)).length ≤ 60000 := fun n hn => by
    refine ⟨fun c hc => by rcases numS_mem hc with e | e <;> omega, ?_⟩
    have := numS_len (i := (n : Nat)) (k := 100) (by rw [Int.natAbs_natCast]; exact hn) (by decide)
    omega
  have rat : ∀ q, Fine q → (ratS q).length ≤ 500 := fun q hq => by
    have := ratS_len (k := 200) (Nat.lt_trans hq.1 (by decide)) (Nat.lt_trans hq.2 (by decide)) (by decide)
    omega
  have row : ∀ r : Row, r.length ≤ 100 → (∀ q, q ∈ r → Fine q) → (rowS r).length ≤ 60000 := fun r hl hf => by
    have jl := joinL_len [44] 500 (r.map ratS) fun x hx => by
      obtain ⟨q, hq, rfl⟩ := List.mem_map.mp hx
      exact rat q (hf q hq)
    rw [List.length_map] at jl
    have : r.length * (500 + [44].length) ≤ 100 * 501 := Nat.mul_le_mul hl (Nat.le_refl _)
    unfold rowS
    omega
  cases d with
  | ratio q => exact ⟨fun c hc => by rcases ratS_mem hc with e | e <;> omega, Nat.le_trans (rat q h) (by decide)⟩
  | row r => exact ⟨fun c hc => rowS_mem hc, row r h.2.1 h.2.2⟩
  | number n => exact num n (Nat.lt_trans h (by decide))
  | wide n => exact num n (Nat.lt_of_le_of_lt h.2 (by decide))
  | long r => exact ⟨fun c hc => rowS_mem hc, row r h.2.1 h.2.2⟩
theorem words_split {c : Cmd} {ps : Ps} (h : c.ok ps) : Txt.split (S c.line) (" " : Str) = c.words.map S ∧ (S c.line).length ≤ 400000 := by
  obtain ⟨_, _, hn, hi, _⟩ := h
  have it := items_few c
  obtain ⟨h1, h2⟩ := head_ok c
  constructor
  · rw [l_space, split_S (List.cons_ne_nil _ _) rfl]
    unfold Cmd.line
    rw [spl_join (by unfold Cmd.words; exact List.cons_ne_nil _ _) fun p hp => ?_]
    unfold Cmd.words at hp
    rcases List.mem_cons.mp hp with rfl | hp
    · exact fun z => by
        have := of_decide_eq_true (List.all_eq_true.mp h1 32 z)
        exact this rfl
    rcases List.mem_cons.mp hp with rfl | hp
    · exact fun z => by have := hn.2.2 32 z; omega
    · obtain ⟨d, hd, rfl⟩ := List.mem_map.mp hp
      exact fun z => (wd_ok (hi d hd)).1 32 z rfl
  · rw [S_len]
    have jl := joinL_len [32] 60000 c.words fun x hx => by
      unfold Cmd.words at hx
      rcases List.mem_cons.mp hx with rfl | hx
      · omega
      rcases List.mem_cons.mp hx with rfl | hx
      · have := hn.2.1; omega
      · obtain ⟨d, hd, rfl⟩ := List.mem_map.mp hx
        exact (wd_ok (hi d hd)).2
    have e : c.words.length = c.items.length + 2 := by
      unfold Cmd.words
      rw [List.length_cons, List.length_cons, List.length_map]
    rw [e] at jl
    have : (c.items.length + 2) * (60000 + [32].length) ≤ 5 * 60001 := Nat.mul_le_mul (by omega) (Nat.le_refl _)
    unfold Cmd.line
    omega
theorem head_no (c : Cmd) : decide (V.str c.head = V.str ("names" : Str)) = false ∧ decide (V.str c.head = V.str ("end" : Str)) = false := by
  cases c with
  | plane => exact ⟨rfl, rfl⟩
  | deed nm i d => cases d <;> exact ⟨rfl, rfl⟩
  | ask nm i a => cases a <;> exact ⟨rfl, rfl⟩
theorem deed_in (d : Deed) : inV (.str d.name) [V.str "lay", V.str "take", V.str "widen", V.str "narrow", V.str "back"] = true ∧ decide (V.str d.name = V.str ("plane" : Str)) = false := by cases d <;> exact ⟨rfl, rfl⟩
theorem ask_in (d : Ask) : inV (.str d.name) [V.str "lay", V.str "take", V.str "widen", V.str "narrow", V.str "back"] = false ∧ decide (V.str d.name = V.str ("plane" : Str)) = false := by cases d <;> exact ⟨rfl, rfl⟩
theorem deed_data (d : Deed) : d.items.map Kd.data = d.parts := by cases d <;> rfl
theorem ask_data (d : Ask) : d.items.map Kd.data = d.parts := by cases d <;> rfl
section
variable {P : Program} {w : World} {K : PySem.W.Frag} {mg : Str → Option Value} {base : Heap} {aN aO CD C CF : Addr}
theorem k_say (T : Txt K mg aN aO) (c : DeskC K CD) (F : MethAt K CD "say" "Desk.say" s_Desk_say) (c_kinds_of : C8.Cal P w K mg base 1 "kinds_of" (spKinds K) []) (c_Desk_parts_of : C8.Met P w K mg base 8 CD "parts_of" (spParts K CD C) [])
    (c_Plane : C8.Mak P w K mg base 2 "Plane" C (spPlInit K C) []) (c_done_to : C8.Cal P w K mg base 5 "done_to" (spDone K C) []) (c_told_of : C8.Cal P w K mg base 13 "told_of" (spTold K C) []) : C8.Met P w K mg base 14 CD "say" (spSay K CD C) [] := by
  refine met_of c.cls F sc_Desk_say b_Desk_say (fun vs H Q E h => ?_) (fun f cdv A outer s H vs Q E hr h => ?_)
  · obtain ⟨d, ps, G, cm, rfl, _⟩ := h
    rfl
  · obtain ⟨d, ps, G, cm, rfl, hD, ok, hQ⟩ := h
    have c0 := c.cls
    have na := c.na
    have kindG := hD.kind
    have hD' := hD
    obtain ⟨dx, bd, kvs, Fs, h0, hbd, hps, rfl, nd⟩ := hD
    obtain ⟨es, ll⟩ := words_split ok
    obtain ⟨oa, ol, onm, oit, ok⟩ := ok
    obtain ⟨ks, hks, hkk⟩ := head_tab cm
    have few := items_few cm
    refine ⟨_, (pss_cons (ps_if (pt_not (pt_val (pe_callB call_isi rfl T.isinstance (by decide +kernel) (pa_cons (pv 1) (pa_cons (pe_bltn (v := .ty "str") (u := .type "str") rfl T.str (by decide +kernel) rfl) pa_nil))))) (pss_one ps_never)
    pss_nil)
    (pss_cons (ps_set (i := 2) sc_Desk_say.nd rfl (Or.inl rfl) (pe_split (pv 1) pe_str))
    (pss_cons (ps_set (i := 3) sc_Desk_say.nd rfl (Or.inl rfl) (C8.pe_mt c_Desk_parts_of hr (by decide) (pv 0) (pa_cons (C8.pe_c c_kinds_of hr (by decide) rfl (pa_cons (pv 2) pa_nil)) (pa_cons (pe_slice sl_list (pv 2) (po_some pe_int) po_none) pa_nil))))
    (pss_cons (ps_set (i := 4) sc_Desk_say.nd rfl (Or.inl rfl) (pe_ix ix_list (pv 2) pe_int (fun _ _ => rfl)))
    (pss_cons (ps_if (pt_cmpR op_eq (pv 4) pe_str (nomark _)) (pss_one ps_never)
    pss_nil)
    (pss_cons (ps_if (pt_cmpR op_eq (pv 4) pe_str (nomark _)) (pss_cons (ps_dput (hu_of hr) (pe_fld (pv 0) rfl) (pe_ix ix_list (pv 2) pe_int (fun _ _ => rfl)) (C8.pe_mk c_Plane hr (by decide) rfl (pa_cons (pe_ix ix_list (pv 3) pe_int (fun _ _ => rfl)) pa_nil)) rfl)
    (pss_one (ps_ret pe_str)))
    pss_nil)
    (pss_cons (ps_if (pt_cmpR op_eq (pv 4) pe_str (nomark _)) (pss_cons ps_never
    (pss_one (ps_ret pe_str)))
    pss_nil)
    (pss_cons (ps_if (pt_cmpR op_in_seq (pv 4) (pe_tup (pa_cons pe_str (pa_cons pe_str (pa_cons pe_str (pa_cons pe_str (pa_cons pe_str pa_nil)))))) (by rfl)) (pss_one (ps_ret (C8.pe_c c_done_to hr (by decide) rfl (pa_cons (pe_ix ix_list (pv 3) pe_int (fun _ _ => rfl)) (pa_cons (pv 4) (pa_cons (pe_slice sl_list (pv 3) (po_some pe_int) po_none) pa_nil))))))
    pss_nil)
    (pss_one (ps_ret (C8.pe_c c_told_of hr (by decide) rfl (pa_cons (pe_ix ix_list (pv 3) pe_int (fun _ _ => rfl)) (pa_cons (pv 4) (pa_cons (pe_slice sl_list (pv 3) (po_some pe_int) po_none) pa_nil)))))))))))))), ?_⟩
    refine ⟨_, rfl, _, _, _, _, true, rfl, .ty "str", .base (.str _), kit_b (by decide +kernel), true, rfl, iteF ?_⟩
    refine ⟨_, rfl, ⟨_, rfl⟩, _, _, rfl, rfl, by decide +kernel, by rw [sizeLine_eq]; omega, fun a ha => ?_⟩
    rw [es]
    have n1 : Same H (upd H a (.lst ((cm.words.map S).map V.str))) := same_new ha
    generalize qA : upd H a (.lst ((cm.words.map S).map V.str)) = H1 at n1 ⊢
    have ew : (cm.words.map S).map V.str = V.str cm.head :: V.str (S cm.nm) :: cm.items.map fun d => V.str (S d.wd) := by
      unfold Cmd.words
      rw [List.map_cons, List.map_cons, List.map_cons, List.map_cons, List.map_map, List.map_map, S_tl]
      rfl
    have hA : SqL K H1 a (V.str cm.head :: V.str (S cm.nm) :: cm.items.map fun d => V.str (S d.wd)) := by
      rw [← ew]
      exact SqL.of (by rw [← qA]; exact upd_same)
    have rl : (V.str (S cm.nm) :: cm.items.map fun d => V.str (S d.wd)).length = cm.items.length + 1 := by rw [List.length_cons, List.length_map]
    refine ⟨_, rfl, d, dx, _, rfl, n1 _ _ h0, rfl, ?_⟩
    refine ⟨_, rfl, a, cm.head, ks, _, rfl, hA, hks, by rw [rl]; omega, ?_, fun H2 kb n2 hkb => ?_⟩
    · rw [rl, hkk, List.length_cons, List.length_map]
    rw [rl, hkk] at hkb
    have n12 := n1.trans n2
    refine ⟨_, rfl, 1, rfl, a, _, rfl, n2.seq hA, fun b hb => ?_⟩
    rw [show cutV (V.str cm.head :: V.str (S cm.nm) :: cm.items.map fun d => V.str (S d.wd)) (some 1) none = V.str (S cm.nm) :: cm.items.map fun d => V.str (S d.wd) from cut_suf _ 1]
    have n3 : Same H2 (upd H2 b (.lst (V.str (S cm.nm) :: cm.items.map fun d => V.str (S d.wd)))) := same_new hb
    generalize qB : upd H2 b (.lst (V.str (S cm.nm) :: cm.items.map fun d => V.str (S d.wd))) = H3 at n3 ⊢
    have hB : SqL K H3 b (V.str (S cm.nm) :: cm.items.map fun d => V.str (S d.wd)) := SqL.of (by rw [← qB]; exact upd_same)
    have n13 := n12.trans n3
    have hbd3 := n13 _ _ hbd
    obtain ⟨pz, hpz⟩ : ∃ v, (valV kvs (sk cm.nm)).getD .non = v := ⟨_, rfl⟩
    have hat : ∀ i st, ps[i]? = some (cm.nm, st) → ∃ (p : Addr) (F' : List Addr), kvs[i]? = some (sk cm.nm, V.ref p) ∧ Fs[i]? = some F' ∧ PlaneAt K C H p st F' ∧ valV kvs (sk cm.nm) = some (V.ref p) ∧ pz = V.ref p := fun i st hi => by
      obtain ⟨p, F', g1, g2, g3⟩ := hps.get hi
      have g4 := hps.look oa g1
      exact ⟨p, F', g1, g2, g3, g4, by rw [← hpz, g4]; rfl⟩
    have hkn : cm.known = true → (valV kvs (sk cm.nm)).isSome = true := fun hk => by
      cases cm with
      | plane nm m o => cases hk
      | deed nm i dd =>
        obtain ⟨st, hi, _⟩ := ok
        obtain ⟨p, F', _, _, _, g4, _⟩ := hat i st hi
        rw [g4]
        rfl
      | ask nm i aa =>
        obtain ⟨st, hi, _⟩ := ok
        obtain ⟨p, F', _, _, _, g4, _⟩ := hat i st hi
        rw [g4]
        rfl
    have hlo : ∀ x, x ∈ cm.items → LongOk K C H3 pz x := fun x hx r er => by
      subst er
      cases cm with
      | plane nm m o =>
        rcases List.mem_cons.mp hx with e | e
        · cases e
        · cases e
      | deed nm i dd =>
        exfalso
        cases dd <;> simp [Cmd.items, Deed.items] at hx
      | ask nm i aa =>
        obtain ⟨st, hi, _, _, aok⟩ := ok
        obtain ⟨p, F', _, _, g3, _, g5⟩ := hat i st hi
        cases aa with
        | value r' =>
          have e : Kd.long r = Kd.long r' := List.mem_singleton.mp hx
          cases e
          have aok : TinyRow st.1.span r := aok
          exact ⟨p, st, F', g5, g3.same n13, aok.1.symm⟩
        | word n i' q =>
          have e : Kd.long r = Kd.number n := List.mem_singleton.mp hx
          cases e
        | _ => cases hx
    refine ⟨d, kb, b, dx, bd, kvs, cm.known, cm.nm, cm.items, pz, rfl, n13 _ _ h0, hbd3, ?_, hB, onm, hkn, hpz, by omega, fun x hx => ⟨oit x hx, hlo x hx⟩, fun H4 D us n4 hD4 hus => ?_⟩
    · have := n3.tup hkb
      rw [List.map_cons, List.map_map] at this
      exact this
    have n14 := n13.trans n4
    have hA4 := (n2.trans (n3.trans n4)).seq hA
    refine ⟨_, rfl, a, _, _, _, rfl, rfl, hA4, atI0, ?_⟩
    have husG : DpAll K (less (d :: bd :: Fs.flatten) H4) us (cm.items.map Kd.data) := dps_seqS (new_less n14 kindG) (dps_same (dif_late n13) hus)
    obtain ⟨no1, no2⟩ := head_no cm
    refine ⟨_, rfl, rfl, _, rfl, ?_⟩
    rw [no1]
    refine iteF ?_
    cases cm with
    | plane nm m o =>
      refine ⟨_, rfl, rfl, true, by rfl, iteT ?_⟩
      have husM : DpAll K H4 us [.int (m : Nat)] := dps_same (less_sub _ _) husG
      cases husM with
      | cons u1 ur =>
        cases ur
        cases dp_int u1
        have okm : (Kd.wide m).ok := oit _ List.mem_cons_self
        refine ⟨_, rfl, D, _, _, _, rfl, rfl, SqL.of hD4, atI1, fun x dy hx hdy hne => ?_⟩
        have n5 : Same H4 (upd (upd H4 dy (.own x)) x (.ins C dy [])) := (same_new hdy).trans (same_new (by rw [upd_ne hne.symm]; exact hx))
        refine ⟨x, dy, m, rfl, upd_same, okm.2, fun H6 F6 b6 f6 p6 => ⟨rfl, ?_⟩⟩
        have n6 : Same H4 H6 := fun q o e => b6 _ _ (n5 _ _ e) fun eq => by
          subst eq
          rw [hx] at e
          cases e
        have n16 := n14.trans n6
        have new6 : ∀ q, q ∈ F6 → H q = Option.none := fun q hq => by
          rcases f6 q hq with e | e
          · rw [e]; exact n14.free hx
          · exact (n14.trans n5).free e
        refine ⟨_, rfl, d, CD, dx, _, _, rfl, n16 _ _ h0, c0, na, rfl, _, rfl, a, _, _, _, rfl, rfl, n6.seq hA4, atI1, bd, _, rfl, DPut.k (k := sk nm) (n16 _ _ hbd) (len_small (by rw [hps.length.1]; omega)), ?_⟩
        have ok : OptOk ps nm o := ok
        obtain ⟨G', g1, g2⟩ := desk_new (nm := nm) (o := o) h0 hbd hps nd oa ok n16 new6 p6
        show Q (.str ("ok" : Str)) _
        rw [l_ok]
        exact hQ _ _ _ _ g1 g2 .plane
    | deed nm i dd =>
      obtain ⟨st, hi, fine, dok⟩ := ok
      obtain ⟨p, F', g1, g2, g3, g4, g5⟩ := hat i st hi
      obtain ⟨di1, di2⟩ := deed_in dd
      refine ⟨_, rfl, rfl, _, rfl, ?_⟩
      rw [show decide (V.str (Cmd.deed nm i dd).head = V.str ("plane" : Str)) = false from di2]
      refine iteF ?_
      refine ⟨_, rfl, rfl, _, rfl, ?_⟩
      rw [no2]
      refine iteF ?_
      refine ⟨_, rfl, by show 5 ≤ sizeLine; decide, fun t ht => ?_⟩
      have n5 : Same H4 (upd H4 t (.tup [V.str "lay", V.str "take", V.str "widen", V.str "narrow", V.str "back"])) := same_new ht
      refine ⟨t, _, rfl, .inr (SqT.of upd_same), rfl, rfl, true, congrArg V.bl di1, iteT ?_⟩
      generalize upd H4 t (.tup [V.str "lay", V.str "take", V.str "widen", V.str "narrow", V.str "back"]) = H5 at n5 ⊢
      have hD5 := n5 _ _ hD4
      refine ⟨_, rfl, D, _, _, _, rfl, rfl, SqL.of hD5, atI0, _, rfl, _, rfl, 1, rfl, D, _, rfl, SqL.of hD5, fun e he => ?_⟩
      rw [show cutV (pz :: us) (some 1) none = us from cut_suf _ 1]
      have n6 : Same H5 (upd H5 e (.lst us)) := same_new he
      generalize q6 : upd H5 e (.lst us) = H6 at n6 ⊢
      have he6 : SqL K H6 e us := SqL.of (by rw [← q6]; exact upd_same)
      have n46 := n5.trans n6
      have n16 := n14.trans n46
      have lessS : Same (less (d :: bd :: Fs.flatten) H4) (less F' H6) := fun q o eq => by
        by_cases z : q ∈ d :: bd :: Fs.flatten
        · rw [less_in z] at eq
          cases eq
        · rw [less_out z] at eq
          rw [less_out fun y => z (by
            rw [flat_split g2]
            exact List.mem_cons_of_mem _ (List.mem_cons_of_mem _ (List.mem_append_right _ (List.mem_append_left _ y))))]
          exact n46 _ _ eq
      subst g5
      have dd1 : DpAll K (less F' H6) us dd.parts := by
        rw [← deed_data]
        exact dps_same lessS husG
      refine ⟨p, e, us, st, F', dd, rfl, g3.same n16, fine, he6, dd1, dok, fun H7 F7 f7 p7 => ?_⟩
      have hps6 := hps.move (tp_grow n16) fun q hq => by
        obtain ⟨o, e, _⟩ := hps.there q hq
        rw [e]
        exact n16 _ _ e
      obtain ⟨G', fr, dk⟩ := desk_set (st' := dd.next st) (n16 _ _ h0) (n16 _ _ hbd) hps6 nd hi g1 g2 f7 p7
      exact hQ _ _ _ _ ((Fr.of n16).trans fr) dk (.deed hi)
    | ask nm i aa =>
      obtain ⟨st, hi, fine, sm, aok⟩ := ok
      obtain ⟨p, F', g1, g2, g3, g4, g5⟩ := hat i st hi
      obtain ⟨di1, di2⟩ := ask_in aa
      refine ⟨_, rfl, rfl, _, rfl, ?_⟩
      rw [show decide (V.str (Cmd.ask nm i aa).head = V.str ("plane" : Str)) = false from di2]
      refine iteF ?_
      refine ⟨_, rfl, rfl, _, rfl, ?_⟩
      rw [no2]
      refine iteF ?_
      refine ⟨_, rfl, by show 5 ≤ sizeLine; decide, fun t ht => ?_⟩
      have n5 : Same H4 (upd H4 t (.tup [V.str "lay", V.str "take", V.str "widen", V.str "narrow", V.str "back"])) := same_new ht
      refine ⟨t, _, rfl, .inr (SqT.of upd_same), rfl, rfl, false, congrArg V.bl di1, iteF ?_⟩
      generalize upd H4 t (.tup [V.str "lay", V.str "take", V.str "widen", V.str "narrow", V.str "back"]) = H5 at n5 ⊢
      have hD5 := n5 _ _ hD4
      refine ⟨_, rfl, D, _, _, _, rfl, rfl, SqL.of hD5, atI0, _, rfl, _, rfl, 1, rfl, D, _, rfl, SqL.of hD5, fun e he => ?_⟩
      rw [show cutV (pz :: us) (some 1) none = us from cut_suf _ 1]
      have n6 : Same H5 (upd H5 e (.lst us)) := same_new he
      generalize q6 : upd H5 e (.lst us) = H6 at n6 ⊢
      have he6 : SqL K H6 e us := SqL.of (by rw [← q6]; exact upd_same)
      have n46 := n5.trans n6
      have n16 := n14.trans n46
      subst g5
      have dd1 : DpAll K H6 us aa.parts := by
        rw [← ask_data]
        exact dps_same ((less_sub _ _).trans n46) husG
      exact ⟨p, e, us, st, F', aa, rfl, g3.same n16, fine, sm, he6, dd1, aok, fun H7 n7 => hQ _ _ _ _ (Fr.of (n16.trans n7)) (hD'.same (n16.trans n7)) (.ask hi)⟩
end
end Np
end
section
set_option linter.all false
set_option maxRecDepth 100000
set_option maxHeartbeats 4000000
set_option exponentiation.threshold 4000
/-! The law's helpers: numbers and texts. -/
namespace Np
open PySem PySem.Spec PyProof.Rows L2 SX
def bigL : Int := 10 ^ 40 + 121
def cellOf (xs : List Int) (k : Nat) : Int := xs.getD k 0
def spreadOf (c : Int) (k : Nat) : Int := (c % bigL * 31415926535897932384626433832795 + ((k : Int) * k + 3 * k + 7) * 2718281828459045235360287471) % bigL
def mixL : Int := 10 ^ 30 + 57
def mixedOf (n : Int) (k : Nat) : Int := ((n * 69621 + ((k : Int) + 1) * 1000003) % mixL) * ((n * 69621 + ((k : Int) + 1) * 1000003) % mixL) % mixL
def denOf (n : Int) : Int := ([1, 1, 1, 2, 3] : List Int).getD (n / 13 % 5).toNat 1
def thingOf (n : Int) : Rat := Rat.divInt (n % 13 - 6) (denOf n)
def wtOf (n : Int) : Rat := ([1, 1, 2, Rat.divInt 1 3] : List Rat).getD (n / 7 % 4).toNat 1
def pointOf (n : Int) (m : Nat) : Pt := ⟨(List.range m).map fun j => thingOf (mixedOf n j), thingOf (mixedOf n 9), wtOf n⟩
def encLP (p : Pt) : PyData := .list [encR p.row, encQ p.want, encQ p.wt]
def spCell (K : PySem.W.Frag) : Sp := fun vs H Q _ => ∃ (a : Addr) (xs : List Int) (k : Nat), vs = [.ref a, .int (k : Nat)] ∧ SqL K H a (xs.map V.int) ∧ Q (.int (cellOf xs k)) H
def spSpread : Sp := fun vs H Q _ => ∃ (c : Int) (k : Nat), vs = [.int c, .int (k : Nat)] ∧ k ≤ 100 ∧ Q (.int (spreadOf c k)) H
def spMixed : Sp := fun vs H Q _ => ∃ (c : Int) (k : Nat), vs = [.int c, .int (k : Nat)] ∧ k ≤ 100 ∧ c.natAbs < 2 ^ 200 ∧ Q (.int (mixedOf c k)) H
def spLow (K : PySem.W.Frag) : Sp := spRatio K
def spThing (K : PySem.W.Frag) : Sp := fun vs H Q _ => ∃ (n : Int), vs = [.int n] ∧ 0 ≤ n ∧ n.natAbs < 2 ^ 200 ∧ GiveQ K H Q (encQ (thingOf n))
def spRatioOf (K : PySem.W.Frag) : Sp := fun vs H Q _ => ∃ q, vs = [.str (S (ratS q))] ∧ Sz q ∧ GiveQ K H Q (encQ q)
abbrev N_law_cell : List Str := ["_law_script", "_law_k"]
theorem sc_law_cell : FnScope ["_law_script", "_law_k"] ["_law_script", "_law_k"] (defScope s_law_cell) := ⟨rfl, rfl, rfl, by decide +kernel, rfl, by decide +kernel, by decide +kernel⟩
theorem b_law_cell : BindOk "_law_cell" "_law_cell" s_law_cell ["_law_script", "_law_k"] := fun _ _ _ _ _ _ us hl => match us, hl with | [_, _], _ => rfl
abbrev N_law_spread : List Str := ["_law_cell_here", "_law_k", "_law_big"]
theorem sc_law_spread : FnScope ["_law_cell_here", "_law_k", "_law_big"] ["_law_cell_here", "_law_k"] (defScope s_law_spread) := ⟨rfl, rfl, rfl, by decide +kernel, rfl, by decide +kernel, by decide +kernel⟩
theorem b_law_spread : BindOk "_law_spread" "_law_spread" s_law_spread ["_law_cell_here", "_law_k"] := fun _ _ _ _ _ _ us hl => match us, hl with | [_, _], _ => rfl
abbrev N_law_mixed : List Str := ["_law_number", "_law_k", "_law_found"]
theorem sc_law_mixed : FnScope ["_law_number", "_law_k", "_law_found"] ["_law_number", "_law_k"] (defScope s_law_mixed) := ⟨rfl, rfl, rfl, by decide +kernel, rfl, by decide +kernel, by decide +kernel⟩
theorem b_law_mixed : BindOk "_law_mixed" "_law_mixed" s_law_mixed ["_law_number", "_law_k"] := fun _ _ _ _ _ _ us hl => match us, hl with | [_, _], _ => rfl
abbrev N_law_low : List Str := ["_law_top", "_law_bottom", "_law_one", "_law_other"]
theorem sc_law_low : FnScope ["_law_top", "_law_bottom", "_law_one", "_law_other"] ["_law_top", "_law_bottom"] (defScope s_law_low) := ⟨rfl, rfl, rfl, by decide +kernel, rfl, by decide +kernel, by decide +kernel⟩
theorem b_law_low : BindOk "_law_low" "_law_low" s_law_low ["_law_top", "_law_bottom"] := fun _ _ _ _ _ _ us hl => match us, hl with | [_, _], _ => rfl
abbrev N_law_less : List Str := ["_law_one", "_law_other"]
theorem sc_law_less : FnScope ["_law_one", "_law_other"] ["_law_one", "_law_other"] (defScope s_law_less) := ⟨rfl, rfl, rfl, by decide +kernel, rfl, by decide +kernel, by decide +kernel⟩
theorem b_law_less : BindOk "_law_less" "_law_less" s_law_less ["_law_one", "_law_other"] := fun _ _ _ _ _ _ us hl => match us, hl with | [_, _], _ => rfl
abbrev N_law_times : List Str := ["_law_one", "_law_other"]
theorem sc_law_times : FnScope ["_law_one", "_law_other"] ["_law_one", "_law_other"] (defScope s_law_times) := ⟨rfl, rfl, rfl, by decide +kernel, rfl, by decide +kernel, by decide +kernel⟩
theorem b_law_times : BindOk "_law_times" "_law_times" s_law_times ["_law_one", "_law_other"] := fun _ _ _ _ _ _ us hl => match us, hl with | [_, _], _ => rfl
abbrev N_law_thing : List Str := ["_law_number"]
theorem sc_law_thing : FnScope ["_law_number"] ["_law_number"] (defScope s_law_thing) := ⟨rfl, rfl, rfl, by decide +kernel, rfl, by decide +kernel, by decide +kernel⟩
theorem b_law_thing : BindOk "_law_thing" "_law_thing" s_law_thing ["_law_number"] := fun _ _ _ _ _ _ us hl => match us, hl with | [_], _ => rfl
abbrev N_law_text : List Str := ["_law_one"]
theorem sc_law_text : FnScope ["_law_one"] ["_law_one"] (defScope s_law_text) := ⟨rfl, rfl, rfl, by decide +kernel, rfl, by decide +kernel, by decide +kernel⟩
theorem b_law_text : BindOk "_law_text" "_law_text" s_law_text ["_law_one"] := fun _ _ _ _ _ _ us hl => match us, hl with | [_], _ => rfl
abbrev N_law_row_text : List Str := ["_law_row", "_law_one"]
theorem sc_law_row_text : FnScope ["_law_row", "_law_one"] ["_law_row"] (defScope s_law_row_text) := ⟨rfl, rfl, rfl, by decide +kernel, rfl, by decide +kernel, by decide +kernel⟩
theorem b_law_row_text : BindOk "_law_row_text" "_law_row_text" s_law_row_text ["_law_row"] := fun _ _ _ _ _ _ us hl => match us, hl with | [_], _ => rfl
abbrev N_law_ratio_of : List Str := ["_law_text_here", "_law_parts"]
theorem sc_law_ratio_of : FnScope ["_law_text_here", "_law_parts"] ["_law_text_here"] (defScope s_law_ratio_of) := ⟨rfl, rfl, rfl, by decide +kernel, rfl, by decide +kernel, by decide +kernel⟩
theorem b_law_ratio_of : BindOk "_law_ratio_of" "_law_ratio_of" s_law_ratio_of ["_law_text_here"] := fun _ _ _ _ _ _ us hl => match us, hl with | [_], _ => rfl
theorem wide_of {i j : Int} (ha : i.natAbs < 2 ^ 2000) (hb : j.natAbs < 2 ^ 2000) : CMulW i j := wide_mul ha hb (by decide) (by decide) (by decide)
theorem mod_lt {i j : Int} (h : 0 < j) (hj : j.natAbs < 2 ^ 200) : (i % j).natAbs < 2 ^ 200 := by
  have h1 := Int.emod_nonneg i (by omega : j ≠ 0)
  have h2 := Int.emod_lt_of_pos i h
  omega
section
variable {P : Program} {w : World} {K : PySem.W.Frag} {mg : Str → Option Value} {base : Heap} {aN aO : Addr}
theorem k_law_cell (T : Txt K mg aN aO) (F : DefAt K mg "_law_cell" s_law_cell) : C8.Cal P w K mg base 1 "_law_cell" (spCell K) [] := by
  refine cal_of F sc_law_cell b_law_cell (fun vs H Q E h => ?_) (fun f cdv A outer s H vs Q E hr h => ?_)
  · obtain ⟨a, xs, k, rfl, _⟩ := h
    rfl
  · obtain ⟨a, xs, k, rfl, hs, hQ⟩ := h
    refine ⟨_, (pss_cons (ps_if (pt_cmpR op_lt (pv 1) (pe_callB call_len_seq rfl T.len (by decide +kernel) (pa_cons (pv 0) pa_nil)) (nomark _)) (pss_one (ps_ret (pe_ix ix_list (pv 0) (pv 1) (fun _ _ => rfl))))
    pss_nil)
    (pss_one (ps_ret pe_int))), ?_⟩
    refine ⟨_, rfl, _, rfl, a, _, rfl, .inl hs, _, _, rfl, rfl, _, rfl, ?_⟩
    rw [List.length_map]
    by_cases hk : k < xs.length
    · rw [show decide ((k : Int) < (xs.length : Int)) = true from decide_eq_true (by omega)]
      refine iteT ?_
      have e : xs[k]? = some (cellOf xs k) := by
        unfold cellOf
        rw [List.getD_eq_getElem?_getD, List.getElem?_eq_getElem hk]
        rfl
      exact ⟨_, rfl, _, rfl, a, _, _, _, rfl, rfl, hs, atI_nat (by rw [List.getElem?_map, e]; rfl), hQ⟩
    · rw [show decide ((k : Int) < (xs.length : Int)) = false from decide_eq_false (by omega)]
      refine iteF ?_
      have e : cellOf xs k = 0 := by
        unfold cellOf
        rw [List.getD_eq_getElem?_getD, List.getElem?_eq_none (by omega)]
        rfl
      rw [e] at hQ
      exact hQ
theorem k_law_spread (T : Txt K mg aN aO) (F : DefAt K mg "_law_spread" s_law_spread) : C8.Cal P w K mg base 1 "_law_spread" spSpread [] := by
  refine cal_of F sc_law_spread b_law_spread (fun vs H Q E h => ?_) (fun f cdv A outer s H vs Q E hr h => ?_)
  · obtain ⟨c, k, rfl, _⟩ := h
    rfl
  · obtain ⟨c, k, rfl, hk, hQ⟩ := h
    refine ⟨_, (pss_cons (ps_set (i := 2) sc_law_spread.nd rfl (Or.inl rfl) (pe_op op_add (pe_op op_pow pe_int pe_int) pe_int))
    (pss_one (ps_ret (pe_op op_mod (pe_op op_add (pe_op op_mulW (pe_op op_mod (pv 0) (pv 2)) pe_int) (pe_op op_mulW (pe_op op_add (pe_op op_add (pe_op op_mulW (pv 1) (pv 1)) (pe_op op_mulW pe_int (pv 1))) pe_int) pe_int)) (pv 2))))), ?_⟩
    have kb : ((k : Nat) : Int).natAbs < 2 ^ 7 := by rw [Int.natAbs_natCast]; omega
    have kk : (((k : Nat) : Int) * ((k : Nat) : Int)).natAbs < 2 ^ 14 := wide_lt kb kb
    have k3 : ((3 : Int) * ((k : Nat) : Int)).natAbs < 2 ^ 9 := by omega
    have cb : (c % bigL).natAbs < 2 ^ 200 := mod_lt (by decide) (by decide)
    refine ⟨_, _, rfl, rfl, ⟨by decide, by decide, by decide⟩, _, _, rfl, rfl, ?_⟩
    refine ⟨_, rfl, _, rfl, c, bigL, rfl, rfl, (by show (0 : Int) < bigL; decide), _, _, rfl, rfl, wide_of (Nat.lt_trans cb (by decide)) (by decide), ?_⟩
    refine ⟨_, rfl, _, rfl, _, _, rfl, rfl, wide_of (Nat.lt_trans kb (by decide)) (Nat.lt_trans kb (by decide)), _, rfl, _, _, rfl, rfl, wide_of (by decide) (Nat.lt_trans kb (by decide)), _, _, rfl, rfl, _, _, rfl, rfl, _, _, rfl, rfl, wide_of (Nat.lt_trans (show _ < 2 ^ 15 by omega) (by decide)) (by decide), _, _, rfl, rfl, _, rfl, _, _, rfl, rfl, (by show (0 : Int) < bigL; decide), hQ⟩
theorem k_law_mixed (T : Txt K mg aN aO) (F : DefAt K mg "_law_mixed" s_law_mixed) : C8.Cal P w K mg base 1 "_law_mixed" spMixed [] := by
  refine cal_of F sc_law_mixed b_law_mixed (fun vs H Q E h => ?_) (fun f cdv A outer s H vs Q E hr h => ?_)
  · obtain ⟨c, k, rfl, _⟩ := h
    rfl
  · obtain ⟨c, k, rfl, hk, hc, hQ⟩ := h
    refine ⟨_, (pss_cons (ps_set (i := 2) sc_law_mixed.nd rfl (Or.inl rfl) (pe_op op_mod (pe_op op_add (pe_op op_mulW (pv 0) pe_int) (pe_op op_mulW (pe_op op_add (pv 1) pe_int) pe_int)) (pe_op op_add (pe_op op_pow pe_int pe_int) pe_int)))
    (pss_one (ps_ret (pe_op op_mod (pe_op op_mulW (pv 2) (pv 2)) (pe_op op_add (pe_op op_pow pe_int pe_int) pe_int))))), ?_⟩
    have kb : (((k : Nat) : Int) + 1).natAbs < 2 ^ 7 := by omega
    have fb : ((c * 69621 + (((k : Nat) : Int) + 1) * 1000003) % mixL).natAbs < 2 ^ 200 := mod_lt (by decide) (by decide)
    refine ⟨_, rfl, _, _, rfl, rfl, wide_of (Nat.lt_trans hc (by decide)) (by decide), _, rfl, _, _, rfl, rfl, _, _, rfl, rfl, wide_of (Nat.lt_trans kb (by decide)) (by decide), _, _, rfl, rfl, _, _, rfl, rfl, ⟨by decide, by decide, by decide⟩, _, _, rfl, rfl, _, mixL, rfl, rfl, (by show (0 : Int) < mixL; decide), ?_⟩
    refine ⟨_, rfl, _, rfl, _, _, rfl, rfl, wide_of (Nat.lt_trans fb (by decide)) (Nat.lt_trans fb (by decide)), _, _, rfl, rfl, ⟨by decide, by decide, by decide⟩, _, _, rfl, rfl, _, mixL, rfl, rfl, (by show (0 : Int) < mixL; decide), hQ⟩
theorem k_law_low (T : Txt K mg aN aO) (F : DefAt K mg "_law_low" s_law_low) : C8.Cal P w K mg base 1 "_law_low" (spLow K) [] := by
  refine cal_of F sc_law_low b_law_low (fun vs H Q E h => ?_) (fun f cdv A outer s H vs Q E hr h => ?_)
  · obtain ⟨a, b, rfl, _⟩ := h
    rfl
  · obtain ⟨a, b, rfl, hb, ha2, hb2, hQ⟩ := h
    refine ⟨_, (pss_cons (ps_set (i := 2) sc_law_low.nd rfl (Or.inl rfl) (pe_callB call_abs rfl T.abs (by decide +kernel) (pa_cons (pv 0) pa_nil)))
    (pss_cons (ps_set (i := 3) sc_law_low.nd rfl (Or.inl rfl) (pv 1))
    (pss_cons (ps_while PassesOwn.never (pt_cmpR op_gt (pv 3) pe_int (nomark _))
    (pss_one (ps_par (i := 2) (j := 3) rfl sc_law_low.nd rfl rfl (by decide) rfl rfl (pa_cons (pv 3) (pa_cons (pe_op op_mod (pv 2) (pv 3)) pa_nil)) (by rfl))))
    (pss_one (ps_ret (pe_tup (pa_cons (pe_op op_fdivW (pv 0) (pv 2)) (pa_cons (pe_op op_fdivW (pv 1) (pv 2)) pa_nil)))))))), ?_⟩
    refine ⟨_, rfl, a, rfl, _, rfl, ?_⟩
    refine while_by (fun σ H' => H' = H ∧ ∃ (x y : Int), σ = [some (.int a), some (.int b), some (.int x), some (.int y)] ∧ 0 ≤ x ∧ 0 ≤ y ∧ Int.gcd x y = Int.gcd a b) (fun σ _ => match σ with
      | [_, _, _, some (.int y)] => y.toNat
      | _ => 0) ⟨rfl, (if a < 0 then -a else a), b, rfl, by split <;> omega, by omega, ?_⟩ ?_ ?_
    · have ea : (if a < 0 then -a else a) = (a.natAbs : Int) := by split <;> omega
      rw [ea]
      show Nat.gcd a.natAbs b.natAbs = _
      rfl
    · rintro σ H' ⟨rfl, x, y, rfl, hx, hy, hg⟩
      refine ⟨_, rfl, _, _, rfl, rfl, _, rfl, ?_⟩
      by_cases e : y = 0
      · subst e
        rw [show decide ((0 : Int) < 0) = false from rfl]
        refine iteF ?_
        have hg0 : 0 < Int.gcd a b := Int.gcd_pos_of_ne_zero_right _ (by omega)
        have e2 : x = ((Int.gcd a b : Nat) : Int) := by
          rw [← hg, Int.gcd_zero_right]
          omega
        subst e2
        have hg2 : ((Int.gcd a b : Nat) : Int).natAbs < 2 ^ 3841 := by
          have h1 : Int.gcd a b ≤ b.natAbs := Nat.le_of_dvd (by omega) (Nat.gcd_dvd_right _ _)
          show Int.gcd a b < _
          omega
        have hd : CDivW a ((Int.gcd a b : Nat) : Int) := wide_div (by omega) hg2 (by decide) (by decide)
        have hd2 : CDivW b ((Int.gcd a b : Nat) : Int) := wide_div (by omega) hg2 (by decide) (by decide)
        refine ⟨_, rfl, _, rfl, _, _, rfl, rfl, hd, _, rfl, _, rfl, _, _, rfl, rfl, hd2, (by show 2 ≤ sizeLine; decide), fun p hp => ?_⟩
        refine hQ _ _ (same_new hp) (q_dp (SqT.of ?_))
        rw [upd_same, ratio_num hb, ratio_den hb]
      · rw [show decide ((0 : Int) < y) = true from decide_eq_true (by omega)]
        refine iteT ?_
        refine ⟨_, rfl, _, rfl, _, rfl, _, _, rfl, rfl, (by show 0 < y; omega), _, _, rfl, ⟨rfl, y, x % y, rfl, hy, Int.emod_nonneg _ e, ?_⟩, ?_⟩
        · rw [gcd_step x y (by omega)]
          exact hg
        · show (x % y).toNat < y.toNat
          have := Int.emod_lt_of_pos x (show 0 < y by omega)
          have := Int.emod_nonneg x e
          omega
    · rintro σ H' R R' hRR ⟨v, h1, i, j, h2, h3, k, h4, h5⟩
      exact ⟨v, h1, i, j, h2, h3, k, h4, hRR _ _ h5⟩
theorem k_law_less (T : Txt K mg aN aO) (F : DefAt K mg "_law_less" s_law_less) (c_law_low : C8.Cal P w K mg base 1 "_law_low" (spLow K) []) : C8.Cal P w K mg base 2 "_law_less" (spMinus K) [] := by
  refine cal_of F sc_law_less b_law_less (fun vs H Q E h => ?_) (fun f cdv A outer s H vs Q E hr h => ?_)
  · obtain ⟨x, y, a, b, rfl, _⟩ := h
    rfl
  · obtain ⟨x, y, a, b, rfl, hx, hy, sa, sb, hc, hQ⟩ := h
    refine ⟨_, (pss_one (ps_ret (C8.pe_c c_law_low hr (by decide) rfl (pa_cons (pe_op op_sub (pe_op op_mulW (pe_ix ix_tup (pv 0) pe_int (fun _ _ => rfl)) (pe_ix ix_tup (pv 1) pe_int (fun _ _ => rfl))) (pe_op op_mulW (pe_ix ix_tup (pv 1) pe_int (fun _ _ => rfl)) (pe_ix ix_tup (pv 0) pe_int (fun _ _ => rfl)))) (pa_cons (pe_op op_mulW (pe_ix ix_tup (pv 0) pe_int (fun _ _ => rfl)) (pe_ix ix_tup (pv 1) pe_int (fun _ _ => rfl))) pa_nil))))), ?_⟩
    obtain ⟨p, rfl, tp⟩ := dp_q hx
    obtain ⟨q, rfl, tq⟩ := dp_q hy
    refine ⟨_, rfl, p, _, _, _, rfl, rfl, tp, rfl, _, rfl, q, _, _, _, rfl, rfl, tq, rfl, _, _, rfl, rfl, wide_mul sa.n sb.d (by decide) (by decide) (by decide), ?_⟩
    refine ⟨_, rfl, q, _, _, _, rfl, rfl, tq, rfl, _, rfl, p, _, _, _, rfl, rfl, tp, rfl, _, _, rfl, rfl, wide_mul sb.n sa.d (by decide) (by decide) (by decide), _, _, rfl, rfl, ?_⟩
    refine ⟨_, rfl, p, _, _, _, rfl, rfl, tp, rfl, _, rfl, q, _, _, _, rfl, rfl, tq, rfl, _, _, rfl, rfl, wide_mul sa.d sb.d (by decide) (by decide) (by decide), ?_⟩
    refine ⟨_, _, rfl, Int.mul_pos (den_pos a) (den_pos b), (cross_lt sa.n sb.d sb.n sa.d).2, cross_one sa.d sb.d, ?_⟩
    rw [← sub_rat]
    exact hQ
theorem k_law_times (T : Txt K mg aN aO) (F : DefAt K mg "_law_times" s_law_times) (c_law_low : C8.Cal P w K mg base 1 "_law_low" (spLow K) []) : C8.Cal P w K mg base 2 "_law_times" (spTimes K) [] := by
  refine cal_of F sc_law_times b_law_times (fun vs H Q E h => ?_) (fun f cdv A outer s H vs Q E hr h => ?_)
  · obtain ⟨x, y, a, b, rfl, _⟩ := h
    rfl
  · obtain ⟨x, y, a, b, rfl, hx, hy, sa, sb, hc, hQ⟩ := h
    refine ⟨_, (pss_one (ps_ret (C8.pe_c c_law_low hr (by decide) rfl (pa_cons (pe_op op_mulW (pe_ix ix_tup (pv 0) pe_int (fun _ _ => rfl)) (pe_ix ix_tup (pv 1) pe_int (fun _ _ => rfl))) (pa_cons (pe_op op_mulW (pe_ix ix_tup (pv 0) pe_int (fun _ _ => rfl)) (pe_ix ix_tup (pv 1) pe_int (fun _ _ => rfl))) pa_nil))))), ?_⟩
    obtain ⟨p, rfl, tp⟩ := dp_q hx
    obtain ⟨q, rfl, tq⟩ := dp_q hy
    refine ⟨_, rfl, p, _, _, _, rfl, rfl, tp, rfl, _, rfl, q, _, _, _, rfl, rfl, tq, rfl, _, _, rfl, rfl, wide_mul sa.n sb.n (by decide) (by decide) (by decide), ?_⟩
    refine ⟨_, rfl, p, _, _, _, rfl, rfl, tp, rfl, _, rfl, q, _, _, _, rfl, rfl, tq, rfl, _, _, rfl, rfl, wide_mul sa.d sb.d (by decide) (by decide) (by decide), ?_⟩
    refine ⟨_, _, rfl, Int.mul_pos (den_pos a) (den_pos b), cross_one sa.n sb.n, cross_one sa.d sb.d, ?_⟩
    rw [← mul_rat]
    exact hQ
theorem den_cases (n : Int) : denOf n = 1 ∨ denOf n = 2 ∨ denOf n = 3 := by
  unfold denOf
  have h : (n / 13 % 5).toNat < 5 := by omega
  generalize (n / 13 % 5).toNat = j at h
  match j, h with
  | 0, _ => exact .inl rfl
  | 1, _ => exact .inl rfl
  | 2, _ => exact .inl rfl
  | 3, _ => exact .inr (.inl rfl)
  | 4, _ => exact .inr (.inr rfl)
theorem den_at (n : Int) : atI ([V.int 1, V.int 1, V.int 1, V.int 2, V.int 3] : List V) (n / 13 % 5) = some (V.int (denOf n)) := by
  have h : (n / 13 % 5).toNat < 5 := by omega
  have e : n / 13 % 5 = (((n / 13 % 5).toNat : Nat) : Int) := by omega
  rw [e]
  refine atI_nat ?_
  unfold denOf
  generalize (n / 13 % 5).toNat = j at h
  match j, h with
  | 0, _ => rfl
  | 1, _ => rfl
  | 2, _ => rfl
  | 3, _ => rfl
  | 4, _ => rfl
theorem k_law_thing (T : Txt K mg aN aO) (F : DefAt K mg "_law_thing" s_law_thing) (c_law_low : C8.Cal P w K mg base 1 "_law_low" (spLow K) []) : C8.Cal P w K mg base 2 "_law_thing" (spThing K) [] := by
  refine cal_of F sc_law_thing b_law_thing (fun vs H Q E h => ?_) (fun f cdv A outer s H vs Q E hr h => ?_)
  · obtain ⟨n, rfl, _⟩ := h
    rfl
  · obtain ⟨n, rfl, h0, hn, hQ⟩ := h
    refine ⟨_, (pss_one (ps_ret (C8.pe_c c_law_low hr (by decide) rfl (pa_cons (pe_op op_sub (pe_op op_mod (pv 0) pe_int) pe_int) (pa_cons (pe_ix ix_list (pe_lst (pa_cons pe_int (pa_cons pe_int (pa_cons pe_int (pa_cons pe_int (pa_cons pe_int pa_nil)))))) (pe_op op_mod (pe_op op_fdivW (pv 0) pe_int) pe_int) (fun _ _ => rfl)) pa_nil))))), ?_⟩
    have dc := den_cases n
    refine ⟨_, rfl, _, _, rfl, rfl, (by show (0 : Int) < 13; decide), _, _, rfl, rfl, by show 5 ≤ sizeLine; decide, fun l hl => ?_⟩
    have n1 : Same H (upd H l (.lst [V.int 1, .int 1, .int 1, .int 2, .int 3])) := same_new hl
    refine ⟨_, rfl, _, _, rfl, rfl, wide_div (b := 5) (by decide) (by decide) (by decide) (by decide), _, _, rfl, rfl, (by show (0 : Int) < 5; decide), l, _, _, _, rfl, rfl, SqL.of upd_same, den_at n, ?_⟩
    refine ⟨_, denOf n, rfl, by omega, ?_, ?_, fun H' v s' hv => hQ _ _ (n1.trans s') hv⟩
    · have : (n % 13 - 6).natAbs < 2 ^ 5 := by omega
      exact Nat.lt_trans this (by decide)
    · have : (denOf n).natAbs < 2 ^ 5 := by omega
      exact Nat.lt_trans this (by decide)

theorem k_law_text (T : Txt K mg aN aO) (F : DefAt K mg "_law_text" s_law_text) : C8.Cal P w K mg base 1 "_law_text" (spShown K) [] := by
  refine cal_of F sc_law_text b_law_text (fun vs H Q E h => ?_) (fun f cdv A outer s H vs Q E hr h => ?_)
  · obtain ⟨v, q, rfl, _⟩ := h
    rfl
  · obtain ⟨v, q, rfl, hv, sz, hQ⟩ := h
    obtain ⟨a, rfl, hs⟩ := dp_q hv
    have bn := ratS_len sz.1 sz.2 (by decide)
    have b1 := numS_len sz.1 (by decide)
    have b2 := numS_len (i := (q.den : Nat)) (by rw [Int.natAbs_natCast]; exact sz.2) (by decide)
    refine ⟨_, (pss_cons (ps_if (pt_cmpR op_eq (pe_ix ix_tup (pv 0) pe_int (fun _ _ => rfl)) pe_int (nomark _)) (pss_one (ps_ret (pe_callTy call_str_int rfl T.str (by decide +kernel) (pa_cons (pe_ix ix_tup (pv 0) pe_int (fun _ _ => rfl)) pa_nil))))
    pss_nil)
    (pss_one (ps_ret (pe_op op_add_str (pe_op op_add_str (pe_callTy call_str_int rfl T.str (by decide +kernel) (pa_cons (pe_ix ix_tup (pv 0) pe_int (fun _ _ => rfl)) pa_nil)) pe_str) (pe_callTy call_str_int rfl T.str (by decide +kernel) (pa_cons (pe_ix ix_tup (pv 0) pe_int (fun _ _ => rfl)) pa_nil)))))), ?_⟩
    refine ⟨_, rfl, a, _, _, _, rfl, rfl, hs, rfl, rfl, _, rfl, ?_⟩
    by_cases hd : q.den = 1
    · rw [show decide (V.int ((q.den : Nat) : Int) = V.int 1) = true from decide_eq_true (by rw [hd]; rfl)]
      refine iteT ?_
      refine ⟨_, rfl, a, _, _, _, rfl, rfl, hs, rfl, _, rfl, sz.log.1, ?_⟩
      show Q (.str (Str.ofString (toString q.num))) H
      rw [num_text]
      have e : ratS q = numS q.num := by
        unfold ratS
        rw [if_pos hd]
      rw [← e]
      exact hQ
    · rw [show decide (V.int ((q.den : Nat) : Int) = V.int 1) = false from decide_eq_false fun e => hd (by have := V.int.inj e; omega)]
      refine iteF ?_
      refine ⟨_, rfl, a, _, _, _, rfl, rfl, hs, rfl, _, rfl, sz.log.1, ?_⟩
      have e1 : Str.ofString (toString q.num) = S (numS q.num) := num_text _
      have e2 : Str.ofString (toString ((q.den : Nat) : Int)) = S (numS (q.den : Nat)) := num_text _
      refine ⟨_, _, rfl, rfl, ?_, ?_⟩
      · show (Str.ofString (toString q.num)).length + ("/" : Str).length ≤ sizeLine
        rw [e1, l_slash, S_len, S_len, sizeLine_eq]
        show (numS q.num).length + 1 ≤ _
        omega
      refine ⟨_, rfl, a, _, _, _, rfl, rfl, hs, rfl, _, rfl, sz.log.2, _, _, rfl, rfl, ?_, ?_⟩
      · show (Str.ofString (toString q.num) ++ ("/" : Str)).length + (Str.ofString (toString ((q.den : Nat) : Int))).length ≤ sizeLine
        rw [e1, e2, l_slash, S_cat, S_len, S_len, List.length_append, sizeLine_eq]
        show (numS q.num).length + 1 + _ ≤ _
        omega
      show Q (.str (Str.ofString (toString q.num) ++ ("/" : Str) ++ Str.ofString (toString ((q.den : Nat) : Int)))) H
      rw [e1, e2, l_slash, S_cat, S_cat]
      have e : ratS q = numS q.num ++ [47] ++ numS (q.den : Nat) := by
        unfold ratS
        rw [if_neg hd, List.append_assoc]
        rfl
      rw [← e]
      exact hQ
theorem k_law_row_text (T : Txt K mg aN aO) (F : DefAt K mg "_law_row_text" s_law_row_text) (c_law_text : C8.Cal P w K mg base 1 "_law_text" (spShown K) []) : C8.Cal P w K mg base 2 "_law_row_text" (spShownRow K) [] := by
  refine cal_of F sc_law_row_text b_law_row_text (fun vs H Q E h => ?_) (fun f cdv A outer s H vs Q E hr h => ?_)
  · obtain ⟨v, r, rfl, _⟩ := h
    rfl
  · obtain ⟨v, r, rfl, hv, hl, sz, hQ⟩ := h
    obtain ⟨a, xs, rfl, hs, hd⟩ := dp_list hv
    have hlen := hd.length
    rw [encs_len] at hlen
    refine ⟨_, (pss_one (ps_ret (pe_join pe_str (pe_lc (own := [("_law_one", 1)]) rfl sc_law_row_text.nd (pi_list (pv 0)) (blkOk_by (own := [("_law_one", 1)]) (N := N_law_row_text) (sc := defScope s_law_row_text) (by decide +kernel)) (fun _ _ _ _ _ => (pg_name (i := 1) sc_law_row_text.nd rfl (Or.inl rfl))) (fun _ _ _ _ _ => pts_nil) (fun _ _ _ _ _ => (C8.pe_c c_law_text hr (by decide) rfl (pa_cons (pv 1) pa_nil))))))), ?_⟩
    refine ⟨⟨_, rfl⟩, _, rfl, a, rfl, ⟨xs, hs⟩, fun D hD => lc_list (K := K) (a := a) (xs := xs) (fun i H' => Same H H' ∧ H' D = some (.lst ((r.take i).map fun q => V.str (S (ratS q)))))
      ⟨same_new hD, upd_same⟩ (fun i H' _ hP => hP.1.seq hs) (fun i x H' hx hP => ?_) (fun H' hP => ?_)⟩
    · obtain ⟨m1, hL⟩ := hP
      obtain ⟨d, hd1, hd2⟩ := hd.get' hx
      obtain ⟨q, hq, rfl⟩ := encs_get hd1
      have hi := (List.getElem?_eq_some_iff.mp hq).1
      refine ⟨rfl, ?_⟩
      refine ⟨_, rfl, _, q, rfl, dp_same m1 hd2, sz q (List.mem_of_getElem? hq), _, hL, len_small (by rw [List.length_map]; exact Nat.le_trans (List.length_take_le _ _) (by omega)), same_put m1 hD, ?_⟩
      rw [upd_same, take_more hq, List.map_append]
      rfl
    · obtain ⟨m1, hL⟩ := hP
      rw [hlen, List.take_length, map_str] at hL
      have bl : ∀ x, x ∈ r.map ratS → x.length ≤ 3900 := fun x hx => by
        obtain ⟨q, hq, rfl⟩ := List.mem_map.mp hx
        have := ratS_len (sz q hq).1 (sz q hq).2 (by decide)
        omega
      refine ⟨S [44], D, (r.map ratS).map S, by rw [← l_comma], rfl, .inl (SqL.of hL), ?_, ?_⟩
      · have := sum_len 3900 (r.map ratS) bl
        rw [List.length_map] at this
        rw [List.length_map, List.length_map]
        show _ + r.length * 1 ≤ _
        omega
      · rw [join_S]
        exact hQ _ m1
end
end Np
end
section
set_option linter.all false
set_option maxRecDepth 100000
set_option maxHeartbeats 4000000
set_option exponentiation.threshold 4000
/-! The law's helpers: ratios read, points, lines. -/
namespace Np
open PySem PySem.Spec PyProof.Rows L2 SX
theorem int_num {i : Int} (h : (numS i).length ≤ 4300) : intText? (S (numS i)) = some i := by
  by_cases hi : i < 0
  · have e : numS i = 45 :: TL.numL i.natAbs := by unfold numS; rw [if_pos hi]
    have := intText_neg (x := S (numS i)) (cs := TL.numL i.natAbs) e (TL.numL_digits _) (TL.numL_ne _) (by rw [S_len]; exact h)
    rw [this, TL.numL_val]
    congr 1
    omega
  · have e : numS i = TL.numL i.natAbs := by unfold numS; rw [if_neg hi]
    rw [e] at h ⊢
    rw [int_S (List.all_eq_true.mpr fun c hc => by
      have := TL.numL_digits _ c hc
      rw [decide_eq_true this.1, decide_eq_true this.2]
      rfl) (TL.numL_ne _) h, TL.numL_val]
    congr 1
    omega
theorem l_one : ("1" : Str) = S (numS 1) := by decide +kernel
def partsS (q : Rat) : List (List Nat) := if q.den = 1 then [numS q.num] else [numS q.num, numS (q.den : Nat)]
theorem ratS_join (q : Rat) : ratS q = TL.joinL [47] (partsS q) := by
  unfold ratS partsS
  split <;> rfl
theorem ratS_split (q : Rat) : Txt.split (S (ratS q)) ("/" : Str) = (partsS q).map S := by
  rw [l_slash, split_S (List.cons_ne_nil _ _) rfl, ratS_join]
  rw [spl_join (by unfold partsS; split <;> exact List.cons_ne_nil _ _) fun p hp => ?_]
  unfold partsS at hp
  split at hp
  · rw [List.mem_singleton.mp hp]
    exact num47 _
  · rcases List.mem_cons.mp hp with rfl | hp
    · exact num47 _
    · rw [List.mem_singleton.mp hp]
      exact num47 _
theorem Sz.len {q : Rat} (h : Sz q) : (numS q.num).length ≤ 640 ∧ (numS (q.den : Nat)).length ≤ 640 := by
  have b : ∀ n : Nat, n < 2 ^ 1920 → (TL.numL n).length ≤ 600 := fun n hn => TL.numL_len (by decide) (Nat.lt_trans hn (by decide +kernel))
  constructor
  · have := b _ h.1
    unfold numS
    split
    · rw [List.length_cons]; omega
    · omega
  · have := b _ h.2
    rw [numS_nat]
    omega
/-- a name's line that lays a point -/
def layLine (nm : List Nat) (p : Pt) : List Nat := TL.joinL [32] [tl "lay", nm, ratS p.want, rowS p.row, ratS p.wt]
structure PtOk (p : Pt) (m : Nat) : Prop where
  len : p.row.length = m
  row : ∀ x, x ∈ p.row → Cd 6 (2 ^ 6) x
  want : Cd 6 (2 ^ 6) p.want
  wt : Cd 3 (2 ^ 3) p.wt ∧ 0 < p.wt
theorem Cd.fine {q : Rat} {d n : Nat} (h : Cd d n q) (h0 : 0 < d) (hd : d ≤ 1000) (hn : n ≤ 1000) : Fine q ∧ Sz q := by
  obtain ⟨h1, h2⟩ := cd_sz h0 h
  have a : q.num.natAbs < 2 ^ 10 := by omega
  have b : q.den < 2 ^ 10 := by omega
  exact ⟨⟨Nat.lt_trans a (by decide), Nat.lt_trans b (by decide)⟩, Nat.lt_trans a (by decide), Nat.lt_trans b (by decide)⟩
def spPoint (K : PySem.W.Frag) : Sp := fun vs H Q _ => ∃ (n : Int) (m : Nat), vs = [.int n, .int (m : Nat)] ∧ 0 ≤ n ∧ n.natAbs < 2 ^ 200 ∧ m ≤ 12 ∧ GiveF K H Q (encLP (pointOf n m))
def spLine (K : PySem.W.Frag) : Sp := fun vs H Q _ => ∃ (nm : List Nat) (v : V) (p : Pt) (m : Nat), vs = [.str (S nm), v] ∧ nm.length ≤ 8 ∧ Dp K H v (encLP p) ∧ PtOk p m ∧ m ≤ 12 ∧ ∀ H', Same H H' → Q (.str (S (layLine nm p))) H'
abbrev N_law_point : List Str := ["_law_number", "_law_wide", "_law_row", "_law_j"]
theorem sc_law_point : FnScope ["_law_number", "_law_wide", "_law_row", "_law_j"] ["_law_number", "_law_wide"] (defScope s_law_point) := ⟨rfl, rfl, rfl, by decide +kernel, rfl, by decide +kernel, by decide +kernel⟩
theorem b_law_point : BindOk "_law_point" "_law_point" s_law_point ["_law_number", "_law_wide"] := fun _ _ _ _ _ _ us hl => match us, hl with | [_, _], _ => rfl
abbrev N_law_line : List Str := ["_law_name", "_law_point_here"]
theorem sc_law_line : FnScope ["_law_name", "_law_point_here"] ["_law_name", "_law_point_here"] (defScope s_law_line) := ⟨rfl, rfl, rfl, by decide +kernel, rfl, by decide +kernel, by decide +kernel⟩
theorem b_law_line : BindOk "_law_line" "_law_line" s_law_line ["_law_name", "_law_point_here"] := fun _ _ _ _ _ _ us hl => match us, hl with | [_, _], _ => rfl
theorem dp_lp {K : PySem.W.Frag} {H : Hp} {v : V} {p : Pt} (h : Dp K H v (encLP p)) : ∃ a x y z, v = .ref a ∧ SqL K H a [x, y, z] ∧ Dp K H x (encR p.row) ∧ Dp K H y (encQ p.want) ∧ Dp K H z (encQ p.wt) := by
  obtain ⟨a, xs, rfl, hs, hd⟩ := dp_list h
  cases hd with
  | cons h1 r =>
    cases r with
    | cons h2 r =>
      cases r with
      | cons h3 r =>
        cases r
        exact ⟨a, _, _, _, rfl, hs, h1, h2, h3⟩
section
variable {P : Program} {w : World} {K : PySem.W.Frag} {mg : Str → Option Value} {base : Heap} {aN aO : Addr}
theorem k_law_ratio_of (T : Txt K mg aN aO) (F : DefAt K mg "_law_ratio_of" s_law_ratio_of) (c_law_low : C8.Cal P w K mg base 1 "_law_low" (spLow K) []) : C8.Cal P w K mg base 2 "_law_ratio_of" (spRatioOf K) [] := by
  refine cal_of F sc_law_ratio_of b_law_ratio_of (fun vs H Q E h => ?_) (fun f cdv A outer s H vs Q E hr h => ?_)
  · obtain ⟨q, rfl, _⟩ := h
    rfl
  · obtain ⟨q, rfl, sz, hQ⟩ := h
    obtain ⟨l1, l2⟩ := sz.len
    have rl : (ratS q).length ≤ 1300 := by
      unfold ratS
      split
      · omega
      · rw [List.length_append, List.length_cons]; omega
    refine ⟨_, (pss_cons (ps_set (i := 1) sc_law_ratio_of.nd rfl (Or.inl rfl) (pe_op op_cat (pe_split (pv 0) pe_str) (pe_lst (pa_cons pe_str pa_nil))))
    (pss_one (ps_ret (C8.pe_c c_law_low hr (by decide) rfl (pa_cons (pe_callTy call_int_str rfl T.int (by decide +kernel) (pa_cons (pe_ix ix_list (pv 1) pe_int (fun _ _ => rfl)) pa_nil)) (pa_cons (pe_callTy call_int_str rfl T.int (by decide +kernel) (pa_cons (pe_ix ix_list (pv 1) pe_int (fun _ _ => rfl)) pa_nil)) pa_nil)))))), ?_⟩
    refine ⟨_, rfl, ⟨_, rfl⟩, _, _, rfl, rfl, by decide +kernel, by rw [S_len, sizeLine_eq]; omega, fun a ha => ?_⟩
    rw [ratS_split]
    have n1 : Same H (upd H a (.lst (((partsS q).map S).map V.str))) := same_new ha
    refine ⟨by show 1 ≤ sizeLine; decide, fun b hb => ?_⟩
    have n2 := n1.trans (same_new (o := .lst [V.str ("1" : Str)]) hb)
    have ha2 : upd (upd H a (.lst (((partsS q).map S).map V.str))) b (.lst [V.str ("1" : Str)]) a = some (.lst (((partsS q).map S).map V.str)) := by
      rw [upd_ne (ne_of_none upd_same hb)]
      exact upd_same
    have pl : ((partsS q).map S).length ≤ 2 := by
      unfold partsS
      split <;> simp
    refine ⟨a, b, _, _, rfl, rfl, ha2, upd_same, Nat.le_of_lt (len_small (by rw [List.length_map]; show _ + 1 ≤ _; omega)), fun c hc => ?_⟩
    generalize qC : upd (upd (upd H a (.lst (((partsS q).map S).map V.str))) b (.lst [V.str ("1" : Str)])) c (.lst (((partsS q).map S).map V.str ++ [V.str ("1" : Str)])) = HC
    have nC : Same H HC := by rw [← qC]; exact n2.trans (same_new hc)
    have hC : SqL K HC c (((partsS q).map S).map V.str ++ [V.str ("1" : Str)]) := SqL.of (by rw [← qC]; exact upd_same)
    have e0 : (((partsS q).map S).map V.str ++ [V.str ("1" : Str)])[0]? = some (V.str (S (numS q.num))) := by
      unfold partsS
      split <;> rfl
    have e1 : (((partsS q).map S).map V.str ++ [V.str ("1" : Str)])[1]? = some (V.str (S (numS (q.den : Nat)))) := by
      unfold partsS
      split
      · rename_i hd
        rw [hd, l_one]
        rfl
      · rfl
    refine ⟨_, rfl, c, _, _, _, rfl, rfl, hC, atI_nat (j := 0) e0, _, _, rfl, int_num (by omega), by rw [S_len]; omega, ?_⟩
    refine ⟨_, rfl, c, _, _, _, rfl, rfl, hC, atI_nat (j := 1) e1, _, _, rfl, int_num (by omega), by rw [S_len]; omega, ?_⟩
    refine ⟨q.num, ((q.den : Nat) : Int), rfl, den_pos q, Nat.lt_trans sz.1 (by decide), by rw [Int.natAbs_natCast]; exact Nat.lt_trans sz.2 (by decide), fun H' v s' hv => hQ _ _ (nC.trans s') ?_⟩
    rw [Rat.num_divInt_den] at hv
    exact hv
theorem mixed_range (n : Int) (k : Nat) : 0 ≤ mixedOf n k ∧ (mixedOf n k).natAbs < 2 ^ 200 := by
  refine ⟨Int.emod_nonneg _ (by decide), mod_lt (by decide) (by decide)⟩
theorem wt_at {H : Hp} {a0 a1 a2 a3 : Addr} (n : Int) (h0 : SqT K H a0 [.int 1, .int 1]) (h1 : SqT K H a1 [.int 1, .int 1]) (h2 : SqT K H a2 [.int 2, .int 1]) (h3 : SqT K H a3 [.int 1, .int 3]) :
    ∃ v, atI ([V.ref a0, .ref a1, .ref a2, .ref a3] : List V) (n / 7 % 4) = some v ∧ Dp K H v (encQ (wtOf n)) := by
  have h : (n / 7 % 4).toNat < 4 := by omega
  have e : n / 7 % 4 = (((n / 7 % 4).toNat : Nat) : Int) := by omega
  rw [e]
  unfold wtOf
  generalize (n / 7 % 4).toNat = j at h
  match j, h with
  | 0, _ => exact ⟨_, atI_nat (j := 0) rfl, .tup h0 (.cons (.int _) (.cons (.int _) .nil))⟩
  | 1, _ => exact ⟨_, atI_nat (j := 1) rfl, .tup h1 (.cons (.int _) (.cons (.int _) .nil))⟩
  | 2, _ => exact ⟨_, atI_nat (j := 2) rfl, .tup h2 (.cons (.int _) (.cons (.int _) .nil))⟩
  | 3, _ => exact ⟨_, atI_nat (j := 3) rfl, .tup h3 (.cons (.int _) (.cons (.int _) .nil))⟩
theorem k_law_point (T : Txt K mg aN aO) (F : DefAt K mg "_law_point" s_law_point) (c_law_thing : C8.Cal P w K mg base 2 "_law_thing" (spThing K) []) (c_law_mixed : C8.Cal P w K mg base 1 "_law_mixed" spMixed []) : C8.Cal P w K mg base 3 "_law_point" (spPoint K) [] := by
  refine cal_of F sc_law_point b_law_point (fun vs H Q E h => ?_) (fun f cdv A outer s H vs Q E hr h => ?_)
  · obtain ⟨n, m, rfl, _⟩ := h
    rfl
  · obtain ⟨n, m, rfl, h0, hn, hm, hQ⟩ := h
    refine ⟨_, (pss_cons (ps_setLc (i := 2) (own := [("_law_j", 3)]) rfl sc_law_point.nd rfl rfl (sw_true rfl rfl rfl (by decide +kernel)) (pi_range1 rfl T.range (pa_cons (pv 1) pa_nil)) (blkOk_by (own := [("_law_j", 3)]) (N := N_law_point) (sc := defScope s_law_point) (by decide +kernel)) (fun _ _ _ _ _ => (pg_name (i := 3) sc_law_point.nd rfl (Or.inl rfl))) (fun _ _ _ _ _ => pts_nil) (fun _ _ _ _ _ => (C8.pe_c c_law_thing hr (by decide) rfl (pa_cons (C8.pe_c c_law_mixed hr (by decide) rfl (pa_cons (pv 0) (pa_cons (pv 3) pa_nil))) pa_nil))))
    (pss_one (ps_ret (pe_lst (pa_cons (pv 2) (pa_cons (C8.pe_c c_law_thing hr (by decide) rfl (pa_cons (C8.pe_c c_law_mixed hr (by decide) rfl (pa_cons (pv 0) (pa_cons pe_int pa_nil))) pa_nil)) (pa_cons (pe_ix ix_list (pe_lst (pa_cons (pe_tup (pa_cons pe_int (pa_cons pe_int pa_nil))) (pa_cons (pe_tup (pa_cons pe_int (pa_cons pe_int pa_nil))) (pa_cons (pe_tup (pa_cons pe_int (pa_cons pe_int pa_nil))) (pa_cons (pe_tup (pa_cons pe_int (pa_cons pe_int pa_nil))) pa_nil))))) (pe_op op_mod (pe_op op_fdivW (pv 0) pe_int) pe_int) (fun _ _ => rfl)) pa_nil))))))), ?_⟩
    refine ⟨_, rfl, (m : Nat), rfl, by omega, by omega, fun D hD => lc_by (n := m) (fun i H' => Same H H' ∧ ∃ ys, H' D = some (.lst ys) ∧ DpAll K (rem H' D) ys (encs ((List.range i).map fun j => thingOf (mixedOf n j))))
      ⟨same_new hD, [], upd_same, .nil⟩ (fun i H' hi hP => ?_) (fun H' hP => ?_)⟩
    · obtain ⟨m1, ys, hL, hY⟩ := hP
      refine ⟨by show i < ((m : Nat) : Int).toNat; omega, fun v H1 hv => ?_⟩
      obtain ⟨rfl, rfl⟩ := hv
      refine ⟨rfl, ?_⟩
      obtain ⟨r1, r2⟩ := mixed_range n i
      refine ⟨_, rfl, _, rfl, n, i, by rw [Int.zero_add]; rfl, by omega, hn, mixedOf n i, rfl, r1, r2, fun H2 v n2 h2 => ?_⟩
      have hL2 := n2 _ _ hL
      refine ⟨_, hL2, len_small ?_, same_put (m1.trans n2) hD, _, upd_same, ?_⟩
      · rw [hY.length, encs_len, List.length_map, List.length_range]
        omega
      · rw [rem_upd, List.range_succ, List.map_append, encs_app]
        exact (dps_same (rem_same n2) hY).snoc (rem_q h2 hL2)
    · obtain ⟨m1, ys, hL, hY⟩ := hP
      obtain ⟨r1, r2⟩ := mixed_range n 9
      refine ⟨by show ((m : Nat) : Int).toNat ≤ m; omega, ?_⟩
      refine ⟨_, rfl, _, rfl, n, 9, rfl, by decide, hn, mixedOf n 9, rfl, r1, r2, fun H2 v n2 h2 => ?_⟩
      refine ⟨by show 2 ≤ sizeLine; decide, fun t0 ht0 => ⟨by show 2 ≤ sizeLine; decide, fun t1 ht1 => ⟨by show 2 ≤ sizeLine; decide, fun t2 ht2 => ⟨by show 2 ≤ sizeLine; decide, fun t3 ht3 => ⟨by show 4 ≤ sizeLine; decide, fun l hl => ?_⟩⟩⟩⟩⟩
      have s0 : Same H2 (upd H2 t0 (.tup [V.int 1, .int 1])) := same_new ht0
      have g0 : SqT K (upd H2 t0 (.tup [V.int 1, .int 1])) t0 [.int 1, .int 1] := SqT.of upd_same
      generalize upd H2 t0 (.tup [V.int 1, .int 1]) = G0 at *
      have s1 : Same G0 (upd G0 t1 (.tup [V.int 1, .int 1])) := same_new ht1
      have g1 : SqT K (upd G0 t1 (.tup [V.int 1, .int 1])) t1 [.int 1, .int 1] := SqT.of upd_same
      generalize upd G0 t1 (.tup [V.int 1, .int 1]) = G1 at *
      have s2 : Same G1 (upd G1 t2 (.tup [V.int 2, .int 1])) := same_new ht2
      have g2 : SqT K (upd G1 t2 (.tup [V.int 2, .int 1])) t2 [.int 2, .int 1] := SqT.of upd_same
      generalize upd G1 t2 (.tup [V.int 2, .int 1]) = G2 at *
      have s3 : Same G2 (upd G2 t3 (.tup [V.int 1, .int 3])) := same_new ht3
      have g3 : SqT K (upd G2 t3 (.tup [V.int 1, .int 3])) t3 [.int 1, .int 3] := SqT.of upd_same
      generalize upd G2 t3 (.tup [V.int 1, .int 3]) = G3 at *
      have s4 : Same G3 (upd G3 l (.lst [V.ref t0, .ref t1, .ref t2, .ref t3])) := same_new hl
      have gl : SqL K (upd G3 l (.lst [V.ref t0, .ref t1, .ref t2, .ref t3])) l [V.ref t0, .ref t1, .ref t2, .ref t3] := SqL.of upd_same
      generalize upd G3 l (.lst [V.ref t0, .ref t1, .ref t2, .ref t3]) = G4 at *
      obtain ⟨wv, hwv, hwd⟩ := wt_at (K := K) (H := G4) n (s4.tup (s3.tup (s2.tup (s1.tup g0)))) (s4.tup (s3.tup (s2.tup g1))) (s4.tup (s3.tup g2)) (s4.tup g3)
      refine ⟨_, rfl, _, _, rfl, rfl, wide_div (b := 5) (by decide) (by decide) (by decide) (by decide), _, _, rfl, rfl, (by show (0 : Int) < 4; decide), l, _, _, wv, rfl, rfl, gl, hwv, by show 3 ≤ sizeLine; decide, fun R hR => ?_⟩
      have s24 := s0.trans (s1.trans (s2.trans (s3.trans s4)))
      have s5 : Same G4 (upd G4 R (.lst [V.ref D, v, wv])) := same_new hR
      have mm : Same H (upd G4 R (.lst [V.ref D, v, wv])) := m1.trans (n2.trans (s24.trans s5))
      have sD : Same H' (upd G4 R (.lst [V.ref D, v, wv])) := n2.trans (s24.trans s5)
      refine hQ _ _ mm (dif_new ((m1.trans (n2.trans s24)).free hR) upd_same (.cons (dif_new hD (sD _ _ hL) (dif_qs mm (dps_same ((rem_sub _ _).trans sD) hY))) (.cons (dif_q mm (dp_same (s24.trans s5) h2)) (.cons (dif_q mm (dp_same s5 hwd)) .nil))))
theorem k_law_line (T : Txt K mg aN aO) (F : DefAt K mg "_law_line" s_law_line) (c_law_text : C8.Cal P w K mg base 1 "_law_text" (spShown K) []) (c_law_row_text : C8.Cal P w K mg base 2 "_law_row_text" (spShownRow K) []) : C8.Cal P w K mg base 3 "_law_line" (spLine K) [] := by
  refine cal_of F sc_law_line b_law_line (fun vs H Q E h => ?_) (fun f cdv A outer s H vs Q E hr h => ?_)
  · obtain ⟨nm, v, p, m, rfl, _⟩ := h
    rfl
  · obtain ⟨nm, v, p, m, rfl, hn, hv, ok, hm, hQ⟩ := h
    obtain ⟨a, x, y, z, rfl, hs, h1, h2, h3⟩ := dp_lp hv
    have fw := ok.want.fine (by decide) (by decide) (by decide)
    have ft := ok.wt.1.fine (by decide) (by decide) (by decide)
    have fr : ∀ q, q ∈ p.row → Fine q ∧ Sz q := fun q hq => (ok.row q hq).fine (by decide) (by decide) (by decide)
    have pl := ok.len
    refine ⟨_, (pss_one (ps_ret (pe_join pe_str (pe_lst (pa_cons pe_str (pa_cons (pv 0) (pa_cons (C8.pe_c c_law_text hr (by decide) rfl (pa_cons (pe_ix ix_list (pv 1) pe_int (fun _ _ => rfl)) pa_nil)) (pa_cons (C8.pe_c c_law_row_text hr (by decide) rfl (pa_cons (pe_ix ix_list (pv 1) pe_int (fun _ _ => rfl)) pa_nil)) (pa_cons (C8.pe_c c_law_text hr (by decide) rfl (pa_cons (pe_ix ix_list (pv 1) pe_int (fun _ _ => rfl)) pa_nil)) pa_nil))))))))), ?_⟩
    refine ⟨⟨_, rfl⟩, _, rfl, _, rfl, a, _, _, _, rfl, rfl, hs, atI1, _, _, rfl, h2, fw.2, ?_⟩
    refine ⟨_, rfl, a, _, _, _, rfl, rfl, hs, atI0, _, p.row, rfl, h1, by omega, fun q hq => (fr q hq).2, fun H1 n1 => ?_⟩
    refine ⟨_, rfl, a, _, _, _, rfl, rfl, n1.seq hs, atI2, _, _, rfl, dp_same n1 h3, ft.2, by show 5 ≤ sizeLine; decide, fun l hl => ?_⟩
    have n2 : Same H1 (upd H1 l (.lst [V.str ("lay" : Str), .str (S nm), .str (S (ratS p.want)), .str (S (rowS p.row)), .str (S (ratS p.wt))])) := same_new hl
    refine ⟨S [32], l, [tl "lay", nm, ratS p.want, rowS p.row, ratS p.wt].map S, by rw [← l_space], rfl, .inl (SqL.of ?_), ?_, ?_⟩
    · rw [upd_same]
      show _ = some (HO.lst [V.str (S (tl "lay")), _, _, _, _])
      rw [S_tl]
    · have bq : ∀ q, Fine q → (ratS q).length ≤ 60000 := fun q hq => by
        have := ratS_len (k := 200) (Nat.lt_trans hq.1 (by decide)) (Nat.lt_trans hq.2 (by decide)) (by decide)
        omega
      have := sum_len 60000 [tl "lay", nm, ratS p.want, rowS p.row, ratS p.wt] fun w hw => by
        rcases List.mem_cons.mp hw with rfl | hw
        · exact (by decide +kernel : (tl "lay").length ≤ 60000)
        rcases List.mem_cons.mp hw with rfl | hw
        · omega
        rcases List.mem_cons.mp hw with rfl | hw
        · exact bq _ fw.1
        rcases List.mem_cons.mp hw with rfl | hw
        · by_cases hne : p.row = []
          · rw [hne]
            exact Nat.zero_le _
          · exact (wd_ok (d := .row p.row) ⟨hne, by omega, fun q hq => (fr q hq).1⟩).2
        · rw [List.mem_singleton.mp hw]
          exact bq _ ft.1
      show _ + 5 * 1 ≤ _
      have e5 : [tl "lay", nm, ratS p.want, rowS p.row, ratS p.wt].length = 5 := rfl
      rw [e5] at this
      omega
    · rw [join_S]
      exact hQ _ (n1.trans n2)
end
end Np
end
section
set_option linter.all false
set_option maxRecDepth 100000
set_option maxHeartbeats 4000000
/-! The law's helpers: a new desk, answers. -/
namespace Np
open PySem PySem.Spec PyProof.Rows L2 SX
theorem Fr.late {F F' : List Addr} {H H' : Hp} {D : Addr} {u : HO} (f : Fr F H F' H') (hD : H D = Option.none) (n : isT (H' D) = false) : Fr F H F' (upd H' D u) := ⟨fun b o e => by
  have e1 := f.s b o e
  have ne : b ≠ D := fun q => by
    subst q
    have := less_sub _ _ _ _ e
    rw [hD] at this
    cases this
  by_cases z : b ∈ F'
  · rw [less_in z] at e1
    cases e1
  · rw [less_out z] at e1 ⊢
    rw [upd_ne ne]
    exact e1, f.t.trans (tp_put n), f.n⟩
theorem DeskAt.put {K : PySem.W.Frag} {CD C : Addr} {H : Hp} {d : Addr} {ps : Ps} {G : List Addr} {D : Addr} {u : HO} (h : DeskAt K CD C H d ps G) (hD : ¬ D ∈ G) (n : isT (H D) = false) : DeskAt K CD C (upd H D u) d ps G := by
  obtain ⟨dx, bd, kvs, Fs, h0, hb, hp, rfl, nd⟩ := h
  have ne : ∀ b, b ∈ d :: bd :: Fs.flatten → b ≠ D := fun b hb e => hD (e ▸ hb)
  exact ⟨dx, bd, kvs, Fs, by rw [upd_ne (ne d List.mem_cons_self)]; exact h0, by rw [upd_ne (ne bd (List.mem_cons_of_mem _ List.mem_cons_self))]; exact hb, hp.move (tp_put n) fun b hb => upd_ne (ne b (List.mem_cons_of_mem _ (List.mem_cons_of_mem _ hb))), rfl, nd⟩
def spDeskInit (K : PySem.W.Frag) (CD C : Addr) : Sp := fun vs H Q _ => ∃ (a dx : Addr), vs = [.ref a] ∧ H a = some (.ins CD dx []) ∧ ∀ H' G, But a H H' → (∀ b, b ∈ G → b = a ∨ H b = Option.none) → DeskAt K CD C H' a [] G → Q .non H'
def answersOf (ps : List Pt) (m : Nat) : List (List Nat) := [rowS (toldOf ps m), intsS (freeOf ps m), waysS ps m, ratS (squaresOf ps m)]
def encTexts (l : List (List Nat)) : PyData := .list (l.map fun x => .str (S x))
def spAnswers (K : PySem.W.Frag) (CD C : Addr) : Sp := fun vs H Q _ => ∃ (d : Addr) (nm : List Nat) (ps : Ps) (G : List Addr) (i : Nat) (st : Pl), vs = [.ref d, .str (S nm)] ∧ DeskAt K CD C H d ps G ∧ NamesApart ps ∧ ps.length ≤ 10 ∧ Nm nm ∧ ps[i]? = some (nm, st) ∧ PlFine st ∧ Small (ptsOf st) st.1.span ∧
  ∀ H' G' v, Fr G H G' H' → DeskAt K CD C H' d ps G' → Dp K (less G' H') v (encTexts (answersOf (ptsOf st) st.1.span)) → Q v H'
abbrev N_Desk_init__ : List Str := ["self"]
theorem sc_Desk_init__ : FnScope ["self"] ["self"] (defScope s_Desk_init__) := ⟨rfl, rfl, rfl, by decide +kernel, rfl, by decide +kernel, by decide +kernel⟩
theorem b_Desk_init__ : BindOk "__init__" "Desk.__init__" s_Desk_init__ ["self"] := fun _ _ _ _ _ _ us hl => match us, hl with | [_], _ => rfl
abbrev N_law_answers : List Str := ["_law_desk", "_law_name", "_law_word"]
theorem sc_law_answers : FnScope ["_law_desk", "_law_name", "_law_word"] ["_law_desk", "_law_name"] (defScope s_law_answers) := ⟨rfl, rfl, rfl, by decide +kernel, rfl, by decide +kernel, by decide +kernel⟩
theorem b_law_answers : BindOk "_law_answers" "_law_answers" s_law_answers ["_law_desk", "_law_name"] := fun _ _ _ _ _ _ us hl => match us, hl with | [_, _], _ => rfl
def fourAsks : List Ask := [.told, .free, .ways, .squares]
theorem four_line (nm : List Nat) (i : Nat) (a : Ask) (h : a ∈ fourAsks) : (Cmd.ask nm i a).line = tl a.name ++ [32] ++ nm ∧ (Cmd.ask nm i a).items = [] := by
  unfold fourAsks at h
  have : a = .told ∨ a = .free ∨ a = .ways ∨ a = .squares := by simpa using h
  rcases this with rfl | rfl | rfl | rfl <;> exact ⟨by unfold Cmd.line Cmd.words; show tl _ ++ ([32] ++ nm) = _; rw [List.append_assoc]; rfl, rfl⟩
section
variable {P : Program} {w : World} {K : PySem.W.Frag} {mg : Str → Option Value} {base : Heap} {aN aO CD C : Addr}
theorem k_Desk (T : Txt K mg aN aO) (c : DeskC K CD) (F : InitAt K mg CD "Desk" "Desk.__init__" s_Desk_init__) : C8.Mak P w K mg base 1 "Desk" CD (spDeskInit K CD C) [] := by
  refine mak_of F sc_Desk_init__ b_Desk_init__ (fun vs H Q E h => ?_) (fun f cdv A outer s H vs Q E hr h => ?_)
  · obtain ⟨a, dx, rfl, _⟩ := h
    rfl
  · obtain ⟨a, dx, rfl, ha, hQ⟩ := h
    refine ⟨_, (pss_one (ps_fld (pv 0) pe_dnewK rfl)), ?_⟩
    intro d hd
    have hda : d ≠ a := (ne_of_none ha hd).symm
    refine ⟨_, rfl, a, CD, dx, _, rfl, by rw [upd_ne hda.symm]; exact ha, c.cls, c.na, by decide, ?_⟩
    refine hQ _ [a, d] (fun b o e hb => ?_) (fun b hb => ?_) ⟨dx, d, [], [], upd_same, by rw [upd_ne hda]; exact upd_same, .nil, rfl, by simp [hda.symm]⟩
    · rw [upd_ne hb, upd_ne (ne_of_none e hd)]
      exact e
    · rcases List.mem_cons.mp hb with e | hb
      · exact .inl e
      · exact .inr (by rw [List.mem_singleton.mp hb]; exact hd)
theorem k_law_answers (T : Txt K mg aN aO) (F : DefAt K mg "_law_answers" s_law_answers) (c_Desk_say : C8.Met P w K mg base 14 CD "say" (spSay K CD C) []) : C8.Cal P w K mg base 15 "_law_answers" (spAnswers K CD C) [] := by
  refine cal_of F sc_law_answers b_law_answers (fun vs H Q E h => ?_) (fun f cdv A outer s H vs Q E hr h => ?_)
  · obtain ⟨d, nm, ps, G, i, st, rfl, _⟩ := h
    rfl
  · obtain ⟨d, nm, ps, G, i, st, rfl, hD, ha, hl, hn, hi, fine, sm, hQ⟩ := h
    refine ⟨_, (pss_one (ps_ret (pe_lc (own := [("_law_word", 2)]) rfl sc_law_answers.nd (pi_list (pe_lst (pa_cons pe_str (pa_cons pe_str (pa_cons pe_str (pa_cons pe_str pa_nil)))))) (blkOk_by (own := [("_law_word", 2)]) (N := N_law_answers) (sc := defScope s_law_answers) (by decide +kernel)) (fun _ _ _ _ _ => (pg_name (i := 2) sc_law_answers.nd rfl (Or.inl rfl))) (fun _ _ _ _ _ => pts_nil) (fun _ _ _ _ _ => (C8.pe_mt c_Desk_say hr (by decide) (pv 0) (pa_cons (pe_op op_add_str (pe_op op_add_str (pv 2) pe_str) (pv 1)) pa_nil)))))), ?_⟩
    refine ⟨by show 4 ≤ sizeLine; decide, fun l hl0 => ?_⟩
    have n1 : Same H (upd H l (.lst [V.str ("told" : Str), .str ("free" : Str), .str ("ways" : Str), .str ("squares" : Str)])) := same_new hl0
    generalize q1 : upd H l (.lst [V.str ("told" : Str), .str ("free" : Str), .str ("ways" : Str), .str ("squares" : Str)]) = H1 at n1 ⊢
    have hl1 : H1 l = some (.lst (fourAsks.map fun a => V.str a.name)) := by rw [← q1]; exact upd_same
    have kindG := hD.kind
    have lG : ¬ l ∈ G := fun hm => by
      obtain ⟨o, e, _⟩ := kindG l hm
      rw [hl0] at e
      cases e
    refine ⟨l, rfl, ⟨_, SqL.of hl1⟩, fun D hD0 => lc_list (K := K) (a := l) (xs := fourAsks.map fun a => V.str a.name) (fun j H' => ∃ G', Fr G H G' H' ∧ DeskAt K CD C H' d ps G' ∧ ¬ D ∈ G' ∧ H' D = some (.lst ((fourAsks.take j).map fun a => V.str (S (a.ans st)))) ∧ ¬ l ∈ G' ∧ H' l = some (.lst (fourAsks.map fun a => V.str a.name)))
      ⟨G, (Fr.of n1).trans (Fr.of (same_new hD0)), (hD.same n1).same (same_new hD0), fun hm => ?_, upd_same, lG, same_new hD0 _ _ hl1⟩ (fun j H' _ hP => ?_) (fun j x H' hx hP => ?_) (fun H' hP => ?_)⟩
    · obtain ⟨o, e, _⟩ := kindG D hm
      rw [n1 _ _ e] at hD0
      cases hD0
    · obtain ⟨G', _, _, _, _, _, h6⟩ := hP
      exact SqL.of h6
    · have hD00 : H D = Option.none := n1.free hD0
      obtain ⟨G', f1, d1, D1, L1, l1, l2⟩ := hP
      rw [List.getElem?_map] at hx
      obtain ⟨ak, eak, rfl⟩ := Option.map_eq_some_iff.mp hx
      have am := List.mem_of_getElem? eak
      obtain ⟨ln, it0⟩ := four_line nm i ak am
      have aok : ak.ok st := by
        have : ak = .told ∨ ak = .free ∨ ak = .ways ∨ ak = .squares := by simpa [fourAsks] using am
        rcases this with rfl | rfl | rfl | rfl <;> exact True.intro
      obtain ⟨dx, bd, kvs, Fs, x0, _⟩ := id d1
      have tlen : ak.name.cps.toList.length ≤ 7 := (head_ok (Cmd.ask nm i ak)).2
      have en : V.str ak.name = V.str (S (tl ak.name)) := by rw [S_tl]
      refine ⟨rfl, ?_⟩
      refine ⟨_, rfl, d, dx, _, rfl, x0, rfl, _, rfl, ak.name, _, rfl, rfl, ?_, _, rfl, _, S nm, rfl, rfl, ?_, ?_⟩
      · rw [← S_tl ak.name, l_space, S_len, S_len, sizeLine_eq]
        show _ + 1 ≤ _
        omega
      · rw [← S_tl ak.name, l_space, S_cat, S_len, S_len, List.length_append, sizeLine_eq]
        have := hn.2.1
        show _ + 1 + _ ≤ _
        omega
      · refine ⟨d, ps, G', .ask nm i ak, ?_, d1, ⟨ha, hl, hn, fun z hz => ?_, st, hi, fine, sm, aok⟩, fun H2 G2 ps' ans f2 d2 does => ?_⟩
        · rw [ln, ← S_cat, ← S_cat, S_tl, l_space]
          rfl
        · rw [it0] at hz
          cases hz
        · cases does with
          | ask h =>
            rw [hi] at h
            cases Option.some.inj h
            have D2 := f2.keep D1 L1
            have nD2 : ¬ D ∈ G2 := fun hm => by
              rcases f2.n D hm with z | z
              · exact D1 z
              · rw [L1] at z; cases z
            have nl2 : ¬ l ∈ G2 := fun hm => by
              rcases f2.n l hm with z | z
              · exact l1 z
              · rw [l2] at z; cases z
            have hne : l ≠ D := fun e => by
              subst e
              rw [hl1] at hD0
              cases hD0
            have jl := (List.getElem?_eq_some_iff.mp eak).1
            have j4 : j < 4 := jl
            refine ⟨_, D2, len_small (by rw [List.length_map]; exact Nat.le_trans (List.length_take_le _ _) (by omega)), G2, (f1.trans f2).late hD00 (by rw [D2]; rfl), d2.put nD2 (by rw [D2]; rfl), nD2, ?_, nl2, by rw [upd_ne hne]; exact f2.keep l1 l2⟩
            rw [upd_same, take_more eak, List.map_append]
            rfl
    · obtain ⟨G', f1, d1, D1, L1, _, _⟩ := hP
      refine hQ _ _ _ f1 d1 (.lst (SqL.of (by rw [less_out D1]; exact L1)) ?_)
      show DpAll K _ [V.str _, .str _, .str _, .str _] [.str _, .str _, .str _, .str _]
      exact .cons (.str _) (.cons (.str _) (.cons (.str _) (.cons (.str _) .nil)))
end
end Np
end
section
set_option linter.all false
set_option maxRecDepth 100000
set_option maxHeartbeats 4000000
/-! The law's helpers: the plane beside. -/
namespace Np
open PySem PySem.Spec PyProof.Rows L2 SX
def encLK (q : Nat × Pt) : PyData := .list [.int (q.1 : Nat), encLP q.2]
def encLS (s : PS) : PyData := .list [.int (s.span : Nat), .list (s.kept.map encLK), .int (s.fresh : Nat)]
/-- a state of the law -/
structure SOk (s : PS) : Prop where
  n : s.kept.length ≤ 8
  m0 : 0 < s.span
  m3 : s.span ≤ 3
  pts : ∀ q, q ∈ s.kept → PtOk q.2 s.span
theorem SOk.small {s : PS} (h : SOk s) : Small (s.kept.map (·.2)) s.span :=
  ⟨h.m3, by rw [List.length_map]; exact h.n, fun p hp => by
    obtain ⟨q, hq, rfl⟩ := List.mem_map.mp hp
    exact (h.pts q hq).len, fun p hp => by
    obtain ⟨q, hq, rfl⟩ := List.mem_map.mp hp
    exact (h.pts q hq).row, fun p hp => by
    obtain ⟨q, hq, rfl⟩ := List.mem_map.mp hp
    exact (h.pts q hq).want, fun p hp => by
    obtain ⟨q, hq, rfl⟩ := List.mem_map.mp hp
    exact (h.pts q hq).wt⟩
/-- the points but one -/
def someUp (s : PS) (wo : Int) (i : Nat) : List Pt := ((s.kept.take i).zipIdx.filter fun q => decide ((q.2 : Int) ≠ wo)).map (·.1.2)
def someOf (s : PS) (wo : Int) : List Pt := someUp s wo s.kept.length
theorem someUp_succ {s : PS} {wo : Int} {i : Nat} {q : Nat × Pt} (h : s.kept[i]? = some q) : someUp s wo (i + 1) = someUp s wo i ++ (if (i : Int) ≠ wo then [q.2] else []) := by
  have hi := (List.getElem?_eq_some_iff.mp h).1
  unfold someUp
  rw [take_more h, List.zipIdx_append, List.filter_append, List.map_append, List.length_take, Nat.min_eq_left (by omega)]
  congr 1
  show ((List.filter _ [(q, 0 + i)]).map _) = _
  rw [Nat.zero_add]
  by_cases e : (i : Int) ≠ wo
  · rw [if_pos e, List.filter_cons, if_pos (decide_eq_true e)]
    rfl
  · rw [if_neg e, List.filter_cons, if_neg (by rw [decide_eq_false e]; decide)]
    rfl
theorem someUp_len (s : PS) (wo : Int) (i : Nat) : (someUp s wo i).length ≤ i := by
  unfold someUp
  rw [List.length_map]
  refine Nat.le_trans (List.length_filter_le _ _) ?_
  rw [List.length_zipIdx]
  exact List.length_take_le _ _
theorem someUp_mem {s : PS} {wo : Int} {i : Nat} {p : Pt} (h : p ∈ someUp s wo i) : ∃ q, q ∈ s.kept ∧ q.2 = p := by
  unfold someUp at h
  obtain ⟨⟨q, j⟩, hq, rfl⟩ := List.mem_map.mp h
  have h1 := (List.mem_filter.mp hq).1
  have h2 := List.fst_mem_of_mem_zipIdx h1
  exact ⟨q, List.mem_of_mem_take h2, rfl⟩
/-- all of them -/
theorem someOf_all (s : PS) : someOf s (-1) = s.kept.map (·.2) := by
  have : ∀ i, i ≤ s.kept.length → someUp s (-1) i = (s.kept.take i).map (·.2) := by
    intro i
    induction i with
    | zero => exact fun _ => rfl
    | succ i ih =>
      intro hi
      have e : s.kept[i]? = some s.kept[i] := List.getElem?_eq_getElem (by omega)
      rw [someUp_succ e, ih (by omega), take_more e, List.map_append, if_pos (by omega)]
      rfl
  have := this s.kept.length (Nat.le_refl _)
  rw [List.take_length] at this
  exact this
theorem someOf_erase (s : PS) (k : Nat) (hk : k < s.kept.length) : someOf s (k : Int) = (s.kept.map (·.2)).eraseIdx k := by
  have h1 : ∀ i, i ≤ k → someUp s (k : Int) i = (s.kept.take i).map (·.2) := by
    intro i
    induction i with
    | zero => exact fun _ => rfl
    | succ i ih =>
      intro hi
      have e : s.kept[i]? = some s.kept[i] := List.getElem?_eq_getElem (by omega)
      rw [someUp_succ e, ih (by omega), take_more e, List.map_append, if_pos (by omega)]
      rfl
  have h2 : ∀ j, k + 1 + j ≤ s.kept.length → someUp s (k : Int) (k + 1 + j) = (s.kept.take k).map (·.2) ++ ((s.kept.drop (k + 1)).take j).map (·.2) := by
    intro j
    induction j with
    | zero =>
      intro hj
      have e : s.kept[k]? = some s.kept[k] := List.getElem?_eq_getElem hk
      rw [Nat.add_zero, someUp_succ e, h1 k (Nat.le_refl _), if_neg (by simp), List.take_zero]
      rfl
    | succ j ih =>
      intro hj
      have e : s.kept[k + 1 + j]? = some s.kept[k + 1 + j] := List.getElem?_eq_getElem (by omega)
      have e2 : (s.kept.drop (k + 1))[j]? = some s.kept[k + 1 + j] := by rw [List.getElem?_drop, e]
      rw [← Nat.add_assoc, someUp_succ e, ih (by omega), if_pos (by omega), take_more e2, List.map_append, List.append_assoc]
      rfl
  have := h2 (s.kept.length - (k + 1)) (by omega)
  rw [show k + 1 + (s.kept.length - (k + 1)) = s.kept.length by omega] at this
  unfold someOf
  rw [this, List.eraseIdx_eq_take_drop_succ, ← List.map_take, ← List.map_drop]
  congr 2
  refine List.take_of_length_le ?_
  rw [List.length_drop]
  exact Nat.le_refl _
def rotOf (l : List Pt) (t : Nat) : List Pt := l.drop t ++ l.take t
theorem rot_perm (l : List Pt) (t : Nat) : (rotOf l t).Perm l := by
  unfold rotOf
  exact (List.perm_append_comm).trans (by rw [List.take_append_drop])
/-- plane two as it is laid -/
def twoAt (m : Nat) (l : List Pt) : Nat → Pl
  | 0 => (⟨m, [], 0⟩, [])
  | j + 1 => layOf (twoAt m l j) (l.getD j ⟨[], 0, 0⟩)
theorem twoAt_ok (m : Nat) (l : List Pt) : ∀ j, j ≤ l.length → (twoAt m l j).1.span = m ∧ (twoAt m l j).1.fresh = j ∧ (twoAt m l j).2.length = j ∧ ptsOf (twoAt m l j) = l.take j ∧ (∀ q, q ∈ (twoAt m l j).1.kept → q.1 < j) ∧ KeysApart (twoAt m l j).1.kept
  | 0, _ => ⟨rfl, rfl, rfl, rfl, (fun q hq => absurd hq List.not_mem_nil), List.nodup_nil⟩
  | j + 1, h => by
    obtain ⟨h1, h2, h3, h4, h5, h6⟩ := twoAt_ok m l j (by omega)
    have e : l[j]? = some l[j] := List.getElem?_eq_getElem (by omega)
    have eg : l.getD j ⟨[], 0, 0⟩ = l[j] := by rw [List.getD_eq_getElem?_getD, e]; rfl
    refine ⟨h1, by show (twoAt m l j).1.fresh + 1 = _; omega, ?_, ?_, fun q hq => ?_, ?_⟩
    · show ((twoAt m l j).2 ++ [_]).length = _
      rw [List.length_append, h3]
      rfl
    · show ((twoAt m l j).1.kept ++ [((twoAt m l j).1.fresh, l.getD j ⟨[], 0, 0⟩)]).map (·.2) = _
      rw [List.map_append, take_more e, eg]
      unfold ptsOf at h4
      rw [h4]
      rfl
    · have hq : q ∈ (twoAt m l j).1.kept ++ [((twoAt m l j).1.fresh, l.getD j ⟨[], 0, 0⟩)] := hq
      rcases List.mem_append.mp hq with hq | hq
      · have := h5 q hq; omega
      · rw [List.mem_singleton.mp hq]
        show (twoAt m l j).1.fresh < _
        omega
    · show (((twoAt m l j).1.kept ++ [((twoAt m l j).1.fresh, l.getD j ⟨[], 0, 0⟩)]).map (·.1)).Nodup
      rw [List.map_append]
      refine List.nodup_append.mpr ⟨h6, List.nodup_cons.mpr ⟨List.not_mem_nil, List.nodup_nil⟩, fun x hx y hy e => ?_⟩
      obtain ⟨q, hq, rfl⟩ := List.mem_map.mp hx
      have := h5 q hq
      have hy : y ∈ [(twoAt m l j).1.fresh] := hy
      rw [List.mem_singleton.mp hy] at e
      have e : q.1 = (twoAt m l j).1.fresh := e
      omega
def oneS : List Nat := [111, 110, 101]
def twoS : List Nat := [116, 119, 111]
theorem l_oneS : ("one" : Str) = S oneS := by decide +kernel
theorem l_twoS : ("two" : Str) = S twoS := by decide +kernel
theorem nm_one : Nm oneS := ⟨List.cons_ne_nil _ _, by decide, by decide⟩
theorem nm_two : Nm twoS := ⟨List.cons_ne_nil _ _, by decide, by decide⟩
/-- the law's desk: plane one, and two or none -/
def deskPs (st : Pl) : Option Pl → Ps
  | none => [(oneS, st)]
  | some st2 => [(oneS, st), (twoS, st2)]
theorem desk_apart (st : Pl) (o : Option Pl) : NamesApart (deskPs st o) ∧ (deskPs st o).length ≤ 10 ∧ (deskPs st o)[0]? = some (oneS, st) := by
  cases o with
  | none => exact ⟨by unfold NamesApart deskPs; simp, (show 1 ≤ 10 by decide), rfl⟩
  | some st2 => exact ⟨by unfold NamesApart deskPs; simp [oneS, twoS], (show 2 ≤ 10 by decide), rfl⟩
def spBeside (K : PySem.W.Frag) (CD C : Addr) : Sp := fun vs H Q _ => ∃ (d : Addr) (sv : V) (wo nu : Int) (st : Pl) (o : Option Pl) (G : List Addr), vs = [.ref d, sv, .int wo, .int nu] ∧ DeskAt K CD C H d (deskPs st o) G ∧ Dp K (less G H) sv (encLS st.1) ∧ SOk st.1 ∧
  ∀ H' G' st2 l, Fr G H G' H' → DeskAt K CD C H' d (deskPs st (some st2)) G' → l.Perm (someOf st.1 wo) → ptsOf st2 = l → st2.1.span = st.1.span → PlFine st2 → Q (.bl true) H'
end Np
end
section
set_option linter.all false
set_option maxRecDepth 100000
set_option maxHeartbeats 4000000
/-! The law's helpers: the plane beside, walked. -/
namespace Np
open PySem PySem.Spec PyProof.Rows L2 SX
abbrev N_law_beside : List Str := ["_law_desk", "_law_state", "_law_without", "_law_number", "_law_wide", "_law_points", "_law_fresh", "_law_some", "_law_turn", "_law_k", "_law_point_here", "_law_row"]
theorem sc_law_beside : FnScope ["_law_desk", "_law_state", "_law_without", "_law_number", "_law_wide", "_law_points", "_law_fresh", "_law_some", "_law_turn", "_law_k", "_law_point_here", "_law_row"] ["_law_desk", "_law_state", "_law_without", "_law_number"] (defScope s_law_beside) := ⟨rfl, rfl, rfl, by decide +kernel, rfl, by decide +kernel, by decide +kernel⟩
theorem b_law_beside : BindOk "_law_beside" "_law_beside" s_law_beside ["_law_desk", "_law_state", "_law_without", "_law_number"] := fun _ _ _ _ _ _ us hl => match us, hl with | [_, _, _, _], _ => rfl
theorem dp_ls {K : PySem.W.Frag} {H : Hp} {v : V} {s : PS} (h : Dp K H v (encLS s)) : ∃ a x, v = .ref a ∧ SqL K H a [.int (s.span : Nat), x, .int (s.fresh : Nat)] ∧ Dp K H x (.list (s.kept.map encLK)) := by
  obtain ⟨a, xs, rfl, hs, hd⟩ := dp_list h
  cases hd with
  | cons h1 r =>
    cases r with
    | cons h2 r =>
      cases r with
      | cons h3 r =>
        cases r
        cases dp_int h1
        cases dp_int h3
        exact ⟨a, _, rfl, hs, h2⟩
theorem dp_lk {K : PySem.W.Frag} {H : Hp} {v : V} {q : Nat × Pt} (h : Dp K H v (encLK q)) : ∃ a x, v = .ref a ∧ SqL K H a [.int (q.1 : Nat), x] ∧ Dp K H x (encLP q.2) := by
  obtain ⟨a, xs, rfl, hs, hd⟩ := dp_list h
  cases hd with
  | cons h1 r =>
    cases r with
    | cons h2 r =>
      cases r
      cases dp_int h1
      exact ⟨a, _, rfl, hs, h2⟩
theorem kept_get {K : PySem.W.Frag} {H : Hp} {xs : List V} {ks : Kept} {i : Nat} {v : V} (h : DpAll K H xs (ks.map encLK)) (hv : xs[i]? = some v) : ∃ q, ks[i]? = some q ∧ Dp K H v (encLK q) := by
  obtain ⟨d, h1, h2⟩ := h.get' hv
  rw [List.getElem?_map] at h1
  obtain ⟨q, e, rfl⟩ := Option.map_eq_some_iff.mp h1
  exact ⟨q, e, h2⟩
section
variable {P : Program} {w : World} {K : PySem.W.Frag} {mg : Str → Option Value} {base : Heap} {aN aO CD C : Addr}
theorem k_law_beside (T : Txt K mg aN aO) (F : DefAt K mg "_law_beside" s_law_beside) (c_Desk_say : C8.Met P w K mg base 14 CD "say" (spSay K CD C) []) (c_law_line : C8.Cal P w K mg base 3 "_law_line" (spLine K) []) : C8.Cal P w K mg base 15 "_law_beside" (spBeside K CD C) [] := by
  refine cal_of F sc_law_beside b_law_beside (fun vs H Q E h => ?_) (fun f cdv A outer s H vs Q E hr h => ?_)
  · obtain ⟨d, sv, wo, nu, st, o, G, rfl, _⟩ := h
    rfl
  · obtain ⟨d, sv, wo, nu, st, o, G, rfl, hD, hsv, ok, hQ⟩ := h
    have kindG := hD.kind
    have oknm := ok.n
    have om0 := ok.m0
    have om3 := ok.m3
    obtain ⟨a, pv0, rfl, ha, hpv⟩ := dp_ls hsv
    obtain ⟨pl, xs, rfl, hpl, hpd⟩ := dp_list hpv
    have hlen := hpd.length
    rw [List.length_map] at hlen
    have sub := less_sub G H
    refine ⟨_, (pss_cons (ps_asg (pv 1) (pg_unl rfl (pgs_cons (pg_name (i := 4) sc_law_beside.nd rfl (Or.inl rfl)) (pgs_cons (pg_name (i := 5) sc_law_beside.nd rfl (Or.inl rfl)) (pgs_cons (pg_name (i := 6) sc_law_beside.nd rfl (Or.inl rfl)) pgs_nil)))))
    (pss_cons (ps_setLc (i := 7) (own := [("_law_k", 9), ("_law_row", 11)]) rfl sc_law_beside.nd rfl rfl (sw_true rfl rfl rfl (by decide +kernel)) (pi_enum rfl T.enumerate (pa_cons (pv 5) pa_nil)) (blkOk_by (own := [("_law_k", 9), ("_law_row", 11)]) (N := N_law_beside) (sc := defScope s_law_beside) (by decide +kernel)) (fun _ _ _ _ _ => (pg_tupK (K := K) (n := 2) rfl rfl (pgs_cons (pg_name (i := 9) sc_law_beside.nd rfl (Or.inl rfl)) (pgs_cons (pg_name (i := 11) sc_law_beside.nd rfl (Or.inl rfl)) pgs_nil)))) (fun _ _ _ _ _ => (pts_one (pt_cmpR op_ne (pv 9) (pv 2) (nomark _)))) (fun _ _ _ _ _ => (pe_ix (ix_listK (K := K) rfl) (pv 11) pe_int (fun _ _ => rfl))))
    (pss_cons (ps_set (i := 8) sc_law_beside.nd rfl (Or.inl rfl) (pe_op op_mod (pv 3) (pe_callB (call_max2 rfl) rfl T.max (by decide +kernel) (pa_cons pe_int (pa_cons (pe_callB call_len_seq rfl T.len (by decide +kernel) (pa_cons (pv 7) pa_nil)) pa_nil)))))
    (pss_cons (ps_if (pt_cmpR op_ne (C8.pe_mt c_Desk_say hr (by decide) (pv 0) (pa_cons (pe_op op_add_str pe_str (pe_callTy call_str_int rfl T.str (by decide +kernel) (pa_cons (pv 4) pa_nil))) pa_nil)) pe_str (nomark _)) (pss_one (ps_ret pe_bl))
    pss_nil)
    (pss_cons (ps_for PassesOwn.never rfl (pi_enum rfl T.enumerate (pa_cons (pe_op op_cat (pe_slice sl_list (pv 7) (po_some (pv 8)) po_none) (pe_slice sl_list (pv 7) po_none (po_some (pv 8)))) pa_nil)) (pg_tup rfl (pgs_cons (pg_name (i := 9) sc_law_beside.nd rfl (Or.inl rfl)) (pgs_cons (pg_name (i := 10) sc_law_beside.nd rfl (Or.inl rfl)) pgs_nil)))
    (pss_one (ps_if (pt_cmpR op_ne (C8.pe_mt c_Desk_say hr (by decide) (pv 0) (pa_cons (C8.pe_c c_law_line hr (by decide) rfl (pa_cons pe_str (pa_cons (pv 10) pa_nil))) pa_nil)) (pe_callTy call_str_int rfl T.str (by decide +kernel) (pa_cons (pv 9) pa_nil)) (nomark _)) (pss_one (ps_ret pe_bl))
    pss_nil)))
    (pss_one (ps_ret pe_bl))))))), ?_⟩
    refine ⟨_, rfl, a, _, rfl, sub.seq ha, rfl, _, _, rfl, _, _, rfl, _, _, rfl, rfl, ?_⟩
    refine ⟨_, rfl, pl, xs, rfl, sub.seq hpl, fun D hD0 => lc_by (n := st.1.kept.length) (fun i H' => Same H H' ∧ ∃ ys, H' D = some (.lst ys) ∧ DpAll K (less G H) ys ((someUp st.1 wo i).map encLP))
      ⟨same_new hD0, [], upd_same, .nil⟩ (fun i H' hi hP => ?_) (fun Hc hP => ?_)⟩
    · obtain ⟨m1, ys, hL, hY⟩ := hP
      obtain ⟨v0, ev⟩ : ∃ v, xs[i]? = some v := ⟨_, List.getElem?_eq_getElem (by omega)⟩
      obtain ⟨q, eq, hq⟩ := kept_get hpd ev
      obtain ⟨b, u, rfl, hb, hu⟩ := dp_lk hq
      have hpl' := m1.seq (sub.seq hpl)
      refine ⟨⟨xs, _, hpl', ev⟩, fun v H1 hv => ?_⟩
      obtain ⟨t, x', rfl, ht, rfl, hx'⟩ := hv
      have ex := hx' xs hpl'
      rw [ev] at ex
      cases Option.some.inj ex
      have n1 : Same H' (upd H' t (.tup [.int (i : Nat), V.ref b])) := same_new ht
      refine ⟨t, _, rfl, SqT.of upd_same, rfl, _, _, rfl, _, _, rfl, rfl, rfl, ?_⟩
      generalize upd H' t (.tup [.int (i : Nat), V.ref b]) = H1 at n1 ⊢
      have m2 := m1.trans n1
      have yl := hY.length
      rw [List.length_map] at yl
      have sl := someUp_len st.1 wo i
      refine ⟨_, rfl, _, rfl, rfl, _, rfl, ?_⟩
      have e1 : (!decide (V.int ((i : Nat) : Int) = V.int wo)) = decide ((i : Int) ≠ wo) := by
        by_cases z : (i : Int) = wo
        · rw [decide_eq_true (by rw [z]), decide_eq_false (by simpa using z)]
          rfl
        · rw [decide_eq_false (fun e => z (V.int.inj e)), decide_eq_true (by simpa using z)]
          rfl
      rw [e1]
      by_cases z : (i : Int) ≠ wo
      · rw [decide_eq_true z]
        refine iteT ?_
        refine ⟨_, rfl, b, _, _, u, rfl, rfl, m2.seq (sub.seq hb), atI1, _, n1 _ _ hL, len_small (by omega), same_put m2 hD0, _, upd_same, ?_⟩
        rw [someUp_succ eq, if_pos z, List.map_append]
        exact hY.snoc hu
      · rw [decide_eq_false z]
        refine iteF ?_
        refine ⟨m2, ys, n1 _ _ hL, ?_⟩
        rw [someUp_succ eq, if_neg z, List.append_nil]
        exact hY
    · obtain ⟨m1, ys, hL, hY⟩ := hP
      have yl := hY.length
      rw [List.length_map] at yl
      have sl := someUp_len st.1 wo st.1.kept.length
      refine ⟨⟨xs, m1.seq (sub.seq hpl), by omega⟩, ?_⟩
      refine ⟨_, rfl, _, rfl, D, ys, rfl, .inl (SqL.of hL), _, _, rfl, _, _, rfl, rfl, ?_, ?_⟩
      · show (0 : Int) < (if ((ys.length : Nat) : Int) > 1 then ((ys.length : Nat) : Int) else 1)
        split <;> omega
      have hD0' := hD0
      obtain ⟨M, eM⟩ : ∃ M : Int, M = (if ((ys.length : Nat) : Int) > 1 then ((ys.length : Nat) : Int) else 1) := ⟨_, rfl⟩
      have M0 : 0 < M := by rw [eM]; split <;> omega
      rw [← eM]
      obtain ⟨t, et⟩ : ∃ t : Nat, nu % M = (t : Int) := ⟨(nu % M).toNat, by have := Int.emod_nonneg nu (show M ≠ 0 by omega); omega⟩
      have ev : (fun i j : Int => V.int (i % j)) nu M = V.int (t : Int) := congrArg V.int et
      rw [ev]
      have DG : ¬ D ∈ G := fun hm => by
        obtain ⟨u, e, _⟩ := kindG D hm
        rw [hD0] at e
        cases e
      have dk := hD.same m1
      obtain ⟨dx, bd, kvs, Fs, x0, _⟩ := id dk
      obtain ⟨na, nl, n0⟩ := desk_apart st o
      have sm : (numS ((st.1.span : Nat) : Int)).length ≤ 8 := by
        have := numS_len (i := (st.1.span : Nat)) (k := 7) (by rw [Int.natAbs_natCast]; omega) (by decide)
        omega
      have enum : Str.ofString (toString ((st.1.span : Nat) : Int)) = S (numS (st.1.span : Nat)) := num_text _
      have lpt : ("plane two " : Str) = S (tl "plane" ++ ([32] ++ (twoS ++ [32]))) := by decide +kernel
      refine ⟨_, rfl, d, dx, _, rfl, x0, rfl, _, rfl, _, rfl, ?_, _, _, rfl, rfl, ?_, ?_⟩
      · rw [Int.natAbs_natCast]
        exact (Nat.log2_lt (by omega)).mpr (Nat.lt_of_le_of_lt om3 (by decide))
      · show ("plane two " : Str).length + (Str.ofString (toString ((st.1.span : Nat) : Int))).length ≤ sizeLine
        rw [enum, lpt, S_len, S_len, sizeLine_eq]
        have : (tl "plane" ++ ([32] ++ (twoS ++ [32]))).length = 10 := by decide +kernel
        omega
      refine ⟨d, deskPs st o, G, .plane twoS st.1.span (match o with | none => none | some _ => some 1), ?_, dk, ⟨na, nl, nm_two, fun z hz => ?_, ?_⟩, fun H1 G1 ps' ans f1 d1 does => ?_⟩
      · show [V.ref d, V.str (("plane two " : Str) ++ Str.ofString (toString ((st.1.span : Nat) : Int)))] = _
        rw [enum, lpt, S_cat]
        congr 3
      · rw [List.mem_singleton.mp hz]
        exact ⟨om0, by omega⟩
      · cases o with
        | none =>
          intro q hq
          rw [List.mem_singleton.mp hq]
          show oneS ≠ twoS
          decide
        | some st2 => exact ⟨st2, rfl⟩
      cases does with
      | plane =>
        refine ⟨rfl, _, rfl, ?_⟩
        rw [show (!decide (V.str (S okS) = V.str ("ok" : Str))) = false from by rw [l_ok]; simp]
        refine iteF ?_
        have d1' : DeskAt K CD C H1 d (deskPs st (some (⟨st.1.span, [], 0⟩, []))) G1 := by
          cases o with
          | none => exact d1
          | some st2 => exact d1
        have D1 := f1.keep DG hL
        have fC : Fr G H G Hc := Fr.of m1
        have yG1 := dps_same (fC.s.trans f1.s) hY
        refine ⟨_, rfl, _, rfl, _, rfl, D, ys, rfl, SqL.of D1, fun p1 hp1 => ?_⟩
        rw [cut_suf]
        have s1 : Same H1 (upd H1 p1 (.lst (ys.drop t))) := same_new hp1
        have g1 : upd H1 p1 (.lst (ys.drop t)) p1 = some (.lst (ys.drop t)) := upd_same
        generalize upd H1 p1 (.lst (ys.drop t)) = H2 at s1 g1 ⊢
        refine ⟨_, rfl, _, rfl, _, rfl, D, ys, rfl, SqL.of (s1 _ _ D1), fun p2 hp2 => ?_⟩
        rw [cut_pre]
        have s2 : Same H2 (upd H2 p2 (.lst (ys.take t))) := same_new hp2
        have g2 : upd H2 p2 (.lst (ys.take t)) p2 = some (.lst (ys.take t)) := upd_same
        generalize upd H2 p2 (.lst (ys.take t)) = H3 at s2 g2 ⊢
        refine ⟨p1, p2, _, _, rfl, rfl, s2 _ _ g1, g2, Nat.le_of_lt (len_small (by rw [List.length_drop, List.length_take]; omega)), fun R hR => ?_⟩
        have s3 : Same H3 (upd H3 R (.lst (ys.drop t ++ ys.take t))) := same_new hR
        have g3 : upd H3 R (.lst (ys.drop t ++ ys.take t)) R = some (.lst (ys.drop t ++ ys.take t)) := upd_same
        generalize upd H3 R (.lst (ys.drop t ++ ys.take t)) = H4 at s3 g3 ⊢
        have s14 := s1.trans (s2.trans s3)
        have R1 : H1 R = Option.none := (s1.trans s2).free hR
        have RG : ¬ R ∈ G1 := fun hm => by
          obtain ⟨u, e, _⟩ := d1.kind R hm
          rw [R1] at e
          cases e
        have f14 := fC.trans (f1.trans (Fr.of s14))
        obtain ⟨L, eL⟩ : ∃ L, L = someUp st.1 wo st.1.kept.length := ⟨_, rfl⟩
        rw [← eL] at yG1
        have Llen : L.length ≤ 8 := by rw [eL]; omega
        have yR : DpAll K (less G1 H4) (ys.drop t ++ ys.take t) ((rotOf L t).map encLP) := by
          have := DpAll.append (yG1.drop t) (yG1.take t)
          unfold rotOf
          rw [List.map_append, List.map_drop, List.map_take]
          exact dps_same (Fr.of (F := G1) s14).s this
        have rp := rot_perm L t
        have rlen : (rotOf L t).length = L.length := rp.length_eq
        have rok : ∀ p, p ∈ rotOf L t → PtOk p st.1.span := fun p hp => by
          have := rp.mem_iff.mp hp
          rw [eL] at this
          obtain ⟨q, hq, rfl⟩ := someUp_mem this
          exact ok.pts q hq
        have rsl := yR.length
        rw [List.length_map] at rsl
        have fine : ∀ j, j ≤ (rotOf L t).length → PlFine (twoAt st.1.span (rotOf L t) j) := fun j hj => by
          obtain ⟨t1, t2, t3, t4, t5, t6⟩ := twoAt_ok st.1.span (rotOf L t) j hj
          have kn : (twoAt st.1.span (rotOf L t) j).1.kept.length = j := by
            have := congrArg List.length t4
            unfold ptsOf at this
            rw [List.length_map, List.length_take] at this
            omega
          refine ⟨by omega, by omega, t6, fun q hq => by rw [t2]; exact t5 q hq, fun q hq => ?_, by omega, by omega, by rw [t2]; exact Nat.lt_of_le_of_lt (show j ≤ 8 by omega) (by decide)⟩
          have : q.2 ∈ ptsOf (twoAt st.1.span (rotOf L t) j) := List.mem_map.mpr ⟨q, hq, rfl⟩
          rw [t4] at this
          rw [t1]
          exact (rok _ (List.mem_of_mem_take this)).len
        refine ⟨R, _, rfl, SqL.of g3, for_by (n := (rotOf L t).length) (fun j σ H' => ∃ G', Fr G H G' H' ∧ DeskAt K CD C H' d (deskPs st (some (twoAt st.1.span (rotOf L t) j))) G' ∧ ¬ R ∈ G' ∧ H' R = some (.lst (ys.drop t ++ ys.take t)) ∧ DpAll K (less G' H') (ys.drop t ++ ys.take t) ((rotOf L t).map encLP) ∧
            ∃ a1 a2 a4 a5 a6 a7 a8 a9 a10 a11 a3, σ = [some (V.ref d), a1, a2, a3, a4, a5, a6, a7, a8, a9, a10, a11])
          ⟨G1, f14, d1'.same s14, RG, g3, yR, _, _, _, _, _, _, _, _, _, _, _, rfl⟩ (fun j σ H' hj hP => ?_) (fun σ H' hP => ?_)⟩
        · obtain ⟨G', f', d', RG', R', yR', a1, a2, a4, a5, a6, a7, a8, a9, a10, a11, a3, rfl⟩ := hP
          obtain ⟨p, ep⟩ : ∃ p, (rotOf L t)[j]? = some p := ⟨_, List.getElem?_eq_getElem hj⟩
          obtain ⟨v0, ev0, hv0⟩ := yR'.get (i := j) (d := encLP p) (by rw [List.getElem?_map, ep]; rfl)
          have Rq : SqL K H' R (ys.drop t ++ ys.take t) := SqL.of R'
          refine ⟨⟨_, _, Rq, ev0⟩, fun v H5 hv => ?_⟩
          obtain ⟨T9, x', rfl, hT9, rfl, hx'⟩ := hv
          have ex := hx' _ Rq
          rw [ev0] at ex
          cases Option.some.inj ex
          have n9 : Same H' (upd H' T9 (.tup [.int (j : Nat), v0])) := same_new hT9
          refine ⟨T9, _, rfl, SqT.of upd_same, rfl, _, _, rfl, _, _, rfl, rfl, ?_⟩
          generalize upd H' T9 (.tup [.int (j : Nat), v0]) = H9 at n9 ⊢
          have d9 := d'.same n9
          obtain ⟨dx9, _, _, _, x9, _⟩ := id d9
          have pok := rok p (List.mem_of_getElem? ep)
          have hv9 : Dp K (less G' H9) v0 (encLP p) := dp_same (Fr.of (F := G') n9).s hv0
          obtain ⟨t1, t2, t3, t4, t5, t6⟩ := twoAt_ok st.1.span (rotOf L t) j (by omega)
          refine ⟨_, rfl, d, dx9, _, rfl, x9, rfl, _, rfl, twoS, v0, p, st.1.span, by rw [← l_twoS]; rfl, by decide, dp_same (less_sub _ _) hv9, pok, by omega, fun H10 n10 => ?_⟩
          obtain ⟨na2, nl2, _⟩ := desk_apart st (some (twoAt st.1.span (rotOf L t) j))
          have fw := pok.want.fine (by decide) (by decide) (by decide)
          have ft := pok.wt.1.fine (by decide) (by decide) (by decide)
          have plen := pok.len
          refine ⟨d, deskPs st (some (twoAt st.1.span (rotOf L t) j)), G', .deed twoS 1 (.lay p), rfl, d9.same n10, ⟨na2, nl2, nm_two, fun z hz => ?_, twoAt st.1.span (rotOf L t) j, rfl, fine j (by omega), by rw [t1]; exact pok.len, pok.wt.2⟩, fun H11 G11 ps' ans f11 d11 does => ?_⟩
          · rcases List.mem_cons.mp hz with rfl | hz
            · exact fw.1
            rcases List.mem_cons.mp hz with rfl | hz
            · exact ⟨fun e => by rw [e] at plen; have : (0 : Nat) = st.1.span := plen; omega, by omega, fun q hq => ((pok.row q hq).fine (by decide) (by decide) (by decide)).1⟩
            · rw [List.mem_singleton.mp hz]
              exact ft.1
          · cases does with
            | deed h =>
              cases Option.some.inj h
              have f9 : Fr G' H' G11 H11 := (Fr.of (n9.trans n10)).trans f11
              refine ⟨_, rfl, _, rfl, ?_, rfl, _, rfl, ?_⟩
              · rw [Int.natAbs_natCast]
                by_cases z : j = 0
                · rw [z]; decide
                · exact (Nat.log2_lt z).mpr (Nat.lt_of_le_of_lt (show j ≤ 8 by omega) (by decide))
              have ea : (Deed.lay p).ans (twoAt st.1.span (rotOf L t) j) = numS (j : Nat) := by
                show numS (((twoAt st.1.span (rotOf L t) j).1.fresh : Nat) : Int) = _
                rw [t2]
              have en : Str.ofString (toString ((j : Nat) : Int)) = S (numS (j : Nat)) := num_text _
              rw [show (!decide (V.str (S ((Deed.lay p).ans (twoAt st.1.span (rotOf L t) j))) = V.str (Str.ofString (toString ((j : Nat) : Int))))) = false from by rw [ea, en]; simp]
              refine iteF ?_
              have eg : (rotOf L t).getD j ⟨[], 0, 0⟩ = p := by rw [List.getD_eq_getElem?_getD, ep]; rfl
              have enx : twoAt st.1.span (rotOf L t) (j + 1) = (Deed.lay p).next (twoAt st.1.span (rotOf L t) j) := by
                show layOf _ _ = layOf _ _
                rw [eg]
              have R11 := f9.keep RG' R'
              have nR11 : ¬ R ∈ G11 := fun hm => by
                rcases f9.n R hm with z | z
                · exact RG' z
                · rw [R'] at z; cases z
              refine ⟨G11, f'.trans f9, ?_, nR11, R11, dps_same f9.s yR', _, _, _, _, _, _, _, _, _, _, _, rfl⟩
              rw [enx]
              exact d11
        · obtain ⟨G', f', d', RG', R', yR', a1, a2, a4, a5, a6, a7, a8, a9, a10, a11, a3, rfl⟩ := hP
          obtain ⟨t1, t2, t3, t4, t5, t6⟩ := twoAt_ok st.1.span (rotOf L t) _ (Nat.le_refl _)
          rw [List.take_length] at t4
          refine ⟨⟨_, SqL.of R', by omega⟩, hQ _ _ _ (rotOf L t) f' d' (by unfold someOf; rw [← eL]; exact rp) t4 t1 (fine _ (Nat.le_refl _))⟩
end
end Np
end
section
set_option linter.all false
set_option maxRecDepth 100000
set_option maxHeartbeats 4000000
/-! The law's deeds: the plain part. -/
namespace Np
open PySem PySem.Spec PyProof.Rows L2 SX
theorem thing_cd (n : Int) : Cd 6 (2 ^ 6) (thingOf n) := by
  have hb : -6 ≤ n % 13 - 6 ∧ n % 13 - 6 ≤ 6 := by omega
  unfold thingOf
  generalize n % 13 - 6 = a at hb
  rcases den_cases n with e | e | e <;> rw [e]
  · refine ⟨a * 6, ?_, by omega⟩
    rw [Rat.divInt_eq_div]
    push_cast
    grind
  · refine ⟨a * 3, ?_, by omega⟩
    rw [Rat.divInt_eq_div]
    push_cast
    grind
  · refine ⟨a * 2, ?_, by omega⟩
    rw [Rat.divInt_eq_div]
    push_cast
    grind
theorem wt_cd (n : Int) : Cd 3 (2 ^ 3) (wtOf n) ∧ 0 < wtOf n := by
  unfold wtOf
  have h : (n / 7 % 4).toNat < 4 := by omega
  generalize (n / 7 % 4).toNat = j at h
  match j, h with
  | 0, _ => exact ⟨⟨3, by decide +kernel, by decide⟩, by decide +kernel⟩
  | 1, _ => exact ⟨⟨3, by decide +kernel, by decide⟩, by decide +kernel⟩
  | 2, _ => exact ⟨⟨6, by decide +kernel, by decide⟩, by decide +kernel⟩
  | 3, _ => exact ⟨⟨1, by decide +kernel, by decide⟩, by decide +kernel⟩
theorem point_ok (n : Int) (m : Nat) : PtOk (pointOf n m) m :=
  ⟨by show ((List.range m).map _).length = m; rw [List.length_map, List.length_range], fun x hx => by
    obtain ⟨j, _, rfl⟩ := List.mem_map.mp hx
    exact thing_cd _, thing_cd _, wt_cd n⟩
def colOf (more : Int) (len : Nat) : Row := (List.range len).map fun k => thingOf (mixedOf more (20 + k))
theorem col_len (more : Int) (len : Nat) : (colOf more len).length = len := by
  unfold colOf
  rw [List.length_map, List.length_range]
/-- a state of the law, its sizes -/
structure SInv (s : PS) (b : Nat) : Prop where
  n : s.kept.length ≤ b
  f : s.fresh ≤ b
  m0 : 0 < s.span
  m3 : s.span ≤ 3
  pts : ∀ q, q ∈ s.kept → PtOk q.2 s.span
  apart : KeysApart s.kept
  low : ∀ q, q ∈ s.kept → q.1 < s.fresh
structure LInv (st : Pl) (b : Nat) : Prop where
  s : SInv st.1 b
  t : st.2.length ≤ b
  all : ∀ s, s ∈ st.2 → ∃ c, c ≤ b ∧ SInv s c
def deedAt (st : Pl) (n : Int) : Nat := (n / 6 % (st.1.kept.length : Int)).toNat
def deedOf (st : Pl) (n : Int) : Pl :=
  if n % 6 < 2 then layOf st (pointOf (n / 6) st.1.span)
  else if n % 6 = 2 ∧ 1 < st.1.kept.length then (⟨st.1.span, st.1.kept.eraseIdx (deedAt st n), st.1.fresh⟩, st.2 ++ [st.1])
  else if n % 6 = 3 ∧ st.1.span < 3 then widOf st (colOf (n / 6) st.1.kept.length)
  else if n % 6 = 4 ∧ 1 < st.1.span then narOf st
  else st
theorem dropPt_erase : ∀ {ks : Kept} {i n : Nat} {q : Pt}, KeysApart ks → ks[i]? = some (n, q) → dropPt ks n = ks.eraseIdx i
  | [], _, _, _, _, h => by cases h
  | (k, p) :: ks, 0, n, q, ha, h => by
    cases Option.some.inj h
    have ha' := List.nodup_cons.mp ha
    unfold dropPt
    rw [List.filter_cons, if_neg (by simp)]
    show _ = ks
    refine List.filter_eq_self.mpr fun x hx => decide_eq_true fun e => ha'.1 ?_
    rw [← e]
    exact List.mem_map.mpr ⟨x, hx, rfl⟩
  | (k, p) :: ks, i + 1, n, q, ha, h => by
    have ha' := List.nodup_cons.mp ha
    have hne : k ≠ n := fun e => ha'.1 (by
      rw [e]
      exact List.mem_map.mpr ⟨(n, q), List.mem_of_getElem? (show ks[i]? = some (n, q) from h), rfl⟩)
    have ih := dropPt_erase (ks := ks) (i := i) ha'.2 h
    unfold dropPt at ih ⊢
    rw [List.filter_cons, if_pos (decide_eq_true hne), ih]
    rfl
theorem SInv.ok {s : PS} {b : Nat} (h : SInv s b) (hb : b ≤ 8) : SOk s := ⟨Nat.le_trans h.n hb, h.m0, h.m3, h.pts⟩
theorem LInv.fine {st : Pl} {b : Nat} (h : LInv st b) (hb : b ≤ 8) : PlFine st :=
  ⟨Nat.le_trans h.s.n (by omega), Nat.le_trans h.t (by omega), h.s.apart, h.s.low, fun q hq => (h.s.pts q hq).len, h.s.m0, Nat.le_trans h.s.m3 (by decide), Nat.lt_of_le_of_lt (Nat.le_trans h.s.f hb) (by decide)⟩
theorem SInv.mono {s : PS} {b c : Nat} (h : SInv s b) (hb : b ≤ c) : SInv s c := ⟨Nat.le_trans h.n hb, Nat.le_trans h.f hb, h.m0, h.m3, h.pts, h.apart, h.low⟩
theorem push_all {st : Pl} {b : Nat} (h : LInv st b) : ∀ s, s ∈ st.2 ++ [st.1] → ∃ c, c ≤ b + 1 ∧ SInv s c := fun s hs => by
  rcases List.mem_append.mp hs with hs | hs
  · obtain ⟨c, hc, i⟩ := h.all s hs
    exact ⟨c, by omega, i⟩
  · rw [List.mem_singleton.mp hs]
    exact ⟨b, by omega, h.s⟩
theorem push_len {st : Pl} {b : Nat} (h : LInv st b) : (st.2 ++ [st.1]).length ≤ b + 1 := by
  rw [List.length_append]
  have := h.t
  show _ + 1 ≤ _
  omega
theorem mix_mem {f : Nat → Pt → Pt} {ks : Kept} {q : Nat × Pt} (h : q ∈ mixK f ks ks.length) : ∃ j p, ks[j]? = some p ∧ q = (p.1, f j p.2) := by
  obtain ⟨j, hj⟩ := List.mem_iff_getElem?.mp h
  rw [mixK_get] at hj
  obtain ⟨p, hp, e⟩ := Option.map_eq_some_iff.mp hj
  have := (List.getElem?_eq_some_iff.mp hp).1
  rw [if_pos this] at e
  exact ⟨j, p, hp, e.symm⟩
theorem lay_inv {st : Pl} {b : Nat} (h : LInv st b) {p : Pt} (hp : PtOk p st.1.span) : LInv (layOf st p) (b + 1) := by
  refine ⟨⟨?_, Nat.succ_le_succ h.s.f, h.s.m0, h.s.m3, fun q hq => ?_, ?_, fun q hq => ?_⟩, push_len h, push_all h⟩
  · show (st.1.kept ++ [_]).length ≤ _
    rw [List.length_append]
    have := h.s.n
    show _ + 1 ≤ _
    omega
  · rcases List.mem_append.mp hq with hq | hq
    · exact h.s.pts q hq
    · rw [List.mem_singleton.mp hq]
      exact hp
  · show ((st.1.kept ++ [(st.1.fresh, p)]).map (·.1)).Nodup
    rw [List.map_append]
    refine List.nodup_append.mpr ⟨h.s.apart, List.nodup_cons.mpr ⟨List.not_mem_nil, List.nodup_nil⟩, fun x hx y hy e => ?_⟩
    obtain ⟨q, hq, rfl⟩ := List.mem_map.mp hx
    have := h.s.low q hq
    have hy : y ∈ [st.1.fresh] := hy
    rw [List.mem_singleton.mp hy] at e
    have e : q.1 = st.1.fresh := e
    omega
  · show q.1 < st.1.fresh + 1
    rcases List.mem_append.mp hq with hq | hq
    · have := h.s.low q hq
      omega
    · rw [List.mem_singleton.mp hq]
      exact Nat.lt_succ_self _
theorem take_inv {st : Pl} {b : Nat} (h : LInv st b) (i : Nat) : LInv (⟨st.1.span, st.1.kept.eraseIdx i, st.1.fresh⟩, st.2 ++ [st.1]) (b + 1) := by
  have hm : ∀ q, q ∈ st.1.kept.eraseIdx i → q ∈ st.1.kept := fun q hq => List.mem_of_mem_eraseIdx hq
  refine ⟨⟨?_, Nat.le_succ_of_le h.s.f, h.s.m0, h.s.m3, fun q hq => h.s.pts q (hm q hq), ?_, fun q hq => h.s.low q (hm q hq)⟩, push_len h, push_all h⟩
  · exact Nat.le_trans (List.length_eraseIdx_le ..) (Nat.le_succ_of_le h.s.n)
  · show ((st.1.kept.eraseIdx i).map (·.1)).Nodup
    rw [← erase_map]
    exact (List.eraseIdx_sublist _ _).nodup h.s.apart
theorem wid_inv {st : Pl} {b : Nat} (h : LInv st b) {c : Row} (hc : ∀ x, x ∈ c → Cd 6 (2 ^ 6) x) (h3 : st.1.span < 3) : LInv (widOf st c) (b + 1) := by
  refine ⟨⟨?_, Nat.le_succ_of_le h.s.f, Nat.succ_pos _, h3, fun q hq => ?_, ?_, fun q hq => ?_⟩, push_len h, push_all h⟩
  · show (mixK (widP c) st.1.kept st.1.kept.length).length ≤ _
    rw [mixK_len]
    exact Nat.le_succ_of_le h.s.n
  · obtain ⟨j, p, hp, rfl⟩ := mix_mem hq
    have ok := h.s.pts p (List.mem_of_getElem? hp)
    refine ⟨?_, fun x hx => ?_, ok.want, ok.wt⟩
    · show (p.2.row ++ [_]).length = st.1.span + 1
      rw [List.length_append, ok.len]
      rfl
    · have hx : x ∈ p.2.row ++ [c.getD j 0] := hx
      rcases List.mem_append.mp hx with hx | hx
      · exact ok.row x hx
      · rw [List.mem_singleton.mp hx]
        exact cd_getD hc j
  · show ((mixK (widP c) st.1.kept st.1.kept.length).map (·.1)).Nodup
    rw [mixK_keys]
    exact h.s.apart
  · obtain ⟨j, p, hp, rfl⟩ := mix_mem hq
    exact h.s.low p (List.mem_of_getElem? hp)
theorem nar_inv {st : Pl} {b : Nat} (h : LInv st b) (h1 : 1 < st.1.span) : LInv (narOf st) (b + 1) := by
  have m3 := h.s.m3
  refine ⟨⟨?_, Nat.le_succ_of_le h.s.f, by show 0 < st.1.span - 1; omega, by show st.1.span - 1 ≤ 3; omega, fun q hq => ?_, ?_, fun q hq => ?_⟩, push_len h, push_all h⟩
  · show (mixK (fun _ => narP) st.1.kept st.1.kept.length).length ≤ _
    rw [mixK_len]
    exact Nat.le_succ_of_le h.s.n
  · obtain ⟨j, p, hp, rfl⟩ := mix_mem hq
    have ok := h.s.pts p (List.mem_of_getElem? hp)
    refine ⟨?_, fun x hx => ok.row x (List.mem_of_mem_take hx), ok.want, ok.wt⟩
    show (p.2.row.take (p.2.row.length - 1)).length = st.1.span - 1
    rw [List.length_take, ok.len]
    omega
  · show ((mixK (fun _ => narP) st.1.kept st.1.kept.length).map (·.1)).Nodup
    rw [mixK_keys]
    exact h.s.apart
  · obtain ⟨j, p, hp, rfl⟩ := mix_mem hq
    exact h.s.low p (List.mem_of_getElem? hp)
theorem col_cd (more : Int) (len : Nat) : ∀ x, x ∈ colOf more len → Cd 6 (2 ^ 6) x := fun x hx => by
  obtain ⟨j, _, rfl⟩ := List.mem_map.mp hx
  exact thing_cd _
theorem deed_inv {st : Pl} {b : Nat} (h : LInv st b) (n : Int) : LInv (deedOf st n) (b + 1) := by
  unfold deedOf
  split
  · exact lay_inv h (point_ok _ _)
  split
  · exact take_inv h _
  split
  · rename_i z
    exact wid_inv h (col_cd _ _) z.2
  split
  · rename_i z
    exact nar_inv h z.2
  · refine ⟨h.s.mono (Nat.le_succ _), Nat.le_succ_of_le h.t, fun s hs => ?_⟩
    obtain ⟨c, hc, i⟩ := h.all s hs
    exact ⟨c, by omega, i⟩
end Np
end
section
set_option linter.all false
set_option maxRecDepth 100000
set_option maxHeartbeats 4000000
/-! list + list, both known by their items. -/
namespace Np
open PySem PySem.Spec PyProof.Rows L2 SX
def rCatL (K : PySem.W.Frag) : R2 := fun x y H Q => ∃ l b xs zs, x = .ref l ∧ y = .ref b ∧ SqL K H l xs ∧ SqL K H b zs ∧ xs.length + zs.length ≤ sizeLine ∧ ∀ p, H p = none → Q (.ref p) (upd H p (.lst (xs ++ zs)))
theorem op_catL {X : Cx} : OpR X (binaryOp .Add) (rCatL X.K) := by
  intro pins s σ H x y v u Q I rx ry h
  obtain ⟨l, b, xs, zs, rfl, rfl, hH, hB, hz, q⟩ := h
  cases rx
  cases ry
  obtain ⟨its, r, hl, _⟩ := I.list hH
  obtain ⟨its2, r2, hl2, _⟩ := I.list hB
  obtain ⟨⟨cls, dd, data, sl⟩, n, ho, hc, hd0, hd⟩ := hl
  obtain ⟨⟨cls2, dd2, data2, sl2⟩, n2, ho2, hc2, hd02, hd2⟩ := hl2
  simp only at hc hd hc2 hd2 hd0 hd02
  subst hc hd hc2 hd2
  have l1 := r.length
  have l2 := r2.length
  have e : its.toArray ++ its2.toArray = (its ++ its2).toArray := by simp
  refine concat_meets ⟨_, ho, rfl⟩ ⟨_, ho2, rfl⟩ noFill_list_add seq_list_add PySem.F.slot_list_add PySem.F.entry_list_add (PySem.F.args_list_add_2 _ _) (list_addW l b its.toArray its2.toArray n n2 dd dd2 sl sl2 (by rw [List.size_toArray, List.size_toArray]; omega)) ⟨ho, ho2, ?_⟩
  rw [e]
  exact ⟨.ref _, _, I.lnew (t' := s.toks) (r.append r2) (by rw [List.length_append]; omega), rfl, q _ I.fresh⟩
end Np
end
section
set_option linter.all false
set_option maxRecDepth 100000
set_option maxHeartbeats 4000000
/-! The law's deeds, walked. -/
namespace Np
open PySem PySem.Spec PyProof.Rows L2 SX
def spDeed (K : PySem.W.Frag) (CD C : Addr) : Sp := fun vs H Q _ => ∃ (d : Addr) (sv : V) (n : Int) (st : Pl) (o : Option Pl) (G : List Addr) (b : Nat), vs = [.ref d, sv, .int n] ∧ DeskAt K CD C H d (deskPs st o) G ∧ Dp K (less G H) sv (encLS st.1) ∧ LInv st b ∧ b ≤ 7 ∧ 0 ≤ n ∧ n.natAbs < 2 ^ 200 ∧ (st.1.kept ≠ [] ∨ n % 6 < 2) ∧
  ∀ H' G' v, Fr G H G' H' → DeskAt K CD C H' d (deskPs (deedOf st n) o) G' → Dp K (less G' H') v (encLS (deedOf st n).1) → Q v H'
abbrev N_law_deed : List Str := ["_law_desk", "_law_state", "_law_number", "_law_wide", "_law_points", "_law_fresh", "_law_kind", "_law_more", "_law_point_here", "_law_at", "_law_column", "_law_some", "_law_k", "_law_row"]
theorem sc_law_deed : FnScope ["_law_desk", "_law_state", "_law_number", "_law_wide", "_law_points", "_law_fresh", "_law_kind", "_law_more", "_law_point_here", "_law_at", "_law_column", "_law_some", "_law_k", "_law_row"] ["_law_desk", "_law_state", "_law_number"] (defScope s_law_deed) := ⟨rfl, rfl, rfl, by decide +kernel, rfl, by decide +kernel, by decide +kernel⟩
theorem b_law_deed : BindOk "_law_deed" "_law_deed" s_law_deed ["_law_desk", "_law_state", "_law_number"] := fun _ _ _ _ _ _ us hl => match us, hl with | [_, _, _], _ => rfl
theorem tp_less {G : List Addr} {H : Hp} (k : ∀ b, b ∈ G → isT (H b) = false) : Same (tp H) (less G H) := fun b o e => by
  obtain ⟨h1, h2⟩ := tp_some e
  rw [less_out (fun m => by rw [k b m] at h2; cases h2)]
  exact h1
theorem less_cons (a : Addr) (F : List Addr) (H : Hp) : Same (less (a :: F) H) (less F H) := fun b o e => by
  by_cases h : b ∈ a :: F
  · rw [less_in h] at e
    cases e
  · rw [less_out h] at e
    rw [less_out fun m => h (List.mem_cons_of_mem _ m)]
    exact e
theorem less_new {F : List Addr} {H H' : Hp} {a : Addr} (s : Same H H') (h : H a = Option.none) : Same (less F H) (less (a :: F) H') := fun b o e => by
  have hb := less_sub _ _ _ _ e
  have hF : ¬ b ∈ F := fun m => by
    rw [less_in m] at e
    cases e
  rw [less_out fun m => by
    rcases List.mem_cons.mp m with rfl | m
    · rw [h] at hb
      cases hb
    · exact hF m]
  exact s _ _ hb
theorem less_upd {F : List Addr} {H : Hp} {a : Addr} {o : HO} (h : a ∈ F) : less F (upd H a o) = less F H := by
  funext b
  by_cases q : b ∈ F
  · rw [less_in q, less_in q]
  · rw [less_out q, less_out q, upd_ne fun e => q (by rw [e]; exact h)]
theorem less_grow {F : List Addr} {H H' : Hp} (s : Same H H') : Same (less F H) (less F H') := (Fr.of s).s
section
variable {P : Program} {w : World} {K : PySem.W.Frag} {mg : Str → Option Value} {base : Heap} {aN aO CD C : Addr}
theorem k_law_deed (T : Txt K mg aN aO) (F : DefAt K mg "_law_deed" s_law_deed) (c_Desk_say : C8.Met P w K mg base 14 CD "say" (spSay K CD C) []) (c_law_line : C8.Cal P w K mg base 3 "_law_line" (spLine K) []) (c_law_point : C8.Cal P w K mg base 3 "_law_point" (spPoint K) [])
    (c_law_thing : C8.Cal P w K mg base 2 "_law_thing" (spThing K) []) (c_law_mixed : C8.Cal P w K mg base 1 "_law_mixed" spMixed []) (c_law_row_text : C8.Cal P w K mg base 2 "_law_row_text" (spShownRow K) []) : C8.Cal P w K mg base 15 "_law_deed" (spDeed K CD C) [] := by
  refine cal_of F sc_law_deed b_law_deed (fun vs H Q E h => ?_) (fun f cdv A outer s H vs Q E hr h => ?_)
  · obtain ⟨d, sv, n, st, o, G, b, rfl, _⟩ := h
    rfl
  · obtain ⟨d, sv, n, st, o, G, b, rfl, hD, hsv, inv, hb, hn0, hn, hk, hQ⟩ := h
    have ok := inv.s.ok (by omega)
    have fine := inv.fine (by omega)
    have kindG := hD.kind
    obtain ⟨a, pv0, rfl, ha, hpv⟩ := dp_ls hsv
    obtain ⟨pl, xs, rfl, hpl, hpd⟩ := dp_list hpv
    have hlen := hpd.length
    rw [List.length_map] at hlen
    have sub := less_sub G H
    refine ⟨_, (pss_cons (ps_asg (pv 1) (pg_unl rfl (pgs_cons (pg_name (i := 3) sc_law_deed.nd rfl (Or.inl rfl)) (pgs_cons (pg_name (i := 4) sc_law_deed.nd rfl (Or.inl rfl)) (pgs_cons (pg_name (i := 5) sc_law_deed.nd rfl (Or.inl rfl)) pgs_nil)))))
    (pss_cons (ps_set (i := 6) sc_law_deed.nd rfl (Or.inl rfl) (pe_op op_mod (pv 2) pe_int))
    (pss_cons (ps_set (i := 7) sc_law_deed.nd rfl (Or.inr rfl) (pe_op op_fdivW (pv 2) pe_int))
    (pss_cons (ps_if (pt_cmpR op_lt (pv 6) pe_int (nomark _)) (pss_cons (ps_set (i := 8) sc_law_deed.nd rfl (Or.inl rfl) (C8.pe_c c_law_point hr (by decide) rfl (pa_cons (pv 7) (pa_cons (pv 3) pa_nil))))
    (pss_cons (ps_if (pt_cmpR op_ne (C8.pe_mt c_Desk_say hr (by decide) (pv 0) (pa_cons (C8.pe_c c_law_line hr (by decide) rfl (pa_cons pe_str (pa_cons (pv 8) pa_nil))) pa_nil)) (pe_callTy call_str_int rfl T.str (by decide +kernel) (pa_cons (pv 5) pa_nil)) (nomark _)) (pss_one (ps_ret pe_non))
    pss_nil)
    (pss_one (ps_ret (pe_lst (pa_cons (pv 3) (pa_cons (pe_op op_catL (pv 4) (pe_lst (pa_cons (pe_lst (pa_cons (pv 5) (pa_cons (pv 8) pa_nil))) pa_nil))) (pa_cons (pe_op op_add (pv 5) pe_int) pa_nil))))))))
    pss_nil)
    (pss_cons (ps_if (PW.pt (pw_and (pt_cmpR op_eq (pv 6) pe_int (nomark _)) (pw_and1 (pt_cmpR op_gt (pe_callB call_len_seq rfl T.len (by decide +kernel) (pa_cons (pv 4) pa_nil)) pe_int (nomark _))))) (pss_cons (ps_set (i := 9) sc_law_deed.nd rfl (Or.inl rfl) (pe_op op_mod (pv 7) (pe_callB call_len_seq rfl T.len (by decide +kernel) (pa_cons (pv 4) pa_nil))))
    (pss_cons (ps_if (pt_cmpR op_ne (C8.pe_mt c_Desk_say hr (by decide) (pv 0) (pa_cons (pe_op op_add_str pe_str (pe_callTy call_str_int rfl T.str (by decide +kernel) (pa_cons (pe_ix ix_list (pe_ix ix_list (pv 4) (pv 9) (fun _ _ => rfl)) pe_int (fun _ _ => rfl)) pa_nil))) pa_nil)) pe_str (nomark _)) (pss_one (ps_ret pe_non))
    pss_nil)
    (pss_one (ps_ret (pe_lst (pa_cons (pv 3) (pa_cons (pe_op op_catL (pe_slice sl_list (pv 4) po_none (po_some (pv 9))) (pe_slice sl_list (pv 4) (po_some (pe_op op_add (pv 9) pe_int)) po_none)) (pa_cons (pv 5) pa_nil))))))))
    pss_nil)
    (pss_cons (ps_if (PW.pt (pw_and (pt_cmpR op_eq (pv 6) pe_int (nomark _)) (pw_and1 (pt_cmpR op_lt (pv 3) pe_int (nomark _))))) (pss_cons (ps_setLc (i := 10) (own := [("_law_k", 12)]) rfl sc_law_deed.nd rfl rfl (sw_true rfl rfl rfl (by decide +kernel)) (pi_range1 rfl T.range (pa_cons (pe_callB call_len_seq rfl T.len (by decide +kernel) (pa_cons (pv 4) pa_nil)) pa_nil)) (blkOk_by (own := [("_law_k", 12)]) (N := N_law_deed) (sc := defScope s_law_deed) (by decide +kernel)) (fun _ _ _ _ _ => (pg_name (i := 12) sc_law_deed.nd rfl (Or.inl rfl))) (fun _ _ _ _ _ => pts_nil) (fun _ _ _ _ _ => (C8.pe_c c_law_thing hr (by decide) rfl (pa_cons (C8.pe_c c_law_mixed hr (by decide) rfl (pa_cons (pv 7) (pa_cons (pe_op op_add pe_int (pv 12)) pa_nil))) pa_nil))))
    (pss_cons (ps_if (pt_cmpR op_ne (C8.pe_mt c_Desk_say hr (by decide) (pv 0) (pa_cons (pe_op op_add_str pe_str (C8.pe_c c_law_row_text hr (by decide) rfl (pa_cons (pv 10) pa_nil))) pa_nil)) pe_str (nomark _)) (pss_one (ps_ret pe_non))
    pss_nil)
    (pss_cons (ps_set (i := 11) sc_law_deed.nd rfl (Or.inl rfl) (pe_lst pa_nil))
    (pss_cons (ps_for PassesOwn.never rfl (pi_enum rfl T.enumerate (pa_cons (pv 4) pa_nil)) (pg_tup rfl (pgs_cons (pg_name (i := 12) sc_law_deed.nd rfl (Or.inl rfl)) (pgs_cons (pg_name (i := 13) sc_law_deed.nd rfl (Or.inl rfl)) pgs_nil)))
    (pss_one (ps_expr (pe_bm PySem.F.plainAttrs_list PySem.F.slot_list_append PySem.F.type_list_append mt_append (pv 11) (pa_cons (pe_lst (pa_cons (pe_ix ix_list (pv 13) pe_int (fun _ _ => rfl)) (pa_cons (pe_lst (pa_cons (pe_op op_catL (pe_ix ix_list (pe_ix ix_list (pv 13) pe_int (fun _ _ => rfl)) pe_int (fun _ _ => rfl)) (pe_lst (pa_cons (pe_ix ix_list (pv 10) (pv 12) (fun _ _ => rfl)) pa_nil))) (pa_cons (pe_ix ix_list (pe_ix ix_list (pv 13) pe_int (fun _ _ => rfl)) pe_int (fun _ _ => rfl)) (pa_cons (pe_ix ix_list (pe_ix ix_list (pv 13) pe_int (fun _ _ => rfl)) pe_int (fun _ _ => rfl)) pa_nil)))) pa_nil))) pa_nil)))))
    (pss_one (ps_ret (pe_lst (pa_cons (pe_op op_add (pv 3) pe_int) (pa_cons (pv 11) (pa_cons (pv 5) pa_nil))))))))))
    pss_nil)
    (pss_cons (ps_if (PW.pt (pw_and (pt_cmpR op_eq (pv 6) pe_int (nomark _)) (pw_and1 (pt_cmpR op_gt (pv 3) pe_int (nomark _))))) (pss_cons (ps_if (pt_cmpR op_ne (C8.pe_mt c_Desk_say hr (by decide) (pv 0) (pa_cons pe_str pa_nil)) pe_str (nomark _)) (pss_one (ps_ret pe_non))
    pss_nil)
    (pss_one (ps_ret (pe_lst (pa_cons (pe_op op_sub (pv 3) pe_int) (pa_cons (pe_lc (own := [("_law_row", 13)]) rfl sc_law_deed.nd (pi_list (pv 4)) (blkOk_by (own := [("_law_row", 13)]) (N := N_law_deed) (sc := defScope s_law_deed) (by decide +kernel)) (fun _ _ _ _ _ => (pg_name (i := 13) sc_law_deed.nd rfl (Or.inl rfl))) (fun _ _ _ _ _ => pts_nil) (fun _ _ _ _ _ => (pe_lst (pa_cons (pe_ix (ix_listK (K := K) rfl) (pv 13) pe_int (fun _ _ => rfl)) (pa_cons (pe_lst (pa_cons (pe_slice (sl_listK (K := K) rfl) (pe_ix (ix_listK (K := K) rfl) (pe_ix (ix_listK (K := K) rfl) (pv 13) pe_int (fun _ _ => rfl)) pe_int (fun _ _ => rfl)) po_none (po_some (pe_un un_neg pe_int))) (pa_cons (pe_ix (ix_listK (K := K) rfl) (pe_ix (ix_listK (K := K) rfl) (pv 13) pe_int (fun _ _ => rfl)) pe_int (fun _ _ => rfl)) (pa_cons (pe_ix (ix_listK (K := K) rfl) (pe_ix (ix_listK (K := K) rfl) (pv 13) pe_int (fun _ _ => rfl)) pe_int (fun _ _ => rfl)) pa_nil)))) pa_nil))))) (pa_cons (pv 5) pa_nil)))))))
    pss_nil)
    (pss_one (ps_ret (pv 1)))))))))), ?_⟩
    refine ⟨_, rfl, a, _, rfl, sub.seq ha, rfl, _, _, rfl, _, _, rfl, _, _, rfl, rfl, ?_⟩
    refine ⟨_, rfl, _, _, rfl, rfl, (by show (0 : Int) < 6; decide), _, rfl, _, _, rfl, rfl, wide_div (b := 5) (by decide) (by decide) (by decide) (by decide), ?_⟩
    have hfm : (n / 6).natAbs < 2 ^ 200 := by omega
    have hf0 : 0 ≤ n / 6 := by omega
    refine ⟨_, rfl, _, _, rfl, rfl, _, rfl, ?_⟩
    by_cases k2 : n % 6 < 2
    · rw [show decide (n % 6 < (2 : Int)) = true from decide_eq_true k2]
      refine iteT ?_
      have m3 := inv.s.m3
      refine ⟨_, rfl, _, rfl, n / 6, st.1.span, rfl, hf0, hfm, by omega, fun H1 v1 n1 h1 => ?_⟩
      have d1 := hD.same n1
      obtain ⟨dx, _, _, _, x0, _⟩ := id d1
      have pok := point_ok (n / 6) st.1.span
      obtain ⟨p, ep⟩ : ∃ p, p = pointOf (n / 6) st.1.span := ⟨_, rfl⟩
      rw [← ep] at h1 pok
      have fw := pok.want.fine (by decide) (by decide) (by decide)
      have ft := pok.wt.1.fine (by decide) (by decide) (by decide)
      have plen := pok.len
      have m0 := inv.s.m0
      refine ⟨_, rfl, d, dx, _, rfl, x0, rfl, _, rfl, oneS, v1, p, st.1.span, by rw [← l_oneS]; rfl, by decide, dp_same (dif_sub _ _) h1, pok, by omega, fun H2 n2 => ?_⟩
      obtain ⟨na, nl, nz⟩ := desk_apart st o
      have n12 := n1.trans n2
      refine ⟨d, deskPs st o, G, .deed oneS 0 (.lay p), rfl, hD.same n12, ⟨na, nl, nm_one, fun z hz => ?_, st, nz, fine, pok.len, pok.wt.2⟩, fun H3 G3 ps' ans f3 d3 does => ?_⟩
      · rcases List.mem_cons.mp hz with rfl | hz
        · exact fw.1
        rcases List.mem_cons.mp hz with rfl | hz
        · exact ⟨fun e => by rw [e] at plen; have : (0 : Nat) = st.1.span := plen; omega, by omega, fun q hq => ((pok.row q hq).fine (by decide) (by decide) (by decide)).1⟩
        · rw [List.mem_singleton.mp hz]
          exact ft.1
      cases does with
      | deed h =>
        rw [nz] at h
        cases Option.some.inj h
        have fresh6 := fine.fr
        refine ⟨_, rfl, _, rfl, ?_, rfl, _, rfl, ?_⟩
        · rw [Int.natAbs_natCast]
          by_cases z : st.1.fresh = 0
          · rw [z]; decide
          · exact (Nat.log2_lt z).mpr (Nat.lt_trans fresh6 (by decide))
        have en : Str.ofString (toString ((st.1.fresh : Nat) : Int)) = S (numS (st.1.fresh : Nat)) := num_text _
        rw [show (!decide (V.str (S ((Deed.lay p).ans st)) = V.str (Str.ofString (toString ((st.1.fresh : Nat) : Int))))) = false from by rw [en]; simp [Deed.ans]]
        refine iteF ?_
        have fr := (Fr.of (F := G) n12).trans f3
        have hpl3 := dp_same fr.s hpv
        have hv3 : Dp K (less G3 H3) v1 (encLP p) := dp_same ((Fr.of (F := G) n2).s.trans f3.s) (dp_seqS (new_less n1 kindG) h1)
        obtain ⟨pl', xs3, epl, hpl3s, hpl3d⟩ := dp_list hpl3
        cases epl
        have xl3 := hpl3d.length
        rw [List.length_map] at xl3
        have kn := inv.s.n
        refine ⟨_, rfl, _, rfl, _, rfl, _, rfl, by show 2 ≤ sizeLine; decide, fun l1 hl1 => ⟨by show 1 ≤ sizeLine; decide, fun l2 hl2 => ?_⟩⟩
        have s1 : Same H3 (upd H3 l1 (.lst [V.int (st.1.fresh : Nat), v1])) := same_new hl1
        have g1 : upd H3 l1 (.lst [V.int (st.1.fresh : Nat), v1]) l1 = some (.lst [V.int (st.1.fresh : Nat), v1]) := upd_same
        generalize upd H3 l1 (.lst [V.int (st.1.fresh : Nat), v1]) = H4 at *
        have s2 : Same H4 (upd H4 l2 (.lst [V.ref l1])) := same_new hl2
        have g2 : upd H4 l2 (.lst [V.ref l1]) l2 = some (.lst [V.ref l1]) := upd_same
        generalize upd H4 l2 (.lst [V.ref l1]) = H5 at *
        have s13 := s1.trans s2
        refine ⟨pl, l2, xs3, _, rfl, rfl, s13.seq ((less_sub _ _).seq hpl3s), SqL.of g2, Nat.le_of_lt (len_small (by show xs3.length + 1 ≤ _; omega)), fun l3 hl3 => ?_⟩
        have s3 : Same H5 (upd H5 l3 (.lst (xs3 ++ [V.ref l1]))) := same_new hl3
        have g3 : upd H5 l3 (.lst (xs3 ++ [V.ref l1])) l3 = some (.lst (xs3 ++ [V.ref l1])) := upd_same
        generalize upd H5 l3 (.lst (xs3 ++ [V.ref l1])) = H6 at *
        refine ⟨_, rfl, _, _, rfl, rfl, by show 3 ≤ sizeLine; decide, fun R hR => ?_⟩
        have s4 : Same H6 (upd H6 R (.lst [V.int (st.1.span : Nat), V.ref l3, V.int ((st.1.fresh : Nat) + 1)])) := same_new hR
        have g4 : upd H6 R (.lst [V.int (st.1.span : Nat), V.ref l3, V.int ((st.1.fresh : Nat) + 1)]) R = some (.lst [V.int (st.1.span : Nat), V.ref l3, V.int ((st.1.fresh : Nat) + 1)]) := upd_same
        show Q (.ref R) (upd H6 R (.lst [V.int (st.1.span : Nat), V.ref l3, V.int ((st.1.fresh : Nat) + 1)]))
        generalize upd H6 R (.lst [V.int (st.1.span : Nat), V.ref l3, V.int ((st.1.fresh : Nat) + 1)]) = H7 at *
        have s37 := s1.trans (s2.trans (s3.trans s4))
        have out : ∀ z, H3 z = Option.none → ¬ z ∈ G3 := fun z hz hm => by
          obtain ⟨u, e, _⟩ := d3.kind z hm
          rw [hz] at e
          cases e
        have eD : deedOf st n = layOf st p := by
          unfold deedOf
          rw [if_pos k2, ep]
        have sL := (Fr.of (F := G3) s37).s
        refine hQ H7 G3 _ (fr.trans (Fr.of s37)) ?_ ?_
        · rw [eD]
          have := d3.same s37
          cases o <;> exact this
        · rw [eD]
          refine .lst (SqL.of (by rw [less_out (out R ((s1.trans (s2.trans s3)).free hR))]; exact g4)) (.cons (.int _) (.cons ?_ (.cons (.int _) .nil)))
          show Dp K (less G3 H7) (.ref l3) (.list ((st.1.kept ++ [(st.1.fresh, p)]).map encLK))
          rw [List.map_append]
          refine .lst (SqL.of (by rw [less_out (out l3 (s13.free hl3))]; exact s4 _ _ g3)) (DpAll.append (dps_same sL hpl3d) (.cons (.lst (SqL.of (by rw [less_out (out l1 hl1)]; exact (s2.trans (s3.trans s4)) _ _ g1)) (.cons (.int _) (.cons (dp_same sL hv3) .nil))) .nil))
    · rw [show decide (n % 6 < (2 : Int)) = false from decide_eq_false k2]
      refine iteF ?_
      have m3 := inv.s.m3
      have m0 := inv.s.m0
      have kn := inv.s.n
      have e2 : decide (V.int (n % 6) = V.int 2) = decide (n % 6 = 2) := decide_eq_decide.mpr ⟨fun e => V.int.inj e, fun e => by rw [e]⟩
      have e3 : decide (V.int (n % 6) = V.int 3) = decide (n % 6 = 3) := decide_eq_decide.mpr ⟨fun e => V.int.inj e, fun e => by rw [e]⟩
      have e4 : decide (V.int (n % 6) = V.int 4) = decide (n % 6 = 4) := decide_eq_decide.mpr ⟨fun e => V.int.inj e, fun e => by rw [e]⟩
      refine ⟨_, rfl, rfl, _, rfl, ?_⟩
      rw [e2]
      have after2 : ∀ G0 : Prop, G0 → G0 := fun _ h => h
      have cs : (n % 6 = 2 ∧ 1 < st.1.kept.length) ∨ (n % 6 = 2 ∧ ¬ 1 < st.1.kept.length) ∨ ¬ n % 6 = 2 := by omega
      rcases cs with ⟨k22, kl⟩ | ⟨k22, kl⟩ | k22
      case' inl =>
        rw [decide_eq_true k22]
        refine iteT ?_
        refine ⟨_, rfl, pl, xs, rfl, .inl (sub.seq hpl), _, _, rfl, rfl, _, rfl, ?_⟩
        · rw [show decide ((1 : Int) < ((xs.length : Nat) : Int)) = true from decide_eq_true (by omega)]
          refine iteT ?_
          obtain ⟨i, ei⟩ : ∃ i : Nat, n / 6 % ((xs.length : Nat) : Int) = (i : Int) := ⟨(n / 6 % ((xs.length : Nat) : Int)).toNat, by have := Int.emod_nonneg (n / 6) (show ((xs.length : Nat) : Int) ≠ 0 by omega); omega⟩
          have il : i < xs.length := by have := Int.emod_lt_of_pos (n / 6) (show (0 : Int) < ((xs.length : Nat) : Int) by omega); omega
          obtain ⟨q, eq⟩ : ∃ q, st.1.kept[i]? = some q := ⟨_, List.getElem?_eq_getElem (by omega)⟩
          obtain ⟨v0, ev0⟩ : ∃ v, xs[i]? = some v := ⟨_, List.getElem?_eq_getElem il⟩
          obtain ⟨q', eq', hq⟩ := kept_get hpd ev0
          rw [eq] at eq'
          cases Option.some.inj eq'
          obtain ⟨b0, u, rfl, hb0, hu⟩ := dp_lk hq
          refine ⟨_, rfl, _, rfl, pl, xs, rfl, .inl (sub.seq hpl), _, _, rfl, rfl, (by show (0 : Int) < ((xs.length : Nat) : Int); omega), ?_⟩
          have ev : (fun i j : Int => V.int (i % j)) (n / 6) ((xs.length : Nat) : Int) = V.int (i : Int) := congrArg V.int ei
          rw [ev]
          obtain ⟨dx, _, _, _, x0, _⟩ := id hD
          refine ⟨_, rfl, d, dx, _, rfl, x0, rfl, ?_⟩
          refine ⟨_, rfl, _, rfl, pl, xs, _, _, rfl, rfl, sub.seq hpl, atI_nat ev0, b0, _, _, _, rfl, rfl, sub.seq hb0, atI0, _, rfl, ?_, ?_⟩
          · have := inv.s.low q (List.mem_of_getElem? eq)
            have := inv.s.f
            rw [Int.natAbs_natCast]
            by_cases z : q.1 = 0
            · rw [z]; decide
            · exact (Nat.log2_lt z).mpr (Nat.lt_of_le_of_lt (show q.1 ≤ 8 by omega) (by decide))
          have qn : q.1 < 10 ^ 6 := by
            have := inv.s.low q (List.mem_of_getElem? eq)
            have := inv.s.f
            exact Nat.lt_of_le_of_lt (show q.1 ≤ 8 by omega) (by decide)
          have en : Str.ofString (toString ((q.1 : Nat) : Int)) = S (numS (q.1 : Nat)) := num_text _
          have lto : ("take one " : Str) = S (tl "take" ++ ([32] ++ (oneS ++ [32]))) := by decide +kernel
          obtain ⟨na, nl, nz⟩ := desk_apart st o
          refine ⟨_, _, rfl, rfl, ?_, d, deskPs st o, G, .deed oneS 0 (.take q.1 i q.2), ?_, hD, ⟨na, nl, nm_one, fun z hz => ?_, st, nz, fine, eq⟩, fun H3 G3 ps' ans f3 d3 does => ?_⟩
          · have sl := numS_len (i := ((q.1 : Nat) : Int)) (k := 20) (by rw [Int.natAbs_natCast]; exact Nat.lt_trans qn (by decide)) (by decide)
            show ("take one " : Str).length + (Str.ofString (toString ((q.1 : Nat) : Int))).length ≤ sizeLine
            rw [en, lto, S_len, S_len, sizeLine_eq]
            have : (tl "take" ++ ([32] ++ (oneS ++ [32]))).length = 9 := by decide +kernel
            omega
          · show [V.ref d, V.str (("take one " : Str) ++ Str.ofString (toString ((q.1 : Nat) : Int)))] = _
            rw [en, lto, S_cat]
            congr 3
          · rw [List.mem_singleton.mp hz]
            exact qn
          · cases does with
            | deed h =>
              rw [nz] at h
              cases Option.some.inj h
              refine ⟨rfl, _, rfl, ?_⟩
              rw [show (!decide (V.str (S ((Deed.take q.1 i q.2).ans st)) = V.str ("ok" : Str))) = false from by rw [l_ok]; simp [Deed.ans]]
              refine iteF ?_
              have hpl3 := dp_same f3.s hpv
              obtain ⟨pl', xs3, epl, hpl3s, hpl3d⟩ := dp_list hpl3
              cases epl
              have xl3 := hpl3d.length
              rw [List.length_map] at xl3
              refine ⟨_, rfl, _, rfl, _, rfl, _, rfl, pl, xs3, rfl, (less_sub _ _).seq hpl3s, fun p1 hp1 => ?_⟩
              rw [cut_pre]
              have s1 : Same H3 (upd H3 p1 (.lst (xs3.take i))) := same_new hp1
              have g1 : upd H3 p1 (.lst (xs3.take i)) p1 = some (.lst (xs3.take i)) := upd_same
              generalize upd H3 p1 (.lst (xs3.take i)) = H4 at *
              refine ⟨_, rfl, _, rfl, _, _, rfl, rfl, _, rfl, pl, xs3, rfl, s1.seq ((less_sub _ _).seq hpl3s), fun p2 hp2 => ?_⟩
              rw [show ((i : Nat) : Int) + 1 = ((i + 1 : Nat) : Int) by omega, cut_suf]
              have s2 : Same H4 (upd H4 p2 (.lst (xs3.drop (i + 1)))) := same_new hp2
              have g2 : upd H4 p2 (.lst (xs3.drop (i + 1))) p2 = some (.lst (xs3.drop (i + 1))) := upd_same
              generalize upd H4 p2 (.lst (xs3.drop (i + 1))) = H5 at *
              refine ⟨p1, p2, _, _, rfl, rfl, SqL.of (s2 _ _ g1), SqL.of g2, Nat.le_of_lt (len_small (by rw [List.length_take, List.length_drop]; omega)), fun l3 hl3 => ?_⟩
              have s3 : Same H5 (upd H5 l3 (.lst (xs3.take i ++ xs3.drop (i + 1)))) := same_new hl3
              have g3 : upd H5 l3 (.lst (xs3.take i ++ xs3.drop (i + 1))) l3 = some (.lst (xs3.take i ++ xs3.drop (i + 1))) := upd_same
              generalize upd H5 l3 (.lst (xs3.take i ++ xs3.drop (i + 1))) = H6 at *
              refine ⟨_, rfl, by show 3 ≤ sizeLine; decide, fun R hR => ?_⟩
              have s4 : Same H6 (upd H6 R (.lst [V.int (st.1.span : Nat), V.ref l3, V.int (st.1.fresh : Nat)])) := same_new hR
              have g4 : upd H6 R (.lst [V.int (st.1.span : Nat), V.ref l3, V.int (st.1.fresh : Nat)]) R = some (.lst [V.int (st.1.span : Nat), V.ref l3, V.int (st.1.fresh : Nat)]) := upd_same
              show Q (.ref R) (upd H6 R (.lst [V.int (st.1.span : Nat), V.ref l3, V.int (st.1.fresh : Nat)]))
              generalize upd H6 R (.lst [V.int (st.1.span : Nat), V.ref l3, V.int (st.1.fresh : Nat)]) = H7 at *
              have s37 := s1.trans (s2.trans (s3.trans s4))
              have out : ∀ z, H3 z = Option.none → ¬ z ∈ G3 := fun z hz hm => by
                obtain ⟨u, e, _⟩ := d3.kind z hm
                rw [hz] at e
                cases e
              have sL := (Fr.of (F := G3) s37).s
              have eA : deedAt st n = i := by
                unfold deedAt
                rw [← hlen, ei]
                exact Int.toNat_natCast i
              have eD : deedOf st n = (⟨st.1.span, st.1.kept.eraseIdx i, st.1.fresh⟩, st.2 ++ [st.1]) := by
                unfold deedOf
                rw [if_neg k2, if_pos ⟨k22, kl⟩, eA]
              have eN : (Deed.take q.1 i q.2).next st = (⟨st.1.span, st.1.kept.eraseIdx i, st.1.fresh⟩, st.2 ++ [st.1]) := by
                show (_, _) = _
                rw [dropPt_erase inv.s.apart eq]
              refine hQ H7 G3 _ (f3.trans (Fr.of s37)) ?_ ?_
              · rw [eD, ← eN]
                have := d3.same s37
                cases o <;> exact this
              · rw [eD]
                refine .lst (SqL.of (by rw [less_out (out R ((s1.trans (s2.trans s3)).free hR))]; exact g4)) (.cons (.int _) (.cons ?_ (.cons (.int _) .nil)))
                show Dp K (less G3 H7) (.ref l3) (.list ((st.1.kept.eraseIdx i).map encLK))
                rw [List.eraseIdx_eq_take_drop_succ, List.map_append, List.map_take, List.map_drop]
                exact .lst (SqL.of (by rw [less_out (out l3 ((s1.trans s2).free hl3))]; exact s4 _ _ g3)) (DpAll.append ((dps_same sL hpl3d).take i) ((dps_same sL hpl3d).drop (i + 1)))
      case' inr.inl =>
        rw [decide_eq_true k22]
        refine iteT ?_
        refine ⟨_, rfl, pl, xs, rfl, .inl (sub.seq hpl), _, _, rfl, rfl, _, rfl, ?_⟩
        rw [show decide ((1 : Int) < ((xs.length : Nat) : Int)) = false from decide_eq_false (by omega)]
        refine iteF ?_
        have no2 : ¬ (n % 6 = 2 ∧ 1 < st.1.kept.length) := fun z => kl z.2
      case' inr.inr =>
        rw [decide_eq_false k22]
        refine iteF (iteF ?_)
        have no2 : ¬ (n % 6 = 2 ∧ 1 < st.1.kept.length) := fun z => k22 z.1
      all_goals
        refine ⟨_, rfl, rfl, _, rfl, ?_⟩
        rw [e3]
        have cs3 : (n % 6 = 3 ∧ st.1.span < 3) ∨ (n % 6 = 3 ∧ ¬ st.1.span < 3) ∨ ¬ n % 6 = 3 := by omega
        rcases cs3 with ⟨k33, k3s⟩ | ⟨k33, k3s⟩ | k33
        case' inl =>
          rw [decide_eq_true k33]
          refine iteT ?_
          refine ⟨_, rfl, _, _, rfl, rfl, _, rfl, ?_⟩
          rw [show decide (((st.1.span : Nat) : Int) < (3 : Int)) = true from decide_eq_true (by omega)]
          refine iteT ?_
          have kne : 0 < xs.length := by
            rcases hk with h | h
            · exact Nat.lt_of_lt_of_eq (List.length_pos_iff.mpr h) hlen.symm
            · exact absurd h k2
          refine ⟨_, rfl, pl, xs, rfl, .inl (sub.seq hpl), ((xs.length : Nat) : Int), rfl, by omega, by omega, fun D hD0 => lc_by (n := xs.length) (fun i H' => Same H H' ∧ ∃ ys, H' D = some (.lst ys) ∧ DpAll K (rem H' D) ys (encs ((List.range i).map fun k => thingOf (mixedOf (n / 6) (20 + k)))))
            ⟨same_new hD0, [], upd_same, .nil⟩ (fun i H' hi hP => ?_) (fun Hc hP => ?_)⟩
          · obtain ⟨m1, ys, hL, hY⟩ := hP
            refine ⟨by show i < ((xs.length : Nat) : Int).toNat; omega, fun v H1 hv => ?_⟩
            obtain ⟨rfl, rfl⟩ := hv
            refine ⟨rfl, ?_⟩
            obtain ⟨r1, r2⟩ := mixed_range (n / 6) (20 + i)
            refine ⟨_, rfl, _, rfl, _, _, rfl, rfl, n / 6, 20 + i, by rw [Int.zero_add]; rfl, by omega, hfm, mixedOf (n / 6) (20 + i), rfl, r1, r2, fun H2 v n2 h2 => ?_⟩
            have hL2 := n2 _ _ hL
            refine ⟨_, hL2, len_small ?_, same_put (m1.trans n2) hD0, _, upd_same, ?_⟩
            · rw [hY.length, encs_len, List.length_map, List.length_range]
              omega
            · rw [rem_upd, List.range_succ, List.map_append, encs_app]
              exact (dps_same (rem_same n2) hY).snoc (rem_q h2 hL2)
          · obtain ⟨m1, ys, hL, hY⟩ := hP
            refine ⟨by show ((xs.length : Nat) : Int).toNat ≤ xs.length; omega, ?_⟩
            obtain ⟨c, ec⟩ : ∃ c, c = colOf (n / 6) st.1.kept.length := ⟨_, rfl⟩
            have hY : DpAll K (rem Hc D) ys (encs c) := by
              rw [ec, ← hlen]
              exact hY
            have cl : c.length = st.1.kept.length := by rw [ec, col_len]
            have cd : ∀ x, x ∈ c → Cd 6 (2 ^ 6) x := by rw [ec]; exact col_cd _ _
            have cf : ∀ x, x ∈ c → Fine x ∧ Sz x := fun x hx => (cd x hx).fine (by decide) (by decide) (by decide)
            have kok : (Kd.row c).ok := ⟨fun e => by rw [e] at cl; have : (0 : Nat) = st.1.kept.length := cl; omega, by omega, fun q hq => (cf q hq).1⟩
            have wl := (wd_ok kok).2
            have wl : (rowS c).length ≤ 60000 := wl
            have dc := hD.same m1
            obtain ⟨dx, _, _, _, x0, _⟩ := id dc
            obtain ⟨na, nl, nz⟩ := desk_apart st o
            have lwi : ("widen one " : Str) = S (tl "widen" ++ ([32] ++ (oneS ++ [32]))) := by decide +kernel
            refine ⟨_, rfl, d, dx, _, rfl, x0, rfl, ?_⟩
            refine ⟨_, rfl, _, c, rfl, .lst (SqL.of hL) (dps_same (rem_sub _ _) hY), by omega, fun q hq => (cf q hq).2, fun H1 n1 => ?_⟩
            refine ⟨_, _, rfl, rfl, ?_, d, deskPs st o, G, .deed oneS 0 (.widen c), ?_, dc.same n1, ⟨na, nl, nm_one, fun z hz => ?_, st, nz, fine, by omega, cl⟩, fun H3 G3 ps' ans f3 d3 does => ?_⟩
            · show ("widen one " : Str).length + (S (rowS c)).length ≤ sizeLine
              rw [lwi, S_len, S_len, sizeLine_eq]
              have : (tl "widen" ++ ([32] ++ (oneS ++ [32]))).length = 10 := by decide +kernel
              omega
            · show [V.ref d, V.str (("widen one " : Str) ++ S (rowS c))] = _
              rw [lwi, S_cat]
              congr 3
            · rw [List.mem_singleton.mp hz]
              exact kok
            cases does with
            | deed h =>
              rw [nz] at h
              cases Option.some.inj h
              refine ⟨rfl, _, rfl, ?_⟩
              rw [show (!decide (V.str (S ((Deed.widen c).ans st)) = V.str ("ok" : Str))) = false from by rw [l_ok]; simp [Deed.ans]]
              refine iteF ?_
              have DG : ¬ D ∈ G := fun hm => by
                obtain ⟨u, e, _⟩ := kindG D hm
                rw [hD0] at e
                cases e
              have D1 := n1 _ _ hL
              have D3 := f3.keep DG D1
              have kind3 := d3.kind
              have hY3 : DpAll K (less G3 H3) ys (encs c) := dps_same (tp_less fun b hb => by
                obtain ⟨_, _, e, _⟩ := kind3 b hb
                exact e) (dps_same f3.t (dps_same (tp_grow n1) (tp_qs (dps_same (rem_sub _ _) hY))))
              have fr := (Fr.of (F := G) (m1.trans n1)).trans f3
              have hpl3 := dp_same fr.s hpv
              obtain ⟨pl', xs3, epl, hpl3s, hpl3d⟩ := dp_list hpl3
              cases epl
              have xl3 := hpl3d.length
              rw [List.length_map] at xl3
              have ylen := hY3.length
              rw [encs_len] at ylen
              refine ⟨by show 0 ≤ sizeLine; decide, fun S0 hS0 => ?_⟩
              obtain ⟨MK, eMK⟩ : ∃ MK, MK = mixK (widP c) st.1.kept st.1.kept.length := ⟨_, rfl⟩
              have out : ∀ z, H3 z = Option.none → ¬ z ∈ G3 := fun z hz hm => by
                obtain ⟨u, e, _⟩ := kind3 z hm
                rw [hz] at e
                cases e
              refine ⟨_, rfl, pl, xs3, rfl, (same_new hS0).seq ((less_sub _ _).seq hpl3s), for_by (n := xs3.length) (fun j σ H' => Same H3 H' ∧ ∃ zs, H' S0 = some (.lst zs) ∧ DpAll K (less (S0 :: G3) H') zs ((MK.take j).map encLK) ∧
                  ∃ a0 a1 a2 a4 a6 a7 a8 a9 a12 a13, σ = [a0, a1, a2, some (.int (st.1.span : Nat)), a4, some (.int (st.1.fresh : Nat)), a6, a7, a8, a9, some (.ref D), some (.ref S0), a12, a13])
                ⟨same_new hS0, [], upd_same, .nil, _, _, _, _, _, _, _, _, _, _, rfl⟩ (fun j σ H' hj hP => ?_) (fun σ H' hP => ?_)⟩
              · obtain ⟨m3, zs, hZ, hzd, a0, a1, a2, a4, a6, a7, a8, a9, a12, a13, rfl⟩ := hP
                obtain ⟨v0, ev0⟩ : ∃ v, xs3[j]? = some v := ⟨_, List.getElem?_eq_getElem hj⟩
                obtain ⟨q, eq, hq⟩ := kept_get hpl3d ev0
                obtain ⟨b, u, rfl, hb, hu⟩ := dp_lk hq
                obtain ⟨pa, px, py, pz, rfl, hpa, hx, hy, hz⟩ := dp_lp hu
                obtain ⟨ra, rxs, rfl, hra, hrd⟩ := dp_list hx
                obtain ⟨cv, ecv, hcv⟩ := hY3.get (i := j) (d := encQ (c.getD j 0)) (by
                  unfold encs
                  rw [List.getElem?_map, List.getD_eq_getElem?_getD, List.getElem?_eq_getElem (by omega)]
                  rfl)
                have hpl' := m3.seq ((less_sub _ _).seq hpl3s)
                refine ⟨⟨xs3, _, hpl', ev0⟩, fun v H1' hv => ?_⟩
                obtain ⟨t, x', rfl, ht, rfl, hx'⟩ := hv
                have ex := hx' xs3 hpl'
                rw [ev0] at ex
                cases Option.some.inj ex
                have n9 : Same H' (upd H' t (.tup [.int (j : Nat), V.ref b])) := same_new ht
                refine ⟨t, _, rfl, SqT.of upd_same, rfl, _, _, rfl, _, _, rfl, rfl, ?_⟩
                generalize upd H' t (.tup [.int (j : Nat), V.ref b]) = H9 at n9 ⊢
                have m9 := m3.trans n9
                have Z9 := n9 _ _ hZ
                refine ⟨_, rfl, .inl ⟨rfl, _, SqL.of Z9⟩, ?_⟩
                refine ⟨_, rfl, b, _, _, _, rfl, rfl, m9.seq ((less_sub _ _).seq hb), atI0, ?_⟩
                refine ⟨_, rfl, b, _, _, _, rfl, rfl, m9.seq ((less_sub _ _).seq hb), atI1, pa, _, _, _, rfl, rfl, m9.seq ((less_sub _ _).seq hpa), atI0, ?_⟩
                refine ⟨_, rfl, _, rfl, D, ys, _, cv, rfl, rfl, SqL.of (m9 _ _ D3), atI_nat ecv, by show 1 ≤ sizeLine; decide, fun l1 hl1 => ?_⟩
                have s1 : Same H9 (upd H9 l1 (.lst [cv])) := same_new hl1
                have g1 : upd H9 l1 (.lst [cv]) l1 = some (.lst [cv]) := upd_same
                generalize upd H9 l1 (.lst [cv]) = HA at s1 g1 ⊢
                have rl := hrd.length
                rw [encs_len] at rl
                have rk : q.2.row.length = st.1.span := (inv.s.pts q (List.mem_of_getElem? eq)).len
                refine ⟨ra, l1, rxs, _, rfl, rfl, (m9.trans s1).seq ((less_sub _ _).seq hra), SqL.of g1, Nat.le_of_lt (len_small (by show rxs.length + 1 ≤ _; omega)), fun l2 hl2 => ?_⟩
                have s2 : Same HA (upd HA l2 (.lst (rxs ++ [cv]))) := same_new hl2
                have g2 : upd HA l2 (.lst (rxs ++ [cv])) l2 = some (.lst (rxs ++ [cv])) := upd_same
                generalize upd HA l2 (.lst (rxs ++ [cv])) = HB at s2 g2 ⊢
                have mB := m9.trans (s1.trans s2)
                refine ⟨_, rfl, b, _, _, _, rfl, rfl, mB.seq ((less_sub _ _).seq hb), atI1, pa, _, _, _, rfl, rfl, mB.seq ((less_sub _ _).seq hpa), atI1, ?_⟩
                refine ⟨_, rfl, b, _, _, _, rfl, rfl, mB.seq ((less_sub _ _).seq hb), atI1, pa, _, _, _, rfl, rfl, mB.seq ((less_sub _ _).seq hpa), atI2, ?_⟩
                refine ⟨by show 3 ≤ sizeLine; decide, fun l3 hl3 => ?_⟩
                have s3 : Same HB (upd HB l3 (.lst [V.ref l2, py, pz])) := same_new hl3
                have g3 : upd HB l3 (.lst [V.ref l2, py, pz]) l3 = some (.lst [V.ref l2, py, pz]) := upd_same
                generalize upd HB l3 (.lst [V.ref l2, py, pz]) = HC at s3 g3 ⊢
                refine ⟨by show 2 ≤ sizeLine; decide, fun l4 hl4 => ?_⟩
                have s4 : Same HC (upd HC l4 (.lst [V.int (q.1 : Nat), V.ref l3])) := same_new hl4
                have g4 : upd HC l4 (.lst [V.int (q.1 : Nat), V.ref l3]) l4 = some (.lst [V.int (q.1 : Nat), V.ref l3]) := upd_same
                generalize upd HC l4 (.lst [V.int (q.1 : Nat), V.ref l3]) = HD at s4 g4 ⊢
                have sAD := s1.trans (s2.trans (s3.trans s4))
                have mD := m9.trans sAD
                have zl := hzd.length
                rw [List.length_map, List.length_take] at zl
                refine ⟨S0, _, _, rfl, rfl, sAD _ _ Z9, len_small (by omega), ?_⟩
                have outH : ∀ z, H9 z = Option.none → ¬ z ∈ S0 :: G3 := fun z hz hm => by
                  rcases List.mem_cons.mp hm with rfl | hm
                  · rw [Z9] at hz
                    cases hz
                  · exact out z (m9.free hz) hm
                have subH : Same (less G3 H3) (less (S0 :: G3) HD) := less_new mD hS0
                have eMj : MK[j]? = some (q.1, widP c j q.2) := by
                  rw [eMK, mixK_get, eq]
                  show some (q.1, if j < st.1.kept.length then _ else _) = _
                  rw [if_pos (by omega)]
                refine ⟨same_put mD hS0, _, upd_same, ?_, _, _, _, _, _, _, _, _, _, _, rfl⟩
                rw [less_upd List.mem_cons_self, take_more eMj, List.map_append]
                refine (dps_same (less_grow (n9.trans sAD)) hzd).snoc ?_
                refine .lst (SqL.of (by rw [less_out (outH l4 ((s1.trans (s2.trans s3)).free hl4))]; exact g4)) (.cons (.int _) (.cons (.lst (SqL.of (by rw [less_out (outH l3 ((s1.trans s2).free hl3))]; exact s4 _ _ g3)) (.cons (.lst (SqL.of (by rw [less_out (outH l2 (s1.free hl2))]; exact (s3.trans s4) _ _ g2)) ?_) (.cons (dp_same subH hy) (.cons (dp_same subH hz) .nil)))) .nil))
                show DpAll K _ _ (encs (q.2.row ++ [c.getD j 0]))
                rw [encs_app]
                exact DpAll.append (dps_same subH hrd) (.cons (dp_same subH hcv) .nil)
              · obtain ⟨m3, zs, hZ, hzd, a0, a1, a2, a4, a6, a7, a8, a9, a12, a13, rfl⟩ := hP
                refine ⟨⟨xs3, m3.seq ((less_sub _ _).seq hpl3s), by omega⟩, ?_⟩
                refine ⟨_, rfl, _, _, rfl, rfl, _, rfl, _, rfl, by show 3 ≤ sizeLine; decide, fun R hR => ?_⟩
                have s4 : Same H' (upd H' R (.lst [V.int ((st.1.span : Nat) + 1), V.ref S0, V.int (st.1.fresh : Nat)])) := same_new hR
                have g4 : upd H' R (.lst [V.int ((st.1.span : Nat) + 1), V.ref S0, V.int (st.1.fresh : Nat)]) R = some (.lst [V.int ((st.1.span : Nat) + 1), V.ref S0, V.int (st.1.fresh : Nat)]) := upd_same
                show Q (.ref R) (upd H' R (.lst [V.int ((st.1.span : Nat) + 1), V.ref S0, V.int (st.1.fresh : Nat)]))
                generalize upd H' R (.lst [V.int ((st.1.span : Nat) + 1), V.ref S0, V.int (st.1.fresh : Nat)]) = H7 at *
                have s37 := m3.trans s4
                have eD : deedOf st n = widOf st c := by
                  unfold deedOf
                  rw [if_neg k2, if_neg no2, if_pos ⟨k33, k3s⟩, ec]
                refine hQ H7 G3 _ (fr.trans (Fr.of s37)) ?_ ?_
                · rw [eD]
                  have := d3.same s37
                  cases o <;> exact this
                · rw [eD]
                  refine .lst (SqL.of (by rw [less_out (out R (m3.free hR))]; exact g4)) (.cons (.int _) (.cons ?_ (.cons (.int _) .nil)))
                  show Dp K (less G3 H7) (.ref S0) (.list ((mixK (widP c) st.1.kept st.1.kept.length).map encLK))
                  rw [← eMK]
                  have ml : MK.length = xs3.length := by rw [eMK, mixK_len]; omega
                  rw [← ml, List.take_length] at hzd
                  exact .lst (SqL.of (by rw [less_out (out S0 hS0)]; exact s4 _ _ hZ)) (dps_same ((less_grow s4).trans (less_cons _ _ _)) hzd)
        case' inr.inl =>
          rw [decide_eq_true k33]
          refine iteT ?_
          refine ⟨_, rfl, _, _, rfl, rfl, _, rfl, ?_⟩
          rw [show decide (((st.1.span : Nat) : Int) < (3 : Int)) = false from decide_eq_false (by omega)]
          refine iteF ?_
          have no3 : ¬ (n % 6 = 3 ∧ st.1.span < 3) := fun z => k3s z.2
        case' inr.inr =>
          rw [decide_eq_false k33]
          refine iteF (iteF ?_)
          have no3 : ¬ (n % 6 = 3 ∧ st.1.span < 3) := fun z => k33 z.1
        all_goals
          refine ⟨_, rfl, rfl, _, rfl, ?_⟩
          rw [e4]
          have cs4 : (n % 6 = 4 ∧ 1 < st.1.span) ∨ (n % 6 = 4 ∧ ¬ 1 < st.1.span) ∨ ¬ n % 6 = 4 := by omega
          rcases cs4 with ⟨k44, k4s⟩ | ⟨k44, k4s⟩ | k44
          case' inl =>
            rw [decide_eq_true k44]
            refine iteT ?_
            refine ⟨_, rfl, _, _, rfl, rfl, _, rfl, ?_⟩
            rw [show decide ((1 : Int) < ((st.1.span : Nat) : Int)) = true from decide_eq_true (by omega)]
            refine iteT ?_
            obtain ⟨dx, _, _, _, x0, _⟩ := id hD
            obtain ⟨na, nl, nz⟩ := desk_apart st o
            have lna : ("narrow one" : Str) = S (tl "narrow" ++ ([32] ++ oneS)) := by decide +kernel
            refine ⟨_, rfl, d, dx, _, rfl, x0, rfl, ?_⟩
            refine ⟨d, deskPs st o, G, .deed oneS 0 .narrow, ?_, hD, ⟨na, nl, nm_one, fun z hz => (by cases hz), st, nz, fine, trivial⟩, fun H3 G3 ps' ans f3 d3 does => ?_⟩
            · show [V.ref d, V.str ("narrow one" : Str)] = _
              rw [lna]
              rfl
            cases does with
            | deed h =>
              rw [nz] at h
              cases Option.some.inj h
              refine ⟨rfl, _, rfl, ?_⟩
              rw [show (!decide (V.str (S (Deed.narrow.ans st)) = V.str ("ok" : Str))) = false from by rw [l_ok]; simp [Deed.ans]]
              refine iteF ?_
              have kind3 := d3.kind
              have hpl3 := dp_same f3.s hpv
              obtain ⟨pl', xs3, epl, hpl3s, hpl3d⟩ := dp_list hpl3
              cases epl
              have xl3 := hpl3d.length
              rw [List.length_map] at xl3
              obtain ⟨MK, eMK⟩ : ∃ MK, MK = mixK (fun _ => narP) st.1.kept st.1.kept.length := ⟨_, rfl⟩
              have out : ∀ z, H3 z = Option.none → ¬ z ∈ G3 := fun z hz hm => by
                obtain ⟨u, e, _⟩ := kind3 z hm
                rw [hz] at e
                cases e
              refine ⟨_, rfl, _, _, rfl, rfl, _, rfl, pl, rfl, ⟨xs3, (less_sub _ _).seq hpl3s⟩, fun S0 hS0 => lc_list (K := K) (a := pl) (xs := xs3) (fun j H' => Same H3 H' ∧ ∃ zs, H' S0 = some (.lst zs) ∧ DpAll K (less (S0 :: G3) H') zs ((MK.take j).map encLK))
                ⟨same_new hS0, [], upd_same, .nil⟩ (fun j H' _ hP => hP.1.seq ((less_sub _ _).seq hpl3s)) (fun j x H' hx hP => ?_) (fun H' hP => ?_)⟩
              · obtain ⟨m3, zs, hZ, hzd⟩ := hP
                obtain ⟨q, eq, hq⟩ := kept_get hpl3d hx
                obtain ⟨b, u, rfl, hb, hu⟩ := dp_lk hq
                obtain ⟨pa, px, py, pz, rfl, hpa, hx, hy, hz⟩ := dp_lp hu
                obtain ⟨ra, rxs, rfl, hra, hrd⟩ := dp_list hx
                refine ⟨rfl, ?_⟩
                refine ⟨_, rfl, b, _, _, _, rfl, rfl, m3.seq ((less_sub _ _).seq hb), atI0, ?_⟩
                refine ⟨_, rfl, b, _, _, _, rfl, rfl, m3.seq ((less_sub _ _).seq hb), atI1, pa, _, _, _, rfl, rfl, m3.seq ((less_sub _ _).seq hpa), atI0, ?_⟩
                have rl := hrd.length
                rw [encs_len] at rl
                have rk : q.2.row.length = st.1.span := (inv.s.pts q (List.mem_of_getElem? eq)).len
                refine ⟨_, rfl, _, rfl, ra, rxs, rfl, m3.seq ((less_sub _ _).seq hra), fun l2 hl2 => ?_⟩
                rw [(cut_last rxs (by intro z; rw [z] at rl; have : (0 : Nat) = q.2.row.length := rl; omega)).1]
                have s2 : Same H' (upd H' l2 (.lst (rxs.take (rxs.length - 1)))) := same_new hl2
                have g2 : upd H' l2 (.lst (rxs.take (rxs.length - 1))) l2 = some (.lst (rxs.take (rxs.length - 1))) := upd_same
                generalize upd H' l2 (.lst (rxs.take (rxs.length - 1))) = HB at s2 g2 ⊢
                have mB := m3.trans s2
                refine ⟨_, rfl, b, _, _, _, rfl, rfl, mB.seq ((less_sub _ _).seq hb), atI1, pa, _, _, _, rfl, rfl, mB.seq ((less_sub _ _).seq hpa), atI1, ?_⟩
                refine ⟨_, rfl, b, _, _, _, rfl, rfl, mB.seq ((less_sub _ _).seq hb), atI1, pa, _, _, _, rfl, rfl, mB.seq ((less_sub _ _).seq hpa), atI2, ?_⟩
                refine ⟨by show 3 ≤ sizeLine; decide, fun l3 hl3 => ?_⟩
                have s3 : Same HB (upd HB l3 (.lst [V.ref l2, py, pz])) := same_new hl3
                have g3 : upd HB l3 (.lst [V.ref l2, py, pz]) l3 = some (.lst [V.ref l2, py, pz]) := upd_same
                generalize upd HB l3 (.lst [V.ref l2, py, pz]) = HC at s3 g3 ⊢
                refine ⟨by show 2 ≤ sizeLine; decide, fun l4 hl4 => ?_⟩
                have s4 : Same HC (upd HC l4 (.lst [V.int (q.1 : Nat), V.ref l3])) := same_new hl4
                have g4 : upd HC l4 (.lst [V.int (q.1 : Nat), V.ref l3]) l4 = some (.lst [V.int (q.1 : Nat), V.ref l3]) := upd_same
                generalize upd HC l4 (.lst [V.int (q.1 : Nat), V.ref l3]) = HD at s4 g4 ⊢
                have sAD := s2.trans (s3.trans s4)
                have mD := m3.trans sAD
                have zl := hzd.length
                rw [List.length_map, List.length_take] at zl
                have hj := (List.getElem?_eq_some_iff.mp eq).1
                refine ⟨zs, sAD _ _ hZ, len_small (by omega), same_put mD hS0, _, upd_same, ?_⟩
                have outH : ∀ z, H' z = Option.none → ¬ z ∈ S0 :: G3 := fun z hz hm => by
                  rcases List.mem_cons.mp hm with rfl | hm
                  · rw [hZ] at hz
                    cases hz
                  · exact out z (m3.free hz) hm
                have subH : Same (less G3 H3) (less (S0 :: G3) HD) := less_new mD hS0
                have eMj : MK[j]? = some (q.1, narP q.2) := by
                  rw [eMK, mixK_get, eq]
                  show some (q.1, if j < st.1.kept.length then _ else _) = _
                  rw [if_pos (by omega)]
                rw [less_upd List.mem_cons_self, take_more eMj, List.map_append]
                refine (dps_same (less_grow sAD) hzd).snoc ?_
                refine .lst (SqL.of (by rw [less_out (outH l4 ((s2.trans s3).free hl4))]; exact g4)) (.cons (.int _) (.cons (.lst (SqL.of (by rw [less_out (outH l3 (s2.free hl3))]; exact s4 _ _ g3)) (.cons (.lst (SqL.of (by rw [less_out (outH l2 hl2)]; exact (s3.trans s4) _ _ g2)) ?_) (.cons (dp_same subH hy) (.cons (dp_same subH hz) .nil)))) .nil))
                show DpAll K _ _ ((q.2.row.take (q.2.row.length - 1)).map encQ)
                rw [List.map_take, rl]
                exact (dps_same subH hrd).take _
              · obtain ⟨m3, zs, hZ, hzd⟩ := hP
                refine ⟨_, rfl, by show 3 ≤ sizeLine; decide, fun R hR => ?_⟩
                have eS : ((st.1.span : Nat) : Int) - 1 = ((st.1.span - 1 : Nat) : Int) := by omega
                have s4 : Same H' (upd H' R (.lst [V.int ((st.1.span : Nat) - 1), V.ref S0, V.int (st.1.fresh : Nat)])) := same_new hR
                have g4 : upd H' R (.lst [V.int ((st.1.span : Nat) - 1), V.ref S0, V.int (st.1.fresh : Nat)]) R = some (.lst [V.int ((st.1.span : Nat) - 1), V.ref S0, V.int (st.1.fresh : Nat)]) := upd_same
                show Q (.ref R) (upd H' R (.lst [V.int ((st.1.span : Nat) - 1), V.ref S0, V.int (st.1.fresh : Nat)]))
                generalize upd H' R (.lst [V.int ((st.1.span : Nat) - 1), V.ref S0, V.int (st.1.fresh : Nat)]) = H7 at *
                rw [eS] at g4
                have s37 := m3.trans s4
                have eD : deedOf st n = narOf st := by
                  unfold deedOf
                  rw [if_neg k2, if_neg no2, if_neg no3, if_pos ⟨k44, k4s⟩]
                refine hQ H7 G3 _ (f3.trans (Fr.of s37)) ?_ ?_
                · rw [eD]
                  have := d3.same s37
                  cases o <;> exact this
                · rw [eD]
                  refine .lst (SqL.of (by rw [less_out (out R (m3.free hR))]; exact g4)) (.cons (.int _) (.cons ?_ (.cons (.int _) .nil)))
                  show Dp K (less G3 H7) (.ref S0) (.list ((mixK (fun _ => narP) st.1.kept st.1.kept.length).map encLK))
                  rw [← eMK]
                  have ml : MK.length = xs3.length := by rw [eMK, mixK_len]; omega
                  rw [← ml, List.take_length] at hzd
                  exact .lst (SqL.of (by rw [less_out (out S0 hS0)]; exact s4 _ _ hZ)) (dps_same ((less_grow s4).trans (less_cons _ _ _)) hzd)
          case' inr.inl =>
            rw [decide_eq_true k44]
            refine iteT ?_
            refine ⟨_, rfl, _, _, rfl, rfl, _, rfl, ?_⟩
            rw [show decide ((1 : Int) < ((st.1.span : Nat) : Int)) = false from decide_eq_false (by omega)]
            refine iteF ?_
            have no4 : ¬ (n % 6 = 4 ∧ 1 < st.1.span) := fun z => k4s z.2
          case' inr.inr =>
            rw [decide_eq_false k44]
            refine iteF (iteF ?_)
            have no4 : ¬ (n % 6 = 4 ∧ 1 < st.1.span) := fun z => k44 z.1
          all_goals
            have eD : deedOf st n = st := by
              unfold deedOf
              rw [if_neg k2, if_neg no2, if_neg no3, if_neg no4]
            refine ⟨_, rfl, hQ H G _ (Fr.of fun _ _ e => e) ?_ ?_⟩
            · rw [eD]
              exact hD
            · rw [eD]
              exact hsv
end
end Np
end
section
set_option linter.all false
set_option maxRecDepth 100000
set_option maxHeartbeats 4000000
set_option exponentiation.threshold 5000
/-! The word of the others: the plain part. -/
namespace Np
open PySem PySem.Spec PyProof.Rows L2 SX
theorem Cq.neg1 : Cq 0 0 (-1 : Rat) := ⟨1, by decide, by decide, -1, by decide +kernel, by decide⟩
theorem Cq.one : Cq 0 0 (1 : Rat) := ⟨1, by decide, by decide, 1, by decide +kernel, by decide⟩
theorem Cq.sub {d1 n1 d2 n2 : Nat} {a b : Rat} (h1 : Cq d1 n1 a) (h2 : Cq d2 n2 b) : Cq (d1 + d2) (max (n1 + d2) (n2 + d1) + 1) (a - b) := by
  have h := h1.add (h2.mul Cq.neg1)
  have e : a + b * (-1) = a - b := by grind
  rw [e] at h
  exact h
theorem Small.pullQ {ps : List Pt} {m : Nat} (S : Small ps m) (i : Nat) : Cq 902 907 (pullOf ps m i) := by
  rw [← pullAcc_all]
  have hb := pb_le m S.m3
  exact ((pull_all S i m (Nat.le_refl _)).mul (cq_getD S.cWts i)).mono (by omega) (by omega)
theorem Small.valueQ {ps : List Pt} {m : Nat} (S : Small ps m) {y : Row} (h : TinyRow m y) : Cq 895 903 (valueOf ps m y) :=
  (dot2_ok (e := 2) h.cv S.cTold (by rw [h.1]; exact Nat.le_trans S.m3 (by decide)) (by decide) (by decide)).2
theorem cd_cq {q : Rat} (h : Cd 6 (2 ^ 6) q) : Cq 3 6 q := ⟨6, by decide, by decide, h⟩
theorem Small.pullSz {ps : List Pt} {m : Nat} (S : Small ps m) (i : Nat) : Sz (pullOf ps m i) ∧ Sz (1 - pullOf ps m i) :=
  ⟨(S.pullQ i).sz (by decide) (by decide), (Cq.one.sub (S.pullQ i)).sz (by decide) (by decide)⟩
theorem Small.betweenSz {ps : List Pt} {m : Nat} (S : Small ps m) {y : Row} (h : TinyRow m y) {z : Rat} (hz : Cd 6 (2 ^ 6) z) : Sz (valueOf ps m y) ∧ Sz (z - valueOf ps m y) :=
  ⟨(S.valueQ h).sz (by decide) (by decide), ((cd_cq hz).sub (S.valueQ h)).sz (by decide) (by decide)⟩
theorem one_sz : Sz 1 := Cq.one.sz (by decide) (by decide)
theorem Small.perm {ps qs : List Pt} {m : Nat} (S : Small ps m) (h : qs.Perm ps) : Small qs m :=
  ⟨S.m3, by rw [h.length_eq]; exact S.len, fun p hp => S.row p (h.mem_iff.mp hp), fun p hp => S.rowT p (h.mem_iff.mp hp), fun p hp => S.want p (h.mem_iff.mp hp), fun p hp => S.wt p (h.mem_iff.mp hp)⟩
theorem ratS_open (q : Rat) : ratS q ≠ openS := fun e => by
  have : (111 : Nat) ∈ ratS q := by rw [e]; decide
  rcases ratS_mem this with h | h <;> omega
theorem rest_at {ps : List Pt} {m i : Nat} (S : Small ps m) (hi : i < ps.length) : (restOf ps m)[i]? = some ((restOf ps m).getD i 0) := by
  have := (fit_shape S).1
  rw [List.getD_eq_getElem?_getD, List.getElem?_eq_getElem (by omega)]
  rfl
theorem pulls_at {ps : List Pt} {m i : Nat} (hi : i < ps.length) : (pullsOf ps m)[i]? = some (pullOf ps m i) := by
  unfold pullsOf
  rw [List.getElem?_map, List.getElem?_range hi]
  rfl
theorem words_math {ps qs : List Pt} {m i : Nat} {p : Pt} (S : Small ps m) (hp : ps[i]? = some p) (h : qs.Perm (ps.eraseIdx i)) :
    optS (wordOf ps m i) = valS qs m p.row ∧
    ((optS (wordOf ps m i) = openS ∧ pullOf ps m i = 1) ∨
      (∃ v, v = valueOf (ps.eraseIdx i) m p.row ∧ optS (wordOf ps m i) = ratS v ∧ pullOf ps m i ≠ 1 ∧ (restOf ps m).getD i 0 = (1 - pullOf ps m i) * (p.want - v))) := by
  have hi := (List.getElem?_eq_some_iff.mp hp).1
  have eg : ps.getD i noPt = p := by rw [List.getD_eq_getElem?_getD, hp]; rfl
  obtain ⟨l1, l2⟩ := loo ps m i hi fun q hq => (S.wt q hq).2
  rw [eg] at l1 l2
  have eW : wordOf ps m i = if sureB (ps.eraseIdx i) m p.row = true then some (valueOf (ps.eraseIdx i) m p.row) else none := by
    have eg' : ps.getD i ⟨[], 0, 0⟩ = p := eg
    unfold wordOf
    rw [eg']
  rw [eW]
  unfold valS
  rw [sure_perm h, value_perm h]
  cases hs : sureB (ps.eraseIdx i) m p.row with
  | true =>
    obtain ⟨a, b⟩ := l1 hs
    exact ⟨rfl, .inr ⟨_, rfl, rfl, a, b⟩⟩
  | false => exact ⟨rfl, .inl ⟨rfl, l2 hs⟩⟩
theorem row_split {r : Row} (hne : r ≠ []) : Txt.split (S (rowS r)) ("," : Str) = (r.map ratS).map S := by
  rw [l_comma, split_S (List.cons_ne_nil _ _) rfl]
  unfold rowS
  rw [spl_join (fun e => hne (List.map_eq_nil_iff.mp e)) fun p hp => ?_]
  obtain ⟨q, _, rfl⟩ := List.mem_map.mp hp
  exact fun h => by rcases ratS_mem h with h | h <;> omega
theorem rowS_size {r : Row} (hl : r.length ≤ 8) (sz : ∀ q, q ∈ r → Sz q) : (rowS r).length ≤ 40000 := by
  have bl : ∀ x, x ∈ r.map ratS → x.length ≤ 3900 := fun x hx => by
    obtain ⟨q, hq, rfl⟩ := List.mem_map.mp hx
    have := ratS_len (sz q hq).1 (sz q hq).2 (by decide)
    omega
  have jl := joinL_len [44] 3900 _ bl
  rw [List.length_map] at jl
  have : r.length * (3900 + [44].length) ≤ 8 * 3901 := Nat.mul_le_mul hl (Nat.le_refl _)
  unfold rowS
  omega
end Np
end
section
set_option linter.all false
set_option maxRecDepth 100000
set_option maxHeartbeats 4000000
/-! The word of the others, walked. -/
namespace Np
open PySem PySem.Spec PyProof.Rows L2 SX
def spWords (K : PySem.W.Frag) (CD C : Addr) : Sp := fun vs H Q _ => ∃ (d : Addr) (sv : V) (n : Int) (st : Pl) (o : Option Pl) (G : List Addr) (b : Nat), vs = [.ref d, sv, .int n] ∧ DeskAt K CD C H d (deskPs st o) G ∧ Dp K (less G H) sv (encLS st.1) ∧ LInv st b ∧ b ≤ 8 ∧ st.1.kept ≠ [] ∧
  ∀ H' G' st2, Fr G H G' H' → DeskAt K CD C H' d (deskPs st (some st2)) G' → Q (.bl true) H'
abbrev N_law_words_good : List Str := ["_law_desk", "_law_state", "_law_number", "_law_wide", "_law_points", "_law_fresh", "_law_at", "_law_word", "_law_rest", "_law_pull", "_law_between"]
theorem sc_law_words_good : FnScope ["_law_desk", "_law_state", "_law_number", "_law_wide", "_law_points", "_law_fresh", "_law_at", "_law_word", "_law_rest", "_law_pull", "_law_between"] ["_law_desk", "_law_state", "_law_number"] (defScope s_law_words_good) := ⟨rfl, rfl, rfl, by decide +kernel, rfl, by decide +kernel, by decide +kernel⟩
theorem b_law_words_good : BindOk "_law_words_good" "_law_words_good" s_law_words_good ["_law_desk", "_law_state", "_law_number"] := fun _ _ _ _ _ _ us hl => match us, hl with | [_, _, _], _ => rfl
theorem dp_tpq {K : PySem.W.Frag} {F F' : List Addr} {H H' : Hp} (f : Fr F H F' H') {v : V} {q : Rat} (h : Dp K H v (encQ q)) : Dp K H' v (encQ q) := dp_same (tp_sub _) (dp_same f.t (tp_q h))
section
variable {P : Program} {w : World} {K : PySem.W.Frag} {mg : Str → Option Value} {base : Heap} {aN aO CD C : Addr}
theorem k_law_words_good (T : Txt K mg aN aO) (F : DefAt K mg "_law_words_good" s_law_words_good) (c_Desk_say : C8.Met P w K mg base 14 CD "say" (spSay K CD C) []) (c_law_ratio_of : C8.Cal P w K mg base 2 "_law_ratio_of" (spRatioOf K) [])
    (c_law_beside : C8.Cal P w K mg base 15 "_law_beside" (spBeside K CD C) []) (c_law_row_text : C8.Cal P w K mg base 2 "_law_row_text" (spShownRow K) []) (c_law_less : C8.Cal P w K mg base 2 "_law_less" (spMinus K) []) (c_law_times : C8.Cal P w K mg base 2 "_law_times" (spTimes K) []) :
    C8.Cal P w K mg base 16 "_law_words_good" (spWords K CD C) [] := by
  refine cal_of F sc_law_words_good b_law_words_good (fun vs H Q E h => ?_) (fun f cdv A outer s H vs Q E hr h => ?_)
  · obtain ⟨d, sv, n, st, o, G, b, rfl, _⟩ := h
    rfl
  · obtain ⟨d, sv, n, st, o, G, b, rfl, hD, hsv, inv, hb, hne, hQ⟩ := h
    have ok := inv.s.ok hb
    have fine := inv.fine hb
    have kindG := hD.kind
    have S0 : Small (ptsOf st) st.1.span := ok.small
    obtain ⟨a, pv0, rfl, ha, hpv⟩ := dp_ls hsv
    obtain ⟨pl, xs, rfl, hpl, hpd⟩ := dp_list hpv
    have hlen := hpd.length
    rw [List.length_map] at hlen
    have sub := less_sub G H
    have l0 : 0 < xs.length := by
      rw [hlen]
      exact List.length_pos_iff.mpr hne
    refine ⟨_, (pss_cons (ps_asg (pv 1) (pg_unl rfl (pgs_cons (pg_name (i := 3) sc_law_words_good.nd rfl (Or.inl rfl)) (pgs_cons (pg_name (i := 4) sc_law_words_good.nd rfl (Or.inl rfl)) (pgs_cons (pg_name (i := 5) sc_law_words_good.nd rfl (Or.inl rfl)) pgs_nil)))))
    (pss_cons (ps_set (i := 6) sc_law_words_good.nd rfl (Or.inl rfl) (pe_op op_mod (pv 2) (pe_callB call_len_seq rfl T.len (by decide +kernel) (pa_cons (pv 4) pa_nil))))
    (pss_cons (ps_set (i := 7) sc_law_words_good.nd rfl (Or.inl rfl) (C8.pe_mt c_Desk_say hr (by decide) (pv 0) (pa_cons (pe_op op_add_str pe_str (pe_callTy call_str_int rfl T.str (by decide +kernel) (pa_cons (pe_ix ix_list (pe_ix ix_list (pv 4) (pv 6) (fun _ _ => rfl)) pe_int (fun _ _ => rfl)) pa_nil))) pa_nil)))
    (pss_cons (ps_set (i := 8) sc_law_words_good.nd rfl (Or.inl rfl) (C8.pe_c c_law_ratio_of hr (by decide) rfl (pa_cons (pe_ix ix_list (pe_split (C8.pe_mt c_Desk_say hr (by decide) (pv 0) (pa_cons pe_str pa_nil)) pe_str) (pv 6) (fun _ _ => rfl)) pa_nil)))
    (pss_cons (ps_set (i := 9) sc_law_words_good.nd rfl (Or.inl rfl) (C8.pe_c c_law_ratio_of hr (by decide) rfl (pa_cons (pe_ix ix_list (pe_split (C8.pe_mt c_Desk_say hr (by decide) (pv 0) (pa_cons pe_str pa_nil)) pe_str) (pv 6) (fun _ _ => rfl)) pa_nil)))
    (pss_cons (ps_if (pt_not (pt_val (C8.pe_c c_law_beside hr (by decide) rfl (pa_cons (pv 0) (pa_cons (pv 1) (pa_cons (pv 6) (pa_cons (pe_op op_fdivW (pv 2) pe_int) pa_nil))))))) (pss_one (ps_ret pe_bl))
    pss_nil)
    (pss_cons (ps_if (pt_cmpR op_ne (pv 7) (C8.pe_mt c_Desk_say hr (by decide) (pv 0) (pa_cons (pe_op op_add_str pe_str (C8.pe_c c_law_row_text hr (by decide) rfl (pa_cons (pe_ix ix_list (pe_ix ix_list (pe_ix ix_list (pv 4) (pv 6) (fun _ _ => rfl)) pe_int (fun _ _ => rfl)) pe_int (fun _ _ => rfl)) pa_nil))) pa_nil)) (nomark _)) (pss_one (ps_ret pe_bl))
    pss_nil)
    (pss_cons (ps_if (pt_cmpR op_eq (pv 7) pe_str (nomark _)) (pss_one (ps_ret (pe_cmpR (op_eqD hr.units) (pv 9) (pe_tup (pa_cons pe_int (pa_cons pe_int pa_nil))) (nomark _))))
    pss_nil)
    (pss_cons (ps_set (i := 10) sc_law_words_good.nd rfl (Or.inl rfl) (C8.pe_c c_law_less hr (by decide) rfl (pa_cons (pe_ix ix_list (pe_ix ix_list (pe_ix ix_list (pv 4) (pv 6) (fun _ _ => rfl)) pe_int (fun _ _ => rfl)) pe_int (fun _ _ => rfl)) (pa_cons (C8.pe_c c_law_ratio_of hr (by decide) rfl (pa_cons (pv 7) pa_nil)) pa_nil))))
    (pss_one (ps_ret (pe_and (pe_cmpR (op_neD hr.units) (pv 9) (pe_tup (pa_cons pe_int (pa_cons pe_int pa_nil))) (nomark _)) (pe_one (pe_cmpR (op_eqD hr.units) (pv 8) (C8.pe_c c_law_times hr (by decide) rfl (pa_cons (C8.pe_c c_law_less hr (by decide) rfl (pa_cons (pe_tup (pa_cons pe_int (pa_cons pe_int pa_nil))) (pa_cons (pv 9) pa_nil))) (pa_cons (pv 10) pa_nil))) (nomark _))))))))))))))), ?_⟩
    refine ⟨_, rfl, a, _, rfl, sub.seq ha, rfl, _, _, rfl, _, _, rfl, _, _, rfl, rfl, ?_⟩
    obtain ⟨i, ei⟩ : ∃ i : Nat, n % ((xs.length : Nat) : Int) = (i : Int) := ⟨(n % ((xs.length : Nat) : Int)).toNat, by have := Int.emod_nonneg n (show ((xs.length : Nat) : Int) ≠ 0 by omega); omega⟩
    have il : i < xs.length := by have := Int.emod_lt_of_pos n (show (0 : Int) < ((xs.length : Nat) : Int) by omega); omega
    obtain ⟨q, eq⟩ : ∃ q, st.1.kept[i]? = some q := ⟨_, List.getElem?_eq_getElem (by omega)⟩
    obtain ⟨v0, ev0⟩ : ∃ v, xs[i]? = some v := ⟨_, List.getElem?_eq_getElem il⟩
    obtain ⟨q', eq', hq⟩ := kept_get hpd ev0
    rw [eq] at eq'
    cases Option.some.inj eq'
    obtain ⟨b0, u, rfl, hb0, hu⟩ := dp_lk hq
    obtain ⟨pa, px, py, pz, rfl, hpa, hx, hy, hz⟩ := dp_lp hu
    refine ⟨_, rfl, _, rfl, pl, xs, rfl, .inl (sub.seq hpl), _, _, rfl, rfl, (by show (0 : Int) < ((xs.length : Nat) : Int); omega), ?_⟩
    have ev : (fun i j : Int => V.int (i % j)) n ((xs.length : Nat) : Int) = V.int (i : Int) := congrArg V.int ei
    rw [ev]
    have ep : (ptsOf st)[i]? = some q.2 := by
      unfold ptsOf
      rw [List.getElem?_map, eq]
      rfl
    have pi : i < (ptsOf st).length := (List.getElem?_eq_some_iff.mp ep).1
    have pl8 := S0.len
    obtain ⟨na, nl, nz⟩ := desk_apart st o
    -- the word
    obtain ⟨dx, _, _, _, x0, _⟩ := id hD
    have qn : q.1 < 10 ^ 6 := by
      have := inv.s.low q (List.mem_of_getElem? eq)
      have := inv.s.f
      exact Nat.lt_of_le_of_lt (show q.1 ≤ 8 by omega) (by decide)
    have en : Str.ofString (toString ((q.1 : Nat) : Int)) = S (numS (q.1 : Nat)) := num_text _
    have lwo : ("word one " : Str) = S (tl "word" ++ ([32] ++ (oneS ++ [32]))) := by decide +kernel
    refine ⟨_, rfl, d, dx, _, rfl, x0, rfl, ?_⟩
    refine ⟨_, rfl, _, rfl, pl, xs, _, _, rfl, rfl, sub.seq hpl, atI_nat ev0, b0, _, _, _, rfl, rfl, sub.seq hb0, atI0, _, rfl, ?_, ?_⟩
    · rw [Int.natAbs_natCast]
      by_cases z : q.1 = 0
      · rw [z]; decide
      · exact (Nat.log2_lt z).mpr (Nat.lt_trans qn (by decide))
    refine ⟨_, _, rfl, rfl, ?_, d, deskPs st o, G, .ask oneS 0 (.word q.1 i q.2), ?_, hD, ⟨na, nl, nm_one, fun z hz => ?_, st, nz, fine, S0, eq⟩, fun H1 G1 ps' ans f1 d1 does => ?_⟩
    · have sl := numS_len (i := ((q.1 : Nat) : Int)) (k := 20) (by rw [Int.natAbs_natCast]; exact Nat.lt_trans qn (by decide)) (by decide)
      show ("word one " : Str).length + (Str.ofString (toString ((q.1 : Nat) : Int))).length ≤ sizeLine
      rw [en, lwo, S_len, S_len, sizeLine_eq]
      have : (tl "word" ++ ([32] ++ (oneS ++ [32]))).length = 9 := by decide +kernel
      omega
    · show [V.ref d, V.str (("word one " : Str) ++ Str.ofString (toString ((q.1 : Nat) : Int)))] = _
      rw [en, lwo, S_cat]
      congr 3
    · rw [List.mem_singleton.mp hz]
      exact qn
    cases does with
    | ask h =>
    rw [nz] at h
    cases Option.some.inj h
    -- the rest
    obtain ⟨dx1, _, _, _, x1, _⟩ := id d1
    have lre : ("rests one" : Str) = S (tl "rests" ++ ([32] ++ oneS)) := by decide +kernel
    refine ⟨_, rfl, d, dx1, _, rfl, x1, rfl, ?_⟩
    refine ⟨d, deskPs st o, G1, .ask oneS 0 .rests, ?_, d1, ⟨na, nl, nm_one, fun z hz => (by cases hz), st, nz, fine, S0, trivial⟩, fun H2 G2 ps2 ans2 f2 d2 does2 => ?_⟩
    · show [V.ref d, V.str ("rests one" : Str)] = _
      rw [lre]
      rfl
    cases does2 with
    | ask h =>
    rw [nz] at h
    cases Option.some.inj h
    have rl : (restOf (ptsOf st) st.1.span).length = (ptsOf st).length := (fit_shape S0).1
    have rne : restOf (ptsOf st) st.1.span ≠ [] := fun e => by rw [e] at rl; have : (0 : Nat) = (ptsOf st).length := rl; omega
    refine ⟨⟨_, rfl⟩, _, _, rfl, rfl, by decide +kernel, ?_, fun a1 ha1 => ?_⟩
    · show (S (rowS (restOf (ptsOf st) st.1.span))).length + 2 ≤ sizeLine
      rw [S_len, sizeLine_eq]
      have := rowS_size (by omega) S0.zRest
      omega
    have s2 : Same H2 (upd H2 a1 (.lst (((restOf (ptsOf st) st.1.span).map ratS).map S |>.map V.str))) := same_new ha1
    have g2 : upd H2 a1 (.lst (((restOf (ptsOf st) st.1.span).map ratS).map S |>.map V.str)) a1 = some (.lst (((restOf (ptsOf st) st.1.span).map ratS).map S |>.map V.str)) := upd_same
    rw [show Txt.split (S (Ask.rests.ans st)) ("," : Str) = ((restOf (ptsOf st) st.1.span).map ratS).map S from row_split rne]
    generalize upd H2 a1 (.lst (((restOf (ptsOf st) st.1.span).map ratS).map S |>.map V.str)) = H3 at s2 g2 ⊢
    refine ⟨_, rfl, a1, _, _, V.str (S (ratS ((restOf (ptsOf st) st.1.span).getD i 0))), rfl, rfl, SqL.of g2, atI_nat (by rw [List.getElem?_map, List.getElem?_map, List.getElem?_map, rest_at S0 pi]; rfl), _, rfl, S0.zRest _ (List.mem_of_getElem? (rest_at S0 pi)), fun H4 v8 s4 h8 => ?_⟩
    have f24 := f2.trans (Fr.of (s2.trans s4))
    have d4 := (d2.same s2).same s4
    -- the pull
    obtain ⟨dx4, _, _, _, x4, _⟩ := id d4
    have lpu : ("pulls one" : Str) = S (tl "pulls" ++ ([32] ++ oneS)) := by decide +kernel
    refine ⟨_, rfl, d, dx4, _, rfl, x4, rfl, ?_⟩
    refine ⟨d, deskPs st o, G2, .ask oneS 0 .pulls, ?_, d4, ⟨na, nl, nm_one, fun z hz => (by cases hz), st, nz, fine, S0, trivial⟩, fun H5 G5 ps5 ans5 f5 d5 does5 => ?_⟩
    · show [V.ref d, V.str ("pulls one" : Str)] = _
      rw [lpu]
      rfl
    cases does5 with
    | ask h =>
    rw [nz] at h
    cases Option.some.inj h
    have ul : (pullsOf (ptsOf st) st.1.span).length = (ptsOf st).length := by
      unfold pullsOf
      rw [List.length_map, List.length_range]
    have une : pullsOf (ptsOf st) st.1.span ≠ [] := fun e => by rw [e] at ul; have : (0 : Nat) = (ptsOf st).length := ul; omega
    have usz : ∀ x, x ∈ pullsOf (ptsOf st) st.1.span → Sz x := fun x hx => by
      obtain ⟨j, _, rfl⟩ := List.mem_map.mp hx
      exact (S0.pullSz j).1
    refine ⟨⟨_, rfl⟩, _, _, rfl, rfl, by decide +kernel, ?_, fun a5 ha5 => ?_⟩
    · show (S (rowS (pullsOf (ptsOf st) st.1.span))).length + 2 ≤ sizeLine
      rw [S_len, sizeLine_eq]
      have := rowS_size (by omega) usz
      omega
    have s5 : Same H5 (upd H5 a5 (.lst (((pullsOf (ptsOf st) st.1.span).map ratS).map S |>.map V.str))) := same_new ha5
    have g5 : upd H5 a5 (.lst (((pullsOf (ptsOf st) st.1.span).map ratS).map S |>.map V.str)) a5 = some (.lst (((pullsOf (ptsOf st) st.1.span).map ratS).map S |>.map V.str)) := upd_same
    rw [show Txt.split (S (Ask.pulls.ans st)) ("," : Str) = ((pullsOf (ptsOf st) st.1.span).map ratS).map S from row_split une]
    generalize upd H5 a5 (.lst (((pullsOf (ptsOf st) st.1.span).map ratS).map S |>.map V.str)) = H6 at s5 g5 ⊢
    refine ⟨_, rfl, a5, _, _, V.str (S (ratS (pullOf (ptsOf st) st.1.span i))), rfl, rfl, SqL.of g5, atI_nat (by rw [List.getElem?_map, List.getElem?_map, List.getElem?_map, pulls_at pi]; rfl), _, rfl, (S0.pullSz i).1, fun H7 v9 s7 h9 => ?_⟩
    have f57 := f5.trans (Fr.of (s5.trans s7))
    have d7 := (d5.same s5).same s7
    have f07 := f1.trans (f24.trans f57)
    have h87 : Dp K H7 v8 (encQ ((restOf (ptsOf st) st.1.span).getD i 0)) := dp_tpq f57 h8
    -- the plane beside
    refine ⟨_, rfl, _, rfl, _, rfl, _, rfl, _, _, rfl, rfl, wide_div (b := 5) (by decide) (by decide) (by decide) (by decide), ?_⟩
    refine ⟨d, .ref a, i, _, st, o, G5, rfl, d7, dp_same f07.s hsv, ok, fun H8 G8 st2 l f8 d8 hperm hpts hspan fine2 => ⟨_, rfl, iteF ?_⟩⟩
    have eE : someOf st.1 (i : Int) = (ptsOf st).eraseIdx i := someOf_erase st.1 i (by omega)
    rw [eE] at hperm
    have S2 : Small (ptsOf st2) st2.1.span := by
      rw [hpts, hspan]
      exact (S0.erase i).perm hperm
    have tiny : TinyRow st.1.span q.2.row := S0.tiny (List.mem_of_getElem? ep)
    obtain ⟨m1, m2⟩ := words_math S0 ep hperm
    have f08 := f07.trans f8
    have h88 := dp_tpq f8 h87
    have h98 := dp_tpq f8 h9
    have b8 := (less_sub _ _).seq (f08.s.seq hb0)
    have p8 := (less_sub _ _).seq (f08.s.seq hpa)
    have pl_8 := (less_sub _ _).seq (f08.s.seq hpl)
    have rowl : q.2.row.length = st.1.span := tiny.1
    have sp3 := ok.m3
    have sp0 := ok.m0
    have rowf : ∀ z, z ∈ q.2.row → Fine z ∧ Sz z := fun z hz => (tiny.2 z hz).fine (by decide) (by decide) (by decide)
    have kok : (Kd.long q.2.row).ok := ⟨fun e => by rw [e] at rowl; have : (0 : Nat) = st.1.span := rowl; omega, by omega, fun z hz => (rowf z hz).1⟩
    have wl : (rowS q.2.row).length ≤ 60000 := (wd_ok kok).2
    obtain ⟨na2, nl2, _⟩ := desk_apart st (some st2)
    obtain ⟨dx8, _, _, _, x8, _⟩ := id d8
    have lva : ("value two " : Str) = S (tl "value" ++ ([32] ++ (twoS ++ [32]))) := by decide +kernel
    refine ⟨_, rfl, _, rfl, d, dx8, _, rfl, x8, rfl, ?_⟩
    refine ⟨_, rfl, _, rfl, pl, xs, _, _, rfl, rfl, pl_8, atI_nat ev0, b0, _, _, _, rfl, rfl, b8, atI1, pa, _, _, _, rfl, rfl, p8, atI0, ?_⟩
    refine ⟨_, q.2.row, rfl, dp_same (f08.s.trans (less_sub _ _)) hx, by omega, fun z hz => (rowf z hz).2, fun H9 n9 => ?_⟩
    refine ⟨_, _, rfl, rfl, ?_, d, deskPs st (some st2), G8, .ask twoS 1 (.value q.2.row), ?_, d8.same n9, ⟨na2, nl2, nm_two, fun z hz => ?_, st2, rfl, fine2, S2, by show TinyRow st2.1.span q.2.row; rw [hspan]; exact tiny⟩, fun HA GA psA ansA fA dA doesA => ?_⟩
    · show ("value two " : Str).length + (S (rowS q.2.row)).length ≤ sizeLine
      rw [lva, S_len, S_len, sizeLine_eq]
      have : (tl "value" ++ ([32] ++ (twoS ++ [32]))).length = 10 := by decide +kernel
      omega
    · show [V.ref d, V.str (("value two " : Str) ++ S (rowS q.2.row))] = _
      rw [lva, S_cat]
      congr 3
    · rw [List.mem_singleton.mp hz]
      exact kok
    cases doesA with
    | ask h =>
    cases Option.some.inj h
    have f8A : Fr G8 H8 GA HA := (Fr.of n9).trans fA
    have f0A := f08.trans f8A
    have h8A := dp_tpq f8A h88
    have h9A := dp_tpq f8A h98
    have eans : (Ask.value q.2.row).ans st2 = optS (wordOf (ptsOf st) st.1.span i) := by
      show valS (ptsOf st2) st2.1.span q.2.row = _
      rw [hpts, hspan, m1]
    refine ⟨rfl, _, rfl, ?_⟩
    rw [show (!decide (V.str (S ((Ask.word q.1 i q.2).ans st)) = V.str (S ((Ask.value q.2.row).ans st2)))) = false from by rw [eans]; simp [Ask.ans]]
    refine iteF ?_
    refine ⟨_, rfl, rfl, _, rfl, ?_⟩
    have oneQ : ∀ (H' : Hp) (t : Addr), Dp K (upd H' t (.tup [V.int 1, .int 1])) (.ref t) (encQ 1) := fun H' t => q_dp (SqT.of upd_same)
    have eop : decide (V.str (S ((Ask.word q.1 i q.2).ans st)) = V.str ("open" : Str)) = decide (optS (wordOf (ptsOf st) st.1.span i) = openS) := by
      rw [l_open, dec_S]
      rfl
    rw [eop]
    rcases m2 with ⟨o1, o2⟩ | ⟨v, ev, o1, o2, o3⟩
    · rw [decide_eq_true o1]
      refine iteT ?_
      refine ⟨_, rfl, by show 2 ≤ sizeLine; decide, fun t ht => ?_⟩
      have st' : Same HA (upd HA t (.tup [V.int 1, .int 1])) := same_new ht
      refine ⟨_, _, dp_same st' h9A, oneQ HA t, (shp_q _).ok (by decide), (shp_q _).ok (by decide), ?_⟩
      rw [eqv_q, o2, decide_eq_true rfl]
      exact hQ _ GA st2 (f0A.trans (Fr.of st')) (dA.same st')
    · rw [decide_eq_false (by rw [o1]; exact ratS_open v)]
      refine iteF ?_
      have pmem := List.mem_of_getElem? ep
      have wcd := S0.want q.2 pmem
      obtain ⟨vz, bz⟩ := (S0.erase i).betweenSz tiny wcd
      rw [← ev] at vz bz
      obtain ⟨uz, u1z⟩ := S0.pullSz i
      have wz : Sz q.2.want := (cd_cq wcd).sz (by decide) (by decide)
      have bA := (less_sub _ _).seq (f0A.s.seq hb0)
      have pA := (less_sub _ _).seq (f0A.s.seq hpa)
      have pl_A := (less_sub _ _).seq (f0A.s.seq hpl)
      refine ⟨_, rfl, _, rfl, pl, xs, _, _, rfl, rfl, pl_A, atI_nat ev0, b0, _, _, _, rfl, rfl, bA, atI1, pa, _, _, _, rfl, rfl, pA, atI1, ?_⟩
      refine ⟨_, rfl, v, by show [V.str (S (optS (wordOf (ptsOf st) st.1.span i)))] = _; rw [o1], vz, fun HB vB nB hB => ?_⟩
      refine ⟨_, _, q.2.want, v, rfl, dp_same ((f0A.s.trans (less_sub _ _)).trans nB) hy, hB, wz, vz, trivial, fun HC v10 nC hC => ?_⟩
      have nAC := nB.trans nC
      refine ⟨_, rfl, by show 2 ≤ sizeLine; decide, fun t ht => ?_⟩
      have nD : Same HC (upd HC t (.tup [V.int 1, .int 1])) := same_new ht
      have oD := oneQ HC t
      generalize upd HC t (.tup [V.int 1, .int 1]) = HD at nD oD ⊢
      have nAD := nAC.trans nD
      refine ⟨_, _, dp_same nAD h9A, oD, (shp_q _).ok (by decide), (shp_q _).ok (by decide), _, rfl, ?_⟩
      rw [eqv_q, show (!decide (pullOf (ptsOf st) st.1.span i = 1)) = true from by rw [decide_eq_false o2]; rfl]
      refine iteT ?_
      refine ⟨_, rfl, by show 2 ≤ sizeLine; decide, fun t2 ht2 => ?_⟩
      have nE : Same HD (upd HD t2 (.tup [V.int 1, .int 1])) := same_new ht2
      have oE := oneQ HD t2
      generalize upd HD t2 (.tup [V.int 1, .int 1]) = HE at nE oE ⊢
      have nAE := nAD.trans nE
      refine ⟨_, rfl, _, _, 1, pullOf (ptsOf st) st.1.span i, rfl, oE, dp_same nAE h9A, one_sz, uz, trivial, fun HF vF nF hF => ?_⟩
      refine ⟨_, rfl, _, _, 1 - pullOf (ptsOf st) st.1.span i, q.2.want - v, rfl, hF, dp_same (nD.trans (nE.trans nF)) hC, u1z, bz, trivial, fun HG vG nG hG => ?_⟩
      have nAG := nAE.trans (nF.trans nG)
      refine ⟨_, _, dp_same nAG h8A, hG, (shp_q _).ok (by decide), (shp_q _).ok (by decide), ?_⟩
      rw [eqv_q, o3, decide_eq_true rfl]
      exact hQ _ GA st2 (f0A.trans (Fr.of nAG)) (dA.same nAG)
end
end Np
end
section
set_option linter.all false
set_option maxRecDepth 100000
set_option maxHeartbeats 4000000
/-! Steps and marks: the plain part. -/
namespace Np
open PySem PySem.Spec PyProof.Rows L2 SX
/-! ### states compared -/
theorem Shp.mono {d : PyData} {k j : Nat} (h : Shp d k) (hk : k ≤ j) : Shp d j := ⟨h.1, Nat.le_trans h.2 hk⟩
theorem shp_LP (p : Pt) : Shp (encLP p) 3 := shp_list fun d hd => by
  rcases List.mem_cons.mp hd with rfl | hd
  · exact shp_R _
  rcases List.mem_cons.mp hd with rfl | hd
  · exact (shp_q _).mono (by decide)
  · rw [List.mem_singleton.mp hd]
    exact (shp_q _).mono (by decide)
theorem shp_LK (q : Nat × Pt) : Shp (encLK q) 4 := shp_list fun d hd => by
  rcases List.mem_cons.mp hd with rfl | hd
  · exact shp_int _ _
  · rw [List.mem_singleton.mp hd]
    exact shp_LP _
theorem shp_LS (s : PS) : Shp (encLS s) 6 := shp_list fun d hd => by
  rcases List.mem_cons.mp hd with rfl | hd
  · exact shp_int _ _
  rcases List.mem_cons.mp hd with rfl | hd
  · refine shp_list fun d hd => ?_
    obtain ⟨q, _, rfl⟩ := List.mem_map.mp hd
    exact shp_LK q
  · rw [List.mem_singleton.mp hd]
    exact shp_int _ _
theorem joinL_mem {sep : List Nat} {c : Nat} : ∀ {l : List (List Nat)}, c ∈ TL.joinL sep l → c ∈ sep ∨ ∃ x, x ∈ l ∧ c ∈ x
  | [], h => by cases h
  | [x], h => .inr ⟨x, List.mem_cons_self, h⟩
  | x :: y :: l, h => by
    have h : c ∈ x ++ (sep ++ TL.joinL sep (y :: l)) := h
    rcases List.mem_append.mp h with h | h
    · exact .inr ⟨x, List.mem_cons_self, h⟩
    rcases List.mem_append.mp h with h | h
    · exact .inl h
    · rcases joinL_mem (l := y :: l) h with h | ⟨z, hz, h⟩
      · exact .inl h
      · exact .inr ⟨z, List.mem_cons_of_mem _ hz, h⟩
def Low (x : List Nat) : Prop := ∀ c, c ∈ x → c < 1114112
theorem low_rat (q : Rat) : Low (ratS q) := fun c hc => by rcases ratS_mem hc with e | e <;> omega
theorem low_row (r : Row) : Low (rowS r) := fun c hc => by
  rcases joinL_mem hc with h | ⟨x, hx, h⟩
  · rw [List.mem_singleton.mp h]
    decide
  · obtain ⟨q, _, rfl⟩ := List.mem_map.mp hx
    exact low_rat q c h
theorem low_ints (l : List Nat) : Low (intsS l) := fun c hc => by
  rcases joinL_mem hc with h | ⟨x, hx, h⟩
  · rw [List.mem_singleton.mp h]
    decide
  · obtain ⟨q, _, rfl⟩ := List.mem_map.mp hx
    rcases numS_mem h with e | e <;> omega
theorem low_ways (ps : List Pt) (m : Nat) : Low (waysS ps m) := fun c hc => by
  rcases joinL_mem hc with h | ⟨x, hx, h⟩
  · rw [List.mem_singleton.mp h]
    decide
  · obtain ⟨q, _, rfl⟩ := List.mem_map.mp hx
    exact low_row q c h
theorem shp_texts {l : List (List Nat)} (h : ∀ x, x ∈ l → Low x) : Shp (encTexts l) 1 := shp_list fun d hd => by
  obtain ⟨x, hx, rfl⟩ := List.mem_map.mp hd
  refine ⟨?_, Nat.zero_le _⟩
  have : x.all (fun c => decide (c < 1114112)) = true := List.all_eq_true.mpr fun c hc => decide_eq_true (h x hx c hc)
  simpa [PyData.canLay0, PyData.strOk, S] using this
theorem shp_answers (ps : List Pt) (m : Nat) : Shp (encTexts (answersOf ps m)) 1 := shp_texts fun x hx => by
  rcases List.mem_cons.mp hx with rfl | hx
  · exact low_row _
  rcases List.mem_cons.mp hx with rfl | hx
  · exact low_ints _
  rcases List.mem_cons.mp hx with rfl | hx
  · exact low_ways _ _
  · rw [List.mem_singleton.mp hx]
    exact low_rat _
def Unlike (s t : PS) : Prop := s.span ≠ t.span ∨ s.kept.length ≠ t.kept.length ∨ s.fresh ≠ t.fresh
theorem eqvAll_len : ∀ {ds es : List PyData}, ds.length ≠ es.length → PyData.eqvAll ds es = false
  | [], [], h => absurd rfl h
  | [], _ :: _, _ => by simp only [PyData.eqvAll]
  | _ :: _, [], _ => by simp only [PyData.eqvAll]
  | d :: ds, e :: es, h => by
    have := eqvAll_len (ds := ds) (es := es) (fun z => h (congrArg (· + 1) z))
    simp only [PyData.eqvAll, this, Bool.and_false]
theorem eqv_LS (s t : PS) : PyData.eqv (encLS s) (encLS t) = (((s.span : Nat) : Int) == ((t.span : Nat) : Int) && (PyData.eqvAll (s.kept.map encLK) (t.kept.map encLK) && (((s.fresh : Nat) : Int) == ((t.fresh : Nat) : Int) && true))) := by
  unfold encLS
  simp only [PyData.eqv, PyData.eqvAll]
theorem eqv_unlike {s t : PS} (h : Unlike s t) : PyData.eqv (encLS s) (encLS t) = false := by
  rw [eqv_LS]
  rcases h with h | h | h
  · rw [show (((s.span : Nat) : Int) == ((t.span : Nat) : Int)) = false from beq_eq_false_iff_ne.mpr (by omega)]
    rfl
  · rw [eqvAll_len (by rw [List.length_map, List.length_map]; exact h)]
    simp
  · rw [show (((s.fresh : Nat) : Int) == ((t.fresh : Nat) : Int)) = false from beq_eq_false_iff_ne.mpr (by omega)]
    simp
theorem eqv_LS_self (s : PS) : PyData.eqv (encLS s) (encLS s) = true := SeqAt.eqv_refl _ (shp_LS s).1
theorem eqv_answers (ps : List Pt) (m : Nat) : PyData.eqv (encTexts (answersOf ps m)) (encTexts (answersOf ps m)) = true := SeqAt.eqv_refl _ (shp_answers ps m).1
theorem answers_perm {ps qs : List Pt} (h : qs.Perm ps) (m : Nat) : answersOf qs m = answersOf ps m := by
  unfold answersOf waysS
  rw [told_perm h, free_perm h, ways_perm h, squares_perm h]
/-! ### what a deed does to the marks -/
theorem deed_cases {st : Pl} {b : Nat} (h : LInv st b) (n : Int) : deedOf st n = st ∨ ((deedOf st n).2 = st.2 ++ [st.1] ∧ Unlike (deedOf st n).1 st.1 ∧ (st.1.kept ≠ [] ∨ n % 6 < 2 → (deedOf st n).1.kept ≠ [])) := by
  unfold deedOf
  split
  · refine .inr ⟨rfl, .inr (.inr ?_), fun _ => ?_⟩
    · show st.1.fresh + 1 ≠ st.1.fresh
      omega
    · show st.1.kept ++ [_] ≠ []
      exact List.append_ne_nil_of_right_ne_nil _ (List.cons_ne_nil _ _)
  rename_i k2
  split
  · rename_i z
    have il : deedAt st n < st.1.kept.length := by
      unfold deedAt
      have := Int.emod_lt_of_pos (n / 6) (show (0 : Int) < ((st.1.kept.length : Nat) : Int) by omega)
      have := Int.emod_nonneg (n / 6) (show ((st.1.kept.length : Nat) : Int) ≠ 0 by omega)
      omega
    have hl : (st.1.kept.eraseIdx (deedAt st n)).length = st.1.kept.length - 1 := List.length_eraseIdx_of_lt il
    refine .inr ⟨rfl, .inr (.inl ?_), fun _ => ?_⟩
    · show (st.1.kept.eraseIdx (deedAt st n)).length ≠ st.1.kept.length
      omega
    · show st.1.kept.eraseIdx (deedAt st n) ≠ []
      intro e
      rw [e] at hl
      have : 0 = st.1.kept.length - 1 := hl
      omega
  split
  · refine .inr ⟨rfl, .inl ?_, fun hk => ?_⟩
    · show st.1.span + 1 ≠ st.1.span
      omega
    · show mixK _ st.1.kept st.1.kept.length ≠ []
      intro e
      have hl := mixK_len (widP (colOf (n / 6) st.1.kept.length)) st.1.kept st.1.kept.length
      rw [e] at hl
      rcases hk with hk | hk
      · exact hk (List.length_eq_zero_iff.mp hl.symm)
      · exact k2 hk
  split
  · rename_i z
    refine .inr ⟨rfl, .inl ?_, fun hk => ?_⟩
    · show st.1.span - 1 ≠ st.1.span
      omega
    · show mixK _ st.1.kept st.1.kept.length ≠ []
      intro e
      have hl := mixK_len (fun _ => narP) st.1.kept st.1.kept.length
      rw [e] at hl
      rcases hk with hk | hk
      · exact hk (List.length_eq_zero_iff.mp hl.symm)
      · exact k2 hk
  · exact .inl rfl
/-- the law's trail is the end of the plane's marks -/
structure LTr (st : Pl) (T : List PS) (bs : Nat) (s0 : PS) : Prop where
  ex : ∃ B : List PS, B.length = bs ∧ st.2 ++ [st.1] = B ++ T
  hd : T[0]? = some s0
  ne : ∀ s, s ∈ T → s.kept ≠ []
theorem LTr.pos {st : Pl} {T : List PS} {bs : Nat} {s0 : PS} (h : LTr st T bs s0) : 0 < T.length := (List.getElem?_eq_some_iff.mp h.hd).1
theorem LTr.len {st : Pl} {T : List PS} {bs : Nat} {s0 : PS} (h : LTr st T bs s0) : st.2.length + 1 = bs + T.length := by
  obtain ⟨B, hB, e⟩ := h.ex
  have := congrArg List.length e
  rw [List.length_append, List.length_append, hB] at this
  exact this
theorem LTr.last {st : Pl} {T : List PS} {bs : Nat} {s0 : PS} (h : LTr st T bs s0) : ∃ T0, T = T0 ++ [st.1] := by
  obtain ⟨B, hB, e⟩ := h.ex
  have hne : T ≠ [] := fun z => by have := h.pos; rw [z] at this; exact absurd this (by decide)
  refine ⟨T.dropLast, ?_⟩
  have e1 := List.dropLast_concat_getLast hne
  have e2 : (st.2 ++ [st.1]).getLast? = (B ++ T).getLast? := by rw [e]
  rw [List.getLast?_concat, List.getLast?_append, List.getLast?_eq_some_getLast hne] at e2
  rw [← Option.some.inj e2] at e1
  exact e1.symm
theorem LTr.deed {st : Pl} {T : List PS} {bs : Nat} {s0 : PS} (h : LTr st T bs s0) {st' : Pl} (e : st'.2 = st.2 ++ [st.1]) (k : st'.1.kept ≠ []) : LTr st' (T ++ [st'.1]) bs s0 := by
  obtain ⟨B, hB, e1⟩ := h.ex
  refine ⟨⟨B, hB, by rw [e, e1, List.append_assoc]⟩, ?_, fun s hs => ?_⟩
  · rw [List.getElem?_append_left h.pos]
    exact h.hd
  · rcases List.mem_append.mp hs with hs | hs
    · exact h.ne s hs
    · rw [List.mem_singleton.mp hs]
      exact k
theorem back_all {st : Pl} {k : Nat} (hk : k ≤ st.2.length) : (backOf st k).2 ++ [(backOf st k).1] = (st.2 ++ [st.1]).take (k + 1) := by
  unfold backOf
  by_cases z : k < st.2.length
  · have e : st.2[k]? = some st.2[k] := List.getElem?_eq_getElem z
    rw [e]
    show st.2.take k ++ [st.2[k]] = _
    rw [List.take_append_of_le_length z, take_more e]
  · have e : st.2[k]? = none := List.getElem?_eq_none (by omega)
    rw [e]
    show st.2 ++ [st.1] = _
    rw [List.take_of_length_le (by rw [List.length_append]; show st.2.length + 1 ≤ _; omega)]
theorem LTr.back {st : Pl} {T : List PS} {bs : Nat} {s0 : PS} (h : LTr st T bs s0) {i : Nat} (hi : i < T.length) : LTr (backOf st (bs + i)) (T.take (i + 1)) bs s0 := by
  have hl := h.len
  obtain ⟨B, hB, e⟩ := h.ex
  refine ⟨⟨B, hB, ?_⟩, ?_, fun s hs => h.ne s (List.mem_of_mem_take hs)⟩
  · rw [back_all (by omega), e, ← hB, List.take_append, List.take_of_length_le (by omega)]
    congr 2
    omega
  · rw [List.getElem?_take_of_lt (by omega)]
    exact h.hd
theorem back_inv {st : Pl} {b k : Nat} (h : LInv st b) (hk : k ≤ st.2.length) : LInv (backOf st k) b := by
  unfold backOf
  cases e : st.2[k]? with
  | none => exact h
  | some s =>
    have hm := List.mem_of_getElem? e
    obtain ⟨c, hc, i⟩ := h.all s hm
    have ht := h.t
    exact ⟨i.mono hc, by show (st.2.take k).length ≤ b; rw [List.length_take]; omega, fun s hs => h.all s (List.mem_of_mem_take hs)⟩
theorem LInv.mono {st : Pl} {b c : Nat} (h : LInv st b) (hb : b ≤ c) : LInv st c := ⟨h.s.mono hb, Nat.le_trans h.t hb, fun s hs => by
  obtain ⟨k, hk, i⟩ := h.all s hs
  exact ⟨k, by omega, i⟩⟩
/-- led back to the first mark -/
theorem LTr.home {st : Pl} {T : List PS} {bs : Nat} {s0 : PS} (h : LTr st T bs s0) : (backOf st bs).1 = s0 ∧ (backOf st bs).2.length = bs := by
  have hb := h.back h.pos
  rw [Nat.add_zero] at hb
  obtain ⟨T0, e⟩ := hb.last
  have hl := hb.len
  have h1 : (T.take (0 + 1)).length = 1 := by rw [List.length_take]; have := h.pos; omega
  have h2 : T0 = [] := by
    have := congrArg List.length e
    rw [h1, List.length_append] at this
    exact List.length_eq_zero_iff.mp (by have : 1 = T0.length + 1 := this; omega)
  have := hb.hd
  rw [e, h2] at this
  exact ⟨Option.some.inj this, by omega⟩
end Np
end
section
set_option linter.all false
set_option maxRecDepth 100000
set_option maxHeartbeats 4000000
/-! Steps and marks, walked. -/
namespace Np
open PySem PySem.Spec PyProof.Rows L2 SX
def spStepped (K : PySem.W.Frag) (CD C : Addr) : Sp := fun vs H Q _ => ∃ (d : Addr) (tv : V) (bs : Nat) (n : Int) (st : Pl) (o : Option Pl) (G : List Addr) (b : Nat) (tr : List PS) (s0 : PS), vs = [.ref d, tv, .int (bs : Nat), .int n] ∧ DeskAt K CD C H d (deskPs st o) G ∧ Dp K (less G H) tv (.list (tr.map encLS)) ∧ LTr st tr bs s0 ∧ LInv st b ∧ b ≤ 7 ∧ bs ≤ 3 ∧ 0 ≤ n ∧ n.natAbs < 2 ^ 200 ∧
  ∀ H' G' v st' tr', Fr G H G' H' → DeskAt K CD C H' d (deskPs st' o) G' → Dp K (less G' H') v (.list (tr'.map encLS)) → LTr st' tr' bs s0 → LInv st' (b + 1) → Q v H'
abbrev N_law_stepped : List Str := ["_law_desk", "_law_trail", "_law_base", "_law_number", "_law_at", "_law_state"]
theorem sc_law_stepped : FnScope ["_law_desk", "_law_trail", "_law_base", "_law_number", "_law_at", "_law_state"] ["_law_desk", "_law_trail", "_law_base", "_law_number"] (defScope s_law_stepped) := ⟨rfl, rfl, rfl, by decide +kernel, rfl, by decide +kernel, by decide +kernel⟩
theorem b_law_stepped : BindOk "_law_stepped" "_law_stepped" s_law_stepped ["_law_desk", "_law_trail", "_law_base", "_law_number"] := fun _ _ _ _ _ _ us hl => match us, hl with | [_, _, _, _], _ => rfl
theorem small_log {k : Nat} (h : k < 10 ^ 6) : ((k : Nat) : Int).natAbs.log2 < 1920 := by
  rw [Int.natAbs_natCast]
  by_cases z : k = 0
  · rw [z]; decide
  · exact (Nat.log2_lt z).mpr (Nat.lt_trans h (by decide))
theorem small_num {k : Nat} (h : k < 10 ^ 6) : (numS ((k : Nat) : Int)).length ≤ 21 := numS_len (i := ((k : Nat) : Int)) (k := 20) (by rw [Int.natAbs_natCast]; exact Nat.lt_trans h (by decide)) (by decide)
section
variable {P : Program} {w : World} {K : PySem.W.Frag} {mg : Str → Option Value} {base : Heap} {aN aO CD C : Addr}
theorem k_law_stepped (T : Txt K mg aN aO) (F : DefAt K mg "_law_stepped" s_law_stepped) (c_Desk_say : C8.Met P w K mg base 14 CD "say" (spSay K CD C) []) (c_law_deed : C8.Cal P w K mg base 15 "_law_deed" (spDeed K CD C) []) :
    C8.Cal P w K mg base 16 "_law_stepped" (spStepped K CD C) [] := by
  refine cal_of F sc_law_stepped b_law_stepped (fun vs H Q E h => ?_) (fun f cdv A outer s H vs Q E hr h => ?_)
  · obtain ⟨d, tv, bs, n, st, o, G, b, tr, s0, rfl, _⟩ := h
    rfl
  · obtain ⟨d, tv, bs, n, st, o, G, b, tr, s0, rfl, hD, hT, lt, inv, hb, hbs, hn0, hn, hQ⟩ := h
    have ok := inv.s.ok (by omega)
    have fine := inv.fine (by omega)
    obtain ⟨tl0, ts, rfl, hts, htd⟩ := dp_list hT
    have hlen := htd.length
    rw [List.length_map] at hlen
    have sub := less_sub G H
    have tpos := lt.pos
    have tlen := lt.len
    have it := inv.t
    obtain ⟨T0, eT⟩ := lt.last
    refine ⟨_, (pss_cons (ps_if (pt_cmpR op_eq (pe_op op_mod (pv 3) pe_int) pe_int (nomark _)) (pss_cons (ps_set (i := 4) sc_law_stepped.nd rfl (Or.inl rfl) (pe_op op_mod (pe_op op_fdivW (pv 3) pe_int) (pe_callB call_len_seq rfl T.len (by decide +kernel) (pa_cons (pv 1) pa_nil))))
    (pss_cons (ps_if (pt_cmpR op_ne (C8.pe_mt c_Desk_say hr (by decide) (pv 0) (pa_cons (pe_op op_add_str pe_str (pe_callTy call_str_int rfl T.str (by decide +kernel) (pa_cons (pe_op op_add (pv 2) (pv 4)) pa_nil))) pa_nil)) pe_str (nomark _)) (pss_one (ps_ret pe_non))
    pss_nil)
    (pss_one (ps_ret (pe_slice sl_list (pv 1) po_none (po_some (pe_op op_add (pv 4) pe_int)))))))
    pss_nil)
    (pss_cons (ps_set (i := 5) sc_law_stepped.nd rfl (Or.inl rfl) (C8.pe_c c_law_deed hr (by decide) rfl (pa_cons (pv 0) (pa_cons (pe_ix ix_list (pv 1) (pe_un un_neg pe_int) (fun _ _ => rfl)) (pa_cons (pv 3) pa_nil)))))
    (pss_cons (ps_if (pt_cmpR op_isN (pv 5) pe_non (nomark _)) (pss_one (ps_ret pe_non))
    pss_nil)
    (pss_cons (ps_if (pt_cmpR (op_neD hr.units) (pv 5) (pe_ix ix_list (pv 1) (pe_un un_neg pe_int) (fun _ _ => rfl)) (nomark _)) (pss_one (ps_ret (pe_op op_catL (pv 1) (pe_lst (pa_cons (pv 5) pa_nil)))))
    pss_nil)
    (pss_one (ps_ret (pv 1))))))), ?_⟩
    refine ⟨_, rfl, _, _, rfl, rfl, (by show (0 : Int) < 6; decide), rfl, _, rfl, ?_⟩
    have e5 : decide (V.int (n % 6) = V.int 5) = decide (n % 6 = 5) := decide_eq_decide.mpr ⟨fun e => V.int.inj e, fun e => by rw [e]⟩
    show if decide (V.int (n % 6) = V.int 5) = true then _ else _
    rw [e5]
    obtain ⟨na, nl, nz⟩ := desk_apart st o
    obtain ⟨dx, _, _, _, x0, _⟩ := id hD
    by_cases k5 : n % 6 = 5
    · rw [decide_eq_true k5]
      refine iteT ?_
      obtain ⟨i, ei⟩ : ∃ i : Nat, n / 6 % ((ts.length : Nat) : Int) = (i : Int) := ⟨(n / 6 % ((ts.length : Nat) : Int)).toNat, by have := Int.emod_nonneg (n / 6) (show ((ts.length : Nat) : Int) ≠ 0 by omega); omega⟩
      have il : i < ts.length := by have := Int.emod_lt_of_pos (n / 6) (show (0 : Int) < ((ts.length : Nat) : Int) by omega); omega
      refine ⟨_, rfl, _, _, rfl, rfl, wide_div (b := 5) (by decide) (by decide) (by decide) (by decide), _, rfl, tl0, ts, rfl, .inl (sub.seq hts), _, _, rfl, rfl, (by show (0 : Int) < ((ts.length : Nat) : Int); omega), ?_⟩
      have ev : (fun i j : Int => V.int (i % j)) (n / 6) ((ts.length : Nat) : Int) = V.int (i : Int) := congrArg V.int ei
      rw [ev]
      have kn : bs + i < 10 ^ 6 := Nat.lt_of_le_of_lt (show bs + i ≤ 12 by omega) (by decide)
      have ek : ((bs : Nat) : Int) + ((i : Nat) : Int) = ((bs + i : Nat) : Int) := by omega
      have en : Str.ofString (toString (((bs : Nat) : Int) + ((i : Nat) : Int))) = S (numS ((bs + i : Nat) : Int)) := by rw [ek]; exact num_text _
      have lba : ("back one " : Str) = S (tl "back" ++ ([32] ++ (oneS ++ [32]))) := by decide +kernel
      refine ⟨_, rfl, d, dx, _, rfl, x0, rfl, ?_⟩
      refine ⟨_, rfl, _, rfl, _, _, rfl, rfl, _, rfl, by rw [ek]; exact small_log kn, ?_⟩
      refine ⟨_, _, rfl, rfl, ?_, d, deskPs st o, G, .deed oneS 0 (.back (bs + i)), ?_, hD, ⟨na, nl, nm_one, fun z hz => ?_, st, nz, fine, by show bs + i ≤ st.2.length; omega⟩, fun H3 G3 ps' ans f3 d3 does => ?_⟩
      · have sl := small_num kn
        show ("back one " : Str).length + (Str.ofString (toString (((bs : Nat) : Int) + ((i : Nat) : Int)))).length ≤ sizeLine
        rw [en, lba, S_len, S_len, sizeLine_eq]
        have : (tl "back" ++ ([32] ++ (oneS ++ [32]))).length = 9 := by decide +kernel
        omega
      · show [V.ref d, V.str (("back one " : Str) ++ Str.ofString (toString (((bs : Nat) : Int) + ((i : Nat) : Int))))] = _
        rw [en, lba, S_cat]
        congr 3
      · rw [List.mem_singleton.mp hz]
        exact kn
      cases does with
      | deed h =>
      rw [nz] at h
      cases Option.some.inj h
      refine ⟨rfl, _, rfl, ?_⟩
      rw [show (!decide (V.str (S ((Deed.back (bs + i)).ans st)) = V.str ("ok" : Str))) = false from by rw [l_ok]; simp [Deed.ans]]
      refine iteF ?_
      have hts3 := f3.s.seq hts
      refine ⟨_, rfl, _, rfl, _, _, rfl, rfl, _, rfl, tl0, ts, rfl, (less_sub _ _).seq hts3, fun p1 hp1 => ?_⟩
      rw [show ((i : Nat) : Int) + 1 = ((i + 1 : Nat) : Int) by omega, cut_pre]
      have s1 : Same H3 (upd H3 p1 (.lst (ts.take (i + 1)))) := same_new hp1
      have g1 : upd H3 p1 (.lst (ts.take (i + 1))) p1 = some (.lst (ts.take (i + 1))) := upd_same
      show Q (.ref p1) (upd H3 p1 (.lst (ts.take (i + 1))))
      generalize upd H3 p1 (.lst (ts.take (i + 1))) = H4 at *
      have out : ¬ p1 ∈ G3 := fun hm => by
        obtain ⟨u, e, _⟩ := d3.kind p1 hm
        rw [hp1] at e
        cases e
      refine hQ H4 G3 _ (backOf st (bs + i)) (tr.take (i + 1)) (f3.trans (Fr.of s1)) ?_ ?_ (lt.back (by omega)) ((back_inv inv (by omega)).mono (by omega))
      · have := d3.same s1
        cases o <;> exact this
      · rw [List.map_take]
        exact .lst (SqL.of (by rw [less_out out]; exact g1)) ((dps_same (f3.s.trans (less_grow s1)) htd).take _)
    · rw [decide_eq_false k5]
      refine iteF ?_
      have tsl : ∃ v, ts = ts.take (ts.length - 1) ++ [v] ∧ Dp K (less G H) v (encLS st.1) := by
        have hx : (tr.map encLS)[ts.length - 1]? = some (encLS st.1) := by
          rw [hlen, List.getElem?_map, eT, List.getElem?_append_right (by rw [List.length_append]; show T0.length ≤ T0.length + 1 - 1; omega), List.length_append]
          show Option.map encLS ([st.1][T0.length + 1 - 1 - T0.length]?) = _
          rw [show T0.length + 1 - 1 - T0.length = 0 by omega]
          rfl
        obtain ⟨v, ev, hv⟩ := htd.get hx
        refine ⟨v, ?_, hv⟩
        rw [← take_more ev, List.take_of_length_le (by omega)]
      obtain ⟨v, ets, hv⟩ := tsl
      have atl : atI ts (-1) = some v := by
        rw [ets]
        exact atI_last _ _
      refine ⟨_, rfl, _, rfl, _, rfl, tl0, ts, _, v, rfl, rfl, sub.seq hts, atl, _, rfl, ?_⟩
      refine ⟨d, v, n, st, o, G, b, rfl, hD, hv, inv, hb, hn0, hn, .inl (lt.ne st.1 (by rw [eT]; exact List.mem_append_right _ List.mem_cons_self)), fun H3 G3 v3 f3 d3 hv3 => ?_⟩
      obtain ⟨a3, _, rfl, _, _⟩ := dp_ls hv3
      refine ⟨_, rfl, rfl, _, rfl, iteF ?_⟩
      have hts3 := f3.s.seq hts
      refine ⟨_, rfl, _, rfl, _, rfl, tl0, ts, _, v, rfl, rfl, (less_sub _ _).seq hts3, atl, ?_⟩
      refine ⟨encLS (deedOf st n).1, encLS st.1, dp_same (less_sub _ _) hv3, dp_same (f3.s.trans (less_sub _ _)) hv, (shp_LS _).ok (by decide), (shp_LS _).ok (by decide), _, rfl, ?_⟩
      rcases deed_cases inv n with e | ⟨e1, e2, e3⟩
      · rw [show (!PyData.eqv (encLS (deedOf st n).1) (encLS st.1)) = false from by rw [e, eqv_LS_self]; rfl]
        refine iteF ?_
        rw [e] at d3
        exact ⟨_, rfl, hQ H3 G3 _ st tr f3 d3 (.lst hts3 (dps_same f3.s htd)) lt (inv.mono (by omega))⟩
      · rw [show (!PyData.eqv (encLS (deedOf st n).1) (encLS st.1)) = true from by rw [eqv_unlike e2]; rfl]
        refine iteT ?_
        refine ⟨_, rfl, _, rfl, by show 1 ≤ sizeLine; decide, fun l1 hl1 => ?_⟩
        have s1 : Same H3 (upd H3 l1 (.lst [V.ref a3])) := same_new hl1
        have g1 : upd H3 l1 (.lst [V.ref a3]) l1 = some (.lst [V.ref a3]) := upd_same
        generalize upd H3 l1 (.lst [V.ref a3]) = H4 at *
        refine ⟨tl0, l1, ts, _, rfl, rfl, s1.seq ((less_sub _ _).seq hts3), SqL.of g1, Nat.le_of_lt (len_small (by show ts.length + 1 ≤ _; omega)), fun p2 hp2 => ?_⟩
        have s2 : Same H4 (upd H4 p2 (.lst (ts ++ [V.ref a3]))) := same_new hp2
        have g2 : upd H4 p2 (.lst (ts ++ [V.ref a3])) p2 = some (.lst (ts ++ [V.ref a3])) := upd_same
        show Q (.ref p2) (upd H4 p2 (.lst (ts ++ [V.ref a3])))
        generalize upd H4 p2 (.lst (ts ++ [V.ref a3])) = H5 at *
        have s12 := s1.trans s2
        have out : ¬ p2 ∈ G3 := fun hm => by
          obtain ⟨u, e, _⟩ := d3.kind p2 hm
          rw [s1.free hp2] at e
          cases e
        refine hQ H5 G3 _ (deedOf st n) (tr ++ [(deedOf st n).1]) (f3.trans (Fr.of s12)) (d3.same s12) ?_ (lt.deed e1 (e3 (.inl (lt.ne st.1 (by rw [eT]; exact List.mem_append_right _ List.mem_cons_self))))) (deed_inv inv n)
        rw [List.map_append]
        exact .lst (SqL.of (by rw [less_out out]; exact g2)) (DpAll.append (dps_same (f3.s.trans (less_grow s12)) htd) (.cons (dp_same (less_grow s12) hv3) .nil))
end
end Np
end
section
set_option linter.all false
set_option maxRecDepth 100000
set_option maxHeartbeats 4000000
/-! A step is good, walked. -/
namespace Np
open PySem PySem.Spec PyProof.Rows L2 SX
abbrev N_law_step_good : List Str := ["_law_desk", "_law_state", "_law_number"]
theorem sc_law_step_good : FnScope ["_law_desk", "_law_state", "_law_number"] ["_law_desk", "_law_state", "_law_number"] (defScope s_law_step_good) := ⟨rfl, rfl, rfl, by decide +kernel, rfl, by decide +kernel, by decide +kernel⟩
theorem b_law_step_good : BindOk "_law_step_good" "_law_step_good" s_law_step_good ["_law_desk", "_law_state", "_law_number"] := fun _ _ _ _ _ _ us hl => match us, hl with | [_, _, _], _ => rfl
section
variable {P : Program} {w : World} {K : PySem.W.Frag} {mg : Str → Option Value} {base : Heap} {aN aO CD C : Addr}
theorem k_law_step_good (T : Txt K mg aN aO) (F : DefAt K mg "_law_step_good" s_law_step_good) (c_law_words_good : C8.Cal P w K mg base 16 "_law_words_good" (spWords K CD C) []) (c_law_beside : C8.Cal P w K mg base 15 "_law_beside" (spBeside K CD C) [])
    (c_law_answers : C8.Cal P w K mg base 15 "_law_answers" (spAnswers K CD C) []) : C8.Cal P w K mg base 17 "_law_step_good" (spWords K CD C) [] := by
  refine cal_of F sc_law_step_good b_law_step_good (fun vs H Q E h => ?_) (fun f cdv A outer s H vs Q E hr h => ?_)
  · obtain ⟨d, sv, n, st, o, G, b, rfl, _⟩ := h
    rfl
  · obtain ⟨d, sv, n, st, o, G, b, rfl, hD, hsv, inv, hb, hne, hQ⟩ := h
    have ok := inv.s.ok hb
    have fine := inv.fine hb
    have S0 : Small (ptsOf st) st.1.span := ok.small
    refine ⟨_, (pss_cons (ps_if (PW.pt (pw_or (pt_not (pt_val (C8.pe_c c_law_words_good hr (by decide) rfl (pa_cons (pv 0) (pa_cons (pv 1) (pa_cons (pv 2) pa_nil)))))) (pw_or1 (pt_not (pt_val (C8.pe_c c_law_beside hr (by decide) rfl (pa_cons (pv 0) (pa_cons (pv 1) (pa_cons (pe_un un_neg pe_int) (pa_cons (pe_op op_fdivW (pv 2) pe_int) pa_nil)))))))))) (pss_one (ps_ret pe_bl))
    pss_nil)
    (pss_one (ps_ret (pe_cmpR (op_eqD hr.units) (C8.pe_c c_law_answers hr (by decide) rfl (pa_cons (pv 0) (pa_cons pe_str pa_nil))) (C8.pe_c c_law_answers hr (by decide) rfl (pa_cons (pv 0) (pa_cons pe_str pa_nil))) (nomark _))))), ?_⟩
    refine ⟨_, rfl, _, rfl, _, rfl, ?_⟩
    refine ⟨d, sv, n, st, o, G, b, rfl, hD, hsv, inv, hb, hne, fun H1 G1 st2 f1 d1 => ⟨_, rfl, iteF ?_⟩⟩
    refine ⟨_, rfl, _, rfl, _, rfl, _, rfl, _, _, rfl, rfl, wide_div (b := 10) (by decide) (by decide) (by decide) (by decide), ?_⟩
    refine ⟨d, sv, -1, _, st, some st2, G1, rfl, d1, dp_same f1.s hsv, ok, fun H2 G2 st3 l f2 d2 hperm hpts hspan fine3 => ⟨_, rfl, iteF ?_⟩⟩
    rw [show someOf st.1 (-1) = ptsOf st from someOf_all st.1] at hperm
    have S3 : Small (ptsOf st3) st3.1.span := by
      rw [hpts, hspan]
      exact S0.perm hperm
    obtain ⟨na, nl, nz⟩ := desk_apart st (some st3)
    refine ⟨_, rfl, d, oneS, deskPs st (some st3), G2, 0, st, by rw [← l_oneS]; rfl, d2, na, nl, nm_one, rfl, fine, S0, fun H3 G3 v3 f3 d3 h3 => ?_⟩
    refine ⟨_, rfl, d, twoS, deskPs st (some st3), G3, 1, st3, by rw [← l_twoS]; rfl, d3, na, nl, nm_two, rfl, fine3, S3, fun H4 G4 v4 f4 d4 h4 => ?_⟩
    refine ⟨_, _, dp_same (f4.s.trans (less_sub _ _)) h3, dp_same (less_sub _ _) h4, (shp_answers _ _).ok (by decide), (shp_answers _ _).ok (by decide), ?_⟩
    rw [hpts, hspan, answers_perm hperm, eqv_answers]
    exact hQ _ G4 st3 (f1.trans (f2.trans (f3.trans f4))) d4
end
end Np
end
section
set_option linter.all false
set_option maxRecDepth 100000
set_option maxHeartbeats 4000000
/-! The law, walked. -/
namespace Np
open PySem PySem.Spec PyProof.Rows L2 SX
theorem pe_mk0 {X : Cx} {k j : Nat} {C : Addr} {x : Str} {sp : Sp} {dvs : List V} {p pos : Pos} (c : C8.Mak X.prog X.w X.K X.mg X.base k x C sp dvs) (hr : Room j X.A) (hk : k + 1 ≤ j) (hg : Gl X x)
    (hdb : (x == ("__debug__" : Str)) = false := by decide) : PE X (.Call (.Name x p) [] [] pos) (tMake C sp dvs E0 tNil) := by
  obtain ⟨f, fd, ps, ds, M, F, hm, b, d⟩ := c.ex
  exact pe_make0 M F (hr.mono hk) hg hm b d pass0 hdb
def spLaw (K : PySem.W.Frag) : Sp := fun vs H Q _ => ∃ (a : Addr) (ns : List Int), vs = [.ref a] ∧ SqL K H a (ns.map V.int) ∧ ∀ H', Q (.bl true) H'
abbrev N_law : List Str := ["_law_script", "_law_lead", "_law_desk", "_law_state", "_law_base", "_law_k", "_law_trail", "_law_answers_here", "_law_cell_here", "_law_number"]
theorem sc_law : FnScope ["_law_script", "_law_lead", "_law_desk", "_law_state", "_law_base", "_law_k", "_law_trail", "_law_answers_here", "_law_cell_here", "_law_number"] ["_law_script"] (defScope s_law) := ⟨rfl, rfl, rfl, by decide +kernel, rfl, by decide +kernel, by decide +kernel⟩
theorem b_law : BindOk "law" "law" s_law ["_law_script"] := fun _ _ _ _ _ _ us hl => match us, hl with | [_], _ => rfl
theorem spread_range (c : Int) (k : Nat) : 0 ≤ spreadOf c k ∧ spreadOf c k < bigL := by
  unfold spreadOf
  exact ⟨Int.emod_nonneg _ (by decide), Int.emod_lt_of_pos _ (by decide)⟩
theorem spread_size (c : Int) (k : Nat) : (spreadOf c k).natAbs < 2 ^ 140 := by
  obtain ⟨h1, h2⟩ := spread_range c k
  have : bigL < 2 ^ 140 := by decide
  omega
theorem less_nil (H : Hp) : less [] H = H := by
  funext b
  exact less_out List.not_mem_nil
theorem cut58 (ns : List Int) : ∃ cs : List Int, cutV (ns.map V.int) (some 5) (some 8) = cs.map V.int ∧ cs.length ≤ 3 := by
  refine ⟨(ns.drop (min 5 ns.length)).take (min 8 ns.length - min 5 ns.length), ?_, ?_⟩
  · have e1 : HT.sIx (ns.map V.int).length 0 (some ((5 : Nat) : Int)) = min 5 ns.length := by rw [HT.sIx_nat, List.length_map]
    have e2 : HT.sIx (ns.map V.int).length (ns.map V.int).length (some ((8 : Nat) : Int)) = min 8 ns.length := by rw [HT.sIx_nat, List.length_map]
    show ((ns.map V.int).drop (HT.sIx (ns.map V.int).length 0 (some ((5 : Nat) : Int)))).take (HT.sIx (ns.map V.int).length (ns.map V.int).length (some ((8 : Nat) : Int)) - HT.sIx (ns.map V.int).length 0 (some ((5 : Nat) : Int))) = _
    rw [e1, e2, List.map_take, List.map_drop]
  · rw [List.length_take]
    omega
theorem trail_last {K : PySem.W.Frag} {X : Hp} {ts : List V} {tr : List PS} {st : Pl} {bs : Nat} {s0 : PS} (htd : DpAll K X ts (tr.map encLS)) (lt : LTr st tr bs s0) : ∃ v, atI ts (-1) = some v ∧ Dp K X v (encLS st.1) := by
  have hlen := htd.length
  rw [List.length_map] at hlen
  have tpos := lt.pos
  obtain ⟨T0, eT⟩ := lt.last
  have hx : (tr.map encLS)[ts.length - 1]? = some (encLS st.1) := by
    rw [hlen, List.getElem?_map, eT, List.getElem?_append_right (by rw [List.length_append]; show T0.length ≤ T0.length + 1 - 1; omega), List.length_append]
    show Option.map encLS ([st.1][T0.length + 1 - 1 - T0.length]?) = _
    rw [show T0.length + 1 - 1 - T0.length = 0 by omega]
    rfl
  obtain ⟨v, ev, hv⟩ := htd.get hx
  have ets : ts = ts.take (ts.length - 1) ++ [v] := by rw [← take_more ev, List.take_of_length_le (by omega)]
  refine ⟨v, ?_, hv⟩
  rw [ets]
  exact atI_last _ _
theorem fr_new {H H1 : Hp} {G1 : List Addr} (s : Same H H1) (n : ∀ b, b ∈ G1 → H b = Option.none) : Fr [] H G1 H1 := ⟨fun b o e => by
  rw [less_nil] at e
  rw [less_out fun m => by
    rw [n b m] at e
    cases e]
  exact s _ _ e, tp_grow s, fun b h => .inr (n b h)⟩
section
variable {P : Program} {w : World} {K : PySem.W.Frag} {mg : Str → Option Value} {base : Heap} {aN aO CD C : Addr}
theorem fnok_of {x : Str} {st : Stmt} {N ps : List Str} {k : Nat} {sp : Sp} {f0 : Addr} {fd0 : FuncData} (F : FunD K x x (defArgs st) (defBody st) (defScope st) [] [] f0 fd0) (S : FnScope N ps (defScope st)) (len : ∀ vs H Q E, sp vs H Q E → vs.length = ps.length)
    (hbody : ∀ (f : Addr) (cdv : Value) (A : Around) (outer : List Env) (s : Shared) (H : Hp) (vs : List V) (Q : VK) (E : XK), Room k (A.deeper (envOfC x (defScope st) s.heap.objs.size f cdv)) → sp vs H Q E →
      ∃ t, PSs (cxOf CX0 P w K mg base N x (defScope st) f cdv A outer s H E).nox (defBody st) t ∧ t { nx := fun _ H' => Q .non H', rt := Q } (start N vs) H) : FnOk P w K mg base CX0 (k + 1) f0 fd0 ps sp :=
  F.ok S len fun cdv A outer s H vs Q E hr hsp => by
    obtain ⟨t, h1, h2⟩ := hbody f0 cdv A outer s H vs Q E hr hsp
    exact ⟨t, h1.nox, h2⟩
theorem k_law {f0 : Addr} {fd0 : FuncData} (T : Txt K mg aN aO) (F : FunD K "law" "law" (defArgs s_law) (defBody s_law) (defScope s_law) [] [] f0 fd0) (c_Desk : C8.Mak P w K mg base 1 "Desk" CD (spDeskInit K CD C) []) (c_Desk_say : C8.Met P w K mg base 14 CD "say" (spSay K CD C) []) (c_law_cell : C8.Cal P w K mg base 1 "_law_cell" (spCell K) []) (c_law_spread : C8.Cal P w K mg base 1 "_law_spread" spSpread [])
    (c_law_deed : C8.Cal P w K mg base 15 "_law_deed" (spDeed K CD C) []) (c_law_answers : C8.Cal P w K mg base 15 "_law_answers" (spAnswers K CD C) []) (c_law_stepped : C8.Cal P w K mg base 16 "_law_stepped" (spStepped K CD C) [])
    (c_law_step_good : C8.Cal P w K mg base 17 "_law_step_good" (spWords K CD C) []) (c_law_words_good : C8.Cal P w K mg base 16 "_law_words_good" (spWords K CD C) []) : FnOk P w K mg base CX0 18 f0 fd0 ["_law_script"] (spLaw K) := by
  refine fnok_of F sc_law (fun vs H Q E h => ?_) (fun f cdv A outer s H vs Q E hr h => ?_)
  · obtain ⟨a, ns, rfl, _⟩ := h
    rfl
  · obtain ⟨a, ns, rfl, hS, hQ⟩ := h
    refine ⟨_, (pss_cons (ps_set (i := 1) sc_law.nd rfl (Or.inl rfl) (C8.pe_c c_law_spread hr (by decide) rfl (pa_cons (C8.pe_c c_law_cell hr (by decide) rfl (pa_cons (pv 0) (pa_cons pe_int pa_nil))) (pa_cons pe_int pa_nil))))
    (pss_cons (ps_set (i := 2) sc_law.nd rfl (Or.inl rfl) (pe_mk0 c_Desk hr (by decide) rfl))
    (pss_cons (ps_set (i := 3) sc_law.nd rfl (Or.inl rfl) (pe_lst (pa_cons (pe_op op_add pe_int (pe_op op_mod (pv 1) pe_int)) (pa_cons (pe_lst pa_nil) (pa_cons pe_int pa_nil)))))
    (pss_cons (ps_if (pt_cmpR op_ne (C8.pe_mt c_Desk_say hr (by decide) (pv 2) (pa_cons (pe_op op_add_str pe_str (pe_callTy call_str_int rfl T.str (by decide +kernel) (pa_cons (pe_ix ix_list (pv 3) pe_int (fun _ _ => rfl)) pa_nil))) pa_nil)) pe_str (nomark _)) (pss_one (ps_ret pe_bl))
    pss_nil)
    (pss_cons (ps_set (i := 4) sc_law.nd rfl (Or.inl rfl) (pe_op op_add pe_int (pe_op op_mod (pe_op op_fdivW (pv 1) pe_int) pe_int)))
    (pss_cons (ps_for PassesOwn.never rfl (pi_range1 rfl T.range (pa_cons (pv 4) pa_nil)) (pg_name (i := 5) sc_law.nd rfl (Or.inl rfl))
    (pss_cons (ps_set (i := 3) sc_law.nd rfl (Or.inl rfl) (C8.pe_c c_law_deed hr (by decide) rfl (pa_cons (pv 2) (pa_cons (pv 3) (pa_cons (pe_op op_mulW pe_int (C8.pe_c c_law_spread hr (by decide) rfl (pa_cons (C8.pe_c c_law_cell hr (by decide) rfl (pa_cons (pv 0) (pa_cons (pe_op op_add pe_int (pv 5)) pa_nil))) (pa_cons (pe_op op_add pe_int (pv 5)) pa_nil)))) pa_nil)))))
    (pss_one (ps_if (pt_cmpR op_isN (pv 3) pe_non (nomark _)) (pss_one (ps_ret pe_bl))
    pss_nil))))
    (pss_cons (ps_set (i := 6) sc_law.nd rfl (Or.inl rfl) (pe_lst (pa_cons (pv 3) pa_nil)))
    (pss_cons (ps_set (i := 7) sc_law.nd rfl (Or.inl rfl) (C8.pe_c c_law_answers hr (by decide) rfl (pa_cons (pv 2) (pa_cons pe_str pa_nil))))
    (pss_cons (ps_for PassesOwn.never rfl (pi_enum rfl T.enumerate (pa_cons (pe_slice sl_list (pv 0) (po_some pe_int) (po_some pe_int)) pa_nil)) (pg_tup rfl (pgs_cons (pg_name (i := 5) sc_law.nd rfl (Or.inl rfl)) (pgs_cons (pg_name (i := 8) sc_law.nd rfl (Or.inl rfl)) pgs_nil)))
    (pss_cons (ps_set (i := 9) sc_law.nd rfl (Or.inl rfl) (C8.pe_c c_law_spread hr (by decide) rfl (pa_cons (pv 8) (pa_cons (pe_op op_add pe_int (pv 5)) pa_nil))))
    (pss_cons (ps_set (i := 6) sc_law.nd rfl (Or.inl rfl) (C8.pe_c c_law_stepped hr (by decide) rfl (pa_cons (pv 2) (pa_cons (pv 6) (pa_cons (pv 4) (pa_cons (pv 9) pa_nil))))))
    (pss_cons (ps_if (PW.pt (pw_or (pt_cmpR op_isN (pv 6) pe_non (nomark _)) (pw_or1 (pt_cmpR op_ne (C8.pe_mt c_Desk_say hr (by decide) (pv 2) (pa_cons pe_str pa_nil)) (pe_callTy call_str_int rfl T.str (by decide +kernel) (pa_cons (pe_op op_sub (pe_op op_add (pv 4) (pe_callB call_len_seq rfl T.len (by decide +kernel) (pa_cons (pv 6) pa_nil))) pe_int) pa_nil)) (nomark _))))) (pss_one (ps_ret pe_bl))
    pss_nil)
    (pss_one (ps_if (pt_not (pt_val (C8.pe_c c_law_step_good hr (by decide) rfl (pa_cons (pv 2) (pa_cons (pe_ix ix_list (pv 6) (pe_un un_neg pe_int) (fun _ _ => rfl)) (pa_cons (pe_op op_fdivW (pv 9) pe_int) pa_nil)))))) (pss_one (ps_ret pe_bl))
    pss_nil))))))
    (pss_cons (ps_if (PW.pt (pw_or (pt_cmpR op_ne (C8.pe_mt c_Desk_say hr (by decide) (pv 2) (pa_cons (pe_op op_add_str pe_str (pe_callTy call_str_int rfl T.str (by decide +kernel) (pa_cons (pv 4) pa_nil))) pa_nil)) pe_str (nomark _)) (pw_or1 (pt_cmpR op_ne (C8.pe_mt c_Desk_say hr (by decide) (pv 2) (pa_cons pe_str pa_nil)) (pe_callTy call_str_int rfl T.str (by decide +kernel) (pa_cons (pv 4) pa_nil)) (nomark _))))) (pss_one (ps_ret pe_bl))
    pss_nil)
    (pss_one (ps_ret (pe_and (pe_cmpR (op_eqD hr.units) (C8.pe_c c_law_answers hr (by decide) rfl (pa_cons (pv 2) (pa_cons pe_str pa_nil))) (pv 7) (nomark _)) (pe_one (C8.pe_c c_law_words_good hr (by decide) rfl (pa_cons (pv 2) (pa_cons (pv 3) (pa_cons (pe_op op_fdivW (pv 1) pe_int) pa_nil)))))))))))))))))), ?_⟩
    refine ⟨_, rfl, a, ns, 0, rfl, hS, ?_⟩
    refine ⟨cellOf ns 0, 0, rfl, by decide, ?_⟩
    obtain ⟨L, eL⟩ : ∃ L, L = spreadOf (cellOf ns 0) 0 := ⟨_, rfl⟩
    obtain ⟨L0, L1⟩ := spread_range (cellOf ns 0) 0
    rw [← eL] at L0 L1 ⊢
    refine fun d dx hd hdx hne => ?_
    refine ⟨d, dx, rfl, upd_same, fun H1 G1 b1 n1 d1 => ⟨rfl, ?_⟩⟩
    have sub0 : ∀ b o, H b = some o → b ≠ d ∧ upd (upd H dx (.own d)) d (.ins CD dx []) b = some o := fun b o e => by
      have h1 : b ≠ d := ne_of_none e hd
      have h2 : b ≠ dx := ne_of_none e hdx
      exact ⟨h1, by rw [upd_ne h1, upd_ne h2]; exact e⟩
    have s1 : Same H H1 := fun b o e => b1 b o (sub0 b o e).2 (sub0 b o e).1
    have fr1 : Fr [] H G1 H1 := fr_new s1 fun b hb => by
      rcases n1 b hb with rfl | h
      · exact hd
      · cases e : H b with
        | none => rfl
        | some o =>
          rw [(sub0 b o e).2] at h
          cases h
    -- the state
    obtain ⟨m, em⟩ : ∃ m : Nat, 1 + L % 2 = (m : Int) := ⟨(1 + L % 2).toNat, by omega⟩
    have m12 : m = 1 ∨ m = 2 := by omega
    refine ⟨_, rfl, _, _, rfl, rfl, (by show (0 : Int) < 2; decide), _, _, rfl, rfl, ?_⟩
    rw [show (fun i j : Int => V.int (i + j)) 1 (L % 2) = V.int (m : Int) from congrArg V.int em]
    refine ⟨by show 0 ≤ sizeLine; decide, fun e1 he1 => ?_⟩
    have s2 : Same H1 (upd H1 e1 (.lst [])) := same_new he1
    have g2 : upd H1 e1 (.lst []) e1 = some (.lst []) := upd_same
    generalize upd H1 e1 (.lst []) = H2 at s2 g2 ⊢
    refine ⟨by show 3 ≤ sizeLine; decide, fun l hl => ?_⟩
    have s3 : Same H2 (upd H2 l (.lst [V.int (m : Int), V.ref e1, V.int 0])) := same_new hl
    have g3 : upd H2 l (.lst [V.int (m : Int), V.ref e1, V.int 0]) l = some (.lst [V.int (m : Int), V.ref e1, V.int 0]) := upd_same
    generalize upd H2 l (.lst [V.int (m : Int), V.ref e1, V.int 0]) = H3 at s3 g3 ⊢
    have s13 := s2.trans s3
    have d3 := d1.same s13
    have fr3 := fr1.trans (Fr.of s13)
    have sm : (numS ((m : Nat) : Int)).length ≤ 21 := small_num (by omega)
    have enum : Str.ofString (toString ((m : Nat) : Int)) = S (numS (m : Nat)) := num_text _
    have lpo : ("plane one " : Str) = S (tl "plane" ++ ([32] ++ (oneS ++ [32]))) := by decide +kernel
    obtain ⟨dx3, _, _, _, x3, _⟩ := id d3
    refine ⟨_, rfl, d, dx3, _, rfl, x3, rfl, _, rfl, l, _, _, _, rfl, rfl, SqL.of g3, atI0, _, rfl, small_log (by omega), ?_⟩
    refine ⟨_, _, rfl, rfl, ?_, d, [], G1, .plane oneS m Option.none, ?_, d3, ⟨List.nodup_nil, by decide, nm_one, fun z hz => ?_, fun q hq => by cases hq⟩, fun H4 G4 ps' ans f4 d4 does => ?_⟩
    · show ("plane one " : Str).length + (Str.ofString (toString ((m : Nat) : Int))).length ≤ sizeLine
      rw [enum, lpo, S_len, S_len, sizeLine_eq]
      have : (tl "plane" ++ ([32] ++ (oneS ++ [32]))).length = 10 := by decide +kernel
      omega
    · show [V.ref d, V.str (("plane one " : Str) ++ Str.ofString (toString ((m : Nat) : Int)))] = _
      rw [enum, lpo, S_cat]
      congr 3
    · rw [List.mem_singleton.mp hz]
      exact ⟨by omega, by omega⟩
    cases does with
    | plane =>
    refine ⟨rfl, _, rfl, ?_⟩
    rw [show (!decide (V.str (S okS) = V.str ("ok" : Str))) = false from by rw [l_ok]; simp]
    refine iteF ?_
    have d4 : DeskAt K CD C H4 d (deskPs (⟨m, [], 0⟩, []) none) G4 := d4
    have out1 : ∀ z, H1 z = Option.none → ¬ z ∈ G1 := fun z hz hm => by
      obtain ⟨u, e, _⟩ := d1.kind z hm
      rw [hz] at e
      cases e
    have hsv3 : Dp K (less G1 H3) (.ref l) (encLS ⟨m, [], 0⟩) := .lst (SqL.of (by rw [less_out (out1 l (s2.free hl))]; exact g3)) (.cons (.int _) (.cons (.lst (SqL.of (by rw [less_out (out1 e1 he1)]; exact s3 _ _ g2)) .nil) (.cons (.int _) .nil)))
    have hsv4 := dp_same f4.s hsv3
    have fr4 := fr3.trans f4
    obtain ⟨bs, eb⟩ : ∃ bs : Nat, 1 + L / 2 % 3 = (bs : Int) := ⟨(1 + L / 2 % 3).toNat, by omega⟩
    have b13 : 0 < bs ∧ bs ≤ 3 := by omega
    refine ⟨_, rfl, _, _, rfl, rfl, wide_div (b := 2) (by decide) (by decide) (by decide) (by decide), _, _, rfl, rfl, (by show (0 : Int) < 3; decide), _, _, rfl, rfl, ?_⟩
    rw [show (fun i j : Int => V.int (i + j)) 1 (L / 2 % 3) = V.int (bs : Int) from congrArg V.int eb]
    refine ⟨_, rfl, _, rfl, by omega, by omega, for_by (n := bs) (fun j σ H' => ∃ G' st sv, Fr [] H G' H' ∧ DeskAt K CD C H' d (deskPs st none) G' ∧ Dp K (less G' H') sv (encLS st.1) ∧ LInv st j ∧ st.2.length = j ∧ (j = 0 ∨ st.1.kept ≠ []) ∧
        ∃ a5 a6 a7 a8 a9, σ = [some (.ref a), some (.int L), some (.ref d), some sv, some (.int (bs : Nat)), a5, a6, a7, a8, a9])
      ⟨G4, (⟨m, [], 0⟩, []), .ref l, fr4, d4, hsv4, ⟨⟨Nat.zero_le _, Nat.zero_le _, by show 0 < m; omega, by show m ≤ 3; omega, fun q hq => (by cases hq), List.nodup_nil, fun q hq => (by cases hq)⟩, Nat.zero_le _, fun s hs => (by cases hs)⟩, rfl, .inl rfl, _, _, _, _, _, rfl⟩ (fun j σ H' hj hP => ?_) (fun σ H' hP => ?_)⟩
    · obtain ⟨G', st, sv, fr', d', hsv', inv', t', ne', a5, a6, a7, a8, a9, rfl⟩ := hP
      have hS' : SqL K H' a (ns.map V.int) := (less_sub _ _).seq (fr'.s.seq (by rw [less_nil]; exact hS))
      refine ⟨by show j < ((bs : Nat) : Int).toNat; omega, fun v H5 hv => ?_⟩
      obtain ⟨rfl, rfl⟩ := hv
      refine ⟨_, rfl, _, rfl, _, rfl, _, rfl, _, _, rfl, rfl, a, ns, 1 + j, by rw [Int.zero_add]; rfl, hS', ?_⟩
      refine ⟨_, rfl, _, _, rfl, rfl, _, 1 + j, by rw [Int.zero_add]; rfl, by omega, ?_⟩
      obtain ⟨r0, r1⟩ := spread_range (cellOf ns (1 + j)) (1 + j)
      have r2 := spread_size (cellOf ns (1 + j)) (1 + j)
      generalize spreadOf (cellOf ns (1 + j)) (1 + j) = N at r0 r1 r2 ⊢
      have k2 : 6 * N % 6 < 2 := by omega
      refine ⟨_, _, rfl, rfl, wide_of (by decide) (Nat.lt_trans r2 (by decide)), ?_⟩
      refine ⟨d, sv, 6 * N, st, none, G', j, rfl, d', hsv', inv', by omega, by omega, by omega, .inr k2, fun H5 G5 v5 f5 d5 h5 => ?_⟩
      obtain ⟨av, _, rfl, _, _⟩ := dp_ls h5
      refine ⟨_, rfl, rfl, _, rfl, iteF ?_⟩
      have eD : deedOf st (6 * N) = layOf st (pointOf (6 * N / 6) st.1.span) := by
        unfold deedOf
        rw [if_pos k2]
      refine ⟨G5, deedOf st (6 * N), .ref av, fr'.trans f5, d5, h5, deed_inv inv' _, ?_, .inr ?_, _, _, _, _, _, rfl⟩
      · rw [eD]
        show (st.2 ++ [st.1]).length = j + 1
        rw [List.length_append, t']
        rfl
      · rw [eD]
        show st.1.kept ++ [_] ≠ []
        exact List.append_ne_nil_of_right_ne_nil _ (List.cons_ne_nil _ _)
    · obtain ⟨G', st, sv, fr', d', hsv', inv', t', ne', a5, a6, a7, a8, a9, rfl⟩ := hP
      have ne0 : st.1.kept ≠ [] := by
        rcases ne' with h | h
        · omega
        · exact h
      refine ⟨by show ((bs : Nat) : Int).toNat ≤ bs; omega, ?_⟩
      have ok := inv'.s.ok (by omega)
      have fine := inv'.fine (by omega)
      have S0 : Small (ptsOf st) st.1.span := ok.small
      -- the trail
      refine ⟨_, rfl, by show 1 ≤ sizeLine; decide, fun T0 hT0 => ?_⟩
      have s5 : Same H' (upd H' T0 (.lst [sv])) := same_new hT0
      have g5 : upd H' T0 (.lst [sv]) T0 = some (.lst [sv]) := upd_same
      generalize upd H' T0 (.lst [sv]) = H5 at s5 g5 ⊢
      have d5 := d'.same s5
      have out5 : ¬ T0 ∈ G' := fun hm => by
        obtain ⟨u, e, _⟩ := d'.kind T0 hm
        rw [hT0] at e
        cases e
      have hsv5 := dp_same (less_grow s5) hsv'
      have htr5 : Dp K (less G' H5) (.ref T0) (.list ([st.1].map encLS)) := .lst (SqL.of (by rw [less_out out5]; exact g5)) (.cons hsv5 .nil)
      obtain ⟨na, nl, nz⟩ := desk_apart st none
      refine ⟨_, rfl, d, oneS, deskPs st none, G', 0, st, by rw [← l_oneS]; rfl, d5, na, nl, nm_one, nz, fine, S0, fun H6 G6 v7 f6 d6 h7 => ?_⟩
      have fr6 := fr'.trans ((Fr.of s5).trans f6)
      have hsv6 := dp_same f6.s hsv5
      have htr6 := dp_same f6.s htr5
      -- the steps
      have hS6 : SqL K H6 a (ns.map V.int) := (less_sub _ _).seq (fr6.s.seq (by rw [less_nil]; exact hS))
      refine ⟨_, rfl, _, rfl, _, rfl, a, _, rfl, hS6, fun p0 hp0 => ?_⟩
      obtain ⟨cs, ecs, cl⟩ := cut58 ns
      rw [ecs]
      have s7 : Same H6 (upd H6 p0 (.lst (cs.map V.int))) := same_new hp0
      have g7 : upd H6 p0 (.lst (cs.map V.int)) p0 = some (.lst (cs.map V.int)) := upd_same
      generalize upd H6 p0 (.lst (cs.map V.int)) = H7 at s7 g7 ⊢
      have out7 : ¬ p0 ∈ G6 := fun hm => by
        obtain ⟨u, e, _⟩ := d6.kind p0 hm
        rw [hp0] at e
        cases e
      refine ⟨p0, _, rfl, SqL.of g7, for_by (n := cs.length) (fun j σ H' => ∃ G' st1 o tr tv, Fr [] H G' H' ∧ DeskAt K CD C H' d (deskPs st1 o) G' ∧ Dp K (less G' H') tv (.list (tr.map encLS)) ∧ LTr st1 tr bs st.1 ∧ LInv st1 (bs + j) ∧ Dp K (less G' H') sv (encLS st.1) ∧
          Dp K (less G' H') v7 (encTexts (answersOf (ptsOf st) st.1.span)) ∧ H' p0 = some (.lst (cs.map V.int)) ∧ ¬ p0 ∈ G' ∧ ∃ a5 a8 a9, σ = [some (.ref a), some (.int L), some (.ref d), some sv, some (.int (bs : Nat)), a5, some tv, some v7, a8, a9])
        ⟨G6, st, none, [st.1], .ref T0, fr6.trans (Fr.of s7), d6.same s7, dp_same (less_grow s7) htr6, ⟨⟨st.2, t', rfl⟩, rfl, fun s hs => by rw [List.mem_singleton.mp hs]; exact ne0⟩, inv', dp_same (less_grow s7) hsv6, dp_same (less_grow s7) h7, g7, out7, _, _, _, rfl⟩ (fun j σ H' hj hP => ?_) (fun σ H' hP => ?_)⟩
      · obtain ⟨G', st1, o, tr, tv, fr', d', htr', lt', inv1, hsv', h7', gp, op, a5, a8, a9, rfl⟩ := hP
        obtain ⟨c, ec⟩ : ∃ c, cs[j]? = some c := ⟨_, List.getElem?_eq_getElem hj⟩
        have ev0 : (cs.map V.int)[j]? = some (V.int c) := by rw [List.getElem?_map, ec]; rfl
        have Pq : SqL K H' p0 (cs.map V.int) := SqL.of gp
        refine ⟨⟨_, _, Pq, ev0⟩, fun v H8 hv => ?_⟩
        obtain ⟨t9, x', rfl, ht9, rfl, hx'⟩ := hv
        have ex := hx' _ Pq
        rw [ev0] at ex
        cases Option.some.inj ex
        have n9 : Same H' (upd H' t9 (.tup [.int (j : Nat), V.int c])) := same_new ht9
        refine ⟨t9, _, rfl, SqT.of upd_same, rfl, _, _, rfl, _, _, rfl, rfl, ?_⟩
        generalize upd H' t9 (.tup [.int (j : Nat), V.int c]) = H9 at n9 ⊢
        have d9 := d'.same n9
        have lg := less_grow (F := G') n9
        refine ⟨_, rfl, _, rfl, _, _, rfl, rfl, c, 20 + j, rfl, by omega, ?_⟩
        obtain ⟨r0, r1⟩ := spread_range c (20 + j)
        have r2 := spread_size c (20 + j)
        generalize spreadOf c (20 + j) = N at r0 r1 r2 ⊢
        refine ⟨_, rfl, _, rfl, _, rfl, _, rfl, d, tv, bs, N, st1, o, G', bs + j, tr, st.1, rfl, d9, dp_same lg htr', lt', inv1, by omega, by omega, r0, Nat.lt_trans r2 (by decide), fun HA GA vA st2 tr2 fA dA hA lt2 inv2 => ?_⟩
        obtain ⟨ta, txs, rfl, hts, htd⟩ := dp_list hA
        have tlen := htd.length
        rw [List.length_map] at tlen
        have l2 := lt2.len
        have it2 := inv2.t
        have ok2 := inv2.s.ok (by omega)
        have fine2 := inv2.fine (by omega)
        have S2 : Small (ptsOf st2) st2.1.span := ok2.small
        have fr9A := (Fr.of (F := G') n9).trans fA
        refine ⟨_, rfl, rfl, _, rfl, iteF ?_⟩
        obtain ⟨dxA, _, _, _, xA, _⟩ := id dA
        obtain ⟨na2, nl2, nz2⟩ := desk_apart st2 o
        have lma : ("mark one" : Str) = S (tl "mark" ++ ([32] ++ oneS)) := by decide +kernel
        refine ⟨_, rfl, d, dxA, _, rfl, xA, rfl, ?_⟩
        refine ⟨d, deskPs st2 o, GA, .ask oneS 0 .mark, ?_, dA, ⟨na2, nl2, nm_one, fun z hz => (by cases hz), st2, nz2, fine2, S2, trivial⟩, fun HB GB psB ansB fB dB doesB => ?_⟩
        · show [V.ref d, V.str ("mark one" : Str)] = _
          rw [lma]
          rfl
        cases doesB with
        | ask h =>
        rw [nz2] at h
        cases Option.some.inj h
        have htsB := (less_sub _ _).seq (fB.s.seq hts)
        have ek : ((bs : Nat) : Int) + ((txs.length : Nat) : Int) - 1 = ((st2.2.length : Nat) : Int) := by omega
        refine ⟨_, rfl, _, rfl, ta, txs, rfl, .inl htsB, _, _, rfl, rfl, _, _, rfl, rfl, _, rfl, by rw [ek]; exact small_log (Nat.lt_of_le_of_lt (show st2.2.length ≤ 10 by omega) (by decide)), rfl, _, rfl, ?_⟩
        have en : Str.ofString (toString (((bs : Nat) : Int) + ((txs.length : Nat) : Int) - 1)) = S (numS (st2.2.length : Nat)) := by rw [ek]; exact num_text _
        rw [show (!decide (V.str (S (Ask.mark.ans st2)) = V.str (Str.ofString (toString (((bs : Nat) : Int) + ((txs.length : Nat) : Int) - 1))))) = false from by rw [en]; simp [Ask.ans]]
        refine iteF ?_
        obtain ⟨vl, atl, hvl⟩ := trail_last (dps_same fB.s htd) lt2
        refine ⟨_, rfl, _, rfl, _, rfl, ta, txs, _, vl, rfl, rfl, htsB, atl, _, rfl, _, _, rfl, rfl, wide_div (b := 7) (by decide) (by decide) (by decide) (by decide), ?_⟩
        obtain ⟨T1, eT1⟩ := lt2.last
        refine ⟨d, vl, _, st2, o, GB, bs + j + 1, rfl, dB, hvl, inv2, by omega, lt2.ne st2.1 (by rw [eT1]; exact List.mem_append_right _ List.mem_cons_self), fun HC GC st3 fC dC => ⟨_, rfl, iteF ?_⟩⟩
        have fr9C := fr9A.trans (fB.trans fC)
        have frBC := fB.trans fC
        have pC := fr9C.keep op gp
        refine ⟨GC, st2, some st3, tr2, .ref ta, fr'.trans fr9C, dC, dp_same frBC.s hA, lt2, inv2, dp_same fr9C.s hsv', dp_same fr9C.s h7', pC, fun hm => ?_, _, _, _, rfl⟩
        rcases fr9C.n p0 hm with z | z
        · exact op z
        · rw [gp] at z; cases z
      · obtain ⟨G', st1, o, tr, tv, fr', d', htr', lt', inv1, hsv', h7', gp, op, a5, a8, a9, rfl⟩ := hP
        refine ⟨⟨_, SqL.of gp, by rw [List.length_map]; exact Nat.le_refl _⟩, ?_⟩
        have fine1 := inv1.fine (by omega)
        have l1 := lt'.len
        have tp1 := lt'.pos
        obtain ⟨na1, nl1, nz1⟩ := desk_apart st1 o
        obtain ⟨dxA, _, _, _, xA, _⟩ := id d'
        have kn : bs < 10 ^ 6 := Nat.lt_of_le_of_lt (show bs ≤ 3 by omega) (by decide)
        have en : Str.ofString (toString ((bs : Nat) : Int)) = S (numS ((bs : Nat) : Int)) := num_text _
        have lba : ("back one " : Str) = S (tl "back" ++ ([32] ++ (oneS ++ [32]))) := by decide +kernel
        refine ⟨_, rfl, d, dxA, _, rfl, xA, rfl, ?_⟩
        refine ⟨_, rfl, _, rfl, small_log kn, ?_⟩
        refine ⟨_, _, rfl, rfl, ?_, d, deskPs st1 o, G', .deed oneS 0 (.back bs), ?_, d', ⟨na1, nl1, nm_one, fun z hz => ?_, st1, nz1, fine1, by show bs ≤ st1.2.length; omega⟩, fun HA GA psA ansA fA dA doesA => ?_⟩
        · have sl := small_num kn
          show ("back one " : Str).length + (Str.ofString (toString ((bs : Nat) : Int))).length ≤ sizeLine
          rw [en, lba, S_len, S_len, sizeLine_eq]
          have : (tl "back" ++ ([32] ++ (oneS ++ [32]))).length = 9 := by decide +kernel
          omega
        · show [V.ref d, V.str (("back one " : Str) ++ Str.ofString (toString ((bs : Nat) : Int)))] = _
          rw [en, lba, S_cat]
          congr 3
        · rw [List.mem_singleton.mp hz]
          exact kn
        cases doesA with
        | deed h =>
        rw [nz1] at h
        cases Option.some.inj h
        refine ⟨rfl, _, rfl, ?_⟩
        rw [show (!decide (V.str (S ((Deed.back bs).ans st1)) = V.str ("ok" : Str))) = false from by rw [l_ok]; simp [Deed.ans]]
        refine iteF ?_
        have inv2 : LInv (backOf st1 bs) (bs + cs.length) := back_inv inv1 (by omega)
        obtain ⟨hm1, hm2⟩ := lt'.home
        have dA : DeskAt K CD C HA d (deskPs (backOf st1 bs) o) GA := by
          cases o <;> exact dA
        generalize backOf st1 bs = st2 at inv2 hm1 hm2 dA
        have ok2 := inv2.s.ok (by omega)
        have fine2 := inv2.fine (by omega)
        have S2 : Small (ptsOf st2) st2.1.span := ok2.small
        have eP : ptsOf st2 = ptsOf st := by
          unfold ptsOf
          rw [hm1]
        obtain ⟨na2, nl2, nz2⟩ := desk_apart st2 o
        obtain ⟨dxB, _, _, _, xB, _⟩ := id dA
        have lma : ("mark one" : Str) = S (tl "mark" ++ ([32] ++ oneS)) := by decide +kernel
        refine ⟨_, rfl, d, dxB, _, rfl, xB, rfl, ?_⟩
        refine ⟨d, deskPs st2 o, GA, .ask oneS 0 .mark, ?_, dA, ⟨na2, nl2, nm_one, fun z hz => (by cases hz), st2, nz2, fine2, S2, trivial⟩, fun HB GB psB ansB fB dB doesB => ?_⟩
        · show [V.ref d, V.str ("mark one" : Str)] = _
          rw [lma]
          rfl
        cases doesB with
        | ask h =>
        rw [nz2] at h
        cases Option.some.inj h
        refine ⟨_, rfl, _, rfl, small_log kn, rfl, _, rfl, ?_⟩
        rw [show (!decide (V.str (S (Ask.mark.ans st2)) = V.str (Str.ofString (toString ((bs : Nat) : Int))))) = false from by rw [en]; simp [Ask.ans, hm2]]
        refine iteF ?_
        have fAB := fA.trans fB
        refine ⟨_, rfl, d, oneS, deskPs st2 o, GB, 0, st2, by rw [← l_oneS]; rfl, dB, na2, nl2, nm_one, nz2, fine2, S2, fun HC GC vC fC dC hC => ?_⟩
        have fAC := fAB.trans fC
        refine ⟨_, rfl, _, _, dp_same (less_sub _ _) hC, dp_same (fAC.s.trans (less_sub _ _)) h7', (shp_answers _ _).ok (by decide), (shp_answers _ _).ok (by decide), _, rfl, ?_⟩
        rw [eP, hm1, eqv_answers]
        refine iteT ?_
        refine ⟨_, rfl, _, rfl, _, rfl, _, _, rfl, rfl, wide_div (b := 10) (by decide) (by decide) (by decide) (by decide), ?_⟩
        exact ⟨d, sv, _, st2, o, GC, _, rfl, dC, by rw [hm1]; exact dp_same fAC.s hsv', inv2, by omega, by rw [hm1]; exact ne0, fun HD GD st3 fD dD => hQ _⟩
end
end Np
end
section
set_option linter.all false
set_option maxRecDepth 100000
set_option maxHeartbeats 8000000
/-! The facts of the head, and the law's end. -/
namespace Np
open PySem PySem.Spec PyProof.Rows L2 SX
section
variable {P : Program} {w : World} {K : PySem.W.Frag} {h : Heap} {mg : Str → Option Value}
theorem SaysK.t (c : SaysK w K) : He.SaysT faA fnA tsA w K := congrArg (fun z : He.AlT × Bool => z.1) c
theorem SaysK.x (c : SaysK w K) : extra K = true := congrArg (fun z : He.AlT × Bool => z.2) c
theorem SaysK.fact (c : SaysK w K) {f : He.Fa} (i : Nat) (hf : faA[i]? = some f := by rfl) : f.ok K = true := c.t.d.fact i hf
theorem SaysK.def_ (c : SaysK w K) (i : Nat) {d : He.DefD} (hd : fnA[i]? = some d := by rfl) : ∃ fd, FunD K d.name d.qual d.params d.body d.scope (d.dvs K) (d.kws K) (He.fAd K d.at_) fd := c.t.d.def_ i hd
theorem txt_of (X : K.In h) (G : h.Ns mainGlobals mg) (c : SaysK w K) : Txt K mg (He.ga K "NOUGHT") (He.ga K "ONE") where
  abs := He.free_ok X G (c.fact (f := .free "abs") 0 rfl)
  len := He.free_ok X G (c.fact (f := .free "len") 1 rfl)
  isinstance := He.free_ok X G (c.fact (f := .free "isinstance") 2 rfl)
  int := He.free_ok X G (c.fact (f := .free "int") 3 rfl)
  bool := He.free_ok X G (c.fact (f := .free "bool") 4 rfl)
  str := He.free_ok X G (c.fact (f := .free "str") 5 rfl)
  list := He.free_ok X G (c.fact (f := .free "list") 6 rfl)
  tuple := He.free_ok X G (c.fact (f := .free "tuple") 7 rfl)
  dict := He.free_ok X G (c.fact (f := .free "dict") 8 rfl)
  all := He.free_ok X G (c.fact (f := .free "all") 9 rfl)
  max := He.free_ok X G (c.fact (f := .free "max") 10 rfl)
  range := He.free_ok X G (c.fact (f := .free "range") 11 rfl)
  enumerate := He.free_ok X G (c.fact (f := .free "enumerate") 12 rfl)
  zip := He.free_ok X G (c.fact (f := .free "zip") 13 rfl)
  NOUGHT := ⟨_, He.glo_ok X G (c.fact (f := .glo "NOUGHT") 22 rfl), rfl⟩
  ONE := ⟨_, He.glo_ok X G (c.fact (f := .glo "ONE") 23 rfl), rfl⟩
  sN := fun H => tupAt_ok (Bool.and_eq_true_iff.mp (Bool.and_eq_true_iff.mp c.x).1).1 H
  sO := fun H => tupAt_ok (Bool.and_eq_true_iff.mp (Bool.and_eq_true_iff.mp c.x).1).2 H
  MOST_WIDE_fits := by
    obtain ⟨t, e⟩ := He.int_ok X G (c.fact (f := .int "MOST_WIDE_fits" 12) 14 rfl)
    exact ⟨_, e, t, rfl⟩
  MOST_WIDE_planes := by
    obtain ⟨t, e⟩ := He.int_ok X G (c.fact (f := .int "MOST_WIDE_planes" 12) 15 rfl)
    exact ⟨_, e, t, rfl⟩
  MOST_WIDE_desk := by
    obtain ⟨t, e⟩ := He.int_ok X G (c.fact (f := .int "MOST_WIDE_desk" 12) 16 rfl)
    exact ⟨_, e, t, rfl⟩
  MOST_FIGURES_texts := by
    obtain ⟨t, e⟩ := He.int_ok X G (c.fact (f := .int "MOST_FIGURES_texts" 60) 17 rfl)
    exact ⟨_, e, t, rfl⟩
  MOST_FIGURES_desk := by
    obtain ⟨t, e⟩ := He.int_ok X G (c.fact (f := .int "MOST_FIGURES_desk" 6) 18 rfl)
    exact ⟨_, e, t, rfl⟩
  MOST_NAME := by
    obtain ⟨t, e⟩ := He.int_ok X G (c.fact (f := .int "MOST_NAME" 8) 19 rfl)
    exact ⟨_, e, t, rfl⟩
  FIGURES := by
    obtain ⟨t, e⟩ := He.str_ok X G (c.fact (f := .str "FIGURES" "0123456789") 20 rfl)
    exact ⟨_, e, t, rfl⟩
  LETTERS := by
    obtain ⟨t, e⟩ := He.str_ok X G (c.fact (f := .str "LETTERS" "abcdefghijklmnopqrstuvwxyz") 21 rfl)
    exact ⟨_, e, t, rfl⟩
theorem lines_of (X : K.In h) (G : h.Ns mainGlobals mg) (c : SaysK w K) : LinesAt K w mg (He.ga K "LINES") where
  D := c.t.tab 0 (t := (fun K => He.ga K "LINES", lineKeys)) rfl
  g := He.glo_ok X G (c.fact (f := .glo "LINES") 24 rfl)
  row := fun x ks hx => by
    have h1 := List.all_eq_true.mp (Bool.and_eq_true_iff.mp c.x).2 (x, ks) hx
    unfold lineAt at h1
    split at h1
    · rename_i a e
      exact ⟨a, e, fun H => tupAt_ok h1 H⟩
    · cases h1
theorem FitC_of (c : SaysK w K) : FitC K (He.ga K "Fit") where
  cls := He.cls_ok (c.fact (f := .cls "Fit") 84 rfl)
  na := fun f hf => by
    rcases List.mem_cons.mp hf with rfl | hf
    · exact He.noat_ok (c.fact (f := .noat "Fit" "points_kept") 86 rfl)
    rcases List.mem_cons.mp hf with rfl | hf
    · exact He.noat_ok (c.fact (f := .noat "Fit" "wide") 87 rfl)
    rcases List.mem_cons.mp hf with rfl | hf
    · exact He.noat_ok (c.fact (f := .noat "Fit" "columns") 88 rfl)
    rcases List.mem_cons.mp hf with rfl | hf
    · exact He.noat_ok (c.fact (f := .noat "Fit" "wants") 89 rfl)
    rcases List.mem_cons.mp hf with rfl | hf
    · exact He.noat_ok (c.fact (f := .noat "Fit" "weights") 90 rfl)
    rcases List.mem_cons.mp hf with rfl | hf
    · exact He.noat_ok (c.fact (f := .noat "Fit" "parts") 91 rfl)
    rcases List.mem_cons.mp hf with rfl | hf
    · exact He.noat_ok (c.fact (f := .noat "Fit" "shares") 92 rfl)
    · rw [List.mem_singleton.mp hf]
      exact He.noat_ok (c.fact (f := .noat "Fit" "rest") 93 rfl)
theorem PlaneC_of (c : SaysK w K) : PlaneC K (He.ga K "Plane") where
  cls := He.cls_ok (c.fact (f := .cls "Plane") 94 rfl)
  na := fun f hf => by
    rcases List.mem_cons.mp hf with rfl | hf
    · exact He.noat_ok (c.fact (f := .noat "Plane" "span") 96 rfl)
    rcases List.mem_cons.mp hf with rfl | hf
    · exact He.noat_ok (c.fact (f := .noat "Plane" "kept") 97 rfl)
    rcases List.mem_cons.mp hf with rfl | hf
    · exact He.noat_ok (c.fact (f := .noat "Plane" "fresh") 98 rfl)
    · rw [List.mem_singleton.mp hf]
      exact He.noat_ok (c.fact (f := .noat "Plane" "trail") 99 rfl)
theorem DeskC_of (c : SaysK w K) : DeskC K (He.ga K "Desk") := ⟨He.cls_ok (c.fact (f := .cls "Desk") 100 rfl), He.noat_ok (c.fact (f := .noat "Desk" "by_name") 102 rfl)⟩
theorem err_of (X : K.In h) (G : h.Ns mainGlobals mg) (c : SaysK w K) : ErrAt K mg "NotSure" (He.ga K "NotSure") := by
  obtain ⟨e1, e2, e3, e4⟩ := He.exc_ok (c.fact (f := .exc "NotSure") 130 rfl)
  exact ⟨He.glo_ok X G (c.fact (f := .glo "NotSure") 25 rfl), e1, e2, e3, e4, He.exm_ok (c.fact (f := .exm "NotSure" "NotSure" true) 131 rfl)⟩
theorem at_s_shared (X : K.In h) (G : h.Ns mainGlobals mg) (c : SaysK w K) : DefAt K mg "shared" s_shared := by
  obtain ⟨fd, F⟩ := c.def_ 0 (d := d0) rfl
  exact ⟨_, fd, F, He.glo_ok X G (c.fact (f := .glo "shared") 29 rfl)⟩
theorem at_s_ratio (X : K.In h) (G : h.Ns mainGlobals mg) (c : SaysK w K) : DefAt K mg "ratio" s_ratio := by
  obtain ⟨fd, F⟩ := c.def_ 1 (d := d1) rfl
  exact ⟨_, fd, F, He.glo_ok X G (c.fact (f := .glo "ratio") 30 rfl)⟩
theorem at_s_plus (X : K.In h) (G : h.Ns mainGlobals mg) (c : SaysK w K) : DefAt K mg "plus" s_plus := by
  obtain ⟨fd, F⟩ := c.def_ 2 (d := d2) rfl
  exact ⟨_, fd, F, He.glo_ok X G (c.fact (f := .glo "plus") 31 rfl)⟩
theorem at_s_minus (X : K.In h) (G : h.Ns mainGlobals mg) (c : SaysK w K) : DefAt K mg "minus" s_minus := by
  obtain ⟨fd, F⟩ := c.def_ 3 (d := d3) rfl
  exact ⟨_, fd, F, He.glo_ok X G (c.fact (f := .glo "minus") 32 rfl)⟩
theorem at_s_times (X : K.In h) (G : h.Ns mainGlobals mg) (c : SaysK w K) : DefAt K mg "times" s_times := by
  obtain ⟨fd, F⟩ := c.def_ 4 (d := d4) rfl
  exact ⟨_, fd, F, He.glo_ok X G (c.fact (f := .glo "times") 33 rfl)⟩
theorem at_s_over (X : K.In h) (G : h.Ns mainGlobals mg) (c : SaysK w K) : DefAt K mg "over" s_over := by
  obtain ⟨fd, F⟩ := c.def_ 5 (d := d5) rfl
  exact ⟨_, fd, F, He.glo_ok X G (c.fact (f := .glo "over") 34 rfl)⟩
theorem at_s_is_whole (X : K.In h) (G : h.Ns mainGlobals mg) (c : SaysK w K) : DefAt K mg "is_whole" s_is_whole := by
  obtain ⟨fd, F⟩ := c.def_ 6 (d := d6) rfl
  exact ⟨_, fd, F, He.glo_ok X G (c.fact (f := .glo "is_whole") 35 rfl)⟩
theorem at_s_is_ratio (X : K.In h) (G : h.Ns mainGlobals mg) (c : SaysK w K) : DefAt K mg "is_ratio" s_is_ratio := by
  obtain ⟨fd, F⟩ := c.def_ 7 (d := d7) rfl
  exact ⟨_, fd, F, He.glo_ok X G (c.fact (f := .glo "is_ratio") 36 rfl)⟩
theorem at_s_is_still (X : K.In h) (G : h.Ns mainGlobals mg) (c : SaysK w K) : DefAt K mg "is_still" s_is_still := by
  obtain ⟨fd, F⟩ := c.def_ 8 (d := d8) rfl
  exact ⟨_, fd, F, He.glo_ok X G (c.fact (f := .glo "is_still") 37 rfl)⟩
theorem at_s_scaled (X : K.In h) (G : h.Ns mainGlobals mg) (c : SaysK w K) : DefAt K mg "scaled" s_scaled := by
  obtain ⟨fd, F⟩ := c.def_ 9 (d := d9) rfl
  exact ⟨_, fd, F, He.glo_ok X G (c.fact (f := .glo "scaled") 38 rfl)⟩
theorem at_s_taken (X : K.In h) (G : h.Ns mainGlobals mg) (c : SaysK w K) : DefAt K mg "taken" s_taken := by
  obtain ⟨fd, F⟩ := c.def_ 10 (d := d10) rfl
  exact ⟨_, fd, F, He.glo_ok X G (c.fact (f := .glo "taken") 39 rfl)⟩
theorem at_s_dot (X : K.In h) (G : h.Ns mainGlobals mg) (c : SaysK w K) : DefAtD K mg "dot" s_dot [.non] := by
  obtain ⟨fd, F⟩ := c.def_ 11 (d := d11) rfl
  exact ⟨_, fd, F, He.glo_ok X G (c.fact (f := .glo "dot") 40 rfl)⟩
theorem at_s_square (X : K.In h) (G : h.Ns mainGlobals mg) (c : SaysK w K) : DefAt K mg "square" s_square := by
  obtain ⟨fd, F⟩ := c.def_ 12 (d := d12) rfl
  exact ⟨_, fd, F, He.glo_ok X G (c.fact (f := .glo "square") 41 rfl)⟩
theorem at_s_parted (X : K.In h) (G : h.Ns mainGlobals mg) (c : SaysK w K) : DefAt K mg "parted" s_parted := by
  obtain ⟨fd, F⟩ := c.def_ 13 (d := d13) rfl
  exact ⟨_, fd, F, He.glo_ok X G (c.fact (f := .glo "parted") 42 rfl)⟩
theorem at_s_lefts (X : K.In h) (G : h.Ns mainGlobals mg) (c : SaysK w K) : DefAt K mg "lefts" s_lefts := by
  obtain ⟨fd, F⟩ := c.def_ 14 (d := d14) rfl
  exact ⟨_, fd, F, He.glo_ok X G (c.fact (f := .glo "lefts") 43 rfl)⟩
theorem at_s_nearest (X : K.In h) (G : h.Ns mainGlobals mg) (c : SaysK w K) : DefAt K mg "nearest" s_nearest := by
  obtain ⟨fd, F⟩ := c.def_ 15 (d := d15) rfl
  exact ⟨_, fd, F, He.glo_ok X G (c.fact (f := .glo "nearest") 44 rfl)⟩
theorem at_s_turned (X : K.In h) (G : h.Ns mainGlobals mg) (c : SaysK w K) : DefAt K mg "turned" s_turned := by
  obtain ⟨fd, F⟩ := c.def_ 16 (d := d16) rfl
  exact ⟨_, fd, F, He.glo_ok X G (c.fact (f := .glo "turned") 45 rfl)⟩
theorem at_s_is_row (X : K.In h) (G : h.Ns mainGlobals mg) (c : SaysK w K) : DefAt K mg "is_row" s_is_row := by
  obtain ⟨fd, F⟩ := c.def_ 17 (d := d17) rfl
  exact ⟨_, fd, F, He.glo_ok X G (c.fact (f := .glo "is_row") 46 rfl)⟩
theorem at_s_is_point (X : K.In h) (G : h.Ns mainGlobals mg) (c : SaysK w K) : DefAt K mg "is_point" s_is_point := by
  obtain ⟨fd, F⟩ := c.def_ 18 (d := d18) rfl
  exact ⟨_, fd, F, He.glo_ok X G (c.fact (f := .glo "is_point") 47 rfl)⟩
theorem at_s_looked_points (X : K.In h) (G : h.Ns mainGlobals mg) (c : SaysK w K) : DefAt K mg "looked_points" s_looked_points := by
  obtain ⟨fd, F⟩ := c.def_ 19 (d := d19) rfl
  exact ⟨_, fd, F, He.glo_ok X G (c.fact (f := .glo "looked_points") 48 rfl)⟩
theorem at_s_Fit_init__ (X : K.In h) (G : h.Ns mainGlobals mg) (c : SaysK w K) : InitAt K mg (He.ga K "Fit") "Fit" "Fit.__init__" s_Fit_init__ := by
  obtain ⟨fd, F⟩ := c.def_ 20 (d := d20) rfl
  exact ⟨_, fd, F, He.mkr_ok (c.fact (f := .mkr "Fit") 85 rfl), He.glo_ok X G (c.fact (f := .glo "Fit") 26 rfl)⟩
theorem at_s_Fit_told (c : SaysK w K) : MethAt K (He.ga K "Fit") "told" "Fit.told" s_Fit_told := by
  obtain ⟨fd, F⟩ := c.def_ 21 (d := d21) rfl
  exact ⟨_, fd, F, He.meth_ok (c.fact (f := .meth "Fit" "told") 103 rfl)⟩
theorem at_s_Fit_rests (c : SaysK w K) : MethAt K (He.ga K "Fit") "rests" "Fit.rests" s_Fit_rests := by
  obtain ⟨fd, F⟩ := c.def_ 22 (d := d22) rfl
  exact ⟨_, fd, F, He.meth_ok (c.fact (f := .meth "Fit" "rests") 104 rfl)⟩
theorem at_s_Fit_squares (c : SaysK w K) : MethAt K (He.ga K "Fit") "squares" "Fit.squares" s_Fit_squares := by
  obtain ⟨fd, F⟩ := c.def_ 23 (d := d23) rfl
  exact ⟨_, fd, F, He.meth_ok (c.fact (f := .meth "Fit" "squares") 105 rfl)⟩
theorem at_s_Fit_free (c : SaysK w K) : MethAt K (He.ga K "Fit") "free" "Fit.free" s_Fit_free := by
  obtain ⟨fd, F⟩ := c.def_ 24 (d := d24) rfl
  exact ⟨_, fd, F, He.meth_ok (c.fact (f := .meth "Fit" "free") 106 rfl)⟩
theorem at_s_Fit_ways (c : SaysK w K) : MethAt K (He.ga K "Fit") "ways" "Fit.ways" s_Fit_ways := by
  obtain ⟨fd, F⟩ := c.def_ 25 (d := d25) rfl
  exact ⟨_, fd, F, He.meth_ok (c.fact (f := .meth "Fit" "ways") 107 rfl)⟩
theorem at_s_Fit_sure (c : SaysK w K) : MethAt K (He.ga K "Fit") "sure" "Fit.sure" s_Fit_sure := by
  obtain ⟨fd, F⟩ := c.def_ 26 (d := d26) rfl
  exact ⟨_, fd, F, He.meth_ok (c.fact (f := .meth "Fit" "sure") 108 rfl)⟩
theorem at_s_Fit_pull (c : SaysK w K) : MethAt K (He.ga K "Fit") "pull" "Fit.pull" s_Fit_pull := by
  obtain ⟨fd, F⟩ := c.def_ 27 (d := d27) rfl
  exact ⟨_, fd, F, He.meth_ok (c.fact (f := .meth "Fit" "pull") 109 rfl)⟩
theorem at_s_Fit_pulls (c : SaysK w K) : MethAt K (He.ga K "Fit") "pulls" "Fit.pulls" s_Fit_pulls := by
  obtain ⟨fd, F⟩ := c.def_ 28 (d := d28) rfl
  exact ⟨_, fd, F, He.meth_ok (c.fact (f := .meth "Fit" "pulls") 110 rfl)⟩
theorem at_s_Fit_value (c : SaysK w K) : MethAt K (He.ga K "Fit") "value" "Fit.value" s_Fit_value := by
  obtain ⟨fd, F⟩ := c.def_ 29 (d := d29) rfl
  exact ⟨_, fd, F, He.meth_ok (c.fact (f := .meth "Fit" "value") 111 rfl)⟩
theorem at_s_Fit_word (c : SaysK w K) : MethAt K (He.ga K "Fit") "word" "Fit.word" s_Fit_word := by
  obtain ⟨fd, F⟩ := c.def_ 30 (d := d30) rfl
  exact ⟨_, fd, F, He.meth_ok (c.fact (f := .meth "Fit" "word") 112 rfl)⟩
theorem at_s_Plane_noted (c : SaysK w K) : MethAt K (He.ga K "Plane") "noted" "Plane.noted" s_Plane_noted := by
  obtain ⟨fd, F⟩ := c.def_ 31 (d := d31) rfl
  exact ⟨_, fd, F, He.meth_ok (c.fact (f := .meth "Plane" "noted") 113 rfl)⟩
theorem at_s_Plane_mark (c : SaysK w K) : MethAt K (He.ga K "Plane") "mark" "Plane.mark" s_Plane_mark := by
  obtain ⟨fd, F⟩ := c.def_ 32 (d := d32) rfl
  exact ⟨_, fd, F, He.meth_ok (c.fact (f := .meth "Plane" "mark") 114 rfl)⟩
theorem at_s_Plane_width (c : SaysK w K) : MethAt K (He.ga K "Plane") "width" "Plane.width" s_Plane_width := by
  obtain ⟨fd, F⟩ := c.def_ 33 (d := d33) rfl
  exact ⟨_, fd, F, He.meth_ok (c.fact (f := .meth "Plane" "width") 115 rfl)⟩
theorem at_s_Plane_take (c : SaysK w K) : MethAt K (He.ga K "Plane") "take" "Plane.take" s_Plane_take := by
  obtain ⟨fd, F⟩ := c.def_ 34 (d := d34) rfl
  exact ⟨_, fd, F, He.meth_ok (c.fact (f := .meth "Plane" "take") 116 rfl)⟩
theorem at_s_Plane_back (c : SaysK w K) : MethAt K (He.ga K "Plane") "back" "Plane.back" s_Plane_back := by
  obtain ⟨fd, F⟩ := c.def_ 35 (d := d35) rfl
  exact ⟨_, fd, F, He.meth_ok (c.fact (f := .meth "Plane" "back") 117 rfl)⟩
theorem at_s_Plane_lay (c : SaysK w K) : MethAtD K (He.ga K "Plane") "lay" "Plane.lay" s_Plane_lay [.non] := by
  obtain ⟨fd, F⟩ := c.def_ 36 (d := d36) rfl
  exact ⟨_, fd, F, He.meth_ok (c.fact (f := .meth "Plane" "lay") 118 rfl)⟩
theorem at_s_Plane_narrow (c : SaysK w K) : MethAt K (He.ga K "Plane") "narrow" "Plane.narrow" s_Plane_narrow := by
  obtain ⟨fd, F⟩ := c.def_ 37 (d := d37) rfl
  exact ⟨_, fd, F, He.meth_ok (c.fact (f := .meth "Plane" "narrow") 119 rfl)⟩
theorem at_s_Plane_widen (c : SaysK w K) : MethAt K (He.ga K "Plane") "widen" "Plane.widen" s_Plane_widen := by
  obtain ⟨fd, F⟩ := c.def_ 38 (d := d38) rfl
  exact ⟨_, fd, F, He.meth_ok (c.fact (f := .meth "Plane" "widen") 120 rfl)⟩
theorem at_s_Plane_init__ (X : K.In h) (G : h.Ns mainGlobals mg) (c : SaysK w K) : InitAt K mg (He.ga K "Plane") "Plane" "Plane.__init__" s_Plane_init__ := by
  obtain ⟨fd, F⟩ := c.def_ 39 (d := d39) rfl
  exact ⟨_, fd, F, He.mkr_ok (c.fact (f := .mkr "Plane") 95 rfl), He.glo_ok X G (c.fact (f := .glo "Plane") 27 rfl)⟩
theorem at_s_Plane_fit (c : SaysK w K) : MethAt K (He.ga K "Plane") "fit" "Plane.fit" s_Plane_fit := by
  obtain ⟨fd, F⟩ := c.def_ 40 (d := d40) rfl
  exact ⟨_, fd, F, He.meth_ok (c.fact (f := .meth "Plane" "fit") 121 rfl)⟩
theorem at_s_Plane_told (c : SaysK w K) : MethAt K (He.ga K "Plane") "told" "Plane.told" s_Plane_told := by
  obtain ⟨fd, F⟩ := c.def_ 41 (d := d41) rfl
  exact ⟨_, fd, F, He.meth_ok (c.fact (f := .meth "Plane" "told") 122 rfl)⟩
theorem at_s_Plane_free (c : SaysK w K) : MethAt K (He.ga K "Plane") "free" "Plane.free" s_Plane_free := by
  obtain ⟨fd, F⟩ := c.def_ 42 (d := d42) rfl
  exact ⟨_, fd, F, He.meth_ok (c.fact (f := .meth "Plane" "free") 123 rfl)⟩
theorem at_s_Plane_ways (c : SaysK w K) : MethAt K (He.ga K "Plane") "ways" "Plane.ways" s_Plane_ways := by
  obtain ⟨fd, F⟩ := c.def_ 43 (d := d43) rfl
  exact ⟨_, fd, F, He.meth_ok (c.fact (f := .meth "Plane" "ways") 124 rfl)⟩
theorem at_s_Plane_squares (c : SaysK w K) : MethAt K (He.ga K "Plane") "squares" "Plane.squares" s_Plane_squares := by
  obtain ⟨fd, F⟩ := c.def_ 44 (d := d44) rfl
  exact ⟨_, fd, F, He.meth_ok (c.fact (f := .meth "Plane" "squares") 125 rfl)⟩
theorem at_s_Plane_points (c : SaysK w K) : MethAt K (He.ga K "Plane") "points" "Plane.points" s_Plane_points := by
  obtain ⟨fd, F⟩ := c.def_ 45 (d := d45) rfl
  exact ⟨_, fd, F, He.meth_ok (c.fact (f := .meth "Plane" "points") 126 rfl)⟩
theorem at_s_shown (X : K.In h) (G : h.Ns mainGlobals mg) (c : SaysK w K) : DefAt K mg "shown" s_shown := by
  obtain ⟨fd, F⟩ := c.def_ 46 (d := d46) rfl
  exact ⟨_, fd, F, He.glo_ok X G (c.fact (f := .glo "shown") 49 rfl)⟩
theorem at_s_read_whole (X : K.In h) (G : h.Ns mainGlobals mg) (c : SaysK w K) : DefAt K mg "read_whole" s_read_whole := by
  obtain ⟨fd, F⟩ := c.def_ 47 (d := d47) rfl
  exact ⟨_, fd, F, He.glo_ok X G (c.fact (f := .glo "read_whole") 50 rfl)⟩
theorem at_s_read (X : K.In h) (G : h.Ns mainGlobals mg) (c : SaysK w K) : DefAt K mg "read" s_read := by
  obtain ⟨fd, F⟩ := c.def_ 48 (d := d48) rfl
  exact ⟨_, fd, F, He.glo_ok X G (c.fact (f := .glo "read") 51 rfl)⟩
theorem at_s_shown_row (X : K.In h) (G : h.Ns mainGlobals mg) (c : SaysK w K) : DefAt K mg "shown_row" s_shown_row := by
  obtain ⟨fd, F⟩ := c.def_ 49 (d := d49) rfl
  exact ⟨_, fd, F, He.glo_ok X G (c.fact (f := .glo "shown_row") 52 rfl)⟩
theorem at_s_read_row (X : K.In h) (G : h.Ns mainGlobals mg) (c : SaysK w K) : DefAt K mg "read_row" s_read_row := by
  obtain ⟨fd, F⟩ := c.def_ 50 (d := d50) rfl
  exact ⟨_, fd, F, He.glo_ok X G (c.fact (f := .glo "read_row") 53 rfl)⟩
theorem at_s_is_name (X : K.In h) (G : h.Ns mainGlobals mg) (c : SaysK w K) : DefAt K mg "is_name" s_is_name := by
  obtain ⟨fd, F⟩ := c.def_ 51 (d := d51) rfl
  exact ⟨_, fd, F, He.glo_ok X G (c.fact (f := .glo "is_name") 54 rfl)⟩
theorem at_s_read_number (X : K.In h) (G : h.Ns mainGlobals mg) (c : SaysK w K) : DefAt K mg "read_number" s_read_number := by
  obtain ⟨fd, F⟩ := c.def_ 52 (d := d52) rfl
  exact ⟨_, fd, F, He.glo_ok X G (c.fact (f := .glo "read_number") 55 rfl)⟩
theorem at_s_read_wide (X : K.In h) (G : h.Ns mainGlobals mg) (c : SaysK w K) : DefAt K mg "read_wide" s_read_wide := by
  obtain ⟨fd, F⟩ := c.def_ 53 (d := d53) rfl
  exact ⟨_, fd, F, He.glo_ok X G (c.fact (f := .glo "read_wide") 56 rfl)⟩
theorem at_s_read_things (X : K.In h) (G : h.Ns mainGlobals mg) (c : SaysK w K) : DefAt K mg "read_things" s_read_things := by
  obtain ⟨fd, F⟩ := c.def_ 54 (d := d54) rfl
  exact ⟨_, fd, F, He.glo_ok X G (c.fact (f := .glo "read_things") 57 rfl)⟩
theorem at_s_read_long (X : K.In h) (G : h.Ns mainGlobals mg) (c : SaysK w K) : DefAt K mg "read_long" s_read_long := by
  obtain ⟨fd, F⟩ := c.def_ 55 (d := d55) rfl
  exact ⟨_, fd, F, He.glo_ok X G (c.fact (f := .glo "read_long") 58 rfl)⟩
theorem at_s_in_figures (X : K.In h) (G : h.Ns mainGlobals mg) (c : SaysK w K) : DefAt K mg "in_figures" s_in_figures := by
  obtain ⟨fd, F⟩ := c.def_ 56 (d := d56) rfl
  exact ⟨_, fd, F, He.glo_ok X G (c.fact (f := .glo "in_figures") 59 rfl)⟩
theorem at_s_told_word (X : K.In h) (G : h.Ns mainGlobals mg) (c : SaysK w K) : DefAt K mg "told_word" s_told_word := by
  obtain ⟨fd, F⟩ := c.def_ 57 (d := d57) rfl
  exact ⟨_, fd, F, He.glo_ok X G (c.fact (f := .glo "told_word") 60 rfl)⟩
theorem at_s_told_value (X : K.In h) (G : h.Ns mainGlobals mg) (c : SaysK w K) : DefAt K mg "told_value" s_told_value := by
  obtain ⟨fd, F⟩ := c.def_ 58 (d := d58) rfl
  exact ⟨_, fd, F, He.glo_ok X G (c.fact (f := .glo "told_value") 61 rfl)⟩
theorem at_s_done_to (X : K.In h) (G : h.Ns mainGlobals mg) (c : SaysK w K) : DefAt K mg "done_to" s_done_to := by
  obtain ⟨fd, F⟩ := c.def_ 59 (d := d59) rfl
  exact ⟨_, fd, F, He.glo_ok X G (c.fact (f := .glo "done_to") 62 rfl)⟩
theorem at_s_told_of (X : K.In h) (G : h.Ns mainGlobals mg) (c : SaysK w K) : DefAt K mg "told_of" s_told_of := by
  obtain ⟨fd, F⟩ := c.def_ 60 (d := d60) rfl
  exact ⟨_, fd, F, He.glo_ok X G (c.fact (f := .glo "told_of") 63 rfl)⟩
theorem at_s_kinds_of (X : K.In h) (G : h.Ns mainGlobals mg) (c : SaysK w K) : DefAt K mg "kinds_of" s_kinds_of := by
  obtain ⟨fd, F⟩ := c.def_ 61 (d := d61) rfl
  exact ⟨_, fd, F, He.glo_ok X G (c.fact (f := .glo "kinds_of") 64 rfl)⟩
theorem at_s_Desk_part_of (c : SaysK w K) : MethAt K (He.ga K "Desk") "part_of" "Desk.part_of" s_Desk_part_of := by
  obtain ⟨fd, F⟩ := c.def_ 62 (d := d62) rfl
  exact ⟨_, fd, F, He.meth_ok (c.fact (f := .meth "Desk" "part_of") 127 rfl)⟩
theorem at_s_Desk_parts_of (c : SaysK w K) : MethAt K (He.ga K "Desk") "parts_of" "Desk.parts_of" s_Desk_parts_of := by
  obtain ⟨fd, F⟩ := c.def_ 63 (d := d63) rfl
  exact ⟨_, fd, F, He.meth_ok (c.fact (f := .meth "Desk" "parts_of") 128 rfl)⟩
theorem at_s_Desk_say (c : SaysK w K) : MethAt K (He.ga K "Desk") "say" "Desk.say" s_Desk_say := by
  obtain ⟨fd, F⟩ := c.def_ 64 (d := d64) rfl
  exact ⟨_, fd, F, He.meth_ok (c.fact (f := .meth "Desk" "say") 129 rfl)⟩
theorem at_s_law_cell (X : K.In h) (G : h.Ns mainGlobals mg) (c : SaysK w K) : DefAt K mg "_law_cell" s_law_cell := by
  obtain ⟨fd, F⟩ := c.def_ 65 (d := d65) rfl
  exact ⟨_, fd, F, He.glo_ok X G (c.fact (f := .glo "_law_cell") 65 rfl)⟩
theorem at_s_law_spread (X : K.In h) (G : h.Ns mainGlobals mg) (c : SaysK w K) : DefAt K mg "_law_spread" s_law_spread := by
  obtain ⟨fd, F⟩ := c.def_ 66 (d := d66) rfl
  exact ⟨_, fd, F, He.glo_ok X G (c.fact (f := .glo "_law_spread") 66 rfl)⟩
theorem at_s_law_mixed (X : K.In h) (G : h.Ns mainGlobals mg) (c : SaysK w K) : DefAt K mg "_law_mixed" s_law_mixed := by
  obtain ⟨fd, F⟩ := c.def_ 67 (d := d67) rfl
  exact ⟨_, fd, F, He.glo_ok X G (c.fact (f := .glo "_law_mixed") 67 rfl)⟩
theorem at_s_law_low (X : K.In h) (G : h.Ns mainGlobals mg) (c : SaysK w K) : DefAt K mg "_law_low" s_law_low := by
  obtain ⟨fd, F⟩ := c.def_ 68 (d := d68) rfl
  exact ⟨_, fd, F, He.glo_ok X G (c.fact (f := .glo "_law_low") 68 rfl)⟩
theorem at_s_law_less (X : K.In h) (G : h.Ns mainGlobals mg) (c : SaysK w K) : DefAt K mg "_law_less" s_law_less := by
  obtain ⟨fd, F⟩ := c.def_ 69 (d := d69) rfl
  exact ⟨_, fd, F, He.glo_ok X G (c.fact (f := .glo "_law_less") 69 rfl)⟩
theorem at_s_law_times (X : K.In h) (G : h.Ns mainGlobals mg) (c : SaysK w K) : DefAt K mg "_law_times" s_law_times := by
  obtain ⟨fd, F⟩ := c.def_ 70 (d := d70) rfl
  exact ⟨_, fd, F, He.glo_ok X G (c.fact (f := .glo "_law_times") 70 rfl)⟩
theorem at_s_law_thing (X : K.In h) (G : h.Ns mainGlobals mg) (c : SaysK w K) : DefAt K mg "_law_thing" s_law_thing := by
  obtain ⟨fd, F⟩ := c.def_ 71 (d := d71) rfl
  exact ⟨_, fd, F, He.glo_ok X G (c.fact (f := .glo "_law_thing") 71 rfl)⟩
theorem at_s_law_text (X : K.In h) (G : h.Ns mainGlobals mg) (c : SaysK w K) : DefAt K mg "_law_text" s_law_text := by
  obtain ⟨fd, F⟩ := c.def_ 72 (d := d72) rfl
  exact ⟨_, fd, F, He.glo_ok X G (c.fact (f := .glo "_law_text") 72 rfl)⟩
theorem at_s_law_row_text (X : K.In h) (G : h.Ns mainGlobals mg) (c : SaysK w K) : DefAt K mg "_law_row_text" s_law_row_text := by
  obtain ⟨fd, F⟩ := c.def_ 73 (d := d73) rfl
  exact ⟨_, fd, F, He.glo_ok X G (c.fact (f := .glo "_law_row_text") 73 rfl)⟩
theorem at_s_law_ratio_of (X : K.In h) (G : h.Ns mainGlobals mg) (c : SaysK w K) : DefAt K mg "_law_ratio_of" s_law_ratio_of := by
  obtain ⟨fd, F⟩ := c.def_ 74 (d := d74) rfl
  exact ⟨_, fd, F, He.glo_ok X G (c.fact (f := .glo "_law_ratio_of") 74 rfl)⟩
theorem at_s_law_point (X : K.In h) (G : h.Ns mainGlobals mg) (c : SaysK w K) : DefAt K mg "_law_point" s_law_point := by
  obtain ⟨fd, F⟩ := c.def_ 75 (d := d75) rfl
  exact ⟨_, fd, F, He.glo_ok X G (c.fact (f := .glo "_law_point") 75 rfl)⟩
theorem at_s_law_line (X : K.In h) (G : h.Ns mainGlobals mg) (c : SaysK w K) : DefAt K mg "_law_line" s_law_line := by
  obtain ⟨fd, F⟩ := c.def_ 76 (d := d76) rfl
  exact ⟨_, fd, F, He.glo_ok X G (c.fact (f := .glo "_law_line") 76 rfl)⟩
theorem at_s_Desk_init__ (X : K.In h) (G : h.Ns mainGlobals mg) (c : SaysK w K) : InitAt K mg (He.ga K "Desk") "Desk" "Desk.__init__" s_Desk_init__ := by
  obtain ⟨fd, F⟩ := c.def_ 77 (d := d77) rfl
  exact ⟨_, fd, F, He.mkr_ok (c.fact (f := .mkr "Desk") 101 rfl), He.glo_ok X G (c.fact (f := .glo "Desk") 28 rfl)⟩
theorem at_s_law_answers (X : K.In h) (G : h.Ns mainGlobals mg) (c : SaysK w K) : DefAt K mg "_law_answers" s_law_answers := by
  obtain ⟨fd, F⟩ := c.def_ 78 (d := d78) rfl
  exact ⟨_, fd, F, He.glo_ok X G (c.fact (f := .glo "_law_answers") 77 rfl)⟩
theorem at_s_law_beside (X : K.In h) (G : h.Ns mainGlobals mg) (c : SaysK w K) : DefAt K mg "_law_beside" s_law_beside := by
  obtain ⟨fd, F⟩ := c.def_ 79 (d := d79) rfl
  exact ⟨_, fd, F, He.glo_ok X G (c.fact (f := .glo "_law_beside") 78 rfl)⟩
theorem at_s_law_deed (X : K.In h) (G : h.Ns mainGlobals mg) (c : SaysK w K) : DefAt K mg "_law_deed" s_law_deed := by
  obtain ⟨fd, F⟩ := c.def_ 80 (d := d80) rfl
  exact ⟨_, fd, F, He.glo_ok X G (c.fact (f := .glo "_law_deed") 79 rfl)⟩
theorem at_s_law_words_good (X : K.In h) (G : h.Ns mainGlobals mg) (c : SaysK w K) : DefAt K mg "_law_words_good" s_law_words_good := by
  obtain ⟨fd, F⟩ := c.def_ 81 (d := d81) rfl
  exact ⟨_, fd, F, He.glo_ok X G (c.fact (f := .glo "_law_words_good") 80 rfl)⟩
theorem at_s_law_stepped (X : K.In h) (G : h.Ns mainGlobals mg) (c : SaysK w K) : DefAt K mg "_law_stepped" s_law_stepped := by
  obtain ⟨fd, F⟩ := c.def_ 82 (d := d82) rfl
  exact ⟨_, fd, F, He.glo_ok X G (c.fact (f := .glo "_law_stepped") 81 rfl)⟩
theorem at_s_law_step_good (X : K.In h) (G : h.Ns mainGlobals mg) (c : SaysK w K) : DefAt K mg "_law_step_good" s_law_step_good := by
  obtain ⟨fd, F⟩ := c.def_ 83 (d := d83) rfl
  exact ⟨_, fd, F, He.glo_ok X G (c.fact (f := .glo "_law_step_good") 82 rfl)⟩
theorem facts {f : Addr} (X : K.In h) (G : h.Ns mainGlobals mg) (hfa : mg ("law" : Str) = some (.ref f)) (c : SaysK w K) :
    ∃ fd : FuncData, (∀ (s : Shared) (v : Value), BindsTo s fd ⟨[v], []⟩ [("_law_script", v)]) ∧ ∀ base : Heap, K.In base → base.Ns mainGlobals mg → FnOk P w K mg base CX0 18 f fd ["_law_script"] (spLaw K) := by
  obtain ⟨fd, F⟩ := c.def_ 84 (d := d84) rfl
  have e := hfa.symm.trans (He.glo_ok X G (c.fact (f := .glo "law") 83 rfl))
  cases e
  have T := txt_of X G c
  have L := lines_of X G c
  have cF := FitC_of c
  have cP := PlaneC_of c
  have cD := DeskC_of c
  have R := err_of X G c
  have b := FunD.bindsA (ps := ["_law_script"]) F fun _ _ _ _ _ _ us hl => match us, hl with | [_], _ => rfl
  refine ⟨fd, fun s v => b s [v] rfl, fun base _ _ => ?_⟩
  have c_shared : C8.Cal P w K mg base 1 "shared" spShared [] := k_shared T (at_s_shared X G c)
  have c_ratio : C8.Cal P w K mg base 2 "ratio" (spRatio K) [] := k_ratio T (at_s_ratio X G c) c_shared
  have c_plus : C8.Cal P w K mg base 3 "plus" (spPlus K) [] := k_plus T (at_s_plus X G c) c_ratio
  have c_minus : C8.Cal P w K mg base 3 "minus" (spMinus K) [] := k_minus T (at_s_minus X G c) c_ratio
  have c_times : C8.Cal P w K mg base 3 "times" (spTimes K) [] := k_times T (at_s_times X G c) c_ratio
  have c_over : C8.Cal P w K mg base 3 "over" (spOver K) [] := k_over T (at_s_over X G c) c_ratio
  have c_is_whole : C8.Cal P w K mg base 1 "is_whole" spWhole [] := k_is_whole T (at_s_is_whole X G c)
  have c_is_ratio : C8.Cal P w K mg base 2 "is_ratio" (spIsRatio K) [] := k_is_ratio T (at_s_is_ratio X G c) c_is_whole c_shared
  have c_is_still : C8.Cal P w K mg base 1 "is_still" (spStill K) [] := k_is_still T (at_s_is_still X G c)
  have c_scaled : C8.Cal P w K mg base 4 "scaled" (spScaled K) [] := k_scaled T (at_s_scaled X G c) c_times
  have c_taken : C8.Cal P w K mg base 4 "taken" (spTaken K) [] := k_taken T (at_s_taken X G c) c_minus
  have c_dot : C8.Cal P w K mg base 4 "dot" (spDot K) [] := k_dot T (at_s_dot X G c) c_times c_plus
  have c_dot2 : C8.Cal P w K mg base 4 "dot" (spDot K) [.non] := k_dot2 T (at_s_dot X G c) c_times c_plus
  have c_square : C8.Cal P w K mg base 5 "square" (spSquare K) [] := k_square T (at_s_square X G c) c_dot
  have c_parted : C8.Cal P w K mg base 6 "parted" (spParted K) [] := k_parted T (at_s_parted X G c) c_is_still c_dot c_square c_over c_taken c_scaled c_plus c_minus c_times
  have c_lefts : C8.Cal P w K mg base 7 "lefts" (spLefts K) [] := k_lefts T (at_s_lefts X G c) c_parted
  have c_nearest : C8.Cal P w K mg base 8 "nearest" (spNearest K) [] := k_nearest T (at_s_nearest X G c) c_parted c_lefts
  have c_turned : C8.Cal P w K mg base 1 "turned" (spTurned K) [] := k_turned T (at_s_turned X G c)
  have c_is_row : C8.Cal P w K mg base 3 "is_row" (spIsRow K) [] := k_is_row T (at_s_is_row X G c) c_is_ratio
  have c_is_point : C8.Cal P w K mg base 4 "is_point" (spIsPoint K) [] := k_is_point T (at_s_is_point X G c) c_is_row c_is_ratio
  have c_looked_points : C8.Cal P w K mg base 5 "looked_points" (spLooked K) [] := k_looked_points T (at_s_looked_points X G c) c_is_whole c_is_point
  have c_Fit : C8.Mak P w K mg base 9 "Fit" (He.ga K "Fit") (spFitInit K (He.ga K "Fit")) [] := k_Fit T cF (at_s_Fit_init__ X G c) c_looked_points c_turned c_lefts c_nearest
  have c_Fit_told : C8.Met P w K mg base 1 (He.ga K "Fit") "told" (spFitG K (He.ga K "Fit") gTold) [] := k_told T cF (at_s_Fit_told c)
  have c_Fit_rests : C8.Met P w K mg base 1 (He.ga K "Fit") "rests" (spFitG K (He.ga K "Fit") gRests) [] := k_rests T cF (at_s_Fit_rests c)
  have c_Fit_squares : C8.Met P w K mg base 6 (He.ga K "Fit") "squares" (spFitG K (He.ga K "Fit") gSquares) [] := k_squares T cF (at_s_Fit_squares c) c_square
  have c_Fit_free : C8.Met P w K mg base 2 (He.ga K "Fit") "free" (spFitG K (He.ga K "Fit") gFree) [] := k_free T cF (at_s_Fit_free c) c_is_still
  have c_Fit_ways : C8.Met P w K mg base 4 (He.ga K "Fit") "ways" (spFitG K (He.ga K "Fit") gWays) [] := k_ways T cF (at_s_Fit_ways c) c_Fit_free c_minus
  have c_Fit_sure : C8.Met P w K mg base 5 (He.ga K "Fit") "sure" (spSure K (He.ga K "Fit")) [] := k_sure T cF (at_s_Fit_sure c) c_Fit_ways c_dot2
  have c_Fit_pull : C8.Met P w K mg base 6 (He.ga K "Fit") "pull" (spPull K (He.ga K "Fit")) [] := k_pull T cF (at_s_Fit_pull c) c_is_still c_plus c_over c_times c_square
  have c_Fit_pulls : C8.Met P w K mg base 7 (He.ga K "Fit") "pulls" (spFitG K (He.ga K "Fit") gPulls) [] := k_pulls T cF (at_s_Fit_pulls c) c_Fit_pull
  have c_Fit_value : MetX P w K mg base 6 (He.ga K "Fit") "value" (spValue K (He.ga K "Fit") (He.ga K "NotSure")) := k_value T cF R (at_s_Fit_value c) c_Fit_sure c_dot2
  have c_Fit_word : C8.Met P w K mg base 11 (He.ga K "Fit") "word" (spWord K (He.ga K "Fit")) [] := k_word T cF (at_s_Fit_word c) c_Fit c_Fit_sure c_Fit_value
  have c_Plane_noted : C8.Met P w K mg base 1 (He.ga K "Plane") "noted" (spNoted K (He.ga K "Plane")) [] := k_noted T cP (at_s_Plane_noted c)
  have c_Plane_mark : C8.Met P w K mg base 1 (He.ga K "Plane") "mark" (fun vs H Q _ => ∃ p st F, vs = [.ref p] ∧ PlaneAt K (He.ga K "Plane") H p st F ∧ Q (.int (st.2.length : Nat)) H) [] := k_mark T cP (at_s_Plane_mark c)
  have c_Plane_width : C8.Met P w K mg base 1 (He.ga K "Plane") "width" (fun vs H Q _ => ∃ p st F, vs = [.ref p] ∧ PlaneAt K (He.ga K "Plane") H p st F ∧ Q (.int (st.1.span : Nat)) H) [] := k_width T cP (at_s_Plane_width c)
  have c_Plane_take : C8.Met P w K mg base 2 (He.ga K "Plane") "take" (spTake K (He.ga K "Plane")) [] := k_take T cP (at_s_Plane_take c) c_is_whole c_Plane_noted
  have c_Plane_back : C8.Met P w K mg base 2 (He.ga K "Plane") "back" (spBack K (He.ga K "Plane")) [] := k_back T cP (at_s_Plane_back c) c_is_whole
  have c_Plane_lay : C8.Met P w K mg base 4 (He.ga K "Plane") "lay" (spLay K (He.ga K "Plane")) [] := k_lay T cP (at_s_Plane_lay c) c_is_row c_is_ratio c_Plane_noted
  have c_Plane_narrow : C8.Met P w K mg base 2 (He.ga K "Plane") "narrow" (spNarrow K (He.ga K "Plane")) [] := k_narrow T cP (at_s_Plane_narrow c) c_Plane_noted
  have c_Plane_widen : C8.Met P w K mg base 4 (He.ga K "Plane") "widen" (spWiden K (He.ga K "Plane")) [] := k_widen T cP (at_s_Plane_widen c) c_is_row c_Plane_noted
  have c_Plane : C8.Mak P w K mg base 2 "Plane" (He.ga K "Plane") (spPlInit K (He.ga K "Plane")) [] := k_Plane T cP (at_s_Plane_init__ X G c) c_is_whole
  have c_Plane_fit : C8.Met P w K mg base 11 (He.ga K "Plane") "fit" (spPlFit K (He.ga K "Plane") (He.ga K "Fit")) [] := k_plfit T cP (at_s_Plane_fit c) c_Fit
  have c_Plane_told : C8.Met P w K mg base 12 (He.ga K "Plane") "told" (spPlG K (He.ga K "Plane") gTold) [] := k_pltold T cP (at_s_Plane_told c) c_Plane_fit c_Fit_told
  have c_Plane_free : C8.Met P w K mg base 12 (He.ga K "Plane") "free" (spPlG K (He.ga K "Plane") gFree) [] := k_plfree T cP (at_s_Plane_free c) c_Plane_fit c_Fit_free
  have c_Plane_ways : C8.Met P w K mg base 12 (He.ga K "Plane") "ways" (spPlG K (He.ga K "Plane") gWays) [] := k_plways T cP (at_s_Plane_ways c) c_Plane_fit c_Fit_ways
  have c_Plane_squares : C8.Met P w K mg base 12 (He.ga K "Plane") "squares" (spPlG K (He.ga K "Plane") gSquares) [] := k_plsquares T cP (at_s_Plane_squares c) c_Plane_fit c_Fit_squares
  have c_Plane_points : C8.Met P w K mg base 1 (He.ga K "Plane") "points" (spPoints K (He.ga K "Plane")) [] := k_points T cP (at_s_Plane_points c)
  have c_shown : C8.Cal P w K mg base 1 "shown" (spShown K) [] := k_shown T (at_s_shown X G c)
  have c_read_whole : C8.Cal P w K mg base 1 "read_whole" spReadW [] := k_read_whole T (at_s_read_whole X G c)
  have c_read : C8.Cal P w K mg base 3 "read" (spRead K) [] := k_read T (at_s_read X G c) c_read_whole c_is_ratio
  have c_shown_row : C8.Cal P w K mg base 2 "shown_row" (spShownRow K) [] := k_shown_row T (at_s_shown_row X G c) c_shown
  have c_read_row : C8.Cal P w K mg base 4 "read_row" (spReadRow K) [] := k_read_row T (at_s_read_row X G c) c_read
  have c_is_name : C8.Cal P w K mg base 1 "is_name" spIsName [] := k_is_name T (at_s_is_name X G c)
  have c_read_number : C8.Cal P w K mg base 4 "read_number" spNumber [] := k_read_number T (at_s_read_number X G c) c_read
  have c_read_wide : C8.Cal P w K mg base 5 "read_wide" spWide [] := k_read_wide T (at_s_read_wide X G c) c_read_number
  have c_read_things : C8.Cal P w K mg base 5 "read_things" (spReadRow K) [] := k_read_things T (at_s_read_things X G c) c_read_row
  have c_read_long : C8.Cal P w K mg base 6 "read_long" (spLong K (He.ga K "Plane")) [] := k_read_long T (at_s_read_long X G c) c_read_things c_Plane_width
  have c_in_figures : C8.Cal P w K mg base 1 "in_figures" (spFigures K) [] := k_in_figures T (at_s_in_figures X G c)
  have c_told_word : C8.Cal P w K mg base 12 "told_word" (spToldWord K (He.ga K "Plane")) [] := k_told_word T (at_s_told_word X G c) c_Plane_points c_Plane_fit c_Fit_word c_shown
  have c_told_value : C8.Cal P w K mg base 12 "told_value" (spToldValue K (He.ga K "Plane")) [] := k_told_value T R (at_s_told_value X G c) c_Plane_fit c_Fit_value c_shown
  have c_done_to : C8.Cal P w K mg base 5 "done_to" (spDone K (He.ga K "Plane")) [] := k_done_to T (at_s_done_to X G c) c_Plane_lay c_Plane_take c_Plane_widen c_Plane_narrow c_Plane_back
  have c_told_of : C8.Cal P w K mg base 13 "told_of" (spTold K (He.ga K "Plane")) [] := k_told_of T (at_s_told_of X G c) c_Plane_mark c_Plane_told c_Plane_free c_Plane_ways c_Plane_squares c_Plane_fit c_Fit_rests c_Fit_pulls c_shown c_shown_row c_in_figures c_told_value c_told_word
  have c_kinds_of : C8.Cal P w K mg base 1 "kinds_of" (spKinds K) [] := k_kinds_of T L (at_s_kinds_of X G c)
  have c_Desk_part_of : C8.Met P w K mg base 7 (He.ga K "Desk") "part_of" (spPart K (He.ga K "Plane")) [] := k_part_of T cD (at_s_Desk_part_of c) c_read c_read_things c_read_number c_read_wide c_read_long
  have c_Desk_parts_of : C8.Met P w K mg base 8 (He.ga K "Desk") "parts_of" (spParts K (He.ga K "Desk") (He.ga K "Plane")) [] := k_parts_of T cD (at_s_Desk_parts_of c) c_is_name c_Desk_part_of
  have c_Desk_say : C8.Met P w K mg base 14 (He.ga K "Desk") "say" (spSay K (He.ga K "Desk") (He.ga K "Plane")) [] := k_say T cD (at_s_Desk_say c) c_kinds_of c_Desk_parts_of c_Plane c_done_to c_told_of
  have c_law_cell : C8.Cal P w K mg base 1 "_law_cell" (spCell K) [] := k_law_cell T (at_s_law_cell X G c)
  have c_law_spread : C8.Cal P w K mg base 1 "_law_spread" spSpread [] := k_law_spread T (at_s_law_spread X G c)
  have c_law_mixed : C8.Cal P w K mg base 1 "_law_mixed" spMixed [] := k_law_mixed T (at_s_law_mixed X G c)
  have c_law_low : C8.Cal P w K mg base 1 "_law_low" (spLow K) [] := k_law_low T (at_s_law_low X G c)
  have c_law_less : C8.Cal P w K mg base 2 "_law_less" (spMinus K) [] := k_law_less T (at_s_law_less X G c) c_law_low
  have c_law_times : C8.Cal P w K mg base 2 "_law_times" (spTimes K) [] := k_law_times T (at_s_law_times X G c) c_law_low
  have c_law_thing : C8.Cal P w K mg base 2 "_law_thing" (spThing K) [] := k_law_thing T (at_s_law_thing X G c) c_law_low
  have c_law_text : C8.Cal P w K mg base 1 "_law_text" (spShown K) [] := k_law_text T (at_s_law_text X G c)
  have c_law_row_text : C8.Cal P w K mg base 2 "_law_row_text" (spShownRow K) [] := k_law_row_text T (at_s_law_row_text X G c) c_law_text
  have c_law_ratio_of : C8.Cal P w K mg base 2 "_law_ratio_of" (spRatioOf K) [] := k_law_ratio_of T (at_s_law_ratio_of X G c) c_law_low
  have c_law_point : C8.Cal P w K mg base 3 "_law_point" (spPoint K) [] := k_law_point T (at_s_law_point X G c) c_law_thing c_law_mixed
  have c_law_line : C8.Cal P w K mg base 3 "_law_line" (spLine K) [] := k_law_line T (at_s_law_line X G c) c_law_text c_law_row_text
  have c_Desk : C8.Mak P w K mg base 1 "Desk" (He.ga K "Desk") (spDeskInit K (He.ga K "Desk") (He.ga K "Plane")) [] := k_Desk T cD (at_s_Desk_init__ X G c)
  have c_law_answers : C8.Cal P w K mg base 15 "_law_answers" (spAnswers K (He.ga K "Desk") (He.ga K "Plane")) [] := k_law_answers T (at_s_law_answers X G c) c_Desk_say
  have c_law_beside : C8.Cal P w K mg base 15 "_law_beside" (spBeside K (He.ga K "Desk") (He.ga K "Plane")) [] := k_law_beside T (at_s_law_beside X G c) c_Desk_say c_law_line
  have c_law_deed : C8.Cal P w K mg base 15 "_law_deed" (spDeed K (He.ga K "Desk") (He.ga K "Plane")) [] := k_law_deed T (at_s_law_deed X G c) c_Desk_say c_law_line c_law_point c_law_thing c_law_mixed c_law_row_text
  have c_law_words_good : C8.Cal P w K mg base 16 "_law_words_good" (spWords K (He.ga K "Desk") (He.ga K "Plane")) [] := k_law_words_good T (at_s_law_words_good X G c) c_Desk_say c_law_ratio_of c_law_beside c_law_row_text c_law_less c_law_times
  have c_law_stepped : C8.Cal P w K mg base 16 "_law_stepped" (spStepped K (He.ga K "Desk") (He.ga K "Plane")) [] := k_law_stepped T (at_s_law_stepped X G c) c_Desk_say c_law_deed
  have c_law_step_good : C8.Cal P w K mg base 17 "_law_step_good" (spWords K (He.ga K "Desk") (He.ga K "Plane")) [] := k_law_step_good T (at_s_law_step_good X G c) c_law_words_good c_law_beside c_law_answers
  exact k_law T F c_Desk c_Desk_say c_law_cell c_law_spread c_law_deed c_law_answers c_law_stepped c_law_step_good c_law_words_good
end
end Np
end
open PySem PySem.W PySem.Calls PyProof.Rows
set_option maxRecDepth 100000 in
set_option maxHeartbeats 0 in
theorem PySem.Challenge.cw_nearplane_k82_whole_updates_holds : PySem.Challenge.rw_nearplane_k82_whole_updates.Holds := by
  w_on; o_law
  refine HandSHeadRun.head_any (r := OpenLaw.row PySem.Challenge.rw_nearplane_k82_whole_updates) (q := view (OpenLaw.row PySem.Challenge.rw_nearplane_k82_whole_updates).prog [100]) (H := Np.hkA) (ob := Np.obA) (M := 6200) (loose := Np.namesA) (d := HandSHeadRun.topDef (OpenLaw.row PySem.Challenge.rw_nearplane_k82_whole_updates).prog 100) (kwd := []) Np.obA_eq
    (by kernel_rfl) (fun s => by kernel_rfl) Np.runA (by kernel_rfl) (by kernel_rfl) (by kernel_rfl) (by rfl) (by first | assumption | decide +kernel) (by decide +kernel) ⟨rfl, rfl, rfl, rfl, rfl, by decide +kernel⟩ ?hw ?hc
  case hw => w_witness2
  case hc =>
    refine L2.walk_ofE (l := PySem.Challenge.rw_nearplane_k82_whole_updates) (n := 63) (k := 18) (x := "_law_script") (CX := L2.CX0) rfl (by decide) (by kernel_rfl) ⟨rfl, by decide, by decide⟩ ?F (fun _ _ _ _ z => z)
    intro w mg fa h Y G hmg0
    obtain ⟨K, KX, c⟩ := Y
    have hmg : mg ("law" : PySem.Str) = some (.ref fa) := by
      have e : (HandSHeadRun.topDef (OpenLaw.row PySem.Challenge.rw_nearplane_k82_whole_updates).prog 100).name = ("law" : PySem.Str) := by kernel_rfl
      rw [← e]
      exact hmg0
    obtain ⟨fd, hb, hF⟩ := Np.facts (P := (PySem.Challenge.rw_nearplane_k82_whole_updates).prog) (w := w) KX G hmg c
    exact ⟨K, fd, Np.spLaw K, KX, hb, fun H a ns hl _ hS => ⟨a, ns, rfl, hS, fun _ => rfl⟩, hF⟩
