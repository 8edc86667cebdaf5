import PyProof.Rows.All
import Wide.All
import OpenK.AllK
import Wide.FinOn
import KE.KStateDown
import HandS.ForMost
import HandS.Exc
import HandS.ExcInit
import HandS.ClsMeth
import HandS.Defaults
import HandS.HeadHook3
import PySem.Challenge.RW_labelways_k93_whole_lines_and_parts
import HandS.Head0
import HandS.Head1
import HandS.Head2
import HandS.HeadEnd
import HandS.Evl
import HandS.Walk
import HandS.IsInst
import HandS.SortInts
import HandS.Codes
import HandS.SetFor
import HandS.Strs
import PyProof.Rows.SetFrom
import KE.KDictSum
import KE.DataMinMax
import HandS.Sort
import HandS.SortOrd
import HandS.SortRule
import HandS.Conv
import HandS.More
import HandS.TupSets
import PyProof.ReprRoads
import PyProof.ReprBulk
import KE.DatumOrd
import KE.GoesMore
import HandS.Iter
import HandS.ExcField
import HandS.ExcOwn
import OpenK.KCls
import HandS.Text
import HandS.FStr
import HandS.WordsExc
import HandS.Style
import HandS.Ends
set_option Elab.async false
set_option linter.all false
set_option maxRecDepth 100000
set_option maxHeartbeats 4000000
namespace Lw
open PySem PySem.Spec PyProof.Rows L2
def top (i : Nat) : Stmt := PySem.Challenge.pw_labelways_k93_whole_lines_and_parts.main.body.getD i (.Pass ⟨0, 0, 0, 0⟩)
def d_is_number_kinds : He.DefD := ⟨("is_number_kinds", none), "is_number", "is_number", defArgs (top 12), defBody (top 12), defScope (top 12), [], []⟩
def d_is_number_webs : He.DefD := ⟨("is_number_webs", none), "is_number", "is_number", defArgs (top 15), defBody (top 15), defScope (top 15), [], []⟩
def d_long_of : He.DefD := ⟨("long_of", none), "long_of", "long_of", defArgs (top 17), defBody (top 17), defScope (top 17), [], []⟩
def d_beside : He.DefD := ⟨("beside", none), "beside", "beside", defArgs (top 18), defBody (top 18), defScope (top 18), [], []⟩
def d_lesser : He.DefD := ⟨("lesser", none), "lesser", "lesser", defArgs (top 20), defBody (top 20), defScope (top 20), [], []⟩
def d_lengths_from : He.DefD := ⟨("lengths_from", none), "lengths_from", "lengths_from", defArgs (top 21), defBody (top 21), defScope (top 21), [], []⟩
def d_lengths : He.DefD := ⟨("lengths", none), "lengths", "lengths", defArgs (top 22), defBody (top 22), defScope (top 22), [], []⟩
def d_between : He.DefD := ⟨("between", none), "between", "between", defArgs (top 23), defBody (top 23), defScope (top 23), [], []⟩
def d_lies_between : He.DefD := ⟨("lies_between", none), "lies_between", "lies_between", defArgs (top 25), defBody (top 25), defScope (top 25), [], []⟩
def d_lies_beside : He.DefD := ⟨("lies_beside", none), "lies_beside", "lies_beside", defArgs (top 26), defBody (top 26), defScope (top 26), [], []⟩
def d_pairs_of : He.DefD := ⟨("pairs_of", none), "pairs_of", "pairs_of", defArgs (top 27), defBody (top 27), defScope (top 27), [], []⟩
def d_is_part : He.DefD := ⟨("is_part", none), "is_part", "is_part", defArgs (top 28), defBody (top 28), defScope (top 28), [], []⟩
def d_numbers_in : He.DefD := ⟨("numbers_in", none), "numbers_in", "numbers_in", defArgs (top 29), defBody (top 29), defScope (top 29), [], []⟩
def d_part_web : He.DefD := ⟨("part_web", none), "part_web", "part_web", defArgs (top 30), defBody (top 30), defScope (top 30), [], []⟩
def d_part_order : He.DefD := ⟨("part_order", none), "part_order", "part_order", defArgs (top 31), defBody (top 31), defScope (top 31), [], []⟩
def d_cut_entry : He.DefD := ⟨("cut_entry", none), "cut_entry", "cut_entry", defArgs (top 32), defBody (top 32), defScope (top 32), [], []⟩
def d_cut_down : He.DefD := ⟨("cut_down", none), "cut_down", "cut_down", defArgs (top 33), defBody (top 33), defScope (top 33), [], []⟩
def d_is_entry : He.DefD := ⟨("is_entry", none), "is_entry", "is_entry", defArgs (top 35), defBody (top 35), defScope (top 35), [], []⟩
def d_is_label : He.DefD := ⟨("is_label", none), "is_label", "is_label", defArgs (top 36), defBody (top 36), defScope (top 36), [], []⟩
def d_are_labels : He.DefD := ⟨("are_labels", none), "are_labels", "are_labels", defArgs (top 37), defBody (top 37), defScope (top 37), [], []⟩
def d_own_place : He.DefD := ⟨("own_place", none), "own_place", "own_place", defArgs (top 38), defBody (top 38), defScope (top 38), [], []⟩
def d_sums : He.DefD := ⟨("sums", none), "sums", "sums", defArgs (top 39), defBody (top 39), defScope (top 39), [], []⟩
def d_told : He.DefD := ⟨("told", none), "told", "told", defArgs (top 40), defBody (top 40), defScope (top 40), [], []⟩
def d_long_in : He.DefD := ⟨("long_in", none), "long_in", "long_in", defArgs (top 46), defBody (top 46), defScope (top 46), [], []⟩
def d_ask_own : He.DefD := ⟨("ask_own", none), "ask_own", "ask_own", defArgs (top 47), defBody (top 47), defScope (top 47), [], []⟩
def d_hangs : He.DefD := ⟨("hangs", none), "hangs", "hangs", defArgs (top 48), defBody (top 48), defScope (top 48), [], []⟩
def d_ask_ups : He.DefD := ⟨("ask_ups", none), "ask_ups", "ask_ups", defArgs (top 49), defBody (top 49), defScope (top 49), [], []⟩
def d_is_more : He.DefD := ⟨("is_more", none), "is_more", "is_more", defArgs (top 50), defBody (top 50), defScope (top 50), [], []⟩
def d_ask_ties : He.DefD := ⟨("ask_ties", none), "ask_ties", "ask_ties", defArgs (top 51), defBody (top 51), defScope (top 51), [], []⟩
def d_leads_down : He.DefD := ⟨("leads_down", none), "leads_down", "leads_down", defArgs (top 52), defBody (top 52), defScope (top 52), [], []⟩
def d_ask_downs : He.DefD := ⟨("ask_downs", none), "ask_downs", "ask_downs", defArgs (top 53), defBody (top 53), defScope (top 53), [], []⟩
def d_lets_labels : He.DefD := ⟨("lets_labels", none), "lets_labels", "lets_labels", defArgs (top 54), defBody (top 54), defScope (top 54), [], []⟩
def d_is_order : He.DefD := ⟨("is_order", none), "is_order", "is_order", defArgs (top 56), defBody (top 56), defScope (top 56), [], []⟩
def d_is_between : He.DefD := ⟨("is_between", none), "is_between", "is_between", defArgs (top 57), defBody (top 57), defScope (top 57), [], []⟩
def d_is_hub : He.DefD := ⟨("is_hub", none), "is_hub", "is_hub", defArgs (top 58), defBody (top 58), defScope (top 58), [], []⟩
def d_first_place : He.DefD := ⟨("first_place", none), "first_place", "first_place", defArgs (top 59), defBody (top 59), defScope (top 59), [], []⟩
def d_is_next : He.DefD := ⟨("is_next", none), "is_next", "is_next", defArgs (top 60), defBody (top 60), defScope (top 60), [], []⟩
def d_entry_by : He.DefD := ⟨("entry_by", none), "entry_by", "entry_by", defArgs (top 61), defBody (top 61), defScope (top 61), [], []⟩
def d_by_order : He.DefD := ⟨("by_order", none), "by_order", "by_order", defArgs (top 62), defBody (top 62), defScope (top 62), [], []⟩
def d_number_in : He.DefD := ⟨("number_in", none), "number_in", "number_in", defArgs (top 70), defBody (top 70), defScope (top 70), [], []⟩
def d_web_lines : He.DefD := ⟨("web_lines", none), "web_lines", "web_lines", defArgs (top 72), defBody (top 72), defScope (top 72), [], []⟩
def d_read_tie : He.DefD := ⟨("read_tie", none), "read_tie", "read_tie", defArgs (top 73), defBody (top 73), defScope (top 73), [], []⟩
def d_read_web : He.DefD := ⟨("read_web", none), "read_web", "read_web", defArgs (top 74), defBody (top 74), defScope (top 74), [], []⟩
def d_shown_place : He.DefD := ⟨("shown_place", none), "shown_place", "shown_place", defArgs (top 76), defBody (top 76), defScope (top 76), [], []⟩
def d_label_line : He.DefD := ⟨("label_line", none), "label_line", "label_line", defArgs (top 77), defBody (top 77), defScope (top 77), [], []⟩
def d_label_lines : He.DefD := ⟨("label_lines", none), "label_lines", "label_lines", defArgs (top 78), defBody (top 78), defScope (top 78), [], []⟩
def d_place_in : He.DefD := ⟨("place_in", none), "place_in", "place_in", defArgs (top 79), defBody (top 79), defScope (top 79), [], []⟩
def d_entry_in : He.DefD := ⟨("entry_in", none), "entry_in", "entry_in", defArgs (top 80), defBody (top 80), defScope (top 80), [], []⟩
def d_read_label : He.DefD := ⟨("read_label", none), "read_label", "read_label", defArgs (top 81), defBody (top 81), defScope (top 81), [], []⟩
def d_read_labels : He.DefD := ⟨("read_labels", none), "read_labels", "read_labels", defArgs (top 82), defBody (top 82), defScope (top 82), [], []⟩
def d_shown_places : He.DefD := ⟨("shown_places", none), "shown_places", "shown_places", defArgs (top 86), defBody (top 86), defScope (top 86), [], []⟩
def d_numbers_in_row : He.DefD := ⟨("numbers_in_row", none), "numbers_in_row", "numbers_in_row", defArgs (top 87), defBody (top 87), defScope (top 87), [], []⟩
def d_law_tape : He.DefD := ⟨("_law_tape", none), "_law_tape", "_law_tape", defArgs (top 90), defBody (top 90), defScope (top 90), [], []⟩
def d_law_draw : He.DefD := ⟨("_law_draw", none), "_law_draw", "_law_draw", defArgs (top 91), defBody (top 91), defScope (top 91), [], []⟩
def d_law_web : He.DefD := ⟨("_law_web", none), "_law_web", "_law_web", defArgs (top 92), defBody (top 92), defScope (top 92), [], []⟩
def d_law_order : He.DefD := ⟨("_law_order", none), "_law_order", "_law_order", defArgs (top 93), defBody (top 93), defScope (top 93), [], []⟩
def d_law_part : He.DefD := ⟨("_law_part", none), "_law_part", "_law_part", defArgs (top 94), defBody (top 94), defScope (top 94), [], []⟩
def d_law_part_right : He.DefD := ⟨("_law_part_right", none), "_law_part_right", "_law_part_right", defArgs (top 95), defBody (top 95), defScope (top 95), [], []⟩
def d_law_word : He.DefD := ⟨("_law_word", none), "_law_word", "_law_word", defArgs (top 96), defBody (top 96), defScope (top 96), [], []⟩
def d_law_desk_right : He.DefD := ⟨("_law_desk_right", none), "_law_desk_right", "_law_desk_right", defArgs (top 97), defBody (top 97), defScope (top 97), [], []⟩
def d_law : He.DefD := ⟨("law", none), "law", "law", defArgs (top 98), defBody (top 98), defScope (top 98), [], []⟩
def d_NoLabels_init : He.DefD := ⟨("NoLabels", some "__init__"), "__init__", "NoLabels.__init__", defArgs (inClass (top 2) 0), defBody (inClass (top 2) 0), defScope (inClass (top 2) 0), [], []⟩
def d_Keeper_init : He.DefD := ⟨("Keeper", some "__init__"), "__init__", "Keeper.__init__", defArgs (inClass (top 66) 0), defBody (inClass (top 66) 0), defScope (inClass (top 66) 0), [], []⟩
def d_Keeper_web_now : He.DefD := ⟨("Keeper", some "web_now"), "web_now", "Keeper.web_now", defArgs (inClass (top 66) 5), defBody (inClass (top 66) 5), defScope (inClass (top 66) 5), [], []⟩
def d_Keeper_labels_now : He.DefD := ⟨("Keeper", some "labels_now"), "labels_now", "Keeper.labels_now", defArgs (inClass (top 66) 6), defBody (inClass (top 66) 6), defScope (inClass (top 66) 6), [], []⟩
def d_Line_init : He.DefD := ⟨("Line", some "__init__"), "__init__", "Line.__init__", defArgs (inClass (top 71) 0), defBody (inClass (top 71) 0), defScope (inClass (top 71) 0), [], []⟩
def d_Line_is_over : He.DefD := ⟨("Line", some "is_over"), "is_over", "Line.is_over", defArgs (inClass (top 71) 2), defBody (inClass (top 71) 2), defScope (inClass (top 71) 2), [], []⟩
def d_Line_next_word : He.DefD := ⟨("Line", some "next_word"), "next_word", "Line.next_word", defArgs (inClass (top 71) 3), defBody (inClass (top 71) 3), defScope (inClass (top 71) 3), [], []⟩
def d_Line_take : He.DefD := ⟨("Line", some "take"), "take", "Line.take", defArgs (inClass (top 71) 4), defBody (inClass (top 71) 4), defScope (inClass (top 71) 4), [], []⟩
def d_Line_take_word : He.DefD := ⟨("Line", some "take_word"), "take_word", "Line.take_word", defArgs (inClass (top 71) 5), defBody (inClass (top 71) 5), defScope (inClass (top 71) 5), [], []⟩
def d_Line_take_number : He.DefD := ⟨("Line", some "take_number"), "take_number", "Line.take_number", defArgs (inClass (top 71) 6), defBody (inClass (top 71) 6), defScope (inClass (top 71) 6), [], []⟩
def d_Line_end : He.DefD := ⟨("Line", some "end"), "end", "Line.end", defArgs (inClass (top 71) 7), defBody (inClass (top 71) 7), defScope (inClass (top 71) 7), [], []⟩
def d_Desk_init : He.DefD := ⟨("Desk", some "__init__"), "__init__", "Desk.__init__", defArgs (inClass (top 88) 0), defBody (inClass (top 88) 0), defScope (inClass (top 88) 0), [], []⟩
def d_Desk_say : He.DefD := ⟨("Desk", some "say"), "say", "Desk.say", defArgs (inClass (top 88) 1), defBody (inClass (top 88) 1), defScope (inClass (top 88) 1), [], []⟩
def d_Desk_asked : He.DefD := ⟨("Desk", some "asked"), "asked", "Desk.asked", defArgs (inClass (top 88) 2), defBody (inClass (top 88) 2), defScope (inClass (top 88) 2), [], []⟩
def d_Desk_checked : He.DefD := ⟨("Desk", some "checked"), "checked", "Desk.checked", defArgs (inClass (top 88) 3), defBody (inClass (top 88) 3), defScope (inClass (top 88) 3), [], []⟩
def fn0 : List He.DefD := [d_is_number_kinds, d_is_number_webs, d_long_of, d_beside, d_lesser, d_lengths_from, d_lengths, d_between, d_lies_between, d_lies_beside, d_pairs_of, d_is_part, d_numbers_in, d_part_web, d_part_order, d_cut_entry, d_cut_down, d_is_entry, d_is_label, d_are_labels, d_own_place, d_sums, d_told, d_long_in, d_ask_own, d_hangs, d_ask_ups, d_is_more, d_ask_ties, d_leads_down, d_ask_downs, d_lets_labels, d_is_order, d_is_between, d_is_hub]
def fn1 : List He.DefD := [d_first_place, d_is_next, d_entry_by, d_by_order, d_number_in, d_web_lines, d_read_tie, d_read_web, d_shown_place, d_label_line, d_label_lines, d_place_in, d_entry_in, d_read_label, d_read_labels, d_shown_places, d_numbers_in_row, d_law_tape, d_law_draw, d_law_web, d_law_order, d_law_part, d_law_part_right, d_law_word, d_law_desk_right, d_law, d_NoLabels_init, d_Keeper_init, d_Keeper_web_now, d_Keeper_labels_now, d_Line_init, d_Line_is_over, d_Line_next_word, d_Line_take, d_Line_take_word]
def fn2 : List He.DefD := [d_Line_take_number, d_Line_end, d_Desk_init, d_Desk_say, d_Desk_asked, d_Desk_checked]
def fn : List He.DefD := fn0 ++ fn1 ++ fn2
def fa0 : List He.Fa := [.glo "is_number_kinds", .glo "is_number_webs", .glo "long_of", .glo "beside", .glo "lesser", .glo "lengths_from", .glo "lengths", .glo "between", .glo "lies_between", .glo "lies_beside", .glo "pairs_of", .glo "is_part", .glo "numbers_in", .glo "part_web", .glo "part_order", .glo "cut_entry", .glo "cut_down", .glo "is_entry", .glo "is_label", .glo "are_labels", .glo "own_place", .glo "sums", .glo "told", .glo "long_in", .glo "ask_own", .glo "hangs", .glo "ask_ups", .glo "is_more", .glo "ask_ties", .glo "leads_down", .glo "ask_downs", .glo "lets_labels", .glo "is_order", .glo "is_between", .glo "is_hub"]
def fa1 : List He.Fa := [.glo "first_place", .glo "is_next", .glo "entry_by", .glo "by_order", .glo "number_in", .glo "web_lines", .glo "read_tie", .glo "read_web", .glo "shown_place", .glo "label_line", .glo "label_lines", .glo "place_in", .glo "entry_in", .glo "read_label", .glo "read_labels", .glo "shown_places", .glo "numbers_in_row", .glo "_law_tape", .glo "_law_draw", .glo "_law_web", .glo "_law_order", .glo "_law_part", .glo "_law_part_right", .glo "_law_word", .glo "_law_desk_right", .glo "law", .glo "NoLabels", .glo "WayError", .glo "Keeper", .glo "Line", .glo "Desk", .free "len", .free "isinstance", .free "int", .free "bool"]
def fa2 : List He.Fa := [.free "tuple", .free "list", .free "dict", .free "range", .free "sorted", .free "min", .free "max", .free "any", .free "all", .free "enumerate", .free "set", .free "repr", .free "str", .free "ValueError", .int "MOST_PLACES" 24, .int "MOST_TIES" 60, .int "MOST_LONG" 99, .int "MOST_FIGURES_webtexts" 12, .int "MOST_FIGURES_desk" 4, .str "FIGURES" "0123456789", .cls "Keeper", .mkr "Keeper", .noat "Keeper" "kept_labels", .noat "Keeper" "kept_order", .noat "Keeper" "kept_web", .cls "Line", .mkr "Line", .noat "Line" "number_here", .noat "Line" "words_here", .noat "Line" "place_here", .cls "Desk", .mkr "Desk", .noat "Desk" "desk_keeper", .meth "NoLabels" "__init__", .meth "Keeper" "__init__"]
def fa3 : List He.Fa := [.meth "Keeper" "web_now", .meth "Keeper" "labels_now", .meth "Line" "__init__", .meth "Line" "is_over", .meth "Line" "next_word", .meth "Line" "take", .meth "Line" "take_word", .meth "Line" "take_number", .meth "Line" "end", .meth "Desk" "__init__", .meth "Desk" "say", .meth "Desk" "asked", .meth "Desk" "checked", .exm "NoLabels" "NoLabels" true, .keep "NoLabels", .noat "NoLabels" "word", .noat "NoLabels" "at"]
def fa : List He.Fa := fa0 ++ fa1 ++ fa2 ++ fa3
def loose0 : List Str := [("WayError" : Str), ("NoLabels" : Str), ("NoText" : Str), ("NoOrder" : Str), ("NoTie" : Str), ("NoPart" : Str), ("NoRow" : Str), ("MOST_PLACES" : Str), ("MOST_TIES" : Str), ("MOST_LONG" : Str), ("is_number" : Str), ("is_number_kinds" : Str), ("is_number_webs" : Str), ("long_of" : Str), ("beside" : Str), ("lesser" : Str), ("lengths_from" : Str), ("lengths" : Str), ("between" : Str), ("lies_between" : Str), ("lies_beside" : Str), ("pairs_of" : Str), ("is_part" : Str), ("numbers_in" : Str), ("part_web" : Str), ("part_order" : Str), ("cut_entry" : Str), ("cut_down" : Str), ("is_entry" : Str), ("is_label" : Str), ("are_labels" : Str), ("own_place" : Str), ("sums" : Str), ("told" : Str), ("told_hub" : Str)]
def loose1 : List Str := [("entry_of" : Str), ("next_step" : Str), ("walk" : Str), ("long_in" : Str), ("ask_own" : Str), ("hangs" : Str), ("ask_ups" : Str), ("is_more" : Str), ("ask_ties" : Str), ("leads_down" : Str), ("ask_downs" : Str), ("lets_labels" : Str), ("is_order" : Str), ("is_between" : Str), ("is_hub" : Str), ("first_place" : Str), ("is_next" : Str), ("entry_by" : Str), ("by_order" : Str), ("total" : Str), ("pair_in" : Str), ("Keeper" : Str), ("FIGURES" : Str), ("MOST_FIGURES_webtexts" : Str), ("number_in" : Str), ("Line" : Str), ("web_lines" : Str), ("read_tie" : Str), ("read_web" : Str), ("shown_place" : Str), ("label_line" : Str), ("label_lines" : Str), ("place_in" : Str), ("entry_in" : Str), ("read_label" : Str)]
def loose2 : List Str := [("read_labels" : Str), ("MOST_FIGURES_desk" : Str), ("COUNTS" : Str), ("shown_places" : Str), ("numbers_in_row" : Str), ("Desk" : Str), ("_law_tape" : Str), ("_law_draw" : Str), ("_law_web" : Str), ("_law_order" : Str), ("_law_part" : Str), ("_law_part_right" : Str), ("_law_word" : Str), ("_law_desk_right" : Str)]
def loose : List Str := loose0 ++ loose1 ++ loose2
/-- the desk's table: each row's word and how many numbers stand behind it -/
def counts : List (Str × He.Dv) := [("put", .int 3), ("strike", .int 2), ("told", .int 2), ("step", .int 2), ("walk", .int 2), ("label", .int 1), ("total", .int 0), ("web", .int 0)]
/-! ### facts that the hooks lack -/
def oexB (K : PySem.W.Frag) (C : Addr) : Bool := match K.lookup C with
  | some ⟨.type c, _, .cls cd, sl⟩ => decide (c = "type") && (match cd.mro, sl.toList with
    | .ref C' :: bm, [_, _, _, _, some (.builtin n), _] => decide (C' = C) && (decide (n = "ValueError.__new__") && (cd.hasDict && (!cd.hasDel && PySem.HandSPX.refsVE bm)))
    | _, _ => false)
  | _ => false
theorem oexB_ok {K : PySem.W.Frag} {C : Addr} (h : oexB K C = true) :
    ∃ nm q N bs bm sn sub ab col dd k0 k1 k2 k3 k5, K.lookup C = some (excClassObj nm q C N bs bm true sn sub ab col dd k0 k1 k2 k3 k5 "ValueError.__new__") ∧ PySem.HandSPX.refsVE bm = true := by
  unfold oexB at h
  cases q : K.lookup C with
  | none => rw [q] at h; cases h
  | some o =>
    obtain ⟨oc, od, dt, osl⟩ := o
    rw [q] at h
    cases oc with
    | type c =>
      cases dt with
      | cls cd =>
        obtain ⟨h1, h2⟩ := He.ba h
        obtain ⟨nm, bs, mro, ns, qn, hd, sn, sb, ab, col, del⟩ := cd
        obtain ⟨sll⟩ := osl
        have e1 : c = "type" := of_decide_eq_true h1
        subst e1
        dsimp only at h2
        split at h2
        · rename_i C' bm k0 k1 k2 k3 n k5
          obtain ⟨a1, h3⟩ := He.ba h2
          obtain ⟨a2, h4⟩ := He.ba h3
          obtain ⟨a3, h5⟩ := He.ba h4
          obtain ⟨a4, a5⟩ := He.ba h5
          have f1 : C' = C := of_decide_eq_true a1
          have f2 : n = "ValueError.__new__" := of_decide_eq_true a2
          subst f1 f2
          have f4 : del = false := by
            cases del with
            | false => rfl
            | true => cases a4
          have f3 : hd = true := a3
          subst f3 f4
          exact ⟨nm, qn, ns, bs, bm, sn, sb, ab, col, od, k0, k1, k2, k3, k5, rfl, a5⟩
        · cases h2
      | _ => cases h
    | _ => cases dt <;> cases h
def valIs (n : String) : Option PySem.W.CFound → Bool
  | some (.val (.builtin m)) => decide (m = n)
  | _ => false
theorem valIs_ok {n : String} {o : Option PySem.W.CFound} (h : valIs n o = true) : o = some (.val (.builtin n)) := by
  unfold valIs at h
  split at h
  · rw [of_decide_eq_true h]
  · cases h
/-- the refusal's class, its base's __init__, the desk's table -/
def exB (K : PySem.W.Frag) : Bool :=
  (oexB K (He.ga K "NoLabels") && (He.eqO (PySem.W.findIn K (.ref (He.ga K "NoLabels")) "__setattr__") (some (some (.builtin "object.__setattr__"))) && (decide (PySem.W.subIn K (.ref (He.ga K "NoLabels")) (.type "BaseException") = some true) && (decide (PySem.W.typeIn K (.ref (He.ga K "NoLabels")) = some (.type "type")) &&
    (PySem.W.hasDictIn K (He.ga K "NoLabels") && (He.eqO (PySem.W.findIn K (.ref (He.ga K "NoLabels")) "__getattribute__") (some (some (.builtin "BaseException.__getattribute__"))) && He.eqO (PySem.W.findIn K (.ref (He.ga K "NoLabels")) "__getattr__") (some none))))))) &&
  ((PySem.W.readsIn K (He.ga K "WayError") (.type "type") && (He.eqO (PySem.W.specialIn K (.ref (He.ga K "WayError")) "__getattribute__") (some (some (.builtin "type.__getattribute__"))) && valIs "ValueError.__init__" (PySem.W.findCls K (.ref (He.ga K "WayError")) (.type "type") "__init__"))) &&
    (decide (PySem.W.typeIn K (.ref (He.ma K (He.ga K "NoLabels") "__init__")) = some (.type "function")) && (He.valsB K (He.ga K "COUNTS") counts && He.eqO (PySem.W.nsIn K mainGlobals "COUNTS") (some (some (.ref (He.ga K "COUNTS")))))))
/-! ### the hook: what is looked at: the module's names, their classes' names, the code objects -/
def valsOf (g : Addr → Option Obj) (a : Addr) : List Addr := match g a with
  | some ⟨_, _, .dict es _, _⟩ => es.toList.flatMap fun e => He.refV e.val
  | _ => []
def nsRef (g : Addr → Option Obj) (a : Addr) : List Addr := match g a with
  | some ⟨.type _, _, .cls cd, _⟩ => [cd.ns]
  | _ => []
def codeRef (g : Addr → Option Obj) (a : Addr) : List Addr := match g a with
  | some ⟨_, _, .func fd, _⟩ => He.refV fd.code
  | _ => []
def lookAt (g : Addr → Option Obj) : List Addr :=
  let A := valsOf g mainGlobals
  let N := A.flatMap (nsRef g)
  let M := N.flatMap (valsOf g)
  let F := A ++ M
  mainGlobals :: cStatics :: (F ++ (N ++ F.flatMap (codeRef g)))
def tabs : List He.Tab := [(fun K => He.ga K "COUNTS", ["put", "strike", "told", "step", "walk", "label", "total", "web"])]
abbrev Al : Type := He.AlT × Bool
def obsL (K : PySem.W.Frag) : Al := (He.obsT fa fn tabs K, exB K)
def valL (w : World) : Al := (He.valT fn tabs w, true)
def hk : PySem.W.Hook where
  α := Al
  obs := fun s => obsL (He.frG s.heap.get? (lookAt s.heap.get?))
  val := valL
  says := fun w h => ∃ K : PySem.W.Frag, K.In h ∧ obsL K = valL w
  of := fun _ _ e => ⟨_, He.frG_in, e⟩
  keeps := fun _ _ _ ⟨K, hK, c⟩ k => ⟨K, PySem.W.Frag.In.keeps hK k, c⟩
end Lw
set_option maxHeartbeats 0
namespace Lw
open PySem PySem.Spec PyProof.Rows L2
abbrev R : PySem.W.OpenRow := PySem.W.OpenLaw.row PySem.Challenge.rw_labelways_k93_whole_lines_and_parts
def ob (s : PySem.W.SharedT) : Al := obsL (He.frG (HandSHeadRun.getT s) (lookAt (HandSHeadRun.getT s)))
theorem ob_eq (s : PySem.W.SharedT) : ob s = hk.obs s.abs := by
  have e : HandSHeadRun.getT s = s.abs.heap.get? := funext (HandSHeadRun.getT_eq s)
  show obsL _ = obsL _
  rw [e]
theorem runF (w : World) : HandSHeadRun.RunEq R (PySem.W.view R.prog [98]) hk ob 6000 loose (w.withFollow "special-get-raises" false) := by
  intro os
  kernel_rfl
theorem runT (w : World) : HandSHeadRun.RunEq R (PySem.W.view R.prog [98]) hk ob 6000 loose (w.withFollow "special-get-raises" true) := by
  intro os
  kernel_rfl
theorem run (w : World) : HandSHeadRun.RunEq R (PySem.W.view R.prog [98]) hk ob 6000 loose w :=
  PySem.W.byRow2 "special-get-raises" (P := fun w => HandSHeadRun.RunEq R (PySem.W.view R.prog [98]) hk ob 6000 loose w) runF runT w
end Lw
set_option maxHeartbeats 4000000
/-! Pure readings: what evaluates to which data, whatever stands in the heap besides. -/
namespace Lw
open PySem PySem.Spec PyProof.Rows L2 Evl
abbrev Fg := PySem.W.Frag
abbrev Ks := L2.St
/-! ### data without lists: tuples stand for ever -/
mutual
def fz : PyData → Bool
  | .list _ => false
  | .dict _ => false
  | .tuple ds => fzAll ds
  | .none => true
  | .bool _ => true
  | .int _ => true
  | .str _ => true
def fzAll : List PyData → Bool
  | [] => true
  | d :: ds => fz d && fzAll ds
end
theorem fzAll_iff : ∀ {ds : List PyData}, fzAll ds = true ↔ ∀ d ∈ ds, fz d = true
  | [] => by simp [fzAll]
  | d :: ds => by simp [fzAll, fzAll_iff (ds := ds)]
def Tk (H H' : Hp) : Prop := ∀ b xs, Rd H b (.tup xs) → Rd H' b (.tup xs)
theorem Tk.refl (H : Hp) : Tk H H := fun _ _ h => h
theorem Tk.trans {H H1 H2 : Hp} (a : Tk H H1) (b : Tk H1 H2) : Tk H H2 := fun c xs h => b c xs (a c xs h)
theorem Tk.ex {H H' : Hp} (e : Ex H H') : Tk H H' := fun _ _ h => ex_rd e h
/-- an object that is no tuple may turn -/
theorem tk_upd {H : Hp} {p : Addr} {o : HO} (h : ∀ xs, ¬ Rd H p (.tup xs)) : Tk H (upd H p o) := fun b xs q => by
  have ne : b ≠ p := fun e => h xs (e ▸ q)
  rcases q with q | ⟨u, q⟩
  · exact .inl (by rw [upd_ne ne]; exact q)
  · exact .inr ⟨u, by rw [upd_ne ne]; exact q⟩
theorem tk_updL {H : Hp} {p : Addr} {o : HO} {xs : List V} (h : H p = some (.lst xs)) : Tk H (upd H p o) := tk_upd fun ys q => by
  rcases q with q | ⟨u, q⟩ <;> (rw [h] at q; cases q)
theorem tk_updN {H : Hp} {p : Addr} {o : HO} (h : H p = none) : Tk H (upd H p o) := Tk.ex (Ex.new h)
theorem Tk.seq {K : Fg} {H H' : Hp} {a : Addr} {xs : List V} (t : Tk H H') (h : SqT K H a xs) : SqT K H' a xs := by
  rcases h with h | h
  · exact .inl (t _ _ h)
  · exact .inr h
section
variable {K : Fg} {H H' : Hp}
mutual
theorem dp_tk (t : Tk H H') : ∀ (d : PyData) (v : V), fz d = true → Dp K H v d → Dp K H' v d
  | .none, _, _, h => by cases h; exact .non
  | .bool b, _, _, h => by cases h; exact .bl b
  | .int i, _, _, h => by cases h; exact .int i
  | .str x, _, _, h => by cases h; exact .str x
  | .list ds, _, f, _ => by simp [fz] at f
  | .tuple ds, _, f, h => by
    cases h with
    | tup hs ha => exact .tup (t.seq hs) (dpAll_tk t ds _ f ha)
  | .dict _, _, f, _ => by simp [fz] at f
theorem dpAll_tk (t : Tk H H') : ∀ (ds : List PyData) (vs : List V), fzAll ds = true → DpAll K H vs ds → DpAll K H' vs ds
  | [], _, _, h => by cases h; exact .nil
  | d :: ds, _, f, h => by
    cases h with
    | cons h1 h2 =>
      simp only [fzAll, Bool.and_eq_true] at f
      exact .cons (dp_tk t d _ f.1 h1) (dpAll_tk t ds _ f.2 h2)
end
mutual
theorem dp_ex (e : Ex H H') : ∀ (d : PyData) (v : V), Dp K H v d → Dp K H' v d
  | .none, _, h => by cases h; exact .non
  | .bool b, _, h => by cases h; exact .bl b
  | .int i, _, h => by cases h; exact .int i
  | .str x, _, h => by cases h; exact .str x
  | .list ds, _, h => by
    cases h with
    | lst hs ha => exact .lst (ex_l e hs) (dpAll_ex e ds _ ha)
  | .tuple ds, _, h => by
    cases h with
    | tup hs ha => exact .tup (ex_t e hs) (dpAll_ex e ds _ ha)
  | .dict _, _, h => by cases h
theorem dpAll_ex (e : Ex H H') : ∀ (ds : List PyData) (vs : List V), DpAll K H vs ds → DpAll K H' vs ds
  | [], _, h => by cases h; exact .nil
  | d :: ds, _, h => by
    cases h with
    | cons h1 h2 => exact .cons (dp_ex e d _ h1) (dpAll_ex e ds _ h2)
end
end
theorem Dpx {K : Fg} {H H' : Hp} {v : V} {d : PyData} (h : Dp K H v d) (e : Ex H H') : Dp K H' v d := dp_ex e d v h
theorem Dpt {K : Fg} {H H' : Hp} {v : V} {d : PyData} (h : Dp K H v d) (t : Tk H H') (f : fz d = true) : Dp K H' v d := dp_tk t d v f h
theorem Dpsx {K : Fg} {H H' : Hp} {v : List V} {d : List PyData} (h : DpAll K H v d) (e : Ex H H') : DpAll K H' v d := dpAll_ex e d v h
theorem Dpst {K : Fg} {H H' : Hp} {v : List V} {d : List PyData} (h : DpAll K H v d) (t : Tk H H') (f : fzAll d = true) : DpAll K H' v d := dpAll_tk t d v f h
section
variable {K : Fg} {H : Hp}
theorem dps_len : ∀ {vs : List V} {ds : List PyData}, DpAll K H vs ds → vs.length = ds.length
  | _, _, .nil => rfl
  | _, _, .cons _ t => congrArg Nat.succ (dps_len t)
theorem dps_get : ∀ {vs : List V} {ds : List PyData} {i : Nat} {d : PyData}, DpAll K H vs ds → ds[i]? = some d → ∃ v, vs[i]? = some v ∧ Dp K H v d
  | _, _, _, _, .nil, e => by simp at e
  | _, _, 0, _, .cons h _, e => by simp at e; subst e; exact ⟨_, rfl, h⟩
  | _, _, i + 1, d, .cons _ t, e => by
    obtain ⟨v, h1, h2⟩ := dps_get (i := i) (d := d) t (by simpa using e)
    exact ⟨v, by simpa using h1, h2⟩
theorem dps_at : ∀ {vs : List V} {ds : List PyData} {i : Nat} {v : V}, DpAll K H vs ds → vs[i]? = some v → ∃ d, ds[i]? = some d ∧ Dp K H v d
  | _, _, _, _, .nil, e => by simp at e
  | _, _, 0, _, .cons h _, e => by simp at e; subst e; exact ⟨_, rfl, h⟩
  | _, _, i + 1, d, .cons _ t, e => by
    obtain ⟨v, h1, h2⟩ := dps_at (i := i) (v := d) t (by simpa using e)
    exact ⟨v, by simpa using h1, h2⟩
theorem dps_app : ∀ {vs us : List V} {ds es : List PyData}, DpAll K H vs ds → DpAll K H us es → DpAll K H (vs ++ us) (ds ++ es)
  | _, _, _, _, .nil, h => h
  | _, _, _, _, .cons a t, h => .cons a (dps_app t h)
theorem dps_take : ∀ (n : Nat) {vs : List V} {ds : List PyData}, DpAll K H vs ds → DpAll K H (vs.take n) (ds.take n)
  | 0, _, _, _ => by simp; exact .nil
  | n + 1, _, _, .nil => by simp; exact .nil
  | n + 1, _, _, .cons a t => .cons a (dps_take n t)
theorem dps_drop : ∀ (n : Nat) {vs : List V} {ds : List PyData}, DpAll K H vs ds → DpAll K H (vs.drop n) (ds.drop n)
  | 0, _, _, h => h
  | n + 1, _, _, .nil => by simp; exact .nil
  | n + 1, _, _, .cons a t => dps_drop n t
theorem dps_set : ∀ (n : Nat) {vs : List V} {ds : List PyData} {v : V} {d : PyData}, DpAll K H vs ds → Dp K H v d → DpAll K H (vs.set n v) (ds.set n d)
  | _, _, _, _, _, .nil, _ => .nil
  | 0, _, _, _, _, .cons _ t, h => .cons h t
  | n + 1, _, _, _, _, .cons a t, h => .cons a (dps_set n t h)
theorem dps_ints : ∀ {vs : List V} {ns : List Int}, DpAll K H vs (ns.map .int) → vs = ns.map V.int
  | _, [], h => by cases h; rfl
  | _, n :: ns, h => by
    cases h with
    | cons a t =>
      cases a
      rw [dps_ints t]
      rfl
theorem ints_dps : ∀ ns : List Int, DpAll K H (ns.map V.int) (ns.map .int)
  | [] => .nil
  | n :: ns => .cons (.int n) (ints_dps ns)
theorem dps_strs : ∀ {vs : List V} {ns : List Str}, DpAll K H vs (ns.map .str) → vs = ns.map V.str
  | _, [], h => by cases h; rfl
  | _, n :: ns, h => by
    cases h with
    | cons a t =>
      cases a
      rw [dps_strs t]
      rfl
theorem strs_dps : ∀ ns : List Str, DpAll K H (ns.map V.str) (ns.map .str)
  | [] => .nil
  | n :: ns => .cons (.str n) (strs_dps ns)
theorem dps_bools : ∀ {vs : List V} {ns : List Bool}, DpAll K H vs (ns.map .bool) → vs = ns.map V.bl
  | _, [], h => by cases h; rfl
  | _, n :: ns, h => by
    cases h with
    | cons a t =>
      cases a
      rw [dps_bools t]
      rfl
theorem dp_int {v : V} {i : Int} (h : Dp K H v (.int i)) : v = .int i := by cases h; rfl
theorem dp_bool {v : V} {b : Bool} (h : Dp K H v (.bool b)) : v = .bl b := by cases h; rfl
theorem dp_str {v : V} {x : Str} (h : Dp K H v (.str x)) : v = .str x := by cases h; rfl
theorem dp_none {v : V} (h : Dp K H v .none) : v = .non := by cases h; rfl
theorem dp_tup {v : V} {ds : List PyData} (h : Dp K H v (.tuple ds)) : ∃ a xs, v = .ref a ∧ SqT K H a xs ∧ DpAll K H xs ds := by
  cases h with
  | tup a b => exact ⟨_, _, rfl, a, b⟩
theorem dp_lst {v : V} {ds : List PyData} (h : Dp K H v (.list ds)) : ∃ a xs, v = .ref a ∧ SqL K H a xs ∧ DpAll K H xs ds := by
  cases h with
  | lst a b => exact ⟨_, _, rfl, a, b⟩
end
/-! ### what evaluates to which data -/
def EvD (K : Fg) (te : TE) (σ : Ks) (H : Hp) (d : PyData) : Prop := ∀ H1, Ex H H1 → ∀ Q : VK, (∀ v H2, Ex H1 H2 → Dp K H2 v d → Q v H2) → te σ H1 Q
def EvDs (K : Fg) (ta : TA) (σ : Ks) (H : Hp) (ds : List PyData) : Prop := ∀ H1, Ex H H1 → ∀ Q : List V → Hp → Prop, (∀ vs H2, Ex H1 H2 → DpAll K H2 vs ds → Q vs H2) → ta σ H1 Q
section
variable {K : Fg} {σ : Ks} {H H' : Hp} {ta tb te tx : TE} {t u : TT} {x y z v : V} {r : R2} {d e : PyData} {ds es : List PyData}
theorem EvD.mono (e : Ex H H') (h : EvD K te σ H d) : EvD K te σ H' d := fun H1 a Q q => h H1 (e.trans a) Q q
theorem EvD.to (h : EvD K te σ H d) (q : d = e) : EvD K te σ H e := q ▸ h
theorem evd_var {i : Nat} (h : σ[i]? = some (some v)) (hd : Dp K H v d) : EvD K (tVar i) σ H d := fun H1 e Q q => ⟨v, h, q v H1 (Ex.refl _) (Dpx hd e)⟩
theorem evd_ev (h : Ev te σ H v) (hd : ∀ H', Dp K H' v d) : EvD K te σ H d := fun H1 e Q q => h H1 e Q fun H2 e2 => q v H2 e2 (hd H2)
theorem evd_int {i : Int} (h : Ev te σ H (.int i)) : EvD K te σ H (.int i) := evd_ev h fun _ => .int i
theorem evd_bool {b : Bool} (h : Ev te σ H (.bl b)) : EvD K te σ H (.bool b) := evd_ev h fun _ => .bl b
theorem evd_str {b : Str} (h : Ev te σ H (.str b)) : EvD K te σ H (.str b) := evd_ev h fun _ => .str b
theorem evd_none (h : Ev te σ H .non) : EvD K te σ H .none := evd_ev h fun _ => .non
theorem ev_int {i : Int} (h : EvD K te σ H (.int i)) : Ev te σ H (.int i) := fun H1 e Q q => h H1 e Q fun v H2 e2 dd => by
  rw [dp_int dd]; exact q H2 e2
theorem ev_bool {b : Bool} (h : EvD K te σ H (.bool b)) : Ev te σ H (.bl b) := fun H1 e Q q => h H1 e Q fun v H2 e2 dd => by
  rw [dp_bool dd]; exact q H2 e2
theorem ev_str {b : Str} (h : EvD K te σ H (.str b)) : Ev te σ H (.str b) := fun H1 e Q q => h H1 e Q fun v H2 e2 dd => by
  rw [dp_str dd]; exact q H2 e2
theorem ev_none (h : EvD K te σ H .none) : Ev te σ H .non := fun H1 e Q q => h H1 e Q fun v H2 e2 dd => by
  rw [dp_none dd]; exact q H2 e2
theorem evds_nil : EvDs K tNil σ H [] := fun H1 _ Q q => q [] H1 (Ex.refl _) .nil
theorem evds_cons {tr : TA} (h : EvD K te σ H d) (hr : EvDs K tr σ H ds) : EvDs K (tCons te tr) σ H (d :: ds) := fun H1 e Q q =>
  h H1 e _ fun v H2 e2 d2 => hr H2 (e.trans e2) _ fun vs H3 e3 d3 => q (v :: vs) H3 (e2.trans e3) (.cons (Dpx d2 e3) d3)
/-! displays -/
theorem evd_tup {ta : TA} (h : EvDs K ta σ H ds) (hl : ds.length ≤ 100000) : EvD K (tTup ta) σ H (.tuple ds) := fun H1 e Q q =>
  h H1 e _ fun vs H2 e2 d2 => ⟨sz_of (by rw [dps_len d2]; exact hl), fun p hp => q _ _ (e2.trans (Ex.new hp)) (.tup (st_of upd_same) (Dpsx d2 (Ex.new hp)))⟩
theorem evd_lst {ta : TA} (h : EvDs K ta σ H ds) (hl : ds.length ≤ 100000) : EvD K (tLst ta) σ H (.list ds) := fun H1 e Q q =>
  h H1 e _ fun vs H2 e2 d2 => ⟨sz_of (by rw [dps_len d2]; exact hl), fun p hp => q _ _ (e2.trans (Ex.new hp)) (.lst (sq_of upd_same) (Dpsx d2 (Ex.new hp)))⟩
/-! items -/
def ixD (ds : List PyData) (i : Int) : Option PyData := (ixN ds.length i).bind fun j => ds[j]?
theorem atI_dps {xs : List V} {i : Int} (h : DpAll K H xs ds) (e : ixD ds i = some d) : ∃ v, atI xs i = some v ∧ Dp K H v d := by
  unfold ixD at e
  obtain ⟨j, e1, e2⟩ := Option.bind_eq_some_iff.mp e
  obtain ⟨v, e3, e4⟩ := dps_get h e2
  refine ⟨v, ?_, e4⟩
  unfold atI
  rw [dps_len h, e1]
  exact e3
theorem ixD_nat {ds : List PyData} {j : Nat} {d : PyData} (h : ds[j]? = some d) : ixD ds (j : Int) = some d := by
  have hj : j < ds.length := (List.getElem?_eq_some_iff.mp h).1
  have q := atI_nat (xs := ds) h
  exact q
theorem evd_ixT {i : Int} (ha : EvD K ta σ H (.tuple ds)) (hb : Ev tb σ H (.int i)) (hi : ixD ds i = some d) : EvD K (tOp (rIxT K) ta tb) σ H d := fun H1 e Q q =>
  ha H1 e _ fun v H2 e2 d2 => hb H2 (e.trans e2) _ fun H3 e3 => by
    obtain ⟨a, xs, rfl, hs, hd⟩ := dp_tup d2
    obtain ⟨v, q1, q2⟩ := atI_dps (Dpsx hd e3) hi
    exact ⟨a, xs, i, v, rfl, rfl, ex_t e3 hs, q1, q v H3 (e2.trans e3) q2⟩
theorem evd_ixL {i : Int} (ha : EvD K ta σ H (.list ds)) (hb : Ev tb σ H (.int i)) (hi : ixD ds i = some d) : EvD K (tOp (rIxL K) ta tb) σ H d := fun H1 e Q q =>
  ha H1 e _ fun v H2 e2 d2 => hb H2 (e.trans e2) _ fun H3 e3 => by
    obtain ⟨a, xs, rfl, hs, hd⟩ := dp_lst d2
    obtain ⟨v, q1, q2⟩ := atI_dps (Dpsx hd e3) hi
    exact ⟨a, xs, i, v, rfl, rfl, ex_l e3 hs, q1, q v H3 (e2.trans e3) q2⟩
/-! len -/
def rLenQ (K : Fg) : List V → Hp → VK → Prop := fun xs H Q => ∃ p ys, xs = [.ref p] ∧ (SqL K H p ys ∨ SqT K H p ys) ∧ Q (.int ys.length) H
theorem ev_lenT {ta : TE} (ha : EvD K ta σ H (.tuple ds)) : Ev (tCB (rLenQ K) (tCons ta tNil)) σ H (.int ds.length) := fun H1 e Q q =>
  ha H1 e _ fun v H2 e2 d2 => by
    obtain ⟨a, xs, rfl, hs, hd⟩ := dp_tup d2
    exact ⟨a, xs, rfl, .inr hs, by rw [dps_len hd]; exact q H2 e2⟩
theorem ev_lenL {ta : TE} (ha : EvD K ta σ H (.list ds)) : Ev (tCB (rLenQ K) (tCons ta tNil)) σ H (.int ds.length) := fun H1 e Q q =>
  ha H1 e _ fun v H2 e2 d2 => by
    obtain ⟨a, xs, rfl, hs, hd⟩ := dp_lst d2
    exact ⟨a, xs, rfl, .inl hs, by rw [dps_len hd]; exact q H2 e2⟩
/-! == of data, is None -/
theorem ev_eqD (ha : EvD K ta σ H d) (hb : EvD K tb σ H e) (sd : SeqAt.shaped d = true) (se : SeqAt.shaped e = true) : Ev (tOp (rEqD K) ta tb) σ H (.bl (PyData.eqv d e)) := fun H1 x Q q =>
  ha H1 x _ fun v H2 e2 d2 => hb H2 (x.trans e2) _ fun v3 H3 e3 d3 => ⟨d, e, Dpx d2 e3, d3, sd, se, q H3 (e2.trans e3)⟩
theorem ev_neD (ha : EvD K ta σ H d) (hb : EvD K tb σ H e) (sd : SeqAt.shaped d = true) (se : SeqAt.shaped e = true) : Ev (tOp (rNeD K) ta tb) σ H (.bl (!PyData.eqv d e)) := fun H1 x Q q =>
  ha H1 x _ fun v H2 e2 d2 => hb H2 (x.trans e2) _ fun v3 H3 e3 d3 => ⟨d, e, Dpx d2 e3, d3, sd, se, q H3 (e2.trans e3)⟩
def isNone : PyData → Bool
  | .none => true
  | _ => false
theorem dp_isNone {K : Fg} {H : Hp} {v : V} {d : PyData} (h : Dp K H v d) : decide (v = .non) = isNone d := by
  cases h <;> first | rfl | (exact decide_eq_false (by intro z; cases z))
abbrev rIsNq : R2 := fun x y H Q => y = .non ∧ Q (.bl (decide (x = .non))) H
abbrev rNotNq : R2 := fun x y H Q => y = .non ∧ Q (.bl (!decide (x = .non))) H
theorem ev_isN (ha : EvD K ta σ H d) : Ev (tOp rIsNq ta (tC .non)) σ H (.bl (isNone d)) := fun H1 x Q q =>
  ha H1 x _ fun v H2 e2 d2 => ⟨rfl, by rw [dp_isNone d2]; exact q H2 e2⟩
theorem ev_notN (ha : EvD K ta σ H d) : Ev (tOp rNotNq ta (tC .non)) σ H (.bl (!isNone d)) := fun H1 x Q q =>
  ha H1 x _ fun v H2 e2 d2 => ⟨rfl, by rw [dp_isNone d2]; exact q H2 e2⟩
/-! conditional expressions, slices of tuples -/
theorem evd_if {b : Bool} (h : EvT t σ H b) (h1 : b = true → EvD K ta σ H d) (h2 : b = false → EvD K tb σ H d) : EvD K (tIf t ta tb) σ H d := fun H1 e Q q => h H1 e _ fun H2 e2 => by
  cases b with
  | true => exact h1 rfl H2 (e.trans e2) Q fun v H3 e3 d3 => q v H3 (e2.trans e3) d3
  | false => exact h2 rfl H2 (e.trans e2) Q fun v H3 e3 d3 => q v H3 (e2.trans e3) d3
theorem evo_none : EvO tNoPart σ H none := fun H1 _ _ q => q H1 (Ex.refl _)
theorem evo_some {i : Int} (h : Ev te σ H (.int i)) : EvO (tPart te) σ H (some i) := fun H1 e Q q => h H1 e _ fun H2 e2 => ⟨i, rfl, q H2 e2⟩
def cutD (ds : List PyData) (lo hi : Option Int) : List PyData := (ds.drop (HT.sIx ds.length 0 lo)).take (HT.sIx ds.length ds.length hi - HT.sIx ds.length 0 lo)
theorem dps_cut {xs : List V} {lo hi : Option Int} (h : DpAll K H xs ds) : DpAll K H (cutV xs lo hi) (cutD ds lo hi) := by
  unfold cutV cutD
  rw [dps_len h]
  exact dps_take _ (dps_drop _ h)
theorem evd_slT {lo hi : TO} {l u : Option Int} (ha : EvD K ta σ H (.tuple ds)) (hl : EvO lo σ H l) (hu : EvO hi σ H u) (hn : ¬ (HT.sIx ds.length 0 l = 0 ∧ HT.sIx ds.length ds.length u = ds.length)) : EvD K (tSl (rSlT K) ta lo hi) σ H (.tuple (cutD ds l u)) := fun H1 e Q q =>
  ha H1 e _ fun v H2 e2 d2 => hl H2 (e.trans e2) _ fun H3 e3 => hu H3 ((e.trans e2).trans e3) _ fun H4 e4 => by
    obtain ⟨a, xs, rfl, hs, hd⟩ := dp_tup d2
    have e34 := e3.trans e4
    refine ⟨a, xs, rfl, ex_t e34 hs, by rw [dps_len hd]; exact hn, fun p hp => q _ _ ((e2.trans e34).trans (Ex.new hp)) (.tup (st_of upd_same) (Dpsx (dps_cut (Dpsx hd e34)) (Ex.new hp)))⟩
theorem evd_slL {lo hi : TO} {l u : Option Int} (ha : EvD K ta σ H (.list ds)) (hl : EvO lo σ H l) (hu : EvO hi σ H u) : EvD K (tSl (rSlL K) ta lo hi) σ H (.list (cutD ds l u)) := fun H1 e Q q =>
  ha H1 e _ fun v H2 e2 d2 => hl H2 (e.trans e2) _ fun H3 e3 => hu H3 ((e.trans e2).trans e3) _ fun H4 e4 => by
    obtain ⟨a, xs, rfl, hs, hd⟩ := dp_lst d2
    have e34 := e3.trans e4
    refine ⟨a, xs, rfl, ex_l e34 hs, fun p hp => q _ _ ((e2.trans e34).trans (Ex.new hp)) (.lst (sq_of upd_same) (Dpsx (dps_cut (Dpsx hd e34)) (Ex.new hp)))⟩
/-! tuple(list), list(tuple) -/
def rTupQ (K : Fg) : List V → Hp → VK → Prop := fun xs H Q => ∃ p ys, xs = [.ref p] ∧ ((SqL K H p ys ∧ ∀ l, H l = none → Q (.ref l) (upd H l (.tup ys))) ∨ (SqT K H p ys ∧ Q (.ref p) H))
theorem evd_tupL (ha : EvD K ta σ H (.list ds)) : EvD K (tCB (rTupQ K) (tCons ta tNil)) σ H (.tuple ds) := fun H1 e Q q =>
  ha H1 e _ fun v H2 e2 d2 => by
    obtain ⟨a, xs, rfl, hs, hd⟩ := dp_lst d2
    exact ⟨a, xs, rfl, .inl ⟨hs, fun l hl => q _ _ (e2.trans (Ex.new hl)) (.tup (st_of upd_same) (Dpsx hd (Ex.new hl)))⟩⟩
theorem evd_tupT (ha : EvD K ta σ H (.tuple ds)) : EvD K (tCB (rTupQ K) (tCons ta tNil)) σ H (.tuple ds) := fun H1 e Q q =>
  ha H1 e _ fun v H2 e2 d2 => by
    obtain ⟨a, xs, rfl, hs, hd⟩ := dp_tup d2
    exact ⟨a, xs, rfl, .inr ⟨hs, q _ _ e2 (.tup hs hd)⟩⟩
def rLstQ (K : Fg) : List V → Hp → VK → Prop := fun xs H Q => ∃ p ys, xs = [.ref p] ∧ (SqL K H p ys ∨ SqT K H p ys) ∧ ∀ l, H l = none → Q (.ref l) (upd H l (.lst ys))
theorem evd_lstL (ha : EvD K ta σ H (.list ds)) : EvD K (tCB (rLstQ K) (tCons ta tNil)) σ H (.list ds) := fun H1 e Q q =>
  ha H1 e _ fun v H2 e2 d2 => by
    obtain ⟨a, xs, rfl, hs, hd⟩ := dp_lst d2
    exact ⟨a, xs, rfl, .inl hs, fun l hl => q _ _ (e2.trans (Ex.new hl)) (.lst (sq_of upd_same) (Dpsx hd (Ex.new hl)))⟩
/-! any, all -/
theorem ev_anyD {bs : List Bool} (ha : EvD K ta σ H (.list (bs.map .bool))) : Ev (tCB (rAny K) (tCons ta tNil)) σ H (.bl (bs.any id)) := fun H1 e Q q =>
  ha H1 e _ fun v H2 e2 d2 => by
    obtain ⟨a, xs, rfl, hs, hd⟩ := dp_lst d2
    rw [dps_bools hd] at hs
    exact ⟨a, bs, rfl, hs, q H2 e2⟩
theorem ev_allD {bs : List Bool} (ha : EvD K ta σ H (.list (bs.map .bool))) : Ev (tCB (rAll K) (tCons ta tNil)) σ H (.bl (bs.all id)) := fun H1 e Q q =>
  ha H1 e _ fun v H2 e2 d2 => by
    obtain ⟨a, xs, rfl, hs, hd⟩ := dp_lst d2
    rw [dps_bools hd] at hs
    exact ⟨a, bs, rfl, hs, q H2 e2⟩
end
/-! ### what is walked -/
def YD (K : Fg) (ds : List PyData) : Nat → Hp → V → Hp → Prop := fun i H3 x H4 => Ex H3 H4 ∧ ∃ d, ds[i]? = some d ∧ Dp K H4 x d
/-- from the ground H on: the walk yields these data while the ground stands -/
def EvI (K : Fg) (wi : TI) (σ : Ks) (H : Hp) (ds : List PyData) : Prop := ∀ H1, Ex H H1 → ∀ R : It → Hp → Prop, (∀ J H2, Ex H1 H2 → Walk J ds.length (fun H' => Ex H H') (YD K ds) → R J H2) → wi σ H1 R
/-- .. while what stands at its making stands -/
def EvJ (K : Fg) (wi : TI) (σ : Ks) (H : Hp) (ds : List PyData) : Prop := ∀ H1, Ex H H1 → ∀ R : It → Hp → Prop, (∀ J H2, Ex H1 H2 → Walk J ds.length (fun H' => Ex H2 H') (YD K ds) → R J H2) → wi σ H1 R
section
variable {K : Fg} {σ : Ks} {H H' : Hp} {ta tb te tx : TE} {t u : TT} {x y z v : V} {r : R2} {d e : PyData} {ds es : List PyData} {wi : TI}
theorem EvI.j (h : EvI K wi σ H ds) : EvJ K wi σ H ds := fun H1 e R k => h H1 e R fun J H2 e2 w => k J H2 e2 (w.mono (fun H' q => (e.trans e2).trans q) fun _ _ _ _ _ _ y => y)
theorem evi_var {i : Nat} (h : σ[i]? = some (some v)) (hd : Dp K H v (.tuple ds)) : EvI K (iTup K (tVar i)) σ H ds := fun H1 e R k => by
  obtain ⟨a, xs, rfl, hs, ha⟩ := dp_tup hd
  refine ⟨_, h, a, rfl, ⟨xs, ex_t e hs⟩, k _ H1 (Ex.refl _) ?_⟩
  rw [← dps_len ha]
  refine walk_tup.mono (fun H' q => ex_t q hs) fun i H3 x H4 hi g y => ?_
  obtain ⟨rfl, e2⟩ := y
  obtain ⟨d, e3, e4⟩ := dps_at ha e2
  exact ⟨Ex.refl _, d, e3, Dpx e4 g⟩
theorem evi_varL {i : Nat} (h : σ[i]? = some (some v)) (hd : Dp K H v (.list ds)) : EvI K (iList K (tVar i)) σ H ds := fun H1 e R k => by
  obtain ⟨a, xs, rfl, hs, ha⟩ := dp_lst hd
  refine ⟨_, h, a, rfl, ⟨xs, ex_l e hs⟩, k _ H1 (Ex.refl _) ?_⟩
  rw [← dps_len ha]
  refine walk_list.mono (fun H' q => ex_l q hs) fun i H3 x H4 hi g y => ?_
  obtain ⟨rfl, e2⟩ := y
  obtain ⟨d, e3, e4⟩ := dps_at ha e2
  exact ⟨Ex.refl _, d, e3, Dpx e4 g⟩
theorem evj_T (h : EvD K te σ H (.tuple ds)) : EvJ K (iTup K te) σ H ds := fun H1 e R k => h H1 e _ fun v H2 e2 hd => by
  obtain ⟨a, xs, rfl, hs, ha⟩ := dp_tup hd
  refine ⟨a, rfl, ⟨xs, hs⟩, k _ H2 e2 ?_⟩
  rw [← dps_len ha]
  refine walk_tup.mono (fun H' q => ex_t q hs) fun i H3 x H4 hi g y => ?_
  obtain ⟨rfl, e2⟩ := y
  obtain ⟨d, e3, e4⟩ := dps_at ha e2
  exact ⟨Ex.refl _, d, e3, Dpx e4 g⟩
theorem evj_L (h : EvD K te σ H (.list ds)) : EvJ K (iList K te) σ H ds := fun H1 e R k => h H1 e _ fun v H2 e2 hd => by
  obtain ⟨a, xs, rfl, hs, ha⟩ := dp_lst hd
  refine ⟨a, rfl, ⟨xs, hs⟩, k _ H2 e2 ?_⟩
  rw [← dps_len ha]
  refine walk_list.mono (fun H' q => ex_l q hs) fun i H3 x H4 hi g y => ?_
  obtain ⟨rfl, e2⟩ := y
  obtain ⟨d, e3, e4⟩ := dps_at ha e2
  exact ⟨Ex.refl _, d, e3, Dpx e4 g⟩
/-- an item of a tuple that stands in the ground: for .. in web[1] -/
theorem evi_item {i : Nat} {j : Int} (h : σ[i]? = some (some v)) (hd : Dp K H v (.tuple es)) (hj : ixD es j = some (.tuple ds)) : EvI K (iTup K (tOp (rIxT K) (tVar i) (tC (.int j)))) σ H ds := fun H1 e R k => by
  obtain ⟨a, xs, rfl, hs, ha⟩ := dp_tup hd
  obtain ⟨v2, q1, q2⟩ := atI_dps ha hj
  obtain ⟨a2, xs2, rfl, hs2, ha2⟩ := dp_tup q2
  refine ⟨_, h, a, xs, j, _, rfl, rfl, ex_t e hs, q1, a2, rfl, ⟨xs2, ex_t e hs2⟩, k _ H1 (Ex.refl _) ?_⟩
  rw [← dps_len ha2]
  refine walk_tup.mono (fun H' q => ex_t q hs2) fun i H3 x H4 hi g y => ?_
  obtain ⟨rfl, e2⟩ := y
  obtain ⟨d, e3, e4⟩ := dps_at ha2 e2
  exact ⟨Ex.refl _, d, e3, Dpx e4 g⟩
def upto (n : Nat) : List PyData := (List.range n).map fun (i : Nat) => .int (i : Int)
theorem upto_len (n : Nat) : (upto n).length = n := by unfold upto; simp
theorem upto_at {n i : Nat} (h : i < n) : (upto n)[i]? = some (.int (i : Int)) := by
  unfold upto
  rw [List.getElem?_map, List.getElem?_range h]
  rfl
theorem evi_range {n : Nat} (h : Ev te σ H (.int (n : Int))) (hn : n ≤ 100000) : EvI K (iRng1 (tCons te tNil)) σ H (upto n) := fun H1 e R k => h H1 e _ fun H2 e2 => by
  refine ⟨(n : Int), rfl, by omega, by omega, k _ H2 e2 ?_⟩
  rw [upto_len, Int.toNat_natCast]
  refine walk_range.mono (fun _ _ => trivial) fun i H3 x H4 hi g y => ?_
  obtain ⟨rfl, rfl⟩ := y
  refine ⟨Ex.refl _, .int (i : Int), upto_at hi, ?_⟩
  show Dp K _ (V.int (0 + (i : Int))) _
  rw [Int.zero_add]
  exact .int _
def fromTo (a n : Nat) : List PyData := (List.range (n - a)).map fun (i : Nat) => .int ((a + i : Nat) : Int)
theorem fromTo_len (a n : Nat) : (fromTo a n).length = n - a := by unfold fromTo; simp
theorem fromTo_at {a n i : Nat} (h : i < n - a) : (fromTo a n)[i]? = some (.int ((a + i : Nat) : Int)) := by
  unfold fromTo
  rw [List.getElem?_map, List.getElem?_range h]
  rfl
theorem evi_range2 {tf : TE} {a n : Nat} (ha : Ev tf σ H (.int (a : Int))) (h : Ev te σ H (.int (n : Int))) (ha' : a ≤ 100000) (hn : n ≤ 100000) : EvI K (iRng2 (tCons tf (tCons te tNil))) σ H (fromTo a n) := fun H1 e R k => ha H1 e _ fun H2 e2 => h H2 (e.trans e2) _ fun H3 e3 => by
  refine ⟨(a : Int), (n : Int), rfl, ⟨by omega, by omega, by omega, by omega⟩, k _ H3 (e2.trans e3) ?_⟩
  rw [fromTo_len, show ((n : Int) - (a : Int)).toNat = n - a by omega]
  refine walk_range.mono (fun _ _ => trivial) fun i H3 x H4 hi g y => ?_
  obtain ⟨rfl, rfl⟩ := y
  refine ⟨Ex.refl _, .int ((a + i : Nat) : Int), fromTo_at hi, ?_⟩
  show Dp K _ (V.int ((a : Int) + (i : Int))) _
  rw [show (a : Int) + (i : Int) = ((a + i : Nat) : Int) by omega]
  exact .int _
/-! ### comprehensions -/
theorem evd_lc {g : TG} {tt : TT} {vs : List Nat} (f : PyData → Bool) (m : PyData → PyData) (hs : EvJ K wi σ H ds) (hz : ds.length ≤ 100000) (hm : ∀ d ∈ ds, f d = true → fz (m d) = true)
    (ht : ∀ (d : PyData) (x : V) (H3 : Hp) (P : Ks → Hp → Prop), d ∈ ds → Ex H H3 → Dp K H3 x d → (∀ σ2, wipe σ2 vs = wipe σ vs → EvT tt σ2 H3 (f d) → (f d = true → EvD K te σ2 H3 (m d)) → P σ2 H3) → g x (wipe σ vs) H3 P) :
    EvD K (tLc wi g tt te vs) σ H (.list ((ds.filter f).map m)) := fun H0 e0 Q q => hs H0 e0 _ fun J H1 e1 w Dl hD => by
  have e01 := e0.trans e1
  refine lc_it (w.mono (G' := fun H' => Ex H1 H') (Y' := YD K ds) (fun _ z => z) (fun _ _ _ _ _ _ y => y)) (fun i H' => Ex H1 H' ∧ ∃ acc, H' Dl = some (.lst acc) ∧ DpAll K H' acc (((ds.take i).filter f).map m))
    ⟨Ex.new hD, [], upd_same, by simp; exact .nil⟩ (fun i H' _ p => p.1) (fun i x H3 H4 hi p y => ?_) fun H' p => ?_
  · obtain ⟨p1, acc, p2, p3⟩ := p
    obtain ⟨y1, d, y2, y3⟩ := y
    have hmem : d ∈ ds := List.mem_of_getElem? y2
    refine ht d x H4 _ hmem (e01.trans (p1.trans y1)) y3 fun σ2 hw h1 h2 => ⟨hw, h1 H4 (Ex.refl _) _ fun H5 e5 => ?_⟩
    have et : ds.take (i + 1) = ds.take i ++ [d] := by rw [List.take_add_one, y2]; rfl
    have ef : ((ds.take (i + 1)).filter f).map m = ((ds.take i).filter f).map m ++ (if f d = true then [m d] else []) := by
      rw [et, List.filter_append, List.map_append]
      congr 1
      rw [List.filter_cons]
      split <;> rfl
    have fzA : fzAll (((ds.take i).filter f).map m) = true := fzAll_iff.mpr fun z hz => by
      obtain ⟨d', hd', rfl⟩ := List.mem_map.mp hz
      obtain ⟨hd1, hd2⟩ := List.mem_filter.mp hd'
      exact hm d' (List.mem_of_mem_take hd1) hd2
    have lenA : acc.length ≤ ds.length := by
      rw [dps_len p3, List.length_map]
      exact Nat.le_trans (List.length_filter_le _ _) (by rw [List.length_take]; omega)
    cases hf : f d with
    | true =>
      rw [hf] at ef
      refine h2 hf H5 (e5) _ fun v H6 e6 d6 => ⟨acc, e6 _ _ (e5 _ _ (y1 _ _ p2)), by have := sz_lt (n := acc.length); rw [sizeLine_eq]; omega, ?_⟩
      have tk : Tk H6 (upd H6 Dl (.lst (acc ++ [v]))) := tk_updL (e6 _ _ (e5 _ _ (y1 _ _ p2)))
      refine ⟨Ex.mut (p1.trans (y1.trans (e5.trans e6))) hD, acc ++ [v], upd_same, ?_⟩
      rw [ef, if_pos rfl]
      exact dps_app (Dpst (Dpsx p3 (y1.trans (e5.trans e6))) tk fzA) (.cons (Dpt d6 tk (hm d hmem hf)) .nil)
    | false =>
      rw [hf] at ef
      refine ⟨p1.trans (y1.trans e5), acc, e5 _ _ (y1 _ _ p2), ?_⟩
      rw [ef, if_neg Bool.false_ne_true, List.append_nil]
      exact Dpsx p3 (y1.trans e5)
  · obtain ⟨p1, acc, p2, p3⟩ := p
    rw [List.take_length] at p3
    exact q _ _ (e1.trans p1) (.lst (sq_of p2) p3)
/-- no test -/
theorem evt_yes {σ : Ks} {H : Hp} : EvT tYes σ H true := fun H1 _ _ q => q H1 (Ex.refl _)
theorem evd_lcm {g : TG} {vs : List Nat} (m : PyData → PyData) (hs : EvJ K wi σ H ds) (hz : ds.length ≤ 100000) (hm : ∀ d ∈ ds, fz (m d) = true)
    (ht : ∀ (d : PyData) (x : V) (H3 : Hp) (P : Ks → Hp → Prop), d ∈ ds → Ex H H3 → Dp K H3 x d → (∀ σ2, wipe σ2 vs = wipe σ vs → EvD K te σ2 H3 (m d) → P σ2 H3) → g x (wipe σ vs) H3 P) :
    EvD K (tLc wi g tYes te vs) σ H (.list (ds.map m)) := by
  have h := evd_lc (te := te) (tt := tYes) (g := g) (vs := vs) (fun _ => true) m hs hz (fun d hd _ => hm d hd) (fun d x H3 P hd e dd k => ht d x H3 P hd e dd fun σ2 w q => k σ2 w evt_yes fun _ => q)
  have e : ds.filter (fun _ => true) = ds := List.filter_eq_self.mpr fun _ _ => rfl
  rw [e] at h
  exact h
/-! ### calls of pure defs -/
abbrev Rel := List PyData → PyData → Prop
def PureSp (K : Fg) (rel : Rel) : Sp := fun vs H Q _ => ∃ ds r, rel ds r ∧ DpAll K H vs ds ∧ ∀ v H', Ex H H' → Dp K H' v r → Q v H'
theorem evd_call {rel : Rel} {E : XK} {ta : TA} (ha : EvDs K ta σ H ds) (hr : rel ds d) : EvD K (tCall (PureSp K rel) [] E ta) σ H d := fun H1 e Q q =>
  ha H1 e _ fun vs H2 e2 d2 => ⟨ds, d, hr, by rw [List.append_nil]; exact d2, fun v H3 e3 d3 => q v H3 (e2.trans e3) d3⟩
end
/-! ### statements -/
section
variable {K : Fg} {σ : Ks} {H H' : Hp} {ta tb te tx : TE} {t u : TT} {d e : PyData} {ds es : List PyData} {wi : TI} {D : Ends} {tu tw tz : TS}
theorem d_set {i : Nat} (h : EvD K te σ H d) (k : ∀ v H1, Ex H H1 → Dp K H1 v d → tz D (σ.set i (some v)) H1) : tSeq (tAsg te (gName i)) tz D σ H := h H (Ex.refl _) _ k
theorem d_ret (h : EvD K te σ H d) (k : ∀ v H1, Ex H H1 → Dp K H1 v d → D.rt v H1) : tRet te D σ H := h H (Ex.refl _) _ k
theorem d_if {b : Bool} (h : EvT t σ H b) (h1 : b = true → ∀ H1, Ex H H1 → tu { D with nx := tz D } σ H1) (h2 : b = false → ∀ H1, Ex H H1 → tw { D with nx := tz D } σ H1) : tSeq (tIfS t tu tw) tz D σ H := h H (Ex.refl _) _ fun H1 e => by
  cases b with
  | true => exact h1 rfl H1 e
  | false => exact h2 rfl H1 e
theorem d_if1 {b : Bool} (h : EvT t σ H b) (h1 : b = true → ∀ H1, Ex H H1 → tu D σ H1) (h2 : b = false → ∀ H1, Ex H H1 → tw D σ H1) : tIfS t tu tw D σ H := h H (Ex.refl _) _ fun H1 e => by
  cases b with
  | true => exact h1 rfl H1 e
  | false => exact h2 rfl H1 e
/-- a for over what stands in the ground G; the heap at its start holds the ground -/
theorem d_for {G : Hp} {g : TG} (hs : EvI K wi σ G ds) (eG : Ex G H) (Pv : Nat → Ks → Hp → Prop) (h0 : ∀ H1, Ex H H1 → Pv 0 σ H1) (hG : ∀ i σ' H', Pv i σ' H' → Ex G H')
    (ht : ∀ i d x σ' H3 H4, ds[i]? = some d → Pv i σ' H3 → Ex H3 H4 → Dp K H4 x d → g x σ' H4 fun σ2 H2 => tu { D with nx := Pv (i + 1), ct := Pv (i + 1), bk := D.nx } σ2 H2)
    (hd : ∀ σ' H', Pv ds.length σ' H' → D.nx σ' H') : tFor wi g tu D σ H := hs H eG _ fun J H2 e2 w => by
  refine for_it w Pv (h0 H2 e2) (fun i σ' H' _ p => hG i σ' H' p) (fun i x σ' H3 H4 hi p y => ?_) hd
  obtain ⟨y1, d, y2, y3⟩ := y
  exact ht i d x σ' H3 H4 y2 p y1 y3
/-- .. over what is new -/
theorem d_forJ {g : TG} (hs : EvJ K wi σ H ds) (Pv : Hp → Nat → Ks → Hp → Prop) (h0 : ∀ H1, Ex H H1 → Pv H1 0 σ H1) (hG : ∀ H1 i σ' H', Pv H1 i σ' H' → Ex H1 H')
    (ht : ∀ H1 i d x σ' H3 H4, ds[i]? = some d → Pv H1 i σ' H3 → Ex H3 H4 → Dp K H4 x d → g x σ' H4 fun σ2 H2 => tu { D with nx := Pv H1 (i + 1), ct := Pv H1 (i + 1), bk := D.nx } σ2 H2)
    (hd : ∀ H1 σ' H', Pv H1 ds.length σ' H' → D.nx σ' H') : tFor wi g tu D σ H := hs H (Ex.refl _) _ fun J H2 e2 w => by
  refine for_it w (Pv H2) (h0 H2 e2) (fun i σ' H' _ p => hG H2 i σ' H' p) (fun i x σ' H3 H4 hi p y => ?_) (hd H2)
  obtain ⟨y1, d, y2, y3⟩ := y
  exact ht H2 i d x σ' H3 H4 y2 p y1 y3
/-- a target of several names -/
theorem g_tup2 {i j : Nat} {v : V} {a b : PyData} {P : Ks → Hp → Prop} (h : Dp K H v (.tuple [a, b])) (k : ∀ x y, Dp K H x a → Dp K H y b → P ((σ.set i (some x)).set j (some y)) H) : gTup K 2 (gCons (gName i) (gCons (gName j) gNil)) v σ H P := by
  obtain ⟨p, xs, rfl, hs, ha⟩ := dp_tup h
  cases ha with
  | cons h1 t1 =>
    cases t1 with
    | cons h2 t2 =>
      cases t2
      exact ⟨p, _, rfl, hs, rfl, _, _, rfl, _, _, rfl, rfl, k _ _ h1 h2⟩
theorem g_tup3 {i j l : Nat} {v : V} {a b c : PyData} {P : Ks → Hp → Prop} (h : Dp K H v (.tuple [a, b, c])) (k : ∀ x y z, Dp K H x a → Dp K H y b → Dp K H z c → P (((σ.set i (some x)).set j (some y)).set l (some z)) H) : gTup K 3 (gCons (gName i) (gCons (gName j) (gCons (gName l) gNil))) v σ H P := by
  obtain ⟨p, xs, rfl, hs, ha⟩ := dp_tup h
  cases ha with
  | cons h1 t1 =>
    cases t1 with
    | cons h2 t2 =>
      cases t2 with
      | cons h3 t3 =>
        cases t3
        exact ⟨p, _, rfl, hs, rfl, _, _, rfl, _, _, rfl, _, _, rfl, rfl, k _ _ _ h1 h2 h3⟩
theorem g_tup4 {i j l m : Nat} {v : V} {a b c d : PyData} {P : Ks → Hp → Prop} (h : Dp K H v (.tuple [a, b, c, d])) (k : ∀ x y z u, Dp K H x a → Dp K H y b → Dp K H z c → Dp K H u d → P ((((σ.set i (some x)).set j (some y)).set l (some z)).set m (some u)) H) : gTup K 4 (gCons (gName i) (gCons (gName j) (gCons (gName l) (gCons (gName m) gNil)))) v σ H P := by
  obtain ⟨p, xs, rfl, hs, ha⟩ := dp_tup h
  cases ha with
  | cons h1 t1 =>
    cases t1 with
    | cons h2 t2 =>
      cases t2 with
      | cons h3 t3 =>
        cases t3 with
        | cons h4 t4 =>
          cases t4
          exact ⟨p, _, rfl, hs, rfl, _, _, rfl, _, _, rfl, _, _, rfl, _, _, rfl, rfl, k _ _ _ _ h1 h2 h3 h4⟩
end
end Lw
namespace Lw
open PySem PySem.Spec PyProof.Rows L2 Evl
/-! ### what the top has left, by names -/
structure Txt (w : World) (K : Fg) (mg : Str → Option Value) : Prop where
  says : obsL K = valL w
  ns : ∀ x r, PySem.W.nsIn K mainGlobals x = some r → mg x = r
section
variable {w : World} {K : Fg} {mg : Str → Option Value}
theorem Txt.d (T : Txt w K mg) : He.SaysD fa fn K := congrArg (fun z : Al => z.1.1) T.says
theorem Txt.t (T : Txt w K mg) : He.SaysT fa fn tabs w K := congrArg (fun z : Al => z.1) T.says
theorem Txt.ex (T : Txt w K mg) : exB K = true := congrArg (fun z : Al => z.2) T.says
theorem Txt.int_ (T : Txt w K mg) {x : Str} {i : Int} (c : (He.Fa.int x i).ok K = true) : ∃ t, mg x = some (.int i t) := by
  have c2 : (match PySem.W.nsIn K mainGlobals x with
    | some (some (.int j _)) => decide (j = i)
    | _ => false) = true := c
  cases e : PySem.W.nsIn K mainGlobals x with
  | none => rw [e] at c2; cases c2
  | some o =>
    rw [e] at c2
    cases o with
    | none => cases c2
    | some v =>
      cases v with
      | int j t =>
        have ej : j = i := of_decide_eq_true c2
        rw [ej] at e
        exact ⟨t, T.ns _ _ e⟩
      | _ => cases c2
theorem Txt.str_ (T : Txt w K mg) {x z : Str} (c : (He.Fa.str x z).ok K = true) : ∃ t, mg x = some (.str z t) := by
  have c2 : (match PySem.W.nsIn K mainGlobals x with
    | some (some (.str y _)) => decide (y = z)
    | _ => false) = true := c
  cases e : PySem.W.nsIn K mainGlobals x with
  | none => rw [e] at c2; cases c2
  | some o =>
    rw [e] at c2
    cases o with
    | none => cases c2
    | some v =>
      cases v with
      | str j t =>
        have ej : j = z := of_decide_eq_true c2
        rw [ej] at e
        exact ⟨t, T.ns _ _ e⟩
      | _ => cases c2
theorem Txt.g_is_number_kinds (T : Txt w K mg) : mg "is_number_kinds" = some (.ref (He.ga K "is_number_kinds")) := T.ns _ _ (He.eqO_ok (T.d.fact 0 (f := .glo "is_number_kinds") rfl))
theorem Txt.g_is_number_webs (T : Txt w K mg) : mg "is_number_webs" = some (.ref (He.ga K "is_number_webs")) := T.ns _ _ (He.eqO_ok (T.d.fact 1 (f := .glo "is_number_webs") rfl))
theorem Txt.g_long_of (T : Txt w K mg) : mg "long_of" = some (.ref (He.ga K "long_of")) := T.ns _ _ (He.eqO_ok (T.d.fact 2 (f := .glo "long_of") rfl))
theorem Txt.g_beside (T : Txt w K mg) : mg "beside" = some (.ref (He.ga K "beside")) := T.ns _ _ (He.eqO_ok (T.d.fact 3 (f := .glo "beside") rfl))
theorem Txt.g_lesser (T : Txt w K mg) : mg "lesser" = some (.ref (He.ga K "lesser")) := T.ns _ _ (He.eqO_ok (T.d.fact 4 (f := .glo "lesser") rfl))
theorem Txt.g_lengths_from (T : Txt w K mg) : mg "lengths_from" = some (.ref (He.ga K "lengths_from")) := T.ns _ _ (He.eqO_ok (T.d.fact 5 (f := .glo "lengths_from") rfl))
theorem Txt.g_lengths (T : Txt w K mg) : mg "lengths" = some (.ref (He.ga K "lengths")) := T.ns _ _ (He.eqO_ok (T.d.fact 6 (f := .glo "lengths") rfl))
theorem Txt.g_between (T : Txt w K mg) : mg "between" = some (.ref (He.ga K "between")) := T.ns _ _ (He.eqO_ok (T.d.fact 7 (f := .glo "between") rfl))
theorem Txt.g_lies_between (T : Txt w K mg) : mg "lies_between" = some (.ref (He.ga K "lies_between")) := T.ns _ _ (He.eqO_ok (T.d.fact 8 (f := .glo "lies_between") rfl))
theorem Txt.g_lies_beside (T : Txt w K mg) : mg "lies_beside" = some (.ref (He.ga K "lies_beside")) := T.ns _ _ (He.eqO_ok (T.d.fact 9 (f := .glo "lies_beside") rfl))
theorem Txt.g_pairs_of (T : Txt w K mg) : mg "pairs_of" = some (.ref (He.ga K "pairs_of")) := T.ns _ _ (He.eqO_ok (T.d.fact 10 (f := .glo "pairs_of") rfl))
theorem Txt.g_is_part (T : Txt w K mg) : mg "is_part" = some (.ref (He.ga K "is_part")) := T.ns _ _ (He.eqO_ok (T.d.fact 11 (f := .glo "is_part") rfl))
theorem Txt.g_numbers_in (T : Txt w K mg) : mg "numbers_in" = some (.ref (He.ga K "numbers_in")) := T.ns _ _ (He.eqO_ok (T.d.fact 12 (f := .glo "numbers_in") rfl))
theorem Txt.g_part_web (T : Txt w K mg) : mg "part_web" = some (.ref (He.ga K "part_web")) := T.ns _ _ (He.eqO_ok (T.d.fact 13 (f := .glo "part_web") rfl))
theorem Txt.g_part_order (T : Txt w K mg) : mg "part_order" = some (.ref (He.ga K "part_order")) := T.ns _ _ (He.eqO_ok (T.d.fact 14 (f := .glo "part_order") rfl))
theorem Txt.g_cut_entry (T : Txt w K mg) : mg "cut_entry" = some (.ref (He.ga K "cut_entry")) := T.ns _ _ (He.eqO_ok (T.d.fact 15 (f := .glo "cut_entry") rfl))
theorem Txt.g_cut_down (T : Txt w K mg) : mg "cut_down" = some (.ref (He.ga K "cut_down")) := T.ns _ _ (He.eqO_ok (T.d.fact 16 (f := .glo "cut_down") rfl))
theorem Txt.g_is_entry (T : Txt w K mg) : mg "is_entry" = some (.ref (He.ga K "is_entry")) := T.ns _ _ (He.eqO_ok (T.d.fact 17 (f := .glo "is_entry") rfl))
theorem Txt.g_is_label (T : Txt w K mg) : mg "is_label" = some (.ref (He.ga K "is_label")) := T.ns _ _ (He.eqO_ok (T.d.fact 18 (f := .glo "is_label") rfl))
theorem Txt.g_are_labels (T : Txt w K mg) : mg "are_labels" = some (.ref (He.ga K "are_labels")) := T.ns _ _ (He.eqO_ok (T.d.fact 19 (f := .glo "are_labels") rfl))
theorem Txt.g_own_place (T : Txt w K mg) : mg "own_place" = some (.ref (He.ga K "own_place")) := T.ns _ _ (He.eqO_ok (T.d.fact 20 (f := .glo "own_place") rfl))
theorem Txt.g_sums (T : Txt w K mg) : mg "sums" = some (.ref (He.ga K "sums")) := T.ns _ _ (He.eqO_ok (T.d.fact 21 (f := .glo "sums") rfl))
theorem Txt.g_told (T : Txt w K mg) : mg "told" = some (.ref (He.ga K "told")) := T.ns _ _ (He.eqO_ok (T.d.fact 22 (f := .glo "told") rfl))
theorem Txt.g_long_in (T : Txt w K mg) : mg "long_in" = some (.ref (He.ga K "long_in")) := T.ns _ _ (He.eqO_ok (T.d.fact 23 (f := .glo "long_in") rfl))
theorem Txt.g_ask_own (T : Txt w K mg) : mg "ask_own" = some (.ref (He.ga K "ask_own")) := T.ns _ _ (He.eqO_ok (T.d.fact 24 (f := .glo "ask_own") rfl))
theorem Txt.g_hangs (T : Txt w K mg) : mg "hangs" = some (.ref (He.ga K "hangs")) := T.ns _ _ (He.eqO_ok (T.d.fact 25 (f := .glo "hangs") rfl))
theorem Txt.g_ask_ups (T : Txt w K mg) : mg "ask_ups" = some (.ref (He.ga K "ask_ups")) := T.ns _ _ (He.eqO_ok (T.d.fact 26 (f := .glo "ask_ups") rfl))
theorem Txt.g_is_more (T : Txt w K mg) : mg "is_more" = some (.ref (He.ga K "is_more")) := T.ns _ _ (He.eqO_ok (T.d.fact 27 (f := .glo "is_more") rfl))
theorem Txt.g_ask_ties (T : Txt w K mg) : mg "ask_ties" = some (.ref (He.ga K "ask_ties")) := T.ns _ _ (He.eqO_ok (T.d.fact 28 (f := .glo "ask_ties") rfl))
theorem Txt.g_leads_down (T : Txt w K mg) : mg "leads_down" = some (.ref (He.ga K "leads_down")) := T.ns _ _ (He.eqO_ok (T.d.fact 29 (f := .glo "leads_down") rfl))
theorem Txt.g_ask_downs (T : Txt w K mg) : mg "ask_downs" = some (.ref (He.ga K "ask_downs")) := T.ns _ _ (He.eqO_ok (T.d.fact 30 (f := .glo "ask_downs") rfl))
theorem Txt.g_lets_labels (T : Txt w K mg) : mg "lets_labels" = some (.ref (He.ga K "lets_labels")) := T.ns _ _ (He.eqO_ok (T.d.fact 31 (f := .glo "lets_labels") rfl))
theorem Txt.g_is_order (T : Txt w K mg) : mg "is_order" = some (.ref (He.ga K "is_order")) := T.ns _ _ (He.eqO_ok (T.d.fact 32 (f := .glo "is_order") rfl))
theorem Txt.g_is_between (T : Txt w K mg) : mg "is_between" = some (.ref (He.ga K "is_between")) := T.ns _ _ (He.eqO_ok (T.d.fact 33 (f := .glo "is_between") rfl))
theorem Txt.g_is_hub (T : Txt w K mg) : mg "is_hub" = some (.ref (He.ga K "is_hub")) := T.ns _ _ (He.eqO_ok (T.d.fact 34 (f := .glo "is_hub") rfl))
theorem Txt.g_first_place (T : Txt w K mg) : mg "first_place" = some (.ref (He.ga K "first_place")) := T.ns _ _ (He.eqO_ok (T.d.fact 35 (f := .glo "first_place") rfl))
theorem Txt.g_is_next (T : Txt w K mg) : mg "is_next" = some (.ref (He.ga K "is_next")) := T.ns _ _ (He.eqO_ok (T.d.fact 36 (f := .glo "is_next") rfl))
theorem Txt.g_entry_by (T : Txt w K mg) : mg "entry_by" = some (.ref (He.ga K "entry_by")) := T.ns _ _ (He.eqO_ok (T.d.fact 37 (f := .glo "entry_by") rfl))
theorem Txt.g_by_order (T : Txt w K mg) : mg "by_order" = some (.ref (He.ga K "by_order")) := T.ns _ _ (He.eqO_ok (T.d.fact 38 (f := .glo "by_order") rfl))
theorem Txt.g_number_in (T : Txt w K mg) : mg "number_in" = some (.ref (He.ga K "number_in")) := T.ns _ _ (He.eqO_ok (T.d.fact 39 (f := .glo "number_in") rfl))
theorem Txt.g_web_lines (T : Txt w K mg) : mg "web_lines" = some (.ref (He.ga K "web_lines")) := T.ns _ _ (He.eqO_ok (T.d.fact 40 (f := .glo "web_lines") rfl))
theorem Txt.g_read_tie (T : Txt w K mg) : mg "read_tie" = some (.ref (He.ga K "read_tie")) := T.ns _ _ (He.eqO_ok (T.d.fact 41 (f := .glo "read_tie") rfl))
theorem Txt.g_read_web (T : Txt w K mg) : mg "read_web" = some (.ref (He.ga K "read_web")) := T.ns _ _ (He.eqO_ok (T.d.fact 42 (f := .glo "read_web") rfl))
theorem Txt.g_shown_place (T : Txt w K mg) : mg "shown_place" = some (.ref (He.ga K "shown_place")) := T.ns _ _ (He.eqO_ok (T.d.fact 43 (f := .glo "shown_place") rfl))
theorem Txt.g_label_line (T : Txt w K mg) : mg "label_line" = some (.ref (He.ga K "label_line")) := T.ns _ _ (He.eqO_ok (T.d.fact 44 (f := .glo "label_line") rfl))
theorem Txt.g_label_lines (T : Txt w K mg) : mg "label_lines" = some (.ref (He.ga K "label_lines")) := T.ns _ _ (He.eqO_ok (T.d.fact 45 (f := .glo "label_lines") rfl))
theorem Txt.g_place_in (T : Txt w K mg) : mg "place_in" = some (.ref (He.ga K "place_in")) := T.ns _ _ (He.eqO_ok (T.d.fact 46 (f := .glo "place_in") rfl))
theorem Txt.g_entry_in (T : Txt w K mg) : mg "entry_in" = some (.ref (He.ga K "entry_in")) := T.ns _ _ (He.eqO_ok (T.d.fact 47 (f := .glo "entry_in") rfl))
theorem Txt.g_read_label (T : Txt w K mg) : mg "read_label" = some (.ref (He.ga K "read_label")) := T.ns _ _ (He.eqO_ok (T.d.fact 48 (f := .glo "read_label") rfl))
theorem Txt.g_read_labels (T : Txt w K mg) : mg "read_labels" = some (.ref (He.ga K "read_labels")) := T.ns _ _ (He.eqO_ok (T.d.fact 49 (f := .glo "read_labels") rfl))
theorem Txt.g_shown_places (T : Txt w K mg) : mg "shown_places" = some (.ref (He.ga K "shown_places")) := T.ns _ _ (He.eqO_ok (T.d.fact 50 (f := .glo "shown_places") rfl))
theorem Txt.g_numbers_in_row (T : Txt w K mg) : mg "numbers_in_row" = some (.ref (He.ga K "numbers_in_row")) := T.ns _ _ (He.eqO_ok (T.d.fact 51 (f := .glo "numbers_in_row") rfl))
theorem Txt.g_law_tape (T : Txt w K mg) : mg "_law_tape" = some (.ref (He.ga K "_law_tape")) := T.ns _ _ (He.eqO_ok (T.d.fact 52 (f := .glo "_law_tape") rfl))
theorem Txt.g_law_draw (T : Txt w K mg) : mg "_law_draw" = some (.ref (He.ga K "_law_draw")) := T.ns _ _ (He.eqO_ok (T.d.fact 53 (f := .glo "_law_draw") rfl))
theorem Txt.g_law_web (T : Txt w K mg) : mg "_law_web" = some (.ref (He.ga K "_law_web")) := T.ns _ _ (He.eqO_ok (T.d.fact 54 (f := .glo "_law_web") rfl))
theorem Txt.g_law_order (T : Txt w K mg) : mg "_law_order" = some (.ref (He.ga K "_law_order")) := T.ns _ _ (He.eqO_ok (T.d.fact 55 (f := .glo "_law_order") rfl))
theorem Txt.g_law_part (T : Txt w K mg) : mg "_law_part" = some (.ref (He.ga K "_law_part")) := T.ns _ _ (He.eqO_ok (T.d.fact 56 (f := .glo "_law_part") rfl))
theorem Txt.g_law_part_right (T : Txt w K mg) : mg "_law_part_right" = some (.ref (He.ga K "_law_part_right")) := T.ns _ _ (He.eqO_ok (T.d.fact 57 (f := .glo "_law_part_right") rfl))
theorem Txt.g_law_word (T : Txt w K mg) : mg "_law_word" = some (.ref (He.ga K "_law_word")) := T.ns _ _ (He.eqO_ok (T.d.fact 58 (f := .glo "_law_word") rfl))
theorem Txt.g_law_desk_right (T : Txt w K mg) : mg "_law_desk_right" = some (.ref (He.ga K "_law_desk_right")) := T.ns _ _ (He.eqO_ok (T.d.fact 59 (f := .glo "_law_desk_right") rfl))
theorem Txt.g_law (T : Txt w K mg) : mg "law" = some (.ref (He.ga K "law")) := T.ns _ _ (He.eqO_ok (T.d.fact 60 (f := .glo "law") rfl))
theorem Txt.g_NoLabels (T : Txt w K mg) : mg "NoLabels" = some (.ref (He.ga K "NoLabels")) := T.ns _ _ (He.eqO_ok (T.d.fact 61 (f := .glo "NoLabels") rfl))
theorem Txt.g_WayError (T : Txt w K mg) : mg "WayError" = some (.ref (He.ga K "WayError")) := T.ns _ _ (He.eqO_ok (T.d.fact 62 (f := .glo "WayError") rfl))
theorem Txt.g_Keeper (T : Txt w K mg) : mg "Keeper" = some (.ref (He.ga K "Keeper")) := T.ns _ _ (He.eqO_ok (T.d.fact 63 (f := .glo "Keeper") rfl))
theorem Txt.g_Line (T : Txt w K mg) : mg "Line" = some (.ref (He.ga K "Line")) := T.ns _ _ (He.eqO_ok (T.d.fact 64 (f := .glo "Line") rfl))
theorem Txt.g_Desk (T : Txt w K mg) : mg "Desk" = some (.ref (He.ga K "Desk")) := T.ns _ _ (He.eqO_ok (T.d.fact 65 (f := .glo "Desk") rfl))
theorem Txt.m_len (T : Txt w K mg) : mg "len" = none := T.ns _ _ (He.eqO_ok (T.d.fact 66 (f := .free "len") rfl))
theorem Txt.m_isinstance (T : Txt w K mg) : mg "isinstance" = none := T.ns _ _ (He.eqO_ok (T.d.fact 67 (f := .free "isinstance") rfl))
theorem Txt.m_int (T : Txt w K mg) : mg "int" = none := T.ns _ _ (He.eqO_ok (T.d.fact 68 (f := .free "int") rfl))
theorem Txt.m_bool (T : Txt w K mg) : mg "bool" = none := T.ns _ _ (He.eqO_ok (T.d.fact 69 (f := .free "bool") rfl))
theorem Txt.m_tuple (T : Txt w K mg) : mg "tuple" = none := T.ns _ _ (He.eqO_ok (T.d.fact 70 (f := .free "tuple") rfl))
theorem Txt.m_list (T : Txt w K mg) : mg "list" = none := T.ns _ _ (He.eqO_ok (T.d.fact 71 (f := .free "list") rfl))
theorem Txt.m_dict (T : Txt w K mg) : mg "dict" = none := T.ns _ _ (He.eqO_ok (T.d.fact 72 (f := .free "dict") rfl))
theorem Txt.m_range (T : Txt w K mg) : mg "range" = none := T.ns _ _ (He.eqO_ok (T.d.fact 73 (f := .free "range") rfl))
theorem Txt.m_sorted (T : Txt w K mg) : mg "sorted" = none := T.ns _ _ (He.eqO_ok (T.d.fact 74 (f := .free "sorted") rfl))
theorem Txt.m_min (T : Txt w K mg) : mg "min" = none := T.ns _ _ (He.eqO_ok (T.d.fact 75 (f := .free "min") rfl))
theorem Txt.m_max (T : Txt w K mg) : mg "max" = none := T.ns _ _ (He.eqO_ok (T.d.fact 76 (f := .free "max") rfl))
theorem Txt.m_any (T : Txt w K mg) : mg "any" = none := T.ns _ _ (He.eqO_ok (T.d.fact 77 (f := .free "any") rfl))
theorem Txt.m_all (T : Txt w K mg) : mg "all" = none := T.ns _ _ (He.eqO_ok (T.d.fact 78 (f := .free "all") rfl))
theorem Txt.m_enumerate (T : Txt w K mg) : mg "enumerate" = none := T.ns _ _ (He.eqO_ok (T.d.fact 79 (f := .free "enumerate") rfl))
theorem Txt.m_set (T : Txt w K mg) : mg "set" = none := T.ns _ _ (He.eqO_ok (T.d.fact 80 (f := .free "set") rfl))
theorem Txt.m_repr (T : Txt w K mg) : mg "repr" = none := T.ns _ _ (He.eqO_ok (T.d.fact 81 (f := .free "repr") rfl))
theorem Txt.m_str (T : Txt w K mg) : mg "str" = none := T.ns _ _ (He.eqO_ok (T.d.fact 82 (f := .free "str") rfl))
theorem Txt.m_ValueError (T : Txt w K mg) : mg "ValueError" = none := T.ns _ _ (He.eqO_ok (T.d.fact 83 (f := .free "ValueError") rfl))
theorem Txt.i_MOST_PLACES (T : Txt w K mg) : ∃ t, mg "MOST_PLACES" = some (.int 24 t) := T.int_ (T.d.fact 84 (f := .int "MOST_PLACES" 24) rfl)
theorem Txt.i_MOST_TIES (T : Txt w K mg) : ∃ t, mg "MOST_TIES" = some (.int 60 t) := T.int_ (T.d.fact 85 (f := .int "MOST_TIES" 60) rfl)
theorem Txt.i_MOST_LONG (T : Txt w K mg) : ∃ t, mg "MOST_LONG" = some (.int 99 t) := T.int_ (T.d.fact 86 (f := .int "MOST_LONG" 99) rfl)
theorem Txt.i_MOST_FIGURES_webtexts (T : Txt w K mg) : ∃ t, mg "MOST_FIGURES_webtexts" = some (.int 12 t) := T.int_ (T.d.fact 87 (f := .int "MOST_FIGURES_webtexts" 12) rfl)
theorem Txt.i_MOST_FIGURES_desk (T : Txt w K mg) : ∃ t, mg "MOST_FIGURES_desk" = some (.int 4 t) := T.int_ (T.d.fact 88 (f := .int "MOST_FIGURES_desk" 4) rfl)
theorem Txt.s_FIGURES (T : Txt w K mg) : ∃ t, mg "FIGURES" = some (.str "0123456789" t) := T.str_ (T.d.fact 89 (f := .str "FIGURES" "0123456789") rfl)
theorem Txt.c_Keeper (T : Txt w K mg) : Cls K (He.ga K "Keeper") := He.cls_ok (T.d.fact 90 (f := .cls "Keeper") rfl)
theorem Txt.k_Keeper (T : Txt w K mg) : Mk K (He.ga K "Keeper") (He.ma K (He.ga K "Keeper") "__init__") := He.mkr_ok (T.d.fact 91 (f := .mkr "Keeper") rfl)
theorem Txt.n_Keeper_kept_labels (T : Txt w K mg) : NoAttr K (He.ga K "Keeper") "kept_labels" := He.noat_ok (T.d.fact 92 (f := .noat "Keeper" "kept_labels") rfl)
theorem Txt.n_Keeper_kept_order (T : Txt w K mg) : NoAttr K (He.ga K "Keeper") "kept_order" := He.noat_ok (T.d.fact 93 (f := .noat "Keeper" "kept_order") rfl)
theorem Txt.n_Keeper_kept_web (T : Txt w K mg) : NoAttr K (He.ga K "Keeper") "kept_web" := He.noat_ok (T.d.fact 94 (f := .noat "Keeper" "kept_web") rfl)
theorem Txt.c_Line (T : Txt w K mg) : Cls K (He.ga K "Line") := He.cls_ok (T.d.fact 95 (f := .cls "Line") rfl)
theorem Txt.k_Line (T : Txt w K mg) : Mk K (He.ga K "Line") (He.ma K (He.ga K "Line") "__init__") := He.mkr_ok (T.d.fact 96 (f := .mkr "Line") rfl)
theorem Txt.n_Line_number_here (T : Txt w K mg) : NoAttr K (He.ga K "Line") "number_here" := He.noat_ok (T.d.fact 97 (f := .noat "Line" "number_here") rfl)
theorem Txt.n_Line_words_here (T : Txt w K mg) : NoAttr K (He.ga K "Line") "words_here" := He.noat_ok (T.d.fact 98 (f := .noat "Line" "words_here") rfl)
theorem Txt.n_Line_place_here (T : Txt w K mg) : NoAttr K (He.ga K "Line") "place_here" := He.noat_ok (T.d.fact 99 (f := .noat "Line" "place_here") rfl)
theorem Txt.c_Desk (T : Txt w K mg) : Cls K (He.ga K "Desk") := He.cls_ok (T.d.fact 100 (f := .cls "Desk") rfl)
theorem Txt.k_Desk (T : Txt w K mg) : Mk K (He.ga K "Desk") (He.ma K (He.ga K "Desk") "__init__") := He.mkr_ok (T.d.fact 101 (f := .mkr "Desk") rfl)
theorem Txt.n_Desk_desk_keeper (T : Txt w K mg) : NoAttr K (He.ga K "Desk") "desk_keeper" := He.noat_ok (T.d.fact 102 (f := .noat "Desk" "desk_keeper") rfl)
theorem Txt.y_NoLabels_init (T : Txt w K mg) : Meth K (He.ga K "NoLabels") "__init__" (He.ma K (He.ga K "NoLabels") "__init__") := He.meth_ok (T.d.fact 103 (f := .meth "NoLabels" "__init__") rfl)
theorem Txt.y_Keeper_init (T : Txt w K mg) : Meth K (He.ga K "Keeper") "__init__" (He.ma K (He.ga K "Keeper") "__init__") := He.meth_ok (T.d.fact 104 (f := .meth "Keeper" "__init__") rfl)
theorem Txt.y_Keeper_web_now (T : Txt w K mg) : Meth K (He.ga K "Keeper") "web_now" (He.ma K (He.ga K "Keeper") "web_now") := He.meth_ok (T.d.fact 105 (f := .meth "Keeper" "web_now") rfl)
theorem Txt.y_Keeper_labels_now (T : Txt w K mg) : Meth K (He.ga K "Keeper") "labels_now" (He.ma K (He.ga K "Keeper") "labels_now") := He.meth_ok (T.d.fact 106 (f := .meth "Keeper" "labels_now") rfl)
theorem Txt.y_Line_init (T : Txt w K mg) : Meth K (He.ga K "Line") "__init__" (He.ma K (He.ga K "Line") "__init__") := He.meth_ok (T.d.fact 107 (f := .meth "Line" "__init__") rfl)
theorem Txt.y_Line_is_over (T : Txt w K mg) : Meth K (He.ga K "Line") "is_over" (He.ma K (He.ga K "Line") "is_over") := He.meth_ok (T.d.fact 108 (f := .meth "Line" "is_over") rfl)
theorem Txt.y_Line_next_word (T : Txt w K mg) : Meth K (He.ga K "Line") "next_word" (He.ma K (He.ga K "Line") "next_word") := He.meth_ok (T.d.fact 109 (f := .meth "Line" "next_word") rfl)
theorem Txt.y_Line_take (T : Txt w K mg) : Meth K (He.ga K "Line") "take" (He.ma K (He.ga K "Line") "take") := He.meth_ok (T.d.fact 110 (f := .meth "Line" "take") rfl)
theorem Txt.y_Line_take_word (T : Txt w K mg) : Meth K (He.ga K "Line") "take_word" (He.ma K (He.ga K "Line") "take_word") := He.meth_ok (T.d.fact 111 (f := .meth "Line" "take_word") rfl)
theorem Txt.y_Line_take_number (T : Txt w K mg) : Meth K (He.ga K "Line") "take_number" (He.ma K (He.ga K "Line") "take_number") := He.meth_ok (T.d.fact 112 (f := .meth "Line" "take_number") rfl)
theorem Txt.y_Line_end (T : Txt w K mg) : Meth K (He.ga K "Line") "end" (He.ma K (He.ga K "Line") "end") := He.meth_ok (T.d.fact 113 (f := .meth "Line" "end") rfl)
theorem Txt.y_Desk_init (T : Txt w K mg) : Meth K (He.ga K "Desk") "__init__" (He.ma K (He.ga K "Desk") "__init__") := He.meth_ok (T.d.fact 114 (f := .meth "Desk" "__init__") rfl)
theorem Txt.y_Desk_say (T : Txt w K mg) : Meth K (He.ga K "Desk") "say" (He.ma K (He.ga K "Desk") "say") := He.meth_ok (T.d.fact 115 (f := .meth "Desk" "say") rfl)
theorem Txt.y_Desk_asked (T : Txt w K mg) : Meth K (He.ga K "Desk") "asked" (He.ma K (He.ga K "Desk") "asked") := He.meth_ok (T.d.fact 116 (f := .meth "Desk" "asked") rfl)
theorem Txt.y_Desk_checked (T : Txt w K mg) : Meth K (He.ga K "Desk") "checked" (He.ma K (He.ga K "Desk") "checked") := He.meth_ok (T.d.fact 117 (f := .meth "Desk" "checked") rfl)
theorem Txt.x_NoLabels (T : Txt w K mg) : PySem.W.exmOne K (.ref (He.ga K "NoLabels")) (.ref (He.ga K "NoLabels")) = some true := He.exm_ok (T.d.fact 118 (f := .exm "NoLabels" "NoLabels" true) rfl)
theorem Txt.h_NoLabels (T : Txt w K mg) : PySem.W.keepIn K (.ref (He.ga K "NoLabels")) = true := He.keep_ok (T.d.fact 119 (f := .keep "NoLabels") rfl)
theorem Txt.n_NoLabels_word (T : Txt w K mg) : NoAttr K (He.ga K "NoLabels") "word" := He.noat_ok (T.d.fact 120 (f := .noat "NoLabels" "word") rfl)
theorem Txt.n_NoLabels_at (T : Txt w K mg) : NoAttr K (He.ga K "NoLabels") "at" := He.noat_ok (T.d.fact 121 (f := .noat "NoLabels" "at") rfl)
theorem Txt.f_is_number_kinds (T : Txt w K mg) : ∃ fd, FunD K "is_number" "is_number" (defArgs (top 12)) (defBody (top 12)) (defScope (top 12)) [] [] (He.ga K "is_number_kinds") fd := T.d.def_ 0 (d := d_is_number_kinds) rfl
theorem Txt.f_is_number_webs (T : Txt w K mg) : ∃ fd, FunD K "is_number" "is_number" (defArgs (top 15)) (defBody (top 15)) (defScope (top 15)) [] [] (He.ga K "is_number_webs") fd := T.d.def_ 1 (d := d_is_number_webs) rfl
theorem Txt.f_long_of (T : Txt w K mg) : ∃ fd, FunD K "long_of" "long_of" (defArgs (top 17)) (defBody (top 17)) (defScope (top 17)) [] [] (He.ga K "long_of") fd := T.d.def_ 2 (d := d_long_of) rfl
theorem Txt.f_beside (T : Txt w K mg) : ∃ fd, FunD K "beside" "beside" (defArgs (top 18)) (defBody (top 18)) (defScope (top 18)) [] [] (He.ga K "beside") fd := T.d.def_ 3 (d := d_beside) rfl
theorem Txt.f_lesser (T : Txt w K mg) : ∃ fd, FunD K "lesser" "lesser" (defArgs (top 20)) (defBody (top 20)) (defScope (top 20)) [] [] (He.ga K "lesser") fd := T.d.def_ 4 (d := d_lesser) rfl
theorem Txt.f_lengths_from (T : Txt w K mg) : ∃ fd, FunD K "lengths_from" "lengths_from" (defArgs (top 21)) (defBody (top 21)) (defScope (top 21)) [] [] (He.ga K "lengths_from") fd := T.d.def_ 5 (d := d_lengths_from) rfl
theorem Txt.f_lengths (T : Txt w K mg) : ∃ fd, FunD K "lengths" "lengths" (defArgs (top 22)) (defBody (top 22)) (defScope (top 22)) [] [] (He.ga K "lengths") fd := T.d.def_ 6 (d := d_lengths) rfl
theorem Txt.f_between (T : Txt w K mg) : ∃ fd, FunD K "between" "between" (defArgs (top 23)) (defBody (top 23)) (defScope (top 23)) [] [] (He.ga K "between") fd := T.d.def_ 7 (d := d_between) rfl
theorem Txt.f_lies_between (T : Txt w K mg) : ∃ fd, FunD K "lies_between" "lies_between" (defArgs (top 25)) (defBody (top 25)) (defScope (top 25)) [] [] (He.ga K "lies_between") fd := T.d.def_ 8 (d := d_lies_between) rfl
theorem Txt.f_lies_beside (T : Txt w K mg) : ∃ fd, FunD K "lies_beside" "lies_beside" (defArgs (top 26)) (defBody (top 26)) (defScope (top 26)) [] [] (He.ga K "lies_beside") fd := T.d.def_ 9 (d := d_lies_beside) rfl
theorem Txt.f_pairs_of (T : Txt w K mg) : ∃ fd, FunD K "pairs_of" "pairs_of" (defArgs (top 27)) (defBody (top 27)) (defScope (top 27)) [] [] (He.ga K "pairs_of") fd := T.d.def_ 10 (d := d_pairs_of) rfl
theorem Txt.f_is_part (T : Txt w K mg) : ∃ fd, FunD K "is_part" "is_part" (defArgs (top 28)) (defBody (top 28)) (defScope (top 28)) [] [] (He.ga K "is_part") fd := T.d.def_ 11 (d := d_is_part) rfl
theorem Txt.f_numbers_in (T : Txt w K mg) : ∃ fd, FunD K "numbers_in" "numbers_in" (defArgs (top 29)) (defBody (top 29)) (defScope (top 29)) [] [] (He.ga K "numbers_in") fd := T.d.def_ 12 (d := d_numbers_in) rfl
theorem Txt.f_part_web (T : Txt w K mg) : ∃ fd, FunD K "part_web" "part_web" (defArgs (top 30)) (defBody (top 30)) (defScope (top 30)) [] [] (He.ga K "part_web") fd := T.d.def_ 13 (d := d_part_web) rfl
theorem Txt.f_part_order (T : Txt w K mg) : ∃ fd, FunD K "part_order" "part_order" (defArgs (top 31)) (defBody (top 31)) (defScope (top 31)) [] [] (He.ga K "part_order") fd := T.d.def_ 14 (d := d_part_order) rfl
theorem Txt.f_cut_entry (T : Txt w K mg) : ∃ fd, FunD K "cut_entry" "cut_entry" (defArgs (top 32)) (defBody (top 32)) (defScope (top 32)) [] [] (He.ga K "cut_entry") fd := T.d.def_ 15 (d := d_cut_entry) rfl
theorem Txt.f_cut_down (T : Txt w K mg) : ∃ fd, FunD K "cut_down" "cut_down" (defArgs (top 33)) (defBody (top 33)) (defScope (top 33)) [] [] (He.ga K "cut_down") fd := T.d.def_ 16 (d := d_cut_down) rfl
theorem Txt.f_is_entry (T : Txt w K mg) : ∃ fd, FunD K "is_entry" "is_entry" (defArgs (top 35)) (defBody (top 35)) (defScope (top 35)) [] [] (He.ga K "is_entry") fd := T.d.def_ 17 (d := d_is_entry) rfl
theorem Txt.f_is_label (T : Txt w K mg) : ∃ fd, FunD K "is_label" "is_label" (defArgs (top 36)) (defBody (top 36)) (defScope (top 36)) [] [] (He.ga K "is_label") fd := T.d.def_ 18 (d := d_is_label) rfl
theorem Txt.f_are_labels (T : Txt w K mg) : ∃ fd, FunD K "are_labels" "are_labels" (defArgs (top 37)) (defBody (top 37)) (defScope (top 37)) [] [] (He.ga K "are_labels") fd := T.d.def_ 19 (d := d_are_labels) rfl
theorem Txt.f_own_place (T : Txt w K mg) : ∃ fd, FunD K "own_place" "own_place" (defArgs (top 38)) (defBody (top 38)) (defScope (top 38)) [] [] (He.ga K "own_place") fd := T.d.def_ 20 (d := d_own_place) rfl
theorem Txt.f_sums (T : Txt w K mg) : ∃ fd, FunD K "sums" "sums" (defArgs (top 39)) (defBody (top 39)) (defScope (top 39)) [] [] (He.ga K "sums") fd := T.d.def_ 21 (d := d_sums) rfl
theorem Txt.f_told (T : Txt w K mg) : ∃ fd, FunD K "told" "told" (defArgs (top 40)) (defBody (top 40)) (defScope (top 40)) [] [] (He.ga K "told") fd := T.d.def_ 22 (d := d_told) rfl
theorem Txt.f_long_in (T : Txt w K mg) : ∃ fd, FunD K "long_in" "long_in" (defArgs (top 46)) (defBody (top 46)) (defScope (top 46)) [] [] (He.ga K "long_in") fd := T.d.def_ 23 (d := d_long_in) rfl
theorem Txt.f_ask_own (T : Txt w K mg) : ∃ fd, FunD K "ask_own" "ask_own" (defArgs (top 47)) (defBody (top 47)) (defScope (top 47)) [] [] (He.ga K "ask_own") fd := T.d.def_ 24 (d := d_ask_own) rfl
theorem Txt.f_hangs (T : Txt w K mg) : ∃ fd, FunD K "hangs" "hangs" (defArgs (top 48)) (defBody (top 48)) (defScope (top 48)) [] [] (He.ga K "hangs") fd := T.d.def_ 25 (d := d_hangs) rfl
theorem Txt.f_ask_ups (T : Txt w K mg) : ∃ fd, FunD K "ask_ups" "ask_ups" (defArgs (top 49)) (defBody (top 49)) (defScope (top 49)) [] [] (He.ga K "ask_ups") fd := T.d.def_ 26 (d := d_ask_ups) rfl
theorem Txt.f_is_more (T : Txt w K mg) : ∃ fd, FunD K "is_more" "is_more" (defArgs (top 50)) (defBody (top 50)) (defScope (top 50)) [] [] (He.ga K "is_more") fd := T.d.def_ 27 (d := d_is_more) rfl
theorem Txt.f_ask_ties (T : Txt w K mg) : ∃ fd, FunD K "ask_ties" "ask_ties" (defArgs (top 51)) (defBody (top 51)) (defScope (top 51)) [] [] (He.ga K "ask_ties") fd := T.d.def_ 28 (d := d_ask_ties) rfl
theorem Txt.f_leads_down (T : Txt w K mg) : ∃ fd, FunD K "leads_down" "leads_down" (defArgs (top 52)) (defBody (top 52)) (defScope (top 52)) [] [] (He.ga K "leads_down") fd := T.d.def_ 29 (d := d_leads_down) rfl
theorem Txt.f_ask_downs (T : Txt w K mg) : ∃ fd, FunD K "ask_downs" "ask_downs" (defArgs (top 53)) (defBody (top 53)) (defScope (top 53)) [] [] (He.ga K "ask_downs") fd := T.d.def_ 30 (d := d_ask_downs) rfl
theorem Txt.f_lets_labels (T : Txt w K mg) : ∃ fd, FunD K "lets_labels" "lets_labels" (defArgs (top 54)) (defBody (top 54)) (defScope (top 54)) [] [] (He.ga K "lets_labels") fd := T.d.def_ 31 (d := d_lets_labels) rfl
theorem Txt.f_is_order (T : Txt w K mg) : ∃ fd, FunD K "is_order" "is_order" (defArgs (top 56)) (defBody (top 56)) (defScope (top 56)) [] [] (He.ga K "is_order") fd := T.d.def_ 32 (d := d_is_order) rfl
theorem Txt.f_is_between (T : Txt w K mg) : ∃ fd, FunD K "is_between" "is_between" (defArgs (top 57)) (defBody (top 57)) (defScope (top 57)) [] [] (He.ga K "is_between") fd := T.d.def_ 33 (d := d_is_between) rfl
theorem Txt.f_is_hub (T : Txt w K mg) : ∃ fd, FunD K "is_hub" "is_hub" (defArgs (top 58)) (defBody (top 58)) (defScope (top 58)) [] [] (He.ga K "is_hub") fd := T.d.def_ 34 (d := d_is_hub) rfl
theorem Txt.f_first_place (T : Txt w K mg) : ∃ fd, FunD K "first_place" "first_place" (defArgs (top 59)) (defBody (top 59)) (defScope (top 59)) [] [] (He.ga K "first_place") fd := T.d.def_ 35 (d := d_first_place) rfl
theorem Txt.f_is_next (T : Txt w K mg) : ∃ fd, FunD K "is_next" "is_next" (defArgs (top 60)) (defBody (top 60)) (defScope (top 60)) [] [] (He.ga K "is_next") fd := T.d.def_ 36 (d := d_is_next) rfl
theorem Txt.f_entry_by (T : Txt w K mg) : ∃ fd, FunD K "entry_by" "entry_by" (defArgs (top 61)) (defBody (top 61)) (defScope (top 61)) [] [] (He.ga K "entry_by") fd := T.d.def_ 37 (d := d_entry_by) rfl
theorem Txt.f_by_order (T : Txt w K mg) : ∃ fd, FunD K "by_order" "by_order" (defArgs (top 62)) (defBody (top 62)) (defScope (top 62)) [] [] (He.ga K "by_order") fd := T.d.def_ 38 (d := d_by_order) rfl
theorem Txt.f_number_in (T : Txt w K mg) : ∃ fd, FunD K "number_in" "number_in" (defArgs (top 70)) (defBody (top 70)) (defScope (top 70)) [] [] (He.ga K "number_in") fd := T.d.def_ 39 (d := d_number_in) rfl
theorem Txt.f_web_lines (T : Txt w K mg) : ∃ fd, FunD K "web_lines" "web_lines" (defArgs (top 72)) (defBody (top 72)) (defScope (top 72)) [] [] (He.ga K "web_lines") fd := T.d.def_ 40 (d := d_web_lines) rfl
theorem Txt.f_read_tie (T : Txt w K mg) : ∃ fd, FunD K "read_tie" "read_tie" (defArgs (top 73)) (defBody (top 73)) (defScope (top 73)) [] [] (He.ga K "read_tie") fd := T.d.def_ 41 (d := d_read_tie) rfl
theorem Txt.f_read_web (T : Txt w K mg) : ∃ fd, FunD K "read_web" "read_web" (defArgs (top 74)) (defBody (top 74)) (defScope (top 74)) [] [] (He.ga K "read_web") fd := T.d.def_ 42 (d := d_read_web) rfl
theorem Txt.f_shown_place (T : Txt w K mg) : ∃ fd, FunD K "shown_place" "shown_place" (defArgs (top 76)) (defBody (top 76)) (defScope (top 76)) [] [] (He.ga K "shown_place") fd := T.d.def_ 43 (d := d_shown_place) rfl
theorem Txt.f_label_line (T : Txt w K mg) : ∃ fd, FunD K "label_line" "label_line" (defArgs (top 77)) (defBody (top 77)) (defScope (top 77)) [] [] (He.ga K "label_line") fd := T.d.def_ 44 (d := d_label_line) rfl
theorem Txt.f_label_lines (T : Txt w K mg) : ∃ fd, FunD K "label_lines" "label_lines" (defArgs (top 78)) (defBody (top 78)) (defScope (top 78)) [] [] (He.ga K "label_lines") fd := T.d.def_ 45 (d := d_label_lines) rfl
theorem Txt.f_place_in (T : Txt w K mg) : ∃ fd, FunD K "place_in" "place_in" (defArgs (top 79)) (defBody (top 79)) (defScope (top 79)) [] [] (He.ga K "place_in") fd := T.d.def_ 46 (d := d_place_in) rfl
theorem Txt.f_entry_in (T : Txt w K mg) : ∃ fd, FunD K "entry_in" "entry_in" (defArgs (top 80)) (defBody (top 80)) (defScope (top 80)) [] [] (He.ga K "entry_in") fd := T.d.def_ 47 (d := d_entry_in) rfl
theorem Txt.f_read_label (T : Txt w K mg) : ∃ fd, FunD K "read_label" "read_label" (defArgs (top 81)) (defBody (top 81)) (defScope (top 81)) [] [] (He.ga K "read_label") fd := T.d.def_ 48 (d := d_read_label) rfl
theorem Txt.f_read_labels (T : Txt w K mg) : ∃ fd, FunD K "read_labels" "read_labels" (defArgs (top 82)) (defBody (top 82)) (defScope (top 82)) [] [] (He.ga K "read_labels") fd := T.d.def_ 49 (d := d_read_labels) rfl
theorem Txt.f_shown_places (T : Txt w K mg) : ∃ fd, FunD K "shown_places" "shown_places" (defArgs (top 86)) (defBody (top 86)) (defScope (top 86)) [] [] (He.ga K "shown_places") fd := T.d.def_ 50 (d := d_shown_places) rfl
theorem Txt.f_numbers_in_row (T : Txt w K mg) : ∃ fd, FunD K "numbers_in_row" "numbers_in_row" (defArgs (top 87)) (defBody (top 87)) (defScope (top 87)) [] [] (He.ga K "numbers_in_row") fd := T.d.def_ 51 (d := d_numbers_in_row) rfl
theorem Txt.f_law_tape (T : Txt w K mg) : ∃ fd, FunD K "_law_tape" "_law_tape" (defArgs (top 90)) (defBody (top 90)) (defScope (top 90)) [] [] (He.ga K "_law_tape") fd := T.d.def_ 52 (d := d_law_tape) rfl
theorem Txt.f_law_draw (T : Txt w K mg) : ∃ fd, FunD K "_law_draw" "_law_draw" (defArgs (top 91)) (defBody (top 91)) (defScope (top 91)) [] [] (He.ga K "_law_draw") fd := T.d.def_ 53 (d := d_law_draw) rfl
theorem Txt.f_law_web (T : Txt w K mg) : ∃ fd, FunD K "_law_web" "_law_web" (defArgs (top 92)) (defBody (top 92)) (defScope (top 92)) [] [] (He.ga K "_law_web") fd := T.d.def_ 54 (d := d_law_web) rfl
theorem Txt.f_law_order (T : Txt w K mg) : ∃ fd, FunD K "_law_order" "_law_order" (defArgs (top 93)) (defBody (top 93)) (defScope (top 93)) [] [] (He.ga K "_law_order") fd := T.d.def_ 55 (d := d_law_order) rfl
theorem Txt.f_law_part (T : Txt w K mg) : ∃ fd, FunD K "_law_part" "_law_part" (defArgs (top 94)) (defBody (top 94)) (defScope (top 94)) [] [] (He.ga K "_law_part") fd := T.d.def_ 56 (d := d_law_part) rfl
theorem Txt.f_law_part_right (T : Txt w K mg) : ∃ fd, FunD K "_law_part_right" "_law_part_right" (defArgs (top 95)) (defBody (top 95)) (defScope (top 95)) [] [] (He.ga K "_law_part_right") fd := T.d.def_ 57 (d := d_law_part_right) rfl
theorem Txt.f_law_word (T : Txt w K mg) : ∃ fd, FunD K "_law_word" "_law_word" (defArgs (top 96)) (defBody (top 96)) (defScope (top 96)) [] [] (He.ga K "_law_word") fd := T.d.def_ 58 (d := d_law_word) rfl
theorem Txt.f_law_desk_right (T : Txt w K mg) : ∃ fd, FunD K "_law_desk_right" "_law_desk_right" (defArgs (top 97)) (defBody (top 97)) (defScope (top 97)) [] [] (He.ga K "_law_desk_right") fd := T.d.def_ 59 (d := d_law_desk_right) rfl
theorem Txt.f_law (T : Txt w K mg) : ∃ fd, FunD K "law" "law" (defArgs (top 98)) (defBody (top 98)) (defScope (top 98)) [] [] (He.ga K "law") fd := T.d.def_ 60 (d := d_law) rfl
theorem Txt.f_NoLabels_init (T : Txt w K mg) : ∃ fd, FunD K "__init__" "NoLabels.__init__" (defArgs (inClass (top 2) 0)) (defBody (inClass (top 2) 0)) (defScope (inClass (top 2) 0)) [] [] (He.ma K (He.ga K "NoLabels") "__init__") fd := T.d.def_ 61 (d := d_NoLabels_init) rfl
theorem Txt.f_Keeper_init (T : Txt w K mg) : ∃ fd, FunD K "__init__" "Keeper.__init__" (defArgs (inClass (top 66) 0)) (defBody (inClass (top 66) 0)) (defScope (inClass (top 66) 0)) [] [] (He.ma K (He.ga K "Keeper") "__init__") fd := T.d.def_ 62 (d := d_Keeper_init) rfl
theorem Txt.f_Keeper_web_now (T : Txt w K mg) : ∃ fd, FunD K "web_now" "Keeper.web_now" (defArgs (inClass (top 66) 5)) (defBody (inClass (top 66) 5)) (defScope (inClass (top 66) 5)) [] [] (He.ma K (He.ga K "Keeper") "web_now") fd := T.d.def_ 63 (d := d_Keeper_web_now) rfl
theorem Txt.f_Keeper_labels_now (T : Txt w K mg) : ∃ fd, FunD K "labels_now" "Keeper.labels_now" (defArgs (inClass (top 66) 6)) (defBody (inClass (top 66) 6)) (defScope (inClass (top 66) 6)) [] [] (He.ma K (He.ga K "Keeper") "labels_now") fd := T.d.def_ 64 (d := d_Keeper_labels_now) rfl
theorem Txt.f_Line_init (T : Txt w K mg) : ∃ fd, FunD K "__init__" "Line.__init__" (defArgs (inClass (top 71) 0)) (defBody (inClass (top 71) 0)) (defScope (inClass (top 71) 0)) [] [] (He.ma K (He.ga K "Line") "__init__") fd := T.d.def_ 65 (d := d_Line_init) rfl
theorem Txt.f_Line_is_over (T : Txt w K mg) : ∃ fd, FunD K "is_over" "Line.is_over" (defArgs (inClass (top 71) 2)) (defBody (inClass (top 71) 2)) (defScope (inClass (top 71) 2)) [] [] (He.ma K (He.ga K "Line") "is_over") fd := T.d.def_ 66 (d := d_Line_is_over) rfl
theorem Txt.f_Line_next_word (T : Txt w K mg) : ∃ fd, FunD K "next_word" "Line.next_word" (defArgs (inClass (top 71) 3)) (defBody (inClass (top 71) 3)) (defScope (inClass (top 71) 3)) [] [] (He.ma K (He.ga K "Line") "next_word") fd := T.d.def_ 67 (d := d_Line_next_word) rfl
theorem Txt.f_Line_take (T : Txt w K mg) : ∃ fd, FunD K "take" "Line.take" (defArgs (inClass (top 71) 4)) (defBody (inClass (top 71) 4)) (defScope (inClass (top 71) 4)) [] [] (He.ma K (He.ga K "Line") "take") fd := T.d.def_ 68 (d := d_Line_take) rfl
theorem Txt.f_Line_take_word (T : Txt w K mg) : ∃ fd, FunD K "take_word" "Line.take_word" (defArgs (inClass (top 71) 5)) (defBody (inClass (top 71) 5)) (defScope (inClass (top 71) 5)) [] [] (He.ma K (He.ga K "Line") "take_word") fd := T.d.def_ 69 (d := d_Line_take_word) rfl
theorem Txt.f_Line_take_number (T : Txt w K mg) : ∃ fd, FunD K "take_number" "Line.take_number" (defArgs (inClass (top 71) 6)) (defBody (inClass (top 71) 6)) (defScope (inClass (top 71) 6)) [] [] (He.ma K (He.ga K "Line") "take_number") fd := T.d.def_ 70 (d := d_Line_take_number) rfl
theorem Txt.f_Line_end (T : Txt w K mg) : ∃ fd, FunD K "end" "Line.end" (defArgs (inClass (top 71) 7)) (defBody (inClass (top 71) 7)) (defScope (inClass (top 71) 7)) [] [] (He.ma K (He.ga K "Line") "end") fd := T.d.def_ 71 (d := d_Line_end) rfl
theorem Txt.f_Desk_init (T : Txt w K mg) : ∃ fd, FunD K "__init__" "Desk.__init__" (defArgs (inClass (top 88) 0)) (defBody (inClass (top 88) 0)) (defScope (inClass (top 88) 0)) [] [] (He.ma K (He.ga K "Desk") "__init__") fd := T.d.def_ 72 (d := d_Desk_init) rfl
theorem Txt.f_Desk_say (T : Txt w K mg) : ∃ fd, FunD K "say" "Desk.say" (defArgs (inClass (top 88) 1)) (defBody (inClass (top 88) 1)) (defScope (inClass (top 88) 1)) [] [] (He.ma K (He.ga K "Desk") "say") fd := T.d.def_ 73 (d := d_Desk_say) rfl
theorem Txt.f_Desk_asked (T : Txt w K mg) : ∃ fd, FunD K "asked" "Desk.asked" (defArgs (inClass (top 88) 2)) (defBody (inClass (top 88) 2)) (defScope (inClass (top 88) 2)) [] [] (He.ma K (He.ga K "Desk") "asked") fd := T.d.def_ 74 (d := d_Desk_asked) rfl
theorem Txt.f_Desk_checked (T : Txt w K mg) : ∃ fd, FunD K "checked" "Desk.checked" (defArgs (inClass (top 88) 3)) (defBody (inClass (top 88) 3)) (defScope (inClass (top 88) 3)) [] [] (He.ma K (He.ga K "Desk") "checked") fd := T.d.def_ 75 (d := d_Desk_checked) rfl
end
theorem bt_len : bootBuiltins "len" = some (.builtin "len") := by decide +kernel
theorem bt_isinstance : bootBuiltins "isinstance" = some (.builtin "isinstance") := by decide +kernel
theorem bt_int : bootBuiltins "int" = some (.type "int") := by decide +kernel
theorem bt_bool : bootBuiltins "bool" = some (.type "bool") := by decide +kernel
theorem bt_tuple : bootBuiltins "tuple" = some (.type "tuple") := by decide +kernel
theorem bt_list : bootBuiltins "list" = some (.type "list") := by decide +kernel
theorem bt_dict : bootBuiltins "dict" = some (.type "dict") := by decide +kernel
theorem bt_range : bootBuiltins "range" = some (.type "range") := by decide +kernel
theorem bt_sorted : bootBuiltins "sorted" = some (.builtin "sorted") := by decide +kernel
theorem bt_min : bootBuiltins "min" = some (.builtin "min") := by decide +kernel
theorem bt_max : bootBuiltins "max" = some (.builtin "max") := by decide +kernel
theorem bt_any : bootBuiltins "any" = some (.builtin "any") := by decide +kernel
theorem bt_all : bootBuiltins "all" = some (.builtin "all") := by decide +kernel
theorem bt_enumerate : bootBuiltins "enumerate" = some (.type "enumerate") := by decide +kernel
theorem bt_set : bootBuiltins "set" = some (.type "set") := by decide +kernel
theorem bt_repr : bootBuiltins "repr" = some (.builtin "repr") := by decide +kernel
theorem bt_str : bootBuiltins "str" = some (.type "str") := by decide +kernel
/-! ### a def that may be called by its name -/
structure CalD (P : Program) (w : World) (K : Fg) (mg : Str → Option Value) (base : Heap) (k : Nat) (x : Str) (sp : Sp) : Prop where
  ex : ∃ (f : Addr) (fd : FuncData) (ps : List Str), FnOk P w K mg base CX0 k f fd ps sp ∧ mg x = some (.ref f) ∧ PySem.W.keepIn K (.ref f) = true ∧ Binds K fd ps []
theorem pe_cal {X : Cx} {k j : Nat} {x : Str} {sp : Sp} {p pos : Pos} {e : Expr} {es : List Expr} {t : TA} (c : CalD X.prog X.w X.K X.mg X.base k x sp) (hr : Room j X.A) (hk : k ≤ j) (hg : Gl X x) (ha : PA X (e :: es) t)
    (hdb : (x == ("__debug__" : Str)) = false := by decide) (he : starEach (e :: es) X.env = (false, eval e X.env) :: starEach es X.env := by rfl) (hpl : (backTo pos (starEach es X.env)).any (·.1) = false := by rfl) :
    PE X (.Call (.Name x p) (e :: es) [] pos) (tCall sp [] E0 t) := by
  obtain ⟨f, fd, ps, F, hm, kp, b⟩ := c.ex
  exact pe_call F (hr.mono hk) hg hm kp b .nil pass0 ha hdb he hpl
section
variable {P : Program} {w : World} {K : Fg} {mg : Str → Option Value} {base : Heap}
/-- a def by its body -/
theorem cal_sp {g x : Str} {st : Stmt} {N ps : List Str} {k : Nat} {sp : Sp} (F : ∃ fd, FunD K x x (defArgs st) (defBody st) (defScope st) [] [] (He.ga K g) fd) (hm : mg g = some (.ref (He.ga K g))) (S : FnScope N ps (defScope st))
    (hb : ∀ (kV doc pm : Value) (an : Option Addr) (cdv ct : Value) (us : List Value), us.length = ps.length → bindArgs (PySem.W.fnOf x x (defArgs st) (defBody st) (defScope st) .none kV doc pm an cdv ct) ⟨us, []⟩ = pure (ps.zip us))
    (hl : ∀ vs H Q E, sp vs H Q E → vs.length = ps.length)
    (body : ∀ (cdv : Value) (A : Around) (outer : List Env) (s : Shared) (H : Hp) (vs : List V) (Q : VK) (E : XK), Room k (A.deeper (envOfC x (defScope st) s.heap.objs.size (He.ga K g) cdv)) → sp vs H Q E →
      ∃ t, PSs (cxOf CX0 P w K mg base N x (defScope st) (He.ga K g) cdv A outer s H E).nox (defBody st) t ∧ t { nx := fun _ H' => Q .non H', rt := Q } (start N vs) H) : CalD P w K mg base (k + 1) g sp := by
  obtain ⟨fd, F⟩ := F
  refine ⟨_, fd, ps, FunD.ok F S hl fun cdv A outer s H vs Q E hr h => ?_, hm, F.kp, F.bindsN hb⟩
  obtain ⟨t, h1, h2⟩ := body cdv A outer s H vs Q E hr h
  exact ⟨t, h1.nox, h2⟩
theorem cal_of {g x : Str} {st : Stmt} {N ps : List Str} {k : Nat} {rel : Rel} (F : ∃ fd, FunD K x x (defArgs st) (defBody st) (defScope st) [] [] (He.ga K g) fd) (hm : mg g = some (.ref (He.ga K g))) (S : FnScope N ps (defScope st))
    (hb : ∀ (kV doc pm : Value) (an : Option Addr) (cdv ct : Value) (us : List Value), us.length = ps.length → bindArgs (PySem.W.fnOf x x (defArgs st) (defBody st) (defScope st) .none kV doc pm an cdv ct) ⟨us, []⟩ = pure (ps.zip us))
    (hl : ∀ ds r, rel ds r → ds.length = ps.length)
    (body : ∀ (cdv : Value) (A : Around) (outer : List Env) (s : Shared) (H : Hp) (vs : List V) (Q : VK) (E : XK), Room k (A.deeper (envOfC x (defScope st) s.heap.objs.size (He.ga K g) cdv)) → ∀ ds r, rel ds r → DpAll K H vs ds → (∀ v H', Ex H H' → Dp K H' v r → Q v H') →
      ∃ t, PSs (cxOf CX0 P w K mg base N x (defScope st) (He.ga K g) cdv A outer s H E).nox (defBody st) t ∧ t { nx := fun _ H' => Q .non H', rt := Q } (start N vs) H) : CalD P w K mg base (k + 1) g (PureSp K rel) :=
  cal_sp F hm S hb (fun vs H Q E ⟨ds, r, h1, h2, _⟩ => (dps_len h2).trans (hl ds r h1)) fun cdv A outer s H vs Q E hr ⟨ds, r, h1, h2, h3⟩ => body cdv A outer s H vs Q E hr ds r h1 h2 h3
theorem dps1 {H : Hp} {vs : List V} {a : PyData} (h : DpAll K H vs [a]) : ∃ x, vs = [x] ∧ Dp K H x a := by
  cases h with
  | cons h1 t =>
    cases t
    exact ⟨_, rfl, h1⟩
theorem dps2 {H : Hp} {vs : List V} {a b : PyData} (h : DpAll K H vs [a, b]) : ∃ x y, vs = [x, y] ∧ Dp K H x a ∧ Dp K H y b := by
  cases h with
  | cons h1 t =>
    obtain ⟨y, rfl, h2⟩ := dps1 t
    exact ⟨_, y, rfl, h1, h2⟩
theorem dps3 {H : Hp} {vs : List V} {a b c : PyData} (h : DpAll K H vs [a, b, c]) : ∃ x y z, vs = [x, y, z] ∧ Dp K H x a ∧ Dp K H y b ∧ Dp K H z c := by
  cases h with
  | cons h1 t =>
    obtain ⟨y, z, rfl, h2, h3⟩ := dps2 t
    exact ⟨_, y, z, rfl, h1, h2, h3⟩
theorem dps4 {H : Hp} {vs : List V} {a b c d : PyData} (h : DpAll K H vs [a, b, c, d]) : ∃ x y z u, vs = [x, y, z, u] ∧ Dp K H x a ∧ Dp K H y b ∧ Dp K H z c ∧ Dp K H u d := by
  cases h with
  | cons h1 t =>
    obtain ⟨y, z, u, rfl, h2, h3, h4⟩ := dps3 t
    exact ⟨_, y, z, u, rfl, h1, h2, h3, h4⟩
theorem dps5 {H : Hp} {vs : List V} {a b c d e : PyData} (h : DpAll K H vs [a, b, c, d, e]) : ∃ x y z u v, vs = [x, y, z, u, v] ∧ Dp K H x a ∧ Dp K H y b ∧ Dp K H z c ∧ Dp K H u d ∧ Dp K H v e := by
  cases h with
  | cons h1 t =>
    obtain ⟨y, z, u, v, rfl, h2, h3, h4, h5⟩ := dps4 t
    exact ⟨_, y, z, u, v, rfl, h1, h2, h3, h4, h5⟩
end
end Lw
namespace Lw
open PySem PySem.Spec PyProof.Rows L2 Evl
/-! ### small readings -/
def nD (n : Nat) : PyData := .int (n : Int)
def optD : Option Nat → PyData
  | none => .none
  | some n => .int (n : Int)
def optV : Option Nat → V
  | none => .non
  | some n => .int (n : Int)
section
variable {K : Fg} {σ : Ks} {H H' : Hp} {ta tb te tx : TE} {t u : TT} {x y z v : V} {r : R2} {d e : PyData} {ds es : List PyData}
theorem fz_opt (o : Option Nat) : fz (optD o) = true := by cases o <;> rfl
theorem fz_n (n : Nat) : fz (nD n) = true := rfl
theorem dp_opt {o : Option Nat} (h : Dp K H v (optD o)) : v = optV o := by
  cases o with
  | none => exact dp_none h
  | some n => exact dp_int h
theorem opt_dp (o : Option Nat) : Dp K H (optV o) (optD o) := by
  cases o with
  | none => exact .non
  | some n => exact .int _
theorem dp_n {n : Nat} (h : Dp K H v (nD n)) : v = .int (n : Int) := dp_int h
theorem ev_opt {o : Option Nat} (h : EvD K te σ H (optD o)) : Ev te σ H (optV o) := fun H1 e Q q => h H1 e Q fun v H2 e2 dd => by
  rw [dp_opt dd]; exact q H2 e2
theorem ev_n {n : Nat} (h : EvD K te σ H (nD n)) : Ev te σ H (.int (n : Int)) := ev_int h
theorem evd_opt {o : Option Nat} (h : Ev te σ H (optV o)) : EvD K te σ H (optD o) := evd_ev h fun _ => opt_dp o
theorem optV_eq {a b : Option Nat} : decide (optV a = optV b) = decide (a = b) := by
  have key : (optV a = optV b) ↔ a = b := by
    cases a with
    | none => cases b with
      | none => simp [optV]
      | some b => simp [optV]
    | some a => cases b with
      | none => simp [optV]
      | some b => simp only [optV, V.int.injEq, Option.some.injEq]; omega
  simp only [key]
theorem scal_opt (a b : Option Nat) : scal (optV a) (optV b) = true := by
  cases a <;> cases b <;> rfl
theorem ev_eqO {a b : Option Nat} (ha : EvD K ta σ H (optD a)) (hb : EvD K tb σ H (optD b)) : Ev (tOp rEq ta tb) σ H (.bl (decide (a = b))) := by
  rw [← optV_eq]
  exact ev_op (ev_opt ha) (ev_opt hb) (rv_eq (scal_opt a b))
theorem ev_eqN {a b : Nat} (ha : EvD K ta σ H (nD a)) (hb : EvD K tb σ H (nD b)) : Ev (tOp rEq ta tb) σ H (.bl (decide (a = b))) := by
  have h := ev_eqO (a := some a) (b := some b) ha hb
  have e : decide (some a = some b) = decide (a = b) := by simp
  rw [e] at h
  exact h
theorem ev_neN {a b : Nat} (ha : EvD K ta σ H (nD a)) (hb : EvD K tb σ H (nD b)) : Ev (tOp rNe ta tb) σ H (.bl (!decide (a = b))) := by
  have e : (!decide (a = b)) = !decide (optV (some a) = optV (some b)) := by rw [optV_eq]; simp
  rw [e]
  exact ev_op (ev_opt (o := some a) ha) (ev_opt (o := some b) hb) (rv_ne (scal_opt _ _))
theorem ev_eqI {i j : Int} (ha : Ev ta σ H (.int i)) (hb : Ev tb σ H (.int j)) : Ev (tOp rEq ta tb) σ H (.bl (decide (i = j))) := by
  have e : decide (i = j) = decide (V.int i = V.int j) := by simp
  rw [e]
  exact ev_op ha hb (rv_eq rfl)
theorem ev_neI {i j : Int} (ha : Ev ta σ H (.int i)) (hb : Ev tb σ H (.int j)) : Ev (tOp rNe ta tb) σ H (.bl (!decide (i = j))) := by
  have e : decide (i = j) = decide (V.int i = V.int j) := by simp
  rw [e]
  exact ev_op ha hb (rv_ne rfl)
theorem ev_eqS {i j : Str} (ha : Ev ta σ H (.str i)) (hb : Ev tb σ H (.str j)) : Ev (tOp rEq ta tb) σ H (.bl (decide (i = j))) := by
  have e : decide (i = j) = decide (V.str i = V.str j) := by simp
  rw [e]
  exact ev_op ha hb (rv_eq rfl)
theorem ev_neS {i j : Str} (ha : Ev ta σ H (.str i)) (hb : Ev tb σ H (.str j)) : Ev (tOp rNe ta tb) σ H (.bl (!decide (i = j))) := by
  have e : decide (i = j) = decide (V.str i = V.str j) := by simp
  rw [e]
  exact ev_op ha hb (rv_ne rfl)
/-! ints -/
theorem ev_add {i j : Int} (ha : Ev ta σ H (.int i)) (hb : Ev tb σ H (.int j)) : Ev (tOp (rI0 fun i j => .int (i + j)) ta tb) σ H (.int (i + j)) := ev_op ha hb rv_I0
theorem ev_sub {i j : Int} (ha : Ev ta σ H (.int i)) (hb : Ev tb σ H (.int j)) : Ev (tOp (rI0 fun i j => .int (i - j)) ta tb) σ H (.int (i - j)) := ev_op ha hb rv_I0
theorem ev_lt {i j : Int} (ha : Ev ta σ H (.int i)) (hb : Ev tb σ H (.int j)) : Ev (tOp (rI0 fun i j => .bl (decide (i < j))) ta tb) σ H (.bl (decide (i < j))) := ev_op ha hb rv_I0
theorem ev_le {i j : Int} (ha : Ev ta σ H (.int i)) (hb : Ev tb σ H (.int j)) : Ev (tOp (rI0 fun i j => .bl (decide (i ≤ j))) ta tb) σ H (.bl (decide (i ≤ j))) := ev_op ha hb rv_I0
theorem ev_gt {i j : Int} (ha : Ev ta σ H (.int i)) (hb : Ev tb σ H (.int j)) : Ev (tOp (rI0 fun i j => .bl (decide (j < i))) ta tb) σ H (.bl (decide (j < i))) := ev_op ha hb rv_I0
theorem ev_ge {i j : Int} (ha : Ev ta σ H (.int i)) (hb : Ev tb σ H (.int j)) : Ev (tOp (rI0 fun i j => .bl (decide (j ≤ i))) ta tb) σ H (.bl (decide (j ≤ i))) := ev_op ha hb rv_I0
theorem evd_add {a b : Nat} (ha : EvD K ta σ H (nD a)) (hb : EvD K tb σ H (nD b)) : EvD K (tOp (rI0 fun i j => .int (i + j)) ta tb) σ H (nD (a + b)) := by
  have h := ev_add (ev_n ha) (ev_n hb)
  exact evd_int (by rw [show ((a + b : Nat) : Int) = (a : Int) + (b : Int) by omega]; exact h)
theorem ev_ltN {a b : Nat} (ha : EvD K ta σ H (nD a)) (hb : EvD K tb σ H (nD b)) : Ev (tOp (rI0 fun i j => .bl (decide (i < j))) ta tb) σ H (.bl (decide (a < b))) := by
  have h := ev_lt (ev_n ha) (ev_n hb)
  have e : decide ((a : Int) < (b : Int)) = decide (a < b) := by simp
  rw [e] at h
  exact h
abbrev rMin2 : List V → Hp → VK → Prop := fun xs H Q => ∃ i j, xs = [.int i, .int j] ∧ Q (.int (if j < i then j else i)) H
abbrev rMax2' : List V → Hp → VK → Prop := fun xs H Q => ∃ i j, xs = [.int i, .int j] ∧ Q (.int (if j > i then j else i)) H
theorem evd_min2 {a b : Nat} (ha : EvD K ta σ H (nD a)) (hb : EvD K tb σ H (nD b)) : EvD K (tCB rMin2 (tCons ta (tCons tb tNil))) σ H (nD (min a b)) := fun H1 x Q q =>
  ha H1 x _ fun v H2 e2 d2 => hb H2 (x.trans e2) _ fun v3 H3 e3 d3 => by
    rw [dp_n d2, dp_n d3]
    refine ⟨_, _, rfl, q _ H3 (e2.trans e3) ?_⟩
    have e : (if (b : Int) < (a : Int) then (b : Int) else (a : Int)) = ((min a b : Nat) : Int) := by
      split <;> omega
    rw [e]
    exact .int _
theorem evd_max2 {a b : Nat} (ha : EvD K ta σ H (nD a)) (hb : EvD K tb σ H (nD b)) : EvD K (tCB rMax2' (tCons ta (tCons tb tNil))) σ H (nD (max a b)) := fun H1 x Q q =>
  ha H1 x _ fun v H2 e2 d2 => hb H2 (x.trans e2) _ fun v3 H3 e3 d3 => by
    rw [dp_n d2, dp_n d3]
    refine ⟨_, _, rfl, q _ H3 (e2.trans e3) ?_⟩
    have e : (if (b : Int) > (a : Int) then (b : Int) else (a : Int)) = ((max a b : Nat) : Int) := by
      split <;> omega
    rw [e]
    exact .int _
theorem evd_c {i : Int} : EvD K (tC (.int i)) σ H (.int i) := evd_int ev_c
theorem evd_cn (n : Nat) : EvD K (tC (.int (n : Int))) σ H (nD n) := evd_int ev_c
theorem evd_non : EvD K (tC .non) σ H .none := evd_none ev_c
/-! items by written places -/
theorem ixD0 {a : PyData} {l : List PyData} : ixD (a :: l) 0 = some a := ixD_nat (j := 0) rfl
theorem ixD1 {a b : PyData} {l : List PyData} : ixD (a :: b :: l) 1 = some b := ixD_nat (j := 1) rfl
theorem ixD2 {a b c : PyData} {l : List PyData} : ixD (a :: b :: c :: l) 2 = some c := ixD_nat (j := 2) rfl
theorem ixD3 {a b c d : PyData} {l : List PyData} : ixD (a :: b :: c :: d :: l) 3 = some d := ixD_nat (j := 3) rfl
theorem evd_i0 {a : PyData} {l : List PyData} (h : EvD K ta σ H (.tuple (a :: l))) : EvD K (tOp (rIxT K) ta (tC (.int 0))) σ H a := evd_ixT h ev_c ixD0
theorem evd_i1 {a b : PyData} {l : List PyData} (h : EvD K ta σ H (.tuple (a :: b :: l))) : EvD K (tOp (rIxT K) ta (tC (.int 1))) σ H b := evd_ixT h ev_c ixD1
theorem evd_i2 {a b c : PyData} {l : List PyData} (h : EvD K ta σ H (.tuple (a :: b :: c :: l))) : EvD K (tOp (rIxT K) ta (tC (.int 2))) σ H c := evd_ixT h ev_c ixD2
theorem evd_i3 {a b c d : PyData} {l : List PyData} (h : EvD K ta σ H (.tuple (a :: b :: c :: d :: l))) : EvD K (tOp (rIxT K) ta (tC (.int 3))) σ H d := evd_ixT h ev_c ixD3
/-- an item of a row -/
theorem evd_at {α : Type} {f : α → PyData} {l : List α} {i : Nat} {a : α} (ha : EvD K ta σ H (.tuple (l.map f))) (hb : EvD K tb σ H (nD i)) (h : l[i]? = some a) : EvD K (tOp (rIxT K) ta tb) σ H (f a) :=
  evd_ixT ha (ev_n hb) (ixD_nat (by rw [List.getElem?_map, h]; rfl))
theorem evd_atL {α : Type} {f : α → PyData} {l : List α} {i : Nat} {a : α} (ha : EvD K ta σ H (.list (l.map f))) (hb : EvD K tb σ H (nD i)) (h : l[i]? = some a) : EvD K (tOp (rIxL K) ta tb) σ H (f a) :=
  evd_ixL ha (ev_n hb) (ixD_nat (by rw [List.getElem?_map, h]; rfl))
/-- a new list -/
def EvN (K : Fg) (te : TE) (σ : Ks) (H : Hp) (ds : List PyData) : Prop := ∀ H1, Ex H H1 → ∀ Q : VK, (∀ p xs H2, H1 p = none → Ex H1 H2 → H2 p = some (.lst xs) → DpAll K H2 xs ds → Q (.ref p) H2) → te σ H1 Q
theorem EvN.toD (h : EvN K te σ H ds) : EvD K te σ H (.list ds) := fun H1 e Q q => h H1 e Q fun p xs H2 _ e2 h2 d2 => q _ H2 e2 (.lst (sq_of h2) d2)
theorem EvN.to (h : EvN K te σ H ds) (q : ds = es) : EvN K te σ H es := q ▸ h
theorem evn_lst {ta : TA} (h : EvDs K ta σ H ds) (hl : ds.length ≤ 100000) : EvN K (tLst ta) σ H ds := fun H1 e Q q =>
  h H1 e _ fun vs H2 e2 d2 => ⟨sz_of (by rw [dps_len d2]; exact hl), fun p hp => q p vs _ (fresh_back e2 hp) (e2.trans (Ex.new hp)) upd_same (Dpsx d2 (Ex.new hp))⟩
/-- a comprehension over data of one kind -/
theorem evn_lcA {α : Type} {enc : α → PyData} {l : List α} {wi : TI} {g : TG} {tt : TT} {vs : List Nat} (f : α → Bool) (m : α → PyData) (hs : EvJ K wi σ H (l.map enc)) (hz : l.length ≤ 100000) (hm : ∀ a ∈ l, f a = true → fz (m a) = true)
    (ht : ∀ (a : α) (x : V) (H3 : Hp) (P : Ks → Hp → Prop), a ∈ l → Ex H H3 → Dp K H3 x (enc a) → (∀ σ2, wipe σ2 vs = wipe σ vs → EvT tt σ2 H3 (f a) → (f a = true → EvD K te σ2 H3 (m a)) → P σ2 H3) → g x (wipe σ vs) H3 P) :
    EvN K (tLc wi g tt te vs) σ H ((l.filter f).map m) := fun H0 e0 Q q => hs H0 e0 _ fun J H1 e1 w Dl hD => by
  have e01 := e0.trans e1
  rw [List.length_map] at w
  refine lc_it (w.mono (G' := fun H' => Ex H1 H') (Y' := YD K (l.map enc)) (fun _ z => z) (fun _ _ _ _ _ _ y => y)) (fun i H' => Ex H1 H' ∧ ∃ acc, H' Dl = some (.lst acc) ∧ DpAll K H' acc (((l.take i).filter f).map m))
    ⟨Ex.new hD, [], upd_same, by simp; exact .nil⟩ (fun i H' _ p => p.1) (fun i x H3 H4 hi p y => ?_) fun H' p => ?_
  · obtain ⟨p1, acc, p2, p3⟩ := p
    obtain ⟨y1, d, y2, y3⟩ := y
    rw [List.getElem?_map] at y2
    obtain ⟨a, ya, rfl⟩ := Option.map_eq_some_iff.mp y2
    have hmem : a ∈ l := List.mem_of_getElem? ya
    refine ht a x H4 _ hmem (e01.trans (p1.trans y1)) y3 fun σ2 hw h1 h2 => ⟨hw, h1 H4 (Ex.refl _) _ fun H5 e5 => ?_⟩
    have et : l.take (i + 1) = l.take i ++ [a] := by rw [List.take_add_one, ya]; rfl
    have ef : ((l.take (i + 1)).filter f).map m = ((l.take i).filter f).map m ++ (if f a = true then [m a] else []) := by
      rw [et, List.filter_append, List.map_append]
      congr 1
      rw [List.filter_cons]
      split <;> rfl
    have fzA : fzAll (((l.take i).filter f).map m) = true := fzAll_iff.mpr fun z hz => by
      obtain ⟨d', hd', rfl⟩ := List.mem_map.mp hz
      obtain ⟨hd1, hd2⟩ := List.mem_filter.mp hd'
      exact hm d' (List.mem_of_mem_take hd1) hd2
    have lenA : acc.length ≤ l.length := by
      rw [dps_len p3, List.length_map]
      exact Nat.le_trans (List.length_filter_le _ _) (by rw [List.length_take]; omega)
    cases hf : f a with
    | true =>
      rw [hf] at ef
      refine h2 hf H5 (e5) _ fun v H6 e6 d6 => ⟨acc, e6 _ _ (e5 _ _ (y1 _ _ p2)), by have := sz_lt (n := acc.length); rw [sizeLine_eq]; omega, ?_⟩
      have tk : Tk H6 (upd H6 Dl (.lst (acc ++ [v]))) := tk_updL (e6 _ _ (e5 _ _ (y1 _ _ p2)))
      refine ⟨Ex.mut (p1.trans (y1.trans (e5.trans e6))) hD, acc ++ [v], upd_same, ?_⟩
      rw [ef, if_pos rfl]
      exact dps_app (Dpst (Dpsx p3 (y1.trans (e5.trans e6))) tk fzA) (.cons (Dpt d6 tk (hm a hmem hf)) .nil)
    | false =>
      rw [hf] at ef
      refine ⟨p1.trans (y1.trans e5), acc, e5 _ _ (y1 _ _ p2), ?_⟩
      rw [ef, if_neg Bool.false_ne_true, List.append_nil]
      exact Dpsx p3 (y1.trans e5)
  · obtain ⟨p1, acc, p2, p3⟩ := p
    rw [List.take_length] at p3
    exact q Dl acc _ (fresh_back e1 hD) (e1.trans p1) p2 p3
theorem evn_lcB {α : Type} {enc : α → PyData} {l : List α} {wi : TI} {g : TG} {vs : List Nat} (m : α → PyData) (hs : EvJ K wi σ H (l.map enc)) (hz : l.length ≤ 100000) (hm : ∀ a ∈ l, fz (m a) = true)
    (ht : ∀ (a : α) (x : V) (H3 : Hp) (P : Ks → Hp → Prop), a ∈ l → Ex H H3 → Dp K H3 x (enc a) → (∀ σ2, wipe σ2 vs = wipe σ vs → EvD K te σ2 H3 (m a) → P σ2 H3) → g x (wipe σ vs) H3 P) :
    EvN K (tLc wi g tYes te vs) σ H (l.map m) := by
  have h := evn_lcA (te := te) (tt := tYes) (g := g) (vs := vs) (fun _ => true) m hs hz (fun a ha _ => hm a ha) (fun d x H3 P hd e dd k => ht d x H3 P hd e dd fun σ2 w q => k σ2 w evt_yes fun _ => q)
  have e : l.filter (fun _ => true) = l := List.filter_eq_self.mpr fun _ _ => rfl
  rw [e] at h
  exact h
theorem upto_map (n : Nat) : upto n = (List.range n).map nD := rfl
theorem d_when {D : Ends} {tu tz : TS} {b : Bool} (h : EvT t σ H b) (h1 : b = true → ∀ H1, Ex H H1 → tu { D with nx := tz D } σ H1) (h2 : b = false → ∀ H1, Ex H H1 → tz D σ H1) : tSeq (tIfS t tu tNext) tz D σ H := d_if (D := D) (tz := tz) (tw := tNext) h h1 h2
/-- a local list of scalars -/
theorem dp_loc {l : Addr} {f : List (Option Nat)} (h : H l = some (.lst (f.map optV))) : Dp K H (.ref l) (.list (f.map optD)) := .lst (sq_of h) (by
  clear h
  induction f with
  | nil => exact .nil
  | cons a f ih => exact .cons (opt_dp a) ih)
theorem q_setO {D : Ends} {tz : TS} {l : Addr} {f : List (Option Nat)} {j i : Nat} {o : Option Nat} (hl : H l = some (.lst (f.map optV))) (h : EvD K te σ H (optD o)) (ho : σ[i]? = some (some (.ref l))) (hi : EvD K tb σ H (nD j)) (hj : j < f.length)
    (k : ∀ H1, Ex H H1 → tz D σ (upd H1 l (.lst ((f.set j o).map optV)))) : tSeq (tAsg te (gSub (tVar i) tb rSetL)) tz D σ H := h H (Ex.refl _) _ fun v H1 e1 d1 => ⟨.ref l, ho, hi H1 e1 _ fun v2 H2 e2 d2 => by
  rw [dp_opt d1, dp_n d2]
  refine ⟨l, f.map optV, (j : Int), j, rfl, rfl, e2 _ _ (e1 _ _ hl), ?_, ?_⟩
  · unfold ixN
    rw [if_pos (by omega), if_pos (by rw [List.length_map]; omega)]
    simp
  · have q := k H2 (e1.trans e2)
    rw [List.map_set] at q
    exact q⟩
theorem l_setO {D : Ends} {l : Addr} {f : List (Option Nat)} {j i : Nat} {o : Option Nat} (hl : H l = some (.lst (f.map optV))) (h : EvD K te σ H (optD o)) (ho : σ[i]? = some (some (.ref l))) (hi : EvD K tb σ H (nD j)) (hj : j < f.length)
    (k : ∀ H1, Ex H H1 → D.nx σ (upd H1 l (.lst ((f.set j o).map optV)))) : tAsg te (gSub (tVar i) tb rSetL) D σ H := q_setO (D := D) (tz := fun D => D.nx) hl h ho hi hj k
theorem q_setN {D : Ends} {tz : TS} {i : Nat} (h : EvN K te σ H ds) (k : ∀ p xs H1, H p = none → Ex H H1 → H1 p = some (.lst xs) → DpAll K H1 xs ds → tz D (σ.set i (some (.ref p))) H1) : tSeq (tAsg te (gName i)) tz D σ H := h H (Ex.refl _) _ k
theorem q_append {D : Ends} {tz : TS} {l : Addr} {xs : List V} {i : Nat} (hl : H l = some (.lst xs)) (ho : σ[i]? = some (some (.ref l))) (h : EvD K te σ H d) (hz : xs.length < 100000) (k : ∀ v H1, Ex H H1 → Dp K H1 v d → tz D σ (upd H1 l (.lst (xs ++ [v])))) :
    tSeq (tDrop (tBM K "list" rAppend (tVar i) (tCons te tNil))) tz D σ H :=
  ⟨_, ho, .inl ⟨rfl, _, .inl (.inl hl)⟩, h H (Ex.refl _) _ fun v H1 e1 d1 => ⟨l, xs, v, rfl, rfl, e1 _ _ hl, sz_lt hz, k v H1 e1 d1⟩⟩
theorem l_append {D : Ends} {l : Addr} {xs : List V} {i : Nat} (hl : H l = some (.lst xs)) (ho : σ[i]? = some (some (.ref l))) (h : EvD K te σ H d) (hz : xs.length < 100000) (k : ∀ v H1, Ex H H1 → Dp K H1 v d → D.nx σ (upd H1 l (.lst (xs ++ [v])))) :
    tDrop (tBM K "list" rAppend (tVar i) (tCons te tNil)) D σ H := q_append (D := D) (tz := fun D => D.nx) hl ho h hz k
theorem q_extend {D : Ends} {tz : TS} {l : Addr} {xs : List V} {i : Nat} (hl : H l = some (.lst xs)) (ho : σ[i]? = some (some (.ref l))) (h : EvN K te σ H ds) (hz : xs.length + ds.length ≤ 100000) (k : ∀ ys H1, Ex H H1 → DpAll K H1 ys ds → tz D σ (upd H1 l (.lst (xs ++ ys)))) :
    tSeq (tDrop (tBM K "list" rExtend (tVar i) (tCons te tNil))) tz D σ H :=
  ⟨_, ho, .inl ⟨rfl, _, .inl (.inl hl)⟩, h H (Ex.refl _) _ fun p ys H1 hp e1 h1 d1 => ⟨l, p, xs, ys, rfl, rfl, e1 _ _ hl, h1, sz_of (by rw [dps_len d1]; exact hz), k ys H1 e1 d1⟩⟩
theorem l_extend {D : Ends} {l : Addr} {xs : List V} {i : Nat} (hl : H l = some (.lst xs)) (ho : σ[i]? = some (some (.ref l))) (h : EvN K te σ H ds) (hz : xs.length + ds.length ≤ 100000) (k : ∀ ys H1, Ex H H1 → DpAll K H1 ys ds → D.nx σ (upd H1 l (.lst (xs ++ ys)))) :
    tDrop (tBM K "list" rExtend (tVar i) (tCons te tNil)) D σ H := q_extend (D := D) (tz := fun D => D.nx) hl ho h hz k
theorem evn_sortedI {ns ms : List Int} (ha : EvD K ta σ H (.list (ns.map .int))) (hu : ∀ ns' : List Int, ns'.Perm ns → ns'.Pairwise (· ≤ ·) → ns' = ms) : EvN K (tCB (rSortedI K) (tCons ta tNil)) σ H (ms.map .int) := fun H1 e Q q =>
  ha H1 e _ fun v H2 e2 d2 => by
    obtain ⟨a, xs, rfl, hs, hd⟩ := dp_lst d2
    rw [dps_ints hd] at hs
    refine ⟨a, ns, rfl, hs, fun ns' p hp hw hn => ?_⟩
    rw [hu ns' hp hw]
    exact q p _ _ (fresh_back e2 hn) (e2.trans (Ex.new hn)) upd_same (ints_dps ms)
/-- a local list of data -/
theorem dp_locD {l : Addr} {xs : List V} (h : H l = some (.lst xs)) (hd : DpAll K H xs ds) : Dp K H (.ref l) (.list ds) := .lst (sq_of h) hd
/-- a for, then the rest -/
theorem dq_for {G : Hp} {g : TG} {wi : TI} {D : Ends} {tu tz : TS} (hs : EvI K wi σ G ds) (eG : Ex G H) (Pv : Nat → Ks → Hp → Prop) (h0 : ∀ H1, Ex H H1 → Pv 0 σ H1) (hG : ∀ i σ' H', Pv i σ' H' → Ex G H')
    (ht : ∀ i d x σ' H3 H4, ds[i]? = some d → Pv i σ' H3 → Ex H3 H4 → Dp K H4 x d → g x σ' H4 fun σ2 H2 => tu { D with nx := Pv (i + 1), ct := Pv (i + 1), bk := tz D } σ2 H2)
    (hd : ∀ σ' H', Pv ds.length σ' H' → tz D σ' H') : tSeq (tFor wi g tu) tz D σ H := d_for (D := { D with nx := tz D }) hs eG Pv h0 hG ht hd
theorem dq_forJ {g : TG} {wi : TI} {D : Ends} {tu tz : TS} (hs : EvJ K wi σ H ds) (Pv : Hp → Nat → Ks → Hp → Prop) (h0 : ∀ H1, Ex H H1 → Pv H1 0 σ H1) (hG : ∀ H1 i σ' H', Pv H1 i σ' H' → Ex H1 H')
    (ht : ∀ H1 i d x σ' H3 H4, ds[i]? = some d → Pv H1 i σ' H3 → Ex H3 H4 → Dp K H4 x d → g x σ' H4 fun σ2 H2 => tu { D with nx := Pv H1 (i + 1), ct := Pv H1 (i + 1), bk := tz D } σ2 H2)
    (hd : ∀ H1 σ' H', Pv H1 ds.length σ' H' → tz D σ' H') : tSeq (tFor wi g tu) tz D σ H := d_forJ (D := { D with nx := tz D }) hs Pv h0 hG ht hd
theorem evt_eqT {b : Bool} (h : Ev te σ H (.bl b)) : EvT (tTest te) σ H b := et_test h
end
end Lw
/-! Webs, ways, and the least lengths (plain Lean). -/
namespace LwM
abbrev Tie := Nat × Nat × Nat
structure Web where
  n : Nat
  ties : List Tie
abbrev Far := List (Option Nat)
def lesser (far other : Option Nat) (long : Nat) : Option Nat :=
  match other with
  | none => far
  | some o => match far with
    | none => some (o + long)
    | some f => if o + long < f then some (o + long) else some f
def getN (xs : Far) (i : Nat) : Option Nat := xs.getD i none
def relax1 (far : Far) (t : Tie) : Far := far.set t.2.1 (lesser (getN far t.2.1) (getN far t.1) t.2.2)
def relax2 (far : Far) (t : Tie) : Far := far.set t.1 (lesser (getN far t.1) (getN far t.2.1) t.2.2)
def relax (far : Far) (t : Tie) : Far := relax2 (relax1 far t) t
def round (ties : List Tie) (far : Far) : Far := ties.foldl relax far
def rounds (ties : List Tie) : Nat → Far → Far
  | 0, far => far
  | k + 1, far => round ties (rounds ties k far)
def start0 (n p : Nat) : Far := (List.replicate n none).set p (some 0)
def lensFrom (w : Web) (p : Nat) : Far := rounds w.ties w.n (start0 w.n p)
def D (w : Web) (u v : Nat) : Option Nat := getN (lensFrom w u) v
def tlt (s t : Tie) : Prop := s.1 < t.1 ∨ (s.1 = t.1 ∧ s.2.1 < t.2.1)
structure WebOk (w : Web) : Prop where
  pos : 1 ≤ w.n
  most : w.n ≤ 24
  few : w.ties.length ≤ 60
  tie : ∀ t ∈ w.ties, t.1 < t.2.1 ∧ t.2.1 < w.n ∧ 1 ≤ t.2.2 ∧ t.2.2 ≤ 99
  ord : w.ties.Pairwise tlt
def adj (w : Web) (a b l : Nat) : Prop := (a, b, l) ∈ w.ties ∨ (b, a, l) ∈ w.ties
theorem adj.symm {w : Web} {a b l : Nat} (h : adj w a b l) : adj w b a l := Or.symm h
theorem adj.lt {w : Web} (ok : WebOk w) {a b l : Nat} (h : adj w a b l) : a < w.n ∧ b < w.n ∧ 1 ≤ l ∧ a ≠ b ∧ l ≤ 99 := by
  rcases h with h | h
  · have q := ok.tie _ h
    dsimp only at q
    omega
  · have q := ok.tie _ h
    dsimp only at q
    omega
/-! ### ways -/
inductive Way (w : Web) : Nat → Nat → Nat → List Nat → Prop
  | one (a : Nat) : a < w.n → Way w a a 0 [a]
  | step {a b c l x : Nat} {vs : List Nat} : adj w a b l → Way w b c x vs → Way w a c (l + x) (a :: vs)
section
variable {w : Web} {a b c x y : Nat} {vs us : List Nat}
theorem Way.lts (ok : WebOk w) : ∀ {a c x : Nat} {vs : List Nat}, Way w a c x vs → (∀ v ∈ vs, v < w.n) ∧ a < w.n ∧ c < w.n ∧ a ∈ vs := by
  intro a c x vs h
  induction h with
  | one a h => exact ⟨fun v hv => by simp at hv; subst hv; exact h, h, h, by simp⟩
  | step h h2 ih =>
    obtain ⟨i1, i2, i3, i4⟩ := ih
    have q := h.lt ok
    exact ⟨fun v hv => by
      rcases List.mem_cons.mp hv with e | hv
      · rw [e]; exact q.1
      · exact i1 v hv, q.1, i3, by simp⟩
theorem Way.suffix : ∀ {b c x : Nat} {vs : List Nat}, Way w b c x vs → ∀ a ∈ vs, ∃ y us, Way w a c y us ∧ us.Sublist vs ∧ y ≤ x := by
  intro b c x vs h
  induction h with
  | one b h =>
    intro a ha
    simp at ha
    subst ha
    exact ⟨0, [a], .one a h, List.Sublist.refl _, Nat.le_refl _⟩
  | @step b1 b2 c l x vs h h2 ih =>
    intro a ha
    rcases List.mem_cons.mp ha with e | ha
    · subst e
      exact ⟨_, _, .step h h2, List.Sublist.refl _, Nat.le_refl _⟩
    · obtain ⟨y, us, q1, q2, q3⟩ := ih a ha
      exact ⟨y, us, q1, q2.cons _, by omega⟩
theorem Way.simple : ∀ {a c x : Nat} {vs : List Nat}, Way w a c x vs → ∃ y us, Way w a c y us ∧ us.Nodup ∧ y ≤ x := by
  intro a c x vs h
  induction h with
  | one a h => exact ⟨0, [a], .one a h, by simp, Nat.le_refl _⟩
  | @step a b c l x vs h h2 ih =>
    obtain ⟨y, us, q1, q2, q3⟩ := ih
    by_cases ha : a ∈ us
    · obtain ⟨z, ts, r1, r2, r3⟩ := q1.suffix a ha
      exact ⟨z, ts, r1, q2.sublist r2, by omega⟩
    · exact ⟨_, _, .step h q1, List.nodup_cons.mpr ⟨ha, q2⟩, by omega⟩
theorem nodup_le : ∀ (n : Nat) (l : List Nat), l.Nodup → (∀ v ∈ l, v < n) → l.length ≤ n := by
  intro n
  induction n with
  | zero =>
    intro l _ h
    cases l with
    | nil => exact Nat.le_refl _
    | cons a l => exact absurd (h a (by simp)) (by omega)
  | succ n ih =>
    intro l hn h
    by_cases hm : n ∈ l
    · have h1 := ih (l.erase n) (hn.erase n) (fun v hv => by
        have h2 := (List.Nodup.mem_erase_iff hn).mp hv
        have h3 := h v h2.2
        have h4 := h2.1
        omega)
      have h5 := List.length_erase_of_mem hm
      omega
    · have h1 := ih l hn (fun v hv => by
        have h3 := h v hv
        have h4 : v ≠ n := fun e => hm (e ▸ hv)
        omega)
      omega
theorem Way.trans : ∀ {a b x : Nat} {vs : List Nat}, Way w a b x vs → ∀ {c y : Nat} {us : List Nat}, Way w b c y us → ∃ ts, Way w a c (x + y) ts := by
  intro a b x vs h
  induction h with
  | one a h =>
    intro c y us h2
    exact ⟨us, by rw [Nat.zero_add]; exact h2⟩
  | step h h2 ih =>
    intro c y us h3
    obtain ⟨ts, q⟩ := ih h3
    exact ⟨_, by rw [Nat.add_assoc]; exact .step h q⟩
theorem Way.symm (ok : WebOk w) : ∀ {a b x : Nat} {vs : List Nat}, Way w a b x vs → ∃ ts, Way w b a x ts := by
  intro a b x vs h
  induction h with
  | one a h => exact ⟨_, .one a h⟩
  | @step a b c l x vs h h2 ih =>
    obtain ⟨ts, q⟩ := ih
    have q2 : Way w b a (l + 0) [b, a] := .step h.symm (.one a (h.lt ok).1)
    obtain ⟨us, q3⟩ := q.trans q2
    exact ⟨us, by rw [show l + x = x + (l + 0) by omega]; exact q3⟩
end
/-! ### the relaxation -/
def ole (far' far : Far) : Prop := ∀ v y, getN far v = some y → ∃ x, getN far' v = some x ∧ x ≤ y
theorem ole.refl (far : Far) : ole far far := fun v y h => ⟨y, h, Nat.le_refl _⟩
theorem ole.trans {a b c : Far} (h : ole a b) (k : ole b c) : ole a c := fun v y e => by
  obtain ⟨x, e1, l1⟩ := k v y e
  obtain ⟨z, e2, l2⟩ := h v x e1
  exact ⟨z, e2, by omega⟩
theorem getN_set {far : Far} {i j : Nat} {z : Option Nat} : getN (far.set i z) j = if i = j ∧ i < far.length then z else getN far j := by
  unfold getN
  rw [List.getD_eq_getElem?_getD, List.getD_eq_getElem?_getD, List.getElem?_set]
  by_cases h : i = j
  · subst h
    by_cases h2 : i < far.length
    · rw [if_pos rfl, if_pos h2, if_pos ⟨rfl, h2⟩]; rfl
    · rw [if_pos rfl, if_neg h2, if_neg (fun q => h2 q.2), List.getElem?_eq_none (by omega)]
  · rw [if_neg h, if_neg (fun q => h q.1)]
theorem lesser_le {f o : Option Nat} {l y : Nat} (h : f = some y) : ∃ x, lesser f o l = some x ∧ x ≤ y := by
  subst h
  cases o with
  | none => exact ⟨y, rfl, Nat.le_refl _⟩
  | some o =>
    by_cases q : o + l < y
    · exact ⟨o + l, by show (if o + l < y then _ else _) = _; rw [if_pos q], by omega⟩
    · exact ⟨y, by show (if o + l < y then _ else _) = _; rw [if_neg q], Nat.le_refl _⟩
theorem lesser_via {f o : Option Nat} {l y : Nat} (h : o = some y) : ∃ x, lesser f o l = some x ∧ x ≤ y + l := by
  subst h
  cases f with
  | none => exact ⟨y + l, rfl, Nat.le_refl _⟩
  | some f =>
    by_cases q : y + l < f
    · exact ⟨y + l, by show (if y + l < f then _ else _) = _; rw [if_pos q], Nat.le_refl _⟩
    · exact ⟨f, by show (if y + l < f then _ else _) = _; rw [if_neg q], by omega⟩
theorem lesser_from {f o : Option Nat} {l x : Nat} (h : lesser f o l = some x) : f = some x ∨ ∃ y, o = some y ∧ x = y + l := by
  cases o with
  | none => exact .inl h
  | some o =>
    cases f with
    | none =>
      have h' : some (o + l) = some x := h
      exact .inr ⟨o, rfl, (Option.some.inj h').symm⟩
    | some f =>
      have h' : (if o + l < f then some (o + l) else some f) = some x := h
      by_cases q : o + l < f
      · rw [if_pos q] at h'
        exact .inr ⟨o, rfl, (Option.some.inj h').symm⟩
      · rw [if_neg q] at h'
        exact .inl h'
theorem len_relax (far : Far) (t : Tie) : (relax far t).length = far.length := by
  unfold relax relax2 relax1
  rw [List.length_set, List.length_set]
theorem len_round : ∀ (ts : List Tie) (far : Far), (round ts far).length = far.length
  | [], _ => rfl
  | t :: ts, far => by
    show (round ts (relax far t)).length = _
    rw [len_round ts, len_relax]
theorem len_rounds (ts : List Tie) : ∀ (k : Nat) (far : Far), (rounds ts k far).length = far.length
  | 0, _ => rfl
  | k + 1, far => by
    show (round ts (rounds ts k far)).length = _
    rw [len_round, len_rounds ts k]
theorem len_lensFrom (w : Web) (p : Nat) : (lensFrom w p).length = w.n := by
  unfold lensFrom start0
  rw [len_rounds, List.length_set, List.length_replicate]
theorem relax1_le (far : Far) (t : Tie) : ole (relax1 far t) far := fun v y h => by
  unfold relax1
  rw [getN_set]
  by_cases q : t.2.1 = v ∧ t.2.1 < far.length
  · rw [if_pos q]
    exact lesser_le (by rw [q.1]; exact h)
  · rw [if_neg q]
    exact ⟨y, h, Nat.le_refl _⟩
theorem relax2_le (far : Far) (t : Tie) : ole (relax2 far t) far := fun v y h => by
  unfold relax2
  rw [getN_set]
  by_cases q : t.1 = v ∧ t.1 < far.length
  · rw [if_pos q]
    exact lesser_le (by rw [q.1]; exact h)
  · rw [if_neg q]
    exact ⟨y, h, Nat.le_refl _⟩
theorem relax_le (far : Far) (t : Tie) : ole (relax far t) far := (relax2_le _ t).trans (relax1_le far t)
theorem round_le : ∀ (ts : List Tie) (far : Far), ole (round ts far) far
  | [], far => ole.refl far
  | t :: ts, far => (round_le ts (relax far t)).trans (relax_le far t)
/-- a tie is kept behind its relaxation -/
theorem relax_via {far : Far} {a b l y : Nat} (ha : a < far.length) (hb : b < far.length) :
    (getN far a = some y → ∃ x, getN (relax far (a, b, l)) b = some x ∧ x ≤ y + l) ∧ (getN far b = some y → ∃ x, getN (relax far (a, b, l)) a = some x ∧ x ≤ y + l) := by
  constructor
  · intro h
    have h1 : ∃ x, getN (relax1 far (a, b, l)) b = some x ∧ x ≤ y + l := by
      unfold relax1
      rw [getN_set]
      dsimp only
      rw [if_pos ⟨rfl, hb⟩]
      exact lesser_via h
    obtain ⟨x, e, q⟩ := h1
    obtain ⟨z, e2, q2⟩ := relax2_le (relax1 far (a, b, l)) (a, b, l) b x e
    exact ⟨z, e2, by omega⟩
  · intro h
    obtain ⟨x, e, q⟩ := relax1_le far (a, b, l) b y h
    have h1 : ∃ z, getN (relax far (a, b, l)) a = some z ∧ z ≤ x + l := by
      unfold relax relax2
      rw [getN_set]
      dsimp only
      rw [if_pos ⟨rfl, by unfold relax1; rw [List.length_set]; exact ha⟩]
      exact lesser_via e
    obtain ⟨z, e2, q2⟩ := h1
    exact ⟨z, e2, by omega⟩
theorem round_via : ∀ {ts : List Tie} {far : Far} {a b l y : Nat}, (a, b, l) ∈ ts → a < far.length → b < far.length →
    (getN far a = some y → ∃ x, getN (round ts far) b = some x ∧ x ≤ y + l) ∧ (getN far b = some y → ∃ x, getN (round ts far) a = some x ∧ x ≤ y + l)
  | [], _, _, _, _, _, h, _, _ => by simp at h
  | t :: ts, far, a, b, l, y, h, ha, hb => by
    rcases List.mem_cons.mp h with e | h
    · subst e
      obtain ⟨r1, r2⟩ := relax_via (y := y) (l := l) ha hb
      constructor
      · intro q
        obtain ⟨x, e, k⟩ := r1 q
        obtain ⟨z, e2, k2⟩ := round_le ts _ b x e
        exact ⟨z, e2, by omega⟩
      · intro q
        obtain ⟨x, e, k⟩ := r2 q
        obtain ⟨z, e2, k2⟩ := round_le ts _ a x e
        exact ⟨z, e2, by omega⟩
    · have ih := fun y => round_via (ts := ts) (far := relax far t) (y := y) h (by rw [len_relax]; exact ha) (by rw [len_relax]; exact hb)
      constructor
      · intro q
        obtain ⟨x, e, k⟩ := relax_le far t a y q
        obtain ⟨z, e2, k2⟩ := (ih x).1 e
        exact ⟨z, e2, by omega⟩
      · intro q
        obtain ⟨x, e, k⟩ := relax_le far t b y q
        obtain ⟨z, e2, k2⟩ := (ih x).2 e
        exact ⟨z, e2, by omega⟩
/-- what stands is the length of a way -/
def Sound (w : Web) (u : Nat) (far : Far) : Prop := ∀ v x, getN far v = some x → ∃ vs, Way w v u x vs
theorem sound_set {w : Web} {u : Nat} {far : Far} (h : Sound w u far) {i j l : Nat} (a : adj w i j l) : Sound w u (far.set i (lesser (getN far i) (getN far j) l)) := fun v x e => by
  rw [getN_set] at e
  by_cases q : i = v ∧ i < far.length
  · rw [if_pos q] at e
    rcases lesser_from e with e | ⟨y, e1, e2⟩
    · rw [← q.1]; exact h _ _ e
    · obtain ⟨vs, k⟩ := h _ _ e1
      rw [← q.1, e2, Nat.add_comm]
      exact ⟨_, .step a k⟩
  · rw [if_neg q] at e
    exact h _ _ e
theorem sound_relax {w : Web} {u : Nat} {far : Far} (h : Sound w u far) {t : Tie} (ht : t ∈ w.ties) : Sound w u (relax far t) :=
  sound_set (sound_set h (.inr ht)) (.inl ht)
theorem sound_round {w : Web} {u : Nat} : ∀ {ts : List Tie} {far : Far}, (∀ t ∈ ts, t ∈ w.ties) → Sound w u far → Sound w u (round ts far)
  | [], _, _, h => h
  | t :: ts, far, hs, h => sound_round (ts := ts) (fun s q => hs s (by simp [q])) (sound_relax h (hs t (by simp)))
theorem sound_rounds {w : Web} {u : Nat} {far : Far} (h : Sound w u far) : ∀ k, Sound w u (rounds w.ties k far)
  | 0 => h
  | k + 1 => sound_round (fun _ q => q) (sound_rounds h k)
theorem getN_start {n p v : Nat} (hp : p < n) : getN (start0 n p) v = if v = p then some 0 else none := by
  unfold start0
  rw [getN_set]
  by_cases h : v = p
  · rw [if_pos h, if_pos ⟨h.symm, by rw [List.length_replicate]; exact hp⟩]
  · rw [if_neg h, if_neg (fun q => h q.1.symm)]
    unfold getN
    rw [List.getD_eq_getElem?_getD, List.getElem?_replicate]
    split <;> rfl
theorem sound_start {w : Web} {u : Nat} (hu : u < w.n) : Sound w u (start0 w.n u) := fun v x e => by
  rw [getN_start hu] at e
  by_cases h : v = u
  · rw [if_pos h] at e
    obtain rfl := Option.some.inj e
    rw [h]
    exact ⟨_, .one u hu⟩
  · rw [if_neg h] at e
    cases e
/-- a way of few places is found -/
theorem found {w : Web} (ok : WebOk w) {u : Nat} (hu : u < w.n) : ∀ (k : Nat) (v x : Nat) (vs : List Nat), Way w v u x vs → vs.length ≤ k + 1 → ∃ y, getN (rounds w.ties k (start0 w.n u)) v = some y ∧ y ≤ x := by
  intro k
  induction k with
  | zero =>
    intro v x vs h hl
    cases h with
    | one => exact ⟨0, by show getN (start0 w.n u) u = _; rw [getN_start hu, if_pos rfl], Nat.le_refl _⟩
    | step h h2 =>
      rename_i b l y ws
      have q := (h2.lts ok).2.2.2
      have : ws ≠ [] := fun e => by rw [e] at q; simp at q
      have : 0 < ws.length := List.length_pos_iff.mpr this
      rw [List.length_cons] at hl
      omega
  | succ k ih =>
    intro v x vs h hl
    cases h with
    | one =>
      obtain ⟨y, e, q⟩ := ih u 0 [u] (.one u hu) (by simp)
      obtain ⟨z, e2, q2⟩ := round_le w.ties _ u y e
      exact ⟨z, e2, by omega⟩
    | step h h2 =>
      rename_i b l y ws
      rw [List.length_cons] at hl
      obtain ⟨z, e, q⟩ := ih _ _ _ h2 (by omega)
      have hl := h.lt ok
      have e1 : (rounds w.ties k (start0 w.n u)).length = w.n := by
        unfold start0
        rw [len_rounds, List.length_set, List.length_replicate]
      rcases h with h | h
      · obtain ⟨x, e2, q2⟩ := (round_via (y := z) h (by rw [e1]; exact hl.1) (by rw [e1]; exact hl.2.1)).2 e
        exact ⟨x, e2, by omega⟩
      · obtain ⟨x, e2, q2⟩ := (round_via (y := z) h (by rw [e1]; exact hl.2.1) (by rw [e1]; exact hl.1)).1 e
        exact ⟨x, e2, by omega⟩
/-! ### D is the least length -/
section
variable {w : Web} (ok : WebOk w) {u v a b c l x y z : Nat} {vs : List Nat}
theorem D_way (hu : u < w.n) (h : D w u v = some x) : ∃ vs, Way w v u x vs := sound_rounds (sound_start hu) w.n v x h
include ok
theorem D_least (h : Way w v u x vs) : ∃ y, D w u v = some y ∧ y ≤ x := by
  have hu := (h.lts ok).2.2.1
  obtain ⟨y, us, q1, q2, q3⟩ := h.simple
  have hn := nodup_le w.n us q2 (q1.lts ok).1
  obtain ⟨z, e, q4⟩ := found ok hu w.n v y us q1 (by omega)
  exact ⟨z, e, by omega⟩
theorem D_lt (hu : u < w.n) (h : D w u v = some x) : v < w.n := by
  obtain ⟨vs, k⟩ := D_way hu h
  exact (k.lts ok).2.1
theorem D_self (hu : u < w.n) : D w u u = some 0 := by
  obtain ⟨y, e, q⟩ := D_least ok (Way.one u hu)
  rw [e]
  congr 1
  omega
theorem D_symm (hu : u < w.n) (hv : v < w.n) : D w u v = D w v u := by
  have key : ∀ {u v x : Nat}, u < w.n → D w u v = some x → ∃ y, D w v u = some y ∧ y ≤ x := by
    intro u v x hu h
    obtain ⟨vs, k⟩ := D_way hu h
    obtain ⟨ts, k2⟩ := k.symm ok
    exact D_least ok k2
  cases h1 : D w u v with
  | none =>
    cases h2 : D w v u with
    | none => rfl
    | some x =>
      obtain ⟨y, e, _⟩ := key hv h2
      rw [h1] at e; cases e
  | some x =>
    obtain ⟨y, e, q⟩ := key hu h1
    obtain ⟨z, e2, q2⟩ := key hv e
    rw [h1] at e2
    obtain rfl := Option.some.inj e2
    rw [e]
    congr 1
    omega
theorem D_tri (hu : u < w.n) (ha : a < w.n) (h1 : D w u a = some x) (h2 : D w a b = some y) : ∃ z, D w u b = some z ∧ z ≤ x + y := by
  obtain ⟨vs, k1⟩ := D_way hu h1
  obtain ⟨us, k2⟩ := D_way ha h2
  obtain ⟨ts, k3⟩ := k2.trans k1
  rw [Nat.add_comm]
  exact D_least ok k3
theorem D_zero (hu : u < w.n) (h : D w u v = some 0) : v = u := by
  obtain ⟨vs, k⟩ := D_way hu h
  generalize e : (0 : Nat) = z at k
  cases k with
  | one => rfl
  | step h1 h2 =>
    have := (h1.lt ok)
    omega
theorem D_adj (h : adj w a b l) : ∃ x, D w a b = some x ∧ x ≤ l := by
  have q := h.lt ok
  have k : Way w b a (l + 0) [b, a] := .step h.symm (.one a q.1)
  exact D_least ok k
/-- along a tie -/
theorem D_tie (hu : u < w.n) (h : adj w a b l) (h1 : D w u a = some x) : ∃ z, D w u b = some z ∧ z ≤ x + l := by
  obtain ⟨y, e, q⟩ := D_adj ok h
  obtain ⟨z, e2, q2⟩ := D_tri ok hu (h.lt ok).1 h1 e
  exact ⟨z, e2, by omega⟩
/-- the next place on a shortest way: from v to u -/
theorem D_next (hu : u < w.n) (hv : v < w.n) (hne : v ≠ u) (h : D w v u = some x) : ∃ p l y, adj w v p l ∧ D w p u = some y ∧ l + y = x := by
  rw [D_symm ok hv hu] at h
  obtain ⟨vs, k⟩ := D_way hu h
  cases k with
  | one => exact absurd rfl hne
  | step h1 h2 =>
    rename_i p l y ws
    have hp := (h1.lt ok).2.1
    obtain ⟨z, e, q⟩ := D_least ok h2
    obtain ⟨t, e2, q2⟩ := D_tie ok hu h1.symm e
    rw [h] at e2
    have := Option.some.inj e2
    refine ⟨p, l, z, h1, by rw [D_symm ok hp hu]; exact e, by omega⟩
end
end LwM
/-! Places beside one, ties between two (plain Lean). -/
namespace LwM
theorem asc_ext : ∀ {l1 l2 : List Nat}, l1.Pairwise (· < ·) → l2.Pairwise (· < ·) → (∀ x, x ∈ l1 ↔ x ∈ l2) → l1 = l2 := fun {l1 l2} h1 h2 h => by
  have n1 : l1.Nodup := h1.imp fun q => Nat.ne_of_lt q
  have n2 : l2.Nodup := h2.imp fun q => Nat.ne_of_lt q
  exact List.Perm.eq_of_pairwise (fun a b _ _ q1 q2 => absurd (Nat.lt_trans q1 q2) (Nat.lt_irrefl _)) h1 h2 ((List.perm_ext_iff_of_nodup n1 n2).mpr h)
theorem range_asc (n : Nat) : (List.range n).Pairwise (· < ·) := by
  exact List.pairwise_lt_range
theorem filter_asc {l : List Nat} (p : Nat → Bool) (h : l.Pairwise (· < ·)) : (l.filter p).Pairwise (· < ·) := h.sublist List.filter_sublist
/-- the long of the tie between two -/
def longOf (w : Web) (a b : Nat) : Option Nat := (w.ties.find? fun t => decide (t.1 = min a b ∧ t.2.1 = max a b)).map (·.2.2)
def nears (w : Web) (v p : Nat) : Bool := (longOf w v p).isSome
/-- the places beside one, rising -/
def besideL (w : Web) (v : Nat) : List Nat := (List.range w.n).filter (nears w v)
/-- .. as the program finds them -/
def besideF (w : Web) (v : Nat) : List Nat := ((w.ties.filter fun t => decide (t.1 = v)).map (·.2.1)) ++ ((w.ties.filter fun t => decide (t.2.1 = v)).map (·.1))
theorem tlt_irr {t : Tie} (h : tlt t t) : False := by
  unfold tlt at h
  omega
theorem ties_uniq {w : Web} (ok : WebOk w) {s t : Tie} (hs : s ∈ w.ties) (ht : t ∈ w.ties) (h1 : s.1 = t.1) (h2 : s.2.1 = t.2.1) : s = t := by
  have key : ∀ l : List Tie, l.Pairwise tlt → s ∈ l → t ∈ l → s = t := by
    intro l
    induction l with
    | nil => intro _ h _; simp at h
    | cons a l ih =>
      intro hp hs ht
      obtain ⟨p1, p2⟩ := List.pairwise_cons.mp hp
      rcases List.mem_cons.mp hs with e1 | hs
      · rcases List.mem_cons.mp ht with e2 | ht
        · rw [e1, e2]
        · have := p1 t ht
          rw [← e1] at this
          unfold tlt at this
          omega
      · rcases List.mem_cons.mp ht with e2 | ht
        · have := p1 s hs
          rw [← e2] at this
          unfold tlt at this
          omega
        · exact ih p2 hs ht
  exact key _ ok.ord hs ht
theorem longOf_some {w : Web} (ok : WebOk w) {a b l : Nat} : longOf w a b = some l ↔ adj w a b l := by
  unfold longOf
  constructor
  · intro h
    obtain ⟨t, e1, e2⟩ := Option.map_eq_some_iff.mp h
    have hm := List.mem_of_find?_eq_some e1
    have hp := List.find?_some e1
    simp only [decide_eq_true_eq] at hp
    obtain ⟨x, y, z⟩ := t
    dsimp only at hp e2
    subst e2
    have q := ok.tie _ hm
    dsimp only at q
    by_cases hab : a ≤ b
    · rw [Nat.min_eq_left hab, Nat.max_eq_right hab] at hp
      rw [hp.1, hp.2] at hm
      exact .inl hm
    · rw [Nat.min_eq_right (by omega), Nat.max_eq_left (by omega)] at hp
      rw [hp.1, hp.2] at hm
      exact .inr hm
  · intro h
    have key : ∀ {x y : Nat}, (x, y, l) ∈ w.ties → min a b = x → max a b = y → (w.ties.find? fun t => decide (t.1 = min a b ∧ t.2.1 = max a b)).map (·.2.2) = some l := by
      intro x y hm e1 e2
      cases e : w.ties.find? fun t => decide (t.1 = min a b ∧ t.2.1 = max a b) with
      | none =>
        have q := List.find?_eq_none.mp e (x, y, l) hm
        simp [e1, e2] at q
      | some t =>
        have hm2 := List.mem_of_find?_eq_some e
        have hp := List.find?_some e
        simp only [decide_eq_true_eq] at hp
        have q := ties_uniq ok hm2 hm (by rw [hp.1, e1]) (by rw [hp.2, e2])
        rw [q]
        rfl
    rcases h with h | h
    · have q := ok.tie _ h
      dsimp only at q
      exact key h (by omega) (by omega)
    · have q := ok.tie _ h
      dsimp only at q
      exact key h (by omega) (by omega)
theorem longOf_symm (w : Web) (a b : Nat) : longOf w a b = longOf w b a := by
  unfold longOf
  rw [Nat.min_comm, Nat.max_comm]
theorem mem_beside {w : Web} (ok : WebOk w) {v p : Nat} : p ∈ besideL w v ↔ ∃ l, adj w v p l := by
  unfold besideL nears
  rw [List.mem_filter, List.mem_range, Option.isSome_iff_exists]
  constructor
  · rintro ⟨_, l, h⟩
    exact ⟨l, (longOf_some ok).mp h⟩
  · rintro ⟨l, h⟩
    exact ⟨(h.lt ok).2.1, l, (longOf_some ok).mpr h⟩
theorem beside_asc (w : Web) (v : Nat) : (besideL w v).Pairwise (· < ·) := filter_asc _ (range_asc _)
theorem mem_besideF {w : Web} (ok : WebOk w) {v p : Nat} : p ∈ besideF w v ↔ ∃ l, adj w v p l := by
  unfold besideF
  rw [List.mem_append, List.mem_map, List.mem_map]
  constructor
  · rintro (⟨⟨x, y, z⟩, h, rfl⟩ | ⟨⟨x, y, z⟩, h, rfl⟩)
    · obtain ⟨h1, h2⟩ := List.mem_filter.mp h
      simp only [decide_eq_true_eq] at h2
      subst h2
      exact ⟨z, .inl h1⟩
    · obtain ⟨h1, h2⟩ := List.mem_filter.mp h
      simp only [decide_eq_true_eq] at h2
      subst h2
      exact ⟨z, .inr h1⟩
  · rintro ⟨l, h | h⟩
    · exact .inl ⟨_, List.mem_filter.mpr ⟨h, by simp⟩, rfl⟩
    · exact .inr ⟨_, List.mem_filter.mpr ⟨h, by simp⟩, rfl⟩
theorem besideF_nodup {w : Web} (ok : WebOk w) (v : Nat) : (besideF w v).Nodup := by
  unfold besideF
  refine List.nodup_append.mpr ⟨?_, ?_, ?_⟩
  · have h : ((w.ties.filter fun t => decide (t.1 = v)).map (·.2.1)).Pairwise (· < ·) := by
      rw [List.pairwise_map]
      refine (ok.ord.sublist (List.filter_sublist (p := fun t => decide (t.1 = v)))).imp_of_mem fun {a b} ha hb q => ?_
      have h1 := (List.mem_filter.mp ha).2
      have h2 := (List.mem_filter.mp hb).2
      simp only [decide_eq_true_eq] at h1 h2
      unfold tlt at q
      omega
    exact h.imp fun q => Nat.ne_of_lt q
  · have h : ((w.ties.filter fun t => decide (t.2.1 = v)).map (·.1)).Pairwise (· < ·) := by
      rw [List.pairwise_map]
      refine (ok.ord.sublist (List.filter_sublist (p := fun t => decide (t.2.1 = v)))).imp_of_mem fun {a b} ha hb q => ?_
      have h1 := (List.mem_filter.mp ha).2
      have h2 := (List.mem_filter.mp hb).2
      simp only [decide_eq_true_eq] at h1 h2
      unfold tlt at q
      omega
    exact h.imp fun q => Nat.ne_of_lt q
  · intro a ha b hb e
    subst e
    obtain ⟨t, ht, e1⟩ := List.mem_map.mp ha
    obtain ⟨s, hs, e2⟩ := List.mem_map.mp hb
    obtain ⟨t1, t2⟩ := List.mem_filter.mp ht
    obtain ⟨s1, s2⟩ := List.mem_filter.mp hs
    simp only [decide_eq_true_eq] at t2 s2
    have q1 := ok.tie _ t1
    have q2 := ok.tie _ s1
    omega
/-- whatever sorted list the program makes of them -/
theorem beside_sorted {w : Web} (ok : WebOk w) {v : Nat} {ys : List Int} (hp : ys.Perm ((besideF w v).map (fun (n : Nat) => (n : Int)))) (hs : ys.Pairwise (· ≤ ·)) : ys = (besideL w v).map (fun (n : Nat) => (n : Int)) := by
  have hp2 : (besideF w v).Perm (besideL w v) := (List.perm_ext_iff_of_nodup (besideF_nodup ok v) ((beside_asc w v).imp fun q => Nat.ne_of_lt q)).mpr fun p => by rw [mem_besideF ok, mem_beside ok]
  refine List.Perm.eq_of_pairwise (fun a b _ _ q1 q2 => Int.le_antisymm q1 q2) hs ?_ (hp.trans (hp2.map _))
  rw [List.pairwise_map]
  exact (beside_asc w v).imp fun q => by omega
theorem beside_lt {w : Web} {v p : Nat} (h : p ∈ besideL w v) : p < w.n := by
  unfold besideL at h
  exact List.mem_range.mp (List.mem_filter.mp h).1
theorem few_beside (w : Web) (v : Nat) : (besideL w v).length ≤ w.n := by
  unfold besideL
  exact Nat.le_trans (List.length_filter_le _ _) (by rw [List.length_range]; exact Nat.le_refl _)
end LwM
/-! Labels by an order (plain Lean). -/
namespace LwM
/-- m is on a shortest way from u to v -/
def bt (W : Web) (m u v : Nat) : Bool := match D W u m, D W m v with
  | some x, some y => decide (some (x + y) = D W u v)
  | _, _ => false
theorem bt_iff {W : Web} {m u v : Nat} : bt W m u v = true ↔ ∃ x y, D W u m = some x ∧ D W m v = some y ∧ D W u v = some (x + y) := by
  unfold bt
  cases h1 : D W u m with
  | none => simp
  | some x =>
    cases h2 : D W m v with
    | none => simp
    | some y =>
      simp only [decide_eq_true_eq]
      constructor
      · intro e
        exact ⟨x, y, rfl, rfl, e.symm⟩
      · rintro ⟨x', y', e1, e2, e3⟩
        obtain rfl := Option.some.inj e1
        obtain rfl := Option.some.inj e2
        exact e3.symm
def betweenL (W : Web) (u v : Nat) : List Nat := (List.range W.n).filter fun m => bt W m u v
def isHub (W : Web) (sooner : List Nat) (h v : Nat) : Bool := (D W h v).isSome && !(sooner.any fun m => bt W m h v)
def nextB (W : Web) (u v p : Nat) : Bool := match longOf W u p, D W p v with
  | some l, some y => decide (some (l + y) = D W u v)
  | _, _ => false
def firstPlace (W : Web) (u v : Nat) : Option Nat := if u = v then none else ((besideL W u).filter (nextB W u v)).head?
structure Ent where
  hub : Nat
  long : Nat
  up : Option Nat
  down : Option Nat
  deriving DecidableEq
abbrev Lab := List Ent
def entryBy (W : Web) (v h : Nat) : Ent := ⟨h, (D W v h).getD 0, firstPlace W v h, firstPlace W h v⟩
/-- those ahead of h in an order -/
def ahead (ord : List Nat) (h : Nat) : List Nat := ord.takeWhile fun m => decide (m ≠ h)
def isHubO (W : Web) (ord : List Nat) (v h : Nat) : Bool := isHub W (ahead ord h) h v
def labelBy (W : Web) (ord : List Nat) (v : Nat) : Lab := ((List.range W.n).filter (isHubO W ord v)).map (entryBy W v)
def labelsBy (W : Web) (ord : List Nat) : List Lab := (List.range W.n).map (labelBy W ord)
/-- an order: each place once -/
structure OrdOk (W : Web) (ord : List Nat) : Prop where
  nd : ord.Nodup
  mem : ∀ p, p ∈ ord ↔ p < W.n
/-! ### what two labels tell -/
def longIn (L : Lab) (h : Nat) : Option Nat := (L.find? fun e => decide (e.hub = h)).map (·.long)
def sumsL (A B : Lab) : List (Nat × Nat) := A.filterMap fun e => (longIn B e.hub).map fun y => (e.long + y, e.hub)
def toldL (A B : Lab) : Option Nat := ((sumsL A B).map (·.1)).min?
/-! ### shortest ways, once more -/
section
variable {W : Web} (ok : WebOk W)
include ok
theorem bt_symm {m u v : Nat} (hm : m < W.n) (hu : u < W.n) (hv : v < W.n) : bt W m u v = bt W m v u := by
  rw [Bool.eq_iff_iff, bt_iff, bt_iff]
  constructor
  · rintro ⟨x, y, h1, h2, h3⟩
    exact ⟨y, x, by rw [D_symm ok hv hm]; exact h2, by rw [D_symm ok hm hu]; exact h1, by rw [D_symm ok hv hu, Nat.add_comm]; exact h3⟩
  · rintro ⟨x, y, h1, h2, h3⟩
    exact ⟨y, x, by rw [D_symm ok hu hm]; exact h2, by rw [D_symm ok hm hv]; exact h1, by rw [D_symm ok hu hv, Nat.add_comm]; exact h3⟩
theorem bt_left {u v x : Nat} (hu : u < W.n) (h : D W u v = some x) : bt W u u v = true := bt_iff.mpr ⟨0, x, D_self ok hu, h, by rw [h, Nat.zero_add]⟩
theorem bt_right {u v x : Nat} (hu : u < W.n) (hv : v < W.n) (h : D W u v = some x) : bt W v u v = true := bt_iff.mpr ⟨x, 0, h, D_self ok hv, by rw [h, Nat.add_zero]⟩
/-- what is between u and one between u and v is between u and v -/
theorem bt_trans {m h u v : Nat} (hu : u < W.n) (hh : h < W.n) (hm : m < W.n) (hv : v < W.n) (h1 : bt W h u v = true) (h2 : bt W m u h = true) : bt W m u v = true ∧ bt W h m v = true := by
  obtain ⟨x, y, a1, a2, a3⟩ := bt_iff.mp h1
  obtain ⟨z, t, b1, b2, b3⟩ := bt_iff.mp h2
  rw [a1] at b3
  have e := Option.some.inj b3
  obtain ⟨s, c1, c2⟩ := D_tri ok hm hh b2 a2
  obtain ⟨r, d1, d2⟩ := D_tri ok hu hm b1 c1
  rw [a3] at d1
  have e2 := Option.some.inj d1
  have es : s = t + y := by omega
  refine ⟨bt_iff.mpr ⟨z, s, b1, c1, ?_⟩, bt_iff.mpr ⟨t, y, b2, a2, ?_⟩⟩
  · rw [a3]
    congr 1
    omega
  · rw [c1, es]
theorem D_isSome_of_bt {m u v : Nat} (h : bt W m u v = true) : (D W u m).isSome ∧ (D W m v).isSome ∧ (D W u v).isSome := by
  obtain ⟨x, y, h1, h2, h3⟩ := bt_iff.mp h
  rw [h1, h2, h3]
  exact ⟨rfl, rfl, rfl⟩
/-- a place beside u is next on a way to v -/
theorem nextB_iff {u v p : Nat} : nextB W u v p = true ↔ ∃ l y, adj W u p l ∧ D W p v = some y ∧ D W u v = some (l + y) := by
  unfold nextB
  constructor
  · intro h
    cases h1 : longOf W u p with
    | none => rw [h1] at h; simp at h
    | some l =>
      cases h2 : D W p v with
      | none => rw [h1, h2] at h; simp at h
      | some y =>
        rw [h1, h2] at h
        simp only [decide_eq_true_eq] at h
        exact ⟨l, y, (longOf_some ok).mp h1, rfl, h.symm⟩
  · rintro ⟨l, y, h1, h2, h3⟩
    rw [(longOf_some ok).mpr h1, h2]
    simp [h3]
theorem firstPlace_some {u v x : Nat} (hu : u < W.n) (hv : v < W.n) (hne : u ≠ v) (h : D W u v = some x) : ∃ p, firstPlace W u v = some p ∧ nextB W u v p = true ∧ p ∈ besideL W u ∧ ∀ q ∈ besideL W u, nextB W u v q = true → p ≤ q := by
  obtain ⟨p, l, y, h1, h2, h3⟩ := D_next ok hv hu hne h
  have hp : p ∈ (besideL W u).filter (nextB W u v) := List.mem_filter.mpr ⟨(mem_beside ok).mpr ⟨l, h1⟩, (nextB_iff ok).mpr ⟨l, y, h1, h2, by rw [h, h3]⟩⟩
  unfold firstPlace
  rw [if_neg hne]
  have asc : ((besideL W u).filter (nextB W u v)).Pairwise (· < ·) := filter_asc _ (beside_asc W u)
  cases e : (besideL W u).filter (nextB W u v) with
  | nil => rw [e] at hp; simp at hp
  | cons a l =>
    rw [e] at asc
    have ha : a ∈ (besideL W u).filter (nextB W u v) := by rw [e]; simp
    obtain ⟨m1, m2⟩ := List.mem_filter.mp ha
    refine ⟨a, rfl, m2, m1, fun q q1 q2 => ?_⟩
    have hq : q ∈ (besideL W u).filter (nextB W u v) := List.mem_filter.mpr ⟨q1, q2⟩
    rw [e] at hq
    rcases List.mem_cons.mp hq with rfl | hq
    · exact Nat.le_refl _
    · exact Nat.le_of_lt ((List.pairwise_cons.mp asc).1 q hq)
end
/-! ### hubs -/
theorem ahead_sub {ord : List Nat} {h m : Nat} (hm : m ∈ ahead ord h) : m ∈ ord := (List.takeWhile_sublist _).subset hm
theorem ahead_ne : ∀ {ord : List Nat} {h m : Nat}, m ∈ ahead ord h → m ≠ h
  | [], _, _, hm => by simp [ahead] at hm
  | a :: l, h, m, hm => by
    unfold ahead at hm
    rw [List.takeWhile_cons] at hm
    by_cases e : a = h
    · rw [decide_eq_false (by simpa using e)] at hm
      simp at hm
    · rw [decide_eq_true e] at hm
      rcases List.mem_cons.mp hm with rfl | hm
      · exact e
      · exact ahead_ne (ord := l) hm
theorem mem_label {W : Web} {ord : List Nat} {v : Nat} {e : Ent} : e ∈ labelBy W ord v ↔ e.hub < W.n ∧ isHubO W ord v e.hub = true ∧ e = entryBy W v e.hub := by
  unfold labelBy
  rw [List.mem_map]
  constructor
  · rintro ⟨h, h1, rfl⟩
    obtain ⟨h2, h3⟩ := List.mem_filter.mp h1
    exact ⟨List.mem_range.mp h2, h3, rfl⟩
  · rintro ⟨h1, h2, h3⟩
    exact ⟨e.hub, List.mem_filter.mpr ⟨List.mem_range.mpr h1, h2⟩, h3.symm⟩
theorem label_asc (W : Web) (ord : List Nat) (v : Nat) : (labelBy W ord v).Pairwise fun a b => a.hub < b.hub := by
  unfold labelBy
  rw [List.pairwise_map]
  exact filter_asc _ (range_asc _)
theorem find_hub {L : Lab} (hp : L.Pairwise fun a b => a.hub < b.hub) {e : Ent} (he : e ∈ L) : L.find? (fun x => decide (x.hub = e.hub)) = some e := by
  induction L with
  | nil => simp at he
  | cons a L ih =>
    obtain ⟨p1, p2⟩ := List.pairwise_cons.mp hp
    rcases List.mem_cons.mp he with rfl | he
    · simp
    · have := p1 e he
      rw [List.find?_cons, decide_eq_false (by omega)]
      exact ih p2 he
theorem longIn_some {L : Lab} (hp : L.Pairwise fun a b => a.hub < b.hub) {h x : Nat} : longIn L h = some x ↔ ∃ e ∈ L, e.hub = h ∧ e.long = x := by
  unfold longIn
  constructor
  · intro q
    obtain ⟨e, e1, e2⟩ := Option.map_eq_some_iff.mp q
    have h1 := List.find?_some e1
    simp only [decide_eq_true_eq] at h1
    exact ⟨e, List.mem_of_find?_eq_some e1, h1, e2⟩
  · rintro ⟨e, he, rfl, rfl⟩
    rw [find_hub hp he]
    rfl
theorem mem_sums {A B : Lab} (hB : B.Pairwise fun a b => a.hub < b.hub) {s h : Nat} : (s, h) ∈ sumsL A B ↔ ∃ a ∈ A, ∃ b ∈ B, a.hub = h ∧ b.hub = h ∧ s = a.long + b.long := by
  unfold sumsL
  rw [List.mem_filterMap]
  constructor
  · rintro ⟨a, ha, q⟩
    obtain ⟨y, e1, e2⟩ := Option.map_eq_some_iff.mp q
    obtain ⟨b, hb, e3, e4⟩ := (longIn_some hB).mp e1
    injection e2 with e5 e6
    exact ⟨a, ha, b, hb, e6, by rw [e3, e6], by rw [← e5, e4]⟩
  · rintro ⟨a, ha, b, hb, rfl, e2, rfl⟩
    refine ⟨a, ha, ?_⟩
    rw [(longIn_some hB).mpr ⟨b, hb, e2, rfl⟩]
    rfl
theorem told_iff {A B : Lab} (hB : B.Pairwise fun a b => a.hub < b.hub) {s : Nat} : toldL A B = some s ↔ (∃ a ∈ A, ∃ b ∈ B, a.hub = b.hub ∧ s = a.long + b.long) ∧ ∀ a ∈ A, ∀ b ∈ B, a.hub = b.hub → s ≤ a.long + b.long := by
  unfold toldL
  rw [List.min?_eq_some_iff]
  constructor
  · rintro ⟨h1, h2⟩
    obtain ⟨⟨s', h⟩, hm, rfl⟩ := List.mem_map.mp h1
    obtain ⟨a, ha, b, hb, e1, e2, e3⟩ := (mem_sums hB).mp hm
    refine ⟨⟨a, ha, b, hb, by rw [e1, e2], e3⟩, fun a ha b hb e => h2 _ (List.mem_map.mpr ⟨(a.long + b.long, a.hub), (mem_sums hB).mpr ⟨a, ha, b, hb, rfl, e.symm, rfl⟩, rfl⟩)⟩
  · rintro ⟨⟨a, ha, b, hb, e1, e2⟩, h2⟩
    refine ⟨List.mem_map.mpr ⟨(s, a.hub), (mem_sums hB).mpr ⟨a, ha, b, hb, rfl, e1.symm, e2⟩, rfl⟩, fun t ht => ?_⟩
    obtain ⟨⟨s', h⟩, hm, rfl⟩ := List.mem_map.mp ht
    obtain ⟨a', ha', b', hb', e1', e2', e3'⟩ := (mem_sums hB).mp hm
    have := h2 a' ha' b' hb' (by rw [e1', e2'])
    dsimp only
    omega
theorem told_none {A B : Lab} (hB : B.Pairwise fun a b => a.hub < b.hub) : toldL A B = none ↔ ∀ a ∈ A, ∀ b ∈ B, a.hub ≠ b.hub := by
  unfold toldL
  rw [List.min?_eq_none_iff, List.map_eq_nil_iff]
  constructor
  · intro h a ha b hb e
    have : (a.long + b.long, a.hub) ∈ sumsL A B := (mem_sums hB).mpr ⟨a, ha, b, hb, rfl, e.symm, rfl⟩
    rw [h] at this
    simp at this
  · intro h
    cases e : sumsL A B with
    | nil => rfl
    | cons p l =>
      have : (p.1, p.2) ∈ sumsL A B := by rw [e]; simp
      obtain ⟨a, ha, b, hb, e1, e2, _⟩ := (mem_sums hB).mp this
      exact absurd (e1.trans e2.symm) (h a ha b hb)
/-- the first in a list that fits -/
theorem first_ahead {ord : List Nat} {p : Nat → Bool} {m : Nat} (hm : m ∈ ord) (hp : p m = true) : ∃ h ∈ ord, p h = true ∧ ∀ k ∈ ahead ord h, p k = false := by
  induction ord with
  | nil => simp at hm
  | cons a l ih =>
    by_cases ha : p a = true
    · refine ⟨a, by simp, ha, fun k hk => ?_⟩
      unfold ahead at hk
      rw [List.takeWhile_cons] at hk
      simp at hk
    · rcases List.mem_cons.mp hm with rfl | hm
      · exact absurd hp ha
      · obtain ⟨h, h1, h2, h3⟩ := ih hm
        refine ⟨h, by simp [h1], h2, fun k hk => ?_⟩
        unfold ahead at hk
        rw [List.takeWhile_cons] at hk
        have hne : a ≠ h := fun e => ha (e ▸ h2)
        rw [decide_eq_true hne] at hk
        rcases List.mem_cons.mp hk with rfl | hk
        · simpa using ha
        · exact h3 k hk
section
variable {W : Web} {ord : List Nat} (ok : WebOk W) (oo : OrdOk W ord)
include ok oo
theorem own_hub {v : Nat} (hv : v < W.n) : isHubO W ord v v = true := by
  unfold isHubO isHub
  rw [D_self ok hv]
  show (true && _) = true
  rw [Bool.true_and, Bool.not_eq_true', List.any_eq_false]
  intro m hm hb
  have hlt := (oo.mem m).mp (ahead_sub hm)
  obtain ⟨x, y, h1, h2, h3⟩ := bt_iff.mp hb
  rw [D_self ok hv] at h3
  have e := Option.some.inj h3
  have hx : x = 0 := by omega
  rw [hx] at h1
  have e2 := D_zero ok hv h1
  exact ahead_ne hm e2
/-- the told length is the length -/
theorem told_by {u v : Nat} (hu : u < W.n) (hv : v < W.n) : toldL (labelBy W ord u) (labelBy W ord v) = D W u v := by
  cases hd : D W u v with
  | none =>
    rw [told_none (label_asc _ _ _)]
    intro a ha b hb e
    obtain ⟨a1, a2, a3⟩ := mem_label.mp ha
    obtain ⟨b1, b2, b3⟩ := mem_label.mp hb
    unfold isHubO isHub at a2 b2
    obtain ⟨a4, _⟩ := Bool.and_eq_true_iff.mp a2
    obtain ⟨b4, _⟩ := Bool.and_eq_true_iff.mp b2
    rw [← e] at b4
    obtain ⟨x, hx⟩ := Option.isSome_iff_exists.mp a4
    obtain ⟨y, hy⟩ := Option.isSome_iff_exists.mp b4
    rw [D_symm ok a1 hu] at hx
    obtain ⟨z, hz, _⟩ := D_tri ok hu a1 hx hy
    rw [hd] at hz
    cases hz
  | some s =>
    rw [told_iff (label_asc _ _ _)]
    constructor
    · obtain ⟨h, h1, h2, h3⟩ := first_ahead (p := fun m => bt W m u v) ((oo.mem u).mpr hu) (bt_left ok hu hd)
      have hh := (oo.mem h).mp h1
      obtain ⟨x, y, d1, d2, d3⟩ := bt_iff.mp h2
      rw [hd] at d3
      have hubU : isHubO W ord u h = true := by
        unfold isHubO isHub
        rw [D_symm ok hh hu, d1]
        show (true && _) = true
        rw [Bool.true_and, Bool.not_eq_true', List.any_eq_false]
        intro m hm hb
        have hml := (oo.mem m).mp (ahead_sub hm)
        rw [bt_symm ok hml hh hu] at hb
        have := (bt_trans ok hu hh hml hv h2 hb).1
        rw [h3 m hm] at this
        cases this
      have hubV : isHubO W ord v h = true := by
        unfold isHubO isHub
        rw [d2]
        show (true && _) = true
        rw [Bool.true_and, Bool.not_eq_true', List.any_eq_false]
        intro m hm hb
        have hml := (oo.mem m).mp (ahead_sub hm)
        rw [bt_symm ok hml hh hv] at hb
        have h2' : bt W h v u = true := by rw [bt_symm ok hh hv hu]; exact h2
        have := (bt_trans ok hv hh hml hu h2' hb).1
        rw [bt_symm ok hml hv hu, h3 m hm] at this
        cases this
      refine ⟨entryBy W u h, mem_label.mpr ⟨hh, hubU, rfl⟩, entryBy W v h, mem_label.mpr ⟨hh, hubV, rfl⟩, rfl, ?_⟩
      show s = (D W u h).getD 0 + (D W v h).getD 0
      rw [d1, D_symm ok hv hh, d2]
      exact Option.some.inj d3
    · intro a ha b hb e
      obtain ⟨a1, a2, a3⟩ := mem_label.mp ha
      obtain ⟨b1, b2, b3⟩ := mem_label.mp hb
      unfold isHubO isHub at a2 b2
      obtain ⟨a4, _⟩ := Bool.and_eq_true_iff.mp a2
      obtain ⟨b4, _⟩ := Bool.and_eq_true_iff.mp b2
      obtain ⟨x, hx⟩ := Option.isSome_iff_exists.mp a4
      obtain ⟨y, hy⟩ := Option.isSome_iff_exists.mp b4
      rw [← e] at hy
      rw [D_symm ok a1 hu] at hx
      obtain ⟨z, hz, q⟩ := D_tri ok hu a1 hx hy
      rw [hd] at hz
      have ez := Option.some.inj hz
      rw [a3, b3]
      show s ≤ (D W u a.hub).getD 0 + (D W v b.hub).getD 0
      rw [hx, ← e, D_symm ok hv a1, hy]
      show s ≤ x + y
      omega
end
end LwM
/-! The checker of labels, and labels by an order before it (plain Lean). -/
namespace LwM
structure LabelsOk (n : Nat) (L : List Lab) : Prop where
  len : L.length = n
  asc : ∀ l ∈ L, l.Pairwise fun a b => a.hub < b.hub
  hub : ∀ l ∈ L, ∀ e ∈ l, e.hub < n
  own : ∀ (v : Nat) (l : Lab), L[v]? = some l → (∃ e ∈ l, e.hub = v ∧ e.long = 0) ∧ ∀ e ∈ l, e.long = 0 → e.hub = v
  zero : ∀ l ∈ L, ∀ e ∈ l, e.long = 0 → e.up = none ∧ e.down = none
  ups : ∀ l ∈ L, ∀ e ∈ l, e.long ≠ 0 → ∃ a b, e.up = some a ∧ e.down = some b ∧ a < n ∧ b < n
  small : ∀ l ∈ L, ∀ e ∈ l, e.long ≤ 2376
inductive Wd where
  | up | tie | down
def labAt (L : List Lab) (v : Nat) : Lab := L.getD v []
def hangsL (W : Web) (L : List Lab) (v : Nat) (e : Ent) : Bool := match e.up with
  | none => false
  | some p => match longOf W v p, longIn (labAt L p) e.hub with
    | some l, some x => decide (x + l = e.long)
    | _, _ => false
def upBad (W : Web) (L : List Lab) (v : Nat) : Bool := (labAt L v).any fun e => decide (e.long ≠ 0) && !hangsL W L v e
def isMoreL (found : Option Nat) (most : Nat) : Bool := match found with
  | none => true
  | some f => decide (most < f)
def tieBad (W : Web) (L : List Lab) (u v : Nat) : Bool := match toldL (labAt L u) (labAt L v) with
  | none => false
  | some here => (besideL W v).any fun w => isMoreL (toldL (labAt L u) (labAt L w)) (here + (longOf W v w).getD 0)
def leadsL (W : Web) (L : List Lab) (v : Nat) (e : Ent) : Bool := match e.down with
  | none => false
  | some q => match longOf W e.hub q, toldL (labAt L q) (labAt L v) with
    | some l, some x => decide (x + l = e.long)
    | _, _ => false
def downBad (W : Web) (L : List Lab) (v : Nat) : Bool := (labAt L v).any fun e => decide (e.long ≠ 0) && !leadsL W L v e
def anyUp (W : Web) (L : List Lab) : Bool := (List.range W.n).any (upBad W L)
def anyTie (W : Web) (L : List Lab) : Bool := (List.range W.n).any fun u => (List.range W.n).any (tieBad W L u)
def anyDown (W : Web) (L : List Lab) : Bool := (List.range W.n).any (downBad W L)
def wordL (W : Web) (L : List Lab) : Option Wd := if anyUp W L then some .up else if anyTie W L then some .tie else if anyDown W L then some .down else none
/-! ### labels by an order -/
theorem labAt_by {W : Web} {ord : List Nat} {v : Nat} (hv : v < W.n) : labAt (labelsBy W ord) v = labelBy W ord v := by
  unfold labAt labelsBy
  rw [List.getD_eq_getElem?_getD, List.getElem?_map, List.getElem?_range hv]
  rfl
theorem Way.short {W : Web} (ok : WebOk W) : ∀ {a c x : Nat} {vs : List Nat}, Way W a c x vs → x + 99 ≤ 99 * vs.length := by
  intro a c x vs h
  induction h with
  | one a h => simp
  | step h h2 ih =>
    have := (h.lt ok).2.2.2.2
    rw [List.length_cons]
    omega
theorem D_small {W : Web} (ok : WebOk W) {u v x : Nat} (hu : u < W.n) (h : D W u v = some x) : x ≤ 2376 := by
  obtain ⟨vs, k⟩ := D_way hu h
  obtain ⟨y, us, q1, q2, q3⟩ := k.simple
  have hn := nodup_le W.n us q2 (q1.lts ok).1
  obtain ⟨z, e, q4⟩ := D_least ok q1
  rw [h] at e
  have e1 := Option.some.inj e
  have := q1.short ok
  have := ok.most
  have e2 : 99 * us.length ≤ 99 * 24 := Nat.mul_le_mul_left _ (by omega)
  omega
section
variable {W : Web} {ord : List Nat} (ok : WebOk W) (oo : OrdOk W ord)
theorem hub_D {v h : Nat} (hh : isHubO W ord v h = true) : ∃ x, D W h v = some x := by
  unfold isHubO isHub at hh
  exact Option.isSome_iff_exists.mp (Bool.and_eq_true_iff.mp hh).1
theorem hub_no {v h m : Nat} (hh : isHubO W ord v h = true) (hm : m ∈ ahead ord h) : bt W m h v = false := by
  unfold isHubO isHub at hh
  have q := (Bool.and_eq_true_iff.mp hh).2
  rw [Bool.not_eq_true', List.any_eq_false] at q
  simpa using q m hm
theorem hub_mk {v h x : Nat} (hd : D W h v = some x) (hn : ∀ m ∈ ahead ord h, bt W m h v = false) : isHubO W ord v h = true := by
  unfold isHubO isHub
  rw [hd]
  show (true && _) = true
  rw [Bool.true_and, Bool.not_eq_true', List.any_eq_false]
  intro m hm
  rw [hn m hm]
  exact Bool.false_ne_true
include ok
theorem ent_zero {v h : Nat} (hv : v < W.n) (hh : h < W.n) (hub : isHubO W ord v h = true) : (entryBy W v h).long = 0 ↔ h = v := by
  obtain ⟨x, hx⟩ := hub_D hub
  rw [D_symm ok hh hv] at hx
  show (D W v h).getD 0 = 0 ↔ _
  rw [hx]
  show x = 0 ↔ _
  constructor
  · rintro rfl
    exact D_zero ok hv hx
  · rintro rfl
    rw [D_self ok hv] at hx
    exact (Option.some.inj hx).symm
include oo
theorem labels_ok : LabelsOk W.n (labelsBy W ord) := by
  have get : ∀ {l}, l ∈ labelsBy W ord → ∃ v, v < W.n ∧ l = labelBy W ord v := by
    intro l hl
    unfold labelsBy at hl
    obtain ⟨v, hv, rfl⟩ := List.mem_map.mp hl
    exact ⟨v, List.mem_range.mp hv, rfl⟩
  refine ⟨by unfold labelsBy; simp, ?_, ?_, ?_, ?_, ?_, ?_⟩
  · intro l hl
    obtain ⟨v, hv, rfl⟩ := get hl
    exact label_asc W ord v
  · intro l hl e he
    obtain ⟨v, hv, rfl⟩ := get hl
    exact (mem_label.mp he).1
  · intro v l hl
    have hv : v < W.n := by
      have := (List.getElem?_eq_some_iff.mp hl).1
      unfold labelsBy at this
      simpa using this
    have e : l = labelBy W ord v := by
      unfold labelsBy at hl
      rw [List.getElem?_map, List.getElem?_range hv] at hl
      exact (Option.some.inj hl).symm
    subst e
    refine ⟨⟨entryBy W v v, mem_label.mpr ⟨hv, own_hub ok oo hv, rfl⟩, rfl, (ent_zero ok hv hv (own_hub ok oo hv)).mpr rfl⟩, fun e he hz => ?_⟩
    obtain ⟨h1, h2, h3⟩ := mem_label.mp he
    rw [h3] at hz
    exact (ent_zero ok hv h1 h2).mp hz
  · intro l hl e he hz
    obtain ⟨v, hv, rfl⟩ := get hl
    obtain ⟨h1, h2, h3⟩ := mem_label.mp he
    rw [h3] at hz
    have e1 := (ent_zero ok hv h1 h2).mp hz
    rw [h3, e1]
    refine ⟨?_, ?_⟩
    · show firstPlace W v v = none
      unfold firstPlace
      rw [if_pos rfl]
    · show firstPlace W v v = none
      unfold firstPlace
      rw [if_pos rfl]
  · intro l hl e he hz
    obtain ⟨v, hv, rfl⟩ := get hl
    obtain ⟨h1, h2, h3⟩ := mem_label.mp he
    rw [h3] at hz
    have ne : e.hub ≠ v := fun q => hz ((ent_zero ok hv h1 h2).mpr q)
    obtain ⟨x, hx⟩ := hub_D h2
    have hx' := hx
    rw [D_symm ok h1 hv] at hx'
    obtain ⟨p, p1, p2, p3, _⟩ := firstPlace_some ok hv h1 (Ne.symm ne) hx'
    obtain ⟨q, q1, q2, q3, _⟩ := firstPlace_some ok h1 hv ne hx
    refine ⟨p, q, ?_, ?_, beside_lt p3, beside_lt q3⟩
    · rw [h3]; exact p1
    · rw [h3]; exact q1
  · intro l hl e he
    obtain ⟨v, hv, rfl⟩ := get hl
    obtain ⟨h1, h2, h3⟩ := mem_label.mp he
    obtain ⟨x, hx⟩ := hub_D h2
    rw [D_symm ok h1 hv] at hx
    rw [h3]
    show (D W v e.hub).getD 0 ≤ _
    rw [hx]
    exact D_small ok hv hx
theorem up_good {v : Nat} (hv : v < W.n) : upBad W (labelsBy W ord) v = false := by
  unfold upBad
  rw [labAt_by hv, List.any_eq_false]
  intro e he
  obtain ⟨h1, h2, h3⟩ := mem_label.mp he
  obtain ⟨x, hx⟩ := hub_D h2
  have hx' := hx
  rw [D_symm ok h1 hv] at hx'
  by_cases ne : e.hub = v
  · have : e.long = 0 := by rw [h3]; exact (ent_zero ok hv h1 h2).mpr ne
    simp [this]
  · obtain ⟨p, p1, p2, p3, _⟩ := firstPlace_some ok hv h1 (Ne.symm ne) hx'
    obtain ⟨l, y, a1, a2, a3⟩ := (nextB_iff ok).mp p2
    have hp := beside_lt p3
    have eu : e.up = some p := by rw [h3]; exact p1
    have el : e.long = l + y := by
      rw [h3]
      show (D W v e.hub).getD 0 = _
      rw [a3]
      rfl
    have hubp : isHubO W ord p e.hub = true := by
      refine hub_mk (x := y) (by rw [D_symm ok h1 hp]; exact a2) fun m hm => ?_
      have hml := (oo.mem m).mp (ahead_sub hm)
      cases q : bt W m e.hub p with
      | false => rfl
      | true =>
        have b1 : bt W p v e.hub = true := by
          obtain ⟨z, e1, e2⟩ := D_adj ok a1
          obtain ⟨t, e3, e4⟩ := D_tri ok hv hp e1 a2
          rw [a3] at e3
          have := Option.some.inj e3
          have ez : z = l := by omega
          rw [ez] at e1
          exact bt_iff.mpr ⟨l, y, e1, a2, a3⟩
        rw [bt_symm ok hp hv h1] at b1
        have := (bt_trans ok h1 hp hml hv b1 q).1
        rw [hub_no h2 hm] at this
        cases this
    have li : longIn (labAt (labelsBy W ord) p) e.hub = some y := by
      rw [labAt_by hp]
      refine (longIn_some (label_asc W ord p)).mpr ⟨entryBy W p e.hub, mem_label.mpr ⟨h1, hubp, rfl⟩, rfl, ?_⟩
      show (D W p e.hub).getD 0 = y
      rw [a2]
      rfl
    have good : hangsL W (labelsBy W ord) v e = true := by
      unfold hangsL
      rw [eu]
      dsimp only
      rw [(longOf_some ok).mpr a1, li]
      simp only [decide_eq_true_eq]
      omega
    rw [good]
    simp
theorem tie_good {u v : Nat} (hu : u < W.n) (hv : v < W.n) : tieBad W (labelsBy W ord) u v = false := by
  unfold tieBad
  rw [labAt_by hu, labAt_by hv, told_by ok oo hu hv]
  cases h : D W u v with
  | none => rfl
  | some here =>
    dsimp only
    rw [List.any_eq_false]
    intro w hw
    have hwl := beside_lt hw
    obtain ⟨l, hl⟩ := (mem_beside ok).mp hw
    rw [labAt_by hwl, told_by ok oo hu hwl, (longOf_some ok).mpr hl]
    obtain ⟨z, e, q⟩ := D_tie ok hu hl h
    rw [e]
    show ¬ decide (here + l < z) = true
    rw [decide_eq_true_eq]
    omega
theorem down_good {v : Nat} (hv : v < W.n) : downBad W (labelsBy W ord) v = false := by
  unfold downBad
  rw [labAt_by hv, List.any_eq_false]
  intro e he
  obtain ⟨h1, h2, h3⟩ := mem_label.mp he
  obtain ⟨x, hx⟩ := hub_D h2
  have hx' := hx
  rw [D_symm ok h1 hv] at hx'
  by_cases ne : e.hub = v
  · have : e.long = 0 := by rw [h3]; exact (ent_zero ok hv h1 h2).mpr ne
    simp [this]
  · obtain ⟨q, p1, p2, p3, _⟩ := firstPlace_some ok h1 hv ne hx
    obtain ⟨l, y, a1, a2, a3⟩ := (nextB_iff ok).mp p2
    have hq := beside_lt p3
    have ed : e.down = some q := by rw [h3]; exact p1
    have el : e.long = l + y := by
      rw [h3]
      show (D W v e.hub).getD 0 = _
      rw [D_symm ok hv h1, a3]
      rfl
    have good : leadsL W (labelsBy W ord) v e = true := by
      unfold leadsL
      rw [ed]
      dsimp only
      rw [(longOf_some ok).mpr a1, labAt_by hq, labAt_by hv, told_by ok oo hq hv, a2]
      simp only [decide_eq_true_eq]
      omega
    rw [good]
    simp
theorem word_good : wordL W (labelsBy W ord) = none := by
  have h1 : anyUp W (labelsBy W ord) = false := List.any_eq_false.mpr fun v hv => by rw [up_good ok oo (List.mem_range.mp hv)]; exact Bool.false_ne_true
  have h2 : anyTie W (labelsBy W ord) = false := List.any_eq_false.mpr fun u hu => by
    rw [List.any_eq_false.mpr fun v hv => by rw [tie_good ok oo (List.mem_range.mp hu) (List.mem_range.mp hv)]; exact Bool.false_ne_true]
    exact Bool.false_ne_true
  have h3 : anyDown W (labelsBy W ord) = false := List.any_eq_false.mpr fun v hv => by rw [down_good ok oo (List.mem_range.mp hv)]; exact Bool.false_ne_true
  unfold wordL
  rw [h1, h2, h3]
  rfl
end
end LwM
/-! Parts (plain Lean). -/
namespace LwM
structure PartOk (W : Web) (ps : List Nat) : Prop where
  ne : ps ≠ []
  asc : ps.Pairwise (· < ·)
  lt : ∀ p ∈ ps, p < W.n
  conv : ∀ u ∈ ps, ∀ v ∈ ps, ∀ m, m < W.n → bt W m u v = true → m ∈ ps
def ixOf (ps : List Nat) (p : Nat) : Nat := ps.idxOf p
def inB (ps : List Nat) (p : Nat) : Bool := decide (p ∈ ps)
def partTies (W : Web) (ps : List Nat) : List Tie := W.ties.filter fun t => inB ps t.1 && inB ps t.2.1
def partWeb (W : Web) (ps : List Nat) : Web := ⟨ps.length, (partTies W ps).map fun t => (ixOf ps t.1, ixOf ps t.2.1, t.2.2)⟩
def partOrd (ord ps : List Nat) : List Nat := (ord.filter (inB ps)).map (ixOf ps)
def cutEnt (ps : List Nat) (e : Ent) : Ent := if e.long = 0 then ⟨ixOf ps e.hub, 0, none, none⟩ else ⟨ixOf ps e.hub, e.long, e.up.map (ixOf ps), e.down.map (ixOf ps)⟩
def cutLab (ps : List Nat) (l : Lab) : Lab := (l.filter fun e => inB ps e.hub).map (cutEnt ps)
def cutDown (L : List Lab) (ps : List Nat) : List Lab := ps.map fun p => cutLab ps (labAt L p)
section
variable {ps : List Nat} (asc : ps.Pairwise (· < ·))
theorem ix_get {p : Nat} (h : p ∈ ps) : ps[ixOf ps p]? = some p := by
  unfold ixOf
  have hl := List.idxOf_lt_length_of_mem h
  rw [List.getElem?_eq_getElem hl, List.getElem_idxOf hl]
theorem ix_lt {p : Nat} (h : p ∈ ps) : ixOf ps p < ps.length := List.idxOf_lt_length_of_mem h
include asc
theorem asc_get {i j p q : Nat} (hi : ps[i]? = some p) (hj : ps[j]? = some q) : p < q ↔ i < j := by
  have key : ∀ {i j p q : Nat}, ps[i]? = some p → ps[j]? = some q → i < j → p < q := by
    intro i j p q hi hj h
    obtain ⟨h1, e1⟩ := List.getElem?_eq_some_iff.mp hi
    obtain ⟨h2, e2⟩ := List.getElem?_eq_some_iff.mp hj
    rw [← e1, ← e2]
    exact List.pairwise_iff_getElem.mp asc i j h1 h2 h
  constructor
  · intro h
    by_cases hlt : i < j
    · exact hlt
    · by_cases e : i = j
      · subst e
        rw [hi] at hj
        have := Option.some.inj hj
        omega
      · have := key hj hi (by omega)
        omega
  · exact key hi hj
theorem ix_at {i p : Nat} (h : ps[i]? = some p) : ixOf ps p = i := by
  have hm := List.mem_of_getElem? h
  have h2 := ix_get hm
  have a := (asc_get asc h h2)
  have b := (asc_get asc h2 h)
  omega
theorem ix_mono {p q : Nat} (hp : p ∈ ps) (hq : q ∈ ps) : ixOf ps p < ixOf ps q ↔ p < q := (asc_get asc (ix_get hp) (ix_get hq)).symm
theorem ix_inj {p q : Nat} (hp : p ∈ ps) (hq : q ∈ ps) : ixOf ps p = ixOf ps q ↔ p = q := by
  constructor
  · intro e
    have h := ix_get hp
    rw [e, ix_get hq] at h
    exact (Option.some.inj h).symm
  · rintro rfl
    rfl
end
section
variable {W : Web} {ps : List Nat} (ok : WebOk W) (pk : PartOk W ps)
include ok pk
theorem part_len : ps.length ≤ W.n := nodup_le W.n ps (pk.asc.imp fun q => Nat.ne_of_lt q) pk.lt
theorem part_ok : WebOk (partWeb W ps) := by
  refine ⟨List.length_pos_iff.mpr pk.ne, Nat.le_trans (part_len ok pk) ok.most, ?_, ?_, ?_⟩
  · show ((partTies W ps).map _).length ≤ 60
    rw [List.length_map]
    exact Nat.le_trans (List.length_filter_le _ _) ok.few
  · intro t ht
    obtain ⟨s, hs, rfl⟩ := List.mem_map.mp ht
    obtain ⟨h1, h2⟩ := List.mem_filter.mp hs
    obtain ⟨h3, h4⟩ := Bool.and_eq_true_iff.mp h2
    have m1 : s.1 ∈ ps := of_decide_eq_true h3
    have m2 : s.2.1 ∈ ps := of_decide_eq_true h4
    have q := ok.tie s h1
    exact ⟨(ix_mono pk.asc m1 m2).mpr q.1, ix_lt m2, q.2.2⟩
  · show ((partTies W ps).map _).Pairwise tlt
    rw [List.pairwise_map]
    refine (ok.ord.sublist List.filter_sublist).imp_of_mem fun {a b} ha hb q => ?_
    obtain ⟨_, h2⟩ := List.mem_filter.mp ha
    obtain ⟨h3, h4⟩ := Bool.and_eq_true_iff.mp h2
    have a1 : a.1 ∈ ps := of_decide_eq_true h3
    have a2 : a.2.1 ∈ ps := of_decide_eq_true h4
    obtain ⟨_, h2⟩ := List.mem_filter.mp hb
    obtain ⟨h3, h4⟩ := Bool.and_eq_true_iff.mp h2
    have b1 : b.1 ∈ ps := of_decide_eq_true h3
    have b2 : b.2.1 ∈ ps := of_decide_eq_true h4
    unfold tlt at q ⊢
    dsimp only
    rcases q with q | ⟨q1, q2⟩
    · exact .inl ((ix_mono pk.asc a1 b1).mpr q)
    · exact .inr ⟨by rw [q1], (ix_mono pk.asc a2 b2).mpr q2⟩
theorem part_adj {p q l : Nat} (hp : p ∈ ps) (hq : q ∈ ps) : adj (partWeb W ps) (ixOf ps p) (ixOf ps q) l ↔ adj W p q l := by
  have key : ∀ {p q : Nat}, p ∈ ps → q ∈ ps → ((ixOf ps p, ixOf ps q, l) ∈ (partWeb W ps).ties ↔ (p, q, l) ∈ W.ties) := by
    intro p q hp hq
    constructor
    · intro h
      obtain ⟨s, hs, e⟩ := List.mem_map.mp h
      obtain ⟨h1, h2⟩ := List.mem_filter.mp hs
      obtain ⟨h3, h4⟩ := Bool.and_eq_true_iff.mp h2
      have m1 : s.1 ∈ ps := of_decide_eq_true h3
      have m2 : s.2.1 ∈ ps := of_decide_eq_true h4
      injection e with e1 e2
      injection e2 with e2 e3
      have f1 := (ix_inj pk.asc m1 hp).mp e1
      have f2 := (ix_inj pk.asc m2 hq).mp e2
      rw [← f1, ← f2, ← e3]
      exact h1
    · intro h
      refine List.mem_map.mpr ⟨(p, q, l), List.mem_filter.mpr ⟨h, ?_⟩, rfl⟩
      rw [Bool.and_eq_true_iff]
      exact ⟨decide_eq_true hp, decide_eq_true hq⟩
  unfold adj
  rw [key hp hq, key hq hp]
/-- lengths in the part are those of the whole -/
theorem part_D {p q : Nat} (hp : p ∈ ps) (hq : q ∈ ps) : D (partWeb W ps) (ixOf ps p) (ixOf ps q) = D W p q := by
  have okp := part_ok ok pk
  have down : ∀ {a c x : Nat} {vs : List Nat}, Way (partWeb W ps) a c x vs → ∀ {p q : Nat}, ps[a]? = some p → ps[c]? = some q → ∃ us, Way W p q x us := by
    intro a c x vs h
    induction h with
    | one a h =>
      intro p q h1 h2
      rw [h1] at h2
      obtain rfl := Option.some.inj h2
      exact ⟨_, .one p (pk.lt p (List.mem_of_getElem? h1))⟩
    | @step a b c l x vs h h2 ih =>
      intro p q h3 h4
      have hb := (h.lt okp).2.1
      have hb' : b < ps.length := hb
      have eb : ps[b]? = some ps[b] := List.getElem?_eq_getElem hb'
      obtain ⟨us, k⟩ := ih eb h4
      have m1 := List.mem_of_getElem? h3
      have m2 := List.mem_of_getElem? eb
      rw [← ix_at pk.asc h3, ← ix_at pk.asc eb] at h
      exact ⟨_, .step ((part_adj ok pk m1 m2).mp h) k⟩
  have up : ∀ (x p q : Nat), p ∈ ps → q ∈ ps → D W p q = some x → ∃ vs, Way (partWeb W ps) (ixOf ps p) (ixOf ps q) x vs := by
    intro x
    induction x using Nat.strongRecOn with
    | _ x ih =>
      intro p q hp hq h
      by_cases e : p = q
      · subst e
        rw [D_self ok (pk.lt p hp)] at h
        obtain rfl := Option.some.inj h
        exact ⟨_, .one _ (ix_lt hp)⟩
      · obtain ⟨m, l, y, h1, h2, h3⟩ := D_next ok (pk.lt q hq) (pk.lt p hp) e h
        have hml := (h1.lt ok)
        have hm : m ∈ ps := by
          refine pk.conv p hp q hq m hml.2.1 (bt_iff.mpr ?_)
          obtain ⟨z, e1, e2⟩ := D_adj ok h1
          obtain ⟨t, e3, e4⟩ := D_tri ok (pk.lt p hp) hml.2.1 e1 h2
          rw [h] at e3
          have := Option.some.inj e3
          exact ⟨z, y, e1, h2, by rw [h]; congr 1; omega⟩
        obtain ⟨vs, k⟩ := ih y (by omega) m q hm hq h2
        rw [← h3]
        exact ⟨_, .step ((part_adj ok pk hp hm).mpr h1) k⟩
  have hi := ix_lt hp
  have hj := ix_lt hq
  have key1 : ∀ {p q x : Nat}, p ∈ ps → q ∈ ps → D W p q = some x → ∃ y, D (partWeb W ps) (ixOf ps p) (ixOf ps q) = some y ∧ y ≤ x := by
    intro p q x hp hq h
    obtain ⟨vs, k⟩ := up x p q hp hq h
    obtain ⟨us, k2⟩ := k.symm okp
    exact D_least okp k2
  have key2 : ∀ {p q x : Nat}, p ∈ ps → q ∈ ps → D (partWeb W ps) (ixOf ps p) (ixOf ps q) = some x → ∃ y, D W p q = some y ∧ y ≤ x := by
    intro p q x hp hq h
    obtain ⟨vs, k⟩ := D_way (w := partWeb W ps) (ix_lt hp) h
    obtain ⟨us, k2⟩ := down k (ix_get hq) (ix_get hp)
    exact D_least ok k2
  cases h1 : D W p q with
  | some x =>
    obtain ⟨y, e1, l1⟩ := key1 hp hq h1
    obtain ⟨z, e2, l2⟩ := key2 hp hq e1
    rw [h1] at e2
    have := Option.some.inj e2
    rw [e1]
    congr 1
    omega
  | none =>
    cases h2 : D (partWeb W ps) (ixOf ps p) (ixOf ps q) with
    | none => rfl
    | some x =>
      obtain ⟨y, e1, _⟩ := key2 hp hq h2
      rw [h1] at e1
      cases e1
theorem part_bt {m p q : Nat} (hm : m ∈ ps) (hp : p ∈ ps) (hq : q ∈ ps) : bt (partWeb W ps) (ixOf ps m) (ixOf ps p) (ixOf ps q) = bt W m p q := by
  rw [Bool.eq_iff_iff, bt_iff, bt_iff, part_D ok pk hp hm, part_D ok pk hm hq, part_D ok pk hp hq]
theorem part_first {p q : Nat} (hp : p ∈ ps) (hq : q ∈ ps) : firstPlace (partWeb W ps) (ixOf ps p) (ixOf ps q) = (if p = q ∨ D W p q = none then firstPlace (partWeb W ps) (ixOf ps p) (ixOf ps q) else (firstPlace W p q).map (ixOf ps)) := by
  by_cases c : p = q ∨ D W p q = none
  · rw [if_pos c]
  · rw [if_neg c]
    have c1 : p ≠ q := fun e => c (.inl e)
    obtain ⟨x, hx⟩ : ∃ x, D W p q = some x := by
      cases h : D W p q with
      | none => exact absurd (.inr h) c
      | some x => exact ⟨x, rfl⟩
    have okp := part_ok ok pk
    obtain ⟨a, a1, a2, a3, a4⟩ := firstPlace_some ok (pk.lt p hp) (pk.lt q hq) c1 hx
    have hxp : D (partWeb W ps) (ixOf ps p) (ixOf ps q) = some x := by rw [part_D ok pk hp hq]; exact hx
    obtain ⟨b, b1, b2, b3, b4⟩ := firstPlace_some okp (ix_lt hp) (ix_lt hq) (fun e => c1 ((ix_inj pk.asc hp hq).mp e)) hxp
    rw [a1, b1]
    show some b = some (ixOf ps a)
    congr 1
    have hbl : b < ps.length := beside_lt b3
    have eb : ps[b]? = some ps[b] := List.getElem?_eq_getElem hbl
    have mb := List.mem_of_getElem? eb
    have ib := ix_at pk.asc eb
    have ma : a ∈ ps := by
      obtain ⟨l, y, h1, h2, h3⟩ := (nextB_iff ok).mp a2
      refine pk.conv p hp q hq a (beside_lt a3) (bt_iff.mpr ?_)
      obtain ⟨z, e1, e2⟩ := D_adj ok h1
      obtain ⟨t, e3, e4⟩ := D_tri ok (pk.lt p hp) (beside_lt a3) e1 h2
      rw [h3] at e3
      have := Option.some.inj e3
      exact ⟨z, y, e1, h2, by rw [h3]; congr 1; omega⟩
    -- b is no later than a's number
    have u1 : b ≤ ixOf ps a := by
      obtain ⟨l, y, h1, h2, h3⟩ := (nextB_iff ok).mp a2
      refine b4 _ ((mem_beside okp).mpr ⟨l, (part_adj ok pk hp ma).mpr h1⟩) ((nextB_iff okp).mpr ⟨l, y, (part_adj ok pk hp ma).mpr h1, ?_, ?_⟩)
      · rw [part_D ok pk ma hq]; exact h2
      · rw [part_D ok pk hp hq]; exact h3
    have u2 : a ≤ ps[b] := by
      obtain ⟨l, y, h1, h2, h3⟩ := (nextB_iff okp).mp b2
      rw [← ib] at h1 h2
      have h1' := (part_adj ok pk hp mb).mp h1
      refine a4 _ ((mem_beside ok).mpr ⟨l, h1'⟩) ((nextB_iff ok).mpr ⟨l, y, h1', ?_, ?_⟩)
      · rw [part_D ok pk mb hq] at h2; exact h2
      · rw [part_D ok pk hp hq] at h3; exact h3
    have u3 := ix_mono pk.asc mb ma
    rw [ib] at u3
    omega
variable {ord : List Nat} (oo : OrdOk W ord)
include oo
theorem part_oo : OrdOk (partWeb W ps) (partOrd ord ps) := by
  constructor
  · unfold partOrd
    rw [List.Nodup, List.pairwise_map]
    refine (oo.nd.sublist List.filter_sublist).imp_of_mem fun {a b} ha hb q => ?_
    have a1 : a ∈ ps := of_decide_eq_true (List.mem_filter.mp ha).2
    have b1 : b ∈ ps := of_decide_eq_true (List.mem_filter.mp hb).2
    exact fun e => q ((ix_inj pk.asc a1 b1).mp e)
  · intro i
    unfold partOrd
    rw [List.mem_map]
    constructor
    · rintro ⟨p, hp, rfl⟩
      exact ix_lt (of_decide_eq_true (List.mem_filter.mp hp).2)
    · intro hi
      have hi' : i < ps.length := hi
      have e : ps[i]? = some ps[i] := List.getElem?_eq_getElem hi'
      have hm := List.mem_of_getElem? e
      exact ⟨ps[i], List.mem_filter.mpr ⟨(oo.mem _).mpr (pk.lt _ hm), decide_eq_true hm⟩, ix_at pk.asc e⟩
omit ok oo in
theorem part_ahead {h : Nat} (hh : h ∈ ps) : ∀ {ord : List Nat}, ahead (partOrd ord ps) (ixOf ps h) = ((ahead ord h).filter (inB ps)).map (ixOf ps)
  | [] => rfl
  | a :: l => by
    have ih := part_ahead (ord := l) hh
    by_cases ea : a = h
    · subst ea
      have e1 : ahead (a :: l) a = [] := by
        unfold ahead
        rw [List.takeWhile_cons]
        simp
      rw [e1]
      unfold partOrd
      have ht : inB ps a = true := decide_eq_true hh
      rw [List.filter_cons, if_pos ht, List.map_cons]
      unfold ahead
      rw [List.takeWhile_cons]
      simp
    · have e1 : ahead (a :: l) h = a :: ahead l h := by
        unfold ahead
        rw [List.takeWhile_cons, decide_eq_true ea]
        rfl
      rw [e1]
      by_cases hm : a ∈ ps
      · have ht : inB ps a = true := decide_eq_true hm
        rw [List.filter_cons, if_pos ht, List.map_cons]
        unfold partOrd
        rw [List.filter_cons, if_pos ht, List.map_cons]
        have e2 : ahead (ixOf ps a :: (l.filter (inB ps)).map (ixOf ps)) (ixOf ps h) = ixOf ps a :: ahead (partOrd l ps) (ixOf ps h) := by
          unfold ahead
          have hne : ixOf ps a ≠ ixOf ps h := fun e => ea ((ix_inj pk.asc hm hh).mp e)
          rw [List.takeWhile_cons, decide_eq_true hne]
          rfl
        rw [e2, ih]
      · have hf : ¬ inB ps a = true := fun e => hm (of_decide_eq_true e)
        rw [List.filter_cons, if_neg hf]
        unfold partOrd
        rw [List.filter_cons, if_neg hf]
        exact ih
theorem part_hub {v h : Nat} (hv : v ∈ ps) (hh : h ∈ ps) : isHubO (partWeb W ps) (partOrd ord ps) (ixOf ps v) (ixOf ps h) = isHubO W ord v h := by
  unfold isHubO isHub
  rw [part_D ok pk hh hv, part_ahead pk hh]
  congr 2
  rw [List.any_map, List.any_filter]
  rw [Bool.eq_iff_iff, List.any_eq_true, List.any_eq_true]
  constructor
  · rintro ⟨m, hm, h2⟩
    obtain ⟨h3, h4⟩ := Bool.and_eq_true_iff.mp h2
    have mp : m ∈ ps := of_decide_eq_true h3
    exact ⟨m, hm, by rw [← part_bt ok pk mp hh hv]; exact h4⟩
  · rintro ⟨m, hm, h2⟩
    have mp : m ∈ ps := pk.conv h hh v hv m ((oo.mem m).mp (ahead_sub hm)) h2
    refine ⟨m, hm, Bool.and_eq_true_iff.mpr ⟨decide_eq_true mp, ?_⟩⟩
    show bt (partWeb W ps) (ixOf ps m) (ixOf ps h) (ixOf ps v) = true
    rw [part_bt ok pk mp hh hv]
    exact h2
theorem part_ent {v h : Nat} (hv : v ∈ ps) (hh : h ∈ ps) (hub : isHubO W ord v h = true) : entryBy (partWeb W ps) (ixOf ps v) (ixOf ps h) = cutEnt ps (entryBy W v h) := by
  obtain ⟨x, hx⟩ := hub_D hub
  have hx' := hx
  rw [D_symm ok (pk.lt h hh) (pk.lt v hv)] at hx'
  have z := ent_zero ok (pk.lt v hv) (pk.lt h hh) hub
  unfold cutEnt
  by_cases e : h = v
  · subst e
    rw [if_pos (z.mpr rfl)]
    unfold entryBy firstPlace
    rw [if_pos rfl, part_D ok pk hh hh, D_self ok (pk.lt h hh)]
    rfl
  · rw [if_neg (fun q => e (z.mp q))]
    have f1 := part_first ok pk hv hh
    rw [if_neg (by rintro (q | q); exact e q.symm; rw [hx'] at q; cases q)] at f1
    have f2 := part_first ok pk hh hv
    rw [if_neg (by rintro (q | q); exact e q; rw [hx] at q; cases q)] at f2
    unfold entryBy
    dsimp only
    rw [part_D ok pk hv hh, f1, f2]
theorem part_label {v : Nat} (hv : v ∈ ps) : labelBy (partWeb W ps) (partOrd ord ps) (ixOf ps v) = cutLab ps (labelBy W ord v) := by
  have e1 : (List.range W.n).filter (fun h => inB ps h) = ps := asc_ext (filter_asc _ (range_asc _)) pk.asc fun x => by
    rw [List.mem_filter, List.mem_range]
    exact ⟨fun h => of_decide_eq_true h.2, fun h => ⟨pk.lt x h, decide_eq_true h⟩⟩
  have e2 : List.range (partWeb W ps).n = ps.map (ixOf ps) := by
    apply List.ext_getElem?
    intro i
    rw [List.getElem?_map]
    by_cases hi : i < ps.length
    · have q : ps[i]? = some ps[i] := List.getElem?_eq_getElem hi
      rw [List.getElem?_range (show i < (partWeb W ps).n from hi), q]
      show some i = some (ixOf ps ps[i])
      rw [ix_at pk.asc q]
    · rw [List.getElem?_eq_none (by rw [List.length_range]; show ps.length ≤ i; omega), List.getElem?_eq_none (by omega)]
      rfl
  unfold labelBy cutLab
  rw [e2, List.filter_map, List.map_map, List.filter_map, List.map_map, List.filter_filter]
  have e3 : (List.range W.n).filter (fun a => ((fun e : Ent => inB ps e.hub) ∘ entryBy W v) a && isHubO W ord v a) = ps.filter (isHubO W ord v) := by
    rw [← e1, List.filter_filter, e1]
    congr 1
    funext a
    show (inB ps a && isHubO W ord v a) = (isHubO W ord v a && inB ps a)
    exact Bool.and_comm _ _
  rw [e3]
  have e4 : ps.filter (isHubO (partWeb W ps) (partOrd ord ps) (ixOf ps v) ∘ ixOf ps) = ps.filter (isHubO W ord v) := List.filter_congr fun h hh => part_hub ok pk oo hv hh
  rw [e4]
  refine List.map_congr_left fun h hh => ?_
  obtain ⟨h1, h2⟩ := List.mem_filter.mp hh
  exact part_ent ok pk oo hv h1 h2
theorem part_labels : labelsBy (partWeb W ps) (partOrd ord ps) = cutDown (labelsBy W ord) ps := by
  apply List.ext_getElem?
  intro i
  unfold labelsBy cutDown
  rw [List.getElem?_map, List.getElem?_map]
  by_cases hi : i < ps.length
  · have q : ps[i]? = some ps[i] := List.getElem?_eq_getElem hi
    have hm := List.mem_of_getElem? q
    rw [List.getElem?_range (show i < (partWeb W ps).n from hi), q]
    show some _ = some _
    have e := part_label ok pk oo hm
    rw [ix_at pk.asc q] at e
    rw [e]
    congr 2
    exact (labAt_by (pk.lt _ hm)).symm
  · rw [List.getElem?_eq_none (by rw [List.length_range]; show ps.length ≤ i; omega), List.getElem?_eq_none (by omega)]
    rfl
end
end LwM
/-! How the program gathers labels by an order (plain Lean). -/
namespace LwM
def accL (W : Web) (ord : List Nat) (k v : Nat) : Lab := ((ord.take k).filter (isHubO W ord v)).map (entryBy W v)
theorem ahead_take {ord : List Nat} (nd : ord.Nodup) : ∀ {k h : Nat}, ord[k]? = some h → ahead ord h = ord.take k := by
  induction ord with
  | nil => intro k h e; simp at e
  | cons a l ih =>
    intro k h e
    rw [List.nodup_cons] at nd
    unfold ahead
    cases k with
    | zero =>
      simp at e
      subst e
      rw [List.takeWhile_cons, decide_eq_false (by simp)]
      rfl
    | succ k =>
      have e' : l[k]? = some h := by simpa using e
      have hne : a ≠ h := fun q => nd.1 (q ▸ List.mem_of_getElem? e')
      rw [List.takeWhile_cons, decide_eq_true hne, List.take_succ_cons]
      have := ih nd.2 e'
      unfold ahead at this
      rw [this]
      rfl
theorem acc_zero (W : Web) (ord : List Nat) (v : Nat) : accL W ord 0 v = [] := by
  unfold accL
  simp
theorem acc_step {W : Web} {ord : List Nat} (nd : ord.Nodup) {k h : Nat} (hk : ord[k]? = some h) (v : Nat) : accL W ord (k + 1) v = accL W ord k v ++ (if isHub W (ord.take k) h v = true then [entryBy W v h] else []) := by
  unfold accL
  rw [List.take_add_one, hk, Option.toList_some, List.filter_append, List.map_append]
  congr 1
  have e : isHubO W ord v h = isHub W (ord.take k) h v := by
    unfold isHubO
    rw [ahead_take nd hk]
  rw [List.filter_cons, e]
  split <;> rfl
theorem acc_hubs {W : Web} {ord : List Nat} (nd : ord.Nodup) (k v : Nat) : ((accL W ord k v).map (·.hub)).Nodup := by
  unfold accL
  rw [List.map_map]
  have : ((fun e : Ent => e.hub) ∘ entryBy W v) = id := rfl
  rw [this, List.map_id]
  exact ((List.take_sublist _ _).nodup nd).filter _
theorem acc_len (W : Web) (ord : List Nat) (k v : Nat) : (accL W ord k v).length ≤ ord.length := by
  unfold accL
  rw [List.length_map]
  refine Nat.le_trans (List.length_filter_le _ _) ?_
  rw [List.length_take]
  omega
theorem acc_sorted {W : Web} {ord : List Nat} (oo : OrdOk W ord) {v k : Nat} (hk : ord.length ≤ k) {es : List Ent} (hp : es.Perm (accL W ord k v)) (hs : es.Pairwise fun a b => (a.hub : Int) ≤ b.hub) : es = labelBy W ord v := by
  have hnd : (es.map (·.hub)).Nodup := (hp.map _).nodup_iff.mpr (acc_hubs oo.nd k v)
  have hall : ∀ e ∈ es, e = entryBy W v e.hub := fun e he => by
    have := hp.mem_iff.mp he
    unfold accL at this
    obtain ⟨h, _, rfl⟩ := List.mem_map.mp this
    rfl
  have asc : (es.map (·.hub)).Pairwise (· < ·) := by
    rw [List.pairwise_map]
    have h2 := List.pairwise_map.mp (show (es.map (·.hub)).Pairwise (· ≠ ·) from hnd)
    exact (hs.and h2).imp fun ⟨a, b⟩ => by omega
  have e1 : es = (es.map (·.hub)).map (entryBy W v) := by
    rw [List.map_map]
    conv => lhs; rw [← List.map_id es]
    exact List.map_congr_left fun e he => hall e he
  have asc2 : ((List.range W.n).filter (isHubO W ord v)).Pairwise (· < ·) := filter_asc _ (range_asc _)
  have e2 : es.map (·.hub) = (List.range W.n).filter (isHubO W ord v) := by
    refine asc_ext asc asc2 fun x => ?_
    have m : x ∈ es.map (·.hub) ↔ x ∈ (accL W ord k v).map (·.hub) := (hp.map _).mem_iff
    rw [m]
    unfold accL
    rw [List.map_map]
    have : ((fun e : Ent => e.hub) ∘ entryBy W v) = id := rfl
    rw [this, List.map_id, List.take_of_length_le hk, List.mem_filter, List.mem_filter, oo.mem, List.mem_range]
  rw [e1, e2]
  rfl
/-- what is between, as the program finds it -/
theorem between_eq {W : Web} (ok : WebOk W) {u v x : Nat} (hu : u < W.n) (hv : v < W.n) (h : D W u v = some x) :
    ((List.range W.n).filter fun m => (D W u m).isSome).filter (fun m => decide ((D W u m).getD 0 + (D W v m).getD 0 = x)) = betweenL W u v := by
  unfold betweenL
  rw [List.filter_filter]
  refine List.filter_congr fun m hm => ?_
  have hml := List.mem_range.mp hm
  rw [Bool.eq_iff_iff, Bool.and_eq_true, bt_iff, decide_eq_true_eq]
  constructor
  · rintro ⟨h1, h2⟩
    obtain ⟨y, hy⟩ := Option.isSome_iff_exists.mp h2
    have hvu : D W v u = some x := by rw [D_symm ok hv hu]; exact h
    obtain ⟨z, hz, _⟩ := D_tri ok hv hu hvu hy
    rw [hy, hz] at h1
    refine ⟨y, z, hy, by rw [D_symm ok hml hv]; exact hz, ?_⟩
    rw [h, ← h1]
    rfl
  · rintro ⟨y, z, h1, h2, h3⟩
    rw [h] at h3
    rw [D_symm ok hml hv] at h2
    rw [h1, h2]
    exact ⟨(Option.some.inj h3).symm, rfl⟩
theorem between_none {W : Web} (ok : WebOk W) {u v : Nat} (h : D W u v = none) : betweenL W u v = [] := by
  unfold betweenL
  rw [List.filter_eq_nil_iff]
  intro m _ hb
  obtain ⟨x, y, _, _, h3⟩ := bt_iff.mp hb
  rw [h] at h3
  cases h3
end LwM
/-! Parts, as the program makes them (plain Lean). -/
namespace LwM
def ixO (ps : List Nat) (j : Nat) : Option Nat := if j ∈ ps then some (ixOf ps j) else none
theorem ixO_in {ps : List Nat} {j : Nat} (h : j ∈ ps) : ixO ps j = some (ixOf ps j) := if_pos h
theorem ixO_some (ps : List Nat) (j : Nat) : (ixO ps j).isSome = inB ps j := by
  unfold ixO inB
  by_cases h : j ∈ ps
  · rw [if_pos h, decide_eq_true h]
    rfl
  · rw [if_neg h, decide_eq_false h]
    rfl
theorem zip_find (j : Nat) : ∀ (l : List Nat) (n : Nat), ((l.zipIdx n).find? fun p => decide (p.1 = j)).map (·.2) = if j ∈ l then some (l.idxOf j + n) else none
  | [], n => by simp
  | a :: l, n => by
    rw [List.zipIdx_cons, List.find?_cons]
    by_cases h : a = j
    · subst h
      rw [decide_eq_true rfl]
      simp
    · rw [decide_eq_false h]
      dsimp only
      rw [zip_find j l (n + 1)]
      by_cases hm : j ∈ l
      · rw [if_pos hm, if_pos (by simp [hm]), List.idxOf_cons, cond_eq_ite, if_neg (by simpa using h)]
        congr 1
        omega
      · rw [if_neg hm, if_neg (by simp [hm, Ne.symm h])]
theorem zip_ix (ps : List Nat) (j : Nat) : (ps.zipIdx.find? fun p => decide (p.1 = j)).map (·.2) = ixO ps j := zip_find j ps 0
/-- the pairs of some places -/
def pairsK (ps : List Nat) (k : Nat) : List (Nat × Nat) := (ps.drop (k + 1)).map fun o => (ps.getD k 0, o)
def pairsL (ps : List Nat) : List (Nat × Nat) := (List.range ps.length).flatMap (pairsK ps)
theorem pairs_mem {ps : List Nat} {p : Nat × Nat} (h : p ∈ pairsL ps) : p.1 ∈ ps ∧ p.2 ∈ ps := by
  unfold pairsL at h
  obtain ⟨k, hk, hp⟩ := List.mem_flatMap.mp h
  unfold pairsK at hp
  obtain ⟨o, ho, rfl⟩ := List.mem_map.mp hp
  refine ⟨?_, List.mem_of_mem_drop ho⟩
  have hk' := List.mem_range.mp hk
  show ps.getD k 0 ∈ ps
  rw [List.getD_eq_getElem?_getD, List.getElem?_eq_getElem hk']
  exact List.getElem_mem hk'
theorem pairs_len (ps : List Nat) (n : Nat) : (((List.range n).flatMap (pairsK ps))).length ≤ n * ps.length := by
  induction n with
  | zero => simp
  | succ n ih =>
    rw [List.range_succ, List.flatMap_append, List.length_append, Nat.succ_mul]
    have : (([n] : List Nat).flatMap (pairsK ps)).length ≤ ps.length := by
      simp only [List.flatMap_cons, List.flatMap_nil, List.append_nil]
      unfold pairsK
      rw [List.length_map, List.length_drop]
      omega
    omega
section
variable {W : Web} {ps : List Nat} (ok : WebOk W) (pk : PartOk W ps)
include ok pk
theorem first_in {p q f : Nat} (hp : p ∈ ps) (hq : q ∈ ps) (h : firstPlace W p q = some f) : f ∈ ps := by
  have hpl := pk.lt p hp
  have hql := pk.lt q hq
  have hne : p ≠ q := fun e => by
    subst e
    unfold firstPlace at h
    rw [if_pos rfl] at h
    cases h
  unfold firstPlace at h
  rw [if_neg hne] at h
  have hm := List.mem_of_head? h
  obtain ⟨m1, m2⟩ := List.mem_filter.mp hm
  obtain ⟨l, y, a1, a2, a3⟩ := (nextB_iff ok).mp m2
  have hfl := beside_lt m1
  obtain ⟨z, e1, e2⟩ := D_adj ok a1
  obtain ⟨t, e3, e4⟩ := D_tri ok hpl hfl e1 a2
  rw [a3] at e3
  have := Option.some.inj e3
  have ez : z = l := by omega
  rw [ez] at e1
  exact pk.conv p hp q hq f hfl (bt_iff.mpr ⟨l, y, e1, a2, a3⟩)
theorem cut_in {ord : List Nat} (oo : OrdOk W ord) {v : Nat} {e : Ent} (hv : v ∈ ps) (he : e ∈ labelBy W ord v) (hh : e.hub ∈ ps) (hz : e.long ≠ 0) : ∃ a b, e.up = some a ∧ e.down = some b ∧ a ∈ ps ∧ b ∈ ps := by
  have L := labels_ok ok oo
  have hvl := pk.lt v hv
  have hl : labelBy W ord v ∈ labelsBy W ord := List.mem_map.mpr ⟨v, List.mem_range.mpr hvl, rfl⟩
  obtain ⟨a, b, h1, h2, _, _⟩ := L.ups _ hl e he hz
  obtain ⟨_, _, h3⟩ := mem_label.mp he
  have u1 : firstPlace W v e.hub = some a := by rw [← h1, h3]; rfl
  have u2 : firstPlace W e.hub v = some b := by rw [← h2, h3]; rfl
  exact ⟨a, b, h1, h2, first_in ok pk hv hh u1, first_in ok pk hh hv u2⟩
/-- what is outside a part is beside it -/
theorem part_beside {m : Nat} (hm : m < W.n) (hn : m ∉ ps) : (pairsL ps).any (fun p => bt W m p.1 p.2) = false := List.any_eq_false.mpr fun p hp hb => by
  obtain ⟨h1, h2⟩ := pairs_mem hp
  exact hn (pk.conv p.1 h1 p.2 h2 m hm hb)
end
end LwM
/-! Lines of webs and of labels: how they are written, and read back (plain Lean). -/
namespace LwM
open PySem SX
def cWeb : List Nat := [119, 101, 98]
def cTie : List Nat := [116, 105, 101]
def cLabel : List Nat := [108, 97, 98, 101, 108]
def cCheck : List Nat := [99, 104, 101, 99, 107]
def cOrder : List Nat := [111, 114, 100, 101, 114]
def showL : Option Nat → List Nat
  | none => [45]
  | some n => TL.numL n
def entWs (e : Ent) : List (List Nat) := [TL.numL e.hub, TL.numL e.long, showL e.up, showL e.down]
def entL (e : Ent) : List Nat := TL.joinL [58] (entWs e)
def labWs (l : Lab) : List (List Nat) := cLabel :: l.map entL
def webWs (n : Nat) : List (List Nat) := [cWeb, TL.numL n]
def tieWs (t : Tie) : List (List Nat) := [cTie, TL.numL t.1, TL.numL t.2.1, TL.numL t.2.2]
def lineL (ws : List (List Nat)) : List Nat := TL.joinL [32] ws
def webLs (W : Web) : List (List Nat) := lineL (webWs W.n) :: W.ties.map fun t => lineL (tieWs t)
def labLs (L : List Lab) : List (List Nat) := L.map fun l => lineL (labWs l)
def rowL (ls : List (List Nat)) : List Nat := TL.joinL [59, 32] ls
theorem num_free {n c : Nat} (h : c < 48 ∨ 57 < c) : c ∉ TL.numL n := TL.numL_free h
theorem show_free {o : Option Nat} {c : Nat} (h : c < 45 ∨ 57 < c) : c ∉ showL o := by
  cases o with
  | none =>
    show c ∉ [45]
    simp
    omega
  | some n => exact num_free (by omega)
theorem join_free {c : Nat} {sep : List Nat} (hs : c ∉ sep) : ∀ {ps : List (List Nat)}, (∀ p ∈ ps, c ∉ p) → c ∉ TL.joinL sep ps
  | [], _ => by simp [TL.joinL]
  | [p], h => h p (by simp)
  | p :: q :: r, h => by
    show c ∉ p ++ (sep ++ TL.joinL sep (q :: r))
    rw [List.mem_append, List.mem_append]
    rintro (h1 | h1 | h1)
    · exact h p (by simp) h1
    · exact hs h1
    · exact join_free hs (fun z hz => h z (by simp [hz])) h1
theorem entWs_free {e : Ent} {c : Nat} (h : c < 45 ∨ 57 < c) : ∀ p ∈ entWs e, c ∉ p := fun p hp => by
  unfold entWs at hp
  simp only [List.mem_cons, List.not_mem_nil, or_false] at hp
  rcases hp with rfl | rfl | rfl | rfl
  · exact num_free (by omega)
  · exact num_free (by omega)
  · exact show_free h
  · exact show_free h
theorem entL_free {e : Ent} {c : Nat} (h : c < 45 ∨ 58 < c) : c ∉ entL e := join_free (by simp; omega) (entWs_free (by omega))
theorem labWs_free {l : Lab} {c : Nat} (h : c = 32 ∨ c = 59) : ∀ p ∈ labWs l, c ∉ p := fun p hp => by
  unfold labWs at hp
  rcases List.mem_cons.mp hp with rfl | hp
  · rcases h with rfl | rfl <;> decide
  · obtain ⟨e, _, rfl⟩ := List.mem_map.mp hp
    exact entL_free (by omega)
theorem tieWs_free (t : Tie) : ∀ p ∈ tieWs t, 32 ∉ p := fun p hp => by
  unfold tieWs at hp
  simp only [List.mem_cons, List.not_mem_nil, or_false] at hp
  rcases hp with rfl | rfl | rfl | rfl
  · decide
  all_goals exact num_free (by omega)
theorem webWs_free (n : Nat) : ∀ p ∈ webWs n, 32 ∉ p := fun p hp => by
  unfold webWs at hp
  simp only [List.mem_cons, List.not_mem_nil, or_false] at hp
  rcases hp with rfl | rfl
  · decide
  · exact num_free (by omega)
theorem labL_free (l : Lab) : 59 ∉ lineL (labWs l) := join_free (by decide) (labWs_free (.inr rfl))
/-! ### split back -/
theorem split_line {ws : List (List Nat)} (hne : ws ≠ []) (h : ∀ p ∈ ws, 32 ∉ p) : Txt.split (S (lineL ws)) (S [32]) = ws.map S := by
  rw [split_S (by decide) (by decide)]
  congr 1
  exact SX.spl_join hne h
theorem split_ent (e : Ent) : Txt.split (S (entL e)) (S [58]) = (entWs e).map S := by
  rw [split_S (by decide) (by decide)]
  congr 1
  exact SX.spl_join (by unfold entWs; simp) (entWs_free (by omega))
theorem split_row {ls : List (List Nat)} (hne : ls ≠ []) (h : ∀ p ∈ ls, 59 ∉ p) : Txt.split (S (rowL ls)) (S [59, 32]) = ls.map S := by
  rw [split_S (by decide) (by decide)]
  congr 1
  exact SX.spl_join hne h
theorem part_first1 {a b : List Nat} (h : 32 ∉ a) : Txt.partition (S (a ++ ([32] ++ b))) (S [32]) = (S a, S [32], S b) :=
  SX.partition_some (by decide) (SX.par_head b h)
theorem part_none1 {a : List Nat} (h : 32 ∉ a) : Txt.partition (S a) (S [32]) = (S a, S [], S []) := SX.partition_none (by decide) (SX.par_head_none h)
/-! ### lengths -/
theorem join_len {sep : List Nat} {k : Nat} : ∀ {ps : List (List Nat)}, (∀ p ∈ ps, p.length ≤ k) → (TL.joinL sep ps).length ≤ ps.length * (k + sep.length)
  | [], _ => by simp [TL.joinL]
  | [p], h => by
    have := h p (by simp)
    show p.length ≤ 1 * (k + sep.length)
    omega
  | p :: q :: r, h => by
    have h1 := h p (by simp)
    have h2 := join_len (sep := sep) (ps := q :: r) fun z hz => h z (by simp [hz])
    show (p ++ (sep ++ TL.joinL sep (q :: r))).length ≤ _
    rw [List.length_append, List.length_append, List.length_cons, Nat.succ_mul]
    omega
theorem num_len {n : Nat} (h : n ≤ 9999) : (TL.numL n).length ≤ 4 := TL.numL_len (by decide) (by omega)
theorem num_pos (n : Nat) : 1 ≤ (TL.numL n).length := List.length_pos_iff.mpr (TL.numL_ne n)
structure EntSm (e : Ent) : Prop where
  hub : e.hub ≤ 9999
  long : e.long ≤ 9999
  up : ∀ a, e.up = some a → a ≤ 9999
  down : ∀ a, e.down = some a → a ≤ 9999
theorem show_len {o : Option Nat} (h : ∀ a, o = some a → a ≤ 9999) : (showL o).length ≤ 4 := by
  cases o with
  | none => show 1 ≤ 4; decide
  | some n => exact num_len (h n rfl)
theorem entWs_len {e : Ent} (h : EntSm e) : ∀ p ∈ entWs e, p.length ≤ 4 := fun p hp => by
  unfold entWs at hp
  simp only [List.mem_cons, List.not_mem_nil, or_false] at hp
  rcases hp with rfl | rfl | rfl | rfl
  · exact num_len h.hub
  · exact num_len h.long
  · exact show_len h.up
  · exact show_len h.down
theorem entL_len {e : Ent} (h : EntSm e) : (entL e).length ≤ 20 := join_len (entWs_len h)
theorem labWs_len {l : Lab} (h : ∀ e ∈ l, EntSm e) : ∀ p ∈ labWs l, p.length ≤ 20 := fun p hp => by
  unfold labWs at hp
  rcases List.mem_cons.mp hp with rfl | hp
  · decide
  · obtain ⟨e, he, rfl⟩ := List.mem_map.mp hp
    exact entL_len (h e he)
theorem labL_len {l : Lab} (h : ∀ e ∈ l, EntSm e) (hl : l.length ≤ 24) : (lineL (labWs l)).length ≤ 600 := by
  have := join_len (sep := [32]) (labWs_len h)
  have e1 : (labWs l).length = l.length + 1 := by unfold labWs; simp
  rw [e1] at this
  have e2 : (20 + ([32] : List Nat).length) = 21 := rfl
  rw [e2] at this
  unfold lineL
  omega
theorem tieL_len {t : Tie} (h1 : t.1 ≤ 9999) (h2 : t.2.1 ≤ 9999) (h3 : t.2.2 ≤ 9999) : (lineL (tieWs t)).length ≤ 20 := by
  refine join_len (k := 4) (sep := [32]) (ps := tieWs t) fun p hp => ?_
  unfold tieWs at hp
  simp only [List.mem_cons, List.not_mem_nil, or_false] at hp
  rcases hp with rfl | rfl | rfl | rfl
  · decide
  · exact num_len h1
  · exact num_len h2
  · exact num_len h3
theorem webL_len {n : Nat} (h : n ≤ 9999) : (lineL (webWs n)).length ≤ 20 := by
  have := join_len (k := 4) (sep := [32]) (ps := webWs n) fun p hp => by
    unfold webWs at hp
    simp only [List.mem_cons, List.not_mem_nil, or_false] at hp
    rcases hp with rfl | rfl
    · decide
    · exact num_len h
  have e1 : (webWs n).length = 2 := rfl
  rw [e1] at this
  have e2 : (4 + ([32] : List Nat).length) = 5 := rfl
  rw [e2] at this
  unfold lineL
  omega
theorem rowL_len {ls : List (List Nat)} (h : ∀ p ∈ ls, p.length ≤ 600) (hl : ls.length ≤ 100) : (rowL ls).length ≤ 60200 := by
  have := join_len (sep := [59, 32]) h
  have e2 : (600 + ([59, 32] : List Nat).length) = 602 := rfl
  rw [e2] at this
  unfold rowL
  have : ls.length * 602 ≤ 100 * 602 := Nat.mul_le_mul_right _ hl
  omega
theorem labs_sm {n : Nat} {L : List Lab} (ok : LabelsOk n L) (hn : n ≤ 24) : ∀ l ∈ L, ∀ e ∈ l, EntSm e := fun l hl e he => by
  have h1 := ok.hub l hl e he
  have h2 := ok.small l hl e he
  by_cases hz : e.long = 0
  · obtain ⟨u1, u2⟩ := ok.zero l hl e he hz
    exact ⟨by omega, by omega, (fun a h => by rw [u1] at h; cases h), (fun a h => by rw [u2] at h; cases h)⟩
  · obtain ⟨a, b, u1, u2, ha, hb⟩ := ok.ups l hl e he hz
    exact ⟨by omega, by omega, (fun c h => by rw [u1] at h; cases h; omega), (fun c h => by rw [u2] at h; cases h; omega)⟩
/-! ### the first figure -/
theorem num_head : ∀ (n : Nat), 1 ≤ n → ∃ c l, TL.numL n = c :: l ∧ c ≠ 48 := by
  intro n
  induction n using Nat.strongRecOn with
  | _ n ih =>
    intro hn
    by_cases h : n < 10
    · exact ⟨48 + n, [], TL.numL_lt h, by omega⟩
    · obtain ⟨c, l, e, hc⟩ := ih (n / 10) (by omega) (by omega)
      exact ⟨c, l ++ [48 + n % 10], by rw [TL.numL_step (by omega), e]; rfl, hc⟩
theorem num_cons (n : Nat) : ∃ c l, TL.numL n = c :: l ∧ (c = 48 → l = []) := by
  by_cases h : n = 0
  · subst h
    exact ⟨48, [], TL.numL_lt (by decide), fun _ => rfl⟩
  · obtain ⟨c, l, e, hc⟩ := num_head n (by omega)
    exact ⟨c, l, e, fun q => absurd q hc⟩
theorem log_small {n : Nat} (h : n ≤ 9999) : ((n : Int)).natAbs.log2 < 1920 := by
  rw [Int.natAbs_natCast]
  by_cases hz : n = 0
  · subst hz
    decide
  · have : n.log2 < 14 := (Nat.log2_lt hz).mpr (by omega)
    omega
end LwM
namespace LwM
/-! ### closing some places -/
def moreL (W : Web) (l : List Nat) : List Nat := l ++ l.flatMap fun u => l.flatMap fun v => betweenL W u v
theorem betweenL_lt {W : Web} {u v m : Nat} (h : m ∈ betweenL W u v) : m < W.n := by
  unfold betweenL at h
  exact List.mem_range.mp (List.mem_filter.mp h).1
theorem betweenL_mem {W : Web} {u v m : Nat} : m ∈ betweenL W u v ↔ m < W.n ∧ bt W m u v = true := by
  unfold betweenL
  rw [List.mem_filter, List.mem_range]
theorem more_lt {W : Web} {l : List Nat} (h : ∀ p ∈ l, p < W.n) : ∀ k ∈ moreL W l, k < W.n := fun k hk => by
  rcases List.mem_append.mp hk with hk | hk
  · exact h k hk
  · obtain ⟨u, _, hk⟩ := List.mem_flatMap.mp hk
    obtain ⟨v, _, hk⟩ := List.mem_flatMap.mp hk
    exact betweenL_lt hk
theorem part_of {W : Web} {l : List Nat} (ne : l ≠ []) (asc : l.Pairwise (· < ·)) (lt : ∀ p ∈ l, p < W.n) (hm : ∀ k, k ∈ l ↔ k ∈ moreL W l) : PartOk W l :=
  ⟨ne, asc, lt, fun u hu v hv m hn hb => (hm m).mpr (List.mem_append.mpr (.inr (List.mem_flatMap.mpr ⟨u, hu, List.mem_flatMap.mpr ⟨v, hv, betweenL_mem.mpr ⟨hn, hb⟩⟩⟩)))⟩
theorem asc_grow {a b : List Nat} (ha : a.Pairwise (· < ·)) (hb : b.Pairwise (· < ·)) (h : ∀ k ∈ a, k ∈ b) : a = b ∨ a.length < b.length := by
  have e : a = b.filter fun k => decide (k ∈ a) := asc_ext ha (hb.sublist List.filter_sublist) fun x => by
    rw [List.mem_filter, decide_eq_true_eq]
    exact ⟨fun q => ⟨h x q, q⟩, fun q => q.2⟩
  have s : a.Sublist b := by
    rw [e]
    exact List.filter_sublist
  rcases Nat.lt_or_ge a.length b.length with q | q
  · exact .inr q
  · exact .inl (s.eq_of_length_le q)
theorem asc_few {n : Nat} {l : List Nat} (ha : l.Pairwise (· < ·)) (h : ∀ k ∈ l, k < n) : l.length ≤ n := by
  rcases asc_grow ha (range_asc n) fun k hk => List.mem_range.mpr (h k hk) with e | e
  · rw [e, List.length_range]
    exact Nat.le_refl _
  · rw [List.length_range] at e
    omega
theorem ord_of_perm {W : Web} {ord : List Nat} (h : ord.Perm (List.range W.n)) : OrdOk W ord :=
  ⟨h.nodup_iff.mpr List.nodup_range, fun p => by rw [h.mem_iff, List.mem_range]⟩
end LwM
namespace Lw
open PySem PySem.Spec PyProof.Rows L2
/-! ### set(a list of ints) -/
theorem nodup_few : ∀ (B : Nat) (l : List Nat), l.Nodup → (∀ x ∈ l, x < B) → l.length ≤ B
  | 0, l, _, h => by
    cases l with
    | nil => exact Nat.le_refl _
    | cons a l => exact absurd (h a (by simp)) (by omega)
  | B + 1, l, nd, h => by
    by_cases hm : B ∈ l
    · have h1 := nodup_few B (l.erase B) (nd.erase B) fun x hx => by
        have q := (nd.mem_erase_iff).mp hx
        have := h x q.2
        have := q.1
        omega
      have h2 := List.length_erase_of_mem hm
      omega
    · have := nodup_few B l nd fun x hx => by
        have := h x hx
        have : x ≠ B := fun z => hm (z ▸ hx)
        omega
      omega
theorem setR_few {w : World} {h : Heap} {a : Addr} {S : Int → Bool} {c : Nat} (R : SetR w h a S c) (B : Nat) (hb : ∀ k, S k = true → 0 ≤ k ∧ k < B) : c ≤ B := by
  obtain ⟨o, es, ep, t, ho, hex, hd, g, nd, hm, hs, hf, hn, r, hl⟩ := R
  have len : (es.toList.map keyOf).length = c := by rw [List.length_map, Array.length_toList, hn]
  have hin : ∀ k ∈ es.toList.map keyOf, 0 ≤ k ∧ k < B := fun k hk => hb k ((hm k).mpr hk)
  have nd2 : ((es.toList.map keyOf).map Int.toNat).Nodup := by
    rw [List.Nodup, List.pairwise_map]
    refine (List.Pairwise.and_mem.mp nd).imp fun {x y} q z => ?_
    have h1 := hin x q.1
    have h2 := hin y q.2.1
    exact q.2.2 (by omega)
  have := nodup_few B _ nd2 fun x hx => by
    obtain ⟨k, hk, rfl⟩ := List.mem_map.mp hx
    have := hin k hk
    omega
  rw [List.length_map, len] at this
  exact this
def fset (w : World) : Obj := { cls := .type "set", dict := none, data := .set #[] 0 (.fresh 0 0 (!w.params.followText "set-order")) }
section
variable {P : Program} {w : World} {A : Around} {E : Value → Shared → Prop} {s : Shared}
set_option maxRecDepth 100000 in
set_option maxHeartbeats 3200000 in
theorem set_of_ints {l : Addr} {items : Array Value} (ns : List Int) {Q : Value → Shared → Prop} (hh : A.handled = none) (hl : s.heap.IsList l items) (hit : IntsAre items.toList ns) (hb : ns.length + 1 < scanBound)
    (h : ∀ (h' : Heap) (tk c : Nat), SetR w h' s.heap.objs.size (fun j => decide (j ∈ ns)) c → (∀ b o, s.heap.get? b = some o → h'.get? b = some o) → Q (.ref s.heap.objs.size) { s with heap := h', toks := tk }) :
    wpAny (model P w) A (call (.type "set") [.ref l]) Q E s := by
  have hisz : items.size = ns.length := by
    have q := IntsAre.length hit
    rw [Array.length_toList] at q
    exact q
  obtain ⟨c, tl, hmro⟩ := F.called_set.mro
  have hmade := F.called_set.made
  have hsub := F.called_set.sub
  refine wpAny_call (codeAny_of_tree ?_)
  show wpAny _ _ (callAny (.type "set") _) _ _ _
  refine wpAny_pure ⟨Code.quiet_builtin _ (by decide +kernel), codeAny_builtin F.entry_type_call ?_⟩
  rw [Around.under_plain (weight_type_call_type "set" [.ref l] []) rfl]
  have h1 := F.called_set.notType
  have h2 := F.called_set.canCreate
  have hct := F.typeCall_set_1 (.ref l)
  repeat (any_goals (first | assumption | wp_step))
  refine codeAny_mono (code_set_led1 (.ref l) (E := E) (Q₁ := fun obj s₁ => obj = .ref s.heap.objs.size ∧ s₁ = { s with heap := s.heap.push (fset w) }) ⟨rfl, rfl⟩) fun r s₁ hr => ?_
  cases r with
  | error e => exact hr
  | ok fl =>
    cases fl with
    | ret obj =>
      obtain ⟨rfl, rfl⟩ := hr
      have hS : (s.heap.push (fset w)).get? s.heap.objs.size = some (fset w) := Heap.get?_push_size _ rfl
      have hT : Shared.TypeIs { s with heap := s.heap.push (fset w) } (.ref s.heap.objs.size) "set" := ⟨_, hS, rfl⟩
      have hli := F.called_set.init.lookup
      have hbi := F.called_set.init.bind (.ref s.heap.objs.size)
      repeat (any_goals (first | assumption | wp_step))
      refine codeAny_mono (codeAny_call_builtin (R := wants (fun r s₂ => r = .none ∧ ∃ h' tk c, s₂ = { s with heap := h', toks := tk } ∧ SetR w h' s.heap.objs.size (fun j => decide (j ∈ ns)) c ∧ (∀ b o, s.heap.get? b = some o → h'.get? b = some o)) E) F.called_set.init.plain F.entry_set_init (check_set_init_1 hT ?_)) fun r₂ s₂ hr₂ => ?_
      · obtain ⟨ol, hol, hcl, nl, hdl⟩ := hl
        obtain ⟨ocls, odict, odata, oslots⟩ := ol
        simp only at hcl hdl
        subst hcl; subst hdl
        have hol' := Heap.get?_push_of_some (fset w) hol
        have hsls := F.sub_list_set
        have hslf := F.sub_list_frozenset
        have hne : (Value.type "list" == Value.type "dict") = false := by decide
        have hl1 : (s.heap.push (fset w)).IsList l items := ⟨_, hol', rfl, nl, rfl⟩
        unfold Builtin.«set.__init__» noKeywords Builtin.Frozenset.updateFrom
        generalize hPI : pyIter = PI
        wp_walk
        subst hPI
        refine wpAny_pyIter_list hl1 ?_
        refine wpAny_bind (wpAny_runValue ?_)
        have hlS : l < s.heap.objs.size := Heap.lt_size hol
        have hh3 : A.in1.in1.in1.handled = none := by simp [hh]
        have hneI : l ≠ (s.heap.push (fset w)).objs.size := by
          rw [Heap.size_push]; exact Nat.ne_of_lt (Nat.lt_succ_of_lt hlS)
        have hSf : s.heap.objs.size ∉ [(s.heap.push (fset w)).objs.size, l] := by
          rw [Heap.size_push]; simp only [List.mem_cons, List.mem_singleton, List.not_mem_nil, or_false, not_or]
          exact ⟨Nat.ne_of_lt (Nat.lt_succ_self _), Nat.ne_of_gt hlS⟩
        have hval : ∀ (i : Nat) (v : Value), items[i]? = some v → ∃ k t, ns[i]? = some k ∧ v = .int k t := fun i v hv => by
          have hi : i < ns.length := by rw [← hisz]; exact (Array.getElem?_eq_some_iff.mp hv).1
          obtain ⟨t, e⟩ := PyProof.Rows.IntsAre.int_at hit i v (by rw [Array.getElem?_toList]; exact hv)
          refine ⟨ns[i], t, List.getElem?_eq_getElem hi, ?_⟩
          rw [e, List.getD_eq_getElem?_getD, List.getElem?_eq_getElem hi] <;> rfl
        refine set_update_ints ((Walks.list hh3 _ l hneI items).toS) s.heap.objs.size hSf ns hisz hb hval (items.size - 0) 0 _ (by omega) (Nat.zero_le _)
          ⟨⟨_, Heap.get?_push_size _ rfl, rfl, rfl⟩, (hl1.push _)⟩ ⟨0, Nat.le_refl 0, setR_new_at (Heap.get?_push_of_some _ hS)⟩ fun s' c' hm hc' hS' => ?_
        obtain ⟨h', g2, d', tk', os'⟩ := s'
        have eg : g2 = s.gens := hm.gens
        have ed : d' = s.drawn := hm.drawn
        have eo : os' = s.os := hm.os
        subst eg; subst ed; subst eo
        show wpAny _ _ _ _ _ _
        refine wpAny_pure ?_
        show wpAny _ _ (ret Value.none) _ _ _
        refine wpAny_pure ⟨rfl, h', tk', c', rfl, hS', fun b o e => ?_⟩
        have hb0 : b < s.heap.objs.size := Heap.lt_size e
        have hb2 : b ≠ (s.heap.push (fset w)).objs.size := by
          rw [Heap.size_push]; exact Nat.ne_of_lt (Nat.lt_succ_of_lt hb0)
        exact hm.heap b o (by simp only [List.mem_cons, List.mem_singleton, List.not_mem_nil, or_false, not_or]; exact ⟨Nat.ne_of_lt hb0, hb2⟩) (Heap.get?_push_of_some _ (Heap.get?_push_of_some _ e))
      · cases r₂ with
        | error e => exact hr₂
        | ok fl₂ =>
          cases fl₂ with
          | ret r =>
            obtain ⟨rfl, h', tk, c', rfl, hS', hk'⟩ := hr₂
            repeat (any_goals (first | assumption | wp_step))
            exact h _ _ _ hS' hk'
          | _ => exact hr₂.elim
    | _ => exact hr.elim
end
def rSetOfL (w : World) (K : Fg) : List V → Hp → VK → Prop := fun xs H Q => ∃ (a : Addr) (ns : List Int), xs = [V.ref a] ∧ SqL K H a (ns.map V.int) ∧ ns.length < 4000 ∧
  ∀ (p : Addr) (c : Nat), H p = none → (∀ B : Nat, (∀ k ∈ ns, 0 ≤ k ∧ k < B) → c ≤ B) → Q (.ref p) (upd H p (SetO w p (fun j => decide (j ∈ ns)) c))
theorem cr_setL {X : Cx} {K : Fg} {w : World} (hK : X.K = K) (hw : X.w = w) (hc : X.calm = true) : CallR X (.type "set") (rSetOfL w K) := by
  subst hK hw
  intro pins s σ H xs us Q I r h
  obtain ⟨a, ns, rfl, hs, hf, q⟩ := h
  rw [Vals.ref1 r]
  obtain ⟨its, rv, pl, hz⟩ := I.list hs
  refine set_of_ints (P := X.prog) (w := X.w) ns (I.ok.hd hc) pl.isList (by simpa using ints_of_vals rv) (by unfold scanBound; omega) fun h' tk c R k => ?_
  exact ⟨.ref s.heap.objs.size, _, I.laid (t' := tk) k (Nat.le_refl _) (setO_new R), rfl, q _ c (I.hok.fresh (Nat.le_refl _)) fun B hB => setR_few R B fun j hj => hB j (by simpa using hj)⟩
end Lw
namespace Lw
open PySem PySem.Spec PyProof.Rows L2 Evl LwM
/-! ### data of webs -/
def tieD (t : Tie) : PyData := .tuple [nD t.1, nD t.2.1, nD t.2.2]
def tiesD (ts : List Tie) : PyData := .tuple (ts.map tieD)
def webD (w : Web) : PyData := .tuple [nD w.n, tiesD w.ties]
def farD (f : Far) : PyData := .tuple (f.map optD)
def placesD (l : List Nat) : PyData := .tuple (l.map nD)
theorem fz_tie (t : Tie) : fz (tieD t) = true := rfl
theorem fz_map {α : Type} {f : α → PyData} (h : ∀ a, fz (f a) = true) (l : List α) : fz (.tuple (l.map f)) = true := fzAll_iff.mpr fun d hd => by
  obtain ⟨a, _, rfl⟩ := List.mem_map.mp hd
  exact h a
theorem fz_far (f : Far) : fz (farD f) = true := fz_map fz_opt f
theorem fz_places (f : List Nat) : fz (placesD f) = true := fz_map (fun _ => rfl) f
theorem fz_ties (f : List Tie) : fz (tiesD f) = true := fz_map fz_tie f
theorem fz_web (w : Web) : fz (webD w) = true := by
  have h := fz_ties w.ties
  show (true && (fz (tiesD w.ties) && true)) = true
  rw [h]
  rfl
/-! isinstance of ints -/
theorem ev_isiInt {K : Fg} {σ : Ks} {H : Hp} {ta : TE} {i : Int} {n : String} {b : Bool} (h : EvD K ta σ H (.int i)) (hb : kitB "int" n = some b) : Ev (tCB (rIsi K) (tCons ta (tCons (tC (.ty n)) tNil))) σ H (.bl b) := fun H1 e Q q =>
  h H1 e _ fun v H2 e2 d2 => by
    rw [dp_int d2]
    exact ⟨.int i, .ty n, _, _, b, rfl, .ty n, .base (.int i), kit_ty hb, q H2 e2⟩
section
variable {P : Program} {w : World} {K : Fg} {mg : Str → Option Value} {base : Heap}
/-! ### is_number (two of them, alike), for ints -/
def rNumber : Rel := fun ds r => ∃ i a b : Int, ds = [.int i, .int a, .int b] ∧ r = .bool (decide (a ≤ i) && decide (i ≤ b))
theorem ev_chain {σ : Ks} {H : Hp} {ta tb tc : TE} {i j l : Int} (ha : Ev ta σ H (.int i)) (hb : Ev tb σ H (.int j)) (hc : Ev tc σ H (.int l)) : Ev (tChain (rI0 fun i j => .bl (decide (i ≤ j))) (rI0 fun i j => .bl (decide (i ≤ j))) ta tb tc) σ H (.bl (decide (i ≤ j) && decide (j ≤ l))) := fun H1 e Q q =>
  ha H1 e _ fun H2 e2 => hb H2 (e.trans e2) _ fun H3 e3 => ⟨i, j, rfl, rfl, _, rfl, by
    cases h : decide (i ≤ j) with
    | true => exact iteT (hc H3 ((e.trans e2).trans e3) _ fun H4 e4 => ⟨j, l, rfl, rfl, by
        have q' := q H4 ((e2.trans e3).trans e4)
        rw [h, Bool.true_and] at q'
        exact q'⟩)
    | false =>
      have q' := q H3 (e2.trans e3)
      rw [h, Bool.false_and] at q'
      exact iteF q'⟩
theorem sc_is_number_kinds : FnScope ["thing", "least", "most"] ["thing", "least", "most"] (defScope (top 12)) := ⟨rfl, rfl, rfl, by decide +kernel, rfl, by decide +kernel, by decide +kernel⟩
theorem cal_is_number_kinds (T : Txt w K mg) : CalD P w K mg base 1 "is_number_kinds" (PureSp K rNumber) := by
  refine cal_of T.f_is_number_kinds T.g_is_number_kinds sc_is_number_kinds (fun _ _ _ _ _ _ us hl => match us, hl with | [_, _, _], _ => rfl) (fun ds r h => by obtain ⟨_, _, _, rfl, _⟩ := h; rfl) fun cdv A outer s H vs Q E hr ds r h hd k => ?_
  obtain ⟨i, a, b, rfl, rfl⟩ := h
  obtain ⟨v1, v2, v3, rfl, h1, h2, h3⟩ := dps3 hd
  refine ⟨_, (pss_one (ps_ret (pe_and (pe_callB call_isi (by rfl) T.m_isinstance bt_isinstance (pa_cons (pv 0) (pa_cons (pe_bltn (v := .ty "int") (by rfl) T.m_int bt_int rfl) pa_nil))) (pe_and (pe_not (pe_callB call_isi (by rfl) T.m_isinstance bt_isinstance (pa_cons (pv 0) (pa_cons (pe_bltn (v := .ty "bool") (by rfl) T.m_bool bt_bool rfl) pa_nil)))) (pe_one (pe_chain op_le op_le (pv 1) (pv 0) (pv 2))))))), ?_⟩
  exact d_ret (evd_bool (ev_is (ev_andV (a := true) (b := !false && (decide (a ≤ i) && decide (i ≤ b))) (ev_isiInt (evd_var rfl h1) rfl) fun _ => ev_andV (a := !false) (b := decide (a ≤ i) && decide (i ≤ b)) (ev_notV (ev_isiInt (evd_var rfl h1) rfl)) fun _ => ev_chain (ev_int (evd_var rfl h2)) (ev_int (evd_var rfl h1)) (ev_int (evd_var rfl h3))) rfl)) k
theorem sc_is_number_webs : FnScope ["thing", "least", "most"] ["thing", "least", "most"] (defScope (top 15)) := ⟨rfl, rfl, rfl, by decide +kernel, rfl, by decide +kernel, by decide +kernel⟩
theorem cal_is_number_webs (T : Txt w K mg) : CalD P w K mg base 1 "is_number_webs" (PureSp K rNumber) := by
  refine cal_of T.f_is_number_webs T.g_is_number_webs sc_is_number_webs (fun _ _ _ _ _ _ us hl => match us, hl with | [_, _, _], _ => rfl) (fun ds r h => by obtain ⟨_, _, _, rfl, _⟩ := h; rfl) fun cdv A outer s H vs Q E hr ds r h hd k => ?_
  obtain ⟨i, a, b, rfl, rfl⟩ := h
  obtain ⟨v1, v2, v3, rfl, h1, h2, h3⟩ := dps3 hd
  refine ⟨_, (pss_one (ps_ret (pe_and (pe_callB call_isi (by rfl) T.m_isinstance bt_isinstance (pa_cons (pv 0) (pa_cons (pe_bltn (v := .ty "int") (by rfl) T.m_int bt_int rfl) pa_nil))) (pe_and (pe_not (pe_callB call_isi (by rfl) T.m_isinstance bt_isinstance (pa_cons (pv 0) (pa_cons (pe_bltn (v := .ty "bool") (by rfl) T.m_bool bt_bool rfl) pa_nil)))) (pe_one (pe_chain op_le op_le (pv 1) (pv 0) (pv 2))))))), ?_⟩
  exact d_ret (evd_bool (ev_is (ev_andV (a := true) (b := !false && (decide (a ≤ i) && decide (i ≤ b))) (ev_isiInt (evd_var rfl h1) rfl) fun _ => ev_andV (a := !false) (b := decide (a ≤ i) && decide (i ≤ b)) (ev_notV (ev_isiInt (evd_var rfl h1) rfl)) fun _ => ev_chain (ev_int (evd_var rfl h2)) (ev_int (evd_var rfl h1)) (ev_int (evd_var rfl h3))) rfl)) k
/-! ### long_of -/
def rLong : Rel := fun ds r => ∃ (w : Web) (a b : Nat), ds = [webD w, nD a, nD b] ∧ r = optD (longOf w a b)
theorem eqv_pair (a b c d : Nat) : PyData.eqv (.tuple [nD a, nD b]) (.tuple [nD c, nD d]) = decide (a = c ∧ b = d) := by
  have e : ∀ x y : Nat, ((x : Int) == (y : Int)) = decide (x = y) := fun x y => by
    by_cases h : x = y
    · subst h; simp
    · have h2 : ¬ ((x : Int) = (y : Int)) := by omega
      rw [decide_eq_false h]
      exact beq_eq_false_iff_ne.mpr h2
  show ((a : Int) == (c : Int) && ((b : Int) == (d : Int) && true)) = _
  rw [e, e, Bool.and_true, Bool.decide_and]
theorem sh_pair (a b : Nat) : SeqAt.shaped (.tuple [nD a, nD b]) = true := rfl
theorem evd_slice2 {K : Fg} {σ : Ks} {H : Hp} {te : TE} {t : Tie} (h : EvD K te σ H (tieD t)) : EvD K (tSl (rSlT K) te tNoPart (tPart (tC (.int 2)))) σ H (.tuple [nD t.1, nD t.2.1]) :=
  evd_slT h evo_none (evo_some ev_c) (by show ¬ (HT.sIx 3 0 none = 0 ∧ HT.sIx 3 3 (some 2) = 3); decide)
theorem find_at {α : Type} {p : α → Bool} : ∀ {l : List α} {i : Nat} {t : α}, (∀ s ∈ l.take i, p s = false) → l[i]? = some t → p t = true → l.find? p = some t
  | [], _, _, _, h, _ => by simp at h
  | a :: l, 0, t, _, h, hp => by
    simp at h
    subst h
    rw [List.find?_cons, hp]
  | a :: l, i + 1, t, hn, h, hp => by
    rw [List.find?_cons, hn a (by simp)]
    exact find_at (i := i) (fun s hs => hn s (by simp [hs])) (by simpa using h) hp
theorem sc_long_of : FnScope ["web", "one", "other", "pair", "tie"] ["web", "one", "other"] (defScope (top 17)) := ⟨rfl, rfl, rfl, by decide +kernel, rfl, by decide +kernel, by decide +kernel⟩
theorem cal_long_of (T : Txt w K mg) : CalD P w K mg base 1 "long_of" (PureSp K rLong) := by
  refine cal_of T.f_long_of T.g_long_of sc_long_of (fun _ _ _ _ _ _ us hl => match us, hl with | [_, _, _], _ => rfl) (fun ds r h => by obtain ⟨_, _, _, rfl, _⟩ := h; rfl) fun cdv A outer s H vs Q E hr ds r h hd k => ?_
  obtain ⟨W, a, b, rfl, rfl⟩ := h
  obtain ⟨v1, v2, v3, rfl, h1, h2, h3⟩ := dps3 hd
  refine ⟨_, (pss_cons (ps_set (i := 3) sc_long_of.nd rfl (Or.inl rfl) (pe_tup (pa_cons (pe_callB (call_min2 rfl) (by rfl) T.m_min bt_min (pa_cons (pv 1) (pa_cons (pv 2) pa_nil))) (pa_cons (pe_callB (call_max2 rfl) (by rfl) T.m_max bt_max (pa_cons (pv 1) (pa_cons (pv 2) pa_nil))) pa_nil))))
      (pss_cons (ps_for PassesOwn.never rfl (pi_tup (pe_ix ix_tup (pv 0) pe_int (fun _ _ => rfl))) (pg_name (i := 4) sc_long_of.nd rfl (Or.inl rfl)) (pss_one (ps_if (pt_cmpR (op_eqD hr.units) (pe_slice sl_tup (pv 4) po_none (po_some pe_int)) (pv 3) (nomark _)) (pss_one (ps_ret (pe_ix ix_tup (pv 4) pe_int (fun _ _ => rfl)))) pss_nil)))
      (pss_one (ps_ret pe_non)))), ?_⟩
  refine d_set (evd_tup (evds_cons (evd_min2 (evd_var rfl h2) (evd_var rfl h3)) (evds_cons (evd_max2 (evd_var rfl h2) (evd_var rfl h3)) evds_nil)) (by show 2 ≤ 100000; decide)) fun vp H1 e1 hp => ?_
  refine dq_for (evi_item rfl (Dpx h1 e1) ixD1) (Ex.refl _) (fun i σ' H' => ∃ x, σ' = [some v1, some v2, some v3, some vp, x] ∧ Ex H1 H' ∧ ∀ t ∈ W.ties.take i, ¬ (t.1 = min a b ∧ t.2.1 = max a b))
    (fun H2 e2 => ⟨none, rfl, e2, by simp⟩) (fun i σ' H' p => p.choose_spec.2.1) (fun i d x σ' H3 H4 hi p e4 hx => ?_) fun σ' H' p => ?_
  · obtain ⟨x0, rfl, e3, hno⟩ := p
    rw [List.getElem?_map] at hi
    obtain ⟨t, ht, rfl⟩ := Option.map_eq_some_iff.mp hi
    have e14 := e3.trans e4
    refine d_if1 (evt_eqT (ev_eqD (evd_slice2 (evd_var rfl hx)) (evd_var rfl (Dpx hp e14)) (sh_pair _ _) (sh_pair _ _))) (fun hb H5 e5 => ?_) fun hb H5 e5 => ?_
    · rw [eqv_pair, decide_eq_true_eq] at hb
      have e : longOf W a b = some t.2.2 := by
        unfold longOf
        rw [find_at (i := i) (fun s hs => decide_eq_false (hno s hs)) ht (decide_eq_true hb)]
        rfl
      rw [e] at k
      exact d_ret (evd_i2 (evd_var rfl (Dpx hx e5))) fun v H6 e6 d6 => k v H6 ((((e1.trans e3).trans e4).trans e5).trans e6) d6
    · rw [eqv_pair, decide_eq_false_iff_not] at hb
      refine ⟨_, rfl, e14.trans e5, fun s hs => ?_⟩
      rw [List.take_add_one, ht] at hs
      rcases List.mem_append.mp hs with hs | hs
      · exact hno s hs
      · simp at hs
        rw [hs]
        exact hb
  · obtain ⟨x0, rfl, e3, hno⟩ := p
    rw [List.length_map, List.take_length] at hno
    have e : longOf W a b = none := by
      unfold longOf
      rw [List.find?_eq_none.mpr (fun t ht => by simpa using hno t ht)]
      rfl
    rw [e] at k
    refine d_ret (evd_non (K := K)) fun v H6 e6 d6 => ?_
    exact k v H6 ((e1.trans e3).trans e6) d6
end
end Lw
namespace Lw
open PySem PySem.Spec PyProof.Rows L2 Evl LwM
section
variable {P : Program} {w : World} {K : Fg} {mg : Str → Option Value} {base : Heap}
/-! ### beside -/
def rBeside : Rel := fun ds r => ∃ (W : Web) (a : Nat), WebOk W ∧ ds = [webD W, nD a] ∧ r = placesD (besideL W a)
theorem sc_beside : FnScope ["web", "place", "found", "a", "b", "long"] ["web", "place"] (defScope (top 18)) := ⟨rfl, rfl, rfl, by decide +kernel, rfl, by decide +kernel, by decide +kernel⟩
theorem cal_beside (T : Txt w K mg) : CalD P w K mg base 1 "beside" (PureSp K rBeside) := by
  refine cal_of T.f_beside T.g_beside sc_beside (fun _ _ _ _ _ _ us hl => match us, hl with | [_, _], _ => rfl) (fun ds r h => by obtain ⟨_, _, _, rfl, _⟩ := h; rfl) fun cdv A outer s H vs Q E hr ds r h hd k => ?_
  obtain ⟨W, a, ok, rfl, rfl⟩ := h
  obtain ⟨v1, v2, rfl, h1, h2⟩ := dps2 hd
  refine ⟨_, (pss_cons (ps_setLc (i := 2) (own := [("a", 3), ("b", 4), ("long", 5)]) (g := gTup K 3 (gCons (gName 3) (gCons (gName 4) (gCons (gName 5) gNil)))) rfl sc_beside.nd rfl rfl (sw_true rfl rfl rfl (by decide +kernel)) (pi_tup (pe_ix ix_tup (pv 0) pe_int (fun _ _ => rfl))) (blkOk_by (N := ["web", "place", "found", "a", "b", "long"]) (sc := defScope (top 18)) (by decide +kernel)) (fun _ _ _ _ _ => (pg_tup rfl (pgs_cons (pg_name (i := 3) sc_beside.nd rfl (Or.inl rfl)) (pgs_cons (pg_name (i := 4) sc_beside.nd rfl (Or.inl rfl)) (pgs_cons (pg_name (i := 5) sc_beside.nd rfl (Or.inl rfl)) pgs_nil))))) (fun _ _ _ _ _ => (pts_one (pt_cmpR op_eq (pv 3) (pv 1) (nomark _)))) (fun _ _ _ _ _ => (pv 4)))
      (pss_cons (ps_expr (pe_bm PySem.F.plainAttrs_list PySem.F.slot_list_extend PySem.F.type_list_extend mt_extend (pv 2) (pa_cons (pe_lc (own := [("a", 3), ("b", 4), ("long", 5)]) (g := gTup K 3 (gCons (gName 3) (gCons (gName 4) (gCons (gName 5) gNil)))) rfl sc_beside.nd (pi_tup (pe_ix ix_tup (pv 0) pe_int (fun _ _ => rfl))) (blkOk_by (N := ["web", "place", "found", "a", "b", "long"]) (sc := defScope (top 18)) (by decide +kernel)) (fun _ _ _ _ _ => (pg_tup rfl (pgs_cons (pg_name (i := 3) sc_beside.nd rfl (Or.inl rfl)) (pgs_cons (pg_name (i := 4) sc_beside.nd rfl (Or.inl rfl)) (pgs_cons (pg_name (i := 5) sc_beside.nd rfl (Or.inl rfl)) pgs_nil))))) (fun _ _ _ _ _ => (pts_one (pt_cmpR op_eq (pv 4) (pv 1) (nomark _)))) (fun _ _ _ _ _ => (pv 3))) pa_nil)))
      (pss_one (ps_ret (pe_callTy call_tuple_of (by rfl) T.m_tuple bt_tuple (pa_cons (pe_callB cr_sortedI (by rfl) T.m_sorted bt_sorted (pa_cons (pv 2) pa_nil)) pa_nil)))))), ?_⟩
  refine q_setN (evn_lcA (enc := tieD) (l := W.ties) (fun t => decide (t.1 = a)) (fun t => nD t.2.1) (evi_item rfl h1 ixD1).j (by have := ok.few; omega) (fun _ _ _ => rfl) fun t x H3 P _ e3 dx q => ?_) fun p xs H1 np e1 hp dp => ?_
  · exact g_tup3 dx fun y1 y2 y3 q1 q2 q3 => q _ rfl (et_test (ev_eqN (evd_var rfl q1) (evd_var rfl (Dpx h2 e3)))) fun _ => evd_var rfl q2
  have lx : xs.length ≤ 60 := by
    rw [dps_len dp, List.length_map]
    exact Nat.le_trans (List.length_filter_le _ _) ok.few
  refine q_extend hp rfl (evn_lcA (enc := tieD) (l := W.ties) (fun t => decide (t.2.1 = a)) (fun t => nD t.1) (evi_item rfl (Dpx h1 e1) ixD1).j (by have := ok.few; omega) (fun _ _ _ => rfl) fun t x H3 P _ e3 dx q => ?_) ?_ fun ys H2 e2 dy => ?_
  · exact g_tup3 dx fun y1 y2 y3 q1 q2 q3 => q _ rfl (et_test (ev_eqN (evd_var rfl q2) (evd_var rfl (Dpx h2 (e1.trans e3))))) fun _ => evd_var rfl q1
  · have := List.length_filter_le (fun t : Tie => decide (t.2.1 = a)) W.ties
    have := ok.few
    rw [List.length_map]
    omega
  have h2p := e2 _ _ hp
  have ns : (W.ties.filter fun t => decide (t.1 = a)).map (fun t => nD t.2.1) ++ (W.ties.filter fun t => decide (t.2.1 = a)).map (fun t => nD t.1) = ((besideF W a).map fun (n : Nat) => (n : Int)).map .int := by
    unfold besideF
    rw [List.map_append, List.map_append, List.map_map, List.map_map, List.map_map, List.map_map]
    rfl
  have dall : DpAll K (upd H2 p (.lst (xs ++ ys))) (xs ++ ys) (((besideF W a).map fun (n : Nat) => (n : Int)).map .int) := by
    rw [← ns]
    refine Dpst (dps_app (Dpsx dp e2) dy) (tk_updL h2p) (fzAll_iff.mpr fun z hz => ?_)
    rcases List.mem_append.mp hz with hz | hz <;> (obtain ⟨_, _, rfl⟩ := List.mem_map.mp hz; rfl)
  have eH : Ex H (upd H2 p (.lst (xs ++ ys))) := Ex.mut (e1.trans e2) np
  refine d_ret (evd_tupL (evn_sortedI (evd_var rfl (dp_locD upd_same dall)) fun ns' hp hs => beside_sorted ok hp hs).toD) fun v H3 e3 d3 => ?_
  refine k v H3 (eH.trans e3) ?_
  rw [List.map_map] at d3
  exact d3
/-! ### lesser -/
def rLesser : Rel := fun ds r => ∃ (f o : Option Nat) (l : Nat), ds = [optD f, optD o, nD l] ∧ r = optD (lesser f o l)
theorem sc_lesser : FnScope ["far", "other", "long"] ["far", "other", "long"] (defScope (top 20)) := ⟨rfl, rfl, rfl, by decide +kernel, rfl, by decide +kernel, by decide +kernel⟩
theorem cal_lesser (T : Txt w K mg) : CalD P w K mg base 1 "lesser" (PureSp K rLesser) := by
  refine cal_of T.f_lesser T.g_lesser sc_lesser (fun _ _ _ _ _ _ us hl => match us, hl with | [_, _, _], _ => rfl) (fun ds r h => by obtain ⟨_, _, _, rfl, _⟩ := h; rfl) fun cdv A outer s H vs Q E hr ds r h hd k => ?_
  obtain ⟨f, o, l, rfl, rfl⟩ := h
  obtain ⟨v1, v2, v3, rfl, h1, h2, h3⟩ := dps3 hd
  refine ⟨_, (pss_cons (ps_if (pt_cmpR op_isN (pv 1) pe_non (nomark _)) (pss_one (ps_ret (pv 0))) pss_nil)
      (pss_cons (ps_if (PW.pt (pw_or (pt_cmpR op_isN (pv 0) pe_non (nomark _)) (pw_or1 (pt_cmpR op_lt (pe_op op_add (pv 1) (pv 2)) (pv 0) (nomark _))))) (pss_one (ps_ret (pe_op op_add (pv 1) (pv 2)))) pss_nil)
      (pss_one (ps_ret (pv 0))))), ?_⟩
  cases o with
  | none => exact d_when (b := true) (et_test (ev_isN (evd_var rfl h2))) (fun _ H1 e1 => d_ret (evd_var rfl (Dpx h1 e1)) fun v H2 e2 d2 => k v H2 (e1.trans e2) d2) (fun z => by cases z)
  | some o =>
    refine d_when (b := false) (et_test (ev_isN (evd_var rfl h2))) (fun z => by cases z) fun _ H1 e1 => ?_
    cases f with
    | none =>
      refine d_when (b := true || true) (et_or (a := true) (et_test (ev_isN (evd_var rfl (Dpx h1 e1)))) (fun z => by cases z)) (fun _ H2 e2 => ?_) (fun z => by cases z)
      have e12 := e1.trans e2
      exact d_ret (evd_add (a := o) (b := l) (evd_var rfl (Dpx h2 e12)) (evd_var rfl (Dpx h3 e12))) fun v H3 e3 d3 => k v H3 (e12.trans e3) d3
    | some f =>
      refine d_when (b := false || decide (o + l < f)) (et_or (a := false) (et_test (ev_isN (evd_var rfl (Dpx h1 e1)))) (fun _ => et_test (ev_ltN (a := o + l) (b := f) (evd_add (evd_var rfl (Dpx h2 e1)) (evd_var rfl (Dpx h3 e1))) (evd_var rfl (Dpx h1 e1))))) (fun hb H2 e2 => ?_) fun hb H2 e2 => ?_
      · have e12 := e1.trans e2
        rw [Bool.false_or, decide_eq_true_eq] at hb
        have e : lesser (some f) (some o) l = some (o + l) := if_pos hb
        rw [e] at k
        exact d_ret (evd_add (a := o) (b := l) (evd_var rfl (Dpx h2 e12)) (evd_var rfl (Dpx h3 e12))) fun v H3 e3 d3 => k v H3 (e12.trans e3) d3
      · have e12 := e1.trans e2
        rw [Bool.false_or, decide_eq_false_iff_not] at hb
        have e : lesser (some f) (some o) l = some f := if_neg hb
        rw [e] at k
        exact d_ret (evd_var rfl (Dpx h1 e12)) fun v H3 e3 d3 => k v H3 (e12.trans e3) d3
end
end Lw
namespace Lw
open PySem PySem.Spec PyProof.Rows L2 Evl LwM
theorem getN_at {f : Far} {j : Nat} (h : j < f.length) : f[j]? = some (getN f j) := by
  unfold getN
  rw [List.getD_eq_getElem?_getD, List.getElem?_eq_getElem h]
  rfl
section
variable {P : Program} {w : World} {K : Fg} {mg : Str → Option Value} {base : Heap}
def rowsD (W : Web) : PyData := .tuple ((List.range W.n).map fun i => farD (lensFrom W i))
theorem fz_rows (W : Web) : fz (rowsD W) = true := fz_map (fun i => fz_far _) _
/-! ### lengths_from -/
def rLens : Rel := fun ds r => ∃ (W : Web) (a : Nat), WebOk W ∧ a < W.n ∧ ds = [webD W, nD a] ∧ r = farD (lensFrom W a)
/-- far[j] of the local list -/
theorem evd_far {K : Fg} {σ : Ks} {H : Hp} {tb : TE} {l : Addr} {f : Far} {i j : Nat} (hl : H l = some (.lst (f.map optV))) (ho : σ[i]? = some (some (.ref l))) (hi : EvD K tb σ H (nD j)) (hj : j < f.length) : EvD K (tOp (rIxL K) (tVar i) tb) σ H (optD (getN f j)) :=
  evd_atL (f := optD) (l := f) (evd_var ho (dp_loc hl)) hi (getN_at hj)
theorem sc_lengths_from : FnScope ["web", "place", "far", "other", "turn", "a", "b", "long"] ["web", "place"] (defScope (top 21)) := ⟨rfl, rfl, rfl, by decide +kernel, rfl, by decide +kernel, by decide +kernel⟩
theorem cal_lengths_from (T : Txt w K mg) : CalD P w K mg base 2 "lengths_from" (PureSp K rLens) := by
  refine cal_of T.f_lengths_from T.g_lengths_from sc_lengths_from (fun _ _ _ _ _ _ us hl => match us, hl with | [_, _], _ => rfl) (fun ds r h => by obtain ⟨_, _, _, _, rfl, _⟩ := h; rfl) fun cdv A outer s H vs Q E hr ds r h hd k => ?_
  obtain ⟨W, a, ok, ha, rfl, rfl⟩ := h
  obtain ⟨v1, v2, rfl, h1, h2⟩ := dps2 hd
  refine ⟨_, (pss_cons (ps_setLc (i := 2) (own := [("other", 3)]) rfl sc_lengths_from.nd rfl rfl (sw_true rfl rfl rfl (by decide +kernel)) (pi_range1 rfl T.m_range (pa_cons (pe_ix ix_tup (pv 0) pe_int (fun _ _ => rfl)) pa_nil)) (blkOk_by (N := ["web", "place", "far", "other", "turn", "a", "b", "long"]) (sc := defScope (top 21)) (by decide +kernel)) (fun _ _ _ _ _ => (pg_name (i := 3) sc_lengths_from.nd rfl (Or.inl rfl))) (fun _ _ _ _ _ => pts_nil) (fun _ _ _ _ _ => pe_non))
      (pss_cons (ps_asg pe_int (pg_sub (pv 2) (pv 1) set_list))
      (pss_cons (ps_for PassesOwn.never rfl (pi_range1 rfl T.m_range (pa_cons (pe_ix ix_tup (pv 0) pe_int (fun _ _ => rfl)) pa_nil)) (pg_name (i := 4) sc_lengths_from.nd rfl (Or.inl rfl)) (pss_one (ps_for PassesOwn.never rfl (pi_tup (pe_ix ix_tup (pv 0) pe_int (fun _ _ => rfl))) (pg_tup rfl (pgs_cons (pg_name (i := 5) sc_lengths_from.nd rfl (Or.inl rfl)) (pgs_cons (pg_name (i := 6) sc_lengths_from.nd rfl (Or.inl rfl)) (pgs_cons (pg_name (i := 7) sc_lengths_from.nd rfl (Or.inl rfl)) pgs_nil)))) (pss_cons (ps_asg (pe_cal (cal_lesser T) hr (by decide) (by rfl) (pa_cons (pe_ix ix_list (pv 2) (pv 6) (fun _ _ => rfl)) (pa_cons (pe_ix ix_list (pv 2) (pv 5) (fun _ _ => rfl)) (pa_cons (pv 7) pa_nil)))) (pg_sub (pv 2) (pv 6) set_list))
      (pss_one (ps_asg (pe_cal (cal_lesser T) hr (by decide) (by rfl) (pa_cons (pe_ix ix_list (pv 2) (pv 5) (fun _ _ => rfl)) (pa_cons (pe_ix ix_list (pv 2) (pv 6) (fun _ _ => rfl)) (pa_cons (pv 7) pa_nil)))) (pg_sub (pv 2) (pv 5) set_list)))))))
      (pss_one (ps_ret (pe_callTy call_tuple_of (by rfl) T.m_tuple bt_tuple (pa_cons (pv 2) pa_nil))))))), ?_⟩
  have most := ok.most
  have en : ∀ {H'} (e : Ex H H') {σ : Ks}, σ[0]? = some (some v1) → EvD K (tOp (rIxT K) (tVar 0) (tC (.int 0))) σ H' (nD W.n) := fun e σ hs => evd_i0 (evd_var hs (Dpx h1 e))
  refine q_setN (K := K) (evn_lcB (enc := nD) (l := List.range W.n) (fun _ => .none) (evi_range (ev_n (en (Ex.refl _) rfl)) (by omega)).j (by rw [List.length_range]; omega) (fun _ _ => rfl) fun t x H3 P _ e3 dx q => q _ rfl (evd_non (K := K))) fun p xs H1 np e1 hp dp => ?_
  have ex : xs = (List.replicate W.n (none : Option Nat)).map optV := by
    have e : (List.range W.n).map (fun _ => PyData.none) = (List.replicate W.n (none : Option Nat)).map optD := by
      rw [List.map_const', List.map_replicate, List.length_range]
      rfl
    rw [e] at dp
    clear e
    have key : ∀ {xs : List V} {f : List (Option Nat)}, DpAll K H1 xs (f.map optD) → xs = f.map optV := by
      intro xs f
      induction f generalizing xs with
      | nil => intro h; cases h; rfl
      | cons o f ih =>
        intro h
        cases h with
        | cons a t => rw [dp_opt a, ih t]; rfl
    exact key dp
  subst ex
  refine q_setO (K := K) (o := some 0) hp (evd_cn 0) rfl (evd_var rfl (Dpx h2 e1)) (by rw [List.length_replicate]; exact ha) fun H2 e2 => ?_
  have eH2 : Ex H (upd H2 p (.lst ((start0 W.n a).map optV))) := Ex.mut (e1.trans e2) np
  refine dq_for (K := K) (G := H) (evi_range (ev_n (en (Ex.refl _) rfl)) (by omega)) eH2 (fun i σ' H' => ∃ x3 x4 x5 x6 x7, σ' = [some v1, some v2, some (.ref p), x3, x4, x5, x6, x7] ∧ Ex H H' ∧ H' p = some (.lst ((rounds W.ties i (start0 W.n a)).map optV)))
    (fun H3 e3 => ⟨none, none, none, none, none, rfl, eH2.trans e3, e3 _ _ upd_same⟩) (fun i σ' H' p => by obtain ⟨_, _, _, _, _, _, e, _⟩ := p; exact e) (fun i d x σ' H3 H4 hi q e4 dx => ?_) fun σ' H' q => ?_
  · obtain ⟨x3, x4, x5, x6, x7, rfl, e3, hp3⟩ := q
    have len : (rounds W.ties i (start0 W.n a)).length = W.n := by
      unfold start0
      rw [len_rounds, List.length_set, List.length_replicate]
    refine d_for (G := H) (evi_item rfl h1 ixD1) (e3.trans e4) (fun j σ' H' => ∃ x5 x6 x7, σ' = [some v1, some v2, some (.ref p), x3, some x, x5, x6, x7] ∧ Ex H H' ∧ H' p = some (.lst (((W.ties.take j).foldl relax (rounds W.ties i (start0 W.n a))).map optV)))
      (fun H5 e5 => ⟨x5, x6, x7, rfl, (e3.trans e4).trans e5, e5 _ _ (e4 _ _ hp3)⟩) (fun i σ' H' p => by obtain ⟨_, _, _, _, e, _⟩ := p; exact e) (fun j d2 y σ' H5 H6 hj q e6 dy => ?_) fun σ' H' q => ?_
    · obtain ⟨z5, z6, z7, rfl, e5, hp5⟩ := q
      rw [List.getElem?_map] at hj
      obtain ⟨t, ht, rfl⟩ := Option.map_eq_some_iff.mp hj
      have tok := ok.tie t (List.mem_of_getElem? ht)
      refine g_tup3 dy fun y1 y2 y3 q1 q2 q3 => ?_
      obtain ⟨f, ef⟩ : ∃ f, f = (W.ties.take j).foldl relax (rounds W.ties i (start0 W.n a)) := ⟨_, rfl⟩
      rw [← ef] at hp5
      have lf : f.length = W.n := by
        rw [ef]
        exact (len_round _ _).trans len
      have hp6 := e6 _ _ hp5
      refine q_setO hp6 (evd_call (evds_cons (evd_far hp6 rfl (evd_var rfl q2) (by rw [lf]; exact tok.2.1)) (evds_cons (evd_far hp6 rfl (evd_var rfl q1) (by rw [lf]; omega)) (evds_cons (evd_var rfl q3) evds_nil))) ⟨_, _, _, rfl, rfl⟩) rfl (evd_var rfl q2) (by rw [lf]; exact tok.2.1) fun H7 e7 => ?_
      have tk7 : Tk H6 (upd H7 p (.lst ((relax1 f t).map optV))) := (Tk.ex e7).trans (tk_updL (e7 _ _ hp6))
      have q1' := Dpt q1 tk7 rfl
      have q2' := Dpt q2 tk7 rfl
      have q3' := Dpt q3 tk7 rfl
      have l1 : (f.set t.2.1 (lesser (getN f t.2.1) (getN f t.1) t.2.2)).length = W.n := by rw [List.length_set, lf]
      refine l_setO (f := relax1 f t) upd_same (evd_call (evds_cons (evd_far upd_same rfl (evd_var rfl q1') (by rw [l1]; omega)) (evds_cons (evd_far upd_same rfl (evd_var rfl q2') (by rw [l1]; exact tok.2.1)) (evds_cons (evd_var rfl q3') evds_nil))) ⟨_, _, _, rfl, rfl⟩) rfl (evd_var rfl q1') (by show t.1 < (f.set t.2.1 (lesser (getN f t.2.1) (getN f t.1) t.2.2)).length; rw [l1]; omega) fun H8 e8 => ?_
      refine ⟨_, _, _, rfl, Ex.mut ((Ex.mut ((e5.trans e6).trans e7) np).trans e8) np, ?_⟩
      rw [upd_same, List.take_add_one, ht, List.foldl_append, ← ef]
      rfl
    · obtain ⟨z5, z6, z7, rfl, e5, hp5⟩ := q
      refine ⟨_, _, _, _, _, rfl, e5, ?_⟩
      rw [hp5, List.length_map, List.take_length]
      rfl
  · obtain ⟨x3, x4, x5, x6, x7, rfl, e3, hp3⟩ := q
    rw [upto_len] at hp3
    exact d_ret (evd_tupL (evd_var rfl (dp_loc hp3))) fun v H4 e4 d4 => k v H4 (e3.trans e4) d4
/-! ### lengths -/
def rLengths : Rel := fun ds r => ∃ (W : Web), WebOk W ∧ ds = [webD W] ∧ r = rowsD W
theorem sc_lengths : FnScope ["web", "place"] ["web"] (defScope (top 22)) := ⟨rfl, rfl, rfl, by decide +kernel, rfl, by decide +kernel, by decide +kernel⟩
theorem cal_lengths (T : Txt w K mg) : CalD P w K mg base 3 "lengths" (PureSp K rLengths) := by
  refine cal_of T.f_lengths T.g_lengths sc_lengths (fun _ _ _ _ _ _ us hl => match us, hl with | [_], _ => rfl) (fun ds r h => by obtain ⟨_, _, rfl, _⟩ := h; rfl) fun cdv A outer s H vs Q E hr ds r h hd k => ?_
  obtain ⟨W, ok, rfl, rfl⟩ := h
  obtain ⟨v1, rfl, h1⟩ := dps1 hd
  refine ⟨_, (pss_one (ps_ret (pe_callTy call_tuple_of (by rfl) T.m_tuple bt_tuple (pa_cons (pe_lc (own := [("place", 1)]) rfl sc_lengths.nd (pi_range1 rfl T.m_range (pa_cons (pe_ix ix_tup (pv 0) pe_int (fun _ _ => rfl)) pa_nil)) (blkOk_by (N := ["web", "place"]) (sc := defScope (top 22)) (by decide +kernel)) (fun _ _ _ _ _ => (pg_name (i := 1) sc_lengths.nd rfl (Or.inl rfl))) (fun _ _ _ _ _ => pts_nil) (fun _ _ _ _ _ => (pe_cal (cal_lengths_from T) hr (by decide) (by rfl) (pa_cons (pv 0) (pa_cons (pv 1) pa_nil))))) pa_nil)))), ?_⟩
  have most := ok.most
  refine d_ret (evd_tupL (evn_lcB (enc := nD) (l := List.range W.n) (fun i => farD (lensFrom W i)) (evi_range (ev_n (evd_i0 (evd_var rfl h1))) (by omega)).j (by rw [List.length_range]; omega) (fun _ _ => fz_far _) fun t x H3 P ht e3 dx q => ?_).toD) k
  exact q _ rfl (evd_call (evds_cons (evd_var rfl (Dpx h1 e3)) (evds_cons (evd_var rfl dx) evds_nil)) ⟨W, t, ok, List.mem_range.mp ht, rfl, rfl⟩)
end
end Lw
/-! Rules that lack: sorted of tuples by their first ints, of a tuple, of a dict with tuple keys; min of data; extend by a tuple. -/
namespace Lw
open PySem PySem.Spec PyProof.Rows L2 SrtO
section
variable {prog : Program} {w : World} {A : Around} {E : Value → Shared → Prop} {s : Shared}
theorem collect_tup {l : Addr} {vs : List Value} {Q : List Value → Shared → Prop} (hl : IsTup s.heap l vs.toArray)
    (h : Q vs { s with heap := (s.heap.push (seqObj "list" #[] 0)).update s.heap.objs.size (Obj.mapSeq (· ++ vs.toArray)) }) (hsz : vs.length ≤ sizeLine := by size_fits) :
    wpAny (model prog w) A (collect (.ref l)) Q E s := by
  obtain ⟨o, ho, hc, n, hd⟩ := id hl
  unfold collect
  refine wpAny_bind (wpAny_runValue (codeAny_builtin entry_proto_collect' ?_))
  show wpAny _ _ (do again (.builtin "list.__iadd__" ⟨[← newList [], .ref l], []⟩)) _ _ s
  refine wpAny_bind (wpAny_newList (wpAny_pure ⟨Code.quiet_builtin _ (by decide +kernel), codeAny_builtin entry_list_iadd' ?_⟩))
  show wpAny _ _ (Builtin.List.listExtendWith (.ref s.heap.objs.size) (.ref l) (.ref s.heap.objs.size)) _ _ { s with heap := s.heap.push (seqObj "list" #[] 0) }
  unfold Builtin.List.listExtendWith
  have ho' : (s.heap.push (seqObj "list" #[] 0)).get? l = some o := Heap.get?_push_of_some _ ho
  refine wpAny_bind (wpAny_typeOf (T := "tuple") ⟨o, ho', hc⟩ ?_)
  have ht : (Value.type "tuple" == Value.type "tuple") = true := by rfl
  rw [if_pos (by rw [ht]; simp)]
  refine wpAny_bind (listItems_at ho' hd ?_)
  refine wpAny_bind (listItems_at (xs := #[]) (n := 0) (Heap.get?_push_size _ rfl) rfl ?_)
  rw [if_neg (by simp)]
  refine wpAny_bind (listUpdate_at (xs := #[]) (n := 0) (Heap.get?_push_size _ rfl) rfl ?_ (Nat.zero_le _) (by show (#[] ++ vs.toArray).size ≤ sizeLine + 1; simp only [Array.size_append, List.size_toArray, List.length_nil]; omega))
  refine wpAny_pure ?_
  show wpAny (model prog w) A (do
      let o ← load s.heap.objs.size
      match o.data with
      | .seq xs _ => pure xs.toList
      | _ => unsupported "internal:collect") Q E { s with heap := (s.heap.push (seqObj "list" #[] 0)).update s.heap.objs.size (Obj.mapSeq (· ++ vs.toArray)) }
  refine wpAny_bind (wpAny_load (get?_update_seq (Heap.get?_push_size _ rfl) _) ?_)
  show wpAny _ _ (pure ((#[] : Array Value) ++ vs.toArray).toList) Q E _
  rw [show ((#[] : Array Value) ++ vs.toArray).toList = vs by simp]
  exact wpAny_pure h
/-- sorted(x), whatever is collected -/
theorem sorted_gen {x : Value} {Q : Value → Shared → Prop}
    (hc : wpAny (model prog w) A.in1 (collect x) (fun vs s1 => ∃ h' tk ltv, s1 = { s with heap := h', toks := tk } ∧ (∀ b o, s.heap.get? b = some o → h'.get? b = some o) ∧ vs.length ≤ sizeLine ∧ Swo ltv ∧
      (2 ≤ vs.length → ∀ (h₁ : Heap) (a : Addr), h₁.get? a = some (seqObj "list" vs.toArray 0) → (∀ b o, s.heap.get? b = some o → b ≠ a ∧ h₁.get? b = some o) → SortableO prog w A.in1.in1 { s with heap := h₁, toks := tk } a vs ltv) ∧
      ∀ (out : List Value) (h2 : Heap) (d n : Nat), Srtd ltv out → Stb ltv out vs → (∀ b o, h'.get? b = some o → h2.get? b = some o) → h'.objs.size ≤ d → h2.get? d = some (seqObj "list" out.toArray n) → Q (.ref d) { s with heap := h2, toks := tk }) E s) :
    wpAny (model prog w) A (call (.builtin "sorted") [x]) Q E s := by
  refine Calls.call_function_entry PyProof.Rows.kind_sorted PyProof.Rows.plain_sorted PyProof.Rows.entry_sorted (PyProof.Rows.args_sorted1 _) ?_
  unfold Builtin.«sorted»
  refine wpAny_bind (m := checkCount "sorted" 1 1 _) (wpAny_pure ?_)
  refine wpAny_bind (wpAny_mono hc (fun vs s1 q => ?_) fun _ _ e => e)
  obtain ⟨h', tk, ltv, rfl, kp, hz, O, hS, fin⟩ := q
  refine wpAny_bind (wpAny_newList ?_ hz)
  have hoL : (h'.push (seqObj "list" vs.toArray 0)).get? h'.objs.size = some (seqObj "list" vs.toArray 0) := Heap.get?_push_size _ rfl
  show wpAny _ _ _ _ _ { s with heap := h'.push (seqObj "list" vs.toArray 0), toks := tk }
  have keep : ∀ b o, s.heap.get? b = some o → b ≠ h'.objs.size ∧ (h'.push (seqObj "list" vs.toArray 0)).get? b = some o := fun b o q => ⟨Nat.ne_of_lt (Heap.lt_size (kp b o q)), Heap.get?_push_of_some _ (kp b o q)⟩
  refine wpAny_bind (wpAny_holding (wpAny_call_entry PyProof.Rows.slot_list_sort ⟨_, hoL, rfl⟩ PyProof.Rows.entry_list_sort
    (list_sort_ord (s := { s with heap := h'.push (seqObj "list" vs.toArray 0), toks := tk }) O hoL hz (fun h2 => hS h2 _ _ hoL keep) fun out g1 g2 => ⟨_, rfl, ?_⟩) (PyProof.Rows.args_list_sort _)))
  obtain ⟨e', he'⟩ := PyProof.Rows.sortedHeap_at (vs := vs) (out := out.toArray) hoL
  refine wpAny_pure ⟨_, rfl, fin out _ _ e' g1 g2 (fun b u e => ?_) (Nat.le_refl _) he'⟩
  have k1 : (h'.push (seqObj "list" vs.toArray 0)).get? b = some u := Heap.get?_push_of_some _ e
  exact (PyProof.Rows.sortedHeap_old (Nat.ne_of_lt (Heap.lt_size e)) (Heap.lt_size k1)).trans k1
theorem sorted_of_tup {l : Addr} {vs : List Value} {ltv : Value → Value → Bool} {Q : Value → Shared → Prop} (O : Swo ltv) (hl : IsTup s.heap l vs.toArray) (hz : vs.length ≤ sizeLine)
    (hS : 2 ≤ vs.length → ∀ (h₁ : Heap) (a : Addr), h₁.get? a = some (seqObj "list" vs.toArray 0) → (∀ b o, s.heap.get? b = some o → b ≠ a ∧ h₁.get? b = some o) → SortableO prog w A.in1.in1 { s with heap := h₁ } a vs ltv)
    (h : ∀ (out : List Value) (h2 : Heap) (d n : Nat), Srtd ltv out → Stb ltv out vs → (∀ b o, s.heap.get? b = some o → h2.get? b = some o) → s.heap.objs.size ≤ d → h2.get? d = some (seqObj "list" out.toArray n) → Q (.ref d) { s with heap := h2 }) :
    wpAny (model prog w) A (call (.builtin "sorted") [.ref l]) Q E s := by
  have k : ∀ b o, s.heap.get? b = some o → ((s.heap.push (seqObj "list" #[] 0)).update s.heap.objs.size (Obj.mapSeq (· ++ vs.toArray))).get? b = some o := fun b o q => by
    rw [Heap.get?_update_ne _ _ _ _ (Nat.ne_of_lt (Heap.lt_size q))]
    exact Heap.get?_push_of_some _ q
  refine sorted_gen (collect_tup hl ⟨_, s.toks, ltv, rfl, k, hz, O, hS, fun out h2 d n g1 g2 kp hd hn => h out h2 d n g1 g2 (fun b o q => kp b o (k b o q)) (Nat.le_trans ?_ hd) hn⟩ hz)
  rw [Heap.size_update, PyProof.Rows.size_push']
  exact Nat.le_succ _
/-! ### tuples by their first ints -/
def IsHd (h : Heap) (v : Value) (x : Int) : Prop := ∃ a its t, v = .ref a ∧ IsTup h a (Value.int x t :: its).toArray
theorem IsHd.keeps {h h' : Heap} {v : Value} {x : Int} (q : IsHd h v x) (k : ∀ b o, h.get? b = some o → o.cls = .type "tuple" → h'.get? b = some o) : IsHd h' v x := by
  obtain ⟨a, its, t, e, o, ho, hc, r⟩ := q
  exact ⟨a, its, t, e, o, k _ _ ho hc, hc, r⟩
theorem kat_same {b fin : Bool} {Q : Bool → Shared → Prop} (h : Q fin s) : ∀ (l : List Value) (i : Nat), PySem.W.KatLex prog w A b fin Q (l.zip l) i s
  | [], _ => PySem.W.kat_nil h
  | v :: l, i => by
    rw [List.zip_cons_cons]
    exact PySem.W.kat_cons (SeqAt.EqAt.same v prog w _ _ (PySem.W.kat_yes (kat_same h l (i + 1))))
def ltHd (k : Value → Int) (v u : Value) : Bool := decide (k v < k u)
theorem swo_hd (k : Value → Int) : Swo (ltHd k) := by
  refine ⟨fun x y h => ?_, fun x y z h1 h2 => ?_⟩
  · have a := of_decide_eq_true (p := k x < k y) h
    exact decide_eq_false (p := k y < k x) (by omega)
  · have a := of_decide_eq_false (p := k y < k x) h1
    have b := of_decide_eq_false (p := k z < k y) h2
    exact decide_eq_false (p := k z < k x) (by omega)
theorem hd_cmp {vs : List Value} {k : Value → Int} (hp : ∀ v ∈ vs, IsHd s.heap v (k v)) (hu : ∀ v ∈ vs, ∀ u ∈ vs, k v = k u → v = u) : SrtO.Cmp prog w A s (tuples' true) (fun p => p.1 ∈ vs) (lt2 (ltHd k)) := by
  intro p q hm hm'
  have h1 := hp _ hm
  have h2 := hp _ hm'
  show wpAny (model prog w) A (keyLt' (tuples' true) p.1 q.1) (fun r s' => s' = s ∧ r = decide (k p.1 < k q.1)) (fun _ _ => False) s
  by_cases e : k p.1 = k q.1
  · have e2 := hu _ hm _ hm' e
    rw [decide_eq_false (by omega), ← e2]
    obtain ⟨a, its, t, ea, o, ho, hc, n, hd⟩ := h1
    rw [ea]
    refine PySem.W.kat_lt ho hd ho hd ?_
    rw [decide_eq_false (Nat.lt_irrefl _)]
    exact kat_same ⟨rfl, rfl⟩ _ _
  · obtain ⟨a, its, t, ea, o, ho, hc, n, hd⟩ := h1
    obtain ⟨a', its', t', ea', o', ho', hc', n', hd'⟩ := h2
    generalize k p.1 = x at *
    generalize k q.1 = x' at *
    rw [ea, ea']
    refine PySem.W.kat_lt ho hd ho' hd' ?_
    show PySem.W.KatLex prog w A true _ _ ((Value.int x t, Value.int x' t') :: its.zip its') 0 s
    refine PySem.W.kat_cons (SeqAt.EqAt.int_int x t x' t' prog w _ _ ?_)
    have e3 : (x == x') = false := beq_eq_false_iff_ne.mpr e
    rw [e3]
    exact PySem.W.kat_no (oneLt_int ⟨rfl, rfl⟩)
theorem firsts_hd {h : Heap} {k : Value → Int} : ∀ {vs : List Value}, (∀ v ∈ vs, IsHd h v (k v)) → ∃ fs : List Value, PySem.W.KatTups h vs fs ∧ fs.length = vs.length ∧ ∀ f ∈ fs, ∃ x t, f = Value.int x t
  | [], _ => ⟨[], PySem.W.KatTups.nil, rfl, fun _ hm => by simp at hm⟩
  | v :: vs, hp => by
    obtain ⟨fs, h1, h2, h3⟩ := firsts_hd (vs := vs) fun v' hm => hp v' (List.mem_cons_of_mem _ hm)
    obtain ⟨a, its, t, e, o, ho, hc, n, hd⟩ := hp v (List.mem_cons_self ..)
    generalize k v = x at *
    subst e
    refine ⟨.int x t :: fs, PySem.W.KatTups.cons ho hc hd (by simp) h1, by rw [List.length_cons, List.length_cons, h2], fun f hm => ?_⟩
    rcases List.mem_cons.mp hm with rfl | hm
    · exact ⟨x, t, rfl⟩
    · exact h3 f hm
theorem hd_sortable {a : Addr} {vs : List Value} {k : Value → Int} (h0 : 0 < vs.length) (hp : ∀ v ∈ vs, IsHd s.heap v (k v)) (hu : ∀ v ∈ vs, ∀ u ∈ vs, k v = k u → v = u) (ha : ∀ o, s.heap.get? a = some o → o.cls ≠ .type "tuple") : SortableO prog w A s a vs (ltHd k) := by
  intro h' keep
  have hp' : ∀ v ∈ vs, IsHd h' v (k v) := fun v hm => (hp v hm).keeps fun b o e c => keep b o (fun z => by subst z; exact ha o e c) e
  obtain ⟨fs, h1, h2, h3⟩ := firsts_hd hp'
  refine ⟨tuples' true, fun Q E hq => ?_, hd_cmp hp' hu⟩
  refine PySem.W.kat_kind (T := .type "int") h1 (by omega) (fun f hm => ?_) (by rfl) ?_
  · obtain ⟨x, t, rfl⟩ := h3 f hm
    exact PySem.W.Looks.now
  · have e : (Value.type "int" != Value.type "tuple") = true := by first | decide +kernel | rfl | decide
    rw [e]
    exact hq
end
theorem list_extend_tup (l : Addr) (items : Array Value) (n : Nat) (b : Addr) (items2 : Array Value) (n2 : Nat) (o2 : Obj) (hc2 : o2.cls = .type "tuple") (hd2 : o2.data = .seq items2 n2) (hs0 : ¬(!items.isEmpty && Builtin.List.listTooLong (items.size + items2.size)) = true) (hs1 : items.size ≤ sizeLine) (hs2 : items.size + items2.size ≤ sizeLine + 1) :
    Meets (Builtin.«list.extend» ⟨[.ref l, .ref b], []⟩) (fun _ R s => s.heap.get? l = some { cls := .type "list", dict := none, data := .seq items n, slots := #[] } ∧ s.heap.get? b = some o2 ∧ R (.ok (.ret Value.none)) { s with heap := s.heap.update l (Obj.mapSeq fun x => x ++ items2), toks := s.toks }) :=
  .of_wp fun prog w A R s h => by
    obtain ⟨hp, g, d, tk, os⟩ := s
    obtain ⟨hl, hb, h⟩ := h
    obtain ⟨c2, di2, da2, sl2⟩ := o2
    simp only at hc2 hd2
    subst hc2 hd2
    have f1 := AutoSeq1.idx_int; have f2 := AutoSeq1.sub_tuple_tuple; have f3 := AutoSeq1.sub_list_list; have f4 := AutoSeq1.sub_tuple_list; have f5 := AutoSeq1.sub_list_tuple
    have hz' : (items ++ items2).size ≤ sizeLine + 1 := by rw [Array.size_append]; exact hs2
    wp_walk using (wpAny_updateSeq hl rfl (hz := hs1) (_hz' := hz')), wpAny_loadPart' hl, wpAny_loadPart' hb
    exact ⟨_, rfl, h⟩
/-! ### as rules -/
/-- sorted(xs), a list of tuples with unlike first ints -/
def rSortedHd (K : PySem.W.Frag) : List V → Hp → VK → Prop := fun vs H Q => ∃ (a : Addr) (xs : List V) (k : V → Int), vs = [V.ref a] ∧ SqL K H a xs ∧ (∀ x ∈ xs, ∃ b rest, x = V.ref b ∧ SqT K H b (.int (k x) :: rest)) ∧ (∀ x ∈ xs, ∀ y ∈ xs, k x = k y → x = y) ∧
  ∀ ys p, ys.Perm xs → ys.Pairwise (fun x y => k x ≤ k y) → H p = none → Q (.ref p) (upd H p (.lst ys))
/-- sorted(t), a tuple of ints -/
def rSortedTI (K : PySem.W.Frag) : List V → Hp → VK → Prop := fun vs H Q => ∃ (a : Addr) (ns : List Int), vs = [V.ref a] ∧ SqT K H a (ns.map V.int) ∧
  ∀ (ns' : List Int) (p : Addr), ns'.Perm ns → ns'.Pairwise (· ≤ ·) → H p = none → Q (.ref p) (upd H p (.lst (ns'.map V.int)))
/-- sorted(d), a dict whose keys are pairs of ints -/
def rSortedDP : List V → Hp → VK → Prop := fun vs H Q => ∃ (a : Addr) (kvs : List (List Key × V)), vs = [V.ref a] ∧ H a = some (.dT kvs) ∧ (∀ q ∈ kvs, ∃ i j : Int, q.1 = [Sum.inl i, Sum.inl j]) ∧
  ∀ (ys : List (Addr × Int × Int)) (p : Addr), (∀ y ∈ ys, H y.1 = some (.tup [.int y.2.1, .int y.2.2])) → (ys.map fun y => [Sum.inl y.2.1, (Sum.inl y.2.2 : Key)]).Perm (kvs.map (·.1)) → ys.Pairwise (fun x y => ¬ (y.2.1 < x.2.1 ∨ (y.2.1 = x.2.1 ∧ y.2.2 < x.2.2))) → H p = none → Q (.ref p) (upd H p (.lst (ys.map fun y => V.ref y.1)))
/-- min(xs), a list of alike data -/
def rMinD (K : PySem.W.Frag) : List V → Hp → VK → Prop := fun vs H Q => ∃ (a : Addr) (xs : List V) (d : PyData) (ds : List PyData), vs = [V.ref a] ∧ SqL K H a xs ∧ DpAll K H xs (d :: ds) ∧ PySem.W.AlikeAll (d :: ds) ∧ PyData.depthAll (d :: ds) ≤ 8 ∧
  ∀ v, Dp K H v (PySem.W.minD d ds) → Q v H
/-- xs.extend(t), a tuple -/
def rExtendT (K : PySem.W.Frag) : V → List V → Hp → VK → Prop := fun x vs H Q => ∃ l b xs zs, x = .ref l ∧ vs = [.ref b] ∧ H l = some (.lst xs) ∧ SqT K H b zs ∧ xs.length + zs.length ≤ sizeLine ∧ Q .non (upd H l (.lst (xs ++ zs)))
section
variable {X : Cx}
theorem cr_sortedHd : CallR X (.builtin "sorted") (rSortedHd X.K) := by
  intro pins s σ H vs us Q I r h
  obtain ⟨a, xs, k, rfl, hs, hx, hu, q⟩ := h
  obtain ⟨its, rv, hl, hz⟩ := I.list hs
  obtain ⟨u, rfl, ru⟩ := vals1 r
  obtain rfl : u = Value.ref a := ru
  obtain ⟨e1, e2⟩ := refs_back rv fun x m => by
    obtain ⟨t, _, e, _⟩ := hx x m
    exact ⟨t, e⟩
  have mem : ∀ v ∈ its, backV v ∈ xs := fun v hv => by rw [e1]; exact List.mem_map.mpr ⟨_, hv, rfl⟩
  have hp : ∀ v ∈ its, IsHd s.heap v (k (backV v)) := fun v hv => by
    have hm := mem v hv
    obtain ⟨t, rfl⟩ := e2 v hv
    obtain ⟨b, rest, e, hb⟩ := hx _ hm
    cases e
    obtain ⟨its2, r2, ht, _⟩ := I.tuple hb
    cases r2 with
    | cons rh rt =>
      obtain ⟨tk, rfl⟩ := rh
      exact ⟨t, _, tk, rfl, ht⟩
  have hu' : ∀ v ∈ its, ∀ u ∈ its, k (backV v) = k (backV u) → v = u := fun v hv u hw e => by
    have e3 := hu _ (mem v hv) _ (mem u hw) e
    obtain ⟨t, rfl⟩ := e2 v hv
    obtain ⟨t', rfl⟩ := e2 u hw
    cases e3
    rfl
  refine sorted_ord (swo_hd fun u => k (backV u)) hl.isList (by rw [← rv.length]; exact hz) (fun h2 h₁ a' ha kk => ?_) fun out h1 h2 => ?_
  · refine hd_sortable (s := { s with heap := h₁ }) (by omega) (fun v hv => (hp v hv).keeps fun b o e _ => (kk b o e).2) hu' fun o e => ?_
    have e' : some o = some (seqObj "list" its.toArray 0) := e.symm.trans ha
    cases e'
    intro c
    exact absurd (Value.type.inj c) (by decide)
  · have h3 : ∀ u ∈ out, ∃ a, u = Value.ref a := fun u hu => e2 u (h2.perm.mem_iff.mp hu)
    obtain ⟨ep, he'⟩ := PyProof.Rows.sortedAll_at s.heap its out.toArray
    have hperm : (out.map backV).Perm xs := by rw [e1]; exact h2.perm.map backV
    have hlen : (out.map backV).length ≤ sizeLine := by rw [hperm.length_eq]; exact hz
    refine ⟨.ref _, upd H (s.heap.objs.size + 1) (.lst (out.map backV)), I.laid (t' := s.toks) (fun _ _ => PyProof.Rows.sortedAll_old) (Nat.le_succ _) ⟨hlen, out, ep, vals_back h3, he'⟩, rfl, q _ _ hperm ?_ (I.hok.fresh (Nat.le_succ _))⟩
    rw [List.pairwise_map]
    exact h1.imp fun {x y} h => Int.not_lt.mp (of_decide_eq_false (p := k (backV y) < k (backV x)) h)
/-- sorted(xs), a list of tuples with unlike first ints; each item with what it stands for -/
def rSortedHdA (K : PySem.W.Frag) : List V → Hp → VK → Prop := fun vs H Q => ∃ (α : Type) (a : Addr) (ts : List α) (k : α → Int) (v : α → V), vs = [V.ref a] ∧ SqL K H a (ts.map v) ∧ (∀ t ∈ ts, ∃ b rest, v t = V.ref b ∧ SqT K H b (.int (k t) :: rest)) ∧ (ts.map k).Nodup ∧
  ∀ (us : List α) (p : Addr), us.Perm ts → us.Pairwise (fun x y => k x ≤ k y) → H p = none → Q (.ref p) (upd H p (.lst (us.map v)))
theorem nodup_inj {α : Type} {k : α → Int} : ∀ {ts : List α}, (ts.map k).Nodup → ∀ t ∈ ts, ∀ u ∈ ts, k t = k u → t = u
  | [], _, t, ht, _, _, _ => by simp at ht
  | x :: ts, h, t, ht, u, hu, e => by
    rw [List.map_cons, List.nodup_cons] at h
    rcases List.mem_cons.mp ht with e1 | ht
    · rcases List.mem_cons.mp hu with e2 | hu
      · rw [e1, e2]
      · exact absurd (List.mem_map.mpr ⟨u, hu, by rw [← e, e1]⟩) h.1
    · rcases List.mem_cons.mp hu with e2 | hu
      · exact absurd (List.mem_map.mpr ⟨t, ht, by rw [e, e2]⟩) h.1
      · exact nodup_inj h.2 t ht u hu e
theorem cr_sortedHdA : CallR X (.builtin "sorted") (rSortedHdA X.K) := by
  intro pins s σ H vs us Q I r h
  obtain ⟨α, a, ts, k, v, rfl, hs, hx, hn, q⟩ := h
  have inj : ∀ t ∈ ts, ∀ u ∈ ts, v t = v u → t = u := fun t ht u hu e => by
    obtain ⟨b, rest, e1, h1⟩ := hx t ht
    obtain ⟨b', rest', e2, h2⟩ := hx u hu
    rw [e1, e2] at e
    cases e
    have := I.tuple_inj h1 h2
    injection this with e3 e4
    injection e3 with e3
    exact nodup_inj hn t ht u hu e3
  let g : V → Option α := fun x => ts.find? fun t => decide (v t = x)
  have hg : ∀ t ∈ ts, g (v t) = some t := fun t ht => by
    cases e : g (v t) with
    | none =>
      have := List.find?_eq_none.mp e t ht
      simp at this
    | some u =>
      have h1 := List.find?_some e
      simp only [decide_eq_true_eq] at h1
      rw [inj u (List.mem_of_find?_eq_some e) t ht h1]
  let kk : V → Int := fun x => (Option.map k (g x)).getD 0
  have hk : ∀ t ∈ ts, kk (v t) = k t := fun t ht => by
    show (Option.map k (g (v t))).getD 0 = k t
    rw [hg t ht]
    rfl
  refine cr_sortedHd pins s σ H [.ref a] us Q I r ⟨a, ts.map v, kk, rfl, hs, fun x hx' => ?_, fun x hx' y hy' e => ?_, fun ys p hp hw hf => ?_⟩
  · obtain ⟨t, ht, rfl⟩ := List.mem_map.mp hx'
    rw [hk t ht]
    exact hx t ht
  · obtain ⟨t, ht, rfl⟩ := List.mem_map.mp hx'
    obtain ⟨u, hu, rfl⟩ := List.mem_map.mp hy'
    rw [hk t ht, hk u hu] at e
    rw [nodup_inj hn t ht u hu e]
  · have e1 : (ts.map v).filterMap g = ts := by
      rw [List.filterMap_map]
      have : ∀ l : List α, (∀ t ∈ l, t ∈ ts) → l.filterMap (g ∘ v) = l := by
        intro l
        induction l with
        | nil => intro _; rfl
        | cons t l ih =>
          intro h
          rw [List.filterMap_cons_some (show (g ∘ v) t = some t from hg t (h t (by simp))), ih fun u hu => h u (by simp [hu])]
      exact this ts fun _ h => h
    have p2 : (ys.filterMap g).Perm ts := by
      have := hp.filterMap g
      rw [e1] at this
      exact this
    have key : ∀ l : List V, (∀ x ∈ l, x ∈ ts.map v) → (l.filterMap g).map v = l := by
      intro l
      induction l with
      | nil => intro _; rfl
      | cons x l ih =>
        intro h
        obtain ⟨t, ht, rfl⟩ := List.mem_map.mp (h x (by simp))
        rw [List.filterMap_cons_some (hg t ht), List.map_cons, ih fun u hu => h u (by simp [hu])]
    have e2 : (ys.filterMap g).map v = ys := key ys fun x hx' => hp.mem_iff.mp hx'
    have q2 := q (ys.filterMap g) p p2 ?_ hf
    · rw [e2] at q2
      exact q2
    · rw [← e2, List.pairwise_map] at hw
      refine hw.imp_of_mem fun {x y} hx' hy' h => ?_
      rw [hk x (p2.mem_iff.mp hx'), hk y (p2.mem_iff.mp hy')] at h
      exact h
theorem cr_sortedTI : CallR X (.builtin "sorted") (rSortedTI X.K) := by
  intro pins s σ H vs us Q I r h
  obtain ⟨a, ns, rfl, hs, q⟩ := h
  obtain ⟨its, rv, hl, hz⟩ := I.tuple hs
  rw [Vals.ref1 r]
  have hi := rv.ints
  refine sorted_of_tup SrtO.swo_int hl (by rw [← rv.length]; exact hz) (fun h2 h₁ a' _ _ => SrtO.ints_sortable hi h2) fun out h2' d n h1 h2 kp hd hn => ?_
  obtain ⟨k1, k2, k3⟩ := SrtO.ints_out hi h1 h2
  have hlen : ((out.map SrtO.iv).map V.int).length ≤ sizeLine := by
    rw [List.length_map, k2.length_eq]
    rw [List.length_map] at hz
    exact hz
  exact ⟨.ref d, upd H d (.lst ((out.map SrtO.iv).map V.int)), I.laid (t' := s.toks) kp hd ⟨hlen, out, n, vals_of_ints k1, hn⟩, rfl, q _ _ k2 k3 (I.hok.fresh hd)⟩
theorem cr_minD (hc : X.calm = true) (hu : X.A.units + 64 < cLine) : CallR X (.builtin "min") (rMinD X.K) := by
  intro pins s σ H vs us Q I r h
  obtain ⟨a, xs, d, ds, rfl, hs, hd, hal, hdep, q⟩ := h
  obtain ⟨its, rv, hl, hz⟩ := I.list hs
  rw [Vals.ref1 r]
  obtain ⟨as, hr⟩ := Dp.readsAll I (d :: ds) xs its hd rv
  have hn : its.toArray.size = ds.length + 1 := by
    have := PySem.W.readsAll_len (vs := its.toArray) hr
    simpa using this
  refine PySem.call_min_walkH (PySem.W.iter_listW (A := X.A.in1) (I.ok.hd hc) hl.isList fun s₂ e W st hfp hw hk => ?_)
  have hr' : ReadsAll s.heap its.toArray.toList (d :: ds) as := hr
  refine ⟨_, _, _, _, _, _, _, s.heap, _, rfl, W, st, hfp, by omega, hw, hk, PySem.W.cmpIn_lt (A := X.A.in1) hr' hal (by show X.A.units + 1 + _ < _; omega), fun v s' hP m => ?_⟩
  obtain ⟨h', tk, rfl, hk'⟩ := PySem.W.moved_old e rfl m
  have e1 : its.toArray.size - 1 = ds.length := by omega
  have e2 := (PySem.W.argBest_fold PySem.W.dataLt PyData.none d ds ds.length (Nat.le_refl _)).2
  rw [List.take_length] at e2
  rw [e1] at hP
  have hP' : its[argBest (fun i j => PySem.W.dataLt ((d :: ds).getD i PyData.none) ((d :: ds).getD j PyData.none)) ds.length]? = some v := by simpa using hP
  obtain ⟨x, hx, rx⟩ : ∃ x, xs[argBest (fun i j => PySem.W.dataLt ((d :: ds).getD i PyData.none) ((d :: ds).getD j PyData.none)) ds.length]? = some x ∧ RelV x v := by
    have key : ∀ {xs : List V} {us : List Value} {i : Nat} {v : Value}, Vals xs us → us[i]? = some v → ∃ x, xs[i]? = some x ∧ RelV x v := by
      intro xs us i v r
      induction r generalizing i with
      | nil => intro h; simp at h
      | cons a t ih =>
        intro h
        cases i with
        | zero => simp at h; subst h; exact ⟨_, rfl, a⟩
        | succ i =>
          obtain ⟨x, h1, h2⟩ := ih (i := i) (by simpa using h)
          exact ⟨x, by simpa using h1, h2⟩
    exact key rv hP'
  have key2 : ∀ {xs : List V} {es : List PyData} {i : Nat} {x : V}, DpAll X.K H xs es → xs[i]? = some x → Dp X.K H x (es.getD i .none) := by
    intro xs es i x h
    induction es generalizing xs i with
    | nil => cases h; intro z; simp at z
    | cons e es ih =>
      cases h with
      | cons a t =>
        intro z
        cases i with
        | zero => simp at z; subst z; exact a
        | succ i => exact ih t (by simpa using z)
  have hdx := key2 hd hx
  refine ⟨x, H, I.kept (t' := tk) hk', rx, q x ?_⟩
  unfold PySem.W.minD
  rw [← e2]
  exact hdx
theorem mt_extendT : MtM X "list.extend" (rExtendT X.K) := by
  intro pins s σ H x vs v us Q I rx rv h
  obtain ⟨l, b, xs, zs, rfl, rfl, hH, hB, hz, q⟩ := h
  cases rx
  obtain ⟨u, rfl, ru⟩ := rv.one
  cases ru
  obtain ⟨z, its, n, r, hl, e⟩ := I.lstM hH
  obtain ⟨its2, r2, ⟨o2, ho2, hc2, n2, hd2⟩, z2⟩ := I.tuple hB
  have hl2 := r2.length
  have hsz : its.toArray.size + its2.toArray.size ≤ sizeLine := by rw [List.size_toArray, List.size_toArray]; omega
  have hlong : ¬ (!its.toArray.isEmpty && Builtin.List.listTooLong (its.toArray.size + its2.toArray.size)) = true := by
    rw [notLongL hsz, Bool.and_false]
    exact Bool.false_ne_true
  refine call_meets F.slot_list_extend ⟨_, e, rfl⟩ F.entry_list_extend (F.args_list_extend_2 _ _)
    (list_extend_tup l its.toArray n b its2.toArray n2 o2 hc2 hd2 hlong (by rw [List.size_toArray]; omega) (by omega)) ⟨e, ho2, ?_⟩
  refine ⟨.non, _, I.lset (its' := its ++ its2) hH e (by simp) (r.append r2) ?_, rfl, q⟩
  rw [List.length_append]
  omega
def pairOf (k : List Key) : Int × Int := match k with
  | [Sum.inl i, Sum.inl j] => (i, j)
  | _ => (0, 0)
theorem cr_sortedDP (hcalm : X.calm = true) : CallR X (.builtin "sorted") rSortedDP := by
  intro pins s σ H vs us Q I r h
  obtain ⟨d, kvs, rfl, hd, hk, q⟩ := h
  obtain ⟨u, rfl, ru⟩ := vals1 r
  obtain rfl : u = Value.ref d := ru
  obtain ⟨z, hsm, ks, pr, o, es, ep, ho, hx, hdt, he, hn⟩ := (show ObjOk X.prog X.w H s.heap d (.dT kvs) from I.hok d _ hd)
  have l1 : es.size = ks.length := size_of_entries he
  have l2 : kvs.length = ks.length := Paired.length pr
  have base : ∀ x ∈ ks, ∃ i j : Int, x.1 = [Sum.inl i, Sum.inl j] ∧ H x.2.1 = some (.tup [.int i, .int j]) := by
    clear l1 l2 he hn q z hd
    induction pr with
    | nil => intro x hx; simp at hx
    | @cons p q ps qs hq t ih =>
      intro x hx
      rcases List.mem_cons.mp hx with rfl | hx
      · obtain ⟨i, j, e⟩ := hk p (by simp)
        refine ⟨i, j, by rw [← hq.1, e], ?_⟩
        rw [hq.2.1, e]
        rfl
      · exact ih (fun q hq => hk q (by simp [hq])) x hx
  have keysEq : kvs.map (·.1) = ks.map (·.1) := by
    clear l1 l2 he hn q z hd base hk
    induction pr with
    | nil => rfl
    | cons hq t ih => rw [List.map_cons, List.map_cons, hq.1, ih]
  refine sorted_gen (PySem.W.kdu_collect (A := X.A.in1) (kdl_raw hsm hx hdt) (I.ok.hd hcalm) ho (by omega) fun h' tk acc' kp it => ?_)
  have ea : acc'.toList = ks.map fun x => Value.ref x.2.1 := by
    have hl : acc'.toList.length = ks.length := by rw [Array.length_toList, it.1]; exact l1
    apply List.ext_getElem?
    intro j
    rw [List.getElem?_map]
    cases hj : acc'.toList[j]? with
    | none =>
      have h1 := List.getElem?_eq_none_iff.mp hj
      rw [List.getElem?_eq_none (by omega)]
      all_goals rfl
    | some v =>
      obtain ⟨en, hen, hv⟩ := it.2 j v (by rw [← Array.getElem?_toList]; exact hj)
      have qe := entry_at he j
      rw [hen] at qe
      cases hb : ks[j]? with
      | none =>
        rw [hb] at qe
        exact nomatch (show some en = none from qe)
      | some b =>
        rw [hb] at qe
        have e2 : en = entryOfKey (tupleKind (mixKind X.prog X.w)) b := Option.some.inj qe
        rw [hv, e2]
        all_goals rfl
  -- what stands at an address
  let kk : Value → Int × Int := fun v => match H (match v with | .ref a => a | _ => 0) with
    | some (.tup [.int i, .int j]) => (i, j)
    | _ => (0, 0)
  have isp : ∀ v ∈ acc'.toList, Srt.IsPair s.heap v (kk v).1 (kk v).2 := fun v hv => by
    rw [ea] at hv
    obtain ⟨x, hx, rfl⟩ := List.mem_map.mp hv
    obtain ⟨i, j, e, ht⟩ := base x hx
    have ek : kk (Value.ref x.2.1) = (i, j) := by
      show (match H x.2.1 with | some (.tup [.int i, .int j]) => (i, j) | _ => (0, 0)) = (i, j)
      rw [ht]
    rw [ek]
    obtain ⟨_, its2, r2, o, ho, hc, n, hd⟩ := I.hok _ _ ht
    obtain ⟨u1, u2, rfl, ri, rj⟩ := vals2 r2
    obtain ⟨t1, rfl⟩ := ri
    obtain ⟨t2, rfl⟩ := rj
    exact ⟨x.2.1, o, t1, t2, n, rfl, ho, hc, hd⟩
  have hz : acc'.toList.length ≤ sizeLine := by rw [ea, List.length_map]; omega
  refine ⟨h', tk, fun v u => lexB (kk v) (kk u), rfl, kp, hz, swo_lex kk, fun h2 h₁ a' ha kp2 => ?_, fun out h2 p n g1 g2 kp2 hp hn2 => ?_⟩
  · refine pairs_sortableO (s := { s with heap := h₁, toks := tk }) (by omega) (fun v hm => (isp v hm).keeps fun b o e _ => (kp2 b o e).2) fun o e => ?_
    have e' : some o = some (seqObj "list" acc'.toList.toArray 0) := e.symm.trans ha
    cases e'
    intro c
    exact absurd (Value.type.inj c) (by decide)
  · have hr : ∀ u ∈ out, ∃ x ∈ ks, u = Value.ref x.2.1 := fun u hu => by
      have := g2.perm.mem_iff.mp hu
      rw [ea] at this
      obtain ⟨x, hx, e⟩ := List.mem_map.mp this
      exact ⟨x, hx, e.symm⟩
    have h3 : ∀ u ∈ out, ∃ a, u = Value.ref a := fun u hu => by
      obtain ⟨x, _, e⟩ := hr u hu
      exact ⟨_, e⟩
    obtain ⟨ys, ey⟩ : ∃ ys : List (Addr × Int × Int), ys = out.map fun u => ((match u with | .ref a => a | _ => 0), kk u) := ⟨_, rfl⟩
    have e4 : out.map backV = ys.map fun y => V.ref y.1 := by
      rw [ey, List.map_map]
      refine List.map_congr_left fun u hu => ?_
      obtain ⟨a, rfl⟩ := h3 u hu
      rfl
    have hlen : (ys.map fun y => V.ref y.1).length ≤ sizeLine := by
      rw [ey, List.length_map, List.length_map, g2.perm.length_eq]
      exact hz
    have kkat : ∀ x ∈ ks, H x.2.1 = some (.tup [.int (kk (Value.ref x.2.1)).1, .int (kk (Value.ref x.2.1)).2]) ∧ x.1 = [Sum.inl (kk (Value.ref x.2.1)).1, Sum.inl (kk (Value.ref x.2.1)).2] := fun x hx => by
      obtain ⟨i, j, e, ht⟩ := base x hx
      have ek : kk (Value.ref x.2.1) = (i, j) := by
        show (match H x.2.1 with | some (.tup [.int i, .int j]) => (i, j) | _ => (0, 0)) = (i, j)
        rw [ht]
      rw [ek]
      exact ⟨ht, e⟩
    have I1 : Inv X pins σ H { s with heap := h', toks := tk } := I.kept kp
    refine ⟨.ref p, upd H p (.lst (ys.map fun y => V.ref y.1)), I1.laid (t' := tk) kp2 hp ⟨hlen, out, n, by rw [← e4]; exact vals_back h3, hn2⟩, rfl, q _ _ (fun y hy => ?_) ?_ ?_ (I1.hok.fresh hp)⟩
    · rw [ey] at hy
      obtain ⟨u, hu, rfl⟩ := List.mem_map.mp hy
      obtain ⟨x, hx, rfl⟩ := hr u hu
      exact (kkat x hx).1
    · rw [ey, List.map_map, keysEq]
      have p1 := g2.perm.map (fun u => [Sum.inl (kk u).1, (Sum.inl (kk u).2 : Key)])
      refine p1.trans ?_
      rw [ea, List.map_map]
      have : ks.map ((fun u => [Sum.inl (kk u).1, (Sum.inl (kk u).2 : Key)]) ∘ fun x => Value.ref x.2.1) = ks.map (·.1) := List.map_congr_left fun x hx => (kkat x hx).2.symm
      rw [this]
    · rw [ey, List.pairwise_map]
      exact g1.imp fun {x y} h => lexB_no.mp h
end
end Lw
namespace Lw
open PySem PySem.Spec PyProof.Rows L2 Evl LwM
/-! ### shapes -/
def Shp (d : PyData) (k : Nat) : Prop := d.canLay0 = true ∧ d.depth ≤ k
theorem Shp.sh {d : PyData} {k : Nat} (h : Shp d k) (hk : k ≤ 64) : SeqAt.shaped d = true := by
  unfold SeqAt.shaped
  rw [h.1, decide_eq_true (Nat.le_trans h.2 hk)]
  rfl
theorem Shp.le {d : PyData} {k j : Nat} (h : Shp d k) (hk : k ≤ j) : Shp d j := ⟨h.1, Nat.le_trans h.2 hk⟩
theorem shp_int (i : Int) : Shp (.int i) 1 := ⟨rfl, by simp [PyData.depth]⟩
theorem shp_n (n : Nat) : Shp (nD n) 1 := shp_int _
theorem shp_none : Shp .none 1 := ⟨rfl, by simp [PyData.depth]⟩
theorem shp_bool (b : Bool) : Shp (.bool b) 1 := ⟨rfl, by simp [PyData.depth]⟩
theorem shp_opt (o : Option Nat) : Shp (optD o) 1 := by
  cases o with
  | none => exact shp_none
  | some n => exact shp_int _
theorem shp_all {l : List PyData} {k : Nat} (h : ∀ d ∈ l, Shp d k) : PyData.canLayAll0 l = true ∧ PyData.depthAll l ≤ k := by
  induction l with
  | nil => exact ⟨rfl, by simp [PyData.depthAll]⟩
  | cons a l ih =>
    obtain ⟨h1, h2⟩ := h a (by simp)
    obtain ⟨h3, h4⟩ := ih fun d hd => h d (by simp [hd])
    refine ⟨by simp [PyData.canLayAll0, h1, h3], ?_⟩
    simp only [PyData.depthAll]
    omega
theorem shp_tup {l : List PyData} {k : Nat} (h : ∀ d ∈ l, Shp d k) : Shp (.tuple l) (k + 1) := by
  obtain ⟨h1, h2⟩ := shp_all h
  refine ⟨h1, ?_⟩
  simp only [PyData.depth]
  omega
theorem shp_lst {l : List PyData} {k : Nat} (h : ∀ d ∈ l, Shp d k) : Shp (.list l) (k + 1) := by
  obtain ⟨h1, h2⟩ := shp_all h
  refine ⟨h1, ?_⟩
  simp only [PyData.depth]
  omega
theorem shp_map {α : Type} {f : α → PyData} {k : Nat} (h : ∀ a, Shp (f a) k) (l : List α) : ∀ d ∈ l.map f, Shp d k := fun d hd => by
  obtain ⟨a, _, rfl⟩ := List.mem_map.mp hd
  exact h a
theorem shp_tie (t : Tie) : Shp (tieD t) 2 := shp_tup fun d hd => by
  simp only [List.mem_cons, List.not_mem_nil, or_false] at hd
  rcases hd with rfl | rfl | rfl <;> exact shp_n _
theorem shp_places (l : List Nat) : Shp (placesD l) 2 := shp_tup (shp_map shp_n l)
section
variable {K : Fg} {σ : Ks} {H H' : Hp} {ta tb te tx : TE} {t u : TT} {x y z v : V} {r : R2} {d e : PyData} {ds es : List PyData}
/-! ### isinstance of tuples -/
theorem tyx_tup {a : Addr} {xs : List V} (h : SqT K H a xs) : TyX K H (.ref a) (.type "tuple") := by
  rcases h with (h | ⟨o, h⟩) | ⟨o, its, n, h, hc, _⟩
  · exact .base (.tup h)
  · exact .fTuple h
  · exact .kTuple h hc
theorem ev_isiTup (h : EvD K ta σ H (.tuple ds)) : Ev (tCB (rIsi K) (tCons ta (tCons (tC (.ty "tuple")) tNil))) σ H (.bl true) := fun H1 e Q q =>
  h H1 e _ fun v H2 e2 d2 => by
    obtain ⟨a, xs, rfl, hs, _⟩ := dp_tup d2
    exact ⟨.ref a, .ty "tuple", _, _, true, rfl, .ty "tuple", tyx_tup hs, kit_ty (by rfl), q H2 e2⟩
/-! ### tables of lengths -/
theorem evd_row {W : Web} {p v : Nat} (ha : EvD K ta σ H (farD (lensFrom W p))) (hb : EvD K tb σ H (nD v)) (hv : v < W.n) : EvD K (tOp (rIxT K) ta tb) σ H (optD (D W p v)) :=
  evd_at ha hb (getN_at (by rw [len_lensFrom]; exact hv))
theorem evd_rows {W : Web} {p : Nat} (ha : EvD K ta σ H (rowsD W)) (hb : EvD K tb σ H (nD p)) (hp : p < W.n) : EvD K (tOp (rIxT K) ta tb) σ H (farD (lensFrom W p)) :=
  evd_at (f := fun i => farD (lensFrom W i)) ha hb (List.getElem?_range hp)
/-! ### sorted, list(range) -/
theorem evn_sortedTI {ns ms : List Int} (ha : EvD K ta σ H (.tuple (ns.map .int))) (hu : ∀ ns' : List Int, ns'.Perm ns → ns'.Pairwise (· ≤ ·) → ns' = ms) : EvN K (tCB (rSortedTI K) (tCons ta tNil)) σ H (ms.map .int) := fun H1 e Q q =>
  ha H1 e _ fun v H2 e2 d2 => by
    obtain ⟨a, xs, rfl, hs, hd⟩ := dp_tup d2
    rw [dps_ints hd] at hs
    refine ⟨a, ns, rfl, hs, fun ns' p hp hw hn => ?_⟩
    rw [hu ns' hp hw]
    exact q p _ _ (fresh_back e2 hn) (e2.trans (Ex.new hn)) upd_same (ints_dps ms)
theorem evn_listRg {n : Nat} (h : Ev te σ H (.int (n : Int))) (hn : n ≤ 100000) : EvN K (tLstRg (tRg1 te)) σ H ((List.range n).map nD) := fun H1 e Q q =>
  h H1 e _ fun H2 e2 => ⟨(n : Int), rfl, RgOk.of_le (by omega) (by omega) (by omega) (by omega), fun p hp => by
    have ev : rgV 0 (n : Int) = (List.range n).map fun i => V.int (i : Nat) := by
      unfold rgV
      rw [show ((n : Int) - 0).toNat = n by omega]
      exact List.map_congr_left fun i _ => by rw [Int.zero_add]
    rw [ev]
    refine q p _ _ (fresh_back e2 hp) (e2.trans (Ex.new hp)) upd_same ?_
    have := ints_dps (K := K) (H := upd H2 p (.lst ((List.range n).map fun i => V.int (i : Nat)))) ((List.range n).map fun (i : Nat) => (i : Int))
    rw [List.map_map, List.map_map] at this
    exact this⟩
theorem evd_tupRg {n : Nat} (h : Ev te σ H (.int (n : Int))) (hn : n ≤ 100000) : EvD K (tTupRg (tRg1 te)) σ H (.tuple ((List.range n).map nD)) := fun H1 e Q q =>
  h H1 e _ fun H2 e2 => ⟨(n : Int), rfl, RgOk.of_le (by omega) (by omega) (by omega) (by omega), fun p hp => by
    have ev : rgV 0 (n : Int) = (List.range n).map fun i => V.int (i : Nat) := by
      unfold rgV
      rw [show ((n : Int) - 0).toNat = n by omega]
      exact List.map_congr_left fun i _ => by rw [Int.zero_add]
    rw [ev]
    refine q _ _ (e2.trans (Ex.new hp)) (.tup (st_of upd_same) ?_)
    have := ints_dps (K := K) (H := upd H2 p (.tup ((List.range n).map fun i => V.int (i : Nat)))) ((List.range n).map fun (i : Nat) => (i : Int))
    rw [List.map_map, List.map_map] at this
    exact this⟩
theorem ev_notNO {o : Option Nat} (h : EvD K ta σ H (optD o)) : Ev (tOp rNotNq ta (tC .non)) σ H (.bl o.isSome) := by
  have q := ev_notN h
  cases o <;> exact q
theorem ev_isNO {o : Option Nat} (h : EvD K ta σ H (optD o)) : Ev (tOp rIsNq ta (tC .non)) σ H (.bl o.isNone) := by
  have q := ev_isN h
  cases o <;> exact q
/-- any, all of a comprehension -/
theorem ev_anyM {α : Type} {f : α → Bool} {l : List α} (h : EvD K ta σ H (.list (l.map fun a => .bool (f a)))) : Ev (tCB (rAny K) (tCons ta tNil)) σ H (.bl (l.any f)) := by
  have q := ev_anyD (bs := l.map f) (by rw [List.map_map]; exact h)
  rw [List.any_map] at q
  exact q
theorem ev_allM {α : Type} {f : α → Bool} {l : List α} (h : EvD K ta σ H (.list (l.map fun a => .bool (f a)))) : Ev (tCB (rAll K) (tCons ta tNil)) σ H (.bl (l.all f)) := by
  have q := ev_allD (bs := l.map f) (by rw [List.map_map]; exact h)
  rw [List.all_map] at q
  exact q
end
end Lw
/-! The rules of the layer, for a written part that is named. -/
namespace Lw
open PySem PySem.Spec PyProof.Rows L2 Evl
section
variable {X : Cx} {K : Fg}
theorem ix_tupK (h : X.K = K) : IxR X (rIxT K) := h ▸ ix_tup
theorem ix_listK (h : X.K = K) : IxR X (rIxL K) := h ▸ ix_list
theorem sl_tupK (h : X.K = K) : SlR X (rSlT K) := h ▸ sl_tup
theorem sl_listK (h : X.K = K) : SlR X (rSlL K) := h ▸ sl_list
theorem call_lenK (h : X.K = K) : CallR X (.builtin "len") (rLenQ K) := h ▸ call_len_seq
theorem cr_anyK (h : X.K = K) (hc : X.calm = true) : CallR X (.builtin "any") (rAny K) := h ▸ cr_any hc
theorem cr_allK (h : X.K = K) (hc : X.calm = true) : CallR X (.builtin "all") (rAll K) := h ▸ cr_all hc
theorem cr_minK (h : X.K = K) (hc : X.calm = true) : CallR X (.builtin "min") (rMin K) := h ▸ cr_min hc
theorem cr_minDK (h : X.K = K) (hc : X.calm = true) (hu : X.A.units + 64 < cLine) : CallR X (.builtin "min") (rMinD K) := h ▸ cr_minD hc hu
theorem call_isiK' (h : X.K = K) : CallR X (.builtin "isinstance") (rIsi K) := h ▸ call_isi
theorem op_inK (h : X.K = K) : OpR X (compareOp .In) (rIn K false) := h ▸ op_in_seq
theorem op_notInK (h : X.K = K) : OpR X (compareOp .NotIn) (rIn K true) := h ▸ op_notIn_seq
theorem call_tupK (h : X.K = K) : CallR X (.type "tuple") (rTupQ K) := h ▸ call_tuple_of
theorem call_lstK (h : X.K = K) : CallR X (.type "list") (rLstQ K) := h ▸ call_list_of
theorem op_eqDK (h : X.K = K) (hu : X.A.units + 64 < cLine) : OpR X (compareOp .Eq) (rEqD K) := h ▸ op_eqD hu
theorem op_neDK (h : X.K = K) (hu : X.A.units + 64 < cLine) : OpR X (compareOp .NotEq) (rNeD K) := h ▸ op_neD hu
theorem cr_sortedIK (h : X.K = K) : CallR X (.builtin "sorted") (rSortedI K) := h ▸ cr_sortedI
theorem cr_sortedTIK (h : X.K = K) : CallR X (.builtin "sorted") (rSortedTI K) := h ▸ cr_sortedTI
theorem cr_sortedHdK (h : X.K = K) : CallR X (.builtin "sorted") (rSortedHdA K) := h ▸ cr_sortedHdA
theorem mt_extendTK (h : X.K = K) : MtM X "list.extend" (rExtendT K) := h ▸ mt_extendT
theorem op_noneInK (h : X.K = K) (hu : X.A.units + 64 < cLine) : OpR X (compareOp .In) (rNoneIn K false) := h ▸ op_noneIn hu
theorem pi_tupK {tg l : Expr} {tl : TE} (h : X.K = K) (hl : PE X l tl) : PI X tg l (iTup K tl) := h ▸ pi_tup hl
theorem pi_listK {tg l : Expr} {tl : TE} (h : X.K = K) (hl : PE X l tl) : PI X tg l (iList K tl) := h ▸ pi_list hl
end
end Lw
namespace Lw
open PySem PySem.Spec PyProof.Rows L2 Evl LwM
section
variable {P : Program} {w : World} {K : Fg} {mg : Str → Option Value} {base : Heap}
/-! ### between -/
def rBetween : Rel := fun ds r => ∃ (W : Web) (u v : Nat), WebOk W ∧ u < W.n ∧ v < W.n ∧ ds = [webD W, nD u, nD v] ∧ r = placesD (betweenL W u v)
theorem opt_get {o : Option Nat} (h : o.isSome = true) : o = some (o.getD 0) := by
  cases o with
  | none => cases h
  | some x => rfl
theorem sc_between : FnScope ["web", "one", "other", "firsts", "seconds", "there", "place"] ["web", "one", "other"] (defScope (top 23)) := ⟨rfl, rfl, rfl, by decide +kernel, rfl, by decide +kernel, by decide +kernel⟩
theorem cal_between (T : Txt w K mg) : CalD P w K mg base 3 "between" (PureSp K rBetween) := by
  refine cal_of T.f_between T.g_between sc_between (fun _ _ _ _ _ _ us hl => match us, hl with | [_, _, _], _ => rfl) (fun ds r h => by obtain ⟨_, _, _, _, _, _, rfl, _⟩ := h; rfl) fun cdv A outer s H vs Q E hr ds r h hd k => ?_
  obtain ⟨W, u, v, ok, hu, hv, rfl, rfl⟩ := h
  obtain ⟨v1, v2, v3, rfl, h1, h2, h3⟩ := dps3 hd
  refine ⟨_, (pss_cons (ps_set (i := 3) sc_between.nd rfl (Or.inr rfl) (pe_cal (cal_lengths_from (K := K) T) hr (by decide) (by rfl) (pa_cons (pv 0) (pa_cons (pv 1) pa_nil))))
      (pss_cons (ps_set (i := 4) sc_between.nd rfl (Or.inr rfl) (pe_cal (cal_lengths_from (K := K) T) hr (by decide) (by rfl) (pa_cons (pv 0) (pa_cons (pv 2) pa_nil))))
      (pss_cons (ps_if (pt_cmpR op_isN (pe_ix (ix_tupK (K := K) rfl) (pv 3) (pv 2) (fun _ _ => rfl)) pe_non (nomark _)) (pss_one (ps_ret (pe_tup pa_nil))) pss_nil)
      (pss_cons (ps_setLc (i := 5) (own := [("place", 6)]) rfl sc_between.nd rfl rfl (sw_true rfl rfl rfl (by decide +kernel)) (pi_range1 rfl T.m_range (pa_cons (pe_ix (ix_tupK (K := K) rfl) (pv 0) pe_int (fun _ _ => rfl)) pa_nil)) (blkOk_by (N := ["web", "one", "other", "firsts", "seconds", "there", "place"]) (sc := defScope (top 23)) (by decide +kernel)) (fun _ _ _ _ _ => (pg_name (i := 6) sc_between.nd rfl (Or.inl rfl))) (fun _ _ _ _ _ => (pts_one (pt_cmpR op_notN (pe_ix (ix_tupK (K := K) rfl) (pv 3) (pv 6) (fun _ _ => rfl)) pe_non (nomark _)))) (fun _ _ _ _ _ => (pv 6)))
      (pss_one (ps_ret (pe_callTy (call_tupK (K := K) rfl) (by rfl) T.m_tuple bt_tuple (pa_cons (pe_lc (own := [("place", 6)]) rfl sc_between.nd (pi_listK (K := K) rfl (pv 5)) (blkOk_by (N := ["web", "one", "other", "firsts", "seconds", "there", "place"]) (sc := defScope (top 23)) (by decide +kernel)) (fun _ _ _ _ _ => (pg_name (i := 6) sc_between.nd rfl (Or.inl rfl))) (fun _ _ _ _ _ => (pts_one (pt_cmpR op_eq (pe_op op_add (pe_ix (ix_tupK (K := K) rfl) (pv 3) (pv 6) (fun _ _ => rfl)) (pe_ix (ix_tupK (K := K) rfl) (pv 4) (pv 6) (fun _ _ => rfl))) (pe_ix (ix_tupK (K := K) rfl) (pv 3) (pv 2) (fun _ _ => rfl)) (nomark _)))) (fun _ _ _ _ _ => (pv 6))) pa_nil)))))))), ?_⟩
  have most := ok.most
  refine d_set (evd_call (evds_cons (evd_var rfl h1) (evds_cons (evd_var rfl h2) evds_nil)) ⟨W, u, ok, hu, rfl, rfl⟩) fun vf H1 e1 hf => ?_
  refine d_set (evd_call (evds_cons (evd_var rfl (Dpx h1 e1)) (evds_cons (evd_var rfl (Dpx h3 e1)) evds_nil)) ⟨W, v, ok, hv, rfl, rfl⟩) fun vs2 H2 e2 hs => ?_
  have hf2 := Dpx hf e2
  have e12 := e1.trans e2
  cases hD : D W u v with
  | none =>
    refine d_when (b := true) (et_test ((show (Option.isNone (D W u v)) = true by rw [hD]; rfl) ▸ ev_isNO (evd_row (evd_var rfl hf2) (evd_var rfl (Dpx h3 e12)) hv))) (fun _ H3 e3 => ?_) (fun z => by cases z)
    rw [between_none ok hD] at k
    exact d_ret (evd_tup evds_nil (by decide)) fun x H4 e4 d4 => k x H4 ((e12.trans e3).trans e4) d4
  | some x0 =>
    refine d_when (b := false) (et_test ((show (Option.isNone (D W u v)) = false by rw [hD]; rfl) ▸ ev_isNO (evd_row (evd_var rfl hf2) (evd_var rfl (Dpx h3 e12)) hv))) (fun z => by cases z) fun _ H3 e3 => ?_
    refine q_setN (K := K) (evn_lcA (enc := nD) (l := List.range W.n) (fun m => (D W u m).isSome) nD (evi_range (ev_n (evd_i0 (evd_var rfl (Dpx h1 (e12.trans e3))))) (by omega)).j (by rw [List.length_range]; omega) (fun _ _ _ => rfl) fun m y H4 P hm e4 dy q => ?_) fun p xs H4 np e4 hp dp => ?_
    · exact q _ rfl (et_test (ev_notNO (evd_row (evd_var rfl (Dpx hf2 (e3.trans e4))) (evd_var rfl dy) (List.mem_range.mp hm)))) fun _ => evd_var rfl dy
    · have e34 := e3.trans e4
      refine d_ret (evd_tupL (evn_lcA (enc := nD) (l := (List.range W.n).filter fun m => (D W u m).isSome) (fun m => decide ((D W u m).getD 0 + (D W v m).getD 0 = x0)) nD (evi_varL rfl (dp_locD hp dp)).j (Nat.le_trans (List.length_filter_le _ _) (by rw [List.length_range]; omega)) (fun _ _ _ => rfl) fun m y H5 P hm e5 dy q => ?_).toD) fun y H5 e5 d5 => ?_
      · obtain ⟨m1, m2⟩ := List.mem_filter.mp hm
        have hml := List.mem_range.mp m1
        have q1 : D W u m = some ((D W u m).getD 0) := opt_get m2
        have hvu : D W v u = some x0 := by rw [D_symm ok hv hu]; exact hD
        obtain ⟨z, hz, _⟩ := D_tri ok hv hu hvu q1
        have q2 : D W v m = some ((D W v m).getD 0) := by rw [hz]; rfl
        have e35 := e34.trans e5
        have a1 := evd_row (evd_var (σ := [some v1, some v2, some v3, some vf, some vs2, some (.ref p), some y]) (i := 3) rfl (Dpx hf2 e35)) (evd_var (i := 6) rfl dy) hml
        have a2 := evd_row (evd_var (σ := [some v1, some v2, some v3, some vf, some vs2, some (.ref p), some y]) (i := 4) rfl (Dpx hs e35)) (evd_var (i := 6) rfl dy) hml
        have a3 := evd_row (evd_var (σ := [some v1, some v2, some v3, some vf, some vs2, some (.ref p), some y]) (i := 3) rfl (Dpx hf2 e35)) (evd_var (i := 2) rfl (Dpx h3 (e12.trans e35))) hv
        rw [q1] at a1
        rw [q2] at a2
        rw [hD] at a3
        exact q _ rfl (et_test (ev_eqN (evd_add a1 a2) a3)) fun _ => evd_var rfl dy
      · rw [between_eq ok hu hv hD] at d5
        exact k y H5 ((e12.trans e34).trans e5) d5
/-! ### is_order -/
def rOrder : Rel := fun ds r => ∃ (W : Web) (ord : List Nat), WebOk W ∧ OrdOk W ord ∧ ds = [webD W, placesD ord] ∧ r = .bool true
theorem ord_sorted {W : Web} {ord : List Nat} (oo : OrdOk W ord) {ns : List Int} (hp : ns.Perm (ord.map fun (n : Nat) => (n : Int))) (hs : ns.Pairwise (· ≤ ·)) : ns = (List.range W.n).map fun (n : Nat) => (n : Int) := by
  have p1 : ord.Perm (List.range W.n) := (List.perm_ext_iff_of_nodup oo.nd List.nodup_range).mpr fun x => by rw [oo.mem, List.mem_range]
  have p2 := hp.trans (p1.map _)
  have hs2 : ((List.range W.n).map fun (n : Nat) => (n : Int)).Pairwise (· ≤ ·) := by
    rw [List.pairwise_map]
    exact (range_asc _).imp fun h => by omega
  exact p2.eq_of_pairwise (fun a b _ _ h1 h2 => by omega) hs hs2
theorem ord_len {W : Web} {ord : List Nat} (oo : OrdOk W ord) : ord.length = W.n := by
  have p1 : ord.Perm (List.range W.n) := (List.perm_ext_iff_of_nodup oo.nd List.nodup_range).mpr fun x => by rw [oo.mem, List.mem_range]
  rw [p1.length_eq, List.length_range]
theorem ints_of_n (l : List Nat) : l.map nD = (l.map fun (n : Nat) => (n : Int)).map .int := by
  rw [List.map_map]
  rfl
theorem sc_is_order : FnScope ["web", "thing", "one"] ["web", "thing"] (defScope (top 56)) := ⟨rfl, rfl, rfl, by decide +kernel, rfl, by decide +kernel, by decide +kernel⟩
theorem cal_is_order (T : Txt w K mg) : CalD P w K mg base 2 "is_order" (PureSp K rOrder) := by
  refine cal_of T.f_is_order T.g_is_order sc_is_order (fun _ _ _ _ _ _ us hl => match us, hl with | [_, _], _ => rfl) (fun ds r h => by obtain ⟨_, _, _, _, rfl, _⟩ := h; rfl) fun cdv A outer s H vs Q E hr ds r h hd k => ?_
  obtain ⟨W, ord, ok, oo, rfl, rfl⟩ := h
  obtain ⟨v1, v2, rfl, h1, h2⟩ := dps2 hd
  refine ⟨_, (pss_cons (ps_if (PW.pt (pw_or (pt_not (pt_val (pe_callB (call_isiK' (K := K) rfl) (by rfl) T.m_isinstance bt_isinstance (pa_cons (pv 1) (pa_cons (pe_bltn (v := .ty "tuple") (by rfl) T.m_tuple bt_tuple rfl) pa_nil))))) (pw_or1 (pt_not (pt_val (pe_callB (cr_allK (K := K) rfl rfl) (by rfl) T.m_all bt_all (pa_cons (pe_lc (own := [("one", 2)]) rfl sc_is_order.nd (pi_tupK (K := K) rfl (pv 1)) (blkOk_by (N := ["web", "thing", "one"]) (sc := defScope (top 56)) (by decide +kernel)) (fun _ _ _ _ _ => (pg_name (i := 2) sc_is_order.nd rfl (Or.inl rfl))) (fun _ _ _ _ _ => pts_nil) (fun _ _ _ _ _ => (pe_cal (cal_is_number_webs (K := K) T) hr (by decide) (by rfl) (pa_cons (pv 2) (pa_cons pe_int (pa_cons (pe_op op_sub (pe_ix (ix_tupK (K := K) rfl) (pv 0) pe_int (fun _ _ => rfl)) pe_int) pa_nil)))))) pa_nil))))))) (pss_one (ps_ret pe_bl)) pss_nil)
      (pss_one (ps_ret (pe_cmpR (op_eqDK (K := K) rfl hr.units) (pe_callB (cr_sortedTIK (K := K) rfl) (by rfl) T.m_sorted bt_sorted (pa_cons (pv 1) pa_nil)) (pe_listRg (by rfl) (by rfl) T.m_list (prg_1 (by rfl) T.m_range (pe_ix ix_tup (pv 0) pe_int (fun _ _ => rfl)))) (nomark _))))), ?_⟩
  have most := ok.most
  have ol := ord_len oo
  refine d_when (b := !true || !true) (et_or (a := !true) (et_not (et_test (ev_isiTup (evd_var rfl h2)))) fun _ => et_not (et_test ?_)) (fun z => by cases z) fun _ H1 e1 => ?_
  · refine ev_is (ev_allM (K := K) (f := fun _ => true) (l := ord) (evn_lcB (enc := nD) (l := ord) (fun _ => .bool true) (evi_var rfl h2).j (by omega) (fun _ _ => rfl) fun a x H3 P ha e3 dx q => ?_).toD) (by simp)
    have := (oo.mem a).mp ha
    refine q _ rfl (EvD.to (evd_call (K := K) (rel := rNumber) (d := .bool (decide (((0 : Nat) : Int) ≤ (a : Int)) && decide ((a : Int) ≤ (W.n : Int) - 1))) (evds_cons (evd_var rfl dx) (evds_cons (evd_cn 0) (evds_cons (evd_int (ev_sub (ev_n (evd_i0 (evd_var rfl (Dpx h1 e3)))) ev_c)) evds_nil))) ⟨_, _, _, rfl, rfl⟩) ?_)
    rw [decide_eq_true (show ((0 : Nat) : Int) ≤ (a : Int) by omega), decide_eq_true (show (a : Int) ≤ (W.n : Int) - 1 by omega)]
    rfl
  · have h2' : Dp K H1 v2 (.tuple ((ord.map fun (n : Nat) => (n : Int)).map .int)) := by
      rw [← ints_of_n]
      exact Dpx h2 e1
    have a1 := (evn_sortedTI (K := K) (evd_var (σ := [some v1, some v2, none]) (i := 1) rfl h2') fun ns hp hs => ord_sorted oo hp hs).toD
    rw [← ints_of_n] at a1
    have sh : SeqAt.shaped (.list ((List.range W.n).map nD)) = true := (shp_lst (shp_map shp_n _)).sh (by decide)
    have a2 := ev_eqD a1 (evn_listRg (K := K) (ev_n (evd_i0 (evd_var (i := 0) rfl (Dpx h1 e1)))) (by omega)).toD sh sh
    rw [SeqAt.eqv_refl _ (shp_lst (shp_map shp_n _)).1] at a2
    exact d_ret (evd_bool a2) fun x H2 e2 d2 => k x H2 (e1.trans e2) d2
/-! ### is_between, is_hub -/
def rBt : Rel := fun ds r => ∃ (W : Web) (m u v : Nat), WebOk W ∧ m < W.n ∧ u < W.n ∧ v < W.n ∧ (∃ x, D W u v = some x) ∧ ds = [rowsD W, nD m, nD u, nD v] ∧ r = .bool (bt W m u v)
theorem sc_is_between : FnScope ["rows", "place", "one", "other"] ["rows", "place", "one", "other"] (defScope (top 57)) := ⟨rfl, rfl, rfl, by decide +kernel, rfl, by decide +kernel, by decide +kernel⟩
theorem cal_is_between (T : Txt w K mg) : CalD P w K mg base 1 "is_between" (PureSp K rBt) := by
  refine cal_of T.f_is_between T.g_is_between sc_is_between (fun _ _ _ _ _ _ us hl => match us, hl with | [_, _, _, _], _ => rfl) (fun ds r h => by obtain ⟨_, _, _, _, _, _, _, _, _, rfl, _⟩ := h; rfl) fun cdv A outer s H vs Q E hr ds r h hd k => ?_
  obtain ⟨W, m, u, v, ok, hm, hu, hv, ⟨z, hz⟩, rfl, rfl⟩ := h
  obtain ⟨v1, v2, v3, v4, rfl, h1, h2, h3, h4⟩ := dps4 hd
  refine ⟨_, (pss_one (ps_ret (pe_and (pe_cmpR op_notN (pe_ix (ix_tupK (K := K) rfl) (pe_ix (ix_tupK (K := K) rfl) (pv 0) (pv 2) (fun _ _ => rfl)) (pv 1) (fun _ _ => rfl)) pe_non (nomark _)) (pe_one (pe_cmpR op_eq (pe_op op_add (pe_ix (ix_tupK (K := K) rfl) (pe_ix (ix_tupK (K := K) rfl) (pv 0) (pv 2) (fun _ _ => rfl)) (pv 1) (fun _ _ => rfl)) (pe_ix (ix_tupK (K := K) rfl) (pe_ix (ix_tupK (K := K) rfl) (pv 0) (pv 1) (fun _ _ => rfl)) (pv 3) (fun _ _ => rfl))) (pe_ix (ix_tupK (K := K) rfl) (pe_ix (ix_tupK (K := K) rfl) (pv 0) (pv 2) (fun _ _ => rfl)) (pv 3) (fun _ _ => rfl)) (nomark _)))))), ?_⟩
  cases hD : D W u m with
  | none =>
    have e : bt W m u v = ((Option.isSome (D W u m)) && true) := by unfold bt; rw [hD]; rfl
    rw [e] at k
    exact d_ret (evd_bool (ev_andV (ev_notNO (evd_row (evd_rows (evd_var rfl h1) (evd_var rfl h3) hu) (evd_var rfl h2) hm)) fun c => by rw [hD] at c; cases c)) k
  | some x =>
    have hmu : D W m u = some x := by rw [D_symm ok hm hu]; exact hD
    obtain ⟨y, hy, _⟩ := D_tri ok hm hu hmu hz
    have e : bt W m u v = ((Option.isSome (D W u m)) && decide (x + y = z)) := by
      unfold bt
      rw [hD, hy, hz]
      simp
    rw [e] at k
    refine d_ret (evd_bool (ev_andV (ev_notNO (evd_row (evd_rows (evd_var rfl h1) (evd_var rfl h3) hu) (evd_var rfl h2) hm)) fun _ => ev_eqN (K := K) (evd_add ?_ ?_) ?_)) k
    · exact (evd_row (evd_rows (evd_var rfl h1) (evd_var rfl h3) hu) (evd_var rfl h2) hm).to (by rw [hD]; rfl)
    · exact (evd_row (evd_rows (evd_var rfl h1) (evd_var rfl h2) hm) (evd_var rfl h4) hv).to (by rw [hy]; rfl)
    · exact (evd_row (evd_rows (evd_var rfl h1) (evd_var rfl h3) hu) (evd_var rfl h4) hv).to (by rw [hz]; rfl)
def rHub : Rel := fun ds r => ∃ (W : Web) (sooner : List Nat) (hb v : Nat), WebOk W ∧ (∀ m ∈ sooner, m < W.n) ∧ sooner.length ≤ 100000 ∧ hb < W.n ∧ v < W.n ∧ ds = [rowsD W, placesD sooner, nD hb, nD v] ∧ r = .bool (isHub W sooner hb v)
theorem sc_is_hub : FnScope ["rows", "sooner", "hub", "place", "one"] ["rows", "sooner", "hub", "place"] (defScope (top 58)) := ⟨rfl, rfl, rfl, by decide +kernel, rfl, by decide +kernel, by decide +kernel⟩
theorem cal_is_hub (T : Txt w K mg) : CalD P w K mg base 2 "is_hub" (PureSp K rHub) := by
  refine cal_of T.f_is_hub T.g_is_hub sc_is_hub (fun _ _ _ _ _ _ us hl => match us, hl with | [_, _, _, _], _ => rfl) (fun ds r h => by obtain ⟨_, _, _, _, _, _, _, _, _, rfl, _⟩ := h; rfl) fun cdv A outer s H vs Q E hr ds r h hd k => ?_
  obtain ⟨W, so, hb, v, ok, hso, hlen, hh, hv, rfl, rfl⟩ := h
  obtain ⟨v1, v2, v3, v4, rfl, h1, h2, h3, h4⟩ := dps4 hd
  refine ⟨_, (pss_cons (ps_if (pt_cmpR op_isN (pe_ix (ix_tupK (K := K) rfl) (pe_ix (ix_tupK (K := K) rfl) (pv 0) (pv 2) (fun _ _ => rfl)) (pv 3) (fun _ _ => rfl)) pe_non (nomark _)) (pss_one (ps_ret pe_bl)) pss_nil)
      (pss_one (ps_ret (pe_not (pe_callB (cr_anyK (K := K) rfl rfl) (by rfl) T.m_any bt_any (pa_cons (pe_lc (own := [("one", 4)]) rfl sc_is_hub.nd (pi_tupK (K := K) rfl (pv 1)) (blkOk_by (N := ["rows", "sooner", "hub", "place", "one"]) (sc := defScope (top 58)) (by decide +kernel)) (fun _ _ _ _ _ => (pg_name (i := 4) sc_is_hub.nd rfl (Or.inl rfl))) (fun _ _ _ _ _ => pts_nil) (fun _ _ _ _ _ => (pe_cal (cal_is_between (K := K) T) hr (by decide) (by rfl) (pa_cons (pv 0) (pa_cons (pv 4) (pa_cons (pv 2) (pa_cons (pv 3) pa_nil))))))) pa_nil)))))), ?_⟩
  cases hD : D W hb v with
  | none =>
    have e : isHub W so hb v = false := by unfold isHub; rw [hD]; rfl
    rw [e] at k
    exact d_when (b := true) (et_test ((show (Option.isNone (D W hb v)) = true by rw [hD]; rfl) ▸ ev_isNO (evd_row (evd_rows (evd_var rfl h1) (evd_var rfl h3) hh) (evd_var rfl h4) hv))) (fun _ H1 e1 => d_ret (evd_bool ev_c) fun x H2 e2 d2 => k x H2 (e1.trans e2) d2) (fun z => by cases z)
  | some z =>
    refine d_when (b := false) (et_test ((show (Option.isNone (D W hb v)) = false by rw [hD]; rfl) ▸ ev_isNO (evd_row (evd_rows (evd_var rfl h1) (evd_var rfl h3) hh) (evd_var rfl h4) hv))) (fun z => by cases z) fun _ H1 e1 => ?_
    have e : isHub W so hb v = !so.any fun m => bt W m hb v := by unfold isHub; rw [hD]; rfl
    rw [e] at k
    refine d_ret (evd_bool (ev_notV (ev_anyM (evn_lcB (enc := nD) (l := so) (fun m => .bool (bt W m hb v)) (evi_var rfl (Dpx h2 e1)).j hlen (fun _ _ => rfl) fun a x H3 P ha e3 dx q => ?_).toD))) fun x H2 e2 d2 => k x H2 (e1.trans e2) d2
    have e13 := e1.trans e3
    exact q _ rfl (evd_call (evds_cons (evd_var rfl (Dpx h1 e13)) (evds_cons (evd_var rfl dx) (evds_cons (evd_var rfl (Dpx h3 e13)) (evds_cons (evd_var rfl (Dpx h4 e13)) evds_nil)))) ⟨W, a, hb, v, ok, hso a ha, hh, hv, ⟨z, hD⟩, rfl, rfl⟩)
/-! ### is_next, first_place -/
def rNext : Rel := fun ds r => ∃ (W : Web) (u p v l y : Nat), WebOk W ∧ u < W.n ∧ p < W.n ∧ v < W.n ∧ adj W u p l ∧ D W p v = some y ∧ ds = [webD W, rowsD W, nD u, nD p, nD v] ∧ r = .bool (nextB W u v p)
theorem sc_is_next : FnScope ["web", "rows", "one", "place", "other"] ["web", "rows", "one", "place", "other"] (defScope (top 60)) := ⟨rfl, rfl, rfl, by decide +kernel, rfl, by decide +kernel, by decide +kernel⟩
theorem cal_is_next (T : Txt w K mg) : CalD P w K mg base 2 "is_next" (PureSp K rNext) := by
  refine cal_of T.f_is_next T.g_is_next sc_is_next (fun _ _ _ _ _ _ us hl => match us, hl with | [_, _, _, _, _], _ => rfl) (fun ds r h => by obtain ⟨_, _, _, _, _, _, _, _, _, _, _, _, rfl, _⟩ := h; rfl) fun cdv A outer s H vs Q E hr ds r h hd k => ?_
  obtain ⟨W, u, p, v, l, y, ok, hu, hp, hv, ha, hy, rfl, rfl⟩ := h
  obtain ⟨v1, v2, v3, v4, v5, rfl, h1, h2, h3, h4, h5⟩ := dps5 hd
  refine ⟨_, (pss_one (ps_ret (pe_cmpR op_eq (pe_op op_add (pe_cal (cal_long_of (K := K) T) hr (by decide) (by rfl) (pa_cons (pv 0) (pa_cons (pv 2) (pa_cons (pv 3) pa_nil)))) (pe_ix (ix_tupK (K := K) rfl) (pe_ix (ix_tupK (K := K) rfl) (pv 1) (pv 3) (fun _ _ => rfl)) (pv 4) (fun _ _ => rfl))) (pe_ix (ix_tupK (K := K) rfl) (pe_ix (ix_tupK (K := K) rfl) (pv 1) (pv 2) (fun _ _ => rfl)) (pv 4) (fun _ _ => rfl)) (nomark _)))), ?_⟩
  have hl := (longOf_some ok).mpr ha
  obtain ⟨x, hx, _⟩ := D_adj ok ha
  obtain ⟨z, hz, _⟩ := D_tri ok hu hp hx hy
  have e : nextB W u v p = decide (l + y = z) := by
    unfold nextB
    rw [hl, hy, hz]
    simp
  rw [e] at k
  refine d_ret (evd_bool (ev_eqN (K := K) (evd_add ?_ ?_) ?_)) k
  · exact (evd_call (evds_cons (evd_var rfl h1) (evds_cons (evd_var rfl h3) (evds_cons (evd_var rfl h4) evds_nil))) ⟨W, u, p, rfl, rfl⟩).to (by rw [hl]; rfl)
  · exact (evd_row (evd_rows (evd_var rfl h2) (evd_var rfl h4) hp) (evd_var rfl h5) hv).to (by rw [hy]; rfl)
  · exact (evd_row (evd_rows (evd_var rfl h2) (evd_var rfl h3) hu) (evd_var rfl h5) hv).to (by rw [hz]; rfl)
theorem ev_minI {K : Fg} {σ : Ks} {H : Hp} {ta : TE} {ns : List Int} {m : Int} (ha : EvD K ta σ H (.list (ns.map .int))) (hne : 0 < ns.length) (hm : ∀ m', m' ∈ ns → (∀ y ∈ ns, m' ≤ y) → m' = m) : Ev (tCB (rMin K) (tCons ta tNil)) σ H (.int m) := fun H1 e Q q =>
  ha H1 e _ fun v H2 e2 d2 => by
    obtain ⟨a, xs, rfl, hs, hd⟩ := dp_lst d2
    rw [dps_ints hd] at hs
    exact ⟨a, ns, rfl, hs, hne, fun m' h1 h2 => by rw [hm m' h1 h2]; exact q H2 e2⟩
def rFirst : Rel := fun ds r => ∃ (W : Web) (u v : Nat), WebOk W ∧ u < W.n ∧ v < W.n ∧ (∃ x, D W u v = some x) ∧ ds = [webD W, rowsD W, nD u, nD v] ∧ r = optD (firstPlace W u v)
theorem sc_first_place : FnScope ["web", "rows", "one", "other", "some", "place"] ["web", "rows", "one", "other"] (defScope (top 59)) := ⟨rfl, rfl, rfl, by decide +kernel, rfl, by decide +kernel, by decide +kernel⟩
theorem cal_first_place (T : Txt w K mg) : CalD P w K mg base 3 "first_place" (PureSp K rFirst) := by
  refine cal_of T.f_first_place T.g_first_place sc_first_place (fun _ _ _ _ _ _ us hl => match us, hl with | [_, _, _, _], _ => rfl) (fun ds r h => by obtain ⟨_, _, _, _, _, _, _, rfl, _⟩ := h; rfl) fun cdv A outer s H vs Q E hr ds r h hd k => ?_
  obtain ⟨W, u, v, ok, hu, hv, ⟨x0, hx0⟩, rfl, rfl⟩ := h
  obtain ⟨v1, v2, v3, v4, rfl, h1, h2, h3, h4⟩ := dps4 hd
  refine ⟨_, (pss_cons (ps_setLc (i := 4) (own := [("place", 5)]) rfl sc_first_place.nd rfl rfl (sw_true rfl rfl rfl (by decide +kernel)) (pi_tupK (K := K) rfl (pe_cal (cal_beside (K := K) T) hr (by decide) (by rfl) (pa_cons (pv 0) (pa_cons (pv 2) pa_nil)))) (blkOk_by (N := ["web", "rows", "one", "other", "some", "place"]) (sc := defScope (top 59)) (by decide +kernel)) (fun _ _ _ _ _ => (pg_name (i := 5) sc_first_place.nd rfl (Or.inl rfl))) (fun _ _ _ _ _ => (pts_one (pt_val (pe_cal (cal_is_next (K := K) T) hr (by decide) (by rfl) (pa_cons (pv 0) (pa_cons (pv 1) (pa_cons (pv 2) (pa_cons (pv 5) (pa_cons (pv 3) pa_nil))))))))) (fun _ _ _ _ _ => (pv 5)))
      (pss_one (ps_ret (pe_ifExp (pt_cmpR op_ne (pv 2) (pv 3) (nomark _)) (pe_callB (cr_minK (K := K) rfl rfl) (by rfl) T.m_min bt_min (pa_cons (pv 4) pa_nil)) pe_non)))), ?_⟩
  have most := ok.most
  refine q_setN (K := K) (evn_lcA (enc := nD) (l := besideL W u) (nextB W u v) nD (evj_T (evd_call (evds_cons (evd_var rfl h1) (evds_cons (evd_var rfl h3) evds_nil)) ⟨W, u, ok, rfl, rfl⟩)) (by have := few_beside W u; omega) (fun _ _ _ => rfl) fun a x H3 P ha e3 dx q => ?_) fun p xs H1 np e1 hp dp => ?_
  · obtain ⟨l, hl⟩ := (mem_beside ok).mp ha
    have hal := beside_lt ha
    obtain ⟨y, hy, _⟩ := D_tie ok hv hl (by rw [D_symm ok hv hu]; exact hx0)
    rw [D_symm ok hv hal] at hy
    exact q _ rfl (et_test (ev_bool (evd_call (evds_cons (evd_var rfl (Dpx h1 e3)) (evds_cons (evd_var rfl (Dpx h2 e3)) (evds_cons (evd_var rfl (Dpx h3 e3)) (evds_cons (evd_var rfl dx) (evds_cons (evd_var rfl (Dpx h4 e3)) evds_nil))))) ⟨W, u, a, v, l, y, ok, hu, hal, hv, hl, hy, rfl, rfl⟩))) fun _ => evd_var rfl dx
  · by_cases huv : u = v
    · have e : firstPlace W u v = none := by unfold firstPlace; rw [if_pos huv]
      rw [e] at k
      exact d_ret (evd_if (b := !decide (u = v)) (et_test (ev_neN (evd_var rfl (Dpx h3 e1)) (evd_var rfl (Dpx h4 e1)))) (fun c => by rw [decide_eq_true huv] at c; cases c) fun _ => evd_non (K := K)) fun x H2 e2 d2 => k x H2 (e1.trans e2) d2
    · obtain ⟨f, f1, f2, f3, f4⟩ := firstPlace_some ok hu hv huv hx0
      have hdp : Dp K H1 (.ref p) (.list ((((besideL W u).filter (nextB W u v)).map fun (n : Nat) => (n : Int)).map .int)) := by
        rw [← ints_of_n]
        exact dp_locD hp dp
      have hin : f ∈ (besideL W u).filter (nextB W u v) := List.mem_filter.mpr ⟨f3, f2⟩
      rw [f1] at k
      refine d_ret (evd_if (b := !decide (u = v)) (et_test (ev_neN (evd_var rfl (Dpx h3 e1)) (evd_var rfl (Dpx h4 e1)))) (fun _ => evd_int (ev_minI (m := (f : Int)) (evd_var rfl hdp) ?_ fun m' hm' hle => ?_)) (fun c => by rw [decide_eq_false huv] at c; cases c)) fun x H2 e2 d2 => k x H2 (e1.trans e2) d2
      · rw [List.length_map]
        exact List.length_pos_of_mem hin
      · obtain ⟨m, hm, rfl⟩ := List.mem_map.mp hm'
        obtain ⟨a1, a2⟩ := List.mem_filter.mp hm
        have b1 := f4 m a1 a2
        have b2 := hle _ (List.mem_map.mpr ⟨f, hin, rfl⟩)
        omega
end
end Lw
namespace Lw
open PySem PySem.Spec PyProof.Rows L2 Evl LwM
/-! ### entries and labels as data -/
def entD (e : Ent) : PyData := .tuple [nD e.hub, nD e.long, optD e.up, optD e.down]
def labD (l : Lab) : PyData := .tuple (l.map entD)
def labelsD (L : List Lab) : PyData := .tuple (L.map labD)
theorem fz_ent (e : Ent) : fz (entD e) = true := by
  show (true && (true && (fz (optD e.up) && (fz (optD e.down) && true)))) = true
  rw [fz_opt, fz_opt]
  rfl
theorem fz_lab (l : Lab) : fz (labD l) = true := fz_map fz_ent l
theorem fz_labels (l : List Lab) : fz (labelsD l) = true := fz_map fz_lab l
theorem fz_ents (l : List Ent) : fzAll (l.map entD) = true := fzAll_iff.mpr fun d hd => by
  obtain ⟨a, _, rfl⟩ := List.mem_map.mp hd
  exact fz_ent a
section
variable {K : Fg} {σ : Ks} {H H' : Hp} {ta tb te tx : TE} {d e : PyData} {ds es : List PyData}
theorem dps_of_at : ∀ {vs : List V} {ds : List PyData}, vs.length = ds.length → (∀ (i : Nat) v d, vs[i]? = some v → ds[i]? = some d → Dp K H v d) → DpAll K H vs ds
  | [], [], _, _ => .nil
  | [], _ :: _, h, _ => by simp at h
  | _ :: _, [], h, _ => by simp at h
  | v :: vs, d :: ds, h, f => .cons (f 0 v d rfl rfl) (dps_of_at (by simpa using h) fun i x y h1 h2 => f (i + 1) x y (by simpa using h1) (by simpa using h2))
theorem dps_mem {α : Type} {f : α → PyData} {v : α → V} : ∀ {us : List α}, (∀ t ∈ us, Dp K H (v t) (f t)) → DpAll K H (us.map v) (us.map f)
  | [], _ => .nil
  | t :: us, h => .cons (h t (by simp)) (dps_mem fun u hu => h u (by simp [hu]))
/-- sorted of a list of tuples with unlike first ints -/
theorem evn_sortedHd {α : Type} {ts out : List α} {hd : α → Int} {f : α → PyData} (ha : EvD K ta σ H (.list (ts.map f))) (hf : ∀ a, ∃ rest, f a = .tuple (.int (hd a) :: rest)) (hn : (ts.map hd).Nodup) (hu : ∀ us : List α, us.Perm ts → us.Pairwise (fun x y => hd x ≤ hd y) → us = out) :
    EvN K (tCB (rSortedHdA K) (tCons ta tNil)) σ H (out.map f) := fun H1 e Q q =>
  ha H1 e _ fun v H2 e2 d2 => by
    obtain ⟨a, xs, rfl, hs, hd2⟩ := dp_lst d2
    have hl : ts.length = xs.length := by
      have := dps_len hd2
      rw [List.length_map] at this
      exact this.symm
    have z1 : (ts.zip xs).map (·.1) = ts := by rw [List.map_fst_zip (by omega)]
    have z2 : (ts.zip xs).map (·.2) = xs := by rw [List.map_snd_zip (by omega)]
    have zd : ∀ t ∈ ts.zip xs, Dp K H2 t.2 (f t.1) := fun t ht => by
      obtain ⟨i, hi⟩ := List.mem_iff_getElem?.mp ht
      rw [List.getElem?_zip_eq_some] at hi
      obtain ⟨d, h1, h2⟩ := dps_at hd2 hi.2
      rw [List.getElem?_map, hi.1] at h1
      cases h1
      exact h2
    refine ⟨α × V, a, ts.zip xs, fun t => hd t.1, fun t => t.2, rfl, by rw [z2]; exact hs, fun t ht => ?_, ?_, fun us p hp hw hnp => ?_⟩
    · obtain ⟨rest, er⟩ := hf t.1
      have := zd t ht
      rw [er] at this
      obtain ⟨b, ys, e1, e2, e3⟩ := dp_tup this
      cases e3 with
      | cons h1 h2 =>
        cases h1
        exact ⟨b, _, e1, e2⟩
    · have : (ts.zip xs).map (fun t => hd t.1) = ((ts.zip xs).map (·.1)).map hd := by rw [List.map_map]; rfl
      rw [this, z1]
      exact hn
    · have p1 : (us.map (·.1)).Perm ts := by
        have := hp.map (·.1)
        rw [z1] at this
        exact this
      have eo := hu (us.map (·.1)) p1 (List.pairwise_map.mpr hw)
      have dd : DpAll K H2 (us.map (·.2)) (us.map fun t => f t.1) := dps_mem fun t ht => zd t (hp.mem_iff.mp ht)
      have e3 : out.map f = us.map fun t => f t.1 := by rw [← eo, List.map_map]; rfl
      rw [e3] at q
      exact q p _ _ (fresh_back e2 hnp) (e2.trans (Ex.new hnp)) upd_same (Dpsx dd (Ex.new hnp))
/-- xs.append(x), xs of an expression -/
theorem q_appendE {D : Ends} {tz : TS} {to : TE} {l : Addr} {xs : List V} (hl : H l = some (.lst xs)) (ho : Ev to σ H (.ref l)) (h : EvD K te σ H d) (hz : xs.length < 100000) (k : ∀ v H1, Ex H H1 → Dp K H1 v d → tz D σ (upd H1 l (.lst (xs ++ [v])))) :
    tSeq (tDrop (tBM K "list" rAppend to (tCons te tNil))) tz D σ H := ho H (Ex.refl _) _ fun H1 e1 =>
  ⟨.inl ⟨rfl, _, .inl (.inl (e1 _ _ hl))⟩, h H1 e1 _ fun v H2 e2 d2 => ⟨l, xs, v, rfl, rfl, e2 _ _ (e1 _ _ hl), sz_lt hz, k v H2 (e1.trans e2) d2⟩⟩
theorem l_appendE {D : Ends} {to : TE} {l : Addr} {xs : List V} (hl : H l = some (.lst xs)) (ho : Ev to σ H (.ref l)) (h : EvD K te σ H d) (hz : xs.length < 100000) (k : ∀ v H1, Ex H H1 → Dp K H1 v d → D.nx σ (upd H1 l (.lst (xs ++ [v])))) :
    tDrop (tBM K "list" rAppend to (tCons te tNil)) D σ H := q_appendE (D := D) (tz := fun D => D.nx) hl ho h hz k
theorem ev_ixRef {i j : Nat} {p l : Addr} {ls : List Addr} (hs : σ[i]? = some (some (.ref p))) (hp : H p = some (.lst (ls.map V.ref))) (hb : EvD K tb σ H (nD j)) (hl : ls[j]? = some l) : Ev (tOp (rIxL K) (tVar i) tb) σ H (.ref l) := fun H1 e Q q =>
  ⟨_, hs, hb H1 e _ fun v H2 e2 d2 => by
    rw [dp_n d2]
    exact ⟨p, _, (j : Int), _, rfl, rfl, sq_of (e2 _ _ (e _ _ hp)), atI_nat (by rw [List.getElem?_map, hl]; rfl), q H2 e2⟩⟩
/-- new lists, laid by a comprehension -/
structure NewL (H : Hp) (p : Addr) (ls : List Addr) (n : Nat) : Prop where
  np : H p = none
  nl : ∀ l ∈ ls, H l = none ∧ l ≠ p
  nd : ls.Nodup
  len : ls.length = n
theorem evl_lists {wi : TI} {i : Nat} {vs : List Nat} (hs : EvJ K wi σ H ds) (hz : ds.length ≤ 100000) (hv : ∀ x, wipe ((wipe σ vs).set i (some x)) vs = wipe σ vs) (Q : VK)
    (q : ∀ p ls H2, NewL H p ls ds.length → Ex H H2 → H2 p = some (.lst (ls.map V.ref)) → (∀ l ∈ ls, H2 l = some (.lst [])) → Q (.ref p) H2) : tLc wi (gName i) tYes (tLst tNil) vs σ H Q := hs H (Ex.refl _) _ fun J H1 e1 w Dl hD => by
  refine lc_it (w.mono (G' := fun H' => Ex H1 H') (Y' := YD K ds) (fun _ z => z) (fun _ _ _ _ _ _ y => y)) (fun i H' => Ex H1 H' ∧ ∃ ls : List Addr, NewL H1 Dl ls i ∧ H' Dl = some (.lst (ls.map V.ref)) ∧ ∀ l ∈ ls, H' l = some (.lst []))
    ⟨Ex.new hD, [], ⟨hD, by simp, .nil, rfl⟩, upd_same, by simp⟩ (fun i H' _ p => p.1) (fun j x H3 H4 hi p y => ?_) fun H' p => ?_
  · obtain ⟨p1, ls, p2, p3, p4⟩ := p
    obtain ⟨y1, d, y2, y3⟩ := y
    refine ⟨hv x, ⟨sz_of (by simp), fun b hb => ?_⟩⟩
    have hb1 : H1 b = none := fresh_back (p1.trans y1) hb
    have hDb : Dl ≠ b := fun e => by
      have := y1 _ _ p3
      rw [e, hb] at this
      cases this
    have k1 : upd H4 b (.lst []) Dl = some (.lst (ls.map V.ref)) := by rw [upd_ne hDb]; exact y1 _ _ p3
    refine ⟨ls.map V.ref, k1, by have := sz_lt (n := (ls.map V.ref).length); rw [sizeLine_eq]; rw [List.length_map, p2.len]; omega, Ex.mut ((p1.trans y1).trans (Ex.new hb)) hD, ls ++ [b], ⟨hD, fun l hl => ?_, ?_, by rw [List.length_append, p2.len]; rfl⟩, ?_, fun l hl => ?_⟩
    · rcases List.mem_append.mp hl with hl | hl
      · exact p2.nl l hl
      · simp at hl
        rw [hl]
        exact ⟨hb1, fun e => hDb e.symm⟩
    · refine List.nodup_append.mpr ⟨p2.nd, by simp, fun a ha c hc => ?_⟩
      simp at hc
      subst hc
      intro e
      subst e
      have := y1 _ _ (p4 _ ha)
      rw [hb] at this
      cases this
    · rw [upd_same, List.map_append]
      rfl
    · rcases List.mem_append.mp hl with hl | hl
      · rw [upd_ne (p2.nl l hl).2, upd_ne (fun e => by have := y1 _ _ (p4 l hl); rw [e, hb] at this; cases this)]
        exact y1 _ _ (p4 l hl)
      · simp at hl
        rw [hl, upd_ne (fun e => hDb e.symm), upd_same]
  · obtain ⟨p1, ls, p2, p3, p4⟩ := p
    exact q Dl ls _ ⟨fresh_back e1 hD, fun l hl => ⟨fresh_back e1 (p2.nl l hl).1, (p2.nl l hl).2⟩, p2.nd, p2.len⟩ (e1.trans p1) p3 p4
theorem q_lists {D : Ends} {tz : TS} {wi : TI} {i j : Nat} {vs : List Nat} (hs : EvJ K wi σ H ds) (hz : ds.length ≤ 100000) (hv : ∀ x, wipe ((wipe σ vs).set i (some x)) vs = wipe σ vs)
    (q : ∀ p ls H2, NewL H p ls ds.length → Ex H H2 → H2 p = some (.lst (ls.map V.ref)) → (∀ l ∈ ls, H2 l = some (.lst [])) → tz D (σ.set j (some (.ref p))) H2) : tSeq (tAsg (tLc wi (gName i) tYes (tLst tNil) vs) (gName j)) tz D σ H := evl_lists hs hz hv (fun v H' => tz D (σ.set j (some v)) H') q
end
/-! ### the labels that are gathered -/
structure GL (K : Fg) (W : Web) (ord : List Nat) (H : Hp) (p : Addr) (ls : List Addr) (f : Nat → Nat) (H' : Hp) : Prop where
  ex : Ex H H'
  lst : H' p = some (.lst (ls.map V.ref))
  row : ∀ v l, ls[v]? = some l → ∃ xs, H' l = some (.lst xs) ∧ DpAll K H' xs ((accL W ord (f v) v).map entD)
theorem GL.mono {K : Fg} {W : Web} {ord : List Nat} {H H' H2 : Hp} {p : Addr} {ls : List Addr} {f : Nat → Nat} (g : GL K W ord H p ls f H') (e : Ex H' H2) : GL K W ord H p ls f H2 :=
  ⟨g.ex.trans e, e _ _ g.lst, fun v l hl => by
    obtain ⟨xs, h1, h2⟩ := g.row v l hl
    exact ⟨xs, e _ _ h1, Dpsx h2 e⟩⟩
theorem GL.same {K : Fg} {W : Web} {ord : List Nat} {H H' : Hp} {p : Addr} {ls : List Addr} {f f' : Nat → Nat} (g : GL K W ord H p ls f H') (e : ∀ v, v < ls.length → accL W ord (f' v) v = accL W ord (f v) v) : GL K W ord H p ls f' H' :=
  ⟨g.ex, g.lst, fun v l hl => by
    obtain ⟨xs, h1, h2⟩ := g.row v l hl
    exact ⟨xs, h1, by rw [e v (List.getElem?_eq_some_iff.mp hl).1]; exact h2⟩⟩
theorem GL.put {K : Fg} {W : Web} {ord : List Nat} {H H' : Hp} {p l : Addr} {ls : List Addr} {f f' : Nat → Nat} {v n : Nat} {xs : List V} {x : V} {e : Ent} (g : GL K W ord H p ls f H') (N : NewL H p ls n) (hl : ls[v]? = some l) (hx : H' l = some (.lst xs)) (hd : DpAll K H' xs ((accL W ord (f v) v).map entD)) (dx : Dp K H' x (entD e))
    (e1 : accL W ord (f' v) v = accL W ord (f v) v ++ [e]) (e2 : ∀ u, u ≠ v → f' u = f u) : GL K W ord H p ls f' (upd H' l (.lst (xs ++ [x]))) := by
  have hm := List.mem_of_getElem? hl
  have tk : Tk H' (upd H' l (.lst (xs ++ [x]))) := tk_updL hx
  refine ⟨Ex.mut g.ex (N.nl l hm).1, by rw [upd_ne (N.nl l hm).2.symm]; exact g.lst, fun u m hu => ?_⟩
  by_cases huv : u = v
  · subst huv
    rw [hl] at hu
    cases hu
    refine ⟨_, upd_same, ?_⟩
    rw [e1, List.map_append]
    exact dps_app (Dpst hd tk (fz_ents _)) (.cons (Dpt dx tk (fz_ent e)) .nil)
  · have hne : m ≠ l := fun q => by
      subst q
      have h1 := (List.getElem?_eq_some_iff.mp hl)
      have h2 := (List.getElem?_eq_some_iff.mp hu)
      obtain ⟨a1, a2⟩ := h1
      obtain ⟨b1, b2⟩ := h2
      exact huv ((List.getElem_inj (h₀ := b1) (h₁ := a1) N.nd).mp (b2.trans a2.symm))
    obtain ⟨ys, h1, h2⟩ := g.row u m hu
    exact ⟨ys, by rw [upd_ne hne]; exact h1, by rw [e2 u huv]; exact Dpst h2 tk (fz_ents _)⟩
section
variable {P : Program} {w : World} {K : Fg} {mg : Str → Option Value} {base : Heap}
/-! ### entry_by -/
def rEntry : Rel := fun ds r => ∃ (W : Web) (v h : Nat), WebOk W ∧ v < W.n ∧ h < W.n ∧ (∃ x, D W v h = some x) ∧ ds = [webD W, rowsD W, nD v, nD h] ∧ r = entD (entryBy W v h)
theorem sc_entry_by : FnScope ["web", "rows", "place", "hub"] ["web", "rows", "place", "hub"] (defScope (top 61)) := ⟨rfl, rfl, rfl, by decide +kernel, rfl, by decide +kernel, by decide +kernel⟩
theorem cal_entry_by (T : Txt w K mg) : CalD P w K mg base 4 "entry_by" (PureSp K rEntry) := by
  refine cal_of T.f_entry_by T.g_entry_by sc_entry_by (fun _ _ _ _ _ _ us hl => match us, hl with | [_, _, _, _], _ => rfl) (fun ds r h => by obtain ⟨_, _, _, _, _, _, _, rfl, _⟩ := h; rfl) fun cdv A outer s H vs Q E hr ds r h hd k => ?_
  obtain ⟨W, v, hb, ok, hv, hh, ⟨x, hx⟩, rfl, rfl⟩ := h
  obtain ⟨v1, v2, v3, v4, rfl, h1, h2, h3, h4⟩ := dps4 hd
  refine ⟨_, (pss_one (ps_ret (pe_tup (pa_cons (pv 3) (pa_cons (pe_ix (ix_tupK (K := K) rfl) (pe_ix (ix_tupK (K := K) rfl) (pv 1) (pv 2) (fun _ _ => rfl)) (pv 3) (fun _ _ => rfl)) (pa_cons (pe_cal (cal_first_place (K := K) T) hr (by decide) (by rfl) (pa_cons (pv 0) (pa_cons (pv 1) (pa_cons (pv 2) (pa_cons (pv 3) pa_nil))))) (pa_cons (pe_cal (cal_first_place (K := K) T) hr (by decide) (by rfl) (pa_cons (pv 0) (pa_cons (pv 1) (pa_cons (pv 3) (pa_cons (pv 2) pa_nil))))) pa_nil))))))), ?_⟩
  refine d_ret (evd_tup (evds_cons (evd_var rfl h4) (evds_cons (d := nD ((D W v hb).getD 0)) ?_ (evds_cons (evd_call (evds_cons (evd_var rfl h1) (evds_cons (evd_var rfl h2) (evds_cons (evd_var rfl h3) (evds_cons (evd_var rfl h4) evds_nil)))) ⟨W, v, hb, ok, hv, hh, ⟨x, hx⟩, rfl, rfl⟩)
    (evds_cons (evd_call (evds_cons (evd_var rfl h1) (evds_cons (evd_var rfl h2) (evds_cons (evd_var rfl h4) (evds_cons (evd_var rfl h3) evds_nil)))) ⟨W, hb, v, ok, hh, hv, ⟨x, by rw [D_symm ok hh hv]; exact hx⟩, rfl, rfl⟩) evds_nil)))) (by show 4 ≤ 100000; decide)) k
  exact (evd_row (evd_rows (evd_var rfl h2) (evd_var rfl h3) hv) (evd_var rfl h4) hh).to (by rw [hx]; rfl)
/-! ### by_order -/
def rByOrder : Rel := fun ds r => ∃ (W : Web) (ord : List Nat), WebOk W ∧ OrdOk W ord ∧ ds = [webD W, placesD ord] ∧ r = labelsD (labelsBy W ord)
theorem sc_by_order : FnScope ["web", "order", "rows", "labels", "place", "at", "label"] ["web", "order"] (defScope (top 62)) := ⟨rfl, rfl, rfl, by decide +kernel, rfl, by decide +kernel, by decide +kernel⟩
theorem cal_by_order (T : Txt w K mg) : CalD P w K mg base 5 "by_order" (PureSp K rByOrder) := by
  refine cal_of T.f_by_order T.g_by_order sc_by_order (fun _ _ _ _ _ _ us hl => match us, hl with | [_, _], _ => rfl) (fun ds r h => by obtain ⟨_, _, _, _, rfl, _⟩ := h; rfl) fun cdv A outer s H vs Q E hr ds r h hd k => ?_
  obtain ⟨W, ord, ok, oo, rfl, rfl⟩ := h
  obtain ⟨v1, v2, rfl, h1, h2⟩ := dps2 hd
  refine ⟨_, (pss_cons (ps_if (pt_not (pt_val (pe_cal (cal_is_order (K := K) T) hr (by decide) (by rfl) (pa_cons (pv 0) (pa_cons (pv 1) pa_nil))))) (pss_one ps_never) pss_nil)
      (pss_cons (ps_set (i := 2) sc_by_order.nd rfl (Or.inl rfl) (pe_cal (cal_lengths (K := K) T) hr (by decide) (by rfl) (pa_cons (pv 0) pa_nil)))
      (pss_cons (ps_setLc (i := 3) (own := [("place", 4)]) rfl sc_by_order.nd rfl rfl (sw_true rfl rfl rfl (by decide +kernel)) (pi_range1 rfl T.m_range (pa_cons (pe_ix (ix_tupK (K := K) rfl) (pv 0) pe_int (fun _ _ => rfl)) pa_nil)) (blkOk_by (N := ["web", "order", "rows", "labels", "place", "at", "label"]) (sc := defScope (top 62)) (by decide +kernel)) (fun _ _ _ _ _ => (pg_name (i := 4) sc_by_order.nd rfl (Or.inl rfl))) (fun _ _ _ _ _ => pts_nil) (fun _ _ _ _ _ => (pe_lst pa_nil)))
      (pss_cons (ps_for PassesOwn.never rfl (pi_range1 rfl T.m_range (pa_cons (pe_ix (ix_tupK (K := K) rfl) (pv 0) pe_int (fun _ _ => rfl)) pa_nil)) (pg_name (i := 5) sc_by_order.nd rfl (Or.inl rfl)) (pss_one (ps_for PassesOwn.never rfl (pi_range1 rfl T.m_range (pa_cons (pe_ix (ix_tupK (K := K) rfl) (pv 0) pe_int (fun _ _ => rfl)) pa_nil)) (pg_name (i := 4) sc_by_order.nd rfl (Or.inl rfl)) (pss_one (ps_if (pt_val (pe_cal (cal_is_hub (K := K) T) hr (by decide) (by rfl) (pa_cons (pv 2) (pa_cons (pe_slice (sl_tupK (K := K) rfl) (pv 1) po_none (po_some (pv 5))) (pa_cons (pe_ix (ix_tupK (K := K) rfl) (pv 1) (pv 5) (fun _ _ => rfl)) (pa_cons (pv 4) pa_nil)))))) (pss_one (ps_expr (pe_bm PySem.F.plainAttrs_list PySem.F.slot_list_append PySem.F.type_list_append mt_append (pe_ix (ix_listK (K := K) rfl) (pv 3) (pv 4) (fun _ _ => rfl)) (pa_cons (pe_cal (cal_entry_by (K := K) T) hr (by decide) (by rfl) (pa_cons (pv 0) (pa_cons (pv 2) (pa_cons (pv 4) (pa_cons (pe_ix (ix_tupK (K := K) rfl) (pv 1) (pv 5) (fun _ _ => rfl)) pa_nil))))) pa_nil)))) pss_nil)))))
      (pss_one (ps_ret (pe_callTy (call_tupK (K := K) rfl) (by rfl) T.m_tuple bt_tuple (pa_cons (pe_lc (own := [("label", 6)]) rfl sc_by_order.nd (pi_listK (K := K) rfl (pv 3)) (blkOk_by (N := ["web", "order", "rows", "labels", "place", "at", "label"]) (sc := defScope (top 62)) (by decide +kernel)) (fun _ _ _ _ _ => (pg_name (i := 6) sc_by_order.nd rfl (Or.inl rfl))) (fun _ _ _ _ _ => pts_nil) (fun _ _ _ _ _ => (pe_callTy (call_tupK (K := K) rfl) (by rfl) T.m_tuple bt_tuple (pa_cons (pe_callB (cr_sortedHdK (K := K) rfl) (by rfl) T.m_sorted bt_sorted (pa_cons (pv 6) pa_nil)) pa_nil)))) pa_nil)))))))), ?_⟩
  have most := ok.most
  have ol := ord_len oo
  have lt : ∀ m ∈ ord, m < W.n := fun m hm => (oo.mem m).mp hm
  refine d_when (b := !true) (et_not (et_test (ev_bool (evd_call (evds_cons (evd_var rfl h1) (evds_cons (evd_var rfl h2) evds_nil)) ⟨W, ord, ok, oo, rfl, rfl⟩)))) (fun z => by cases z) fun _ H1 e1 => ?_
  refine d_set (evd_call (evds_cons (evd_var rfl (Dpx h1 e1)) evds_nil) ⟨W, ok, rfl, rfl⟩) fun vr H2 e2 hrw => ?_
  have e12 := e1.trans e2
  refine q_lists (K := K) (evi_range (ev_n (evd_i0 (evd_var rfl (Dpx h1 e12)))) (by omega)).j (by rw [upto_len]; omega) (by intro x; rfl) fun p ls H3 N e3 hp hls => ?_
  rw [upto_len] at N
  have g0 : GL K W ord H2 p ls (fun _ => 0) H3 := ⟨e3, hp, fun v l hl => ⟨[], hls l (List.mem_of_getElem? hl), by rw [LwM.acc_zero]; exact .nil⟩⟩
  have d1 : Dp K H2 v1 (webD W) := Dpx h1 e12
  have d2 : Dp K H2 v2 (placesD ord) := Dpx h2 e12
  have en : ∀ {H'} (e : Ex H2 H') {σ : Ks}, σ[0]? = some (some v1) → EvD K (tOp (rIxT K) (tVar 0) (tC (.int 0))) σ H' (nD W.n) := fun e σ hs => evd_i0 (evd_var hs (Dpx d1 e))
  refine dq_for (K := K) (G := H2) (evi_range (ev_n (en (Ex.refl _) rfl)) (by omega)) e3 (fun i σ' H' => ∃ x4 x5 x6, σ' = [some v1, some v2, some vr, some (.ref p), x4, x5, x6] ∧ GL K W ord H2 p ls (fun _ => i) H')
    (fun H4 e4 => ⟨none, none, none, rfl, g0.mono e4⟩) (fun i σ' H' q => by obtain ⟨_, _, _, _, g⟩ := q; exact g.ex) (fun i d x σ' H4 H5 hi q e5 dx => ?_) fun σ' H' q => ?_
  · obtain ⟨x4, x5, x6, rfl, g⟩ := q
    have hin : i < W.n := by
      have := (List.getElem?_eq_some_iff.mp hi).1
      rw [upto_len] at this
      exact this
    rw [upto_at hin] at hi
    cases hi
    have dx' : x = .int (i : Int) := dp_n (n := i) dx
    subst dx'
    obtain ⟨hb, hbi⟩ : ∃ hb, ord[i]? = some hb := ⟨_, List.getElem?_eq_getElem (by omega)⟩
    have hbl := lt hb (List.mem_of_getElem? hbi)
    have g5 := g.mono e5
    refine d_for (K := K) (G := H2) (evi_range (ev_n (en (Ex.refl _) rfl)) (by omega)) g5.ex (fun j σ' H' => ∃ x4 x6, σ' = [some v1, some v2, some vr, some (.ref p), x4, some (.int (i : Int)), x6] ∧ GL K W ord H2 p ls (fun v => if v < j then i + 1 else i) H')
      (fun H6 e6 => ⟨x4, x6, rfl, (g5.mono e6).same fun v _ => by rw [if_neg (Nat.not_lt_zero v)]⟩) (fun j σ' H' q => by obtain ⟨_, _, _, g⟩ := q; exact g.ex) (fun j d y σ' H6 H7 hj q e7 dy => ?_) fun σ' H' q => ?_
    · obtain ⟨z4, z6, rfl, gj⟩ := q
      have hjn : j < W.n := by
        have := (List.getElem?_eq_some_iff.mp hj).1
        rw [upto_len] at this
        exact this
      rw [upto_at hjn] at hj
      cases hj
      have dy' : y = .int (j : Int) := dp_n (n := j) dy
      subst dy'
      have g7 := gj.mono e7
      have step := LwM.acc_step (W := W) oo.nd hbi j
      have hsl : EvD K (tSl (rSlT K) (tVar 1) tNoPart (tPart (tVar 5))) [some v1, some v2, some vr, some (.ref p), some (.int (j : Int)), some (.int (i : Int)), z6] H7 (placesD (ord.take i)) := by
        refine (evd_slT (l := none) (u := some (i : Int)) (evd_var rfl (Dpx d2 g7.ex)) evo_none (evo_some (ev_n (K := K) (evd_var rfl (.int _)))) ?_).to ?_
        · rw [List.length_map, HT.sIx_nat, HT.sIx_none]
          omega
        · unfold cutD placesD
          rw [List.length_map, HT.sIx_nat, HT.sIx_none, Nat.sub_zero, List.drop_zero, List.map_take]
          congr 2
          omega
      refine d_if1 (b := isHub W (ord.take i) hb j) (et_test (ev_bool (evd_call (evds_cons (evd_var rfl (Dpx hrw g7.ex)) (evds_cons hsl (evds_cons (evd_at (evd_var rfl (Dpx d2 g7.ex)) (evd_var rfl (.int _)) hbi) (evds_cons (evd_var rfl (.int _)) evds_nil)))) ⟨W, ord.take i, hb, j, ok, fun m hm => lt m (List.mem_of_mem_take hm), by rw [List.length_take]; omega, hbl, hjn, rfl, rfl⟩))) (fun hb1 H8 e8 => ?_) fun hb0 H8 e8 => ?_
      · have g8 := g7.mono e8
        obtain ⟨l, hl⟩ : ∃ l, ls[j]? = some l := ⟨_, List.getElem?_eq_getElem (by rw [N.len]; exact hjn)⟩
        obtain ⟨xs, hx1, hx2⟩ := g8.row j l hl
        have hdj : ∃ x, D W j hb = some x := by
          unfold isHub at hb1
          obtain ⟨x, hx⟩ := Option.isSome_iff_exists.mp (Bool.and_eq_true_iff.mp hb1).1
          exact ⟨x, by rw [D_symm ok hjn hbl]; exact hx⟩
        have lx : xs.length < 100000 := by
          have := acc_len W ord (if j < j then i + 1 else i) j
          rw [dps_len hx2, List.length_map]
          omega
        refine l_appendE hx1 (ev_ixRef (K := K) rfl g8.lst (evd_var rfl (.int _)) hl) (evd_call (evds_cons (evd_var rfl (Dpx d1 g8.ex)) (evds_cons (evd_var rfl (Dpx hrw g8.ex)) (evds_cons (evd_var rfl (.int _)) (evds_cons (evd_at (evd_var rfl (Dpx d2 g8.ex)) (evd_var rfl (.int _)) hbi) evds_nil)))) ⟨W, j, hb, ok, hjn, hbl, hdj, rfl, rfl⟩) lx fun v H9 e9 d9 => ?_
        refine ⟨_, _, rfl, (g8.mono e9).put N hl (e9 _ _ hx1) (Dpsx hx2 e9) d9 ?_ fun u hu => ?_⟩
        · rw [if_pos (Nat.lt_succ_self j), if_neg (Nat.lt_irrefl j), step, if_pos hb1]
        · by_cases hlt : u < j
          · rw [if_pos hlt, if_pos (Nat.lt_succ_of_lt hlt)]
          · rw [if_neg hlt, if_neg (by omega)]
      · refine ⟨_, _, rfl, (g7.mono e8).same fun u hu => ?_⟩
        by_cases huj : u = j
        · subst huj
          rw [if_pos (Nat.lt_succ_self u), if_neg (Nat.lt_irrefl u), step, if_neg (by rw [hb0]; exact Bool.false_ne_true), List.append_nil]
        · by_cases hlt : u < j
          · rw [if_pos hlt, if_pos (Nat.lt_succ_of_lt hlt)]
          · rw [if_neg hlt, if_neg (by omega)]
    · obtain ⟨z4, z6, rfl, gj⟩ := q
      rw [upto_len] at gj
      refine ⟨_, _, _, rfl, gj.same fun v hv => ?_⟩
      rw [N.len] at hv
      rw [if_pos hv]
  · obtain ⟨x4, x5, x6, rfl, g⟩ := q
    rw [upto_len] at g
    have dl : Dp K H' (.ref p) (.list ((List.range W.n).map fun v => .list ((accL W ord W.n v).map entD))) := by
      refine .lst (sq_of g.lst) (dps_of_at (by rw [List.length_map, List.length_map, List.length_range, N.len]) fun v x d hx hd => ?_)
      rw [List.getElem?_map] at hx hd
      obtain ⟨l, hl, rfl⟩ := Option.map_eq_some_iff.mp hx
      obtain ⟨v', hv, rfl⟩ := Option.map_eq_some_iff.mp hd
      have hvn : v < W.n := by
        have := (List.getElem?_eq_some_iff.mp hl).1
        rw [N.len] at this
        exact this
      rw [List.getElem?_range hvn] at hv
      cases hv
      obtain ⟨xs, hx1, hx2⟩ := g.row v l hl
      exact .lst (sq_of hx1) hx2
    refine d_ret (evd_tupL (evn_lcB (enc := fun v => .list ((accL W ord W.n v).map entD)) (l := List.range W.n) (fun v => labD (labelBy W ord v)) (evi_varL rfl dl).j (by rw [List.length_range]; omega) (fun v _ => fz_lab _) fun v x H6 P hv e6 dx q => ?_).toD) fun x H6 e6 d6 => ?_
    · refine q _ rfl (evd_tupL (evn_sortedHd (K := K) (ts := accL W ord W.n v) (out := labelBy W ord v) (hd := fun e => (e.hub : Int)) (evd_var rfl dx) (fun e => ⟨_, rfl⟩) ?_ fun us hp hw => acc_sorted oo (by omega) hp hw).toD)
      have h1 := acc_hubs (W := W) oo.nd W.n v
      have e : (accL W ord W.n v).map (fun e => (e.hub : Int)) = ((accL W ord W.n v).map (·.hub)).map fun (n : Nat) => (n : Int) := by rw [List.map_map]; rfl
      rw [e]
      exact List.Pairwise.map _ (fun a b h => by omega) h1
    · refine k x H6 ((e12.trans g.ex).trans e6) ?_
      have e : labelsD (labelsBy W ord) = .tuple ((List.range W.n).map fun v => labD (labelBy W ord v)) := by
        unfold labelsD labelsBy
        rw [List.map_map]
        rfl
      rw [e]
      exact d6
end
end Lw
namespace Lw
open PySem PySem.Spec PyProof.Rows L2 Evl LwM
/-! ### data that are short when shown -/
structure Shw (c b : Nat) (d : PyData) : Prop where
  sh : d.showable = true
  lv : d.leavesShort 13 = true
  nd : d.hasDict = false
  bk : d.bulk ≤ b
  dp : d.depth ≤ c
theorem Shw.mono {c b c' b' : Nat} {d : PyData} (h : Shw c b d) (h1 : c ≤ c') (h2 : b ≤ b') : Shw c' b' d := ⟨h.sh, h.lv, h.nd, Nat.le_trans h.bk h2, Nat.le_trans h.dp h1⟩
theorem shw_all {c b : Nat} : ∀ {ds : List PyData}, (∀ d ∈ ds, Shw c b d) → PyData.showableAll ds = true ∧ PyData.leavesShortAll 13 ds = true ∧ PyData.hasDictAll ds = false ∧ PyData.bulkAll ds ≤ ds.length * (b + 1) ∧ PyData.depthAll ds ≤ c
  | [], _ => ⟨rfl, rfl, rfl, Nat.zero_le _, Nat.zero_le _⟩
  | d :: ds, h => by
    obtain ⟨h1, h2, h3, h4, h5⟩ := shw_all (ds := ds) fun e he => h e (List.mem_cons_of_mem _ he)
    have q := h d (List.mem_cons_self ..)
    refine ⟨?_, ?_, ?_, ?_, ?_⟩
    · show (d.showable && PyData.showableAll ds) = true
      rw [q.sh, h1]; rfl
    · show (d.leavesShort 13 && PyData.leavesShortAll 13 ds) = true
      rw [q.lv, h2]; rfl
    · show (d.hasDict || PyData.hasDictAll ds) = false
      rw [q.nd, h3]; rfl
    · show d.bulk + 1 + PyData.bulkAll ds ≤ (ds.length + 1) * (b + 1)
      have := q.bk
      rw [Nat.add_mul, Nat.one_mul]
      omega
    · show max d.depth (PyData.depthAll ds) ≤ c
      exact Nat.max_le.mpr ⟨q.dp, h5⟩
theorem shw_tup {c b : Nat} {ds : List PyData} (h : ∀ d ∈ ds, Shw c b d) : Shw (c + 1) (ds.length * (b + 1)) (.tuple ds) := by
  obtain ⟨h1, h2, h3, h4, h5⟩ := shw_all h
  exact ⟨h1, h2, h3, h4, Nat.succ_le_succ h5⟩
theorem shw_n {n : Nat} (h : n ≤ 9999) : Shw 0 0 (nD n) := by
  refine ⟨?_, ?_, rfl, Nat.le_refl 0, Nat.le_refl 0⟩
  · show decide (((n : Int)).natAbs.log2 < 1920) = true
    have e : ((n : Int)).natAbs = n := Int.natAbs_natCast n
    rw [e]
    refine decide_eq_true ?_
    by_cases z : n = 0
    · subst z
      decide
    · exact (Nat.log2_lt z).mpr (Nat.lt_of_le_of_lt h (by decide +kernel))
  · show decide ((PyData.shown (.int (n : Int))).length ≤ 13) = true
    refine decide_eq_true ?_
    have q := int_text_length_le10 (a := (n : Int)) (k := 4) (by decide) (by
      have e : ((n : Int)).natAbs = n := Int.natAbs_natCast n
      rw [e]
      have : (10 : Nat) ^ 4 = 10000 := by decide
      omega)
    show (Str.ofString (toString (n : Int))).length ≤ 13
    rw [PySem.ofString_length]
    omega
theorem shw_non : Shw 0 0 .none := ⟨rfl, rfl, rfl, Nat.le_refl 0, Nat.le_refl 0⟩
theorem shw_opt {o : Option Nat} (h : ∀ a, o = some a → a ≤ 9999) : Shw 0 0 (optD o) := by
  cases o with
  | none => exact shw_non
  | some n => exact shw_n (h n rfl)
theorem shw_map {α : Type} {f : α → PyData} {l : List α} {c b n : Nat} (h : ∀ a ∈ l, Shw c b (f a)) (hn : l.length ≤ n) : Shw (c + 1) (n * (b + 1)) (.tuple (l.map f)) :=
  (shw_tup fun d hd => by
    obtain ⟨a, ha, rfl⟩ := List.mem_map.mp hd
    exact h a ha).mono (Nat.le_refl _) (by rw [List.length_map]; exact Nat.mul_le_mul_right _ hn)
theorem shw_web {W : Web} (ok : WebOk W) : Shw 4 1000 (webD W) := by
  have most := ok.most
  have t : ∀ s ∈ W.ties, Shw 1 3 (tieD s) := fun s hs => by
    obtain ⟨h1, h2, h3, h4⟩ := ok.tie s hs
    refine (shw_tup (c := 0) (b := 0) (ds := [nD s.1, nD s.2.1, nD s.2.2]) fun d hd => ?_).mono (Nat.le_refl 1) (Nat.le_refl 3)
    simp only [List.mem_cons, List.not_mem_nil, or_false] at hd
    rcases hd with rfl | rfl | rfl
    · exact shw_n (by omega)
    · exact shw_n (by omega)
    · exact shw_n (by omega)
  have ts : Shw 2 (60 * 4) (tiesD W.ties) := shw_map t ok.few
  refine (shw_tup (c := 2) (b := 240) (ds := [nD W.n, tiesD W.ties]) fun d hd => ?_).mono (by decide) (by show 2 * (240 + 1) ≤ 1000; decide)
  simp only [List.mem_cons, List.not_mem_nil, or_false] at hd
  rcases hd with rfl | rfl
  · exact (shw_n (by omega)).mono (by decide) (by decide)
  · exact ts
theorem shw_labels {L : List Lab} (h : ∀ l ∈ L, (∀ e ∈ l, EntSm e) ∧ l.length ≤ 24) (hL : L.length ≤ 24) : Shw 4 3000 (labelsD L) := by
  have t : ∀ e : Ent, EntSm e → Shw 1 4 (entD e) := fun e he => by
    refine (shw_tup (c := 0) (b := 0) (ds := [nD e.hub, nD e.long, optD e.up, optD e.down]) fun d hd => ?_).mono (Nat.le_refl 1) (Nat.le_refl 4)
    simp only [List.mem_cons, List.not_mem_nil, or_false] at hd
    rcases hd with rfl | rfl | rfl | rfl
    · exact shw_n he.hub
    · exact shw_n he.long
    · exact shw_opt he.up
    · exact shw_opt he.down
  have tl : ∀ l ∈ L, Shw 2 (24 * 5) (labD l) := fun l hl => shw_map (fun e he => t e ((h l hl).1 e he)) (h l hl).2
  exact (shw_map tl hL).mono (by decide) (by decide)
/-! ### repr, where nothing is being shown -/
def rRepr (K : Fg) : List V → Hp → VK → Prop := fun xs H Q => ∃ x ds, xs = [x] ∧ Dp K H x (.tuple ds) ∧ Shw 30 20000 (.tuple ds) ∧ Q (.str (PyData.shown (.tuple ds))) H
theorem cr_repr {X : Cx} {K : Fg} (hK : X.K = K) (hg : X.A.guards = some []) (hu : X.A.units + 64 < cLine) : CallR X (.builtin "repr") (rRepr K) := by
  intro pins s σ H xs us Q I r h
  obtain ⟨x, ds, rfl, hd, sw, q⟩ := h
  subst hK
  obtain ⟨u, ur, rfl, r1, r2⟩ : ∃ u ur, us = u :: ur ∧ RelV x u ∧ Vals [] ur := by
    cases r with
    | cons a b => exact ⟨_, _, rfl, a, b⟩
  cases r2
  obtain ⟨as, rd⟩ := Dp.reads I _ x u hd r1
  obtain ⟨a, ys, rfl, _, _⟩ := dp_tup hd
  obtain rfl : u = Value.ref a := r1
  have dp := sw.dp
  exact repr_of_reads' rd sw.sh (PyData.noDict_hsm sw.nd) hg (by omega) (fun _ _ e => e) (fun h' t tk hk => ⟨.str _, H, I.kept hk, ⟨_, rfl⟩, q⟩) (PyData.shown_fits_bulk (by decide) (by decide) sw.lv (Nat.le_trans sw.bk (by decide)))
theorem ev_repr {K : Fg} {σ : Ks} {H : Hp} {ta : TE} {ds : List PyData} (h : EvD K ta σ H (.tuple ds)) (sw : Shw 4 3000 (.tuple ds)) : Ev (tCB (rRepr K) (tCons ta tNil)) σ H (.str (PyData.shown (.tuple ds))) := fun H1 e Q q =>
  h H1 e _ fun v H2 e2 d2 => ⟨v, ds, rfl, d2, sw.mono (by decide) (by decide), q H2 e2⟩
/-! ### what a def promises where nothing is being shown -/
def Promise (P : Program) (w : World) (K : Fg) (mg : Str → Option Value) (base : Heap) (f : Addr) (fd : FuncData) (ps : List Str) (sp : Sp) (A : Around) : Prop :=
  ∀ (outer : List Env) (s : Shared) (H : Hp) (args : Args) (us : List Value) (vs : List V) (Q : VK) (E : XK), Env0 P w K mg base A outer s H → BindsTo s fd args (ps.zip us) → Vals vs us → sp vs H Q E →
    codeAny (model P w) A (.call (.ref f) args) (CR CX0 outer P w H s Q E) s
structure FnG (P : Program) (w : World) (K : Fg) (mg : Str → Option Value) (base : Heap) (k : Nat) (f : Addr) (fd : FuncData) (ps : List Str) (sp : Sp) : Prop where
  all : ∀ vs H Q E, sp vs H Q E → vs.length = ps.length
  goes : ∀ A : Around, A.guards = some [] → Room k A → Promise P w K mg base f fd ps sp A
section
variable {P : Program} {w : World} {K : Fg} {mg : Str → Option Value} {base : Heap}
theorem fng_of {x : Str} {st : Stmt} {f : Addr} {fd : FuncData} {N ps : List Str} {k : Nat} {sp : Sp} (F : FunD K x x (defArgs st) (defBody st) (defScope st) [] [] f fd) (S : FnScope N ps (defScope st))
    (hl : ∀ vs H Q E, sp vs H Q E → vs.length = ps.length)
    (body : ∀ (cdv : Value) (A : Around) (outer : List Env) (s : Shared) (H : Hp) (vs : List V) (Q : VK) (E : XK), A.guards = some [] → Room k (A.deeper (envOfC x (defScope st) s.heap.objs.size f cdv)) → sp vs H Q E →
      ∃ t, PSs (cxOf CX0 P w K mg base N x (defScope st) f cdv A outer s H E).nox (defBody st) t ∧ t { nx := fun _ H' => Q .non H', rt := Q } (start N vs) H) : FnG P w K mg base (k + 1) f fd ps sp := by
  obtain ⟨oc, od, dV, kV, doc, pm, an, cdv, ct, osl, rfl, lk, hcd, _, _⟩ := F.ex
  refine ⟨hl, fun A hg hr outer s H args us vs Q E e0 hb r hsp => ?_⟩
  have old : ∀ b o, base.get? b = some o → s.heap.get? b = some o := fun b o e => (e0.bs b o e).1
  have ein : K.In s.heap := e0.mod.kin.keeps old
  refine codeAny_call_function hr.depth (ein _ _ lk) rfl S.co S.gen rfl (PySem.W.codeRec_of ein hcd) (hb _ _ _ _ (wpAny_newFunctionEnv_cells S.kind (fun y hy => ?_) fun env he s1 x1 => ?_))
  · exact (S.par y.1 (List.of_mem_zip hy).1).elim .inl fun q => .inr ⟨q, PySem.W.cellsFrom_some _ _ _ (.inl q)⟩
  · subst he
    refine ⟨(e0.mod.nolimit.keeps old).keeps x1.toInCall.keep, codeAny_func ?_⟩
    obtain ⟨t, h1, h2⟩ := body cdv A outer s H vs Q E hg (hr.deeper _) hsp
    refine wpAny_mono (h1.nox.run [] s1 (start N vs) H _ (inv_start S hr.hd e0 (hl _ _ _ _ hsp) r x1) h2) (fun fl s' z => ?_) fun _ _ z => z
    match fl, z with
    | .ret u, ⟨v, σ', H', J, rv, q⟩ => exact ⟨v, H', J.os, J.bare, J.base, J.hok, rv, q⟩
    | .next, ⟨σ', H', J, q⟩ => exact ⟨.non, H', J.os, J.bare, J.base, J.hok, rfl, q⟩
    | .brk, ⟨_, _, _, q⟩ => exact False.elim q
    | .cont, ⟨_, _, _, q⟩ => exact False.elim q
structure CalG (P : Program) (w : World) (K : Fg) (mg : Str → Option Value) (base : Heap) (k : Nat) (x : Str) (sp : Sp) : Prop where
  ex : ∃ (f : Addr) (fd : FuncData) (ps : List Str), FnG P w K mg base k f fd ps sp ∧ mg x = some (.ref f) ∧ PySem.W.keepIn K (.ref f) = true ∧ Binds K fd ps []
theorem calg_sp {g x : Str} {st : Stmt} {N ps : List Str} {k : Nat} {sp : Sp} (F : ∃ fd, FunD K x x (defArgs st) (defBody st) (defScope st) [] [] (He.ga K g) fd) (hm : mg g = some (.ref (He.ga K g))) (S : FnScope N ps (defScope st))
    (hb : ∀ (kV doc pm : Value) (an : Option Addr) (cdv ct : Value) (us : List Value), us.length = ps.length → bindArgs (PySem.W.fnOf x x (defArgs st) (defBody st) (defScope st) .none kV doc pm an cdv ct) ⟨us, []⟩ = pure (ps.zip us))
    (hl : ∀ vs H Q E, sp vs H Q E → vs.length = ps.length)
    (body : ∀ (cdv : Value) (A : Around) (outer : List Env) (s : Shared) (H : Hp) (vs : List V) (Q : VK) (E : XK), A.guards = some [] → Room k (A.deeper (envOfC x (defScope st) s.heap.objs.size (He.ga K g) cdv)) → sp vs H Q E →
      ∃ t, PSs (cxOf CX0 P w K mg base N x (defScope st) (He.ga K g) cdv A outer s H E).nox (defBody st) t ∧ t { nx := fun _ H' => Q .non H', rt := Q } (start N vs) H) : CalG P w K mg base (k + 1) g sp := by
  obtain ⟨fd, F⟩ := F
  exact ⟨_, fd, ps, fng_of F S hl body, hm, F.kp, F.bindsN hb⟩
end
theorem run_fng {X : Cx} {k : Nat} {f : Addr} {fd : FuncData} {ps : List Str} {sp : Sp} {pins : List (Addr × Obj)} {σ : Ks} {H : Hp} {s : Shared} {Q : VK} {us : List Value} {vs : List V} (F : FnG X.prog X.w X.K X.mg X.base k f fd ps sp) (hg : X.A.guards = some []) (hr : Room k X.A) (hb : Binds X.K fd ps [])
    (I : Inv X pins σ H s) (r : Vals vs us) (h : sp vs H Q E0) : wpAny (model X.prog X.w) X.A (call (.ref f) us) (EP X pins σ Q) X.xe s := by
  have b := hb s us I.kIn
  rw [List.append_nil] at b
  have al : us.length = ps.length := r.length ▸ F.all _ _ _ _ h
  refine wpAny_call (codeAny_mono (F.goes X.A hg hr X.stack s H ⟨us, []⟩ us vs Q E0 I.env0 (b al) r h) fun z s' q => ?_)
  match z, q with
  | .error _, q => exact False.elim q
  | .ok (.ret _), q => exact I.after q
  | .ok .next, q => exact False.elim q
  | .ok .brk, q => exact False.elim q
  | .ok .cont, q => exact False.elim q
theorem pe_calg {X : Cx} {k j : Nat} {x : Str} {sp : Sp} {p pos : Pos} {e : Expr} {es : List Expr} {t : TA} (c : CalG X.prog X.w X.K X.mg X.base k x sp) (hG : X.A.guards = some []) (hr : Room j X.A) (hk : k ≤ j) (hg : Gl X x) (ha : PA X (e :: es) t)
    (hdb : (x == ("__debug__" : Str)) = false := by decide) (he : starEach (e :: es) X.env = (false, eval e X.env) :: starEach es X.env := by rfl) (hpl : (backTo pos (starEach es X.env)).any (·.1) = false := by rfl) :
    PE X (.Call (.Name x p) (e :: es) [] pos) (tCall sp [] E0 t) := by
  obtain ⟨f, fd, ps, F, hm, kp, b⟩ := c.ex
  refine ⟨fun pins s σ H Q I h => wpAny_Call_Name_kw (ld_glob I hg hm ?_ hdb)⟩
  refine PySem.W.callWith_K (h₀ := X.base) I.ok.mod.kin kp (thn (ha.run pos pins s σ H _ I h) fun us s1 z => ?_) he hpl
  obtain ⟨vs, H1, I1, r, q⟩ := z
  rw [List.append_nil] at q
  exact ⟨I1.kIn, run_fng F hG (hr.mono hk) b I1 r q⟩
end Lw
namespace Lw
open PySem PySem.Spec PyProof.Rows L2 Evl LwM
/-! ### dicts of numbers -/
def rDictK (K : Fg) : List V → Hp → VK → Prop := fun xs H Q => ∃ (a : Addr) (ps : List Addr) (kvs : List (Key × V)), xs = [.ref a] ∧ SqL K H a (ps.map V.ref) ∧ Paired (fun p kv => SqT K H p [kV kv.1, kv.2]) ps kvs ∧
    ∀ p, H p = none → Q (.ref p) (upd H p (.dK (mergeK [] kvs)))
theorem call_dictK {X : Cx} {K : Fg} (h : X.K = K) (hc : X.calm = true) : CallR X (.type "dict") (rDictK K) := h ▸ call_dictP hc
def Dc (H : Hp) (d : Addr) (f : Nat → Option Nat) : Prop := ∃ kvs, H d = some (.dK kvs) ∧ ∀ j : Nat, valV kvs (Sum.inl (j : Int)) = (f j).map fun (n : Nat) => V.int (n : Int)
theorem Dc.mono {H H' : Hp} {d : Addr} {f : Nat → Option Nat} (h : Dc H d f) (e : Ex H H') : Dc H' d f := by
  obtain ⟨kvs, h1, h2⟩ := h
  exact ⟨kvs, e _ _ h1, h2⟩
theorem valV_merge {j : Key} : ∀ {kvs acc : List (Key × V)}, (kvs.map (·.1)).Nodup → valV (mergeK acc kvs) j = match kvs.find? (fun kv => decide (kv.1 = j)) with
    | some kv => some kv.2
    | none => valV acc j
  | [], _, _ => rfl
  | kv :: kvs, acc, h => by
    rw [List.map_cons, List.nodup_cons] at h
    show valV (mergeK (putK acc kv.1 kv.2) kvs) j = _
    rw [valV_merge h.2, valV_put, List.find?_cons]
    by_cases e : kv.1 = j
    · rw [decide_eq_true e, if_pos e.symm]
      cases hf : kvs.find? (fun kv => decide (kv.1 = j)) with
      | none => rfl
      | some q =>
        have h1 := List.find?_some hf
        have h2 := List.mem_of_find?_eq_some hf
        simp only [decide_eq_true_eq] at h1
        exact absurd (List.mem_map.mpr ⟨q, h2, by rw [h1, e]⟩) h.1
    · rw [decide_eq_false e, if_neg (fun q => e q.symm)]
def EvK (K : Fg) (te : TE) (σ : Ks) (H : Hp) (f : Nat → Option Nat) : Prop := ∀ H1, Ex H H1 → ∀ Q : VK, (∀ p H2, H1 p = none → Ex H1 H2 → Dc H2 p f → Q (.ref p) H2) → te σ H1 Q
section
variable {K : Fg} {σ : Ks} {H H' : Hp} {ta tb te tx : TE} {d e : PyData} {ds es : List PyData}
theorem evk_dict {α : Type} {l : List α} {kf vf : α → Nat} (ha : EvD K ta σ H (.list (l.map fun a => .tuple [nD (kf a), nD (vf a)]))) (hn : (l.map kf).Nodup) : EvK K (tCB (rDictK K) (tCons ta tNil)) σ H (fun j => (l.find? fun a => decide (kf a = j)).map vf) := fun H1 e Q q =>
  ha H1 e _ fun v H2 e2 d2 => by
    obtain ⟨a, xs, rfl, hs, hd⟩ := dp_lst d2
    obtain ⟨ps, e1, pr⟩ : ∃ ps : List Addr, xs = ps.map V.ref ∧ Paired (fun p kv => SqT K H2 p [kV kv.1, kv.2]) ps (l.map fun a => ((Sum.inl (kf a : Int) : Key), V.int (vf a : Int))) := by
      clear ha hn hs d2 q
      induction l generalizing xs with
      | nil => cases hd; exact ⟨[], rfl, .nil⟩
      | cons b l ih =>
        cases hd with
        | cons h1 h2 =>
          obtain ⟨p, ys, rfl, h3, h4⟩ := dp_tup h1
          obtain ⟨ps, rfl, pr⟩ := ih _ h2
          cases h4 with
          | cons g1 t =>
            cases t with
            | cons g2 t =>
              cases t
              cases g1
              cases g2
              exact ⟨p :: ps, rfl, .cons h3 pr⟩
    subst e1
    refine ⟨a, ps, _, rfl, hs, pr, fun p hp => q p _ (fresh_back e2 hp) (e2.trans (Ex.new hp)) ⟨_, upd_same, fun j => ?_⟩⟩
    rw [valV_merge]
    · rw [List.find?_map]
      have e3 : ((fun kv : Key × V => decide (kv.1 = Sum.inl (j : Int))) ∘ fun a => ((Sum.inl (kf a : Int) : Key), V.int (vf a : Int))) = fun a => decide (kf a = j) := by
        funext a
        have : (Sum.inl (kf a : Int) : Key) = Sum.inl (j : Int) ↔ kf a = j := by
          constructor
          · intro h
            injection h with h
            omega
          · intro h
            rw [h]
        exact decide_eq_decide.mpr this
      rw [e3]
      show _ = Option.map _ (Option.map vf (List.find? (fun a => decide (kf a = j)) l))
      cases l.find? (fun a => decide (kf a = j)) <;> rfl
    · rw [List.map_map]
      have e4 : ((fun kv : Key × V => kv.1) ∘ fun a => ((Sum.inl (kf a : Int) : Key), V.int (vf a : Int))) = (fun n : Nat => (Sum.inl (n : Int) : Key)) ∘ kf := rfl
      rw [e4, ← List.map_map]
      exact List.Pairwise.map _ (fun a b h e => h (by injection e with e; omega)) hn
theorem ev_din {i j : Nat} {p : Addr} {f : Nat → Option Nat} (hs : σ[i]? = some (some (.ref p))) (hd : Dc H p f) (hj : EvD K tb σ H (nD j)) : Ev (tDIn tb (tVar i)) σ H (.bl (f j).isSome) := fun H1 e Q q =>
  hj H1 e _ fun v H2 e2 d2 => by
    rw [dp_n d2]
    obtain ⟨kvs, h1, h2⟩ := hd.mono (e.trans e2)
    refine ⟨_, hs, p, _, rfl, DGet.k (k := Sum.inl (j : Int)) h1, ?_⟩
    rw [h2, Option.isSome_map]
    exact q H2 e2
theorem evd_dget {i j n : Nat} {p : Addr} {f : Nat → Option Nat} (hs : σ[i]? = some (some (.ref p))) (hd : Dc H p f) (hj : EvD K tb σ H (nD j)) (hn : f j = some n) : EvD K (tDGet (tVar i) tb) σ H (nD n) := fun H1 e Q q =>
  ⟨_, hs, hj H1 e _ fun v H2 e2 d2 => by
    rw [dp_n d2]
    obtain ⟨kvs, h1, h2⟩ := hd.mono (e.trans e2)
    have g := DGet.k (k := Sum.inl (j : Int)) h1
    rw [h2, hn] at g
    exact ⟨p, _, rfl, g, q _ H2 e2 (.int _)⟩⟩
theorem q_setK {D : Ends} {tz : TS} {i : Nat} {f : Nat → Option Nat} (h : EvK K te σ H f) (k : ∀ p H1, H p = none → Ex H H1 → Dc H1 p f → tz D (σ.set i (some (.ref p))) H1) : tSeq (tAsg te (gName i)) tz D σ H := h H (Ex.refl _) _ k
/-! ### min of pairs -/
def prD (p : Nat × Nat) : PyData := .tuple [nD p.1, nD p.2]
theorem shp_pr (p : Nat × Nat) : Shp (prD p) 2 := shp_tup fun d hd => by
  simp only [List.mem_cons, List.not_mem_nil, or_false] at hd
  rcases hd with rfl | rfl <;> exact shp_n _
def prI (p : Nat × Nat) : Int × Int := ((p.1 : Int), (p.2 : Int))
theorem dataLt_pr (p a : Nat × Nat) : PySem.W.dataLt (prD a) (prD p) = decide ((a.1 : Int) < p.1 ∨ ((a.1 : Int) = p.1 ∧ (a.2 : Int) < p.2)) := by
  have h := PySem.W.DatumOrd.lt_eq (prI a) (prI p)
  refine (show PySem.W.dataLt (prD a) (prD p) = _ from h).trans ?_
  show (if (a.1 : Int) = (p.1 : Int) then decide ((a.2 : Int) < p.2) else decide ((a.1 : Int) < p.1)) = _
  by_cases e : (a.1 : Int) = (p.1 : Int)
  · rw [if_pos e]
    exact decide_eq_decide.mpr ⟨fun h => .inr ⟨e, h⟩, fun h => by omega⟩
  · rw [if_neg e]
    exact decide_eq_decide.mpr ⟨fun h => .inl h, fun h => by omega⟩
theorem minD_pr (p : Nat × Nat) (l : List (Nat × Nat)) : ∃ q ∈ p :: l, PySem.W.minD (prD p) (l.map prD) = prD q ∧ ∀ r ∈ p :: l, q.1 ≤ r.1 := by
  unfold PySem.W.minD
  induction l generalizing p with
  | nil => exact ⟨p, by simp, rfl, by simp⟩
  | cons a l ih =>
    rw [List.map_cons, List.foldl_cons]
    have e : PySem.W.dataLt (prD a) (prD p) = decide ((a.1 : Int) < p.1 ∨ ((a.1 : Int) = p.1 ∧ (a.2 : Int) < p.2)) := dataLt_pr p a
    rw [e]
    by_cases h : (a.1 : Int) < p.1 ∨ ((a.1 : Int) = p.1 ∧ (a.2 : Int) < p.2)
    · rw [decide_eq_true h, if_pos rfl]
      obtain ⟨q, h1, h2, h3⟩ := ih a
      refine ⟨q, by simp only [List.mem_cons] at h1 ⊢; exact .inr h1, h2, fun r hr => ?_⟩
      rcases List.mem_cons.mp hr with rfl | hr
      · have := h3 a (by simp)
        omega
      · exact h3 r hr
    · rw [decide_eq_false h, if_neg Bool.false_ne_true]
      obtain ⟨q, h1, h2, h3⟩ := ih p
      refine ⟨q, ?_, h2, fun r hr => ?_⟩
      · rcases List.mem_cons.mp h1 with rfl | h1
        · simp
        · simp [h1]
      · rcases List.mem_cons.mp hr with rfl | hr
        · exact h3 r (by simp)
        · rcases List.mem_cons.mp hr with rfl | hr
          · have := h3 p (by simp)
            omega
          · exact h3 r (by simp [hr])
theorem alike_pr (l : List (Nat × Nat)) : PySem.W.AlikeAll (l.map prD) := by
  have h := PySem.W.alikeAll_datum (l.map prI)
  rw [List.map_map] at h
  exact h
/-- the least of a list of pairs -/
theorem evd_minP {p : Nat × Nat} {l : List (Nat × Nat)} (ha : EvD K ta σ H (.list ((p :: l).map prD))) : ∃ q ∈ p :: l, (∀ r ∈ p :: l, q.1 ≤ r.1) ∧ EvD K (tCB (rMinD K) (tCons ta tNil)) σ H (prD q) := by
  obtain ⟨q, h1, h2, h3⟩ := minD_pr p l
  refine ⟨q, h1, h3, fun H1 e Q k => ha H1 e _ fun v H2 e2 d2 => ?_⟩
  obtain ⟨a, xs, rfl, hs, hd⟩ := dp_lst d2
  refine ⟨a, xs, prD p, l.map prD, rfl, hs, hd, alike_pr (p :: l), ?_, fun v hv => ?_⟩
  · have := (shp_all (k := 2) (l := (p :: l).map prD) (shp_map shp_pr _)).2
    exact Nat.le_trans this (by decide)
  · rw [h2] at hv
    exact k v H2 e2 hv
/-! ### x == [] -/
theorem eqv_nil (l : List PyData) : PyData.eqv (.list l) (.list []) = l.isEmpty := by
  cases l with
  | nil => rfl
  | cons a l => simp [PyData.eqv, PyData.eqvAll]
theorem ev_eqNil (ha : EvD K ta σ H (.list ds)) (hs : SeqAt.shaped (.list ds) = true) : Ev (tOp (rEqD K) ta (tLst tNil)) σ H (.bl ds.isEmpty) := by
  have h := ev_eqD ha (evd_lst (K := K) evds_nil (by decide)) hs ((shp_lst (k := 0) (l := []) (by simp)).sh (by decide))
  rw [eqv_nil] at h
  exact h
end
end Lw
namespace Lw
open PySem PySem.Spec PyProof.Rows L2 Evl LwM
structure EntOk (n : Nat) (e : Ent) : Prop where
  hub : e.hub < n
  zero : e.long = 0 → e.up = none ∧ e.down = none
  ups : e.long ≠ 0 → ∃ a b, e.up = some a ∧ e.down = some b ∧ a < n ∧ b < n
structure LabOk (n : Nat) (l : Lab) : Prop where
  ent : ∀ e ∈ l, EntOk n e
  asc : l.Pairwise fun a b => a.hub < b.hub
  one : (l.filter fun e => decide (e.long = 0)).length = 1
  few : l.length ≤ 1000
section
variable {K : Fg} {σ : Ks} {H H' : Hp} {ta tb te tx : TE} {d e : PyData} {ds es : List PyData}
theorem ev_eqOI {o : Option Nat} {i : Int} (ha : EvD K ta σ H (optD o)) (hb : Ev tb σ H (.int i)) : Ev (tOp rEq ta tb) σ H (.bl (decide (optV o = .int i))) := ev_op (ev_opt ha) hb (rv_eq (by cases o <;> rfl))
theorem evd_sub1 {i : Nat} (h : EvD K ta σ H (nD (1 + i))) : EvD K (tOp (rI0 fun i j => .int (i - j)) ta (tC (.int 1))) σ H (nD i) := by
  have q := ev_sub (ev_n h) (ev_c (v := .int 1))
  rw [show ((1 + i : Nat) : Int) - 1 = (i : Int) by omega] at q
  exact evd_int q
end
section
variable {P : Program} {w : World} {K : Fg} {mg : Str → Option Value} {base : Heap}
/-! ### is_entry, is_label, are_labels -/
def rIsEntry : Rel := fun ds r => ∃ (n : Nat) (e : Ent), EntOk n e ∧ ds = [nD n, entD e] ∧ r = .bool true
theorem evd_num {K : Fg} {σ : Ks} {H : Hp} {ta tb tc : TE} {a n : Nat} (h : a < n) (ha : EvD K ta σ H (nD a)) (hb : Ev tb σ H (.int 0)) (hn : EvD K tc σ H (nD n)) : EvD K (tCall (PureSp K rNumber) [] E0 (tCons ta (tCons tb (tCons (tOp (rI0 fun i j => .int (i - j)) tc (tC (.int 1))) tNil)))) σ H (.bool true) :=
  EvD.to (evd_call (K := K) (rel := rNumber) (d := .bool (decide (((0 : Nat) : Int) ≤ (a : Int)) && decide ((a : Int) ≤ (n : Int) - 1))) (evds_cons ha (evds_cons (evd_int hb) (evds_cons (evd_int (ev_sub (ev_n hn) ev_c)) evds_nil))) ⟨_, _, _, rfl, rfl⟩) (by
    rw [decide_eq_true (show ((0 : Nat) : Int) ≤ (a : Int) by omega), decide_eq_true (show (a : Int) ≤ (n : Int) - 1 by omega)]
    rfl)
theorem sc_is_entry : FnScope ["n", "thing"] ["n", "thing"] (defScope (top 35)) := ⟨rfl, rfl, rfl, by decide +kernel, rfl, by decide +kernel, by decide +kernel⟩
theorem cal_is_entry (T : Txt w K mg) : CalD P w K mg base 2 "is_entry" (PureSp K rIsEntry) := by
  refine cal_of T.f_is_entry T.g_is_entry sc_is_entry (fun _ _ _ _ _ _ us hl => match us, hl with | [_, _], _ => rfl) (fun ds r h => by obtain ⟨_, _, _, rfl, _⟩ := h; rfl) fun cdv A outer s H vs Q E hr ds r h hd k => ?_
  obtain ⟨n, e, ok, rfl, rfl⟩ := h
  obtain ⟨v1, v2, rfl, h1, h2⟩ := dps2 hd
  refine ⟨_, (pss_cons (ps_if (PW.pt (pw_or (pt_not (pt_val (pe_callB (call_isiK' (K := K) rfl) (by rfl) T.m_isinstance bt_isinstance (pa_cons (pv 1) (pa_cons (pe_bltn (v := .ty "tuple") (by rfl) T.m_tuple bt_tuple rfl) pa_nil))))) (pw_or (pt_cmpR op_ne (pe_callB (call_lenK (K := K) rfl) (by rfl) T.m_len bt_len (pa_cons (pv 1) pa_nil)) pe_int (nomark _)) (pw_or1 (pt_not (pt_val (pe_cal (cal_is_number_webs (K := K) T) hr (by decide) (by rfl) (pa_cons (pe_ix (ix_tupK (K := K) rfl) (pv 1) pe_int (fun _ _ => rfl)) (pa_cons pe_int (pa_cons (pe_op op_sub (pv 0) pe_int) pa_nil)))))))))) (pss_one (ps_ret pe_bl)) pss_nil)
      (pss_cons (ps_if (PW.pt (pw_or (pt_not (pt_val (pe_callB (call_isiK' (K := K) rfl) (by rfl) T.m_isinstance bt_isinstance (pa_cons (pe_ix (ix_tupK (K := K) rfl) (pv 1) pe_int (fun _ _ => rfl)) (pa_cons (pe_bltn (v := .ty "int") (by rfl) T.m_int bt_int rfl) pa_nil))))) (pw_or (pt_val (pe_callB (call_isiK' (K := K) rfl) (by rfl) T.m_isinstance bt_isinstance (pa_cons (pe_ix (ix_tupK (K := K) rfl) (pv 1) pe_int (fun _ _ => rfl)) (pa_cons (pe_bltn (v := .ty "bool") (by rfl) T.m_bool bt_bool rfl) pa_nil)))) (pw_or1 (pt_cmpR op_lt (pe_ix (ix_tupK (K := K) rfl) (pv 1) pe_int (fun _ _ => rfl)) pe_int (nomark _)))))) (pss_one (ps_ret pe_bl)) pss_nil)
      (pss_cons (ps_if (pt_cmpR op_eq (pe_ix (ix_tupK (K := K) rfl) (pv 1) pe_int (fun _ _ => rfl)) pe_int (nomark _)) (pss_one (ps_ret (pe_and (pe_cmpR op_isN (pe_ix (ix_tupK (K := K) rfl) (pv 1) pe_int (fun _ _ => rfl)) pe_non (nomark _)) (pe_one (pe_cmpR op_isN (pe_ix (ix_tupK (K := K) rfl) (pv 1) pe_int (fun _ _ => rfl)) pe_non (nomark _)))))) pss_nil)
      (pss_one (ps_ret (pe_and (pe_cal (cal_is_number_webs (K := K) T) hr (by decide) (by rfl) (pa_cons (pe_ix (ix_tupK (K := K) rfl) (pv 1) pe_int (fun _ _ => rfl)) (pa_cons pe_int (pa_cons (pe_op op_sub (pv 0) pe_int) pa_nil)))) (pe_one (pe_cal (cal_is_number_webs (K := K) T) hr (by decide) (by rfl) (pa_cons (pe_ix (ix_tupK (K := K) rfl) (pv 1) pe_int (fun _ _ => rfl)) (pa_cons pe_int (pa_cons (pe_op op_sub (pv 0) pe_int) pa_nil))))))))))), ?_⟩
  refine d_when (b := !true || (!decide ((4 : Int) = 4) || !true)) (et_or (a := !true) (et_not (et_test (ev_isiTup (evd_var rfl h2)))) fun _ => et_or (a := !decide ((4 : Int) = 4)) (et_test (ev_neI (ev_lenT (evd_var rfl h2)) ev_c)) fun _ => et_not (et_test (ev_bool (evd_num ok.hub (evd_i0 (evd_var rfl h2)) ev_c (evd_var rfl h1))))) (fun z => by cases z) fun _ H1 e1 => ?_
  have d1 := Dpx h1 e1
  have d2 := Dpx h2 e1
  refine d_when (b := !true || (false || decide ((e.long : Int) < 0))) (et_or (a := !true) (et_not (et_test (ev_isiInt (evd_i1 (evd_var rfl d2)) rfl))) fun _ => et_or (a := false) (et_test (ev_isiInt (evd_i1 (evd_var rfl d2)) rfl)) fun _ => et_test (ev_lt (ev_n (evd_i1 (evd_var rfl d2))) ev_c)) (fun z => by rw [decide_eq_false (by omega)] at z; cases z) fun _ H2 e2 => ?_
  have d1' := Dpx d1 e2
  have d2' := Dpx d2 e2
  refine d_when (b := decide (e.long = 0)) (et_test (ev_eqN (evd_i1 (evd_var rfl d2')) (evd_cn 0))) (fun hz H3 e3 => ?_) fun hz H3 e3 => ?_
  · rw [decide_eq_true_eq] at hz
    obtain ⟨u1, u2⟩ := ok.zero hz
    refine d_ret (evd_bool (ev_is (ev_andV (a := e.up.isNone) (b := e.down.isNone) (ev_isNO (evd_i2 (evd_var rfl (Dpx d2' e3)))) fun _ => ev_isNO (evd_i3 (evd_var rfl (Dpx d2' e3)))) (by rw [u1, u2]; rfl))) fun v H4 e4 d4 => k v H4 (((e1.trans e2).trans e3).trans e4) d4
  · rw [decide_eq_false_iff_not] at hz
    obtain ⟨a, b, u1, u2, ha, hb⟩ := ok.ups hz
    refine d_ret (evd_bool (ev_is (ev_andV (a := true) (b := true) (ev_bool (evd_num ha ((evd_i2 (evd_var rfl (Dpx d2' e3))).to (by rw [u1]; rfl)) ev_c (evd_var rfl (Dpx d1' e3)))) fun _ => ev_bool (evd_num hb ((evd_i3 (evd_var rfl (Dpx d2' e3))).to (by rw [u2]; rfl)) ev_c (evd_var rfl (Dpx d1' e3)))) rfl)) fun v H4 e4 d4 => k v H4 (((e1.trans e2).trans e3).trans e4) d4
def rIsLabel : Rel := fun ds r => ∃ (n : Nat) (l : Lab), LabOk n l ∧ ds = [nD n, labD l] ∧ r = .bool true
theorem all_true {α : Type} (l : List α) : l.all (fun _ => true) = true := by simp
theorem sc_is_label : FnScope ["n", "thing", "entry", "k"] ["n", "thing"] (defScope (top 36)) := ⟨rfl, rfl, rfl, by decide +kernel, rfl, by decide +kernel, by decide +kernel⟩
theorem cal_is_label (T : Txt w K mg) : CalD P w K mg base 3 "is_label" (PureSp K rIsLabel) := by
  refine cal_of T.f_is_label T.g_is_label sc_is_label (fun _ _ _ _ _ _ us hl => match us, hl with | [_, _], _ => rfl) (fun ds r h => by obtain ⟨_, _, _, rfl, _⟩ := h; rfl) fun cdv A outer s H vs Q E hr ds r h hd k => ?_
  obtain ⟨n, l, ok, rfl, rfl⟩ := h
  obtain ⟨v1, v2, rfl, h1, h2⟩ := dps2 hd
  refine ⟨_, (pss_cons (ps_if (PW.pt (pw_or (pt_not (pt_val (pe_callB (call_isiK' (K := K) rfl) (by rfl) T.m_isinstance bt_isinstance (pa_cons (pv 1) (pa_cons (pe_bltn (v := .ty "tuple") (by rfl) T.m_tuple bt_tuple rfl) pa_nil))))) (pw_or1 (pt_not (pt_val (pe_callB (cr_allK (K := K) rfl rfl) (by rfl) T.m_all bt_all (pa_cons (pe_lc (own := [("entry", 2)]) rfl sc_is_label.nd (pi_tupK (K := K) rfl (pv 1)) (blkOk_by (N := ["n", "thing", "entry", "k"]) (sc := defScope (top 36)) (by decide +kernel)) (fun _ _ _ _ _ => (pg_name (i := 2) sc_is_label.nd rfl (Or.inl rfl))) (fun _ _ _ _ _ => pts_nil) (fun _ _ _ _ _ => (pe_cal (cal_is_entry (K := K) T) hr (by decide) (by rfl) (pa_cons (pv 0) (pa_cons (pv 2) pa_nil))))) pa_nil))))))) (pss_one (ps_ret pe_bl)) pss_nil)
      (pss_cons (ps_if (pt_not (pt_val (pe_callB (cr_allK (K := K) rfl rfl) (by rfl) T.m_all bt_all (pa_cons (pe_lc (own := [("k", 3)]) rfl sc_is_label.nd (pi_range2 rfl T.m_range (pa_cons pe_int (pa_cons (pe_callB (call_lenK (K := K) rfl) (by rfl) T.m_len bt_len (pa_cons (pv 1) pa_nil)) pa_nil))) (blkOk_by (N := ["n", "thing", "entry", "k"]) (sc := defScope (top 36)) (by decide +kernel)) (fun _ _ _ _ _ => (pg_name (i := 3) sc_is_label.nd rfl (Or.inl rfl))) (fun _ _ _ _ _ => pts_nil) (fun _ _ _ _ _ => (pe_cmpR op_lt (pe_ix (ix_tupK (K := K) rfl) (pe_ix (ix_tupK (K := K) rfl) (pv 1) (pe_op op_sub (pv 3) pe_int) (fun _ _ => rfl)) pe_int (fun _ _ => rfl)) (pe_ix (ix_tupK (K := K) rfl) (pe_ix (ix_tupK (K := K) rfl) (pv 1) (pv 3) (fun _ _ => rfl)) pe_int (fun _ _ => rfl)) (nomark _)))) pa_nil)))) (pss_one (ps_ret pe_bl)) pss_nil)
      (pss_one (ps_ret (pe_cmpR op_eq (pe_callB (call_lenK (K := K) rfl) (by rfl) T.m_len bt_len (pa_cons (pe_lc (own := [("entry", 2)]) rfl sc_is_label.nd (pi_tupK (K := K) rfl (pv 1)) (blkOk_by (N := ["n", "thing", "entry", "k"]) (sc := defScope (top 36)) (by decide +kernel)) (fun _ _ _ _ _ => (pg_name (i := 2) sc_is_label.nd rfl (Or.inl rfl))) (fun _ _ _ _ _ => (pts_one (pt_cmpR op_eq (pe_ix (ix_tupK (K := K) rfl) (pv 2) pe_int (fun _ _ => rfl)) pe_int (nomark _)))) (fun _ _ _ _ _ => (pv 2))) pa_nil)) pe_int (nomark _)))))), ?_⟩
  have few := ok.few
  refine d_when (b := !true || !true) (et_or (a := !true) (et_not (et_test (ev_isiTup (evd_var rfl h2)))) fun _ => et_not (et_test (ev_is (ev_allM (K := K) (f := fun _ => true) (l := l) (evn_lcB (enc := entD) (l := l) (fun _ => .bool true) (evi_var rfl h2).j (by omega) (fun _ _ => rfl) fun a x H3 P ha e3 dx q => ?_).toD) (by rw [all_true])))) (fun z => by cases z) fun _ H1 e1 => ?_
  · exact q _ rfl (evd_call (evds_cons (evd_var rfl (Dpx h1 e3)) (evds_cons (evd_var rfl dx) evds_nil)) ⟨n, a, ok.ent a ha, rfl, rfl⟩)
  have d1 := Dpx h1 e1
  have d2 := Dpx h2 e1
  refine d_when (b := !true) (et_not (et_test (ev_is (ev_allM (K := K) (f := fun _ => true) (l := List.range (l.length - 1)) (evn_lcB (enc := fun i => nD (1 + i)) (l := List.range (l.length - 1)) (fun _ => .bool true) (evi_range2 (a := 1) (n := l.length) ev_c ?_ (by omega) (by omega)).j (by rw [List.length_range]; omega) (fun _ _ => rfl) fun i x H3 P hi e3 dx q => ?_).toD) (by rw [all_true])))) (fun z => by cases z) fun _ H2 e2 => ?_
  · have q := ev_lenT (K := K) (evd_var (σ := [some v1, some v2, none, none]) (i := 1) rfl d2)
    rw [List.length_map] at q
    exact q
  · have hi' := List.mem_range.mp hi
    obtain ⟨a, ha⟩ : ∃ a, l[i]? = some a := ⟨_, List.getElem?_eq_getElem (by omega)⟩
    obtain ⟨b, hb⟩ : ∃ b, l[1 + i]? = some b := ⟨_, List.getElem?_eq_getElem (by omega)⟩
    have hlt : a.hub < b.hub := by
      obtain ⟨p1, q1⟩ := List.getElem?_eq_some_iff.mp ha
      obtain ⟨p2, q2⟩ := List.getElem?_eq_some_iff.mp hb
      rw [← q1, ← q2]
      exact List.pairwise_iff_getElem.mp ok.asc i (1 + i) p1 p2 (by omega)
    refine q _ rfl (evd_bool (ev_is (ev_ltN (a := a.hub) (b := b.hub) (evd_i0 (evd_at (f := entD) (evd_var rfl (Dpx d2 e3)) (evd_sub1 (evd_var rfl dx)) ha)) (evd_i0 (evd_at (f := entD) (evd_var rfl (Dpx d2 e3)) (evd_var rfl dx) hb))) (by rw [decide_eq_true hlt])))
  · refine d_ret (evd_bool (ev_is (ev_eqI (i := ((1 : Nat) : Int)) (j := 1) ?_ ev_c) (by rfl))) fun v H4 e4 d4 => k v H4 ((e1.trans e2).trans e4) d4
    have q := ev_lenL (K := K) (evn_lcA (K := K) (σ := [some v1, some v2, none, none]) (H := H2) (g := gName 2) (vs := [2]) (tt := tTest (tOp rEq (tOp (rIxT K) (tVar 2) (tC (.int 1))) (tC (.int 0)))) (te := tVar 2) (enc := entD) (l := l) (fun e => decide (e.long = 0)) entD (evi_var (i := 1) rfl (Dpx d2 e2)).j (by omega) (fun e _ _ => fz_ent e) fun a x H3 P ha e3 dx q => q _ rfl (et_test (ev_eqN (evd_i1 (evd_var rfl dx)) (evd_cn 0))) fun _ => evd_var rfl dx).toD
    rw [List.length_map, ok.one] at q
    exact q
def rAreLabels : Rel := fun ds r => ∃ (n : Nat) (L : List Lab), n ≤ 100 ∧ L.length = n ∧ (∀ l ∈ L, LabOk n l) ∧ ds = [nD n, labelsD L] ∧ r = .bool true
theorem sc_are_labels : FnScope ["n", "thing", "label"] ["n", "thing"] (defScope (top 37)) := ⟨rfl, rfl, rfl, by decide +kernel, rfl, by decide +kernel, by decide +kernel⟩
theorem cal_are_labels (T : Txt w K mg) : CalD P w K mg base 4 "are_labels" (PureSp K rAreLabels) := by
  refine cal_of T.f_are_labels T.g_are_labels sc_are_labels (fun _ _ _ _ _ _ us hl => match us, hl with | [_, _], _ => rfl) (fun ds r h => by obtain ⟨_, _, _, _, _, rfl, _⟩ := h; rfl) fun cdv A outer s H vs Q E hr ds r h hd k => ?_
  obtain ⟨n, L, hn, hl, ok, rfl, rfl⟩ := h
  obtain ⟨v1, v2, rfl, h1, h2⟩ := dps2 hd
  refine ⟨_, (pss_one (ps_ret (pe_and (pe_callB (call_isiK' (K := K) rfl) (by rfl) T.m_isinstance bt_isinstance (pa_cons (pv 1) (pa_cons (pe_bltn (v := .ty "tuple") (by rfl) T.m_tuple bt_tuple rfl) pa_nil))) (pe_and (pe_cmpR op_eq (pe_callB (call_lenK (K := K) rfl) (by rfl) T.m_len bt_len (pa_cons (pv 1) pa_nil)) (pv 0) (nomark _)) (pe_one (pe_callB (cr_allK (K := K) rfl rfl) (by rfl) T.m_all bt_all (pa_cons (pe_lc (own := [("label", 2)]) rfl sc_are_labels.nd (pi_tupK (K := K) rfl (pv 1)) (blkOk_by (N := ["n", "thing", "label"]) (sc := defScope (top 37)) (by decide +kernel)) (fun _ _ _ _ _ => (pg_name (i := 2) sc_are_labels.nd rfl (Or.inl rfl))) (fun _ _ _ _ _ => pts_nil) (fun _ _ _ _ _ => (pe_cal (cal_is_label (K := K) T) hr (by decide) (by rfl) (pa_cons (pv 0) (pa_cons (pv 2) pa_nil))))) pa_nil))))))), ?_⟩
  refine d_ret (evd_bool (ev_is (ev_andV (a := true) (b := decide ((n : Int) = (n : Int)) && true) (ev_isiTup (evd_var rfl h2)) fun _ => ev_andV (ev_eqI ?_ (ev_n (evd_var rfl h1))) fun _ => ev_is (ev_allM (K := K) (f := fun _ => true) (l := L) (evn_lcB (enc := labD) (l := L) (fun _ => .bool true) (evi_var rfl h2).j (by omega) (fun _ _ => rfl) fun a x H3 P ha e3 dx q => ?_).toD) (by rw [all_true])) (by simp))) k
  · have q := ev_lenT (K := K) (evd_var (σ := [some v1, some v2, none]) (i := 1) rfl h2)
    rw [List.length_map, hl] at q
    exact q
  · exact q _ rfl (evd_call (evds_cons (evd_var rfl (Dpx h1 e3)) (evds_cons (evd_var rfl dx) evds_nil)) ⟨n, a, ok a ha, rfl, rfl⟩)
/-! ### own_place, sums, told -/
def rOwn : Rel := fun ds r => ∃ (l : Lab) (v : Nat) (rest : List Nat), l.length ≤ 1000 ∧ (l.filter fun e => decide (e.long = 0)).map (·.hub) = v :: rest ∧ ds = [labD l] ∧ r = nD v
theorem sc_own_place : FnScope ["label", "entry"] ["label"] (defScope (top 38)) := ⟨rfl, rfl, rfl, by decide +kernel, rfl, by decide +kernel, by decide +kernel⟩
theorem cal_own_place (T : Txt w K mg) : CalD P w K mg base 1 "own_place" (PureSp K rOwn) := by
  refine cal_of T.f_own_place T.g_own_place sc_own_place (fun _ _ _ _ _ _ us hl => match us, hl with | [_], _ => rfl) (fun ds r h => by obtain ⟨_, _, _, _, _, rfl, _⟩ := h; rfl) fun cdv A outer s H vs Q E hr ds r h hd k => ?_
  obtain ⟨l, v, rest, few, hv, rfl, rfl⟩ := h
  obtain ⟨v1, rfl, h1⟩ := dps1 hd
  refine ⟨_, (pss_one (ps_ret (pe_ix (ix_listK (K := K) rfl) (pe_lc (own := [("entry", 1)]) rfl sc_own_place.nd (pi_tupK (K := K) rfl (pv 0)) (blkOk_by (N := ["label", "entry"]) (sc := defScope (top 38)) (by decide +kernel)) (fun _ _ _ _ _ => (pg_name (i := 1) sc_own_place.nd rfl (Or.inl rfl))) (fun _ _ _ _ _ => (pts_one (pt_cmpR op_eq (pe_ix (ix_tupK (K := K) rfl) (pv 1) pe_int (fun _ _ => rfl)) pe_int (nomark _)))) (fun _ _ _ _ _ => (pe_ix (ix_tupK (K := K) rfl) (pv 1) pe_int (fun _ _ => rfl)))) pe_int (fun _ _ => rfl)))), ?_⟩
  refine d_ret (evd_ixL (ds := nD v :: rest.map nD) (EvD.to (evn_lcA (enc := entD) (l := l) (fun e => decide (e.long = 0)) (fun e => nD e.hub) (evi_var rfl h1).j (by omega) (fun _ _ _ => rfl) fun a x H3 P ha e3 dx q => ?_).toD ?_) ev_c ixD0) k
  · exact q _ rfl (et_test (ev_eqN (evd_i1 (evd_var rfl dx)) (evd_cn 0))) fun _ => evd_i0 (evd_var rfl dx)
  · have : (l.filter fun e => decide (e.long = 0)).map (fun e => nD e.hub) = ((l.filter fun e => decide (e.long = 0)).map (·.hub)).map nD := by rw [List.map_map]; rfl
    rw [this, hv]
    rfl
theorem sums_eq (A B : Lab) : (A.filter fun e => (longIn B e.hub).isSome).map (fun e => prD (e.long + (longIn B e.hub).getD 0, e.hub)) = (sumsL A B).map prD := by
  induction A with
  | nil => rfl
  | cons e A ih =>
    unfold sumsL at ih ⊢
    rw [List.filter_cons, List.filterMap_cons]
    cases h : longIn B e.hub with
    | none =>
      rw [if_neg (by simp)]
      exact ih
    | some y =>
      simp only [Option.isSome_some, if_true, Option.map_some]
      rw [List.map_cons, ih, h]
      rfl
def rSums : Rel := fun ds r => ∃ (A B : Lab), A.length ≤ 1000 ∧ B.length ≤ 1000 ∧ (B.map (·.hub)).Nodup ∧ ds = [labD A, labD B] ∧ r = .list ((sumsL A B).map prD)
theorem sc_sums : FnScope ["one", "other", "longs", "entry"] ["one", "other"] (defScope (top 39)) := ⟨rfl, rfl, rfl, by decide +kernel, rfl, by decide +kernel, by decide +kernel⟩
theorem cal_sums (T : Txt w K mg) : CalD P w K mg base 1 "sums" (PureSp K rSums) := by
  refine cal_of T.f_sums T.g_sums sc_sums (fun _ _ _ _ _ _ us hl => match us, hl with | [_, _], _ => rfl) (fun ds r h => by obtain ⟨_, _, _, _, _, rfl, _⟩ := h; rfl) fun cdv A outer s H vs Q E hr ds r h hd k => ?_
  obtain ⟨LA, LB, fa, fb, hn, rfl, rfl⟩ := h
  obtain ⟨v1, v2, rfl, h1, h2⟩ := dps2 hd
  refine ⟨_, (pss_cons (ps_set (i := 2) sc_sums.nd rfl (Or.inr rfl) (pe_callTy (call_dictK (K := K) rfl rfl) (by rfl) T.m_dict bt_dict (pa_cons (pe_lc (own := [("entry", 3)]) rfl sc_sums.nd (pi_tupK (K := K) rfl (pv 1)) (blkOk_by (N := ["one", "other", "longs", "entry"]) (sc := defScope (top 39)) (by decide +kernel)) (fun _ _ _ _ _ => (pg_name (i := 3) sc_sums.nd rfl (Or.inl rfl))) (fun _ _ _ _ _ => pts_nil) (fun _ _ _ _ _ => (pe_tup (pa_cons (pe_ix (ix_tupK (K := K) rfl) (pv 3) pe_int (fun _ _ => rfl)) (pa_cons (pe_ix (ix_tupK (K := K) rfl) (pv 3) pe_int (fun _ _ => rfl)) pa_nil))))) pa_nil)))
      (pss_one (ps_ret (pe_lc (own := [("entry", 3)]) rfl sc_sums.nd (pi_tupK (K := K) rfl (pv 0)) (blkOk_by (N := ["one", "other", "longs", "entry"]) (sc := defScope (top 39)) (by decide +kernel)) (fun _ _ _ _ _ => (pg_name (i := 3) sc_sums.nd rfl (Or.inl rfl))) (fun _ _ _ _ _ => (pts_one (pt_cmp (pc_din (hu_of hr) (pe_ix (ix_tupK (K := K) rfl) (pv 3) pe_int (fun _ _ => rfl)) (pv 2))))) (fun _ _ _ _ _ => (pe_tup (pa_cons (pe_op op_add (pe_ix (ix_tupK (K := K) rfl) (pv 3) pe_int (fun _ _ => rfl)) (pe_dget (hu_of hr) (pv 2) (pe_ix (ix_tupK (K := K) rfl) (pv 3) pe_int (fun _ _ => rfl)) (fun _ _ => rfl))) (pa_cons (pe_ix (ix_tupK (K := K) rfl) (pv 3) pe_int (fun _ _ => rfl)) pa_nil)))))))), ?_⟩
  refine q_setK (K := K) (f := longIn LB) (evk_dict (l := LB) (kf := (·.hub)) (vf := (·.long)) (evn_lcB (enc := entD) (l := LB) (fun e => .tuple [nD e.hub, nD e.long]) (evi_var rfl h2).j (by omega) (fun _ _ => rfl) fun a x H3 P ha e3 dx q => ?_).toD hn) fun p H1 np e1 hp => ?_
  · exact q _ rfl (evd_tup (evds_cons (evd_i0 (evd_var rfl dx)) (evds_cons (evd_i1 (evd_var rfl dx)) evds_nil)) (by show 2 ≤ 100000; decide))
  · refine d_ret (EvD.to (evn_lcA (enc := entD) (l := LA) (fun e => (longIn LB e.hub).isSome) (fun e => prD (e.long + (longIn LB e.hub).getD 0, e.hub)) (evi_var rfl (Dpx h1 e1)).j (by omega) (fun _ _ _ => rfl) fun a x H3 P ha e3 dx q => ?_).toD (by rw [sums_eq])) fun v H4 e4 d4 => k v H4 (e1.trans e4) d4
    exact q _ rfl (et_test (ev_din rfl (hp.mono e3) (evd_i0 (evd_var rfl dx)))) fun hs => evd_tup (evds_cons (evd_add (evd_i1 (evd_var rfl dx)) (evd_dget rfl (hp.mono e3) (evd_i0 (evd_var rfl dx)) (opt_get hs))) (evds_cons (evd_i0 (evd_var rfl dx)) evds_nil)) (by show 2 ≤ 100000; decide)
def rTold : Rel := fun ds r => ∃ (A B : Lab), A.length ≤ 1000 ∧ B.length ≤ 1000 ∧ (B.map (·.hub)).Nodup ∧ ds = [labD A, labD B] ∧ r = optD (toldL A B)
theorem sc_told : FnScope ["one", "other", "some"] ["one", "other"] (defScope (top 40)) := ⟨rfl, rfl, rfl, by decide +kernel, rfl, by decide +kernel, by decide +kernel⟩
theorem cal_told (T : Txt w K mg) : CalD P w K mg base 2 "told" (PureSp K rTold) := by
  refine cal_of T.f_told T.g_told sc_told (fun _ _ _ _ _ _ us hl => match us, hl with | [_, _], _ => rfl) (fun ds r h => by obtain ⟨_, _, _, _, _, rfl, _⟩ := h; rfl) fun cdv A outer s H vs Q E hr ds r h hd k => ?_
  obtain ⟨LA, LB, fa, fb, hn, rfl, rfl⟩ := h
  obtain ⟨v1, v2, rfl, h1, h2⟩ := dps2 hd
  refine ⟨_, (pss_cons (ps_set (i := 2) sc_told.nd rfl (Or.inl rfl) (pe_cal (cal_sums (K := K) T) hr (by decide) (by rfl) (pa_cons (pv 0) (pa_cons (pv 1) pa_nil))))
      (pss_one (ps_ret (pe_ifExp (pt_cmpR (op_eqDK (K := K) rfl hr.units) (pv 2) (pe_lst pa_nil) (nomark _)) pe_non (pe_ix (ix_tupK (K := K) rfl) (pe_callB (cr_minDK (K := K) rfl rfl hr.units) (by rfl) T.m_min bt_min (pa_cons (pv 2) pa_nil)) pe_int (fun _ _ => rfl)))))), ?_⟩
  refine d_set (evd_call (evds_cons (evd_var rfl h1) (evds_cons (evd_var rfl h2) evds_nil)) ⟨LA, LB, fa, fb, hn, rfl, rfl⟩) fun vs1 H1 e1 hs => ?_
  have sh : SeqAt.shaped (.list ((sumsL LA LB).map prD)) = true := (shp_lst (shp_map shp_pr _)).sh (by decide)
  cases hc : sumsL LA LB with
  | nil =>
    have e : toldL LA LB = none := by unfold toldL; rw [hc]; rfl
    rw [e] at k
    refine d_ret (evd_if (b := true) (et_test (ev_is (ev_eqNil (evd_var rfl hs) sh) (by rw [hc]; rfl))) (fun _ => evd_non (K := K)) fun z => by cases z) fun v H4 e4 d4 => k v H4 (e1.trans e4) d4
  | cons p l =>
    have hs' : Dp K H1 vs1 (.list ((p :: l).map prD)) := by rw [← hc]; exact hs
    obtain ⟨q, m1, m2, m3⟩ := evd_minP (K := K) (σ := [some v1, some v2, some vs1]) (ta := tVar 2) (evd_var (i := 2) rfl hs')
    have e : toldL LA LB = some q.1 := by
      unfold toldL
      rw [hc, List.min?_eq_some_iff]
      refine ⟨List.mem_map.mpr ⟨q, m1, rfl⟩, fun b hb => ?_⟩
      obtain ⟨r, hr, rfl⟩ := List.mem_map.mp hb
      exact m2 r hr
    rw [e] at k
    exact d_ret (evd_if (b := false) (et_test (ev_is (ev_eqNil (evd_var rfl hs) sh) (by rw [hc]; rfl))) (fun z => by cases z) fun _ => evd_i0 m3) fun v H4 e4 d4 => k v H4 (e1.trans e4) d4
/-! ### long_in, hangs, is_more, leads_down -/
def rLongIn : Rel := fun ds r => ∃ (l : Lab) (h : Nat), ds = [labD l, nD h] ∧ r = optD (longIn l h)
theorem sc_long_in : FnScope ["label", "hub", "entry"] ["label", "hub"] (defScope (top 46)) := ⟨rfl, rfl, rfl, by decide +kernel, rfl, by decide +kernel, by decide +kernel⟩
theorem cal_long_in (T : Txt w K mg) : CalD P w K mg base 1 "long_in" (PureSp K rLongIn) := by
  refine cal_of T.f_long_in T.g_long_in sc_long_in (fun _ _ _ _ _ _ us hl => match us, hl with | [_, _], _ => rfl) (fun ds r h => by obtain ⟨_, _, rfl, _⟩ := h; rfl) fun cdv A outer s H vs Q E hr ds r h hd k => ?_
  obtain ⟨l, hb, rfl, rfl⟩ := h
  obtain ⟨v1, v2, rfl, h1, h2⟩ := dps2 hd
  refine ⟨_, (pss_cons (ps_for PassesOwn.never rfl (pi_tupK (K := K) rfl (pv 0)) (pg_name (i := 2) sc_long_in.nd rfl (Or.inl rfl)) (pss_one (ps_if (pt_cmpR op_eq (pe_ix (ix_tupK (K := K) rfl) (pv 2) pe_int (fun _ _ => rfl)) (pv 1) (nomark _)) (pss_one (ps_ret (pe_ix (ix_tupK (K := K) rfl) (pv 2) pe_int (fun _ _ => rfl)))) pss_nil)))
      (pss_one (ps_ret pe_non))), ?_⟩
  refine dq_for (K := K) (evi_var rfl h1) (Ex.refl _) (fun i σ' H' => ∃ x, σ' = [some v1, some v2, x] ∧ Ex H H' ∧ ∀ t ∈ l.take i, ¬ t.hub = hb)
    (fun H2 e2 => ⟨none, rfl, e2, by simp⟩) (fun i σ' H' p => p.choose_spec.2.1) (fun i d x σ' H3 H4 hi p e4 hx => ?_) fun σ' H' p => ?_
  · obtain ⟨x0, rfl, e3, hno⟩ := p
    rw [List.getElem?_map] at hi
    obtain ⟨t, ht, rfl⟩ := Option.map_eq_some_iff.mp hi
    have e14 := e3.trans e4
    refine d_if1 (b := decide (t.hub = hb)) (evt_eqT (ev_eqN (evd_i0 (evd_var rfl hx)) (evd_var rfl (Dpx h2 e14)))) (fun hb2 H5 e5 => ?_) fun hb2 H5 e5 => ?_
    · rw [decide_eq_true_eq] at hb2
      have e : longIn l hb = some t.long := by
        unfold longIn
        rw [find_at (i := i) (fun s hs => decide_eq_false (hno s hs)) ht (decide_eq_true hb2)]
        rfl
      rw [e] at k
      exact d_ret (evd_i1 (evd_var rfl (Dpx hx e5))) fun v H6 e6 d6 => k v H6 (((e3.trans e4).trans e5).trans e6) d6
    · rw [decide_eq_false_iff_not] at hb2
      refine ⟨_, rfl, e14.trans e5, fun s hs => ?_⟩
      rw [List.take_add_one, ht] at hs
      rcases List.mem_append.mp hs with hs | hs
      · exact hno s hs
      · simp at hs
        rw [hs]
        exact hb2
  · obtain ⟨x0, rfl, e3, hno⟩ := p
    rw [List.length_map, List.take_length] at hno
    have e : longIn l hb = none := by
      unfold longIn
      rw [List.find?_eq_none.mpr (fun t ht => by simpa using hno t ht)]
      rfl
    rw [e] at k
    refine d_ret (evd_non (K := K)) fun v H6 e6 d6 => ?_
    exact k v H6 (e3.trans e6) d6
def rHangs : Rel := fun ds r => ∃ (W : Web) (L : List Lab) (v p : Nat) (e : Ent), e.up = some p ∧ p < L.length ∧ ds = [webD W, labelsD L, nD v, entD e] ∧ r = .bool (hangsL W L v e)
theorem labAt_get {L : List Lab} {p : Nat} (h : p < L.length) : L[p]? = some (labAt L p) := by
  unfold labAt
  rw [List.getD_eq_getElem?_getD, List.getElem?_eq_getElem h]
  rfl
theorem sc_hangs : FnScope ["web", "labels", "place", "entry", "long"] ["web", "labels", "place", "entry"] (defScope (top 48)) := ⟨rfl, rfl, rfl, by decide +kernel, rfl, by decide +kernel, by decide +kernel⟩
theorem cal_hangs (T : Txt w K mg) : CalD P w K mg base 2 "hangs" (PureSp K rHangs) := by
  refine cal_of T.f_hangs T.g_hangs sc_hangs (fun _ _ _ _ _ _ us hl => match us, hl with | [_, _, _, _], _ => rfl) (fun ds r h => by obtain ⟨_, _, _, _, _, _, _, rfl, _⟩ := h; rfl) fun cdv A outer s H vs Q E hr ds r h hd k => ?_
  obtain ⟨W, L, v, p, e, hu, hp, rfl, rfl⟩ := h
  obtain ⟨v1, v2, v3, v4, rfl, h1, h2, h3, h4⟩ := dps4 hd
  refine ⟨_, (pss_cons (ps_set (i := 4) sc_hangs.nd rfl (Or.inl rfl) (pe_cal (cal_long_of (K := K) T) hr (by decide) (by rfl) (pa_cons (pv 0) (pa_cons (pv 2) (pa_cons (pe_ix (ix_tupK (K := K) rfl) (pv 3) pe_int (fun _ _ => rfl)) pa_nil)))))
      (pss_one (ps_ret (pe_and (pe_cmpR op_notN (pv 4) pe_non (nomark _)) (pe_one (pe_cmpR op_eq (pe_cal (cal_long_in (K := K) T) hr (by decide) (by rfl) (pa_cons (pe_ix (ix_tupK (K := K) rfl) (pv 1) (pe_ix (ix_tupK (K := K) rfl) (pv 3) pe_int (fun _ _ => rfl)) (fun _ _ => rfl)) (pa_cons (pe_ix (ix_tupK (K := K) rfl) (pv 3) pe_int (fun _ _ => rfl)) pa_nil))) (pe_op op_sub (pe_ix (ix_tupK (K := K) rfl) (pv 3) pe_int (fun _ _ => rfl)) (pv 4)) (nomark _))))))), ?_⟩
  have up : ∀ {H'} (_ : Ex H H') {σ : Ks}, σ[3]? = some (some v4) → EvD K (tOp (rIxT K) (tVar 3) (tC (.int 2))) σ H' (nD p) := fun e' σ hs => (evd_i2 (evd_var hs (Dpx h4 e'))).to (by rw [hu]; rfl)
  refine d_set (evd_call (evds_cons (evd_var rfl h1) (evds_cons (evd_var rfl h3) (evds_cons (up (Ex.refl _) rfl) evds_nil))) ⟨W, v, p, rfl, rfl⟩) fun vl H1 e1 hl => ?_
  cases hlo : longOf W v p with
  | none =>
    have e2 : hangsL W L v e = (Option.isSome (longOf W v p) && true) := by unfold hangsL; rw [hu]; dsimp only; rw [hlo]; cases longIn (labAt L p) e.hub <;> rfl
    rw [e2] at k
    exact d_ret (evd_bool (ev_andV (ev_notNO (evd_var rfl hl)) fun c => by rw [hlo] at c; cases c)) fun x H4 e4 d4 => k x H4 (e1.trans e4) d4
  | some lo =>
    have hl' : Dp K H1 vl (nD lo) := by rw [hlo] at hl; exact hl
    have e2 : hangsL W L v e = (Option.isSome (longOf W v p) && decide (optV (longIn (labAt L p) e.hub) = .int ((e.long : Int) - (lo : Int)))) := by
      unfold hangsL
      rw [hu]
      dsimp only
      rw [hlo]
      cases longIn (labAt L p) e.hub with
      | none => simp [optV]
      | some x =>
        simp only [optV, Option.isSome_some, Bool.true_and, V.int.injEq]
        exact decide_eq_decide.mpr (by omega)
    rw [e2] at k
    exact d_ret (evd_bool (ev_andV (ev_notNO (evd_var rfl hl)) fun _ => ev_eqOI (evd_call (evds_cons (evd_at (evd_var rfl (Dpx h2 e1)) (up e1 rfl) (labAt_get hp)) (evds_cons (evd_i0 (evd_var rfl (Dpx h4 e1))) evds_nil)) ⟨_, _, rfl, rfl⟩) (ev_sub (ev_n (evd_i1 (evd_var rfl (Dpx h4 e1)))) (ev_n (evd_var rfl hl'))))) fun x H4 e4 d4 => k x H4 (e1.trans e4) d4
def rMore : Rel := fun ds r => ∃ (f : Option Nat) (m : Nat), ds = [optD f, nD m] ∧ r = .bool (isMoreL f m)
theorem sc_is_more : FnScope ["found", "most"] ["found", "most"] (defScope (top 50)) := ⟨rfl, rfl, rfl, by decide +kernel, rfl, by decide +kernel, by decide +kernel⟩
theorem cal_is_more (T : Txt w K mg) : CalD P w K mg base 1 "is_more" (PureSp K rMore) := by
  refine cal_of T.f_is_more T.g_is_more sc_is_more (fun _ _ _ _ _ _ us hl => match us, hl with | [_, _], _ => rfl) (fun ds r h => by obtain ⟨_, _, rfl, _⟩ := h; rfl) fun cdv A outer s H vs Q E hr ds r h hd k => ?_
  obtain ⟨f, m, rfl, rfl⟩ := h
  obtain ⟨v1, v2, rfl, h1, h2⟩ := dps2 hd
  refine ⟨_, (pss_one (ps_ret (pe_or (pe_cmpR op_isN (pv 0) pe_non (nomark _)) (pe_one (pe_cmpR op_gt (pv 0) (pv 1) (nomark _)))))), ?_⟩
  cases f with
  | none => exact d_ret (evd_bool (ev_is (ev_orV (a := true) (b := true) (ev_isNO (o := none) (evd_var rfl h1)) fun z => by cases z) rfl)) k
  | some f =>
    refine d_ret (evd_bool (ev_is (ev_orV (a := false) (b := decide ((m : Int) < (f : Int))) (ev_isNO (o := some f) (evd_var rfl h1)) fun _ => ev_gt (ev_n (evd_var rfl h1)) (ev_n (evd_var rfl h2))) ?_)) k
    show V.bl (false || decide ((m : Int) < (f : Int))) = V.bl (decide (m < f))
    rw [Bool.false_or, show decide ((m : Int) < (f : Int)) = decide (m < f) from decide_eq_decide.mpr (by omega)]
def rLeads : Rel := fun ds r => ∃ (W : Web) (L : List Lab) (v q : Nat) (e : Ent), e.down = some q ∧ q < L.length ∧ v < L.length ∧ (∀ l ∈ L, l.length ≤ 1000 ∧ (l.map (·.hub)).Nodup) ∧ ds = [webD W, labelsD L, nD v, entD e] ∧ r = .bool (leadsL W L v e)
theorem sc_leads_down : FnScope ["web", "labels", "place", "entry", "long"] ["web", "labels", "place", "entry"] (defScope (top 52)) := ⟨rfl, rfl, rfl, by decide +kernel, rfl, by decide +kernel, by decide +kernel⟩
theorem cal_leads_down (T : Txt w K mg) : CalD P w K mg base 3 "leads_down" (PureSp K rLeads) := by
  refine cal_of T.f_leads_down T.g_leads_down sc_leads_down (fun _ _ _ _ _ _ us hl => match us, hl with | [_, _, _, _], _ => rfl) (fun ds r h => by obtain ⟨_, _, _, _, _, _, _, _, _, rfl, _⟩ := h; rfl) fun cdv A outer s H vs Q E hr ds r h hd k => ?_
  obtain ⟨W, L, v, p, e, hu, hp, hv, hL, rfl, rfl⟩ := h
  obtain ⟨v1, v2, v3, v4, rfl, h1, h2, h3, h4⟩ := dps4 hd
  refine ⟨_, (pss_cons (ps_set (i := 4) sc_leads_down.nd rfl (Or.inl rfl) (pe_cal (cal_long_of (K := K) T) hr (by decide) (by rfl) (pa_cons (pv 0) (pa_cons (pe_ix (ix_tupK (K := K) rfl) (pv 3) pe_int (fun _ _ => rfl)) (pa_cons (pe_ix (ix_tupK (K := K) rfl) (pv 3) pe_int (fun _ _ => rfl)) pa_nil)))))
      (pss_one (ps_ret (pe_and (pe_cmpR op_notN (pv 4) pe_non (nomark _)) (pe_one (pe_cmpR op_eq (pe_cal (cal_told (K := K) T) hr (by decide) (by rfl) (pa_cons (pe_ix (ix_tupK (K := K) rfl) (pv 1) (pe_ix (ix_tupK (K := K) rfl) (pv 3) pe_int (fun _ _ => rfl)) (fun _ _ => rfl)) (pa_cons (pe_ix (ix_tupK (K := K) rfl) (pv 1) (pv 2) (fun _ _ => rfl)) pa_nil))) (pe_op op_sub (pe_ix (ix_tupK (K := K) rfl) (pv 3) pe_int (fun _ _ => rfl)) (pv 4)) (nomark _))))))), ?_⟩
  have dn : ∀ {H'} (_ : Ex H H') {σ : Ks}, σ[3]? = some (some v4) → EvD K (tOp (rIxT K) (tVar 3) (tC (.int 3))) σ H' (nD p) := fun e' σ hs => (evd_i3 (evd_var hs (Dpx h4 e'))).to (by rw [hu]; rfl)
  refine d_set (evd_call (evds_cons (evd_var rfl h1) (evds_cons (evd_i0 (evd_var rfl h4)) (evds_cons (dn (Ex.refl _) rfl) evds_nil))) ⟨W, e.hub, p, rfl, rfl⟩) fun vl H1 e1 hl => ?_
  cases hlo : longOf W e.hub p with
  | none =>
    have e2 : leadsL W L v e = (Option.isSome (longOf W e.hub p) && true) := by unfold leadsL; rw [hu]; dsimp only; rw [hlo]; cases toldL (labAt L p) (labAt L v) <;> rfl
    rw [e2] at k
    exact d_ret (evd_bool (ev_andV (ev_notNO (evd_var rfl hl)) fun c => by rw [hlo] at c; cases c)) fun x H4 e4 d4 => k x H4 (e1.trans e4) d4
  | some lo =>
    have hl' : Dp K H1 vl (nD lo) := by rw [hlo] at hl; exact hl
    have e2 : leadsL W L v e = (Option.isSome (longOf W e.hub p) && decide (optV (toldL (labAt L p) (labAt L v)) = .int ((e.long : Int) - (lo : Int)))) := by
      unfold leadsL
      rw [hu]
      dsimp only
      rw [hlo]
      cases toldL (labAt L p) (labAt L v) with
      | none => simp [optV]
      | some x =>
        simp only [optV, Option.isSome_some, Bool.true_and, V.int.injEq]
        exact decide_eq_decide.mpr (by omega)
    rw [e2] at k
    have m1 := hL _ (List.mem_of_getElem? (labAt_get hp))
    have m2 := hL _ (List.mem_of_getElem? (labAt_get hv))
    exact d_ret (evd_bool (ev_andV (ev_notNO (evd_var rfl hl)) fun _ => ev_eqOI (evd_call (evds_cons (evd_at (evd_var rfl (Dpx h2 e1)) (dn e1 rfl) (labAt_get hp)) (evds_cons (evd_at (evd_var rfl (Dpx h2 e1)) (evd_var rfl (Dpx h3 e1)) (labAt_get hv)) evds_nil)) ⟨_, _, m1.1, m2.1, m2.2, rfl, rfl⟩) (ev_sub (ev_n (evd_i1 (evd_var rfl (Dpx h4 e1)))) (ev_n (evd_var rfl hl'))))) fun x H4 e4 d4 => k x H4 (e1.trans e4) d4
end
end Lw
/-! enumerate over a tuple. -/
namespace Lw
open PySem PySem.Spec PyProof.Rows L2
open AutoSeq1 (wpAny_loadPart')
theorem sub_enumT : isSubtype (.type "enumerate") (.type "enumerate") = pure true := by rw [isSubtype_type]; kernel_rfl
theorem meets_enumT (l : Addr) (items : Array Value) (n : Nat) (dct : Option Addr) (sl : Array (Option Value)) :
    Meets (Builtin.«enumerate.__new__» ⟨[.type "enumerate", .ref l], []⟩) (fun _ R s =>
      s.heap.get? l = some { cls := .type "tuple", dict := dct, data := .seq items n, slots := sl } ∧
      R (.ok (.ret (.ref (s.heap.push { cls := .type "tuple_iterator", data := .fields #[.ref l, .int 0 0] }).objs.size)))
        { s with heap := (s.heap.push { cls := .type "tuple_iterator", data := .fields #[.ref l, .int 0 0] }).push { cls := .type "enumerate", data := .fields #[.none, .bool false, .ref s.heap.objs.size, rawInt 0, .none, .none] } }) :=
  .of_wp fun prog w A R s h => by
    obtain ⟨hp, g, d, tk, os⟩ := s
    obtain ⟨hl, h⟩ := h
    have hL : Heap.IsTuple (Shared.heap ⟨hp, g, d, tk, os⟩) l items := ⟨_, hl, rfl, n, rfl⟩
    have hsub := sub_enumT
    wp_walk using wpAny_loadPart' hl
    refine wpAny_stack_any fun st => wpAny_pure ?_
    split
    · rename_i c _ _ _ _ _
      cases (c == Value.type "enumerate")
      · wp_walk using wpAny_loadPart' hl, wpAny_pyIter_tuple hL
        exact ⟨_, rfl, h⟩
      · wp_walk using wpAny_loadPart' hl, wpAny_pyIter_tuple hL
        exact ⟨_, rfl, h⟩
    · wp_walk using wpAny_loadPart' hl, wpAny_pyIter_tuple hL
      exact ⟨_, rfl, h⟩
section
variable {prog : Program} {w : World} {A : Around} {E : Value → Shared → Prop} {s : Shared}
theorem call_enumT {l : Addr} {items : Array Value} {Q : Value → Shared → Prop} (hL : IsTup s.heap l items)
    (h : ∀ h', IsEnum h' (s.heap.objs.size + 1) s.heap.objs.size 0 .none → h'.IsTupleIter s.heap.objs.size l 0 → h'.objs.size = s.heap.objs.size + 2 →
      (∀ b o, s.heap.get? b = some o → h'.get? b = some o) → Q (.ref (s.heap.objs.size + 1)) { s with heap := h' }) :
    wpAny (model prog w) A (call (.type "enumerate") [.ref l]) Q E s := by
  obtain ⟨⟨c, dct, dt, sl⟩, hl, hc, n, hd⟩ := hL
  replace hc : c = .type "tuple" := hc
  replace hd : dt = .seq items n := hd
  subst hc hd
  refine callType_new F.called_enumerate (by decide) (F.typeCall_enumerate_1 _) (F.newCall_enumerate_1 _) (fun obj => F.args_object_init_2 obj _) F.entry_enumerate_new
    (meets_enumT l items n dct sl) ⟨hl, ?_⟩
  have hz : (s.heap.push { cls := .type "tuple_iterator", data := .fields #[.ref l, .int 0 0] }).objs.size = s.heap.objs.size + 1 := Heap.size_push ..
  show _ ∧ _
  rw [hz]
  have he : IsEnum ((s.heap.push { cls := .type "tuple_iterator", data := .fields #[.ref l, .int 0 0] }).push
      { cls := .type "enumerate", data := .fields #[.none, .bool false, .ref s.heap.objs.size, rawInt 0, .none, .none] }) (s.heap.objs.size + 1) s.heap.objs.size 0 .none := by
    have := Heap.get?_push_size (s.heap.push { cls := .type "tuple_iterator", data := .fields #[.ref l, .int 0 0] })
      (o := { cls := .type "enumerate", data := .fields #[.none, .bool false, .ref s.heap.objs.size, rawInt 0, .none, .none] }) rfl
    rw [hz] at this; exact this
  refine ⟨⟨_, he, rfl⟩, h _ he ⟨_, Heap.get?_push_of_some _ (Heap.get?_push_size _ rfl), rfl, rfl⟩ (by rw [Heap.size_push, hz]) fun b o x => Heap.get?_push_of_some _ (Heap.get?_push_of_some _ x)⟩
end
def IteT (K : PySem.W.Frag) (a : Addr) : It :=
  ⟨fun i H => ∃ (xs : List V) (x : V), SqT K H a xs ∧ xs[i]? = some x, fun i H v H' => ∃ T x, v = .ref T ∧ H T = none ∧ H' = upd H T (.tup [.int (i : Nat), x]) ∧ ∀ xs, SqT K H a xs → xs[i]? = some x, fun i H => ∃ xs : List V, SqT K H a xs ∧ xs.length ≤ i⟩
theorem turn_enumT {P : Program} {w : World} {K : PySem.W.Frag} {elts : List Expr} {kk : Nat} {tpos : Pos} (a e it : Addr) (hae : a ≠ e) (hai : a ≠ it) :
    Turn P w K (.Tuple elts kk tpos) (IteT K a) [e, it] e (fun i h => (∃ old, IsEnum h e it ((i : Nat) : Int) old) ∧ h.IsTupleIter it a i ∧ e ≠ it) where
  mem := by simp
  obj := fun i h st b hb => by
    obtain ⟨⟨old, he⟩, ⟨o, ho, hc, hd⟩, _⟩ := st
    have e' : b = e ∨ b = it := by simpa using hb
    rcases e' with z | z
    · rw [z]; exact ⟨_, he, fun v q => nomatch q⟩
    · rw [z]; exact ⟨o, ho, fun v q => by rw [hd] at q; cases q⟩
  keep := fun i h h' st k => let ⟨⟨old, he⟩, hi, hne⟩ := st; ⟨⟨old, k e (by simp) _ he⟩, hi.at fun o q => k it (by simp) o q, hne⟩
  item := by
    intro X hP hw hK hc i pins s σ H E I hf st hg
    subst hP hw hK
    obtain ⟨⟨old, he⟩, hit, hne⟩ := st
    obtain ⟨xs, x, hq, hx⟩ := hg
    obtain ⟨its, rv, p, hz⟩ := I.tuple hq
    obtain ⟨u, hu, ru⟩ := rv.get hx
    have hel : e < s.heap.objs.size := Heap.lt_size he
    have hil : it < s.heap.objs.size := by obtain ⟨_, q, _⟩ := hit; exact Heap.lt_size q
    have hlt : i < its.toArray.size := by
      have := (List.getElem?_eq_some_iff.mp hu).1
      simpa using this
    have hpt : s.heap.IsTuple a its.toArray := p
    refine wpAny_pyNext_enum_itemD (Draws.tuple (prog := X.prog) (w := X.w) (A := X.A.in1) (I.ok.hd hc) it a hai its.toArray) he ⟨hit, hpt⟩ hlt hne (by simp; exact ⟨hne, Ne.symm hae⟩) fun y h' tk hy ho hst hT hsz hk => ?_
    have hyu : y = u := by
      have e1 : its.toArray[i]? = some u := by simpa using hu
      rw [e1] at hy
      exact (Option.some.inj hy).symm
    subst hyu
    refine ⟨_, rfl, wpAny_letOwnedTupleGo_enum (s := { s with heap := h', toks := tk + 1 }) ho fun h'' he' sb => ?_⟩
    have hT2 : h''.get? s.heap.objs.size = some { cls := .type "tuple", data := .seq #[.int i tk, y] } := (sb.2 _ (Nat.ne_of_gt hel)).trans hT
    have new : ObjOk X.prog X.w (upd H s.heap.objs.size (.tup [.int (i : Nat), x])) h'' s.heap.objs.size (.tup [.int (i : Nat), x]) :=
      ⟨by show 2 ≤ sizeLine; decide, [.int i tk, y], .cons ⟨_, rfl⟩ (.cons ru .nil), ⟨_, hT2, rfl, _, rfl⟩⟩
    have I1 : Inv X pins σ (upd H s.heap.objs.size (.tup [.int (i : Nat), x])) { s with heap := h'', toks := tk + 1 } :=
      I.turnedNew (ch := [e, it]) (fun b ob hb q => (sb.2 b (fun z => hb (by simp [z]))).trans (hk b ob (fun z => hb (by simp [z])) (fun z => hb (by simp [z])) q)) hf (Nat.le_refl _) new
    refine ⟨.ref s.heap.objs.size, _, I1, rfl, ⟨_, x, rfl, I.hok.fresh (Nat.le_refl _), rfl, fun ys hy => by rw [I.tuple_inj hy hq]; exact hx⟩, ⟨⟨y, ?_⟩, hst.1.at fun o q => (sb.2 it (Ne.symm hne)).trans q, hne⟩, fun b hb => ?_⟩
    · have e1 : ((i + 1 : Nat) : Int) = (i : Int) + 1 := by omega
      rw [e1]; exact he'
    · have hb' : b < s.heap.objs.size := by
        have e' : b = e ∨ b = it := by simpa using hb
        rcases e' with z | z
        · rw [z]; exact hel
        · rw [z]; exact hil
      rw [upd_ne (Nat.ne_of_lt hb')]
      exact (hf b hb).1
  done := by
    intro X hP hw hK hc i pins s σ H E I hf st hg
    subst hP hw hK
    obtain ⟨⟨old, he⟩, hit, hne⟩ := st
    obtain ⟨xs, hq, hx⟩ := hg
    obtain ⟨its, rv, p, hz⟩ := I.tuple hq
    obtain ⟨f0, f1, f2, f3, f4, f5⟩ := hf it (by simp)
    have hl := rv.length
    have hpt : s.heap.IsTuple a its.toArray := p
    have hT : s.TypeIs (.ref e) "enumerate" := ⟨_, he, rfl⟩
    unfold pyNext
    refine wpAny_bind (wpAny_attempt (wpAny_callSpecial?_slot (name := Str.ofString "__next__") hT PySem.F.slot_enumerate_next
      (wpAny_call_entry PySem.F.slot_enumerate_next hT PySem.F.entry_enumerate_next ?_ (PySem.F.args_enumerate_next_1 _))))
    show wpAny _ _ (field (.ref e) 2 >>= _) _ _ _
    refine wpAny_bind (wpAny_field he rfl (x := .ref it) rfl ?_)
    refine wpAny_bind (PySem.wpAny_nextOf_tuple_end (A := X.A.in1) (I.ok.hd hc) hit hpt (by simp; omega) fun h' x he' hx' => ?_)
    obtain ⟨o, ho, hc'⟩ := hx'
    refine wpAny_bind (wpAny_isInstance (T := "StopIteration") (b := true) ⟨o, ho, hc'⟩ isSubtype_stop ?_)
    exact wpAny_pure ⟨rfl, I.turned (t' := s.toks) (fun b o hb q => he' b o hb q) f0 f1 f3 f4 f5⟩
  self := fun A i s Q E st h => let ⟨⟨_, he⟩, _⟩ := st; wpAny_pyIter_enum he h
def iEnumT (K : PySem.W.Frag) (ta : TA) : TI := fun σ H R => ta σ H fun vs H1 => ∃ a xs, vs = [.ref a] ∧ SqT K H1 a xs ∧ R (IteT K a) H1
theorem pi_enumT {X : Cx} {e : Expr} {ta : TA} {p pos tpos : Pos} {elts : List Expr} {kk : Nat} (hg : Gl X "enumerate") (hm : X.mg "enumerate" = none) (ha : PA X [e] ta) (hs : starEach [e] X.env = [(false, eval e X.env)] := by rfl) :
    PI X (.Tuple elts kk tpos) (.Call (.Name "enumerate" p) [e] [] pos) (iEnumT X.K ta) := by
  refine ⟨fun pins s σ H R I h => ?_⟩
  refine Call_ (ld_blt I hg hm boot_enumerate (PyProof.Rows.callWith_type1 (thn (ha.run pos pins s σ H _ I h) fun us s1 ⟨vs, H1, I1, r1, q1⟩ => ?_) hs rfl))
  obtain ⟨a, xs, ex, hq, q⟩ := q1
  subst ex
  cases r1 with
  | cons r rr =>
    cases rr
    cases r
    obtain ⟨its, rv, p', hz⟩ := I1.tuple hq
    have hla : a < s1.heap.objs.size := by obtain ⟨o, e, _⟩ := p'; exact Heap.lt_size e
    refine call_enumT p' fun h' he hit hsz hk => wpAny_pyIter_enum he ?_
    have I2 : Inv X pins σ H1 { s1 with heap := h' } := I1.kept (t' := s1.toks) hk
    refine ⟨s1.heap.objs.size + 1, [s1.heap.objs.size + 1, s1.heap.objs.size], _, _, H1, rfl, I2, turn_enumT a (s1.heap.objs.size + 1) s1.heap.objs.size (Nat.ne_of_lt (Nat.lt_succ_of_lt hla)) (Nat.ne_of_lt hla), ⟨⟨.none, he⟩, hit, Nat.succ_ne_self _⟩, fun b hb => ?_, q⟩
    have e' : b = s1.heap.objs.size + 1 ∨ b = s1.heap.objs.size := by simpa using hb
    have hle : s1.heap.objs.size ≤ b := by
      rcases e' with z | z
      · rw [z]; exact Nat.le_add_right _ _
      · rw [z]; exact Nat.le_refl _
    exact I1.fpOk hle (I1.hok.fresh hle)
theorem pi_enumTK {X : Cx} {K : PySem.W.Frag} (hK : X.K = K) {e : Expr} {ta : TA} {p pos tpos : Pos} {elts : List Expr} {kk : Nat} (hg : Gl X "enumerate") (hm : X.mg "enumerate" = none) (ha : PA X [e] ta) (hs : starEach [e] X.env = [(false, eval e X.env)] := by rfl) :
    PI X (.Tuple elts kk tpos) (.Call (.Name "enumerate" p) [e] [] pos) (iEnumT K ta) := hK ▸ pi_enumT hg hm ha hs
theorem walk_enumT {K : PySem.W.Frag} {a : Addr} {xs : List V} : Walk (IteT K a) xs.length (fun H => SqT K H a xs) (YPair (fun i => some (.int (i : Nat))) (fun i => xs[i]?)) := by
  refine ⟨fun i _ hi q => ⟨xs, xs[i], q, by simp [hi]⟩, fun _ q => ⟨xs, q, Nat.le_refl _⟩, fun i H v H' _ q y => ?_⟩
  obtain ⟨T, x, h1, h2, h3, h4⟩ := y
  exact ⟨T, .int (i : Nat), x, h1, h2, h3, rfl, h4 xs q⟩
end Lw
namespace Lw
open PySem PySem.Spec PyProof.Rows L2 Evl
section
variable {w : World} {K : Fg} {mg : Str → Option Value}
/-! ### what the text says of the refusal -/
theorem Txt.oex (T : Txt w K mg) : OexC K (He.ga K "NoLabels") := by
  have h := T.ex
  unfold exB at h
  obtain ⟨h1, _⟩ := He.ba h
  obtain ⟨a1, h2⟩ := He.ba h1
  obtain ⟨a2, h3⟩ := He.ba h2
  obtain ⟨a3, h4⟩ := He.ba h3
  obtain ⟨a4, h5⟩ := He.ba h4
  exact ⟨oexB_ok a1, He.eqO_ok a2, of_decide_eq_true a3, of_decide_eq_true a4, T.h_NoLabels⟩
theorem Txt.xf (T : Txt w K mg) : XfC K (He.ga K "NoLabels") := by
  have h := T.ex
  unfold exB at h
  obtain ⟨h1, _⟩ := He.ba h
  obtain ⟨a1, h2⟩ := He.ba h1
  obtain ⟨a2, h3⟩ := He.ba h2
  obtain ⟨a3, h4⟩ := He.ba h3
  obtain ⟨a4, h5⟩ := He.ba h4
  obtain ⟨a5, h6⟩ := He.ba h5
  obtain ⟨a6, a7⟩ := He.ba h6
  exact ⟨He.eqO_ok a6, He.eqO_ok a7, of_decide_eq_true a3, a5⟩
theorem Txt.way1 (T : Txt w K mg) : PySem.W.readsIn K (He.ga K "WayError") (.type "type") = true := by
  have h := T.ex
  unfold exB at h
  obtain ⟨_, h2⟩ := He.ba h
  obtain ⟨h3, _⟩ := He.ba h2
  exact (He.ba h3).1
theorem Txt.way2 (T : Txt w K mg) : PySem.W.specialIn K (.ref (He.ga K "WayError")) "__getattribute__" = some (some (.builtin "type.__getattribute__")) := by
  have h := T.ex
  unfold exB at h
  obtain ⟨_, h2⟩ := He.ba h
  obtain ⟨h3, _⟩ := He.ba h2
  exact He.eqO_ok (He.ba (He.ba h3).2).1
theorem Txt.way3 (T : Txt w K mg) : PySem.W.findCls K (.ref (He.ga K "WayError")) (.type "type") "__init__" = some (.val (.builtin "ValueError.__init__")) := by
  have h := T.ex
  unfold exB at h
  obtain ⟨_, h2⟩ := He.ba h
  obtain ⟨h3, _⟩ := He.ba h2
  exact valIs_ok (He.ba (He.ba h3).2).2
theorem Txt.tyI (T : Txt w K mg) : PySem.W.typeIn K (.ref (He.ma K (He.ga K "NoLabels") "__init__")) = some (.type "function") := by
  have h := T.ex
  unfold exB at h
  obtain ⟨_, h2⟩ := He.ba h
  obtain ⟨_, h3⟩ := He.ba h2
  exact of_decide_eq_true (He.ba h3).1
theorem Txt.counts (T : Txt w K mg) : He.valsB K (He.ga K "COUNTS") counts = true := by
  have h := T.ex
  unfold exB at h
  obtain ⟨_, h2⟩ := He.ba h
  obtain ⟨_, h3⟩ := He.ba h2
  exact (He.ba (He.ba h3).2).1
theorem Txt.g_COUNTS (T : Txt w K mg) : mg "COUNTS" = some (.ref (He.ga K "COUNTS")) := by
  have h := T.ex
  unfold exB at h
  obtain ⟨_, h2⟩ := He.ba h
  obtain ⟨_, h3⟩ := He.ba h2
  exact T.ns _ _ (He.eqO_ok (He.ba (He.ba h3).2).2)
end
/-! ### WayError.__init__(self, ..) -/
section
variable {X : Cx} {o e : Expr} {es : List Expr} {to te : TE} {ta : TA} {f : Str} {p p' p1 p2 pos : Pos}
theorem pe_wayinit {C : Addr} {pl : Sem Bool} (hg : Gl X "WayError") (hm : X.mg "WayError" = some (.ref C)) (hr : PySem.W.readsIn X.K C (.type "type") = true) (hsp : PySem.W.specialIn X.K (.ref C) "__getattribute__" = some (some (.builtin "type.__getattribute__")))
    (vV : PySem.W.findCls X.K (.ref C) (.type "type") "__init__" = some (.val (.builtin "ValueError.__init__"))) (ha : PA X (e :: es) ta)
    (hc : eval (.Call (.Attribute (.Name "WayError" p1) "__init__" p2) (e :: es) [] pos) X.env = (do
      let ov ← eval (.Name "WayError" p1) X.env
      standAt p2.atName
      let (f, first) ← holding [ov] (getMethod ov "__init__" pl)
      callWith pos f first (backTo pos (starEach (e :: es) X.env)) (backToKw pos (keywordEach [] X.env))) := by rfl)
    (he : starEach (e :: es) X.env = (false, eval e X.env) :: starEach es X.env := by rfl) (hpl : (backTo pos (starEach es X.env)).any (·.1) = false := by rfl) :
    PE X (.Call (.Attribute (.Name "WayError" p1) "__init__" p2) (e :: es) [] pos) (tVeI X.K ta) := by
  refine ⟨fun pins s σ H Q I h => ?_⟩
  refine PySem.W.methodCall_KW (ld_glob I hg hm ?_) hc
  refine PySem.W.method_cls I.kIn hsp (PySem.W.cls_value I.kIn hr vV (by decide +kernel) ?_)
  show wpAny _ _ (callWith pos (Value.builtin "ValueError.__init__") [] (backTo pos (starEach (e :: es) X.env)) []) _ _ _
  refine PyProof.Rows.callWith_method1 (thn (ha.run pos pins _ σ H _ (I.tok _) h) fun us s1 ⟨vs, H1, I1, r1, a, C, ws, ev, hl, T, ea, q⟩ => ?_) he hpl
  subst ev
  cases r1 with
  | @cons _ u0 _ ur ra rw' =>
    obtain rfl : u0 = Value.ref a := ra
    have hlen : ur.length ≤ sizeLine := by
      rw [← Paired.length rw', sizeLine_eq]
      omega
    exact oinit_ok T I1 ea hlen fun s' J => ⟨.non, H1, J, rfl, q⟩
end
/-! ### defs that may refuse -/
structure CalX (P : Program) (w : World) (K : Fg) (mg : Str → Option Value) (base : Heap) (k : Nat) (x : Str) (sp : Sp) : Prop where
  ex : ∃ (f : Addr) (fd : FuncData) (ps : List Str), FnOk P w K mg base (L2.CX P w) k f fd ps sp ∧ mg x = some (.ref f) ∧ PySem.W.keepIn K (.ref f) = true ∧ Binds K fd ps []
theorem pe_calX {X : Cx} {E : XK} {k j : Nat} {x : Str} {sp : Sp} {p pos : Pos} {e : Expr} {es : List Expr} {t : TA} (c : CalX X.prog X.w X.K X.mg X.base k x sp) (hr : Room j X.A) (hk : k ≤ j) (hg : Gl X x) (hx : Passes (L2.CX X.prog X.w) X E) (ha : PA X (e :: es) t)
    (hdb : (x == ("__debug__" : Str)) = false := by decide) (he : starEach (e :: es) X.env = (false, eval e X.env) :: starEach es X.env := by rfl) (hpl : (backTo pos (starEach es X.env)).any (·.1) = false := by rfl) :
    PE X (.Call (.Name x p) (e :: es) [] pos) (tCall sp [] E t) := by
  obtain ⟨f, fd, ps, F, hm, kp, b⟩ := c.ex
  exact pe_call F (hr.mono hk) hg hm kp b .nil hx ha hdb he hpl
theorem pe_calXS {X : Cx} {W : WX} {k j : Nat} {x : Str} {sp : Sp} {p pos : Pos} {e : Expr} {es : List Expr} {t : TA} (c : CalX X.prog X.w X.K X.mg X.base k x sp) (hr : Room j X.A) (hk : k ≤ j) (hg : Gl X x) (tk : Takes X W) (ha : PA X (e :: es) t)
    (hdb : (x == ("__debug__" : Str)) = false := by decide) (he : starEach (e :: es) X.env = (false, eval e X.env) :: starEach es X.env := by rfl) (hpl : (backTo pos (starEach es X.env)).any (·.1) = false := by rfl) :
    PE X (.Call (.Name x p) (e :: es) [] pos) (tCallS sp (WE W) t) := by
  obtain ⟨f, fd, ps, F, hm, kp, b⟩ := c.ex
  exact pe_callS F (hr.mono hk) hg hm kp b (fun σ => passAt tk σ) ha hdb he hpl
section
variable {P : Program} {w : World} {K : Fg} {mg : Str → Option Value} {base : Heap}
theorem calx_sp {g x : Str} {st : Stmt} {N ps : List Str} {k : Nat} {sp : Sp} (F : ∃ fd, FunD K x x (defArgs st) (defBody st) (defScope st) [] [] (He.ga K g) fd) (hm : mg g = some (.ref (He.ga K g))) (S : FnScope N ps (defScope st))
    (hb : ∀ (kV doc pm : Value) (an : Option Addr) (cdv ct : Value) (us : List Value), us.length = ps.length → bindArgs (PySem.W.fnOf x x (defArgs st) (defBody st) (defScope st) .none kV doc pm an cdv ct) ⟨us, []⟩ = pure (ps.zip us))
    (hl : ∀ vs H Q E, sp vs H Q E → vs.length = ps.length)
    (body : ∀ (cdv : Value) (A : Around) (outer : List Env) (s : Shared) (H : Hp) (vs : List V) (Q : VK) (E : XK), Room k (A.deeper (envOfC x (defScope st) s.heap.objs.size (He.ga K g) cdv)) → sp vs H Q E →
      ∃ t, PSs (cxOf (L2.CX P w) P w K mg base N x (defScope st) (He.ga K g) cdv A outer s H E) (defBody st) t ∧ t { nx := fun _ H' => Q .non H', rt := Q } (start N vs) H) : CalX P w K mg base (k + 1) g sp := by
  obtain ⟨fd, F⟩ := F
  exact ⟨_, fd, ps, FunD.ok F S hl body, hm, F.kp, F.bindsN hb⟩
/-! ### NoLabels -/
def spNL (K : Fg) : Sp := fun vs H Q _ => ∃ (a : Addr) (wd at_ : V), vs = [.ref a, wd, at_] ∧ H a = some (exo a (He.ga K "NoLabels") none) ∧
  ∀ dx, H dx = none → dx ≠ a → Q .non (upd (upd (upd H dx (exd dx [("word", wd)])) a (exo a (He.ga K "NoLabels") (some dx))) dx (exd dx [("at", at_), ("word", wd)]))
theorem sc_NoLabels_init : FnScope ["self", "word", "at"] ["self", "word", "at"] (defScope (inClass (top 2) 0)) := ⟨rfl, rfl, rfl, by decide +kernel, rfl, by decide +kernel, by decide +kernel⟩
theorem fn_NL (T : Txt w K mg) : ∃ fd, FnOk P w K mg base CX0 2 (He.ma K (He.ga K "NoLabels") "__init__") fd ["self", "word", "at"] (spNL K) ∧ Binds K fd ["self", "word", "at"] [] := by
  obtain ⟨fd, F⟩ := T.f_NoLabels_init
  refine ⟨fd, FunD.ok F sc_NoLabels_init (fun vs H Q E h => by obtain ⟨_, _, _, rfl, _⟩ := h; rfl) fun cdv A outer s H vs Q E hr h => ?_, F.bindsN fun _ _ _ _ _ _ us hl => match us, hl with | [_, _, _], _ => rfl⟩
  suffices q : ∃ t, PSs (cxOf CX0 P w K mg base ["self", "word", "at"] "NoLabels.__init__" (defScope (inClass (top 2) 0)) (He.ma K (He.ga K "NoLabels") "__init__") cdv A outer s H E).nox (defBody (inClass (top 2) 0)) t ∧ t { nx := fun _ H' => Q .non H', rt := Q } (start ["self", "word", "at"] vs) H by
    obtain ⟨t, h1, h2⟩ := q
    exact ⟨t, h1.nox, h2⟩
  obtain ⟨a, wd, at_, rfl, ha, k⟩ := h
  refine ⟨_, (pss_cons (ps_expr (pe_wayinit rfl T.g_WayError T.way1 T.way2 T.way3 (pa_cons (pv 0) (pa_cons pe_str pa_nil))))
      (pss_cons (ps_ost (pv 0) (pv 1))
      (pss_one (ps_ost (pv 0) (pv 2))))), ?_⟩
  refine ⟨_, rfl, a, _, [.str _], rfl, (by show 1 ≤ 1000; decide), T.oex, ha, ?_⟩
  refine ⟨_, rfl, _, rfl, a, _, rfl, T.oex, T.n_NoLabels_word, .inl ⟨ha, fun dx hdx hne => ?_⟩⟩
  have e1 : upd (upd H dx (exd dx [("word", wd)])) a (exo a (He.ga K "NoLabels") (some dx)) dx = some (exd dx [("word", wd)]) := by rw [upd_ne hne, upd_same]
  exact ⟨_, rfl, _, rfl, a, _, rfl, T.oex, T.n_NoLabels_at, .inr ⟨dx, [("word", wd)], upd_same, e1, (by show 1 ≤ 900; decide), k dx hdx hne⟩⟩
/-- raise NoLabels(word, at) -/
def tRaiseNL (K : Fg) (W : WX) (ta : TA) : TS := fun _ σ H => tMkO (He.ga K "NoLabels") (spNL K) [] ta σ H fun cls d H' => W cls d σ H'
end
theorem ps_raiseNL {X : Cx} {W : WX} {K : Fg} {j : Nat} {ta : TA} {e : Expr} {es : List Expr} {p pos pos2 : Pos} (T : Txt X.w K X.mg) (hK : X.K = K) (hr : Room (j + 3) X.A) (tk : Takes X W) (ha : PA X (e :: es) ta) (hc : X.calm = true := by rfl) (hg : Gl X "NoLabels" := by rfl)
    (he : starEach (e :: es) X.env = (false, eval e X.env) :: starEach es X.env := by rfl) (hpl : (backTo pos (starEach es X.env)).any (·.1) = false := by rfl) :
    PS X (.Raise (some (.Call (.Name "NoLabels" p) (e :: es) [] pos)) none pos2) (tRaiseNL K W ta) := by
  subst hK
  obtain ⟨fd, F, B⟩ := fn_NL (P := X.prog) (base := X.base) T
  exact ps_raise (pos := pos2) hc tk (pmk_oex (p := p) (pos := pos) (sp := spNL X.K) (ds := []) (dvs := []) T.oex T.y_NoLabels_init.at_ T.tyI F (hr.mono (by omega)) B .nil pass0 hg T.g_NoLabels ha (by decide) he hpl)
section
variable {K : Fg} {σ : Ks} {H : Hp}
/-- the refusal stands in the heap -/
def Faulty (H : Hp) (d : Addr) (wd : Str) : Prop := ∃ at_ : V, H d = some (.xd [("at", at_), ("word", .str wd)])
theorem l_raiseNL {W : WX} {D : Ends} {ta : TA} {wd : Str} {ad : PyData} (h : EvDs K ta σ H [.str wd, ad]) (k : ∀ d H1, Ex H H1 → Faulty H1 d wd → W (.ref (He.ga K "NoLabels")) (some d) σ H1) : tRaiseNL K W ta D σ H :=
  h H (Ex.refl _) _ fun vs H1 e1 d1 => by
    obtain ⟨v1, v2, rfl, q1, q2⟩ := dps2 d1
    have e2 := dp_str q1
    subst e2
    refine ⟨(by show 2 ≤ 1000; decide), fun a hna => ⟨a, .str wd, v2, rfl, upd_same, fun dx hdx hne => ⟨rfl, dx, _, ?_, upd_same, ?_, ?_⟩⟩⟩
    · rw [upd_ne (Ne.symm hne), upd_same]
    · rw [upd_ne hne] at hdx
      exact hdx
    · have hn1 : H1 dx = none := by
        rw [upd_ne hne] at hdx
        exact hdx
      have e3 : upd (del (upd (upd (upd (upd H1 a (exo a (He.ga K "NoLabels") none)) dx (exd dx [("word", .str wd)])) a (exo a (He.ga K "NoLabels") (some dx))) dx (exd dx [("at", v2), ("word", .str wd)])) a) dx (.xd [("at", v2), ("word", .str wd)]) = upd H1 dx (.xd [("at", v2), ("word", .str wd)]) := by
        funext b
        by_cases hb : b = dx
        · rw [hb, upd_same, upd_same]
        · rw [upd_ne hb, upd_ne hb]
          by_cases ha : b = a
          · rw [ha, del_same, hna]
          · rw [del_ne ha, upd_ne hb, upd_ne ha, upd_ne hb, upd_ne ha]
      rw [e3]
      exact k dx _ (e1.trans (Ex.new hn1)) ⟨v2, upd_same⟩
end
end Lw
namespace Lw
open PySem PySem.Spec PyProof.Rows L2 Evl LwM
/-! ### enumerate as data -/
def enumD {α : Type} (f : α → PyData) (l : List α) : List PyData := l.zipIdx.map fun p => .tuple [nD p.2, f p.1]
theorem enum_len {α : Type} (f : α → PyData) (l : List α) : (enumD f l).length = l.length := by
  unfold enumD
  rw [List.length_map, List.length_zipIdx]
theorem enum_at {α : Type} {f : α → PyData} {l : List α} {i : Nat} {d : PyData} (h : (enumD f l)[i]? = some d) : ∃ a, l[i]? = some a ∧ d = .tuple [nD i, f a] := by
  unfold enumD at h
  rw [List.getElem?_map, List.getElem?_zipIdx] at h
  cases e : l[i]? with
  | none => rw [e] at h; simp at h
  | some a =>
    rw [e] at h
    simp at h
    exact ⟨a, rfl, h.symm⟩
section
variable {K : Fg} {σ : Ks} {H H' : Hp} {ta tb te tx : TE} {d e : PyData} {ds es : List PyData}
theorem yd_enum {α : Type} {f : α → PyData} {l : List α} {xs : List V} {i : Nat} {x : V} {H3 H4 : Hp} (hd : DpAll K H3 xs (l.map f)) (hi : i < l.length) (y : YPair (fun i => some (.int (i : Nat))) (fun i => xs[i]?) i H3 x H4) : YD K (enumD f l) i H3 x H4 := by
  obtain ⟨T, y1, y2, rfl, h2, rfl, h4, h5⟩ := y
  cases h4
  have e34 : Ex H3 (upd H3 T (.tup [.int (i : Nat), y2])) := Ex.new h2
  obtain ⟨a, ha⟩ : ∃ a, l[i]? = some a := ⟨_, List.getElem?_eq_getElem hi⟩
  obtain ⟨d2, g1, g2⟩ := dps_at hd h5
  rw [List.getElem?_map, ha] at g1
  cases g1
  refine ⟨e34, .tuple [nD i, f a], ?_, .tup (st_of upd_same) (.cons (.int _) (.cons (Dpx g2 e34) .nil))⟩
  unfold enumD
  rw [List.getElem?_map, List.getElem?_zipIdx, ha]
  simp
theorem evi_enum {α : Type} {f : α → PyData} {l : List α} {v : V} {i : Nat} (h : σ[i]? = some (some v)) (hd : Dp K H v (.tuple (l.map f))) : EvI K (iEnumT K (tCons (tVar i) tNil)) σ H (enumD f l) := fun H1 e R k => by
  obtain ⟨a, xs, rfl, hs, ha⟩ := dp_tup hd
  refine ⟨_, h, a, xs, rfl, ex_t e hs, k _ H1 (Ex.refl _) ?_⟩
  have hl : xs.length = (enumD f l).length := by rw [enum_len, dps_len ha, List.length_map]
  rw [← hl]
  refine walk_enumT.mono (fun H' q => ex_t q hs) fun i H3 x H4 hi g y => ?_
  exact yd_enum (Dpsx ha g) (by rw [hl, enum_len] at hi; exact hi) y
/-- a call that may refuse, for what it leaves -/
def AskR (K : Fg) (wd : Str) (bad : List PyData → Bool → Prop) : Sp := fun vs H Q E => ∃ ds b, bad ds b ∧ DpAll K H vs ds ∧ (b = false → ∀ H', Ex H H' → Q .non H') ∧ (b = true → ∀ d H', Ex H H' → Faulty H' d wd → E (.ref (He.ga K "NoLabels")) (some d) H')
theorem q_ask {E : XK} {ta : TA} {D : Ends} {tz : TS} {wd : Str} {bad : List PyData → Bool → Prop} {b : Bool} (h : EvDs K ta σ H ds) (hb : bad ds b) (h0 : b = false → ∀ H1, Ex H H1 → tz D σ H1) (h1 : b = true → ∀ d H1, Ex H H1 → Faulty H1 d wd → E (.ref (He.ga K "NoLabels")) (some d) H1) :
    tSeq (tDrop (tCall (AskR K wd bad) [] E ta)) tz D σ H := h H (Ex.refl _) _ fun vs H1 e1 d1 => ⟨ds, b, hb, by rw [List.append_nil]; exact d1, fun q H2 e2 => h0 q H2 (e1.trans e2), fun q d H2 e2 f => h1 q d H2 (e1.trans e2) f⟩
theorem d_drop {D : Ends} {tz : TS} (h : EvD K te σ H d) (k : ∀ H1, Ex H H1 → tz D σ H1) : tSeq (tDrop te) tz D σ H := h H (Ex.refl _) _ fun _ H1 e1 _ => k H1 e1
end
/-! ### what right labels have -/
theorem lab_one {n : Nat} {L : List Lab} (ok : LabelsOk n L) {v : Nat} {l : Lab} (hl : L[v]? = some l) : (l.filter fun e => decide (e.long = 0)).map (·.hub) = [v] := by
  have hm := List.mem_of_getElem? hl
  obtain ⟨⟨e, he, h1, h2⟩, h3⟩ := ok.own v l hl
  have asc : ((l.filter fun e => decide (e.long = 0)).map (·.hub)).Pairwise (· < ·) := by
    rw [List.pairwise_map]
    exact (ok.asc l hm).sublist List.filter_sublist
  refine asc_ext asc (by simp) fun x => ?_
  rw [List.mem_map]
  constructor
  · rintro ⟨a, ha, rfl⟩
    obtain ⟨a1, a2⟩ := List.mem_filter.mp ha
    simp only [decide_eq_true_eq] at a2
    simp [h3 a a1 a2]
  · intro hx
    simp at hx
    subst hx
    exact ⟨e, List.mem_filter.mpr ⟨he, decide_eq_true h2⟩, h1⟩
theorem lab_nd {n : Nat} {L : List Lab} (ok : LabelsOk n L) {l : Lab} (hm : l ∈ L) : (l.map (·.hub)).Nodup := by
  have : (l.map (·.hub)).Pairwise (· < ·) := List.pairwise_map.mpr (ok.asc l hm)
  exact this.imp fun h => by omega
theorem lab_few {n : Nat} {L : List Lab} (ok : LabelsOk n L) (hn : n ≤ 24) {l : Lab} (hm : l ∈ L) : l.length ≤ 1000 := by
  have h := nodup_le n (l.map (·.hub)) (lab_nd ok hm) fun v hv => by
    obtain ⟨e, he, rfl⟩ := List.mem_map.mp hv
    exact ok.hub l hm e he
  rw [List.length_map] at h
  omega
theorem lab_ok {n : Nat} {L : List Lab} (ok : LabelsOk n L) (hn : n ≤ 24) {l : Lab} (hm : l ∈ L) : LabOk n l := by
  obtain ⟨v, hv⟩ := List.mem_iff_getElem?.mp hm
  refine ⟨fun e he => ⟨ok.hub l hm e he, fun hz => ok.zero l hm e he hz, fun hz => ok.ups l hm e he hz⟩, ok.asc l hm, ?_, lab_few ok hn hm⟩
  have := congrArg List.length (lab_one ok hv)
  rw [List.length_map] at this
  exact this
section
variable {P : Program} {w : World} {K : Fg} {mg : Str → Option Value} {base : Heap}
def rAskOwn : Rel := fun ds r => ∃ (n : Nat) (L : List Lab), n ≤ 24 ∧ LabelsOk n L ∧ ds = [labelsD L] ∧ r = .none
theorem sc_ask_own : FnScope ["labels", "place", "label"] ["labels"] (defScope (top 47)) := ⟨rfl, rfl, rfl, by decide +kernel, rfl, by decide +kernel, by decide +kernel⟩
theorem cal_ask_own (T : Txt w K mg) : CalD P w K mg base 2 "ask_own" (PureSp K rAskOwn) := by
  refine cal_of T.f_ask_own T.g_ask_own sc_ask_own (fun _ _ _ _ _ _ us hl => match us, hl with | [_], _ => rfl) (fun ds r h => by obtain ⟨_, _, _, _, rfl, _⟩ := h; rfl) fun cdv A outer s H vs Q E hr ds r h hd k => ?_
  obtain ⟨n, L, hn, ok, rfl, rfl⟩ := h
  obtain ⟨v1, rfl, h1⟩ := dps1 hd
  refine ⟨_, (pss_one (ps_for PassesOwn.never rfl (pi_enumTK (K := K) rfl (by rfl) T.m_enumerate (pa_cons (pv 0) pa_nil)) (pg_tup rfl (pgs_cons (pg_name (i := 1) sc_ask_own.nd rfl (Or.inl rfl)) (pgs_cons (pg_name (i := 2) sc_ask_own.nd rfl (Or.inl rfl)) pgs_nil))) (pss_one (ps_if (pt_cmpR op_ne (pe_cal (cal_own_place (K := K) T) hr (by decide) (by rfl) (pa_cons (pv 2) pa_nil)) (pv 1) (nomark _)) (pss_one ps_never) pss_nil)))), ?_⟩
  refine d_for (K := K) (evi_enum (f := labD) (l := L) rfl h1) (Ex.refl _) (fun i σ' H' => ∃ x y, σ' = [some v1, x, y] ∧ Ex H H') (fun H2 e2 => ⟨none, none, rfl, e2⟩) (fun i σ' H' p => by obtain ⟨_, _, _, e⟩ := p; exact e) (fun i d x σ' H3 H4 hi p e4 hx => ?_) fun σ' H' p => ?_
  · obtain ⟨x0, y0, rfl, e3⟩ := p
    obtain ⟨l, hl, rfl⟩ := enum_at hi
    refine g_tup2 hx fun y1 y2 q1 q2 => ?_
    have hm := List.mem_of_getElem? hl
    refine d_if1 (b := !decide (i = i)) (et_test (ev_neN (evd_call (evds_cons (evd_var rfl q2) evds_nil) ⟨l, i, [], lab_few ok hn hm, lab_one ok hl, rfl, rfl⟩) (evd_var rfl q1))) (fun z => by rw [decide_eq_true rfl] at z; cases z) fun _ H5 e5 => ?_
    exact ⟨_, _, rfl, (e3.trans e4).trans e5⟩
  · obtain ⟨x0, y0, rfl, e3⟩ := p
    exact k .non H' e3 .non
/-! ### ask_ups -/
def badUp : List PyData → Bool → Prop := fun ds b => ∃ (W : Web) (L : List Lab), WebOk W ∧ LabelsOk W.n L ∧ ds = [webD W, labelsD L] ∧ b = anyUp W L
theorem any_take {α : Type} {p : α → Bool} {l : List α} (h : ∀ (i : Nat) a, l[i]? = some a → p a = false) : l.any p = false := List.any_eq_false.mpr fun a ha => by
  obtain ⟨i, hi⟩ := List.mem_iff_getElem?.mp ha
  rw [h i a hi]
  exact Bool.false_ne_true
theorem labAt_of {L : List Lab} {v : Nat} {l : Lab} (h : L[v]? = some l) : labAt L v = l := by
  unfold labAt
  rw [List.getD_eq_getElem?_getD, h]
  rfl
theorem take_more {α : Type} {l : List α} {i : Nat} {a : α} {p : α → Prop} (h : ∀ x ∈ l.take i, p x) (ha : l[i]? = some a) (hp : p a) : ∀ x ∈ l.take (i + 1), p x := fun x hx => by
  rw [List.take_add_one, ha] at hx
  rcases List.mem_append.mp hx with hx | hx
  · exact h x hx
  · simp at hx
    rw [hx]
    exact hp
theorem sc_ask_ups : FnScope ["web", "labels", "place", "label", "entry"] ["web", "labels"] (defScope (top 49)) := ⟨rfl, rfl, rfl, by decide +kernel, rfl, by decide +kernel, by decide +kernel⟩
theorem calx_ask_ups (T : Txt w K mg) : CalX P w K mg base 4 "ask_ups" (AskR K "up" badUp) := by
  refine calx_sp T.f_ask_ups T.g_ask_ups sc_ask_ups (fun _ _ _ _ _ _ us hl => match us, hl with | [_, _], _ => rfl) (fun vs H Q E h => by obtain ⟨ds, b, ⟨_, _, _, _, rfl, _⟩, h2, _⟩ := h; exact dps_len h2) fun cdv A outer s H vs Q E hr h => ?_
  obtain ⟨ds, b, ⟨W, L, okW, ok, rfl, rfl⟩, hd, k0, k1⟩ := h
  obtain ⟨v1, v2, rfl, h1, h2⟩ := dps2 hd
  refine ⟨_, (pss_one (ps_for (passes_of rfl) rfl (pi_enumTK (K := K) rfl (by rfl) T.m_enumerate (pa_cons (pv 1) pa_nil)) (pg_tup rfl (pgs_cons (pg_name (i := 2) sc_ask_ups.nd rfl (Or.inl rfl)) (pgs_cons (pg_name (i := 3) sc_ask_ups.nd rfl (Or.inl rfl)) pgs_nil))) (pss_one (ps_for (passes_of rfl) rfl (pi_tupK (K := K) rfl (pv 3)) (pg_name (i := 4) sc_ask_ups.nd rfl (Or.inl rfl)) (pss_one (ps_if (PW.pt (pw_and (pt_cmpR op_ne (pe_ix (ix_tupK (K := K) rfl) (pv 4) pe_int (fun _ _ => rfl)) pe_int (nomark _)) (pw_and1 (pt_not (pt_val (pe_cal (cal_hangs (K := K) T) hr (by decide) (by rfl) (pa_cons (pv 0) (pa_cons (pv 1) (pa_cons (pv 2) (pa_cons (pv 4) pa_nil)))))))))) (pss_one (ps_raiseNL T rfl hr (takes_of rfl rfl rfl rfl) (pa_cons pe_str (pa_cons (pe_tup (pa_cons (pv 2) (pa_cons (pe_ix (ix_tupK (K := K) rfl) (pv 4) pe_int (fun _ _ => rfl)) pa_nil))) pa_nil)))) pss_nil)))))), ?_⟩
  have most := okW.most
  refine d_for (K := K) (evi_enum (f := labD) (l := L) rfl h2) (Ex.refl _) (fun i σ' H' => ∃ x y z, σ' = [some v1, some v2, x, y, z] ∧ Ex H H' ∧ ∀ v, v < i → upBad W L v = false) (fun H2 e2 => ⟨none, none, none, rfl, e2, fun v hv => absurd hv (Nat.not_lt_zero v)⟩) (fun i σ' H' p => by obtain ⟨_, _, _, _, e, _⟩ := p; exact e) (fun i d x σ' H3 H4 hi p e4 hx => ?_) fun σ' H' p => ?_
  · obtain ⟨x0, y0, z0, rfl, e3, hno⟩ := p
    obtain ⟨l, hl, rfl⟩ := enum_at hi
    have hm := List.mem_of_getElem? hl
    have hil : i < L.length := (List.getElem?_eq_some_iff.mp hl).1
    refine g_tup2 hx fun y1 y2 q1 q2 => ?_
    have e34 := e3.trans e4
    refine d_for (K := K) (G := H4) (evi_var rfl q2) (Ex.refl _) (fun j σ' H' => ∃ z, σ' = [some v1, some v2, some y1, some y2, z] ∧ Ex H4 H' ∧ ∀ e ∈ l.take j, (decide (e.long ≠ 0) && !hangsL W L i e) = false) (fun H5 e5 => ⟨z0, rfl, e5, by simp⟩) (fun i σ' H' p => by obtain ⟨_, _, e, _⟩ := p; exact e) (fun j d2 y σ' H5 H6 hj p e6 hy => ?_) fun σ' H' p => ?_
    · obtain ⟨z1, rfl, e5, hno2⟩ := p
      rw [List.getElem?_map] at hj
      obtain ⟨e, he, rfl⟩ := Option.map_eq_some_iff.mp hj
      have hem := List.mem_of_getElem? he
      have e46 := e5.trans e6
      have eH := e34.trans e46
      refine d_if1 (b := !decide (e.long = 0) && !hangsL W L i e) (et_and (a := !decide (e.long = 0)) (et_test (ev_neN (evd_i1 (evd_var rfl hy)) (evd_cn 0))) fun hz => ?_) (fun hb H7 e7 => ?_) fun hb H7 e7 => ?_
      · have hz' : e.long ≠ 0 := by simpa using hz
        obtain ⟨a, b, u1, u2, ha, hb⟩ := ok.ups l hm e hem hz'
        exact et_not (et_test (ev_bool (evd_call (evds_cons (evd_var rfl (Dpx h1 eH)) (evds_cons (evd_var rfl (Dpx h2 eH)) (evds_cons (evd_var rfl (Dpx q1 e46)) (evds_cons (evd_var rfl hy) evds_nil)))) ⟨W, L, i, a, e, u1, by rw [ok.len]; exact ha, rfl, rfl⟩)))
      · refine l_raiseNL (evds_cons (evd_str ev_c) (evds_cons (evd_tup (evds_cons (evd_var rfl (Dpx q1 (e46.trans e7))) (evds_cons (evd_i0 (evd_var rfl (Dpx hy e7))) evds_nil)) (by show 2 ≤ 100000; decide)) evds_nil)) fun d H8 e8 f8 => k1 ?_ d H8 ((eH.trans e7).trans e8) f8
        unfold anyUp
        rw [List.any_eq_true]
        refine ⟨i, List.mem_range.mpr (by rw [← ok.len]; exact hil), ?_⟩
        unfold upBad
        rw [labAt_of hl, List.any_eq_true]
        refine ⟨e, hem, ?_⟩
        rw [← hb]
        by_cases hz : e.long = 0 <;> simp [hz]
      · refine ⟨_, rfl, e46.trans e7, take_more hno2 he ?_⟩
        rw [← hb]
        by_cases hz : e.long = 0 <;> simp [hz]
    · obtain ⟨z1, rfl, e5, hno2⟩ := p
      rw [List.length_map, List.take_length] at hno2
      refine ⟨_, _, _, rfl, e34.trans e5, fun v hv => ?_⟩
      by_cases hvi : v = i
      · subst hvi
        unfold upBad
        rw [labAt_of hl]
        exact List.any_eq_false.mpr fun e he => by rw [hno2 e he]; exact Bool.false_ne_true
      · exact hno v (by omega)
  · obtain ⟨x0, y0, z0, rfl, e3, hno⟩ := p
    rw [enum_len] at hno
    refine k0 ?_ H' e3
    unfold anyUp
    exact List.any_eq_false.mpr fun v hv => by rw [hno v (by rw [ok.len]; exact List.mem_range.mp hv)]; exact Bool.false_ne_true
/-! ### ask_ties -/
def badTie : List PyData → Bool → Prop := fun ds b => ∃ (W : Web) (L : List Lab), WebOk W ∧ LabelsOk W.n L ∧ ds = [webD W, labelsD L] ∧ b = anyTie W L
theorem sc_ask_ties : FnScope ["web", "labels", "one", "place", "here", "other"] ["web", "labels"] (defScope (top 51)) := ⟨rfl, rfl, rfl, by decide +kernel, rfl, by decide +kernel, by decide +kernel⟩
theorem calx_ask_ties (T : Txt w K mg) : CalX P w K mg base 4 "ask_ties" (AskR K "tie" badTie) := by
  refine calx_sp T.f_ask_ties T.g_ask_ties sc_ask_ties (fun _ _ _ _ _ _ us hl => match us, hl with | [_, _], _ => rfl) (fun vs H Q E h => by obtain ⟨ds, b, ⟨_, _, _, _, rfl, _⟩, h2, _⟩ := h; exact dps_len h2) fun cdv A outer s H vs Q E hr h => ?_
  obtain ⟨ds, b, ⟨W, L, okW, ok, rfl, rfl⟩, hd, k0, k1⟩ := h
  obtain ⟨v1, v2, rfl, h1, h2⟩ := dps2 hd
  refine ⟨_, (pss_one (ps_for (passes_of rfl) rfl (pi_range1 rfl T.m_range (pa_cons (pe_ix (ix_tupK (K := K) rfl) (pv 0) pe_int (fun _ _ => rfl)) pa_nil)) (pg_name (i := 2) sc_ask_ties.nd rfl (Or.inl rfl)) (pss_one (ps_for (passes_of rfl) rfl (pi_range1 rfl T.m_range (pa_cons (pe_ix (ix_tupK (K := K) rfl) (pv 0) pe_int (fun _ _ => rfl)) pa_nil)) (pg_name (i := 3) sc_ask_ties.nd rfl (Or.inl rfl)) (pss_cons (ps_set (i := 4) sc_ask_ties.nd rfl (Or.inl rfl) (pe_cal (cal_told (K := K) T) hr (by decide) (by rfl) (pa_cons (pe_ix (ix_tupK (K := K) rfl) (pv 1) (pv 2) (fun _ _ => rfl)) (pa_cons (pe_ix (ix_tupK (K := K) rfl) (pv 1) (pv 3) (fun _ _ => rfl)) pa_nil))))
      (pss_one (ps_if (pt_cmpR op_notN (pv 4) pe_non (nomark _)) (pss_one (ps_for (passes_of rfl) rfl (pi_tupK (K := K) rfl (pe_cal (cal_beside (K := K) T) hr (by decide) (by rfl) (pa_cons (pv 0) (pa_cons (pv 3) pa_nil)))) (pg_name (i := 5) sc_ask_ties.nd rfl (Or.inl rfl)) (pss_one (ps_if (pt_val (pe_cal (cal_is_more (K := K) T) hr (by decide) (by rfl) (pa_cons (pe_cal (cal_told (K := K) T) hr (by decide) (by rfl) (pa_cons (pe_ix (ix_tupK (K := K) rfl) (pv 1) (pv 2) (fun _ _ => rfl)) (pa_cons (pe_ix (ix_tupK (K := K) rfl) (pv 1) (pv 5) (fun _ _ => rfl)) pa_nil))) (pa_cons (pe_op op_add (pv 4) (pe_cal (cal_long_of (K := K) T) hr (by decide) (by rfl) (pa_cons (pv 0) (pa_cons (pv 3) (pa_cons (pv 5) pa_nil))))) pa_nil)))) (pss_one (ps_raiseNL T rfl hr (takes_of rfl rfl rfl rfl) (pa_cons pe_str (pa_cons (pe_tup (pa_cons (pv 2) (pa_cons (pv 3) (pa_cons (pv 5) pa_nil)))) pa_nil)))) pss_nil)))) pss_nil))))))), ?_⟩
  have most := okW.most
  have eL := ok.len
  have en : ∀ {H'} (e : Ex H H') {σ : Ks}, σ[0]? = some (some v1) → EvD K (tOp (rIxT K) (tVar 0) (tC (.int 0))) σ H' (nD W.n) := fun e σ hs => evd_i0 (evd_var hs (Dpx h1 e))
  have told : ∀ {H'} (e : Ex H H') {σ : Ks} {t1 t2 : TE} {a b : Nat}, σ[1]? = some (some v2) → EvD K t1 σ H' (nD a) → EvD K t2 σ H' (nD b) → a < W.n → b < W.n → EvD K (tCall (PureSp K rTold) [] E0 (tCons (tOp (rIxT K) (tVar 1) t1) (tCons (tOp (rIxT K) (tVar 1) t2) tNil))) σ H' (optD (toldL (labAt L a) (labAt L b))) := fun {H'} e {σ t1 t2 a b} hs q1 q2 ha hb => by
    have ga := labAt_get (L := L) (p := a) (by omega)
    have gb := labAt_get (L := L) (p := b) (by omega)
    exact evd_call (evds_cons (evd_at (f := labD) (evd_var hs (Dpx h2 e)) q1 ga) (evds_cons (evd_at (f := labD) (evd_var hs (Dpx h2 e)) q2 gb) evds_nil)) ⟨_, _, lab_few ok most (List.mem_of_getElem? ga), lab_few ok most (List.mem_of_getElem? gb), lab_nd ok (List.mem_of_getElem? gb), rfl, rfl⟩
  refine d_for (K := K) (evi_range (ev_n (en (Ex.refl _) rfl)) (by omega)) (Ex.refl _) (fun i σ' H' => ∃ x3 x4 x5 x6, σ' = [some v1, some v2, x3, x4, x5, x6] ∧ Ex H H' ∧ ∀ u, u < i → (List.range W.n).any (tieBad W L u) = false) (fun H2 e2 => ⟨none, none, none, none, rfl, e2, fun v hv => absurd hv (Nat.not_lt_zero v)⟩) (fun i σ' H' p => by obtain ⟨_, _, _, _, _, e, _⟩ := p; exact e) (fun i d x σ' H3 H4 hi p e4 hx => ?_) fun σ' H' p => ?_
  · obtain ⟨x3, x4, x5, x6, rfl, e3, hno⟩ := p
    have hin : i < W.n := by
      have := (List.getElem?_eq_some_iff.mp hi).1
      rw [upto_len] at this
      exact this
    rw [upto_at hin] at hi
    cases hi
    have e34 := e3.trans e4
    have hx' : Dp K H4 x (nD i) := hx
    refine d_for (K := K) (G := H4) (evi_range (ev_n (en e34 rfl)) (by omega)) (Ex.refl _) (fun j σ' H' => ∃ x4 x5 x6, σ' = [some v1, some v2, some x, x4, x5, x6] ∧ Ex H4 H' ∧ ∀ v, v < j → tieBad W L i v = false) (fun H5 e5 => ⟨x4, x5, x6, rfl, e5, fun v hv => absurd hv (Nat.not_lt_zero v)⟩) (fun i σ' H' p => by obtain ⟨_, _, _, _, e, _⟩ := p; exact e) (fun j d2 y σ' H5 H6 hj p e6 hy => ?_) fun σ' H' p => ?_
    · obtain ⟨z4, z5, z6, rfl, e5, hno2⟩ := p
      have hjn : j < W.n := by
        have := (List.getElem?_eq_some_iff.mp hj).1
        rw [upto_len] at this
        exact this
      rw [upto_at hjn] at hj
      cases hj
      have hy' : Dp K H6 y (nD j) := hy
      have e46 := e5.trans e6
      have eH := e34.trans e46
      refine d_set (told eH rfl (evd_var rfl (Dpx hx' e46)) (evd_var rfl hy') hin hjn) fun vh H7 e7 hh => ?_
      have fin : ∀ {H8}, Ex H7 H8 → tieBad W L i j = false → ∀ x6 : Option V, (fun σ' H' => ∃ x4 x5 x6, σ' = [some v1, some v2, some x, x4, x5, x6] ∧ Ex H4 H' ∧ ∀ v, v < j + 1 → tieBad W L i v = false) [some v1, some v2, some x, some y, some vh, x6] H8 := fun {H8} e8 hb x6 => ⟨_, _, _, rfl, (e46.trans e7).trans e8, fun v hv => by
        by_cases hvj : v = j
        · rw [hvj]; exact hb
        · exact hno2 v (by omega)⟩
      cases hc : toldL (labAt L i) (labAt L j) with
      | none =>
        refine d_if1 (b := false) (et_test (ev_is (ev_notNO (evd_var rfl hh)) (by rw [hc]; rfl))) (fun z => by cases z) fun _ H8 e8 => ?_
        exact fin e8 (by unfold tieBad; rw [hc]) _
      | some here =>
        have hh' : Dp K H7 vh (nD here) := by rw [hc] at hh; exact hh
        refine d_if1 (b := true) (et_test (ev_is (ev_notNO (evd_var rfl hh)) (by rw [hc]; rfl))) (fun _ H8 e8 => ?_) fun z => by cases z
        have e48 := (e46.trans e7).trans e8
        have eH8 := e34.trans e48
        have hh8 := Dpx hh' e8
        have hy8 := Dpx hy' (e7.trans e8)
        refine d_forJ (K := K) (evj_T (evd_call (evds_cons (evd_var rfl (Dpx h1 eH8)) (evds_cons (evd_var rfl hy8) evds_nil)) ⟨W, j, okW, rfl, rfl⟩)) (fun H1 m σ' H' => Ex H8 H1 ∧ Ex H1 H' ∧ ∃ x6, σ' = [some v1, some v2, some x, some y, some vh, x6] ∧ ∀ w ∈ (besideL W j).take m, isMoreL (toldL (labAt L i) (labAt L w)) (here + (longOf W j w).getD 0) = false)
          (fun H9 e9 => ⟨e9, Ex.refl _, z6, rfl, by simp⟩) (fun H1 i σ' H' p => p.2.1) (fun H1 m d3 q σ' H9 H10 hm p e10 hq => ?_) fun H1 σ' H' p => ?_
        · obtain ⟨p1, p2, x6', rfl, hno3⟩ := p
          rw [List.getElem?_map] at hm
          obtain ⟨w, hw, rfl⟩ := Option.map_eq_some_iff.mp hm
          have hwm := List.mem_of_getElem? hw
          have hwl := beside_lt hwm
          obtain ⟨l, hl⟩ := (mem_beside okW).mp hwm
          have hlo := (longOf_some okW).mpr hl
          have hq' : Dp K H10 q (nD w) := hq
          have e8a := (p1.trans p2).trans e10
          have eHa := eH8.trans e8a
          have elo : EvD K (tCall (PureSp K rLong) [] E0 (tCons (tVar 0) (tCons (tVar 3) (tCons (tVar 5) tNil)))) [some v1, some v2, some x, some y, some vh, some q] H10 (nD l) := (evd_call (evds_cons (evd_var rfl (Dpx h1 eHa)) (evds_cons (evd_var rfl (Dpx hy8 e8a)) (evds_cons (evd_var rfl hq') evds_nil))) ⟨W, j, w, rfl, rfl⟩).to (by rw [hlo]; rfl)
          refine d_if1 (b := isMoreL (toldL (labAt L i) (labAt L w)) (here + l)) (et_test (ev_bool (evd_call (evds_cons (told eHa rfl (evd_var rfl (Dpx hx' (e48.trans e8a))) (evd_var rfl hq') hin hwl) (evds_cons (evd_add (evd_var rfl (Dpx hh8 e8a)) elo) evds_nil)) ⟨_, _, rfl, rfl⟩))) (fun hb H11 e11 => ?_) fun hb H11 e11 => ?_
          · refine l_raiseNL (evds_cons (evd_str ev_c) (evds_cons (evd_tup (evds_cons (evd_var rfl (Dpx hx' ((e48.trans e8a).trans e11))) (evds_cons (evd_var rfl (Dpx hy8 (e8a.trans e11))) (evds_cons (evd_var rfl (Dpx hq' e11)) evds_nil))) (by show 3 ≤ 100000; decide)) evds_nil)) fun d H12 e12 f12 => k1 ?_ d H12 ((eHa.trans e11).trans e12) f12
            unfold anyTie
            rw [List.any_eq_true]
            refine ⟨i, List.mem_range.mpr hin, ?_⟩
            rw [List.any_eq_true]
            refine ⟨j, List.mem_range.mpr hjn, ?_⟩
            unfold tieBad
            rw [hc]
            dsimp only
            rw [List.any_eq_true]
            refine ⟨w, hwm, ?_⟩
            rw [hlo]
            exact hb
          · refine ⟨p1, (p2.trans e10).trans e11, _, rfl, take_more hno3 hw ?_⟩
            rw [hlo]
            exact hb
        · obtain ⟨p1, p2, x6', rfl, hno3⟩ := p
          rw [List.length_map, List.take_length] at hno3
          refine fin ((e8.trans p1).trans p2) ?_ _
          unfold tieBad
          rw [hc]
          dsimp only
          exact List.any_eq_false.mpr fun w hw => by rw [hno3 w hw]; exact Bool.false_ne_true
    · obtain ⟨z4, z5, z6, rfl, e5, hno2⟩ := p
      rw [upto_len] at hno2
      refine ⟨_, _, _, _, rfl, e34.trans e5, fun u hu => ?_⟩
      by_cases hui : u = i
      · subst hui
        exact List.any_eq_false.mpr fun v hv => by rw [hno2 v (List.mem_range.mp hv)]; exact Bool.false_ne_true
      · exact hno u (by omega)
  · obtain ⟨x3, x4, x5, x6, rfl, e3, hno⟩ := p
    rw [upto_len] at hno
    refine k0 ?_ H' e3
    unfold anyTie
    exact List.any_eq_false.mpr fun u hu => by rw [hno u (List.mem_range.mp hu)]; exact Bool.false_ne_true
/-! ### ask_downs -/
def badDown : List PyData → Bool → Prop := fun ds b => ∃ (W : Web) (L : List Lab), WebOk W ∧ LabelsOk W.n L ∧ ds = [webD W, labelsD L] ∧ b = anyDown W L
theorem sc_ask_downs : FnScope ["web", "labels", "place", "label", "entry"] ["web", "labels"] (defScope (top 53)) := ⟨rfl, rfl, rfl, by decide +kernel, rfl, by decide +kernel, by decide +kernel⟩
theorem calx_ask_downs (T : Txt w K mg) : CalX P w K mg base 4 "ask_downs" (AskR K "down" badDown) := by
  refine calx_sp T.f_ask_downs T.g_ask_downs sc_ask_downs (fun _ _ _ _ _ _ us hl => match us, hl with | [_, _], _ => rfl) (fun vs H Q E h => by obtain ⟨ds, b, ⟨_, _, _, _, rfl, _⟩, h2, _⟩ := h; exact dps_len h2) fun cdv A outer s H vs Q E hr h => ?_
  obtain ⟨ds, b, ⟨W, L, okW, ok, rfl, rfl⟩, hd, k0, k1⟩ := h
  obtain ⟨v1, v2, rfl, h1, h2⟩ := dps2 hd
  refine ⟨_, (pss_one (ps_for (passes_of rfl) rfl (pi_enumTK (K := K) rfl (by rfl) T.m_enumerate (pa_cons (pv 1) pa_nil)) (pg_tup rfl (pgs_cons (pg_name (i := 2) sc_ask_downs.nd rfl (Or.inl rfl)) (pgs_cons (pg_name (i := 3) sc_ask_downs.nd rfl (Or.inl rfl)) pgs_nil))) (pss_one (ps_for (passes_of rfl) rfl (pi_tupK (K := K) rfl (pv 3)) (pg_name (i := 4) sc_ask_downs.nd rfl (Or.inl rfl)) (pss_one (ps_if (PW.pt (pw_and (pt_cmpR op_ne (pe_ix (ix_tupK (K := K) rfl) (pv 4) pe_int (fun _ _ => rfl)) pe_int (nomark _)) (pw_and1 (pt_not (pt_val (pe_cal (cal_leads_down (K := K) T) hr (by decide) (by rfl) (pa_cons (pv 0) (pa_cons (pv 1) (pa_cons (pv 2) (pa_cons (pv 4) pa_nil)))))))))) (pss_one (ps_raiseNL T rfl hr (takes_of rfl rfl rfl rfl) (pa_cons pe_str (pa_cons (pe_tup (pa_cons (pv 2) (pa_cons (pe_ix (ix_tupK (K := K) rfl) (pv 4) pe_int (fun _ _ => rfl)) pa_nil))) pa_nil)))) pss_nil)))))), ?_⟩
  have most := okW.most
  refine d_for (K := K) (evi_enum (f := labD) (l := L) rfl h2) (Ex.refl _) (fun i σ' H' => ∃ x y z, σ' = [some v1, some v2, x, y, z] ∧ Ex H H' ∧ ∀ v, v < i → downBad W L v = false) (fun H2 e2 => ⟨none, none, none, rfl, e2, fun v hv => absurd hv (Nat.not_lt_zero v)⟩) (fun i σ' H' p => by obtain ⟨_, _, _, _, e, _⟩ := p; exact e) (fun i d x σ' H3 H4 hi p e4 hx => ?_) fun σ' H' p => ?_
  · obtain ⟨x0, y0, z0, rfl, e3, hno⟩ := p
    obtain ⟨l, hl, rfl⟩ := enum_at hi
    have hm := List.mem_of_getElem? hl
    have hil : i < L.length := (List.getElem?_eq_some_iff.mp hl).1
    refine g_tup2 hx fun y1 y2 q1 q2 => ?_
    have e34 := e3.trans e4
    refine d_for (K := K) (G := H4) (evi_var rfl q2) (Ex.refl _) (fun j σ' H' => ∃ z, σ' = [some v1, some v2, some y1, some y2, z] ∧ Ex H4 H' ∧ ∀ e ∈ l.take j, (decide (e.long ≠ 0) && !leadsL W L i e) = false) (fun H5 e5 => ⟨z0, rfl, e5, by simp⟩) (fun i σ' H' p => by obtain ⟨_, _, e, _⟩ := p; exact e) (fun j d2 y σ' H5 H6 hj p e6 hy => ?_) fun σ' H' p => ?_
    · obtain ⟨z1, rfl, e5, hno2⟩ := p
      rw [List.getElem?_map] at hj
      obtain ⟨e, he, rfl⟩ := Option.map_eq_some_iff.mp hj
      have hem := List.mem_of_getElem? he
      have e46 := e5.trans e6
      have eH := e34.trans e46
      refine d_if1 (b := !decide (e.long = 0) && !leadsL W L i e) (et_and (a := !decide (e.long = 0)) (et_test (ev_neN (evd_i1 (evd_var rfl hy)) (evd_cn 0))) fun hz => ?_) (fun hb H7 e7 => ?_) fun hb H7 e7 => ?_
      · have hz' : e.long ≠ 0 := by simpa using hz
        obtain ⟨a, b, u1, u2, ha, hb⟩ := ok.ups l hm e hem hz'
        exact et_not (et_test (ev_bool (evd_call (evds_cons (evd_var rfl (Dpx h1 eH)) (evds_cons (evd_var rfl (Dpx h2 eH)) (evds_cons (evd_var rfl (Dpx q1 e46)) (evds_cons (evd_var rfl hy) evds_nil)))) ⟨W, L, i, b, e, u2, by rw [ok.len]; exact hb, hil, fun l hl => ⟨lab_few ok most hl, lab_nd ok hl⟩, rfl, rfl⟩)))
      · refine l_raiseNL (evds_cons (evd_str ev_c) (evds_cons (evd_tup (evds_cons (evd_var rfl (Dpx q1 (e46.trans e7))) (evds_cons (evd_i0 (evd_var rfl (Dpx hy e7))) evds_nil)) (by show 2 ≤ 100000; decide)) evds_nil)) fun d H8 e8 f8 => k1 ?_ d H8 ((eH.trans e7).trans e8) f8
        unfold anyDown
        rw [List.any_eq_true]
        refine ⟨i, List.mem_range.mpr (by rw [← ok.len]; exact hil), ?_⟩
        unfold downBad
        rw [labAt_of hl, List.any_eq_true]
        refine ⟨e, hem, ?_⟩
        rw [← hb]
        by_cases hz : e.long = 0 <;> simp [hz]
      · refine ⟨_, rfl, e46.trans e7, take_more hno2 he ?_⟩
        rw [← hb]
        by_cases hz : e.long = 0 <;> simp [hz]
    · obtain ⟨z1, rfl, e5, hno2⟩ := p
      rw [List.length_map, List.take_length] at hno2
      refine ⟨_, _, _, rfl, e34.trans e5, fun v hv => ?_⟩
      by_cases hvi : v = i
      · subst hvi
        unfold downBad
        rw [labAt_of hl]
        exact List.any_eq_false.mpr fun e he => by rw [hno2 e he]; exact Bool.false_ne_true
      · exact hno v (by omega)
  · obtain ⟨x0, y0, z0, rfl, e3, hno⟩ := p
    rw [enum_len] at hno
    refine k0 ?_ H' e3
    unfold anyDown
    exact List.any_eq_false.mpr fun v hv => by rw [hno v (by rw [ok.len]; exact List.mem_range.mp hv)]; exact Bool.false_ne_true
/-! ### lets_labels -/
def wordS : Wd → Str
  | .up => "up"
  | .tie => "tie"
  | .down => "down"
def spLets (K : Fg) : Sp := fun vs H Q E => ∃ (W : Web) (L : List Lab), WebOk W ∧ LabelsOk W.n L ∧ DpAll K H vs [webD W, labelsD L] ∧ (wordL W L = none → ∀ v H', Ex H H' → Dp K H' v (.bool true) → Q v H') ∧
  ∀ wd, wordL W L = some wd → ∀ d H', Ex H H' → Faulty H' d (wordS wd) → E (.ref (He.ga K "NoLabels")) (some d) H'
theorem sc_lets_labels : FnScope ["web", "thing"] ["web", "thing"] (defScope (top 54)) := ⟨rfl, rfl, rfl, by decide +kernel, rfl, by decide +kernel, by decide +kernel⟩
theorem calx_lets_labels (T : Txt w K mg) : CalX P w K mg base 5 "lets_labels" (spLets K) := by
  refine calx_sp T.f_lets_labels T.g_lets_labels sc_lets_labels (fun _ _ _ _ _ _ us hl => match us, hl with | [_, _], _ => rfl) (fun vs H Q E h => by obtain ⟨W, L, _, _, h2, _⟩ := h; exact dps_len h2) fun cdv A outer s H vs Q E hr h => ?_
  obtain ⟨W, L, okW, ok, hd, k0, k1⟩ := h
  obtain ⟨v1, v2, rfl, h1, h2⟩ := dps2 hd
  refine ⟨_, (pss_cons (ps_if (pt_not (pt_val (pe_cal (cal_are_labels (K := K) T) hr (by decide) (by rfl) (pa_cons (pe_ix (ix_tupK (K := K) rfl) (pv 0) pe_int (fun _ _ => rfl)) (pa_cons (pv 1) pa_nil))))) (pss_one (ps_raiseNL T rfl hr (takes_of rfl rfl rfl rfl) (pa_cons pe_str (pa_cons pe_non pa_nil)))) pss_nil)
      (pss_cons (ps_expr (pe_cal (cal_ask_own (K := K) T) hr (by decide) (by rfl) (pa_cons (pv 1) pa_nil)))
      (pss_cons (ps_expr (pe_calX (calx_ask_ups (K := K) T) hr (by decide) (by rfl) (passes_call (takes_of rfl rfl rfl rfl) (fun _ _ _ _ h => h)) (pa_cons (pv 0) (pa_cons (pv 1) pa_nil))))
      (pss_cons (ps_expr (pe_calX (calx_ask_ties (K := K) T) hr (by decide) (by rfl) (passes_call (takes_of rfl rfl rfl rfl) (fun _ _ _ _ h => h)) (pa_cons (pv 0) (pa_cons (pv 1) pa_nil))))
      (pss_cons (ps_expr (pe_calX (calx_ask_downs (K := K) T) hr (by decide) (by rfl) (passes_call (takes_of rfl rfl rfl rfl) (fun _ _ _ _ h => h)) (pa_cons (pv 0) (pa_cons (pv 1) pa_nil))))
      (pss_one (ps_ret pe_bl))))))), ?_⟩
  have most := okW.most
  refine d_when (b := !true) (et_not (et_test (ev_bool (evd_call (evds_cons (evd_i0 (evd_var rfl h1)) (evds_cons (evd_var rfl h2) evds_nil)) ⟨W.n, L, by omega, ok.len, fun l hl => lab_ok ok most hl, rfl, rfl⟩)))) (fun z => by cases z) fun _ H1 e1 => ?_
  have args : ∀ {H'} (e : Ex H H'), EvDs K (tCons (tVar 0) (tCons (tVar 1) tNil)) [some v1, some v2] H' [webD W, labelsD L] := fun e => evds_cons (evd_var rfl (Dpx h1 e)) (evds_cons (evd_var rfl (Dpx h2 e)) evds_nil)
  refine d_drop (evd_call (evds_cons (evd_var rfl (Dpx h2 e1)) evds_nil) ⟨W.n, L, most, ok, rfl, rfl⟩) fun H2 e2 => ?_
  have e12 := e1.trans e2
  refine q_ask (b := anyUp W L) (args e12) ⟨W, L, okW, ok, rfl, rfl⟩ (fun b3 H3 e3 => ?_) fun b3 d H3 e3 f3 => k1 .up (by unfold wordL; rw [b3]; rfl) d H3 (e12.trans e3) f3
  have e13 := e12.trans e3
  refine q_ask (b := anyTie W L) (args e13) ⟨W, L, okW, ok, rfl, rfl⟩ (fun b4 H4 e4 => ?_) fun b4 d H4 e4 f4 => k1 .tie (by unfold wordL; rw [b3, b4]; rfl) d H4 (e13.trans e4) f4
  have e14 := e13.trans e4
  refine q_ask (b := anyDown W L) (args e14) ⟨W, L, okW, ok, rfl, rfl⟩ (fun b5 H5 e5 => ?_) fun b5 d H5 e5 f5 => k1 .down (by unfold wordL; rw [b3, b4, b5]; rfl) d H5 (e14.trans e5) f5
  exact d_ret (evd_bool ev_c) fun v H6 e6 d6 => k0 (by unfold wordL; rw [b3, b4, b5]; rfl) v H6 ((e14.trans e5).trans e6) d6
end
end Lw
namespace Lw
open PySem PySem.Spec PyProof.Rows L2 Evl LwM
section
variable {K : Fg} {σ : Ks} {H H' : Hp} {ta tb te tx : TE} {d e : PyData} {ds es : List PyData}
theorem places_vs {H : Hp} {xs : List V} {l : List Nat} (h : DpAll K H xs (l.map nD)) : xs = l.map fun (n : Nat) => V.int (n : Int) := by
  have e : l.map nD = (l.map fun (n : Nat) => (n : Int)).map .int := by rw [List.map_map]; rfl
  rw [e] at h
  rw [dps_ints h, List.map_map]
  rfl
theorem inV_n (a : Nat) (l : List Nat) : inV (.int (a : Int)) (l.map fun (n : Nat) => V.int (n : Int)) = decide (a ∈ l) := by
  unfold inV
  rw [List.any_map, Bool.eq_iff_iff, List.any_eq_true, decide_eq_true_eq]
  constructor
  · rintro ⟨x, hx, h⟩
    have h' : ((x : Int) == (a : Int)) = true := h
    have : x = a := by
      have := eq_of_beq h'
      omega
    rw [← this]
    exact hx
  · intro h
    exact ⟨a, h, beq_self_eq_true (a : Int)⟩
theorem ev_notInN {l : List Nat} {a : Nat} (ha : EvD K ta σ H (nD a)) (hb : EvD K tb σ H (placesD l)) : Ev (tOp (rIn K true) ta tb) σ H (.bl (!decide (a ∈ l))) := fun H1 e Q q =>
  ha H1 e _ fun v H2 e2 d2 => hb H2 (e.trans e2) _ fun v3 H3 e3 d3 => by
    rw [dp_n d2]
    obtain ⟨p, xs, rfl, hs, hd⟩ := dp_tup d3
    have ex := places_vs hd
    subst ex
    refine ⟨p, _, rfl, .inr hs, rfl, ?_, ?_⟩
    · rw [List.all_map]
      exact List.all_eq_true.mpr fun x _ => rfl
    · rw [inV_n]
      exact q H3 (e2.trans e3)
end
section
variable {P : Program} {w : World} {K : Fg} {mg : Str → Option Value} {base : Heap}
/-! ### lies_between, pairs_of, lies_beside -/
def rLies : Rel := fun ds r => ∃ (W : Web) (m u v : Nat), WebOk W ∧ m < W.n ∧ u < W.n ∧ v < W.n ∧ ds = [rowsD W, nD m, nD u, nD v] ∧ r = .bool (bt W m u v)
theorem sc_lies_between : FnScope ["rows", "place", "one", "other"] ["rows", "place", "one", "other"] (defScope (top 25)) := ⟨rfl, rfl, rfl, by decide +kernel, rfl, by decide +kernel, by decide +kernel⟩
theorem cal_lies_between (T : Txt w K mg) : CalD P w K mg base 1 "lies_between" (PureSp K rLies) := by
  refine cal_of T.f_lies_between T.g_lies_between sc_lies_between (fun _ _ _ _ _ _ us hl => match us, hl with | [_, _, _, _], _ => rfl) (fun ds r h => by obtain ⟨_, _, _, _, _, _, _, _, rfl, _⟩ := h; rfl) fun cdv A outer s H vs Q E hr ds r h hd k => ?_
  obtain ⟨W, m, u, v, ok, hm, hu, hv, rfl, rfl⟩ := h
  obtain ⟨v1, v2, v3, v4, rfl, h1, h2, h3, h4⟩ := dps4 hd
  refine ⟨_, (pss_cons (ps_if (PW.pt (pw_or (pt_cmpR op_isN (pe_ix (ix_tupK (K := K) rfl) (pe_ix (ix_tupK (K := K) rfl) (pv 0) (pv 2) (fun _ _ => rfl)) (pv 3) (fun _ _ => rfl)) pe_non (nomark _)) (pw_or1 (pt_cmpR op_isN (pe_ix (ix_tupK (K := K) rfl) (pe_ix (ix_tupK (K := K) rfl) (pv 0) (pv 2) (fun _ _ => rfl)) (pv 1) (fun _ _ => rfl)) pe_non (nomark _))))) (pss_one (ps_ret pe_bl)) pss_nil)
      (pss_one (ps_ret (pe_cmpR op_eq (pe_op op_add (pe_ix (ix_tupK (K := K) rfl) (pe_ix (ix_tupK (K := K) rfl) (pv 0) (pv 2) (fun _ _ => rfl)) (pv 1) (fun _ _ => rfl)) (pe_ix (ix_tupK (K := K) rfl) (pe_ix (ix_tupK (K := K) rfl) (pv 0) (pv 1) (fun _ _ => rfl)) (pv 3) (fun _ _ => rfl))) (pe_ix (ix_tupK (K := K) rfl) (pe_ix (ix_tupK (K := K) rfl) (pv 0) (pv 2) (fun _ _ => rfl)) (pv 3) (fun _ _ => rfl)) (nomark _))))), ?_⟩
  have a1 : ∀ {H'} (e : Ex H H') {σ : Ks}, σ = [some v1, some v2, some v3, some v4] → EvD K (tOp (rIxT K) (tOp (rIxT K) (tVar 0) (tVar 2)) (tVar 3)) σ H' (optD (D W u v)) := fun e σ hs => by subst hs; exact evd_row (evd_rows (evd_var rfl (Dpx h1 e)) (evd_var rfl (Dpx h3 e)) hu) (evd_var rfl (Dpx h4 e)) hv
  have a2 : ∀ {H'} (e : Ex H H') {σ : Ks}, σ = [some v1, some v2, some v3, some v4] → EvD K (tOp (rIxT K) (tOp (rIxT K) (tVar 0) (tVar 2)) (tVar 1)) σ H' (optD (D W u m)) := fun e σ hs => by subst hs; exact evd_row (evd_rows (evd_var rfl (Dpx h1 e)) (evd_var rfl (Dpx h3 e)) hu) (evd_var rfl (Dpx h2 e)) hm
  refine d_when (b := Option.isNone (D W u v) || Option.isNone (D W u m)) (et_or (et_test (ev_isNO (a1 (Ex.refl _) rfl))) fun _ => et_test (ev_isNO (a2 (Ex.refl _) rfl))) (fun hb H1 e1 => ?_) fun hb H1 e1 => ?_
  · have e : bt W m u v = false := by
      cases q : bt W m u v with
      | false => rfl
      | true =>
        obtain ⟨x, y, b1, b2, b3⟩ := bt_iff.mp q
        rw [b1, b3] at hb
        cases hb
    rw [e] at k
    exact d_ret (evd_bool ev_c) fun x H2 e2 d2 => k x H2 (e1.trans e2) d2
  · cases q1 : D W u v with
    | none => rw [q1] at hb; cases hb
    | some z =>
      cases q2 : D W u m with
      | none => rw [q1, q2] at hb; cases hb
      | some x =>
        have hmu : D W m u = some x := by rw [D_symm ok hm hu]; exact q2
        obtain ⟨y, hy, _⟩ := D_tri ok hm hu hmu q1
        have e : bt W m u v = decide (x + y = z) := by
          unfold bt
          rw [q2, hy, q1]
          simp
        rw [e] at k
        refine d_ret (evd_bool (ev_eqN (K := K) (evd_add (a := x) (b := y) ((a2 e1 rfl).to (by rw [q2]; rfl)) ?_) ((a1 e1 rfl).to (by rw [q1]; rfl)))) fun x H2 e2 d2 => k x H2 (e1.trans e2) d2
        exact (evd_row (evd_rows (evd_var rfl (Dpx h1 e1)) (evd_var rfl (Dpx h2 e1)) hm) (evd_var rfl (Dpx h4 e1)) hv).to (by rw [hy]; rfl)
def rPairs : Rel := fun ds r => ∃ (ps : List Nat), ps.length ≤ 100 ∧ ds = [placesD ps] ∧ r = .list ((pairsL ps).map prD)
theorem fz_pr (p : Nat × Nat) : fz (prD p) = true := rfl
theorem fz_prs (l : List (Nat × Nat)) : fzAll (l.map prD) = true := fzAll_iff.mpr fun d hd => by
  obtain ⟨a, _, rfl⟩ := List.mem_map.mp hd
  rfl
theorem sc_pairs_of : FnScope ["places", "found", "k", "other"] ["places"] (defScope (top 27)) := ⟨rfl, rfl, rfl, by decide +kernel, rfl, by decide +kernel, by decide +kernel⟩
theorem cal_pairs_of (T : Txt w K mg) : CalD P w K mg base 1 "pairs_of" (PureSp K rPairs) := by
  refine cal_of T.f_pairs_of T.g_pairs_of sc_pairs_of (fun _ _ _ _ _ _ us hl => match us, hl with | [_], _ => rfl) (fun ds r h => by obtain ⟨_, _, rfl, _⟩ := h; rfl) fun cdv A outer s H vs Q E hr ds r h hd k => ?_
  obtain ⟨ps, few, rfl, rfl⟩ := h
  obtain ⟨v1, rfl, h1⟩ := dps1 hd
  refine ⟨_, (pss_cons (ps_set (i := 1) sc_pairs_of.nd rfl (Or.inl rfl) (pe_lst pa_nil))
      (pss_cons (ps_for PassesOwn.never rfl (pi_range1 rfl T.m_range (pa_cons (pe_callB (call_lenK (K := K) rfl) (by rfl) T.m_len bt_len (pa_cons (pv 0) pa_nil)) pa_nil)) (pg_name (i := 2) sc_pairs_of.nd rfl (Or.inr rfl)) (pss_one (ps_expr (pe_bm PySem.F.plainAttrs_list PySem.F.slot_list_extend PySem.F.type_list_extend mt_extend (pv 1) (pa_cons (pe_lc (own := [("other", 3)]) rfl sc_pairs_of.nd (pi_tupK (K := K) rfl (pe_slice (sl_tupK (K := K) rfl) (pv 0) (po_some (pe_op op_add (pv 2) pe_int)) po_none)) (blkOk_by (N := ["places", "found", "k", "other"]) (sc := defScope (top 27)) (by decide +kernel)) (fun _ _ _ _ _ => (pg_name (i := 3) sc_pairs_of.nd rfl (Or.inl rfl))) (fun _ _ _ _ _ => pts_nil) (fun _ _ _ _ _ => (pe_tup (pa_cons (pe_ix (ix_tupK (K := K) rfl) (pv 0) (pv 2) (fun _ _ => rfl)) (pa_cons (pv 3) pa_nil))))) pa_nil)))))
      (pss_one (ps_ret (pv 1))))), ?_⟩
  refine q_setN (K := K) (ds := []) (evn_lst evds_nil (by decide)) fun p xs H1 np e1 hp dp => ?_
  have el : ∀ {H'} (e : Ex H H') {σ : Ks}, σ[0]? = some (some v1) → Ev (tCB (rLenQ K) (tCons (tVar 0) tNil)) σ H' (.int (ps.length : Int)) := fun e σ hs => by
    have q := ev_lenT (K := K) (evd_var hs (Dpx h1 e))
    rw [List.length_map] at q
    exact q
  refine dq_for (K := K) (G := H) (evi_range (el (Ex.refl _) rfl) (by omega)) e1 (fun i σ' H' => ∃ x2 x3 ys, σ' = [some v1, some (.ref p), x2, x3] ∧ Ex H H' ∧ H' p = some (.lst ys) ∧ DpAll K H' ys (((List.range i).flatMap (pairsK ps)).map prD))
    (fun H3 e3 => ⟨none, none, xs, rfl, e1.trans e3, e3 _ _ hp, by cases dp; exact .nil⟩) (fun i σ' H' q => by obtain ⟨_, _, _, _, e, _⟩ := q; exact e) (fun i d x σ' H3 H4 hi q e4 dx => ?_) fun σ' H' q => ?_
  · obtain ⟨x2, x3, ys, rfl, e3, hy, dy⟩ := q
    have hin : i < ps.length := by
      have := (List.getElem?_eq_some_iff.mp hi).1
      rw [upto_len] at this
      exact this
    rw [upto_at hin] at hi
    cases hi
    have dx' : Dp K H4 x (nD i) := dx
    have e34 := e3.trans e4
    have hgi : ps[i]? = some (ps.getD i 0) := by rw [List.getD_eq_getElem?_getD, List.getElem?_eq_getElem hin]; rfl
    have few2 := pairs_len ps i
    have few3 : i * ps.length ≤ 100 * 100 := Nat.mul_le_mul (by omega) few
    have hsl : ∀ {σ : Ks}, σ[0]? = some (some v1) → σ[2]? = some (some x) → EvD K (tSl (rSlT K) (tVar 0) (tPart (tOp (rI0 fun i j => .int (i + j)) (tVar 2) (tC (.int 1)))) tNoPart) σ H4 (placesD (ps.drop (i + 1))) := fun {σ} s0 s2 => by
      refine (evd_slT (l := some ((i : Int) + 1)) (u := none) (evd_var s0 (Dpx h1 e34)) (evo_some (ev_add (ev_n (K := K) (evd_var s2 dx')) ev_c)) evo_none ?_).to ?_
      · rw [List.length_map, show ((i : Int) + 1) = ((i + 1 : Nat) : Int) by omega, HT.sIx_nat, HT.sIx_none]
        omega
      · unfold cutD placesD
        rw [List.length_map, show ((i : Int) + 1) = ((i + 1 : Nat) : Int) by omega, HT.sIx_nat, HT.sIx_none, List.map_drop]
        rw [Nat.min_eq_left (by omega), List.take_of_length_le (by rw [List.length_drop, List.length_map]; omega)]
    refine l_extend (K := K) (ds := (pairsK ps i).map prD) (e4 _ _ hy) rfl ?_ ?_ fun zs H5 e5 dz => ?_
    · have q := evn_lcB (K := K) (σ := [some v1, some (.ref p), some x, x3]) (H := H4) (g := gName 3) (vs := [3]) (te := tTup (tCons (tOp (rIxT K) (tVar 0) (tVar 2)) (tCons (tVar 3) tNil))) (enc := nD) (l := ps.drop (i + 1)) (fun o => prD (ps.getD i 0, o)) (evj_T (hsl rfl rfl)) (by rw [List.length_drop]; omega) (fun _ _ => rfl) fun o z H5 P ho e5 dz q => q _ rfl (evd_tup (evds_cons (evd_at (f := nD) (evd_var rfl (Dpx h1 (e34.trans e5))) (evd_var rfl (Dpx dx' e5)) hgi) (evds_cons (evd_var rfl dz) evds_nil)) (by show 2 ≤ 100000; decide))
      unfold pairsK
      rw [List.map_map]
      exact q
    · have lp : (pairsK ps i).length ≤ ps.length := by
        unfold pairsK
        rw [List.length_map, List.length_drop]
        omega
      rw [dps_len dy, List.length_map, List.length_map]
      omega
    · refine ⟨_, _, _, rfl, Ex.mut (e34.trans e5) np, upd_same, ?_⟩
      rw [List.range_succ, List.flatMap_append, List.map_append]
      simp only [List.flatMap_cons, List.flatMap_nil, List.append_nil]
      have tk : Tk H5 (upd H5 p (.lst (ys ++ zs))) := tk_updL (e5 _ _ (e4 _ _ hy))
      exact dps_app (Dpst (Dpsx dy (e4.trans e5)) tk (fz_prs _)) (Dpst dz tk (fz_prs _))
  · obtain ⟨x2, x3, ys, rfl, e3, hy, dy⟩ := q
    rw [upto_len] at dy
    exact d_ret (evd_var rfl (dp_locD hy dy)) fun v H4 e4 d4 => k v H4 (e3.trans e4) d4
def rBesideP : Rel := fun ds r => ∃ (W : Web) (ps : List Nat) (m : Nat), WebOk W ∧ ps.length ≤ 100 ∧ (∀ p ∈ ps, p < W.n) ∧ m < W.n ∧ ds = [rowsD W, placesD ps, nD m] ∧ r = .bool (!(pairsL ps).any fun p => bt W m p.1 p.2)
theorem sc_lies_beside : FnScope ["rows", "places", "place", "one", "other"] ["rows", "places", "place"] (defScope (top 26)) := ⟨rfl, rfl, rfl, by decide +kernel, rfl, by decide +kernel, by decide +kernel⟩
theorem cal_lies_beside (T : Txt w K mg) : CalD P w K mg base 2 "lies_beside" (PureSp K rBesideP) := by
  refine cal_of T.f_lies_beside T.g_lies_beside sc_lies_beside (fun _ _ _ _ _ _ us hl => match us, hl with | [_, _, _], _ => rfl) (fun ds r h => by obtain ⟨_, _, _, _, _, _, _, rfl, _⟩ := h; rfl) fun cdv A outer s H vs Q E hr ds r h hd k => ?_
  obtain ⟨W, ps, m, ok, few, hps, hm, rfl, rfl⟩ := h
  obtain ⟨v1, v2, v3, rfl, h1, h2, h3⟩ := dps3 hd
  refine ⟨_, (pss_one (ps_ret (pe_not (pe_callB (cr_anyK (K := K) rfl rfl) (by rfl) T.m_any bt_any (pa_cons (pe_lc (own := [("one", 3), ("other", 4)]) (g := gTup K 2 (gCons (gName 3) (gCons (gName 4) gNil))) rfl sc_lies_beside.nd (pi_listK (K := K) rfl (pe_cal (cal_pairs_of (K := K) T) hr (by decide) (by rfl) (pa_cons (pv 1) pa_nil))) (blkOk_by (N := ["rows", "places", "place", "one", "other"]) (sc := defScope (top 26)) (by decide +kernel)) (fun _ _ _ _ _ => (pg_tup rfl (pgs_cons (pg_name (i := 3) sc_lies_beside.nd rfl (Or.inl rfl)) (pgs_cons (pg_name (i := 4) sc_lies_beside.nd rfl (Or.inl rfl)) pgs_nil)))) (fun _ _ _ _ _ => pts_nil) (fun _ _ _ _ _ => (pe_cal (cal_lies_between (K := K) T) hr (by decide) (by rfl) (pa_cons (pv 0) (pa_cons (pv 2) (pa_cons (pv 3) (pa_cons (pv 4) pa_nil))))))) pa_nil))))), ?_⟩
  have fp : (pairsL ps).length ≤ 100000 := by
    have := pairs_len ps ps.length
    have h2 : ps.length * ps.length ≤ 100 * 100 := Nat.mul_le_mul few few
    unfold pairsL
    omega
  refine d_ret (evd_bool (ev_notV (ev_anyM (K := K) (f := fun p => bt W m p.1 p.2) (l := pairsL ps) (evn_lcB (enc := prD) (l := pairsL ps) (fun p => .bool (bt W m p.1 p.2)) (evj_L (evd_call (evds_cons (evd_var rfl h2) evds_nil) ⟨ps, few, rfl, rfl⟩)) fp (fun _ _ => rfl) fun p x H3 P hp e3 dx q => ?_).toD))) k
  obtain ⟨p1, p2⟩ := pairs_mem hp
  refine g_tup2 dx fun y1 y2 q1 q2 => ?_
  exact q _ rfl (evd_call (evds_cons (evd_var rfl (Dpx h1 e3)) (evds_cons (evd_var rfl (Dpx h3 e3)) (evds_cons (evd_var rfl q1) (evds_cons (evd_var rfl q2) evds_nil)))) ⟨W, m, p.1, p.2, ok, hm, hps _ p1, hps _ p2, rfl, rfl⟩)
/-! ### is_part -/
def rIsPart : Rel := fun ds r => ∃ (W : Web) (ps : List Nat), WebOk W ∧ PartOk W ps ∧ ds = [webD W, placesD ps] ∧ r = .bool true
theorem sc_is_part : FnScope ["web", "thing", "one", "k", "rows", "place"] ["web", "thing"] (defScope (top 28)) := ⟨rfl, rfl, rfl, by decide +kernel, rfl, by decide +kernel, by decide +kernel⟩
theorem cal_is_part (T : Txt w K mg) : CalD P w K mg base 4 "is_part" (PureSp K rIsPart) := by
  refine cal_of T.f_is_part T.g_is_part sc_is_part (fun _ _ _ _ _ _ us hl => match us, hl with | [_, _], _ => rfl) (fun ds r h => by obtain ⟨_, _, _, _, rfl, _⟩ := h; rfl) fun cdv A outer s H vs Q E hr ds r h hd k => ?_
  obtain ⟨W, ps, ok, pk, rfl, rfl⟩ := h
  obtain ⟨v1, v2, rfl, h1, h2⟩ := dps2 hd
  refine ⟨_, (pss_cons (ps_if (PW.pt (pw_or (pt_not (pt_val (pe_callB (call_isiK' (K := K) rfl) (by rfl) T.m_isinstance bt_isinstance (pa_cons (pv 1) (pa_cons (pe_bltn (v := .ty "tuple") (by rfl) T.m_tuple bt_tuple rfl) pa_nil))))) (pw_or1 (pt_cmpR op_eq (pe_callB (call_lenK (K := K) rfl) (by rfl) T.m_len bt_len (pa_cons (pv 1) pa_nil)) pe_int (nomark _))))) (pss_one (ps_ret pe_bl)) pss_nil)
      (pss_cons (ps_if (pt_not (pt_val (pe_callB (cr_allK (K := K) rfl rfl) (by rfl) T.m_all bt_all (pa_cons (pe_lc (own := [("one", 2)]) rfl sc_is_part.nd (pi_tupK (K := K) rfl (pv 1)) (blkOk_by (N := ["web", "thing", "one", "k", "rows", "place"]) (sc := defScope (top 28)) (by decide +kernel)) (fun _ _ _ _ _ => (pg_name (i := 2) sc_is_part.nd rfl (Or.inl rfl))) (fun _ _ _ _ _ => pts_nil) (fun _ _ _ _ _ => (pe_cal (cal_is_number_kinds (K := K) T) hr (by decide) (by rfl) (pa_cons (pv 2) (pa_cons pe_int (pa_cons (pe_op op_sub (pe_ix (ix_tupK (K := K) rfl) (pv 0) pe_int (fun _ _ => rfl)) pe_int) pa_nil)))))) pa_nil)))) (pss_one (ps_ret pe_bl)) pss_nil)
      (pss_cons (ps_if (pt_not (pt_val (pe_callB (cr_allK (K := K) rfl rfl) (by rfl) T.m_all bt_all (pa_cons (pe_lc (own := [("k", 3)]) rfl sc_is_part.nd (pi_range2 rfl T.m_range (pa_cons pe_int (pa_cons (pe_callB (call_lenK (K := K) rfl) (by rfl) T.m_len bt_len (pa_cons (pv 1) pa_nil)) pa_nil))) (blkOk_by (N := ["web", "thing", "one", "k", "rows", "place"]) (sc := defScope (top 28)) (by decide +kernel)) (fun _ _ _ _ _ => (pg_name (i := 3) sc_is_part.nd rfl (Or.inl rfl))) (fun _ _ _ _ _ => pts_nil) (fun _ _ _ _ _ => (pe_cmpR op_lt (pe_ix (ix_tupK (K := K) rfl) (pv 1) (pe_op op_sub (pv 3) pe_int) (fun _ _ => rfl)) (pe_ix (ix_tupK (K := K) rfl) (pv 1) (pv 3) (fun _ _ => rfl)) (nomark _)))) pa_nil)))) (pss_one (ps_ret pe_bl)) pss_nil)
      (pss_cons (ps_set (i := 4) sc_is_part.nd rfl (Or.inr rfl) (pe_cal (cal_lengths (K := K) T) hr (by decide) (by rfl) (pa_cons (pv 0) pa_nil)))
      (pss_one (ps_ret (pe_callB (cr_allK (K := K) rfl rfl) (by rfl) T.m_all bt_all (pa_cons (pe_lc (own := [("place", 5)]) rfl sc_is_part.nd (pi_range1 rfl T.m_range (pa_cons (pe_ix (ix_tupK (K := K) rfl) (pv 0) pe_int (fun _ _ => rfl)) pa_nil)) (blkOk_by (N := ["web", "thing", "one", "k", "rows", "place"]) (sc := defScope (top 28)) (by decide +kernel)) (fun _ _ _ _ _ => (pg_name (i := 5) sc_is_part.nd rfl (Or.inl rfl))) (fun _ _ _ _ _ => (pts_one (pt_cmpR (op_notInK (K := K) rfl) (pv 5) (pv 1) (by rfl)))) (fun _ _ _ _ _ => (pe_cal (cal_lies_beside (K := K) T) hr (by decide) (by rfl) (pa_cons (pv 4) (pa_cons (pv 1) (pa_cons (pv 5) pa_nil)))))) pa_nil)))))))), ?_⟩
  have most := ok.most
  have pl := part_len ok pk
  have pne : ps.length ≠ 0 := fun e => pk.ne (List.eq_nil_of_length_eq_zero e)
  have el : ∀ {H'} (e : Ex H H') {σ : Ks}, σ[1]? = some (some v2) → Ev (tCB (rLenQ K) (tCons (tVar 1) tNil)) σ H' (.int (ps.length : Int)) := fun e σ hs => by
    have q := ev_lenT (K := K) (evd_var hs (Dpx h2 e))
    rw [List.length_map] at q
    exact q
  refine d_when (b := !true || decide ((ps.length : Int) = 0)) (et_or (a := !true) (et_not (et_test (ev_isiTup (evd_var rfl h2)))) fun _ => et_test (ev_eqI (el (Ex.refl _) rfl) ev_c)) (fun z => by rw [decide_eq_false (by omega)] at z; cases z) fun _ H1 e1 => ?_
  refine d_when (b := !true) (et_not (et_test (ev_is (ev_allM (K := K) (f := fun _ => true) (l := ps) (evn_lcB (enc := nD) (l := ps) (fun _ => .bool true) (evi_var rfl (Dpx h2 e1)).j (by omega) (fun _ _ => rfl) fun a x H3 P ha e3 dx q => ?_).toD) (by rw [all_true])))) (fun z => by cases z) fun _ H2 e2 => ?_
  · exact q _ rfl (evd_num (pk.lt a ha) (evd_var rfl dx) ev_c (evd_i0 (evd_var rfl (Dpx h1 (e1.trans e3)))))
  have e12 := e1.trans e2
  refine d_when (b := !true) (et_not (et_test (ev_is (ev_allM (K := K) (f := fun _ => true) (l := List.range (ps.length - 1)) (evn_lcB (enc := fun i => nD (1 + i)) (l := List.range (ps.length - 1)) (fun _ => .bool true) (evi_range2 (a := 1) (n := ps.length) ev_c (el e12 rfl) (by omega) (by omega)).j (by rw [List.length_range]; omega) (fun _ _ => rfl) fun i x H3 P hi e3 dx q => ?_).toD) (by rw [all_true])))) (fun z => by cases z) fun _ H3 e3 => ?_
  · have hi' := List.mem_range.mp hi
    obtain ⟨a, ha⟩ : ∃ a, ps[i]? = some a := ⟨_, List.getElem?_eq_getElem (by omega)⟩
    obtain ⟨b, hb⟩ : ∃ b, ps[1 + i]? = some b := ⟨_, List.getElem?_eq_getElem (by omega)⟩
    have hlt : a < b := (asc_get pk.asc ha hb).mpr (by omega)
    refine q _ rfl (evd_bool (ev_is (ev_ltN (a := a) (b := b) (evd_at (f := nD) (evd_var rfl (Dpx h2 (e12.trans e3))) (evd_sub1 (evd_var rfl dx)) ha) (evd_at (f := nD) (evd_var rfl (Dpx h2 (e12.trans e3))) (evd_var rfl dx) hb)) (by rw [decide_eq_true hlt])))
  · have e13 := e12.trans e3
    refine d_set (evd_call (evds_cons (evd_var rfl (Dpx h1 e13)) evds_nil) ⟨W, ok, rfl, rfl⟩) fun vr H4 e4 hrw => ?_
    have e14 := e13.trans e4
    refine d_ret (evd_bool (ev_is (ev_allM (K := K) (f := fun _ => true) (l := (List.range W.n).filter fun m => !decide (m ∈ ps)) (evn_lcA (enc := nD) (l := List.range W.n) (fun m => !decide (m ∈ ps)) (fun _ => .bool true) (evi_range (ev_n (evd_i0 (evd_var rfl (Dpx h1 e14)))) (by omega)).j (by rw [List.length_range]; omega) (fun _ _ _ => rfl) fun m x H5 P hm e5 dx q => ?_).toD) (by rw [all_true]))) fun v H5 e5 d5 => k v H5 (e14.trans e5) d5
    have e15 := e14.trans e5
    refine q _ rfl (et_test (ev_notInN (evd_var rfl dx) (evd_var rfl (Dpx h2 e15)))) fun hn => ?_
    have hml := List.mem_range.mp hm
    have hnm : m ∉ ps := by simpa using hn
    exact (evd_call (evds_cons (evd_var rfl (Dpx hrw e5)) (evds_cons (evd_var rfl (Dpx h2 e15)) (evds_cons (evd_var rfl dx) evds_nil))) ⟨W, ps, m, ok, by omega, pk.lt, hml, rfl, rfl⟩).to (by rw [part_beside ok pk hml hnm]; rfl)
/-! ### numbers_in -/
def spNumbers (K : Fg) : Sp := fun vs H Q _ => ∃ ps : List Nat, ps.Nodup ∧ ps.length ≤ 1000 ∧ DpAll K H vs [placesD ps] ∧ ∀ p H', H p = none → Ex H H' → Dc H' p (ixO ps) → Q (.ref p) H'
theorem sc_numbers_in : FnScope ["places", "number", "place"] ["places"] (defScope (top 29)) := ⟨rfl, rfl, rfl, by decide +kernel, rfl, by decide +kernel, by decide +kernel⟩
theorem cal_numbers_in (T : Txt w K mg) : CalD P w K mg base 1 "numbers_in" (spNumbers K) := by
  refine cal_sp T.f_numbers_in T.g_numbers_in sc_numbers_in (fun _ _ _ _ _ _ us hl => match us, hl with | [_], _ => rfl) (fun vs H Q E h => by obtain ⟨_, _, _, h, _⟩ := h; exact dps_len h) fun cdv A outer s H vs Q E hr h => ?_
  obtain ⟨ps, nd, few, hd, k⟩ := h
  obtain ⟨v1, rfl, h1⟩ := dps1 hd
  refine ⟨_, (pss_one (ps_ret (pe_callTy (call_dictK (K := K) rfl rfl) (by rfl) T.m_dict bt_dict (pa_cons (pe_lc (own := [("number", 1), ("place", 2)]) (g := gTup K 2 (gCons (gName 1) (gCons (gName 2) gNil))) rfl sc_numbers_in.nd (pi_enumTK (K := K) rfl (by rfl) T.m_enumerate (pa_cons (pv 0) pa_nil)) (blkOk_by (N := ["places", "number", "place"]) (sc := defScope (top 29)) (by decide +kernel)) (fun _ _ _ _ _ => (pg_tup rfl (pgs_cons (pg_name (i := 1) sc_numbers_in.nd rfl (Or.inl rfl)) (pgs_cons (pg_name (i := 2) sc_numbers_in.nd rfl (Or.inl rfl)) pgs_nil)))) (fun _ _ _ _ _ => pts_nil) (fun _ _ _ _ _ => (pe_tup (pa_cons (pv 2) (pa_cons (pv 1) pa_nil))))) pa_nil)))), ?_⟩
  have q : EvK K (tCB (rDictK K) (tCons (tLc (iEnumT K (tCons (tVar 0) tNil)) (gTup K 2 (gCons (gName 1) (gCons (gName 2) gNil))) tYes (tTup (tCons (tVar 2) (tCons (tVar 1) tNil))) [1, 2]) tNil)) [some v1, none, none] H (fun j => (ps.zipIdx.find? fun a => decide (a.1 = j)).map (·.2)) := by
    refine evk_dict (l := ps.zipIdx) (kf := (·.1)) (vf := (·.2)) (evn_lcB (enc := fun p => .tuple [nD p.2, nD p.1]) (l := ps.zipIdx) (fun p => .tuple [nD p.1, nD p.2]) (evi_enum (f := nD) (l := ps) rfl h1).j (by rw [List.length_zipIdx]; omega) (fun _ _ => rfl) fun p x H3 P hp e3 dx q => ?_).toD ?_
    · exact g_tup2 dx fun y1 y2 q1 q2 => q _ rfl (evd_tup (evds_cons (evd_var rfl q2) (evds_cons (evd_var rfl q1) evds_nil)) (by show 2 ≤ 100000; decide))
    · rw [List.zipIdx_map_fst]
      exact nd
  refine q H (Ex.refl _) _ fun p H2 hp e2 hd2 => k p H2 hp e2 ?_
  have e : (fun j => (ps.zipIdx.find? fun a => decide (a.1 = j)).map (·.2)) = ixO ps := funext fun j => zip_ix ps j
  rw [e] at hd2
  exact hd2
theorem q_numbers {K : Fg} {σ : Ks} {H : Hp} {ta : TE} {D : Ends} {tz : TS} {i : Nat} {ps : List Nat} (h : EvD K ta σ H (placesD ps)) (nd : ps.Nodup) (few : ps.length ≤ 1000) (k : ∀ p H1, H p = none → Ex H H1 → Dc H1 p (ixO ps) → tz D (σ.set i (some (.ref p))) H1) :
    tSeq (tAsg (tCall (spNumbers K) [] E0 (tCons ta tNil)) (gName i)) tz D σ H := h H (Ex.refl _) _ fun v H1 e1 d1 => ⟨ps, nd, few, .cons d1 .nil, fun p H2 hp e2 hd => k p H2 (fresh_back e1 hp) (e1.trans e2) hd⟩
/-! ### part_web, part_order -/
def rPartWeb : Rel := fun ds r => ∃ (W : Web) (ps : List Nat), WebOk W ∧ PartOk W ps ∧ ds = [webD W, placesD ps] ∧ r = webD (partWeb W ps)
theorem part_nd {W : Web} {ps : List Nat} (pk : PartOk W ps) : ps.Nodup := pk.asc.imp fun q => Nat.ne_of_lt q
theorem sc_part_web : FnScope ["web", "thing", "numbers", "ties", "a", "b", "long"] ["web", "thing"] (defScope (top 30)) := ⟨rfl, rfl, rfl, by decide +kernel, rfl, by decide +kernel, by decide +kernel⟩
theorem cal_part_web (T : Txt w K mg) : CalD P w K mg base 5 "part_web" (PureSp K rPartWeb) := by
  refine cal_of T.f_part_web T.g_part_web sc_part_web (fun _ _ _ _ _ _ us hl => match us, hl with | [_, _], _ => rfl) (fun ds r h => by obtain ⟨_, _, _, _, rfl, _⟩ := h; rfl) fun cdv A outer s H vs Q E hr ds r h hd k => ?_
  obtain ⟨W, ps, ok, pk, rfl, rfl⟩ := h
  obtain ⟨v1, v2, rfl, h1, h2⟩ := dps2 hd
  refine ⟨_, (pss_cons (ps_if (pt_not (pt_val (pe_cal (cal_is_part (K := K) T) hr (by decide) (by rfl) (pa_cons (pv 0) (pa_cons (pv 1) pa_nil))))) (pss_one ps_never) pss_nil)
      (pss_cons (ps_set (i := 2) sc_part_web.nd rfl (Or.inr rfl) (pe_cal (cal_numbers_in (K := K) T) hr (by decide) (by rfl) (pa_cons (pv 1) pa_nil)))
      (pss_cons (ps_setLc (i := 3) (own := [("a", 4), ("b", 5), ("long", 6)]) (g := gTup K 3 (gCons (gName 4) (gCons (gName 5) (gCons (gName 6) gNil)))) rfl sc_part_web.nd rfl rfl (sw_true rfl rfl rfl (by decide +kernel)) (pi_tupK (K := K) rfl (pe_ix (ix_tupK (K := K) rfl) (pv 0) pe_int (fun _ _ => rfl))) (blkOk_by (N := ["web", "thing", "numbers", "ties", "a", "b", "long"]) (sc := defScope (top 30)) (by decide +kernel)) (fun _ _ _ _ _ => (pg_tup rfl (pgs_cons (pg_name (i := 4) sc_part_web.nd rfl (Or.inl rfl)) (pgs_cons (pg_name (i := 5) sc_part_web.nd rfl (Or.inl rfl)) (pgs_cons (pg_name (i := 6) sc_part_web.nd rfl (Or.inl rfl)) pgs_nil))))) (fun _ _ _ _ _ => (pts_one (PW.pt (pw_and (pt_cmp (pc_din (hu_of hr) (pv 4) (pv 2))) (pw_and1 (pt_cmp (pc_din (hu_of hr) (pv 5) (pv 2)))))))) (fun _ _ _ _ _ => (pe_tup (pa_cons (pv 4) (pa_cons (pv 5) (pa_cons (pv 6) pa_nil))))))
      (pss_one (ps_ret (pe_tup (pa_cons (pe_callB (call_lenK (K := K) rfl) (by rfl) T.m_len bt_len (pa_cons (pv 1) pa_nil)) (pa_cons (pe_callTy (call_tupK (K := K) rfl) (by rfl) T.m_tuple bt_tuple (pa_cons (pe_lc (own := [("a", 4), ("b", 5), ("long", 6)]) (g := gTup K 3 (gCons (gName 4) (gCons (gName 5) (gCons (gName 6) gNil)))) rfl sc_part_web.nd (pi_listK (K := K) rfl (pv 3)) (blkOk_by (N := ["web", "thing", "numbers", "ties", "a", "b", "long"]) (sc := defScope (top 30)) (by decide +kernel)) (fun _ _ _ _ _ => (pg_tup rfl (pgs_cons (pg_name (i := 4) sc_part_web.nd rfl (Or.inl rfl)) (pgs_cons (pg_name (i := 5) sc_part_web.nd rfl (Or.inl rfl)) (pgs_cons (pg_name (i := 6) sc_part_web.nd rfl (Or.inl rfl)) pgs_nil))))) (fun _ _ _ _ _ => pts_nil) (fun _ _ _ _ _ => (pe_tup (pa_cons (pe_dget (hu_of hr) (pv 2) (pv 4) (fun _ _ => rfl)) (pa_cons (pe_dget (hu_of hr) (pv 2) (pv 5) (fun _ _ => rfl)) (pa_cons (pv 6) pa_nil)))))) pa_nil)) pa_nil)))))))), ?_⟩
  have most := ok.most
  have few := ok.few
  have pl := part_len ok pk
  refine d_when (b := !true) (et_not (et_test (ev_bool (evd_call (evds_cons (evd_var rfl h1) (evds_cons (evd_var rfl h2) evds_nil)) ⟨W, ps, ok, pk, rfl, rfl⟩)))) (fun z => by cases z) fun _ H1 e1 => ?_
  refine q_numbers (evd_var rfl (Dpx h2 e1)) (part_nd pk) (by omega) fun p H2 np e2 hp => ?_
  have e12 := e1.trans e2
  refine q_setN (K := K) (ds := (partTies W ps).map tieD) (evn_lcA (enc := tieD) (l := W.ties) (fun t => inB ps t.1 && inB ps t.2.1) tieD (evi_item rfl (Dpx h1 e12) ixD1).j (by omega) (fun _ _ _ => rfl) fun t x H3 P ht e3 dx q => ?_) fun tp xs H3 np3 e3 h3 d3 => ?_
  · refine g_tup3 dx fun y1 y2 y3 q1 q2 q3 => ?_
    refine q _ rfl (et_and (a := inB ps t.1) (et_test (ev_is (ev_din rfl (hp.mono e3) (evd_var rfl q1)) (by rw [ixO_some]))) fun _ => et_test (ev_is (ev_din rfl (hp.mono e3) (evd_var rfl q2)) (by rw [ixO_some]))) fun _ => evd_tup (evds_cons (evd_var rfl q1) (evds_cons (evd_var rfl q2) (evds_cons (evd_var rfl q3) evds_nil))) (by show 3 ≤ 100000; decide)
  · have e13 := e12.trans e3
    have fl : (partTies W ps).length ≤ 60 := Nat.le_trans (List.length_filter_le _ _) few
    refine d_ret (evd_tup (evds_cons (d := nD ps.length) ?_ (evds_cons (evd_tupL (evn_lcB (enc := tieD) (l := partTies W ps) (fun t => tieD (ixOf ps t.1, ixOf ps t.2.1, t.2.2)) (evi_varL rfl (dp_locD h3 d3)).j (by omega) (fun _ _ => rfl) fun t x H4 P ht e4 dx q => ?_).toD) evds_nil)) (by show 2 ≤ 100000; decide)) fun v H4 e4 d4 => k v H4 (e13.trans e4) ?_
    · have q := ev_lenT (K := K) (evd_var (σ := [some v1, some v2, some (.ref p), some (.ref tp), none, none, none]) (i := 1) rfl (Dpx h2 e13))
      rw [List.length_map] at q
      exact evd_int q
    · obtain ⟨_, m2⟩ := List.mem_filter.mp ht
      obtain ⟨m3, m4⟩ := Bool.and_eq_true_iff.mp m2
      refine g_tup3 dx fun y1 y2 y3 q1 q2 q3 => ?_
      have e34 := e3.trans e4
      exact q _ rfl (evd_tup (evds_cons (evd_dget rfl (hp.mono e34) (evd_var rfl q1) (ixO_in (of_decide_eq_true m3))) (evds_cons (evd_dget rfl (hp.mono e34) (evd_var rfl q2) (ixO_in (of_decide_eq_true m4))) (evds_cons (evd_var rfl q3) evds_nil))) (by show 3 ≤ 100000; decide))
    · have e : webD (partWeb W ps) = .tuple [nD ps.length, .tuple ((partTies W ps).map fun t => tieD (ixOf ps t.1, ixOf ps t.2.1, t.2.2))] := by
        unfold webD partWeb tiesD
        rw [List.map_map]
        rfl
      rw [e]
      exact d4
def rPartOrder : Rel := fun ds r => ∃ (ord ps : List Nat), ord.length ≤ 1000 ∧ ps.Nodup ∧ ps.length ≤ 1000 ∧ ds = [placesD ord, placesD ps] ∧ r = placesD (partOrd ord ps)
theorem sc_part_order : FnScope ["order", "places", "numbers", "place"] ["order", "places"] (defScope (top 31)) := ⟨rfl, rfl, rfl, by decide +kernel, rfl, by decide +kernel, by decide +kernel⟩
theorem cal_part_order (T : Txt w K mg) : CalD P w K mg base 2 "part_order" (PureSp K rPartOrder) := by
  refine cal_of T.f_part_order T.g_part_order sc_part_order (fun _ _ _ _ _ _ us hl => match us, hl with | [_, _], _ => rfl) (fun ds r h => by obtain ⟨_, _, _, _, _, rfl, _⟩ := h; rfl) fun cdv A outer s H vs Q E hr ds r h hd k => ?_
  obtain ⟨ord, ps, fo, nd, few, rfl, rfl⟩ := h
  obtain ⟨v1, v2, rfl, h1, h2⟩ := dps2 hd
  refine ⟨_, (pss_cons (ps_set (i := 2) sc_part_order.nd rfl (Or.inr rfl) (pe_cal (cal_numbers_in (K := K) T) hr (by decide) (by rfl) (pa_cons (pv 1) pa_nil)))
      (pss_one (ps_ret (pe_callTy (call_tupK (K := K) rfl) (by rfl) T.m_tuple bt_tuple (pa_cons (pe_lc (own := [("place", 3)]) rfl sc_part_order.nd (pi_tupK (K := K) rfl (pv 0)) (blkOk_by (N := ["order", "places", "numbers", "place"]) (sc := defScope (top 31)) (by decide +kernel)) (fun _ _ _ _ _ => (pg_name (i := 3) sc_part_order.nd rfl (Or.inl rfl))) (fun _ _ _ _ _ => (pts_one (pt_cmp (pc_din (hu_of hr) (pv 3) (pv 2))))) (fun _ _ _ _ _ => (pe_dget (hu_of hr) (pv 2) (pv 3) (fun _ _ => rfl)))) pa_nil))))), ?_⟩
  refine q_numbers (evd_var rfl h2) nd few fun p H2 np e2 hp => ?_
  refine d_ret (evd_tupL (evn_lcA (enc := nD) (l := ord) (inB ps) (fun a => nD (ixOf ps a)) (evi_var rfl (Dpx h1 e2)).j (by omega) (fun _ _ _ => rfl) fun a x H3 P ha e3 dx q => ?_).toD) fun v H4 e4 d4 => k v H4 (e2.trans e4) ?_
  · exact q _ rfl (et_test (ev_is (ev_din rfl (hp.mono e3) (evd_var rfl dx)) (by rw [ixO_some]))) fun hb => evd_dget rfl (hp.mono e3) (evd_var rfl dx) (ixO_in (of_decide_eq_true hb))
  · have e : placesD (partOrd ord ps) = .tuple ((ord.filter (inB ps)).map fun a => nD (ixOf ps a)) := by
      unfold placesD partOrd
      rw [List.map_map]
      rfl
    rw [e]
    exact d4
/-! ### cut_entry, cut_down -/
def spCutE (K : Fg) : Sp := fun vs H Q _ => ∃ (d : Addr) (x : V) (e : Ent) (ps : List Nat), vs = [.ref d, x] ∧ Dc H d (ixO ps) ∧ Dp K H x (entD e) ∧ e.hub ∈ ps ∧ (e.long ≠ 0 → ∃ a b, e.up = some a ∧ e.down = some b ∧ a ∈ ps ∧ b ∈ ps) ∧ ∀ v H', Ex H H' → Dp K H' v (entD (cutEnt ps e)) → Q v H'
theorem g_asg4 {D : Ends} {tz : TS} {K : Fg} {σ : Ks} {H : Hp} {te : TE} {i j l m : Nat} {a b c d : PyData} (h : EvD K te σ H (.tuple [a, b, c, d])) (k : ∀ x y z u H1, Ex H H1 → Dp K H1 x a → Dp K H1 y b → Dp K H1 z c → Dp K H1 u d → tz D ((((σ.set i (some x)).set j (some y)).set l (some z)).set m (some u)) H1) :
    tSeq (tAsg te (gTup K 4 (gCons (gName i) (gCons (gName j) (gCons (gName l) (gCons (gName m) gNil)))))) tz D σ H := h H (Ex.refl _) _ fun v H1 e1 d1 => g_tup4 d1 fun x y z u q1 q2 q3 q4 => k x y z u H1 e1 q1 q2 q3 q4
theorem sc_cut_entry : FnScope ["numbers", "entry", "hub", "long", "up", "down"] ["numbers", "entry"] (defScope (top 32)) := ⟨rfl, rfl, rfl, by decide +kernel, rfl, by decide +kernel, by decide +kernel⟩
theorem cal_cut_entry (T : Txt w K mg) : CalD P w K mg base 1 "cut_entry" (spCutE K) := by
  refine cal_sp T.f_cut_entry T.g_cut_entry sc_cut_entry (fun _ _ _ _ _ _ us hl => match us, hl with | [_, _], _ => rfl) (fun vs H Q E h => by obtain ⟨_, _, _, _, rfl, _⟩ := h; rfl) fun cdv A outer s H vs Q E hr h => ?_
  obtain ⟨d, v2, e, ps, rfl, hd, h2, hh, hup, k⟩ := h
  refine ⟨_, (pss_cons (ps_asg (pv 1) (pg_tup rfl (pgs_cons (pg_name (i := 2) sc_cut_entry.nd rfl (Or.inl rfl)) (pgs_cons (pg_name (i := 3) sc_cut_entry.nd rfl (Or.inl rfl)) (pgs_cons (pg_name (i := 4) sc_cut_entry.nd rfl (Or.inl rfl)) (pgs_cons (pg_name (i := 5) sc_cut_entry.nd rfl (Or.inl rfl)) pgs_nil))))))
      (pss_cons (ps_if (pt_cmpR op_eq (pv 3) pe_int (nomark _)) (pss_one (ps_ret (pe_tup (pa_cons (pe_dget (hu_of hr) (pv 0) (pv 2) (fun _ _ => rfl)) (pa_cons pe_int (pa_cons pe_non (pa_cons pe_non pa_nil))))))) pss_nil)
      (pss_one (ps_ret (pe_tup (pa_cons (pe_dget (hu_of hr) (pv 0) (pv 2) (fun _ _ => rfl)) (pa_cons (pv 3) (pa_cons (pe_dget (hu_of hr) (pv 0) (pv 4) (fun _ _ => rfl)) (pa_cons (pe_dget (hu_of hr) (pv 0) (pv 5) (fun _ _ => rfl)) pa_nil))))))))), ?_⟩
  refine g_asg4 (K := K) (evd_var rfl h2) fun x y z u H1 e1 q1 q2 q3 q4 => ?_
  have hd1 := hd.mono e1
  refine d_when (b := decide (e.long = 0)) (et_test (ev_eqN (evd_var rfl q2) (evd_cn 0))) (fun hz H2 e2 => ?_) fun hz H2 e2 => ?_
  · rw [decide_eq_true_eq] at hz
    have ec : cutEnt ps e = ⟨ixOf ps e.hub, 0, none, none⟩ := if_pos hz
    rw [ec] at k
    exact d_ret (evd_tup (evds_cons (evd_dget rfl (hd1.mono e2) (evd_var rfl (Dpx q1 e2)) (ixO_in hh)) (evds_cons (evd_cn 0) (evds_cons (evd_non (K := K)) (evds_cons (evd_non (K := K)) evds_nil)))) (by show 4 ≤ 100000; decide)) fun v H3 e3 d3 => k v H3 ((e1.trans e2).trans e3) d3
  · rw [decide_eq_false_iff_not] at hz
    obtain ⟨a, b, u1, u2, ha, hb⟩ := hup hz
    have ec : cutEnt ps e = ⟨ixOf ps e.hub, e.long, some (ixOf ps a), some (ixOf ps b)⟩ := by
      unfold cutEnt
      rw [if_neg hz, u1, u2]
      rfl
    rw [ec] at k
    rw [u1] at q3
    rw [u2] at q4
    have q3' : Dp K H1 z (nD a) := q3
    have q4' : Dp K H1 u (nD b) := q4
    exact d_ret (evd_tup (evds_cons (evd_dget rfl (hd1.mono e2) (evd_var rfl (Dpx q1 e2)) (ixO_in hh)) (evds_cons (evd_var rfl (Dpx q2 e2)) (evds_cons (evd_dget rfl (hd1.mono e2) (evd_var rfl (Dpx q3' e2)) (ixO_in ha)) (evds_cons (evd_dget rfl (hd1.mono e2) (evd_var rfl (Dpx q4' e2)) (ixO_in hb)) evds_nil)))) (by show 4 ≤ 100000; decide)) fun v H3 e3 d3 => k v H3 ((e1.trans e2).trans e3) d3
def rCutDown : Rel := fun ds r => ∃ (L : List Lab) (ps : List Nat), ps.Nodup ∧ ps.length ≤ 1000 ∧ (∀ p ∈ ps, ∃ l, L[p]? = some l ∧ l.length ≤ 1000 ∧ ∀ e ∈ l, e.hub ∈ ps → e.long ≠ 0 → ∃ a b, e.up = some a ∧ e.down = some b ∧ a ∈ ps ∧ b ∈ ps) ∧ ds = [labelsD L, placesD ps] ∧ r = labelsD (cutDown L ps)
theorem sc_cut_down : FnScope ["labels", "places", "numbers", "found", "place", "entry"] ["labels", "places"] (defScope (top 33)) := ⟨rfl, rfl, rfl, by decide +kernel, rfl, by decide +kernel, by decide +kernel⟩
theorem cal_cut_down (T : Txt w K mg) : CalD P w K mg base 2 "cut_down" (PureSp K rCutDown) := by
  refine cal_of T.f_cut_down T.g_cut_down sc_cut_down (fun _ _ _ _ _ _ us hl => match us, hl with | [_, _], _ => rfl) (fun ds r h => by obtain ⟨_, _, _, _, _, rfl, _⟩ := h; rfl) fun cdv A outer s H vs Q E hr ds r h hd k => ?_
  obtain ⟨L, ps, nd, few, hL, rfl, rfl⟩ := h
  obtain ⟨v1, v2, rfl, h1, h2⟩ := dps2 hd
  refine ⟨_, (pss_cons (ps_set (i := 2) sc_cut_down.nd rfl (Or.inr rfl) (pe_cal (cal_numbers_in (K := K) T) hr (by decide) (by rfl) (pa_cons (pv 1) pa_nil)))
      (pss_cons (ps_set (i := 3) sc_cut_down.nd rfl (Or.inl rfl) (pe_lst pa_nil))
      (pss_cons (ps_for PassesOwn.never rfl (pi_tupK (K := K) rfl (pv 1)) (pg_name (i := 4) sc_cut_down.nd rfl (Or.inl rfl)) (pss_one (ps_expr (pe_bm PySem.F.plainAttrs_list PySem.F.slot_list_append PySem.F.type_list_append mt_append (pv 3) (pa_cons (pe_callTy (call_tupK (K := K) rfl) (by rfl) T.m_tuple bt_tuple (pa_cons (pe_lc (own := [("entry", 5)]) rfl sc_cut_down.nd (pi_tupK (K := K) rfl (pe_ix (ix_tupK (K := K) rfl) (pv 0) (pv 4) (fun _ _ => rfl))) (blkOk_by (N := ["labels", "places", "numbers", "found", "place", "entry"]) (sc := defScope (top 33)) (by decide +kernel)) (fun _ _ _ _ _ => (pg_name (i := 5) sc_cut_down.nd rfl (Or.inl rfl))) (fun _ _ _ _ _ => (pts_one (pt_cmp (pc_din (hu_of hr) (pe_ix (ix_tupK (K := K) rfl) (pv 5) pe_int (fun _ _ => rfl)) (pv 2))))) (fun _ _ _ _ _ => (pe_cal (cal_cut_entry (K := K) T) hr (by decide) (by rfl) (pa_cons (pv 2) (pa_cons (pv 5) pa_nil))))) pa_nil)) pa_nil)))))
      (pss_one (ps_ret (pe_callTy (call_tupK (K := K) rfl) (by rfl) T.m_tuple bt_tuple (pa_cons (pv 3) pa_nil))))))), ?_⟩
  refine q_numbers (evd_var rfl h2) nd few fun p H1 np e1 hp => ?_
  refine q_setN (K := K) (ds := []) (evn_lst evds_nil (by decide)) fun f xs H2 nf e2 hf df => ?_
  have e12 := e1.trans e2
  have d1 := Dpx h1 e1
  have d2 := Dpx h2 e1
  have fzl : ∀ l : List Lab, fzAll (l.map labD) = true := fun l => fzAll_iff.mpr fun d hd => by
    obtain ⟨a, _, rfl⟩ := List.mem_map.mp hd
    exact fz_lab a
  refine dq_for (K := K) (G := H1) (evi_var rfl d2) e2 (fun i σ' H' => ∃ x4 x5 ys, σ' = [some v1, some v2, some (.ref p), some (.ref f), x4, x5] ∧ Ex H1 H' ∧ H' f = some (.lst ys) ∧ DpAll K H' ys (((ps.take i).map fun q => cutLab ps (labAt L q)).map labD))
    (fun H3 e3 => ⟨none, none, xs, rfl, e2.trans e3, e3 _ _ hf, by cases df; exact .nil⟩) (fun i σ' H' q => by obtain ⟨_, _, _, _, e, _⟩ := q; exact e) (fun i d x σ' H3 H4 hi q e4 dx => ?_) fun σ' H' q => ?_
  · obtain ⟨x4, x5, ys, rfl, e3, hy, dy⟩ := q
    rw [List.getElem?_map] at hi
    obtain ⟨q, hq, rfl⟩ := Option.map_eq_some_iff.mp hi
    have hqm := List.mem_of_getElem? hq
    obtain ⟨l, hl, fl, hup⟩ := hL q hqm
    have e34 := e3.trans e4
    have el := labAt_of hl
    refine l_append (K := K) (d := labD (cutLab ps l)) (e4 _ _ hy) rfl (evd_tupL (evn_lcA (enc := entD) (l := l) (fun e => inB ps e.hub) (fun e => entD (cutEnt ps e)) (evj_T (evd_at (f := labD) (evd_var rfl (Dpx d1 e34)) (evd_var rfl dx) hl)) (by omega) (fun _ _ _ => fz_ent _) fun e z H5 P he e5 dz qq => ?_).toD |>.to ?_) ?_ fun v H5 e5 d5 => ?_
    · refine qq _ rfl (et_test (ev_is (ev_din rfl (hp.mono (e34.trans e5)) (evd_i0 (evd_var rfl dz))) (by rw [ixO_some]))) fun hb => ?_
      have hh : e.hub ∈ ps := of_decide_eq_true hb
      exact fun H6 e6 Q' q' => ⟨_, rfl, _, rfl, p, z, e, ps, rfl, (hp.mono (e34.trans e5)).mono e6, Dpx dz e6, hh, hup e he hh, fun v H7 e7 d7 => q' v H7 e7 d7⟩
    · unfold labD cutLab
      rw [List.map_map]
      rfl
    · rw [dps_len dy, List.length_map, List.length_map, List.length_take]
      omega
    · refine ⟨_, _, _, rfl, Ex.mut (e34.trans e5) nf, upd_same, ?_⟩
      have tk : Tk H5 (upd H5 f (.lst (ys ++ [v]))) := tk_updL (e5 _ _ (e4 _ _ hy))
      rw [List.take_add_one, hq, Option.toList_some, List.map_append, List.map_append]
      refine dps_app (Dpst (Dpsx dy (e4.trans e5)) tk (fzl _)) (.cons (Dpt ?_ tk (fz_lab _)) .nil)
      show Dp K H5 v (labD (cutLab ps (labAt L q)))
      rw [el]
      exact d5
  · obtain ⟨x4, x5, ys, rfl, e3, hy, dy⟩ := q
    rw [List.length_map, List.take_length] at dy
    exact d_ret (evd_tupL (evd_var rfl (dp_locD hy dy))) fun v H4 e4 d4 => k v H4 ((e1.trans e3).trans e4) d4
end
end Lw
namespace Lw
open PySem PySem.Spec PyProof.Rows L2 Evl LwM SX
/-! ### texts -/
def strD (l : List Nat) : PyData := .str (S l)
theorem s_dash : (Str.ofString "-") = S [45] := by decide +kernel
theorem s_colon : (Str.ofString ":") = S [58] := by decide +kernel
theorem s_blank : (Str.ofString " ") = S [32] := by decide +kernel
theorem s_semi : (Str.ofString "; ") = S [59, 32] := by decide +kernel
theorem s_label : (Str.ofString "label") = S cLabel := by decide +kernel
theorem s_web : (Str.ofString "web") = S cWeb := by decide +kernel
theorem s_tie : (Str.ofString "tie") = S cTie := by decide +kernel
theorem s_webB : (Str.ofString "web ") = S (cWeb ++ [32]) := by decide +kernel
theorem s_tieB : (Str.ofString "tie ") = S (cTie ++ [32]) := by decide +kernel
theorem s_zero : (Str.ofString "0") = S [48] := by decide +kernel
theorem s_figs : (Str.ofString "0123456789") = S [48, 49, 50, 51, 52, 53, 54, 55, 56, 57] := by decide +kernel
section
variable {K : Fg} {σ : Ks} {H H' : Hp} {ta tb te tx : TE} {d e : PyData} {ds es : List PyData}
theorem fz_str (l : List Nat) : fz (strD l) = true := rfl
theorem fz_strs (l : List (List Nat)) : fzAll (l.map strD) = true := fzAll_iff.mpr fun d hd => by
  obtain ⟨a, _, rfl⟩ := List.mem_map.mp hd
  rfl
theorem evd_S {l : List Nat} (h : Ev te σ H (.str (S l))) : EvD K te σ H (strD l) := evd_str h
theorem ev_S {l : List Nat} (h : EvD K te σ H (strD l)) : Ev te σ H (.str (S l)) := ev_str h
theorem dp_S {v : V} {l : List Nat} (h : Dp K H v (strD l)) : v = .str (S l) := dp_str h
theorem dps_S {vs : List V} {l : List (List Nat)} (h : DpAll K H vs (l.map strD)) : vs = (l.map S).map V.str := by
  have e : l.map strD = (l.map S).map .str := by rw [List.map_map]; rfl
  rw [e] at h
  exact dps_strs h
theorem S_dps (l : List (List Nat)) : DpAll K H ((l.map S).map V.str) (l.map strD) := by
  have e : l.map strD = (l.map S).map .str := by rw [List.map_map]; rfl
  rw [e]
  exact strs_dps _
theorem ev_cS {x : Str} {l : List Nat} (e : x = S l) : Ev (tC (.str x)) σ H (.str (S l)) := e ▸ ev_c
theorem evd_cS {x : Str} {l : List Nat} (e : x = S l) : EvD K (tC (.str x)) σ H (strD l) := evd_S (ev_cS e)
/-! len of a text -/
def rLenX (K : Fg) : List V → Hp → VK → Prop := fun xs H Q => ∃ x n, xs = [x] ∧ LenV K x H n ∧ Q (.int n) H
theorem call_lenX {X : Cx} {K : Fg} (h : X.K = K) : CallR X (.builtin "len") (rLenX K) := h ▸ call_len
theorem ev_lenS {l : List Nat} (ha : EvD K ta σ H (strD l)) (hl : l.length ≤ 100000) : Ev (tCB (rLenX K) (tCons ta tNil)) σ H (.int (l.length : Int)) := fun H1 e Q q =>
  ha H1 e _ fun v H2 e2 d2 => by
    rw [dp_S d2]
    exact ⟨_, l.length, rfl, ⟨by rw [S_len]; exact sz_of hl, (S_len l).symm⟩, q H2 e2⟩
/-! the signs of a text -/
theorem evi_signs {l : List Nat} {i : Nat} {v : V} (h : σ[i]? = some (some v)) (hd : Dp K H v (strD l)) : EvI K (iStr (tVar i)) σ H (l.map fun c => strD [c]) := fun H1 e R k => by
  have ev := dp_S hd
  subst ev
  refine ⟨_, h, S l, rfl, k _ H1 (Ex.refl _) ?_⟩
  have hsz : (S l).cps.size = (l.map fun c => strD [c]).length := by simp
  rw [← hsz]
  refine walk_str.mono (fun _ _ => trivial) fun j H3 x H4 hj g y => ?_
  obtain ⟨rfl, c, hc, rfl⟩ := y
  refine ⟨Ex.refl _, strD [c], ?_, .str _⟩
  rw [List.getElem?_map]
  have : l[j]? = some c := by simpa using hc
  rw [this]
  rfl
def rInSign : R2 := fun x y H Q => ∃ (c : Nat) (z : Str), x = .str ⟨#[c]⟩ ∧ y = .str z ∧ Q (.bl (decide (c ∈ z.cps.toList))) H
theorem op_inSign {X : Cx} : OpR X (compareOp .In) rInSign := op_in_sign
theorem ev_inSign {c : Nat} {z : List Nat} (ha : EvD K ta σ H (strD [c])) (hb : Ev tb σ H (.str (S z))) : Ev (tOp rInSign ta tb) σ H (.bl (decide (c ∈ z))) := fun H1 e Q q =>
  ha H1 e _ fun v H2 e2 d2 => hb H2 (e.trans e2) _ fun H3 e3 => by
    rw [dp_S d2]
    exact ⟨c, S z, rfl, rfl, q H3 (e2.trans e3)⟩
/-! word[0] -/
theorem evd_sign0 {c : Nat} {l : List Nat} (ha : EvD K ta σ H (strD (c :: l))) (hl : (c :: l).length ≤ 100000) : EvD K (tOp rIxS ta (tC (.int 0))) σ H (strD [c]) := fun H1 e Q q =>
  ha H1 e _ fun v H2 e2 d2 => by
    rw [dp_S d2]
    exact ⟨S (c :: l), 0, c, rfl, rfl, by rw [S_len]; exact sz_of hl, atI_nat (j := 0) rfl, q _ H2 e2 (.str _)⟩
theorem ev_eqT {a b : List Nat} (ha : EvD K ta σ H (strD a)) (hb : EvD K tb σ H (strD b)) : Ev (tOp rEq ta tb) σ H (.bl (decide (a = b))) := by
  have h := ev_eqS (ev_S ha) (ev_S hb)
  have e : decide (S a = S b) = decide (a = b) := decide_eq_decide.mpr ⟨S_inj, fun q => by rw [q]⟩
  rw [e] at h
  exact h
theorem ev_neT {a b : List Nat} (ha : EvD K ta σ H (strD a)) (hb : EvD K tb σ H (strD b)) : Ev (tOp rNe ta tb) σ H (.bl (!decide (a = b))) := by
  have h := ev_neS (ev_S ha) (ev_S hb)
  have e : decide (S a = S b) = decide (a = b) := decide_eq_decide.mpr ⟨S_inj, fun q => by rw [q]⟩
  rw [e] at h
  exact h
/-! int, str -/
def rIntS : List V → Hp → VK → Prop := fun xs H Q => ∃ a n, xs = [.str a] ∧ PySem.intText? a = some n ∧ a.length ≤ 640 ∧ Q (.int n) H
theorem call_intS {X : Cx} : CallR X (.type "int") rIntS := call_int_str
theorem evd_intS {n : Nat} (ha : EvD K ta σ H (strD (TL.numL n))) (hn : n ≤ 9999) : EvD K (tCB rIntS (tCons ta tNil)) σ H (nD n) := fun H1 e Q q =>
  ha H1 e _ fun v H2 e2 d2 => by
    rw [dp_S d2]
    have hl := num_len hn
    refine ⟨_, (n : Int), rfl, ?_, by rw [S_len]; omega, q _ H2 e2 (.int _)⟩
    rw [← num_S]
    exact TL.int_num (by omega)
def rStrI : List V → Hp → VK → Prop := fun xs H Q => ∃ i : Int, xs = [.int i] ∧ i.natAbs.log2 < 1920 ∧ Q (.str (toString i)) H
theorem call_strI {X : Cx} : CallR X (.type "str") rStrI := call_str_int
theorem evd_strI {n : Nat} (ha : EvD K ta σ H (nD n)) (hn : n ≤ 9999) : EvD K (tCB rStrI (tCons ta tNil)) σ H (strD (TL.numL n)) := fun H1 e Q q =>
  ha H1 e _ fun v H2 e2 d2 => by
    rw [dp_n d2]
    refine ⟨(n : Int), rfl, log_small hn, q _ H2 e2 ?_⟩
    have e : (Str.ofString (toString ((n : Nat) : Int))) = S (TL.numL n) := num_S n
    show Dp K H2 (.str (Str.ofString (toString ((n : Nat) : Int)))) (.str (S (TL.numL n)))
    rw [e]
    exact .str _
/-! + of texts -/
def rAddS : R2 := fun x y H Q => ∃ i j : Str, x = .str i ∧ y = .str j ∧ i.length + j.length ≤ sizeLine ∧ Q (.str (i ++ j)) H
theorem op_addS {X : Cx} : OpR X (binaryOp .Add) rAddS := op_add_str
theorem evd_addS {a b : List Nat} (ha : EvD K ta σ H (strD a)) (hb : EvD K tb σ H (strD b)) (hl : a.length + b.length ≤ 100000) : EvD K (tOp rAddS ta tb) σ H (strD (a ++ b)) := fun H1 e Q q =>
  ha H1 e _ fun v H2 e2 d2 => hb H2 (e.trans e2) _ fun v3 H3 e3 d3 => by
    rw [dp_S d2, dp_S d3]
    refine ⟨_, _, rfl, rfl, by rw [S_len, S_len]; exact sz_of hl, q _ H3 (e2.trans e3) ?_⟩
    rw [S_cat]
    exact .str _
/-! join, split, partition -/
def rJoinK (K : Fg) : V → List V → Hp → VK → Prop := fun x xs H Q => ∃ a p, ∃ ys : List Str, x = .str a ∧ xs = [.ref p] ∧ (SqL K H p (ys.map V.str) ∨ SqT K H p (ys.map V.str)) ∧ (ys.map (·.length)).sum + ys.length * a.length ≤ 16777216 ∧ Q (.str (Txt.join a ys)) H
theorem sum_le {k : Nat} : ∀ {ws : List (List Nat)}, (∀ p ∈ ws, p.length ≤ k) → ((ws.map S).map (·.length)).sum ≤ ws.length * k
  | [], _ => by simp
  | p :: ws, h => by
    have h1 := h p (by simp)
    have h2 := sum_le (ws := ws) fun z hz => h z (by simp [hz])
    rw [List.map_cons, List.map_cons, List.sum_cons, S_len, List.length_cons, Nat.succ_mul]
    omega
theorem evd_joinL {sep : List Nat} {ws : List (List Nat)} {k : Nat} (ho : EvD K ta σ H (strD sep)) (he : EvD K te σ H (.list (ws.map strD))) (hk : ∀ p ∈ ws, p.length ≤ k) (hz : ws.length * k + ws.length * sep.length ≤ 100000) : EvD K (tM1 (rJoinK K) ta te) σ H (strD (TL.joinL sep ws)) := fun H1 e Q q =>
  ho H1 e _ fun v H2 e2 d2 => by
    rw [dp_S d2]
    refine ⟨⟨_, rfl⟩, he H2 (e.trans e2) _ fun v3 H3 e3 d3 => ?_⟩
    obtain ⟨p, xs, rfl, hs, hd⟩ := dp_lst d3
    rw [dps_S hd] at hs
    refine ⟨S sep, p, ws.map S, rfl, rfl, .inl hs, ?_, q _ H3 (e2.trans e3) ?_⟩
    · have := sum_le hk
      rw [List.length_map, S_len]
      omega
    · rw [join_S]
      exact .str _
def rSplit : V → List V → Hp → VK → Prop := fun x xs H Q => ∃ a b : Str, x = .str a ∧ xs = [.str b] ∧ (b.length == 0) = false ∧ a.length + 2 ≤ sizeLine ∧ rNewStrs (Txt.split a b) H Q
theorem evn_split {x sep : List Nat} {ws : List (List Nat)} (ho : EvD K ta σ H (strD x)) (he : EvD K te σ H (strD sep)) (hs : sep ≠ []) (hl : x.length ≤ 99000) (e : Txt.split (S x) (S sep) = ws.map S) : EvN K (tM1 rSplit ta te) σ H (ws.map strD) := fun H1 e1 Q q =>
  ho H1 e1 _ fun v H2 e2 d2 => by
    rw [dp_S d2]
    refine ⟨⟨_, rfl⟩, he H2 (e1.trans e2) _ fun v3 H3 e3 d3 => ?_⟩
    rw [dp_S d3]
    refine ⟨_, _, rfl, rfl, ?_, ?_, fun p hp => ?_⟩
    · rw [S_len]
      have := List.length_pos_iff.mpr hs
      exact beq_eq_false_iff_ne.mpr (by omega)
    · rw [S_len]
      have := sz_of (n := x.length + 2) (by omega)
      exact this
    · rw [e]
      have e23 := e2.trans e3
      exact q p _ _ (fresh_back e23 hp) (e23.trans (Ex.new hp)) upd_same (S_dps ws)
def rPartition : V → List V → Hp → VK → Prop := fun x xs H Q => ∃ a b, x = .str a ∧ xs = [.str b] ∧ (b.length == 0) = false ∧ a.length ≤ sizeLine ∧
      ∀ p, H p = none → Q (.ref p) (upd H p (.tup [.str (Txt.partition a b).1, .str (Txt.partition a b).2.1, .str (Txt.partition a b).2.2]))
theorem evd_partition {x sep a b c : List Nat} (ho : EvD K ta σ H (strD x)) (he : EvD K te σ H (strD sep)) (hs : sep ≠ []) (hl : x.length ≤ 99000) (e : Txt.partition (S x) (S sep) = (S a, S b, S c)) : EvD K (tM1 rPartition ta te) σ H (.tuple [strD a, strD b, strD c]) := fun H1 e1 Q q =>
  ho H1 e1 _ fun v H2 e2 d2 => by
    rw [dp_S d2]
    refine ⟨⟨_, rfl⟩, he H2 (e1.trans e2) _ fun v3 H3 e3 d3 => ?_⟩
    rw [dp_S d3]
    refine ⟨_, _, rfl, rfl, ?_, ?_, fun p hp => ?_⟩
    · rw [S_len]
      have := List.length_pos_iff.mpr hs
      exact beq_eq_false_iff_ne.mpr (by omega)
    · rw [S_len]
      exact sz_of (by omega)
    · rw [e]
      exact q _ _ ((e2.trans e3).trans (Ex.new hp)) (.tup (st_of upd_same) (.cons (.str _) (.cons (.str _) (.cons (.str _) .nil))))
/-! f-strings -/
theorem evj_nil {acc : Str} (Q : Str → Hp → Prop) (h : Q acc H) : tJs [] acc σ H Q := h
def EvJs (K : Fg) (ts : List TE) (acc : List Nat) (σ : Ks) (H : Hp) (out : List Nat) : Prop := ∀ H1, Ex H H1 → ∀ Q : Str → Hp → Prop, (∀ H2, Ex H1 H2 → Q (S out) H2) → tJs ts (S acc) σ H1 Q
theorem evjs_nil {acc : List Nat} : EvJs K [] acc σ H acc := fun H1 _ Q q => q H1 (Ex.refl _)
theorem evjs_cons {ts : List TE} {acc l out : List Nat} (h : EvD K te σ H (strD l)) (hl : (acc ++ l).length ≤ 100000) (hr : EvJs K ts (acc ++ l) σ H out) : EvJs K (te :: ts) acc σ H out := fun H1 e Q q =>
  h H1 e _ fun v H2 e2 d2 => by
    rw [dp_S d2]
    refine ⟨S l, rfl, ?_, ?_⟩
    · rw [S_cat, S_len]
      exact sz_of hl
    · rw [S_cat]
      exact hr H2 (e.trans e2) Q fun H3 e3 => q H3 (e2.trans e3)
theorem evd_fstr {ts : List TE} {out : List Nat} (h : EvJs K ts [] σ H out) : EvD K (fun σ H Q => tJs ts Str.empty σ H fun out H1 => Q (.str out) H1) σ H (strD out) := fun H1 e Q q => h H1 e (fun out H1 => Q (.str out) H1) fun H2 e2 => q _ H2 e2 (.str _)
theorem evd_fmtN {n : Nat} (ha : EvD K ta σ H (nD n)) (hn : n ≤ 9999) : EvD K (tFmt ta) σ H (strD (TL.numL n)) := fun H1 e Q q =>
  ha H1 e _ fun v H2 e2 d2 => by
    rw [dp_n d2]
    refine .inr ⟨(n : Int), rfl, log_small hn, q _ H2 e2 ?_⟩
    have e : (Str.ofString (toString ((n : Nat) : Int))) = S (TL.numL n) := num_S n
    show Dp K H2 (.str (Str.ofString (toString ((n : Nat) : Int)))) (.str (S (TL.numL n)))
    rw [e]
    exact .str _
/-! + of lists, of tuples -/
theorem evn_cat (ha : EvN K ta σ H ds) (hb : EvN K tb σ H es) (hl : ds.length + es.length ≤ 100000) : EvN K (tOp rCat ta tb) σ H (ds ++ es) := fun H1 e Q q =>
  ha H1 e _ fun p xs H2 hp e2 h2 d2 => hb H2 (e.trans e2) _ fun r ys H3 hr e3 h3 d3 => by
    refine ⟨p, r, xs, ys, rfl, rfl, e3 _ _ h2, h3, sz_of (by rw [dps_len d2, dps_len d3]; exact hl), fun t ht => ?_⟩
    have e23 := e2.trans e3
    exact q t _ _ (fresh_back e23 ht) (e23.trans (Ex.new ht)) upd_same (Dpsx (dps_app (Dpsx d2 e3) d3) (Ex.new ht))
theorem evd_catT {a : PyData} {b : PyData} (ha : EvD K ta σ H (.tuple (a :: ds))) (hb : EvD K tb σ H (.tuple (b :: es))) (hl : (a :: ds).length + (b :: es).length ≤ 100000) : EvD K (tOp (rCatT K) ta tb) σ H (.tuple ((a :: ds) ++ (b :: es))) := fun H1 e Q q =>
  ha H1 e _ fun v H2 e2 d2 => hb H2 (e.trans e2) _ fun v3 H3 e3 d3 => by
    obtain ⟨p, xs, rfl, hs, hd⟩ := dp_tup d2
    obtain ⟨r, ys, rfl, hs2, hd2⟩ := dp_tup d3
    have l1 := dps_len hd
    have l2 := dps_len hd2
    refine ⟨p, r, xs, ys, rfl, rfl, ex_t e3 hs, hs2, fun z => by rw [z] at l1; simp at l1, sz_of (by rw [l1, l2]; exact hl), fun z => by rw [z] at l2; simp at l2, fun _ t ht => ?_⟩
    exact q _ _ ((e2.trans e3).trans (Ex.new ht)) (.tup (st_of upd_same) (Dpsx (dps_app (Dpsx hd e3) hd2) (Ex.new ht)))
theorem op_catTK {X : Cx} {K : Fg} (h : X.K = K) : OpR X (binaryOp .Add) (rCatT K) := h ▸ op_catT
/-! None in .. -/
theorem flat_opts {H : Hp} {xs : List V} {l : List (Option Nat)} (h : DpAll K H xs (l.map optD)) : xs = l.map optV := by
  induction l generalizing xs with
  | nil => cases h; rfl
  | cons o l ih =>
    cases h with
    | cons a t => rw [dp_opt a, ih t]; rfl
theorem none_in (l : List (Option Nat)) : inV .non (l.map optV) = l.any Option.isNone := by
  unfold inV
  rw [List.any_map]
  congr 1
  funext o
  cases o <;> rfl
theorem flat_all (l : List (Option Nat)) : (l.map optV).all flatV = true := by
  rw [List.all_map]
  exact List.all_eq_true.mpr fun o _ => by cases o <;> rfl
theorem ev_noneInT {l : List (Option Nat)} (hb : EvD K tb σ H (.tuple (l.map optD))) : Ev (tOp (rIn K false) (tC .non) tb) σ H (.bl (l.any Option.isNone)) := fun H1 e Q q =>
  hb H1 e _ fun v3 H3 e3 d3 => by
    obtain ⟨p, xs, rfl, hs, hd⟩ := dp_tup d3
    have ex := flat_opts hd
    subst ex
    refine ⟨p, _, rfl, .inr hs, rfl, flat_all l, ?_⟩
    rw [none_in]
    exact q H3 e3
theorem ev_noneInL {l : List (Option Nat)} (hb : EvD K tb σ H (.list (l.map optD))) : Ev (tOp (rIn K false) (tC .non) tb) σ H (.bl (l.any Option.isNone)) := fun H1 e Q q =>
  hb H1 e _ fun v3 H3 e3 d3 => by
    obtain ⟨p, xs, rfl, hs, hd⟩ := dp_lst d3
    have ex := flat_opts hd
    subst ex
    refine ⟨p, _, rfl, .inl hs, rfl, flat_all l, ?_⟩
    rw [none_in]
    exact q H3 e3
end
end Lw
namespace Lw
open PySem PySem.Spec PyProof.Rows L2 Evl LwM SX
section
variable {P : Program} {w : World} {K : Fg} {mg : Str → Option Value} {base : Heap}
/-! ### number_in -/
def rNumIn : Rel := fun ds r => ∃ n m : Nat, n ≤ 9999 ∧ 4 ≤ m ∧ m ≤ 100 ∧ ds = [strD (TL.numL n), nD m] ∧ r = nD n
theorem fig_of {n c : Nat} (h : c ∈ TL.numL n) : c ∈ [48, 49, 50, 51, 52, 53, 54, 55, 56, 57] := by
  have := TL.numL_digits n c h
  simp only [List.mem_cons, List.not_mem_nil, or_false]
  omega
theorem sc_number_in : FnScope ["word", "most", "sign"] ["word", "most"] (defScope (top 70)) := ⟨rfl, rfl, rfl, by decide +kernel, rfl, by decide +kernel, by decide +kernel⟩
theorem cal_number_in (T : Txt w K mg) : CalD P w K mg base 1 "number_in" (PureSp K rNumIn) := by
  refine cal_of T.f_number_in T.g_number_in sc_number_in (fun _ _ _ _ _ _ us hl => match us, hl with | [_, _], _ => rfl) (fun ds r h => by obtain ⟨_, _, _, _, _, rfl, _⟩ := h; rfl) fun cdv A outer s H vs Q E hr ds r h hd k => ?_
  obtain ⟨n, m, hn, hm, hm2, rfl, rfl⟩ := h
  obtain ⟨v1, v2, rfl, h1, h2⟩ := dps2 hd
  refine ⟨_, (pss_cons (ps_if (PW.pt (pw_or (pt_cmpR op_eq (pe_callB (call_lenX (K := K) rfl) (by rfl) T.m_len bt_len (pa_cons (pv 0) pa_nil)) pe_int (nomark _)) (pw_or (pt_cmpR op_gt (pe_callB (call_lenX (K := K) rfl) (by rfl) T.m_len bt_len (pa_cons (pv 0) pa_nil)) (pv 1) (nomark _)) (pw_or1 (pt_not (pt_val (pe_callB (cr_allK (K := K) rfl rfl) (by rfl) T.m_all bt_all (pa_cons (pe_lc (own := [("sign", 2)]) rfl sc_number_in.nd (pi_str (pv 0)) (blkOk_by (N := ["word", "most", "sign"]) (sc := defScope (top 70)) (by decide +kernel)) (fun _ _ _ _ _ => (pg_name (i := 2) sc_number_in.nd rfl (Or.inl rfl))) (fun _ _ _ _ _ => pts_nil) (fun _ _ _ _ _ => (pe_cmpR op_inSign (pv 2) (pe_glob (v := .str "0123456789") rfl (T.s_FIGURES.choose_spec) ⟨_, rfl⟩) (by rfl)))) pa_nil)))))))) (pss_one (ps_ret pe_non)) pss_nil)
      (pss_cons (ps_if (PW.pt (pw_and (pt_cmpR op_eq (pe_ix ix_str (pv 0) pe_int (fun _ _ => rfl)) pe_str (nomark _)) (pw_and1 (pt_cmpR op_gt (pe_callB (call_lenX (K := K) rfl) (by rfl) T.m_len bt_len (pa_cons (pv 0) pa_nil)) pe_int (nomark _))))) (pss_one (ps_ret pe_non)) pss_nil)
      (pss_one (ps_ret (pe_callTy call_intS (by rfl) T.m_int bt_int (pa_cons (pv 0) pa_nil)))))), ?_⟩
  have l1 := num_len hn
  have l2 := num_pos n
  obtain ⟨c, l, ec, hc⟩ := num_cons n
  have len : ∀ {H'} (e : Ex H H') {σ : Ks}, σ[0]? = some (some v1) → Ev (tCB (rLenX K) (tCons (tVar 0) tNil)) σ H' (.int ((TL.numL n).length : Int)) := fun e σ hs => ev_lenS (evd_var hs (Dpx h1 e)) (by omega)
  refine d_when (b := decide (((TL.numL n).length : Int) = 0) || (decide ((m : Int) < ((TL.numL n).length : Int)) || !true)) (et_or (et_test (ev_eqI (len (Ex.refl _) rfl) ev_c)) fun _ => et_or (et_test (ev_gt (len (Ex.refl _) rfl) (ev_n (evd_var rfl h2)))) fun _ => et_not (et_test (ev_is (ev_allM (K := K) (f := fun _ => true) (l := TL.numL n) (evn_lcB (enc := fun c => strD [c]) (l := TL.numL n) (fun _ => .bool true) (evi_signs rfl h1).j (by omega) (fun _ _ => rfl) fun c x H3 P hcm e3 dx q => ?_).toD) (by rw [all_true])))) (fun z => by rw [decide_eq_false (by omega), decide_eq_false (by omega)] at z; cases z) fun _ H1 e1 => ?_
  · refine q _ rfl (evd_bool (ev_is (ev_inSign (K := K) (evd_var rfl dx) (ev_cS s_figs)) ?_))
    rw [decide_eq_true (fig_of hcm)]
  have d1 : Dp K H1 v1 (strD (c :: l)) := by rw [← ec]; exact Dpx h1 e1
  refine d_when (b := decide ([c] = [48]) && decide ((1 : Int) < ((TL.numL n).length : Int))) (et_and (et_test (ev_eqT (evd_sign0 (evd_var rfl d1) (by rw [← ec]; omega)) (evd_cS s_zero))) fun _ => et_test (ev_gt (len e1 rfl) ev_c)) (fun z => ?_) fun _ H2 e2 => ?_
  · obtain ⟨z1, z2⟩ := Bool.and_eq_true_iff.mp z
    simp only [decide_eq_true_eq] at z1 z2
    have hl := hc (by simpa using z1)
    rw [ec, hl] at z2
    simp at z2
  · exact d_ret (evd_intS (evd_var rfl (Dpx h1 (e1.trans e2))) hn) fun v H3 e3 d3 => k v H3 ((e1.trans e2).trans e3) d3
/-! ### shown_place, label_line(s), web_lines -/
def rShown : Rel := fun ds r => ∃ o : Option Nat, (∀ a, o = some a → a ≤ 9999) ∧ ds = [optD o] ∧ r = strD (showL o)
theorem sc_shown_place : FnScope ["place"] ["place"] (defScope (top 76)) := ⟨rfl, rfl, rfl, by decide +kernel, rfl, by decide +kernel, by decide +kernel⟩
theorem cal_shown_place (T : Txt w K mg) : CalD P w K mg base 1 "shown_place" (PureSp K rShown) := by
  refine cal_of T.f_shown_place T.g_shown_place sc_shown_place (fun _ _ _ _ _ _ us hl => match us, hl with | [_], _ => rfl) (fun ds r h => by obtain ⟨_, _, rfl, _⟩ := h; rfl) fun cdv A outer s H vs Q E hr ds r h hd k => ?_
  obtain ⟨o, ho, rfl, rfl⟩ := h
  obtain ⟨v1, rfl, h1⟩ := dps1 hd
  refine ⟨_, (pss_one (ps_ret (pe_ifExp (pt_cmpR op_isN (pv 0) pe_non (nomark _)) pe_str (pe_callTy call_strI (by rfl) T.m_str bt_str (pa_cons (pv 0) pa_nil))))), ?_⟩
  cases o with
  | none => exact d_ret (evd_if (b := true) (et_test (ev_isNO (o := none) (evd_var rfl h1))) (fun _ => evd_cS s_dash) fun z => by cases z) k
  | some n => exact d_ret (evd_if (b := false) (et_test (ev_isNO (o := some n) (evd_var rfl h1))) (fun z => by cases z) fun _ => evd_strI (evd_var rfl h1) (ho n rfl)) k
def rLabLine : Rel := fun ds r => ∃ l : Lab, (∀ e ∈ l, EntSm e) ∧ l.length ≤ 24 ∧ ds = [labD l] ∧ r = strD (lineL (labWs l))
theorem sc_label_line : FnScope ["label", "words", "hub", "long", "up", "down"] ["label"] (defScope (top 77)) := ⟨rfl, rfl, rfl, by decide +kernel, rfl, by decide +kernel, by decide +kernel⟩
theorem cal_label_line (T : Txt w K mg) : CalD P w K mg base 2 "label_line" (PureSp K rLabLine) := by
  refine cal_of T.f_label_line T.g_label_line sc_label_line (fun _ _ _ _ _ _ us hl => match us, hl with | [_], _ => rfl) (fun ds r h => by obtain ⟨_, _, _, rfl, _⟩ := h; rfl) fun cdv A outer s H vs Q E hr ds r h hd k => ?_
  obtain ⟨l, sm, few, rfl, rfl⟩ := h
  obtain ⟨v1, rfl, h1⟩ := dps1 hd
  refine ⟨_, (pss_cons (ps_set (i := 1) sc_label_line.nd rfl (Or.inl rfl) (pe_lst (pa_cons pe_str pa_nil)))
      (pss_cons (ps_for PassesOwn.never rfl (pi_tupK (K := K) rfl (pv 0)) (pg_tup rfl (pgs_cons (pg_name (i := 2) sc_label_line.nd rfl (Or.inl rfl)) (pgs_cons (pg_name (i := 3) sc_label_line.nd rfl (Or.inl rfl)) (pgs_cons (pg_name (i := 4) sc_label_line.nd rfl (Or.inl rfl)) (pgs_cons (pg_name (i := 5) sc_label_line.nd rfl (Or.inl rfl)) pgs_nil))))) (pss_one (ps_expr (pe_bm PySem.F.plainAttrs_list PySem.F.slot_list_append PySem.F.type_list_append mt_append (pv 1) (pa_cons (pe_join pe_str (pe_lst (pa_cons (pe_callTy call_strI (by rfl) T.m_str bt_str (pa_cons (pv 2) pa_nil)) (pa_cons (pe_callTy call_strI (by rfl) T.m_str bt_str (pa_cons (pv 3) pa_nil)) (pa_cons (pe_cal (cal_shown_place (K := K) T) hr (by decide) (by rfl) (pa_cons (pv 4) pa_nil)) (pa_cons (pe_cal (cal_shown_place (K := K) T) hr (by decide) (by rfl) (pa_cons (pv 5) pa_nil)) pa_nil)))))) pa_nil)))))
      (pss_one (ps_ret (pe_join pe_str (pv 1)))))), ?_⟩
  refine q_setN (K := K) (ds := [cLabel].map strD) (evn_lst (evds_cons (evd_cS s_label) evds_nil) (by show 1 ≤ 100000; decide)) fun p xs H1 np e1 hp dp => ?_
  refine dq_for (K := K) (evi_var (ds := l.map entD) rfl h1) e1 (fun i σ' H' => ∃ x2 x3 x4 x5 ys, σ' = [some v1, some (.ref p), x2, x3, x4, x5] ∧ Ex H H' ∧ H' p = some (.lst ys) ∧ DpAll K H' ys ((cLabel :: (l.take i).map entL).map strD))
    (fun H3 e3 => ⟨none, none, none, none, xs, rfl, e1.trans e3, e3 _ _ hp, by rw [List.take_zero]; exact Dpsx dp e3⟩) (fun i σ' H' q => by obtain ⟨_, _, _, _, _, _, e, _⟩ := q; exact e) (fun i d x σ' H3 H4 hi q e4 dx => ?_) fun σ' H' q => ?_
  · obtain ⟨x2, x3, x4, x5, ys, rfl, e3, hy, dy⟩ := q
    rw [List.getElem?_map] at hi
    obtain ⟨e, he, rfl⟩ := Option.map_eq_some_iff.mp hi
    have hem := List.mem_of_getElem? he
    have s := sm e hem
    have hil := (List.getElem?_eq_some_iff.mp he).1
    refine g_tup4 dx fun y1 y2 y3 y4 q1 q2 q3 q4 => ?_
    refine l_append (K := K) (d := strD (entL e)) (e4 _ _ hy) rfl (evd_joinL (k := 4) (evd_cS s_colon) (EvD.to (evd_lst (evds_cons (evd_strI (evd_var rfl q1) s.hub) (evds_cons (evd_strI (evd_var rfl q2) s.long) (evds_cons (evd_call (evds_cons (evd_var rfl q3) evds_nil) ⟨e.up, s.up, rfl, rfl⟩) (evds_cons (evd_call (evds_cons (evd_var rfl q4) evds_nil) ⟨e.down, s.down, rfl, rfl⟩) evds_nil)))) (by show 4 ≤ 100000; decide)) rfl) (entWs_len s) (by show 4 * 4 + 4 * 1 ≤ 100000; decide)) ?_ fun v H5 e5 d5 => ?_
    · rw [dps_len dy, List.length_map, List.length_cons, List.length_map, List.length_take]
      omega
    · refine ⟨_, _, _, _, _, rfl, Ex.mut ((e3.trans e4).trans e5) np, upd_same, ?_⟩
      have tk : Tk H5 (upd H5 p (.lst (ys ++ [v]))) := tk_updL (e5 _ _ (e4 _ _ hy))
      rw [List.take_add_one, he, Option.toList_some, List.map_append]
      have eq : (cLabel :: ((l.take i).map entL ++ [e].map entL)).map strD = (cLabel :: (l.take i).map entL).map strD ++ [strD (entL e)] := by
        rw [List.map_cons, List.map_append, List.map_cons]
        rfl
      rw [eq]
      exact dps_app (Dpst (Dpsx dy (e4.trans e5)) tk (fz_strs _)) (.cons (Dpt d5 tk rfl) .nil)
  · obtain ⟨x2, x3, x4, x5, ys, rfl, e3, hy, dy⟩ := q
    rw [List.length_map, List.take_length] at dy
    refine d_ret (evd_joinL (k := 20) (ws := labWs l) (evd_cS s_blank) (evd_var rfl (dp_locD hy dy)) (labWs_len sm) ?_) fun v H4 e4 d4 => k v H4 (e3.trans e4) d4
    have : (labWs l).length = l.length + 1 := by unfold labWs; simp
    rw [this]
    show (l.length + 1) * 20 + (l.length + 1) * 1 ≤ 100000
    omega
def rLabLines : Rel := fun ds r => ∃ L : List Lab, (∀ l ∈ L, (∀ e ∈ l, EntSm e) ∧ l.length ≤ 24) ∧ L.length ≤ 100 ∧ ds = [labelsD L] ∧ r = .list ((labLs L).map strD)
theorem sc_label_lines : FnScope ["labels", "label"] ["labels"] (defScope (top 78)) := ⟨rfl, rfl, rfl, by decide +kernel, rfl, by decide +kernel, by decide +kernel⟩
theorem cal_label_lines (T : Txt w K mg) : CalD P w K mg base 3 "label_lines" (PureSp K rLabLines) := by
  refine cal_of T.f_label_lines T.g_label_lines sc_label_lines (fun _ _ _ _ _ _ us hl => match us, hl with | [_], _ => rfl) (fun ds r h => by obtain ⟨_, _, _, rfl, _⟩ := h; rfl) fun cdv A outer s H vs Q E hr ds r h hd k => ?_
  obtain ⟨L, hL, few, rfl, rfl⟩ := h
  obtain ⟨v1, rfl, h1⟩ := dps1 hd
  refine ⟨_, (pss_one (ps_ret (pe_lc (own := [("label", 1)]) rfl sc_label_lines.nd (pi_tupK (K := K) rfl (pv 0)) (blkOk_by (N := ["labels", "label"]) (sc := defScope (top 78)) (by decide +kernel)) (fun _ _ _ _ _ => (pg_name (i := 1) sc_label_lines.nd rfl (Or.inl rfl))) (fun _ _ _ _ _ => pts_nil) (fun _ _ _ _ _ => (pe_cal (cal_label_line (K := K) T) hr (by decide) (by rfl) (pa_cons (pv 1) pa_nil)))))), ?_⟩
  refine d_ret (EvD.to (evn_lcB (enc := labD) (l := L) (fun l => strD (lineL (labWs l))) (evi_var rfl h1).j (by omega) (fun _ _ => rfl) fun l x H3 P hl e3 dx q => ?_).toD ?_) k
  · exact q _ rfl (evd_call (evds_cons (evd_var rfl dx) evds_nil) ⟨l, (hL l hl).1, (hL l hl).2, rfl, rfl⟩)
  · unfold labLs
    rw [List.map_map]
    rfl
def rWebLines : Rel := fun ds r => ∃ W : Web, WebOk W ∧ ds = [webD W] ∧ r = .list ((webLs W).map strD)
theorem sc_web_lines : FnScope ["web", "a", "b", "long"] ["web"] (defScope (top 72)) := ⟨rfl, rfl, rfl, by decide +kernel, rfl, by decide +kernel, by decide +kernel⟩
theorem cal_web_lines (T : Txt w K mg) : CalD P w K mg base 1 "web_lines" (PureSp K rWebLines) := by
  refine cal_of T.f_web_lines T.g_web_lines sc_web_lines (fun _ _ _ _ _ _ us hl => match us, hl with | [_], _ => rfl) (fun ds r h => by obtain ⟨_, _, rfl, _⟩ := h; rfl) fun cdv A outer s H vs Q E hr ds r h hd k => ?_
  obtain ⟨W, ok, rfl, rfl⟩ := h
  obtain ⟨v1, rfl, h1⟩ := dps1 hd
  refine ⟨_, (pss_one (ps_ret (pe_op op_cat (pe_lst (pa_cons (pe_op op_addS pe_str (pe_callTy call_strI (by rfl) T.m_str bt_str (pa_cons (pe_ix (ix_tupK (K := K) rfl) (pv 0) pe_int (fun _ _ => rfl)) pa_nil))) pa_nil)) (pe_lc (own := [("a", 1), ("b", 2), ("long", 3)]) (g := gTup K 3 (gCons (gName 1) (gCons (gName 2) (gCons (gName 3) gNil)))) rfl sc_web_lines.nd (pi_tupK (K := K) rfl (pe_ix (ix_tupK (K := K) rfl) (pv 0) pe_int (fun _ _ => rfl))) (blkOk_by (N := ["web", "a", "b", "long"]) (sc := defScope (top 72)) (by decide +kernel)) (fun _ _ _ _ _ => (pg_tup rfl (pgs_cons (pg_name (i := 1) sc_web_lines.nd rfl (Or.inl rfl)) (pgs_cons (pg_name (i := 2) sc_web_lines.nd rfl (Or.inl rfl)) (pgs_cons (pg_name (i := 3) sc_web_lines.nd rfl (Or.inl rfl)) pgs_nil))))) (fun _ _ _ _ _ => pts_nil) (fun _ _ _ _ _ => (pe_joined (PJ.cons pe_str (PJ.cons (pe_fmt (pv 1)) (PJ.cons pe_str (PJ.cons (pe_fmt (pv 2)) (PJ.cons pe_str (PJ.cons (pe_fmt (pv 3)) PJ.nil)))))))))))), ?_⟩
  have most := ok.most
  have few := ok.few
  have hn := num_len (n := W.n) (by omega)
  refine d_ret (EvD.to (evn_cat (ds := [strD ((cWeb ++ [32]) ++ TL.numL W.n)]) (es := W.ties.map fun t => strD (lineL (tieWs t))) (evn_lst (evds_cons (evd_addS (evd_cS s_webB) (evd_strI (evd_i0 (evd_var rfl h1)) (by omega)) ?_) evds_nil) (by show 1 ≤ 100000; decide)) (evn_lcB (enc := tieD) (l := W.ties) (fun t => strD (lineL (tieWs t))) (evi_item rfl h1 ixD1).j (by omega) (fun _ _ => rfl) fun t x H3 P ht e3 dx q => ?_) ?_).toD ?_) k
  · show 4 + (TL.numL W.n).length ≤ 100000
    omega
  · have tk := ok.tie t ht
    have a1 : t.1 ≤ 9999 := by omega
    have a2 : t.2.1 ≤ 9999 := by omega
    have a3 : t.2.2 ≤ 9999 := by omega
    have n1 := num_len a1
    have n2 := num_len a2
    have n3 := num_len a3
    refine g_tup3 dx fun y1 y2 y3 q1 q2 q3 => ?_
    refine q _ rfl (EvD.to (evd_fstr (evjs_cons (evd_cS s_tieB) (by decide) (evjs_cons (evd_fmtN (evd_var rfl q1) a1) ?_ (evjs_cons (evd_cS s_blank) ?_ (evjs_cons (evd_fmtN (evd_var rfl q2) a2) ?_ (evjs_cons (evd_cS s_blank) ?_ (evjs_cons (evd_fmtN (evd_var rfl q3) a3) ?_ evjs_nil))))))) ?_)
    · simp only [List.length_append, List.length_nil, List.length_cons, cTie]
      omega
    · simp only [List.length_append, List.length_nil, List.length_cons, cTie]
      omega
    · simp only [List.length_append, List.length_nil, List.length_cons, cTie]
      omega
    · simp only [List.length_append, List.length_nil, List.length_cons, cTie]
      omega
    · simp only [List.length_append, List.length_nil, List.length_cons, cTie]
      omega
    · congr 1
      show _ = cTie ++ ([32] ++ (TL.numL t.1 ++ ([32] ++ (TL.numL t.2.1 ++ ([32] ++ TL.numL t.2.2)))))
      simp only [List.append_assoc, List.nil_append]
  · rw [List.length_map]
    show 1 + W.ties.length ≤ 100000
    omega
  · unfold webLs
    rw [List.map_cons, List.map_map]
    show PyData.list (strD ((cWeb ++ [32]) ++ TL.numL W.n) :: _) = PyData.list (strD (cWeb ++ ([32] ++ TL.numL W.n)) :: _)
    rw [List.append_assoc]
    rfl
/-! ### place_in, entry_in -/
def rPlaceIn : Rel := fun ds r => ∃ n lo many : Nat, n ≤ 9999 ∧ lo ≤ n ∧ n < many ∧ ds = [strD (TL.numL n), nD lo, nD many] ∧ r = nD n
theorem ev_chain2 {σ : Ks} {H : Hp} {ta tb tc : TE} {i j l : Int} (ha : Ev ta σ H (.int i)) (hb : Ev tb σ H (.int j)) (hc : Ev tc σ H (.int l)) : Ev (tChain (rI0 fun i j => .bl (decide (i ≤ j))) (rI0 fun i j => .bl (decide (i < j))) ta tb tc) σ H (.bl (decide (i ≤ j) && decide (j < l))) := fun H1 e Q q =>
  ha H1 e _ fun H2 e2 => hb H2 (e.trans e2) _ fun H3 e3 => ⟨i, j, rfl, rfl, _, rfl, by
    cases h : decide (i ≤ j) with
    | true => exact iteT (hc H3 ((e.trans e2).trans e3) _ fun H4 e4 => ⟨j, l, rfl, rfl, by
        have q' := q H4 ((e2.trans e3).trans e4)
        rw [h, Bool.true_and] at q'
        exact q'⟩)
    | false =>
      have q' := q H3 (e2.trans e3)
      rw [h, Bool.false_and] at q'
      exact iteF q'⟩
theorem evt_chain2 {σ : Ks} {H : Hp} {ta tb tc : TE} {i j l : Int} (ha : Ev ta σ H (.int i)) (hb : Ev tb σ H (.int j)) (hc : Ev tc σ H (.int l)) : EvT (tTest (tChain (rI0 fun i j => .bl (decide (i ≤ j))) (rI0 fun i j => .bl (decide (i < j))) ta tb tc)) σ H (decide (i ≤ j) && decide (j < l)) := et_test (ev_chain2 ha hb hc)
theorem sc_place_in : FnScope ["word", "least", "many", "number"] ["word", "least", "many"] (defScope (top 79)) := ⟨rfl, rfl, rfl, by decide +kernel, rfl, by decide +kernel, by decide +kernel⟩
theorem cal_place_in (T : Txt w K mg) : CalD P w K mg base 2 "place_in" (PureSp K rPlaceIn) := by
  refine cal_of T.f_place_in T.g_place_in sc_place_in (fun _ _ _ _ _ _ us hl => match us, hl with | [_, _, _], _ => rfl) (fun ds r h => by obtain ⟨_, _, _, _, _, _, rfl, _⟩ := h; rfl) fun cdv A outer s H vs Q E hr ds r h hd k => ?_
  obtain ⟨n, lo, many, hn, h1n, h2n, rfl, rfl⟩ := h
  obtain ⟨v1, v2, v3, rfl, h1, h2, h3⟩ := dps3 hd
  refine ⟨_, (pss_cons (ps_set (i := 3) sc_place_in.nd rfl (Or.inl rfl) (pe_cal (cal_number_in (K := K) T) hr (by decide) (by rfl) (pa_cons (pv 0) (pa_cons (pe_glob (v := .int 12) rfl (T.i_MOST_FIGURES_webtexts.choose_spec) ⟨_, rfl⟩) pa_nil))))
      (pss_one (ps_ret (pe_ifExp (PW.pt (pw_and (pt_cmpR op_notN (pv 3) pe_non (nomark _)) (pw_and1 (pt_chain op_le op_lt (pv 1) (pv 3) (pv 2))))) (pv 3) pe_non)))), ?_⟩
  refine d_set (evd_call (evds_cons (evd_var rfl h1) (evds_cons (evd_cn 12) evds_nil)) ⟨n, 12, hn, by decide, by decide, rfl, rfl⟩) fun vn H1 e1 hnn => ?_
  refine d_ret (evd_if (b := true && (decide ((lo : Int) ≤ (n : Int)) && decide ((n : Int) < (many : Int)))) (et_and (a := true) (et_test (ev_notNO (o := some n) (evd_var rfl hnn))) fun _ => ?_) (fun _ => evd_var rfl hnn) fun z => ?_) fun v H2 e2 d2 => k v H2 (e1.trans e2) d2
  · exact evt_chain2 (ev_n (evd_var rfl (Dpx h2 e1))) (ev_n (evd_var rfl hnn)) (ev_n (evd_var rfl (Dpx h3 e1)))
  · rw [decide_eq_true (show (lo : Int) ≤ (n : Int) by omega), decide_eq_true (show (n : Int) < (many : Int) by omega)] at z
    cases z
end
end Lw
namespace Lw
open PySem PySem.Spec PyProof.Rows L2 Evl LwM SX
section
variable {K : Fg} {σ : Ks} {H H' : Hp} {ta tb te tx : TE} {t : TT} {d e : PyData} {ds es : List PyData}
/-- a name that is set under an if -/
theorem q_ifset {D : Ends} {tz : TS} {i lo : Nat} {b : Bool} (h : EvT t σ H b) (h1 : b = true → EvD K te σ H (nD lo)) (h2 : b = false → σ[i]? = some (some (.int (lo : Int)))) (k : ∀ H1, Ex H H1 → tz D (σ.set i (some (.int (lo : Int)))) H1) : tSeq (tIfS t (tAsg te (gName i)) tNext) tz D σ H := by
  refine d_when h (fun hb H1 e1 => ?_) fun hb H1 e1 => ?_
  · exact h1 hb H1 e1 _ fun v H2 e2 d2 => by
      rw [dp_n d2]
      exact k H2 (e1.trans e2)
  · have q := k H1 e1
    have hs := h2 hb
    have e : σ.set i (some (.int (lo : Int))) = σ := by
      obtain ⟨hi, e⟩ := List.getElem?_eq_some_iff.mp hs
      rw [← e]
      exact List.set_getElem_self hi
    rw [e] at q
    exact q
theorem ev_neg {i : Int} (h : Ev ta σ H (.int i)) : Ev (tUn (rU fun i => .int (-i)) ta) σ H (.int (-i)) := fun H1 e Q q => h H1 e _ fun H2 e2 => ⟨i, rfl, q H2 e2⟩
theorem ixD_last {ds : List PyData} {d : PyData} : ixD (ds ++ [d]) (-1) = some d := by
  unfold ixD ixN
  rw [if_neg (by decide), if_pos (by simp; omega)]
  have : (((-1 : Int) + ((ds ++ [d]).length : Int))).toNat = ds.length := by rw [List.length_append]; show (((-1 : Int) + ((ds.length + 1 : Nat) : Int))).toNat = _; omega
  show (ds ++ [d])[((-1 : Int) + ((ds ++ [d]).length : Int)).toNat]? = some d
  rw [this]
  simp
theorem ev_neNil (ha : EvD K ta σ H (.list ds)) (hs : SeqAt.shaped (.list ds) = true) : Ev (tOp (rNeD K) ta (tLst tNil)) σ H (.bl (!ds.isEmpty)) := by
  have h := ev_neD ha (evd_lst (K := K) evds_nil (by decide)) hs ((shp_lst (k := 0) (l := []) (by simp)).sh (by decide))
  rw [eqv_nil] at h
  exact h
theorem shp_ent (e : Ent) : Shp (entD e) 2 := shp_tup fun d hd => by
  simp only [List.mem_cons, List.not_mem_nil, or_false] at hd
  rcases hd with rfl | rfl | rfl | rfl
  · exact shp_n _
  · exact shp_n _
  · exact shp_opt _
  · exact shp_opt _
end
section
variable {P : Program} {w : World} {K : Fg} {mg : Str → Option Value} {base : Heap}
/-! ### entry_in -/
structure EntGo (many : Nat) (es : List Ent) (e : Ent) : Prop where
  sm : EntSm e
  hub : e.hub < many
  most : many ≤ 100
  few : es.length ≤ 100
  last : ∀ a ∈ es, a.hub < e.hub
  zero : e.long = 0 → e.up = none ∧ e.down = none ∧ ∀ a ∈ es, 0 < a.long
  ups : e.long ≠ 0 → ∃ a b, e.up = some a ∧ e.down = some b ∧ a < many ∧ b < many
def rEntryIn : Rel := fun ds r => ∃ (many : Nat) (es : List Ent) (e : Ent), EntGo many es e ∧ ds = [strD (entL e), .list (es.map entD), nD many] ∧ r = entD e
theorem sc_entry_in : FnScope ["word", "entries", "many", "parts", "least", "hub", "long", "is_first", "entry", "places"] ["word", "entries", "many"] (defScope (top 80)) := ⟨rfl, rfl, rfl, by decide +kernel, rfl, by decide +kernel, by decide +kernel⟩
theorem cal_entry_in (T : Txt w K mg) : CalD P w K mg base 3 "entry_in" (PureSp K rEntryIn) := by
  refine cal_of T.f_entry_in T.g_entry_in sc_entry_in (fun _ _ _ _ _ _ us hl => match us, hl with | [_, _, _], _ => rfl) (fun ds r h => by obtain ⟨_, _, _, _, rfl, _⟩ := h; rfl) fun cdv A outer s H vs Q E hr ds r h hd k => ?_
  obtain ⟨many, es, e, go, rfl, rfl⟩ := h
  obtain ⟨v1, v2, v3, rfl, h1, h2, h3⟩ := dps3 hd
  refine ⟨_, (pss_cons (ps_set (i := 3) sc_entry_in.nd rfl (Or.inl rfl) (pe_split (pv 0) pe_str))
      (pss_cons (ps_if (pt_cmpR op_ne (pe_callB (call_lenK (K := K) rfl) (by rfl) T.m_len bt_len (pa_cons (pv 3) pa_nil)) pe_int (nomark _)) (pss_one (ps_ret pe_non)) pss_nil)
      (pss_cons (ps_set (i := 4) sc_entry_in.nd rfl (Or.inl rfl) pe_int)
      (pss_cons (ps_if (pt_cmpR (op_neDK (K := K) rfl hr.units) (pv 1) (pe_lst pa_nil) (nomark _)) (pss_one (ps_set (i := 4) sc_entry_in.nd rfl (Or.inl rfl) (pe_op op_add (pe_ix (ix_tupK (K := K) rfl) (pe_ix (ix_listK (K := K) rfl) (pv 1) (pe_un un_neg pe_int) (fun _ _ => rfl)) pe_int (fun _ _ => rfl)) pe_int))) pss_nil)
      (pss_cons (ps_set (i := 5) sc_entry_in.nd rfl (Or.inl rfl) (pe_cal (cal_place_in (K := K) T) hr (by decide) (by rfl) (pa_cons (pe_ix (ix_listK (K := K) rfl) (pv 3) pe_int (fun _ _ => rfl)) (pa_cons (pv 4) (pa_cons (pv 2) pa_nil)))))
      (pss_cons (ps_set (i := 6) sc_entry_in.nd rfl (Or.inl rfl) (pe_cal (cal_number_in (K := K) T) hr (by decide) (by rfl) (pa_cons (pe_ix (ix_listK (K := K) rfl) (pv 3) pe_int (fun _ _ => rfl)) (pa_cons (pe_glob (v := .int 12) rfl (T.i_MOST_FIGURES_webtexts.choose_spec) ⟨_, rfl⟩) pa_nil))))
      (pss_cons (ps_if (PW.pt (pw_or (pt_cmpR op_isN (pv 5) pe_non (nomark _)) (pw_or1 (pt_cmpR op_isN (pv 6) pe_non (nomark _))))) (pss_one (ps_ret pe_non)) pss_nil)
      (pss_cons (ps_if (pt_cmpR op_eq (pv 6) pe_int (nomark _)) (pss_cons (ps_set (i := 7) sc_entry_in.nd rfl (Or.inl rfl) (pe_callB (cr_allK (K := K) rfl rfl) (by rfl) T.m_all bt_all (pa_cons (pe_lc (own := [("entry", 8)]) rfl sc_entry_in.nd (pi_listK (K := K) rfl (pv 1)) (blkOk_by (N := ["word", "entries", "many", "parts", "least", "hub", "long", "is_first", "entry", "places"]) (sc := defScope (top 80)) (by decide +kernel)) (fun _ _ _ _ _ => (pg_name (i := 8) sc_entry_in.nd rfl (Or.inl rfl))) (fun _ _ _ _ _ => pts_nil) (fun _ _ _ _ _ => (pe_cmpR op_gt (pe_ix (ix_tupK (K := K) rfl) (pv 8) pe_int (fun _ _ => rfl)) pe_int (nomark _)))) pa_nil)))
      (pss_one (ps_ret (pe_ifExp (PW.pt (pw_and (pt_cmpR (op_eqDK (K := K) rfl hr.units) (pe_slice (sl_listK (K := K) rfl) (pv 3) (po_some pe_int) po_none) (pe_lst (pa_cons pe_str (pa_cons pe_str pa_nil))) (nomark _)) (pw_and1 (pt_val (pv 7))))) (pe_tup (pa_cons (pv 5) (pa_cons pe_int (pa_cons pe_non (pa_cons pe_non pa_nil))))) pe_non)))) pss_nil)
      (pss_cons (ps_set (i := 9) sc_entry_in.nd rfl (Or.inl rfl) (pe_tup (pa_cons (pe_cal (cal_place_in (K := K) T) hr (by decide) (by rfl) (pa_cons (pe_ix (ix_listK (K := K) rfl) (pv 3) pe_int (fun _ _ => rfl)) (pa_cons pe_int (pa_cons (pv 2) pa_nil)))) (pa_cons (pe_cal (cal_place_in (K := K) T) hr (by decide) (by rfl) (pa_cons (pe_ix (ix_listK (K := K) rfl) (pv 3) pe_int (fun _ _ => rfl)) (pa_cons pe_int (pa_cons (pv 2) pa_nil)))) pa_nil))))
      (pss_one (ps_ret (pe_ifExp (pt_cmpR (op_inK (K := K) rfl) pe_non (pv 9) (by rfl)) pe_non (pe_op (op_catTK (K := K) rfl) (pe_tup (pa_cons (pv 5) (pa_cons (pv 6) pa_nil))) (pv 9)))))))))))))), ?_⟩
  have sm := go.sm
  have hmo := go.most
  have hfe := go.few
  refine q_setN (K := K) (evn_split (ws := entWs e) (evd_var rfl h1) (evd_cS s_colon) (by decide) (by have := entL_len sm; omega) (split_ent e)) fun p xs H1 np e1 hp dp => ?_
  have hp1 : Dp K H1 (.ref p) (.list ((entWs e).map strD)) := dp_locD hp dp
  have part : ∀ {H'} (_ : Ex H1 H') {σ : Ks} {j : Nat} {l : List Nat}, σ[3]? = some (some (.ref p)) → (entWs e)[j]? = some l → EvD K (tOp (rIxL K) (tVar 3) (tC (.int (j : Int)))) σ H' (strD l) := fun {H'} e' {σ j l} hs hj => evd_atL (f := strD) (evd_var hs (Dpx hp1 e')) (evd_cn j) hj
  refine d_when (b := !decide (((4 : Nat) : Int) = 4)) (et_test (ev_neI (ev_lenL (ds := (entWs e).map strD) (evd_var rfl hp1)) ev_c)) (fun z => by cases z) fun _ H2 e2 => ?_
  refine d_set (evd_cn (K := K) 0) fun vl0 H3 e3 hl0 => ?_
  have ev0 : vl0 = .int ((0 : Nat) : Int) := dp_n hl0
  subst ev0
  have e13 := e2.trans e3
  have eH3 := e1.trans e13
  obtain ⟨lo, hlo, hlast, hnil⟩ : ∃ lo : Nat, lo ≤ e.hub ∧ (∀ l a, es = l ++ [a] → lo = a.hub + 1) ∧ (es = [] → lo = 0) := by
    rcases List.eq_nil_or_concat es with h | ⟨l, a, h⟩
    · exact ⟨0, Nat.zero_le _, fun l a q => by rw [h] at q; exact absurd q.symm (by simp), fun _ => rfl⟩
    · rw [List.concat_eq_append] at h
      refine ⟨a.hub + 1, go.last a (by rw [h]; simp), fun l' a' q => ?_, fun q => by rw [h] at q; exact absurd q (by simp)⟩
      rw [h] at q
      have := (List.append_inj' q rfl).2
      simp at this
      rw [this]
  refine q_ifset (K := K) (lo := lo) (b := !es.isEmpty) (et_test (ev_is (ev_neNil (evd_var rfl (Dpx h2 eH3)) ((shp_lst (shp_map shp_ent es)).sh (by decide))) (by simp))) (fun hb => ?_) (fun hb => ?_) fun H4 e4 => ?_
  · rcases List.eq_nil_or_concat es with h | ⟨l, a, h⟩
    · rw [h] at hb; cases hb
    · rw [List.concat_eq_append] at h
      rw [hlast l a h]
      have h2' := Dpx h2 eH3
      rw [h, List.map_append] at h2'
      exact evd_add (a := a.hub) (b := 1) (evd_i0 (evd_ixL (d := entD a) (evd_var rfl h2') (ev_neg (i := 1) ev_c) ixD_last)) (evd_cn 1)
  · rw [hnil (by simpa using hb)]
    rfl
  have e14 := e13.trans e4
  have eH4 := e1.trans e14
  refine d_set (evd_call (evds_cons (part (j := 0) e14 rfl rfl) (evds_cons (evd_var rfl (.int _)) (evds_cons (evd_var rfl (Dpx h3 eH4)) evds_nil))) ⟨e.hub, lo, many, sm.hub, hlo, go.hub, rfl, rfl⟩) fun vh H5 e5 hh => ?_
  have e15 := e14.trans e5
  refine d_set (evd_call (evds_cons (part (j := 1) e15 rfl rfl) (evds_cons (evd_cn 12) evds_nil)) ⟨e.long, 12, sm.long, by decide, by decide, rfl, rfl⟩) fun vl H6 e6 hl => ?_
  have e16 := e15.trans e6
  have hh6 := Dpx hh e6
  refine d_when (b := false || false) (et_or (a := false) (et_test (ev_isNO (o := some e.hub) (evd_var rfl hh6))) fun _ => et_test (ev_isNO (o := some e.long) (evd_var rfl hl))) (fun z => by cases z) fun _ H7 e7 => ?_
  have e17 := e16.trans e7
  have eH7 := e1.trans e17
  have hh7 := Dpx hh6 e7
  have hl7 := Dpx hl e7
  refine d_when (b := decide (e.long = 0)) (et_test (ev_eqN (evd_var rfl hl7) (evd_cn 0))) (fun hz H8 e8 => ?_) fun hz H8 e8 => ?_
  · rw [decide_eq_true_eq] at hz
    obtain ⟨u1, u2, hpos⟩ := go.zero hz
    have e18 := e17.trans e8
    have eH8 := e1.trans e18
    refine d_set (K := K) (evd_bool (ev_is (ev_allM (K := K) (f := fun _ => true) (l := es) (evn_lcB (enc := entD) (l := es) (fun _ => .bool true) (evi_varL rfl (Dpx h2 eH8)).j (by omega) (fun _ _ => rfl) fun a x H9 P ha e9 dx q => ?_).toD) (by rw [all_true]))) fun vf H9 e9 hf => ?_
    · refine q _ rfl (evd_bool (ev_is (ev_gt (ev_n (evd_i1 (evd_var rfl dx))) ev_c) ?_))
      have := hpos a ha
      rw [decide_eq_true (show (0 : Int) < (a.long : Int) by omega)]
    · have e19 := e18.trans e9
      have hws : entWs e = [TL.numL e.hub, TL.numL e.long, [45], [45]] := by unfold entWs; rw [u1, u2]; rfl
      have sh : SeqAt.shaped (.list [strD [45], strD [45]]) = true := by decide +kernel
      have esl : EvD K (tSl (rSlL K) (tVar 3) (tPart (tC (.int 2))) tNoPart) [some v1, some v2, some v3, some (.ref p), some (.int (lo : Int)), some vh, some vl, some vf, none, none] H9 (.list [strD [45], strD [45]]) := by
        have q := evd_slL (K := K) (σ := [some v1, some v2, some v3, some (.ref p), some (.int (lo : Int)), some vh, some vl, some vf, none, none]) (l := some 2) (u := none) (evd_var (i := 3) rfl (Dpx hp1 e19)) (evo_some ev_c) evo_none
        rw [hws] at q
        exact q
      have ent0 : entD e = .tuple [nD e.hub, nD 0, .none, .none] := by unfold entD; rw [hz, u1, u2]; rfl
      rw [ent0] at k
      refine d_ret (evd_if (b := true && true) (et_and (a := true) (et_test (ev_is (ev_eqD esl (evd_lst (evds_cons (evd_cS s_dash) (evds_cons (evd_cS s_dash) evds_nil)) (by show 2 ≤ 100000; decide)) sh sh) (by rw [SeqAt.eqv_refl _ (SeqAt.canLay_of_shaped sh)]))) fun _ => et_test (ev_bool (evd_var rfl hf))) (fun _ => evd_tup (evds_cons (evd_var rfl (Dpx hh7 (e8.trans e9))) (evds_cons (evd_cn 0) (evds_cons (evd_non (K := K)) (evds_cons (evd_non (K := K)) evds_nil)))) (by show 4 ≤ 100000; decide)) fun z => by cases z) fun v H10 e10 d10 => k v H10 ((e1.trans e19).trans e10) d10
  · rw [decide_eq_false_iff_not] at hz
    obtain ⟨a, b, u1, u2, ha, hb⟩ := go.ups hz
    have e18 := e17.trans e8
    have eH8 := e1.trans e18
    have p2 : (entWs e)[2]? = some (TL.numL a) := by unfold entWs; rw [u1]; rfl
    have p3 : (entWs e)[3]? = some (TL.numL b) := by unfold entWs; rw [u2]; rfl
    refine d_set (d := .tuple ([some a, some b].map optD)) (evd_tup (evds_cons (evd_call (evds_cons (part (j := 2) e18 rfl p2) (evds_cons (evd_cn 0) (evds_cons (evd_var rfl (Dpx h3 eH8)) evds_nil))) ⟨a, 0, many, sm.up a u1, Nat.zero_le _, ha, rfl, rfl⟩) (evds_cons (evd_call (evds_cons (part (j := 3) e18 rfl p3) (evds_cons (evd_cn 0) (evds_cons (evd_var rfl (Dpx h3 eH8)) evds_nil))) ⟨b, 0, many, sm.down b u2, Nat.zero_le _, hb, rfl, rfl⟩) evds_nil)) (by show 2 ≤ 100000; decide)) fun vp H9 e9 hpl => ?_
    have e19 := e18.trans e9
    refine d_ret (evd_if (b := false) (et_test (ev_is (ev_noneInT (l := [some a, some b]) (evd_var rfl hpl)) rfl)) (fun z => by cases z) fun _ => EvD.to (evd_catT (a := nD e.hub) (ds := [nD e.long]) (b := optD (some a)) (es := [optD (some b)]) (evd_tup (evds_cons (evd_var rfl (Dpx hh7 (e8.trans e9))) (evds_cons (evd_var rfl (Dpx hl7 (e8.trans e9))) evds_nil)) (by show 2 ≤ 100000; decide)) (evd_var rfl hpl) (by show 4 ≤ 100000; decide)) ?_) fun v H10 e10 d10 => k v H10 ((e1.trans e19).trans e10) d10
    unfold entD
    rw [u1, u2]
    rfl
end
end Lw
namespace Lw
open PySem PySem.Spec PyProof.Rows L2 Evl LwM SX
/-! ### methods -/
section
variable {P : Program} {w : World} {K : Fg} {mg : Str → Option Value} {base : Heap}
theorem met_sp {C f : Addr} {m qual : Str} {st : Stmt} {N ps : List Str} {k : Nat} {sp : Sp} (c : Cls K C) (me : Meth K C m f) (F : ∃ fd, FunD K m qual (defArgs st) (defBody st) (defScope st) [] [] f fd) (S : FnScope N ps (defScope st))
    (hb : ∀ (kV doc pm : Value) (an : Option Addr) (cdv ct : Value) (us : List Value), us.length = ps.length → bindArgs (PySem.W.fnOf m qual (defArgs st) (defBody st) (defScope st) .none kV doc pm an cdv ct) ⟨us, []⟩ = pure (ps.zip us))
    (hl : ∀ vs H Q E, sp vs H Q E → vs.length = ps.length)
    (body : ∀ (cdv : Value) (A : Around) (outer : List Env) (s : Shared) (H : Hp) (vs : List V) (Q : VK) (E : XK), Room k (A.deeper (envOfC qual (defScope st) s.heap.objs.size f cdv)) → sp vs H Q E →
      ∃ t, PSs (cxOf CX0 P w K mg base N qual (defScope st) f cdv A outer s H E).nox (defBody st) t ∧ t { nx := fun _ H' => Q .non H', rt := Q } (start N vs) H) : C8.Met P w K mg base (k + 1) C m sp [] := by
  obtain ⟨fd, F⟩ := F
  refine ⟨f, fd, ps, [], c, me, FunD.ok F S hl fun cdv A outer s H vs Q E hr h => ?_, F.bindsN hb, .nil⟩
  obtain ⟨t, h1, h2⟩ := body cdv A outer s H vs Q E hr h
  exact ⟨t, h1.nox, h2⟩
theorem mak_sp {C f : Addr} {x qual : Str} {st : Stmt} {N ps : List Str} {k : Nat} {sp : Sp} (M : Mk K C f) (hm : mg x = some (.ref C)) (F : ∃ fd, FunD K "__init__" qual (defArgs st) (defBody st) (defScope st) [] [] f fd) (S : FnScope N ps (defScope st))
    (hb : ∀ (kV doc pm : Value) (an : Option Addr) (cdv ct : Value) (us : List Value), us.length = ps.length → bindArgs (PySem.W.fnOf "__init__" qual (defArgs st) (defBody st) (defScope st) .none kV doc pm an cdv ct) ⟨us, []⟩ = pure (ps.zip us))
    (hl : ∀ vs H Q E, sp vs H Q E → vs.length = ps.length)
    (body : ∀ (cdv : Value) (A : Around) (outer : List Env) (s : Shared) (H : Hp) (vs : List V) (Q : VK) (E : XK), Room k (A.deeper (envOfC qual (defScope st) s.heap.objs.size f cdv)) → sp vs H Q E →
      ∃ t, PSs (cxOf CX0 P w K mg base N qual (defScope st) f cdv A outer s H E).nox (defBody st) t ∧ t { nx := fun _ H' => Q .non H', rt := Q } (start N vs) H) : C8.Mak P w K mg base (k + 1) x C sp [] := by
  obtain ⟨fd, F⟩ := F
  refine ⟨f, fd, ps, [], M, FunD.ok F S hl fun cdv A outer s H vs Q E hr h => ?_, hm, F.bindsN hb, .nil⟩
  obtain ⟨t, h1, h2⟩ := body cdv A outer s H vs Q E hr h
  exact ⟨t, h1.nox, h2⟩
end
/-! ### a Line -/
def lnF (num : Nat) (wl : Addr) (k : Nat) : List (Str × V) := [("number_here", .int (num : Int)), ("words_here", .ref wl), ("place_here", .int (k : Int))]
def LnAt (K : Fg) (H : Hp) (a : Addr) (num : Nat) (wl : Addr) (ws : List (List Nat)) (k : Nat) : Prop := ∃ dx, H a = some (.ins (He.ga K "Line") dx (lnF num wl k)) ∧ H wl = some (.lst ((ws.map S).map V.str))
def KeepBut (a : Addr) (H H' : Hp) : Prop := ∀ b o, b ≠ a → H b = some o → H' b = some o
theorem KeepBut.trans {a : Addr} {H H1 H2 : Hp} (h : KeepBut a H H1) (k : KeepBut a H1 H2) : KeepBut a H H2 := fun b o n e => k b o n (h b o n e)
theorem KeepBut.ex {a : Addr} {H H1 : Hp} (h : Ex H H1) : KeepBut a H H1 := fun b o _ e => h b o e
theorem KeepBut.upd {a : Addr} {H : Hp} {o : HO} : KeepBut a H (upd H a o) := fun b u n e => by rw [upd_ne n]; exact e
theorem KeepBut.back {a : Addr} {G H H' : Hp} (h : KeepBut a H H') (e : Ex G H) (n : G a = none) : Ex G H' := fun b o q => h b o (fun z => by rw [z, n] at q; cases q) (e b o q)
theorem LnAt.mono {K : Fg} {H H' : Hp} {a wl : Addr} {num k : Nat} {ws : List (List Nat)} (h : LnAt K H a num wl ws k) (e : Ex H H') : LnAt K H' a num wl ws k := by
  obtain ⟨dx, h1, h2⟩ := h
  exact ⟨dx, e _ _ h1, e _ _ h2⟩
section
variable {K : Fg} {σ : Ks} {H H' : Hp} {ta tb te tx : TE} {t : TT} {d e : PyData} {ds es : List PyData} {a wl : Addr} {num k i : Nat} {ws : List (List Nat)}
theorem lnF_num : List.lookup ("number_here" : Str) (lnF num wl k) = some (.int (num : Int)) := rfl
theorem lnF_words : List.lookup ("words_here" : Str) (lnF num wl k) = some (.ref wl) := rfl
theorem lnF_place : List.lookup ("place_here" : Str) (lnF num wl k) = some (.int (k : Int)) := rfl
section
variable {w : World} {mg : Str → Option Value} (T : Txt w K mg)
include T
theorem ev_lnNum (hs : σ[i]? = some (some (.ref a))) (h : LnAt K H a num wl ws k) : Ev (tFld K (tVar i) "number_here") σ H (.int (num : Int)) := fun H1 e Q q => by
  obtain ⟨dx, h1, h2⟩ := h
  exact ⟨_, hs, a, _, dx, _, _, rfl, e _ _ h1, T.c_Line, T.n_Line_number_here, lnF_num, q H1 (Ex.refl _)⟩
theorem ev_lnPlace (hs : σ[i]? = some (some (.ref a))) (h : LnAt K H a num wl ws k) : Ev (tFld K (tVar i) "place_here") σ H (.int (k : Int)) := fun H1 e Q q => by
  obtain ⟨dx, h1, h2⟩ := h
  exact ⟨_, hs, a, _, dx, _, _, rfl, e _ _ h1, T.c_Line, T.n_Line_place_here, lnF_place, q H1 (Ex.refl _)⟩
theorem evd_lnWords (hs : σ[i]? = some (some (.ref a))) (h : LnAt K H a num wl ws k) : EvD K (tFld K (tVar i) "words_here") σ H (.list (ws.map strD)) := fun H1 e Q q => by
  obtain ⟨dx, h1, h2⟩ := h
  exact ⟨_, hs, a, _, dx, _, _, rfl, e _ _ h1, T.c_Line, T.n_Line_words_here, lnF_words, q _ H1 (Ex.refl _) (.lst (sq_of (e _ _ h2)) (S_dps ws))⟩
end
end
section
variable {P : Program} {w : World} {K : Fg} {mg : Str → Option Value} {base : Heap}
/-! Line(number, text) -/
def spLnI (K : Fg) : Sp := fun vs H Q _ => ∃ (a dx : Addr) (num : Nat) (x : List Nat) (ws : List (List Nat)), vs = [.ref a, .int (num : Int), .str (S x)] ∧ H a = some (.ins (He.ga K "Line") dx []) ∧ x.length ≤ 99000 ∧ Txt.split (S x) (S [32]) = ws.map S ∧ ∀ wl H', H wl = none → KeepBut a H H' → LnAt K H' a num wl ws 0 → Q .non H'
theorem sc_Line_init : FnScope ["self", "number", "text"] ["self", "number", "text"] (defScope (inClass (top 71) 0)) := ⟨rfl, rfl, rfl, by decide +kernel, rfl, by decide +kernel, by decide +kernel⟩
theorem mk_Line (T : Txt w K mg) : C8.Mak P w K mg base 1 "Line" (He.ga K "Line") (spLnI K) [] := by
  refine mak_sp T.k_Line T.g_Line T.f_Line_init sc_Line_init (fun _ _ _ _ _ _ us hl => match us, hl with | [_, _, _], _ => rfl) (fun vs H Q E h => by obtain ⟨_, _, _, _, _, rfl, _⟩ := h; rfl) fun cdv A outer s H vs Q E hr h => ?_
  obtain ⟨a, dx, num, x, ws, rfl, ha, hx, hsp, k⟩ := h
  refine ⟨_, (pss_cons (ps_fld (pv 0) (pv 1) rfl)
      (pss_cons (ps_fld (pv 0) (pe_split (pv 2) pe_str) rfl)
      (pss_one (ps_fld (pv 0) pe_int rfl)))), ?_⟩
  refine ⟨_, rfl, _, rfl, a, _, dx, _, rfl, ha, T.c_Line, T.n_Line_number_here, by decide, ?_⟩
  refine (evn_split (K := K) (ws := ws) (sep := [32]) (x := x) (H := upd H a (.ins (He.ga K "Line") dx (putF "number_here" (.int (num : Int)) []))) (evd_var (d := strD x) rfl (.str _)) (evd_cS s_blank) (by decide) hx hsp) _ (Ex.refl _) _ fun wl xs H1 hwl e1 hw dw => ?_
  have hw2 := dps_S dw
  subst hw2
  have h1a := e1 _ _ (upd_same (H := H) (a := a) (o := .ins (He.ga K "Line") dx (putF "number_here" (.int (num : Int)) [])))
  refine ⟨_, rfl, a, _, dx, _, rfl, h1a, T.c_Line, T.n_Line_words_here, (by show 1 < 1000; decide), ?_⟩
  refine ⟨_, rfl, a, _, dx, _, rfl, upd_same, T.c_Line, T.n_Line_place_here, (by show 2 < 1000; decide), ?_⟩
  have ne : wl ≠ a := fun z => by
    rw [z, h1a] at hw
    cases hw
  refine k wl _ (by rw [upd_ne ne] at hwl; exact hwl) ((KeepBut.upd.trans (KeepBut.ex e1)).trans (KeepBut.upd.trans KeepBut.upd)) ⟨dx, upd_same, ?_⟩
  rw [upd_ne ne, upd_ne ne]
  exact hw
/-! is_over -/
def spOver (K : Fg) : Sp := fun vs H Q _ => ∃ (a wl : Addr) (num : Nat) (ws : List (List Nat)) (k : Nat), vs = [.ref a] ∧ LnAt K H a num wl ws k ∧ ∀ H', Ex H H' → Q (.bl (decide (k = ws.length))) H'
theorem sc_Line_is_over : FnScope ["self"] ["self"] (defScope (inClass (top 71) 2)) := ⟨rfl, rfl, rfl, by decide +kernel, rfl, by decide +kernel, by decide +kernel⟩
theorem met_is_over (T : Txt w K mg) : C8.Met P w K mg base 1 (He.ga K "Line") "is_over" (spOver K) [] := by
  refine met_sp T.c_Line T.y_Line_is_over T.f_Line_is_over sc_Line_is_over (fun _ _ _ _ _ _ us hl => match us, hl with | [_], _ => rfl) (fun vs H Q E h => by obtain ⟨_, _, _, _, _, rfl, _⟩ := h; rfl) fun cdv A outer s H vs Q E hr h => ?_
  obtain ⟨a, wl, num, ws, k, rfl, h, kk⟩ := h
  refine ⟨_, (pss_one (ps_ret (pe_cmpR op_eq (pe_fld (pv 0) rfl) (pe_callB (call_lenK (K := K) rfl) (by rfl) T.m_len bt_len (pa_cons (pe_fld (pv 0) rfl) pa_nil)) (nomark _)))), ?_⟩
  have q := ev_eqI (ev_lnPlace T (σ := [some (.ref a)]) (i := 0) rfl h) (ev_lenL (evd_lnWords T (σ := [some (.ref a)]) (i := 0) rfl h))
  rw [List.length_map, show decide ((k : Int) = (ws.length : Int)) = decide (k = ws.length) from decide_eq_decide.mpr (by omega)] at q
  exact q H (Ex.refl _) _ fun H1 e1 => kk H1 e1
theorem lk_over {num k : Nat} {wl : Addr} : List.lookup ("is_over" : Str) (lnF num wl k) = none := rfl
theorem ev_over {K : Fg} {σ : Ks} {H : Hp} {i num k : Nat} {a wl : Addr} {ws : List (List Nat)} (hs : σ[i]? = some (some (.ref a))) (h : LnAt K H a num wl ws k) : Ev (tMeth (He.ga K "Line") "is_over" (spOver K) [] E0 (tVar i) tNil) σ H (.bl (decide (k = ws.length))) := fun H1 e Q q => by
  obtain ⟨dx, h1, h2⟩ := id h
  exact ⟨_, hs, a, dx, _, rfl, e _ _ h1, lk_over, a, wl, num, ws, k, rfl, h.mono e, fun H2 e2 => q H2 e2⟩
/-! next_word -/
def spNext (K : Fg) : Sp := fun vs H Q _ => ∃ (a wl : Addr) (num : Nat) (ws : List (List Nat)) (k : Nat) (x : List Nat), vs = [.ref a] ∧ LnAt K H a num wl ws k ∧ ws[k]? = some x ∧ ∀ H', Ex H H' → Q (.str (S x)) H'
theorem sc_Line_next_word : FnScope ["self"] ["self"] (defScope (inClass (top 71) 3)) := ⟨rfl, rfl, rfl, by decide +kernel, rfl, by decide +kernel, by decide +kernel⟩
theorem met_next_word (T : Txt w K mg) : C8.Met P w K mg base 2 (He.ga K "Line") "next_word" (spNext K) [] := by
  refine met_sp T.c_Line T.y_Line_next_word T.f_Line_next_word sc_Line_next_word (fun _ _ _ _ _ _ us hl => match us, hl with | [_], _ => rfl) (fun vs H Q E h => by obtain ⟨_, _, _, _, _, _, rfl, _⟩ := h; rfl) fun cdv A outer s H vs Q E hr h => ?_
  obtain ⟨a, wl, num, ws, k, x, rfl, h, hx, kk⟩ := h
  refine ⟨_, (pss_cons (ps_if (pt_val (C8.pe_mt0 (met_is_over (K := K) T) hr (by decide) (pv 0))) (pss_one ps_never) pss_nil)
      (pss_one (ps_ret (pe_ix (ix_listK (K := K) rfl) (pe_fld (pv 0) rfl) (pe_fld (pv 0) rfl) (fun _ _ => rfl))))), ?_⟩
  have hk : ¬ k = ws.length := by
    have := (List.getElem?_eq_some_iff.mp hx).1
    omega
  refine d_when (b := decide (k = ws.length)) (et_test (ev_over (K := K) rfl h)) (fun z => by rw [decide_eq_false hk] at z; cases z) fun _ H1 e1 => ?_
  exact d_ret (evd_atL (f := strD) (evd_lnWords T rfl (h.mono e1)) (evd_int (ev_lnPlace T rfl (h.mono e1))) hx) fun v H2 e2 d2 => by
    rw [dp_S d2]
    exact kk H2 (e1.trans e2)
theorem lk_next {num k : Nat} {wl : Addr} : List.lookup ("next_word" : Str) (lnF num wl k) = none := rfl
theorem evd_next {K : Fg} {σ : Ks} {H : Hp} {i num k : Nat} {a wl : Addr} {ws : List (List Nat)} {x : List Nat} (hs : σ[i]? = some (some (.ref a))) (h : LnAt K H a num wl ws k) (hx : ws[k]? = some x) : EvD K (tMeth (He.ga K "Line") "next_word" (spNext K) [] E0 (tVar i) tNil) σ H (strD x) := fun H1 e Q q => by
  obtain ⟨dx, h1, h2⟩ := id h
  exact ⟨_, hs, a, dx, _, rfl, e _ _ h1, lk_next, a, wl, num, ws, k, x, rfl, h.mono e, hx, fun H2 e2 => q _ H2 e2 (.str _)⟩
/-! take -/
def spTake (K : Fg) : Sp := fun vs H Q _ => ∃ (a wl : Addr) (num : Nat) (ws : List (List Nat)) (k : Nat), vs = [.ref a, .bl true] ∧ LnAt K H a num wl ws k ∧ ∀ H', KeepBut a H H' → LnAt K H' a num wl ws (k + 1) → Q .non H'
theorem sc_Line_take : FnScope ["self", "is_good"] ["self", "is_good"] (defScope (inClass (top 71) 4)) := ⟨rfl, rfl, rfl, by decide +kernel, rfl, by decide +kernel, by decide +kernel⟩
theorem met_take (T : Txt w K mg) : C8.Met P w K mg base 1 (He.ga K "Line") "take" (spTake K) [] := by
  refine met_sp T.c_Line T.y_Line_take T.f_Line_take sc_Line_take (fun _ _ _ _ _ _ us hl => match us, hl with | [_, _], _ => rfl) (fun vs H Q E h => by obtain ⟨_, _, _, _, _, rfl, _⟩ := h; rfl) fun cdv A outer s H vs Q E hr h => ?_
  obtain ⟨a, wl, num, ws, k, rfl, h, kk⟩ := h
  refine ⟨_, (pss_cons (ps_if (pt_not (pt_val (pv 1))) (pss_one ps_never) pss_nil)
      (pss_one (ps_fld (pv 0) (pe_op op_add (pe_fld (pv 0) rfl) pe_int) rfl))), ?_⟩
  refine d_when (b := !true) (et_not (et_test (ev_bool (K := K) (evd_var rfl (.bl true))))) (fun z => by cases z) fun _ H1 e1 => ?_
  have hL := h.mono e1
  refine ev_add (ev_lnPlace T rfl hL) ev_c H1 (Ex.refl _) _ fun H2 e2 => ?_
  obtain ⟨dx, h1, h2⟩ := hL.mono e2
  refine ⟨_, rfl, a, _, dx, _, rfl, h1, T.c_Line, T.n_Line_place_here, (by show 3 < 1000; decide), ?_⟩
  have ne : wl ≠ a := fun z => by
    rw [z, h1] at h2
    cases h2
  refine kk _ ((KeepBut.ex (e1.trans e2)).trans KeepBut.upd) ⟨dx, ?_, by rw [upd_ne ne]; exact h2⟩
  rw [upd_same]
  rfl
theorem lk_take {num k : Nat} {wl : Addr} : List.lookup ("take" : Str) (lnF num wl k) = none := rfl
/-- self.take(good) as a statement -/
theorem q_take {K : Fg} {σ : Ks} {H : Hp} {i num k : Nat} {a wl : Addr} {ws : List (List Nat)} {tb : TE} {D : Ends} {tz : TS} (hs : σ[i]? = some (some (.ref a))) (h : LnAt K H a num wl ws k) (hb : Ev tb σ H (.bl true)) (kk : ∀ H', KeepBut a H H' → LnAt K H' a num wl ws (k + 1) → tz D σ H') :
    tSeq (tDrop (tMeth (He.ga K "Line") "take" (spTake K) [] E0 (tVar i) (tCons tb tNil))) tz D σ H := by
  obtain ⟨dx, h1, h2⟩ := id h
  exact ⟨_, hs, a, dx, _, rfl, h1, lk_take, hb H (Ex.refl _) _ fun H1 e1 => ⟨a, wl, num, ws, k, rfl, h.mono e1, fun H2 k2 hL => kk H2 ((KeepBut.ex e1).trans k2) hL⟩⟩
/-! take_word -/
def spTakeW (K : Fg) : Sp := fun vs H Q _ => ∃ (a wl : Addr) (num : Nat) (ws : List (List Nat)) (k : Nat) (x : List Nat), vs = [.ref a, .str (S x)] ∧ LnAt K H a num wl ws k ∧ ws[k]? = some x ∧ ∀ H', KeepBut a H H' → LnAt K H' a num wl ws (k + 1) → Q .non H'
theorem sc_Line_take_word : FnScope ["self", "word"] ["self", "word"] (defScope (inClass (top 71) 5)) := ⟨rfl, rfl, rfl, by decide +kernel, rfl, by decide +kernel, by decide +kernel⟩
theorem met_take_word (T : Txt w K mg) : C8.Met P w K mg base 3 (He.ga K "Line") "take_word" (spTakeW K) [] := by
  refine met_sp T.c_Line T.y_Line_take_word T.f_Line_take_word sc_Line_take_word (fun _ _ _ _ _ _ us hl => match us, hl with | [_, _], _ => rfl) (fun vs H Q E h => by obtain ⟨_, _, _, _, _, _, rfl, _⟩ := h; rfl) fun cdv A outer s H vs Q E hr h => ?_
  obtain ⟨a, wl, num, ws, k, x, rfl, h, hx, kk⟩ := h
  refine ⟨_, (pss_one (ps_expr (C8.pe_mt (met_take (K := K) T) hr (by decide) (pv 0) (pa_cons (pe_cmpR op_eq (C8.pe_mt0 (met_next_word (K := K) T) hr (by decide) (pv 0)) (pv 1) (nomark _)) pa_nil)))), ?_⟩
  exact q_take (K := K) (D := { nx := fun _ H' => Q .non H', rt := Q }) (tz := fun D => D.nx) rfl h (ev_is (ev_eqT (K := K) (evd_next rfl h hx) (evd_var rfl (.str _))) (by rw [decide_eq_true rfl])) fun H' k1 hL => kk H' k1 hL
theorem lk_takeW {num k : Nat} {wl : Addr} : List.lookup ("take_word" : Str) (lnF num wl k) = none := rfl
theorem q_takeW {K : Fg} {σ : Ks} {H : Hp} {i num k : Nat} {a wl : Addr} {ws : List (List Nat)} {x : List Nat} {tb : TE} {D : Ends} {tz : TS} (hs : σ[i]? = some (some (.ref a))) (h : LnAt K H a num wl ws k) (hb : EvD K tb σ H (strD x)) (hx : ws[k]? = some x) (kk : ∀ H', KeepBut a H H' → LnAt K H' a num wl ws (k + 1) → tz D σ H') :
    tSeq (tDrop (tMeth (He.ga K "Line") "take_word" (spTakeW K) [] E0 (tVar i) (tCons tb tNil))) tz D σ H := by
  obtain ⟨dx, h1, h2⟩ := id h
  exact ⟨_, hs, a, dx, _, rfl, h1, lk_takeW, hb H (Ex.refl _) _ fun v H1 e1 d1 => by
    rw [dp_S d1]
    exact ⟨a, wl, num, ws, k, x, rfl, h.mono e1, hx, fun H2 k2 hL => kk H2 ((KeepBut.ex e1).trans k2) hL⟩⟩
/-! take_number -/
def spTakeN (K : Fg) : Sp := fun vs H Q _ => ∃ (a wl : Addr) (num : Nat) (ws : List (List Nat)) (k n : Nat) (lo hi : Int), vs = [.ref a, .int lo, .int hi] ∧ LnAt K H a num wl ws k ∧ ws[k]? = some (TL.numL n) ∧ n ≤ 9999 ∧ lo ≤ n ∧ (n : Int) ≤ hi ∧ ∀ H', KeepBut a H H' → LnAt K H' a num wl ws (k + 1) → Q (.int (n : Int)) H'
theorem sc_Line_take_number : FnScope ["self", "least", "most", "number"] ["self", "least", "most"] (defScope (inClass (top 71) 6)) := ⟨rfl, rfl, rfl, by decide +kernel, rfl, by decide +kernel, by decide +kernel⟩
theorem met_take_number (T : Txt w K mg) : C8.Met P w K mg base 3 (He.ga K "Line") "take_number" (spTakeN K) [] := by
  refine met_sp T.c_Line T.y_Line_take_number T.f_Line_take_number sc_Line_take_number (fun _ _ _ _ _ _ us hl => match us, hl with | [_, _, _], _ => rfl) (fun vs H Q E h => by obtain ⟨_, _, _, _, _, _, _, _, rfl, _⟩ := h; rfl) fun cdv A outer s H vs Q E hr h => ?_
  obtain ⟨a, wl, num, ws, k, n, lo, hi, rfl, h, hx, hn, hlo, hhi, kk⟩ := h
  refine ⟨_, (pss_cons (ps_set (i := 3) sc_Line_take_number.nd rfl (Or.inl rfl) (pe_cal (cal_number_in (K := K) T) hr (by decide) (by rfl) (pa_cons (C8.pe_mt0 (met_next_word (K := K) T) hr (by decide) (pv 0)) (pa_cons (pe_glob (v := .int 12) rfl (T.i_MOST_FIGURES_webtexts.choose_spec) ⟨_, rfl⟩) pa_nil))))
      (pss_cons (ps_expr (C8.pe_mt (met_take (K := K) T) hr (by decide) (pv 0) (pa_cons (pe_and (pe_cmpR op_notN (pv 3) pe_non (nomark _)) (pe_one (pe_chain op_le op_le (pv 1) (pv 3) (pv 2)))) pa_nil)))
      (pss_one (ps_ret (pv 3))))), ?_⟩
  refine d_set (evd_call (evds_cons (evd_next rfl h hx) (evds_cons (evd_cn 12) evds_nil)) ⟨n, 12, hn, by decide, by decide, rfl, rfl⟩) fun vn H1 e1 hnn => ?_
  have en := dp_n hnn
  subst en
  refine q_take (K := K) rfl (h.mono e1) (ev_is (ev_andV (a := true) (b := decide (lo ≤ (n : Int)) && decide ((n : Int) ≤ hi)) (ev_notNO (K := K) (o := some n) (evd_var rfl (.int _))) fun _ => ev_chain (ev_int (K := K) (evd_var rfl (.int _))) (ev_int (K := K) (evd_var rfl (.int _))) (ev_int (K := K) (evd_var rfl (.int _)))) (by rw [decide_eq_true hlo, decide_eq_true hhi]; rfl)) fun H' k1 hL => ?_
  exact ⟨_, rfl, kk H' ((KeepBut.ex e1).trans k1) hL⟩
theorem lk_takeN {num k : Nat} {wl : Addr} : List.lookup ("take_number" : Str) (lnF num wl k) = none := rfl
theorem q_takeN {K : Fg} {σ : Ks} {H : Hp} {i j num k n : Nat} {a wl : Addr} {ws : List (List Nat)} {lo hi : Int} {tb tc : TE} {D : Ends} {tz : TS} (hs : σ[i]? = some (some (.ref a))) (h : LnAt K H a num wl ws k) (hb : Ev tb σ H (.int lo)) (hc : Ev tc σ H (.int hi)) (hx : ws[k]? = some (TL.numL n)) (hn : n ≤ 9999) (hlo : lo ≤ n) (hhi : (n : Int) ≤ hi)
    (kk : ∀ H', KeepBut a H H' → LnAt K H' a num wl ws (k + 1) → tz D (σ.set j (some (.int (n : Int)))) H') :
    tSeq (tAsg (tMeth (He.ga K "Line") "take_number" (spTakeN K) [] E0 (tVar i) (tCons tb (tCons tc tNil))) (gName j)) tz D σ H := by
  obtain ⟨dx, h1, h2⟩ := id h
  exact ⟨_, hs, a, dx, _, rfl, h1, lk_takeN, hb H (Ex.refl _) _ fun H1 e1 => hc H1 e1 _ fun H2 e2 => ⟨a, wl, num, ws, k, n, lo, hi, rfl, h.mono (e1.trans e2), hx, hn, hlo, hhi, fun H3 k3 hL => kk H3 ((KeepBut.ex (e1.trans e2)).trans k3) hL⟩⟩
/-! end -/
def spEnd (K : Fg) : Sp := fun vs H Q _ => ∃ (a wl : Addr) (num : Nat) (ws : List (List Nat)), vs = [.ref a] ∧ LnAt K H a num wl ws ws.length ∧ ∀ H', Ex H H' → Q .non H'
theorem sc_Line_end : FnScope ["self"] ["self"] (defScope (inClass (top 71) 7)) := ⟨rfl, rfl, rfl, by decide +kernel, rfl, by decide +kernel, by decide +kernel⟩
theorem met_end (T : Txt w K mg) : C8.Met P w K mg base 2 (He.ga K "Line") "end" (spEnd K) [] := by
  refine met_sp T.c_Line T.y_Line_end T.f_Line_end sc_Line_end (fun _ _ _ _ _ _ us hl => match us, hl with | [_], _ => rfl) (fun vs H Q E h => by obtain ⟨_, _, _, _, rfl, _⟩ := h; rfl) fun cdv A outer s H vs Q E hr h => ?_
  obtain ⟨a, wl, num, ws, rfl, h, kk⟩ := h
  refine ⟨_, (pss_one (ps_if (pt_not (pt_val (C8.pe_mt0 (met_is_over (K := K) T) hr (by decide) (pv 0)))) (pss_one ps_never) pss_nil)), ?_⟩
  exact d_if1 (b := !decide (ws.length = ws.length)) (et_not (et_test (ev_over (K := K) rfl h))) (fun z => by rw [decide_eq_true rfl] at z; cases z) fun _ H1 e1 => kk H1 e1
theorem lk_end {num k : Nat} {wl : Addr} : List.lookup ("end" : Str) (lnF num wl k) = none := rfl
theorem q_end {K : Fg} {σ : Ks} {H : Hp} {i num : Nat} {a wl : Addr} {ws : List (List Nat)} {D : Ends} {tz : TS} (hs : σ[i]? = some (some (.ref a))) (h : LnAt K H a num wl ws ws.length) (kk : ∀ H', Ex H H' → tz D σ H') :
    tSeq (tDrop (tMeth (He.ga K "Line") "end" (spEnd K) [] E0 (tVar i) tNil)) tz D σ H := by
  obtain ⟨dx, h1, h2⟩ := id h
  exact ⟨_, hs, a, dx, _, rfl, h1, lk_end, a, wl, num, ws, rfl, h, fun H1 e1 => kk H1 e1⟩
end
end Lw
namespace Lw
open PySem PySem.Spec PyProof.Rows L2 Evl LwM SX
theorem pi_enumLK {X : Cx} {K : Fg} (hK : X.K = K) {e : Expr} {ta : TA} {p pos tpos : Pos} {elts : List Expr} {kk : Nat} (hg : Gl X "enumerate") (hm : X.mg "enumerate" = none) (ha : PA X [e] ta) (hs : starEach [e] X.env = [(false, eval e X.env)] := by rfl) :
    PI X (.Tuple elts kk tpos) (.Call (.Name "enumerate" p) [e] [] pos) (iEnum K ta) := hK ▸ pi_enum hg hm ha hs
section
variable {K : Fg} {σ : Ks} {H H' : Hp} {ta tb te tx : TE} {t : TT} {d e : PyData} {ds es : List PyData}
theorem evi_enumL {α : Type} {f : α → PyData} {l : List α} {v : V} {i : Nat} (h : σ[i]? = some (some v)) (hd : Dp K H v (.list (l.map f))) : EvI K (iEnum K (tCons (tVar i) tNil)) σ H (enumD f l) := fun H1 e R k => by
  obtain ⟨a, xs, rfl, hs, ha⟩ := dp_lst hd
  refine ⟨_, h, a, xs, rfl, ex_l e hs, k _ H1 (Ex.refl _) ?_⟩
  have hl : xs.length = (enumD f l).length := by rw [enum_len, dps_len ha, List.length_map]
  rw [← hl]
  refine walk_enum.mono (fun H' q => ex_l q hs) fun i H3 x H4 hi g y => ?_
  exact yd_enum (Dpsx ha g) (by rw [hl, enum_len] at hi; exact hi) y
theorem q_ifsetD {D : Ends} {tz : TS} {i : Nat} {b : Bool} (h : EvT t σ H b) (h1 : b = true → EvD K te σ H d) (h2 : b = false → ∃ v, σ[i]? = some (some v) ∧ Dp K H v d) (k : ∀ v H1, Ex H H1 → Dp K H1 v d → tz D (σ.set i (some v)) H1) : tSeq (tIfS t (tAsg te (gName i)) tNext) tz D σ H := by
  refine d_when h (fun hb H1 e1 => ?_) fun hb H1 e1 => ?_
  · exact h1 hb H1 e1 _ fun v H2 e2 d2 => k v H2 (e1.trans e2) d2
  · obtain ⟨v, hs, hd⟩ := h2 hb
    have q := k v H1 e1 (Dpx hd e1)
    have e : σ.set i (some v) = σ := by
      obtain ⟨hi, e⟩ := List.getElem?_eq_some_iff.mp hs
      rw [← e]
      exact List.set_getElem_self hi
    rw [e] at q
    exact q
theorem tk_but {a : Addr} {C dx : Addr} {fs : List (Str × V)} (h : H a = some (.ins C dx fs)) (k : KeepBut a H H') : Tk H H' := fun b xs q => by
  rcases q with q | ⟨u, q⟩
  · exact .inl (k _ _ (fun z => by rw [z, h] at q; cases q) q)
  · exact .inr ⟨u, k _ _ (fun z => by rw [z, h] at q; cases q) q⟩
theorem LnAt.tk {a wl : Addr} {num k : Nat} {ws : List (List Nat)} (h : LnAt K H a num wl ws k) (b : KeepBut a H H') : Tk H H' := by
  obtain ⟨dx, h1, _⟩ := h
  exact tk_but h1 b
theorem KeepBut.mut {a p : Addr} {o : HO} {H H' : Hp} (h : KeepBut a H H') (n : H p = none) : KeepBut a H (L2.upd H' p o) := fun b u hb q => by
  rw [upd_ne (fun z => by rw [z, n] at q; cases q)]
  exact h b u hb q
theorem LnAt.mut {a p wl : Addr} {num k : Nat} {ws : List (List Nat)} {ys : List V} {o : HO} (h : LnAt K H a num wl ws k) (hp : H p = some (.lst ys)) (hne : wl ≠ p) : LnAt K (upd H p o) a num wl ws k := by
  obtain ⟨dx, h1, h2⟩ := h
  refine ⟨dx, ?_, ?_⟩
  · rw [upd_ne (fun z => by rw [z, hp] at h1; cases h1)]
    exact h1
  · rw [upd_ne hne]
    exact h2
/-- Line(num, text), a new one -/
theorem ev_line {num : Nat} {x : List Nat} {ws : List (List Nat)} {tn tt : TE} (hn : Ev tn σ H (.int (num : Int))) (ht : EvD K tt σ H (strD x)) (hl : x.length ≤ 99000) (hs : Txt.split (S x) (S [32]) = ws.map S) (Q : VK) (k : ∀ a wl H', H a = none → Ex H H' → LnAt K H' a num wl ws 0 → Q (.ref a) H') :
    tMake (He.ga K "Line") (spLnI K) [] E0 (tCons tn (tCons tt tNil)) σ H Q := hn H (Ex.refl _) _ fun H1 e1 => ht H1 e1 _ fun v H2 e2 d2 => by
  rw [dp_S d2]
  have e12 := e1.trans e2
  intro a dx ha hdx hne
  have ex : Ex H2 (upd (upd H2 dx (.own a)) a (.ins (He.ga K "Line") dx [])) := (Ex.new hdx).trans (Ex.new (by rw [upd_ne (Ne.symm hne)]; exact ha))
  exact ⟨a, dx, num, x, ws, rfl, upd_same, hl, hs, fun wl H3 _ k3 hL => ⟨rfl, k a wl H3 (fresh_back e12 ha) (e12.trans (k3.back ex ha)) hL⟩⟩
end
section
variable {P : Program} {w : World} {K : Fg} {mg : Str → Option Value} {base : Heap}
/-! ### read_label, read_labels -/
structure LabGo (many : Nat) (l : Lab) : Prop where
  ent : ∀ j e, l[j]? = some e → EntGo many (l.take j) e
  few : l.length ≤ 100
  own : ∃ e ∈ l, e.long = 0
def spReadLab (K : Fg) : Sp := fun vs H Q _ => ∃ (a wl : Addr) (num many : Nat) (l : Lab), vs = [.ref a, .int (many : Int)] ∧ LnAt K H a num wl (labWs l) 0 ∧ num ≠ 24 ∧ LabGo many l ∧ ∀ v H', KeepBut a H H' → Dp K H' v (labD l) → Q v H'
theorem sc_read_label : FnScope ["line", "many", "entries", "entry"] ["line", "many"] (defScope (top 81)) := ⟨rfl, rfl, rfl, by decide +kernel, rfl, by decide +kernel, by decide +kernel⟩
theorem cal_read_label (T : Txt w K mg) : CalD P w K mg base 4 "read_label" (spReadLab K) := by
  refine cal_sp T.f_read_label T.g_read_label sc_read_label (fun _ _ _ _ _ _ us hl => match us, hl with | [_, _], _ => rfl) (fun vs H Q E h => by obtain ⟨_, _, _, _, _, rfl, _⟩ := h; rfl) fun cdv A outer s H vs Q E hr h => ?_
  obtain ⟨a, wl, num, many, l, rfl, hL, hnum, go, k⟩ := h
  refine ⟨_, (pss_cons (ps_if (pt_cmpR op_eq (pe_fld (pv 0) rfl) (pe_glob (v := .int 24) rfl (T.i_MOST_PLACES.choose_spec) ⟨_, rfl⟩) (nomark _)) (pss_one ps_never) pss_nil)
      (pss_cons (ps_expr (C8.pe_mt (met_take_word (K := K) T) hr (by decide) (pv 0) (pa_cons pe_str pa_nil)))
      (pss_cons (ps_set (i := 2) sc_read_label.nd rfl (Or.inl rfl) (pe_lst pa_nil))
      (pss_cons (ps_while PassesOwn.never (pt_not (pt_val (C8.pe_mt0 (met_is_over (K := K) T) hr (by decide) (pv 0)))) (pss_cons (ps_set (i := 3) sc_read_label.nd rfl (Or.inl rfl) (pe_cal (cal_entry_in (K := K) T) hr (by decide) (by rfl) (pa_cons (C8.pe_mt0 (met_next_word (K := K) T) hr (by decide) (pv 0)) (pa_cons (pv 2) (pa_cons (pv 1) pa_nil)))))
      (pss_cons (ps_expr (C8.pe_mt (met_take (K := K) T) hr (by decide) (pv 0) (pa_cons (pe_cmpR op_notN (pv 3) pe_non (nomark _)) pa_nil)))
      (pss_one (ps_expr (pe_bm PySem.F.plainAttrs_list PySem.F.slot_list_append PySem.F.type_list_append mt_append (pv 2) (pa_cons (pv 3) pa_nil)))))))
      (pss_cons (ps_if (pt_val (pe_callB (cr_allK (K := K) rfl rfl) (by rfl) T.m_all bt_all (pa_cons (pe_lc (own := [("entry", 3)]) rfl sc_read_label.nd (pi_listK (K := K) rfl (pv 2)) (blkOk_by (N := ["line", "many", "entries", "entry"]) (sc := defScope (top 81)) (by decide +kernel)) (fun _ _ _ _ _ => (pg_name (i := 3) sc_read_label.nd rfl (Or.inl rfl))) (fun _ _ _ _ _ => pts_nil) (fun _ _ _ _ _ => (pe_cmpR op_gt (pe_ix (ix_tupK (K := K) rfl) (pv 3) pe_int (fun _ _ => rfl)) pe_int (nomark _)))) pa_nil))) (pss_one ps_never) pss_nil)
      (pss_one (ps_ret (pe_callTy (call_tupK (K := K) rfl) (by rfl) T.m_tuple bt_tuple (pa_cons (pv 2) pa_nil))))))))), ?_⟩
  have few := go.few
  refine d_when (b := decide ((num : Int) = 24)) (et_test (ev_eqI (ev_lnNum T rfl hL) ev_c)) (fun z => by rw [decide_eq_false (by omega)] at z; cases z) fun _ H1 e1 => ?_
  refine q_takeW (K := K) (x := cLabel) rfl (hL.mono e1) (evd_cS s_label) rfl fun H2 k2 hL2 => ?_
  have kb2 : KeepBut a H H2 := (KeepBut.ex e1).trans k2
  refine q_setN (K := K) (ds := []) (evn_lst evds_nil (by decide)) fun p xs H3 np e3 hp dp => ?_
  have kb3 : KeepBut a H H3 := kb2.trans (KeepBut.ex e3)
  have hL3 := hL2.mono e3
  have hpa : p ≠ a := fun z => by
    obtain ⟨dx, q, _⟩ := hL2
    rw [← z, np] at q
    cases q
  have hwp : wl ≠ p := fun z => by
    obtain ⟨dx, _, q⟩ := hL2
    rw [z, np] at q
    cases q
  have hHp : H p = none := by
    cases q : H p with
    | none => rfl
    | some o => rw [kb2 _ _ hpa q] at np; cases np
  have hlen : (labWs l).length = l.length + 1 := by unfold labWs; simp
  refine q_while (fun m σ' H' => ∃ (j : Nat) (x3 : Option V) (ys : List V), m = l.length - j ∧ j ≤ l.length ∧ σ' = [some (.ref a), some (.int (many : Int)), some (.ref p), x3] ∧ KeepBut a H H' ∧ LnAt K H' a num wl (labWs l) (j + 1) ∧ H' p = some (.lst ys) ∧ DpAll K H' ys ((l.take j).map entD)) l.length
    ⟨0, none, xs, rfl, Nat.zero_le _, rfl, kb3, hL3, hp, by rw [List.take_zero]; exact dp⟩ fun m σ' H' hw => ?_
  obtain ⟨j, x3, ys, rfl, hj, rfl, kb, hLj, hy, dy⟩ := hw
  refine ⟨!decide (j + 1 = (labWs l).length), et_not (et_test (ev_over (K := K) rfl hLj)), fun hb H4 e4 => ?_, fun hb H4 e4 => ?_⟩
  · have hjl : j < l.length := by
      have : ¬ j + 1 = (labWs l).length := by simpa using hb
      omega
    obtain ⟨e, he⟩ : ∃ e, l[j]? = some e := ⟨_, List.getElem?_eq_getElem hjl⟩
    have eg := go.ent j e he
    have hw : (labWs l)[j + 1]? = some (entL e) := by
      unfold labWs
      rw [List.getElem?_cons_succ, List.getElem?_map, he]
      rfl
    refine ⟨fun σ2 H2 => ∃ m', m' < l.length - j ∧ ∃ (j : Nat) (x3 : Option V) (ys : List V), m' = l.length - j ∧ j ≤ l.length ∧ σ2 = [some (.ref a), some (.int (many : Int)), some (.ref p), x3] ∧ KeepBut a H H2 ∧ LnAt K H2 a num wl (labWs l) (j + 1) ∧ H2 p = some (.lst ys) ∧ DpAll K H2 ys ((l.take j).map entD), fun σ2 H2 q => q, ?_⟩
    have hL4 := hLj.mono e4
    have hy4 := e4 _ _ hy
    refine d_set (evd_call (evds_cons (evd_next rfl hL4 hw) (evds_cons (evd_var rfl (dp_locD hy4 (Dpsx dy e4))) (evds_cons (evd_var rfl (.int _)) evds_nil))) ⟨many, l.take j, e, eg, rfl, rfl⟩) fun v H5 e5 d5 => ?_
    refine q_take (K := K) rfl (hL4.mono e5) (ev_is (ev_notN (evd_var rfl d5)) rfl) fun H6 k6 hL6 => ?_
    have tk6 := (hL4.mono e5).tk k6
    have d6 : Dp K H6 v (entD e) := Dpt d5 tk6 (fz_ent e)
    have hy6 : H6 p = some (.lst ys) := k6 _ _ hpa (e5 _ _ hy4)
    have dy6 : DpAll K H6 ys ((l.take j).map entD) := Dpst (Dpsx (Dpsx dy e4) e5) tk6 (fz_ents _)
    have kb6 : KeepBut a H H6 := (kb.trans (KeepBut.ex (e4.trans e5))).trans k6
    refine l_append (K := K) (d := entD e) hy6 rfl (evd_var rfl d6) ?_ fun v2 H7 e7 d7 => ?_
    · rw [dps_len dy, List.length_map, List.length_take]
      omega
    · have tk7 : Tk H7 (upd H7 p (.lst (ys ++ [v2]))) := tk_updL (e7 _ _ hy6)
      refine ⟨l.length - (j + 1), by omega, j + 1, _, _, rfl, hjl, rfl, (kb6.trans (KeepBut.ex e7)).mut hHp, (hL6.mono e7).mut (e7 _ _ hy6) hwp, upd_same, ?_⟩
      rw [List.take_add_one, he, Option.toList_some, List.map_append]
      exact dps_app (Dpst (Dpsx dy6 e7) tk7 (fz_ents _)) (.cons (Dpt d7 tk7 (fz_ent e)) .nil)
  · have hjl : j = l.length := by
      have : j + 1 = (labWs l).length := by simpa using hb
      omega
    subst hjl
    rw [List.take_length] at dy
    have dl : Dp K H4 (.ref p) (.list (l.map entD)) := dp_locD (e4 _ _ hy) (Dpsx dy e4)
    refine d_when (b := l.all fun e => decide ((0 : Int) < (e.long : Int))) (et_test (ev_allM (K := K) (f := fun e : Ent => decide ((0 : Int) < (e.long : Int))) (l := l) (evn_lcB (enc := entD) (l := l) (fun e => .bool (decide ((0 : Int) < (e.long : Int)))) (evi_varL rfl dl).j (by omega) (fun _ _ => rfl) fun e x H9 P he e9 dx q => ?_).toD)) (fun z => ?_) fun _ H5 e5 => ?_
    · exact q _ rfl (evd_bool (ev_gt (ev_n (evd_i1 (evd_var rfl dx))) ev_c))
    · obtain ⟨e, he, hz⟩ := go.own
      have := List.all_eq_true.mp z e he
      rw [decide_eq_true_eq] at this
      omega
    · exact d_ret (evd_tupL (evd_var rfl (Dpx dl e5))) fun v H6 e6 d6 => k v H6 (kb.trans (KeepBut.ex ((e4.trans e5).trans e6))) d6
def rReadLabs : Rel := fun ds r => ∃ L : List Lab, 1 ≤ L.length ∧ L.length ≤ 24 ∧ (∀ l ∈ L, LabGo L.length l ∧ (∀ e ∈ l, EntSm e) ∧ l.length ≤ 24) ∧ ds = [.list ((labLs L).map strD)] ∧ r = labelsD L
theorem sc_read_labels : FnScope ["lines", "number", "text"] ["lines"] (defScope (top 82)) := ⟨rfl, rfl, rfl, by decide +kernel, rfl, by decide +kernel, by decide +kernel⟩
theorem cal_read_labels (T : Txt w K mg) : CalD P w K mg base 5 "read_labels" (PureSp K rReadLabs) := by
  refine cal_of T.f_read_labels T.g_read_labels sc_read_labels (fun _ _ _ _ _ _ us hl => match us, hl with | [_], _ => rfl) (fun ds r h => by obtain ⟨_, _, _, _, rfl, _⟩ := h; rfl) fun cdv A outer s H vs Q E hr ds r h hd k => ?_
  obtain ⟨L, one, few, hLs, rfl, rfl⟩ := h
  obtain ⟨v1, rfl, h1⟩ := dps1 hd
  refine ⟨_, (pss_cons (ps_if (pt_cmpR op_eq (pe_callB (call_lenK (K := K) rfl) (by rfl) T.m_len bt_len (pa_cons (pv 0) pa_nil)) pe_int (nomark _)) (pss_one ps_never) pss_nil)
      (pss_one (ps_ret (pe_callTy (call_tupK (K := K) rfl) (by rfl) T.m_tuple bt_tuple (pa_cons (pe_lc (own := [("number", 1), ("text", 2)]) (g := gTup K 2 (gCons (gName 1) (gCons (gName 2) gNil))) rfl sc_read_labels.nd (pi_enumLK (K := K) rfl (by rfl) T.m_enumerate (pa_cons (pv 0) pa_nil)) (blkOk_by (N := ["lines", "number", "text"]) (sc := defScope (top 82)) (by decide +kernel)) (fun _ _ _ _ _ => (pg_tup rfl (pgs_cons (pg_name (i := 1) sc_read_labels.nd rfl (Or.inl rfl)) (pgs_cons (pg_name (i := 2) sc_read_labels.nd rfl (Or.inl rfl)) pgs_nil)))) (fun _ _ _ _ _ => pts_nil) (fun _ _ _ _ _ => (pe_cal (cal_read_label (K := K) T) hr (by decide) (by rfl) (pa_cons (C8.pe_mk (mk_Line (K := K) T) hr (by decide) (by rfl) (pa_cons (pv 1) (pa_cons (pv 2) pa_nil))) (pa_cons (pe_callB (call_lenK (K := K) rfl) (by rfl) T.m_len bt_len (pa_cons (pv 0) pa_nil)) pa_nil))))) pa_nil))))), ?_⟩
  have el : ∀ {H'} (e : Ex H H') {σ : Ks}, σ[0]? = some (some v1) → Ev (tCB (rLenQ K) (tCons (tVar 0) tNil)) σ H' (.int (L.length : Int)) := fun e σ hs => by
    have q := ev_lenL (K := K) (evd_var hs (Dpx h1 e))
    rw [List.length_map] at q
    have e2 : (labLs L).length = L.length := by unfold labLs; simp
    rw [e2] at q
    exact q
  refine d_when (b := decide ((L.length : Int) = 0)) (et_test (ev_eqI (el (Ex.refl _) rfl) ev_c)) (fun z => by rw [decide_eq_false (by omega)] at z; cases z) fun _ H1 e1 => ?_
  have h1' : Dp K H1 v1 (.list (L.map fun l => strD (lineL (labWs l)))) := by
    have q := Dpx h1 e1
    unfold labLs at q
    rw [List.map_map] at q
    exact q
  refine d_ret (evd_tupL (EvD.to (evn_lcB (enc := fun p : Lab × Nat => .tuple [nD p.2, strD (lineL (labWs p.1))]) (l := L.zipIdx) (fun p => labD p.1) (evi_enumL (f := fun l => strD (lineL (labWs l))) (l := L) rfl h1').j (by rw [List.length_zipIdx]; omega) (fun _ _ => fz_lab _) fun p x H3 P hp e3 dx q => ?_).toD ?_)) fun v H4 e4 d4 => k v H4 (e1.trans e4) d4
  · obtain ⟨l, i⟩ := p
    have hm : L[i]? = some l := by
      have := List.mem_zipIdx_iff_getElem?.mp hp
      exact this
    have hml := List.mem_of_getElem? hm
    have hil := (List.getElem?_eq_some_iff.mp hm).1
    obtain ⟨go, sm, fw⟩ := hLs l hml
    refine g_tup2 dx fun y1 y2 q1 q2 => ?_
    refine q _ rfl fun H4 e4 Q' q' => ?_
    show tMake (He.ga K "Line") (spLnI K) [] E0 (tCons (tVar 1) (tCons (tVar 2) tNil)) [some v1, some y1, some y2] H4 (fun v H' => tCB (rLenQ K) (tCons (tVar 0) tNil) [some v1, some y1, some y2] H' fun v2 H2' => spReadLab K ([v, v2] ++ []) H2' Q' E0)
    refine ev_line (K := K) (num := i) (x := lineL (labWs l)) (ws := labWs l) ?_ ?_ (by have := labL_len sm fw; omega) (split_line (by unfold labWs; simp) (labWs_free (.inl rfl))) _ fun a wl H5 na e5 hL5 => ?_
    · exact ev_n (K := K) (evd_var rfl (Dpx q1 e4))
    · exact evd_var rfl (Dpx q2 e4)
    refine el ((e1.trans e3).trans (e4.trans e5)) rfl H5 (Ex.refl _) _ fun H6 e6 => ?_
    exact ⟨a, wl, i, L.length, l, rfl, hL5.mono e6, by omega, go, fun v H7 k7 d7 => q' v H7 (k7.back (e5.trans e6) na) d7⟩
  · congr 1
    rw [show (fun p : Lab × Nat => labD p.1) = labD ∘ Prod.fst from rfl, ← List.map_map, List.zipIdx_map_fst]
end
end Lw
namespace Lw
open PySem PySem.Spec PyProof.Rows L2 Evl LwM SX
theorem fz_tiesA (l : List Tie) : fzAll (l.map tieD) = true := fzAll_iff.mpr fun d hd => by
  obtain ⟨a, _, rfl⟩ := List.mem_map.mp hd
  rfl
theorem q_line {K : Fg} {σ : Ks} {H : Hp} {D : Ends} {tz : TS} {i num : Nat} {x : List Nat} {ws : List (List Nat)} {tn tt : TE} (hn : Ev tn σ H (.int (num : Int))) (ht : EvD K tt σ H (strD x)) (hl : x.length ≤ 99000) (hs : Txt.split (S x) (S [32]) = ws.map S) (k : ∀ a wl H', H a = none → Ex H H' → LnAt K H' a num wl ws 0 → tz D (σ.set i (some (.ref a))) H') :
    tSeq (tAsg (tMake (He.ga K "Line") (spLnI K) [] E0 (tCons tn (tCons tt tNil))) (gName i)) tz D σ H := ev_line hn ht hl hs (fun v H' => tz D (σ.set i (some v)) H') k
section
variable {P : Program} {w : World} {K : Fg} {mg : Str → Option Value} {base : Heap}
/-! ### read_tie -/
def spReadTie (K : Fg) : Sp := fun vs H Q _ => ∃ (a wl : Addr) (tv : V) (num many : Nat) (ts : List Tie) (t : Tie), vs = [.ref a, .int (many : Int), tv] ∧ LnAt K H a num wl (tieWs t) 0 ∧ Dp K H tv (.list (ts.map tieD)) ∧ (∃ p, tv = .ref p ∧ p ≠ a) ∧ ts.length < 60 ∧ (∀ l s, ts = l ++ [s] → tlt s t) ∧ t.1 < t.2.1 ∧ t.2.1 < many ∧ many ≤ 24 ∧ 1 ≤ t.2.2 ∧ t.2.2 ≤ 99 ∧ ∀ v H', KeepBut a H H' → Dp K H' v (tieD t) → Q v H'
theorem sc_read_tie : FnScope ["line", "many", "ties", "ahead", "one", "least", "other", "long"] ["line", "many", "ties"] (defScope (top 73)) := ⟨rfl, rfl, rfl, by decide +kernel, rfl, by decide +kernel, by decide +kernel⟩
theorem cal_read_tie (T : Txt w K mg) : CalD P w K mg base 4 "read_tie" (spReadTie K) := by
  refine cal_sp T.f_read_tie T.g_read_tie sc_read_tie (fun _ _ _ _ _ _ us hl => match us, hl with | [_, _, _], _ => rfl) (fun vs H Q E h => by obtain ⟨_, _, _, _, _, _, _, rfl, _⟩ := h; rfl) fun cdv A outer s H vs Q E hr h => ?_
  obtain ⟨a, wl, tv, num, many, ts, t, rfl, hL, ht, htv, few, hlast, h12, h2m, hmo, hl1, hl2, k⟩ := h
  refine ⟨_, (pss_cons (ps_if (pt_cmpR op_eq (pe_callB (call_lenK (K := K) rfl) (by rfl) T.m_len bt_len (pa_cons (pv 2) pa_nil)) (pe_glob (v := .int 60) rfl (T.i_MOST_TIES.choose_spec) ⟨_, rfl⟩) (nomark _)) (pss_one ps_never) pss_nil)
      (pss_cons (ps_set (i := 3) sc_read_tie.nd rfl (Or.inl rfl) (pe_tup (pa_cons pe_int (pa_cons pe_int pa_nil))))
      (pss_cons (ps_if (pt_cmpR (op_neDK (K := K) rfl hr.units) (pv 2) (pe_lst pa_nil) (nomark _)) (pss_one (ps_set (i := 3) sc_read_tie.nd rfl (Or.inl rfl) (pe_slice (sl_tupK (K := K) rfl) (pe_ix (ix_listK (K := K) rfl) (pv 2) (pe_un un_neg pe_int) (fun _ _ => rfl)) po_none (po_some pe_int)))) pss_nil)
      (pss_cons (ps_expr (C8.pe_mt (met_take_word (K := K) T) hr (by decide) (pv 0) (pa_cons pe_str pa_nil)))
      (pss_cons (ps_set (i := 4) sc_read_tie.nd rfl (Or.inl rfl) (C8.pe_mt (met_take_number (K := K) T) hr (by decide) (pv 0) (pa_cons (pe_ix (ix_tupK (K := K) rfl) (pv 3) pe_int (fun _ _ => rfl)) (pa_cons (pe_op op_sub (pv 1) pe_int) pa_nil))))
      (pss_cons (ps_set (i := 5) sc_read_tie.nd rfl (Or.inl rfl) (pe_op op_add (pv 4) pe_int))
      (pss_cons (ps_if (pt_cmpR op_eq (pv 4) (pe_ix (ix_tupK (K := K) rfl) (pv 3) pe_int (fun _ _ => rfl)) (nomark _)) (pss_one (ps_set (i := 5) sc_read_tie.nd rfl (Or.inl rfl) (pe_callB (call_max2 rfl) (by rfl) T.m_max bt_max (pa_cons (pv 5) (pa_cons (pe_op op_add (pe_ix (ix_tupK (K := K) rfl) (pv 3) pe_int (fun _ _ => rfl)) pe_int) pa_nil))))) pss_nil)
      (pss_cons (ps_set (i := 6) sc_read_tie.nd rfl (Or.inl rfl) (C8.pe_mt (met_take_number (K := K) T) hr (by decide) (pv 0) (pa_cons (pv 5) (pa_cons (pe_op op_sub (pv 1) pe_int) pa_nil))))
      (pss_cons (ps_set (i := 7) sc_read_tie.nd rfl (Or.inl rfl) (C8.pe_mt (met_take_number (K := K) T) hr (by decide) (pv 0) (pa_cons pe_int (pa_cons (pe_glob (v := .int 99) rfl (T.i_MOST_LONG.choose_spec) ⟨_, rfl⟩) pa_nil))))
      (pss_cons (ps_expr (C8.pe_mt0 (met_end (K := K) T) hr (by decide) (pv 0)))
      (pss_one (ps_ret (pe_tup (pa_cons (pv 4) (pa_cons (pv 6) (pa_cons (pv 7) pa_nil)))))))))))))))), ?_⟩
  have el := ev_lenL (K := K) (σ := [some (.ref a), some (.int (many : Int)), some tv, none, none, none, none, none]) (evd_var (i := 2) rfl ht)
  rw [List.length_map] at el
  refine d_when (b := decide ((ts.length : Int) = 60)) (et_test (ev_eqI el ev_c)) (fun z => by rw [decide_eq_false (by omega)] at z; cases z) fun _ H1 e1 => ?_
  refine d_set (evd_tup (K := K) (ds := [nD 0, nD 0]) (evds_cons (evd_cn 0) (evds_cons (evd_cn 0) evds_nil)) (by show 2 ≤ 100000; decide)) fun va H2 e2 ha => ?_
  have e12 := e1.trans e2
  have ht2 := Dpx ht e12
  obtain ⟨p, q, hp, hq, hpq⟩ : ∃ p q : Nat, p ≤ t.1 ∧ (t.1 = p → q < t.2.1) ∧ ((∀ l s, ts = l ++ [s] → p = s.1 ∧ q = s.2.1) ∧ (ts = [] → p = 0 ∧ q = 0)) := by
    rcases List.eq_nil_or_concat ts with h | ⟨l, s, h⟩
    · exact ⟨0, 0, Nat.zero_le _, fun _ => by omega, (fun l s z => by rw [h] at z; exact absurd z.symm (by simp)), fun _ => ⟨rfl, rfl⟩⟩
    · rw [List.concat_eq_append] at h
      have := hlast l s h
      unfold tlt at this
      refine ⟨s.1, s.2.1, by omega, fun _ => by omega, (fun l' s' z => ?_), fun z => by rw [h] at z; exact absurd z (by simp)⟩
      rw [h] at z
      have e := (List.append_inj' z rfl).2
      simp at e
      rw [e]
      exact ⟨rfl, rfl⟩
  refine q_ifsetD (K := K) (d := .tuple [nD p, nD q]) (b := !ts.isEmpty) (et_test (ev_is (ev_neNil (evd_var rfl ht2) ((shp_lst (shp_map shp_tie ts)).sh (by decide))) (by simp))) (fun hb => ?_) (fun hb => ?_) fun vb H3 e3 hb => ?_
  · rcases List.eq_nil_or_concat ts with h | ⟨l, s, h⟩
    · rw [h] at hb; cases hb
    · rw [List.concat_eq_append] at h
      obtain ⟨ep, eq⟩ := hpq.1 l s h
      rw [ep, eq]
      have h2' := ht2
      rw [h, List.map_append] at h2'
      exact evd_slice2 (t := s) (evd_ixL (d := tieD s) (evd_var rfl h2') (ev_neg (i := 1) ev_c) ixD_last)
  · obtain ⟨ep, eq⟩ := hpq.2 (by simpa using hb)
    rw [ep, eq]
    exact ⟨va, rfl, ha⟩
  have e13 := e12.trans e3
  have kb3 : KeepBut a H H3 := KeepBut.ex e13
  refine q_takeW (K := K) (x := cTie) rfl (hL.mono e13) (evd_cS s_tie) rfl fun H4 k4 hL4 => ?_
  have tk4 := (hL.mono e13).tk k4
  have hb4 : Dp K H4 vb (.tuple [nD p, nD q]) := Dpt hb tk4 rfl
  have kb4 := kb3.trans k4
  refine q_takeN (K := K) (n := t.1) (lo := (p : Int)) (hi := (many : Int) - 1) rfl hL4 (ev_n (evd_i0 (evd_var rfl hb4))) (ev_sub (ev_n (K := K) (evd_var rfl (.int _))) ev_c) rfl (by omega) (by omega) (by omega) fun H5 k5 hL5 => ?_
  have tk5 := hL4.tk k5
  have hb5 : Dp K H5 vb (.tuple [nD p, nD q]) := Dpt hb4 tk5 rfl
  have kb5 := kb4.trans k5
  refine d_set (evd_add (K := K) (a := t.1) (b := 1) (evd_var rfl (.int _)) (evd_cn 1)) fun vl H6 e6 hl => ?_
  have evl := dp_n hl
  subst evl
  obtain ⟨lo, hlo, hlo2⟩ : ∃ lo : Nat, lo ≤ t.2.1 ∧ lo = if t.1 = p then max (t.1 + 1) (q + 1) else t.1 + 1 := by
    refine ⟨_, ?_, rfl⟩
    split
    · rename_i h
      have := hq h
      omega
    · omega
  refine q_ifset (K := K) (lo := lo) (b := decide (t.1 = p)) (et_test (ev_eqN (K := K) (evd_var rfl (.int _)) (evd_i0 (evd_var rfl (Dpx hb5 e6))))) (fun hz => ?_) (fun hz => ?_) fun H7 e7 => ?_
  · rw [decide_eq_true_eq] at hz
    rw [hlo2, if_pos hz]
    exact evd_max2 (evd_var rfl (.int _)) (evd_add (a := q) (b := 1) (evd_i1 (evd_var rfl (Dpx hb5 e6))) (evd_cn 1))
  · rw [decide_eq_false_iff_not] at hz
    rw [hlo2, if_neg hz]
    rfl
  have hL7 := (hL5.mono e6).mono e7
  refine q_takeN (K := K) (n := t.2.1) (lo := (lo : Int)) (hi := (many : Int) - 1) rfl hL7 (ev_n (K := K) (evd_var rfl (.int _))) (ev_sub (ev_n (K := K) (evd_var rfl (.int _))) ev_c) rfl (by omega) (by omega) (by omega) fun H8 k8 hL8 => ?_
  refine q_takeN (K := K) (n := t.2.2) (lo := 1) (hi := 99) rfl hL8 ev_c ev_c rfl (by omega) (by omega) (by omega) fun H9 k9 hL9 => ?_
  refine q_end (K := K) rfl hL9 fun H10 e10 => ?_
  have kb9 : KeepBut a H H9 := ((kb5.trans (KeepBut.ex (e6.trans e7))).trans k8).trans k9
  exact d_ret (evd_tup (evds_cons (evd_var rfl (.int _)) (evds_cons (evd_var rfl (.int _)) (evds_cons (evd_var rfl (.int _)) evds_nil))) (by show 3 ≤ 100000; decide)) fun v H11 e11 d11 => k v H11 (kb9.trans (KeepBut.ex (e10.trans e11))) d11
theorem q_readTie {K : Fg} {σ : Ks} {H : Hp} {D : Ends} {tz : TS} {i j num many : Nat} {p : Addr} {ts : List Tie} {t : Tie} {tn tt tm : TE} (hn : Ev tn σ H (.int (num : Int))) (ht : EvD K tt σ H (strD (lineL (tieWs t)))) (hm : Ev tm σ H (.int (many : Int))) (hv : σ[i]? = some (some (.ref p))) (hd : Dp K H (.ref p) (.list (ts.map tieD))) (hsome : ∃ o, H p = some o)
    (few : ts.length < 60) (hlast : ∀ l s, ts = l ++ [s] → tlt s t) (h12 : t.1 < t.2.1) (h2m : t.2.1 < many) (hmo : many ≤ 24) (hl1 : 1 ≤ t.2.2) (hl2 : t.2.2 ≤ 99) (k : ∀ v H', Ex H H' → Dp K H' v (tieD t) → tz D (σ.set j (some v)) H') :
    tSeq (tAsg (tCall (spReadTie K) [] E0 (tCons (tMake (He.ga K "Line") (spLnI K) [] E0 (tCons tn (tCons tt tNil))) (tCons tm (tCons (tVar i) tNil)))) (gName j)) tz D σ H := by
  refine ev_line hn ht (by have := tieL_len (t := t) (by omega) (by omega) (by omega); omega) (split_line (by unfold tieWs; simp) (tieWs_free t)) (fun v H' => tm σ H' fun v2 H2 => (tVar i) σ H2 fun v3 H3 => spReadTie K ([v, v2, v3] ++ []) H3 (fun v H' => tz D (σ.set j (some v)) H') E0) fun b wl2 H9 nb e9 hL9 => ?_
  refine hm H9 e9 _ fun H10 e10 => ⟨_, hv, ?_⟩
  have e910 := e9.trans e10
  have hne : p ≠ b := fun z => by
    obtain ⟨o, ho⟩ := hsome
    rw [← z, ho] at nb
    cases nb
  exact ⟨b, wl2, .ref p, num, many, ts, t, rfl, hL9.mono e10, Dpx hd e910, ⟨p, rfl, hne⟩, few, hlast, h12, h2m, hmo, hl1, hl2, fun v H11 k11 d11 => k v H11 (k11.back e910 nb) d11⟩
/-! ### read_web -/
def rReadWeb : Rel := fun ds r => ∃ W : Web, WebOk W ∧ ds = [.list ((webLs W).map strD)] ∧ r = webD W
theorem sc_read_web : FnScope ["lines", "head", "many", "ties", "number", "tie"] ["lines"] (defScope (top 74)) := ⟨rfl, rfl, rfl, by decide +kernel, rfl, by decide +kernel, by decide +kernel⟩
theorem cal_read_web (T : Txt w K mg) : CalD P w K mg base 5 "read_web" (PureSp K rReadWeb) := by
  refine cal_of T.f_read_web T.g_read_web sc_read_web (fun _ _ _ _ _ _ us hl => match us, hl with | [_], _ => rfl) (fun ds r h => by obtain ⟨_, _, rfl, _⟩ := h; rfl) fun cdv A outer s H vs Q E hr ds r h hd k => ?_
  obtain ⟨W, ok, rfl, rfl⟩ := h
  obtain ⟨v1, rfl, h1⟩ := dps1 hd
  refine ⟨_, (pss_cons (ps_if (pt_cmpR op_eq (pe_callB (call_lenK (K := K) rfl) (by rfl) T.m_len bt_len (pa_cons (pv 0) pa_nil)) pe_int (nomark _)) (pss_one ps_never) pss_nil)
      (pss_cons (ps_set (i := 1) sc_read_web.nd rfl (Or.inl rfl) (C8.pe_mk (mk_Line (K := K) T) hr (by decide) (by rfl) (pa_cons pe_int (pa_cons (pe_ix (ix_listK (K := K) rfl) (pv 0) pe_int (fun _ _ => rfl)) pa_nil))))
      (pss_cons (ps_expr (C8.pe_mt (met_take_word (K := K) T) hr (by decide) (pv 1) (pa_cons pe_str pa_nil)))
      (pss_cons (ps_set (i := 2) sc_read_web.nd rfl (Or.inl rfl) (C8.pe_mt (met_take_number (K := K) T) hr (by decide) (pv 1) (pa_cons pe_int (pa_cons (pe_glob (v := .int 24) rfl (T.i_MOST_PLACES.choose_spec) ⟨_, rfl⟩) pa_nil))))
      (pss_cons (ps_expr (C8.pe_mt0 (met_end (K := K) T) hr (by decide) (pv 1)))
      (pss_cons (ps_set (i := 3) sc_read_web.nd rfl (Or.inl rfl) (pe_lst pa_nil))
      (pss_cons (ps_for PassesOwn.never rfl (pi_range2 rfl T.m_range (pa_cons pe_int (pa_cons (pe_callB (call_lenK (K := K) rfl) (by rfl) T.m_len bt_len (pa_cons (pv 0) pa_nil)) pa_nil))) (pg_name (i := 4) sc_read_web.nd rfl (Or.inl rfl)) (pss_cons (ps_set (i := 5) sc_read_web.nd rfl (Or.inl rfl) (pe_cal (cal_read_tie (K := K) T) hr (by decide) (by rfl) (pa_cons (C8.pe_mk (mk_Line (K := K) T) hr (by decide) (by rfl) (pa_cons (pv 4) (pa_cons (pe_ix (ix_listK (K := K) rfl) (pv 0) (pv 4) (fun _ _ => rfl)) pa_nil))) (pa_cons (pv 2) (pa_cons (pv 3) pa_nil)))))
      (pss_one (ps_expr (pe_bm PySem.F.plainAttrs_list PySem.F.slot_list_append PySem.F.type_list_append mt_append (pv 3) (pa_cons (pv 5) pa_nil))))))
      (pss_one (ps_ret (pe_tup (pa_cons (pv 2) (pa_cons (pe_callTy (call_tupK (K := K) rfl) (by rfl) T.m_tuple bt_tuple (pa_cons (pv 3) pa_nil)) pa_nil)))))))))))), ?_⟩
  have most := ok.most
  have few := ok.few
  have pos := ok.pos
  have hwl : (webLs W).length = W.ties.length + 1 := by unfold webLs; simp
  have el : ∀ {H'} (e : Ex H H') {σ : Ks}, σ[0]? = some (some v1) → Ev (tCB (rLenQ K) (tCons (tVar 0) tNil)) σ H' (.int ((W.ties.length + 1 : Nat) : Int)) := fun e σ hs => by
    have q := ev_lenL (K := K) (evd_var hs (Dpx h1 e))
    rw [List.length_map, hwl] at q
    exact q
  refine d_when (b := decide (((W.ties.length + 1 : Nat) : Int) = 0)) (et_test (ev_eqI (el (Ex.refl _) rfl) ev_c)) (fun z => by rw [decide_eq_false (by omega)] at z; cases z) fun _ H1 e1 => ?_
  refine q_line (K := K) (num := 0) (x := lineL (webWs W.n)) (ws := webWs W.n) ev_c (evd_atL (f := strD) (l := webLs W) (i := 0) (evd_var rfl (Dpx h1 e1)) (evd_cn 0) rfl) (by have := webL_len (n := W.n) (by omega); omega) (split_line (by unfold webWs; simp) (webWs_free _)) fun a wl H2 na e2 hL2 => ?_
  refine q_takeW (K := K) (x := cWeb) rfl hL2 (evd_cS s_web) rfl fun H3 k3 hL3 => ?_
  refine q_takeN (K := K) (n := W.n) (lo := 1) (hi := 24) rfl hL3 ev_c ev_c rfl (by omega) (by omega) (by omega) fun H4 k4 hL4 => ?_
  have e14 : Ex H1 H4 := (k3.trans k4).back e2 na
  have eH4 := e1.trans e14
  refine q_end (K := K) rfl hL4 fun H5 e5 => ?_
  have eH5 := eH4.trans e5
  refine q_setN (K := K) (ds := []) (evn_lst evds_nil (by decide)) fun p xs H6 np e6 hp dp => ?_
  have eH6 := eH5.trans e6
  have npH : H p = none := fresh_back eH5 np
  refine dq_for (K := K) (G := H) (evi_range2 (a := 1) (n := W.ties.length + 1) ev_c (el (Ex.refl _) rfl) (by omega) (by omega)) eH6 (fun i σ' H' => ∃ x4 x5 ys, σ' = [some v1, some (.ref a), some (.int (W.n : Int)), some (.ref p), x4, x5] ∧ Ex H H' ∧ H' p = some (.lst ys) ∧ DpAll K H' ys ((W.ties.take i).map tieD))
    (fun H7 e7 => ⟨none, none, xs, rfl, eH6.trans e7, e7 _ _ hp, by rw [List.take_zero]; exact Dpsx dp e7⟩) (fun i σ' H' q => by obtain ⟨_, _, _, _, e, _⟩ := q; exact e) (fun i d x σ' H7 H8 hi q e8 dx => ?_) fun σ' H' q => ?_
  · obtain ⟨x4, x5, ys, rfl, e7, hy, dy⟩ := q
    have hil : i < W.ties.length := by
      have := (List.getElem?_eq_some_iff.mp hi).1
      rw [fromTo_len] at this
      omega
    rw [fromTo_at (by omega)] at hi
    cases hi
    have dx' : x = .int ((1 + i : Nat) : Int) := dp_n (n := 1 + i) dx
    subst dx'
    obtain ⟨t, ht⟩ : ∃ t, W.ties[i]? = some t := ⟨_, List.getElem?_eq_getElem hil⟩
    have htm := List.mem_of_getElem? ht
    have tk := ok.tie t htm
    have hln : (webLs W)[1 + i]? = some (lineL (tieWs t)) := by
      unfold webLs
      rw [Nat.add_comm, List.getElem?_cons_succ, List.getElem?_map, ht]
      rfl
    have eH8 := e7.trans e8
    have hy8 := e8 _ _ hy
    have dy8 := Dpsx dy e8
    have asc : ∀ l s, W.ties.take i = l ++ [s] → tlt s t := fun l s z => by
      have hs : s ∈ W.ties.take i := by rw [z]; simp
      obtain ⟨j, hj⟩ := List.mem_iff_getElem?.mp hs
      rw [List.getElem?_take] at hj
      split at hj
      · rename_i hji
        obtain ⟨p1, q1⟩ := List.getElem?_eq_some_iff.mp hj
        obtain ⟨p2, q2⟩ := List.getElem?_eq_some_iff.mp ht
        rw [← q1, ← q2]
        exact List.pairwise_iff_getElem.mp ok.ord j i p1 p2 hji
      · cases hj
    refine q_readTie (K := K) (num := 1 + i) (many := W.n) (ts := W.ties.take i) (t := t) (ev_n (K := K) (evd_var rfl (.int _))) (evd_atL (f := strD) (l := webLs W) (i := 1 + i) (evd_var rfl (Dpx h1 eH8)) (evd_var rfl (.int _)) hln) (ev_n (K := K) (evd_var rfl (.int _))) rfl (dp_locD hy8 dy8) ⟨_, hy8⟩ (by rw [List.length_take]; omega) asc (by omega) (by omega) (by omega) (by omega) (by omega) fun v H10 e810 d10 => ?_
    · have hy10 := e810 _ _ hy8
      refine l_append (K := K) (d := tieD t) hy10 rfl (evd_var rfl d10) ?_ fun v2 H11 e11 d11 => ?_
      · rw [dps_len dy, List.length_map, List.length_take]
        omega
      · have tk11 : Tk H11 (upd H11 p (.lst (ys ++ [v2]))) := tk_updL (e11 _ _ hy10)
        refine ⟨_, _, _, rfl, Ex.mut ((eH8.trans e810).trans e11) npH, upd_same, ?_⟩
        rw [List.take_add_one, ht, Option.toList_some, List.map_append]
        exact dps_app (Dpst (Dpsx (Dpsx dy8 e810) e11) tk11 (fz_tiesA _)) (.cons (Dpt d11 tk11 rfl) .nil)
  · obtain ⟨x4, x5, ys, rfl, e7, hy, dy⟩ := q
    rw [fromTo_len, Nat.add_sub_cancel, List.take_length] at dy
    exact d_ret (evd_tup (evds_cons (evd_var (d := nD W.n) rfl (.int _)) (evds_cons (evd_tupL (evd_var rfl (dp_locD hy dy))) evds_nil)) (by show 2 ≤ 100000; decide)) fun v H8 e8 d8 => k v H8 (e7.trans e8) d8
end
end Lw
namespace Lw
open PySem PySem.Spec PyProof.Rows L2 Evl LwM SX
theorem s_order : (Str.ofString "order") = S cOrder := by decide +kernel
theorem s_put : (Str.ofString "put") = S [112, 117, 116] := by decide +kernel
theorem s_check : (Str.ofString "check") = S cCheck := by decide +kernel
theorem s_strike : (Str.ofString "strike") = S [115, 116, 114, 105, 107, 101] := by decide +kernel
theorem s_told : (Str.ofString "told") = S [116, 111, 108, 100] := by decide +kernel
theorem s_step : (Str.ofString "step") = S [115, 116, 101, 112] := by decide +kernel
theorem s_walk : (Str.ofString "walk") = S [119, 97, 108, 107] := by decide +kernel
theorem s_total : (Str.ofString "total") = S [116, 111, 116, 97, 108] := by decide +kernel
section
variable {w : World} {K : Fg} {mg : Str → Option Value}
theorem Txt.cntD (T : Txt w K mg) : ∃ es n, KDict K w (He.ga K "COUNTS") es n := T.t.tab 0
def rInKd (K : Fg) (d : Addr) : R2 := fun x y H Q => ∃ (z : Str) (r : Option Value), x = .str z ∧ y = .ref d ∧ PySem.W.nsIn K d z = some r ∧ Q (.bl r.isSome) H
theorem op_inKdK {X : Cx} {d : Addr} (hK : X.K = K) (hw : X.w = w) (D : ∃ es n, KDict K w d es n) : OpR X (compareOp .In) (rInKd K d) := by
  obtain ⟨es, n, D⟩ := D
  subst hK hw
  exact op_in_kd D
theorem ix_kdK {X : Cx} (hK : X.K = K) (hw : X.w = w) : IxR X (rIxD K w) := by
  subst hK hw
  exact ix_kdict
theorem cnt_at (T : Txt w K mg) {x : Str} {d : He.Dv} (h : (x, d) ∈ counts) : ∃ u, PySem.W.nsIn K (He.ga K "COUNTS") x = some (some u) ∧ RelV (d.v K) u := He.valsB_ok T.counts h
end
section
variable {K : Fg} {σ : Ks} {H H' : Hp} {ta tb te tx : TE} {t : TT} {d e : PyData} {ds es : List PyData}
theorem q_ifelseB {D : Ends} {tz : TS} {i : Nat} {b : Bool} (h : EvT t σ H b) (h1 : b = true → Ev te σ H (.bl true)) (h2 : b = false → Ev tx σ H (.bl true)) (k : ∀ H1, Ex H H1 → tz D (σ.set i (some (.bl true))) H1) : tSeq (tIfS t (tAsg te (gName i)) (tAsg tx (gName i))) tz D σ H :=
  d_if h (fun hb H1 e1 => h1 hb H1 e1 _ fun H2 e2 => k H2 (e1.trans e2)) fun hb H1 e1 => h2 hb H1 e1 _ fun H2 e2 => k H2 (e1.trans e2)
end
section
variable {P : Program} {w : World} {K : Fg} {mg : Str → Option Value} {base : Heap}
/-! ### numbers_in_row -/
inductive RowIs : List (List Nat) → List Nat → Prop where
  | order (ns : List Nat) (h : ns ≠ []) : RowIs (cOrder :: ns.map TL.numL) ns
  | web : RowIs [cWeb] []
  | label (i : Nat) : RowIs [cLabel, TL.numL i] [i]
def rRow : Rel := fun ds r => ∃ (ws : List (List Nat)) (ns : List Nat), RowIs ws ns ∧ (∀ n ∈ ns, n ≤ 9999) ∧ ns.length ≤ 100 ∧ ds = [.list (ws.map strD)] ∧ r = .list (ns.map nD)
theorem row_tail {ws : List (List Nat)} {ns : List Nat} (h : RowIs ws ns) : ∃ c, ws = c :: ns.map TL.numL ∧ c ≠ [112, 117, 116] ∧ (c = cOrder → ns ≠ []) := by
  cases h with
  | order ns h => exact ⟨cOrder, rfl, by decide, fun _ => h⟩
  | web => exact ⟨cWeb, rfl, by decide, fun z => absurd z (by decide)⟩
  | label i => exact ⟨cLabel, rfl, by decide, fun z => absurd z (by decide)⟩
theorem sc_numbers_in_row : FnScope ["words", "numbers", "word", "good"] ["words"] (defScope (top 87)) := ⟨rfl, rfl, rfl, by decide +kernel, rfl, by decide +kernel, by decide +kernel⟩
theorem cal_numbers_in_row (T : Txt w K mg) : CalD P w K mg base 2 "numbers_in_row" (PureSp K rRow) := by
  refine cal_of T.f_numbers_in_row T.g_numbers_in_row sc_numbers_in_row (fun _ _ _ _ _ _ us hl => match us, hl with | [_], _ => rfl) (fun ds r h => by obtain ⟨_, _, _, _, _, rfl, _⟩ := h; rfl) fun cdv A outer s H vs Q E hr ds r h hd k => ?_
  obtain ⟨ws, ns, hrow, hns, few, rfl, rfl⟩ := h
  obtain ⟨v1, rfl, h1⟩ := dps1 hd
  refine ⟨_, (pss_cons (ps_setLc (i := 1) (own := [("word", 2)]) rfl sc_numbers_in_row.nd rfl rfl (sw_true rfl rfl rfl (by decide +kernel)) (pi_listK (K := K) rfl (pe_slice (sl_listK (K := K) rfl) (pv 0) (po_some pe_int) po_none)) (blkOk_by (N := ["words", "numbers", "word", "good"]) (sc := defScope (top 87)) (by decide +kernel)) (fun _ _ _ _ _ => (pg_name (i := 2) sc_numbers_in_row.nd rfl (Or.inl rfl))) (fun _ _ _ _ _ => pts_nil) (fun _ _ _ _ _ => (pe_cal (cal_number_in (K := K) T) hr (by decide) (by rfl) (pa_cons (pv 2) (pa_cons (pe_glob (v := .int 4) rfl (T.i_MOST_FIGURES_desk.choose_spec) ⟨_, rfl⟩) pa_nil)))))
      (pss_cons (ps_if (pt_cmpR op_eq (pe_ix (ix_listK (K := K) rfl) (pv 0) pe_int (fun _ _ => rfl)) pe_str (nomark _)) (pss_one (ps_set (i := 3) sc_numbers_in_row.nd rfl (Or.inl rfl) (pe_cmpR op_gt (pe_callB (call_lenK (K := K) rfl) (by rfl) T.m_len bt_len (pa_cons (pv 1) pa_nil)) pe_int (nomark _)))) (pss_one (ps_set (i := 3) sc_numbers_in_row.nd rfl (Or.inl rfl) (pe_and (pe_cmpR (op_inKdK (K := K) rfl rfl T.cntD) (pe_ix (ix_listK (K := K) rfl) (pv 0) pe_int (fun _ _ => rfl)) (pe_glob (v := .ref (He.ga K "COUNTS")) rfl T.g_COUNTS rfl) (by rfl)) (pe_one (pe_cmpR op_eq (pe_callB (call_lenK (K := K) rfl) (by rfl) T.m_len bt_len (pa_cons (pv 1) pa_nil)) (pe_ix (ix_kdK (K := K) (w := w) rfl rfl) (pe_glob (v := .ref (He.ga K "COUNTS")) rfl T.g_COUNTS rfl) (pe_ix (ix_listK (K := K) rfl) (pv 0) pe_int (fun _ _ => rfl)) (fun _ _ => rfl)) (nomark _)))))))
      (pss_cons (ps_if (PW.pt (pw_or (pt_not (pt_val (pv 3))) (pw_or1 (pt_cmpR (op_inK (K := K) rfl) pe_non (pv 1) (by rfl))))) (pss_one ps_never) pss_nil)
      (pss_cons (ps_if (PW.pt (pw_and (pt_cmpR op_eq (pe_ix (ix_listK (K := K) rfl) (pv 0) pe_int (fun _ _ => rfl)) pe_str (nomark _)) (pw_and1 (pt_not (pt_chain op_le op_le pe_int (pe_ix (ix_listK (K := K) rfl) (pv 1) pe_int (fun _ _ => rfl)) (pe_glob (v := .int 99) rfl (T.i_MOST_LONG.choose_spec) ⟨_, rfl⟩)))))) (pss_one ps_never) pss_nil)
      (pss_one (ps_ret (pv 1))))))), ?_⟩
  obtain ⟨c, rfl, hput, hord⟩ := row_tail hrow
  have w0 : ∀ {H'} (e : Ex H H') {σ : Ks}, σ[0]? = some (some v1) → EvD K (tOp (rIxL K) (tVar 0) (tC (.int 0))) σ H' (strD c) := fun {H'} e {σ} hs => evd_atL (f := strD) (i := 0) (evd_var hs (Dpx h1 e)) (evd_cn 0) rfl
  refine q_setN (K := K) (ds := ns.map nD) (evn_lcB (enc := fun n => strD (TL.numL n)) (l := ns) nD (evj_L (EvD.to (evd_slL (l := some 1) (u := none) (evd_var rfl h1) (evo_some ev_c) evo_none) ?_)) (by omega) (fun _ _ => rfl) fun n x H3 P hn e3 dx q => ?_) fun p xs H1 np e1 hp dp => ?_
  · unfold cutD
    rw [List.map_cons, List.length_cons, List.length_map, List.length_map]
    show PyData.list ((((strD c :: (ns.map TL.numL).map strD)).drop (min 1 (ns.length + 1))).take (ns.length + 1 - min 1 (ns.length + 1))) = _
    rw [Nat.min_eq_left (by omega), List.drop_succ_cons, List.drop_zero, List.take_of_length_le (by rw [List.length_map, List.length_map]; omega), List.map_map]
    rfl
  · exact q _ rfl (evd_call (evds_cons (evd_var rfl dx) (evds_cons (evd_cn 4) evds_nil)) ⟨n, 4, hns n hn, by decide, by decide, rfl, rfl⟩)
  have dl : Dp K H1 (.ref p) (.list (ns.map nD)) := dp_locD hp dp
  have len : ∀ {H'} (e : Ex H1 H') {σ : Ks} {i : Nat}, σ[i]? = some (some (.ref p)) → Ev (tCB (rLenQ K) (tCons (tVar i) tNil)) σ H' (.int (ns.length : Int)) := fun {H'} e {σ i} hs => by
    have q := ev_lenL (K := K) (evd_var hs (Dpx dl e))
    rw [List.length_map] at q
    exact q
  refine q_ifelseB (b := decide (c = cOrder)) (et_test (ev_eqT (K := K) (w0 (σ := [some v1, some (.ref p), none, none]) e1 rfl) (evd_cS s_order))) (fun hb => ?_) (fun hb => ?_) fun H2 e2 => ?_
  · have h := hord (by simpa using hb)
    have : 0 < ns.length := List.length_pos_iff.mpr h
    exact ev_is (ev_gt (len (Ex.refl _) rfl) ev_c) (by rw [decide_eq_true (show (0 : Int) < (ns.length : Int) by omega)])
  · have hc : ∃ d : He.Dv, (S c, d) ∈ counts ∧ d.v K = .int (ns.length : Int) := by
      rw [decide_eq_false_iff_not] at hb
      clear hns few dp dl len w0
      generalize hw : c :: ns.map TL.numL = ws at hrow
      cases hrow with
      | order ns' h => injection hw with hw _; exact absurd hw hb
      | web =>
        injection hw with hw hw2
        subst hw
        exact ⟨.int 0, by rw [← s_web]; simp [counts], rfl⟩
      | label i =>
        injection hw with hw hw2
        subst hw
        exact ⟨.int 1, by rw [← s_label]; simp [counts], rfl⟩
    obtain ⟨d, hd1, hd2⟩ := hc
    obtain ⟨u, hu1, hu2⟩ := cnt_at T hd1
    obtain ⟨es, n, D⟩ := T.cntD
    refine ev_is (ev_andV (a := true) (b := decide ((ns.length : Int) = (ns.length : Int))) (fun H3 e3 Q' q' => ?_) fun _ => ev_eqI (len (Ex.refl _) rfl) (fun H3 e3 Q' q' => ?_)) (by simp)
    · refine (w0 (e1.trans e3) rfl) H3 (Ex.refl _) _ fun v H4 e4 d4 => ?_
      rw [dp_S d4]
      exact ⟨S c, some u, rfl, rfl, hu1, q' H4 e4⟩
    · refine (w0 (e1.trans e3) rfl) H3 (Ex.refl _) _ fun v H4 e4 d4 => ?_
      rw [dp_S d4]
      exact ⟨_, S c, .int (ns.length : Int), rfl, rfl, ⟨es, n, u, D.at_, D.lit, hu1, by rw [← hd2]; exact hu2⟩, q' H4 e4⟩
  have e12 := e1.trans e2
  refine d_when (b := !true || false) (et_or (a := !true) (et_not (et_test (ev_bool (K := K) (evd_var rfl (.bl true))))) fun _ => et_test (ev_is (ev_noneInL (l := ns.map some) (EvD.to (evd_var rfl (Dpx dl e2)) (by rw [List.map_map]; rfl))) (by rw [List.any_map]; congr 1; exact List.any_eq_false.mpr fun _ _ => by simp))) (fun z => by cases z) fun _ H3 e3 => ?_
  refine d_when (b := false && true) (et_and (a := false) (et_test (ev_is (ev_eqT (w0 (e12.trans e3) rfl) (evd_cS s_put)) (by rw [decide_eq_false hput]))) fun z => by cases z) (fun z => by cases z) fun _ H4 e4 => ?_
  exact d_ret (evd_var rfl (Dpx dl (e2.trans (e3.trans e4)))) fun v H5 e5 d5 => k v H5 ((e12.trans (e3.trans e4)).trans e5) d5
end
end Lw
namespace Lw
open PySem PySem.Spec PyProof.Rows L2 Evl LwM SX
/-! ### what the checker says, as a word -/
def wordR : Option Wd → Str
  | none => "ok"
  | some wd => wordS wd
section
variable {w : World} {K : Fg} {mg : Str → Option Value} {σ : Ks} {H H' : Hp}
theorem q_try (T : Txt w K mg) {i j : Nat} {ta : TA} {D : Ends} {tz : TS} {W : Web} {L : List Lab} (okW : WebOk W) (ok : LabelsOk W.n L) (h : EvDs K ta σ H [webD W, labelsD L]) (hi : i < σ.length)
    (k0 : wordL W L = none → ∀ H1, Ex H H1 → tz D σ H1) (k1 : ∀ wd, wordL W L = some wd → ∀ a H1, Ex H H1 → tz D (((σ.set i (some (.ref a))).set j (some (.str (wordS wd)))).set i none) H1) :
    tSeq (fun D σ H => tDrop (tCallS (spLets K) (WE (wAs K (.ref (He.ga K "NoLabels")) i (fun a cls d => tAsg (tXf a cls d (He.ga K "NoLabels") "word" (tVar i)) (gName j)) (fun _ _ _ _ => False) D)) ta) D σ H) tz D σ H :=
  h H (Ex.refl _) _ fun vs H1 e1 d1 => ⟨W, L, okW, ok, d1, fun hn v H2 e2 d2 => k0 hn H2 (e1.trans e2), fun wd hw d H2 e2 f => ⟨true, T.x_NoLabels, fun _ a na => by
    obtain ⟨at_, hf⟩ := f
    exact ⟨.ref a, by rw [List.getElem?_set_self hi], rfl, rfl, d, _, .str (wordS wd), rfl, hf, rfl, k1 wd hw a H2 (e1.trans e2)⟩, fun z => by cases z⟩⟩
end
section
variable {P : Program} {w : World} {K : Fg} {mg : Str → Option Value} {base : Heap}
def rWord : Rel := fun ds r => ∃ (W : Web) (L : List Lab), WebOk W ∧ LabelsOk W.n L ∧ ds = [webD W, labelsD L] ∧ r = .str (wordR (wordL W L))
theorem sc_law_word : FnScope ["_law_web_here", "_law_labels", "_law_found", "e"] ["_law_web_here", "_law_labels"] (defScope (top 96)) := ⟨rfl, rfl, rfl, by decide +kernel, rfl, by decide +kernel, by decide +kernel⟩
theorem cal_law_word (T : Txt w K mg) : CalD P w K mg base 6 "_law_word" (PureSp K rWord) := by
  refine cal_of T.f_law_word T.g_law_word sc_law_word (fun _ _ _ _ _ _ us hl => match us, hl with | [_, _], _ => rfl) (fun ds r h => by obtain ⟨_, _, _, _, rfl, _⟩ := h; rfl) fun cdv A outer s H vs Q E hr ds r h hd k => ?_
  obtain ⟨W, L, okW, ok, rfl, rfl⟩ := h
  obtain ⟨v1, v2, rfl, h1, h2⟩ := dps2 hd
  refine ⟨_, (pss_cons (ps_set (i := 2) sc_law_word.nd rfl (Or.inl rfl) pe_str)
      (pss_cons (ps_try_as (i := 3) (tb := fun W => tDrop (tCallS (spLets K) (WE W) (tCons (tVar 0) (tCons (tVar 1) tNil)))) (ts := fun a cls d => tAsg (tXf a cls d (He.ga K "NoLabels") "word" (tVar 3)) (gName 2)) (Wout := fun _ _ _ _ => False) rfl rfl sc_law_word.nd rfl rfl ⟨rfl, by decide, Or.inl T.g_NoLabels⟩ takes0 (fun W pn xe tk _ => pss_one (ps_expr (by exact (pe_calXS (calx_lets_labels (K := K) T) hr (by decide) rfl tk (pa_cons (pv 0) (pa_cons (pv 1) pa_nil)))))) (fun a oe cls d pn hz hf => pss_one (ps_set (i := 2) sc_law_word.nd rfl (Or.inl rfl) (by exact (pe_xf T.xf T.n_NoLabels_word hz hf (pv 3))))))
      (pss_one (ps_ret (pv 2))))), ?_⟩
  refine d_set (d := .str "ok") (evd_str (K := K) ev_c) fun vf H1 e1 hf => ?_
  have ef := dp_str hf
  subst ef
  refine q_try T (i := 3) (j := 2) okW ok (evds_cons (evd_var rfl (Dpx h1 e1)) (evds_cons (evd_var rfl (Dpx h2 e1)) evds_nil)) (by show 3 < 4; decide) (fun hn H2 e2 => ?_) fun wd hw a H2 e2 => ?_
  · rw [hn] at k
    exact d_ret (d := .str "ok") (evd_var rfl (.str _)) fun v H3 e3 d3 => k v H3 ((e1.trans e2).trans e3) d3
  · rw [hw] at k
    exact d_ret (d := .str (wordS wd)) (evd_var rfl (.str _)) fun v H3 e3 d3 => k v H3 ((e1.trans e2).trans e3) d3
end
end Lw
namespace Lw
open PySem PySem.Spec PyProof.Rows L2 Evl LwM SX
/-! ### labels that can be read back -/
theorem asc_aux {n : Nat} : ∀ (l : List Nat) (lo : Nat), l.Pairwise (· < ·) → (∀ x ∈ l, lo ≤ x ∧ x < n) → lo ≤ n → l.length + lo ≤ n
  | [], lo, _, _, h => by simpa using h
  | x :: l, lo, hp, hb, _ => by
    have hx := hb x (by simp)
    have h2 := List.pairwise_cons.mp hp
    have := asc_aux l (x + 1) h2.2 (fun y hy => ⟨h2.1 y hy, (hb y (by simp [hy])).2⟩) hx.2
    rw [List.length_cons]
    omega
theorem asc_len {n : Nat} {l : Lab} (h : l.Pairwise fun a b => a.hub < b.hub) (hb : ∀ e ∈ l, e.hub < n) : l.length ≤ n := by
  have := asc_aux (n := n) (l.map (·.hub)) 0 (List.pairwise_map.mpr h) (fun x hx => by
    obtain ⟨e, he, rfl⟩ := List.mem_map.mp hx
    exact ⟨Nat.zero_le _, hb e he⟩) (Nat.zero_le _)
  rw [List.length_map] at this
  exact this
theorem labs_go {n : Nat} {L : List Lab} (ok : LabelsOk n L) (hn : n ≤ 24) : ∀ l ∈ L, LabGo L.length l ∧ (∀ e ∈ l, EntSm e) ∧ l.length ≤ 24 := fun l hl => by
  have sm := labs_sm ok hn l hl
  have asc := ok.asc l hl
  have hub := ok.hub l hl
  have few := asc_len asc hub
  have len := ok.len
  obtain ⟨v, hv⟩ := List.mem_iff_getElem?.mp hl
  obtain ⟨⟨e0, he0, h1, h2⟩, h3⟩ := ok.own v l hv
  refine ⟨⟨fun j e he => ?_, by omega, e0, he0, h2⟩, sm, by omega⟩
  have hm := List.mem_of_getElem? he
  have last : ∀ a ∈ l.take j, a.hub < e.hub := fun a ha => by
    obtain ⟨i, hi⟩ := List.mem_iff_getElem?.mp ha
    rw [List.getElem?_take] at hi
    split at hi
    · rename_i hij
      obtain ⟨p1, q1⟩ := List.getElem?_eq_some_iff.mp hi
      obtain ⟨p2, q2⟩ := List.getElem?_eq_some_iff.mp he
      rw [← q1, ← q2]
      exact List.pairwise_iff_getElem.mp asc i j p1 p2 hij
    · cases hi
  refine ⟨sm e hm, by rw [len]; exact hub e hm, by omega, by rw [List.length_take]; omega, last, fun hz => ?_, fun hz => ?_⟩
  · obtain ⟨u1, u2⟩ := ok.zero l hl e hm hz
    refine ⟨u1, u2, fun a ha => ?_⟩
    have h4 := h3 e hm hz
    have h5 := last a ha
    by_cases hz2 : a.long = 0
    · have := h3 a (List.mem_of_mem_take ha) hz2
      omega
    · omega
  · rw [len]
    exact ok.ups l hl e hm hz
/-! ### a Keeper -/
def kpF (vL vo vw : V) : List (Str × V) := [("kept_labels", vL), ("kept_order", vo), ("kept_web", vw)]
structure KpAt (K : Fg) (H : Hp) (kp : Addr) (W : Web) (L : List Lab) : Prop where
  at_ : ∃ dx vL vo vw, H kp = some (.ins (He.ga K "Keeper") dx (kpF vL vo vw)) ∧ Dp K H vL (labelsD L) ∧ Dp K H vw (webD W)
theorem KpAt.mono {K : Fg} {H H' : Hp} {kp : Addr} {W : Web} {L : List Lab} (h : KpAt K H kp W L) (e : Ex H H') : KpAt K H' kp W L := by
  obtain ⟨dx, vL, vo, vw, h1, h2, h3⟩ := h
  exact ⟨dx, vL, vo, vw, e _ _ h1, Dpx h2 e, Dpx h3 e⟩
theorem KpAt.but {K : Fg} {H H' : Hp} {kp a C dx : Addr} {fs : List (Str × V)} {W : Web} {L : List Lab} (h : KpAt K H kp W L) (ha : H a = some (.ins C dx fs)) (ne : kp ≠ a) (e : KeepBut a H H') : KpAt K H' kp W L := by
  obtain ⟨dx, vL, vo, vw, h1, h2, h3⟩ := h
  have tk := tk_but ha e
  exact ⟨dx, vL, vo, vw, e _ _ ne h1, Dpt h2 tk (fz_labels _), Dpt h3 tk (fz_web _)⟩
section
variable {P : Program} {w : World} {K : Fg} {mg : Str → Option Value} {base : Heap}
def spKpI (K : Fg) : Sp := fun vs H Q _ => ∃ (a dx : Addr) (vw vo : V) (W : Web) (ord : List Nat), vs = [.ref a, vw, vo] ∧ H a = some (.ins (He.ga K "Keeper") dx []) ∧ WebOk W ∧ OrdOk W ord ∧ Dp K H vw (webD W) ∧ Dp K H vo (placesD ord) ∧ ∀ H', KeepBut a H H' → KpAt K H' a W (labelsBy W ord) → Q .non H'
theorem sc_Keeper_init : FnScope ["self", "web", "order"] ["self", "web", "order"] (defScope (inClass (top 66) 0)) := ⟨rfl, rfl, rfl, by decide +kernel, rfl, by decide +kernel, by decide +kernel⟩
theorem mk_Keeper (T : Txt w K mg) : C8.Mak P w K mg base 6 "Keeper" (He.ga K "Keeper") (spKpI K) [] := by
  refine mak_sp T.k_Keeper T.g_Keeper T.f_Keeper_init sc_Keeper_init (fun _ _ _ _ _ _ us hl => match us, hl with | [_, _, _], _ => rfl) (fun vs H Q E h => by obtain ⟨_, _, _, _, _, _, rfl, _⟩ := h; rfl) fun cdv A outer s H vs Q E hr h => ?_
  obtain ⟨a, dx, vw, vo, W, ord, rfl, ha, okW, okO, hw, ho, k⟩ := h
  refine ⟨_, (pss_cons (ps_fld (pv 0) (pe_cal (cal_by_order (K := K) T) hr (by decide) (by rfl) (pa_cons (pv 1) (pa_cons (pv 2) pa_nil))) rfl)
      (pss_cons (ps_fld (pv 0) (pv 2) rfl)
      (pss_one (ps_fld (pv 0) (pv 1) rfl)))), ?_⟩
  refine (evd_call (K := K) (evds_cons (evd_var rfl hw) (evds_cons (evd_var rfl ho) evds_nil)) ⟨W, ord, okW, okO, rfl, rfl⟩) H (Ex.refl _) _ fun vL H1 e1 d1 => ?_
  refine ⟨_, rfl, a, _, dx, _, rfl, e1 _ _ ha, T.c_Keeper, T.n_Keeper_kept_labels, (by show 0 < 1000; decide), ?_⟩
  refine ⟨_, rfl, _, rfl, a, _, dx, _, rfl, upd_same, T.c_Keeper, T.n_Keeper_kept_order, (by show 1 < 1000; decide), ?_⟩
  refine ⟨_, rfl, _, rfl, a, _, dx, _, rfl, upd_same, T.c_Keeper, T.n_Keeper_kept_web, (by show 2 < 1000; decide), ?_⟩
  refine k _ ((KeepBut.ex e1).trans (KeepBut.upd.trans (KeepBut.upd.trans KeepBut.upd))) ⟨dx, vL, vo, vw, upd_same, ?_, ?_⟩
  · exact Dpt d1 (tk_but (e1 _ _ ha) (KeepBut.upd.trans (KeepBut.upd.trans KeepBut.upd))) (fz_labels _)
  · exact Dpt (Dpx hw e1) (tk_but (e1 _ _ ha) (KeepBut.upd.trans (KeepBut.upd.trans KeepBut.upd))) (fz_web _)
def spWebNow (K : Fg) : Sp := fun vs H Q _ => ∃ (kp : Addr) (W : Web) (L : List Lab), vs = [.ref kp] ∧ KpAt K H kp W L ∧ ∀ v H', Ex H H' → Dp K H' v (webD W) → Q v H'
theorem sc_Keeper_web_now : FnScope ["self"] ["self"] (defScope (inClass (top 66) 5)) := ⟨rfl, rfl, rfl, by decide +kernel, rfl, by decide +kernel, by decide +kernel⟩
theorem met_web_now (T : Txt w K mg) : C8.Met P w K mg base 1 (He.ga K "Keeper") "web_now" (spWebNow K) [] := by
  refine met_sp T.c_Keeper T.y_Keeper_web_now T.f_Keeper_web_now sc_Keeper_web_now (fun _ _ _ _ _ _ us hl => match us, hl with | [_], _ => rfl) (fun vs H Q E h => by obtain ⟨_, _, _, rfl, _⟩ := h; rfl) fun cdv A outer s H vs Q E hr h => ?_
  obtain ⟨kp, W, L, rfl, ⟨dx, vL, vo, vw, h1, h2, h3⟩, k⟩ := h
  exact ⟨_, (pss_one (ps_ret (pe_fld (pv 0) rfl))), _, rfl, kp, _, dx, _, _, rfl, h1, T.c_Keeper, T.n_Keeper_kept_web, rfl, k vw H (Ex.refl _) h3⟩
def spLabsNow (K : Fg) : Sp := fun vs H Q _ => ∃ (kp : Addr) (W : Web) (L : List Lab), vs = [.ref kp] ∧ KpAt K H kp W L ∧ ∀ v H', Ex H H' → Dp K H' v (labelsD L) → Q v H'
theorem sc_Keeper_labels_now : FnScope ["self"] ["self"] (defScope (inClass (top 66) 6)) := ⟨rfl, rfl, rfl, by decide +kernel, rfl, by decide +kernel, by decide +kernel⟩
theorem met_labels_now (T : Txt w K mg) : C8.Met P w K mg base 1 (He.ga K "Keeper") "labels_now" (spLabsNow K) [] := by
  refine met_sp T.c_Keeper T.y_Keeper_labels_now T.f_Keeper_labels_now sc_Keeper_labels_now (fun _ _ _ _ _ _ us hl => match us, hl with | [_], _ => rfl) (fun vs H Q E h => by obtain ⟨_, _, _, rfl, _⟩ := h; rfl) fun cdv A outer s H vs Q E hr h => ?_
  obtain ⟨kp, W, L, rfl, ⟨dx, vL, vo, vw, h1, h2, h3⟩, k⟩ := h
  exact ⟨_, (pss_one (ps_ret (pe_fld (pv 0) rfl))), _, rfl, kp, _, dx, _, _, rfl, h1, T.c_Keeper, T.n_Keeper_kept_labels, rfl, k vL H (Ex.refl _) h2⟩
end
section
variable {K : Fg} {σ : Ks} {H H' : Hp} {ta tb te tx : TE} {kp : Addr} {W : Web} {L : List Lab}
theorem lk_web {vL vo vw : V} : List.lookup ("web_now" : Str) (kpF vL vo vw) = none := rfl
theorem lk_labs {vL vo vw : V} : List.lookup ("labels_now" : Str) (kpF vL vo vw) = none := rfl
theorem evd_webNow (h : Ev te σ H (.ref kp)) (hk : KpAt K H kp W L) : EvD K (tMeth (He.ga K "Keeper") "web_now" (spWebNow K) [] E0 te tNil) σ H (webD W) := fun H1 e Q q => h H1 e _ fun H2 e2 => by
  obtain ⟨dx, vL, vo, vw, h1, _⟩ := id hk
  exact ⟨kp, dx, _, rfl, (e.trans e2) _ _ h1, lk_web, kp, W, L, rfl, hk.mono (e.trans e2), fun v H3 e3 d3 => q v H3 (e2.trans e3) d3⟩
theorem evd_labsNow (h : Ev te σ H (.ref kp)) (hk : KpAt K H kp W L) : EvD K (tMeth (He.ga K "Keeper") "labels_now" (spLabsNow K) [] E0 te tNil) σ H (labelsD L) := fun H1 e Q q => h H1 e _ fun H2 e2 => by
  obtain ⟨dx, vL, vo, vw, h1, _⟩ := id hk
  exact ⟨kp, dx, _, rfl, (e.trans e2) _ _ h1, lk_labs, kp, W, L, rfl, hk.mono (e.trans e2), fun v H3 e3 d3 => q v H3 (e2.trans e3) d3⟩
/-- Keeper(web, order), a new one -/
theorem ev_keeper {ord : List Nat} (okW : WebOk W) (okO : OrdOk W ord) (hw : EvD K ta σ H (webD W)) (ho : EvD K tb σ H (placesD ord)) (Q : VK) (k : ∀ a H', H a = none → Ex H H' → KpAt K H' a W (labelsBy W ord) → Q (.ref a) H') :
    tMake (He.ga K "Keeper") (spKpI K) [] E0 (tCons ta (tCons tb tNil)) σ H Q := hw H (Ex.refl _) _ fun vw H1 e1 d1 => ho H1 e1 _ fun vo H2 e2 d2 => by
  have e12 := e1.trans e2
  intro a dx ha hdx hne
  have ex : Ex H2 (upd (upd H2 dx (.own a)) a (.ins (He.ga K "Keeper") dx [])) := (Ex.new hdx).trans (Ex.new (by rw [upd_ne (Ne.symm hne)]; exact ha))
  exact ⟨a, dx, vw, vo, W, ord, rfl, upd_same, okW, okO, Dpx d1 (e2.trans ex), Dpx d2 ex, fun H3 k3 hL => ⟨rfl, k a H3 (fresh_back e12 ha) (e12.trans (k3.back ex ha)) hL⟩⟩
end
/-! ### a Desk -/
structure DkAt (K : Fg) (H : Hp) (d : Addr) (W : Web) (L : List Lab) : Prop where
  at_ : ∃ dx kp, H d = some (.ins (He.ga K "Desk") dx [("desk_keeper", .ref kp)]) ∧ KpAt K H kp W L
theorem DkAt.mono {K : Fg} {H H' : Hp} {d : Addr} {W : Web} {L : List Lab} (h : DkAt K H d W L) (e : Ex H H') : DkAt K H' d W L := by
  obtain ⟨dx, kp, h1, h2⟩ := h
  exact ⟨dx, kp, e _ _ h1, h2.mono e⟩
theorem ev_dkKeep {w : World} {K : Fg} {mg : Str → Option Value} (T : Txt w K mg) {σ : Ks} {H : Hp} {i : Nat} {d dx kp : Addr} (hs : σ[i]? = some (some (.ref d))) (h : H d = some (.ins (He.ga K "Desk") dx [("desk_keeper", .ref kp)])) : Ev (tFld K (tVar i) "desk_keeper") σ H (.ref kp) := fun H1 e Q q =>
  ⟨_, hs, d, _, dx, _, _, rfl, e _ _ h, T.c_Desk, T.n_Desk_desk_keeper, rfl, q H1 (Ex.refl _)⟩
theorem ord_range (W : Web) : OrdOk W (List.range W.n) := ⟨List.nodup_range, fun _ => List.mem_range⟩
section
variable {P : Program} {w : World} {K : Fg} {mg : Str → Option Value} {base : Heap}
def spDkI (K : Fg) : Sp := fun vs H Q _ => ∃ (a dx : Addr) (v : V) (W : Web), vs = [.ref a, v] ∧ H a = some (.ins (He.ga K "Desk") dx []) ∧ WebOk W ∧ Dp K H v (.list ((webLs W).map strD)) ∧ ∀ H', KeepBut a H H' → DkAt K H' a W (labelsBy W (List.range W.n)) → Q .non H'
theorem sc_Desk_init : FnScope ["self", "lines", "web"] ["self", "lines"] (defScope (inClass (top 88) 0)) := ⟨rfl, rfl, rfl, by decide +kernel, rfl, by decide +kernel, by decide +kernel⟩
theorem mk_Desk (T : Txt w K mg) : C8.Mak P w K mg base 8 "Desk" (He.ga K "Desk") (spDkI K) [] := by
  refine mak_sp T.k_Desk T.g_Desk T.f_Desk_init sc_Desk_init (fun _ _ _ _ _ _ us hl => match us, hl with | [_, _], _ => rfl) (fun vs H Q E h => by obtain ⟨_, _, _, _, rfl, _⟩ := h; rfl) fun cdv A outer s H vs Q E hr h => ?_
  obtain ⟨a, dx, v, W, rfl, ha, okW, hv, k⟩ := h
  refine ⟨_, (pss_cons (ps_set (i := 2) sc_Desk_init.nd rfl (Or.inl rfl) (pe_cal (cal_read_web (K := K) T) hr (by decide) (by rfl) (pa_cons (pv 1) pa_nil)))
      (pss_one (ps_fld (pv 0) (C8.pe_mk (mk_Keeper (K := K) T) hr (by decide) (by rfl) (pa_cons (pv 2) (pa_cons (pe_tupRg (by rfl) (by rfl) T.m_tuple (prg_1 (by rfl) T.m_range (pe_ix ix_tup (pv 2) pe_int (fun _ _ => rfl)))) pa_nil))) rfl))), ?_⟩
  have most := okW.most
  refine d_set (evd_call (K := K) (evds_cons (evd_var rfl hv) evds_nil) ⟨W, okW, rfl, rfl⟩) fun vw H1 e1 d1 => ?_
  refine ev_keeper (K := K) okW (ord_range W) (evd_var rfl d1) (evd_tupRg (ev_n (K := K) (evd_i0 (evd_var rfl d1))) (by omega)) _ fun kp H2 np e2 hk => ?_
  have e12 := e1.trans e2
  have ha2 := e12 _ _ ha
  have ne : kp ≠ a := fun z => by rw [z, e1 _ _ ha] at np; cases np
  refine ⟨_, rfl, a, _, dx, _, rfl, ha2, T.c_Desk, T.n_Desk_desk_keeper, (by show 0 < 1000; decide), ?_⟩
  exact k _ ((KeepBut.ex e12).trans KeepBut.upd) ⟨dx, kp, upd_same, hk.but ha2 ne KeepBut.upd⟩
/-! checked -/
def spChecked (K : Fg) : Sp := fun vs H Q _ => ∃ (d : Addr) (W : Web) (L M : List Lab), vs = [.ref d, .str (S (rowL (labLs M)))] ∧ DkAt K H d W L ∧ WebOk W ∧ LabelsOk W.n M ∧ ∀ H', Ex H H' → Q (.str (wordR (wordL W M))) H'
theorem sc_Desk_checked : FnScope ["self", "text", "labels", "found", "e"] ["self", "text"] (defScope (inClass (top 88) 3)) := ⟨rfl, rfl, rfl, by decide +kernel, rfl, by decide +kernel, by decide +kernel⟩
theorem met_checked (T : Txt w K mg) : C8.Met P w K mg base 6 (He.ga K "Desk") "checked" (spChecked K) [] := by
  refine met_sp T.c_Desk T.y_Desk_checked T.f_Desk_checked sc_Desk_checked (fun _ _ _ _ _ _ us hl => match us, hl with | [_, _], _ => rfl) (fun vs H Q E h => by obtain ⟨_, _, _, _, rfl, _⟩ := h; rfl) fun cdv A outer s H vs Q E hr h => ?_
  obtain ⟨d, W, L, M, rfl, ⟨dx, kp, h1, hk⟩, okW, ok, k⟩ := h
  refine ⟨_, (pss_cons (ps_set (i := 2) sc_Desk_checked.nd rfl (Or.inl rfl) (pe_cal (cal_read_labels (K := K) T) hr (by decide) (by rfl) (pa_cons (pe_split (pv 1) pe_str) pa_nil)))
      (pss_cons (ps_set (i := 3) sc_Desk_checked.nd rfl (Or.inl rfl) pe_str)
      (pss_cons (ps_try_as (i := 4) (tb := fun W => tDrop (tCallS (spLets K) (WE W) (tCons (tMeth (He.ga K "Keeper") "web_now" (spWebNow K) [] E0 (tFld K (tVar 0) "desk_keeper") tNil) (tCons (tVar 2) tNil)))) (ts := fun a cls d => tAsg (tXf a cls d (He.ga K "NoLabels") "word" (tVar 4)) (gName 3)) (Wout := fun _ _ _ _ => False) rfl rfl sc_Desk_checked.nd rfl rfl ⟨rfl, by decide, Or.inl T.g_NoLabels⟩ takes0 (fun W pn xe tk _ => pss_one (ps_expr (by exact (pe_calXS (calx_lets_labels (K := K) T) hr (by decide) rfl tk (pa_cons (C8.pe_mt0 (met_web_now (K := K) T) hr (by decide) (pe_fld (pv 0) rfl)) (pa_cons (pv 2) pa_nil)))))) (fun a oe cls d pn hz hf => pss_one (ps_set (i := 3) sc_Desk_checked.nd rfl (Or.inl rfl) (by exact (pe_xf T.xf T.n_NoLabels_word hz hf (pv 4))))))
      (pss_one (ps_ret (pv 3)))))), ?_⟩
  have most := okW.most
  have pos := okW.pos
  have len := ok.len
  have go := labs_go ok most
  have hl : (labLs M).length = M.length := by unfold labLs; simp
  refine d_set (evd_call (K := K) (evds_cons (evn_split (ws := labLs M) (sep := [59, 32]) (x := rowL (labLs M)) (evd_var rfl (.str _)) (evd_cS s_semi) (by decide) ?_ ?_).toD evds_nil) ⟨M, by omega, by omega, go, rfl, rfl⟩) fun vM H1 e1 d1 => ?_
  · have := rowL_len (ls := labLs M) (fun p hp => by
      unfold labLs at hp
      obtain ⟨l, hl, rfl⟩ := List.mem_map.mp hp
      exact labL_len (go l hl).2.1 (go l hl).2.2) (by omega)
    omega
  · refine split_row ?_ fun p hp => ?_
    · intro z
      rw [z] at hl
      simp at hl
      omega
    · unfold labLs at hp
      obtain ⟨l, hl, rfl⟩ := List.mem_map.mp hp
      exact labL_free l
  refine d_set (d := .str "ok") (evd_str (K := K) ev_c) fun vf H2 e2 hf => ?_
  have ef := dp_str hf
  subst ef
  have e12 := e1.trans e2
  refine q_try T (i := 4) (j := 3) okW ok (evds_cons (evd_webNow (ev_dkKeep T rfl (e12 _ _ h1)) (hk.mono e12)) (evds_cons (evd_var rfl (Dpx d1 e2)) evds_nil)) (by show 4 < 5; decide) (fun hn H3 e3 => ?_) fun wd hw a H3 e3 => ?_
  · rw [hn] at k
    exact d_ret (K := K) (d := .str "ok") (evd_var rfl (.str _)) fun v H4 e4 d4 => by
      rw [dp_str d4]
      exact k H4 ((e12.trans e3).trans e4)
  · rw [hw] at k
    exact d_ret (K := K) (d := .str (wordS wd)) (evd_var rfl (.str _)) fun v H4 e4 d4 => by
      rw [dp_str d4]
      exact k H4 ((e12.trans e3).trans e4)
end
end Lw
namespace Lw
open PySem PySem.Spec PyProof.Rows L2 Evl LwM SX
theorem tieLs_len {W : Web} (ok : WebOk W) : ∀ p ∈ webLs W, p.length ≤ 20 := fun p hp => by
  have most := ok.most
  unfold webLs at hp
  rcases List.mem_cons.mp hp with rfl | hp
  · exact webL_len (by omega)
  · obtain ⟨t, ht, rfl⟩ := List.mem_map.mp hp
    have := ok.tie t ht
    exact tieL_len (by omega) (by omega) (by omega)
theorem webLs_len (W : Web) : (webLs W).length = W.ties.length + 1 := by unfold webLs; simp
theorem g_asg3 {D : Ends} {tz : TS} {K : Fg} {σ : Ks} {H : Hp} {te : TE} {i j l : Nat} {a b c : PyData} (h : EvD K te σ H (.tuple [a, b, c])) (k : ∀ x y z H1, Ex H H1 → Dp K H1 x a → Dp K H1 y b → Dp K H1 z c → tz D (((σ.set i (some x)).set j (some y)).set l (some z)) H1) :
    tSeq (tAsg te (gTup K 3 (gCons (gName i) (gCons (gName j) (gCons (gName l) gNil))))) tz D σ H := h H (Ex.refl _) _ fun v H1 e1 d1 => g_tup3 d1 fun x y z q1 q2 q3 => k x y z H1 e1 q1 q2 q3
theorem evt_eqY {K : Fg} {σ : Ks} {H : Hp} {ta tb : TE} {a b : List Nat} (ha : EvD K ta σ H (strD a)) (hb : EvD K tb σ H (strD b)) (h : a = b) : EvT (tTest (tOp rEq ta tb)) σ H true := by
  have q := ev_eqT ha hb
  rw [decide_eq_true h] at q
  exact et_test q
theorem evt_eqN {K : Fg} {σ : Ks} {H : Hp} {ta tb : TE} {a b : List Nat} (ha : EvD K ta σ H (strD a)) (hb : EvD K tb σ H (strD b)) (h : a ≠ b) : EvT (tTest (tOp rEq ta tb)) σ H false := by
  have q := ev_eqT ha hb
  rw [decide_eq_false h] at q
  exact et_test q
/-- self.desk_keeper = Keeper(web, order) -/
theorem q_keeper {w : World} {K : Fg} {mg : Str → Option Value} (T : Txt w K mg) {σ : Ks} {H : Hp} {D : Ends} {tz : TS} {i : Nat} {d dx : Addr} {fs : List (Str × V)} {ta tb : TE} {W : Web} {ord : List Nat} (hs : σ[i]? = some (some (.ref d))) (h1 : H d = some (.ins (He.ga K "Desk") dx fs)) (hf : fs.length < 1000) (okW : WebOk W) (okO : OrdOk W ord) (hw : EvD K ta σ H (webD W)) (ho : EvD K tb σ H (placesD ord))
    (k : ∀ kp H1, KeepBut d H (upd H1 d (.ins (He.ga K "Desk") dx (putF "desk_keeper" (.ref kp) fs))) → KpAt K (upd H1 d (.ins (He.ga K "Desk") dx (putF "desk_keeper" (.ref kp) fs))) kp W (labelsBy W ord) → tz D σ (upd H1 d (.ins (He.ga K "Desk") dx (putF "desk_keeper" (.ref kp) fs)))) :
    tSeq (sFld K (tVar i) (tMake (He.ga K "Keeper") (spKpI K) [] E0 (tCons ta (tCons tb tNil))) "desk_keeper") tz D σ H := by
  refine ev_keeper (K := K) okW okO hw ho (fun y H1 => tVar i σ H1 fun x H2 => ∃ a C dx fs, x = .ref a ∧ H2 a = some (.ins C dx fs) ∧ Cls K C ∧ NoAttr K C "desk_keeper" ∧ fs.length < 1000 ∧ tz D σ (upd H2 a (.ins C dx (putF "desk_keeper" y fs)))) fun kp H2 np e2 hk => ?_
  have h2 := e2 _ _ h1
  have ne : kp ≠ d := fun z => by rw [z, h1] at np; cases np
  exact ⟨_, hs, d, _, dx, _, rfl, h2, T.c_Desk, T.n_Desk_desk_keeper, hf, k kp H2 ((KeepBut.ex e2).trans KeepBut.upd) (hk.but h2 ne KeepBut.upd)⟩
section
variable {P : Program} {w : World} {K : Fg} {mg : Str → Option Value} {base : Heap}
/-! ### asked -/
def spAsked (K : Fg) : Sp := fun vs H Q _ => ∃ (d : Addr) (W : Web) (L : List Lab) (x : List Nat) (v : V) (ns : List Nat), vs = [.ref d, .str (S x), v] ∧ DkAt K H d W L ∧ WebOk W ∧ Dp K H v (.list (ns.map nD)) ∧
  ((x = cWeb ∧ ns = [] ∧ ∀ H', Ex H H' → Q (.str (S (rowL (webLs W)))) H') ∨
   (∃ i l, x = cLabel ∧ ns = [i] ∧ i < W.n ∧ L[i]? = some l ∧ (∀ e ∈ l, EntSm e) ∧ l.length ≤ 24 ∧ ∀ H', Ex H H' → Q (.str (S (lineL (labWs l)))) H'))
theorem sc_Desk_asked : FnScope ["self", "word", "numbers", "web", "labels", "number"] ["self", "word", "numbers"] (defScope (inClass (top 88) 2)) := ⟨rfl, rfl, rfl, by decide +kernel, rfl, by decide +kernel, by decide +kernel⟩
theorem met_asked (T : Txt w K mg) : C8.Met P w K mg base 3 (He.ga K "Desk") "asked" (spAsked K) [] := by
  refine met_sp T.c_Desk T.y_Desk_asked T.f_Desk_asked sc_Desk_asked (fun _ _ _ _ _ _ us hl => match us, hl with | [_, _, _], _ => rfl) (fun vs H Q E h => by obtain ⟨_, _, _, _, _, _, rfl, _⟩ := h; rfl) fun cdv A outer s H vs Q E hr h => ?_
  obtain ⟨d, W, L, x, v, ns, rfl, ⟨dx, kp, h1, hk⟩, okW, hv, hc⟩ := h
  refine ⟨_, (pss_cons (ps_set (i := 3) sc_Desk_asked.nd rfl (Or.inr rfl) (C8.pe_mt0 (met_web_now (K := K) T) hr (by decide) (pe_fld (pv 0) rfl)))
      (pss_cons (ps_set (i := 4) sc_Desk_asked.nd rfl (Or.inl rfl) (C8.pe_mt0 (met_labels_now (K := K) T) hr (by decide) (pe_fld (pv 0) rfl)))
      (pss_cons (ps_if (pt_val (pe_callB (cr_anyK (K := K) rfl rfl) (by rfl) T.m_any bt_any (pa_cons (pe_lc (own := [("number", 5)]) rfl sc_Desk_asked.nd (pi_listK (K := K) rfl (pv 2)) (blkOk_by (N := ["self", "word", "numbers", "web", "labels", "number"]) (sc := defScope (inClass (top 88) 2)) (by decide +kernel)) (fun _ _ _ _ _ => (pg_name (i := 5) sc_Desk_asked.nd rfl (Or.inl rfl))) (fun _ _ _ _ _ => pts_nil) (fun _ _ _ _ _ => (pe_cmpR op_ge (pv 5) (pe_ix (ix_tupK (K := K) rfl) (pv 3) pe_int (fun _ _ => rfl)) (nomark _)))) pa_nil))) (pss_one ps_never) pss_nil)
      (pss_cons (ps_if (pt_cmpR op_eq (pv 1) pe_str (nomark _)) (pss_one ps_never) pss_nil)
      (pss_cons (ps_if (pt_cmpR op_eq (pv 1) pe_str (nomark _)) (pss_one ps_never) pss_nil)
      (pss_cons (ps_if (pt_cmpR op_eq (pv 1) pe_str (nomark _)) (pss_one ps_never) pss_nil)
      (pss_cons (ps_if (pt_cmpR op_eq (pv 1) pe_str (nomark _)) (pss_one (ps_ret (pe_cal (cal_label_line (K := K) T) hr (by decide) (by rfl) (pa_cons (pe_ix (ix_tupK (K := K) rfl) (pv 4) (pe_ix (ix_listK (K := K) rfl) (pv 2) pe_int (fun _ _ => rfl)) (fun _ _ => rfl)) pa_nil)))) pss_nil)
      (pss_cons (ps_if (pt_cmpR op_eq (pv 1) pe_str (nomark _)) (pss_one ps_never) pss_nil)
      (pss_one (ps_ret (pe_join pe_str (pe_cal (cal_web_lines (K := K) T) hr (by decide) (by rfl) (pa_cons (pv 3) pa_nil))))))))))))), ?_⟩
  have most := okW.most
  have few := okW.few
  refine d_set (evd_webNow (K := K) (ev_dkKeep T rfl h1) hk) fun vw H1 e1 dw => ?_
  refine d_set (evd_labsNow (K := K) (ev_dkKeep T rfl (e1 _ _ h1)) (hk.mono e1)) fun vl H2 e2 dl => ?_
  have e12 := e1.trans e2
  have hsml : ns.length ≤ 1 ∧ ∀ n ∈ ns, n < W.n := by
    rcases hc with ⟨_, rfl, _⟩ | ⟨i, l, _, rfl, hi, _⟩
    · exact ⟨by decide, fun _ z => by cases z⟩
    · exact ⟨by show 1 ≤ 1; decide, fun n hn => by rw [List.mem_singleton.mp hn]; exact hi⟩
  refine d_when (b := ns.any fun n => decide ((W.n : Int) ≤ (n : Int))) (et_test (ev_anyM (K := K) (f := fun n : Nat => decide ((W.n : Int) ≤ (n : Int))) (l := ns) (evn_lcB (enc := nD) (l := ns) (fun n => .bool (decide ((W.n : Int) ≤ (n : Int)))) (evi_varL rfl (Dpx hv e12)).j (by omega) (fun _ _ => rfl) fun n x H9 P hn e9 dx q => ?_).toD)) (fun z => ?_) fun _ H3 e3 => ?_
  · exact q _ rfl (evd_bool (ev_ge (ev_n (K := K) (evd_var rfl dx)) (ev_n (evd_i0 (evd_var rfl (Dpx dw (e2.trans e9)))))))
  · obtain ⟨n, hn, hz⟩ := List.any_eq_true.mp z
    have := hsml.2 n hn
    rw [decide_eq_true_eq] at hz
    omega
  have e13 := e12.trans e3
  have no : ∀ {H' : Hp} {σ : Ks} {y : List Nat} {s : Str}, s = S y → σ[1]? = some (some (.str (S x))) → y ≠ x → EvT (tTest (tOp rEq (tVar 1) (tC (.str s)))) σ H' false := fun {H' σ y s} hs h0 ne =>
    evt_eqN (K := K) (evd_var h0 (.str _)) (evd_cS hs) fun z => ne z.symm
  have hx : x = cWeb ∨ x = cLabel := by
    rcases hc with ⟨h, _⟩ | ⟨_, _, h, _⟩
    · exact .inl h
    · exact .inr h
  refine d_when (b := false) (no s_told rfl (by rcases hx with rfl | rfl <;> decide)) (fun z => by cases z) fun _ H4 e4 => ?_
  refine d_when (b := false) (no s_step rfl (by rcases hx with rfl | rfl <;> decide)) (fun z => by cases z) fun _ H5 e5 => ?_
  refine d_when (b := false) (no s_walk rfl (by rcases hx with rfl | rfl <;> decide)) (fun z => by cases z) fun _ H6 e6 => ?_
  have e16 := ((e13.trans e4).trans e5).trans e6
  have e26 := ((e3.trans e4).trans e5).trans e6
  have hw6 := Dpx dw (e2.trans e26)
  have hl6 := Dpx dl e26
  rcases hc with ⟨rfl, rfl, k⟩ | ⟨i, l, rfl, rfl, hi, hl, sm, fw, k⟩
  · refine d_when (b := false) (no s_label rfl (by decide)) (fun z => by cases z) fun _ H7 e7 => ?_
    refine d_when (b := false) (no s_total rfl (by decide)) (fun z => by cases z) fun _ H8 e8 => ?_
    have wl := webLs_len W
    exact d_ret (evd_joinL (K := K) (sep := [59, 32]) (ws := webLs W) (k := 20) (evd_cS s_semi) (evd_call (evds_cons (evd_var rfl (Dpx hw6 (e7.trans e8))) evds_nil) ⟨W, okW, rfl, rfl⟩) (tieLs_len okW) (by rw [wl]; show _ * 20 + _ * 2 ≤ 100000; omega)) fun v H9 e9 d9 => by
      rw [dp_S d9]
      exact k H9 (((e16.trans e7).trans e8).trans e9)
  · refine d_when (b := true) (evt_eqY (K := K) (evd_var rfl (.str _)) (evd_cS s_label) rfl) (fun _ H7 e7 => ?_) fun z => by cases z
    refine d_ret (evd_call (K := K) (evds_cons (evd_at (f := labD) (l := L) (i := i) (evd_var rfl (Dpx hl6 e7)) (evd_atL (f := nD) (l := [i]) (i := 0) (evd_var rfl (Dpx hv (e16.trans e7))) (evd_cn 0) rfl) hl) evds_nil) ⟨l, sm, fw, rfl, rfl⟩) fun v H9 e9 d9 => ?_
    rw [dp_S d9]
    exact k H9 ((e16.trans e7).trans e9)
/-! ### say -/
def spSay (K : Fg) : Sp := fun vs H Q _ => ∃ (d : Addr) (W : Web) (L : List Lab) (x : List Nat), vs = [.ref d, .str (S x)] ∧ DkAt K H d W L ∧ WebOk W ∧
  ((∃ M, x = cCheck ++ ([32] ++ rowL (labLs M)) ∧ LabelsOk W.n M ∧ ∀ H', Ex H H' → Q (.str (wordR (wordL W M))) H') ∨
   (∃ ord, x = lineL (cOrder :: ord.map TL.numL) ∧ OrdOk W ord ∧ ∀ H', KeepBut d H H' → DkAt K H' d W (labelsBy W ord) → Q (.str "ok") H') ∨
   (x = cWeb ∧ ∀ H', Ex H H' → Q (.str (S (rowL (webLs W)))) H') ∨
   (∃ i l, x = lineL [cLabel, TL.numL i] ∧ i < W.n ∧ L[i]? = some l ∧ (∀ e ∈ l, EntSm e) ∧ l.length ≤ 24 ∧ ∀ H', Ex H H' → Q (.str (S (lineL (labWs l)))) H'))
theorem line_cons (c : List Nat) {ws : List (List Nat)} (h : ws ≠ []) : lineL (c :: ws) = c ++ ([32] ++ lineL ws) := by
  cases ws with
  | nil => exact absurd rfl h
  | cons a l =>
    show TL.joinL [32] (c :: a :: l) = _
    simp [TL.joinL, lineL]
theorem sc_Desk_say : FnScope ["self", "row", "word", "blank", "rest", "numbers"] ["self", "row"] (defScope (inClass (top 88) 1)) := ⟨rfl, rfl, rfl, by decide +kernel, rfl, by decide +kernel, by decide +kernel⟩
theorem met_say (T : Txt w K mg) : C8.Met P w K mg base 8 (He.ga K "Desk") "say" (spSay K) [] := by
  refine met_sp T.c_Desk T.y_Desk_say T.f_Desk_say sc_Desk_say (fun _ _ _ _ _ _ us hl => match us, hl with | [_, _], _ => rfl) (fun vs H Q E h => by obtain ⟨_, _, _, _, rfl, _⟩ := h; rfl) fun cdv A outer s H vs Q E hr h => ?_
  obtain ⟨d, W, L, x, rfl, hD, okW, hc⟩ := h
  refine ⟨_, (pss_cons (ps_asg (pe_partition (pv 1) pe_str) (pg_tup rfl (pgs_cons (pg_name (i := 2) sc_Desk_say.nd rfl (Or.inl rfl)) (pgs_cons (pg_name (i := 3) sc_Desk_say.nd rfl (Or.inl rfl)) (pgs_cons (pg_name (i := 4) sc_Desk_say.nd rfl (Or.inl rfl)) pgs_nil)))))
      (pss_cons (ps_if (PW.pt (pw_and (pt_cmpR op_eq (pv 2) pe_str (nomark _)) (pw_and1 (pt_cmpR op_eq (pv 3) pe_str (nomark _))))) (pss_one (ps_ret (C8.pe_mt (met_checked (K := K) T) hr (by decide) (pv 0) (pa_cons (pv 4) pa_nil)))) pss_nil)
      (pss_cons (ps_set (i := 5) sc_Desk_say.nd rfl (Or.inl rfl) (pe_cal (cal_numbers_in_row (K := K) T) hr (by decide) (by rfl) (pa_cons (pe_split (pv 1) pe_str) pa_nil)))
      (pss_cons (ps_if (pt_cmpR op_eq (pv 2) pe_str (nomark _)) (pss_cons (ps_fld (pv 0) (C8.pe_mk (mk_Keeper (K := K) T) hr (by decide) (by rfl) (pa_cons (C8.pe_mt0 (met_web_now (K := K) T) hr (by decide) (pe_fld (pv 0) rfl)) (pa_cons (pe_callTy (call_tupK (K := K) rfl) (by rfl) T.m_tuple bt_tuple (pa_cons (pv 5) pa_nil)) pa_nil))) rfl)
      (pss_one (ps_ret pe_str))) pss_nil)
      (pss_cons (ps_if (pt_cmpR op_eq (pv 2) pe_str (nomark _)) (pss_one ps_never) pss_nil)
      (pss_cons (ps_if (pt_cmpR op_eq (pv 2) pe_str (nomark _)) (pss_one ps_never) pss_nil)
      (pss_one (ps_ret (C8.pe_mt (met_asked (K := K) T) hr (by decide) (pv 0) (pa_cons (pv 2) (pa_cons (pv 5) pa_nil))))))))))), ?_⟩
  have most := okW.most
  have pos := okW.pos
  rcases hc with ⟨M, rfl, ok, k⟩ | hc
  · have go := labs_go ok most
    have len := ok.len
    have hl : (labLs M).length = M.length := by unfold labLs; simp
    have hrow := rowL_len (ls := labLs M) (fun p hp => by
      unfold labLs at hp
      obtain ⟨l, hl, rfl⟩ := List.mem_map.mp hp
      exact labL_len (go l hl).2.1 (go l hl).2.2) (by omega)
    refine g_asg3 (K := K) (evd_partition (x := cCheck ++ ([32] ++ rowL (labLs M))) (sep := [32]) (evd_var rfl (.str _)) (evd_cS s_blank) (by decide) ?_ (part_first1 (by decide))) fun a b c H1 e1 d1 d2 d3 => ?_
    · rw [List.length_append, List.length_append]
      have : cCheck.length = 5 := rfl
      have : ([32] : List Nat).length = 1 := rfl
      omega
    have ea := dp_S d1
    have eb := dp_S d2
    have ec := dp_S d3
    subst ea
    subst eb
    subst ec
    refine d_when (b := true && true) (et_and (a := true) (evt_eqY (K := K) (evd_var rfl (.str _)) (evd_cS s_check) rfl) fun _ => evt_eqY (K := K) (evd_var rfl (.str _)) (evd_cS s_blank) rfl) (fun _ H2 e2 => ?_) fun z => by cases z
    obtain ⟨dx, kp, h1, hk⟩ := id hD
    exact ⟨_, rfl, d, dx, _, rfl, (e1.trans e2) _ _ h1, rfl, _, rfl, d, W, L, M, rfl, hD.mono (e1.trans e2), okW, ok, fun H3 e3 => k H3 ((e1.trans e2).trans e3)⟩
  · have hp : ∃ ws ns a b c, RowIs ws ns ∧ x = lineL ws ∧ (∀ n ∈ ns, n ≤ 9999) ∧ ns.length ≤ 24 ∧ a ∉ [cCheck] ∧ Txt.partition (S x) (S [32]) = (S a, S b, S c) ∧ ws ≠ [] ∧
      ((a = cOrder ∧ OrdOk W ns ∧ ∀ H', KeepBut d H H' → DkAt K H' d W (labelsBy W ns) → Q (.str "ok") H') ∨
       (a = cWeb ∧ ns = [] ∧ ∀ H', Ex H H' → Q (.str (S (rowL (webLs W)))) H') ∨
       (∃ i l, a = cLabel ∧ ns = [i] ∧ i < W.n ∧ L[i]? = some l ∧ (∀ e ∈ l, EntSm e) ∧ l.length ≤ 24 ∧ ∀ H', Ex H H' → Q (.str (S (lineL (labWs l)))) H')) := by
      rcases hc with ⟨ord, rfl, okO, k⟩ | ⟨rfl, k⟩ | ⟨i, l, rfl, hi, k⟩
      · have ol := ord_len okO
        have hne : ord ≠ [] := fun z => by rw [z] at ol; simp at ol; omega
        refine ⟨_, ord, cOrder, [32], lineL (ord.map TL.numL), .order ord hne, rfl, fun n hn => by have := (okO.mem n).mp hn; omega, by omega, by decide, ?_, by simp, .inl ⟨rfl, okO, k⟩⟩
        rw [line_cons _ (by simpa using hne)]
        exact part_first1 (by decide)
      · exact ⟨_, [], cWeb, [], [], .web, rfl, (fun _ z => by cases z), by decide, by decide, part_none1 (by decide), by simp, .inr (.inl ⟨rfl, rfl, k⟩)⟩
      · refine ⟨_, [i], cLabel, [32], lineL [TL.numL i], .label i, rfl, fun n hn => ?_, by show 1 ≤ 24; decide, by decide, ?_, by simp, .inr (.inr ⟨i, l, rfl, rfl, hi, k⟩)⟩
        · rw [List.mem_singleton.mp hn]
          omega
        · rw [line_cons _ (by simp)]
          exact part_first1 (by decide)
    clear hc
    obtain ⟨ws, ns, a, b, c, hrow, hx, hns, nfew, hac, hpart, hws, hc⟩ := hp
    have hfree : (∀ p ∈ ws, 32 ∉ p) ∧ ∀ p ∈ ws, p.length ≤ 5 := by
      cases hrow with
      | order ns h =>
        refine ⟨fun p hp => ?_, fun p hp => ?_⟩ <;> rcases List.mem_cons.mp hp with rfl | hp
        · decide
        · obtain ⟨n, _, rfl⟩ := List.mem_map.mp hp
          exact num_free (by omega)
        · decide
        · obtain ⟨n, hn, rfl⟩ := List.mem_map.mp hp
          have := num_len (hns n hn)
          omega
      | web => exact ⟨by decide, by decide⟩
      | label i =>
        refine ⟨fun p hp => ?_, fun p hp => ?_⟩ <;> rcases List.mem_cons.mp hp with rfl | hp
        · decide
        · rw [List.mem_singleton.mp hp]
          exact num_free (by omega)
        · decide
        · rw [List.mem_singleton.mp hp]
          have := num_len (hns i (by simp))
          omega
    have hwl : ws.length ≤ 25 := by
      cases hrow with
      | order ns h => rw [List.length_cons, List.length_map]; omega
      | web => decide
      | label i => show 2 ≤ 25; decide
    have hxl : x.length ≤ 99000 := by
      have := join_len (sep := [32]) hfree.2
      rw [hx]
      have e1 : (5 + ([32] : List Nat).length) = 6 := rfl
      rw [e1] at this
      unfold lineL
      omega
    have hsp : Txt.split (S x) (S [32]) = ws.map S := by
      rw [hx]
      exact split_line hws hfree.1
    refine g_asg3 (K := K) (evd_partition (x := x) (sep := [32]) (evd_var rfl (.str _)) (evd_cS s_blank) (by decide) hxl hpart) fun va vb vc H1 e1 d1 d2 d3 => ?_
    have ea := dp_S d1
    subst ea
    have hac2 : a ≠ cCheck := fun z => hac (by rw [z]; simp)
    refine d_when (b := false && true) (et_and (a := false) (evt_eqN (K := K) (evd_var rfl (.str _)) (evd_cS s_check) hac2) fun z => by cases z) (fun z => by cases z) fun _ H2 e2 => ?_
    have e12 := e1.trans e2
    refine d_set (evd_call (K := K) (evds_cons (evn_split (ws := ws) (sep := [32]) (x := x) (evd_var rfl (.str _)) (evd_cS s_blank) (by decide) hxl hsp).toD evds_nil) ⟨ws, ns, hrow, hns, by omega, rfl, rfl⟩) fun vn H3 e3 d3 => ?_
    have e13 := e12.trans e3
    have hD3 := hD.mono e13
    have no : ∀ {H' : Hp} {σ : Ks} {y : List Nat} {s : Str}, s = S y → σ[2]? = some (some (.str (S a))) → y ≠ a → EvT (tTest (tOp rEq (tVar 2) (tC (.str s)))) σ H' false := fun {H' σ y s} hs h0 ne =>
      evt_eqN (K := K) (evd_var h0 (.str _)) (evd_cS hs) fun z => ne z.symm
    rcases hc with ⟨rfl, okO, k⟩ | hc
    · refine d_when (b := true) (evt_eqY (K := K) (evd_var rfl (.str _)) (evd_cS s_order) rfl) (fun _ H4 e4 => ?_) fun z => by cases z
      obtain ⟨dx, kp, h1, hk⟩ := hD3.mono e4
      refine q_keeper T (K := K) rfl h1 (by show 1 < 1000; decide) okW okO (evd_webNow (ev_dkKeep T rfl h1) hk) ?_ fun kp2 H5 k5 hk5 => ?_
      · exact evd_tupL (evd_var rfl (Dpx d3 e4))
      exact k _ ((KeepBut.ex (e13.trans e4)).trans k5) ⟨dx, kp2, upd_same, hk5⟩
    · have ha : a = cWeb ∨ a = cLabel := by
        rcases hc with ⟨h, _⟩ | ⟨_, _, h, _⟩
        · exact .inl h
        · exact .inr h
      refine d_when (b := false) (no s_order rfl (by rcases ha with rfl | rfl <;> decide)) (fun z => by cases z) fun _ H4 e4 => ?_
      refine d_when (b := false) (no s_put rfl (by rcases ha with rfl | rfl <;> decide)) (fun z => by cases z) fun _ H5 e5 => ?_
      refine d_when (b := false) (no s_strike rfl (by rcases ha with rfl | rfl <;> decide)) (fun z => by cases z) fun _ H6 e6 => ?_
      have e36 := (e4.trans e5).trans e6
      have e16 := e13.trans e36
      have hD6 := hD3.mono e36
      obtain ⟨dx, kp, h1, hk⟩ := id hD6
      refine ⟨_, rfl, d, dx, _, rfl, h1, rfl, _, rfl, _, rfl, d, W, L, a, vn, ns, rfl, hD6, okW, Dpx d3 e36, ?_⟩
      rcases hc with ⟨h1, h2, k⟩ | ⟨i, l, h1, h2, hi, hl, sm, fw, k⟩
      · exact .inl ⟨h1, h2, fun H7 e7 => k H7 (e16.trans e7)⟩
      · exact .inr ⟨i, l, h1, h2, hi, hl, sm, fw, fun H7 e7 => k H7 (e16.trans e7)⟩
end
end Lw
namespace Lw
open PySem PySem.Spec PyProof.Rows L2 Evl LwM SX
/-! ### the tape -/
structure TpAt (H : Hp) (t c : Addr) (b : Nat) : Prop where
  at_ : ∃ (ns : List Int) (s : Nat) (g : Int), H t = some (.lst [.ref c, .int (s : Int), .int g]) ∧ H c = some (.lst (ns.map V.int)) ∧ c ≠ t ∧ s ≤ b
theorem TpAt.mono {H H' : Hp} {t c : Addr} {b : Nat} (h : TpAt H t c b) (e : Ex H H') : TpAt H' t c b := by
  obtain ⟨ns, s, g, h1, h2, h3, h4⟩ := h
  exact ⟨ns, s, g, e _ _ h1, e _ _ h2, h3, h4⟩
theorem TpAt.up {H : Hp} {t c : Addr} {b b' : Nat} (h : TpAt H t c b) (e : b ≤ b') : TpAt H t c b' := by
  obtain ⟨ns, s, g, h1, h2, h3, h4⟩ := h
  exact ⟨ns, s, g, h1, h2, h3, by omega⟩
theorem TpAt.ne {H : Hp} {t c p : Addr} {b : Nat} (h : TpAt H t c b) (n : H p = none) : p ≠ t ∧ p ≠ c := by
  obtain ⟨ns, s, g, h1, h2, h3, h4⟩ := h
  exact ⟨(fun z => by rw [z, h1] at n; cases n), (fun z => by rw [z, h2] at n; cases n)⟩
theorem TpAt.mut {H : Hp} {t c p : Addr} {b : Nat} {o : HO} (h : TpAt H t c b) (n : p ≠ t ∧ p ≠ c) : TpAt (L2.upd H p o) t c b := by
  obtain ⟨ns, s, g, h1, h2, h3, h4⟩ := h
  exact ⟨ns, s, g, by rw [upd_ne (Ne.symm n.1)]; exact h1, by rw [upd_ne (Ne.symm n.2)]; exact h2, h3, h4⟩
theorem tk_butL {a : Addr} {H H' : Hp} {xs : List V} (h : H a = some (.lst xs)) (k : KeepBut a H H') (hz : ∃ ys, H' a = some (.lst ys)) : Tk H H' := fun b ys q => by
  rcases q with q | ⟨u, q⟩
  · exact .inl (k _ _ (fun z => by rw [z, h] at q; cases q) q)
  · exact .inr ⟨u, k _ _ (fun z => by rw [z, h] at q; cases q) q⟩
theorem TpAt.tk {H H' : Hp} {t c c' : Addr} {b b' : Nat} (h : TpAt H t c b) (k : KeepBut t H H') (h' : TpAt H' t c' b') : Tk H H' := by
  obtain ⟨ns, s, g, h1, _⟩ := h
  obtain ⟨ns', s', g', h1', _⟩ := h'
  exact tk_butL h1 k ⟨_, h1'⟩
section
variable {K : Fg} {σ : Ks} {H H' : Hp} {ta tb te tx : TE} {d e : PyData} {ds es : List PyData}
theorem ints_dp (ns : List Int) : DpAll K H (ns.map V.int) (ns.map .int) := by
  induction ns with
  | nil => exact .nil
  | cons a l ih => exact .cons (.int a) ih
theorem ev_opI {C : Int → Int → Prop} {f : Int → Int → V} {i j : Int} (ha : Ev ta σ H (.int i)) (hb : Ev tb σ H (.int j)) (c : C i j) : Ev (tOp (rI C f) ta tb) σ H (f i j) := fun H1 e Q q => ha H1 e _ fun H2 e2 => hb H2 (e.trans e2) _ fun H3 e3 => ⟨_, _, rfl, rfl, c, q H3 (e2.trans e3)⟩
theorem ev_tp {t : Addr} {xs : List V} {i : Nat} {j : Int} {v : V} (hs : σ[i]? = some (some (.ref t))) (h : H t = some (.lst xs)) (hj : atI xs j = some v) : Ev (tOp (rIxL K) (tVar i) (tC (.int j))) σ H v := fun H1 e Q q =>
  ⟨_, hs, t, xs, j, v, rfl, rfl, sq_of (e _ _ h), hj, q H1 (Ex.refl _)⟩
theorem evd_tp {t c : Addr} {xs : List V} {ns : List Int} {i : Nat} (hs : σ[i]? = some (some (.ref t))) (h : H t = some (.lst (.ref c :: xs))) (hc : H c = some (.lst (ns.map V.int))) : EvD K (tOp (rIxL K) (tVar i) (tC (.int 0))) σ H (.list (ns.map .int)) := fun H1 e Q q =>
  ev_tp hs (e _ _ h) (v := .ref c) (by
    unfold atI ixN
    rw [if_pos (by decide), if_pos (by rw [List.length_cons]; omega)]
    rfl) H1 (Ex.refl _) _ fun H2 e2 => q _ H2 e2 (.lst (sq_of (e2 _ _ (e _ _ hc))) (ints_dp ns))
/-- tape[j] = .. -/
theorem q_tpset {D : Ends} {tz : TS} {t : Addr} {xs : List V} {i j : Nat} {v : V} (hs : σ[i]? = some (some (.ref t))) (h : H t = some (.lst xs)) (hj : j < xs.length) (he : Ev te σ H v) (k : ∀ H1, Ex H H1 → tz D σ (upd H1 t (.lst (xs.set j v)))) : tSeq (tAsg te (gSub (tVar i) (tC (.int (j : Int))) rSetL)) tz D σ H := he H (Ex.refl _) _ fun H1 e1 =>
  ⟨.ref t, hs, t, xs, (j : Int), j, rfl, rfl, e1 _ _ h, by
    unfold ixN
    rw [if_pos (by omega), if_pos (by omega)]
    simp, k H1 e1⟩
theorem nat_of {i : Int} {m : Nat} (h0 : 0 ≤ i) (h1 : i < m) : ∃ n : Nat, i = (n : Int) ∧ n < m := ⟨i.toNat, by omega, by omega⟩
end
section
variable {P : Program} {w : World} {K : Fg} {mg : Str → Option Value} {base : Heap}
def spTape (K : Fg) : Sp := fun vs H Q _ => ∃ (a : Addr) (ns : List Int), vs = [.ref a] ∧ SqL K H a (ns.map V.int) ∧ ∀ t c H', H t = none → Ex H H' → TpAt H' t c 0 → Q (.ref t) H'
theorem sc_law_tape : FnScope ["_law_script"] ["_law_script"] (defScope (top 90)) := ⟨rfl, rfl, rfl, by decide +kernel, rfl, by decide +kernel, by decide +kernel⟩
theorem cal_law_tape (T : Txt w K mg) : CalD P w K mg base 1 "_law_tape" (spTape K) := by
  refine cal_sp T.f_law_tape T.g_law_tape sc_law_tape (fun _ _ _ _ _ _ us hl => match us, hl with | [_], _ => rfl) (fun vs H Q E h => by obtain ⟨_, _, rfl, _⟩ := h; rfl) fun cdv A outer s H vs Q E hr h => ?_
  obtain ⟨a, ns, rfl, hs, k⟩ := h
  refine ⟨_, (pss_one (ps_ret (pe_lst (pa_cons (pe_slice (sl_listK (K := K) rfl) (pv 0) po_none (po_some pe_int)) (pa_cons pe_int (pa_cons pe_int pa_nil)))))), ?_⟩
  refine ⟨_, rfl, 63, rfl, a, ns.map V.int, rfl, hs, fun p hp => ⟨sz_of (by show 3 ≤ 100000; decide), fun t ht => ?_⟩⟩
  have hpt : p ≠ t := fun z => by rw [← z, upd_same] at ht; cases ht
  refine k t p _ (by rw [upd_ne (Ne.symm hpt)] at ht; exact ht) ((Ex.new hp).trans (Ex.new ht)) ⟨(ns.drop (HT.sIx (ns.map V.int).length 0 none)).take (HT.sIx (ns.map V.int).length (ns.map V.int).length (some 63) - HT.sIx (ns.map V.int).length 0 none), 0, 0, upd_same, ?_, hpt, Nat.le_refl _⟩
  rw [upd_ne hpt, upd_same]
  unfold cutV
  rw [List.map_take, List.map_drop]
def spDraw : Sp := fun vs H Q _ => ∃ (t c : Addr) (m b : Nat), vs = [.ref t, .int (m : Int)] ∧ 1 ≤ m ∧ m < 1000000 ∧ TpAt H t c b ∧ b < 1000000000 ∧ ∀ (n : Nat) H', n < m → KeepBut t H H' → TpAt H' t c (b + 1) → Q (.int (n : Int)) H'
theorem sc_law_draw : FnScope ["_law_tape_here", "_law_many", "_law_found", "_law_spot", "_law_cell", "_law_mixed"] ["_law_tape_here", "_law_many"] (defScope (top 91)) := ⟨rfl, rfl, rfl, by decide +kernel, rfl, by decide +kernel, by decide +kernel⟩
theorem cal_law_draw (T : Txt w K mg) : CalD P w K mg base 1 "_law_draw" spDraw := by
  refine cal_sp T.f_law_draw T.g_law_draw sc_law_draw (fun _ _ _ _ _ _ us hl => match us, hl with | [_, _], _ => rfl) (fun vs H Q E h => by obtain ⟨_, _, _, _, rfl, _⟩ := h; rfl) fun cdv A outer s H vs Q E hr h => ?_
  obtain ⟨t, c, m, b, rfl, hm1, hm2, hT, hb, k⟩ := h
  obtain ⟨ns, sp, g, h1, h2, h3, h4⟩ := hT
  refine ⟨_, (pss_cons (ps_if (pt_cmpR op_gt (pe_ix (ix_listK (K := K) rfl) (pv 0) pe_int (fun _ _ => rfl)) pe_int (nomark _)) (pss_cons (ps_set (i := 2) sc_law_draw.nd rfl (Or.inl rfl) (pe_op op_mod (pe_ix (ix_listK (K := K) rfl) (pv 0) pe_int (fun _ _ => rfl)) (pv 1)))
      (pss_cons (ps_asg (pe_op op_fdiv (pe_ix (ix_listK (K := K) rfl) (pv 0) pe_int (fun _ _ => rfl)) (pv 1)) (pg_sub (pv 0) pe_int set_list))
      (pss_one (ps_ret (pv 2))))) pss_nil)
      (pss_cons (ps_set (i := 3) sc_law_draw.nd rfl (Or.inl rfl) (pe_ix (ix_listK (K := K) rfl) (pv 0) pe_int (fun _ _ => rfl)))
      (pss_cons (ps_asg (pe_op op_add (pv 3) pe_int) (pg_sub (pv 0) pe_int set_list))
      (pss_cons (ps_set (i := 4) sc_law_draw.nd rfl (Or.inl rfl) (pe_ifExp (pt_cmpR op_gt (pe_callB (call_lenK (K := K) rfl) (by rfl) T.m_len bt_len (pa_cons (pe_ix (ix_listK (K := K) rfl) (pv 0) pe_int (fun _ _ => rfl)) pa_nil)) pe_int (nomark _)) (pe_ix (ix_listK (K := K) rfl) (pe_ix (ix_listK (K := K) rfl) (pv 0) pe_int (fun _ _ => rfl)) (pe_op op_mod (pv 3) (pe_callB (call_lenK (K := K) rfl) (by rfl) T.m_len bt_len (pa_cons (pe_ix (ix_listK (K := K) rfl) (pv 0) pe_int (fun _ _ => rfl)) pa_nil))) (fun _ _ => rfl)) pe_int))
      (pss_cons (ps_if (PW.pt (pw_and (pt_cmpR op_ge (pv 4) (pe_op op_pow pe_int pe_int) (nomark _)) (pw_and1 (pt_cmpR op_lt (pv 3) (pe_callB (call_lenK (K := K) rfl) (by rfl) T.m_len bt_len (pa_cons (pe_ix (ix_listK (K := K) rfl) (pv 0) pe_int (fun _ _ => rfl)) pa_nil)) (nomark _))))) (pss_cons (ps_asg (pe_op op_fdiv (pv 4) (pv 1)) (pg_sub (pv 0) pe_int set_list))
      (pss_one (ps_ret (pe_op op_mod (pv 4) (pv 1))))) pss_nil)
      (pss_cons (ps_set (i := 5) sc_law_draw.nd rfl (Or.inl rfl) (pe_op op_mod (pe_op op_mul (pe_op op_add (pe_op op_mod (pv 4) pe_int) pe_int) (pe_op op_add pe_int (pe_op op_mul pe_int (pv 3)))) pe_int))
      (pss_one (ps_ret (pe_op op_mod (pe_op op_fdiv (pe_op op_mod (pe_op op_mul (pe_op op_add (pv 5) (pe_op op_mul (pe_op op_mul pe_int (pv 3)) (pv 3))) pe_int) pe_int) pe_int) (pv 1)))))))))), ?_⟩
  have em : ∀ {σ : Ks} {H' : Hp}, σ[1]? = some (some (.int (m : Int))) → Ev (tVar 1) σ H' (.int (m : Int)) := fun hs => ev_n (K := K) (evd_var hs (.int _))
  have fin : ∀ (i : Int) (H' : Hp), KeepBut t H H' → TpAt H' t c (b + 1) → Q (.int (i % (m : Int))) H' := fun i H' kb tp => by
    obtain ⟨n, e, hn⟩ := nat_of (m := m) (Int.emod_nonneg i (by omega)) (Int.emod_lt_of_pos i (by omega))
    rw [e]
    exact k n H' hn kb tp
  refine d_when (b := decide ((0 : Int) < g)) (et_test (ev_gt (ev_tp (K := K) rfl h1 rfl) ev_c)) (fun _ H1 e1 => ?_) fun _ H1 e1 => ?_
  · have q1 := ev_opI (f := fun i j => V.int (i % j)) (C := fun _ j => 0 < j) (ev_tp (K := K) (σ := [some (.ref t), some (.int (m : Int)), none, none, none, none]) (i := 0) (j := 2) rfl (e1 _ _ h1) rfl) (em rfl) (by omega)
    refine q1 H1 (Ex.refl _) _ fun H2 e2 => ?_
    have e12 := e1.trans e2
    refine q_tpset (j := 2) rfl (e12 _ _ h1) (by show 2 < 3; decide) (ev_opI (f := fun i j => V.int (i / j)) (C := CDiv) (ev_tp (K := K) rfl (e12 _ _ h1) rfl) (em rfl) ⟨by omega, by omega⟩) fun H3 e3 => ?_
    refine ⟨_, rfl, fin g _ ((KeepBut.ex (e12.trans e3)).trans KeepBut.upd) ⟨ns, sp, _, upd_same, ?_, h3, by omega⟩⟩
    rw [upd_ne h3]
    exact e3 _ _ (e12 _ _ h2)
  · refine ev_tp (K := K) (v := .int (sp : Int)) rfl (e1 _ _ h1) rfl H1 (Ex.refl _) _ fun H2 e2 => ?_
    have e12 := e1.trans e2
    have es : ∀ {σ : Ks} {H' : Hp}, σ[3]? = some (some (.int (sp : Int))) → Ev (tVar 3) σ H' (.int (sp : Int)) := fun hs => ev_n (K := K) (evd_var hs (.int _))
    refine q_tpset (j := 1) rfl (e12 _ _ h1) (by show 1 < 3; decide) (ev_add (es rfl) ev_c) fun H3 e3 => ?_
    obtain ⟨H4, eH4⟩ : ∃ H4, H4 = upd H3 t (.lst [.ref c, .int ((sp + 1 : Nat) : Int), .int g]) := ⟨_, rfl⟩
    have kb4 : KeepBut t H H4 := by rw [eH4]; exact (KeepBut.ex (e12.trans e3)).trans KeepBut.upd
    have t4 : H4 t = some (.lst [.ref c, .int ((sp + 1 : Nat) : Int), .int g]) := by rw [eH4]; exact upd_same
    have c4 : H4 c = some (.lst (ns.map V.int)) := kb4 _ _ h3 h2
    have tp4 : TpAt H4 t c (b + 1) := ⟨ns, sp + 1, g, t4, c4, h3, by omega⟩
    show tSeq _ _ _ _ (upd H3 t (.lst [.ref c, .int ((sp + 1 : Nat) : Int), .int g]))
    rw [← eH4]
    clear eH4
    have len : ∀ {H' : Hp} {σ : Ks} (e : Ex H4 H'), σ[0]? = some (some (.ref t)) → Ev (tCB (rLenQ K) (tCons (tOp (rIxL K) (tVar 0) (tC (.int 0))) tNil)) σ H' (.int (ns.length : Int)) := fun {H' σ} e hs => by
      have q := ev_lenL (K := K) (evd_tp (K := K) hs (e _ _ t4) (e _ _ c4))
      rw [List.length_map] at q
      exact q
    refine d_set (d := .int (if ns.length = 0 then 7 else ns.getD (sp % ns.length) 0)) (evd_if (K := K) (b := decide ((0 : Int) < (ns.length : Int))) (et_test (ev_gt (len (Ex.refl _) rfl) ev_c)) (fun z => ?_) fun z => ?_) fun v H5 e5 d5 => ?_
    · rw [decide_eq_true_eq] at z
      have hn : ¬ ns.length = 0 := by omega
      rw [if_neg hn]
      have hlt : sp % ns.length < ns.length := Nat.mod_lt _ (by omega)
      refine evd_atL (K := K) (f := PyData.int) (l := ns) (i := sp % ns.length) (evd_tp rfl t4 c4) (evd_int ?_) ?_
      · exact ev_opI (f := fun i j => V.int (i % j)) (C := fun _ j => 0 < j) (es rfl) (len (Ex.refl _) rfl) (by omega)
      · rw [List.getElem?_eq_getElem hlt]
        simp [hlt]
    · rw [decide_eq_false_iff_not] at z
      rw [if_pos (by omega)]
      exact evd_int ev_c
    have e5c := dp_int d5
    subst e5c
    generalize (if ns.length = 0 then 7 else ns.getD (sp % ns.length) 0) = cell
    have ec : ∀ {σ : Ks} {H' : Hp}, σ[4]? = some (some (.int cell)) → Ev (tVar 4) σ H' (.int cell) := fun hs => ev_int (K := K) (evd_var hs (.int _))
    refine d_when (b := decide ((1000000000000000000 : Int) ≤ cell) && decide ((sp : Int) < (ns.length : Int))) (et_and (et_test (ev_ge (ec rfl) ?_)) fun _ => et_test (ev_lt (es rfl) (len e5 rfl))) (fun _ H6 e6 => ?_) fun _ H6 e6 => ?_
    · exact ev_opI (f := fun i j => V.int (i ^ j.toNat)) (C := CPow) ev_c ev_c ⟨by decide, by decide, by decide⟩
    · have e56 := e5.trans e6
      refine q_tpset (j := 2) rfl (e56 _ _ t4) (by show 2 < 3; decide) (ev_opI (f := fun i j => V.int (i / j)) (C := CDiv) (ec rfl) (em rfl) ⟨by omega, by omega⟩) fun H7 e7 => ?_
      refine ev_opI (f := fun i j => V.int (i % j)) (C := fun _ j => 0 < j) (ec rfl) (em rfl) (by omega) _ (Ex.refl _) _ fun H8 e8 => ?_
      refine fin cell H8 ((kb4.trans (KeepBut.ex (e56.trans e7))).trans (KeepBut.upd.trans (KeepBut.ex e8))) (TpAt.mono ⟨ns, sp + 1, _, upd_same, ?_, h3, by omega⟩ e8)
      rw [upd_ne h3]
      exact e7 _ _ (e56 _ _ c4)
    · have e56 := e5.trans e6
      have r1 := Int.emod_nonneg cell (show (998244353 : Int) ≠ 0 by decide)
      have r2 := Int.emod_lt_of_pos cell (show (0 : Int) < 998244353 by decide)
      refine d_set (d := .int ((cell % 998244353 + 1) * (48271 + 2 * (sp : Int)) % 2147483647)) (evd_int (K := K) ?_) fun v H7 e7 d7 => ?_
      · exact ev_opI (f := fun i j => V.int (i % j)) (C := fun _ j => 0 < j) (ev_opI (f := fun i j => V.int (i * j)) (C := CMul) (ev_add (ev_opI (f := fun i j => V.int (i % j)) (C := fun _ j => 0 < j) (ec rfl) ev_c (by decide)) ev_c) (ev_add ev_c (ev_opI (f := fun i j => V.int (i * j)) (C := CMul) ev_c (es rfl) (.inl ⟨by decide, by decide⟩))) (.inl ⟨by omega, by omega⟩)) ev_c (by decide)
      have e7c := dp_int d7
      subst e7c
      have s1 := Int.emod_nonneg ((cell % 998244353 + 1) * (48271 + 2 * (sp : Int))) (show (2147483647 : Int) ≠ 0 by decide)
      have s2 := Int.emod_lt_of_pos ((cell % 998244353 + 1) * (48271 + 2 * (sp : Int))) (show (0 : Int) < 2147483647 by decide)
      generalize (cell % 998244353 + 1) * (48271 + 2 * (sp : Int)) % 2147483647 = mx at s1 s2
      have ex : ∀ {σ : Ks} {H' : Hp}, σ[5]? = some (some (.int mx)) → Ev (tVar 5) σ H' (.int mx) := fun hs => ev_int (K := K) (evd_var hs (.int _))
      refine ev_opI (f := fun i j => V.int (i % j)) (C := fun _ j => 0 < j) (ev_opI (f := fun i j => V.int (i / j)) (C := CDiv) (ev_opI (f := fun i j => V.int (i % j)) (C := fun _ j => 0 < j) (ev_opI (f := fun i j => V.int (i * j)) (C := CMul) (ev_add (ex rfl) (ev_opI (f := fun i j => V.int (i * j)) (C := CMul) (ev_opI (f := fun i j => V.int (i * j)) (C := CMul) ev_c (es rfl) (.inl ⟨by decide, by decide⟩)) (es rfl) (.inr ⟨by omega, by omega⟩))) ev_c (.inr ⟨by decide, by decide⟩)) ev_c (by decide)) ev_c ⟨by decide, by decide⟩) (em rfl) (by omega) H7 (Ex.refl _) _ fun H8 e8 => ?_
      exact fin _ H8 (kb4.trans (KeepBut.ex ((e56.trans e7).trans e8))) (tp4.mono ((e56.trans e7).trans e8))
end
end Lw
namespace Lw
open PySem PySem.Spec PyProof.Rows L2 Evl LwM SX
theorem erase_perm {α : Type} {l : List α} {k : Nat} {y : α} (h : l[k]? = some y) : (y :: l.eraseIdx k).Perm l := by
  obtain ⟨hk, e⟩ := List.getElem?_eq_some_iff.mp h
  rw [List.eraseIdx_eq_take_drop_succ]
  have e2 : l = l.take k ++ y :: l.drop (k + 1) := by
    rw [← e, List.getElem_cons_drop, List.take_append_drop]
  exact (List.perm_middle.symm).trans (.of_eq e2.symm)
def nV (l : List Nat) : List V := l.map fun (n : Nat) => V.int (n : Int)
theorem nV_dp {K : Fg} {H : Hp} (l : List Nat) : DpAll K H (nV l) (l.map nD) := by
  induction l with
  | nil => exact .nil
  | cons a l ih => exact .cons (.int _) ih
theorem nV_of {K : Fg} {H : Hp} {xs : List V} {l : List Nat} (h : DpAll K H xs (l.map nD)) : xs = nV l := by
  induction l generalizing xs with
  | nil => cases h; rfl
  | cons a l ih =>
    cases h with
    | cons h1 h2 => rw [dp_n h1, ih h2]; rfl
theorem ex_none (H : Hp) : Ex (fun _ => none) H := fun _ _ h => by cases h
theorem ev_ni {K : Fg} {σ : Ks} {H : Hp} {i n : Nat} (hs : σ[i]? = some (some (.int (n : Int)))) : Ev (tVar i) σ H (.int (n : Int)) := ev_n (K := K) (evd_var hs (.int _))
theorem ixN_nat {n k : Nat} (h : k < n) : ixN n (k : Int) = some k := by
  unfold ixN
  rw [if_pos (by omega), if_pos (by omega)]
  simp
section
variable {P : Program} {w : World} {K : Fg} {mg : Str → Option Value} {base : Heap}
def spOrder (K : Fg) : Sp := fun vs H Q _ => ∃ (t c : Addr) (n b : Nat), vs = [.ref t, .int (n : Int)] ∧ 1 ≤ n ∧ n ≤ 24 ∧ TpAt H t c b ∧ b < 900000000 ∧ ∀ (ord : List Nat) v H', ord.Perm (List.range n) → KeepBut t H H' → TpAt H' t c (b + 24) → Dp K H' v (placesD ord) → Q v H'
theorem sc_law_order : FnScope ["_law_tape_here", "_law_n", "_law_left", "_law_found", "_law_k"] ["_law_tape_here", "_law_n"] (defScope (top 93)) := ⟨rfl, rfl, rfl, by decide +kernel, rfl, by decide +kernel, by decide +kernel⟩
theorem cal_law_order (T : Txt w K mg) : CalD P w K mg base 2 "_law_order" (spOrder K) := by
  refine cal_sp T.f_law_order T.g_law_order sc_law_order (fun _ _ _ _ _ _ us hl => match us, hl with | [_, _], _ => rfl) (fun vs H Q E h => by obtain ⟨_, _, _, _, rfl, _⟩ := h; rfl) fun cdv A outer s H vs Q E hr h => ?_
  obtain ⟨t, c, n, b, rfl, hn1, hn2, hT, hb, k⟩ := h
  refine ⟨_, (pss_cons (ps_set (i := 2) sc_law_order.nd rfl (Or.inl rfl) (pe_listRg (by rfl) (by rfl) T.m_list (prg_1 (by rfl) T.m_range (pv 1))))
      (pss_cons (ps_set (i := 3) sc_law_order.nd rfl (Or.inl rfl) (pe_lst pa_nil))
      (pss_cons (ps_for PassesOwn.never rfl (pi_range1 rfl T.m_range (pa_cons (pv 1) pa_nil)) (pg_name (i := 4) sc_law_order.nd rfl (Or.inl rfl)) (pss_one (ps_expr (pe_bm PySem.F.plainAttrs_list PySem.F.slot_list_append PySem.F.type_list_append mt_append (pv 3) (pa_cons (pe_bm PySem.F.plainAttrs_list PySem.F.slot_list_pop PySem.F.type_list_pop mt_popAt (pv 2) (pa_cons (pe_cal (cal_law_draw (K := K) T) hr (by decide) (by rfl) (pa_cons (pv 0) (pa_cons (pe_callB (call_lenK (K := K) rfl) (by rfl) T.m_len bt_len (pa_cons (pv 2) pa_nil)) pa_nil))) pa_nil)) pa_nil)))))
      (pss_one (ps_ret (pe_callTy (call_tupK (K := K) rfl) (by rfl) T.m_tuple bt_tuple (pa_cons (pv 3) pa_nil))))))), ?_⟩
  refine q_setN (K := K) (evn_listRg (n := n) (ev_ni (K := K) rfl) (by omega)) fun l xs H1 nl e1 hl dl => ?_
  have exs := nV_of dl
  subst exs
  refine q_setN (K := K) (ds := []) (evn_lst evds_nil (by decide)) fun f ys H2 nf e2 hf df => ?_
  cases df
  have e12 := e1.trans e2
  have nfH : H f = none := fresh_back e1 nf
  have hlf : f ≠ l := fun z => by rw [z, hl] at nf; cases nf
  have nel := hT.ne nl
  have nef := hT.ne nfH
  refine dq_for (K := K) (G := fun _ => none) (evi_range (n := n) (ev_ni (K := K) rfl) (by omega)) (ex_none _) (fun i σ' H' => ∃ x4 left found, σ' = [some (.ref t), some (.int (n : Int)), some (.ref l), some (.ref f), x4] ∧ KeepBut t H H' ∧ TpAt H' t c (b + i) ∧ H' l = some (.lst (nV left)) ∧ H' f = some (.lst (nV found)) ∧ (found ++ left).Perm (List.range n) ∧ found.length = i)
    (fun H3 e3 => ⟨none, List.range n, [], rfl, KeepBut.ex (e12.trans e3), hT.mono (e12.trans e3), e3 _ _ (e2 _ _ hl), e3 _ _ hf, .refl _, rfl⟩) (fun i σ' H' _ => ex_none _) (fun i d x σ' H3 H4 hi q e4 dx => ?_) fun σ' H' q => ?_
  · obtain ⟨x4, left, found, rfl, kb, tp, hl3, hf3, hp, hlen⟩ := q
    have hin : i < n := by
      have := (List.getElem?_eq_some_iff.mp hi).1
      rwa [upto_len] at this
    have hll : left.length + i = n := by
      have := hp.length_eq
      rw [List.length_append, List.length_range] at this
      omega
    have el := ev_lenL (K := K) (σ := [some (.ref t), some (.int (n : Int)), some (.ref l), some (.ref f), some x]) (evd_var (i := 2) rfl (dp_locD (e4 _ _ hl3) (nV_dp (K := K) left)))
    rw [List.length_map] at el
    refine ⟨_, rfl, .inl ⟨rfl, _, .inl (.inl (e4 _ _ hf3))⟩, _, rfl, .inl ⟨rfl, _, .inl (.inl (e4 _ _ hl3))⟩, _, rfl, ?_⟩
    refine el H4 (Ex.refl _) _ fun H5 e5 => ?_
    have e45 := e4.trans e5
    refine ⟨t, c, left.length, b + i, rfl, by omega, by omega, tp.mono e45, by omega, fun m H6 hm kb6 tp6 => ?_⟩
    have hl6 : H6 l = some (.lst (nV left)) := kb6 _ _ nel.1 (e45 _ _ hl3)
    have hf6 : H6 f = some (.lst (nV found)) := kb6 _ _ nef.1 (e45 _ _ hf3)
    obtain ⟨y, hy⟩ : ∃ y, left[m]? = some y := ⟨_, List.getElem?_eq_getElem hm⟩
    refine ⟨l, nV left, (m : Int), m, .int (y : Int), rfl, rfl, hl6, by omega, by omega, (ixN_seq (ixN_nat (by unfold nV; rw [List.length_map]; exact hm))).1, by unfold nV; rw [List.getElem?_map, hy]; rfl, ?_⟩
    have hf7 : upd H6 l (.lst ((nV left).eraseIdx m)) f = some (.lst (nV found)) := by
      rw [upd_ne hlf]
      exact hf6
    refine ⟨f, nV found, .int (y : Int), rfl, rfl, hf7, sz_lt (by unfold nV; rw [List.length_map]; omega), ?_⟩
    refine ⟨_, left.eraseIdx m, found ++ [y], rfl, (((kb.trans (KeepBut.ex e45)).trans kb6).mut nl).mut nfH, (tp6.mut nel).mut nef, ?_, ?_, ?_, by simp [hlen]⟩
    · rw [upd_ne (Ne.symm hlf), upd_same]
      unfold nV
      rw [List.eraseIdx_eq_take_drop_succ, List.eraseIdx_eq_take_drop_succ, List.map_append, List.map_take, List.map_drop]
    · rw [upd_same]
      unfold nV
      rw [List.map_append]
      rfl
    · rw [List.append_assoc]
      exact ((erase_perm hy).append_left found).trans hp
  · obtain ⟨x4, left, found, rfl, kb, tp, hl3, hf3, hp, hlen⟩ := q
    rw [upto_len] at hlen tp
    have hll : left = [] := by
      have := hp.length_eq
      rw [List.length_append, List.length_range] at this
      exact List.length_eq_zero_iff.mp (by omega)
    subst hll
    rw [List.append_nil] at hp
    refine d_ret (K := K) (d := placesD found) (evd_tupL (evd_var rfl (dp_locD hf3 (nV_dp found)))) fun v H5 e5 d5 => k found v H5 hp (kb.trans (KeepBut.ex e5)) ((tp.up (by omega)).mono e5) d5
end
end Lw
namespace Lw
open PySem PySem.Spec PyProof.Rows L2 Evl LwM SX
/-! ### pairs with their lengths -/
def pKey (a b : Nat) : List Key := [.inl (a : Int), .inl (b : Int)]
structure PrOk (n : Nat) (kvs : List (List Key × V)) : Prop where
  all : ∀ q ∈ kvs, ∃ a b l : Nat, q = (pKey a b, .int (l : Int)) ∧ a < b ∧ b < n ∧ 1 ≤ l ∧ l ≤ 99
  nd : (kvs.map (·.1)).Nodup
theorem PrOk.put {n a b l : Nat} {kvs : List (List Key × V)} (h : PrOk n kvs) (hab : a < b) (hb : b < n) (h1 : 1 ≤ l) (h2 : l ≤ 99) : PrOk n (putK kvs (pKey a b) (.int (l : Int))) := by
  unfold putK
  split
  · refine ⟨fun q hq => ?_, ?_⟩
    · obtain ⟨p, hp, rfl⟩ := List.mem_map.mp hq
      obtain ⟨a', b', l', rfl, g1, g2, g3, g4⟩ := h.all p hp
      split
      · exact ⟨a', b', l, rfl, g1, g2, h1, h2⟩
      · exact ⟨a', b', l', rfl, g1, g2, g3, g4⟩
    · rw [List.map_map]
      have e : ((fun kv : List Key × V => kv.1) ∘ fun kv => if kv.1 = pKey a b then (kv.1, V.int (l : Int)) else kv) = fun kv => kv.1 := by
        funext kv
        simp only [Function.comp_apply]
        split <;> rfl
      rw [e]
      exact h.nd
  · rename_i hn
    refine ⟨fun q hq => ?_, ?_⟩
    · rcases List.mem_append.mp hq with hq | hq
      · exact h.all q hq
      · rw [List.mem_singleton.mp hq]
        exact ⟨a, b, l, rfl, hab, hb, h1, h2⟩
    · rw [List.map_append, List.nodup_append]
      refine ⟨h.nd, by simp, fun x hx y hy z => ?_⟩
      obtain ⟨p, hp, rfl⟩ := List.mem_map.mp hx
      have ey : y = pKey a b := by simpa using hy
      exact hn (List.any_eq_true.mpr ⟨p, hp, by rw [decide_eq_true_eq, z, ey]⟩)
/-! ### a dict of pairs that is built -/
structure Dj (H0 H : Hp) (t c g j b n m : Nat) : Prop where
  kb : KeepBut t H0 H
  tp : TpAt H t c b
  lg : ∃ l1 l2 l3 : Nat, H g = some (.lst (nV [l1, l2, l3])) ∧ (1 ≤ l1 ∧ l1 ≤ 99) ∧ (1 ≤ l2 ∧ l2 ≤ 99) ∧ 1 ≤ l3 ∧ l3 ≤ 99
  ne : g ≠ t ∧ g ≠ c ∧ j ≠ t ∧ j ≠ c ∧ g ≠ j
  dj : ∃ kvs, H j = some (.dT kvs) ∧ PrOk n kvs ∧ kvs.length ≤ m
  new : H0 j = none
section
variable {H0 H H' : Hp} {t c g j b n m : Nat}
theorem Dj.mono (h : Dj H0 H t c g j b n m) (e : Ex H H') : Dj H0 H' t c g j b n m := by
  obtain ⟨kb, tp, ⟨l1, l2, l3, q1, q2⟩, ne, ⟨kvs, q3, q4⟩, new⟩ := h
  exact ⟨kb.trans (KeepBut.ex e), tp.mono e, ⟨l1, l2, l3, e _ _ q1, q2⟩, ne, ⟨kvs, e _ _ q3, q4⟩, new⟩
theorem Dj.draw (h : Dj H0 H t c g j b n m) (k : KeepBut t H H') (tp' : TpAt H' t c (b + 1)) : Dj H0 H' t c g j (b + 1) n m := by
  obtain ⟨kb, tp, ⟨l1, l2, l3, q1, q2⟩, ne, ⟨kvs, q3, q4⟩, new⟩ := h
  exact ⟨kb.trans k, tp', ⟨l1, l2, l3, k _ _ ne.1 q1, q2⟩, ne, ⟨kvs, k _ _ ne.2.2.1 q3, q4⟩, new⟩
theorem Dj.more {b' m' : Nat} (h : Dj H0 H t c g j b n m) (e1 : b ≤ b') (e2 : m ≤ m') : Dj H0 H t c g j b' n m' := by
  obtain ⟨kb, tp, lg, ne, ⟨kvs, q3, q4, q5⟩, new⟩ := h
  exact ⟨kb, tp.up e1, lg, ne, ⟨kvs, q3, q4, by omega⟩, new⟩
theorem Dj.put {a e l : Nat} {kvs : List (List Key × V)} (h : Dj H0 H t c g j b n m) (hj : H j = some (.dT kvs)) (hab : a < e) (he : e < n) (h1 : 1 ≤ l) (h2 : l ≤ 99) : Dj H0 (upd H j (.dT (putK kvs (pKey a e) (.int (l : Int))))) t c g j b n (m + 1) := by
  obtain ⟨kb, tp, ⟨l1, l2, l3, q1, q2⟩, ne, ⟨kvs', q3, q4, q5⟩, new⟩ := h
  have ek : kvs' = kvs := by
    rw [hj] at q3
    injection q3 with q3
    injection q3 with q3
    exact q3.symm
  subst ek
  refine ⟨kb.mut new, tp.mut ⟨ne.2.2.1, ne.2.2.2.1⟩, ⟨l1, l2, l3, by rw [upd_ne ne.2.2.2.2]; exact q1, q2⟩, ne, ⟨_, upd_same, q4.put hab he h1 h2, ?_⟩, new⟩
  have := length_putK kvs' (pKey a e) (.int (l : Int))
  omega
variable {K : Fg} {σ : Ks}
theorem go_draw {i r : Nat} {tn : TE} (D : Dj H0 H t c g j b n m) (ht : σ[i]? = some (some (.ref t))) (hn : Ev tn σ H (.int (r : Int))) (h1 : 1 ≤ r) (h2 : r < 1000000) (hb : b < 1000000000) (Q : VK) (k : ∀ (x : Nat) H', x < r → Dj H0 H' t c g j (b + 1) n m → Q (.int (x : Int)) H') :
    tCall spDraw [] E0 (tCons (tVar i) (tCons tn tNil)) σ H Q :=
  ⟨_, ht, hn H (Ex.refl _) _ fun H1 e1 => ⟨t, c, r, b, rfl, h1, h2, (D.mono e1).tp, hb, fun x H' hx kb tp => k x H' hx ((D.mono e1).draw kb tp)⟩⟩
theorem go_long {i o : Nat} (D : Dj H0 H t c g j b n m) (hg : σ[o]? = some (some (.ref g))) (ht : σ[i]? = some (some (.ref t))) (hb : b < 1000000000) (Q : VK) (k : ∀ (l : Nat) H', 1 ≤ l → l ≤ 99 → Dj H0 H' t c g j (b + 1) n m → Q (.int (l : Int)) H') :
    tOp (rIxL K) (tVar o) (tCall spDraw [] E0 (tCons (tVar i) (tCons (tC (.int 3)) tNil))) σ H Q :=
  ⟨_, hg, go_draw (r := 3) D ht ev_c (by decide) (by decide) hb _ fun x H' hx D' => by
    obtain ⟨l1, l2, l3, q1, q2, q3, q4⟩ := D'.lg
    obtain ⟨l, hl⟩ : ∃ l, ([l1, l2, l3] : List Nat)[x]? = some l := ⟨_, List.getElem?_eq_getElem hx⟩
    have hl2 : 1 ≤ l ∧ l ≤ 99 := by
      have := List.mem_of_getElem? hl
      simp only [List.mem_cons, List.not_mem_nil, or_false] at this
      rcases this with rfl | rfl | rfl
      · exact q2
      · exact q3
      · exact q4
    refine ⟨g, nV [l1, l2, l3], (x : Int), .int (l : Int), rfl, rfl, sq_of q1, ?_, k l H' hl2.1 hl2.2 D'⟩
    unfold atI
    rw [ixN_nat (by exact hx)]
    show (nV [l1, l2, l3])[x]? = _
    unfold nV
    rw [List.getElem?_map, hl]
    rfl⟩
/-- joined[p, q] = v, by what stands there -/
theorem go_put {a e l p : Nat} (D : Dj H0 H t c g j b n m) (hp : H p = some (.tup [.int (a : Int), .int (e : Int)])) (hm : m < 1000) (hab : a < e) (he : e < n) (h1 : 1 ≤ l) (h2 : l ≤ 99) (Q : Hp → Prop) (k : ∀ H', Dj H0 H' t c g j b n (m + 1) → Q H') :
    ∃ (x : Addr) (H4 : Hp), V.ref j = .ref x ∧ DPut H x (.ref p) (.int (l : Int)) H4 ∧ Q H4 := by
  obtain ⟨kvs, q3, q4, q5⟩ := D.dj
  exact ⟨j, _, rfl, DPut.t (k := pKey a e) q3 hp (sz_lt (by omega)), k _ (D.put q3 hab he h1 h2)⟩
end
end Lw
namespace Lw
open PySem PySem.Spec PyProof.Rows L2 Evl LwM SX
theorem TpAt.old {H H' : Hp} {t c j b : Nat} (h : TpAt H' t c b) (k : KeepBut t H H') (n : H' j = none) : H j = none := by
  have ne := h.ne n
  cases q : H j with
  | none => rfl
  | some o => rw [k _ _ ne.1 q] at n; cases n
section
variable {K : Fg} {σ : Ks} {H H0 : Hp} {t c g j b n m : Nat} {D : Ends} {tz tu : TS}
theorem q_setDraw {i o r : Nat} {tn : TE} (J : Dj H0 H t c g j b n m) (ht : σ[i]? = some (some (.ref t))) (hn : Ev tn σ H (.int (r : Int))) (h1 : 1 ≤ r) (h2 : r < 1000000) (hb : b < 1000000000) (k : ∀ (x : Nat) H', x < r → Dj H0 H' t c g j (b + 1) n m → tz D (σ.set o (some (.int (x : Int)))) H') :
    tSeq (tAsg (tCall spDraw [] E0 (tCons (tVar i) (tCons tn tNil))) (gName o)) tz D σ H := go_draw J ht hn h1 h2 hb (fun v H' => tz D (σ.set o (some v)) H') k
theorem q_ifdraw {i r : Nat} {tn : TE} (J : Dj H0 H t c g j b n m) (ht : σ[i]? = some (some (.ref t))) (hn : Ev tn σ H (.int (r : Int))) (h1 : 1 ≤ r) (h2 : r < 1000000) (hb : b < 1000000000) (k1 : ∀ H', Dj H0 H' t c g j (b + 1) n m → tu { D with nx := tz D } σ H') (k2 : ∀ H', Dj H0 H' t c g j (b + 1) n m → tz D σ H') :
    tSeq (tIfS (tTest (tOp (rI0 fun i j => .bl (decide (j < i))) (tCall spDraw [] E0 (tCons (tVar i) (tCons tn tNil))) (tC (.int 0)))) tu tNext) tz D σ H := by
  refine go_draw J ht hn h1 h2 hb (fun v H1 => tC (.int 0) σ H1 fun y H2 => rI0 (fun i j => .bl (decide (j < i))) v y H2 fun z H3 => ∃ q, z = .bl q ∧ (if q = true then tu { D with nx := tz D } σ H3 else tz D σ H3)) fun x H' hx J' => ⟨_, _, rfl, rfl, _, rfl, ?_⟩
  split
  · exact k1 H' J'
  · exact k2 H' J'
theorem q_fordraw {i r : Nat} {tn : TE} {gg : TG} (J : Dj H0 H t c g j b n m) (ht : σ[i]? = some (some (.ref t))) (hn : Ev tn σ H (.int (r : Int))) (h1 : 1 ≤ r) (h2 : r < 1000000) (hb : b < 1000000000) (k : ∀ (x : Nat) H', x < r → Dj H0 H' t c g j (b + 1) n m → tSeq (tFor (iRng1 (tCons (tC (.int (x : Int))) tNil)) gg tu) tz D σ H') :
    tSeq (tFor (iRng1 (tCons (tCall spDraw [] E0 (tCons (tVar i) (tCons tn tNil))) tNil)) gg tu) tz D σ H :=
  go_draw J ht hn h1 h2 hb (fun v H1 => ∃ jj : Int, [v] = [V.int jj] ∧ -(2 ^ 62) ≤ jj ∧ jj < 2 ^ 62 ∧ tFor (fun _ H R => R (Itr 0 jj.toNat) H) gg tu { D with nx := tz D } σ H1) k
theorem q_ifdrawK {i r : Nat} {tn : TE} (Post : Ks → Hp → Prop) (J : Dj H0 H t c g j b n m) (ht : σ[i]? = some (some (.ref t))) (hn : Ev tn σ H (.int (r : Int))) (h1 : 1 ≤ r) (h2 : r < 1000000) (hb : b < 1000000000) (k1 : (∀ σ' H', Post σ' H' → tz D σ' H') → ∀ H', Dj H0 H' t c g j (b + 1) n m → tu { D with nx := tz D } σ H') (k2 : ∀ H', Dj H0 H' t c g j (b + 1) n m → Post σ H') (k3 : ∀ σ' H', Post σ' H' → tz D σ' H') :
    tSeq (tIfS (tTest (tOp (rI0 fun i j => .bl (decide (j < i))) (tCall spDraw [] E0 (tCons (tVar i) (tCons tn tNil))) (tC (.int 0)))) tu tNext) tz D σ H :=
  q_ifdraw J ht hn h1 h2 hb (k1 k3) fun H' J' => k3 σ H' (k2 H' J')
theorem q_dput1 {i e : Nat} {be bj bl : Nat} (J : Dj H0 H t c g j b n m) (ht : σ[i]? = some (some (.ref t))) (hl : σ[bl]? = some (some (.ref g))) (hj : σ[bj]? = some (some (.ref j))) (he : σ[be]? = some (some (.int (e : Int)))) (h1 : 1 ≤ e) (h2 : e < n) (h3 : n ≤ 100) (hm : m < 1000) (hb : b < 900000000) (k : ∀ H', Dj H0 H' t c g j (b + 2) n (m + 1) → D.nx σ H') :
    sDPut (tVar bj) (tTup (tCons (tCall spDraw [] E0 (tCons (tVar i) (tCons (tVar be) tNil))) (tCons (tVar be) tNil))) (tOp (rIxL K) (tVar bl) (tCall spDraw [] E0 (tCons (tVar i) (tCons (tC (.int 3)) tNil)))) D σ H := by
  refine go_long (K := K) J hl ht (by omega) (fun v H1 => tVar bj σ H1 fun x H2 => tTup (tCons (tCall spDraw [] E0 (tCons (tVar i) (tCons (tVar be) tNil))) (tCons (tVar be) tNil)) σ H2 fun y H3 => ∃ a H4, x = .ref a ∧ DPut H3 a y v H4 ∧ D.nx σ H4) fun l H1 hl1 hl2 J1 => ⟨_, hj, ?_⟩
  refine go_draw (r := e) J1 ht (ev_ni (K := K) he) h1 (by omega) (by omega) (fun v H1 => tVar be σ H1 fun v2 H2 => [v, v2].length ≤ sizeLine ∧ ∀ p, H2 p = none → ∃ a H4, V.ref j = .ref a ∧ DPut (upd H2 p (.tup [v, v2])) a (.ref p) (.int (l : Int)) H4 ∧ D.nx σ H4) fun x H2 hx J2 => ⟨_, he, by show 2 ≤ sizeLine; decide, fun p hp => ?_⟩
  exact go_put (J2.mono (Ex.new hp)) upd_same hm hx h2 hl1 hl2 _ fun H4 J4 => k H4 J4
theorem q_dput2 {i a e : Nat} {ba be bj bl : Nat} (J : Dj H0 H t c g j b n m) (ht : σ[i]? = some (some (.ref t))) (hl : σ[bl]? = some (some (.ref g))) (hj : σ[bj]? = some (some (.ref j))) (ha : σ[ba]? = some (some (.int (a : Int)))) (he : σ[be]? = some (some (.int (e : Int)))) (h1 : a < e) (h2 : e < n) (hm : m < 1000) (hb : b < 900000000) (k : ∀ H', Dj H0 H' t c g j (b + 1) n (m + 1) → D.nx σ H') :
    sDPut (tVar bj) (tTup (tCons (tVar ba) (tCons (tVar be) tNil))) (tOp (rIxL K) (tVar bl) (tCall spDraw [] E0 (tCons (tVar i) (tCons (tC (.int 3)) tNil)))) D σ H := by
  refine go_long (K := K) J hl ht (by omega) (fun v H1 => tVar bj σ H1 fun x H2 => tTup (tCons (tVar ba) (tCons (tVar be) tNil)) σ H2 fun y H3 => ∃ a H4, x = .ref a ∧ DPut H3 a y v H4 ∧ D.nx σ H4) fun l H1 hl1 hl2 J1 => ⟨_, hj, _, ha, _, he, by show 2 ≤ sizeLine; decide, fun p hp => ?_⟩
  exact go_put (J1.mono (Ex.new hp)) upd_same hm h1 h2 hl1 hl2 _ fun H4 J4 => k H4 J4
end
/-! ### the web that is drawn -/
def lenOf (kvs : List (List Key × V)) (y : Addr × Int × Int) : Nat := match valV kvs [.inl y.2.1, .inl y.2.2] with
  | some (.int i) => i.toNat
  | _ => 0
def tieY (kvs : List (List Key × V)) (y : Addr × Int × Int) : Tie := (y.2.1.toNat, y.2.2.toNat, lenOf kvs y)
theorem val_of {n : Nat} {kvs : List (List Key × V)} (h : PrOk n kvs) {q : List Key} (hq : q ∈ kvs.map (·.1)) : ∃ a b l : Nat, q = pKey a b ∧ valV kvs q = some (.int (l : Int)) ∧ a < b ∧ b < n ∧ 1 ≤ l ∧ l ≤ 99 := by
  obtain ⟨p, hp, rfl⟩ := List.mem_map.mp hq
  have h1 : (valV kvs p.1).isSome = true := by
    rw [← valV_any]
    exact List.any_eq_true.mpr ⟨p, hp, by simp⟩
  obtain ⟨v, hv⟩ := Option.isSome_iff_exists.mp h1
  unfold valV at hv
  obtain ⟨q, hq, hv2⟩ := Option.map_eq_some_iff.mp hv
  have hm := List.mem_of_find?_eq_some hq
  have he := List.find?_some hq
  rw [decide_eq_true_eq] at he
  obtain ⟨a, b, l, rfl, g⟩ := h.all q hm
  refine ⟨a, b, l, he.symm, ?_, g⟩
  unfold valV
  rw [hq]
  rfl
theorem tie_of {n : Nat} {kvs : List (List Key × V)} (h : PrOk n kvs) {ys : List (Addr × Int × Int)} (hp : (ys.map fun y => [Sum.inl y.2.1, (Sum.inl y.2.2 : Key)]).Perm (kvs.map (·.1))) {y : Addr × Int × Int} (hy : y ∈ ys) :
    ∃ a b l : Nat, y.2.1 = (a : Int) ∧ y.2.2 = (b : Int) ∧ valV kvs (pKey a b) = some (.int (l : Int)) ∧ tieY kvs y = (a, b, l) ∧ a < b ∧ b < n ∧ 1 ≤ l ∧ l ≤ 99 := by
  have hm : [Sum.inl y.2.1, (Sum.inl y.2.2 : Key)] ∈ kvs.map (·.1) := hp.mem_iff.mp (List.mem_map.mpr ⟨y, hy, rfl⟩)
  obtain ⟨a, b, l, e, hv, g⟩ := val_of h hm
  have e1 : y.2.1 = (a : Int) := by
    unfold pKey at e
    injection e with e _
    injection e
  have e2 : y.2.2 = (b : Int) := by
    unfold pKey at e
    injection e with _ e
    injection e with e _
    injection e
  refine ⟨a, b, l, e1, e2, by rw [e] at hv; exact hv, ?_, g⟩
  unfold tieY lenOf
  rw [hv, e1, e2]
  simp
theorem web_of {n : Nat} {kvs : List (List Key × V)} (h : PrOk n kvs) (hn1 : 1 ≤ n) (hn2 : n ≤ 9) (hl : kvs.length ≤ 60) {ys : List (Addr × Int × Int)} (hp : (ys.map fun y => [Sum.inl y.2.1, (Sum.inl y.2.2 : Key)]).Perm (kvs.map (·.1)))
    (hs : ys.Pairwise fun x y => ¬ (y.2.1 < x.2.1 ∨ (y.2.1 = x.2.1 ∧ y.2.2 < x.2.2))) : WebOk ⟨n, ys.map (tieY kvs)⟩ := by
  have len : ys.length = kvs.length := by
    have := hp.length_eq
    rw [List.length_map, List.length_map] at this
    exact this
  refine ⟨hn1, by show n ≤ 24; omega, by show (ys.map (tieY kvs)).length ≤ 60; rw [List.length_map]; omega, fun t ht => ?_, ?_⟩
  · obtain ⟨y, hy, rfl⟩ := List.mem_map.mp ht
    obtain ⟨a, b, l, _, _, _, e, g⟩ := tie_of h hp hy
    rw [e]
    exact g
  · show (ys.map (tieY kvs)).Pairwise tlt
    rw [List.pairwise_map]
    have nd : (ys.map fun y => [Sum.inl y.2.1, (Sum.inl y.2.2 : Key)]).Nodup := hp.nodup_iff.mpr h.nd
    have nd2 := List.pairwise_map.mp nd
    refine (List.Pairwise.and_mem.mp (hs.and nd2)).imp fun {x y} q => ?_
    obtain ⟨hx, hy, q1, q2⟩ := q
    obtain ⟨a, b, l, e1, e2, _, e3, _⟩ := tie_of h hp hx
    obtain ⟨a', b', l', e1', e2', _, e3', _⟩ := tie_of h hp hy
    rw [e3, e3']
    rw [e1, e2, e1', e2'] at q1
    have q2' : ¬ (a = a' ∧ b = b') := fun z => q2 (by rw [e1, e2, e1', e2', z.1, z.2])
    unfold tlt
    show a < a' ∨ (a = a' ∧ b < b')
    omega
theorem lc_ties {K : Fg} {H : Hp} {t g j n : Nat} {x4 x5 x6 x7 : Option V} {kvs : List (List Key × V)} (h : H j = some (.dT kvs)) (ok : PrOk n kvs) (hn1 : 1 ≤ n) (hn2 : n ≤ 9) (hl : kvs.length ≤ 60) (Q : VK)
    (k : ∀ ts p H', WebOk ⟨n, ts⟩ → Ex H H' → Dp K H' (.ref p) (.list (ts.map tieD)) → Q (.ref p) H') :
    tLc (iList K (tCB rSortedDP (tCons (tVar 3) tNil))) (gName 7) tYes (tTup (tCons (tOp (rIxT K) (tVar 7) (tC (.int 0))) (tCons (tOp (rIxT K) (tVar 7) (tC (.int 1))) (tCons (tDGet (tVar 3) (tVar 7)) tNil)))) [7] [some (.ref t), some (.int (n : Int)), some (.ref g), some (.ref j), x4, x5, x6, x7] H Q := by
  refine ⟨_, rfl, j, kvs, rfl, h, fun q hq => ?_, fun ys p hy hp hs np => ⟨p, rfl, ⟨_, sq_of upd_same⟩, fun Dl hD => ?_⟩⟩
  · obtain ⟨a, b, l, rfl, _⟩ := ok.all q hq
    exact ⟨(a : Int), (b : Int), rfl⟩
  have e1 := Ex.new (o := .lst (ys.map fun y => V.ref y.1)) np
  have hlen : (ys.map fun y => V.ref y.1).length = ys.length := List.length_map _
  have yl : ys.length ≤ 60 := by
    have := hp.length_eq
    rw [List.length_map, List.length_map] at this
    omega
  refine lc_it (walk_list (K := K) (a := p) (xs := ys.map fun y => V.ref y.1)) (fun i H' => Ex (upd H p (.lst (ys.map fun y => V.ref y.1))) H' ∧ ∃ acc, H' Dl = some (.lst acc) ∧ DpAll K H' acc ((ys.take i).map fun y => tieD (tieY kvs y)))
    ⟨Ex.new hD, [], upd_same, by simp; exact .nil⟩ (fun i H' _ q => ex_l q.1 (sq_of upd_same)) (fun i x H3 H4 hi q y => ?_) fun H' q => ?_
  · obtain ⟨q1, acc, q2, q3⟩ := q
    obtain ⟨rfl, y2⟩ := y
    rw [List.getElem?_map] at y2
    obtain ⟨y, hy2, rfl⟩ := Option.map_eq_some_iff.mp y2
    have hmem := List.mem_of_getElem? hy2
    obtain ⟨a, b, l, a1, a2, a3, a4, _⟩ := tie_of ok hp hmem
    have hy3 := hy y hmem
    rw [a1, a2] at hy3
    have e14 := e1.trans q1
    have hy4 := e14 _ _ hy3
    have hj4 := e14 _ _ h
    have dg := DGet.t (k := pKey a b) hj4 hy4
    rw [a3] at dg
    refine ⟨rfl, ?_⟩
    unfold tYes
    simp only [↓reduceIte]
    refine ⟨_, rfl, y.1, _, 0, .int (a : Int), rfl, rfl, .inl (.inl hy4), rfl, ⟨_, rfl, y.1, _, 1, .int (b : Int), rfl, rfl, .inl (.inl hy4), rfl, ⟨_, rfl, _, rfl, j, .int (l : Int), rfl, dg, sz_of (by show 3 ≤ 100000; decide), fun p' hp' => ?_⟩⟩⟩
    have e5 := Ex.new (o := .tup [.int (a : Int), .int (b : Int), .int (l : Int)]) hp'
    have al : acc.length = (ys.take i).length := by rw [dps_len q3, List.length_map]
    rw [List.length_take] at al
    refine ⟨acc, e5 _ _ q2, sz_lt (by omega), Ex.mut (q1.trans e5) hD, _, upd_same, ?_⟩
    have tk : Tk _ (upd _ Dl (.lst (acc ++ [.ref p']))) := tk_updL (e5 _ _ q2)
    rw [List.take_add_one, hy2, Option.toList_some, List.map_append]
    have fzA : fzAll ((ys.take i).map fun y => tieD (tieY kvs y)) = true := fzAll_iff.mpr fun z hz => by
      obtain ⟨y', _, rfl⟩ := List.mem_map.mp hz
      rfl
    refine dps_app (Dpst (Dpsx q3 e5) tk fzA) (.cons (Dpt ?_ tk rfl) .nil)
    show Dp K _ _ (tieD (tieY kvs y))
    rw [a4]
    exact .tup (.inl (.inl upd_same)) (.cons (.int _) (.cons (.int _) (.cons (.int _) .nil)))
  · obtain ⟨q1, acc, q2, q3⟩ := q
    rw [hlen, List.take_length] at q3
    refine k (ys.map (tieY kvs)) Dl H' (web_of ok hn1 hn2 hl hp hs) (e1.trans q1) (.lst (sq_of q2) ?_)
    rw [List.map_map]
    exact q3
section
variable {P : Program} {w : World} {K : Fg} {mg : Str → Option Value} {base : Heap}
def spWeb (K : Fg) : Sp := fun vs H Q _ => ∃ (t c : Addr) (n b : Nat), vs = [.ref t, .int (n : Int)] ∧ 1 ≤ n ∧ n ≤ 9 ∧ TpAt H t c b ∧ b < 800000000 ∧ ∀ (W : Web) v H', WebOk W → W.n = n → KeepBut t H H' → TpAt H' t c (b + 100) → Dp K H' v (webD W) → Q v H'
theorem sc_law_web : FnScope ["_law_tape_here", "_law_n", "_law_longs", "_law_joined", "_law_b", "_law_k", "_law_a", "_law_pair"] ["_law_tape_here", "_law_n"] (defScope (top 92)) := ⟨rfl, rfl, rfl, by decide +kernel, rfl, by decide +kernel, by decide +kernel⟩
theorem cal_law_web (T : Txt w K mg) : CalD P w K mg base 2 "_law_web" (spWeb K) := by
  refine cal_sp T.f_law_web T.g_law_web sc_law_web (fun _ _ _ _ _ _ us hl => match us, hl with | [_, _], _ => rfl) (fun vs H Q E h => by obtain ⟨_, _, _, _, rfl, _⟩ := h; rfl) fun cdv A outer s H vs Q E hr h => ?_
  obtain ⟨t, c, n, b, rfl, hn1, hn2, hT, hb, k⟩ := h
  refine ⟨_, (pss_cons (ps_set (i := 2) sc_law_web.nd rfl (Or.inl rfl) (pe_ix (ix_listK (K := K) rfl) (pe_lst (pa_cons (pe_lst (pa_cons pe_int (pa_cons pe_int (pa_cons pe_int pa_nil)))) (pa_cons (pe_lst (pa_cons pe_int (pa_cons pe_int (pa_cons pe_int pa_nil)))) (pa_cons (pe_lst (pa_cons pe_int (pa_cons pe_int (pa_cons pe_int pa_nil)))) (pa_cons (pe_lst (pa_cons pe_int (pa_cons pe_int (pa_cons pe_int pa_nil)))) pa_nil))))) (pe_cal (cal_law_draw (K := K) T) hr (by decide) (by rfl) (pa_cons (pv 0) (pa_cons pe_int pa_nil))) (fun _ _ => rfl)))
      (pss_cons (ps_set (i := 3) sc_law_web.nd rfl (Or.inr rfl) pe_dnewT)
      (pss_cons (ps_if (pt_cmpR op_gt (pe_cal (cal_law_draw (K := K) T) hr (by decide) (by rfl) (pa_cons (pv 0) (pa_cons pe_int pa_nil))) pe_int (nomark _)) (pss_one (ps_for PassesOwn.never rfl (pi_range2 rfl T.m_range (pa_cons pe_int (pa_cons (pv 1) pa_nil))) (pg_name (i := 4) sc_law_web.nd rfl (Or.inl rfl)) (pss_one (ps_dput (hu_of hr) (pv 3) (pe_tup (pa_cons (pe_cal (cal_law_draw (K := K) T) hr (by decide) (by rfl) (pa_cons (pv 0) (pa_cons (pv 4) pa_nil))) (pa_cons (pv 4) pa_nil))) (pe_ix (ix_listK (K := K) rfl) (pv 2) (pe_cal (cal_law_draw (K := K) T) hr (by decide) (by rfl) (pa_cons (pv 0) (pa_cons pe_int pa_nil))) (fun _ _ => rfl)) rfl)))) pss_nil)
      (pss_cons (ps_for PassesOwn.never rfl (pi_range1 rfl T.m_range (pa_cons (pe_cal (cal_law_draw (K := K) T) hr (by decide) (by rfl) (pa_cons (pv 0) (pa_cons (pe_op op_add (pe_op op_add pe_int (pv 1)) (pe_op op_fdiv (pv 1) pe_int)) pa_nil))) pa_nil)) (pg_name (i := 5) sc_law_web.nd rfl (Or.inl rfl)) (pss_cons (ps_set (i := 6) sc_law_web.nd rfl (Or.inl rfl) (pe_cal (cal_law_draw (K := K) T) hr (by decide) (by rfl) (pa_cons (pv 0) (pa_cons (pv 1) pa_nil))))
      (pss_cons (ps_set (i := 4) sc_law_web.nd rfl (Or.inl rfl) (pe_cal (cal_law_draw (K := K) T) hr (by decide) (by rfl) (pa_cons (pv 0) (pa_cons (pv 1) pa_nil))))
      (pss_one (ps_if (pt_cmpR op_lt (pv 6) (pv 4) (nomark _)) (pss_one (ps_dput (hu_of hr) (pv 3) (pe_tup (pa_cons (pv 6) (pa_cons (pv 4) pa_nil))) (pe_ix (ix_listK (K := K) rfl) (pv 2) (pe_cal (cal_law_draw (K := K) T) hr (by decide) (by rfl) (pa_cons (pv 0) (pa_cons pe_int pa_nil))) (fun _ _ => rfl)) rfl)) pss_nil)))))
      (pss_one (ps_ret (pe_tup (pa_cons (pv 1) (pa_cons (pe_callTy (call_tupK (K := K) rfl) (by rfl) T.m_tuple bt_tuple (pa_cons (pe_lc (own := [("_law_pair", 7)]) rfl sc_law_web.nd (pi_listK (K := K) rfl (pe_callB (cr_sortedDP rfl) (by rfl) T.m_sorted bt_sorted (pa_cons (pv 3) pa_nil))) (blkOk_by (N := ["_law_tape_here", "_law_n", "_law_longs", "_law_joined", "_law_b", "_law_k", "_law_a", "_law_pair"]) (sc := defScope (top 92)) (by decide +kernel)) (fun _ _ _ _ _ => (pg_name (i := 7) sc_law_web.nd rfl (Or.inl rfl))) (fun _ _ _ _ _ => pts_nil) (fun _ _ _ _ _ => (pe_tup (pa_cons (pe_ix (ix_tupK (K := K) rfl) (pv 7) pe_int (fun _ _ => rfl)) (pa_cons (pe_ix (ix_tupK (K := K) rfl) (pv 7) pe_int (fun _ _ => rfl)) (pa_cons (pe_dget (hu_of hr) (pv 3) (pv 7) (fun _ _ => rfl)) pa_nil)))))) pa_nil)) pa_nil))))))))), ?_⟩
  refine ⟨sz_of (by show 3 ≤ 100000; decide), fun p1 n1 => ⟨sz_of (by show 3 ≤ 100000; decide), fun p2 n2 => ⟨sz_of (by show 3 ≤ 100000; decide), fun p3 n3 => ⟨sz_of (by show 3 ≤ 100000; decide), fun p4 n4 => ⟨sz_of (by show 4 ≤ 100000; decide), fun o no => ?_⟩⟩⟩⟩⟩
  have x1 := Ex.new (o := .lst (nV [1, 1, 1])) n1
  have x2 := Ex.new (o := .lst (nV [1, 2, 1])) n2
  have x3 := Ex.new (o := .lst (nV [1, 2, 3])) n3
  have x4 := Ex.new (o := .lst (nV [5, 99, 7])) n4
  have x5 := Ex.new (o := .lst [V.ref p1, .ref p2, .ref p3, .ref p4]) no
  have g1 := (x2.trans (x3.trans (x4.trans x5))) p1 _ upd_same
  have g2 := (x3.trans (x4.trans x5)) p2 _ upd_same
  have g3 := (x4.trans x5) p3 _ upd_same
  have g4 := x5 p4 _ upd_same
  have e5 := x1.trans (x2.trans (x3.trans (x4.trans x5)))
  have f1 := n1
  have f2 := fresh_back x1 n2
  have f3 := fresh_back (x1.trans x2) n3
  have f4 := fresh_back (x1.trans (x2.trans x3)) n4
  have f5 := fresh_back (x1.trans (x2.trans (x3.trans x4))) no
  refine ⟨_, rfl, ⟨t, c, 4, b, rfl, by decide, by decide, hT.mono e5, by omega, fun m H6 hm kb6 tp6 => ?_⟩⟩
  obtain ⟨g, hg, ng, l1, l2, l3, q1, q2⟩ : ∃ g, ([V.ref p1, .ref p2, .ref p3, .ref p4])[m]? = some (.ref g) ∧ H g = none ∧ ∃ l1 l2 l3 : Nat, H6 g = some (.lst (nV [l1, l2, l3])) ∧ (1 ≤ l1 ∧ l1 ≤ 99) ∧ (1 ≤ l2 ∧ l2 ≤ 99) ∧ 1 ≤ l3 ∧ l3 ≤ 99 := by
    match m, hm with
    | 0, _ => exact ⟨p1, rfl, f1, 1, 1, 1, kb6 _ _ (hT.ne f1).1 g1, by decide⟩
    | 1, _ => exact ⟨p2, rfl, f2, 1, 2, 1, kb6 _ _ (hT.ne f2).1 g2, by decide⟩
    | 2, _ => exact ⟨p3, rfl, f3, 1, 2, 3, kb6 _ _ (hT.ne f3).1 g3, by decide⟩
    | 3, _ => exact ⟨p4, rfl, f4, 5, 99, 7, kb6 _ _ (hT.ne f4).1 g4, by decide⟩
    | m + 4, h => omega
  have ho6 := kb6 _ _ (hT.ne f5).1 (upd_same (H := upd (upd (upd (upd H p1 (.lst (nV [1, 1, 1]))) p2 (.lst (nV [1, 2, 1]))) p3 (.lst (nV [1, 2, 3]))) p4 (.lst (nV [5, 99, 7]))) (a := o) (o := .lst [V.ref p1, .ref p2, .ref p3, .ref p4]))
  have kbH6 : KeepBut t H H6 := (KeepBut.ex e5).trans kb6
  refine ⟨o, [V.ref p1, .ref p2, .ref p3, .ref p4], (m : Int), .ref g, rfl, rfl, sq_of ho6, ?_, ?_⟩
  · unfold atI
    rw [ixN_nat (by exact hm)]
    exact hg
  refine fun j nj => ?_
  have j0 : H j = none := tp6.old kbH6 nj
  have gj : g ≠ j := fun z => by rw [z, nj] at q1; cases q1
  have J : Dj H (upd H6 j (.dT [])) t c g j (b + 1) n 0 := ⟨kbH6.mut j0, tp6.mut (tp6.ne nj), ⟨l1, l2, l3, by rw [upd_ne gj]; exact q1, q2⟩, ⟨(hT.ne ng).1, (hT.ne ng).2, (tp6.ne nj).1, (tp6.ne nj).2, gj⟩, ⟨[], upd_same, ⟨by simp, by simp⟩, by simp⟩, j0⟩
  refine q_ifdrawK (r := 3) (fun σ' H' => ∃ x4, σ' = [some (.ref t), some (.int (n : Int)), some (.ref g), some (.ref j), x4, none, none, none] ∧ Dj H H' t c g j (b + 20) n 8) J rfl ev_c (by decide) (by decide) (by omega) (fun k3 H7 J7 => ?_) (fun H7 J7 => ⟨none, rfl, J7.more (by omega) (by omega)⟩) fun σ7 H7 q7 => ?_
  · refine d_for (K := K) (G := fun _ => none) (evi_range2 (a := 1) (n := n) ev_c (ev_ni (K := K) rfl) (by omega) (by omega)) (ex_none _) (fun i σ' H' => ∃ x4, σ' = [some (.ref t), some (.int (n : Int)), some (.ref g), some (.ref j), x4, none, none, none] ∧ Dj H H' t c g j (b + 2 + 2 * i) n i)
      (fun H8 e8 => ⟨none, rfl, J7.mono e8⟩) (fun _ _ _ _ => ex_none _) (fun i d x σ' H8 H9 hi q e9 dx => ?_) fun σ' H' q => ?_
    · obtain ⟨x4, rfl, J8⟩ := q
      have hil := (List.getElem?_eq_some_iff.mp hi).1
      rw [fromTo_len] at hil
      rw [fromTo_at hil] at hi
      cases hi
      have dx' : x = .int ((1 + i : Nat) : Int) := dp_n (n := 1 + i) dx
      subst dx'
      exact q_dput1 (K := K) (e := 1 + i) (J8.mono e9) rfl rfl rfl rfl (by omega) (by omega) (by omega) (by omega) (by omega) fun H10 J10 => ⟨_, rfl, J10.more (by omega) (by omega)⟩
    · obtain ⟨x4, rfl, J8⟩ := q
      rw [fromTo_len] at J8
      exact k3 _ _ ⟨x4, rfl, J8.more (by omega) (by omega)⟩
  obtain ⟨x4, rfl, J7⟩ := q7
  refine q_fordraw (r := 1 + n + n / 2) J7 rfl ?_ (by omega) (by omega) (by omega) fun r H8 hr8 J8 => ?_
  · have q1 := ev_add (ev_add (σ := [some (.ref t), some (.int (n : Int)), some (.ref g), some (.ref j), x4, none, none, none]) (H := H7) (i := 1) ev_c (ev_ni (K := K) (i := 1) rfl)) (ev_opI (f := fun i j => V.int (i / j)) (C := CDiv) (j := 2) (ev_ni (K := K) (i := 1) rfl) ev_c ⟨by decide, by decide⟩)
    have e : (1 : Int) + (n : Int) + (n : Int) / 2 = ((1 + n + n / 2 : Nat) : Int) := by omega
    rw [e] at q1
    exact q1
  refine dq_for (K := K) (G := fun _ => none) (evi_range (n := r) ev_c (by omega)) (ex_none _) (fun i σ' H' => ∃ x4 x5 x6, σ' = [some (.ref t), some (.int (n : Int)), some (.ref g), some (.ref j), x4, x5, x6, none] ∧ Dj H H' t c g j (b + 21 + 3 * i) n (8 + i))
      (fun H9 e9 => ⟨x4, none, none, rfl, J8.mono e9⟩) (fun _ _ _ _ => ex_none _) (fun i d x σ' H9 H10 hi q e10 dx => ?_) fun σ' H' q => ?_
  · obtain ⟨x4, x5, x6, rfl, J9⟩ := q
    have hil := (List.getElem?_eq_some_iff.mp hi).1
    rw [upto_len] at hil
    refine q_setDraw (r := n) (J9.mono e10) rfl (ev_ni (K := K) rfl) (by omega) (by omega) (by omega) fun xa H11 ha J11 => ?_
    refine q_setDraw (r := n) J11 rfl (ev_ni (K := K) rfl) (by omega) (by omega) (by omega) fun xb H12 hb12 J12 => ?_
    refine d_if1 (b := decide ((xa : Int) < (xb : Int))) (et_test (ev_lt (ev_ni (K := K) rfl) (ev_ni (K := K) rfl))) (fun z H13 e13 => ?_) fun z H13 e13 => ?_
    · rw [decide_eq_true_eq] at z
      exact q_dput2 (K := K) (a := xa) (e := xb) (J12.mono e13) rfl rfl rfl rfl rfl (by omega) hb12 (by omega) (by omega) fun H14 J14 => ⟨_, _, _, rfl, J14.more (by omega) (by omega)⟩
    · exact ⟨_, _, _, rfl, (J12.mono e13).more (by omega) (by omega)⟩
  · obtain ⟨x4, x5, x6, rfl, J9⟩ := q
    rw [upto_len] at J9
    obtain ⟨kvs, hd, okk, hkl⟩ := J9.dj
    refine ⟨_, rfl, ?_⟩
    refine lc_ties (K := K) (n := n) hd okk hn1 hn2 (by omega) (fun v H' => tRet (tTup (tCons (tC (.int (n : Int))) (tCons (tCB (rTupQ K) (tCons (tC v) tNil)) tNil))) { nx := fun _ H' => Q .non H', rt := Q } [some (.ref t), some (.int (n : Int)), some (.ref g), some (.ref j), x4, x5, x6, none] H') fun ts p H11 okW e11 d11 => ?_
    refine d_ret (K := K) (d := webD ⟨n, ts⟩) (evd_tup (evds_cons (evd_int ev_c) (evds_cons (evd_tupL fun H1 e Q q => q _ H1 (Ex.refl _) (Dpx d11 e)) evds_nil)) (by show 2 ≤ 100000; decide)) fun v H12 e12 d12 => ?_
    have J12 := J9.mono (e11.trans e12)
    exact k ⟨n, ts⟩ v H12 okW rfl J12.kb (J12.tp.up (by omega)) d12
end
end Lw
namespace Lw
open PySem PySem.Spec PyProof.Rows L2 Evl LwM SX
/-! ### some places that are drawn -/
theorem lc_draws {K : Fg} {σ : Ks} {H : Hp} {t c b kx : Nat} {vw : V} {W : Web} (ht : σ[0]? = some (some (.ref t))) (hv : σ[1]? = some (some vw)) (hk : 1 < kx) (hT : TpAt H t c b) (hw : Dp K H vw (webD W)) (okW : WebOk W) (hb : b < 900000000) (Q : VK)
    (k : ∀ (l : List Nat) p H', l ≠ [] → (∀ x ∈ l, x < W.n) → l.length ≤ 3 → H p = none → KeepBut t H H' → TpAt H' t c (b + 4) → H' p = some (.lst (nV l)) → Q (.ref p) H') :
    tLc (iRng1 (tCons (tOp (rI0 fun i j => .int (i + j)) (tC (.int 1)) (tCall spDraw [] E0 (tCons (tVar 0) (tCons (tC (.int 3)) tNil)))) tNil)) (gName kx) tYes (tCall spDraw [] E0 (tCons (tVar 0) (tCons (tOp (rIxT K) (tVar 1) (tC (.int 0))) tNil))) [kx] σ H Q := by
  have pos := okW.pos
  have most := okW.most
  refine ⟨_, ht, t, c, 3, b, rfl, by decide, by decide, hT, by omega, fun x H1 hx kb tp => ⟨_, _, rfl, rfl, _, rfl, by omega, by omega, fun Dl hD => ?_⟩⟩
  have hD0 := tp.old kb hD
  have nD0 := tp.ne hD
  have en : (1 + (x : Int)).toNat = 1 + x := by omega
  rw [en]
  refine lc_it (walk_range (lo := 0) (n := 1 + x)) (fun i H' => KeepBut t H H' ∧ TpAt H' t c (b + 1 + i) ∧ ∃ l : List Nat, l.length = i ∧ (∀ p ∈ l, p < W.n) ∧ H' Dl = some (.lst (nV l)))
    ⟨kb.mut hD0, tp.mut nD0, [], rfl, (fun _ z => by cases z), upd_same⟩ (fun _ _ _ _ => trivial) (fun i y H3 H4 hi q y2 => ?_) fun H' q => ?_
  · obtain ⟨kb3, tp3, l, hl, hlt, hd⟩ := q
    obtain ⟨rfl, rfl⟩ := y2
    have tk3 := hT.tk kb3 tp3
    have s0 : (((wipe σ [kx]).set kx (some (.int (0 + (i : Int))))))[0]? = some (some (.ref t)) := by
      show ((σ.set kx none).set kx _)[0]? = _
      rw [List.getElem?_set_ne (by omega), List.getElem?_set_ne (by omega)]
      exact ht
    have s1 : (((wipe σ [kx]).set kx (some (.int (0 + (i : Int))))))[1]? = some (some vw) := by
      show ((σ.set kx none).set kx _)[1]? = _
      rw [List.getElem?_set_ne (by omega), List.getElem?_set_ne (by omega)]
      exact hv
    refine ⟨by show ((σ.set kx none).set kx _).set kx none = _; rw [List.set_set]; show (σ.set kx none).set kx none = σ.set kx none; rw [List.set_set], ?_⟩
    unfold tYes
    simp only [↓reduceIte]
    refine ⟨_, s0, ?_⟩
    refine ev_n (K := K) (evd_i0 (evd_var s1 (Dpt hw tk3 (fz_web W)))) H4 (Ex.refl _) _ fun H5 e5 => ?_
    refine ⟨t, c, W.n, b + 1 + i, rfl, pos, by omega, tp3.mono e5, by omega, fun m H6 hm kb6 tp6 => ?_⟩
    have hd6 : H6 Dl = some (.lst (nV l)) := kb6 _ _ nD0.1 (e5 _ _ hd)
    refine ⟨nV l, hd6, sz_lt (by unfold nV; rw [List.length_map]; omega), ((kb3.trans (KeepBut.ex e5)).trans kb6).mut hD0, tp6.mut nD0, l ++ [m], by simp [hl], fun p hp => ?_, ?_⟩
    · rcases List.mem_append.mp hp with hp | hp
      · exact hlt p hp
      · rw [List.mem_singleton.mp hp]
        exact hm
    · rw [upd_same]
      unfold nV
      rw [List.map_append]
      rfl
  · obtain ⟨kb3, tp3, l, hl, hlt, hd⟩ := q
    exact k l Dl H' (fun z => by rw [z] at hl; simp at hl; omega) hlt (by omega) hD0 kb3 (tp3.up (by omega)) hd
end Lw
namespace Lw
open PySem PySem.Spec PyProof.Rows L2 Evl LwM SX
theorem eqv_ints (a b : List Nat) : PyData.eqv (.list (a.map nD)) (.list (b.map nD)) = decide (a = b) := by
  have key : ∀ a b : List Nat, PyData.eqvAll (a.map nD) (b.map nD) = decide (a = b) := by
    intro a
    induction a with
    | nil =>
      intro b
      cases b with
      | nil => simp [PyData.eqvAll]
      | cons y b => simp [PyData.eqvAll]
    | cons x a ih =>
      intro b
      cases b with
      | nil => simp [PyData.eqvAll]
      | cons y b =>
        have h := ih b
        simp only [List.map_cons, PyData.eqvAll, h]
        have e : PyData.eqv (nD x) (nD y) = decide (x = y) := by
          simp [nD, PyData.eqv, BEq.beq, Int.natCast_inj]
        rw [e]
        by_cases h1 : x = y <;> by_cases h2 : a = b <;> simp [h1, h2]
  have q := key a b
  simpa [PyData.eqv] using q
theorem flat_len {f : Nat → List Nat} {k : Nat} : ∀ {l : List Nat}, (∀ x ∈ l, (f x).length ≤ k) → (l.flatMap f).length ≤ l.length * k
  | [], _ => by simp
  | x :: l, h => by
    rw [List.flatMap_cons, List.length_append, List.length_cons, Nat.succ_mul]
    have h1 := h x (by simp)
    have h2 := flat_len (l := l) (k := k) fun y hy => h y (by simp [hy])
    omega
theorem between_len (W : Web) (u v : Nat) : (betweenL W u v).length ≤ W.n := by
  unfold betweenL
  have := List.length_filter_le (fun m => bt W m u v) (List.range W.n)
  rw [List.length_range] at this
  exact this
theorem q_lst {K : Fg} {σ : Ks} {H : Hp} {D : Ends} {tz : TS} {i o : Nat} {p : Addr} {xs : List V} (hs : σ[i]? = some (some (.ref p))) (h : H p = some (.lst xs)) (k : ∀ l, H l = none → tz D (σ.set o (some (.ref l))) (upd H l (.lst xs))) :
    tSeq (tAsg (tCB (rLstQ K) (tCons (tVar i) tNil)) (gName o)) tz D σ H := ⟨_, hs, p, xs, rfl, .inl (sq_of h), k⟩
theorem q_draws {K : Fg} {σ : Ks} {H : Hp} {D : Ends} {tz : TS} {t c b kx o : Nat} {vw : V} {W : Web} (ht : σ[0]? = some (some (.ref t))) (hv : σ[1]? = some (some vw)) (hk : 1 < kx) (hT : TpAt H t c b) (hw : Dp K H vw (webD W)) (okW : WebOk W) (hb : b < 900000000)
    (k : ∀ (l : List Nat) p H', l ≠ [] → (∀ x ∈ l, x < W.n) → l.length ≤ 3 → H p = none → KeepBut t H H' → TpAt H' t c (b + 4) → H' p = some (.lst (nV l)) → tz D (σ.set o (some (.ref p))) H') :
    tSeq (tAsg (tLc (iRng1 (tCons (tOp (rI0 fun i j => .int (i + j)) (tC (.int 1)) (tCall spDraw [] E0 (tCons (tVar 0) (tCons (tC (.int 3)) tNil)))) tNil)) (gName kx) tYes (tCall spDraw [] E0 (tCons (tVar 0) (tCons (tOp (rIxT K) (tVar 1) (tC (.int 0))) tNil))) [kx]) (gName o)) tz D σ H :=
  lc_draws ht hv hk hT hw okW hb (fun v H' => tz D (σ.set o (some v)) H') k
theorem ints_nat {ns : List Int} {B : Nat} (asc : ns.Pairwise (· < ·)) (h : ∀ k ∈ ns, 0 ≤ k ∧ k < B) : ns.map V.int = nV (ns.map Int.toNat) ∧ (ns.map Int.toNat).Pairwise (· < ·) ∧ ∀ k : Nat, k ∈ ns.map Int.toNat ↔ (k : Int) ∈ ns := by
  refine ⟨?_, ?_, fun k => ?_⟩
  · unfold nV
    rw [List.map_map]
    refine List.map_congr_left fun k hk => ?_
    have := h k hk
    show V.int k = V.int ((k.toNat : Nat) : Int)
    rw [Int.toNat_of_nonneg this.1]
  · rw [List.pairwise_map]
    refine (List.Pairwise.and_mem.mp asc).imp fun {x y} q => ?_
    have h1 := h x q.1
    have h2 := h y q.2.1
    have h3 := q.2.2
    omega
  · rw [List.mem_map]
    constructor
    · rintro ⟨z, hz, rfl⟩
      rw [Int.toNat_of_nonneg (h z hz).1]
      exact hz
    · intro hk
      exact ⟨(k : Int), hk, by simp⟩
section
variable {P : Program} {w : World} {K : Fg} {mg : Str → Option Value} {base : Heap}
def spPart (K : Fg) : Sp := fun vs H Q _ => ∃ (t c b : Nat) (vw : V) (W : Web), vs = [.ref t, vw] ∧ TpAt H t c b ∧ b < 800000000 ∧ WebOk W ∧ W.n ≤ 9 ∧ Dp K H vw (webD W) ∧ ∀ (ps : List Nat) v H', PartOk W ps → KeepBut t H H' → TpAt H' t c (b + 4) → Dp K H' v (placesD ps) → Q v H'
theorem sc_law_part : FnScope ["_law_tape_here", "_law_web_here", "_law_some", "_law_k", "_law_former", "_law_more", "_law_one", "_law_other"] ["_law_tape_here", "_law_web_here"] (defScope (top 94)) := ⟨rfl, rfl, rfl, by decide +kernel, rfl, by decide +kernel, by decide +kernel⟩
theorem cal_law_part (T : Txt w K mg) : CalD P w K mg base 4 "_law_part" (spPart K) := by
  refine cal_sp T.f_law_part T.g_law_part sc_law_part (fun _ _ _ _ _ _ us hl => match us, hl with | [_, _], _ => rfl) (fun vs H Q E h => by obtain ⟨_, _, _, _, _, rfl, _⟩ := h; rfl) fun cdv A outer s H vs Q E hr h => ?_
  obtain ⟨t, c, b, vw, W, rfl, hT, hb, okW, hn9, hw, k⟩ := h
  refine ⟨_, (pss_cons (ps_setLc (i := 2) (own := [("_law_k", 3)]) rfl sc_law_part.nd rfl rfl (sw_true rfl rfl rfl (by decide +kernel)) (pi_range1 rfl T.m_range (pa_cons (pe_op op_add pe_int (pe_cal (cal_law_draw (K := K) T) hr (by decide) (by rfl) (pa_cons (pv 0) (pa_cons pe_int pa_nil)))) pa_nil)) (blkOk_by (N := ["_law_tape_here", "_law_web_here", "_law_some", "_law_k", "_law_former", "_law_more", "_law_one", "_law_other"]) (sc := defScope (top 94)) (by decide +kernel)) (fun _ _ _ _ _ => (pg_name (i := 3) sc_law_part.nd rfl (Or.inl rfl))) (fun _ _ _ _ _ => pts_nil) (fun _ _ _ _ _ => (pe_cal (cal_law_draw (K := K) T) hr (by decide) (by rfl) (pa_cons (pv 0) (pa_cons (pe_ix (ix_tupK (K := K) rfl) (pv 1) pe_int (fun _ _ => rfl)) pa_nil)))))
      (pss_cons (ps_set (i := 4) sc_law_part.nd rfl (Or.inl rfl) (pe_lst pa_nil))
      (pss_cons (ps_while PassesOwn.never (pt_cmpR (op_neDK (K := K) rfl hr.units) (pv 4) (pv 2) (nomark _)) (pss_cons (ps_set (i := 4) sc_law_part.nd rfl (Or.inl rfl) (pe_callTy (call_lstK (K := K) rfl) (by rfl) T.m_list bt_list (pa_cons (pv 2) pa_nil)))
      (pss_cons (ps_set (i := 5) sc_law_part.nd rfl (Or.inl rfl) (pe_callTy (call_lstK (K := K) rfl) (by rfl) T.m_list bt_list (pa_cons (pv 2) pa_nil)))
      (pss_cons (ps_for PassesOwn.never rfl (pi_listK (K := K) rfl (pv 2)) (pg_name (i := 6) sc_law_part.nd rfl (Or.inl rfl)) (pss_one (ps_for PassesOwn.never rfl (pi_listK (K := K) rfl (pv 2)) (pg_name (i := 7) sc_law_part.nd rfl (Or.inl rfl)) (pss_one (ps_expr (pe_bm PySem.F.plainAttrs_list PySem.F.slot_list_extend PySem.F.type_list_extend (mt_extendTK (K := K) rfl) (pv 5) (pa_cons (pe_cal (cal_between (K := K) T) hr (by decide) (by rfl) (pa_cons (pv 1) (pa_cons (pv 6) (pa_cons (pv 7) pa_nil)))) pa_nil)))))))
      (pss_one (ps_set (i := 2) sc_law_part.nd rfl (Or.inl rfl) (pe_callB (cr_sortedSet rfl) (by rfl) T.m_sorted bt_sorted (pa_cons (pe_callTy (cr_setL (K := K) rfl rfl rfl) (by rfl) T.m_set bt_set (pa_cons (pv 5) pa_nil)) pa_nil))))))))
      (pss_one (ps_ret (pe_callTy (call_tupK (K := K) rfl) (by rfl) T.m_tuple bt_tuple (pa_cons (pv 2) pa_nil))))))), ?_⟩
  have pos := okW.pos
  refine q_draws (K := K) (kx := 3) rfl rfl (by decide) hT hw okW (by omega) fun l0 s0 H1 ne0 lt0 len0 ns0 kb1 tp1 hs1 => ?_
  refine q_setN (K := K) (ds := []) (evn_lst evds_nil (by decide)) fun f0 xs H2 nf e2 hf df => ?_
  cases df
  refine q_while (fun m σ' H' => ∃ so fo ls lf x5 x6 x7, σ' = [some (.ref t), some vw, some (.ref so), none, some (.ref fo), x5, x6, x7] ∧ KeepBut t H H' ∧ TpAt H' t c (b + 4) ∧ H' so = some (.lst (nV ls)) ∧ H' fo = some (.lst (nV lf)) ∧ ls ≠ [] ∧ (∀ k ∈ ls, k < W.n) ∧ ls.length ≤ 9 ∧ lf.length ≤ 9 ∧
      ((lf = [] ∧ m = 2 * W.n + 10) ∨ (ls.Pairwise (· < ·) ∧ (∀ k, k ∈ ls ↔ k ∈ moreL W lf) ∧ m = 2 * (W.n + 1 - ls.length) + (if lf = ls then 0 else 1)))) (2 * W.n + 10)
    ⟨s0, f0, l0, [], none, none, none, rfl, kb1.trans (KeepBut.ex e2), tp1.mono e2, e2 _ _ hs1, hf, ne0, lt0, by omega, by decide, .inl ⟨rfl, rfl⟩⟩ fun m σ' H' hw' => ?_
  obtain ⟨so, fo, ls, lf, x5, x6, x7, rfl, kb, tp, hso, hfo, ne, lt, len, lenf, hcase⟩ := hw'
  have ec : Ev (tOp (rNeD K) (tVar 4) (tVar 2)) [some (.ref t), some vw, some (.ref so), none, some (.ref fo), x5, x6, x7] H' (.bl (!decide (lf = ls))) := by
    have q := ev_neD (K := K) (σ := [some (.ref t), some vw, some (.ref so), none, some (.ref fo), x5, x6, x7]) (evd_var (i := 4) rfl (dp_locD hfo (nV_dp lf))) (evd_var (i := 2) rfl (dp_locD hso (nV_dp ls))) ((shp_lst (shp_map shp_n lf)).sh (by decide)) ((shp_lst (shp_map shp_n ls)).sh (by decide))
    rw [eqv_ints] at q
    exact q
  refine ⟨!decide (lf = ls), et_test ec, fun hb' H3 e3 => ?_, fun hb' H3 e3 => ?_⟩
  · have hne : lf ≠ ls := fun z => by rw [decide_eq_true z] at hb'; cases hb'
    have n9 : W.n ≤ 9 := hn9
    have hso3 := e3 _ _ hso
    have tp3 := tp.mono e3
    have kb3 := kb.trans (KeepBut.ex e3)
    refine ⟨fun σ2 H2 => ∃ m', m' < m ∧ ∃ so fo ls lf x5 x6 x7, σ2 = [some (.ref t), some vw, some (.ref so), none, some (.ref fo), x5, x6, x7] ∧ KeepBut t H H2 ∧ TpAt H2 t c (b + 4) ∧ H2 so = some (.lst (nV ls)) ∧ H2 fo = some (.lst (nV lf)) ∧ ls ≠ [] ∧ (∀ k ∈ ls, k < W.n) ∧ ls.length ≤ 9 ∧ lf.length ≤ 9 ∧
      ((lf = [] ∧ m' = 2 * W.n + 10) ∨ (ls.Pairwise (· < ·) ∧ (∀ k, k ∈ ls ↔ k ∈ moreL W lf) ∧ m' = 2 * (W.n + 1 - ls.length) + (if lf = ls then 0 else 1))), fun σ2 H2 q => q, ?_⟩
    refine q_lst (K := K) rfl hso3 fun f2 nf2 => ?_
    have e4 := Ex.new (o := .lst (nV ls)) nf2
    refine q_lst (K := K) rfl (e4 _ _ hso3) fun m2 nm2 => ?_
    have e5 := Ex.new (o := .lst (nV ls)) nm2
    have hs5 := e5 _ _ (e4 _ _ hso3)
    have hf5 := e5 f2 _ upd_same
    have dls : ∀ {H'} (e : Ex (upd (upd H3 f2 (.lst (nV ls))) m2 (.lst (nV ls))) H'), Dp K H' (.ref so) (.list (ls.map nD)) := fun e => dp_locD (e _ _ hs5) (nV_dp ls)
    have tk5 := hT.tk ((kb3.trans (KeepBut.ex e4))) (tp3.mono e4)
    have hw5 : Dp K (upd H3 f2 (.lst (nV ls))) vw (webD W) := Dpt hw tk5 (fz_web W)
    have hs4 := e4 _ _ hso3
    have sm : so ≠ m2 := fun z => by rw [z, nm2] at hs4; cases hs4
    have fm : f2 ≠ m2 := fun z => by rw [← z, upd_same] at nm2; cases nm2
    have blen : ∀ u v, (betweenL W u v).length ≤ 9 := fun u v => Nat.le_trans (between_len W u v) n9
    have ilen : ∀ u j, ((ls.take j).flatMap (betweenL W u)).length ≤ 81 := fun u j => by
      have := flat_len (f := betweenL W u) (k := 9) (l := ls.take j) fun x _ => blen u x
      rw [List.length_take] at this
      have : min j ls.length * 9 ≤ 9 * 9 := Nat.mul_le_mul_right 9 (by omega)
      omega
    have olen : ∀ i, ((ls.take i).flatMap fun u => ls.flatMap fun v => betweenL W u v).length ≤ 729 := fun i => by
      have := flat_len (f := fun u => ls.flatMap fun v => betweenL W u v) (k := 81) (l := ls.take i) fun u _ => by
        have := ilen u ls.length
        rw [List.take_length] at this
        exact this
      rw [List.length_take] at this
      have : min i ls.length * 81 ≤ 9 * 81 := Nat.mul_le_mul_right 81 (by omega)
      omega
    refine dq_for (K := K) (G := upd H3 f2 (.lst (nV ls))) (evi_varL rfl (dp_locD hs4 (nV_dp ls))) e5 (fun i σ' H' => ∃ x6 x7, σ' = [some (.ref t), some vw, some (.ref so), none, some (.ref f2), some (.ref m2), x6, x7] ∧ Ex (upd H3 f2 (.lst (nV ls))) H' ∧ H' m2 = some (.lst (nV (ls ++ (ls.take i).flatMap fun u => ls.flatMap fun v => betweenL W u v))))
      (fun H6 e6 => ⟨x6, x7, rfl, e5.trans e6, by rw [List.take_zero, List.flatMap_nil, List.append_nil]; exact e6 _ _ upd_same⟩) (fun i σ' H' q => by obtain ⟨_, _, _, e, _⟩ := q; exact e) (fun i d x σ' H6 H7 hi q e7 dx => ?_) fun σ' H' q => ?_
    · obtain ⟨y6, y7, rfl, e6, hm6⟩ := q
      rw [List.getElem?_map] at hi
      obtain ⟨u, hu, rfl⟩ := Option.map_eq_some_iff.mp hi
      have hun := lt u (List.mem_of_getElem? hu)
      have ex := dp_n dx
      subst ex
      refine d_for (K := K) (G := upd H3 f2 (.lst (nV ls))) (evi_varL rfl (dp_locD hs4 (nV_dp ls))) (e6.trans e7) (fun j σ' H' => ∃ x7, σ' = [some (.ref t), some vw, some (.ref so), none, some (.ref f2), some (.ref m2), some (.int (u : Int)), x7] ∧ Ex (upd H3 f2 (.lst (nV ls))) H' ∧ H' m2 = some (.lst (nV ((ls ++ (ls.take i).flatMap fun u => ls.flatMap fun v => betweenL W u v) ++ (ls.take j).flatMap (betweenL W u)))))
        (fun H8 e8 => ⟨_, rfl, (e6.trans e7).trans e8, by rw [List.take_zero, List.flatMap_nil, List.append_nil]; exact e8 _ _ (e7 _ _ hm6)⟩) (fun j σ' H' q => by obtain ⟨_, _, e, _⟩ := q; exact e) (fun j d x σ' H8 H9 hj q e9 dx9 => ?_) fun σ' H' q => ?_
      · obtain ⟨z7, rfl, e8, hm8⟩ := q
        rw [List.getElem?_map] at hj
        obtain ⟨v, hv, rfl⟩ := Option.map_eq_some_iff.mp hj
        have hvn := lt v (List.mem_of_getElem? hv)
        have ex := dp_n dx9
        subst ex
        refine ⟨_, rfl, .inl ⟨rfl, _, .inl (.inl (e9 _ _ hm8))⟩, ?_⟩
        refine (evd_call (K := K) (evds_cons (evd_var rfl (Dpx hw5 (e8.trans e9))) (evds_cons (evd_var rfl (.int _)) (evds_cons (evd_var rfl (.int _)) evds_nil))) ⟨W, u, v, okW, hun, hvn, rfl, rfl⟩) H9 (Ex.refl _) _ fun vb H10 e10 d10 => ?_
        obtain ⟨p, zs, rfl, hz, dz⟩ := dp_tup d10
        have ezs := nV_of dz
        subst ezs
        have l1 := olen i
        have l2 := ilen u j
        have l3 := blen u v
        refine ⟨m2, p, _, nV (betweenL W u v), rfl, rfl, e10 _ _ (e9 _ _ hm8), hz, sz_of (by unfold nV; rw [List.length_map, List.length_map, List.length_append, List.length_append]; omega), _, rfl, Ex.mut ((e8.trans e9).trans e10) nm2, ?_⟩
        rw [upd_same, List.take_add_one, hv, Option.toList_some, List.flatMap_append, List.flatMap_singleton, ← List.append_assoc]
        unfold nV
        rw [List.map_append (l₁ := (ls ++ (ls.take i).flatMap fun u => ls.flatMap fun v => betweenL W u v) ++ (ls.take j).flatMap (betweenL W u))]
      · obtain ⟨z7, rfl, e8, hm8⟩ := q
        rw [List.length_map, List.take_length] at hm8
        refine ⟨_, _, rfl, e8, ?_⟩
        rw [hm8, List.take_add_one, hu, Option.toList_some, List.flatMap_append, List.flatMap_singleton, ← List.append_assoc]
    · obtain ⟨y6, y7, rfl, e6, hm6⟩ := q
      rw [List.length_map, List.take_length] at hm6
      have hlt : ∀ k ∈ (moreL W ls).map (fun n : Nat => (n : Int)), 0 ≤ k ∧ k < W.n := fun k hk => by
        obtain ⟨x, hx, rfl⟩ := List.mem_map.mp hk
        have := more_lt lt x hx
        omega
      have hl4 : ((moreL W ls).map (fun n : Nat => (n : Int))).length < 4000 := by
        have := olen ls.length
        rw [List.take_length] at this
        rw [List.length_map]
        unfold moreL
        rw [List.length_append]
        omega
      refine ⟨_, rfl, m2, (moreL W ls).map (fun n : Nat => (n : Int)), rfl, sq_of (by rw [hm6, List.map_map]; rfl), hl4, fun p cc np hcc => ⟨p, _, cc, rfl, upd_same, by have := hcc W.n hlt; omega, fun ns q asc hmem hlen nq => ?_⟩⟩
      have hb2 : ∀ k ∈ ns, 0 ≤ k ∧ k < W.n := fun k hk => hlt k (by simpa using (hmem k).mp hk)
      obtain ⟨en, asc2, mem2⟩ := ints_nat asc hb2
      have mem3 : ∀ k : Nat, k ∈ ns.map Int.toNat ↔ k ∈ moreL W ls := fun k => by
        rw [mem2 k, hmem (k : Int), decide_eq_true_eq, List.mem_map]
        exact ⟨fun ⟨x, hx, e⟩ => by
          have : x = k := by omega
          rw [← this]; exact hx, fun h => ⟨k, h, rfl⟩⟩
      have e7 := (Ex.new (o := SetO _ p (fun j => decide (j ∈ (moreL W ls).map (fun n : Nat => (n : Int)))) cc) np).trans (Ex.new (o := .lst (ns.map V.int)) nq)
      have sub : ∀ k ∈ ls, k ∈ ns.map Int.toNat := fun k hk => (mem3 k).mpr (List.mem_append.mpr (.inl hk))
      have lt2 : ∀ k ∈ ns.map Int.toNat, k < W.n := fun k hk => more_lt lt k ((mem3 k).mp hk)
      have len2 := asc_few asc2 lt2
      have ne2 : ns.map Int.toNat ≠ [] := fun z => by
        obtain ⟨x, xs, e⟩ := List.exists_cons_of_ne_nil ne
        have := sub x (by rw [e]; simp)
        rw [z] at this
        cases this
      refine ⟨2 * (W.n + 1 - (ns.map Int.toNat).length) + (if ls = ns.map Int.toNat then 0 else 1), ?_, q, f2, ns.map Int.toNat, ls, _, _, _, rfl, kb3.trans (KeepBut.ex (e4.trans (e6.trans e7))), (tp3.mono e4).mono (e6.trans e7), by rw [← en]; exact upd_same, (e6.trans e7) _ _ upd_same, ne2, lt2, by omega, len, .inr ⟨asc2, mem3, rfl⟩⟩
      rcases hcase with ⟨_, rfl⟩ | ⟨asc1, _, rfl⟩
      · split <;> omega
      · rw [if_neg hne]
        rcases asc_grow asc1 asc2 sub with g | g
        · rw [if_pos g, ← g]
          omega
        · split <;> omega
  · have e : lf = ls := by simpa using hb'
    subst e
    have pk : PartOk W lf := by
      rcases hcase with ⟨h, _⟩ | ⟨asc, hm, _⟩
      · exact absurd h ne
      · exact part_of ne asc lt hm
    exact d_ret (K := K) (d := placesD lf) (evd_tupL (evd_var rfl (dp_locD (e3 _ _ hso) (nV_dp lf)))) fun v H4 e4 d4 => k lf v H4 pk (kb.trans (KeepBut.ex (e3.trans e4))) ((tp.mono e3).mono e4) d4
end
end Lw
namespace Lw
open PySem PySem.Spec PyProof.Rows L2 Evl LwM SX
theorem s_checkB : (Str.ofString "check ") = S (cCheck ++ [32]) := by decide +kernel
theorem s_labelB : (Str.ofString "label ") = S (cLabel ++ [32]) := by decide +kernel
section
variable {K : Fg} {σ : Ks} {H : Hp} {ta : TE} {i : Nat} {d : Addr} {W : Web} {L M : List Lab}
theorem lk_say {kp : Addr} : List.lookup ("say" : Str) [(("desk_keeper" : Str), V.ref kp)] = none := rfl
theorem ev_sayCheck (hs : σ[i]? = some (some (.ref d))) (hD : DkAt K H d W L) (okW : WebOk W) (ok : LabelsOk W.n M) (ha : EvD K ta σ H (strD (cCheck ++ ([32] ++ rowL (labLs M))))) : Ev (tMeth (He.ga K "Desk") "say" (spSay K) [] E0 (tVar i) (tCons ta tNil)) σ H (.str (wordR (wordL W M))) := fun H1 e Q q => by
  obtain ⟨dx, kp, h1, _⟩ := id hD
  exact ⟨_, hs, d, dx, _, rfl, e _ _ h1, lk_say, ha H1 e _ fun v H2 e2 d2 => by
    rw [dp_S d2]
    exact ⟨d, W, L, _, rfl, hD.mono (e.trans e2), okW, .inl ⟨M, rfl, ok, fun H3 e3 => q H3 (e2.trans e3)⟩⟩⟩
theorem ev_sayWeb (hs : σ[i]? = some (some (.ref d))) (hD : DkAt K H d W L) (okW : WebOk W) (ha : EvD K ta σ H (strD cWeb)) : EvD K (tMeth (He.ga K "Desk") "say" (spSay K) [] E0 (tVar i) (tCons ta tNil)) σ H (strD (rowL (webLs W))) := fun H1 e Q q => by
  obtain ⟨dx, kp, h1, _⟩ := id hD
  exact ⟨_, hs, d, dx, _, rfl, e _ _ h1, lk_say, ha H1 e _ fun v H2 e2 d2 => by
    rw [dp_S d2]
    exact ⟨d, W, L, _, rfl, hD.mono (e.trans e2), okW, .inr (.inr (.inl ⟨rfl, fun H3 e3 => q _ H3 (e2.trans e3) (.str _)⟩))⟩⟩
theorem ev_sayLabel {j : Nat} {l : Lab} (hs : σ[i]? = some (some (.ref d))) (hD : DkAt K H d W L) (okW : WebOk W) (hj : j < W.n) (hl : L[j]? = some l) (sm : ∀ e ∈ l, EntSm e) (fw : l.length ≤ 24) (ha : EvD K ta σ H (strD (lineL [cLabel, TL.numL j]))) : EvD K (tMeth (He.ga K "Desk") "say" (spSay K) [] E0 (tVar i) (tCons ta tNil)) σ H (strD (lineL (labWs l))) := fun H1 e Q q => by
  obtain ⟨dx, kp, h1, _⟩ := id hD
  exact ⟨_, hs, d, dx, _, rfl, e _ _ h1, lk_say, ha H1 e _ fun v H2 e2 d2 => by
    rw [dp_S d2]
    exact ⟨d, W, L, _, rfl, hD.mono (e.trans e2), okW, .inr (.inr (.inr ⟨j, l, rfl, hj, hl, sm, fw, fun H3 e3 => q _ H3 (e2.trans e3) (.str _)⟩))⟩⟩
end
section
variable {P : Program} {w : World} {K : Fg} {mg : Str → Option Value} {base : Heap}
def spDeskR (K : Fg) : Sp := fun vs H Q _ => ∃ (d : Addr) (W : Web) (ord : List Nat) (M : List Lab) (vw vl vo : V), vs = [.ref d, vw, vl, vo] ∧ DkAt K H d W (labelsBy W ord) ∧ WebOk W ∧ OrdOk W ord ∧ LabelsOk W.n M ∧ Dp K H vw (webD W) ∧ Dp K H vl (labelsD (labelsBy W ord)) ∧ Dp K H vo (labelsD M) ∧ ∀ H', Ex H H' → Q (.bl true) H'
theorem sc_law_desk_right : FnScope ["_law_desk", "_law_web_here", "_law_labels", "_law_others", "_law_lines", "_law_place"] ["_law_desk", "_law_web_here", "_law_labels", "_law_others"] (defScope (top 97)) := ⟨rfl, rfl, rfl, by decide +kernel, rfl, by decide +kernel, by decide +kernel⟩
theorem cal_law_desk_right (T : Txt w K mg) : CalD P w K mg base 9 "_law_desk_right" (spDeskR K) := by
  refine cal_sp T.f_law_desk_right T.g_law_desk_right sc_law_desk_right (fun _ _ _ _ _ _ us hl => match us, hl with | [_, _, _, _], _ => rfl) (fun vs H Q E h => by obtain ⟨_, _, _, _, _, _, _, rfl, _⟩ := h; rfl) fun cdv A outer s H vs Q E hr h => ?_
  obtain ⟨d, W, ord, M, vw, vl, vo, rfl, hD, okW, okO, okM, hw, hl, ho, k⟩ := h
  refine ⟨_, (pss_cons (ps_set (i := 4) sc_law_desk_right.nd rfl (Or.inl rfl) (pe_cal (cal_label_lines (K := K) T) hr (by decide) (by rfl) (pa_cons (pv 2) pa_nil)))
      (pss_cons (ps_if (PW.pt (pw_or (pt_cmpR op_ne (C8.pe_mt (met_say (K := K) T) hr (by decide) (pv 0) (pa_cons (pe_op op_addS pe_str (pe_join pe_str (pv 4))) pa_nil)) pe_str (nomark _)) (pw_or1 (pt_cmpR op_ne (C8.pe_mt (met_say (K := K) T) hr (by decide) (pv 0) (pa_cons pe_str pa_nil)) (pe_join pe_str (pe_cal (cal_web_lines (K := K) T) hr (by decide) (by rfl) (pa_cons (pv 1) pa_nil))) (nomark _))))) (pss_one (ps_ret pe_bl)) pss_nil)
      (pss_cons (ps_for PassesOwn.never rfl (pi_range1 rfl T.m_range (pa_cons (pe_ix (ix_tupK (K := K) rfl) (pv 1) pe_int (fun _ _ => rfl)) pa_nil)) (pg_name (i := 5) sc_law_desk_right.nd rfl (Or.inl rfl)) (pss_one (ps_if (pt_cmpR op_ne (C8.pe_mt (met_say (K := K) T) hr (by decide) (pv 0) (pa_cons (pe_op op_addS pe_str (pe_callTy call_strI (by rfl) T.m_str bt_str (pa_cons (pv 5) pa_nil))) pa_nil)) (pe_ix (ix_listK (K := K) rfl) (pv 4) (pv 5) (fun _ _ => rfl)) (nomark _)) (pss_one (ps_ret pe_bl)) pss_nil)))
      (pss_one (ps_ret (pe_cmpR op_eq (C8.pe_mt (met_say (K := K) T) hr (by decide) (pv 0) (pa_cons (pe_op op_addS pe_str (pe_join pe_str (pe_cal (cal_label_lines (K := K) T) hr (by decide) (by rfl) (pa_cons (pv 3) pa_nil)))) pa_nil)) (pe_cal (cal_law_word (K := K) T) hr (by decide) (by rfl) (pa_cons (pv 1) (pa_cons (pv 3) pa_nil))) (nomark _))))))), ?_⟩
  have most := okW.most
  have okL : LabelsOk W.n (labelsBy W ord) := labels_ok okW okO
  have lenL := okL.len
  have lenM := okM.len
  have goL := labs_go okL most
  have goM := labs_go okM most
  have rowLen : ∀ {N : List Lab}, N.length = W.n → (∀ l ∈ N, LabGo N.length l ∧ (∀ e ∈ l, EntSm e) ∧ l.length ≤ 24) → (∀ p ∈ labLs N, p.length ≤ 600) ∧ (labLs N).length = W.n := fun hN go => ⟨fun p hp => by
      unfold labLs at hp
      obtain ⟨l, hl, rfl⟩ := List.mem_map.mp hp
      exact labL_len (go l hl).2.1 (go l hl).2.2, by unfold labLs; rw [List.length_map]; exact hN⟩
  obtain ⟨r1, r2⟩ := rowLen lenL goL
  obtain ⟨m1, m2⟩ := rowLen lenM goM
  refine d_set (evd_call (K := K) (evds_cons (evd_var rfl hl) evds_nil) ⟨labelsBy W ord, fun l hl => (goL l hl).2, by omega, rfl, rfl⟩) fun vn H1 e1 dn => ?_
  have said : ∀ {H' : Hp} {σ : Ks} {N : List Lab} {tb : TE}, (∀ p ∈ labLs N, p.length ≤ 600) → (labLs N).length = W.n → EvD K tb σ H' (.list ((labLs N).map strD)) → EvD K (tOp rAddS (tC (.str "check ")) (tM1 (rJoinK K) (tC (.str "; ")) tb)) σ H' (strD (cCheck ++ ([32] ++ rowL (labLs N)))) := fun {H' σ N tb} h1 h2 hb => by
    have q := evd_addS (K := K) (σ := σ) (H := H') (a := cCheck ++ [32]) (b := rowL (labLs N)) (evd_cS s_checkB) (evd_joinL (sep := [59, 32]) (ws := labLs N) (k := 600) (evd_cS s_semi) hb h1 (by rw [h2]; show _ * 600 + _ * 2 ≤ 100000; omega)) (by
      have := rowL_len h1 (by omega)
      show 6 + _ ≤ 100000
      omega)
    rw [List.append_assoc] at q
    exact q
  refine d_when (b := false || false) (et_or (a := false) (et_test ?_) fun _ => et_test ?_) (fun z => by cases z) fun _ H2 e2 => ?_
  · have q := ev_neS (ev_sayCheck (K := K) (σ := [some (.ref d), some vw, some vl, some vo, some vn, none]) (i := 0) rfl (hD.mono e1) okW okL (said r1 r2 (evd_var (i := 4) rfl dn))) (ev_c (v := .str "ok"))
    rw [word_good okW okO] at q
    exact q
  · have q := ev_neT (ev_sayWeb (K := K) (σ := [some (.ref d), some vw, some vl, some vo, some vn, none]) (i := 0) (ta := tC (.str "web")) rfl (hD.mono e1) okW (evd_cS s_web)) (evd_joinL (K := K) (sep := [59, 32]) (ws := webLs W) (k := 20) (te := tCall (PureSp K rWebLines) [] E0 (tCons (tVar 1) tNil)) (evd_cS s_semi) (evd_call (evds_cons (evd_var rfl (Dpx hw e1)) evds_nil) ⟨W, okW, rfl, rfl⟩) (tieLs_len okW) (by rw [webLs_len]; have := okW.few; show _ * 20 + _ * 2 ≤ 100000; omega))
    rw [decide_eq_true (show rowL (webLs W) = TL.joinL [59, 32] (webLs W) from rfl)] at q
    exact q
  have e12 := e1.trans e2
  refine dq_for (K := K) (G := H2) (evi_range (n := W.n) (ev_n (K := K) (evd_i0 (evd_var rfl (Dpx hw e12)))) (by omega)) (Ex.refl _) (fun i σ' H' => ∃ x5, σ' = [some (.ref d), some vw, some vl, some vo, some vn, x5] ∧ Ex H2 H')
    (fun H3 e3 => ⟨none, rfl, e3⟩) (fun i σ' H' q => by obtain ⟨_, _, e⟩ := q; exact e) (fun i dd x σ' H3 H4 hi q e4 dx => ?_) fun σ' H' q => ?_
  · obtain ⟨x5, rfl, e3⟩ := q
    have hin : i < W.n := by
      have := (List.getElem?_eq_some_iff.mp hi).1
      rwa [upto_len] at this
    rw [upto_at hin] at hi
    cases hi
    have ex := dp_n (n := i) dx
    subst ex
    obtain ⟨l, hl'⟩ : ∃ l, (labelsBy W ord)[i]? = some l := ⟨_, List.getElem?_eq_getElem (by omega)⟩
    have hm := List.mem_of_getElem? hl'
    have e14 := e12.trans (e3.trans e4)
    have ea := evd_addS (K := K) (σ := [some (.ref d), some vw, some vl, some vo, some vn, some (.int (i : Int))]) (H := H4) (a := cLabel ++ [32]) (b := TL.numL i) (evd_cS s_labelB) (evd_strI (evd_var (i := 5) rfl (.int _)) (by omega)) (by have := num_len (n := i) (by omega); show 6 + _ ≤ 100000; omega)
    have ep : (cLabel ++ [32]) ++ TL.numL i = lineL [cLabel, TL.numL i] := by
      rw [line_cons _ (by simp), List.append_assoc]
      rfl
    rw [ep] at ea
    have q := ev_neT (ev_sayLabel (K := K) (i := 0) rfl (hD.mono e14) okW hin hl' (goL l hm).2.1 (goL l hm).2.2 ea) (evd_atL (K := K) (f := strD) (l := labLs (labelsBy W ord)) (i := i) (a := lineL (labWs l)) (evd_var (i := 4) rfl (Dpx dn (e2.trans (e3.trans e4)))) (evd_var (i := 5) rfl (.int _)) (by unfold labLs; rw [List.getElem?_map, hl']; rfl))
    rw [decide_eq_true rfl] at q
    exact d_if1 (et_test q) (fun z => by cases z) fun _ H5 e5 => ⟨_, rfl, (e3.trans e4).trans e5⟩
  · obtain ⟨x5, rfl, e3⟩ := q
    have e13 := e12.trans e3
    have qa : EvD K (tCall (PureSp K rLabLines) [] E0 (tCons (tVar 3) tNil)) [some (.ref d), some vw, some vl, some vo, some vn, x5] H' (.list ((labLs M).map strD)) := evd_call (rel := rLabLines) (ds := [labelsD M]) (evds_cons (evd_var (i := 3) rfl (Dpx ho e13)) evds_nil) ⟨M, fun l hl => (goM l hl).2, by omega, rfl, rfl⟩
    have qb : EvD K (tCall (PureSp K rWord) [] E0 (tCons (tVar 1) (tCons (tVar 3) tNil))) [some (.ref d), some vw, some vl, some vo, some vn, x5] H' (.str (wordR (wordL W M))) := evd_call (rel := rWord) (ds := [webD W, labelsD M]) (evds_cons (evd_var (i := 1) rfl (Dpx hw e13)) (evds_cons (evd_var (i := 3) rfl (Dpx ho e13)) evds_nil)) ⟨W, M, okW, okM, rfl, rfl⟩
    have q := ev_eqS (ev_sayCheck (K := K) (σ := [some (.ref d), some vw, some vl, some vo, some vn, x5]) (i := 0) rfl (hD.mono e13) okW okM (said m1 m2 qa)) (ev_str qb)
    rw [decide_eq_true rfl] at q
    exact q H' (Ex.refl _) _ fun H5 e5 => k H5 (e13.trans e5)
end
end Lw
namespace Lw
open PySem PySem.Spec PyProof.Rows L2 Evl LwM SX
theorem passE0 {X : Cx} : Passes (L2.CX X.prog X.w) X E0 := fun _ _ _ _ _ _ _ h => by
  obtain ⟨_, _, _, _, _, _, _, _, _, _, _, _, z⟩ := h
  exact False.elim z
theorem told_part {W : Web} {ps ord : List Nat} (ok : WebOk W) (pk : PartOk W ps) (oo : OrdOk W ord) {i j p q : Nat} (hi : ps[i]? = some p) (hj : ps[j]? = some q) :
    toldL (labAt (labelsBy (partWeb W ps) (partOrd ord ps)) i) (labAt (labelsBy (partWeb W ps) (partOrd ord ps)) j) = toldL (labAt (labelsBy W ord) p) (labAt (labelsBy W ord) q) := by
  have hp := List.mem_of_getElem? hi
  have hq := List.mem_of_getElem? hj
  have li : i < (partWeb W ps).n := (List.getElem?_eq_some_iff.mp hi).1
  have lj : j < (partWeb W ps).n := (List.getElem?_eq_some_iff.mp hj).1
  have ei := ix_at pk.asc hi
  have ej := ix_at pk.asc hj
  rw [labAt_by li, labAt_by lj, labAt_by (pk.lt p hp), labAt_by (pk.lt q hq), told_by (part_ok ok pk) (part_oo ok pk oo) li lj, told_by ok oo (pk.lt p hp) (pk.lt q hq), ← part_D ok pk hp hq, ei, ej]
section
variable {K : Fg} {σ : Ks} {H : Hp} {ta tb : TE} {tr : TA}
theorem ev_notB {a b : Bool} (ha : Ev ta σ H (.bl a)) (hb : Ev tb σ H (.bl b)) : Ev (tOp rNotB ta tb) σ H (.bl (!decide (a = b))) := fun H1 e Q q => ha H1 e _ fun H2 e2 => hb H2 (e.trans e2) _ fun H3 e3 => ⟨a, b, rfl, rfl, q H3 (e2.trans e3)⟩
theorem ev_neO {a b : Option Nat} (ha : EvD K ta σ H (optD a)) (hb : EvD K tb σ H (optD b)) : Ev (tOp rNe ta tb) σ H (.bl (!decide (a = b))) := by
  rw [← optV_eq]
  exact ev_op (ev_opt ha) (ev_opt hb) (rv_ne (scal_opt a b))
theorem ev_lets {W : Web} {L : List Lab} (okW : WebOk W) (ok : LabelsOk W.n L) (hn : wordL W L = none) (h : EvDs K tr σ H [webD W, labelsD L]) : Ev (tCall (spLets K) [] E0 tr) σ H (.bl true) := fun H1 e Q q => h H1 e _ fun vs H2 e2 d2 => by
  refine ⟨W, L, okW, ok, by rw [List.append_nil]; exact d2, fun _ v H3 e3 d3 => ?_, fun wd hw => by rw [hn] at hw; cases hw⟩
  rw [dp_bool d3]
  exact q H3 (e2.trans e3)
end
section
variable {P : Program} {w : World} {K : Fg} {mg : Str → Option Value} {base : Heap}
def spPartR (K : Fg) : Sp := fun vs H Q _ => ∃ (t c b : Nat) (vw vo vl : V) (W : Web) (ord : List Nat), vs = [.ref t, vw, vo, vl] ∧ TpAt H t c b ∧ b < 800000000 ∧ WebOk W ∧ W.n ≤ 9 ∧ OrdOk W ord ∧ Dp K H vw (webD W) ∧ Dp K H vo (placesD ord) ∧ Dp K H vl (labelsD (labelsBy W ord)) ∧
  ∀ H', KeepBut t H H' → TpAt H' t c (b + 4) → Q (.bl true) H'
theorem sc_law_part_right : FnScope ["_law_tape_here", "_law_web_here", "_law_order_here", "_law_labels", "_law_places", "_law_small", "_law_mine", "_law_cut", "_law_one", "_law_other"] ["_law_tape_here", "_law_web_here", "_law_order_here", "_law_labels"] (defScope (top 95)) := ⟨rfl, rfl, rfl, by decide +kernel, rfl, by decide +kernel, by decide +kernel⟩
theorem calg_law_part_right (T : Txt w K mg) : CalG P w K mg base 6 "_law_part_right" (spPartR K) := by
  refine calg_sp T.f_law_part_right T.g_law_part_right sc_law_part_right (fun _ _ _ _ _ _ us hl => match us, hl with | [_, _, _, _], _ => rfl) (fun vs H Q E h => by obtain ⟨_, _, _, _, _, _, _, _, rfl, _⟩ := h; rfl) fun cdv A outer s H vs Q E hg hr h => ?_
  obtain ⟨t, c, b, vw, vo, vl, W, ord, rfl, hT, hb, okW, hn9, oo, hw0, ho0, hl0, k⟩ := h
  refine ⟨_, (pss_cons (ps_set (i := 4) sc_law_part_right.nd rfl (Or.inl rfl) (pe_cal (cal_law_part (K := K) T) hr (by decide) (by rfl) (pa_cons (pv 0) (pa_cons (pv 1) pa_nil))))
      (pss_cons (ps_if (pt_cmpR op_notBl (pe_cal (cal_is_part (K := K) T) hr (by decide) (by rfl) (pa_cons (pv 1) (pa_cons (pv 4) pa_nil))) pe_bl (nomark _)) (pss_one (ps_ret pe_bl)) pss_nil)
      (pss_cons (ps_set (i := 5) sc_law_part_right.nd rfl (Or.inl rfl) (pe_cal (cal_part_web (K := K) T) hr (by decide) (by rfl) (pa_cons (pv 1) (pa_cons (pv 4) pa_nil))))
      (pss_cons (ps_set (i := 6) sc_law_part_right.nd rfl (Or.inl rfl) (pe_cal (cal_part_order (K := K) T) hr (by decide) (by rfl) (pa_cons (pv 2) (pa_cons (pv 4) pa_nil))))
      (pss_cons (ps_set (i := 7) sc_law_part_right.nd rfl (Or.inl rfl) (pe_cal (cal_cut_down (K := K) T) hr (by decide) (by rfl) (pa_cons (pv 3) (pa_cons (pv 4) pa_nil))))
      (pss_cons (ps_if (PW.pt (pw_or (pt_cmpR op_ne (pe_callB (cr_repr (K := K) rfl hg hr.units) (by rfl) T.m_repr bt_repr (pa_cons (pe_cal (cal_by_order (K := K) T) hr (by decide) (by rfl) (pa_cons (pv 5) (pa_cons (pv 6) pa_nil))) pa_nil)) (pe_callB (cr_repr (K := K) rfl hg hr.units) (by rfl) T.m_repr bt_repr (pa_cons (pv 7) pa_nil)) (nomark _)) (pw_or1 (pt_cmpR op_notBl (pe_calX (calx_lets_labels (K := K) T) hr (by decide) (by rfl) (passE0) (pa_cons (pv 5) (pa_cons (pv 7) pa_nil))) pe_bl (nomark _))))) (pss_one (ps_ret pe_bl)) pss_nil)
      (pss_cons (ps_for PassesOwn.never rfl (pi_range1 rfl T.m_range (pa_cons (pe_callB (call_lenK (K := K) rfl) (by rfl) T.m_len bt_len (pa_cons (pv 4) pa_nil)) pa_nil)) (pg_name (i := 8) sc_law_part_right.nd rfl (Or.inl rfl)) (pss_one (ps_for PassesOwn.never rfl (pi_range1 rfl T.m_range (pa_cons (pe_callB (call_lenK (K := K) rfl) (by rfl) T.m_len bt_len (pa_cons (pv 4) pa_nil)) pa_nil)) (pg_name (i := 9) sc_law_part_right.nd rfl (Or.inl rfl)) (pss_one (ps_if (pt_cmpR op_ne (pe_cal (cal_told (K := K) T) hr (by decide) (by rfl) (pa_cons (pe_ix (ix_tupK (K := K) rfl) (pv 7) (pv 8) (fun _ _ => rfl)) (pa_cons (pe_ix (ix_tupK (K := K) rfl) (pv 7) (pv 9) (fun _ _ => rfl)) pa_nil))) (pe_cal (cal_told (K := K) T) hr (by decide) (by rfl) (pa_cons (pe_ix (ix_tupK (K := K) rfl) (pv 3) (pe_ix (ix_tupK (K := K) rfl) (pv 4) (pv 8) (fun _ _ => rfl)) (fun _ _ => rfl)) (pa_cons (pe_ix (ix_tupK (K := K) rfl) (pv 3) (pe_ix (ix_tupK (K := K) rfl) (pv 4) (pv 9) (fun _ _ => rfl)) (fun _ _ => rfl)) pa_nil))) (nomark _)) (pss_one (ps_ret pe_bl)) pss_nil)))))
      (pss_one (ps_ret pe_bl))))))))), ?_⟩
  refine ⟨_, rfl, _, rfl, t, c, b, vw, W, rfl, hT, hb, okW, hn9, hw0, fun ps vp H1 pk kb1 tp1 hp => ?_⟩
  have tk1 := hT.tk kb1 tp1
  have hw := Dpt hw0 tk1 (fz_web W)
  have ho := Dpt ho0 tk1 (fz_places ord)
  have hl := Dpt hl0 tk1 (fz_labels _)
  have most := okW.most
  have okL : LabelsOk W.n (labelsBy W ord) := labels_ok okW oo
  have goL := labs_go okL most
  have lenL := okL.len
  have pl := part_len okW pk
  have ol := ord_len oo
  have okP : WebOk (partWeb W ps) := part_ok okW pk
  have ooP : OrdOk (partWeb W ps) (partOrd ord ps) := part_oo okW pk oo
  have okC : LabelsOk (partWeb W ps).n (labelsBy (partWeb W ps) (partOrd ord ps)) := labels_ok okP ooP
  have lenC := okC.len
  have lenP : (partWeb W ps).n = ps.length := rfl
  have goC := labs_go okC okP.most
  have atL : ∀ {p : Nat}, p < W.n → (labelsBy W ord)[p]? = some (labAt (labelsBy W ord) p) := fun {p} h => labAt_get (by omega)
  have atC : ∀ {p : Nat}, p < ps.length → (labelsBy (partWeb W ps) (partOrd ord ps))[p]? = some (labAt (labelsBy (partWeb W ps) (partOrd ord ps)) p) := fun {p} h => labAt_get (by omega)
  refine d_when (D := { nx := fun _ H' => Q .non H', rt := Q }) (σ := [some (.ref t), some vw, some vo, some vl, some vp, none, none, none, none, none]) (H := H1) (b := !decide (true = true)) (et_test (ev_notB (ev_bool (evd_call (K := K) (rel := rIsPart) (ds := [webD W, placesD ps]) (evds_cons (evd_var (i := 1) rfl hw) (evds_cons (evd_var (i := 4) rfl hp) evds_nil)) ⟨W, ps, okW, pk, rfl, rfl⟩)) ev_c)) (fun z => by cases z) fun _ H2 e2 => ?_
  refine d_set (evd_call (K := K) (rel := rPartWeb) (ds := [webD W, placesD ps]) (evds_cons (evd_var (i := 1) rfl (Dpx hw e2)) (evds_cons (evd_var (i := 4) rfl (Dpx hp e2)) evds_nil)) ⟨W, ps, okW, pk, rfl, rfl⟩) fun vs H3 e3 hs => ?_
  have e23 := e2.trans e3
  refine d_set (evd_call (K := K) (rel := rPartOrder) (ds := [placesD ord, placesD ps]) (evds_cons (evd_var (i := 2) rfl (Dpx ho e23)) (evds_cons (evd_var (i := 4) rfl (Dpx hp e23)) evds_nil)) ⟨ord, ps, by omega, part_nd pk, by omega, rfl, rfl⟩) fun vm H4 e4 hm => ?_
  have e24 := e23.trans e4
  refine d_set (evd_call (K := K) (rel := rCutDown) (ds := [labelsD (labelsBy W ord), placesD ps]) (evds_cons (evd_var (i := 3) rfl (Dpx hl e24)) (evds_cons (evd_var (i := 4) rfl (Dpx hp e24)) evds_nil)) ⟨labelsBy W ord, ps, part_nd pk, by omega, fun p hp => ?_, rfl, rfl⟩) fun vc H5 e5 hc0 => ?_
  · have hpn := pk.lt p hp
    have g := atL hpn
    have few := (goL _ (List.mem_of_getElem? g)).2.2
    refine ⟨_, g, by omega, fun e he hh hz => ?_⟩
    rw [labAt_by hpn] at he
    exact cut_in okW pk oo hp he hh hz
  have hc : Dp K H5 vc (labelsD (labelsBy (partWeb W ps) (partOrd ord ps))) := by
    rw [part_labels okW pk oo]
    exact hc0
  have e35 := e4.trans e5
  have e25 := e24.trans e5
  have okN : wordL (partWeb W ps) (labelsBy (partWeb W ps) (partOrd ord ps)) = none := word_good okP ooP
  have sw : Shw 4 3000 (labelsD (labelsBy (partWeb W ps) (partOrd ord ps))) := shw_labels (fun l hl => (goC l hl).2) (by omega)
  refine d_when (b := false || false) (et_or (a := false) (et_test ?_) fun _ => et_test ?_) (fun z => by cases z) fun _ H6 e6 => ?_
  · have q := ev_neS (ev_repr (K := K) (σ := [some (.ref t), some vw, some vo, some vl, some vp, some vs, some vm, some vc, none, none]) (H := H5) (evd_call (K := K) (E := E0) (rel := rByOrder) (ds := [webD (partWeb W ps), placesD (partOrd ord ps)]) (evds_cons (evd_var (i := 5) rfl (Dpx hs e35)) (evds_cons (evd_var (i := 6) rfl (Dpx hm e5)) evds_nil)) ⟨_, _, okP, ooP, rfl, rfl⟩) sw) (ev_repr (K := K) (evd_var (i := 7) rfl hc) sw)
    rw [decide_eq_true rfl] at q
    exact q
  · exact ev_notB (b := true) (ev_lets (K := K) (σ := [some (.ref t), some vw, some vo, some vl, some vp, some vs, some vm, some vc, none, none]) (H := H5) okP okC okN (evds_cons (evd_var (i := 5) rfl (Dpx hs e35)) (evds_cons (evd_var (i := 7) rfl hc) evds_nil))) ev_c
  have e26 := e25.trans e6
  have hp6 := Dpx hp e26
  have hl6 := Dpx hl e26
  have hc6 := Dpx hc e6
  have lenPs : ∀ {σ : Ks} {H' : Hp}, Ex H6 H' → σ[4]? = some (some vp) → Ev (tCB (rLenQ K) (tCons (tVar 4) tNil)) σ H' (.int (ps.length : Int)) := fun e hs => by
    have q := ev_lenT (K := K) (evd_var hs (Dpx hp6 e))
    rw [List.length_map] at q
    exact q
  refine dq_for (K := K) (G := H6) (evi_range (n := ps.length) (lenPs (Ex.refl _) rfl) (by omega)) (Ex.refl _) (fun i σ' H' => ∃ x8 x9, σ' = [some (.ref t), some vw, some vo, some vl, some vp, some vs, some vm, some vc, x8, x9] ∧ Ex H6 H')
    (fun H7 e7 => ⟨none, none, rfl, e7⟩) (fun i σ' H' q => by obtain ⟨_, _, _, e⟩ := q; exact e) (fun i d x σ' H7 H8 hi q e8 dx => ?_) fun σ' H' q => ?_
  · obtain ⟨x8, x9, rfl, e7⟩ := q
    have hin : i < ps.length := by
      have := (List.getElem?_eq_some_iff.mp hi).1
      rwa [upto_len] at this
    rw [upto_at hin] at hi
    cases hi
    have ex := dp_n (n := i) dx
    subst ex
    obtain ⟨p, hpi⟩ : ∃ p, ps[i]? = some p := ⟨_, List.getElem?_eq_getElem hin⟩
    refine d_for (K := K) (G := H8) (evi_range (n := ps.length) (lenPs (e7.trans e8) rfl) (by omega)) (Ex.refl _) (fun j σ' H' => ∃ x9, σ' = [some (.ref t), some vw, some vo, some vl, some vp, some vs, some vm, some vc, some (.int (i : Int)), x9] ∧ Ex H8 H')
      (fun H9 e9 => ⟨_, rfl, e9⟩) (fun j σ' H' q => by obtain ⟨_, _, e⟩ := q; exact e) (fun j d x σ' H9 Ha hj q ea dxa => ?_) fun σ' H' q => ?_
    · obtain ⟨y9, rfl, e9⟩ := q
      have hjn : j < ps.length := by
        have := (List.getElem?_eq_some_iff.mp hj).1
        rwa [upto_len] at this
      rw [upto_at hjn] at hj
      cases hj
      have ex := dp_n (n := j) dxa
      subst ex
      obtain ⟨q, hqj⟩ : ∃ q, ps[j]? = some q := ⟨_, List.getElem?_eq_getElem hjn⟩
      have e6a := ((e7.trans e8).trans e9).trans ea
      have pn := pk.lt p (List.mem_of_getElem? hpi)
      have qn := pk.lt q (List.mem_of_getElem? hqj)
      have g1 := atC hin
      have g2 := atC hjn
      have g3 := atL pn
      have g4 := atL qn
      have few : ∀ {l : Lab}, l ∈ labelsBy W ord → l.length ≤ 1000 := fun hl => by have := (goL _ hl).2.2; omega
      have fewC : ∀ {l : Lab}, l ∈ labelsBy (partWeb W ps) (partOrd ord ps) → l.length ≤ 1000 := fun hl => by have := (goC _ hl).2.2; omega
      have vi : ∀ {H' : Hp}, EvD K (tVar 8) [some (.ref t), some vw, some vo, some vl, some vp, some vs, some vm, some vc, some (.int (i : Int)), some (.int (j : Int))] H' (nD i) := evd_var (i := 8) rfl (.int _)
      have vj : ∀ {H' : Hp}, EvD K (tVar 9) [some (.ref t), some vw, some vo, some vl, some vp, some vs, some vm, some vc, some (.int (i : Int)), some (.int (j : Int))] H' (nD j) := evd_var (i := 9) rfl (.int _)
      have t1 := evd_call (K := K) (E := E0) (rel := rTold) (H := Ha) (d := optD (toldL (labAt (labelsBy (partWeb W ps) (partOrd ord ps)) i) (labAt (labelsBy (partWeb W ps) (partOrd ord ps)) j))) (evds_cons (evd_at (f := labD) (evd_var (i := 7) rfl (Dpx hc6 e6a)) vi g1) (evds_cons (evd_at (f := labD) (evd_var (i := 7) rfl (Dpx hc6 e6a)) vj g2) evds_nil)) ⟨_, _, fewC (List.mem_of_getElem? g1), fewC (List.mem_of_getElem? g2), lab_nd okC (List.mem_of_getElem? g2), rfl, rfl⟩
      have t2 := evd_call (K := K) (E := E0) (rel := rTold) (H := Ha) (d := optD (toldL (labAt (labelsBy W ord) p) (labAt (labelsBy W ord) q))) (evds_cons (evd_at (f := labD) (evd_var (i := 3) rfl (Dpx hl6 e6a)) (evd_at (f := nD) (evd_var (i := 4) rfl (Dpx hp6 e6a)) vi hpi) g3) (evds_cons (evd_at (f := labD) (evd_var (i := 3) rfl (Dpx hl6 e6a)) (evd_at (f := nD) (evd_var (i := 4) rfl (Dpx hp6 e6a)) vj hqj) g4) evds_nil)) ⟨_, _, few (List.mem_of_getElem? g3), few (List.mem_of_getElem? g4), lab_nd okL (List.mem_of_getElem? g4), rfl, rfl⟩
      have qq := ev_neO t1 t2
      rw [told_part okW pk oo hpi hqj, decide_eq_true rfl] at qq
      exact d_if1 (et_test qq) (fun z => by cases z) fun _ Hb eb => ⟨_, rfl, (e9.trans ea).trans eb⟩
    · obtain ⟨y9, rfl, e9⟩ := q
      exact ⟨_, _, rfl, (e7.trans e8).trans e9⟩
  · obtain ⟨x8, x9, rfl, e7⟩ := q
    have e17 := e26.trans e7
    exact k H' (kb1.trans (KeepBut.ex e17)) (tp1.mono e17)
end
end Lw
namespace Lw
open PySem PySem.Spec PyProof.Rows L2 Evl LwM SX
theorem s_orderB : (Str.ofString "order ") = S (cOrder ++ [32]) := by decide +kernel
theorem join_le {k : Nat} : ∀ {ws : List (List Nat)}, (∀ p ∈ ws, p.length ≤ k) → (lineL ws).length ≤ ws.length * (k + 1)
  | [], _ => by show 0 ≤ _; exact Nat.zero_le _
  | [a], h => by
    have := h a (by simp)
    show (TL.joinL [32] [a]).length ≤ 1 * (k + 1)
    simp [TL.joinL]
    omega
  | a :: b :: l, h => by
    have h1 := h a (by simp)
    have h2 := join_le (ws := b :: l) fun p hp => h p (List.mem_cons_of_mem _ hp)
    have e : (a :: b :: l).length * (k + 1) = (b :: l).length * (k + 1) + (k + 1) := Nat.succ_mul _ _
    rw [line_cons a (by simp), List.length_append, List.length_append, e]
    show a.length + (1 + (lineL (b :: l)).length) ≤ _
    omega
theorem ord_ne {W : Web} {ord : List Nat} (okW : WebOk W) (oo : OrdOk W ord) : ord ≠ [] := fun z => by
  have := (oo.mem 0).mpr okW.pos
  rw [z] at this
  cases this
theorem nine_at {n : Nat} (h : n < 9) : atI [V.int 1, .int 2, .int 3, .int 4, .int 5, .int 6, .int 7, .int 8, .int 9] (n : Int) = some (.int ((n + 1 : Nat) : Int)) := by
  refine atI_nat ?_
  rcases n with _ | _ | _ | _ | _ | _ | _ | _ | _ | n
  all_goals first | rfl | omega
section
variable {K : Fg} {σ : Ks} {H : Hp} {D : Ends} {tz : TS} {t c b o : Nat} {ta : TE} {W : Web} {ord : List Nat} {vw vo : V}
theorem q_nine (ht : σ[1]? = some (some (.ref t))) (hT : TpAt H t c b) (hb : b < 700000000) (k : ∀ W v H', WebOk W → W.n ≤ 9 → TpAt H' t c (b + 101) → Dp K H' v (webD W) → tz D (σ.set o (some v)) H') :
    tSeq (tAsg (tCall (spWeb K) [] E0 (tCons (tVar 1) (tCons (tOp (rIxL K) (tLst (tCons (tC (.int 1)) (tCons (tC (.int 2)) (tCons (tC (.int 3)) (tCons (tC (.int 4)) (tCons (tC (.int 5)) (tCons (tC (.int 6)) (tCons (tC (.int 7)) (tCons (tC (.int 8)) (tCons (tC (.int 9)) tNil)))))))))) (tCall spDraw [] E0 (tCons (tVar 1) (tCons (tC (.int 9)) tNil)))) tNil))) (gName o)) tz D σ H := by
  refine ⟨_, ht, sz_of (by show 9 ≤ 100000; decide), fun p hp => ?_⟩
  refine ⟨_, ht, t, c, 9, b, rfl, by decide, by decide, hT.mono (Ex.new hp), by omega, fun n H1 hn kb1 tp1 => ?_⟩
  refine ⟨p, _, (n : Int), _, rfl, rfl, sq_of (kb1 _ _ ((hT.ne hp).1) upd_same), nine_at hn, ?_⟩
  exact ⟨t, c, n + 1, b + 1, rfl, by omega, by omega, tp1, by omega, fun W v H2 okW hn2 kb2 tp2 hv => k W v H2 okW (by omega) (tp2.up (by omega)) hv⟩
theorem q_lord (ht : σ[1]? = some (some (.ref t))) (hv : σ[3]? = some (some vw)) (hT : TpAt H t c b) (hb : b < 700000000) (okW : WebOk W) (hw : Dp K H vw (webD W)) (k : ∀ ord v H', OrdOk W ord → TpAt H' t c (b + 24) → Dp K H' vw (webD W) → Dp K H' v (placesD ord) → tz D (σ.set o (some v)) H') :
    tSeq (tAsg (tCall (spOrder K) [] E0 (tCons (tVar 1) (tCons (tOp (rIxT K) (tVar 3) (tC (.int 0))) tNil))) (gName o)) tz D σ H := by
  refine ⟨_, ht, ev_n (K := K) (evd_i0 (evd_var hv hw)) H (Ex.refl _) _ fun H1 e1 => ?_⟩
  exact ⟨t, c, W.n, b, rfl, okW.pos, okW.most, hT.mono e1, by omega, fun ord v H2 hp kb tp hv2 => k ord v H2 (ord_of_perm hp) tp (Dpt (Dpx hw e1) ((hT.mono e1).tk kb tp) (fz_web W)) hv2⟩
theorem q_lothers (ht : σ[1]? = some (some (.ref t))) (hv : σ[3]? = some (some vw)) (h4 : σ[4]? = some (some vo)) (hT : TpAt H t c b) (hb : b < 700000000) (okW : WebOk W) (n9 : W.n ≤ 9) (oo : OrdOk W ord) (hw : Dp K H vw (webD W)) (ho : Dp K H vo (placesD ord))
    (k : ∀ M v H', LabelsOk W.n M → TpAt H' t c (b + 100) → Tk H H' → Dp K H' v (labelsD M) → tz D (σ.set o (some v)) H') :
    tSeq (tAsg (tCall (PureSp K rByOrder) [] E0 (tCons (tCall (spWeb K) [] E0 (tCons (tVar 1) (tCons (tOp (rIxT K) (tVar 3) (tC (.int 0))) tNil))) (tCons (tVar 4) tNil))) (gName o)) tz D σ H := by
  refine ⟨_, ht, ev_n (K := K) (evd_i0 (evd_var hv hw)) H (Ex.refl _) _ fun H1 e1 => ?_⟩
  refine ⟨t, c, W.n, b, rfl, okW.pos, n9, hT.mono e1, by omega, fun W2 v2 H2 ok2 hn2 kb tp hv2 => ⟨_, h4, ?_⟩⟩
  have tk : Tk H H2 := (Tk.ex e1).trans ((hT.mono e1).tk kb tp)
  have oo2 : OrdOk W2 ord := ⟨oo.nd, fun p => by rw [hn2]; exact oo.mem p⟩
  have ok3 : LabelsOk W.n (labelsBy W2 ord) := by rw [← hn2]; exact labels_ok ok2 oo2
  exact ⟨[webD W2, placesD ord], _, ⟨W2, ord, ok2, oo2, rfl, rfl⟩, .cons hv2 (.cons (Dpt ho tk (fz_places ord)) .nil), fun v H3 e3 d3 => k _ v H3 ok3 (tp.mono e3) (tk.trans (Tk.ex e3)) d3⟩
theorem q_desk (okW : WebOk W) (hl : EvD K ta σ H (.list ((webLs W).map strD))) (k : ∀ a H', H a = none → Ex H H' → DkAt K H' a W (labelsBy W (List.range W.n)) → tz D (σ.set o (some (.ref a))) H') :
    tSeq (tAsg (tMake (He.ga K "Desk") (spDkI K) [] E0 (tCons ta tNil)) (gName o)) tz D σ H := hl H (Ex.refl _) _ fun v H1 e1 d1 => by
  intro a dx ha hdx hne
  have ex : Ex H1 (upd (upd H1 dx (.own a)) a (.ins (He.ga K "Desk") dx [])) := (Ex.new hdx).trans (Ex.new (by rw [upd_ne (Ne.symm hne)]; exact ha))
  exact ⟨a, dx, v, W, rfl, upd_same, okW, Dpx d1 ex, fun H3 k3 hL => ⟨rfl, k a H3 (fresh_back e1 ha) (e1.trans (k3.back ex ha)) hL⟩⟩
theorem q_sayOrder {tu : TS} {G : Hp} {d i : Nat} {L : List Lab} (hs : σ[i]? = some (some (.ref d))) (nd : G d = none) (eG : Ex G H) (hD : DkAt K H d W L) (okW : WebOk W) (oo : OrdOk W ord) (he : EvD K ta σ H (strD (lineL (cOrder :: ord.map TL.numL)))) (k : ∀ H', Ex G H' → DkAt K H' d W (labelsBy W ord) → tz D σ H') :
    tSeq (tIfS (tTest (tOp rNe (tMeth (He.ga K "Desk") "say" (spSay K) [] E0 (tVar i) (tCons ta tNil)) (tC (.str "ok")))) tu tNext) tz D σ H := by
  obtain ⟨dx, kp, h1, _⟩ := id hD
  refine ⟨_, hs, d, dx, _, rfl, h1, lk_say, he H (Ex.refl _) _ fun v H2 e2 d2 => ?_⟩
  rw [dp_S d2]
  refine ⟨d, W, L, _, rfl, hD.mono e2, okW, .inr (.inl ⟨ord, rfl, oo, fun H3 kb hD3 => ?_⟩)⟩
  refine ⟨rfl, _, rfl, ?_⟩
  show (if (!decide (V.str "ok" = V.str "ok")) = true then tu { D with nx := tz D } σ H3 else tz D σ H3)
  rw [if_neg (by simp)]
  exact k H3 (kb.back (eG.trans e2) nd) hD3
theorem q_orEff {t u : TT} {tu tw : TS} (h : EvT t σ H false) (k : ∀ H1, Ex H H1 → u σ H1 fun b H2 => if b = true then tu D σ H2 else tw D σ H2) : tIfS (tOr t u) tu tw D σ H := by
  show t σ H fun c H1 => if c = true then (if true = true then tu D σ H1 else tw D σ H1) else u σ H1 fun b H2 => if b = true then tu D σ H2 else tw D σ H2
  refine h H (Ex.refl _) _ fun H1 e1 => ?_
  show (if false = true then _ else _)
  rw [if_neg Bool.false_ne_true]
  exact k H1 e1
theorem shw_webR (okW : WebOk W) : Shw 4 3000 (webD W) := (shw_web okW).mono (by decide) (by decide)
end
section
variable {P : Program} {w : World} {K : Fg} {mg : Str → Option Value} {base : Heap}
def spLaw (K : Fg) : Sp := fun vs H Q _ => ∃ (a : Addr) (ns : List Int), vs = [.ref a] ∧ SqL K H a (ns.map V.int) ∧ ∀ H', Q (.bl true) H'
theorem sc_law : FnScope ["_law_script", "_law_tape_here", "_law_k", "_law_web_here", "_law_order_here", "_law_labels", "_law_others", "_law_some", "_law_desk", "_law_place"] ["_law_script"] (defScope (top 98)) := ⟨rfl, rfl, rfl, by decide +kernel, rfl, by decide +kernel, by decide +kernel⟩
theorem fng_law (T : Txt w K mg) {fd : FuncData} (F : FunD K "law" "law" (defArgs (top 98)) (defBody (top 98)) (defScope (top 98)) [] [] (He.ga K "law") fd) : FnG P w K mg base 10 (He.ga K "law") fd ["_law_script"] (spLaw K) := by
  refine fng_of F sc_law (fun vs H Q E h => by obtain ⟨_, _, rfl, _⟩ := h; rfl) fun cdv A outer s H vs Q E hg hr h => ?_
  obtain ⟨a, ns, rfl, hs, k⟩ := h
  refine ⟨_, (pss_cons (ps_set (i := 1) sc_law.nd rfl (Or.inl rfl) (pe_cal (cal_law_tape (K := K) T) hr (by decide) (by rfl) (pa_cons (pv 0) pa_nil)))
      (pss_cons (ps_for PassesOwn.never rfl (pi_range1 rfl T.m_range (pa_cons pe_int pa_nil)) (pg_name (i := 2) sc_law.nd rfl (Or.inl rfl)) (pss_cons (ps_set (i := 3) sc_law.nd rfl (Or.inl rfl) (pe_cal (cal_law_web (K := K) T) hr (by decide) (by rfl) (pa_cons (pv 1) (pa_cons (pe_ix (ix_listK (K := K) rfl) (pe_lst (pa_cons pe_int (pa_cons pe_int (pa_cons pe_int (pa_cons pe_int (pa_cons pe_int (pa_cons pe_int (pa_cons pe_int (pa_cons pe_int (pa_cons pe_int pa_nil)))))))))) (pe_cal (cal_law_draw (K := K) T) hr (by decide) (by rfl) (pa_cons (pv 1) (pa_cons pe_int pa_nil))) (fun _ _ => rfl)) pa_nil))))
      (pss_cons (ps_set (i := 4) sc_law.nd rfl (Or.inl rfl) (pe_cal (cal_law_order (K := K) T) hr (by decide) (by rfl) (pa_cons (pv 1) (pa_cons (pe_ix (ix_tupK (K := K) rfl) (pv 3) pe_int (fun _ _ => rfl)) pa_nil))))
      (pss_cons (ps_set (i := 5) sc_law.nd rfl (Or.inl rfl) (pe_cal (cal_by_order (K := K) T) hr (by decide) (by rfl) (pa_cons (pv 3) (pa_cons (pv 4) pa_nil))))
      (pss_cons (ps_set (i := 6) sc_law.nd rfl (Or.inl rfl) (pe_cal (cal_by_order (K := K) T) hr (by decide) (by rfl) (pa_cons (pe_cal (cal_law_web (K := K) T) hr (by decide) (by rfl) (pa_cons (pv 1) (pa_cons (pe_ix (ix_tupK (K := K) rfl) (pv 3) pe_int (fun _ _ => rfl)) pa_nil))) (pa_cons (pv 4) pa_nil))))
      (pss_cons (ps_if (pt_cmpR op_ne (pe_callB (cr_repr (K := K) rfl hg hr.units) (by rfl) T.m_repr bt_repr (pa_cons (pe_cal (cal_read_web (K := K) T) hr (by decide) (by rfl) (pa_cons (pe_cal (cal_web_lines (K := K) T) hr (by decide) (by rfl) (pa_cons (pv 3) pa_nil)) pa_nil)) pa_nil)) (pe_callB (cr_repr (K := K) rfl hg hr.units) (by rfl) T.m_repr bt_repr (pa_cons (pv 3) pa_nil)) (nomark _)) (pss_one (ps_ret pe_bl)) pss_nil)
      (pss_cons (ps_for PassesOwn.never rfl (pi_listK (K := K) rfl (pe_lst (pa_cons (pv 5) (pa_cons (pv 6) pa_nil)))) (pg_name (i := 7) sc_law.nd rfl (Or.inl rfl)) (pss_one (ps_if (pt_cmpR op_ne (pe_callB (cr_repr (K := K) rfl hg hr.units) (by rfl) T.m_repr bt_repr (pa_cons (pe_cal (cal_read_labels (K := K) T) hr (by decide) (by rfl) (pa_cons (pe_cal (cal_label_lines (K := K) T) hr (by decide) (by rfl) (pa_cons (pv 7) pa_nil)) pa_nil)) pa_nil)) (pe_callB (cr_repr (K := K) rfl hg hr.units) (by rfl) T.m_repr bt_repr (pa_cons (pv 7) pa_nil)) (nomark _)) (pss_one (ps_ret pe_bl)) pss_nil)))
      (pss_cons (ps_set (i := 8) sc_law.nd rfl (Or.inl rfl) (C8.pe_mk (mk_Desk (K := K) T) hr (by decide) (by rfl) (pa_cons (pe_cal (cal_web_lines (K := K) T) hr (by decide) (by rfl) (pa_cons (pv 3) pa_nil)) pa_nil)))
      (pss_cons (ps_if (pt_cmpR op_ne (C8.pe_mt (met_say (K := K) T) hr (by decide) (pv 8) (pa_cons (pe_op op_addS pe_str (pe_join pe_str (pe_lc (own := [("_law_place", 9)]) rfl sc_law.nd (pi_tupK (K := K) rfl (pv 4)) (blkOk_by (N := ["_law_script", "_law_tape_here", "_law_k", "_law_web_here", "_law_order_here", "_law_labels", "_law_others", "_law_some", "_law_desk", "_law_place"]) (sc := defScope (top 98)) (by decide +kernel)) (fun _ _ _ _ _ => (pg_name (i := 9) sc_law.nd rfl (Or.inl rfl))) (fun _ _ _ _ _ => pts_nil) (fun _ _ _ _ _ => (pe_callTy call_strI (by rfl) T.m_str bt_str (pa_cons (pv 9) pa_nil)))))) pa_nil)) pe_str (nomark _)) (pss_one (ps_ret pe_bl)) pss_nil)
      (pss_one (ps_if (PW.pt (pw_or (pt_not (pt_val (pe_cal (cal_law_desk_right (K := K) T) hr (by decide) (by rfl) (pa_cons (pv 8) (pa_cons (pv 3) (pa_cons (pv 5) (pa_cons (pv 6) pa_nil))))))) (pw_or1 (pt_not (pt_val (pe_calg (calg_law_part_right (K := K) T) hg hr (by decide) (by rfl) (pa_cons (pv 1) (pa_cons (pv 3) (pa_cons (pv 4) (pa_cons (pv 5) pa_nil)))))))))) (pss_one (ps_ret pe_bl)) pss_nil)))))))))))
      (pss_one (ps_ret pe_bl)))), ?_⟩
  refine ⟨_, rfl, a, ns, rfl, hs, fun t c H1 nt e1 hT => ?_⟩
  refine dq_for (D := { nx := fun _ H' => Q .non H', rt := Q }) (σ := [some (.ref a), some (.ref t), none, none, none, none, none, none, none, none]) (H := H1) (K := K) (G := fun _ => none) (evi_range (n := 2) ev_c (by decide)) (ex_none _) (fun i σ' H' => ∃ x2 x3 x4 x5 x6 x7 x8 x9, σ' = [some (.ref a), some (.ref t), x2, x3, x4, x5, x6, x7, x8, x9] ∧ TpAt H' t c (i * 1000))
    (fun H2 e2 => ⟨none, none, none, none, none, none, none, none, rfl, (hT.mono e2).up (Nat.zero_le _)⟩) (fun i σ' H' _ => ex_none _) (fun i dd x σ' H2 H3 hi q e3 dx => ?_) fun σ' H' q => k H'
  obtain ⟨x2, x3, x4, x5, x6, x7, x8, x9, rfl, tp2⟩ := q
  have hi2 : i < 2 := by
    have := (List.getElem?_eq_some_iff.mp hi).1
    rwa [upto_len] at this
  have tp3 := tp2.mono e3
  refine q_nine (K := K) (σ := [some (.ref a), some (.ref t), some x, x3, x4, x5, x6, x7, x8, x9]) (o := 3) rfl tp3 (by omega) fun W vw H4 okW n9 tp4 hw4 => ?_
  refine q_lord (K := K) (σ := [some (.ref a), some (.ref t), some x, some vw, x4, x5, x6, x7, x8, x9]) (o := 4) rfl rfl tp4 (by omega) okW hw4 fun ord vo H5 oo tp5 hw5 ho5 => ?_
  have most := okW.most
  have ol := ord_len oo
  have okL : LabelsOk W.n (labelsBy W ord) := labels_ok okW oo
  refine d_set (evd_call (K := K) (rel := rByOrder) (ds := [webD W, placesD ord]) (evds_cons (evd_var (i := 3) rfl hw5) (evds_cons (evd_var (i := 4) rfl ho5) evds_nil)) ⟨W, ord, okW, oo, rfl, rfl⟩) fun vl H6 e6 hl6 => ?_
  refine q_lothers (K := K) (σ := [some (.ref a), some (.ref t), some x, some vw, some vo, some vl, x6, x7, x8, x9]) (o := 6) rfl rfl rfl (tp5.mono e6) (by omega) okW n9 oo (Dpx hw5 e6) (Dpx ho5 e6) fun M vm H7 okM tp7 tk7 hm7 => ?_
  have hw7 := Dpt (Dpx hw5 e6) tk7 (fz_web W)
  have ho7 := Dpt (Dpx ho5 e6) tk7 (fz_places ord)
  have hl7 := Dpt hl6 tk7 (fz_labels _)
  have linesW : ∀ {H' : Hp} {σ : Ks}, Ex H7 H' → σ[3]? = some (some vw) → EvD K (tCall (PureSp K rWebLines) [] E0 (tCons (tVar 3) tNil)) σ H' (.list ((webLs W).map strD)) := fun e h => evd_call (rel := rWebLines) (ds := [webD W]) (evds_cons (evd_var h (Dpx hw7 e)) evds_nil) ⟨W, okW, rfl, rfl⟩
  refine d_when (σ := [some (.ref a), some (.ref t), some x, some vw, some vo, some vl, some vm, x7, x8, x9]) (H := H7) (b := false) (et_test ?_) (fun z => by cases z) fun _ H8 e8 => ?_
  · have q := ev_neS (ev_repr (K := K) (σ := [some (.ref a), some (.ref t), some x, some vw, some vo, some vl, some vm, x7, x8, x9]) (H := H7) (evd_call (K := K) (E := E0) (rel := rReadWeb) (ds := [.list ((webLs W).map strD)]) (evds_cons (linesW (Ex.refl _) rfl) evds_nil) ⟨W, okW, rfl, rfl⟩) (shw_webR okW)) (ev_repr (K := K) (evd_var (i := 3) rfl hw7) (shw_webR okW))
    rw [decide_eq_true rfl] at q
    exact q
  have hl8 := Dpx hl7 e8
  have hm8 := Dpx hm7 e8
  refine dq_forJ (K := K) (ds := [labelsD (labelsBy W ord), labelsD M]) (evj_L (evd_lst (evds_cons (evd_var (i := 5) rfl hl8) (evds_cons (evd_var (i := 6) rfl hm8) evds_nil)) (by show 2 ≤ 100000; decide))) (fun G i σ' H' => Ex H8 G ∧ Ex G H' ∧ ∃ x7, σ' = [some (.ref a), some (.ref t), some x, some vw, some vo, some vl, some vm, x7, x8, x9])
    (fun G eG => ⟨eG, Ex.refl _, x7, rfl⟩) (fun G i σ' H' q => q.2.1) (fun G j dd y σ' Ha Hb hj q eb dy => ?_) fun G σ' H9 q => ?_
  · obtain ⟨eG, ea, y7, rfl⟩ := q
    obtain ⟨N, okN, rfl⟩ : ∃ N, LabelsOk W.n N ∧ dd = labelsD N := by
      rcases j with _ | _ | j
      · cases hj
        exact ⟨_, okL, rfl⟩
      · cases hj
        exact ⟨_, okM, rfl⟩
      · cases hj
    have goN := labs_go okN most
    have lenN := okN.len
    have sw : Shw 4 3000 (labelsD N) := shw_labels (fun l hl => (goN l hl).2) (by omega)
    have pos := okW.pos
    have q := ev_neS (ev_repr (K := K) (σ := [some (.ref a), some (.ref t), some x, some vw, some vo, some vl, some vm, some y, x8, x9]) (H := Hb) (evd_call (K := K) (E := E0) (rel := rReadLabs) (ds := [.list ((labLs N).map strD)]) (evds_cons (evd_call (K := K) (E := E0) (rel := rLabLines) (ds := [labelsD N]) (evds_cons (evd_var (i := 7) rfl dy) evds_nil) ⟨N, fun l hl => (goN l hl).2, by omega, rfl, rfl⟩) evds_nil) ⟨N, by omega, by omega, goN, rfl, rfl⟩) sw) (ev_repr (K := K) (evd_var (i := 7) rfl dy) sw)
    rw [decide_eq_true rfl] at q
    exact d_if1 (et_test q) (fun z => by cases z) fun _ Hc ec => ⟨eG, (ea.trans eb).trans ec, _, rfl⟩
  obtain ⟨eG, ea, y7, rfl⟩ := q
  have e79 := e8.trans (eG.trans ea)
  have tp9 := tp7.mono e79
  refine q_desk (K := K) (σ := [some (.ref a), some (.ref t), some x, some vw, some vo, some vl, some vm, y7, x8, x9]) (o := 8) okW (linesW e79 rfl) fun d Hd nd ed hD => ?_
  have say : EvD K (tOp rAddS (tC (.str "order ")) (tM1 (rJoinK K) (tC (.str " ")) (tLc (iTup K (tVar 4)) (gName 9) tYes (tCB rStrI (tCons (tVar 9) tNil)) [9]))) [some (.ref a), some (.ref t), some x, some vw, some vo, some vl, some vm, y7, some (.ref d), x9] Hd (strD (lineL (cOrder :: ord.map TL.numL))) := by
    have small : ∀ n ∈ ord, n ≤ 9999 := fun n hn => by
      have := (oo.mem n).mp hn
      omega
    have wl : ∀ p ∈ ord.map TL.numL, p.length ≤ 4 := fun p hp => by
      obtain ⟨n, hn, rfl⟩ := List.mem_map.mp hp
      exact num_len (small n hn)
    have jl := join_le wl
    rw [List.length_map] at jl
    have words : EvD K (tLc (iTup K (tVar 4)) (gName 9) tYes (tCB rStrI (tCons (tVar 9) tNil)) [9]) [some (.ref a), some (.ref t), some x, some vw, some vo, some vl, some vm, y7, some (.ref d), x9] Hd (.list ((ord.map TL.numL).map strD)) :=
      EvD.to (evn_lcB (K := K) (enc := nD) (l := ord) (fun n => strD (TL.numL n)) (evi_var (i := 4) rfl (Dpx ho7 (e79.trans ed))).j (by omega) (fun _ _ => rfl) fun n y H' P hn e' dy q => q [some (.ref a), some (.ref t), some x, some vw, some vo, some vl, some vm, y7, some (.ref d), some y] rfl (evd_strI (evd_var (i := 9) rfl dy) (small n hn))).toD (by rw [List.map_map]; rfl)
    have q := evd_addS (K := K) (a := cOrder ++ [32]) (b := lineL (ord.map TL.numL)) (evd_cS s_orderB) (evd_joinL (K := K) (sep := [32]) (ws := ord.map TL.numL) (k := 4) (evd_cS s_blank) words wl (by rw [List.length_map]; show _ * 4 + _ * 1 ≤ 100000; omega)) (by
      show 6 + _ ≤ 100000
      omega)
    have ne : ord.map TL.numL ≠ [] := fun z => ord_ne okW oo (List.map_eq_nil_iff.mp z)
    rw [line_cons cOrder ne, ← List.append_assoc]
    exact q
  refine q_sayOrder (K := K) (σ := [some (.ref a), some (.ref t), some x, some vw, some vo, some vl, some vm, y7, some (.ref d), x9]) (i := 8) rfl nd ed hD okW oo say fun He eHe hD2 => ?_
  have e7e := e79.trans eHe
  have tpe := tp7.mono e7e
  have ask : EvT (tNot (tB (tCall (spDeskR K) [] E0 (tCons (tVar 8) (tCons (tVar 3) (tCons (tVar 5) (tCons (tVar 6) tNil))))))) [some (.ref a), some (.ref t), some x, some vw, some vo, some vl, some vm, y7, some (.ref d), x9] He (!true) := et_not (et_B fun H' e' Q' q' => ⟨_, rfl, _, rfl, _, rfl, _, rfl, d, W, ord, M, vw, vl, vm, rfl, hD2.mono e', okW, oo, okM, Dpx hw7 (e7e.trans e'), Dpx hl7 (e7e.trans e'), Dpx hm7 (e7e.trans e'), fun H'' e'' => q' H'' e''⟩)
  refine q_orEff (σ := [some (.ref a), some (.ref t), some x, some vw, some vo, some vl, some vm, y7, some (.ref d), x9]) ask fun Hf ef => ?_
  have e7f := e7e.trans ef
  refine ⟨_, rfl, _, rfl, _, rfl, _, rfl, t, c, _, vw, vo, vl, W, ord, rfl, tpe.mono ef, by omega, okW, n9, oo, Dpx hw7 e7f, Dpx ho7 e7f, Dpx hl7 e7f, fun Hh kb tph => ⟨true, rfl, ?_⟩⟩
  show ∃ x2 x3 x4 x5 x6 x7 x8 x9, _ ∧ TpAt Hh t c ((i + 1) * 1000)
  exact ⟨_, _, _, _, _, _, _, _, rfl, tph.up (by omega)⟩
end
end Lw
namespace Lw
open PySem PySem.Spec PyProof.Rows L2
section
variable {P : Program} {w : World} {K : Fg} {mg mb : Str → Option Value} {k : Nat} {fa a : Addr} {fd : FuncData} {x : Str} {sp : Sp} {s1 : Shared} {vs : List Value} {ns : List Int} {H : Hp}
abbrev Told (s1 : Shared) (r : Result) (s' : Shared) : Prop := r = .ok (.ret (.bool true)) ∧ OldK s1.heap s'.heap ∧ s'.os = s1.os ∧ AllBare s'.gens
/-- from an abstract heap that tracks the script at most -/
theorem goes_at (KX : K.In s1.heap) (hns : s1.heap.Ns mainGlobals mg) (hb : s1.heap.Ns builtinsNs mb) (hbb : ∀ x : Str, x ≠ "__name__" → mb x = bootBuiltins x) (hlim : s1.heap.NoLimit) (hg : s1.gens = #[])
    (ha : s1.heap.get? a = some { cls := .type "list", data := .seq vs.toArray }) (hr : Room k callerA) (F : ∀ base : Heap, K.In base → base.Ns mainGlobals mg → FnG P w K mg base k fa fd [x] sp) (hbind : ∀ (s : Shared) (u : Value), BindsTo s fd ⟨[u], []⟩ [(x, u)])
    (hsp : sp [.ref a] H (fun v _ => v = .bl true) fun _ _ _ => False) (hok : HOk P w H s1.heap) (hO : ∀ b, H b = none ∨ (b = a ∧ K.lookup a = none ∧ ∃ o xs, H b = some (.frz o (.lst xs)))) :
    codeAny (model P w) callerA (.call (.ref fa) ⟨[.ref a], []⟩) (Told s1) s1 := by
  have keep : ∀ {b : Addr} {o : Obj}, s1.heap.get? b = some o → (b = a → K.lookup a ≠ none ∨ ∃ es ep, o.data = .dict es ep) → (hidT s1.heap H).get? b = some o := fun {b o} e h => by
    refine hidT_get e ?_
    rcases hO b with q | ⟨e2, nK, _⟩
    · exact q
    · rcases h e2 with z | ⟨es, ep, z⟩
      · exact absurd nK z
      · rw [e2, ha] at e
        cases e
        have z' : Data.seq vs.toArray _ = Data.dict es ep := z
        cases z'
  have nsK : ∀ {b : Addr} {m : Str → Option Value}, s1.heap.Ns b m → (hidT s1.heap H).Ns b m := fun {b m} h => by
    obtain ⟨o, es, ep, e, d, r⟩ := h
    exact ⟨o, es, ep, keep e fun _ => .inr ⟨es, ep, d⟩, d, r⟩
  have inK : K.In (hidT s1.heap H) := fun b o e => keep (KX b o e) fun z => .inl (by rw [← z, e]; exact nofun)
  obtain ⟨mc, l1, l2⟩ := hlim
  have e0 : Env0 P w K mg (hidT s1.heap H) callerA [] s1 H := ⟨rfl, ⟨inK, nsK hns, ⟨mb, nsK hb, hbb⟩, ⟨mc, nsK l1, l2⟩⟩, fun b o e => of_hidT e, Nat.le_of_eq (hidT_size _ _), trivial, fun b q => (List.not_mem_nil q).elim, hok, .of_eq hg⟩
  refine codeAny_mono ((F _ inK (nsK hns)).goes callerA rfl hr [] s1 H ⟨[.ref a], []⟩ [.ref a] [.ref a] _ _ e0 (hbind s1 (.ref a)) (.cons rfl .nil) hsp) fun r s' h => ?_
  match r, h with
  | .error _, h => exact False.elim h
  | .ok .next, h => exact False.elim h
  | .ok .brk, h => exact False.elim h
  | .ok .cont, h => exact False.elim h
  | .ok (.ret u), ⟨v, H', os, bare, un, hok', r', q⟩ =>
    cases (show v = .bl true from q)
    cases (show u = Value.bool true from r')
    refine ⟨rfl, OldK.of_keep fun b o e => ?_, os, bare⟩
    rcases hO b with z | ⟨_, _, ob, xs, z⟩
    · exact un.keep b o e z (fun q => (List.not_mem_nil q).elim) (fun q => (List.not_mem_nil q).elim)
    · obtain ⟨g1, _⟩ := hok b _ z
      obtain ⟨g2, _⟩ := hok' b _ (un.frzs b ob _ z)
      exact g2.trans (g1.symm.trans e)
theorem goes_call (KX : K.In s1.heap) (hns : s1.heap.Ns mainGlobals mg) (hb : s1.heap.Ns builtinsNs mb) (hbb : ∀ x : Str, x ≠ "__name__" → mb x = bootBuiltins x) (hlim : s1.heap.NoLimit) (hg : s1.gens = #[])
    (ha : s1.heap.get? a = some { cls := .type "list", data := .seq vs.toArray }) (hi : IntsAre vs ns) (hl : ns.length ≤ sizeLine) (hr : Room k callerA) (F : ∀ base : Heap, K.In base → base.Ns mainGlobals mg → FnG P w K mg base k fa fd [x] sp)
    (hbind : ∀ (s : Shared) (u : Value), BindsTo s fd ⟨[u], []⟩ [(x, u)]) (hsp : ∀ H : Hp, SqL K H a (ns.map V.int) → sp [.ref a] H (fun v _ => v = .bl true) fun _ _ _ => False) :
    codeAny (model P w) callerA (.call (.ref fa) ⟨[.ref a], []⟩) (Told s1) s1 := by
  have rv := vals_ints hi
  cases q : K.lookup a with
  | some o =>
    have e := KX a o q
    rw [ha] at e
    cases e
    exact goes_at (H := fun _ => none) KX hns hb hbb hlim hg ha hr F hbind (hsp _ (.inr ⟨_, vs.toArray, _, q, rfl, rfl, rfl, by rw [List.size_toArray, hi.length]; exact hl, by simpa using rv⟩)) (fun b u z => by cases z) fun _ => .inl rfl
  | none =>
    refine goes_at (H := fun b => if b = a then some (.frz { cls := .type "list", data := .seq vs.toArray } (.lst (ns.map V.int))) else none) KX hns hb hbb hlim hg ha hr F hbind (hsp _ (.inl (.inr ⟨_, if_pos rfl⟩))) (fun b u z => ?_) fun b => ?_
    · by_cases e : b = a
      · subst e
        have z2 := (if_pos rfl).symm.trans z
        cases z2
        exact ⟨ha, by rw [List.length_map]; exact hl, vs, _, rv, ha⟩
      · have z2 := (if_neg e).symm.trans z
        cases z2
    · by_cases e : b = a
      · exact .inr ⟨e, q, _, _, if_pos e⟩
      · exact .inl (if_neg e)
end
/-- a law's end over a head, where nothing is being shown -/
theorem walk_goes {l : PySem.W.OpenLaw} {n k : Nat} {q : Program} {loose : List Str} {XP : (Str → Option Value) → Heap → Prop} {YP : World → Heap → Prop} {d : DefRec} {x : Str} (hn : l.most = some n) (hn2 : n ≤ sizeLine) (hdf : d.params.defaults = []) (hr : Room k callerA)
    (F : ∀ (w : World) (mg : Str → Option Value) (fa : Addr) (h : Heap), YP w h → h.Ns mainGlobals mg → mg d.name = some (.ref fa) →
      ∃ (K : Fg) (fd : FuncData) (sp : Sp), K.In h ∧ (∀ (s : Shared) (u : Value), BindsTo s fd ⟨[u], []⟩ [(x, u)]) ∧ (∀ (H : Hp) (a : Addr) (ns : List Int), SqL K H a (ns.map V.int) → sp [.ref a] H (fun v _ => v = .bl true) fun _ _ _ => False) ∧
        ∀ base : Heap, K.In base → base.Ns mainGlobals mg → FnG l.prog w K mg base k fa fd [x] sp) :
    PySem.W.WalkO q loose XP YP l.row.toRowW d [] (fun f vs => PySem.call f vs) := by
  refine Att.attach_call hn hdf fun w s0 s1 mg mb fa o pm cd doc a vs ns G Y ho hd hcd hmg hobj hints hlen hg => ?_
  obtain ⟨K, fd, sp, KX, hb, hsp, hF⟩ := F w mg fa _ Y G.T.g hmg
  exact goes_call KX G.T.g G.T.b G.T.builtins G.T.nolimit hg hobj hints (Nat.le_trans hlen hn2) hr hF hb fun H hS => hsp H a ns hS
theorem room_law : Room 10 callerA := ⟨rfl, by decide, by decide⟩
end Lw
namespace Lw
open PySem PySem.Spec PyProof.Rows L2
theorem end_of {w : World} {h : Heap} {mg : Str → Option Value} {fa : Addr} (Y : hk.says w h) (G : h.Ns mainGlobals mg) (hfa : mg ("law" : Str) = some (.ref fa)) :
    ∃ (K : Fg) (fd : FuncData) (sp : Sp), K.In h ∧ (∀ (s : Shared) (u : Value), BindsTo s fd ⟨[u], []⟩ [("_law_script", u)]) ∧ (∀ (H : Hp) (a : Addr) (ns : List Int), SqL K H a (ns.map V.int) → sp [.ref a] H (fun v _ => v = .bl true) fun _ _ _ => False) ∧
      ∀ base : Heap, K.In base → base.Ns mainGlobals mg → FnG R.prog w K mg base 10 fa fd ["_law_script"] sp := by
  obtain ⟨K, KX, c⟩ := Y
  have T : Txt w K mg := ⟨c, fun x r e => by
    cases r with
    | none => exact PySem.W.mg_none_of KX G e
    | some v => exact PySem.W.mg_of KX G e⟩
  obtain ⟨fd, F⟩ := T.f_law
  have e := hfa.symm.trans T.g_law
  injection e with e
  injection e with e
  subst e
  have b := FunD.bindsA (ps := ["_law_script"]) F fun _ _ _ _ _ _ us hl => match us, hl with | [_], _ => rfl
  exact ⟨K, fd, spLaw K, KX, fun s v => b s [v] rfl, fun H a ns hS => ⟨a, ns, rfl, hS, fun _ => rfl⟩, fun base _ _ => fng_law T F⟩
end Lw
open PySem PySem.W PySem.Calls PyProof.Rows
theorem PySem.Challenge.cw_labelways_k93_whole_lines_and_parts_holds : PySem.Challenge.rw_labelways_k93_whole_lines_and_parts.Holds := by
  w_on; o_law
  refine HandSHeadRun.head_any (r := Lw.R) (q := view Lw.R.prog [98]) (H := Lw.hk) (ob := Lw.ob) (M := 6000) (loose := Lw.loose) (d := HandSHeadRun.topDef Lw.R.prog 98) (kwd := []) Lw.ob_eq (by kernel_rfl) (fun s => by kernel_rfl) Lw.run (by kernel_rfl) (by kernel_rfl) (by kernel_rfl) (by rfl)
    (by first | assumption | decide +kernel) (by decide +kernel) ⟨rfl, rfl, rfl, rfl, rfl, by decide +kernel⟩ ?hw ?hc
  case hw => w_witness2
  case hc =>
    refine Lw.walk_goes (l := PySem.Challenge.rw_labelways_k93_whole_lines_and_parts) (n := 63) (k := 10) (x := "_law_script") rfl (by decide) (by kernel_rfl) Lw.room_law fun w mg fa h Y G hmg => ?_
    have e : (HandSHeadRun.topDef Lw.R.prog 98).name = ("law" : PySem.Str) := by kernel_rfl
    rw [e] at hmg
    exact Lw.end_of Y G hmg
