import PyProof.Rows.All
import Wide.All
import OpenK.AllK
import Wide.FinOn
import HandS.ForMost
import HandS.Exc
import HandS.ExcInit
import HandS.Defaults
import HandS.Strs
import HandS.WideBits
import HandS.HeadHook4
import HandS.Codes
import HandS.IsInst
import HandS.ClsMeth
import HandS.Property
import HandS.ExcField
import HandS.Lambda
import KE.KTryMore
import PySem.Challenge.RW_firstdecides_k47_whole_shares_of_orders
import HandS.Head0
import HandS.Head1
import HandS.Head2
import HandS.HeadEnd
import HandS.HeadHook1
import HandS.HeadHook2
import HandS.HeadWalk
import HandS.Walk
import HandS.Zip
import HandS.DictComp
import HandS.RevRange
import HandS.Deep
import HandS.ListItems
import HandS.Conv
import HandS.DictTup
import HandS.Star
import HandS.TupLen
import KE.KDictCopyH
import KE.GoesMore
import KE.GoesZip
import KE.GoesEnum
import KE.Datum
import HandS.FStr
import PyProof.Rows.StrMeet
import PyProof.Rows.SortStr
import HandS.Style
import HandS.TupAny
import KE.KOpsOwn
import HandS.SlotsOwn
import KE.DataMinMax
import KE.SortData
import HandS.TryMany
import HandS.EndTab
set_option Elab.async false
set_option linter.all false
set_option maxRecDepth 100000
namespace FD
open PySem L2
def top (i : Nat) : Stmt := PySem.Challenge.pw_firstdecides_k47_whole_shares_of_orders.main.body.getD i (.Pass ⟨0, 0, 0, 0⟩)
abbrev FnP (K : PySem.W.Frag) (x qual : Str) (st : Stmt) (f : Addr) (fd : FuncData) : Prop := FunD K x qual (defArgs st) (defBody st) (defScope st) [] [] f fd
abbrev cls (K : PySem.W.Frag) (x : Str) : Addr := He.ga K x
abbrev meth (K : PySem.W.Frag) (x m : Str) : Addr := He.ma K (He.ga K x) m
abbrev s_full_mask : Stmt := top 17
theorem sc_full_mask : FnScope ["reasons"] ["reasons"] (defScope s_full_mask) := ⟨rfl, rfl, rfl, by decide +kernel, rfl, by decide +kernel, by decide +kernel⟩
abbrev s_mask_of : Stmt := top 18
theorem sc_mask_of : FnScope ["reasons", "names", "mask", "name"] ["reasons", "names"] (defScope s_mask_of) := ⟨rfl, rfl, rfl, by decide +kernel, rfl, by decide +kernel, by decide +kernel⟩
abbrev s_bits_of : Stmt := top 19
theorem sc_bits_of : FnScope ["mask", "at"] ["mask"] (defScope s_bits_of) := ⟨rfl, rfl, rfl, by decide +kernel, rfl, by decide +kernel, by decide +kernel⟩
abbrev s_side_masks : Stmt := top 20
theorem sc_side_masks : FnScope ["reasons", "row"] ["reasons", "row"] (defScope s_side_masks) := ⟨rfl, rfl, rfl, by decide +kernel, rfl, by decide +kernel, by decide +kernel⟩
abbrev s_row_masks : Stmt := top 21
theorem sc_row_masks : FnScope ["book", "row"] ["book"] (defScope s_row_masks) := ⟨rfl, rfl, rfl, by decide +kernel, rfl, by decide +kernel, by decide +kernel⟩
abbrev s_blocked_mask : Stmt := top 22
theorem sc_blocked_mask : FnScope ["pairs", "taken", "blocked", "pro", "con"] ["pairs", "taken"] (defScope s_blocked_mask) := ⟨rfl, rfl, rfl, by decide +kernel, rfl, by decide +kernel, by decide +kernel⟩
abbrev s_coming_mask : Stmt := top 23
theorem sc_coming_mask : FnScope ["pairs", "taken", "room"] ["pairs", "taken", "room"] (defScope s_coming_mask) := ⟨rfl, rfl, rfl, by decide +kernel, rfl, by decide +kernel, by decide +kernel⟩
abbrev s_greatest_within : Stmt := top 24
theorem sc_greatest_within : FnScope ["pairs", "room", "taken", "coming"] ["pairs", "room"] (defScope s_greatest_within) := ⟨rfl, rfl, rfl, by decide +kernel, rfl, by decide +kernel, by decide +kernel⟩
abbrev s_coming_table : Stmt := top 26
theorem sc_coming_table : FnScope ["book", "pairs", "full", "taken"] ["book"] (defScope s_coming_table) := ⟨rfl, rfl, rfl, by decide +kernel, rfl, by decide +kernel, by decide +kernel⟩
abbrev s_ending_counts : Stmt := top 27
theorem sc_ending_counts : FnScope ["coming", "last", "counts", "taken", "total", "bit"] ["coming"] (defScope s_ending_counts) := ⟨rfl, rfl, rfl, by decide +kernel, rfl, by decide +kernel, by decide +kernel⟩
abbrev s_is_spelled : Stmt := top 31
theorem sc_is_spelled : FnScope ["value", "most", "letter"] ["value", "most"] (defScope s_is_spelled) := ⟨rfl, rfl, rfl, by decide +kernel, rfl, by decide +kernel, by decide +kernel⟩
abbrev s_is_name : Stmt := top 32
theorem sc_is_name : FnScope ["value"] ["value"] (defScope s_is_name) := ⟨rfl, rfl, rfl, by decide +kernel, rfl, by decide +kernel, by decide +kernel⟩
abbrev s_is_names : Stmt := top 33
theorem sc_is_names : FnScope ["value", "item"] ["value"] (defScope s_is_names) := ⟨rfl, rfl, rfl, by decide +kernel, rfl, by decide +kernel, by decide +kernel⟩
abbrev s_nth_mark : Stmt := top 35
theorem sc_nth_mark : FnScope ["index", "mark", "rest", "letter"] ["index"] (defScope s_nth_mark) := ⟨rfl, rfl, rfl, by decide +kernel, rfl, by decide +kernel, by decide +kernel⟩
abbrev s_count_orders : Stmt := top 37
theorem sc_count_orders : FnScope ["book"] ["book"] (defScope s_count_orders) := ⟨rfl, rfl, rfl, by decide +kernel, rfl, by decide +kernel, by decide +kernel⟩
abbrev s_layered_mask : Stmt := top 39
theorem sc_layered_mask : FnScope ["book"] ["book"] (defScope s_layered_mask) := ⟨rfl, rfl, rfl, by decide +kernel, rfl, by decide +kernel, by decide +kernel⟩
abbrev s_stands : Stmt := top 40
theorem sc_stands : FnScope ["book"] ["book"] (defScope s_stands) := ⟨rfl, rfl, rfl, by decide +kernel, rfl, by decide +kernel, by decide +kernel⟩
abbrev s_greatest_stuck : Stmt := top 41
theorem sc_greatest_stuck : FnScope ["book", "layered", "mark", "row"] ["book"] (defScope s_greatest_stuck) := ⟨rfl, rfl, rfl, by decide +kernel, rfl, by decide +kernel, by decide +kernel⟩
abbrev s_check_reasons : Stmt := top 47
theorem sc_check_reasons : FnScope ["reasons", "at", "reason"] ["reasons"] (defScope s_check_reasons) := ⟨rfl, rfl, rfl, by decide +kernel, rfl, by decide +kernel, by decide +kernel⟩
abbrev s_is_line : Stmt := top 48
theorem sc_is_line : FnScope ["value", "many", "scores", "score"] ["value", "many"] (defScope s_is_line) := ⟨rfl, rfl, rfl, by decide +kernel, rfl, by decide +kernel, by decide +kernel⟩
abbrev s_check_lines : Stmt := top 49
theorem sc_check_lines : FnScope ["lines", "many", "at", "line", "names", "name"] ["lines", "many"] (defScope s_check_lines) := ⟨rfl, rfl, rfl, by decide +kernel, rfl, by decide +kernel, by decide +kernel⟩
abbrev s_need_reasons : Stmt := top 52
theorem sc_need_reasons : FnScope ["book", "other"] ["book", "other"] (defScope s_need_reasons) := ⟨rfl, rfl, rfl, by decide +kernel, rfl, by decide +kernel, by decide +kernel⟩
abbrev s_need_standing : Stmt := top 53
theorem sc_need_standing : FnScope ["book"] ["book"] (defScope s_need_standing) := ⟨rfl, rfl, rfl, by decide +kernel, rfl, by decide +kernel, by decide +kernel⟩
abbrev s_shares : Stmt := top 55
theorem sc_shares : FnScope ["book", "sheet", "answer"] ["book", "sheet"] (defScope s_shares) := ⟨rfl, rfl, rfl, by decide +kernel, rfl, by decide +kernel, by decide +kernel⟩
abbrev s_is_record : Stmt := top 60
theorem sc_is_record : FnScope ["value"] ["value"] (defScope s_is_record) := ⟨rfl, rfl, rfl, by decide +kernel, rfl, by decide +kernel, by decide +kernel⟩
abbrev s_stranger : Stmt := top 61
theorem sc_stranger : FnScope ["row", "reasons", "reason"] ["row", "reasons"] (defScope s_stranger) := ⟨rfl, rfl, rfl, by decide +kernel, rfl, by decide +kernel, by decide +kernel⟩
abbrev s_book_with : Stmt := top 63
theorem sc_book_with : FnScope ["reasons", "records", "book", "mark", "row"] ["reasons", "records"] (defScope s_book_with) := ⟨rfl, rfl, rfl, by decide +kernel, rfl, by decide +kernel, by decide +kernel⟩
abbrev s__law_bag : Stmt := top 68
theorem sc__law_bag : FnScope ["_law_script", "_law_cells", "_law_cell", "_law_start"] ["_law_script"] (defScope s__law_bag) := ⟨rfl, rfl, rfl, by decide +kernel, rfl, by decide +kernel, by decide +kernel⟩
abbrev s__law_draw : Stmt := top 69
theorem sc__law_draw : FnScope ["_law_bag_here", "_law_many", "_law_cell", "_law_got_here"] ["_law_bag_here", "_law_many"] (defScope s__law_draw) := ⟨rfl, rfl, rfl, by decide +kernel, rfl, by decide +kernel, by decide +kernel⟩
abbrev s__law_of : Stmt := top 70
theorem sc__law_of : FnScope ["_law_bag_here", "_law_row_here"] ["_law_bag_here", "_law_row_here"] (defScope s__law_of) := ⟨rfl, rfl, rfl, by decide +kernel, rfl, by decide +kernel, by decide +kernel⟩
abbrev s__law_mixed : Stmt := top 71
theorem sc__law_mixed : FnScope ["_law_bag_here", "_law_row_here", "_law_got_here", "_law_item"] ["_law_bag_here", "_law_row_here"] (defScope s__law_mixed) := ⟨rfl, rfl, rfl, by decide +kernel, rfl, by decide +kernel, by decide +kernel⟩
abbrev s__law_same : Stmt := top 72
theorem sc__law_same : FnScope ["_law_got_here", "_law_due", "_law_a", "_law_b"] ["_law_got_here", "_law_due"] (defScope s__law_same) := ⟨rfl, rfl, rfl, by decide +kernel, rfl, by decide +kernel, by decide +kernel⟩
abbrev s__law_words : Stmt := top 73
theorem sc__law_words : FnScope ["_law_bag_here", "_law_many", "_law_letters", "_law_stem", "_law_k", "_law_first", "_law_hop", "_law_gap", "_law_size", "_law_alike_here", "_law_got_here", "_law_part", "_law_cut"] ["_law_bag_here", "_law_many"] (defScope s__law_words) := ⟨rfl, rfl, rfl, by decide +kernel, rfl, by decide +kernel, by decide +kernel⟩
abbrev s__law_some : Stmt := top 74
theorem sc__law_some : FnScope ["_law_bag_here", "_law_many"] ["_law_bag_here", "_law_many"] (defScope s__law_some) := ⟨rfl, rfl, rfl, by decide +kernel, rfl, by decide +kernel, by decide +kernel⟩
abbrev s__law_few : Stmt := top 75
theorem sc__law_few : FnScope ["_law_bag_here"] ["_law_bag_here"] (defScope s__law_few) := ⟨rfl, rfl, rfl, by decide +kernel, rfl, by decide +kernel, by decide +kernel⟩
abbrev s__law_marks : Stmt := top 76
theorem sc__law_marks : FnScope ["_law_bag_here", "_law_many"] ["_law_bag_here", "_law_many"] (defScope s__law_marks) := ⟨rfl, rfl, rfl, by decide +kernel, rfl, by decide +kernel, by decide +kernel⟩
abbrev s__law_kth : Stmt := top 77
theorem sc__law_kth : FnScope ["_law_k", "_law_letters"] ["_law_k"] (defScope s__law_kth) := ⟨rfl, rfl, rfl, by decide +kernel, rfl, by decide +kernel, by decide +kernel⟩
abbrev s__law_row : Stmt := top 78
theorem sc__law_row : FnScope ["_law_bag_here", "_law_some_here", "_law_signs", "_law_a", "_law_s"] ["_law_bag_here", "_law_some_here"] (defScope s__law_row) := ⟨rfl, rfl, rfl, by decide +kernel, rfl, by decide +kernel, by decide +kernel⟩
abbrev s__law_bears : Stmt := top 79
theorem sc__law_bears : FnScope ["_law_p", "_law_row_here", "_law_a"] ["_law_p", "_law_row_here"] (defScope s__law_bears) := ⟨rfl, rfl, rfl, by decide +kernel, rfl, by decide +kernel, by decide +kernel⟩
abbrev s__law_recs : Stmt := top 80
theorem sc__law_recs : FnScope ["_law_bag_here", "_law_some_here", "_law_most", "_law_stand", "_law_lead", "_law_many", "_law_names", "_law_got_here", "_law_k", "_law_row_here"] ["_law_bag_here", "_law_some_here", "_law_most", "_law_stand"] (defScope s__law_recs) := ⟨rfl, rfl, rfl, by decide +kernel, rfl, by decide +kernel, by decide +kernel⟩
abbrev s__law_perms : Stmt := top 81
theorem sc__law_perms : FnScope ["_law_some_here", "_law_got_here", "_law_k", "_law_late", "_law_p", "_law_a"] ["_law_some_here"] (defScope s__law_perms) := ⟨rfl, rfl, rfl, by decide +kernel, rfl, by decide +kernel, by decide +kernel⟩
abbrev s__law_fit : Stmt := top 82
theorem sc__law_fit : FnScope ["_law_some_here", "_law_recs_here", "_law_got_here", "_law_m", "_law_row_here", "_law_p"] ["_law_some_here", "_law_recs_here"] (defScope s__law_fit) := ⟨rfl, rfl, rfl, by decide +kernel, rfl, by decide +kernel, by decide +kernel⟩
abbrev s__law_lot : Stmt := top 83
theorem sc__law_lot : FnScope ["_law_recs_here", "_law_few_here", "_law_rec", "_law_k", "_law_low", "_law_m", "_law_row_here", "_law_a"] ["_law_recs_here"] (defScope s__law_lot) := ⟨rfl, rfl, rfl, by decide +kernel, rfl, by decide +kernel, by decide +kernel⟩
abbrev s__law_grown : Stmt := top 84
theorem sc__law_grown : FnScope ["_law_recs_here", "_law_rows", "_law_used", "_law_m", "_law_row_here", "_law_free", "_law_k"] ["_law_recs_here", "_law_rows"] (defScope s__law_grown) := ⟨rfl, rfl, rfl, by decide +kernel, rfl, by decide +kernel, by decide +kernel⟩
abbrev s__law_book : Stmt := top 85
theorem sc__law_book : FnScope ["_law_bag_here", "_law_some_here", "_law_recs_here", "_law_few_here", "_law_x", "_law_m", "_law_row_here"] ["_law_bag_here", "_law_some_here", "_law_recs_here"] (defScope s__law_book) := ⟨rfl, rfl, rfl, by decide +kernel, rfl, by decide +kernel, by decide +kernel⟩
abbrev s__law_sides : Stmt := top 86
theorem sc__law_sides : FnScope ["_law_x"] ["_law_x"] (defScope s__law_sides) := ⟨rfl, rfl, rfl, by decide +kernel, rfl, by decide +kernel, by decide +kernel⟩
abbrev s__law_told : Stmt := top 87
theorem sc__law_told : FnScope ["_law_x", "_law_m", "_law_row_here"] ["_law_x"] (defScope s__law_told) := ⟨rfl, rfl, rfl, by decide +kernel, rfl, by decide +kernel, by decide +kernel⟩
abbrev s__law_lines : Stmt := top 88
theorem sc__law_lines : FnScope ["_law_bag_here", "_law_some_here", "_law_most", "_law_names", "_law_got_here", "_law_sides_here", "_law_b", "_law_side", "_law_k", "_law_a", "_law_wide", "_law_row_here"] ["_law_bag_here", "_law_some_here", "_law_most"] (defScope s__law_lines) := ⟨rfl, rfl, rfl, by decide +kernel, rfl, by decide +kernel, by decide +kernel⟩
abbrev s__law_made : Stmt := top 89
theorem sc__law_made : FnScope ["_law_few_here", "_law_given", "_law_n"] ["_law_few_here", "_law_given"] (defScope s__law_made) := ⟨rfl, rfl, rfl, by decide +kernel, rfl, by decide +kernel, by decide +kernel⟩
abbrev s__law_sheet : Stmt := top 90
theorem sc__law_sheet : FnScope ["_law_bag_here", "_law_some_here", "_law_lines_here", "_law_few_here", "_law_how", "_law_a", "_law_row_here"] ["_law_bag_here", "_law_some_here", "_law_lines_here"] (defScope s__law_sheet) := ⟨rfl, rfl, rfl, by decide +kernel, rfl, by decide +kernel, by decide +kernel⟩
abbrev s__law_scores : Stmt := top 91
theorem sc__law_scores : FnScope ["_law_lines_here", "_law_a", "_law_b", "_law_row_here"] ["_law_lines_here", "_law_a"] (defScope s__law_scores) := ⟨rfl, rfl, rfl, by decide +kernel, rfl, by decide +kernel, by decide +kernel⟩
abbrev s__law_alike : Stmt := top 92
theorem sc__law_alike : FnScope ["_law_lines_here", "_law_a", "_law_b", "_law_row_here"] ["_law_lines_here", "_law_a"] (defScope s__law_alike) := ⟨rfl, rfl, rfl, by decide +kernel, rfl, by decide +kernel, by decide +kernel⟩
abbrev s__law_answers : Stmt := top 93
theorem sc__law_answers : FnScope ["_law_lines_here", "_law_got_here", "_law_a", "_law_row_here"] ["_law_lines_here"] (defScope s__law_answers) := ⟨rfl, rfl, rfl, by decide +kernel, rfl, by decide +kernel, by decide +kernel⟩
abbrev s__law_win : Stmt := top 94
theorem sc__law_win : FnScope ["_law_some_here", "_law_lines_here", "_law_p", "_law_read", "_law_b", "_law_a", "_law_row_here", "_law_least"] ["_law_some_here", "_law_lines_here", "_law_p"] (defScope s__law_win) := ⟨rfl, rfl, rfl, by decide +kernel, rfl, by decide +kernel, by decide +kernel⟩
abbrev s__law_other : Stmt := top 95
theorem sc__law_other : FnScope ["_law_bag_here", "_law_some_here", "_law_fresh", "_law_a", "_law_few_here"] ["_law_bag_here", "_law_some_here"] (defScope s__law_other) := ⟨rfl, rfl, rfl, by decide +kernel, rfl, by decide +kernel, by decide +kernel⟩
abbrev s__law_world : Stmt := top 96
theorem sc__law_world : FnScope ["_law_bag_here", "_law_most", "_law_some_here", "_law_recs_here", "_law_far"] ["_law_bag_here", "_law_most"] (defScope s__law_world) := ⟨rfl, rfl, rfl, by decide +kernel, rfl, by decide +kernel, by decide +kernel⟩
abbrev s__law_wrong : Stmt := top 97
theorem sc__law_wrong : FnScope ["_law_some_here", "_law_far", "_law_lines_here", "_law_recs_here", "_law_fit_here", "_law_asked", "_law_v", "_law_a", "_law_row_here"] ["_law_some_here", "_law_far", "_law_lines_here", "_law_recs_here", "_law_fit_here", "_law_asked"] (defScope s__law_wrong) := ⟨rfl, rfl, rfl, by decide +kernel, rfl, by decide +kernel, by decide +kernel⟩
abbrev s__law_raise : Stmt := top 98
theorem sc__law_raise : FnScope ["_law_asks", "_law_due", "_law_ask"] ["_law_asks", "_law_due"] (defScope s__law_raise) := ⟨rfl, rfl, rfl, by decide +kernel, rfl, by decide +kernel, by decide +kernel⟩
abbrev s__law_got : Stmt := top 99
theorem sc__law_got : FnScope ["_law_ask", "e"] ["_law_ask"] (defScope s__law_got) := ⟨rfl, rfl, rfl, by decide +kernel, rfl, by decide +kernel, by decide +kernel⟩
abbrev s__law_tally : Stmt := top 100
theorem sc__law_tally : FnScope ["_law_some_here", "_law_lines_here", "_law_fit_here", "_law_got_here", "_law_few_here", "_law_p"] ["_law_some_here", "_law_lines_here", "_law_fit_here"] (defScope s__law_tally) := ⟨rfl, rfl, rfl, by decide +kernel, rfl, by decide +kernel, by decide +kernel⟩
abbrev s__law_full : Stmt := top 101
theorem sc__law_full : FnScope ["_law_bag_here", "_law_some_here", "_law_lead", "_law_few_here", "_law_k", "_law_row_here", "_law_recs_here", "_law_lines_here", "_law_b", "_law_a"] ["_law_bag_here"] (defScope s__law_full) := ⟨rfl, rfl, rfl, by decide +kernel, rfl, by decide +kernel, by decide +kernel⟩
abbrev s__law_full_so : Stmt := top 102
theorem sc__law_full_so : FnScope ["_law_bag_here", "_law_some_here", "_law_recs_here", "_law_fit_here", "_law_lines_here"] ["_law_bag_here"] (defScope s__law_full_so) := ⟨rfl, rfl, rfl, by decide +kernel, rfl, by decide +kernel, by decide +kernel⟩
abbrev s_law : Stmt := top 103
theorem sc_law : FnScope ["_law_script", "_law_bag_here", "_law_some_here", "_law_recs_here", "_law_far", "_law_lines_here", "_law_fit_here", "_law_more", "_law_x", "_law_s", "_law_t", "_law_due", "_law_k", "_law_got_here", "_law_row_here", "_law_late", "_law_y"] ["_law_script"] (defScope s_law) := ⟨rfl, rfl, rfl, by decide +kernel, rfl, by decide +kernel, by decide +kernel⟩
abbrev s_Row_init : Stmt := inClass (top 43) 0
theorem sc_Row_init : FnScope ["self", "pro", "con", "name"] ["self", "pro", "con"] (defScope s_Row_init) := ⟨rfl, rfl, rfl, by decide +kernel, rfl, by decide +kernel, by decide +kernel⟩
abbrev s_Row_idle : Stmt := inClass (top 43) 1
theorem sc_Row_idle : FnScope ["self"] ["self"] (defScope s_Row_idle) := ⟨rfl, rfl, rfl, by decide +kernel, rfl, by decide +kernel, by decide +kernel⟩
abbrev s_Sheet_init : Stmt := inClass (top 50) 0
theorem sc_Sheet_init : FnScope ["self", "reasons", "lines", "line"] ["self", "reasons", "lines"] (defScope s_Sheet_init) := ⟨rfl, rfl, rfl, by decide +kernel, rfl, by decide +kernel, by decide +kernel⟩
abbrev s_Sheetcheck : Stmt := inClass (top 50) 1
theorem sc_Sheetcheck : FnScope ["self", "offer"] ["self", "offer"] (defScope s_Sheetcheck) := ⟨rfl, rfl, rfl, by decide +kernel, rfl, by decide +kernel, by decide +kernel⟩
abbrev s_Sheet_difference : Stmt := inClass (top 50) 4
theorem sc_Sheet_difference : FnScope ["self", "one", "other", "own", "theirs"] ["self", "one", "other"] (defScope s_Sheet_difference) := ⟨rfl, rfl, rfl, by decide +kernel, rfl, by decide +kernel, by decide +kernel⟩
abbrev s_Sheet_row : Stmt := inClass (top 50) 5
theorem sc_Sheet_row : FnScope ["self", "one", "other", "gaps", "pro", "reason", "gap", "con"] ["self", "one", "other"] (defScope s_Sheet_row) := ⟨rfl, rfl, rfl, by decide +kernel, rfl, by decide +kernel, by decide +kernel⟩
abbrev s_Sheet_rivals : Stmt := inClass (top 50) 6
theorem sc_Sheet_rivals : FnScope ["self", "offer", "own", "name"] ["self", "offer"] (defScope s_Sheet_rivals) := ⟨rfl, rfl, rfl, by decide +kernel, rfl, by decide +kernel, by decide +kernel⟩
abbrev s_Sheet_rows : Stmt := inClass (top 50) 7
theorem sc_Sheet_rows : FnScope ["self", "offer", "rival"] ["self", "offer"] (defScope s_Sheet_rows) := ⟨rfl, rfl, rfl, by decide +kernel, rfl, by decide +kernel, by decide +kernel⟩
abbrev s_Sheet_answer_of : Stmt := inClass (top 50) 9
theorem sc_Sheet_answer_of : FnScope ["self", "offer", "own", "name"] ["self", "offer"] (defScope s_Sheet_answer_of) := ⟨rfl, rfl, rfl, by decide +kernel, rfl, by decide +kernel, by decide +kernel⟩
abbrev s_Sheet_answers : Stmt := inClass (top 50) 10
theorem sc_Sheet_answers : FnScope ["self", "found", "name", "alike"] ["self"] (defScope s_Sheet_answers) := ⟨rfl, rfl, rfl, by decide +kernel, rfl, by decide +kernel, by decide +kernel⟩
abbrev s_Book_init : Stmt := inClass (top 62) 1
theorem sc_Book_init : FnScope ["self", "reasons", "records", "at", "record", "by_mark", "mark", "row", "reason"] ["self", "reasons", "records"] (defScope s_Book_init) := ⟨rfl, rfl, rfl, by decide +kernel, rfl, by decide +kernel, by decide +kernel⟩
abbrev s_Book_records : Stmt := inClass (top 62) 2
theorem sc_Book_records : FnScope ["self"] ["self"] (defScope s_Book_records) := ⟨rfl, rfl, rfl, by decide +kernel, rfl, by decide +kernel, by decide +kernel⟩
abbrev s_Book_rows : Stmt := inClass (top 62) 4
theorem sc_Book_rows : FnScope ["self"] ["self"] (defScope s_Book_rows) := ⟨rfl, rfl, rfl, by decide +kernel, rfl, by decide +kernel, by decide +kernel⟩
abbrev s_Book_grown : Stmt := inClass (top 62) 8
theorem sc_Book_grown : FnScope ["self", "rows", "row", "reason", "records", "index"] ["self", "rows"] (defScope s_Book_grown) := ⟨rfl, rfl, rfl, by decide +kernel, rfl, by decide +kernel, by decide +kernel⟩
abbrev s_Book_add : Stmt := inClass (top 62) 13
theorem sc_Book_add : FnScope ["self", "record", "records"] ["self", "record"] (defScope s_Book_add) := ⟨rfl, rfl, rfl, by decide +kernel, rfl, by decide +kernel, by decide +kernel⟩
abbrev s_Stuck_init : Stmt := inClass (top 12) 0
theorem sc_Stuck_init : FnScope ["self", "lot"] ["self", "lot"] (defScope s_Stuck_init) := ⟨rfl, rfl, rfl, by decide +kernel, rfl, by decide +kernel, by decide +kernel⟩
abbrev s_OtherReasons_init : Stmt := inClass (top 11) 0
theorem sc_OtherReasons_init : FnScope ["self"] ["self"] (defScope s_OtherReasons_init) := ⟨rfl, rfl, rfl, by decide +kernel, rfl, by decide +kernel, by decide +kernel⟩
/-- what the class at C answers of + (its own), a tuple on the right -/
structure AddF (K : PySem.W.Frag) (C : Addr) : Prop where
  sf : PySem.W.selfFirst K C = true
  ra : PySem.W.findIn K (.ref C) "__radd__" = some none
  ta : ∃ fo, PySem.W.findIn K (.type "tuple") "__add__" = some fo
  tr : ∃ ro, PySem.W.findIn K (.type "tuple") "__radd__" = some ro
  su : PySem.W.subIn K (.type "tuple") (.ref C) = some false
/-- what the module holds behind its top -/
structure Mo (K : PySem.W.Frag) (mg : Str → Option Value) : Prop where
  n_len : mg "len" = none
  n_isinstance : mg "isinstance" = none
  n_sorted : mg "sorted" = none
  n_sum : mg "sum" = none
  n_all : mg "all" = none
  n_any : mg "any" = none
  n_reversed : mg "reversed" = none
  n_enumerate : mg "enumerate" = none
  n_zip : mg "zip" = none
  n_min : mg "min" = none
  n_divmod : mg "divmod" = none
  n_int : mg "int" = none
  n_str : mg "str" = none
  n_list : mg "list" = none
  n_tuple : mg "tuple" = none
  n_dict : mg "dict" = none
  n_bool : mg "bool" = none
  n_set : mg "set" = none
  n_range : mg "range" = none
  g_NAME_LENGTH : ∃ t, mg "NAME_LENGTH" = some (.int 6 t)
  g_MOST_REASONS_sheets : ∃ t, mg "MOST_REASONS_sheets" = some (.int 7 t)
  g_MOST_LINES : ∃ t, mg "MOST_LINES" = some (.int 6 t)
  g_MOST_REASONS_books : ∃ t, mg "MOST_REASONS_books" = some (.int 7 t)
  g_LETTERS : ∃ t, mg "LETTERS" = some (.str "abcdefghijklmnopqrstuvwxyz" t)
  f_full_mask : ∃ fd, FnP K "full_mask" "full_mask" s_full_mask (He.ga K "full_mask") fd
  g_full_mask : mg "full_mask" = some (.ref (He.ga K "full_mask"))
  f_mask_of : ∃ fd, FnP K "mask_of" "mask_of" s_mask_of (He.ga K "mask_of") fd
  g_mask_of : mg "mask_of" = some (.ref (He.ga K "mask_of"))
  f_bits_of : ∃ fd, FnP K "bits_of" "bits_of" s_bits_of (He.ga K "bits_of") fd
  g_bits_of : mg "bits_of" = some (.ref (He.ga K "bits_of"))
  f_side_masks : ∃ fd, FnP K "side_masks" "side_masks" s_side_masks (He.ga K "side_masks") fd
  g_side_masks : mg "side_masks" = some (.ref (He.ga K "side_masks"))
  f_row_masks : ∃ fd, FnP K "row_masks" "row_masks" s_row_masks (He.ga K "row_masks") fd
  g_row_masks : mg "row_masks" = some (.ref (He.ga K "row_masks"))
  f_blocked_mask : ∃ fd, FnP K "blocked_mask" "blocked_mask" s_blocked_mask (He.ga K "blocked_mask") fd
  g_blocked_mask : mg "blocked_mask" = some (.ref (He.ga K "blocked_mask"))
  f_coming_mask : ∃ fd, FnP K "coming_mask" "coming_mask" s_coming_mask (He.ga K "coming_mask") fd
  g_coming_mask : mg "coming_mask" = some (.ref (He.ga K "coming_mask"))
  f_greatest_within : ∃ fd, FnP K "greatest_within" "greatest_within" s_greatest_within (He.ga K "greatest_within") fd
  g_greatest_within : mg "greatest_within" = some (.ref (He.ga K "greatest_within"))
  f_coming_table : ∃ fd, FnP K "coming_table" "coming_table" s_coming_table (He.ga K "coming_table") fd
  g_coming_table : mg "coming_table" = some (.ref (He.ga K "coming_table"))
  f_ending_counts : ∃ fd, FnP K "ending_counts" "ending_counts" s_ending_counts (He.ga K "ending_counts") fd
  g_ending_counts : mg "ending_counts" = some (.ref (He.ga K "ending_counts"))
  f_is_spelled : ∃ fd, FnP K "is_spelled" "is_spelled" s_is_spelled (He.ga K "is_spelled") fd
  g_is_spelled : mg "is_spelled" = some (.ref (He.ga K "is_spelled"))
  f_is_name : ∃ fd, FnP K "is_name" "is_name" s_is_name (He.ga K "is_name") fd
  g_is_name : mg "is_name" = some (.ref (He.ga K "is_name"))
  f_is_names : ∃ fd, FnP K "is_names" "is_names" s_is_names (He.ga K "is_names") fd
  g_is_names : mg "is_names" = some (.ref (He.ga K "is_names"))
  f_nth_mark : ∃ fd, FnP K "nth_mark" "nth_mark" s_nth_mark (He.ga K "nth_mark") fd
  g_nth_mark : mg "nth_mark" = some (.ref (He.ga K "nth_mark"))
  f_count_orders : ∃ fd, FnP K "count_orders" "count_orders" s_count_orders (He.ga K "count_orders") fd
  g_count_orders : mg "count_orders" = some (.ref (He.ga K "count_orders"))
  f_layered_mask : ∃ fd, FnP K "layered_mask" "layered_mask" s_layered_mask (He.ga K "layered_mask") fd
  g_layered_mask : mg "layered_mask" = some (.ref (He.ga K "layered_mask"))
  f_stands : ∃ fd, FnP K "stands" "stands" s_stands (He.ga K "stands") fd
  g_stands : mg "stands" = some (.ref (He.ga K "stands"))
  f_greatest_stuck : ∃ fd, FnP K "greatest_stuck" "greatest_stuck" s_greatest_stuck (He.ga K "greatest_stuck") fd
  g_greatest_stuck : mg "greatest_stuck" = some (.ref (He.ga K "greatest_stuck"))
  f_check_reasons : ∃ fd, FnP K "check_reasons" "check_reasons" s_check_reasons (He.ga K "check_reasons") fd
  g_check_reasons : mg "check_reasons" = some (.ref (He.ga K "check_reasons"))
  f_is_line : ∃ fd, FnP K "is_line" "is_line" s_is_line (He.ga K "is_line") fd
  g_is_line : mg "is_line" = some (.ref (He.ga K "is_line"))
  f_check_lines : ∃ fd, FnP K "check_lines" "check_lines" s_check_lines (He.ga K "check_lines") fd
  g_check_lines : mg "check_lines" = some (.ref (He.ga K "check_lines"))
  f_need_reasons : ∃ fd, FnP K "need_reasons" "need_reasons" s_need_reasons (He.ga K "need_reasons") fd
  g_need_reasons : mg "need_reasons" = some (.ref (He.ga K "need_reasons"))
  f_need_standing : ∃ fd, FnP K "need_standing" "need_standing" s_need_standing (He.ga K "need_standing") fd
  g_need_standing : mg "need_standing" = some (.ref (He.ga K "need_standing"))
  f_shares : ∃ fd, FnP K "shares" "shares" s_shares (He.ga K "shares") fd
  g_shares : mg "shares" = some (.ref (He.ga K "shares"))
  f_is_record : ∃ fd, FnP K "is_record" "is_record" s_is_record (He.ga K "is_record") fd
  g_is_record : mg "is_record" = some (.ref (He.ga K "is_record"))
  f_stranger : ∃ fd, FnP K "stranger" "stranger" s_stranger (He.ga K "stranger") fd
  g_stranger : mg "stranger" = some (.ref (He.ga K "stranger"))
  f_book_with : ∃ fd, FnP K "book_with" "book_with" s_book_with (He.ga K "book_with") fd
  g_book_with : mg "book_with" = some (.ref (He.ga K "book_with"))
  f__law_bag : ∃ fd, FnP K "_law_bag" "_law_bag" s__law_bag (He.ga K "_law_bag") fd
  g__law_bag : mg "_law_bag" = some (.ref (He.ga K "_law_bag"))
  f__law_draw : ∃ fd, FnP K "_law_draw" "_law_draw" s__law_draw (He.ga K "_law_draw") fd
  g__law_draw : mg "_law_draw" = some (.ref (He.ga K "_law_draw"))
  f__law_of : ∃ fd, FnP K "_law_of" "_law_of" s__law_of (He.ga K "_law_of") fd
  g__law_of : mg "_law_of" = some (.ref (He.ga K "_law_of"))
  f__law_mixed : ∃ fd, FnP K "_law_mixed" "_law_mixed" s__law_mixed (He.ga K "_law_mixed") fd
  g__law_mixed : mg "_law_mixed" = some (.ref (He.ga K "_law_mixed"))
  f__law_same : ∃ fd, FnP K "_law_same" "_law_same" s__law_same (He.ga K "_law_same") fd
  g__law_same : mg "_law_same" = some (.ref (He.ga K "_law_same"))
  f__law_words : ∃ fd, FnP K "_law_words" "_law_words" s__law_words (He.ga K "_law_words") fd
  g__law_words : mg "_law_words" = some (.ref (He.ga K "_law_words"))
  f__law_some : ∃ fd, FnP K "_law_some" "_law_some" s__law_some (He.ga K "_law_some") fd
  g__law_some : mg "_law_some" = some (.ref (He.ga K "_law_some"))
  f__law_few : ∃ fd, FnP K "_law_few" "_law_few" s__law_few (He.ga K "_law_few") fd
  g__law_few : mg "_law_few" = some (.ref (He.ga K "_law_few"))
  f__law_marks : ∃ fd, FnP K "_law_marks" "_law_marks" s__law_marks (He.ga K "_law_marks") fd
  g__law_marks : mg "_law_marks" = some (.ref (He.ga K "_law_marks"))
  f__law_kth : ∃ fd, FnP K "_law_kth" "_law_kth" s__law_kth (He.ga K "_law_kth") fd
  g__law_kth : mg "_law_kth" = some (.ref (He.ga K "_law_kth"))
  f__law_row : ∃ fd, FnP K "_law_row" "_law_row" s__law_row (He.ga K "_law_row") fd
  g__law_row : mg "_law_row" = some (.ref (He.ga K "_law_row"))
  f__law_bears : ∃ fd, FnP K "_law_bears" "_law_bears" s__law_bears (He.ga K "_law_bears") fd
  g__law_bears : mg "_law_bears" = some (.ref (He.ga K "_law_bears"))
  f__law_recs : ∃ fd, FnP K "_law_recs" "_law_recs" s__law_recs (He.ga K "_law_recs") fd
  g__law_recs : mg "_law_recs" = some (.ref (He.ga K "_law_recs"))
  f__law_perms : ∃ fd, FnP K "_law_perms" "_law_perms" s__law_perms (He.ga K "_law_perms") fd
  g__law_perms : mg "_law_perms" = some (.ref (He.ga K "_law_perms"))
  f__law_fit : ∃ fd, FnP K "_law_fit" "_law_fit" s__law_fit (He.ga K "_law_fit") fd
  g__law_fit : mg "_law_fit" = some (.ref (He.ga K "_law_fit"))
  f__law_lot : ∃ fd, FnP K "_law_lot" "_law_lot" s__law_lot (He.ga K "_law_lot") fd
  g__law_lot : mg "_law_lot" = some (.ref (He.ga K "_law_lot"))
  f__law_grown : ∃ fd, FnP K "_law_grown" "_law_grown" s__law_grown (He.ga K "_law_grown") fd
  g__law_grown : mg "_law_grown" = some (.ref (He.ga K "_law_grown"))
  f__law_book : ∃ fd, FnP K "_law_book" "_law_book" s__law_book (He.ga K "_law_book") fd
  g__law_book : mg "_law_book" = some (.ref (He.ga K "_law_book"))
  f__law_sides : ∃ fd, FnP K "_law_sides" "_law_sides" s__law_sides (He.ga K "_law_sides") fd
  g__law_sides : mg "_law_sides" = some (.ref (He.ga K "_law_sides"))
  f__law_told : ∃ fd, FnP K "_law_told" "_law_told" s__law_told (He.ga K "_law_told") fd
  g__law_told : mg "_law_told" = some (.ref (He.ga K "_law_told"))
  f__law_lines : ∃ fd, FnP K "_law_lines" "_law_lines" s__law_lines (He.ga K "_law_lines") fd
  g__law_lines : mg "_law_lines" = some (.ref (He.ga K "_law_lines"))
  f__law_made : ∃ fd, FnP K "_law_made" "_law_made" s__law_made (He.ga K "_law_made") fd
  g__law_made : mg "_law_made" = some (.ref (He.ga K "_law_made"))
  f__law_sheet : ∃ fd, FnP K "_law_sheet" "_law_sheet" s__law_sheet (He.ga K "_law_sheet") fd
  g__law_sheet : mg "_law_sheet" = some (.ref (He.ga K "_law_sheet"))
  f__law_scores : ∃ fd, FnP K "_law_scores" "_law_scores" s__law_scores (He.ga K "_law_scores") fd
  g__law_scores : mg "_law_scores" = some (.ref (He.ga K "_law_scores"))
  f__law_alike : ∃ fd, FnP K "_law_alike" "_law_alike" s__law_alike (He.ga K "_law_alike") fd
  g__law_alike : mg "_law_alike" = some (.ref (He.ga K "_law_alike"))
  f__law_answers : ∃ fd, FnP K "_law_answers" "_law_answers" s__law_answers (He.ga K "_law_answers") fd
  g__law_answers : mg "_law_answers" = some (.ref (He.ga K "_law_answers"))
  f__law_win : ∃ fd, FnP K "_law_win" "_law_win" s__law_win (He.ga K "_law_win") fd
  g__law_win : mg "_law_win" = some (.ref (He.ga K "_law_win"))
  f__law_other : ∃ fd, FnP K "_law_other" "_law_other" s__law_other (He.ga K "_law_other") fd
  g__law_other : mg "_law_other" = some (.ref (He.ga K "_law_other"))
  f__law_world : ∃ fd, FnP K "_law_world" "_law_world" s__law_world (He.ga K "_law_world") fd
  g__law_world : mg "_law_world" = some (.ref (He.ga K "_law_world"))
  f__law_wrong : ∃ fd, FnP K "_law_wrong" "_law_wrong" s__law_wrong (He.ga K "_law_wrong") fd
  g__law_wrong : mg "_law_wrong" = some (.ref (He.ga K "_law_wrong"))
  f__law_raise : ∃ fd, FnP K "_law_raise" "_law_raise" s__law_raise (He.ga K "_law_raise") fd
  g__law_raise : mg "_law_raise" = some (.ref (He.ga K "_law_raise"))
  f__law_got : ∃ fd, FnP K "_law_got" "_law_got" s__law_got (He.ga K "_law_got") fd
  g__law_got : mg "_law_got" = some (.ref (He.ga K "_law_got"))
  f__law_tally : ∃ fd, FnP K "_law_tally" "_law_tally" s__law_tally (He.ga K "_law_tally") fd
  g__law_tally : mg "_law_tally" = some (.ref (He.ga K "_law_tally"))
  f__law_full : ∃ fd, FnP K "_law_full" "_law_full" s__law_full (He.ga K "_law_full") fd
  g__law_full : mg "_law_full" = some (.ref (He.ga K "_law_full"))
  f__law_full_so : ∃ fd, FnP K "_law_full_so" "_law_full_so" s__law_full_so (He.ga K "_law_full_so") fd
  g__law_full_so : mg "_law_full_so" = some (.ref (He.ga K "_law_full_so"))
  f_law : ∃ fd, FnP K "law" "law" s_law (He.ga K "law") fd
  g_law : mg "law" = some (.ref (He.ga K "law"))
  f_Row_init : ∃ fd dvs, dvs.length = 2 ∧ FunD K "__init__" "Row.__init__" (defArgs s_Row_init) (defBody s_Row_init) (defScope s_Row_init) dvs [] (meth K "Row" "__init__") fd
  f_Row_idle : ∃ p g fd, FnP K "idle" "Row.idle" s_Row_idle g fd ∧ PropOf K (cls K "Row") "idle" p g
  f_Sheet_init : ∃ fd, FnP K "__init__" "Sheet.__init__" s_Sheet_init (meth K "Sheet" "__init__") fd
  f_Sheetcheck : ∃ fd, FnP K "_check" "Sheet._check" s_Sheetcheck (meth K "Sheet" "_check") fd
  f_Sheet_difference : ∃ fd, FnP K "difference" "Sheet.difference" s_Sheet_difference (meth K "Sheet" "difference") fd
  f_Sheet_row : ∃ fd, FnP K "row" "Sheet.row" s_Sheet_row (meth K "Sheet" "row") fd
  f_Sheet_rivals : ∃ fd, FnP K "rivals" "Sheet.rivals" s_Sheet_rivals (meth K "Sheet" "rivals") fd
  f_Sheet_rows : ∃ fd, FnP K "rows" "Sheet.rows" s_Sheet_rows (meth K "Sheet" "rows") fd
  f_Sheet_answer_of : ∃ fd, FnP K "answer_of" "Sheet.answer_of" s_Sheet_answer_of (meth K "Sheet" "answer_of") fd
  f_Sheet_answers : ∃ fd, FnP K "answers" "Sheet.answers" s_Sheet_answers (meth K "Sheet" "answers") fd
  f_Book_init : ∃ fd, FnP K "__init__" "Book.__init__" s_Book_init (meth K "Book" "__init__") fd
  f_Book_records : ∃ fd, FnP K "records" "Book.records" s_Book_records (meth K "Book" "records") fd
  f_Book_rows : ∃ fd, FnP K "rows" "Book.rows" s_Book_rows (meth K "Book" "rows") fd
  f_Book_grown : ∃ fd, FnP K "grown" "Book.grown" s_Book_grown (meth K "Book" "grown") fd
  f_Book_add : ∃ fd, FnP K "__add__" "Book.__add__" s_Book_add (meth K "Book" "__add__") fd
  f_Stuck_init : ∃ fd, FnP K "__init__" "Stuck.__init__" s_Stuck_init (meth K "Stuck" "__init__") fd
  f_OtherReasons_init : ∃ fd, FnP K "__init__" "OtherReasons.__init__" s_OtherReasons_init (meth K "OtherReasons" "__init__") fd
  cl_Row : Cls K (cls K "Row")
  g_Row : mg "Row" = some (.ref (cls K "Row"))
  na_Row_pro : NoAttr K (cls K "Row") "pro"
  na_Row_con : NoAttr K (cls K "Row") "con"
  na_Row_named : NoAttr K (cls K "Row") "named"
  mk_Row : Mk K (cls K "Row") (meth K "Row" "__init__")
  cl_Sheet : Cls K (cls K "Sheet")
  g_Sheet : mg "Sheet" = some (.ref (cls K "Sheet"))
  na_Sheet_reasons : NoAttr K (cls K "Sheet") "reasons"
  na_Sheet__names : NoAttr K (cls K "Sheet") "_names"
  na_Sheet__scores : NoAttr K (cls K "Sheet") "_scores"
  mk_Sheet : Mk K (cls K "Sheet") (meth K "Sheet" "__init__")
  cl_Book : Cls K (cls K "Book")
  g_Book : mg "Book" = some (.ref (cls K "Book"))
  na_Book_reasons : NoAttr K (cls K "Book") "reasons"
  na_Book_by_mark : NoAttr K (cls K "Book") "by_mark"
  mk_Book : Mk K (cls K "Book") (meth K "Book" "__init__")
  v_MOST : ∃ mc u, ClX.CRead K (cls K "Book") mc ∧ ClX.CVal K (cls K "Book") mc "MOST" (.int 40) u
  ad_Book : AddF K (cls K "Book")
  isc_Row : C8.InsC K (cls K "Row")
  isc_Book : C8.InsC K (cls K "Book")
  m_Sheetcheck : Meth K (cls K "Sheet") "_check" (meth K "Sheet" "_check")
  m_Sheet_difference : Meth K (cls K "Sheet") "difference" (meth K "Sheet" "difference")
  m_Sheet_row : Meth K (cls K "Sheet") "row" (meth K "Sheet" "row")
  m_Sheet_rivals : Meth K (cls K "Sheet") "rivals" (meth K "Sheet" "rivals")
  m_Sheet_rows : Meth K (cls K "Sheet") "rows" (meth K "Sheet" "rows")
  m_Sheet_answer_of : Meth K (cls K "Sheet") "answer_of" (meth K "Sheet" "answer_of")
  m_Sheet_answers : Meth K (cls K "Sheet") "answers" (meth K "Sheet" "answers")
  m_Book_records : Meth K (cls K "Book") "records" (meth K "Book" "records")
  m_Book_rows : Meth K (cls K "Book") "rows" (meth K "Book" "rows")
  m_Book_grown : Meth K (cls K "Book") "grown" (meth K "Book" "grown")
  m_Book_add : Meth K (cls K "Book") "__add__" (meth K "Book" "__add__")
  ox_Stuck : OexC K (cls K "Stuck")
  g_Stuck : mg "Stuck" = some (.ref (cls K "Stuck"))
  ini_Stuck : PySem.W.findIn K (.ref (cls K "Stuck")) "__init__" = some (some (.ref (meth K "Stuck" "__init__")))
  tyi_Stuck : PySem.W.typeIn K (.ref (meth K "Stuck" "__init__")) = some (.type "function")
  xf_Stuck : XfC K (cls K "Stuck")
  no_Stuck_code : PySem.W.findIn K (.ref (cls K "Stuck")) "code" = some none
  no_Stuck_lot : PySem.W.findIn K (.ref (cls K "Stuck")) "lot" = some none
  ox_OtherReasons : OexC K (cls K "OtherReasons")
  g_OtherReasons : mg "OtherReasons" = some (.ref (cls K "OtherReasons"))
  ini_OtherReasons : PySem.W.findIn K (.ref (cls K "OtherReasons")) "__init__" = some (some (.ref (meth K "OtherReasons" "__init__")))
  tyi_OtherReasons : PySem.W.typeIn K (.ref (meth K "OtherReasons" "__init__")) = some (.type "function")
  xf_OtherReasons : XfC K (cls K "OtherReasons")
  no_OtherReasons_code : PySem.W.findIn K (.ref (cls K "OtherReasons")) "code" = some none
  g_ChoiceError : mg "ChoiceError" = some (.ref (cls K "ChoiceError"))
  g_Missing : mg "Missing" = some (.ref (cls K "Missing"))
  em_SS : PySem.W.exmOne K (.ref (cls K "Stuck")) (.ref (cls K "Stuck")) = some true
  em_OS : PySem.W.exmOne K (.ref (cls K "OtherReasons")) (.ref (cls K "Stuck")) = some false
  em_O : PySem.W.exmAny K (.ref (cls K "OtherReasons")) [.ref (cls K "ChoiceError"), .ref (cls K "Missing")] = some true
end FD
namespace FD
open PySem PySem.Spec PyProof.Rows L2
/-! ### the head: a hook whose defs stand at addresses of one's own -/
def fnAt (K : PySem.W.Frag) (a : Addr) : He.FnW := match K.lookup a with
  | some ⟨_, _, .func fd, _⟩ => some (fd.name, fd.qualname, fd.params, fd.body, fd.scope, fd.globals, fd.closure, fd.builtins)
  | _ => none
def okAt (K : PySem.W.Frag) (a : Addr) (d : He.DefD) : Bool := PySem.W.keepIn K (.ref a) && (match K.lookup a with
  | some ⟨_, _, .func fd, _⟩ => PySem.W.codeIn K fd.code d.qual && (He.dflB K fd.defaults (d.dvs K) && He.kwdB K fd.kwdefaults (d.kws K))
  | _ => false)
theorem funAt {K : PySem.W.Frag} {a : Addr} {d : He.DefD} (e : fnAt K a = d.val) (c : okAt K a d = true) : ∃ fd, FunD K d.name d.qual d.params d.body d.scope (d.dvs K) (d.kws K) a fd := by
  obtain ⟨kp, c2⟩ := He.ba c
  unfold fnAt at e
  cases q : K.lookup a with
  | none =>
    rw [q] at c2
    cases c2
  | some o =>
    obtain ⟨oc, od, dt, osl⟩ := o
    rw [q] at c2 e
    cases dt with
    | func fd =>
      obtain ⟨m1, m2, m3, m4, m5, m6, m7, m8, m9, m10, m11, m12, m13, m14, m15⟩ := fd
      have e2 : (some (m1, m2, m3, m4, m5, m6, m7, m15) : He.FnW) = some (d.name, d.qual, d.params, .stmts d.body, d.scope, mainGlobals, [], builtinsNs) := e
      simp only [Option.some.injEq, Prod.mk.injEq] at e2
      obtain ⟨rfl, rfl, rfl, rfl, rfl, rfl, rfl, rfl⟩ := e2
      obtain ⟨k1, k2⟩ := He.ba (show (PySem.W.codeIn K m13 d.qual && (He.dflB K m8 (d.dvs K) && He.kwdB K m9 (d.kws K))) = true from c2)
      obtain ⟨k3, k4⟩ := He.ba k2
      exact ⟨_, ⟨oc, od, m8, m9, m10, m11, m12, m13, m14, osl, rfl, q, k1, He.dflB_ok k3, He.kwdB_ok k4⟩, kp⟩
    | _ => cases c2
abbrev Dfs : Type := List ((PySem.W.Frag → Addr) × He.DefD)
abbrev AlZ : Type := Bool × List He.FnW
def obsK (ds : Dfs) (tf : List He.Defn) (ex : PySem.W.Frag → Bool) (g : Addr → Option Obj) (K : PySem.W.Frag) : AlZ := (ex K && ((ds.all fun d => okAt K (d.1 K) d.2) && He.tabsB g tf K), ds.map fun d => fnAt K (d.1 K))
def obsZ (n : Nat) (ds : Dfs) (tf : List He.Defn) (ex : PySem.W.Frag → Bool) (g : Addr → Option Obj) : AlZ := obsK ds tf ex g (He.frT g (List.range n))
def valZ (ds : Dfs) : AlZ := (true, ds.map fun d => d.2.val)
structure SaysZ (ds : Dfs) (tf : List He.Defn) (ex : PySem.W.Frag → Bool) (h : Heap) (K : PySem.W.Frag) : Prop where
  more : ex K = true
  defs : ∀ d ∈ ds, ∃ fd, FunD K d.2.name d.2.qual d.2.params d.2.body d.2.scope (d.2.dvs K) (d.2.kws K) (d.1 K) fd
  hd : ∀ p ∈ tf, PySem.W.codeHdIn K (He.cT K p).1 (He.cT K p).2 = true
  out : ∀ p ∈ tf, K.lookup (He.cT K p).2 = none
  empty : ∀ p ∈ tf, h.get? (He.cT K p).2 = some { cls := .none, data := .fields #[] }
theorem map_eq_at {α β : Type} {f g : α → β} : ∀ {l : List α}, l.map f = l.map g → ∀ x ∈ l, f x = g x := fun h x hx => List.map_inj_left.mp h x hx
theorem saysZ_of {n : Nat} {ds : Dfs} {tf : List He.Defn} {ex : PySem.W.Frag → Bool} {h : Heap} (e : obsZ n ds tf ex h.get? = valZ ds) : SaysZ ds tf ex h (He.frT h.get? (List.range n)) := by
  unfold obsZ at e
  generalize hK : He.frT h.get? (List.range n) = K at e ⊢
  obtain ⟨h1, h2⟩ := He.ba (show (ex K && ((ds.all fun d => okAt K (d.1 K) d.2) && He.tabsB h.get? tf K)) = true from congrArg Prod.fst e)
  obtain ⟨h3, h4⟩ := He.ba h2
  have h5 : ds.map (fun d => fnAt K (d.1 K)) = ds.map fun d => d.2.val := congrArg Prod.snd e
  have key : ∀ p ∈ tf, PySem.W.codeHdIn K (He.cT K p).1 (He.cT K p).2 = true ∧ ∃ o, h.get? (He.cT K p).2 = some o ∧ He.emptyTab o = true := fun p hp => by
    obtain ⟨g1, g2⟩ := He.ba (List.all_eq_true.mp h4 p hp)
    refine ⟨g1, ?_⟩
    cases q : h.get? (He.cT K p).2 with
    | none =>
      rw [q] at g2
      cases g2
    | some o =>
      rw [q] at g2
      exact ⟨o, rfl, g2⟩
  refine ⟨h1, fun d hd => funAt (map_eq_at h5 d hd) (List.all_eq_true.mp h3 d hd), fun p hp => (key p hp).1, fun p hp => ?_, fun p hp => ?_⟩
  · obtain ⟨_, o, q, z⟩ := key p hp
    rw [← hK] at q ⊢
    exact He.frT_none q z
  · obtain ⟨_, o, q, z⟩ := key p hp
    rw [q, He.emptyTab_eq z]
def hookZ (n : Nat) (ds : Dfs) (tf : List He.Defn) (ex : PySem.W.Frag → Bool) : PySem.W.Hook where
  α := AlZ
  obs := fun s => obsZ n ds tf ex s.heap.get?
  val := fun _ => valZ ds
  says := fun _ h => ∃ K : PySem.W.Frag, K.In h ∧ SaysZ ds tf ex h K
  of := fun _ _ e => ⟨_, He.frT_in, saysZ_of e⟩
  keeps := fun _ _ _ ⟨K, hK, c⟩ k => ⟨K, PySem.W.Frag.In.keeps hK k, ⟨c.more, c.defs, c.hd, c.out, fun p hp => k _ _ (c.empty p hp)⟩⟩
theorem obsZ_eq {n : Nat} {ds : Dfs} {tf : List He.Defn} {ex : PySem.W.Frag → Bool} {g : Addr → Option Obj} {s : Shared} (h : ∀ a, g a = s.heap.get? a) : obsZ n ds tf ex g = (hookZ n ds tf ex).obs s := by
  have e : g = s.heap.get? := funext h
  rw [e] <;> rfl
/-! ### the run's equation by parts -/
section
variable {S A B C : Type}
theorem map_both {e : Option S} {f : S → A} {g : S → B} {a : A} {b : B} (h1 : e.map f = some a) (h2 : e.map g = some b) : e.map (fun s => (f s, g s)) = some (a, b) := by
  cases e with
  | none => cases h1
  | some s => exact congrArg some (Prod.ext (Option.some.inj h1) (Option.some.inj h2))
theorem map_flat {e : Option S} {f : S → A} {g : S → B} {k : S → C} {a : A} {b : B} {c : C} (h : e.map (fun s => ((f s, g s), k s)) = some ((a, b), c)) : e.map (fun s => (f s, g s, k s)) = some (a, b, c) := by
  cases e with
  | none => cases h
  | some s =>
    have z : ((f s, g s), k s) = ((a, b), c) := Option.some.inj h
    exact congrArg some (Prod.ext (congrArg (fun t => t.1.1) z) (Prod.ext (congrArg (fun t => t.1.2) z) (congrArg (fun t => t.2) z)))
theorem obs_app {e : Option S} {n : Nat} {d1 d2 : Dfs} {gt : S → Addr → Option Obj} (h1 : e.map (fun s => obsZ n d1 [] (fun _ => true) (gt s)) = some (valZ d1)) (h2 : e.map (fun s => obsZ n d2 [] (fun _ => true) (gt s)) = some (valZ d2)) :
    e.map (fun s => obsZ n (d1 ++ d2) [] (fun _ => true) (gt s)) = some (valZ (d1 ++ d2)) := by
  cases e with
  | none => cases h1
  | some s =>
    have q1 : obsZ n d1 [] (fun _ => true) (gt s) = valZ d1 := Option.some.inj h1
    have q2 : obsZ n d2 [] (fun _ => true) (gt s) = valZ d2 := Option.some.inj h2
    refine congrArg some ?_
    unfold obsZ obsK valZ at *
    obtain ⟨a1, b1⟩ := Prod.mk.inj q1
    obtain ⟨a2, b2⟩ := Prod.mk.inj q2
    have c1 := (Bool.and_eq_true_iff.mp a1).2
    have c2 := (Bool.and_eq_true_iff.mp a2).2
    refine Prod.ext ?_ ?_
    · show (true && ((d1 ++ d2).all _ && He.tabsB (gt s) [] _)) = true
      rw [List.all_append, (Bool.and_eq_true_iff.mp c1).1, (Bool.and_eq_true_iff.mp c2).1]
      rfl
    · show (d1 ++ d2).map _ = (d1 ++ d2).map _
      rw [List.map_append, List.map_append, b1, b2]
theorem obs_cat {e : Option S} {n : Nat} {ds : Dfs} {tf : List He.Defn} {ex : PySem.W.Frag → Bool} {gt : S → Addr → Option Obj} (h1 : e.map (fun s => obsZ n [] tf ex (gt s)) = some (valZ [])) (h2 : e.map (fun s => obsZ n ds [] (fun _ => true) (gt s)) = some (valZ ds)) :
    e.map (fun s => obsZ n ds tf ex (gt s)) = some (valZ ds) := by
  cases e with
  | none => cases h1
  | some s =>
    have q1 : obsZ n [] tf ex (gt s) = valZ [] := Option.some.inj h1
    have q2 : obsZ n ds [] (fun _ => true) (gt s) = valZ ds := Option.some.inj h2
    refine congrArg some ?_
    unfold obsZ obsK valZ at *
    obtain ⟨a1, b1⟩ := Prod.mk.inj q1
    obtain ⟨a2, b2⟩ := Prod.mk.inj q2
    have c1 := Bool.and_eq_true_iff.mp a1
    have c2 := (Bool.and_eq_true_iff.mp a2).2
    refine Prod.ext ?_ b2
    show (ex _ && (ds.all _ && He.tabsB (gt s) tf _)) = true
    rw [c1.1, (Bool.and_eq_true_iff.mp c2).1, (Bool.and_eq_true_iff.mp c1.2).2]
    rfl
end
open HandSHeadRun PySem.W in
def Run1 (r : PySem.W.OpenRow) (q : Program) (M : Nat) (loose : List Str) (w : World) : Prop :=
  ∀ os : OsState, (endF (stepQ (denQ tabQ) r.prog w) M r.prog w os).map (fun s => (looksF r.prog (PySem.W.boot_heap w.params) s.abs, HandSHeadRun.seenQ q loose (importedModules r.prog.main.body) (fun s => PySem.W.xlAt q [] s && PySem.W.recOk r.toRowW.records s) s.abs)) = some (true, PySem.W.openGood q loose)
open HandSHeadRun PySem.W in
def Run2 (r : PySem.W.OpenRow) (n M : Nat) (ds : Dfs) (tf : List He.Defn) (ex : PySem.W.Frag → Bool) (w : World) : Prop :=
  ∀ os : OsState, (endF (stepQ (denQ tabQ) r.prog w) M r.prog w os).map (fun s => obsZ n ds tf ex (getT s)) = some (valZ ds)
theorem runEq_of {r : PySem.W.OpenRow} {q : Program} {n M : Nat} {dA dB : Dfs} {tf : List He.Defn} {ex : PySem.W.Frag → Bool} {loose : List Str} {w : World} (h1 : Run1 r q M loose w) (h2 : Run2 r n M [] tf ex w) (h3 : Run2 r n M dA [] (fun _ => true) w) (h4 : Run2 r n M dB [] (fun _ => true) w) :
    HandSHeadRun.RunEq r q (hookZ n (dA ++ dB) tf ex) (fun s => obsZ n (dA ++ dB) tf ex (HandSHeadRun.getT s)) M loose w :=
  fun os => map_flat (map_both (h1 os) (obs_cat (h2 os) (obs_app (h3 os) (h4 os))))
/-- the getter of the property that the class C has by the name f -/
def getterOf (K : PySem.W.Frag) (C : Addr) (f : Str) : Addr := match PySem.W.recIn K (He.ma K C f) "property" with
  | some (.ref g :: _) => g
  | _ => 0
end FD
namespace FD
open PySem PySem.Spec PyProof.Rows L2
/-! ### what else the head is asked of the written part, as Bools -/
section
variable {K : PySem.W.Frag}
abbrev ve : List Value := [.type "ValueError", .type "Exception", .type "BaseException", .type "object"]
def oexB (K : PySem.W.Frag) (C : Addr) : Bool := match K.lookup C with
  | some ⟨.type "type", _, .cls cd, sl⟩ => (match cd.mro, sl.toList with
    | .ref c :: bm, [_, _, _, _, some (.builtin n), _] => decide (c = C) && (decide (n = "ValueError.__new__") && (!cd.hasDel && (cd.hasDict && PySem.HandSPX.refsVE bm)))
    | _, _ => false)
  | _ => false
theorem oexB_ok {C : Addr} (h : oexB K C = true) : ∃ nm q N bs bm sn sub ab col dd k0 k1 k2 k3 k5, K.lookup C = some (excClassObj nm q C N bs bm true sn sub ab col dd k0 k1 k2 k3 k5 "ValueError.__new__") ∧ PySem.HandSPX.refsVE bm = true := by
  unfold oexB at h
  split at h
  · rename_i dd cd sl lies
    split at h
    · rename_i c bm k0 k1 k2 k3 n k5 em es
      simp only [Bool.and_eq_true, decide_eq_true_eq, Bool.not_eq_true'] at h
      obtain ⟨rfl, rfl, nodel, isd, line⟩ := h
      obtain ⟨nm, bs, mro, ns, qn, hdi, sn, sub, ab, col, del⟩ := cd
      dsimp only at em nodel isd
      subst em nodel isd
      have esl : sl = #[k0, k1, k2, k3, some (.builtin "ValueError.__new__"), k5] := by
        obtain ⟨l⟩ := sl
        simp only at es
        rw [es]
      subst esl
      exact ⟨nm, qn, ns, bs, bm, sn, sub, ab, col, dd, k0, k1, k2, k3, k5, lies, line⟩
    · cases h
  · cases h
def excB (K : PySem.W.Frag) (C : Addr) : Bool := oexB K C && (He.eqO (PySem.W.findIn K (.ref C) "__setattr__") (some (some (.builtin "object.__setattr__"))) && (decide (PySem.W.subIn K (.ref C) (.type "BaseException") = some true) && (decide (PySem.W.typeIn K (.ref C) = some (.type "type")) && PySem.W.keepIn K (.ref C))))
theorem excB_ok {C : Addr} (h : excB K C = true) : OexC K C := by
  obtain ⟨h1, h⟩ := He.ba h
  obtain ⟨h2, h⟩ := He.ba h
  obtain ⟨h3, h⟩ := He.ba h
  obtain ⟨h4, h5⟩ := He.ba h
  exact ⟨oexB_ok h1, He.eqO_ok h2, of_decide_eq_true h3, of_decide_eq_true h4, h5⟩
def iniB (K : PySem.W.Frag) (C : Addr) : Bool := He.eqO (PySem.W.findIn K (.ref C) "__init__") (some (some (.ref (He.ma K C "__init__")))) && decide (PySem.W.typeIn K (.ref (He.ma K C "__init__")) = some (.type "function"))
theorem iniB_ok {C : Addr} (h : iniB K C = true) : PySem.W.findIn K (.ref C) "__init__" = some (some (.ref (He.ma K C "__init__"))) ∧ PySem.W.typeIn K (.ref (He.ma K C "__init__")) = some (.type "function") :=
  let ⟨h1, h2⟩ := He.ba h; ⟨He.eqO_ok h1, of_decide_eq_true h2⟩
def propB (K : PySem.W.Frag) (C : Addr) (f : Str) : Bool := He.eqO (PySem.W.findIn K (.ref C) f) (some (some (.ref (He.ma K C f)))) && (He.eqO (PySem.W.specialIn K (.ref (He.ma K C f)) "__get__") (some (some (.builtin "property.__get__"))) && (decide (PySem.W.takesIn K (.ref (He.ma K C f)) = some true) &&
  (match PySem.W.recIn K (He.ma K C f) "property" with
  | some (.ref _ :: _) => true
  | _ => false)))
theorem propB_ok {C : Addr} {f : Str} (h : propB K C f = true) : PropOf K C f (He.ma K C f) (getterOf K C f) := by
  obtain ⟨h1, h⟩ := He.ba h
  obtain ⟨h2, h⟩ := He.ba h
  obtain ⟨h3, h4⟩ := He.ba h
  refine ⟨He.eqO_ok h1, He.eqO_ok h2, of_decide_eq_true h3, ?_⟩
  unfold getterOf
  split at h4
  · rename_i g rest e
    rw [e]
    exact ⟨rest, rfl⟩
  · cases h4
def cvalB (K : PySem.W.Frag) (C : Addr) (f : Str) (i : Int) : Bool := PySem.W.readsIn K C (.type "type") && (He.eqO (PySem.W.specialIn K (.ref C) "__getattribute__") (some (some (.builtin "type.__getattribute__"))) && (match PySem.W.findCls K (.ref C) (.type "type") f with
  | some (.val (.int j _)) => decide (j = i)
  | _ => false))
theorem cvalB_ok {C : Addr} {f : Str} {i : Int} (h : cvalB K C f i = true) : ∃ mc u, ClX.CRead K C mc ∧ ClX.CVal K C mc f (.int i) u := by
  obtain ⟨h1, h⟩ := He.ba h
  obtain ⟨h2, h3⟩ := He.ba h
  split at h3
  · rename_i j t e
    have ej := of_decide_eq_true h3
    subst ej
    exact ⟨.type "type", _, ⟨h1, He.eqO_ok h2⟩, e, t, rfl⟩
  · cases h3
def addB (K : PySem.W.Frag) (C : Addr) : Bool := PySem.W.selfFirst K C && (He.eqO (PySem.W.findIn K (.ref C) "__radd__") (some none) && ((PySem.W.findIn K (.type "tuple") "__add__").isSome && ((PySem.W.findIn K (.type "tuple") "__radd__").isSome && decide (PySem.W.subIn K (.type "tuple") (.ref C) = some false))))
theorem addB_ok {C : Addr} (h : addB K C = true) : AddF K C := by
  obtain ⟨h1, h⟩ := He.ba h
  obtain ⟨h2, h⟩ := He.ba h
  obtain ⟨h3, h⟩ := He.ba h
  obtain ⟨h4, h5⟩ := He.ba h
  exact ⟨h1, He.eqO_ok h2, Option.isSome_iff_exists.mp h3, Option.isSome_iff_exists.mp h4, of_decide_eq_true h5⟩
def insB (K : PySem.W.Frag) (C : Addr) : Bool := He.eqO (PySem.W.findIn K (.ref C) "__class__") (some (some (.builtin "object.__class__"))) && (He.eqO (PySem.W.specialIn K (.builtin "object.__class__") "__get__") (some (some (.builtin "getset_descriptor.__get__"))) &&
  (decide (PySem.W.takesIn K (.builtin "object.__class__") = some true) && (decide (PySem.W.mroIn K C (.type "object") = some true) && decide (PySem.W.kitOne K (.ref C) (.ref C) = some true))))
theorem insB_ok {C : Addr} (c : Cls K C) (h : insB K C = true) : C8.InsC K C := by
  obtain ⟨h1, h⟩ := He.ba h
  obtain ⟨h2, h⟩ := He.ba h
  obtain ⟨h3, h⟩ := He.ba h
  obtain ⟨h4, h5⟩ := He.ba h
  exact ⟨c, He.eqO_ok h1, He.eqO_ok h2, of_decide_eq_true h3, of_decide_eq_true h4, of_decide_eq_true h5⟩
end
end FD
namespace FD
set_option maxHeartbeats 0
open PySem PySem.Spec PyProof.Rows L2
abbrev RwO : PySem.W.OpenRow := PySem.W.OpenLaw.row PySem.Challenge.rw_firstdecides_k47_whole_shares_of_orders
def hdFa0 : List He.Fa := [.free "len",
  .free "isinstance",
  .free "sorted",
  .free "sum",
  .free "all",
  .free "any",
  .free "reversed",
  .free "enumerate",
  .free "zip",
  .free "min",
  .free "divmod",
  .free "int",
  .free "str",
  .free "list",
  .free "tuple",
  .free "dict",
  .free "bool",
  .free "set",
  .free "range",
  .int "NAME_LENGTH" 6]
def hdFa1 : List He.Fa := [.int "MOST_REASONS_sheets" 7,
  .int "MOST_LINES" 6,
  .int "MOST_REASONS_books" 7,
  .str "LETTERS" "abcdefghijklmnopqrstuvwxyz",
  .glo "full_mask",
  .glo "mask_of",
  .glo "bits_of",
  .glo "side_masks",
  .glo "row_masks",
  .glo "blocked_mask",
  .glo "coming_mask",
  .glo "greatest_within",
  .glo "coming_table",
  .glo "ending_counts",
  .glo "is_spelled",
  .glo "is_name",
  .glo "is_names",
  .glo "nth_mark",
  .glo "count_orders",
  .glo "layered_mask"]
def hdFa2 : List He.Fa := [.glo "stands",
  .glo "greatest_stuck",
  .glo "check_reasons",
  .glo "is_line",
  .glo "check_lines",
  .glo "need_reasons",
  .glo "need_standing",
  .glo "shares",
  .glo "is_record",
  .glo "stranger",
  .glo "book_with",
  .glo "_law_bag",
  .glo "_law_draw",
  .glo "_law_of",
  .glo "_law_mixed",
  .glo "_law_same",
  .glo "_law_words",
  .glo "_law_some",
  .glo "_law_few",
  .glo "_law_marks"]
def hdFa3 : List He.Fa := [.glo "_law_kth",
  .glo "_law_row",
  .glo "_law_bears",
  .glo "_law_recs",
  .glo "_law_perms",
  .glo "_law_fit",
  .glo "_law_lot",
  .glo "_law_grown",
  .glo "_law_book",
  .glo "_law_sides",
  .glo "_law_told",
  .glo "_law_lines",
  .glo "_law_made",
  .glo "_law_sheet",
  .glo "_law_scores",
  .glo "_law_alike",
  .glo "_law_answers",
  .glo "_law_win",
  .glo "_law_other",
  .glo "_law_world"]
def hdFa4 : List He.Fa := [.glo "_law_wrong",
  .glo "_law_raise",
  .glo "_law_got",
  .glo "_law_tally",
  .glo "_law_full",
  .glo "_law_full_so",
  .glo "law",
  .cls "Row",
  .glo "Row",
  .noat "Row" "pro",
  .noat "Row" "con",
  .noat "Row" "named",
  .mkr "Row",
  .cls "Sheet",
  .glo "Sheet",
  .noat "Sheet" "reasons",
  .noat "Sheet" "_names",
  .noat "Sheet" "_scores",
  .mkr "Sheet",
  .cls "Book"]
def hdFa5 : List He.Fa := [.glo "Book",
  .noat "Book" "reasons",
  .noat "Book" "by_mark",
  .mkr "Book",
  .meth "Sheet" "_check",
  .meth "Sheet" "difference",
  .meth "Sheet" "row",
  .meth "Sheet" "rivals",
  .meth "Sheet" "rows",
  .meth "Sheet" "answer_of",
  .meth "Sheet" "answers",
  .meth "Book" "records",
  .meth "Book" "rows",
  .meth "Book" "grown",
  .meth "Book" "__add__",
  .glo "Stuck",
  .noat "Stuck" "code",
  .noat "Stuck" "lot",
  .glo "OtherReasons",
  .noat "OtherReasons" "code"]
def hdFa6 : List He.Fa := [.glo "ChoiceError",
  .glo "Missing",
  .exm "Stuck" "Stuck" true,
  .exm "OtherReasons" "Stuck" false]
def hdFa : List He.Fa := hdFa0 ++ (hdFa1 ++ (hdFa2 ++ (hdFa3 ++ (hdFa4 ++ (hdFa5 ++ (hdFa6))))))
def hdDsA0 : List ((PySem.W.Frag → Addr) × He.DefD) := [(fun K => He.ga K "full_mask", ⟨("full_mask", none), "full_mask", "full_mask", defArgs s_full_mask, defBody s_full_mask, defScope s_full_mask, [], []⟩),
  (fun K => He.ga K "mask_of", ⟨("mask_of", none), "mask_of", "mask_of", defArgs s_mask_of, defBody s_mask_of, defScope s_mask_of, [], []⟩),
  (fun K => He.ga K "bits_of", ⟨("bits_of", none), "bits_of", "bits_of", defArgs s_bits_of, defBody s_bits_of, defScope s_bits_of, [], []⟩),
  (fun K => He.ga K "side_masks", ⟨("side_masks", none), "side_masks", "side_masks", defArgs s_side_masks, defBody s_side_masks, defScope s_side_masks, [], []⟩),
  (fun K => He.ga K "row_masks", ⟨("row_masks", none), "row_masks", "row_masks", defArgs s_row_masks, defBody s_row_masks, defScope s_row_masks, [], []⟩),
  (fun K => He.ga K "blocked_mask", ⟨("blocked_mask", none), "blocked_mask", "blocked_mask", defArgs s_blocked_mask, defBody s_blocked_mask, defScope s_blocked_mask, [], []⟩),
  (fun K => He.ga K "coming_mask", ⟨("coming_mask", none), "coming_mask", "coming_mask", defArgs s_coming_mask, defBody s_coming_mask, defScope s_coming_mask, [], []⟩),
  (fun K => He.ga K "greatest_within", ⟨("greatest_within", none), "greatest_within", "greatest_within", defArgs s_greatest_within, defBody s_greatest_within, defScope s_greatest_within, [], []⟩),
  (fun K => He.ga K "coming_table", ⟨("coming_table", none), "coming_table", "coming_table", defArgs s_coming_table, defBody s_coming_table, defScope s_coming_table, [], []⟩),
  (fun K => He.ga K "ending_counts", ⟨("ending_counts", none), "ending_counts", "ending_counts", defArgs s_ending_counts, defBody s_ending_counts, defScope s_ending_counts, [], []⟩)]
def hdDsA1 : List ((PySem.W.Frag → Addr) × He.DefD) := [(fun K => He.ga K "is_spelled", ⟨("is_spelled", none), "is_spelled", "is_spelled", defArgs s_is_spelled, defBody s_is_spelled, defScope s_is_spelled, [], []⟩),
  (fun K => He.ga K "is_name", ⟨("is_name", none), "is_name", "is_name", defArgs s_is_name, defBody s_is_name, defScope s_is_name, [], []⟩),
  (fun K => He.ga K "is_names", ⟨("is_names", none), "is_names", "is_names", defArgs s_is_names, defBody s_is_names, defScope s_is_names, [], []⟩),
  (fun K => He.ga K "nth_mark", ⟨("nth_mark", none), "nth_mark", "nth_mark", defArgs s_nth_mark, defBody s_nth_mark, defScope s_nth_mark, [], []⟩),
  (fun K => He.ga K "count_orders", ⟨("count_orders", none), "count_orders", "count_orders", defArgs s_count_orders, defBody s_count_orders, defScope s_count_orders, [], []⟩),
  (fun K => He.ga K "layered_mask", ⟨("layered_mask", none), "layered_mask", "layered_mask", defArgs s_layered_mask, defBody s_layered_mask, defScope s_layered_mask, [], []⟩),
  (fun K => He.ga K "stands", ⟨("stands", none), "stands", "stands", defArgs s_stands, defBody s_stands, defScope s_stands, [], []⟩),
  (fun K => He.ga K "greatest_stuck", ⟨("greatest_stuck", none), "greatest_stuck", "greatest_stuck", defArgs s_greatest_stuck, defBody s_greatest_stuck, defScope s_greatest_stuck, [], []⟩),
  (fun K => He.ga K "check_reasons", ⟨("check_reasons", none), "check_reasons", "check_reasons", defArgs s_check_reasons, defBody s_check_reasons, defScope s_check_reasons, [], []⟩),
  (fun K => He.ga K "is_line", ⟨("is_line", none), "is_line", "is_line", defArgs s_is_line, defBody s_is_line, defScope s_is_line, [], []⟩)]
def hdDsA2 : List ((PySem.W.Frag → Addr) × He.DefD) := [(fun K => He.ga K "check_lines", ⟨("check_lines", none), "check_lines", "check_lines", defArgs s_check_lines, defBody s_check_lines, defScope s_check_lines, [], []⟩),
  (fun K => He.ga K "need_reasons", ⟨("need_reasons", none), "need_reasons", "need_reasons", defArgs s_need_reasons, defBody s_need_reasons, defScope s_need_reasons, [], []⟩),
  (fun K => He.ga K "need_standing", ⟨("need_standing", none), "need_standing", "need_standing", defArgs s_need_standing, defBody s_need_standing, defScope s_need_standing, [], []⟩),
  (fun K => He.ga K "shares", ⟨("shares", none), "shares", "shares", defArgs s_shares, defBody s_shares, defScope s_shares, [], []⟩),
  (fun K => He.ga K "is_record", ⟨("is_record", none), "is_record", "is_record", defArgs s_is_record, defBody s_is_record, defScope s_is_record, [], []⟩),
  (fun K => He.ga K "stranger", ⟨("stranger", none), "stranger", "stranger", defArgs s_stranger, defBody s_stranger, defScope s_stranger, [], []⟩),
  (fun K => He.ga K "book_with", ⟨("book_with", none), "book_with", "book_with", defArgs s_book_with, defBody s_book_with, defScope s_book_with, [], []⟩),
  (fun K => He.ga K "_law_bag", ⟨("_law_bag", none), "_law_bag", "_law_bag", defArgs s__law_bag, defBody s__law_bag, defScope s__law_bag, [], []⟩),
  (fun K => He.ga K "_law_draw", ⟨("_law_draw", none), "_law_draw", "_law_draw", defArgs s__law_draw, defBody s__law_draw, defScope s__law_draw, [], []⟩),
  (fun K => He.ga K "_law_of", ⟨("_law_of", none), "_law_of", "_law_of", defArgs s__law_of, defBody s__law_of, defScope s__law_of, [], []⟩)]
def hdDsA3 : List ((PySem.W.Frag → Addr) × He.DefD) := [(fun K => He.ga K "_law_mixed", ⟨("_law_mixed", none), "_law_mixed", "_law_mixed", defArgs s__law_mixed, defBody s__law_mixed, defScope s__law_mixed, [], []⟩),
  (fun K => He.ga K "_law_same", ⟨("_law_same", none), "_law_same", "_law_same", defArgs s__law_same, defBody s__law_same, defScope s__law_same, [], []⟩),
  (fun K => He.ga K "_law_words", ⟨("_law_words", none), "_law_words", "_law_words", defArgs s__law_words, defBody s__law_words, defScope s__law_words, [], []⟩),
  (fun K => He.ga K "_law_some", ⟨("_law_some", none), "_law_some", "_law_some", defArgs s__law_some, defBody s__law_some, defScope s__law_some, [], []⟩),
  (fun K => He.ga K "_law_few", ⟨("_law_few", none), "_law_few", "_law_few", defArgs s__law_few, defBody s__law_few, defScope s__law_few, [], []⟩),
  (fun K => He.ga K "_law_marks", ⟨("_law_marks", none), "_law_marks", "_law_marks", defArgs s__law_marks, defBody s__law_marks, defScope s__law_marks, [], []⟩),
  (fun K => He.ga K "_law_kth", ⟨("_law_kth", none), "_law_kth", "_law_kth", defArgs s__law_kth, defBody s__law_kth, defScope s__law_kth, [], []⟩),
  (fun K => He.ga K "_law_row", ⟨("_law_row", none), "_law_row", "_law_row", defArgs s__law_row, defBody s__law_row, defScope s__law_row, [], []⟩),
  (fun K => He.ga K "_law_bears", ⟨("_law_bears", none), "_law_bears", "_law_bears", defArgs s__law_bears, defBody s__law_bears, defScope s__law_bears, [], []⟩),
  (fun K => He.ga K "_law_recs", ⟨("_law_recs", none), "_law_recs", "_law_recs", defArgs s__law_recs, defBody s__law_recs, defScope s__law_recs, [], []⟩)]
def hdDsA : List ((PySem.W.Frag → Addr) × He.DefD) := hdDsA0 ++ (hdDsA1 ++ (hdDsA2 ++ (hdDsA3)))
def hdDsB0 : List ((PySem.W.Frag → Addr) × He.DefD) := [(fun K => He.ga K "_law_perms", ⟨("_law_perms", none), "_law_perms", "_law_perms", defArgs s__law_perms, defBody s__law_perms, defScope s__law_perms, [], []⟩),
  (fun K => He.ga K "_law_fit", ⟨("_law_fit", none), "_law_fit", "_law_fit", defArgs s__law_fit, defBody s__law_fit, defScope s__law_fit, [], []⟩),
  (fun K => He.ga K "_law_lot", ⟨("_law_lot", none), "_law_lot", "_law_lot", defArgs s__law_lot, defBody s__law_lot, defScope s__law_lot, [], []⟩),
  (fun K => He.ga K "_law_grown", ⟨("_law_grown", none), "_law_grown", "_law_grown", defArgs s__law_grown, defBody s__law_grown, defScope s__law_grown, [], []⟩),
  (fun K => He.ga K "_law_book", ⟨("_law_book", none), "_law_book", "_law_book", defArgs s__law_book, defBody s__law_book, defScope s__law_book, [], []⟩),
  (fun K => He.ga K "_law_sides", ⟨("_law_sides", none), "_law_sides", "_law_sides", defArgs s__law_sides, defBody s__law_sides, defScope s__law_sides, [], []⟩),
  (fun K => He.ga K "_law_told", ⟨("_law_told", none), "_law_told", "_law_told", defArgs s__law_told, defBody s__law_told, defScope s__law_told, [], []⟩),
  (fun K => He.ga K "_law_lines", ⟨("_law_lines", none), "_law_lines", "_law_lines", defArgs s__law_lines, defBody s__law_lines, defScope s__law_lines, [], []⟩),
  (fun K => He.ga K "_law_made", ⟨("_law_made", none), "_law_made", "_law_made", defArgs s__law_made, defBody s__law_made, defScope s__law_made, [], []⟩),
  (fun K => He.ga K "_law_sheet", ⟨("_law_sheet", none), "_law_sheet", "_law_sheet", defArgs s__law_sheet, defBody s__law_sheet, defScope s__law_sheet, [], []⟩)]
def hdDsB1 : List ((PySem.W.Frag → Addr) × He.DefD) := [(fun K => He.ga K "_law_scores", ⟨("_law_scores", none), "_law_scores", "_law_scores", defArgs s__law_scores, defBody s__law_scores, defScope s__law_scores, [], []⟩),
  (fun K => He.ga K "_law_alike", ⟨("_law_alike", none), "_law_alike", "_law_alike", defArgs s__law_alike, defBody s__law_alike, defScope s__law_alike, [], []⟩),
  (fun K => He.ga K "_law_answers", ⟨("_law_answers", none), "_law_answers", "_law_answers", defArgs s__law_answers, defBody s__law_answers, defScope s__law_answers, [], []⟩),
  (fun K => He.ga K "_law_win", ⟨("_law_win", none), "_law_win", "_law_win", defArgs s__law_win, defBody s__law_win, defScope s__law_win, [], []⟩),
  (fun K => He.ga K "_law_other", ⟨("_law_other", none), "_law_other", "_law_other", defArgs s__law_other, defBody s__law_other, defScope s__law_other, [], []⟩),
  (fun K => He.ga K "_law_world", ⟨("_law_world", none), "_law_world", "_law_world", defArgs s__law_world, defBody s__law_world, defScope s__law_world, [], []⟩),
  (fun K => He.ga K "_law_wrong", ⟨("_law_wrong", none), "_law_wrong", "_law_wrong", defArgs s__law_wrong, defBody s__law_wrong, defScope s__law_wrong, [], []⟩),
  (fun K => He.ga K "_law_raise", ⟨("_law_raise", none), "_law_raise", "_law_raise", defArgs s__law_raise, defBody s__law_raise, defScope s__law_raise, [], []⟩),
  (fun K => He.ga K "_law_got", ⟨("_law_got", none), "_law_got", "_law_got", defArgs s__law_got, defBody s__law_got, defScope s__law_got, [], []⟩),
  (fun K => He.ga K "_law_tally", ⟨("_law_tally", none), "_law_tally", "_law_tally", defArgs s__law_tally, defBody s__law_tally, defScope s__law_tally, [], []⟩)]
def hdDsB2 : List ((PySem.W.Frag → Addr) × He.DefD) := [(fun K => He.ga K "_law_full", ⟨("_law_full", none), "_law_full", "_law_full", defArgs s__law_full, defBody s__law_full, defScope s__law_full, [], []⟩),
  (fun K => He.ga K "_law_full_so", ⟨("_law_full_so", none), "_law_full_so", "_law_full_so", defArgs s__law_full_so, defBody s__law_full_so, defScope s__law_full_so, [], []⟩),
  (fun K => He.ga K "law", ⟨("law", none), "law", "law", defArgs s_law, defBody s_law, defScope s_law, [], []⟩),
  (fun K => He.ma K (He.ga K "Row") "__init__", ⟨("Row", some "__init__"), "__init__", "Row.__init__", defArgs s_Row_init, defBody s_Row_init, defScope s_Row_init, [.adr (He.dflAt ("Row", some "__init__") 0), .adr (He.dflAt ("Row", some "__init__") 1)], []⟩),
  (fun K => getterOf K (He.ga K "Row") "idle", ⟨("Row", some "idle"), "idle", "Row.idle", defArgs s_Row_idle, defBody s_Row_idle, defScope s_Row_idle, [], []⟩),
  (fun K => He.ma K (He.ga K "Sheet") "__init__", ⟨("Sheet", some "__init__"), "__init__", "Sheet.__init__", defArgs s_Sheet_init, defBody s_Sheet_init, defScope s_Sheet_init, [], []⟩),
  (fun K => He.ma K (He.ga K "Sheet") "_check", ⟨("Sheet", some "_check"), "_check", "Sheet._check", defArgs s_Sheetcheck, defBody s_Sheetcheck, defScope s_Sheetcheck, [], []⟩),
  (fun K => He.ma K (He.ga K "Sheet") "difference", ⟨("Sheet", some "difference"), "difference", "Sheet.difference", defArgs s_Sheet_difference, defBody s_Sheet_difference, defScope s_Sheet_difference, [], []⟩),
  (fun K => He.ma K (He.ga K "Sheet") "row", ⟨("Sheet", some "row"), "row", "Sheet.row", defArgs s_Sheet_row, defBody s_Sheet_row, defScope s_Sheet_row, [], []⟩),
  (fun K => He.ma K (He.ga K "Sheet") "rivals", ⟨("Sheet", some "rivals"), "rivals", "Sheet.rivals", defArgs s_Sheet_rivals, defBody s_Sheet_rivals, defScope s_Sheet_rivals, [], []⟩)]
def hdDsB3 : List ((PySem.W.Frag → Addr) × He.DefD) := [(fun K => He.ma K (He.ga K "Sheet") "rows", ⟨("Sheet", some "rows"), "rows", "Sheet.rows", defArgs s_Sheet_rows, defBody s_Sheet_rows, defScope s_Sheet_rows, [], []⟩),
  (fun K => He.ma K (He.ga K "Sheet") "answer_of", ⟨("Sheet", some "answer_of"), "answer_of", "Sheet.answer_of", defArgs s_Sheet_answer_of, defBody s_Sheet_answer_of, defScope s_Sheet_answer_of, [], []⟩),
  (fun K => He.ma K (He.ga K "Sheet") "answers", ⟨("Sheet", some "answers"), "answers", "Sheet.answers", defArgs s_Sheet_answers, defBody s_Sheet_answers, defScope s_Sheet_answers, [], []⟩),
  (fun K => He.ma K (He.ga K "Book") "__init__", ⟨("Book", some "__init__"), "__init__", "Book.__init__", defArgs s_Book_init, defBody s_Book_init, defScope s_Book_init, [], []⟩),
  (fun K => He.ma K (He.ga K "Book") "records", ⟨("Book", some "records"), "records", "Book.records", defArgs s_Book_records, defBody s_Book_records, defScope s_Book_records, [], []⟩),
  (fun K => He.ma K (He.ga K "Book") "rows", ⟨("Book", some "rows"), "rows", "Book.rows", defArgs s_Book_rows, defBody s_Book_rows, defScope s_Book_rows, [], []⟩),
  (fun K => He.ma K (He.ga K "Book") "grown", ⟨("Book", some "grown"), "grown", "Book.grown", defArgs s_Book_grown, defBody s_Book_grown, defScope s_Book_grown, [], []⟩),
  (fun K => He.ma K (He.ga K "Book") "__add__", ⟨("Book", some "__add__"), "__add__", "Book.__add__", defArgs s_Book_add, defBody s_Book_add, defScope s_Book_add, [], []⟩),
  (fun K => He.ma K (He.ga K "Stuck") "__init__", ⟨("Stuck", some "__init__"), "__init__", "Stuck.__init__", defArgs s_Stuck_init, defBody s_Stuck_init, defScope s_Stuck_init, [], []⟩),
  (fun K => He.ma K (He.ga K "OtherReasons") "__init__", ⟨("OtherReasons", some "__init__"), "__init__", "OtherReasons.__init__", defArgs s_OtherReasons_init, defBody s_OtherReasons_init, defScope s_OtherReasons_init, [], []⟩)]
def hdDsB : List ((PySem.W.Frag → Addr) × He.DefD) := hdDsB0 ++ (hdDsB1 ++ (hdDsB2 ++ (hdDsB3)))
def hdDs : List ((PySem.W.Frag → Addr) × He.DefD) := hdDsA ++ hdDsB
def hdNames0 : List Str := ["_wall",
  "ChoiceError",
  "Missing",
  "InvalidSide",
  "InvalidReasons",
  "InvalidRecord",
  "InvalidLine",
  "InvalidText",
  "DuplicateName",
  "TooMany",
  "OtherReasons",
  "Stuck",
  "UnknownName",
  "UnknownMark",
  "UnknownReason",
  "full_mask",
  "mask_of",
  "bits_of",
  "side_masks",
  "row_masks"]
def hdNames1 : List Str := ["blocked_mask",
  "coming_mask",
  "greatest_within",
  "coming_table",
  "ending_counts",
  "LETTERS",
  "NAME_LENGTH",
  "is_spelled",
  "is_name",
  "is_names",
  "is_group",
  "nth_mark",
  "count_orders",
  "layered_mask",
  "stands",
  "greatest_stuck",
  "Row",
  "MOST_REASONS_sheets",
  "MOST_LINES",
  "check_reasons"]
def hdNames2 : List Str := ["is_line",
  "check_lines",
  "Sheet",
  "need_reasons",
  "need_standing",
  "shares",
  "lines_of",
  "MOST_REASONS_books",
  "is_record",
  "stranger",
  "Book",
  "book_with",
  "head_flaw",
  "record_of",
  "record_flaw",
  "_law_bag",
  "_law_draw",
  "_law_of",
  "_law_mixed",
  "_law_same"]
def hdNames3 : List Str := ["_law_words",
  "_law_some",
  "_law_few",
  "_law_marks",
  "_law_kth",
  "_law_row",
  "_law_bears",
  "_law_recs",
  "_law_perms",
  "_law_fit",
  "_law_lot",
  "_law_grown",
  "_law_book",
  "_law_sides",
  "_law_told",
  "_law_lines",
  "_law_made",
  "_law_sheet",
  "_law_scores",
  "_law_alike"]
def hdNames4 : List Str := ["_law_answers",
  "_law_win",
  "_law_other",
  "_law_world",
  "_law_wrong",
  "_law_raise",
  "_law_got",
  "_law_tally",
  "_law_full",
  "_law_full_so"]
def hdNames : List Str := hdNames0 ++ (hdNames1 ++ (hdNames2 ++ (hdNames3 ++ (hdNames4))))
def hdTf : List He.Defn := [("law", none)]
def hdEx (K : PySem.W.Frag) : Bool := (hdFa.all fun f => f.ok K) && (propB K (He.ga K "Row") "idle" && (cvalB K (He.ga K "Book") "MOST" 40 && (addB K (He.ga K "Book") && (insB K (He.ga K "Row") && (insB K (He.ga K "Book") && (excB K (He.ga K "Stuck") && (excB K (He.ga K "OtherReasons") && (iniB K (He.ga K "Stuck") && (iniB K (He.ga K "OtherReasons") && (xfB K (He.ga K "Stuck") && (xfB K (He.ga K "OtherReasons") && (decide (PySem.W.exmAny K (.ref (He.ga K "OtherReasons")) [.ref (He.ga K "ChoiceError"), .ref (He.ga K "Missing")] = some true)))))))))))))
abbrev hdView : Program := PySem.W.view RwO.prog [103]
abbrev hdN : Nat := 1200
abbrev hdHk : PySem.W.Hook := hookZ hdN hdDs hdTf hdEx
def hdOb (s : PySem.W.SharedT) : AlZ := obsZ hdN hdDs hdTf hdEx (HandSHeadRun.getT s)
theorem hdOb_eq (s : PySem.W.SharedT) : hdOb s = hdHk.obs s.abs := obsZ_eq (HandSHeadRun.getT_eq s)
theorem hdRun1 (w : World) : Run1 RwO hdView 30000 hdNames w := by
  intro os
  kernel_rfl
theorem hdRun2 (w : World) : Run2 RwO hdN 30000 [] hdTf hdEx w := by
  intro os
  kernel_rfl
theorem hdRun3 (w : World) : Run2 RwO hdN 30000 hdDsA [] (fun _ => true) w := by
  intro os
  kernel_rfl
theorem hdRun4 (w : World) : Run2 RwO hdN 30000 hdDsB [] (fun _ => true) w := by
  intro os
  kernel_rfl
theorem hdRun (w : World) : HandSHeadRun.RunEq RwO hdView hdHk hdOb 30000 hdNames w := runEq_of (hdRun1 w) (hdRun2 w) (hdRun3 w) (hdRun4 w)
theorem mo_of {K : PySem.W.Frag} {h : Heap} {mg : Str → Option Value} (X : K.In h) (G : h.Ns mainGlobals mg) (c : SaysZ hdDs hdTf hdEx h K) : Mo K mg := by
  obtain ⟨e_fa, e0⟩ := He.ba c.more
  obtain ⟨e_prop, e0⟩ := He.ba e0
  obtain ⟨e_most, e0⟩ := He.ba e0
  obtain ⟨e_add, e0⟩ := He.ba e0
  obtain ⟨e_insRow, e0⟩ := He.ba e0
  obtain ⟨e_insBook, e0⟩ := He.ba e0
  obtain ⟨e_excStuck, e0⟩ := He.ba e0
  obtain ⟨e_excOtherReasons, e0⟩ := He.ba e0
  obtain ⟨e_iniStuck, e0⟩ := He.ba e0
  obtain ⟨e_iniOtherReasons, e0⟩ := He.ba e0
  obtain ⟨e_xfStuck, e0⟩ := He.ba e0
  obtain ⟨e_xfOtherReasons, e0⟩ := He.ba e0
  have e_em := e0
  have fx : ∀ {f : He.Fa} (i : Nat), hdFa[i]? = some f → f.ok K = true := fun i hi => List.all_eq_true.mp e_fa _ (List.mem_of_getElem? hi)
  have dx : ∀ {d : (PySem.W.Frag → Addr) × He.DefD} (i : Nat), hdDs[i]? = some d → ∃ fd, FunD K d.2.name d.2.qual d.2.params d.2.body d.2.scope (d.2.dvs K) (d.2.kws K) (d.1 K) fd := fun i hi => c.defs _ (List.mem_of_getElem? hi)
  exact {
  n_len := He.free_ok X G (fx 0 rfl),
  n_isinstance := He.free_ok X G (fx 1 rfl),
  n_sorted := He.free_ok X G (fx 2 rfl),
  n_sum := He.free_ok X G (fx 3 rfl),
  n_all := He.free_ok X G (fx 4 rfl),
  n_any := He.free_ok X G (fx 5 rfl),
  n_reversed := He.free_ok X G (fx 6 rfl),
  n_enumerate := He.free_ok X G (fx 7 rfl),
  n_zip := He.free_ok X G (fx 8 rfl),
  n_min := He.free_ok X G (fx 9 rfl),
  n_divmod := He.free_ok X G (fx 10 rfl),
  n_int := He.free_ok X G (fx 11 rfl),
  n_str := He.free_ok X G (fx 12 rfl),
  n_list := He.free_ok X G (fx 13 rfl),
  n_tuple := He.free_ok X G (fx 14 rfl),
  n_dict := He.free_ok X G (fx 15 rfl),
  n_bool := He.free_ok X G (fx 16 rfl),
  n_set := He.free_ok X G (fx 17 rfl),
  n_range := He.free_ok X G (fx 18 rfl),
  g_NAME_LENGTH := He.int_ok X G (fx 19 rfl),
  g_MOST_REASONS_sheets := He.int_ok X G (fx 20 rfl),
  g_MOST_LINES := He.int_ok X G (fx 21 rfl),
  g_MOST_REASONS_books := He.int_ok X G (fx 22 rfl),
  g_LETTERS := He.str_ok X G (fx 23 rfl),
  f_full_mask := dx 0 rfl,
  g_full_mask := He.glo_ok X G (fx 24 rfl),
  f_mask_of := dx 1 rfl,
  g_mask_of := He.glo_ok X G (fx 25 rfl),
  f_bits_of := dx 2 rfl,
  g_bits_of := He.glo_ok X G (fx 26 rfl),
  f_side_masks := dx 3 rfl,
  g_side_masks := He.glo_ok X G (fx 27 rfl),
  f_row_masks := dx 4 rfl,
  g_row_masks := He.glo_ok X G (fx 28 rfl),
  f_blocked_mask := dx 5 rfl,
  g_blocked_mask := He.glo_ok X G (fx 29 rfl),
  f_coming_mask := dx 6 rfl,
  g_coming_mask := He.glo_ok X G (fx 30 rfl),
  f_greatest_within := dx 7 rfl,
  g_greatest_within := He.glo_ok X G (fx 31 rfl),
  f_coming_table := dx 8 rfl,
  g_coming_table := He.glo_ok X G (fx 32 rfl),
  f_ending_counts := dx 9 rfl,
  g_ending_counts := He.glo_ok X G (fx 33 rfl),
  f_is_spelled := dx 10 rfl,
  g_is_spelled := He.glo_ok X G (fx 34 rfl),
  f_is_name := dx 11 rfl,
  g_is_name := He.glo_ok X G (fx 35 rfl),
  f_is_names := dx 12 rfl,
  g_is_names := He.glo_ok X G (fx 36 rfl),
  f_nth_mark := dx 13 rfl,
  g_nth_mark := He.glo_ok X G (fx 37 rfl),
  f_count_orders := dx 14 rfl,
  g_count_orders := He.glo_ok X G (fx 38 rfl),
  f_layered_mask := dx 15 rfl,
  g_layered_mask := He.glo_ok X G (fx 39 rfl),
  f_stands := dx 16 rfl,
  g_stands := He.glo_ok X G (fx 40 rfl),
  f_greatest_stuck := dx 17 rfl,
  g_greatest_stuck := He.glo_ok X G (fx 41 rfl),
  f_check_reasons := dx 18 rfl,
  g_check_reasons := He.glo_ok X G (fx 42 rfl),
  f_is_line := dx 19 rfl,
  g_is_line := He.glo_ok X G (fx 43 rfl),
  f_check_lines := dx 20 rfl,
  g_check_lines := He.glo_ok X G (fx 44 rfl),
  f_need_reasons := dx 21 rfl,
  g_need_reasons := He.glo_ok X G (fx 45 rfl),
  f_need_standing := dx 22 rfl,
  g_need_standing := He.glo_ok X G (fx 46 rfl),
  f_shares := dx 23 rfl,
  g_shares := He.glo_ok X G (fx 47 rfl),
  f_is_record := dx 24 rfl,
  g_is_record := He.glo_ok X G (fx 48 rfl),
  f_stranger := dx 25 rfl,
  g_stranger := He.glo_ok X G (fx 49 rfl),
  f_book_with := dx 26 rfl,
  g_book_with := He.glo_ok X G (fx 50 rfl),
  f__law_bag := dx 27 rfl,
  g__law_bag := He.glo_ok X G (fx 51 rfl),
  f__law_draw := dx 28 rfl,
  g__law_draw := He.glo_ok X G (fx 52 rfl),
  f__law_of := dx 29 rfl,
  g__law_of := He.glo_ok X G (fx 53 rfl),
  f__law_mixed := dx 30 rfl,
  g__law_mixed := He.glo_ok X G (fx 54 rfl),
  f__law_same := dx 31 rfl,
  g__law_same := He.glo_ok X G (fx 55 rfl),
  f__law_words := dx 32 rfl,
  g__law_words := He.glo_ok X G (fx 56 rfl),
  f__law_some := dx 33 rfl,
  g__law_some := He.glo_ok X G (fx 57 rfl),
  f__law_few := dx 34 rfl,
  g__law_few := He.glo_ok X G (fx 58 rfl),
  f__law_marks := dx 35 rfl,
  g__law_marks := He.glo_ok X G (fx 59 rfl),
  f__law_kth := dx 36 rfl,
  g__law_kth := He.glo_ok X G (fx 60 rfl),
  f__law_row := dx 37 rfl,
  g__law_row := He.glo_ok X G (fx 61 rfl),
  f__law_bears := dx 38 rfl,
  g__law_bears := He.glo_ok X G (fx 62 rfl),
  f__law_recs := dx 39 rfl,
  g__law_recs := He.glo_ok X G (fx 63 rfl),
  f__law_perms := dx 40 rfl,
  g__law_perms := He.glo_ok X G (fx 64 rfl),
  f__law_fit := dx 41 rfl,
  g__law_fit := He.glo_ok X G (fx 65 rfl),
  f__law_lot := dx 42 rfl,
  g__law_lot := He.glo_ok X G (fx 66 rfl),
  f__law_grown := dx 43 rfl,
  g__law_grown := He.glo_ok X G (fx 67 rfl),
  f__law_book := dx 44 rfl,
  g__law_book := He.glo_ok X G (fx 68 rfl),
  f__law_sides := dx 45 rfl,
  g__law_sides := He.glo_ok X G (fx 69 rfl),
  f__law_told := dx 46 rfl,
  g__law_told := He.glo_ok X G (fx 70 rfl),
  f__law_lines := dx 47 rfl,
  g__law_lines := He.glo_ok X G (fx 71 rfl),
  f__law_made := dx 48 rfl,
  g__law_made := He.glo_ok X G (fx 72 rfl),
  f__law_sheet := dx 49 rfl,
  g__law_sheet := He.glo_ok X G (fx 73 rfl),
  f__law_scores := dx 50 rfl,
  g__law_scores := He.glo_ok X G (fx 74 rfl),
  f__law_alike := dx 51 rfl,
  g__law_alike := He.glo_ok X G (fx 75 rfl),
  f__law_answers := dx 52 rfl,
  g__law_answers := He.glo_ok X G (fx 76 rfl),
  f__law_win := dx 53 rfl,
  g__law_win := He.glo_ok X G (fx 77 rfl),
  f__law_other := dx 54 rfl,
  g__law_other := He.glo_ok X G (fx 78 rfl),
  f__law_world := dx 55 rfl,
  g__law_world := He.glo_ok X G (fx 79 rfl),
  f__law_wrong := dx 56 rfl,
  g__law_wrong := He.glo_ok X G (fx 80 rfl),
  f__law_raise := dx 57 rfl,
  g__law_raise := He.glo_ok X G (fx 81 rfl),
  f__law_got := dx 58 rfl,
  g__law_got := He.glo_ok X G (fx 82 rfl),
  f__law_tally := dx 59 rfl,
  g__law_tally := He.glo_ok X G (fx 83 rfl),
  f__law_full := dx 60 rfl,
  g__law_full := He.glo_ok X G (fx 84 rfl),
  f__law_full_so := dx 61 rfl,
  g__law_full_so := He.glo_ok X G (fx 85 rfl),
  f_law := dx 62 rfl,
  g_law := He.glo_ok X G (fx 86 rfl),
  f_Row_init := let ⟨fd, F⟩ := dx 63 rfl; ⟨fd, _, rfl, F⟩,
  f_Row_idle := let ⟨fd, F⟩ := dx 64 rfl; ⟨_, _, fd, F, propB_ok e_prop⟩,
  f_Sheet_init := dx 65 rfl,
  f_Sheetcheck := dx 66 rfl,
  f_Sheet_difference := dx 67 rfl,
  f_Sheet_row := dx 68 rfl,
  f_Sheet_rivals := dx 69 rfl,
  f_Sheet_rows := dx 70 rfl,
  f_Sheet_answer_of := dx 71 rfl,
  f_Sheet_answers := dx 72 rfl,
  f_Book_init := dx 73 rfl,
  f_Book_records := dx 74 rfl,
  f_Book_rows := dx 75 rfl,
  f_Book_grown := dx 76 rfl,
  f_Book_add := dx 77 rfl,
  f_Stuck_init := dx 78 rfl,
  f_OtherReasons_init := dx 79 rfl,
  cl_Row := He.cls_ok (fx 87 rfl),
  g_Row := He.glo_ok X G (fx 88 rfl),
  na_Row_pro := He.noat_ok (fx 89 rfl),
  na_Row_con := He.noat_ok (fx 90 rfl),
  na_Row_named := He.noat_ok (fx 91 rfl),
  mk_Row := He.mkr_ok (fx 92 rfl),
  cl_Sheet := He.cls_ok (fx 93 rfl),
  g_Sheet := He.glo_ok X G (fx 94 rfl),
  na_Sheet_reasons := He.noat_ok (fx 95 rfl),
  na_Sheet__names := He.noat_ok (fx 96 rfl),
  na_Sheet__scores := He.noat_ok (fx 97 rfl),
  mk_Sheet := He.mkr_ok (fx 98 rfl),
  cl_Book := He.cls_ok (fx 99 rfl),
  g_Book := He.glo_ok X G (fx 100 rfl),
  na_Book_reasons := He.noat_ok (fx 101 rfl),
  na_Book_by_mark := He.noat_ok (fx 102 rfl),
  mk_Book := He.mkr_ok (fx 103 rfl),
  v_MOST := cvalB_ok e_most,
  ad_Book := addB_ok e_add,
  isc_Row := insB_ok (He.cls_ok (fx 87 rfl)) e_insRow,
  isc_Book := insB_ok (He.cls_ok (fx 99 rfl)) e_insBook,
  m_Sheetcheck := He.meth_ok (fx 104 rfl),
  m_Sheet_difference := He.meth_ok (fx 105 rfl),
  m_Sheet_row := He.meth_ok (fx 106 rfl),
  m_Sheet_rivals := He.meth_ok (fx 107 rfl),
  m_Sheet_rows := He.meth_ok (fx 108 rfl),
  m_Sheet_answer_of := He.meth_ok (fx 109 rfl),
  m_Sheet_answers := He.meth_ok (fx 110 rfl),
  m_Book_records := He.meth_ok (fx 111 rfl),
  m_Book_rows := He.meth_ok (fx 112 rfl),
  m_Book_grown := He.meth_ok (fx 113 rfl),
  m_Book_add := He.meth_ok (fx 114 rfl),
  ox_Stuck := excB_ok e_excStuck,
  g_Stuck := He.glo_ok X G (fx 115 rfl),
  ini_Stuck := (iniB_ok e_iniStuck).1,
  tyi_Stuck := (iniB_ok e_iniStuck).2,
  xf_Stuck := xfB_ok e_xfStuck,
  no_Stuck_code := He.noat_ok (fx 116 rfl),
  no_Stuck_lot := He.noat_ok (fx 117 rfl),
  ox_OtherReasons := excB_ok e_excOtherReasons,
  g_OtherReasons := He.glo_ok X G (fx 118 rfl),
  ini_OtherReasons := (iniB_ok e_iniOtherReasons).1,
  tyi_OtherReasons := (iniB_ok e_iniOtherReasons).2,
  xf_OtherReasons := xfB_ok e_xfOtherReasons,
  no_OtherReasons_code := He.noat_ok (fx 119 rfl),
  g_ChoiceError := He.glo_ok X G (fx 120 rfl),
  g_Missing := He.glo_ok X G (fx 121 rfl),
  em_SS := He.exm_ok (fx 122 rfl),
  em_OS := He.exm_ok (fx 123 rfl),
  em_O := of_decide_eq_true e_em
  }
end FD
namespace FD
open PySem L2

/-! ### what is known (G) of the heap (H) -/
/-- the bag at a: the cells at c, the next one's index, what is left of a great one, the mixed number -/
def BagAt (a c : Addr) (G H : Hp) : Prop := ∃ (ns : List Int) (i : Nat) (g m : Int), H a = some (.lst [.ref c, .int i, .int g, .int m]) ∧ G c = some (.lst (ns.map V.int)) ∧ i ≤ ns.length ∧ ns.length ≤ 63 ∧ 0 ≤ g ∧ 0 ≤ m ∧ m < 2305843009213693951
/-- what may change under a step -/
abbrev Bg (b : Option (Addr × Addr)) (a : Addr) : Prop := b.map (·.1) = some a
structure Wd (b : Option (Addr × Addr)) (G H : Hp) : Prop where
  same : Same G H
  bag : ∀ a c, b = some (a, c) → G a = none ∧ BagAt a c G H
structure Stp (B : Addr → Prop) (G H G' H' : Hp) : Prop where
  gg : Same G G'
  gh : Same G' H'
  hh : ∀ a o, H a = some o → ¬ B a → H' a = some o
  al : ∀ a, H a ≠ none → H' a ≠ none
  fr : ∀ a, G a = none → H a ≠ none → G' a = none
section
variable {B : Addr → Prop} {b : Option (Addr × Addr)} {G G1 G2 H H1 H2 : Hp} {p c : Addr} {o : HO}
theorem Stp.refl (h : Same G H) : Stp B G H G H := ⟨Same.refl G, h, fun _ _ e _ => e, fun _ e => e, fun _ e _ => e⟩
theorem Stp.trans (x : Stp B G H G1 H1) (y : Stp B G1 H1 G2 H2) : Stp B G H G2 H2 :=
  ⟨x.gg.trans y.gg, y.gh, fun a o e n => y.hh a o (x.hh a o e n) n, fun a e => y.al a (x.al a e), fun a e n => y.fr a (x.fr a e n) (x.al a n)⟩
theorem Stp.imp {B' : Addr → Prop} (x : Stp B G H G1 H1) (h : ∀ a, B a → B' a) : Stp B' G H G1 H1 := ⟨x.gg, x.gh, fun a o e n => x.hh a o e fun z => n (h a z), x.al, x.fr⟩
/-- what is new is not kept in mind -/
theorem Stp.forget (x : Stp B G H G1 H1) : Stp B G H G H1 := ⟨Same.refl G, x.gg.trans x.gh, x.hh, x.al, fun _ e _ => e⟩
/-- what became known is new -/
theorem Stp.newAt (x : Stp B G H G1 H1) {a : Addr} (h0 : G a = none) (h1 : G1 a = some o) : H a = none := by
  cases q : H a with
  | none => rfl
  | some u =>
    rw [x.fr a h0 (by rw [q]; exact fun z => nomatch z)] at h1
    cases h1
theorem free_not {a : Addr} (h : H p = none) (e : H a ≠ none) : a ≠ p := fun z => e (z ▸ h)
theorem upd_al {a : Addr} (e : H a ≠ none) : upd H p o a ≠ none := by
  unfold upd
  split
  · exact fun z => nomatch z
  · exact e
theorem same_upd2 (e : Same G H) : Same (upd G p o) (upd H p o) := fun a u h => by
  by_cases q : a = p
  · rw [q, upd_same] at h ⊢
    exact h
  · rw [upd_ne q] at h ⊢
    exact e a u h
theorem same_newR (e : Same G H) (h : G p = none) : Same G (upd H p o) := fun a u z => by
  rw [upd_ne (ne_of_none z h)]
  exact e a u z
theorem same_new (h : G p = none) : Same G (upd G p o) := same_newR (Same.refl G) h
/-- a new object, known -/
theorem Stp.new (x : Stp B G H G1 H1) (h : H1 p = none) : Stp B G H (upd G1 p o) (upd H1 p o) :=
  ⟨x.gg.trans (same_new (x.gh.free h)), same_upd2 x.gh, fun a u e n => by rw [upd_ne (ne_of_none (x.hh a u e n) h)]; exact x.hh a u e n, fun a e => upd_al (x.al a e),
    fun a e n => by rw [upd_ne (free_not h (x.al a n))]; exact x.fr a e n⟩
/-- a new object, not known (it will change) -/
theorem Stp.newP (x : Stp B G H G1 H1) (h : H1 p = none) : Stp B G H G1 (upd H1 p o) :=
  ⟨x.gg, same_newR x.gh (x.gh.free h), fun a u e n => by rw [upd_ne (ne_of_none (x.hh a u e n) h)]; exact x.hh a u e n, fun a e => upd_al (x.al a e), x.fr⟩
/-- an own object changes -/
theorem Stp.mut (x : Stp B G H G1 H1) (h0 : H p = none) (h1 : G1 p = none) : Stp B G H G1 (upd H1 p o) :=
  ⟨x.gg, same_newR x.gh h1, fun a u e n => by rw [upd_ne (ne_of_none e h0)]; exact x.hh a u e n, fun a e => upd_al (x.al a e), x.fr⟩
theorem Stp.mutB (x : Stp B G H G1 H1) (h0 : B p) (h1 : G1 p = none) : Stp B G H G1 (upd H1 p o) :=
  ⟨x.gg, same_newR x.gh h1, fun a u e n => by rw [upd_ne (fun z => n (by rw [z]; exact h0))]; exact x.hh a u e n, fun a e => upd_al (x.al a e), x.fr⟩
/-- an own object is known from now on -/
theorem Stp.know (x : Stp B G H G1 H1) (h0 : H p = none) (h1 : H1 p = some o) (hn : G1 p = none) : Stp B G H (upd G1 p o) H1 :=
  ⟨x.gg.trans (same_new hn), fun a u z => by
    by_cases q : a = p
    · rw [q, upd_same] at z
      rw [q, h1]
      exact z
    · rw [upd_ne q] at z
      exact x.gh a u z, x.hh, x.al, fun a e n => by rw [upd_ne (free_not h0 n)]; exact x.fr a e n⟩
/-- one object is no longer known -/
def hide (G : Hp) (p : Addr) : Hp := fun a => if a = p then none else G a
theorem hide_same : hide G p p = none := if_pos rfl
theorem hide_ne {a : Addr} (h : a ≠ p) : hide G p a = G a := if_neg h
theorem hide_le : Same (hide G p) G := fun a u z => by
  by_cases q : a = p
  · rw [q, hide_same] at z
    cases z
  · rw [hide_ne q] at z
    exact z
theorem Stp.hide (x : Stp B G H G1 H1) (h : G p = none) : Stp B G H (FD.hide G1 p) H1 :=
  ⟨fun a u z => by rw [hide_ne (ne_of_none z h)]; exact x.gg a u z, hide_le.trans x.gh, x.hh, x.al, fun a e n => by
    by_cases q : a = p
    · rw [q]; exact hide_same
    · rw [hide_ne q]; exact x.fr a e n⟩
/-- a step made while an own object was in mind -/
theorem Stp.back (x : Stp B (upd G p o) H G1 H1) (h : G p = none) : Stp B G H G H1 := ⟨Same.refl G, fun a u z => x.gh a u (x.gg a u (same_new h a u z)), x.hh, x.al, fun _ e _ => e⟩
theorem BagAt.ne (h : BagAt p c G H) : H p ≠ none := by
  obtain ⟨ns, i, g, m, e, _⟩ := h
  rw [e]
  exact fun z => nomatch z
theorem BagAt.same (h : BagAt p c G H) (eg : Same G G1) (eh : H1 p = H p) : BagAt p c G1 H1 := by
  obtain ⟨ns, i, g, m, e1, ec, r⟩ := h
  exact ⟨ns, i, g, m, eh.trans e1, eg _ _ ec, r⟩
theorem Wd.none (h : Same G H) : Wd none G H := ⟨h, fun _ _ z => nomatch z⟩
theorem Wd.off (x : Wd b G H) (h : H p = Option.none) : ¬ Bg b p := fun z => by
  cases b with
  | none => cases z
  | some q =>
    obtain ⟨a, c⟩ := q
    have e : a = p := Option.some.inj z
    subst e
    exact (x.bag a c rfl).2.ne h
theorem Wd.new (x : Wd b G H) (h : H p = Option.none) : Wd b (upd G p o) (upd H p o) :=
  ⟨same_upd2 x.same, fun a c z => by
    have n : a ≠ p := fun q => (x.bag a c z).2.ne (q ▸ h)
    exact ⟨by rw [upd_ne n]; exact (x.bag a c z).1, (x.bag a c z).2.same (same_new (x.same.free h)) (upd_ne n)⟩⟩
/-- an own object changes -/
theorem Wd.mut (x : Wd b G H) (h : G p = Option.none) (hb : ¬ Bg b p) : Wd b G (upd H p o) :=
  ⟨same_newR x.same h, fun a c z => ⟨(x.bag a c z).1, (x.bag a c z).2.same (Same.refl G) (upd_ne fun q => hb (by rw [z, ← q]; rfl))⟩⟩
theorem Wd.newP (x : Wd b G H) (h : H p = Option.none) : Wd b G (upd H p o) := x.mut (x.same.free h) (x.off h)
/-- an own object is known from now on -/
theorem Wd.know (x : Wd b G H) (h1 : H p = some o) (hn : G p = Option.none) (hb : ¬ Bg b p) : Wd b (upd G p o) H :=
  ⟨fun a u z => by
    by_cases q : a = p
    · rw [q, upd_same] at z
      rw [q, h1]
      exact z
    · rw [upd_ne q] at z
      exact x.same a u z, fun a c z => ⟨by rw [upd_ne (fun q => hb (by rw [z, ← q]; rfl))]; exact (x.bag a c z).1, (x.bag a c z).2.same (same_new hn) rfl⟩⟩
theorem Wd.lift (x : Wd b G H) : Wd Option.none G H := ⟨x.same, fun _ _ z => nomatch z⟩
/-- the bag as it stands, what was known before -/
theorem Wd.pull (x : Wd b G H) (s : Same G H1) (y : Wd b G1 H1) : Wd b G H1 := ⟨s, fun a c z => ⟨(x.bag a c z).1, by
  obtain ⟨ns0, _, _, _, _, e2, _⟩ := (x.bag a c z).2
  obtain ⟨ns, i, g, m, e1, e3, r⟩ := (y.bag a c z).2
  have h1 := s _ _ e2
  have h2 := y.same _ _ e3
  have h3 : some (HO.lst (ns0.map V.int)) = some (HO.lst (ns.map V.int)) := h1.symm.trans h2
  exact ⟨ns, i, g, m, e1, e2.trans h3, r⟩⟩⟩
/-- back from a step that leaves the bag alone -/
theorem Wd.back (x : Wd b G H) (y : Stp (Bg Option.none) G H G1 H1) : Wd b G1 H1 :=
  ⟨y.gh, fun a c z => ⟨y.fr a (x.bag a c z).1 (x.bag a c z).2.ne, (x.bag a c z).2.same y.gg (by
    obtain ⟨ns, i, g, m, e, _⟩ := (x.bag a c z).2
    rw [e]
    exact y.hh a _ e fun q => nomatch q)⟩⟩
theorem Stp.up (y : Stp (Bg Option.none) G H G1 H1) : Stp B G H G1 H1 := y.imp fun _ z => nomatch z
end

/-! ### what a reading gives, told of what is known -/
def Ev {α : Type} (b : Option (Addr × Addr)) (t : L2.St → Hp → (α → Hp → Prop) → Prop) (σ : L2.St) (G : Hp) (P : α → Hp → Prop) : Prop :=
  ∀ H, Wd b G H → ∀ Q : α → Hp → Prop, (∀ v G' H', Stp (Bg b) G H G' H' → Wd b G' H' → P v G' → Q v H') → t σ H Q
/-- the same of a reading of values -/
def Rv {α : Type} (b : Option (Addr × Addr)) (r : Hp → (α → Hp → Prop) → Prop) (G : Hp) (P : α → Hp → Prop) : Prop :=
  ∀ H, Wd b G H → ∀ Q : α → Hp → Prop, (∀ v G' H', Stp (Bg b) G H G' H' → Wd b G' H' → P v G' → Q v H') → r H Q
section
variable {α β : Type} {b : Option (Addr × Addr)} {σ : L2.St} {G H : Hp} {K : PySem.W.Frag}
theorem Rv.here {r : Hp → (α → Hp → Prop) → Prop} {P : α → Hp → Prop} {v : α} (h : ∀ H, Same G H → ∀ Q : α → Hp → Prop, Q v H → r H Q) (p : P v G) : Rv b r G P :=
  fun H w Q k => h H w.same Q (k v G H (Stp.refl w.same) w p)
/-- one new object -/
theorem Rv.made {r : Hp → (V → Hp → Prop) → Prop} {P : V → Hp → Prop} {o : HO} (h : ∀ H, Same G H → ∀ Q : V → Hp → Prop, (∀ p, H p = none → Q (.ref p) (upd H p o)) → r H Q) (p : ∀ a, G a = none → P (.ref a) (upd G a o)) : Rv b r G P :=
  fun H w Q k => h H w.same Q fun a ha => k (.ref a) _ _ ((Stp.refl w.same).new ha) (w.new ha) (p a (w.same.free ha))
theorem Rv.mono {r : Hp → (α → Hp → Prop) → Prop} {P P' : α → Hp → Prop} (h : Rv b r G P) (hp : ∀ v G', Same G G' → P v G' → P' v G') : Rv b r G P' :=
  fun H w Q k => h H w Q fun v G' H' e w' p => k v G' H' e w' (hp v G' e.gg p)
theorem Ev.mono {t : L2.St → Hp → (α → Hp → Prop) → Prop} {P P' : α → Hp → Prop} (h : Ev b t σ G P) (hp : ∀ v G', Same G G' → P v G' → P' v G') : Ev b t σ G P' :=
  fun H w Q k => h H w Q fun v G' H' e w' p => k v G' H' e w' (hp v G' e.gg p)
theorem Ev.lift {t : L2.St → Hp → (α → Hp → Prop) → Prop} {P : α → Hp → Prop} (h : Ev none t σ G P) : Ev b t σ G P :=
  fun H w Q k => h H w.lift Q fun v G' H' e w' p => k v G' H' e.up (w.back e) p
/-- then -/
theorem Ev.bind {t : L2.St → Hp → (α → Hp → Prop) → Prop} {u : α → Hp → (β → Hp → Prop) → Prop} {P : β → Hp → Prop} (h : Ev b t σ G fun v G1 => Rv b (u v) G1 P) : Ev b (fun σ H Q => t σ H fun v H1 => u v H1 Q) σ G P :=
  fun H w Q k => h H w _ fun v G1 H1 e1 w1 q => q H1 w1 Q fun x G2 H2 e2 w2 p => k x G2 H2 (e1.trans e2) w2 p

theorem ev_var {i : Nat} {v : V} {P : V → Hp → Prop} (h : σ[i]? = some (some v)) (p : P v G) : Ev b (tVar i) σ G P := fun H w Q k => ⟨v, h, k v G H (Stp.refl w.same) w p⟩
theorem ev_c {v : V} {P : V → Hp → Prop} (p : P v G) : Ev b (tC v) σ G P := fun H w Q k => k v G H (Stp.refl w.same) w p
theorem ev_op {r : R2} {ta tb : TE} {P : V → Hp → Prop} (h : Ev b ta σ G fun x G1 => Ev b tb σ G1 fun y G2 => Rv b (r x y) G2 P) : Ev b (tOp r ta tb) σ G P :=
  fun H w Q k => h H w _ fun x G1 H1 e1 w1 q => q H1 w1 _ fun y G2 H2 e2 w2 q2 => q2 H2 w2 Q fun z G3 H3 e3 w3 p => k z G3 H3 ((e1.trans e2).trans e3) w3 p
theorem ev_un {r : V → Hp → VK → Prop} {ta : TE} {P : V → Hp → Prop} (h : Ev b ta σ G fun x G1 => Rv b (r x) G1 P) : Ev b (tUn r ta) σ G P := Ev.bind (u := r) h
theorem ea_nil {P : List V → Hp → Prop} (p : P [] G) : Ev b tNil σ G P := fun H w Q k => k [] G H (Stp.refl w.same) w p
theorem ea_cons {te : TE} {ta : TA} {P : List V → Hp → Prop} (h : Ev b te σ G fun x G1 => Ev b ta σ G1 fun xs G2 => P (x :: xs) G2) : Ev b (tCons te ta) σ G P :=
  fun H w Q k => h H w _ fun x G1 H1 e1 w1 q => q H1 w1 _ fun xs G2 H2 e2 w2 p => k (x :: xs) G2 H2 (e1.trans e2) w2 p
theorem sz_of {n : Nat} (h : n ≤ 1000000) : n ≤ sizeLine := Nat.le_trans h (by decide)
theorem sz_lt {n : Nat} (h : n < 1000000) : n < sizeLine := Nat.lt_of_lt_of_le h (by decide)
theorem ev_tup {ta : TA} {P : V → Hp → Prop} (h : Ev b ta σ G fun xs G1 => xs.length ≤ 1000000 ∧ ∀ a, G1 a = none → P (.ref a) (upd G1 a (.tup xs))) : Ev b (tTup ta) σ G P :=
  fun H w Q k => h H w _ fun xs G1 H1 e1 w1 q => ⟨sz_of q.1, fun p hp => k (.ref p) _ _ (e1.new hp) (w1.new hp) (q.2 p (w1.same.free hp))⟩
theorem ev_lst {ta : TA} {P : V → Hp → Prop} (h : Ev b ta σ G fun xs G1 => xs.length ≤ 1000000 ∧ ∀ a, G1 a = none → P (.ref a) (upd G1 a (.lst xs))) : Ev b (tLst ta) σ G P :=
  fun H w Q k => h H w _ fun xs G1 H1 e1 w1 q => ⟨sz_of q.1, fun p hp => k (.ref p) _ _ (e1.new hp) (w1.new hp) (q.2 p (w1.same.free hp))⟩
theorem ev_cb {r : List V → Hp → VK → Prop} {ta : TA} {P : V → Hp → Prop} (h : Ev b ta σ G fun xs G1 => Rv b (r xs) G1 P) : Ev b (tCB r ta) σ G P := Ev.bind (u := r) h
theorem et_test {te : TE} {P : Bool → Hp → Prop} (h : Ev b te σ G fun v G1 => ∃ k, v = .bl k ∧ P k G1) : Ev b (tTest te) σ G P :=
  fun H w Q k => h H w _ fun v G1 H1 e1 w1 ⟨c, ec, p⟩ => ⟨c, ec, k c G1 H1 e1 w1 p⟩
theorem et_B {te : TE} {P : Bool → Hp → Prop} (h : Ev b te σ G fun v G1 => ∃ k, v = .bl k ∧ P k G1) : Ev b (tB te) σ G P :=
  fun H w Q k => h H w _ fun v G1 H1 e1 w1 ⟨c, ec, p⟩ => ⟨c, ec, k c G1 H1 e1 w1 p⟩
theorem et_not {t : TT} {P : Bool → Hp → Prop} (h : Ev b t σ G fun c G1 => P (!c) G1) : Ev b (tNot t) σ G P :=
  fun H w Q k => h H w _ fun c G1 H1 e1 w1 p => k (!c) G1 H1 e1 w1 p
theorem et_and {t u : TT} {P : Bool → Hp → Prop} (h : Ev b t σ G fun c G1 => (c = true → Ev b u σ G1 P) ∧ (c = false → P false G1)) : Ev b (tAnd t u) σ G P :=
  fun H w Q k => h H w _ fun c G1 H1 e1 w1 q => by
    cases c with
    | true => exact iteT (q.1 rfl H1 w1 Q fun d G2 H2 e2 w2 p => k d G2 H2 (e1.trans e2) w2 p)
    | false => exact iteF (k false G1 H1 e1 w1 (q.2 rfl))
theorem et_or {t u : TT} {P : Bool → Hp → Prop} (h : Ev b t σ G fun c G1 => (c = true → P true G1) ∧ (c = false → Ev b u σ G1 P)) : Ev b (tOr t u) σ G P :=
  fun H w Q k => h H w _ fun c G1 H1 e1 w1 q => by
    cases c with
    | true => exact iteT (k true G1 H1 e1 w1 (q.1 rfl))
    | false => exact iteF (q.2 rfl H1 w1 Q fun d G2 H2 e2 w2 p => k d G2 H2 (e1.trans e2) w2 p)
theorem ev_andV {ta tb : TE} {P : V → Hp → Prop} (h : Ev b ta σ G fun v G1 => ∃ c, v = .bl c ∧ (c = true → Ev b tb σ G1 P) ∧ (c = false → P (.bl false) G1)) : Ev b (tAndV ta tb) σ G P :=
  fun H w Q k => h H w _ fun v G1 H1 e1 w1 ⟨c, ec, q1, q2⟩ => ⟨c, ec, by
    cases c with
    | true => exact iteT (q1 rfl H1 w1 Q fun d G2 H2 e2 w2 p => k d G2 H2 (e1.trans e2) w2 p)
    | false => exact iteF (k _ G1 H1 e1 w1 (q2 rfl))⟩
theorem ev_orV {ta tb : TE} {P : V → Hp → Prop} (h : Ev b ta σ G fun v G1 => ∃ c, v = .bl c ∧ (c = true → P (.bl true) G1) ∧ (c = false → Ev b tb σ G1 P)) : Ev b (tOrV ta tb) σ G P :=
  fun H w Q k => h H w _ fun v G1 H1 e1 w1 ⟨c, ec, q1, q2⟩ => ⟨c, ec, by
    cases c with
    | true => exact iteT (k _ G1 H1 e1 w1 (q1 rfl))
    | false => exact iteF (q2 rfl H1 w1 Q fun d G2 H2 e2 w2 p => k d G2 H2 (e1.trans e2) w2 p)⟩
theorem ev_notV {ta : TE} {P : V → Hp → Prop} (h : Ev b ta σ G fun v G1 => ∃ c, v = .bl c ∧ P (.bl (!c)) G1) : Ev b (tNotV ta) σ G P :=
  fun H w Q k => h H w _ fun v G1 H1 e1 w1 ⟨c, ec, p⟩ => ⟨c, ec, k _ G1 H1 e1 w1 p⟩
theorem ev_if {t : TT} {ta tb : TE} {P : V → Hp → Prop} (h : Ev b t σ G fun c G1 => (c = true → Ev b ta σ G1 P) ∧ (c = false → Ev b tb σ G1 P)) : Ev b (tIf t ta tb) σ G P :=
  fun H w Q k => h H w _ fun c G1 H1 e1 w1 q => by
    cases c with
    | true => exact iteT (q.1 rfl H1 w1 Q fun d G2 H2 e2 w2 p => k d G2 H2 (e1.trans e2) w2 p)
    | false => exact iteF (q.2 rfl H1 w1 Q fun d G2 H2 e2 w2 p => k d G2 H2 (e1.trans e2) w2 p)
theorem eo_none {P : Option Int → Hp → Prop} (p : P none G) : Ev b tNoPart σ G P := fun H w Q k => k none G H (Stp.refl w.same) w p
theorem eo_some {te : TE} {P : Option Int → Hp → Prop} (h : Ev b te σ G fun v G1 => ∃ i, v = .int i ∧ P (some i) G1) : Ev b (tPart te) σ G P :=
  fun H w Q k => h H w _ fun v G1 H1 e1 w1 ⟨i, ei, p⟩ => ⟨i, ei, k (some i) G1 H1 e1 w1 p⟩
theorem ev_sl {r : V → Option Int → Option Int → Hp → VK → Prop} {te : TE} {tl th : TO} {P : V → Hp → Prop} (h : Ev b te σ G fun x G1 => Ev b tl σ G1 fun l G2 => Ev b th σ G2 fun u G3 => Rv b (r x l u) G3 P) : Ev b (tSl r te tl th) σ G P :=
  fun H w Q k => h H w _ fun x G1 H1 e1 w1 q => q H1 w1 _ fun l G2 H2 e2 w2 q2 => q2 H2 w2 _ fun u G3 H3 e3 w3 q3 => q3 H3 w3 Q fun z G4 H4 e4 w4 p => k z G4 H4 (((e1.trans e2).trans e3).trans e4) w4 p
theorem ev_fld {ta : TE} {f : Str} {P : V → Hp → Prop} (h : Ev b ta σ G fun x G1 => ∃ a C dx fs v, x = .ref a ∧ G1 a = some (.ins C dx fs) ∧ Cls K C ∧ NoAttr K C f ∧ fs.lookup f = some v ∧ P v G1) : Ev b (tFld K ta f) σ G P :=
  fun H w Q k => h H w _ fun x G1 H1 e1 w1 ⟨a, C, dx, fs, v, ex, hg, c, n, l, p⟩ => ⟨a, C, dx, fs, v, ex, w1.same _ _ hg, c, n, l, k v G1 H1 e1 w1 p⟩
variable {D : Ends} {tu tw : TS}
theorem s_seq {t u : TS} (h : t { D with nx := u D } σ H) : tSeq t u D σ H := h
theorem s_skip (h : D.nx σ H) : tNext D σ H := h
theorem s_gn {i : Nat} {v : V} {Q : L2.St → Hp → Prop} (h : Q (σ.set i (some v)) H) : gName i v σ H Q := h
theorem s_asg {te : TE} {i : Nat} (w : Wd b G H) (h : Ev b te σ G fun v G1 => ∀ H1, Stp (Bg b) G H G1 H1 → Wd b G1 H1 → D.nx (σ.set i (some v)) H1) : tAsg te (gName i) D σ H :=
  h H w _ fun v G1 H1 e1 w1 q => q H1 e1 w1
theorem s_ret {te : TE} (w : Wd b G H) (h : Ev b te σ G fun v G1 => ∀ H1, Stp (Bg b) G H G1 H1 → Wd b G1 H1 → D.rt v H1) : tRet te D σ H := h H w _ fun v G1 H1 e1 w1 q => q H1 e1 w1
theorem s_drop {te : TE} (w : Wd b G H) (h : Ev b te σ G fun v G1 => ∀ H1, Stp (Bg b) G H G1 H1 → Wd b G1 H1 → D.nx σ H1) : tDrop te D σ H := h H w _ fun v G1 H1 e1 w1 q => q H1 e1 w1
theorem s_if {t : TT} (w : Wd b G H) (h : Ev b t σ G fun c G1 => ∀ H1, Stp (Bg b) G H G1 H1 → Wd b G1 H1 → (c = true → tu D σ H1) ∧ (c = false → tw D σ H1)) : tIfS t tu tw D σ H :=
  h H w _ fun c G1 H1 e1 w1 q => by
    cases c with
    | true => exact iteT ((q H1 e1 w1).1 rfl)
    | false => exact iteF ((q H1 e1 w1).2 rfl)
end

/-! ### promises -/
/-- a def that changes nothing: pre says, of arguments known at G, what is to be shown that P holds of what comes -/
def SpP (n : Nat) (pre : List V → Hp → (V → Hp → Prop) → Prop) : Sp := fun vs H Q _ => vs.length = n ∧ ∃ G P, Same G H ∧ pre vs G P ∧ ∀ v G' H', Stp (Bg none) G H G' H' → P v G' → Q v H'
/-- a def whose first argument is the bag -/
def SpB (n : Nat) (pre : List V → Hp → (V → Hp → Prop) → Prop) : Sp := fun vs H Q _ => vs.length = n + 1 ∧ ∃ a c G P vs', vs = .ref a :: vs' ∧ Wd (some (a, c)) G H ∧ pre vs' G P ∧ ∀ v G' H', Stp (Bg (some (a, c))) G H G' H' → Wd (some (a, c)) G' H' → P v G' → Q v H'
theorem spP_len {n : Nat} {pre : List V → Hp → (V → Hp → Prop) → Prop} : ∀ vs H Q E, SpP n pre vs H Q E → vs.length = n := fun _ _ _ _ h => h.1
theorem spB_len {n : Nat} {pre : List V → Hp → (V → Hp → Prop) → Prop} : ∀ vs H Q E, SpB n pre vs H Q E → vs.length = n + 1 := fun _ _ _ _ h => h.1
section
variable {b : Option (Addr × Addr)} {σ : L2.St} {G H : Hp} {K : PySem.W.Frag} {pre : List V → Hp → (V → Hp → Prop) → Prop} {P : V → Hp → Prop} {E : XK} {ta : TA} {n : Nat}
theorem ev_call (h : Ev b ta σ G fun vs G1 => vs.length = n ∧ pre vs G1 P) : Ev b (tCall (SpP n pre) [] E ta) σ G P :=
  fun H w Q k => h H w _ fun vs G1 H1 e1 w1 ⟨hl, hp⟩ => by
    show SpP n pre (vs ++ []) H1 Q E
    rw [List.append_nil]
    exact ⟨hl, G1, P, w1.same, hp, fun v G2 H2 e2 p => k v G2 H2 (e1.trans e2.up) (w1.back e2) p⟩
theorem ev_callB {a c : Addr} (h : Ev (some (a, c)) ta σ G fun vs G1 => ∃ vs', vs = .ref a :: vs' ∧ vs'.length = n ∧ pre vs' G1 P) : Ev (some (a, c)) (tCall (SpB n pre) [] E ta) σ G P :=
  fun H w Q k => h H w _ fun vs G1 H1 e1 w1 ⟨vs', ev, hl, hp⟩ => by
    show SpB n pre (vs ++ []) H1 Q E
    rw [List.append_nil, ev]
    exact ⟨congrArg Nat.succ hl, a, c, G1, P, vs', rfl, w1, hp, fun v G2 H2 e2 w2 p => k v G2 H2 (e1.trans e2) w2 p⟩
end
/-- the module's name x stands for a def that keeps sp -/
def Def (P : Program) (w : World) (K : PySem.W.Frag) (mg : Str → Option Value) (base : Heap) (CX : CXT) (k : Nat) (x : Str) (ps : List Str) (sp : Sp) : Prop :=
  ∃ (f : Addr) (fd : FuncData), FnOk P w K mg base CX k f fd ps sp ∧ mg x = some (.ref f) ∧ PySem.W.keepIn K (.ref f) = true ∧ L2.Binds K fd ps []
theorem pe_d {X : Cx} {CX : CXT} {k : Nat} {x : Str} {ps : List Str} {sp : Sp} {E : XK} {e : Expr} {es : List Expr} {t : TA} {p pos : Pos} (D : Def X.prog X.w X.K X.mg X.base CX k x ps sp) (hr : Room k X.A) (hg : Gl X x) (hx : Passes CX X E) (ha : PA X (e :: es) t)
    (hd : (x == ("__debug__" : Str)) = false := by decide) (he : starEach (e :: es) X.env = (false, eval e X.env) :: starEach es X.env := by rfl) (hpl : (backTo pos (starEach es X.env)).any (·.1) = false := by rfl) :
    PE X (.Call (.Name x p) (e :: es) [] pos) (tCall sp [] E t) := by
  obtain ⟨f, fd, F, hm, hk, hb⟩ := D
  exact pe_call F hr hg hm hk hb .nil hx ha hd he hpl
end FD
namespace FD
open PySem L2
section
variable {b : Option (Addr × Addr)} {σ : L2.St} {G H : Hp} {K : PySem.W.Frag} {D : Ends} {g : TG} {tb : TS}
theorem sql_mono {G G' : Hp} {a : Addr} {xs : List V} (e : Same G G') (h : SqL K G a xs) : SqL K G' a xs := e.seq h
theorem sqt_mono {G G' : Hp} {a : Addr} {xs : List V} (e : Same G G') (h : SqT K G a xs) : SqT K G' a xs := by
  rcases h with (h | ⟨o, h⟩) | h
  · exact .inl (.inl (e _ _ h))
  · exact .inl (.inr ⟨o, e _ _ h⟩)
  · exact .inr h
/-- what a loop keeps: Pv by the turn, the slots, what is known, the heap -/
structure ForW (b : Option (Addr × Addr)) (G1 : Hp) (n : Nat) (D : Ends) (Pv : Nat → L2.St → Hp → Hp → Prop) : Prop where
  wd : ∀ i σ G2 H2, Pv i σ G2 H2 → Same G1 G2 ∧ Wd b G2 H2
  done : ∀ σ G2 H2, Pv n σ G2 H2 → D.nx σ H2
abbrev nxP (Pv : Nat → L2.St → Hp → Hp → Prop) (i : Nat) (σ : L2.St) (H : Hp) : Prop := ∃ G, Pv i σ G H
theorem for_walk {J : It} {n : Nat} {Gd : Hp → Prop} {Y : Nat → Hp → V → Hp → Prop} {G1 H1 : Hp} (W : Walk J n Gd Y) (Pv : Nat → L2.St → Hp → Hp → Prop) (F : ForW b G1 n D Pv) (hgd : ∀ H, Same G1 H → Gd H) (h0 : Pv 0 σ G1 H1)
    (hs : ∀ i x σ G2 H2 H', i < n → Pv i σ G2 H2 → Y i H2 x H' → g x σ H' fun σ3 H3 => tb { D with nx := nxP Pv (i + 1), ct := nxP Pv (i + 1), bk := D.nx } σ3 H3) :
    ∃ W : Nat → Nat → L2.St → Hp → Prop, (∃ m, W 0 m σ H1) ∧ ∀ i m σ H, W i m σ H →
      (J.stop i H ∧ D.nx σ H) ∨ (J.go i H ∧ ∃ N : L2.St → Hp → Prop, (∀ σ' H', N σ' H' → ∃ m', m' < m ∧ W (i + 1) m' σ' H') ∧ ∀ x H', J.yld i H x H' → g x σ H' fun σ2 H2 => tb { D with nx := N, ct := N, bk := D.nx } σ2 H2) :=
  for_it W (nxP Pv) ⟨G1, h0⟩ (fun i σ H _ ⟨G2, p⟩ => hgd H ((F.wd i σ G2 H p).1.trans (F.wd i σ G2 H p).2.same)) (fun i x σ H H' hi ⟨G2, p⟩ y => hs i x σ G2 H H' hi p y) fun σ H ⟨G2, p⟩ => F.done σ G2 H p
theorem s_forT {tl : TE} (w : Wd b G H) (h : Ev b tl σ G fun x G1 => ∃ a xs, x = .ref a ∧ SqT K G1 a xs ∧ ∃ Pv : Nat → L2.St → Hp → Hp → Prop, ForW b G1 xs.length D Pv ∧ (∀ H1, Stp (Bg b) G H G1 H1 → Wd b G1 H1 → Pv 0 σ G1 H1) ∧
    ∀ i x σ G2 H2, xs[i]? = some x → Pv i σ G2 H2 → g x σ H2 fun σ3 H3 => tb { D with nx := nxP Pv (i + 1), ct := nxP Pv (i + 1), bk := D.nx } σ3 H3) : tFor (iTup K tl) g tb D σ H :=
  h H w _ fun x G1 H1 e1 w1 ⟨a, xs, ex, q, Pv, F, h0, hs⟩ => ⟨a, ex, ⟨xs, sqt_mono w1.same q⟩, for_walk walk_tup Pv F (fun H e => sqt_mono e q) (h0 H1 e1 w1) fun i x σ G2 H2 H' hi p y => by
    obtain ⟨rfl, y⟩ := y
    exact hs i x σ G2 H' y p⟩
theorem s_forL {tl : TE} (w : Wd b G H) (h : Ev b tl σ G fun x G1 => ∃ a xs, x = .ref a ∧ SqL K G1 a xs ∧ ∃ Pv : Nat → L2.St → Hp → Hp → Prop, ForW b G1 xs.length D Pv ∧ (∀ H1, Stp (Bg b) G H G1 H1 → Wd b G1 H1 → Pv 0 σ G1 H1) ∧
    ∀ i x σ G2 H2, xs[i]? = some x → Pv i σ G2 H2 → g x σ H2 fun σ3 H3 => tb { D with nx := nxP Pv (i + 1), ct := nxP Pv (i + 1), bk := D.nx } σ3 H3) : tFor (iList K tl) g tb D σ H :=
  h H w _ fun x G1 H1 e1 w1 ⟨a, xs, ex, q, Pv, F, h0, hs⟩ => ⟨a, ex, ⟨xs, sql_mono w1.same q⟩, for_walk walk_list Pv F (fun H e => sql_mono e q) (h0 H1 e1 w1) fun i x σ G2 H2 H' hi p y => by
    obtain ⟨rfl, y⟩ := y
    exact hs i x σ G2 H' y p⟩
theorem s_forR1 {ta : TA} (w : Wd b G H) (h : Ev b ta σ G fun vs G1 => ∃ n : Nat, vs = [.int n] ∧ n ≤ 1000000 ∧ ∃ Pv : Nat → L2.St → Hp → Hp → Prop, ForW b G1 n D Pv ∧ (∀ H1, Stp (Bg b) G H G1 H1 → Wd b G1 H1 → Pv 0 σ G1 H1) ∧
    ∀ i σ G2 H2, i < n → Pv i σ G2 H2 → g (.int (i : Nat)) σ H2 fun σ3 H3 => tb { D with nx := nxP Pv (i + 1), ct := nxP Pv (i + 1), bk := D.nx } σ3 H3) : tFor (iRng1 ta) g tb D σ H :=
  h H w _ fun vs G1 H1 e1 w1 ⟨n, ev, hn, Pv, F, h0, hs⟩ => ⟨n, ev, by omega, by omega, for_walk (n := n) walk_range Pv F (fun _ _ => trivial) (h0 H1 e1 w1) fun i x σ G2 H2 H' hi p y => by
    obtain ⟨rfl, rfl⟩ := y
    have e0 : (0 : Int) + (i : Int) = (i : Int) := Int.zero_add _
    show g (.int ((0 : Int) + (i : Int))) σ H' _
    rw [e0]
    exact hs i σ G2 H' hi p⟩

/-! ### comprehensions: what is gathered so far -/
/-- g stores x and leaves the slots σ1 -/
def Gv (g : TG) (x : V) (σ : L2.St) (H : Hp) (σ1 : L2.St) : Prop := ∀ Q : L2.St → Hp → Prop, Q σ1 H → g x σ H Q
/-- Iv: by the turn, the items so far, what is known -/
theorem lc_walk {J : It} {n : Nat} {Gd : Hp → Prop} {Y : Nat → Hp → V → Hp → Prop} {G0 H0 G1 H1 : Hp} {tt : TT} {te : TE} {vs : List Nat} {Dl : Addr} {P : V → Hp → Prop} {Q : VK} (W : Walk J n Gd Y) (hn : n ≤ 100000) (w1 : Wd b G1 H1) (e01 : Stp (Bg b) G0 H0 G1 H1) (hD : H1 Dl = none)
    (hgd : ∀ H, Same G1 H → Gd H) (Iv : Nat → List V → Hp → Prop) (h0 : Iv 0 [] G1)
    (hs : ∀ i x G2 H2 H' acc, i < n → Same G1 G2 → Wd b G2 H2 → Iv i acc G2 → acc.length ≤ i → Y i H2 x H' → ∃ σ3 G3, Stp (Bg b) G2 H2 G3 H' ∧ Wd b G3 H' ∧ Gv g x (wipe σ vs) H' σ3 ∧ wipe σ3 vs = wipe σ vs ∧
      Ev b tt σ3 G3 fun c G4 => (c = true → Ev b te σ3 G4 fun y G5 => Iv (i + 1) (acc ++ [y]) G5) ∧ (c = false → Iv (i + 1) acc G4))
    (hd : ∀ acc G2, Same G1 G2 → Iv n acc G2 → acc.length ≤ n → ∀ a, G2 a = none → P (.ref a) (upd G2 a (.lst acc)))
    (k : ∀ v G' H', Stp (Bg b) G0 H0 G' H' → Wd b G' H' → P v G' → Q v H') :
    ∃ W : Nat → Nat → Hp → Prop, (∃ m, W 0 m (upd H1 Dl (.lst []))) ∧ ∀ i m H, W i m H →
      (J.stop i H ∧ Q (.ref Dl) H) ∨ (J.go i H ∧ ∃ Nx : Hp → Prop, (∀ H', Nx H' → ∃ m', m' < m ∧ W (i + 1) m' H') ∧ ∀ x H', J.yld i H x H' → g x (wipe σ vs) H' fun σ2 H2 => wipe σ2 vs = wipe σ vs ∧ tt σ2 H2 fun b H3 =>
        if b = true then te σ2 H3 fun y H4 => ∃ acc, H4 Dl = some (.lst acc) ∧ acc.length < sizeLine ∧ Nx (upd H4 Dl (.lst (acc ++ [y]))) else Nx H3) := by
  have hG1 : G1 Dl = none := w1.same.free hD
  have hb := w1.off hD
  have non : ∀ {o : HO} {H : Hp}, H Dl = some o → H Dl ≠ none := fun e z => by rw [e] at z; cases z
  refine lc_it W (fun i H => ∃ G2 acc, Stp (Bg b) G1 H1 G2 H ∧ Wd b G2 H ∧ G2 Dl = none ∧ H Dl = some (.lst acc) ∧ Iv i acc G2 ∧ acc.length ≤ i) ⟨G1, [], (Stp.refl w1.same).newP hD, w1.newP hD, hG1, upd_same, h0, Nat.le_refl _⟩
    (fun i H _ ⟨G2, acc, e, w, _⟩ => hgd H (e.gg.trans w.same)) (fun i x H H' hi ⟨G2, acc, e, w, gD, hDl, iv, hl⟩ y => ?_) (fun H ⟨G2, acc, e, w, gD, hDl, iv, hl⟩ => ?_)
  · obtain ⟨σ3, G3, e3, w3, gv, hw, hv⟩ := hs i x G2 H H' acc hi e.gg w iv hl y
    refine gv _ ⟨hw, hv H' w3 _ fun c G4 H4 e4 w4 q => ?_⟩
    have dl3 : H' Dl = some (.lst acc) := e3.hh _ _ hDl hb
    have dl4 : H4 Dl = some (.lst acc) := e4.hh _ _ dl3 hb
    have gd4 : G4 Dl = none := e4.fr _ (e3.fr _ gD (non hDl)) (non dl3)
    cases c with
    | false => exact iteF ⟨G4, acc, (e.trans e3).trans e4, w4, gd4, dl4, q.2 rfl, Nat.le_succ_of_le hl⟩
    | true =>
      refine iteT (q.1 rfl H4 w4 _ fun y G5 H5 e5 w5 iv5 => ?_)
      have dl5 : H5 Dl = some (.lst acc) := e5.hh _ _ dl4 hb
      have gd5 : G5 Dl = none := e5.fr _ gd4 (non dl4)
      exact ⟨acc, dl5, sz_lt (by omega), G5, acc ++ [y], (((e.trans e3).trans e4).trans e5).mut hD gd5, w5.mut gd5 hb, gd5, upd_same, iv5, by rw [List.length_append]; exact Nat.succ_le_succ hl⟩
  · have h0 : H0 Dl = none := by
      cases q : H0 Dl with
      | none => rfl
      | some o => exact absurd hD (e01.al _ (by rw [q]; exact fun z => nomatch z))
    exact k _ _ _ ((e01.trans e).know h0 hDl gD) (w.know hDl gD hb) (hd acc G2 e.gg iv hl Dl gD)
end
end FD
namespace FD
open PySem L2
section
variable {K : PySem.W.Frag} {G G' H : Hp}
mutual
theorem dp_mono (e : Same G G') : ∀ (d : PyData) (v : V), Dp K G v d → Dp K G' v d
  | .none, _, h => by
    cases h
    exact .non
  | .bool b, _, h => by
    cases h
    exact .bl b
  | .int i, _, h => by
    cases h
    exact .int i
  | .str x, _, h => by
    cases h
    exact .str x
  | .list ds, _, h => by
    cases h with
    | lst q a => exact .lst (sql_mono e q) (dpa_mono e ds _ a)
  | .tuple ds, _, h => by
    cases h with
    | tup q a => exact .tup (sqt_mono e q) (dpa_mono e ds _ a)
  | .dict _, _, h => by cases h
theorem dpa_mono (e : Same G G') : ∀ (ds : List PyData) (vs : List V), DpAll K G vs ds → DpAll K G' vs ds
  | [], _, h => by
    cases h
    exact .nil
  | d :: ds, _, h => by
    cases h with
    | cons h1 h2 => exact .cons (dp_mono e d _ h1) (dpa_mono e ds _ h2)
end
theorem Dpm {v : V} {d : PyData} (h : Dp K G v d) (e : Same G G') : Dp K G' v d := dp_mono e d v h
theorem Dpam {vs : List V} {ds : List PyData} (h : DpAll K G vs ds) (e : Same G G') : DpAll K G' vs ds := dpa_mono e ds vs h
theorem dpa_len : ∀ {vs : List V} {ds : List PyData}, DpAll K G vs ds → vs.length = ds.length
  | _, _, .nil => rfl
  | _, _, .cons _ h => by rw [List.length_cons, List.length_cons, dpa_len h]
theorem dpa_get : ∀ {vs : List V} {ds : List PyData} {i : Nat} {v : V}, DpAll K G vs ds → vs[i]? = some v → ∃ d, ds[i]? = some d ∧ Dp K G v d
  | _, _, i, _, .nil, h => by simp at h
  | _, _, 0, _, .cons h _, e => ⟨_, rfl, by
    have q := Option.some.inj e
    rw [← q]
    exact h⟩
  | _, _, i + 1, _, .cons _ t, e => dpa_get (i := i) t e
theorem dpa_at : ∀ {vs : List V} {ds : List PyData} {i : Nat} {d : PyData}, DpAll K G vs ds → ds[i]? = some d → ∃ v, vs[i]? = some v ∧ Dp K G v d
  | _, _, i, _, .nil, h => by simp at h
  | _, _, 0, _, .cons h _, e => ⟨_, rfl, by
    have q := Option.some.inj e
    rw [← q]
    exact h⟩
  | _, _, i + 1, _, .cons _ t, e => dpa_at (i := i) t e
theorem dpa_app : ∀ {vs ws : List V} {ds es : List PyData}, DpAll K G vs ds → DpAll K G ws es → DpAll K G (vs ++ ws) (ds ++ es)
  | _, _, _, _, .nil, h => h
  | _, _, _, _, .cons a t, h => .cons a (dpa_app t h)
theorem dpa_snoc {vs : List V} {ds : List PyData} {v : V} {d : PyData} (h : DpAll K G vs ds) (q : Dp K G v d) : DpAll K G (vs ++ [v]) (ds ++ [d]) := dpa_app h (.cons q .nil)
theorem dpa_strs : ∀ l : List Str, DpAll K G (l.map V.str) (l.map PyData.str)
  | [] => .nil
  | s :: l => .cons (.str s) (dpa_strs l)
theorem dpa_ints : ∀ l : List Int, DpAll K G (l.map V.int) (l.map PyData.int)
  | [] => .nil
  | s :: l => .cons (.int s) (dpa_ints l)
theorem dpa_strs_inv : ∀ {l : List Str} {vs : List V}, DpAll K G vs (l.map PyData.str) → vs = l.map V.str
  | [], _, h => by
    cases h
    rfl
  | s :: l, _, h => by
    cases h with
    | cons a t =>
      cases a
      rw [dpa_strs_inv t]
      rfl
theorem dpa_ints_inv : ∀ {l : List Int} {vs : List V}, DpAll K G vs (l.map PyData.int) → vs = l.map V.int
  | [], _, h => by
    cases h
    rfl
  | s :: l, _, h => by
    cases h with
    | cons a t =>
      cases a
      rw [dpa_ints_inv t]
      rfl
/-- what a datum's value looks like -/
theorem dp_tup {v : V} {ds : List PyData} (h : Dp K G v (.tuple ds)) : ∃ a xs, v = .ref a ∧ SqT K G a xs ∧ DpAll K G xs ds := by
  cases h with
  | tup q a => exact ⟨_, _, rfl, q, a⟩
theorem dp_lst {v : V} {ds : List PyData} (h : Dp K G v (.list ds)) : ∃ a xs, v = .ref a ∧ SqL K G a xs ∧ DpAll K G xs ds := by
  cases h with
  | lst q a => exact ⟨_, _, rfl, q, a⟩
theorem dp_str {v : V} {x : Str} (h : Dp K G v (.str x)) : v = .str x := by
  cases h
  rfl
theorem dp_int {v : V} {x : Int} (h : Dp K G v (.int x)) : v = .int x := by
  cases h
  rfl
theorem dp_strs {v : V} {l : List Str} (h : Dp K G v (.tuple (l.map .str))) : ∃ a, v = .ref a ∧ SqT K G a (l.map V.str) := by
  obtain ⟨a, xs, e, q, h⟩ := dp_tup h
  rw [dpa_strs_inv h] at q
  exact ⟨a, e, q⟩
theorem dp_strsL {v : V} {l : List Str} (h : Dp K G v (.list (l.map .str))) : ∃ a, v = .ref a ∧ SqL K G a (l.map V.str) := by
  obtain ⟨a, xs, e, q, h⟩ := dp_lst h
  rw [dpa_strs_inv h] at q
  exact ⟨a, e, q⟩
theorem dp_newT {a : Addr} {vs : List V} {ds : List PyData} (h : DpAll K G vs ds) (n : G a = none) : Dp K (upd G a (.tup vs)) (.ref a) (.tuple ds) := .tup (SqT.of upd_same) (Dpam h (same_new n))
theorem dp_newL {a : Addr} {vs : List V} {ds : List PyData} (h : DpAll K G vs ds) (n : G a = none) : Dp K (upd G a (.lst vs)) (.ref a) (.list ds) := .lst (SqL.of upd_same) (Dpam h (same_new n))
end

/-! ### comprehensions -/
section
variable {b : Option (Addr × Addr)} {σ : L2.St} {G H : Hp} {K : PySem.W.Frag} {tt : TT} {te tl : TE} {vs : List Nat} {P : V → Hp → Prop}
theorem et_yes {P : Bool → Hp → Prop} (p : P true G) : Ev b tYes σ G P := fun H w Q k => k true G H (Stp.refl w.same) w p
theorem gv_name {j : Nat} {x : V} {H : Hp} : Gv (gName j) x σ H (σ.set j (some x)) := fun _ q => q
theorem gv_tup2 {g1 g2 : TG} {x : V} {d1 d2 : PyData} (h : Dp K G x (.tuple [d1, d2])) (e : Same G H) : ∃ v1 v2, Dp K G v1 d1 ∧ Dp K G v2 d2 ∧ ∀ σ1 σ2, Gv g1 v1 σ H σ1 → Gv g2 v2 σ1 H σ2 → Gv (gTup K 2 (gCons g1 (gCons g2 gNil))) x σ H σ2 := by
  obtain ⟨a, xs, rfl, q, h⟩ := dp_tup h
  cases h with
  | @cons v1 r1 _ _ h1 h2 => cases h2 with
    | @cons v2 r2 _ _ h2 h3 =>
      cases h3
      exact ⟨v1, v2, h1, h2, fun σ1 σ2 g1 g2 Q q2 => ⟨a, [v1, v2], rfl, sqt_mono e q, rfl, v1, [v2], rfl, g1 _ ⟨v2, [], rfl, g2 _ ⟨rfl, q2⟩⟩⟩⟩
/-- over a tuple, a list; Iv: the turn, the items so far, what is known -/
theorem lcT {g : TG} (h : Ev b tl σ G fun x G1 => ∃ a xs, x = .ref a ∧ SqT K G1 a xs ∧ xs.length ≤ 100000 ∧ ∃ Iv : Nat → List V → Hp → Prop, Iv 0 [] G1 ∧
    (∀ i x G2 acc, xs[i]? = some x → Same G1 G2 → Iv i acc G2 → acc.length ≤ i → ∃ σ3, (∀ H, Same G2 H → Gv g x (wipe σ vs) H σ3) ∧ wipe σ3 vs = wipe σ vs ∧ Ev b tt σ3 G2 fun c G3 => (c = true → Ev b te σ3 G3 fun y G4 => Iv (i + 1) (acc ++ [y]) G4) ∧ (c = false → Iv (i + 1) acc G3)) ∧
    ∀ acc G2, Same G1 G2 → Iv xs.length acc G2 → acc.length ≤ xs.length → ∀ q, G2 q = none → P (.ref q) (upd G2 q (.lst acc))) : Ev b (tLc (iTup K tl) g tt te vs) σ G P :=
  fun H w Q k => h H w _ fun x G1 H1 e1 w1 ⟨a, xs, ex, q, hl, Iv, h0, hs, hd⟩ => ⟨a, ex, ⟨xs, sqt_mono w1.same q⟩, fun Dl hD =>
    lc_walk (P := P) walk_tup hl w1 e1 hD (fun H e => sqt_mono e q) Iv h0 (fun i x G2 H2 H' acc hi e w2 iv hacc y => by
      obtain ⟨rfl, y⟩ := y
      obtain ⟨σ3, gv, hw, hv⟩ := hs i x G2 acc y e iv hacc
      exact ⟨σ3, G2, Stp.refl w2.same, w2, gv _ w2.same, hw, hv⟩) hd k⟩
theorem lcL {g : TG} (h : Ev b tl σ G fun x G1 => ∃ a xs, x = .ref a ∧ SqL K G1 a xs ∧ xs.length ≤ 100000 ∧ ∃ Iv : Nat → List V → Hp → Prop, Iv 0 [] G1 ∧
    (∀ i x G2 acc, xs[i]? = some x → Same G1 G2 → Iv i acc G2 → acc.length ≤ i → ∃ σ3, (∀ H, Same G2 H → Gv g x (wipe σ vs) H σ3) ∧ wipe σ3 vs = wipe σ vs ∧ Ev b tt σ3 G2 fun c G3 => (c = true → Ev b te σ3 G3 fun y G4 => Iv (i + 1) (acc ++ [y]) G4) ∧ (c = false → Iv (i + 1) acc G3)) ∧
    ∀ acc G2, Same G1 G2 → Iv xs.length acc G2 → acc.length ≤ xs.length → ∀ q, G2 q = none → P (.ref q) (upd G2 q (.lst acc))) : Ev b (tLc (iList K tl) g tt te vs) σ G P :=
  fun H w Q k => h H w _ fun x G1 H1 e1 w1 ⟨a, xs, ex, q, hl, Iv, h0, hs, hd⟩ => ⟨a, ex, ⟨xs, sql_mono w1.same q⟩, fun Dl hD =>
    lc_walk (P := P) walk_list hl w1 e1 hD (fun H e => sql_mono e q) Iv h0 (fun i x G2 H2 H' acc hi e w2 iv hacc y => by
      obtain ⟨rfl, y⟩ := y
      obtain ⟨σ3, gv, hw, hv⟩ := hs i x G2 acc y e iv hacc
      exact ⟨σ3, G2, Stp.refl w2.same, w2, gv _ w2.same, hw, hv⟩) hd k⟩
theorem lcR {j : Nat} {ta : TA} (h : Ev b ta σ G fun vs1 G1 => ∃ n : Nat, vs1 = [.int n] ∧ n ≤ 100000 ∧ (∀ z, wipe ((wipe σ vs).set j (some z)) vs = wipe σ vs) ∧ ∃ Iv : Nat → List V → Hp → Prop, Iv 0 [] G1 ∧
    (∀ i G2 acc, i < n → Same G1 G2 → Iv i acc G2 → acc.length ≤ i → Ev b tt ((wipe σ vs).set j (some (.int (i : Nat)))) G2 fun c G3 => (c = true → Ev b te ((wipe σ vs).set j (some (.int (i : Nat)))) G3 fun y G4 => Iv (i + 1) (acc ++ [y]) G4) ∧ (c = false → Iv (i + 1) acc G3)) ∧
    ∀ acc G2, Same G1 G2 → Iv n acc G2 → acc.length ≤ n → ∀ q, G2 q = none → P (.ref q) (upd G2 q (.lst acc))) : Ev b (tLc (iRng1 ta) (gName j) tt te vs) σ G P :=
  fun H w Q k => h H w _ fun x G1 H1 e1 w1 ⟨n, ex, hl, hw, Iv, h0, hs, hd⟩ => ⟨n, ex, by omega, by omega, fun Dl hD =>
    lc_walk (n := n) (P := P) walk_range hl w1 e1 hD (fun _ _ => trivial) Iv h0 (fun i x G2 H2 H' acc hi e w2 iv hacc y => by
      obtain ⟨rfl, ey⟩ := y
      have e0 : x = V.int (i : Nat) := ey.trans (congrArg V.int (Int.zero_add _))
      subst e0
      exact ⟨_, G2, Stp.refl w2.same, w2, gv_name, hw _, hs i G2 acc hi e iv hacc⟩) hd k⟩
/-- over enumerate(list), into two names -/
theorem lcE {i1 i2 : Nat} {ta : TA} (h : Ev b ta σ G fun vs1 G1 => ∃ a xs, vs1 = [.ref a] ∧ SqL K G1 a xs ∧ xs.length ≤ 100000 ∧ (∀ z u, wipe (((wipe σ vs).set i1 (some z)).set i2 (some u)) vs = wipe σ vs) ∧ ∃ Iv : Nat → List V → Hp → Prop, Iv 0 [] G1 ∧ (∀ i acc G2 G3, Same G2 G3 → Iv i acc G2 → Iv i acc G3) ∧
    (∀ i x G2 acc, xs[i]? = some x → Same G1 G2 → Iv i acc G2 → acc.length ≤ i → Ev b tt (((wipe σ vs).set i1 (some (.int (i : Nat)))).set i2 (some x)) G2 fun c G3 => (c = true → Ev b te (((wipe σ vs).set i1 (some (.int (i : Nat)))).set i2 (some x)) G3 fun y G4 => Iv (i + 1) (acc ++ [y]) G4) ∧ (c = false → Iv (i + 1) acc G3)) ∧
    ∀ acc G2, Same G1 G2 → Iv xs.length acc G2 → acc.length ≤ xs.length → ∀ q, G2 q = none → P (.ref q) (upd G2 q (.lst acc))) : Ev b (tLc (iEnum K ta) (gTup K 2 (gCons (gName i1) (gCons (gName i2) gNil))) tt te vs) σ G P :=
  fun H w Q k => h H w _ fun x G1 H1 e1 w1 ⟨a, xs, ex, q, hl, hw, Iv, h0, hm, hs, hd⟩ => ⟨a, xs, ex, sql_mono w1.same q, fun Dl hD =>
    lc_walk (P := P) walk_enum hl w1 e1 hD (fun H e => sql_mono e q) Iv h0 (fun i x G2 H2 H' acc hi e w2 iv hacc y => by
      obtain ⟨t, x1, x2, rfl, ht, rfl, hx1, hx2⟩ := y
      cases hx1
      refine ⟨_, upd G2 t (.tup [.int (i : Nat), x2]), (Stp.refl w2.same).new ht, w2.new ht, fun Q q2 => ⟨t, _, rfl, SqT.of upd_same, rfl, _, _, rfl, _, _, rfl, rfl, q2⟩, hw _ _, ?_⟩
      have e2 := same_new (o := .tup [.int (i : Nat), x2]) (w2.same.free ht)
      exact hs i x2 _ acc hx2 (e.trans e2) (hm _ _ _ _ e2 iv) hacc) hd k⟩
/-- a list of data out of data: filter, then map -/
theorem take_flt {α β : Type} {ds : List α} {i : Nat} {d : α} (c : α → Bool) (f : α → β) (h : ds[i]? = some d) : ((ds.take (i + 1)).filter c).map f = ((ds.take i).filter c).map f ++ if c d = true then [f d] else [] := by
  rw [List.take_succ, h, List.filter_append, List.map_append]
  show _ ++ (([d].filter c).map f) = _
  by_cases q : c d = true
  · rw [if_pos q, List.filter_cons, if_pos q]
    rfl
  · rw [if_neg q, List.filter_cons, if_neg q]
    rfl
theorem lcTa {α : Type} {g : TG} (enc : α → PyData) (l : List α) (c : α → Bool) (f : α → PyData) (hl : l.length ≤ 100000) (h : Ev b tl σ G fun x G1 => Dp K G1 x (.tuple (l.map enc)) ∧
    (∀ x G2 d, d ∈ l → Same G1 G2 → Dp K G2 x (enc d) → ∃ σ3, (∀ H, Same G2 H → Gv g x (wipe σ vs) H σ3) ∧ wipe σ3 vs = wipe σ vs ∧ Ev b tt σ3 G2 fun k G3 => k = c d ∧ (c d = true → Ev b te σ3 G3 fun y G4 => Dp K G4 y (f d))) ∧
    ∀ v G2, Same G1 G2 → Dp K G2 v (.list ((l.filter c).map f)) → P v G2) : Ev b (tLc (iTup K tl) g tt te vs) σ G P := by
  refine lcT (Ev.mono h fun x G1 _ ⟨hx, hs, hd⟩ => ?_)
  obtain ⟨a, xs, ex, q, ha⟩ := dp_tup hx
  have hlen := dpa_len ha
  rw [List.length_map] at hlen
  refine ⟨a, xs, ex, q, by omega, fun i acc G => Same G1 G ∧ DpAll K G acc (((l.take i).filter c).map f), ⟨Same.refl _, .nil⟩, fun i x G2 acc hi e iv _ => ?_, fun acc G2 e iv _ p hp => ?_⟩
  · obtain ⟨d0, hd1, hd2⟩ := dpa_get (Dpam ha e) hi
    rw [List.getElem?_map] at hd1
    obtain ⟨d, hd3, rfl⟩ := Option.map_eq_some_iff.mp hd1
    obtain ⟨σ3, gv, hw, hv⟩ := hs x G2 d (List.mem_of_getElem? hd3) e hd2
    refine ⟨σ3, gv, hw, Ev.mono hv fun k G3 e3 ⟨ek, he⟩ => ⟨fun hk => ?_, fun hk => ?_⟩⟩
    · refine Ev.mono (he (ek ▸ hk)) fun y G4 e4 hy => ⟨(e.trans e3).trans e4, ?_⟩
      rw [take_flt c f hd3, if_pos (ek ▸ hk)]
      exact dpa_snoc (Dpam iv.2 (e3.trans e4)) hy
    · refine ⟨e.trans e3, ?_⟩
      rw [take_flt c f hd3, if_neg (by rw [← ek, hk]; decide), List.append_nil]
      exact Dpam iv.2 e3
  · refine hd _ _ (e.trans (same_new hp)) (dp_newL ?_ hp)
    have z := iv.2
    rw [hlen, List.take_length] at z
    exact z
theorem lcLa {α : Type} {g : TG} (enc : α → PyData) (l : List α) (c : α → Bool) (f : α → PyData) (hl : l.length ≤ 100000) (h : Ev b tl σ G fun x G1 => Dp K G1 x (.list (l.map enc)) ∧
    (∀ x G2 d, d ∈ l → Same G1 G2 → Dp K G2 x (enc d) → ∃ σ3, (∀ H, Same G2 H → Gv g x (wipe σ vs) H σ3) ∧ wipe σ3 vs = wipe σ vs ∧ Ev b tt σ3 G2 fun k G3 => k = c d ∧ (c d = true → Ev b te σ3 G3 fun y G4 => Dp K G4 y (f d))) ∧
    ∀ v G2, Same G1 G2 → Dp K G2 v (.list ((l.filter c).map f)) → P v G2) : Ev b (tLc (iList K tl) g tt te vs) σ G P := by
  refine lcL (Ev.mono h fun x G1 _ ⟨hx, hs, hd⟩ => ?_)
  obtain ⟨a, xs, ex, q, ha⟩ := dp_lst hx
  have hlen := dpa_len ha
  rw [List.length_map] at hlen
  refine ⟨a, xs, ex, q, by omega, fun i acc G => Same G1 G ∧ DpAll K G acc (((l.take i).filter c).map f), ⟨Same.refl _, .nil⟩, fun i x G2 acc hi e iv _ => ?_, fun acc G2 e iv _ p hp => ?_⟩
  · obtain ⟨d0, hd1, hd2⟩ := dpa_get (Dpam ha e) hi
    rw [List.getElem?_map] at hd1
    obtain ⟨d, hd3, rfl⟩ := Option.map_eq_some_iff.mp hd1
    obtain ⟨σ3, gv, hw, hv⟩ := hs x G2 d (List.mem_of_getElem? hd3) e hd2
    refine ⟨σ3, gv, hw, Ev.mono hv fun k G3 e3 ⟨ek, he⟩ => ⟨fun hk => ?_, fun hk => ?_⟩⟩
    · refine Ev.mono (he (ek ▸ hk)) fun y G4 e4 hy => ⟨(e.trans e3).trans e4, ?_⟩
      rw [take_flt c f hd3, if_pos (ek ▸ hk)]
      exact dpa_snoc (Dpam iv.2 (e3.trans e4)) hy
    · refine ⟨e.trans e3, ?_⟩
      rw [take_flt c f hd3, if_neg (by rw [← ek, hk]; decide), List.append_nil]
      exact Dpam iv.2 e3
  · refine hd _ _ (e.trans (same_new hp)) (dp_newL ?_ hp)
    have z := iv.2
    rw [hlen, List.take_length] at z
    exact z
/-- over range(n): the i-th datum, where c holds -/
theorem lcRa {j : Nat} {ta : TA} (n : Nat) (c : Nat → Bool) (f : Nat → PyData) (hl : n ≤ 100000) (hw : ∀ z, wipe ((wipe σ vs).set j (some z)) vs = wipe σ vs) (h : Ev b ta σ G fun vs1 G1 => vs1 = [.int (n : Nat)] ∧
    (∀ i G2, i < n → Same G1 G2 → Ev b tt ((wipe σ vs).set j (some (.int (i : Nat)))) G2 fun k G3 => k = c i ∧ (c i = true → Ev b te ((wipe σ vs).set j (some (.int (i : Nat)))) G3 fun y G4 => Dp K G4 y (f i))) ∧
    ∀ v G2, Same G1 G2 → Dp K G2 v (.list (((List.range n).filter c).map f)) → P v G2) : Ev b (tLc (iRng1 ta) (gName j) tt te vs) σ G P := by
  refine lcR (Ev.mono h fun x G1 _ ⟨hx, hs, hd⟩ => ⟨n, hx, hl, hw, fun i acc G => Same G1 G ∧ DpAll K G acc (((List.range i).filter c).map f), ⟨Same.refl _, .nil⟩, fun i G2 acc hi e iv _ => ?_, fun acc G2 e iv _ p hp => ?_⟩)
  · refine Ev.mono (hs i G2 hi e) fun k G3 e3 ⟨ek, he⟩ => ⟨fun hk => ?_, fun hk => ?_⟩
    · refine Ev.mono (he (ek ▸ hk)) fun y G4 e4 hy => ⟨(e.trans e3).trans e4, ?_⟩
      rw [List.range_succ, List.filter_append, List.map_append, List.filter_cons, if_pos (ek ▸ hk)]
      exact dpa_snoc (Dpam iv.2 (e3.trans e4)) hy
    · refine ⟨e.trans e3, ?_⟩
      rw [List.range_succ, List.filter_append, List.map_append, List.filter_cons, if_neg (by rw [← ek, hk]; decide)]
      show DpAll K G3 acc (_ ++ [])
      rw [List.append_nil]
      exact Dpam iv.2 e3
  · exact hd _ _ (e.trans (same_new hp)) (dp_newL iv.2 hp)
end
end FD
namespace FD
open PySem PyProof.Rows L2
/-! ### tuples of which it is known that they have no dict: tuple(list), their methods -/
section
variable {X : Cx}
def FTup (G : Hp) (a : Addr) (xs : List V) : Prop := ∃ o : Obj, G a = some (.frz o (.tup xs)) ∧ o.dict = none
theorem ftup_mono {G G' : Hp} {a : Addr} {xs : List V} (e : Same G G') (h : FTup G a xs) : FTup G' a xs := let ⟨o, h1, h2⟩ := h; ⟨o, e _ _ h1, h2⟩
theorem FTup.sqt {K : PySem.W.Frag} {G : Hp} {a : Addr} {xs : List V} (h : FTup G a xs) : SqT K G a xs := let ⟨o, h1, _⟩ := h; .inl (.inr ⟨o, h1⟩)
def rTupF (K : PySem.W.Frag) : List V → Hp → VK → Prop := fun xs H Q => ∃ p ys, xs = [.ref p] ∧ SqL K H p ys ∧ ∀ (l : Addr) (o : Obj), H l = none → o.dict = none → Q (.ref l) (upd H l (.frz o (.tup ys)))
theorem call_tupF : CallR X (.type "tuple") (rTupF X.K) := by
  intro pins s σ H xs us Q I r h
  obtain ⟨p, ys, rfl, hq, q⟩ := h
  obtain ⟨u, rfl, rx⟩ := vals1 r
  cases rx
  obtain ⟨its, r', pl, hz⟩ := I.list hq
  have hlen := r'.length
  refine call_tuple_list pl.isList (fun h' kp => ?_) (by simp only [List.size_toArray]; omega)
  have I1 : L2.Inv X pins σ H { s with heap := h' } := I.kept (t' := s.toks) kp
  have hget : (h'.push ({ cls := .type "tuple", data := .seq its.toArray } : Obj)).get? h'.objs.size = some { cls := .type "tuple", data := .seq its.toArray } := Heap.get?_push_size _ rfl
  have I2 := I1.laid (t' := s.toks) (a := h'.objs.size) (o := .frz { cls := .type "tuple", data := .seq its.toArray } (.tup ys)) (h' := h'.push { cls := .type "tuple", data := .seq its.toArray })
    (fun b o e => Heap.get?_push_of_some _ e) (Nat.le_refl _) ⟨hget, hz, its, r', ⟨_, hget, rfl, _, rfl⟩⟩
  exact ⟨.ref h'.objs.size, _, I2, rfl, q _ _ (I1.hok.fresh (Nat.le_refl _)) rfl⟩
/-- o.m(e, ..), o such a tuple -/
def tBF (r : V → List V → Hp → VK → Prop) (to : TE) (t : TA) : TE := fun σ H Q => to σ H fun x H1 => (∃ a xs, x = .ref a ∧ FTup H1 a xs) ∧ t σ H1 fun ys H2 => r x ys H2 Q
theorem pe_bF {o e : Expr} {es : List Expr} {to : TE} {t : TA} {name : Str} {apos cpos : Pos} {id : String} {r : V → List V → Hp → VK → Prop} (slot : Slot "tuple" name id) (hty : typeOf (.builtin id) = pure (.type "method_descriptor")) (hm : MtR X id r) (ho : PE X o to) (ha : PA X (e :: es) t)
    (hbase : attributeBase o name X.env (eval o X.env) = eval o X.env := by rfl)
    (hfew : ((backTo cpos (starEach (e :: es) X.env)).all (fun x => !x.1) && (backToKw cpos (keywordEach [] X.env)).all (fun x => x.1.isSome)
      && decide ((e :: es).length + ([] : List Keyword).length + (if ([] : List Keyword).isEmpty then 0 else 1) < 30)) = true := by rfl)
    (hline : (apos.endLine == cpos.line) = true := by rfl) (hs : starEach (e :: es) X.env = (false, eval e X.env) :: starEach es X.env := by rfl) (hpl : (backTo cpos (starEach es X.env)).any (·.1) = false := by rfl) :
    PE X (.Call (.Attribute o name apos) (e :: es) [] cpos) (tBF r to t) := by
  refine ⟨fun pins s σ H Q I h => wpAny_Call_method_late hbase hfew hline rfl (thn (ho.run pins s σ H _ I h) fun v s1 ⟨x, H1, I1, r1, ⟨a, xs, ex, oo, hf, hd⟩, q1⟩ => ?_)⟩
  subst ex
  obtain rfl : v = Value.ref a := r1
  obtain ⟨hget, _, its, _, op, hop, hc, _⟩ := I1.hok a _ hf
  refine ⟨"tuple", id, PySem.F.plainAttrs_tuple, slot, hty, ⟨op, hop, hc⟩, fun b e => ?_, ?_⟩
  · obtain rfl : a = b := Value.ref.inj e
    exact ⟨oo, hget, hd⟩
  · have hA := ha.run cpos pins s1 σ H1 _ I1 q1
    rw [hs] at hA ⊢
    refine Calls.callWith_builtin (by show (false || (backTo cpos (starEach es X.env)).any (·.1)) = false; rw [hpl]; rfl) (Calls.evalArgs_plain ?_)
    exact thn hA fun us s2 ⟨vs, H2, I2, r2, q2⟩ => hm pins s2 σ H2 (.ref a) vs (.ref a) us Q I2 rfl r2 q2
def rTIx (K : PySem.W.Frag) : V → List V → Hp → VK → Prop := fun x xs H Q => ∃ p, ∃ ys : List Str, ∃ z, x = .ref p ∧ xs = [.str z] ∧ SqT K H p (ys.map V.str) ∧ z ∈ ys ∧ Q (.int (ys.idxOf z : Nat)) H
theorem mt_tIx : MtR X "tuple.index" (rTIx X.K) := by
  intro pins s σ H x xs v us Q I rx rs h
  obtain ⟨p, ys, z, ex, exs, hq, hz, q⟩ := h
  have hl : ys.idxOf z < ys.length := List.idxOf_lt_length_of_mem hz
  refine mt_tup_index pins s σ H x xs v us Q I rx rs ⟨p, ys, z, ys.idxOf z, ex, exs, hq, ?_, fun m hm e => ?_, q⟩
  · rw [List.getElem?_eq_getElem hl]
    exact congrArg some (List.getElem_idxOf hl)
  · obtain ⟨h1, h2⟩ := List.getElem?_eq_some_iff.mp e
    have q := List.not_of_lt_findIdx hm
    rw [h2] at q
    simp at q
end
section
variable {b : Option (Addr × Addr)} {σ : L2.St} {G H : Hp} {K : PySem.W.Frag} {P : V → Hp → Prop}
theorem ev_bF {r : V → List V → Hp → VK → Prop} {to : TE} {t : TA} (h : Ev b to σ G fun x G1 => (∃ a xs, x = .ref a ∧ FTup G1 a xs) ∧ Ev b t σ G1 fun ys G2 => Rv b (r x ys) G2 P) : Ev b (tBF r to t) σ G P :=
  fun H w Q k => h H w _ fun x G1 H1 e1 w1 ⟨⟨a, xs, ex, hf⟩, q⟩ => ⟨⟨a, xs, ex, ftup_mono w1.same hf⟩, q H1 w1 _ fun ys G2 H2 e2 w2 q2 => q2 H2 w2 Q fun z G3 H3 e3 w3 p => k z G3 H3 ((e1.trans e2).trans e3) w3 p⟩
theorem rv_tIx {a : Addr} {R : List Str} {x : Str} (h : SqT K G a (R.map V.str)) (hx : x ∈ R) (p : P (.int ((R.idxOf x : Nat) : Int)) G) : Rv b (rTIx K (.ref a) [.str x]) G P := Rv.here (fun H e Q q => ⟨a, R, x, rfl, rfl, sqt_mono e h, hx, q⟩) p
/-- o.m(..) of a built-in type -/
theorem ev_bm {T : String} {r : V → List V → Hp → VK → Prop} {to : TE} {t : TA} (h : Ev b to σ G fun x G1 => (∀ H, Same G1 H → tyV K T x H) ∧ Ev b t σ G1 fun ys G2 => Rv b (r x ys) G2 P) : Ev b (tBM K T r to t) σ G P :=
  fun H w Q k => h H w _ fun x G1 H1 e1 w1 ⟨ty, q⟩ => ⟨ty H1 w1.same, q H1 w1 _ fun ys G2 H2 e2 w2 q2 => q2 H2 w2 Q fun z G3 H3 e3 w3 p => k z G3 H3 ((e1.trans e2).trans e3) w3 p⟩
end
def RsAt (G : Hp) (v : V) (R : List Str) : Prop := ∃ a, v = .ref a ∧ FTup G a (R.map V.str)
theorem rs_mono {G G' : Hp} {v : V} {R : List Str} (e : Same G G') (h : RsAt G v R) : RsAt G' v R := let ⟨a, h1, h2⟩ := h; ⟨a, h1, ftup_mono e h2⟩
end FD
namespace FD
open PySem PyProof.Rows L2
/-! ### list(d.values()) -/
/-- the values of the dict at d, in order -/
def DVals (H : Hp) (d : Addr) (vs : List V) : Prop := (∃ kvs : List (Key × V), H d = some (.dK kvs) ∧ vs = kvs.map (·.2)) ∨ ∃ kvs : List (List Key × V), H d = some (.dT kvs) ∧ vs = kvs.map (·.2)
def tListVals (te : TE) : TE := fun σ H Q => te σ H fun x H1 => ∃ d vs, x = .ref d ∧ DVals H1 d vs ∧ ∀ p, H1 p = none → Q (.ref p) (upd H1 p (.lst vs))
/-- the entries' values stand for these -/
theorem dvals_raw {P : Program} {w : World} {H : Hp} {h : Heap} {d : Addr} {vs : List V} (ok : HOk P w H h) (hd : DVals H d vs) :
    ∃ (es : Array DictEntry) (ep : Nat), h.DictRaw d es ep ∧ (d == sysModules) = false ∧ vs.length ≤ sizeLine ∧ Vals vs (es.toList.map (·.val)) := by
  rcases hd with ⟨kvs, h1, rfl⟩ | ⟨kvs, h1, rfl⟩
  · obtain ⟨z, hs, us, kv, hdo⟩ := ok d _ h1
    obtain ⟨es, ep, hr, hsz, he⟩ := hdo.raw
    refine ⟨es, ep, hr, hs, by rw [List.length_map]; exact z, ?_⟩
    have lk : kvs.length = us.length := Paired.length kv
    have e1 : es.toList.map (·.val) = us.map (·.2) := by
      apply List.ext_getElem
      · rw [List.length_map, List.length_map, Array.length_toList, hsz]
      · intro i h1 h2
        rw [List.length_map, Array.length_toList] at h1
        rw [List.length_map] at h2
        rw [List.getElem_map, List.getElem_map, Array.getElem_toList]
        exact (he i h1 us[i].1 us[i].2 (by rw [List.getElem?_eq_getElem h2])).2
    rw [e1]
    clear e1 he hsz hr lk z h1 hdo
    induction kv with
    | nil => exact .nil
    | cons a t ih => exact .cons a.2 ih
  · obtain ⟨z, hs, xs, pr, o, es, ep, ho, hx, hdt, he, hn⟩ := ok d _ h1
    refine ⟨es, ep, ⟨o, ho, hx, hdt⟩, hs, by rw [List.length_map]; exact z, ?_⟩
    rw [he, List.map_map]
    clear he hn z h1
    induction pr with
    | nil => exact .nil
    | cons a t ih => exact .cons a.2.2 ih
section
variable {X : Cx} {e : Expr} {te : TE} {p apos cpos pos : Pos}
theorem pe_listVals (hc : X.calm = true) (he : PE X e te) (hg : Gl X "list") (hm : X.mg "list" = none) (hv : bootBuiltins "list" = some (.type "list")) (hbase : attributeBase e "values" X.env (eval e X.env) = eval e X.env := by rfl) (hline : (apos.endLine == cpos.line) = true := by rfl)
    (hs : starEach [.Call (.Attribute e "values" apos) [] [] cpos] X.env = (false, eval (.Call (.Attribute e "values" apos) [] [] cpos) X.env) :: starEach [] X.env := by rfl) :
    PE X (.Call (.Name "list" p) [.Call (.Attribute e "values" apos) [] [] cpos] [] pos) (tListVals te) := by
  refine ⟨fun pins s σ H Q I hq => wpAny_Call_Name_kw (ld_blt I hg hm hv (PyProof.Rows.callWith_type1 ?_ hs rfl))⟩
  rw [hs]
  show wpAny _ _ (spliced ((false, eval (.Call (.Attribute e "values" apos) [] [] cpos) X.env) :: backTo pos (starEach [] X.env))) _ _ s
  refine Calls.spliced_cons (wpAny_Call_method (T := "dict") (id := "dict.values") hbase rfl hline F.plainAttrs_dict F.slot_dict_values F.type_dict_values (thn (he.run pins s σ H _ I hq) fun u s1 ⟨x, H1, I1, rx, d, vs, ex, hd, q⟩ => ?_))
  subst ex
  obtain rfl : u = Value.ref d := rx
  obtain ⟨es, ep, raw, hs0, hz, rv⟩ := dvals_raw I1.hok hd
  have I2 : L2.Inv X pins σ H1 { s1 with heap := s1.heap.push { cls := .type "dict_values", data := .fields #[.ref d] } } := I1.kept (t' := s1.toks) fun b ob q => Heap.get?_push_of_some _ q
  refine ⟨raw.typeIs, let ⟨o, ho, hx, _⟩ := raw; fun a e2 => by cases e2; exact ⟨o, ho, hx.2.1⟩, ?_⟩
  show wpAny _ _ (callWith cpos (.builtin "dict.values") [.ref d] [] []) _ X.xe s1
  refine method_meetsIn F.slot_dict_values F.entry_dict_values rfl (PySem.evalArgs_none ⟨rfl, raw.typeIs, F.args_dict_values_1 _, _, meets_dict_values_raw d hs0, ⟨es, ep, raw⟩, Calls.spliced_nil ?_⟩)
  have hl := rv.length
  have hl2 : vs.length = es.size := hl.trans (by rw [List.length_map, Array.length_toList])
  refine PySem.W.kdl_call (prog := X.prog) (w := X.w) (PySem.KdlSrc.rawValues (es := es) (ep := ep) (d := d)) (I1.ok.hd hc) ⟨⟨_, Heap.get?_push_size _ rfl, rfl, rfl⟩, raw.at fun o q => Heap.get?_push_of_some _ q⟩ (by omega) fun h' tk acc c kp hS it => ?_
  have ea : acc.toList = es.toList.map (·.val) := by
    apply List.ext_getElem
    · rw [Array.length_toList, List.length_map, Array.length_toList]
      exact it.1
    · intro i h1 h2
      obtain ⟨hi, ev⟩ := it.2 i acc[i] (by rw [Array.getElem?_eq_getElem])
      rw [List.getElem_map, Array.getElem_toList, Array.getElem_toList]
      exact ev
  refine ⟨.ref _, _, I2.laid (t' := tk) (o := .lst vs) kp (Nat.le_refl _) ⟨hz, acc.toList, c, by rw [ea]; exact rv, by rw [Array.toArray_toList]; exact hS⟩, rfl, q _ (I2.hok.fresh (Nat.le_refl _))⟩
end
section
variable {b : Option (Addr × Addr)} {σ : L2.St} {G H : Hp} {K : PySem.W.Frag} {P : V → Hp → Prop}
theorem dvals_mono {G G' : Hp} {d : Addr} {vs : List V} (e : Same G G') (h : DVals G d vs) : DVals G' d vs := by
  rcases h with ⟨kvs, h1, h2⟩ | ⟨kvs, h1, h2⟩
  · exact .inl ⟨kvs, e _ _ h1, h2⟩
  · exact .inr ⟨kvs, e _ _ h1, h2⟩
theorem ev_listVals {te : TE} (h : Ev b te σ G fun x G1 => ∃ d vs, x = .ref d ∧ DVals G1 d vs ∧ ∀ a, G1 a = none → P (.ref a) (upd G1 a (.lst vs))) : Ev b (tListVals te) σ G P :=
  fun H w Q k => h H w _ fun x G1 H1 e1 w1 ⟨d, vs, ex, hd, q⟩ => ⟨d, vs, ex, dvals_mono w1.same hd, fun p hp => k _ _ _ (e1.new hp) (w1.new hp) (q p (w1.same.free hp))⟩
/-- list(d.items()): a new list of new pairs -/
theorem ev_listItems {te : TE} (h : Ev b te σ G fun x G1 => ∃ (d : Addr) (kvs : List (Key × V)), x = .ref d ∧ G1 d = some (.dK kvs) ∧
    ∀ (p : Addr) (ts : List Addr) (G2 : Hp), Same G1 G2 → G1 p = none → G2 p = some (.lst (ts.map V.ref)) → Paired (fun (t : Addr) (q : Key × V) => G2 t = some (.tup [kV q.1, q.2])) ts kvs → P (.ref p) G2) : Ev b (LiI.tListItems te) σ G P :=
  fun H w Q k => h H w _ fun x G1 H1 e1 w1 ⟨d, kvs, ex, hd, q⟩ => ⟨d, kvs, ex, w1.same _ _ hd, fun H' p ts sm hp hts hpn hl hpr => by
    -- what is known from now on: all but what the caller kept to himself
    let G2 : Hp := fun a => if H1 a = none then H' a else G1 a
    have gg : Same G1 G2 := fun a o e => by
      show (if H1 a = none then H' a else G1 a) = some o
      rw [if_neg (fun z => by rw [w1.same _ _ e] at z; cases z)]
      exact e
    have gh : Same G2 H' := fun a o e => by
      have e' : (if H1 a = none then H' a else G1 a) = some o := e
      by_cases z : H1 a = none
      · rw [if_pos z] at e'
        exact e'
      · rw [if_neg z] at e'
        exact sm _ _ (w1.same _ _ e')
    have fr : ∀ a, G1 a = none → H1 a ≠ none → G2 a = none := fun a e n => by
      show (if H1 a = none then H' a else G1 a) = none
      rw [if_neg n]
      exact e
    have new : ∀ {a : Addr}, H1 a = none → G2 a = H' a := fun {a} z => if_pos z
    have al : ∀ a, H1 a ≠ none → H' a ≠ none := fun a e z => by
      cases q : H1 a with
      | none => exact e q
      | some o =>
        rw [sm _ _ q] at z
        cases z
    have st : Stp (Bg b) G1 H1 G2 H' := ⟨gg, gh, fun a o e _ => sm _ _ e, al, fr⟩
    refine k _ G2 H' (e1.trans st) ⟨gh, fun a c ea => ⟨fr a (w1.bag a c ea).1 (w1.bag a c ea).2.ne, (w1.bag a c ea).2.same gg ?_⟩⟩ (q p ts G2 gg (w1.same.free hp) (by rw [new hp]; exact hl) ?_)
    · obtain ⟨ns, i, g, m, e, _⟩ := (w1.bag a c ea).2
      rw [e]
      exact sm _ _ e
    · clear hpn hl q k hd
      induction hpr with
      | nil => exact .nil
      | cons a t ih => exact .cons (by rw [new (hts _ List.mem_cons_self)]; exact a) (ih fun t ht => hts t (List.mem_cons_of_mem _ ht))⟩
end
end FD
namespace FD
open PySem PyProof.Rows L2
/-! ### methods, makers, as words of the module -/
def DefM (P : Program) (w : World) (K : PySem.W.Frag) (mg : Str → Option Value) (base : Heap) (CX : CXT) (k : Nat) (C : Addr) (m : Str) (ps : List Str) (sp : Sp) : Prop :=
  ∃ (f : Addr) (fd : FuncData), FnOk P w K mg base CX k f fd ps sp ∧ Meth K C m f ∧ L2.Binds K fd ps []
/-- the module's name x stands for the class at C whose __init__ keeps sp (its arguments in a row) -/
def DefC (P : Program) (w : World) (K : PySem.W.Frag) (mg : Str → Option Value) (base : Heap) (CX : CXT) (k : Nat) (C : Addr) (x : Str) (sp : Sp) : Prop :=
  ∃ f : Addr, FnR P w K mg base CX k f sp ∧ Mk K C f ∧ mg x = some (.ref C)
section
variable {X : Cx} {CX : CXT} {k : Nat} {C : Addr} {x m : Str} {ps : List Str} {sp : Sp} {E : XK} {o e : Expr} {es : List Expr} {ta : TE} {t : TA} {p pos apos : Pos}
theorem pe_dm {pl : Sem Bool} (D : DefM X.prog X.w X.K X.mg X.base CX k C m ps sp) (c : Cls X.K C) (he : PE X o ta) (hr : Room k X.A) (hx : Passes CX X E) (ha : PA X (e :: es) t)
    (hst : starEach (e :: es) X.env = (false, eval e X.env) :: starEach es X.env := by rfl) (hpl : (backTo pos (starEach es X.env)).any (·.1) = false := by rfl)
    (ht : eval (.Call (.Attribute o m apos) (e :: es) [] pos) X.env = (do
      let ov ← eval o X.env
      standAt apos.atName
      let (f, first) ← holding [ov] (getMethod ov m pl)
      callWith pos f first (backTo pos (starEach (e :: es) X.env)) (backToKw pos (keywordEach [] X.env))) := by rfl) : PE X (.Call (.Attribute o m apos) (e :: es) [] pos) (tMeth C m sp [] E ta t) := by
  obtain ⟨f, fd, F, hm, hb⟩ := D
  exact pe_meth he c hm F hr hb .nil hx ha hst hpl ht
theorem pe_dm0 {pl : Sem Bool} (D : DefM X.prog X.w X.K X.mg X.base CX k C m ps sp) (c : Cls X.K C) (he : PE X o ta) (hr : Room k X.A) (hx : Passes CX X E)
    (ht : eval (.Call (.Attribute o m apos) [] [] pos) X.env = (do
      let ov ← eval o X.env
      standAt apos.atName
      let (f, first) ← holding [ov] (getMethod ov m pl)
      callWith pos f first (backTo pos (starEach [] X.env)) (backToKw pos (keywordEach [] X.env))) := by rfl) : PE X (.Call (.Attribute o m apos) [] [] pos) (tMeth C m sp [] E ta tNil) := by
  obtain ⟨f, fd, F, hm, hb⟩ := D
  exact pe_meth0 he c hm F hr hb .nil hx ht
/-- C(e, ..) -/
theorem pe_dc (D : DefC X.prog X.w X.K X.mg X.base CX k C x sp) (hr : Room (k + 1) X.A) (hg : Gl X x) (hx : Passes CX X E) (ha : PA X (e :: es) t) (hdb : (x == ("__debug__" : Str)) = false := by decide)
    (he : starEach (e :: es) X.env = (false, eval e X.env) :: starEach es X.env := by rfl) (hpl : (backTo pos (starEach es X.env)).any (·.1) = false := by rfl) : PE X (.Call (.Name x p) (e :: es) [] pos) (StX.tMakeR C sp E t) := by
  obtain ⟨f, F, M, hm⟩ := D
  exact StX.pe_makeR M F hr hg hm hx ha hdb he hpl
/-- C(e, .., *y) -/
theorem pe_dcS (D : DefC X.prog X.w X.K X.mg X.base CX k C x sp) (hr : Room (k + 1) X.A) (hg : Gl X x) (hx : Passes CX X E) (ha : PA X (e :: es) t) (hdb : (x == ("__debug__" : Str)) = false := by decide)
    (he : starEach (e :: es) X.env = (false, eval e X.env) :: starEach es X.env := by rfl) (hst : (backTo pos (starEach es X.env)).any (·.1) = true := by rfl) : PE X (.Call (.Name x p) (e :: es) [] pos) (StX.tMakeR C sp E t) := by
  obtain ⟨f, F, M, hm⟩ := D
  refine ⟨fun pins s σ H Q I h => wpAny_Call_Name_kw (ld_glob I hg hm ?_ hdb)⟩
  exact PySem.W.callWith_S2 (h₀ := X.base) I.ok.mod.kin M.kp (thn (ha.run pos pins s σ H _ I h) fun us s1 ⟨vs, H1, I1, r, q⟩ => ⟨I1.kIn, StX.run_makeR M F hr hx I1 r q⟩) he hst
end
/-- an __init__: H0 is the caller's heap ahead of the new instance -/
def SpI (n : Nat) (C : Addr) (pre : List V → Hp → (V → Hp → Prop) → Prop) : Sp := fun vs H Q _ => vs.length = n + 1 ∧ ∃ x dx H0 G P vs', vs = .ref x :: vs' ∧ H = upd (upd H0 dx (.own x)) x (.ins C dx []) ∧ H0 x = none ∧ H0 dx = none ∧ dx ≠ x ∧ Same G H0 ∧ pre vs' G P ∧
  ∀ G' H', Stp (Bg none) G H0 G' H' → P (.ref x) G' → Q .non H'
theorem spI_len {n : Nat} {C : Addr} {pre : List V → Hp → (V → Hp → Prop) → Prop} : ∀ vs H Q E, SpI n C pre vs H Q E → vs.length = n + 1 := fun _ _ _ _ h => h.1
section
variable {b : Option (Addr × Addr)} {σ : L2.St} {G H : Hp} {K : PySem.W.Frag} {pre : List V → Hp → (V → Hp → Prop) → Prop} {P : V → Hp → Prop} {E : XK} {ta : TA} {to : TE} {n : Nat} {C : Addr} {m : Str}
theorem ev_meth (h : Ev b to σ G fun x G1 => ∃ a dx fs, x = .ref a ∧ G1 a = some (.ins C dx fs) ∧ fs.lookup m = none ∧ Ev b ta σ G1 fun vs G2 => vs.length + 1 = n ∧ pre (x :: vs) G2 P) : Ev b (tMeth C m (SpP n pre) [] E to ta) σ G P :=
  fun H w Q k => h H w _ fun x G1 H1 e1 w1 ⟨a, dx, fs, ex, hi, hl, q⟩ => ⟨a, dx, fs, ex, w1.same _ _ hi, hl, q H1 w1 _ fun vs G2 H2 e2 w2 ⟨hn, hp⟩ => by
    show SpP n pre (x :: (vs ++ [])) H2 Q E
    rw [List.append_nil]
    exact ⟨hn, G2, P, w2.same, hp, fun v G3 H3 e3 p => k v G3 H3 ((e1.trans e2).trans e3.up) (w2.back e3) p⟩⟩
theorem ev_make (h : Ev b ta σ G fun vs G1 => vs.length = n ∧ pre vs G1 P) : Ev b (StX.tMakeR C (SpI n C pre) E ta) σ G P :=
  fun H w Q k => h H w _ fun vs G1 H1 e1 w1 ⟨hn, hp⟩ x dx nx ndx ne => ⟨congrArg Nat.succ hn, x, dx, H1, G1, P, vs, rfl, rfl, nx, ndx, ne, w1.same, hp, fun G2 H2 e2 p => ⟨rfl, k _ G2 H2 (e1.trans e2.up) (w1.back e2) p⟩⟩
/-- where an __init__ begins: the instance is its own -/
theorem init_at {x dx : Addr} {H0 : Hp} (sm : Same G H0) (nx : H0 x = none) (ndx : H0 dx = none) (ne : dx ≠ x) : Stp (Bg none) G H0 G (upd (upd H0 dx (.own x)) x (.ins C dx [])) ∧ G x = none :=
  ⟨((Stp.refl sm).newP ndx).newP (by rw [upd_ne (Ne.symm ne)]; exact nx), sm.free nx⟩
/-- self.f = e -/
theorem s_fld {D : Ends} {tv : TE} {i : Nat} {x dx : Addr} {fs : List (Str × V)} {f : Str} (w : Wd b G H) (hs : σ[i]? = some (some (.ref x))) (hx : H x = some (.ins C dx fs)) (hb : ¬ Bg b x) (c : Cls K C) (na : NoAttr K C f) (hl : fs.length < 1000)
    (h : Ev b tv σ G fun y G1 => ∀ H1, Stp (Bg b) G H G1 H1 → Wd b G1 H1 → D.nx σ (upd H1 x (.ins C dx (putF f y fs)))) : sFld K (tVar i) tv f D σ H :=
  h H w _ fun y G1 H1 e1 w1 q => ⟨.ref x, hs, x, C, dx, fs, rfl, e1.hh _ _ hx hb, c, na, hl, q H1 e1 w1⟩
end
/-! ### rows, books, sheets -/
abbrev RowT := List Str × List Str
abbrev RecT := Str × RowT
abbrev LineT := Str × List Int
section
variable (K : PySem.W.Frag)
def RowIs (G : Hp) (v : V) (r : RowT) : Prop := ∃ (a dx tp tc tn : Addr) (nm : List Str), v = .ref a ∧ G a = some (.ins (cls K "Row") dx [("pro", .ref tp), ("con", .ref tc), ("named", .ref tn)]) ∧
  Dp K G (.ref tp) (.tuple (r.1.map .str)) ∧ Dp K G (.ref tc) (.tuple (r.2.map .str)) ∧ Dp K G (.ref tn) (.tuple (nm.map .str)) ∧ nm.Perm (r.1 ++ r.2)
def RecIs (G : Hp) (kv : Key × V) (r : RecT) : Prop := kv.1 = .inr r.1 ∧ RowIs K G kv.2 r.2
def BookIs (G : Hp) (v : V) (R : List Str) (rs : List RecT) : Prop := ∃ (a dx t d : Addr) (kvs : List (Key × V)), v = .ref a ∧ G a = some (.ins (cls K "Book") dx [("reasons", .ref t), ("by_mark", .ref d)]) ∧ RsAt G (.ref t) R ∧ G d = some (.dK kvs) ∧ Paired (RecIs K G) kvs rs
def LineIs (G : Hp) (kv : Key × V) (l : LineT) : Prop := kv.1 = .inr l.1 ∧ Dp K G kv.2 (.tuple (l.2.map .int))
def SheetIs (G : Hp) (v : V) (R : List Str) (ls : List LineT) : Prop := ∃ (a dx t l d : Addr) (kvs : List (Key × V)), v = .ref a ∧ G a = some (.ins (cls K "Sheet") dx [("reasons", .ref t), ("_names", .ref l), ("_scores", .ref d)]) ∧
  Dp K G (.ref t) (.tuple (R.map .str)) ∧ Dp K G (.ref l) (.list (ls.map fun x => .str x.1)) ∧ G d = some (.dK kvs) ∧ Paired (LineIs K G) kvs ls
end
section
variable {K : PySem.W.Frag} {G G' : Hp} {v : V}
theorem rowIs_mono {r : RowT} (e : Same G G') (h : RowIs K G v r) : RowIs K G' v r := by
  obtain ⟨a, dx, tp, tc, tn, nm, e1, e2, e3, e4, e5, e6⟩ := h
  exact ⟨a, dx, tp, tc, tn, nm, e1, e _ _ e2, Dpm e3 e, Dpm e4 e, Dpm e5 e, e6⟩
theorem paired_imp {α β : Type} {F F' : α → β → Prop} (h : ∀ a b, F a b → F' a b) : ∀ {xs : List α} {ys : List β}, Paired F xs ys → Paired F' xs ys
  | _, _, .nil => .nil
  | _, _, .cons a t => .cons (h _ _ a) (paired_imp h t)
theorem bookIs_mono {R : List Str} {rs : List RecT} (e : Same G G') (h : BookIs K G v R rs) : BookIs K G' v R rs := by
  obtain ⟨a, dx, t, d, kvs, e1, e2, e3, e4, e5⟩ := h
  exact ⟨a, dx, t, d, kvs, e1, e _ _ e2, rs_mono e e3, e _ _ e4, paired_imp (fun _ _ q => ⟨q.1, rowIs_mono e q.2⟩) e5⟩
theorem sheetIs_mono {R : List Str} {ls : List LineT} (e : Same G G') (h : SheetIs K G v R ls) : SheetIs K G' v R ls := by
  obtain ⟨a, dx, t, l, d, kvs, e1, e2, e3, e4, e5, e6⟩ := h
  exact ⟨a, dx, t, l, d, kvs, e1, e _ _ e2, Dpm e3 e, Dpm e4 e, e _ _ e5, paired_imp (fun _ _ q => ⟨q.1, Dpm q.2 e⟩) e6⟩
theorem rs_dp {R : List Str} (h : RsAt G v R) : Dp K G v (.tuple (R.map .str)) := by
  obtain ⟨a, rfl, f⟩ := h
  exact .tup f.sqt (dpa_strs R)
end
end FD
namespace FD
open PySem PyProof.Rows L2
/-! ### raw rules: a sequence of either kind; enumerate of a tuple; zip of a tuple and a list -/
section
variable {X : Cx} {tg : Expr}
def SqE (K : PySem.W.Frag) (H : Hp) (a : Addr) (xs : List V) : Prop := SqL K H a xs ∨ SqT K H a xs
def iSeqA (K : PySem.W.Frag) (tl : TE) : TI := fun σ H R => tl σ H fun x H1 => ∃ a, x = .ref a ∧ (((∃ xs, SqL K H1 a xs) ∧ R (Itl K a) H1) ∨ ((∃ xs, SqT K H1 a xs) ∧ R (Itt K a) H1))
theorem pi_seqA {l : Expr} {tl : TE} (hl : PE X l tl) : PI X tg l (iSeqA X.K tl) := by
  refine ⟨fun pins s σ H R I h => ?_⟩
  refine thn (hl.run pins s σ H _ I h) fun v s1 ⟨x, H1, I1, r1, q1⟩ => ?_
  obtain ⟨a, e, q1⟩ := q1
  subst e
  cases r1
  have fp : ∀ b, b ∈ [s1.heap.objs.size] → FpOk X pins H1 b := fun b hb => by
    have e : b = s1.heap.objs.size := by simpa using hb
    subst e
    exact I1.fpOk (Nat.le_refl _) (I1.hok.fresh (Nat.le_refl _))
  rcases q1 with ⟨⟨xs, hq⟩, q⟩ | ⟨⟨xs, hq⟩, q⟩
  · obtain ⟨its, rv, p, hz⟩ := I1.list hq
    refine wpAny_pyIter_list p.isList ?_
    exact ⟨s1.heap.objs.size, [s1.heap.objs.size], _, _, H1, rfl, I1.kept (t' := s1.toks) fun b o e => Heap.get?_push_of_some _ e, turn_list a _, ⟨_, Heap.get?_push_size _ rfl, rfl, rfl⟩, fp, q⟩
  · obtain ⟨its, rv, p, hz⟩ := I1.tuple hq
    refine wpAny_pyIter_tuple (show s1.heap.IsTuple a its.toArray from p) ?_
    exact ⟨s1.heap.objs.size, [s1.heap.objs.size], _, _, H1, rfl, I1.kept (t' := s1.toks) fun b o e => Heap.get?_push_of_some _ e, turn_tuple a _, ⟨_, Heap.get?_push_size _ rfl, rfl, rfl⟩, fp, q⟩
def IteT (K : PySem.W.Frag) (a : Addr) : It :=
  ⟨fun i H => ∃ (xs : List V) (x : V), SqT K H a xs ∧ xs[i]? = some x, fun i H v H' => ∃ T x, v = .ref T ∧ H T = none ∧ H' = upd H T (.tup [.int (i : Nat), x]) ∧ ∀ xs, SqT K H a xs → xs[i]? = some x, fun i H => ∃ xs : List V, SqT K H a xs ∧ xs.length ≤ i⟩
theorem turn_enumT {P : Program} {w : World} {K : PySem.W.Frag} {elts : List Expr} {kk : Nat} {tpos : Pos} (a e it : Addr) :
    Turn P w K (.Tuple elts kk tpos) (IteT K a) [e, it] e (fun i h => (∃ old, IsEnum h e it ((i : Nat) : Int) old) ∧ h.IsTupleIter it a i ∧ e ≠ it ∧ a ≠ it ∧ e ≠ a) where
  mem := by simp
  obj := fun i h st b hb => by
    obtain ⟨⟨old, he⟩, ⟨o, ho, hc, hd⟩, _⟩ := st
    have e' : b = e ∨ b = it := by simpa using hb
    rcases e' with z | z
    · rw [z]; exact ⟨_, he, fun v q => nomatch q⟩
    · rw [z]; exact ⟨o, ho, fun v q => by rw [hd] at q; cases q⟩
  keep := fun i h h' st k => let ⟨⟨old, he⟩, hi, hne⟩ := st; ⟨⟨old, k e (by simp) _ he⟩, hi.at fun o q => k it (by simp) o q, hne⟩
  item := by
    intro X hP hw hK hc i pins s σ H E I hf st hg
    subst hP hw hK
    obtain ⟨⟨old, he⟩, hit, hne, hai, hea⟩ := st
    obtain ⟨xs, x, hq, hx⟩ := hg
    obtain ⟨its, rv, p, hz⟩ := I.tuple hq
    obtain ⟨u, hu, ru⟩ := rv.get hx
    have hel : e < s.heap.objs.size := Heap.lt_size he
    have hil : it < s.heap.objs.size := by obtain ⟨_, q, _⟩ := hit; exact Heap.lt_size q
    have D := Draws.tuple (prog := X.prog) (w := X.w) (A := X.A.in1) (I.ok.hd hc) it a hai its.toArray
    have hlt : i < its.toArray.size := by
      have := List.getElem?_eq_some_iff.mp hu
      obtain ⟨h1, _⟩ := this
      simpa using h1
    refine wpAny_pyNext_enum_itemD D he ⟨hit, p⟩ hlt hne (by simp [hne, hea]) fun y h' tk hy ho hst' hT hsz hk => ?_
    have ey : y = u := by
      have h1 : its.toArray[i]? = some u := by simpa using hu
      rw [h1] at hy
      exact (Option.some.inj hy).symm
    subst ey
    refine ⟨_, rfl, wpAny_letOwnedTupleGo_enum (s := { s with heap := h', toks := tk + 1 }) ho fun h'' he' sb => ?_⟩
    have hT2 : h''.get? s.heap.objs.size = some { cls := .type "tuple", data := .seq #[.int i tk, y] } := (sb.2 _ (Nat.ne_of_gt hel)).trans hT
    have new : ObjOk X.prog X.w (upd H s.heap.objs.size (.tup [.int (i : Nat), x])) h'' s.heap.objs.size (.tup [.int (i : Nat), x]) :=
      ⟨by show 2 ≤ sizeLine; decide, [.int i tk, y], .cons ⟨_, rfl⟩ (.cons ru .nil), ⟨_, hT2, rfl, _, rfl⟩⟩
    have I1 : L2.Inv X pins σ (upd H s.heap.objs.size (.tup [.int (i : Nat), x])) { s with heap := h'', toks := tk + 1 } :=
      I.turnedNew (ch := [e, it]) (fun b ob hb q => (sb.2 b (fun z => hb (by simp [z]))).trans (hk b ob (fun z => hb (by simp [z])) (fun z => hb (by simp [z])) q)) hf (Nat.le_refl _) new
    refine ⟨.ref s.heap.objs.size, _, I1, rfl, ⟨_, x, rfl, I.hok.fresh (Nat.le_refl _), rfl, fun ys hy => by rw [I.tuple_inj hy hq]; exact hx⟩, ⟨⟨y, ?_⟩, hst'.1.at fun o q => (sb.2 it (Ne.symm hne)).trans q, hne, hai, hea⟩, fun b hb => ?_⟩
    · have e1 : ((i + 1 : Nat) : Int) = (i : Int) + 1 := by omega
      rw [e1]; exact he'
    · have hb' : b < s.heap.objs.size := by
        have e' : b = e ∨ b = it := by simpa using hb
        rcases e' with z | z
        · rw [z]; exact hel
        · rw [z]; exact hil
      rw [upd_ne (Nat.ne_of_lt hb')]
      exact (hf b hb).1
  done := by
    intro X hP hw hK hc i pins s σ H E I hf st hg
    subst hP hw hK
    obtain ⟨⟨old, he⟩, hit, hne, hai, hea⟩ := st
    obtain ⟨xs, hq, hx⟩ := hg
    obtain ⟨its, rv, p, hz⟩ := I.tuple hq
    obtain ⟨f0, f1, f2, f3, f4, f5⟩ := hf it (by simp)
    have hl := rv.length
    have hT : s.TypeIs (.ref e) "enumerate" := ⟨_, he, rfl⟩
    unfold pyNext
    refine wpAny_bind (wpAny_attempt (wpAny_callSpecial?_slot (name := Str.ofString "__next__") hT F.slot_enumerate_next
      (wpAny_call_entry F.slot_enumerate_next hT F.entry_enumerate_next ?_ (F.args_enumerate_next_1 _))))
    show wpAny _ _ (field (.ref e) 2 >>= _) _ _ _
    refine wpAny_bind (wpAny_field he rfl (x := .ref it) rfl ?_)
    refine wpAny_bind (wpAny_nextOf_tuple_end (items := its.toArray) (I.ok.hd hc) hit p (by simp; omega) fun h' x he' hx' => ?_)
    obtain ⟨o, ho, hc⟩ := hx'
    refine wpAny_bind (wpAny_isInstance (T := "StopIteration") (b := true) ⟨o, ho, hc⟩ isSubtype_stop ?_)
    exact wpAny_pure ⟨rfl, I.turned (t' := s.toks) (fun b o hb q => he' b o hb q) f0 f1 f3 f4 f5⟩
  self := fun A i s Q E st h => let ⟨⟨_, he⟩, _⟩ := st; wpAny_pyIter_enum he h
set_option maxHeartbeats 1000000 in
theorem meets_enum1 {v : Value} {o : Obj} {H : Heap → Prop} (B : Begins v o H) :
    Meets (Builtin.«enumerate.__new__» ⟨[.type "enumerate", v], []⟩) (fun _ R s => H s.heap ∧
      R (.ok (.ret (.ref (s.heap.push o).objs.size))) { s with heap := (s.heap.push o).push { cls := .type "enumerate", data := .fields #[.none, .bool false, .ref s.heap.objs.size, rawInt 0, .none, .none] } }) :=
  .of_wp fun prog w A R s h => by
    obtain ⟨hp, g, d, tk, os⟩ := s; obtain ⟨h1, h⟩ := h
    have hsub := sub_enumerate
    have q1 : ∀ {A' : Around} {E : Value → Shared → Prop} {Q : Value → Shared → Prop}, Q (.ref hp.objs.size) ⟨hp.push o, g, d, tk, os⟩ → wpAny (model prog w) A' (pyIter v) Q E ⟨hp, g, d, tk, os⟩ :=
      fun q => B.iter prog w _ _ ⟨hp, g, d, tk, os⟩ _ h1 q
    wp_walk using q1
    refine wpAny_stack_any fun st => wpAny_pure ?_
    split
    · rename_i c _ _ _ _ _
      cases (c == Value.type "enumerate")
      · wp_walk using q1
        exact ⟨_, rfl, h⟩
      · wp_walk using q1
        exact ⟨_, rfl, h⟩
    · wp_walk using q1
      exact ⟨_, rfl, h⟩
theorem enum_made {prog : Program} {w : World} {A : Around} {E : Value → Shared → Prop} {s : Shared} {v : Value} {o : Obj} {H : Heap → Prop} {Q : Value → Shared → Prop} (B : Begins v o H) (h1 : H s.heap)
    (h : ∀ h', IsEnum h' (s.heap.objs.size + 1) s.heap.objs.size 0 .none → h'.get? s.heap.objs.size = some o → h'.objs.size = s.heap.objs.size + 2 →
      (∀ b o, s.heap.get? b = some o → h'.get? b = some o) → Q (.ref (s.heap.objs.size + 1)) { s with heap := h' }) :
    wpAny (model prog w) A (call (.type "enumerate") [v]) Q E s := by
  refine callType_new F.called_enumerate (by decide) (F.typeCall_enumerate_1 _) (F.newCall_enumerate_1 _) (fun obj => F.args_object_init_2 obj _) F.entry_enumerate_new
    (meets_enum1 B) ⟨h1, ?_⟩
  have hz : (s.heap.push o).objs.size = s.heap.objs.size + 1 := Heap.size_push ..
  show _ ∧ _
  rw [hz]
  have he : IsEnum ((s.heap.push o).push { cls := .type "enumerate", data := .fields #[.none, .bool false, .ref s.heap.objs.size, rawInt 0, .none, .none] }) (s.heap.objs.size + 1) s.heap.objs.size 0 .none := by
    have := Heap.get?_push_size (s.heap.push o) (o := { cls := .type "enumerate", data := .fields #[.none, .bool false, .ref s.heap.objs.size, rawInt 0, .none, .none] }) rfl
    rw [hz] at this; exact this
  refine ⟨⟨_, he, rfl⟩, h _ he (Heap.get?_push_of_some _ (Heap.get?_push_size _ B.free)) (by rw [Heap.size_push, hz]) fun b o x => Heap.get?_push_of_some _ (Heap.get?_push_of_some _ x)⟩
def iEnumA (K : PySem.W.Frag) (ta : TA) : TI := fun σ H R => ta σ H fun vs H1 => ∃ a xs, vs = [.ref a] ∧ ((SqL K H1 a xs ∧ R (Ite K a) H1) ∨ (SqT K H1 a xs ∧ R (IteT K a) H1))
theorem pi_enumA {e : Expr} {ta : TA} {p pos tpos : Pos} {elts : List Expr} {kk : Nat} (hg : Gl X "enumerate") (hm : X.mg "enumerate" = none) (ha : PA X [e] ta) (hs : starEach [e] X.env = [(false, eval e X.env)] := by rfl) :
    PI X (.Tuple elts kk tpos) (.Call (.Name "enumerate" p) [e] [] pos) (iEnumA X.K ta) := by
  refine ⟨fun pins s σ H R I h => ?_⟩
  refine Call_ (ld_blt I hg hm boot_enumerate (PyProof.Rows.callWith_type1 (thn (ha.run pos pins s σ H _ I h) fun us s1 ⟨vs, H1, I1, r1, q1⟩ => ?_) hs rfl))
  obtain ⟨a, xs, ex, q1⟩ := q1
  subst ex
  cases r1 with
  | cons r rr =>
    cases rr
    cases r
    have fp : ∀ b, b ∈ [s1.heap.objs.size + 1, s1.heap.objs.size] → FpOk X pins H1 b := fun b hb => by
      have e' : b = s1.heap.objs.size + 1 ∨ b = s1.heap.objs.size := by simpa using hb
      have hle : s1.heap.objs.size ≤ b := by
        rcases e' with z | z
        · rw [z]; exact Nat.le_add_right _ _
        · rw [z]; exact Nat.le_refl _
      exact I1.fpOk hle (I1.hok.fresh hle)
    rcases q1 with ⟨hq, q⟩ | ⟨hq, q⟩
    · obtain ⟨its, rv, p', hz⟩ := I1.list hq
      refine call_enumerate_list p'.isList fun h' he hit hsz hk => wpAny_pyIter_enum he ?_
      have I2 : L2.Inv X pins σ H1 { s1 with heap := h' } := I1.kept (t' := s1.toks) hk
      exact ⟨s1.heap.objs.size + 1, [s1.heap.objs.size + 1, s1.heap.objs.size], _, _, H1, rfl, I2, turn_enum a (s1.heap.objs.size + 1) s1.heap.objs.size, ⟨⟨.none, he⟩, hit, Nat.succ_ne_self _⟩, fp, q⟩
    · obtain ⟨its, rv, p', hz⟩ := I1.tuple hq
      have ha : a < s1.heap.objs.size := by obtain ⟨_, q, _⟩ := id p'; exact Heap.lt_size q
      refine enum_made (begins_tuple a its.toArray) p' fun h' he hit hsz hk => wpAny_pyIter_enum he ?_
      have I2 : L2.Inv X pins σ H1 { s1 with heap := h' } := I1.kept (t' := s1.toks) hk
      exact ⟨s1.heap.objs.size + 1, [s1.heap.objs.size + 1, s1.heap.objs.size], _, _, H1, rfl, I2, turn_enumT a (s1.heap.objs.size + 1) s1.heap.objs.size, ⟨⟨.none, he⟩, ⟨_, hit, rfl, rfl⟩, Nat.succ_ne_self _, Nat.ne_of_lt ha, Nat.ne_of_gt (Nat.lt_succ_of_lt ha)⟩, fp, q⟩
/-- zip of the tuple at a and the list at b -/
def ItzM (K : PySem.W.Frag) (a b : Addr) : It :=
  ⟨fun i H => ∃ (xs ys : List V) (x y : V), SqT K H a xs ∧ SqL K H b ys ∧ xs[i]? = some x ∧ ys[i]? = some y,
    fun i H v H' => ∃ T x y, v = .ref T ∧ H T = none ∧ H' = upd H T (.tup [x, y]) ∧ (∀ xs, SqT K H a xs → xs[i]? = some x) ∧ ∀ ys, SqL K H b ys → ys[i]? = some y,
    fun i H => ∃ xs ys : List V, SqT K H a xs ∧ SqL K H b ys ∧ i ≤ xs.length ∧ i ≤ ys.length ∧ (xs.length = i ∨ ys.length = i)⟩
theorem turn_zipM {P : Program} {w : World} {K : PySem.W.Frag} {elts : List Expr} {kk : Nat} {tpos : Pos} {a b z TI TO i1 i2 : Addr} (D : ZipApart z TI TO i1 i2 a b) (S : ZipSep2 z TI TO i1 i2 [i1, a] [i2, b]) :
    Turn P w K (.Tuple elts kk tpos) (ItzM K a b) [z, TI, TO, i1, i2] z (fun i h => IsZip h z TI TO .none ∧ IsPair h TI (.ref i1) (.ref i2) ∧ (∃ x y, IsPair h TO x y) ∧ h.IsTupleIter i1 a i ∧ h.IsListIter i2 b i) where
  mem := by simp
  obj := fun i h st c hc => by
    obtain ⟨hz, hTI, ⟨x, y, hTO⟩, ⟨o1, e1, _, d1⟩, ⟨o2, e2, _, d2⟩⟩ := st
    have e' : c = z ∨ c = TI ∨ c = TO ∨ c = i1 ∨ c = i2 := by simpa using hc
    rcases e' with q | q | q | q | q
    · rw [q]; exact ⟨_, hz, fun v q => nomatch q⟩
    · rw [q]; exact ⟨_, hTI, fun v q => nomatch q⟩
    · rw [q]; exact ⟨_, hTO, fun v q => nomatch q⟩
    · rw [q]; exact ⟨o1, e1, fun v q => by rw [d1] at q; cases q⟩
    · rw [q]; exact ⟨o2, e2, fun v q => by rw [d2] at q; cases q⟩
  keep := fun i h h' st k => by
    obtain ⟨hz, hTI, ⟨x, y, hTO⟩, h1, h2⟩ := st
    exact ⟨k z (by simp) _ hz, k TI (by simp) _ hTI, ⟨x, y, k TO (by simp) _ hTO⟩, h1.at fun o q => k i1 (by simp) o q, h2.at fun o q => k i2 (by simp) o q⟩
  item := by
    intro X hP hw hK hc i pins s σ H E I hf st hg
    subst hP hw hK
    obtain ⟨hz, hTI, ⟨x0, y0, hTO⟩, h1, h2⟩ := st
    obtain ⟨xs, ys, x, y, hqx, hqy, hx, hy⟩ := hg
    obtain ⟨its, rv, p, _⟩ := I.tuple hqx
    obtain ⟨its2, rv2, p2, _⟩ := I.list hqy
    obtain ⟨u, hu, ru⟩ := rv.get hx
    obtain ⟨u2, hu2, ru2⟩ := rv2.get hy
    have hzl : z < s.heap.objs.size := Heap.lt_size hz
    have D1 := Draws.tuple (prog := X.prog) (w := X.w) (A := X.A.in1) (I.ok.hd hc) i1 a (fun q => D.l1i1 q) its.toArray
    have D2 := Draws.list (prog := X.prog) (w := X.w) (A := X.A.in1) (I.ok.hd hc) i2 b (fun q => D.l2i2 q) its2.toArray
    have hl1 : i < its.toArray.size := by obtain ⟨h1, _⟩ := List.getElem?_eq_some_iff.mp hu; simpa using h1
    have hl2 : i < its2.toArray.size := by obtain ⟨h1, _⟩ := List.getElem?_eq_some_iff.mp hu2; simpa using h1
    refine wpAny_pyNext_zipD2_item S D1 D2 hz hTI hTO ⟨h1, p⟩ ⟨h2, p2.isList⟩ hl1 hl2 fun x' y' h' tk hx' hy' z' TO' s1' s2' hT hsz hk => ?_
    have ex : x' = u := by
      have h1 : its.toArray[i]? = some u := by simpa using hu
      rw [h1] at hx'
      exact (Option.some.inj hx').symm
    have ey : y' = u2 := by
      have h1 : its2.toArray[i]? = some u2 := by simpa using hu2
      rw [h1] at hy'
      exact (Option.some.inj hy').symm
    subst ex ey
    refine ⟨_, rfl, wpAny_letOwnedTupleGo_zip (s := { s with heap := h', toks := tk }) z' fun h'' z'' sb => ?_⟩
    have hT2 : h''.get? s.heap.objs.size = some { cls := .type "tuple", data := .seq #[x', y'] } := (sb.2 _ (Nat.ne_of_gt hzl)).trans hT
    have new : ObjOk X.prog X.w (upd H s.heap.objs.size (.tup [x, y])) h'' s.heap.objs.size (.tup [x, y]) :=
      ⟨by show 2 ≤ sizeLine; decide, [x', y'], .cons ru (.cons ru2 .nil), ⟨_, hT2, rfl, _, rfl⟩⟩
    have I1 : L2.Inv X pins σ (upd H s.heap.objs.size (.tup [x, y])) { s with heap := h'', toks := tk } :=
      I.turnedNew (t' := tk) (ch := [z, TI, TO, i1, i2]) (fun c o hb q => (sb.2 c (fun q' => hb (by simp [q']))).trans (hk c o (fun q' => hb (by simp [q'])) (fun q' => hb (by simp [q'])) (fun q' => hb (by simp [q'])) (fun q' => hb (by simp [q'])) q)) hf (Nat.le_refl _) new
    refine ⟨.ref s.heap.objs.size, _, I1, rfl, ⟨_, x, y, rfl, I.hok.fresh (Nat.le_refl _), rfl, fun l hl => by rw [I.tuple_inj hl hqx]; exact hx, fun l hl => by rw [I.list_inj hl hqy]; exact hy⟩, ⟨z'', ?_, ⟨x', y', ?_⟩, ?_, ?_⟩, fun c hcm => ?_⟩
    · exact (sb.2 _ D.TIz).trans (hk _ _ D.TIz D.TITO D.TIi1 D.TIi2 hTI)
    · exact (sb.2 _ D.TOz).trans TO'
    · exact s1'.1.at fun o q => (sb.2 _ D.i1z).trans q
    · exact s2'.1.at fun o q => (sb.2 _ D.i2z).trans q
    · have hlt : c < s.heap.objs.size := by
        have e' : c = z ∨ c = TI ∨ c = TO ∨ c = i1 ∨ c = i2 := by simpa using hcm
        rcases e' with q | q | q | q | q
        · rw [q]; exact hzl
        · rw [q]; exact Heap.lt_size hTI
        · rw [q]; exact Heap.lt_size hTO
        · rw [q]; obtain ⟨_, e1, _⟩ := h1; exact Heap.lt_size e1
        · rw [q]; obtain ⟨_, e2, _⟩ := h2; exact Heap.lt_size e2
      rw [upd_ne (Nat.ne_of_lt hlt)]
      exact (hf c hcm).1
  done := by
    intro X hP hw hK hc i pins s σ H E I hf st hg
    subst hP hw hK
    obtain ⟨hz, hTI, ⟨x0, y0, hTO⟩, h1, h2⟩ := st
    obtain ⟨xs, ys, hqx, hqy, le1, le2, hend⟩ := hg
    obtain ⟨its, rv, p, _⟩ := I.tuple hqx
    obtain ⟨its2, rv2, p2, _⟩ := I.list hqy
    have l1 := rv.length
    have l2 := rv2.length
    have D1 := Draws.tuple (prog := X.prog) (w := X.w) (A := X.A.in1) (I.ok.hd hc) i1 a (fun q => D.l1i1 q) its.toArray
    have D2 := Draws.list (prog := X.prog) (w := X.w) (A := X.A.in1) (I.ok.hd hc) i2 b (fun q => D.l2i2 q) its2.toArray
    exact wpAny_pyNext_zipD2_end S D1 D2 hz hTI hTO ⟨h1, p⟩ ⟨h2, p2.isList⟩ (by simp; omega) (by simp; omega) (by simp; omega) fun h' tk hk => ⟨rfl, I.turnedL (t' := tk) (ch := [z, TI, TO, i1, i2]) (fun c o hb q =>
      hk c o (fun q' => hb (by simp [q'])) (fun q' => hb (by simp [q'])) (fun q' => hb (by simp [q'])) (fun q' => hb (by simp [q'])) q) hf⟩
  self := fun A i s Q E st h => wpAny_pyIter_zip st.1 h
def iZipM (K : PySem.W.Frag) (ta : TA) : TI := fun σ H R => ta σ H fun vs H1 => ∃ a b xs ys, vs = [.ref a, .ref b] ∧ SqT K H1 a xs ∧ SqL K H1 b ys ∧ R (ItzM K a b) H1
theorem pi_zipM {e e2 : Expr} {ta : TA} {p pos tpos : Pos} {elts : List Expr} {kk : Nat} (hg : Gl X "zip") (hm : X.mg "zip" = none) (ha : PA X [e, e2] ta)
    (hs : starEach [e, e2] X.env = (false, eval e X.env) :: starEach [e2] X.env := by rfl) (hpl : (backTo pos (starEach [e2] X.env)).any (·.1) = false := by rfl) :
    PI X (.Tuple elts kk tpos) (.Call (.Name "zip" p) [e, e2] [] pos) (iZipM X.K ta) := by
  refine ⟨fun pins s σ H R I h => ?_⟩
  refine Call_ (ld_blt I hg hm PyProof.Rows.boot_zip (PyProof.Rows.callWith_type1 (thn (ha.run pos pins s σ H _ I h) fun us s1 ⟨vs, H1, I1, r1, q1⟩ => ?_) hs hpl))
  obtain ⟨a, b, xs, ys, ex, hqx, hqy, q⟩ := q1
  subst ex
  cases r1 with
  | cons r rr =>
    cases rr with
    | cons r' rr =>
      cases rr
      cases r
      cases r'
      have fresh5 : ∀ c, c ∈ [s1.heap.objs.size + 4, s1.heap.objs.size + 2, s1.heap.objs.size + 3, s1.heap.objs.size, s1.heap.objs.size + 1] → FpOk X pins H1 c := fun c hcm => by
        have e' : c = s1.heap.objs.size + 4 ∨ c = s1.heap.objs.size + 2 ∨ c = s1.heap.objs.size + 3 ∨ c = s1.heap.objs.size ∨ c = s1.heap.objs.size + 1 := by simpa using hcm
        have hle : s1.heap.objs.size ≤ c := by
          rcases e' with z | z | z | z | z
          · rw [z]; exact Nat.le_add_right _ _
          · rw [z]; exact Nat.le_add_right _ _
          · rw [z]; exact Nat.le_add_right _ _
          · rw [z]; exact Nat.le_refl _
          · rw [z]; exact Nat.le_add_right _ _
        exact I1.fpOk hle (I1.hok.fresh hle)
      obtain ⟨its, rv, p1, _⟩ := I1.tuple hqx
      obtain ⟨its2, rv2, p2, _⟩ := I1.list hqy
      have la : a < s1.heap.objs.size := by obtain ⟨_, q, _⟩ := id p1; exact Heap.lt_size q
      have lb : b < s1.heap.objs.size := p2.lt
      refine zip_begins2 (begins_tuple a its.toArray) (begins_list b its2.toArray) p1 p2.isList fun h' hz hTI hTO g1 g2 hsz hk => wpAny_pyIter_zip hz ?_
      have I2 : L2.Inv X pins σ H1 { s1 with heap := h' } := I1.kept (t' := s1.toks) hk
      exact ⟨s1.heap.objs.size + 4, [s1.heap.objs.size + 4, s1.heap.objs.size + 2, s1.heap.objs.size + 3, s1.heap.objs.size, s1.heap.objs.size + 1], _, _, H1, rfl, I2,
        turn_zipM (PySem.W.ktu_apart s1.heap.objs.size a b la lb) (zip_sep2 (fp1 := [a]) (fp2 := [b]) (fun c hc => by rw [List.mem_singleton.mp hc]; exact la) (fun c hc => by rw [List.mem_singleton.mp hc]; exact lb)),
        ⟨hz, hTI, ⟨_, _, hTO⟩, ⟨_, g1, rfl, rfl⟩, ⟨_, g2, rfl, rfl⟩⟩, fresh5, q⟩
end
end FD
namespace FD
open PySem L2
section
variable {b : Option (Addr × Addr)} {σ : L2.St} {G H : Hp} {K : PySem.W.Frag} {tt : TT} {te tl : TE} {vs : List Nat} {P : V → Hp → Prop}
theorem sqe_mono {G G' : Hp} {a : Addr} {xs : List V} (e : Same G G') (h : SqE K G a xs) : SqE K G' a xs := h.elim (fun q => .inl (sql_mono e q)) fun q => .inr (sqt_mono e q)
theorem walk_enumT {a : Addr} {xs : List V} : Walk (IteT K a) xs.length (fun H => SqT K H a xs) (YPair (fun i => some (.int (i : Nat))) (fun i => xs[i]?)) := by
  refine ⟨fun i _ hi q => ⟨xs, xs[i], q, by simp [hi]⟩, fun _ q => ⟨xs, q, Nat.le_refl _⟩, fun i H v H' _ q y => ?_⟩
  obtain ⟨T, x, h1, h2, h3, h4⟩ := y
  exact ⟨T, .int (i : Nat), x, h1, h2, h3, rfl, h4 xs q⟩
theorem walk_zipT {a c : Addr} {xs ys : List V} : Walk (RZ.ItzT K a c) (min xs.length ys.length) (fun H => SqT K H a xs ∧ SqT K H c ys) (YPair (fun i => xs[i]?) (fun i => ys[i]?)) := by
  refine ⟨fun i _ hi q => ?_, fun _ q => ⟨xs, ys, q.1, q.2, by omega⟩, fun i H v H' _ q y => ?_⟩
  · have h1 : i < xs.length := by omega
    have h2 : i < ys.length := by omega
    exact ⟨xs, ys, xs[i], ys[i], q.1, q.2, by simp [h1], by simp [h2]⟩
  · obtain ⟨T, x, z, h1, h2, h3, h4, h5⟩ := y
    exact ⟨T, x, z, h1, h2, h3, h4 xs q.1, h5 ys q.2⟩
theorem walk_zipM {a c : Addr} {xs ys : List V} : Walk (ItzM K a c) (min xs.length ys.length) (fun H => SqT K H a xs ∧ SqL K H c ys) (YPair (fun i => xs[i]?) (fun i => ys[i]?)) := by
  refine ⟨fun i _ hi q => ?_, fun _ q => ⟨xs, ys, q.1, q.2, by omega, by omega, by omega⟩, fun i H v H' _ q y => ?_⟩
  · have h1 : i < xs.length := by omega
    have h2 : i < ys.length := by omega
    exact ⟨xs, ys, xs[i], ys[i], q.1, q.2, by simp [h1], by simp [h2]⟩
  · obtain ⟨T, x, z, h1, h2, h3, h4, h5⟩ := y
    exact ⟨T, x, z, h1, h2, h3, h4 xs q.1, h5 ys q.2⟩
abbrev gTwo (K : PySem.W.Frag) (i1 i2 : Nat) : TG := gTup K 2 (gCons (gName i1) (gCons (gName i2) gNil))
/-- pairs, into two names; what is known of the items so far does not hang on the pair -/
theorem lc_pair {i1 i2 : Nat} {J : It} {n : Nat} {Gd : Hp → Prop} {f g : Nat → Option V} {G0 H0 G1 H1 : Hp} {Dl : Addr} {Q : VK} (W : Walk J n Gd (YPair f g)) (hn : n ≤ 100000) (w1 : Wd b G1 H1) (e01 : Stp (Bg b) G0 H0 G1 H1) (hD : H1 Dl = none)
    (hgd : ∀ H, Same G1 H → Gd H) (hw : ∀ z u, wipe (((wipe σ vs).set i1 (some z)).set i2 (some u)) vs = wipe σ vs) (Iv : Nat → List V → Hp → Prop) (h0 : Iv 0 [] G1) (hm : ∀ i acc G2 G3, Same G2 G3 → Iv i acc G2 → Iv i acc G3)
    (hs : ∀ i x y G2 acc, i < n → f i = some x → g i = some y → Same G1 G2 → Iv i acc G2 → acc.length ≤ i →
      Ev b tt (((wipe σ vs).set i1 (some x)).set i2 (some y)) G2 fun c G4 => (c = true → Ev b te (((wipe σ vs).set i1 (some x)).set i2 (some y)) G4 fun y G5 => Iv (i + 1) (acc ++ [y]) G5) ∧ (c = false → Iv (i + 1) acc G4))
    (hd : ∀ acc G2, Same G1 G2 → Iv n acc G2 → acc.length ≤ n → ∀ a, G2 a = none → P (.ref a) (upd G2 a (.lst acc)))
    (k : ∀ v G' H', Stp (Bg b) G0 H0 G' H' → Wd b G' H' → P v G' → Q v H') :
    ∃ W : Nat → Nat → Hp → Prop, (∃ m, W 0 m (upd H1 Dl (.lst []))) ∧ ∀ i m H, W i m H →
      (J.stop i H ∧ Q (.ref Dl) H) ∨ (J.go i H ∧ ∃ Nx : Hp → Prop, (∀ H', Nx H' → ∃ m', m' < m ∧ W (i + 1) m' H') ∧ ∀ x H', J.yld i H x H' → gTwo K i1 i2 x (wipe σ vs) H' fun σ2 H2 => wipe σ2 vs = wipe σ vs ∧ tt σ2 H2 fun b H3 =>
        if b = true then te σ2 H3 fun y H4 => ∃ acc, H4 Dl = some (.lst acc) ∧ acc.length < sizeLine ∧ Nx (upd H4 Dl (.lst (acc ++ [y]))) else Nx H3) :=
  lc_walk (P := P) W hn w1 e01 hD hgd Iv h0 (fun i x G2 H2 H' acc hi e w2 iv hacc y => by
    obtain ⟨t, x1, x2, rfl, ht, rfl, hx1, hx2⟩ := y
    refine ⟨_, upd G2 t (.tup [x1, x2]), (Stp.refl w2.same).new ht, w2.new ht, fun Q q2 => ⟨t, _, rfl, SqT.of upd_same, rfl, _, _, rfl, _, _, rfl, rfl, q2⟩, hw _ _, ?_⟩
    have e2 := same_new (o := .tup [x1, x2]) (w2.same.free ht)
    exact hs i x1 x2 _ acc hi hx1 hx2 (e.trans e2) (hm _ _ _ _ e2 iv) hacc) hd k
theorem zip_take {α β γ : Type} {l1 : List α} {l2 : List β} {i : Nat} {x : α} {y : β} (h1 : l1[i]? = some x) (h2 : l2[i]? = some y) : (l1.zip l2)[i]? = some (x, y) := by
  rw [List.zip_eq_zipWith, List.getElem?_zipWith, h1, h2]
/-- zip, on data -/
theorem lc_zipD {α β : Type} {i1 i2 : Nat} {J : It} {Gd : Hp → Prop} {xs ys : List V} {G0 H0 G1 H1 : Hp} {Dl : Addr} {Q : VK} (enc1 : α → PyData) (enc2 : β → PyData) (l1 : List α) (l2 : List β) (c : α × β → Bool) (f : α × β → PyData)
    (W : Walk J (min xs.length ys.length) Gd (YPair (fun i => xs[i]?) fun i => ys[i]?)) (hn : l1.length ≤ 100000) (w1 : Wd b G1 H1) (e01 : Stp (Bg b) G0 H0 G1 H1) (hD : H1 Dl = none) (hgd : ∀ H, Same G1 H → Gd H)
    (hx : DpAll K G1 xs (l1.map enc1)) (hy : DpAll K G1 ys (l2.map enc2)) (hw : ∀ z u, wipe (((wipe σ vs).set i1 (some z)).set i2 (some u)) vs = wipe σ vs)
    (hs : ∀ x y G2 d e, (d, e) ∈ l1.zip l2 → Same G1 G2 → Dp K G2 x (enc1 d) → Dp K G2 y (enc2 e) → Ev b tt (((wipe σ vs).set i1 (some x)).set i2 (some y)) G2 fun k G3 => k = c (d, e) ∧ (c (d, e) = true → Ev b te (((wipe σ vs).set i1 (some x)).set i2 (some y)) G3 fun y G4 => Dp K G4 y (f (d, e))))
    (hd : ∀ v G2, Same G1 G2 → Dp K G2 v (.list (((l1.zip l2).filter c).map f)) → P v G2)
    (k : ∀ v G' H', Stp (Bg b) G0 H0 G' H' → Wd b G' H' → P v G' → Q v H') :
    ∃ W : Nat → Nat → Hp → Prop, (∃ m, W 0 m (upd H1 Dl (.lst []))) ∧ ∀ i m H, W i m H →
      (J.stop i H ∧ Q (.ref Dl) H) ∨ (J.go i H ∧ ∃ Nx : Hp → Prop, (∀ H', Nx H' → ∃ m', m' < m ∧ W (i + 1) m' H') ∧ ∀ x H', J.yld i H x H' → gTwo K i1 i2 x (wipe σ vs) H' fun σ2 H2 => wipe σ2 vs = wipe σ vs ∧ tt σ2 H2 fun b H3 =>
        if b = true then te σ2 H3 fun y H4 => ∃ acc, H4 Dl = some (.lst acc) ∧ acc.length < sizeLine ∧ Nx (upd H4 Dl (.lst (acc ++ [y]))) else Nx H3) := by
  have lx := dpa_len hx
  have ly := dpa_len hy
  rw [List.length_map] at lx ly
  refine lc_pair (P := P) W (by omega) w1 e01 hD hgd hw (fun i acc G => Same G1 G ∧ DpAll K G acc ((((l1.zip l2).take i).filter c).map f)) ⟨Same.refl _, .nil⟩ (fun i acc G2 G3 e iv => ⟨iv.1.trans e, Dpam iv.2 e⟩) (fun i x y G2 acc hi hfx hgy e iv _ => ?_) (fun acc G2 e iv _ p hp => ?_) k
  · obtain ⟨d0, hd1, hd2⟩ := dpa_get (Dpam hx e) hfx
    rw [List.getElem?_map] at hd1
    obtain ⟨d, hd3, rfl⟩ := Option.map_eq_some_iff.mp hd1
    obtain ⟨u0, hu1, hu2⟩ := dpa_get (Dpam hy e) hgy
    rw [List.getElem?_map] at hu1
    obtain ⟨u, hu3, rfl⟩ := Option.map_eq_some_iff.mp hu1
    have hz : (l1.zip l2)[i]? = some (d, u) := zip_take (γ := Unit) hd3 hu3
    refine Ev.mono (hs x y G2 d u (List.mem_of_getElem? hz) e hd2 hu2) fun k G3 e3 ⟨ek, he⟩ => ⟨fun hk => ?_, fun hk => ?_⟩
    · refine Ev.mono (he (ek ▸ hk)) fun y G4 e4 hy => ⟨(e.trans e3).trans e4, ?_⟩
      rw [take_flt c f hz, if_pos (ek ▸ hk)]
      exact dpa_snoc (Dpam iv.2 (e3.trans e4)) hy
    · refine ⟨e.trans e3, ?_⟩
      rw [take_flt c f hz, if_neg (by rw [← ek, hk]; decide), List.append_nil]
      exact Dpam iv.2 e3
  · refine hd _ _ (e.trans (same_new hp)) (dp_newL ?_ hp)
    have z := iv.2
    have hl : (l1.zip l2).length = min xs.length ys.length := by rw [List.length_zip, lx, ly]
    rw [← hl, List.take_length] at z
    exact z
/-- the three kinds of zip -/
theorem lcZA {α β : Type} {i1 i2 : Nat} {ta : TA} (enc1 : α → PyData) (enc2 : β → PyData) (l1 : List α) (l2 : List β) (c : α × β → Bool) (f : α × β → PyData) (hl : l1.length ≤ 100000) (hw : ∀ z u, wipe (((wipe σ vs).set i1 (some z)).set i2 (some u)) vs = wipe σ vs)
    (h : Ev b ta σ G fun vs1 G1 => ∃ v1 v2, vs1 = [v1, v2] ∧ ((Dp K G1 v1 (.list (l1.map enc1)) ∧ Dp K G1 v2 (.list (l2.map enc2))) ∨ (Dp K G1 v1 (.tuple (l1.map enc1)) ∧ Dp K G1 v2 (.tuple (l2.map enc2)))) ∧
    (∀ x y G2 d e, (d, e) ∈ l1.zip l2 → Same G1 G2 → Dp K G2 x (enc1 d) → Dp K G2 y (enc2 e) → Ev b tt (((wipe σ vs).set i1 (some x)).set i2 (some y)) G2 fun k G3 => k = c (d, e) ∧ (c (d, e) = true → Ev b te (((wipe σ vs).set i1 (some x)).set i2 (some y)) G3 fun y G4 => Dp K G4 y (f (d, e)))) ∧
    ∀ v G2, Same G1 G2 → Dp K G2 v (.list (((l1.zip l2).filter c).map f)) → P v G2) : Ev b (tLc (RZ.iZipA K ta) (gTwo K i1 i2) tt te vs) σ G P :=
  fun H w Q k => h H w _ fun x G1 H1 e1 w1 ⟨v1, v2, ex, hq, hs, hd⟩ => by
    rcases hq with ⟨h1, h2⟩ | ⟨h1, h2⟩
    · obtain ⟨a, xs, rfl, qa, da⟩ := dp_lst h1
      obtain ⟨a2, ys, rfl, qb, db⟩ := dp_lst h2
      exact ⟨a, a2, xs, ys, ex, .inl ⟨sql_mono w1.same qa, sql_mono w1.same qb, fun Dl hD => lc_zipD (P := P) enc1 enc2 l1 l2 c f (walk_zip rfl) hl w1 e1 hD (fun H e => ⟨sql_mono e qa, sql_mono e qb⟩) da db hw hs hd k⟩⟩
    · obtain ⟨a, xs, rfl, qa, da⟩ := dp_tup h1
      obtain ⟨a2, ys, rfl, qb, db⟩ := dp_tup h2
      exact ⟨a, a2, xs, ys, ex, .inr ⟨sqt_mono w1.same qa, sqt_mono w1.same qb, fun Dl hD => lc_zipD (P := P) enc1 enc2 l1 l2 c f walk_zipT hl w1 e1 hD (fun H e => ⟨sqt_mono e qa, sqt_mono e qb⟩) da db hw hs hd k⟩⟩
theorem lcZM {α β : Type} {i1 i2 : Nat} {ta : TA} (enc1 : α → PyData) (enc2 : β → PyData) (l1 : List α) (l2 : List β) (c : α × β → Bool) (f : α × β → PyData) (hl : l1.length ≤ 100000) (hw : ∀ z u, wipe (((wipe σ vs).set i1 (some z)).set i2 (some u)) vs = wipe σ vs)
    (h : Ev b ta σ G fun vs1 G1 => ∃ v1 v2, vs1 = [v1, v2] ∧ Dp K G1 v1 (.tuple (l1.map enc1)) ∧ Dp K G1 v2 (.list (l2.map enc2)) ∧
    (∀ x y G2 d e, (d, e) ∈ l1.zip l2 → Same G1 G2 → Dp K G2 x (enc1 d) → Dp K G2 y (enc2 e) → Ev b tt (((wipe σ vs).set i1 (some x)).set i2 (some y)) G2 fun k G3 => k = c (d, e) ∧ (c (d, e) = true → Ev b te (((wipe σ vs).set i1 (some x)).set i2 (some y)) G3 fun y G4 => Dp K G4 y (f (d, e)))) ∧
    ∀ v G2, Same G1 G2 → Dp K G2 v (.list (((l1.zip l2).filter c).map f)) → P v G2) : Ev b (tLc (iZipM K ta) (gTwo K i1 i2) tt te vs) σ G P :=
  fun H w Q k => h H w _ fun x G1 H1 e1 w1 ⟨v1, v2, ex, h1, h2, hs, hd⟩ => by
    obtain ⟨a, xs, rfl, qa, da⟩ := dp_tup h1
    obtain ⟨a2, ys, rfl, qb, db⟩ := dp_lst h2
    exact ⟨a, a2, xs, ys, ex, sqt_mono w1.same qa, sql_mono w1.same qb, fun Dl hD => lc_zipD (P := P) enc1 enc2 l1 l2 c f walk_zipM hl w1 e1 hD (fun H e => ⟨sqt_mono e qa, sql_mono e qb⟩) da db hw hs hd k⟩
/-- data of either kind -/
def DpE (K : PySem.W.Frag) (G : Hp) (v : V) (ds : List PyData) : Prop := Dp K G v (.list ds) ∨ Dp K G v (.tuple ds)
theorem dpe_mono {G G' : Hp} {v : V} {ds : List PyData} (e : Same G G') (h : DpE K G v ds) : DpE K G' v ds := h.elim (fun q => .inl (Dpm q e)) fun q => .inr (Dpm q e)
theorem dpe_at {v : V} {ds : List PyData} (h : DpE K G v ds) : ∃ a xs, v = .ref a ∧ SqE K G a xs ∧ DpAll K G xs ds := by
  rcases h with h | h
  · obtain ⟨a, xs, e, q, d⟩ := dp_lst h
    exact ⟨a, xs, e, .inl q, d⟩
  · obtain ⟨a, xs, e, q, d⟩ := dp_tup h
    exact ⟨a, xs, e, .inr q, d⟩
theorem dpe_strs {v : V} {l : List Str} (h : DpE K G v (l.map .str)) : ∃ a, v = .ref a ∧ SqE K G a (l.map V.str) := by
  obtain ⟨a, xs, e, q, d⟩ := dpe_at h
  rw [dpa_strs_inv d] at q
  exact ⟨a, e, q⟩
theorem lcSA {g : TG} (h : Ev b tl σ G fun x G1 => ∃ a xs, x = .ref a ∧ SqE K G1 a xs ∧ xs.length ≤ 100000 ∧ ∃ Iv : Nat → List V → Hp → Prop, Iv 0 [] G1 ∧
    (∀ i x G2 acc, xs[i]? = some x → Same G1 G2 → Iv i acc G2 → acc.length ≤ i → ∃ σ3, (∀ H, Same G2 H → Gv g x (wipe σ vs) H σ3) ∧ wipe σ3 vs = wipe σ vs ∧ Ev b tt σ3 G2 fun c G3 => (c = true → Ev b te σ3 G3 fun y G4 => Iv (i + 1) (acc ++ [y]) G4) ∧ (c = false → Iv (i + 1) acc G3)) ∧
    ∀ acc G2, Same G1 G2 → Iv xs.length acc G2 → acc.length ≤ xs.length → ∀ q, G2 q = none → P (.ref q) (upd G2 q (.lst acc))) : Ev b (tLc (iSeqA K tl) g tt te vs) σ G P :=
  fun H w Q k => h H w _ fun x G1 H1 e1 w1 ⟨a, xs, ex, q, hl, Iv, h0, hs, hd⟩ => by
    have st : ∀ i x G2 H2 H' acc, i < xs.length → Same G1 G2 → Wd b G2 H2 → Iv i acc G2 → acc.length ≤ i → YAt xs i H2 x H' → ∃ σ3 G3, Stp (Bg b) G2 H2 G3 H' ∧ Wd b G3 H' ∧ Gv g x (wipe σ vs) H' σ3 ∧ wipe σ3 vs = wipe σ vs ∧
        Ev b tt σ3 G3 fun c G4 => (c = true → Ev b te σ3 G4 fun y G5 => Iv (i + 1) (acc ++ [y]) G5) ∧ (c = false → Iv (i + 1) acc G4) := fun i x G2 H2 H' acc hi e w2 iv hacc y => by
      obtain ⟨rfl, y⟩ := y
      obtain ⟨σ3, gv, hw, hv⟩ := hs i x G2 acc y e iv hacc
      exact ⟨σ3, G2, Stp.refl w2.same, w2, gv _ w2.same, hw, hv⟩
    rcases q with q | q
    · exact ⟨a, ex, .inl ⟨⟨xs, sql_mono w1.same q⟩, fun Dl hD => lc_walk (P := P) walk_list hl w1 e1 hD (fun H e => sql_mono e q) Iv h0 st hd k⟩⟩
    · exact ⟨a, ex, .inr ⟨⟨xs, sqt_mono w1.same q⟩, fun Dl hD => lc_walk (P := P) walk_tup hl w1 e1 hD (fun H e => sqt_mono e q) Iv h0 st hd k⟩⟩
theorem lcSa {α : Type} {g : TG} (enc : α → PyData) (l : List α) (c : α → Bool) (f : α → PyData) (hl : l.length ≤ 100000) (h : Ev b tl σ G fun x G1 => DpE K G1 x (l.map enc) ∧
    (∀ x G2 d, d ∈ l → Same G1 G2 → Dp K G2 x (enc d) → ∃ σ3, (∀ H, Same G2 H → Gv g x (wipe σ vs) H σ3) ∧ wipe σ3 vs = wipe σ vs ∧ Ev b tt σ3 G2 fun k G3 => k = c d ∧ (c d = true → Ev b te σ3 G3 fun y G4 => Dp K G4 y (f d))) ∧
    ∀ v G2, Same G1 G2 → Dp K G2 v (.list ((l.filter c).map f)) → P v G2) : Ev b (tLc (iSeqA K tl) g tt te vs) σ G P := by
  refine lcSA (Ev.mono h fun x G1 _ ⟨hx, hs, hd⟩ => ?_)
  obtain ⟨a, xs, ex, q, ha⟩ := dpe_at hx
  have hlen := dpa_len ha
  rw [List.length_map] at hlen
  refine ⟨a, xs, ex, q, by omega, fun i acc G => Same G1 G ∧ DpAll K G acc (((l.take i).filter c).map f), ⟨Same.refl _, .nil⟩, fun i x G2 acc hi e iv _ => ?_, fun acc G2 e iv _ p hp => ?_⟩
  · obtain ⟨d0, hd1, hd2⟩ := dpa_get (Dpam ha e) hi
    rw [List.getElem?_map] at hd1
    obtain ⟨d, hd3, rfl⟩ := Option.map_eq_some_iff.mp hd1
    obtain ⟨σ3, gv, hw, hv⟩ := hs x G2 d (List.mem_of_getElem? hd3) e hd2
    refine ⟨σ3, gv, hw, Ev.mono hv fun k G3 e3 ⟨ek, he⟩ => ⟨fun hk => ?_, fun hk => ?_⟩⟩
    · refine Ev.mono (he (ek ▸ hk)) fun y G4 e4 hy => ⟨(e.trans e3).trans e4, ?_⟩
      rw [take_flt c f hd3, if_pos (ek ▸ hk)]
      exact dpa_snoc (Dpam iv.2 (e3.trans e4)) hy
    · refine ⟨e.trans e3, ?_⟩
      rw [take_flt c f hd3, if_neg (by rw [← ek, hk]; decide), List.append_nil]
      exact Dpam iv.2 e3
  · refine hd _ _ (e.trans (same_new hp)) (dp_newL ?_ hp)
    have z := iv.2
    rw [hlen, List.take_length] at z
    exact z
/-- loops over pairs, over either kind -/
theorem s_forEA {D : Ends} {tb : TS} {i1 i2 : Nat} {ta : TA} (w : Wd b G H) (h : Ev b ta σ G fun vs G1 => ∃ a xs, vs = [.ref a] ∧ SqE K G1 a xs ∧ ∃ Pv : Nat → L2.St → Hp → Hp → Prop, ForW b G1 xs.length D Pv ∧ (∀ H1, Stp (Bg b) G H G1 H1 → Wd b G1 H1 → Pv 0 σ G1 H1) ∧
    ∀ i x σ G2 H2 t, xs[i]? = some x → Pv i σ G2 H2 → H2 t = none → tb { D with nx := nxP Pv (i + 1), ct := nxP Pv (i + 1), bk := D.nx } ((σ.set i1 (some (.int (i : Nat)))).set i2 (some x)) (upd H2 t (.tup [.int (i : Nat), x]))) : tFor (iEnumA K ta) (gTwo K i1 i2) tb D σ H :=
  h H w _ fun vs G1 H1 e1 w1 ⟨a, xs, ev, q, Pv, F, h0, hs⟩ => ⟨a, xs, ev, by
    have st : ∀ (i : Nat) (x : V) (σ : L2.St) (G2 H2 H' : Hp), i < xs.length → Pv i σ G2 H2 → YPair (fun i => some (.int (i : Nat))) (fun i => xs[i]?) i H2 x H' → gTwo K i1 i2 x σ H' fun σ3 H3 => tb { D with nx := nxP Pv (i + 1), ct := nxP Pv (i + 1), bk := D.nx } σ3 H3 := fun i x σ G2 H2 H' hi p y => by
      obtain ⟨t, x1, x2, rfl, ht, rfl, hx1, hx2⟩ := y
      cases hx1
      exact ⟨t, _, rfl, SqT.of upd_same, rfl, _, _, rfl, _, _, rfl, rfl, hs i x2 σ G2 H2 t hx2 p ht⟩
    rcases q with q | q
    · exact .inl ⟨sql_mono w1.same q, for_walk walk_enum Pv F (fun H e => sql_mono e q) (h0 H1 e1 w1) st⟩
    · exact .inr ⟨sqt_mono w1.same q, for_walk walk_enumT Pv F (fun H e => sqt_mono e q) (h0 H1 e1 w1) st⟩⟩
theorem s_forS {D : Ends} {tb : TS} {g : TG} (w : Wd b G H) (h : Ev b tl σ G fun x G1 => ∃ a xs, x = .ref a ∧ SqE K G1 a xs ∧ ∃ Pv : Nat → L2.St → Hp → Hp → Prop, ForW b G1 xs.length D Pv ∧ (∀ H1, Stp (Bg b) G H G1 H1 → Wd b G1 H1 → Pv 0 σ G1 H1) ∧
    ∀ i x σ G2 H2, xs[i]? = some x → Pv i σ G2 H2 → g x σ H2 fun σ3 H3 => tb { D with nx := nxP Pv (i + 1), ct := nxP Pv (i + 1), bk := D.nx } σ3 H3) : tFor (iSeqA K tl) g tb D σ H :=
  h H w _ fun x G1 H1 e1 w1 ⟨a, xs, ex, q, Pv, F, h0, hs⟩ => ⟨a, ex, by
    have st : ∀ (i : Nat) (x : V) (σ : L2.St) (G2 H2 H' : Hp), i < xs.length → Pv i σ G2 H2 → YAt xs i H2 x H' → g x σ H' fun σ3 H3 => tb { D with nx := nxP Pv (i + 1), ct := nxP Pv (i + 1), bk := D.nx } σ3 H3 := fun i x σ G2 H2 H' hi p y => by
      obtain ⟨rfl, y⟩ := y
      exact hs i x σ G2 H' y p
    rcases q with q | q
    · exact .inl ⟨⟨xs, sql_mono w1.same q⟩, for_walk walk_list Pv F (fun H e => sql_mono e q) (h0 H1 e1 w1) st⟩
    · exact .inr ⟨⟨xs, sqt_mono w1.same q⟩, for_walk walk_tup Pv F (fun H e => sqt_mono e q) (h0 H1 e1 w1) st⟩⟩
/-- a pair taken apart in a loop -/
theorem gw_two {i1 i2 : Nat} {x : V} {d1 d2 : PyData} {Q : L2.St → Hp → Prop} (h : Dp K G x (.tuple [d1, d2])) (e : Same G H) (q : ∀ v1 v2, Dp K G v1 d1 → Dp K G v2 d2 → Q ((σ.set i1 (some v1)).set i2 (some v2)) H) : gTwo K i1 i2 x σ H Q := by
  obtain ⟨a, xs, rfl, hq, h⟩ := dp_tup h
  cases h with
  | @cons v1 r1 _ _ h1 h2 => cases h2 with
    | @cons v2 r2 _ _ h2 h3 =>
      cases h3
      exact ⟨a, [v1, v2], rfl, sqt_mono e hq, rfl, v1, [v2], rfl, v2, [], rfl, rfl, q v1 v2 h1 h2⟩
end
end FD
namespace FD
open PySem PyProof.Rows L2
def DefP (P : Program) (w : World) (K : PySem.W.Frag) (mg : Str → Option Value) (base : Heap) (CX : CXT) (k : Nat) (C : Addr) (m : Str) (ps : List Str) (sp : Sp) : Prop :=
  ∃ (p g : Addr) (fd : FuncData), FnOk P w K mg base CX k g fd ps sp ∧ PropOf K C m p g ∧ L2.Binds K fd ps []
section
variable {X : Cx} {CX : CXT} {k : Nat} {C : Addr} {x m : Str} {ps : List Str} {sp : Sp} {E : XK} {e : Expr} {ta : TE} {pos : Pos}
theorem pe_dp (D : DefP X.prog X.w X.K X.mg X.base CX k C m ps sp) (c : Cls X.K C) (he : PE X e ta) (hr : Room (k + 1) X.A) (hx : Passes CX X.nox E) (hab : attributeBase e m X.env (eval e X.env) = eval e X.env := by rfl) : PE X (.Attribute e m pos) (tProp C sp [] E ta) := by
  obtain ⟨p, g, fd, F, hp, hb⟩ := D
  exact pe_prop he c hp F hr hb .nil hx hab
end
section
variable {P : Program} {w : World} {K : PySem.W.Frag} {mg : Str → Option Value} {base : Heap} {CX : CXT} {k : Nat} {f : Addr} {fd : FuncData} {ps : List Str} {sp : Sp}
theorem defC_raw (F : FnOk P w K mg base CX k f fd ps sp) (hb : L2.Binds K fd ps []) : FnR P w K mg base CX k f sp := by
  have h := F.raw hb .nil
  intro A outer s H us vs Q E hr e0 r hs
  refine h A outer s H us vs Q E hr e0 r ?_
  show sp (vs ++ []) H Q E
  rw [List.append_nil]
  exact hs
theorem binds_dfl {x qual : Str} {params : Arguments} {body : List Stmt} {scope : Scope} {dvs : List V} (F : FunD K x qual params body scope dvs [] f fd) (hd : dvs.length = 2) (n : Nat) (hn : n = ps.length)
    (h : ∀ (T : Addr) (kV doc pm : Value) (an : Option Addr) (cdv ct : Value) (us its : List Value), us.length = n → its.length = 2 →
      ∃ k, bindArgs (PySem.W.fnOf x qual params body scope (.ref T) kV doc pm an cdv ct) ⟨us, []⟩ = seqItems? (.ref T) >>= k ∧ k (some its.toArray) = pure (ps.zip us)) : L2.Binds K fd ps [] := by
  obtain ⟨ds, hv, hb⟩ := F.binds1 (ps := ps) n 2 (fun z => by rw [z] at hd; cases hd) (by omega) (fun T kV doc pm an cdv ct us its h1 h2 => by
    obtain ⟨k, q1, q2⟩ := h T kV doc pm an cdv ct us its h1 (h2.trans hd)
    refine ⟨k, q1, ?_⟩
    have e : its.drop 2 = [] := List.drop_eq_nil_of_le (by omega)
    rw [e, List.append_nil]
    exact q2)
  have e : dvs.drop 2 = [] := List.drop_eq_nil_of_le (by omega)
  rw [e] at hv
  cases hv
  exact hb
/-- an __init__ that takes a row of records behind: rest its star tuple's items -/
def SpIS (C : Addr) (pre : List V → Hp → (V → Hp → Prop) → Prop) : Sp := fun vs H Q _ => ∃ x r rest dx H0 G P, vs = .ref x :: r :: rest ∧ rest.length ≤ 1000 ∧ H = upd (upd H0 dx (.own x)) x (.ins C dx []) ∧ H0 x = none ∧ H0 dx = none ∧ dx ≠ x ∧ Same G H0 ∧ pre (r :: rest) G P ∧
  ∀ G' H', Stp (Bg none) G H0 G' H' → P (.ref x) G' → Q .non H'
theorem ev_makeS {b : Option (Addr × Addr)} {σ : L2.St} {G : Hp} {C : Addr} {pre : List V → Hp → (V → Hp → Prop) → Prop} {P : V → Hp → Prop} {E : XK} {ta : TA} (h : Ev b ta σ G fun vs G1 => ∃ r rest, vs = r :: rest ∧ rest.length ≤ 1000 ∧ pre (r :: rest) G1 P) : Ev b (StX.tMakeR C (SpIS C pre) E ta) σ G P :=
  fun H w Q k => h H w _ fun vs G1 H1 e1 w1 ⟨r, rest, ev, hn, hp⟩ x dx nx ndx ne => by
    subst ev
    exact ⟨x, r, rest, dx, H1, G1, P, rfl, hn, rfl, nx, ndx, ne, w1.same, hp, fun G2 H2 e2 p => ⟨rfl, k _ G2 H2 (e1.trans e2.up) (w1.back e2) p⟩⟩
theorem defC_star {C : Addr} {pre : List V → Hp → (V → Hp → Prop) → Prop} {x qual a pv : Str} {params : Arguments} {body : List Stmt} {scope : Scope} {N : List Str} (hb : ∀ (kV doc pm : Value) (an : Option Addr) (cdv ct : Value) (us rest : List Value), us.length = 2 → bindArgs (PySem.W.fnOf x qual params body scope .none kV doc pm an cdv ct) ⟨us ++ rest, []⟩ = (newTuple rest >>= fun t => pure ((["self", a] : List Str).zip us ++ [(pv, t)])))
    (F : FunD K x qual params body scope [] [] f fd) (S : FnScope N ["self", a, pv] scope)
    (hbody : ∀ (cdv : Value) (A : Around) (outer : List Env) (s : Shared) (H : Hp) (vs : List V) (Q : VK) (E : XK), Room k (A.deeper (envOfC qual scope s.heap.objs.size f cdv)) → (∃ x r rest dx H0 G P p, vs = [.ref x, r, .ref p] ∧ rest.length ≤ 1000 ∧ H = upd (upd (upd H0 dx (.own x)) x (.ins C dx [])) p (.tup rest) ∧ H0 x = none ∧ H0 dx = none ∧ dx ≠ x ∧ H0 p = none ∧ p ≠ x ∧ p ≠ dx ∧ Same G H0 ∧ pre (r :: rest) G P ∧
        ∀ G' H', Stp (Bg none) G H0 G' H' → P (.ref x) G' → Q .non H') →
      ∃ t, PSs (cxOf CX0 P w K mg base N qual scope f cdv A outer s H E) body t ∧ t { nx := fun _ H' => Q .non H', rt := Q } (start N vs) H) : FnR P w K mg base CX0 (k + 1) f (SpIS C pre) := by
  obtain ⟨oc, od, dV, kV, doc, pm, an, cdv, ct, osl, rfl, lk, hcd, hD, hK⟩ := F.ex
  rcases hD with ⟨_, rfl⟩ | ⟨e, _⟩
  · refine (StX.fn_star (ps := ["self", a]) (sp := fun vs H Q _ => ∃ x r rest dx H0 G P p, vs = [.ref x, r, .ref p] ∧ rest.length ≤ 1000 ∧ H = upd (upd (upd H0 dx (.own x)) x (.ins C dx [])) p (.tup rest) ∧ H0 x = none ∧ H0 dx = none ∧ dx ≠ x ∧ H0 p = none ∧ p ≠ x ∧ p ≠ dx ∧ Same G H0 ∧ pre (r :: rest) G P ∧
        ∀ G' H', Stp (Bg none) G H0 G' H' → P (.ref x) G' → Q .non H') lk hcd S StX.cxUp_none (fun us rest hl => hb kV doc pm an cdv ct us rest hl) (fun A outer s H vs Q E hr hs => hbody cdv A outer s H vs Q E hr hs)).imp ?_
    intro vs H Q E ⟨x, r, rest, dx, H0, G, P, e, hr, eH, nx, ndx, ne, sm, hp, kq⟩
    refine ⟨[.ref x, r], rest, e, rfl, sz_of (by omega), fun p hp0 => ⟨x, r, rest, dx, H0, G, P, p, rfl, hr, by rw [eH], nx, ndx, ne, ?_, ?_, ?_, sm, hp, kq⟩⟩
    · rw [eH] at hp0
      by_cases z : p = x
      · rw [z]; exact nx
      · rw [upd_ne z] at hp0
        by_cases z2 : p = dx
        · rw [z2]; exact ndx
        · rw [upd_ne z2] at hp0
          exact hp0
    · intro z
      rw [eH, z, upd_same] at hp0
      cases hp0
    · intro z
      rw [eH, z, upd_ne ne, upd_same] at hp0
      cases hp0
  · exact absurd rfl e
/-- where such an __init__ begins: the instance is its own, the row of records is known -/
theorem inits_at {G H0 : Hp} {x dx p : Addr} {rest : List V} {C : Addr} (sm : Same G H0) (nx : H0 x = none) (ndx : H0 dx = none) (ne : dx ≠ x) (np : H0 p = none) (px : p ≠ x) (pd : p ≠ dx) :
    Stp (Bg none) G H0 (upd G p (.tup rest)) (upd (upd (upd H0 dx (.own x)) x (.ins C dx [])) p (.tup rest)) ∧ upd G p (HO.tup rest) x = none := by
  refine ⟨((((Stp.refl sm).newP ndx).newP (by rw [upd_ne (Ne.symm ne)]; exact nx)).new (by rw [upd_ne px, upd_ne pd]; exact np)), ?_⟩
  rw [upd_ne (Ne.symm px)]
  exact sm.free nx
theorem ev_prop {b : Option (Addr × Addr)} {σ : L2.St} {G : Hp} {C : Addr} {pre : List V → Hp → (V → Hp → Prop) → Prop} {P : V → Hp → Prop} {E : XK} {te : TE} (h : Ev b te σ G fun x G1 => ∃ a dx fs, x = .ref a ∧ G1 a = some (.ins C dx fs) ∧ pre [x] G1 P) : Ev b (tProp C (SpP 1 pre) [] E te) σ G P :=
  fun H w Q k => h H w _ fun x G1 H1 e1 w1 ⟨a, dx, fs, ex, hi, hp⟩ => by
    subst ex
    exact ⟨a, dx, fs, rfl, w1.same _ _ hi, rfl, G1, P, w1.same, hp, fun v G3 H3 e3 p => k v G3 H3 (e1.trans e3.up) (w1.back e3) p⟩
/-- the type of a datum's value -/
def tyD : PyData → String
  | .none => "NoneType"
  | .bool _ => "bool"
  | .int _ => "int"
  | .str _ => "str"
  | .list _ => "list"
  | .tuple _ => "tuple"
  | .dict _ => "dict"
theorem tyx_sql {K : PySem.W.Frag} {H : Hp} {a : Addr} {xs : List V} (h : SqL K H a xs) : TyX K H (.ref a) (.type "list") := by
  rcases h with (h | ⟨o, h⟩) | ⟨o, its, n, h, hc, _⟩
  · exact .base (.lst h)
  · exact .base (.frz h)
  · exact .kList h hc
theorem tyx_sqt {K : PySem.W.Frag} {H : Hp} {a : Addr} {xs : List V} (h : SqT K H a xs) : TyX K H (.ref a) (.type "tuple") := by
  rcases h with (h | ⟨o, h⟩) | ⟨o, its, n, h, hc, _⟩
  · exact .base (.tup h)
  · exact .fTuple h
  · exact .kTuple h hc
theorem dp_ty {K : PySem.W.Frag} {H : Hp} {v : V} {d : PyData} (h : Dp K H v d) : TyX K H v (.type (tyD d)) := by
  cases h with
  | non => exact .base .non
  | bl b => exact .base (.bl b)
  | int i => exact .base (.int i)
  | str x => exact .base (.str x)
  | lst q _ => exact tyx_sql q
  | tup q _ => exact tyx_sqt q
/-- isinstance of a datum's value -/
theorem rv_isi {b : Option (Addr × Addr)} {G : Hp} {K : PySem.W.Frag} {P : V → Hp → Prop} {v : V} {d : PyData} {T : String} {r : Bool} (h : Dp K G v d) (hk : kitB (tyD d) T = some r) (p : P (.bl r) G) : Rv b (rIsi K [v, .ty T]) G P :=
  Rv.here (fun H e Q q => ⟨v, .ty T, _, .type T, r, rfl, .ty T, dp_ty (Dpm h e), kit_ty hk, q⟩) p
theorem rv_isi2 {b : Option (Addr × Addr)} {G : Hp} {K : PySem.W.Frag} {P : V → Hp → Prop} {v : V} {ds : List PyData} {t : Addr} (h : DpE K G v ds) (ht : G t = some (.tup [.ty "list", .ty "tuple"])) (p : P (.bl true) G) : Rv b (rIsiT K [v, .ref t]) G P := by
  refine Rv.here (fun H e Q q => ?_) p
  have hc : Paired ClsV [V.ty "list", V.ty "tuple"] [Value.type "list", Value.type "tuple"] := .cons (.ty _) (.cons (.ty _) .nil)
  rcases h with h | h
  · exact ⟨v, t, _, _, _, true, rfl, e _ _ ht, hc, dp_ty (Dpm h e), kitAny_cons (b := true) (kit_ty (show kitB "list" "list" = some true by decide +kernel)) (fun z => nomatch z) (fun _ => rfl), q⟩
  · exact ⟨v, t, _, _, _, true, rfl, e _ _ ht, hc, dp_ty (Dpm h e), kitAny_cons (b := false) (kit_ty (show kitB "tuple" "list" = some false by decide +kernel)) (fun _ => kitAny_cons (b := true) (kit_ty (show kitB "tuple" "tuple" = some true by decide +kernel)) (fun z => nomatch z) (fun _ => rfl)) (fun z => nomatch z), q⟩
end
end FD
namespace FD
open PySem PyProof.Rows L2
/-! ### more rules of the calculus -/
theorem blk_te {X : Cx} {e : Expr} {t t' : TE} (h : PE X e t') (q : t' = t) : PE X e t := q ▸ h
theorem blk_tt {X : Cx} {e : Expr} {t t' : TT} (h : PT X e t') (q : t' = t) : PT X e t := q ▸ h
section
variable {b : Option (Addr × Addr)} {σ : L2.St} {G H : Hp} {K : PySem.W.Frag} {P : V → Hp → Prop} {D : Ends} {tb : TS} {te : TE} {mg : Str → Option Value}
/-- reversed(range(n)) -/
theorem s_forRR {g : TG} (w : Wd b G H) (h : Ev b te σ G fun x G1 => ∃ n : Nat, x = .int n ∧ n ≤ 1000000 ∧ ∃ Pv : Nat → L2.St → Hp → Hp → Prop, ForW b G1 n D Pv ∧ (∀ H1, Stp (Bg b) G H G1 H1 → Wd b G1 H1 → Pv 0 σ G1 H1) ∧
    ∀ i σ G2 H2, i < n → Pv i σ G2 H2 → g (.int ((n - 1 - i : Nat) : Int)) σ H2 fun σ3 H3 => tb { D with nx := nxP Pv (i + 1), ct := nxP Pv (i + 1), bk := D.nx } σ3 H3) : tFor (iRevR (tRg1 te)) g tb D σ H :=
  h H w _ fun x G1 H1 e1 w1 ⟨n, ex, hn, Pv, F, h0, hs⟩ => ⟨n, ex, by omega, by omega, by omega, by omega, by
    have e0 : ((n : Int) - 0).toNat = n := by omega
    rw [e0]
    exact for_walk (n := n) walk_rangeC Pv F (fun _ _ => trivial) (h0 H1 e1 w1) fun i x σ G2 H2 H' hi p y => by
      obtain ⟨rfl, rfl⟩ := y
      have e1 : (0 : Int) + (n : Int) - 1 + (i : Int) * (-1) = ((n - 1 - i : Nat) : Int) := by omega
      show g (.int ((0 : Int) + (n : Int) - 1 + (i : Int) * (-1))) σ H' _
      rw [e1]
      exact hs i σ G2 H' hi p⟩
/-- while: Pv by a measure -/
theorem s_while {t : TT} (Pv : Nat → L2.St → Hp → Hp → Prop) (m0 : Nat) (h0 : Pv m0 σ G H)
    (hs : ∀ m σ G2 H2, Pv m σ G2 H2 → Wd b G2 H2 ∧ Ev b t σ G2 fun c G3 => ∀ H3, Stp (Bg b) G2 H2 G3 H3 → Wd b G3 H3 → (c = true → tb { D with nx := fun σ' H' => ∃ m', m' < m ∧ ∃ G', Pv m' σ' G' H', ct := fun σ' H' => ∃ m', m' < m ∧ ∃ G', Pv m' σ' G' H', bk := D.nx } σ H3) ∧ (c = false → D.nx σ H3)) : tWhile t tb D σ H :=
  ⟨fun m σ H => ∃ G, Pv m σ G H, ⟨m0, G, h0⟩, fun m σ H ⟨G2, p⟩ => (hs m σ G2 H p).2 H (hs m σ G2 H p).1 _ fun c G3 H3 e3 w3 q => by
    cases c with
    | true => exact iteT ⟨_, fun σ' H' ⟨m', hm, G', p'⟩ => ⟨m', hm, G', p'⟩, (q H3 e3 w3).1 rfl⟩
    | false => exact iteF ((q H3 e3 w3).2 rfl)⟩
/-- a new list, not known: it will change -/
theorem s_newL {i : Nat} (h : ∀ p, H p = none → D.nx (σ.set i (some (.ref p))) (upd H p (.lst []))) : tAsg (tLst tNil) (gName i) D σ H := ⟨sz_of (by decide), fun p hp => h p hp⟩
/-- xs.append(e), xs an own list -/
theorem s_app {i : Nat} {a : Addr} {xs : List V} {ta : TE} (w : Wd b G H) (hi : σ[i]? = some (some (.ref a))) (hx : H a = some (.lst xs)) (hb : ¬ Bg b a) (hl : xs.length ≤ 900000)
    (h : Ev b ta σ G fun y G1 => ∀ H1, Stp (Bg b) G H G1 H1 → Wd b G1 H1 → H1 a = some (.lst xs) → D.nx σ (upd H1 a (.lst (xs ++ [y])))) : tDrop (tBM K "list" rAppend (tVar i) (tCons ta tNil)) D σ H :=
  ⟨_, hi, .inl ⟨rfl, xs, SqL.of hx⟩, h H w _ fun y G1 H1 e1 w1 q => ⟨a, xs, y, rfl, rfl, e1.hh _ _ hx hb, sz_lt (by omega), q H1 e1 w1 (e1.hh _ _ hx hb)⟩⟩
/-- xs[j] = e, xs an own list -/
theorem s_setI {i j k : Nat} {a : Addr} {xs : List V} (w : Wd b G H) (hi : σ[i]? = some (some (.ref a))) (hj : σ[j]? = some (some (.int (k : Nat)))) (hx : H a = some (.lst xs)) (hb : ¬ Bg b a) (hk : k < xs.length)
    (h : Ev b te σ G fun y G1 => ∀ H1, Stp (Bg b) G H G1 H1 → Wd b G1 H1 → H1 a = some (.lst xs) → D.nx σ (upd H1 a (.lst (xs.set k y)))) : tAsg te (gSub (tVar i) (tVar j) rSetL) D σ H :=
  h H w _ fun y G1 H1 e1 w1 q => ⟨_, hi, _, hj, a, xs, _, k, rfl, rfl, e1.hh _ _ hx hb, by unfold ixN; rw [if_pos (Int.natCast_nonneg k), if_pos (by omega), Int.toNat_natCast], q H1 e1 w1 (e1.hh _ _ hx hb)⟩
theorem ev_pro {T : Mo K mg} (h : Ev b te σ G fun x G1 => ∃ r, RowIs K G1 x r ∧ ∀ v, Dp K G1 v (.tuple (r.1.map .str)) → P v G1) : Ev b (tFld K te "pro") σ G P :=
  ev_fld (Ev.mono h fun x G1 _ ⟨r, ⟨a, dx, tp, tc, tn, nm, e1, e2, e3, e4, e5, e6⟩, k⟩ => ⟨a, _, dx, _, _, e1, e2, T.cl_Row, T.na_Row_pro, rfl, k _ e3⟩)
theorem ev_con {T : Mo K mg} (h : Ev b te σ G fun x G1 => ∃ r, RowIs K G1 x r ∧ ∀ v, Dp K G1 v (.tuple (r.2.map .str)) → P v G1) : Ev b (tFld K te "con") σ G P :=
  ev_fld (Ev.mono h fun x G1 _ ⟨r, ⟨a, dx, tp, tc, tn, nm, e1, e2, e3, e4, e5, e6⟩, k⟩ => ⟨a, _, dx, _, _, e1, e2, T.cl_Row, T.na_Row_con, rfl, k _ e4⟩)
theorem ev_named {T : Mo K mg} (h : Ev b te σ G fun x G1 => ∃ r, RowIs K G1 x r ∧ ∀ v (nm : List Str), Dp K G1 v (.tuple (nm.map .str)) → nm.Perm (r.1 ++ r.2) → P v G1) : Ev b (tFld K te "named") σ G P :=
  ev_fld (Ev.mono h fun x G1 _ ⟨r, ⟨a, dx, tp, tc, tn, nm, e1, e2, e3, e4, e5, e6⟩, k⟩ => ⟨a, _, dx, _, _, e1, e2, T.cl_Row, T.na_Row_named, rfl, k _ _ e5 e6⟩)
theorem ev_reasons {T : Mo K mg} (h : Ev b te σ G fun x G1 => ∃ R rs, BookIs K G1 x R rs ∧ ∀ v, RsAt G1 v R → P v G1) : Ev b (tFld K te "reasons") σ G P :=
  ev_fld (Ev.mono h fun x G1 _ ⟨R, rs, ⟨a, dx, t, d, kvs, e1, e2, e3, e4, e5⟩, k⟩ => ⟨a, _, dx, _, _, e1, e2, T.cl_Book, T.na_Book_reasons, rfl, k _ e3⟩)
theorem ev_bymark {T : Mo K mg} (h : Ev b te σ G fun x G1 => ∃ R rs, BookIs K G1 x R rs ∧ ∀ d kvs, G1 d = some (.dK kvs) → Paired (RecIs K G1) kvs rs → P (.ref d) G1) : Ev b (tFld K te "by_mark") σ G P :=
  ev_fld (Ev.mono h fun x G1 _ ⟨R, rs, ⟨a, dx, t, d, kvs, e1, e2, e3, e4, e5⟩, k⟩ => ⟨a, _, dx, _, _, e1, e2, T.cl_Book, T.na_Book_by_mark, rfl, k _ _ e4 e5⟩)
theorem ev_sreasons {T : Mo K mg} (h : Ev b te σ G fun x G1 => ∃ R ls, SheetIs K G1 x R ls ∧ ∀ v, Dp K G1 v (.tuple (R.map .str)) → P v G1) : Ev b (tFld K te "reasons") σ G P :=
  ev_fld (Ev.mono h fun x G1 _ ⟨R, ls, ⟨a, dx, t, l, d, kvs, e1, e2, e3, e4, e5, e6⟩, k⟩ => ⟨a, _, dx, _, _, e1, e2, T.cl_Sheet, T.na_Sheet_reasons, rfl, k _ e3⟩)
theorem ev_snames {T : Mo K mg} (h : Ev b te σ G fun x G1 => ∃ R ls, SheetIs K G1 x R ls ∧ ∀ v, Dp K G1 v (.list (ls.map fun l => .str l.1)) → P v G1) : Ev b (tFld K te "_names") σ G P :=
  ev_fld (Ev.mono h fun x G1 _ ⟨R, ls, ⟨a, dx, t, l, d, kvs, e1, e2, e3, e4, e5, e6⟩, k⟩ => ⟨a, _, dx, _, _, e1, e2, T.cl_Sheet, T.na_Sheet__names, rfl, k _ e4⟩)
theorem ev_sscores {T : Mo K mg} (h : Ev b te σ G fun x G1 => ∃ R ls, SheetIs K G1 x R ls ∧ ∀ d kvs, G1 d = some (.dK kvs) → Paired (LineIs K G1) kvs ls → P (.ref d) G1) : Ev b (tFld K te "_scores") σ G P :=
  ev_fld (Ev.mono h fun x G1 _ ⟨R, ls, ⟨a, dx, t, l, d, kvs, e1, e2, e3, e4, e5, e6⟩, k⟩ => ⟨a, _, dx, _, _, e1, e2, T.cl_Sheet, T.na_Sheet__scores, rfl, k _ _ e5 e6⟩)
theorem ixN_nat {n i : Nat} (h : i < n) : ixN n (i : Int) = some i := by
  unfold ixN
  rw [if_pos (Int.natCast_nonneg i), if_pos (by omega), Int.toNat_natCast]
theorem atI_nat {α : Type} {xs : List α} {i : Nat} {v : α} (h : xs[i]? = some v) : atI xs (i : Int) = some v := by
  unfold atI
  rw [ixN_nat (List.getElem?_eq_some_iff.mp h).1]
  exact h
/-- reading xs[i] of a list, a tuple -/
theorem rv_ixL {a : Addr} {xs : List V} {i : Nat} {v : V} (h : SqL K G a xs) (hi : xs[i]? = some v) (p : P v G) : Rv b (rIxL K (.ref a) (.int (i : Nat))) G P :=
  Rv.here (fun H e Q q => ⟨a, xs, _, v, rfl, rfl, sql_mono e h, atI_nat hi, q⟩) p
theorem rv_ixT {a : Addr} {xs : List V} {i : Nat} {v : V} (h : SqT K G a xs) (hi : xs[i]? = some v) (p : P v G) : Rv b (rIxT K (.ref a) (.int (i : Nat))) G P :=
  Rv.here (fun H e Q q => ⟨a, xs, _, v, rfl, rfl, sqt_mono e h, atI_nat hi, q⟩) p
theorem rv_ixDL {v0 : V} {ds : List PyData} {i : Nat} {d : PyData} (h : Dp K G v0 (.list ds)) (hi : ds[i]? = some d) (p : ∀ v, Dp K G v d → P v G) : Rv b (rIxL K v0 (.int (i : Nat))) G P := by
  obtain ⟨a, xs, rfl, q, da⟩ := dp_lst h
  obtain ⟨v, h1, h2⟩ := dpa_at da hi
  exact rv_ixL q h1 (p v h2)
theorem rv_ixDT {v0 : V} {ds : List PyData} {i : Nat} {d : PyData} (h : Dp K G v0 (.tuple ds)) (hi : ds[i]? = some d) (p : ∀ v, Dp K G v d → P v G) : Rv b (rIxT K v0 (.int (i : Nat))) G P := by
  obtain ⟨a, xs, rfl, q, da⟩ := dp_tup h
  obtain ⟨v, h1, h2⟩ := dpa_at da hi
  exact rv_ixT q h1 (p v h2)
/-- len of data -/
abbrev rLenQ (K : PySem.W.Frag) : List V → Hp → VK → Prop := fun xs H Q => ∃ p ys, xs = [V.ref p] ∧ (SqL K H p ys ∨ SqT K H p ys) ∧ Q (V.int ys.length) H
theorem rv_lenE {v : V} {ds : List PyData} (h : DpE K G v ds) (p : P (.int (ds.length : Nat)) G) : Rv b (rLenQ K [v]) G P := by
  obtain ⟨a, xs, rfl, q, da⟩ := dpe_at h
  rw [← dpa_len da] at p
  exact Rv.here (fun H e Q k => ⟨a, xs, rfl, sqe_mono e q, k⟩) p
end
end FD
namespace FD
open PySem PyProof.Rows L2
/-! ### == and in on data of a type -/
section
variable {X : Cx}
def rEqW (K : PySem.W.Frag) : R2 := fun x y H Q => ∃ d e, Dp K H x d ∧ Dp K H y e ∧ d.plain = true ∧ e.plain = true ∧ d.depth ≤ 20 ∧ Q (.bl (PyData.eqv d e)) H
def rNeW (K : PySem.W.Frag) : R2 := fun x y H Q => ∃ d e, Dp K H x d ∧ Dp K H y e ∧ d.plain = true ∧ e.plain = true ∧ d.depth ≤ 20 ∧ Q (.bl (!PyData.eqv d e)) H
def rInW (K : PySem.W.Frag) : R2 := fun x y H Q => ∃ d ds, Dp K H x d ∧ DpE K H y ds ∧ d.plain = true ∧ PyData.plainAll ds = true ∧ d.depth ≤ 20 ∧ Q (.bl (ds.any fun z => PyData.eqv z d)) H
def rNinW (K : PySem.W.Frag) : R2 := fun x y H Q => ∃ d ds, Dp K H x d ∧ DpE K H y ds ∧ d.plain = true ∧ PyData.plainAll ds = true ∧ d.depth ≤ 20 ∧ Q (.bl (!ds.any fun z => PyData.eqv z d)) H
theorem op_eqW (hu : X.A.units + 64 < cLine) : OpR X (compareOp .Eq) (rEqW X.K) := by
  intro pins s σ H x y v u Q I rx ry h
  obtain ⟨d, e, hd, he, pd, pe, dd, q⟩ := h
  obtain ⟨as, r1⟩ := Dp.reads I d x v hd rx
  obtain ⟨bs, r2⟩ := Dp.reads I e y u he ry
  have := Nat.min_le_left d.depth e.depth
  exact SeqAt.eq_plain r1 r2 pd pe (by omega) ⟨.bl _, H, I, rfl, q⟩
theorem op_neW (hu : X.A.units + 64 < cLine) : OpR X (compareOp .NotEq) (rNeW X.K) := by
  intro pins s σ H x y v u Q I rx ry h
  obtain ⟨d, e, hd, he, pd, pe, dd, q⟩ := h
  obtain ⟨as, r1⟩ := Dp.reads I d x v hd rx
  obtain ⟨bs, r2⟩ := Dp.reads I e y u he ry
  have := Nat.min_le_left d.depth e.depth
  exact SeqAt.ne_plain r1 r2 pd pe (by omega) ⟨.bl _, H, I, rfl, q⟩
theorem op_inW (hu : X.A.units + 64 < cLine) : OpR X (compareOp .In) (rInW X.K) := by
  intro pins s σ H x y v u Q I rx ry h
  obtain ⟨d, ds, hd, he, pd, pe, dd, q⟩ := h
  obtain ⟨as, r1⟩ := Dp.reads I d x v hd rx
  have := Nat.min_le_right (PyData.depthAll ds) d.depth
  rcases he with he | he
  · obtain ⟨bs, r2⟩ := Dp.reads I _ y u he ry
    exact SeqAt.in_list_data r2 r1 pe pd (by omega) ⟨.bl _, H, I, rfl, q⟩
  · obtain ⟨bs, r2⟩ := Dp.reads I _ y u he ry
    exact SeqAt.in_tuple_data r2 r1 pe pd (by omega) ⟨.bl _, H, I, rfl, q⟩
theorem op_ninW (hu : X.A.units + 64 < cLine) : OpR X (compareOp .NotIn) (rNinW X.K) := by
  intro pins s σ H x y v u Q I rx ry h
  obtain ⟨d, ds, hd, he, pd, pe, dd, q⟩ := h
  obtain ⟨as, r1⟩ := Dp.reads I d x v hd rx
  have := Nat.min_le_right (PyData.depthAll ds) d.depth
  rcases he with he | he
  · obtain ⟨bs, r2⟩ := Dp.reads I _ y u he ry
    exact SeqAt.notIn_list_data r2 r1 pe pd (by omega) ⟨.bl _, H, I, rfl, q⟩
  · obtain ⟨bs, r2⟩ := Dp.reads I _ y u he ry
    exact SeqAt.notIn_tuple_data r2 r1 pe pd (by omega) ⟨.bl _, H, I, rfl, q⟩
end
section
open PySem.W
variable {b : Option (Addr × Addr)} {G : Hp} {K : PySem.W.Frag} {P : V → Hp → Prop} {α : Type} [DecidableEq α] [Datum α]
theorem rv_eqT {x y : V} (a c : α) (ha : Dp K G x (Datum.toD a)) (hc : Dp K G y (Datum.toD c)) (hd : Datum.depth α ≤ 20) (p : P (.bl (decide (a = c))) G) : Rv b (rEqW K x y) G P :=
  Rv.here (fun H e Q q => ⟨_, _, Dpm ha e, Dpm hc e, Datum.plain a, Datum.plain c, Nat.le_trans (Datum.depth_le a) hd, by rw [Datum.eqv]; exact q⟩) p
theorem rv_neT {x y : V} (a c : α) (ha : Dp K G x (Datum.toD a)) (hc : Dp K G y (Datum.toD c)) (hd : Datum.depth α ≤ 20) (p : P (.bl (!decide (a = c))) G) : Rv b (rNeW K x y) G P :=
  Rv.here (fun H e Q q => ⟨_, _, Dpm ha e, Dpm hc e, Datum.plain a, Datum.plain c, Nat.le_trans (Datum.depth_le a) hd, by rw [Datum.eqv]; exact q⟩) p
theorem rv_inT {x y : V} (a : α) (xs : List α) (ha : Dp K G x (Datum.toD a)) (hc : DpE K G y (xs.map Datum.toD)) (hd : Datum.depth α ≤ 20) (p : P (.bl (decide (a ∈ xs))) G) : Rv b (rInW K x y) G P :=
  Rv.here (fun H e Q q => ⟨_, _, Dpm ha e, dpe_mono e hc, Datum.plain a, plainAll_map xs, Nat.le_trans (Datum.depth_le a) hd, by rw [any_datum]; exact q⟩) p
theorem rv_ninT {x y : V} (a : α) (xs : List α) (ha : Dp K G x (Datum.toD a)) (hc : DpE K G y (xs.map Datum.toD)) (hd : Datum.depth α ≤ 20) (p : P (.bl (!decide (a ∈ xs))) G) : Rv b (rNinW K x y) G P :=
  Rv.here (fun H e Q q => ⟨_, _, Dpm ha e, dpe_mono e hc, Datum.plain a, plainAll_map xs, Nat.le_trans (Datum.depth_le a) hd, by rw [any_datum]; exact q⟩) p
end
section
variable {b : Option (Addr × Addr)} {σ : L2.St} {G : Hp} {K : PySem.W.Frag} {P : V → Hp → Prop} {te : TE}
/-- tuple(e) -/
theorem ev_tupOf (h : Ev b te σ G fun x G1 => ∃ ds, DpE K G1 x ds ∧ ∀ v G2, Same G1 G2 → Dp K G2 v (.tuple ds) → P v G2) : Ev b (tThen te (kTup K)) σ G P :=
  fun H w Q k => h H w _ fun x G1 H1 e1 w1 ⟨ds, hd, q⟩ => by
    rcases hd with hd | hd
    · obtain ⟨a, xs, rfl, hs, ha⟩ := dp_lst hd
      exact .inl ⟨a, xs, rfl, sql_mono w1.same hs, fun p hp => k _ _ _ (e1.new hp) (w1.new hp) (q _ _ (same_new (w1.same.free hp)) (dp_newT ha (w1.same.free hp)))⟩
    · obtain ⟨a, xs, rfl, hs, ha⟩ := dp_tup hd
      exact .inr ⟨a, xs, rfl, sqt_mono w1.same hs, k _ _ _ e1 w1 (q _ _ (Same.refl _) hd)⟩
end
end FD
namespace FD
open PySem PyProof.Rows
/-! ### len(set(xs)) of unlike texts, a list or a tuple -/
section
variable {prog : Program} {w : World} {A : Around} {E : Value → Shared → Prop} {s : Shared}
/-- the loop of set.update, over unlike texts: xs.take i are in -/
theorem set_loop {R : Result → Shared → Prop} {I S : Addr} {fp wr : List Addr} {St : Nat → Heap → Prop} {xs : List Str} (nd : xs.Nodup) (hz : xs.length ≤ 1000) (hSf : S ∉ fp)
    (W : Walks prog w A.in1 I fp wr xs.length (fun i v => ∃ t, v = .str (xs.getD i Str.empty) t) St) (h₀ : Heap) :
    ∀ (k i : Nat) (s : Shared), xs.length - i = k → i ≤ xs.length → St i s.heap → s.heap.SetOf (PySem.strKind prog w) S (fun k' => (xs.take i).any (· == k')) i → (∀ b o, b ∉ S :: wr → h₀.get? b = some o → s.heap.get? b = some o) →
      (∀ h' tk, h'.SetOf (PySem.strKind prog w) S (fun k' => xs.any (· == k')) xs.length → (∀ b o, b ∉ S :: wr → h₀.get? b = some o → h'.get? b = some o) → R (.ok (.ret .none)) { s with heap := h', toks := tk }) →
      codeAny (model prog w) A (.builtin "set.update.loop" ⟨[.ref S, .ref I], []⟩) R s := by
  have hSw : S ∉ wr := fun h => hSf (W.sub _ h)
  intro k
  induction k with
  | zero =>
    intro i s hk hi hst hS hfr hR
    obtain rfl : i = xs.length := by omega
    refine codeAny_builtin F.entry_set_update_loop ?_
    rw [Around.under_plainId F.plain_set_update_loop _]
    show wpAny _ A.in1 (pyNext (.ref I) >>= _) _ _ s
    refine wpAny_bind (W.done s _ _ hst fun h' tk hk => ?_)
    show wpAny _ A.in1 (ret Value.none) _ _ _
    rw [List.take_length] at hS
    refine wpAny_pure (hR h' tk ?_ fun b o hb e => hk b o (fun q => hb (List.mem_cons_of_mem _ q)) (hfr b o hb e))
    obtain ⟨o, es, ep, t, ho, rest⟩ := hS
    exact ⟨o, es, ep, t, hk S _ hSw ho, rest⟩
  | succ k ih =>
    intro i s hk hi hst hS hfr hR
    have hlt : i < xs.length := by omega
    refine codeAny_builtin F.entry_set_update_loop ?_
    rw [Around.under_plainId F.plain_set_update_loop _]
    show wpAny _ A.in1 (pyNext (.ref I) >>= _) _ _ s
    refine wpAny_bind (W.item i s _ _ hlt hst fun v h' tk hP hst' hk' => ?_)
    obtain ⟨t, rfl⟩ := hP
    have hx : xs[i]? = some (xs.getD i Str.empty) := by rw [List.getElem?_eq_getElem hlt, List.getD_eq_getElem?_getD, List.getElem?_eq_getElem hlt]; rfl
    generalize xs.getD i Str.empty = x at hx
    have hno : (xs.take i).any (· == x) = false := by
      rw [List.any_eq_false]
      intro y hy e
      obtain ⟨j, hj, rfl⟩ := List.mem_iff_getElem.mp hy
      rw [List.length_take] at hj
      rw [List.getElem_take] at e
      have e1 : xs[j] = x := beq_iff_eq.mp e
      have e2 : xs[i] = x := by rw [List.getElem?_eq_getElem hlt] at hx; exact Option.some.inj hx
      exact List.pairwise_iff_getElem.mp nd j i (by omega) hlt (by omega) (e1.trans e2.symm)
    have hS' : h'.SetOf (PySem.strKind prog w) S (fun k' => (xs.take i).any (· == k')) i := by
      obtain ⟨o, es, ep, tb, ho, rest⟩ := hS
      exact ⟨o, es, ep, tb, hk' S _ hSw ho, rest⟩
    show wpAny _ A.in1 (holding [Value.str x t] (setAdd S (.str x t)) >>= _) _ _ _
    refine wpAny_bind (wpAny_holding ?_)
    unfold setAdd
    refine wpAny_holding ?_
    refine wpAny_bind ((PySem.strKind prog w).pyHash (k := x) (strKind_is _ _ _ _) ?_)
    refine wpAny_setAddHashed_of (knd := PySem.strKind prog w) (s := { heap := h', gens := s.gens, drawn := s.drawn, toks := tk + 1, os := s.os }) (strKind_is _ _ _ _) rfl hS' (by unfold scanBound; omega) fun h2 hsb hS2 => ?_
    rw [hno] at hS2
    have hS3 : h2.SetOf (PySem.strKind prog w) S (fun k' => (xs.take (i + 1)).any (· == k')) (i + 1) := by
      refine SetOf_congr hS2 (fun k' => ?_) rfl
      rw [List.take_succ, hx, List.any_append]
      show _ = (_ || ((x == k') || false))
      rw [Bool.or_false]
      congr 1
      by_cases e : k' = x
      · subst e; simp
      · have hb : (x == k') = false := by simpa [beq_iff_eq] using (fun h' : x = k' => e h'.symm)
        simp [hb, e]
    refine wpAny_pure ⟨plainId_quiet F.plain_set_update_loop _, ih (i + 1) _ (by omega) hlt (W.frame _ h' _ hst' fun b hb o e => ?_) hS3 (fun b o hb e => ?_) fun h3 tk3 hS4 hf4 => hR h3 tk3 hS4 hf4⟩
    · show h2.get? b = some o
      rw [hsb.2 b (fun h : b = S => hSf (by rw [← h]; exact hb))]; exact e
    · show h2.get? b = some o
      rw [hsb.2 b (fun h : b = S => hb (by rw [h]; exact List.mem_cons_self))]
      exact hk' b o (fun q => hb (List.mem_cons_of_mem _ q)) (hfr b o hb e)
/-- the new set ahead of its __init__ -/
abbrev freshSet (led : Bool) : Obj := { cls := .type "set", dict := none, data := .set #[] 0 (.fresh 0 0 led) }
set_option maxHeartbeats 3200000 in
theorem call_setT {T : String} {l : Addr} {od : Option Addr} {items : Array Value} {nl : Nat} {osl : Array (Option Value)} {it : Obj} {xs : List Str} {Q : Value → Shared → Prop} (hol : s.heap.get? l = some { cls := .type T, dict := od, data := .seq items nl, slots := osl })
    (hsls : isSubtype (.type T) (.type "set") = pure false) (hslf : isSubtype (.type T) (.type "frozenset") = pure false) (hne : (Value.type T == Value.type "dict") = false) (hit : it.isFreed = false)
    (nd : xs.Nodup) (hz : xs.length ≤ 1000)
    (hI : ∀ (A' : Around) (E' : Value → Shared → Prop) (h' : Heap) (Q' : Value → Shared → Prop), h'.get? l = some { cls := .type T, dict := od, data := .seq items nl, slots := osl } → Q' (.ref h'.objs.size) { s with heap := h'.push it } → wpAny (model prog w) A' (pyIter (.ref l)) Q' E' { s with heap := h' })
    (hW : ∀ (A' : Around) (I : Addr), A'.handled = A.handled → l ≠ I → ∃ St, Walks prog w A' I [I, l] [I] xs.length (fun i v => ∃ t, v = .str (xs.getD i Str.empty) t) St ∧ ∀ h' : Heap, h'.get? I = some it → h'.get? l = some { cls := .type T, dict := od, data := .seq items nl, slots := osl } → St 0 h')
    (h : ∀ (h' : Heap) (tk : Nat), h'.SetOf (PySem.strKind prog w) s.heap.objs.size (fun k' => xs.any (· == k')) xs.length → (∀ b o, b < s.heap.objs.size → s.heap.get? b = some o → h'.get? b = some o) → Q (.ref s.heap.objs.size) { s with heap := h', toks := tk }) :
    wpAny (model prog w) A (call (.type "set") [.ref l]) Q E s := by
  obtain ⟨c, tl, hmro⟩ := PySem.F.called_set.mro
  have hmade := PySem.F.called_set.made
  have hsub := PySem.F.called_set.sub
  refine wpAny_call (codeAny_of_tree ?_)
  show wpAny _ _ (callAny (.type "set") _) _ _ _
  refine wpAny_pure ⟨Code.quiet_builtin _ (by decide +kernel), codeAny_builtin PySem.F.entry_type_call ?_⟩
  rw [Around.under_plain (weight_type_call_type "set" [.ref l] []) rfl]
  have h1 := PySem.F.called_set.notType
  have h2 := PySem.F.called_set.canCreate
  have hct := PySem.F.typeCall_set_1 (.ref l)
  repeat (any_goals (first | assumption | wp_step))
  refine codeAny_mono (code_set_new_1 (.ref l) (E := E) (Q₁ := fun obj s₁ => ∃ led : Bool, obj = .ref s.heap.objs.size ∧ s₁ = { s with heap := s.heap.push (freshSet led) }) fun led => ⟨led, rfl, rfl⟩) fun r s₁ hr => ?_
  match r, hr with
  | .error e, hr => exact hr
  | .ok (.ret obj), hr =>
    obtain ⟨led, rfl, rfl⟩ := hr
    have hS : (s.heap.push (freshSet led)).get? s.heap.objs.size = some (freshSet led) := Heap.get?_push_size _ rfl
    have hT : Shared.TypeIs { s with heap := s.heap.push (freshSet led) } (.ref s.heap.objs.size) "set" := ⟨_, hS, rfl⟩
    have hli := PySem.F.called_set.init.lookup
    have hbi := PySem.F.called_set.init.bind (.ref s.heap.objs.size)
    repeat (any_goals (first | assumption | wp_step))
    refine codeAny_mono (codeAny_call_builtin (R := wants (fun r s₂ => r = .none ∧ ∃ h' tk, s₂ = { s with heap := h', toks := tk } ∧ h'.SetOf (PySem.strKind prog w) s.heap.objs.size (fun k' => xs.any (· == k')) xs.length ∧
        (∀ b o, b < s.heap.objs.size → s.heap.get? b = some o → h'.get? b = some o)) E) PySem.F.called_set.init.plain PySem.F.entry_set_init (check_set_init_1 hT ?_)) fun r₂ s₂ hr₂ => ?_
    · have hol' : (s.heap.push (freshSet led)).get? l = some { cls := .type T, dict := od, data := .seq items nl, slots := osl } := Heap.get?_push_of_some _ hol
      unfold Builtin.«set.__init__» noKeywords Builtin.Frozenset.updateFrom
      generalize hPI : pyIter = PI
      wp_walk
      subst hPI
      refine hI _ _ _ _ hol' ?_
      refine wpAny_bind (wpAny_runValue ?_)
      have hlS : l < s.heap.objs.size := Heap.lt_size hol
      have hsz : (s.heap.push (freshSet led)).objs.size = s.heap.objs.size + 1 := Heap.size_push ..
      have hneI : l ≠ (s.heap.push (freshSet led)).objs.size := by rw [hsz]; exact Nat.ne_of_lt (Nat.lt_succ_of_lt hlS)
      have hSf : s.heap.objs.size ∉ [(s.heap.push (freshSet led)).objs.size, l] := by
        rw [hsz]; simp only [List.mem_cons, List.not_mem_nil, or_false, not_or]
        exact ⟨Nat.ne_of_lt (Nat.lt_succ_self _), Nat.ne_of_gt hlS⟩
      obtain ⟨St, W, st0⟩ := hW A.in1.in1.in1 (s.heap.push (freshSet led)).objs.size rfl hneI
      refine set_loop nd hz hSf W s.heap xs.length 0 _ (by omega) (Nat.zero_le _) (st0 _ (Heap.get?_push_size _ hit) (Heap.get?_push_of_some _ hol')) ?_ (fun b o _ e => Heap.get?_push_of_some _ (Heap.get?_push_of_some _ e)) fun h' tk hS' hk => ?_
      · exact SetOf_congr ((setObjOf_fresh (knd := PySem.strKind prog w) led).setOf (Heap.get?_push_of_some _ hS) (by unfold scanBound; omega)) (fun _ => rfl) rfl
      · show wpAny _ _ _ _ _ _
        refine wpAny_pure ?_
        show wpAny _ _ (ret Value.none) _ _ _
        refine wpAny_pure ⟨rfl, h', tk, rfl, hS', fun b o hb e => ?_⟩
        refine hk b o ?_ e
        rw [hsz]; simp only [List.mem_cons, List.not_mem_nil, or_false, not_or]
        exact ⟨Nat.ne_of_lt hb, Nat.ne_of_lt (Nat.lt_succ_of_lt hb)⟩
    · match r₂, hr₂ with
      | .error e, hr₂ => exact hr₂
      | .ok (.ret r), hr₂ =>
        obtain ⟨rfl, h', tk, rfl, hS', hk'⟩ := hr₂
        repeat (any_goals (first | assumption | wp_step))
        exact h _ _ hS' hk'
end
open L2
/-- len(set(e)), e a list or a tuple of unlike texts -/
def tLenSetW (K : PySem.W.Frag) (ta : TE) : TE := fun σ H Q => ta σ H fun x H1 => ∃ l, ∃ xs : List Str, x = .ref l ∧ SqE K H1 l (xs.map V.str) ∧ xs.length ≤ 1000 ∧ xs.Nodup ∧ Q (.int xs.length) H1
theorem strs_val {us : List Value} {xs : List Str} (h : Vals (xs.map V.str) us) : ∀ (i : Nat) (v : Value), us[i]? = some v → ∃ t, v = .str (xs.getD i Str.empty) t := SS.strs_at (strsAre_of h)
theorem walks_imp {prog : Program} {w : World} {A : Around} {I : Addr} {fp wr : List Addr} {n m : Nat} {P P' : Nat → Value → Prop} {St : Nat → Heap → Prop} (W : Walks prog w A I fp wr n P St) (e : n = m) (h : ∀ i v, P i v → P' i v) : Walks prog w A I fp wr m P' St := by
  subst e
  exact ⟨W.sub, W.frame, fun i s Q E hi st q => W.item i s Q E hi st fun v h' tk p st' k => q v h' tk (h i v p) st' k, W.done, W.self⟩
theorem pe_lenSetW {X : Cx} {a : Expr} {ta : TE} {p p2 q pos : Pos} (hc : X.calm = true) (hg : Gl X "len") (hm : X.mg "len" = none) (hg2 : Gl X "set") (hm2 : X.mg "set" = none) (ha : PE X a ta)
    (na : starEach [a] X.env = (false, eval a X.env) :: starEach [] X.env := by rfl) : PE X (.Call (.Name "len" p) [.Call (.Name "set" p2) [a] [] q] [] pos) (tLenSetW X.K ta) := by
  refine ⟨fun pins s σ H Q I h => Call_ (ld_blt I hg hm boot_len (callWith_builtin1 (args_cons (Call_ (ld_blt I hg2 hm2 boot_set (callWith_type1 (args_cons (thn (ha.run pins s σ H _ I h) fun v s1 ⟨x, H1, I1, r1, q1⟩ => args_nil ?_) na) na rfl))) rfl) rfl rfl))⟩
  obtain ⟨l, xs, rfl, hq, hz, nd, q1⟩ := q1
  cases r1
  have hh := I1.ok.hd hc
  have fin : ∀ (h' : Heap) (tk : Nat), h'.SetOf (PySem.strKind X.prog X.w) s1.heap.objs.size (fun k' => xs.any (· == k')) xs.length → (∀ b o, b < s1.heap.objs.size → s1.heap.get? b = some o → h'.get? b = some o) →
      wpAny (model X.prog X.w) X.A (spliced (backTo pos (starEach [] X.env))) (fun vs s₂ => wpAny (model X.prog X.w) X.A (call (.builtin "len") (Value.ref s1.heap.objs.size :: vs)) (EP X pins σ Q) X.xe s₂) X.xe { s1 with heap := h', toks := tk } := fun h' tk hS hk => by
    refine args_nil ?_
    obtain ⟨o, es, ep, t, ho, hex, hd, _, _, _, hf, hn⟩ := hS
    have I2 : L2.Inv X pins σ H1 { s1 with heap := h', toks := tk } := I1.kept fun b o e => hk b o (Heap.lt_size e) e
    exact call_len_set ho hex hd hf (by rw [hn] <;> omega) ⟨.int xs.length, H1, I2.tok _, ⟨_, by rw [hn]⟩, q1⟩
  rcases hq with hq | hq
  · obtain ⟨its, r, pl, hz2⟩ := I1.list hq
    have lx : its.toArray.size = xs.length := by rw [List.size_toArray, ← r.length, List.length_map]
    obtain ⟨⟨cls, od, dt, osl⟩, hol, hc1, n, hd⟩ := pl.isList
    simp only at hc1 hd
    subst hc1 hd
    exact call_setT (it := { cls := .type "list_iterator", data := .fields #[.ref l, .int 0 0] }) hol PySem.F.sub_list_set PySem.F.sub_list_frozenset (by decide) rfl nd hz (fun A' E' h' Q' e k => wpAny_pyIter_list (s := { s1 with heap := h' }) ⟨_, e, rfl, _, rfl⟩ k)
      (fun A' I hA hne => ⟨_, walks_imp (Walks.list (hA.trans hh) I l hne its.toArray) lx fun i v e => strs_val r i v (by simpa using e), fun h' e1 e2 => ⟨⟨_, e1, rfl, rfl⟩, ⟨_, e2, rfl, _, rfl⟩⟩⟩) fin
  · obtain ⟨its, r, pl, hz2⟩ := I1.tuple hq
    have lx : its.toArray.size = xs.length := by rw [List.size_toArray, ← r.length, List.length_map]
    obtain ⟨⟨cls, od, dt, osl⟩, hol, hc1, n, hd⟩ := pl
    simp only at hc1 hd
    subst hc1 hd
    exact call_setT (it := { cls := .type "tuple_iterator", data := .fields #[.ref l, .int 0 0] }) hol PySem.F.sub_tuple_set PySem.F.sub_tuple_frozenset (by decide) rfl nd hz (fun A' E' h' Q' e k => wpAny_pyIter_tuple (s := { s1 with heap := h' }) (items := its.toArray) ⟨_, e, rfl, _, rfl⟩ k)
      (fun A' I hA hne => ⟨_, walks_imp (Walks.tuple (hA.trans hh) I l hne its.toArray) lx fun i v e => strs_val r i v (by simpa using e), fun h' e1 e2 => ⟨⟨_, e1, rfl, rfl⟩, ⟨_, e2, rfl, _, rfl⟩⟩⟩) fin
theorem ev_lenSetW {b : Option (Addr × Addr)} {σ : L2.St} {G : Hp} {K : PySem.W.Frag} {P : V → Hp → Prop} {te : TE} (h : Ev b te σ G fun x G1 => ∃ xs : List Str, DpE K G1 x (xs.map .str) ∧ xs.length ≤ 1000 ∧ xs.Nodup ∧ P (.int xs.length) G1) : Ev b (tLenSetW K te) σ G P :=
  fun H w Q k => h H w _ fun x G1 H1 e1 w1 ⟨xs, hx, hz, nd, q⟩ => by
    obtain ⟨a, rfl, hq⟩ := dpe_strs hx
    exact ⟨a, xs, rfl, sqe_mono w1.same hq, hz, nd, k _ _ _ e1 w1 q⟩
end FD
namespace FD
open PySem PyProof.Rows L2
/-! ### more rules: globals, texts, all, any -/
theorem gc_int {mg : Str → Option Value} {x : Str} {n : Int} (h : ∃ t, mg x = some (.int n t)) : ∃ u, mg x = some u ∧ RelV (.int n) u := let ⟨t, e⟩ := h; ⟨_, e, t, rfl⟩
theorem gc_str {mg : Str → Option Value} {x z : Str} (h : ∃ t, mg x = some (.str z t)) : ∃ u, mg x = some u ∧ RelV (.str z) u := let ⟨t, e⟩ := h; ⟨_, e, t, rfl⟩
section
variable {b : Option (Addr × Addr)} {σ : L2.St} {G H : Hp} {K : PySem.W.Frag} {P : V → Hp → Prop} {te tl ta tb tc : TE} {r r' : R2} {tt : TT} {vs : List Nat}
theorem ev_chain (h : Ev b ta σ G fun x G1 => Ev b tb σ G1 fun y G2 => Rv b (r x y) G2 fun z G3 => ∃ k, z = .bl k ∧ (k = true → Ev b tc σ G3 fun u G4 => Rv b (r' y u) G4 P) ∧ (k = false → P (.bl false) G3)) : Ev b (tChain r r' ta tb tc) σ G P :=
  fun H w Q k => h H w _ fun x G1 H1 e1 w1 q => q H1 w1 _ fun y G2 H2 e2 w2 q => q H2 w2 _ fun z G3 H3 e3 w3 ⟨c, ec, q1, q2⟩ => ⟨c, ec, by
    cases c with
    | true => exact iteT (q1 rfl H3 w3 _ fun u G4 H4 e4 w4 q => q H4 w4 Q fun v G5 H5 e5 w5 p => k v G5 H5 ((((e1.trans e2).trans e3).trans e4).trans e5) w5 p)
    | false => exact iteF (k _ _ _ ((e1.trans e2).trans e3) w3 (q2 rfl))⟩
/-- all(..), any(..) of a list of truth values -/
def dB (bs : List Bool) : PyData := .list (bs.map .bool)
theorem dpa_bools_inv : ∀ {l : List Bool} {vs : List V}, DpAll K G vs (l.map PyData.bool) → vs = l.map V.bl
  | [], _, h => by
    cases h
    rfl
  | s :: l, _, h => by
    cases h with
    | cons a t =>
      cases a
      rw [dpa_bools_inv t]
      rfl
theorem dp_bools {v : V} {l : List Bool} (h : Dp K G v (.list (l.map .bool))) : ∃ a, v = .ref a ∧ SqL K G a (l.map V.bl) := by
  obtain ⟨a, xs, e, q, h⟩ := dp_lst h
  rw [dpa_bools_inv h] at q
  exact ⟨a, e, q⟩
theorem rv_all {v : V} {l : List Bool} (h : Dp K G v (.list (l.map .bool))) (p : P (.bl (l.all id)) G) : Rv b (rAll K [v]) G P := by
  obtain ⟨a, rfl, q⟩ := dp_bools h
  exact Rv.here (fun H e Q k => ⟨a, l, rfl, sql_mono e q, k⟩) p
theorem rv_any {v : V} {l : List Bool} (h : Dp K G v (.list (l.map .bool))) (p : P (.bl (l.any id)) G) : Rv b (rAny K [v]) G P := by
  obtain ⟨a, rfl, q⟩ := dp_bools h
  exact Rv.here (fun H e Q k => ⟨a, l, rfl, sql_mono e q, k⟩) p
theorem all_map_true {α : Type} {l : List α} {f : α → Bool} (h : ∀ x ∈ l, f x = true) : (l.map f).all id = true := by
  rw [List.all_map, List.all_eq_true]
  exact h
/-- the letters of a text -/
theorem lcStr {j : Nat} (h : Ev b tl σ G fun v G1 => ∃ x : Str, v = .str x ∧ x.cps.size ≤ 100000 ∧ (∀ z, wipe ((wipe σ vs).set j (some z)) vs = wipe σ vs) ∧ ∃ f : Nat → PyData,
    (∀ (i c : Nat) (G2 : Hp), x.cps[i]? = some c → Same G1 G2 → Ev b te ((wipe σ vs).set j (some (.str ⟨#[c]⟩))) G2 fun y G3 => Dp K G3 y (f c)) ∧ ∀ v G2, Same G1 G2 → Dp K G2 v (.list (x.cps.toList.map f)) → P v G2) : Ev b (tLc (iStr tl) (gName j) tYes te vs) σ G P :=
  fun H w Q k => h H w _ fun v G1 H1 e1 w1 ⟨x, ex, hl, hw, f, hs, hd⟩ => ⟨x, ex, fun Dl hD =>
    lc_walk (P := P) walk_str hl w1 e1 hD (fun _ _ => trivial) (fun i acc G => DpAll K G acc ((x.cps.toList.take i).map f)) .nil (fun i y G2 H2 H' acc hi e w2 iv hacc hy => by
      obtain ⟨rfl, c, hc, rfl⟩ := hy
      refine ⟨_, G2, Stp.refl w2.same, w2, gv_name, hw _, et_yes ⟨fun _ => Ev.mono (hs i c G2 hc e) fun z G4 e4 hz => ?_, fun z => nomatch z⟩⟩
      have hc' : x.cps.toList[i]? = some c := by rw [Array.getElem?_toList]; exact hc
      rw [List.take_succ, hc', List.map_append]
      exact dpa_snoc (Dpam iv e4) hz) (fun acc G2 e iv hacc a ha => hd _ _ (e.trans (same_new ha)) (dp_newL (by
        have z := iv
        rw [List.take_of_length_le (by rw [Array.length_toList]; exact Nat.le_refl _)] at z
        exact z) ha)) k⟩
theorem rv_lenS {z : Str} (h : z.length ≤ 1000000) (p : P (.int z.length) G) : Rv b ((fun xs H Q => ∃ z, xs = [.str z] ∧ z.length ≤ sizeLine ∧ Q (.int z.length) H : List V → Hp → VK → Prop) [.str z]) G P :=
  Rv.here (fun H _ Q q => ⟨z, rfl, sz_of h, q⟩) p
theorem rv_idxS {z : Str} {i c : Nat} (h : z.length ≤ 1000000) (hi : z.cps.toList[i]? = some c) (p : P (.str ⟨#[c]⟩) G) : Rv b (rIxS (.str z) (.int (i : Nat))) G P :=
  Rv.here (fun H _ Q q => ⟨z, _, c, rfl, rfl, sz_of h, atI_nat hi, q⟩) p
theorem s_asgG {D : Ends} {g : TG} (w : Wd b G H) (h : Ev b te σ G fun v G1 => ∀ H1, Stp (Bg b) G H G1 H1 → Wd b G1 H1 → g v σ H1 D.nx) : tAsg te g D σ H := h H w _ fun v G1 H1 e1 w1 q => q H1 e1 w1
/-- an f-string of two parts -/
theorem ev_js2 (h : Ev b ta σ G fun x G1 => ∃ y : Str, x = .str y ∧ y.length ≤ 1000 ∧ Ev b tb σ G1 fun z G2 => ∃ u : Str, z = .str u ∧ y.length + u.length ≤ 1000 ∧ P (.str ((Str.empty ++ y) ++ u)) G2) : Ev b (fun σ H Q => tJs [tFmt ta, tFmt tb] Str.empty σ H fun out H1 => Q (.str out) H1) σ G P :=
  fun H w Q k => by
    have l0 : (Str.empty).length = 0 := rfl
    refine h H w _ fun x G1 H1 e1 w1 ⟨y, ex, hy, q⟩ => .inl ⟨y, ex, sz_of (by omega), y, rfl, ?_, q H1 w1 _ fun z G2 H2 e2 w2 ⟨u, ez, hl, p⟩ => .inl ⟨u, ez, sz_of (by omega), u, rfl, ?_, k _ _ _ (e1.trans e2) w2 p⟩⟩
    · rw [Str.length_append, l0]
      exact sz_of (by omega)
    · rw [Str.length_append, Str.length_append, l0]
      exact sz_of (by omega)
end
/-- a name: one to six small letters -/
def NameOk (s : Str) : Prop := 1 ≤ s.length ∧ s.length ≤ 6 ∧ ∀ c ∈ s.cps.toList, 97 ≤ c ∧ c ≤ 122
end FD
namespace FD
def diff (n m : Nat) : Nat := n - (n &&& m)
theorem add_or {a b : Nat} (h : a &&& b = 0) : a + b = a ||| b := by
  induction a using Nat.strongRecOn generalizing b with
  | _ a ih =>
    by_cases h0 : a = 0
    · subst h0
      simp
    · have e1 : (a / 2) &&& (b / 2) = 0 := by
        apply Nat.eq_of_testBit_eq
        intro i
        have q : (a &&& b).testBit (i + 1) = (0 : Nat).testBit (i + 1) := by rw [h]
        rw [Nat.testBit_and, Nat.zero_testBit, Nat.testBit_succ, Nat.testBit_succ] at q
        rw [Nat.testBit_and, Nat.zero_testBit]
        exact q
      have e2 := ih (a / 2) (by omega) e1
      have q0 : (a &&& b).testBit 0 = (0 : Nat).testBit 0 := by rw [h]
      rw [Nat.testBit_and, Nat.zero_testBit, Nat.testBit_zero, Nat.testBit_zero] at q0
      apply Nat.eq_of_testBit_eq
      intro i
      have hb : a % 2 + b % 2 < 2 := by
        rcases Nat.mod_two_eq_zero_or_one a with x | x <;> rcases Nat.mod_two_eq_zero_or_one b with y | y <;> simp [x, y] at q0 ⊢
      cases i with
      | zero =>
        rw [Nat.testBit_or, Nat.testBit_zero, Nat.testBit_zero, Nat.testBit_zero]
        rcases Nat.mod_two_eq_zero_or_one a with x | x <;> rcases Nat.mod_two_eq_zero_or_one b with y | y <;> simp [x, y, Nat.add_mod] at q0 ⊢
      | succ i =>
        have e3 : (a + b) / 2 = a / 2 + b / 2 := by omega
        rw [Nat.testBit_or, Nat.testBit_succ, Nat.testBit_succ, Nat.testBit_succ, e3, e2, Nat.testBit_or]
theorem diff_xor (n m : Nat) : diff n m = n ^^^ (n &&& m) := by
  have h : (n &&& m) &&& (n ^^^ (n &&& m)) = 0 := by
    apply Nat.eq_of_testBit_eq
    intro i
    simp only [Nat.testBit_and, Nat.testBit_xor, Nat.zero_testBit]
    cases n.testBit i <;> cases m.testBit i <;> rfl
  have h2 : (n &&& m) ||| (n ^^^ (n &&& m)) = n := by
    apply Nat.eq_of_testBit_eq
    intro i
    simp only [Nat.testBit_and, Nat.testBit_xor, Nat.testBit_or]
    cases n.testBit i <;> cases m.testBit i <;> rfl
  have h3 := add_or h
  unfold diff
  omega
theorem testBit_diff (n m i : Nat) : (diff n m).testBit i = (n.testBit i && !m.testBit i) := by
  rw [diff_xor, Nat.testBit_xor, Nat.testBit_and]
  cases n.testBit i <;> cases m.testBit i <;> rfl
theorem bit_mod (n i : Nat) : n / 2 ^ i % 2 = if n.testBit i then 1 else 0 := by
  rw [Nat.testBit_eq_decide_div_mod_eq]
  by_cases h : n / 2 ^ i % 2 = 1
  · simp [h]
  · have : n / 2 ^ i % 2 = 0 := by omega
    simp [this]
end FD
namespace FD
open PySem PySem.Spec PyProof.Rows
def leS (a b : Str) : Prop := a.cps.toList ≤ b.cps.toList
theorem lt_false {a b : Str} : ltCps b.cps.toList a.cps.toList = false ↔ leS a b := by
  rw [ltCps_eq, decide_eq_false_iff_not]
  exact List.not_lt
theorem leS_trans {a b c : Str} (h1 : leS a b) (h2 : leS b c) : leS a c := List.le_trans h1 h2
theorem leS_antisymm {a b : Str} (h1 : leS a b) (h2 : leS b a) : a = b := by
  have e : a.cps.toList = b.cps.toList := List.le_antisymm h1 h2
  have e2 : a.cps = b.cps := Array.toList_inj.mp e
  cases a
  cases b
  exact congrArg Str.mk e2
theorem rising_pairwise : ∀ (l : List Str) (p : Str), risingS p l = true → (p :: l).Pairwise leS
  | [], p, _ => List.pairwise_singleton _ _
  | x :: r, p, h => by
    unfold risingS at h
    rw [Bool.and_eq_true] at h
    have h1 : leS p x := lt_false.mp (by simpa using h.1)
    have h2 := rising_pairwise r x h.2
    refine List.pairwise_cons.mpr ⟨fun y hy => ?_, h2⟩
    rcases List.mem_cons.mp hy with e | hy
    · rw [e]; exact h1
    · exact leS_trans h1 (List.rel_of_pairwise_cons h2 hy)
theorem sorted_pairwise {l : List Str} (h : sortedS l = true) : l.Pairwise leS := by
  cases l with
  | nil => exact .nil
  | cons x r => exact rising_pairwise r x h
theorem pairwise_sorted {l : List Str} (h : l.Pairwise leS) : sortedS l = true := sortedS_of_pairwise l (h.imp fun q => lt_false.mpr q)
theorem sort_unique {a b : List Str} (h : a.Perm b) (ha : sortedS a = true) (hb : sortedS b = true) : a = b :=
  List.Perm.eq_of_pairwise (fun _ _ _ _ h1 h2 => leS_antisymm h1 h2) (sorted_pairwise ha) (sorted_pairwise hb) h
theorem sorted_filter {a : List Str} (f : Str → Bool) (h : sortedS a = true) : sortedS (a.filter f) = true := pairwise_sorted ((sorted_pairwise h).sublist List.filter_sublist)
end FD
namespace FD
open PySem L2
/-! ### operators on masks -/
section
variable {X : Cx}
def rNN (C : Nat → Nat → Prop) (g : Nat → Nat → V) : R2 := fun x y H Q => ∃ n m : Nat, x = .int (n : Int) ∧ y = .int (m : Int) ∧ C n m ∧ Q (g n m) H
theorem op_orNN : OpR X (binaryOp .BitOr) (rNN (fun _ _ => True) fun n m => .int ((n ||| m : Nat) : Int)) := by
  intro pins s σ H x y v u Q I rx ry h
  obtain ⟨n, m, rfl, rfl, _, q⟩ := h
  refine op_or pins s σ H _ _ v u Q I rx ry ⟨_, _, rfl, rfl, ?_⟩
  show Q (.int (Builtin.bitOr (n : Int) (m : Int))) H
  rw [bitOr_nn (Int.natCast_nonneg _) (Int.natCast_nonneg _), Int.toNat_natCast, Int.toNat_natCast]
  exact q
theorem op_andNN : OpR X (binaryOp .BitAnd) (rNN (fun _ _ => True) fun n m => .int ((n &&& m : Nat) : Int)) := by
  intro pins s σ H x y v u Q I rx ry h
  obtain ⟨n, m, rfl, rfl, _, q⟩ := h
  refine op_and pins s σ H _ _ v u Q I rx ry ⟨_, _, rfl, rfl, ?_⟩
  show Q (.int (Builtin.bitAnd (n : Int) (m : Int))) H
  rw [PyProof.Rows.bitAnd_pp (Int.natCast_nonneg _) (Int.natCast_nonneg _), Int.toNat_natCast, Int.toNat_natCast]
  exact q
def rAndNot : R2 := fun x y H Q => ∃ n m : Nat, x = .int (n : Int) ∧ y = .int (Builtin.bitNot (m : Int)) ∧ Q (.int ((diff n m : Nat) : Int)) H
theorem op_andNot : OpR X (binaryOp .BitAnd) rAndNot := by
  intro pins s σ H x y v u Q I rx ry h
  obtain ⟨n, m, rfl, rfl, q⟩ := h
  refine op_and pins s σ H _ _ v u Q I rx ry ⟨_, _, rfl, rfl, ?_⟩
  show Q (.int (Builtin.bitAnd (n : Int) (Builtin.bitNot (m : Int)))) H
  have hn : ¬ 0 ≤ Builtin.bitNot (m : Int) := by
    unfold Builtin.bitNot
    omega
  rw [PyProof.Rows.bitAnd_pn (Int.natCast_nonneg _) hn, PyProof.Rows.bitNot_bitNot, Int.toNat_natCast, Int.toNat_natCast]
  have e : ((n : Int) - ((n &&& m : Nat) : Int)) = ((diff n m : Nat) : Int) := by
    unfold diff
    have : n &&& m ≤ n := Nat.and_le_left
    omega
  rw [e]
  exact q
def rShl1 : R2 := fun x y H Q => ∃ k : Nat, x = .int 1 ∧ y = .int (k : Int) ∧ k ≤ 1000 ∧ Q (.int ((2 ^ k : Nat) : Int)) H
theorem op_shl1 : OpR X (binaryOp .LShift) rShl1 := by
  intro pins s σ H x y v u Q I rx ry h
  obtain ⟨k, rfl, rfl, c, q⟩ := h
  refine op_oneShl pins s σ H _ _ v u Q I rx ry ⟨k, rfl, rfl, by omega, ?_⟩
  rw [Int.natCast_pow] at q
  exact q
def rShrN : R2 := fun x y H Q => ∃ n k : Nat, x = .int (n : Int) ∧ y = .int (k : Int) ∧ Q (.int ((n / 2 ^ k : Nat) : Int)) H
theorem op_shrNN : OpR X (binaryOp .RShift) rShrN := by
  intro pins s σ H x y v u Q I rx ry h
  obtain ⟨n, k, rfl, rfl, q⟩ := h
  refine op_shrN pins s σ H _ _ v u Q I rx ry ⟨_, k, rfl, rfl, ?_⟩
  rw [Int.natCast_ediv, Int.natCast_pow] at q
  exact q
end
section
variable {b : Option (Addr × Addr)} {σ : L2.St} {G H : Hp} {P : V → Hp → Prop}
theorem rv_nn {C : Nat → Nat → Prop} {g : Nat → Nat → V} {n m : Nat} (c : C n m) (p : P (g n m) G) : Rv b (rNN C g (.int (n : Int)) (.int (m : Int))) G P := Rv.here (fun _ _ _ q => ⟨n, m, rfl, rfl, c, q⟩) p
theorem rv_andNot {n m : Nat} (p : P (.int ((diff n m : Nat) : Int)) G) : Rv b (rAndNot (.int (n : Int)) (.int (Builtin.bitNot (m : Int)))) G P := Rv.here (fun _ _ _ q => ⟨n, m, rfl, rfl, q⟩) p
theorem rv_shl1 {k : Nat} (c : k ≤ 1000) (p : P (.int ((2 ^ k : Nat) : Int)) G) : Rv b (rShl1 (.int 1) (.int (k : Int))) G P := Rv.here (fun _ _ _ q => ⟨k, rfl, rfl, c, q⟩) p
theorem rv_shr {n k : Nat} (p : P (.int ((n / 2 ^ k : Nat) : Int)) G) : Rv b (rShrN (.int (n : Int)) (.int (k : Int))) G P := Rv.here (fun _ _ _ q => ⟨n, k, rfl, rfl, q⟩) p
theorem rv_not {m : Nat} (p : P (.int (Builtin.bitNot (m : Int))) G) : Rv b (rU (fun i => .int (Builtin.bitNot i)) (.int (m : Int))) G P := Rv.here (fun _ _ _ q => ⟨_, rfl, q⟩) p
theorem rv_eqB {x y : V} (s : scal x y = true) (p : P (.bl (decide (x = y))) G) : Rv b (rEq x y) G P := Rv.here (fun _ _ _ q => ⟨s, q⟩) p
theorem rv_neB {x y : V} (s : scal x y = true) (p : P (.bl (!decide (x = y))) G) : Rv b (rNe x y) G P := Rv.here (fun _ _ _ q => ⟨s, q⟩) p
theorem rv_I0 {g : Int → Int → V} {i j : Int} (p : P (g i j) G) : Rv b (rI0 g (.int i) (.int j)) G P := Rv.here (fun _ _ _ q => ⟨i, j, rfl, rfl, q⟩) p
theorem rv_I {C : Int → Int → Prop} {g : Int → Int → V} {i j : Int} (c : C i j) (p : P (g i j) G) : Rv b (rI C g (.int i) (.int j)) G P := Rv.here (fun _ _ _ q => ⟨i, j, rfl, rfl, c, q⟩) p
end
/-! ### the mirrors -/
def maskOf (R ns : List Str) : Nat := ns.foldl (fun m x => m ||| 2 ^ R.idxOf x) 0
def blocked (ps : List (Nat × Nat)) (t : Nat) : Nat := ps.foldl (fun m p => if p.1 &&& t = 0 then m ||| p.2 else m) 0
def coming (ps : List (Nat × Nat)) (t room : Nat) : Nat := diff (diff room t) (blocked ps t)
def fullOf (n : Nat) : Nat := 2 ^ n - 1
def dPairs (ps : List (Nat × Nat)) : PyData := .list (ps.map fun p => .tuple [.int (p.1 : Nat), .int (p.2 : Nat)])
section
variable {P : Program} {w : World} {K : PySem.W.Frag} {mg : Str → Option Value} {base : Heap}
def pFullMask (K : PySem.W.Frag) : List V → Hp → (V → Hp → Prop) → Prop := fun vs G P => ∃ (v : V) (R : List Str), vs = [v] ∧ RsAt G v R ∧ R.length ≤ 7 ∧ ∀ G', Same G G' → P (.int ((fullOf R.length : Nat) : Int)) G'
theorem rv_lenT {b : Option (Addr × Addr)} {G : Hp} {Q : V → Hp → Prop} {a : Addr} {xs : List V} (h : SqT K G a xs) (p : Q (.int (xs.length : Nat)) G) : Rv b ((fun xs H Q => ∃ p ys, xs = [V.ref p] ∧ (SqL K H p ys ∨ SqT K H p ys) ∧ Q (V.int ys.length) H : List V → Hp → VK → Prop) [.ref a]) G Q :=
  Rv.here (fun H e Q q => ⟨a, xs, rfl, .inr (sqt_mono e h), q⟩) p
local macro_rules | `(tactic| walk_at "ev") => `(tactic| repeat (first | with_reducible refine s_seq ?_ | with_reducible refine s_skip ?_ | with_reducible refine s_gn ?_ | with_reducible refine ev_op ?_ | with_reducible refine ev_un ?_ | ((with_reducible refine' ev_var ?hv ?_); (case hv => rfl)) | with_reducible refine ev_c ?_ | with_reducible refine ev_cb ?_ | with_reducible refine ea_cons ?_ | with_reducible refine ea_nil ?_ | with_reducible refine et_test ?_ | with_reducible refine et_B ?_ | with_reducible refine s_ret (by assumption) ?_ | with_reducible refine s_asg (by assumption) ?_))
theorem d_full_mask (T : Mo K mg) : Def P w K mg base CX0 1 "full_mask" ["reasons"] (SpP 1 (pFullMask K)) := by
  obtain ⟨fd, F⟩ := T.f_full_mask
  refine ⟨_, fd, F.ok sc_full_mask spP_len (fun cdv A outer s H vs Q E hr h => ?_), T.g_full_mask, F.kp, F.bindsN fun _ _ _ _ _ _ us hl => match us, hl with | [_], _ => rfl⟩
  have hu := hu_of hr
  obtain ⟨_, G, P, sm, hp, kq⟩ := h
  have wd : Wd none G H := .none sm
  refine ⟨_, PSs.nox (pss_one (ps_ret (pe_op op_sub (pe_op op_shl1 pe_int (pe_callB call_len_seq (by rfl) T.n_len (by decide +kernel) (pa_cons (pv 0) pa_nil))) pe_int))), ?_⟩
  obtain ⟨v, R, rfl, ⟨a, rfl, q⟩, hl, k⟩ := hp
  walk_at "ev"
  refine rv_lenT q.sqt ?_
  refine rv_shl1 (k := (R.map V.str).length) (by rw [List.length_map]; omega) ?_
  walk_at "ev"
  refine rv_I0 ?_
  intro H1 e1 w1
  have e : (((2 ^ (R.map V.str).length : Nat) : Int) - 1) = ((fullOf R.length : Nat) : Int) := by
    unfold fullOf
    rw [List.length_map]
    have := Nat.one_le_two_pow (n := R.length)
    omega
  rw [e]
  exact kq _ _ _ e1 (k _ e1.gg)
theorem maskOf_take {R ns : List Str} {i : Nat} {x : Str} (h : ns[i]? = some x) : maskOf R (ns.take (i + 1)) = maskOf R (ns.take i) ||| 2 ^ R.idxOf x := by
  unfold maskOf
  rw [List.take_succ, h, List.foldl_append]
  rfl
def pMaskOf (K : PySem.W.Frag) : List V → Hp → (V → Hp → Prop) → Prop := fun vs G P => ∃ (v u : V) (R ns : List Str), vs = [v, u] ∧ RsAt G v R ∧ Dp K G u (.tuple (ns.map .str)) ∧ (∀ x ∈ ns, x ∈ R) ∧ R.length ≤ 7 ∧ ∀ G', Same G G' → P (.int ((maskOf R ns : Nat) : Int)) G'
theorem get_map {α β : Type} {l : List α} {f : α → β} {i : Nat} {y : β} (h : (l.map f)[i]? = some y) : ∃ x, l[i]? = some x ∧ y = f x := by
  rw [List.getElem?_map] at h
  cases e : l[i]? with
  | none =>
    rw [e] at h
    cases h
  | some x =>
    rw [e] at h
    exact ⟨x, rfl, (Option.some.inj h).symm⟩
theorem d_mask_of (T : Mo K mg) : Def P w K mg base CX0 1 "mask_of" ["reasons", "names"] (SpP 2 (pMaskOf K)) := by
  obtain ⟨fd, F⟩ := T.f_mask_of
  refine ⟨_, fd, F.ok sc_mask_of spP_len (fun cdv A outer s H vs Q E hr h => ?_), T.g_mask_of, F.kp, F.bindsN fun _ _ _ _ _ _ us hl => match us, hl with | [_, _], _ => rfl⟩
  have hu := hu_of hr
  obtain ⟨_, G, P, sm, hp, kq⟩ := h
  have wd : Wd none G H := .none sm
  refine ⟨_, PSs.nox (pss_cons (ps_set (i := 2) sc_mask_of.nd rfl (Or.inl rfl) pe_int)
    (pss_cons (ps_for PassesOwn.never rfl (pi_tup (pv 1)) (pg_name (i := 3) sc_mask_of.nd rfl (Or.inl rfl))
      (pss_one (ps_set (i := 2) sc_mask_of.nd rfl (Or.inl rfl) (pe_op op_orNN (pv 2) (pe_op op_shl1 pe_int (pe_bF PySem.F.slot_tuple_index PySem.F.type_tuple_index mt_tIx (pv 0) (pa_cons (pv 3) pa_nil)))))))
    (pss_one (ps_ret (pv 2))))), ?_⟩
  obtain ⟨v, u, R, ns, rfl, ⟨a, rfl, q⟩, hu', hin, hl, k⟩ := hp
  obtain ⟨c, rfl, r⟩ := dp_strs hu'
  walk_at "ev"
  intro H1 e1 w1
  walk_at "ev"
  refine s_forT (K := K) w1 (ev_var rfl ⟨c, _, rfl, r, fun i σ G2 H2 => Stp (Bg none) G H G2 H2 ∧ Wd none G2 H2 ∧ ∃ z, σ = [some (.ref a), some (.ref c), some (.int ((maskOf R (ns.take i) : Nat) : Int)), z], ⟨fun i σ G2 H2 h => ⟨h.1.gg, h.2.1⟩, ?_⟩, fun H2 e2 w2 => ⟨e1.trans e2, w2, _, rfl⟩, ?_⟩)
  · rintro σ G2 H2 ⟨e2, w2, z, rfl⟩
    walk_at "ev"
    intro H3 e3 w3
    rw [List.length_map, List.take_length]
    exact kq _ _ _ (e2.trans e3) (k _ (e2.trans e3).gg)
  · rintro i x σ G2 H2 hi ⟨e2, w2, z, rfl⟩
    obtain ⟨y, hy, rfl⟩ := get_map hi
    have hyR : y ∈ R := hin y (List.mem_of_getElem? hy)
    walk_at "ev"
    refine ev_bF ?_
    walk_at "ev"
    refine ⟨⟨a, _, rfl, ftup_mono e2.gg q⟩, ?_⟩
    walk_at "ev"
    refine rv_tIx (sqt_mono e2.gg q.sqt) hyR (rv_shl1 ?_ (rv_nn trivial ?_))
    · have := List.idxOf_lt_length_of_mem hyR
      omega
    · intro H3 e3 w3
      rw [← maskOf_take hy]
      exact ⟨G2, e2.trans e3, w3, _, rfl⟩
end
end FD
namespace FD
open PySem PyProof.Rows L2
section
variable {P : Program} {w : World} {K : PySem.W.Frag} {mg : Str → Option Value} {base : Heap}
local macro_rules | `(tactic| walk_at "ev") => `(tactic| repeat (first | with_reducible refine s_seq ?_ | with_reducible refine s_skip ?_ | with_reducible refine s_gn ?_ | with_reducible refine ev_op ?_ | with_reducible refine ev_un ?_ | ((with_reducible refine' ev_var ?hv ?_); (case hv => rfl)) | with_reducible refine ev_c ?_ | with_reducible refine ev_cb ?_ | with_reducible refine ea_cons ?_ | with_reducible refine ea_nil ?_ | with_reducible refine et_test ?_ | with_reducible refine et_B ?_ | with_reducible refine s_ret (by assumption) ?_ | with_reducible refine s_asg (by assumption) ?_))
def RowsAt (K : PySem.W.Frag) (G : Hp) (v : V) (rows : List RowT) : Prop := ∃ a vs, v = .ref a ∧ G a = some (.lst vs) ∧ Paired (RowIs K G) vs rows
def RecAt (K : PySem.W.Frag) (G : Hp) (v : V) (r : RecT) : Prop := ∃ t rv, v = .ref t ∧ G t = some (.tup [.str r.1, rv]) ∧ RowIs K G rv r.2
def RecsAt (K : PySem.W.Frag) (G : Hp) (v : V) (rs : List RecT) : Prop := ∃ a vs, v = .ref a ∧ G a = some (.lst vs) ∧ Paired (RecAt K G) vs rs
theorem recAt_mono {G G' : Hp} {v : V} {r : RecT} (e : Same G G') (h : RecAt K G v r) : RecAt K G' v r := let ⟨t, rv, e1, e2, e3⟩ := h; ⟨t, rv, e1, e _ _ e2, rowIs_mono e e3⟩
theorem paired_get {α β : Type} {F : α → β → Prop} : ∀ {xs : List α} {ys : List β} {i : Nat} {x : α}, Paired F xs ys → xs[i]? = some x → ∃ y, ys[i]? = some y ∧ F x y
  | _, _, i, _, .nil, h => by simp at h
  | _, _, 0, _, .cons h _, e => ⟨_, rfl, by
    have q := Option.some.inj e
    rw [← q]
    exact h⟩
  | _, _, i + 1, _, .cons _ t, e => paired_get (i := i) t e
theorem paired_map {α β γ δ : Type} {F : γ → δ → Prop} (f : α → γ) (g : β → δ) : ∀ {xs : List α} {ys : List β}, Paired (fun a b => F (f a) (g b)) xs ys → Paired F (xs.map f) (ys.map g)
  | _, _, .nil => .nil
  | _, _, .cons a t => .cons a (paired_map f g t)
def pBookRows (K : PySem.W.Frag) : List V → Hp → (V → Hp → Prop) → Prop := fun vs G P => ∃ v R rs, vs = [v] ∧ BookIs K G v R rs ∧ ∀ v' G', Same G G' → RowsAt K G' v' (rs.map (·.2)) → P v' G'
theorem d_Book_rows (T : Mo K mg) : DefM P w K mg base CX0 1 (cls K "Book") "rows" ["self"] (SpP 1 (pBookRows K)) := by
  obtain ⟨fd, F⟩ := T.f_Book_rows
  refine ⟨_, fd, F.ok sc_Book_rows spP_len (fun cdv A outer s H vs Q E hr h => ?_), T.m_Book_rows, F.bindsN fun _ _ _ _ _ _ us hl => match us, hl with | [_], _ => rfl⟩
  have hu := hu_of hr
  obtain ⟨_, G, P, sm, hp, kq⟩ := h
  have wd : Wd none G H := .none sm
  refine ⟨_, PSs.nox (pss_one (ps_ret (pe_listVals rfl (pe_fld (pv 0) rfl) (by rfl) T.n_list boot_list))), ?_⟩
  obtain ⟨v, R, rs, rfl, hb, k⟩ := hp
  obtain ⟨a, dx, t, d, kvs, rfl, e2, e3, e4, e5⟩ := hb
  walk_at "ev"
  refine ev_listVals (ev_fld (ev_var rfl ⟨a, _, dx, _, _, rfl, e2, T.cl_Book, T.na_Book_by_mark, rfl, d, _, rfl, .inl ⟨kvs, e4, rfl⟩, fun q hq H1 e1 w1 => ?_⟩))
  refine kq _ _ _ e1 (k _ _ e1.gg ⟨q, _, rfl, upd_same, ?_⟩)
  exact paired_map (·.2) (·.2) (paired_imp (fun _ _ z => rowIs_mono (same_new hq) z.2) e5)
def pBookRecords (K : PySem.W.Frag) : List V → Hp → (V → Hp → Prop) → Prop := fun vs G P => ∃ v R rs, vs = [v] ∧ BookIs K G v R rs ∧ ∀ v' G', Same G G' → (∃ a, v' = .ref a ∧ G a = none) → RecsAt K G' v' rs → P v' G'
theorem paired_trans {α β γ : Type} {F : α → β → Prop} {E : β → γ → Prop} {D : α → γ → Prop} (h : ∀ a b c, F a b → E b c → D a c) : ∀ {xs : List α} {ys : List β} {zs : List γ}, Paired F xs ys → Paired E ys zs → Paired D xs zs
  | _, _, _, .nil, .nil => .nil
  | _, _, _, .cons a t, .cons b u => .cons (h _ _ _ a b) (paired_trans h t u)
theorem paired_mapL {α β γ : Type} {F : γ → β → Prop} (f : α → γ) : ∀ {xs : List α} {ys : List β}, Paired (fun a b => F (f a) b) xs ys → Paired F (xs.map f) ys
  | _, _, .nil => .nil
  | _, _, .cons a t => .cons a (paired_mapL f t)
theorem d_Book_records (T : Mo K mg) : DefM P w K mg base CX0 1 (cls K "Book") "records" ["self"] (SpP 1 (pBookRecords K)) := by
  obtain ⟨fd, F⟩ := T.f_Book_records
  refine ⟨_, fd, F.ok sc_Book_records spP_len (fun cdv A outer s H vs Q E hr h => ?_), T.m_Book_records, F.bindsN fun _ _ _ _ _ _ us hl => match us, hl with | [_], _ => rfl⟩
  have hu := hu_of hr
  obtain ⟨_, G, P, sm, hp, kq⟩ := h
  have wd : Wd none G H := .none sm
  refine ⟨_, PSs.nox (pss_one (ps_ret (LiI.pe_listItems rfl (pe_fld (pv 0) rfl) (by rfl) T.n_list boot_list))), ?_⟩
  obtain ⟨v, R, rs, rfl, hb, k⟩ := hp
  obtain ⟨a, dx, t, d, kvs, rfl, e2, e3, e4, e5⟩ := hb
  walk_at "ev"
  refine ev_listItems (ev_fld (ev_var rfl ⟨a, _, dx, _, _, rfl, e2, T.cl_Book, T.na_Book_by_mark, rfl, d, _, rfl, e4, fun q ts G2 sm2 hnew hq hpr H1 e1 w1 => ?_⟩))
  refine kq _ _ _ e1 (k _ _ e1.gg ⟨q, rfl, hnew⟩ ⟨q, _, rfl, hq, paired_mapL V.ref ?_⟩)
  refine paired_trans (fun t q r h1 h2 => ?_) hpr e5
  obtain ⟨h3, h4⟩ := h2
  rw [h3] at h1
  exact ⟨t, _, rfl, h1, rowIs_mono sm2 h4⟩
def sideM (R : List Str) (r : RowT) : Nat × Nat := (maskOf R r.1, maskOf R r.2)
def encP (p : Nat × Nat) : PyData := .tuple [.int (p.1 : Nat), .int (p.2 : Nat)]
/-- the rows name reasons of R only -/
def In1 (R : List Str) (r : RowT) : Prop := (∀ x ∈ r.1, x ∈ R) ∧ ∀ x ∈ r.2, x ∈ R
def pSideMasks (K : PySem.W.Frag) : List V → Hp → (V → Hp → Prop) → Prop := fun vs G P => ∃ (v u : V) (R : List Str) (r : RowT), vs = [v, u] ∧ RsAt G v R ∧ RowIs K G u r ∧ In1 R r ∧ R.length ≤ 7 ∧ ∀ v' G', Same G G' → Dp K G' v' (encP (sideM R r)) → P v' G'
theorem d_side_masks (T : Mo K mg) : Def P w K mg base CX0 2 "side_masks" ["reasons", "row"] (SpP 2 (pSideMasks K)) := by
  obtain ⟨fd, F⟩ := T.f_side_masks
  refine ⟨_, fd, F.ok sc_side_masks spP_len (fun cdv A outer s H vs Q E hr h => ?_), T.g_side_masks, F.kp, F.bindsN fun _ _ _ _ _ _ us hl => match us, hl with | [_, _], _ => rfl⟩
  have hu := hu_of hr
  obtain ⟨_, G, P, sm, hp, kq⟩ := h
  have wd : Wd none G H := .none sm
  refine ⟨_, PSs.nox (pss_one (ps_ret (pe_tup (pa_cons (pe_d (d_mask_of T) (hr.mono (by decide)) (by rfl) pass0 (pa_cons (pv 0) (pa_cons (pe_fld (pv 1) rfl) pa_nil))) (pa_cons (pe_d (d_mask_of T) (hr.mono (by decide)) (by rfl) pass0 (pa_cons (pv 0) (pa_cons (pe_fld (pv 1) rfl) pa_nil))) pa_nil))))), ?_⟩
  obtain ⟨v, u, R, r, rfl, hR, hr, hin, hl, k⟩ := hp
  walk_at "ev"
  refine ev_tup (ea_cons (ev_call (ea_cons (ev_var rfl ?_))))
  refine ea_cons (ev_pro (T := T) (ev_var rfl ⟨r, hr, fun tp htp => ea_nil ⟨rfl, v, tp, R, r.1, rfl, hR, htp, hin.1, hl, fun G1 e1 => ?_⟩⟩))
  refine ea_cons (ev_call (ea_cons (ev_var rfl ?_)))
  refine ea_cons (ev_con (T := T) (ev_var rfl ⟨r, rowIs_mono e1 hr, fun tp htp => ea_nil ⟨rfl, v, tp, R, r.2, rfl, rs_mono e1 hR, htp, hin.2, hl, fun G2 e2 => ?_⟩⟩))
  refine ea_nil ⟨by show 2 ≤ 1000000; decide, fun a ha H1 s1 w1 => kq _ _ _ s1 (k _ _ s1.gg (dp_newT (.cons (.int _) (.cons (.int _) .nil)) ha))⟩
def pairsOf (R : List Str) (rows : List RowT) : List (Nat × Nat) := rows.map (sideM R)
def pRowMasks (K : PySem.W.Frag) : List V → Hp → (V → Hp → Prop) → Prop := fun vs G P => ∃ (v : V) (R : List Str) (rs : List RecT), vs = [v] ∧ BookIs K G v R rs ∧ (∀ r ∈ rs, In1 R r.2) ∧ R.length ≤ 7 ∧ rs.length ≤ 1000 ∧ ∀ v' G', Same G G' → Dp K G' v' (.list ((pairsOf R (rs.map (·.2))).map encP)) → P v' G'
theorem paired_len {α β : Type} {F : α → β → Prop} : ∀ {xs : List α} {ys : List β}, Paired F xs ys → xs.length = ys.length
  | _, _, .nil => rfl
  | _, _, .cons _ t => congrArg Nat.succ (paired_len t)
theorem map_snoc {α β : Type} {l : List α} {f : α → β} {i : Nat} {x : α} (h : l[i]? = some x) : (l.take (i + 1)).map f = (l.take i).map f ++ [f x] := by
  rw [List.take_succ, h, List.map_append]
  rfl
theorem d_row_masks (T : Mo K mg) : Def P w K mg base CX0 3 "row_masks" ["book"] (SpP 1 (pRowMasks K)) := by
  obtain ⟨fd, F⟩ := T.f_row_masks
  refine ⟨_, fd, F.ok sc_row_masks spP_len (fun cdv A outer s H vs Q E hr h => ?_), T.g_row_masks, F.kp, F.bindsN fun _ _ _ _ _ _ us hl => match us, hl with | [_], _ => rfl⟩
  have hu := hu_of hr
  obtain ⟨_, G, P, sm, hp, kq⟩ := h
  have wd : Wd none G H := .none sm
  refine ⟨_, PSs.nox (pss_one (ps_ret (pe_lc (own := [("row", 1)]) (g := gName 1) (tt := tYes) rfl sc_row_masks.nd (pi_list (pe_dm0 (d_Book_rows T) T.cl_Book (pv 0) (hr.mono (by decide)) pass0)) (blkOk_by (N := ["book", "row"]) (sc := defScope s_row_masks) (by decide +kernel)) (fun _ _ _ _ _ => (pg_name (i := 1) sc_row_masks.nd rfl (Or.inl rfl))) (fun _ _ _ _ _ => pts_nil) (fun _ _ _ _ _ => (blk_te (pe_d (d_side_masks T) (hr.mono (by decide)) (by rfl) pass0 (pa_cons (pe_fld (pv 0) rfl) (pa_cons (pv 1) pa_nil))) (by (try dsimp only [Cx.blk, Cx.nox, cxOf]); (try rfl))))))), ?_⟩
  obtain ⟨v, R, rs, rfl, hB, hin, hl, hrl, k⟩ := hp
  walk_at "ev"
  refine lcL (ev_meth (ev_var rfl ?_))
  obtain ⟨a, dx, t, d, kvs, rfl, e2, rest⟩ := id hB
  refine ⟨a, dx, _, rfl, e2, rfl, ea_nil ⟨rfl, _, R, rs, rfl, hB, fun v' G1 e1 ⟨la, xs, ev', hla, hpr⟩ => ?_⟩⟩
  refine ⟨la, xs, ev', SqL.of hla, ?_, fun i acc G => Same G1 G ∧ DpAll K G acc ((((rs.map (·.2)).take i).map (sideM R)).map encP), ⟨Same.refl _, .nil⟩, fun i x G2 acc hx e3 iv hacc => ?_, fun acc G2 e3 iv hacc q hq H1 s1 w1 => ?_⟩
  · rw [paired_len hpr, List.length_map]
    omega
  · obtain ⟨r, hr1, hr2⟩ := paired_get hpr hx
    have hrm : r ∈ rs.map (·.2) := List.mem_of_getElem? hr1
    obtain ⟨r0, hr0, rfl⟩ := List.mem_map.mp hrm
    refine ⟨_, fun _ _ => gv_name, rfl, et_yes ⟨fun _ => ?_, fun z => nomatch z⟩⟩
    refine ev_call (ea_cons (ev_reasons (T := T) (ev_var rfl ⟨R, rs, bookIs_mono (e1.trans e3) hB, fun v1 hv1 => ?_⟩)))
    refine ea_cons (ev_var rfl (ea_nil ⟨rfl, _, _, R, r0.2, rfl, hv1, rowIs_mono e3 hr2, hin r0 hr0, hl, fun v2 G3 e4 hv2 => ⟨e3.trans e4, ?_⟩⟩))
    rw [map_snoc hr1, List.map_append]
    exact dpa_snoc (Dpam iv.2 e4) hv2
  · refine kq _ _ _ s1 (k _ _ s1.gg (dp_newL ?_ hq))
    have z := iv.2
    rw [paired_len hpr, List.take_length] at z
    exact z
end
end FD
namespace FD
open PySem PyProof.Rows L2
section
variable {P : Program} {w : World} {K : PySem.W.Frag} {mg : Str → Option Value} {base : Heap}
local macro_rules | `(tactic| walk_at "ev") => `(tactic| repeat (first | with_reducible refine s_seq ?_ | with_reducible refine s_skip ?_ | with_reducible refine s_gn ?_ | with_reducible refine ev_op ?_ | with_reducible refine ev_un ?_ | ((with_reducible refine' ev_var ?hv ?_); (case hv => rfl)) | with_reducible refine ev_c ?_ | with_reducible refine ev_cb ?_ | with_reducible refine ea_cons ?_ | with_reducible refine ea_nil ?_ | with_reducible refine et_test ?_ | with_reducible refine et_B ?_ | with_reducible refine s_ret (by assumption) ?_ | with_reducible refine s_asg (by assumption) ?_))
def bitsOf (mask : Nat) : List Nat := ((List.range (Builtin.Int.intBits (mask : Int))).filter fun i => mask.testBit i).map fun i => 2 ^ i
def encN (n : Nat) : PyData := .int (n : Int)
theorem rv_tBits {b : Option (Addr × Addr)} {σ : L2.St} {G : Hp} {P : V → Hp → Prop} {te : TE} (h : Ev b te σ G fun x G1 => ∃ i, x = .int i ∧ P (.int (Builtin.Int.intBits i : Nat)) G1) : Ev b (tBits te) σ G P :=
  fun H w Q k => h H w _ fun x G1 H1 e1 w1 ⟨i, ex, p⟩ => ⟨i, ex, k _ _ _ e1 w1 p⟩
theorem testBit_test (m i : Nat) : decide (V.int ((m / 2 ^ i &&& 1 : Nat) : Int) = V.int 1) = m.testBit i := by
  rw [Nat.and_one_is_mod, bit_mod]
  cases m.testBit i <;> decide
def pBits (K : PySem.W.Frag) : List V → Hp → (V → Hp → Prop) → Prop := fun vs G P => ∃ m : Nat, vs = [.int (m : Int)] ∧ Builtin.Int.intBits (m : Int) ≤ 100 ∧ ∀ v' G', Same G G' → Dp K G' v' (.list ((bitsOf m).map encN)) → P v' G'
theorem d_bits_of (T : Mo K mg) : Def P w K mg base CX0 1 "bits_of" ["mask"] (SpP 1 (pBits K)) := by
  obtain ⟨fd, F⟩ := T.f_bits_of
  refine ⟨_, fd, F.ok sc_bits_of spP_len (fun cdv A outer s H vs Q E hr h => ?_), T.g_bits_of, F.kp, F.bindsN fun _ _ _ _ _ _ us hl => match us, hl with | [_], _ => rfl⟩
  have hu := hu_of hr
  obtain ⟨_, G, P, sm, hp, kq⟩ := h
  have wd : Wd none G H := .none sm
  refine ⟨_, PSs.nox (pss_one (ps_ret (pe_lc (own := [("at", 1)]) (g := gName 1) (tt := _) rfl sc_bits_of.nd (pi_range1 (by rfl) T.n_range (pa_cons (pe_bits (pv 0)) pa_nil)) (blkOk_by (N := ["mask", "at"]) (sc := defScope s_bits_of) (by decide +kernel)) (fun _ _ _ _ _ => (pg_name (i := 1) sc_bits_of.nd rfl (Or.inl rfl))) (fun _ _ _ _ _ => (pts_one (blk_tt (pt_cmpR op_eq (pe_op op_andNN (pe_op op_shrNN (pv 0) (pv 1)) pe_int) pe_int (by rfl)) (by (try dsimp only [Cx.blk, Cx.nox, cxOf]); (try rfl))))) (fun _ _ _ _ _ => (blk_te (pe_op op_shl1 pe_int (pv 1)) (by (try dsimp only [Cx.blk, Cx.nox, cxOf]); (try rfl))))))), ?_⟩
  obtain ⟨m, rfl, hm, k⟩ := hp
  walk_at "ev"
  refine lcRa (K := K) (Builtin.Int.intBits (m : Int)) (fun i => m.testBit i) (fun i => encN (2 ^ i)) (by omega) (fun z => rfl) (ea_cons (rv_tBits (ev_var rfl ⟨_, rfl, ea_nil ⟨rfl, fun i G2 hi e2 => ?_, fun v G2 e2 hv H1 e1 w1 => ?_⟩⟩)))
  · refine et_test ?_
    walk_at "ev"
    refine rv_shr ?_
    walk_at "ev"
    refine rv_nn (m := 1) trivial ?_
    walk_at "ev"
    refine rv_eqB rfl ⟨_, rfl, ?_, fun _ => ?_⟩
    · exact testBit_test m i
    · walk_at "ev"
      exact rv_shl1 (by omega) (.int _)
  · refine kq _ _ _ e1 (k _ _ e1.gg ?_)
    unfold bitsOf
    rw [List.map_map]
    exact hv
def pBlocked (K : PySem.W.Frag) : List V → Hp → (V → Hp → Prop) → Prop := fun vs G P => ∃ (v : V) (ps : List (Nat × Nat)) (t : Nat), vs = [v, .int (t : Int)] ∧ Dp K G v (.list (ps.map encP)) ∧ ∀ G', Same G G' → P (.int ((blocked ps t : Nat) : Int)) G'
theorem fold_snoc {α β : Type} {f : β → α → β} {b : β} {l : List α} {i : Nat} {x : α} (h : l[i]? = some x) : (l.take (i + 1)).foldl f b = f ((l.take i).foldl f b) x := by
  rw [List.take_succ, h, List.foldl_append]
  rfl
theorem d_blocked_mask (T : Mo K mg) : Def P w K mg base CX0 1 "blocked_mask" ["pairs", "taken"] (SpP 2 (pBlocked K)) := by
  obtain ⟨fd, F⟩ := T.f_blocked_mask
  refine ⟨_, fd, F.ok sc_blocked_mask spP_len (fun cdv A outer s H vs Q E hr h => ?_), T.g_blocked_mask, F.kp, F.bindsN fun _ _ _ _ _ _ us hl => match us, hl with | [_, _], _ => rfl⟩
  have hu := hu_of hr
  obtain ⟨_, G, P, sm, hp, kq⟩ := h
  have wd : Wd none G H := .none sm
  refine ⟨_, PSs.nox (pss_cons (ps_set (i := 2) sc_blocked_mask.nd rfl (Or.inl rfl) pe_int)
    (pss_cons (ps_for PassesOwn.never rfl (pi_list (pv 0)) (pg_tup rfl (pgs_cons (pg_name (i := 3) sc_blocked_mask.nd rfl (Or.inl rfl)) (pgs_cons (pg_name (i := 4) sc_blocked_mask.nd rfl (Or.inl rfl)) pgs_nil)))
      (pss_one (ps_if (pt_cmpR op_eq (pe_op op_andNN (pv 3) (pv 1)) pe_int (by rfl)) (pss_one (ps_set (i := 2) sc_blocked_mask.nd rfl (Or.inl rfl) (pe_op op_orNN (pv 2) (pv 4)))) pss_nil)))
    (pss_one (ps_ret (pv 2))))), ?_⟩
  obtain ⟨v, ps, t, rfl, hv, k⟩ := hp
  obtain ⟨c, xs, rfl, hq, ha⟩ := dp_lst hv
  have hlen := dpa_len ha
  rw [List.length_map] at hlen
  walk_at "ev"
  intro H1 e1 w1
  walk_at "ev"
  refine s_forL (K := K) w1 (ev_var rfl ⟨c, _, rfl, hq, fun i σ G2 H2 => Stp (Bg none) G H G2 H2 ∧ Wd none G2 H2 ∧ ∃ z u, σ = [some (.ref c), some (.int (t : Int)), some (.int ((blocked (ps.take i) t : Nat) : Int)), z, u], ⟨fun i σ G2 H2 h => ⟨h.1.gg, h.2.1⟩, ?_⟩, fun H2 e2 w2 => ⟨e1.trans e2, w2, _, _, rfl⟩, ?_⟩)
  · rintro σ G2 H2 ⟨e2, w2, z, u, rfl⟩
    walk_at "ev"
    intro H3 e3 w3
    rw [hlen, List.take_length]
    exact kq _ _ _ (e2.trans e3) (k _ (e2.trans e3).gg)
  · rintro i x σ G2 H2 hi ⟨e2, w2, z, u, rfl⟩
    obtain ⟨d0, hd1, hd2⟩ := dpa_get (Dpam ha e2.gg) hi
    obtain ⟨p, hp1, rfl⟩ := get_map hd1
    refine gw_two hd2 w2.same fun v1 v2 h1 h2 => ?_
    obtain rfl := dp_int h1
    obtain rfl := dp_int h2
    refine s_if w2 (et_test ?_)
    walk_at "ev"
    refine rv_nn trivial ?_
    walk_at "ev"
    refine rv_eqB rfl ⟨_, rfl, fun H3 e3 w3 => ⟨fun hc => ?_, fun hc => ?_⟩⟩
    · walk_at "ev"
      refine rv_nn trivial ?_
      intro H4 e4 w4
      refine ⟨G2, (e2.trans e3).trans e4, w4, some (.int (p.1 : Int)), some (.int (p.2 : Int)), ?_⟩
      unfold blocked
      rw [fold_snoc hp1, if_pos]
      · rfl
      · have := V.int.inj (of_decide_eq_true hc)
        omega
    · refine ⟨G2, e2.trans e3, w3, some (.int (p.1 : Int)), some (.int (p.2 : Int)), ?_⟩
      unfold blocked
      rw [fold_snoc hp1, if_neg]
      · rfl
      · intro z0
        rw [z0] at hc
        exact absurd hc (by decide)
def pComing (K : PySem.W.Frag) : List V → Hp → (V → Hp → Prop) → Prop := fun vs G P => ∃ (v : V) (ps : List (Nat × Nat)) (t room : Nat), vs = [v, .int (t : Int), .int (room : Int)] ∧ Dp K G v (.list (ps.map encP)) ∧ ∀ G', Same G G' → P (.int ((coming ps t room : Nat) : Int)) G'
theorem d_coming_mask (T : Mo K mg) : Def P w K mg base CX0 2 "coming_mask" ["pairs", "taken", "room"] (SpP 3 (pComing K)) := by
  obtain ⟨fd, F⟩ := T.f_coming_mask
  refine ⟨_, fd, F.ok sc_coming_mask spP_len (fun cdv A outer s H vs Q E hr h => ?_), T.g_coming_mask, F.kp, F.bindsN fun _ _ _ _ _ _ us hl => match us, hl with | [_, _, _], _ => rfl⟩
  have hu := hu_of hr
  obtain ⟨_, G, P, sm, hp, kq⟩ := h
  have wd : Wd none G H := .none sm
  refine ⟨_, PSs.nox (pss_one (ps_ret (pe_op op_andNot (pe_op op_andNot (pv 2) (pe_un un_inv (pv 1))) (pe_un un_inv (pe_d (d_blocked_mask T) (hr.mono (by decide)) (by rfl) pass0 (pa_cons (pv 0) (pa_cons (pv 1) pa_nil))))))), ?_⟩
  obtain ⟨v, ps, t, room, rfl, hv, k⟩ := hp
  walk_at "ev"
  refine rv_not (rv_andNot ?_)
  walk_at "ev"
  refine ev_call (ea_cons (ev_var rfl (ea_cons (ev_var rfl (ea_nil ⟨rfl, v, ps, t, rfl, hv, fun G2 e2 => ?_⟩)))))
  refine rv_not (rv_andNot fun H3 e3 w3 => ?_)
  exact kq _ _ _ e3 (k _ e3.gg)
/-- the greatest layered part, by turns; n bounds them -/
def gwi (ps : List (Nat × Nat)) (room : Nat) : Nat → Nat → Nat
  | 0, t => t
  | n + 1, t => if coming ps t room = 0 then t else gwi ps room n (t ||| coming ps t room)
theorem coming_off (ps : List (Nat × Nat)) (t room i : Nat) (h : (coming ps t room).testBit i = true) : room.testBit i = true ∧ t.testBit i = false := by
  unfold coming at h
  rw [testBit_diff, testBit_diff, Bool.and_eq_true, Bool.and_eq_true] at h
  obtain ⟨⟨h1, h2⟩, _⟩ := h
  exact ⟨h1, by simpa using h2⟩
theorem sub_le {a b : Nat} (h : ∀ i, a.testBit i = true → b.testBit i = true) : a ≤ b := by
  have e : a &&& b = a := by
    apply Nat.eq_of_testBit_eq
    intro i
    rw [Nat.testBit_and]
    cases q : a.testBit i with
    | false => rfl
    | true => rw [h i q]; rfl
  rw [← e]
  exact Nat.and_le_right
theorem or_grow {t c : Nat} (hc : c ≠ 0) (hd : ∀ i, c.testBit i = true → t.testBit i = false) : t < t ||| c := by
  have e : t + c = t ||| c := add_or (by
    apply Nat.eq_of_testBit_eq
    intro i
    rw [Nat.testBit_and, Nat.zero_testBit]
    cases q : c.testBit i with
    | false => rw [Bool.and_false]
    | true => rw [hd i q]; rfl)
  omega
def pGreatest (K : PySem.W.Frag) : List V → Hp → (V → Hp → Prop) → Prop := fun vs G P => ∃ (v : V) (ps : List (Nat × Nat)) (room : Nat), vs = [v, .int (room : Int)] ∧ Dp K G v (.list (ps.map encP)) ∧ ∀ G', Same G G' → P (.int ((gwi ps room (room + 1) 0 : Nat) : Int)) G'
theorem d_greatest_within (T : Mo K mg) : Def P w K mg base CX0 3 "greatest_within" ["pairs", "room"] (SpP 2 (pGreatest K)) := by
  obtain ⟨fd, F⟩ := T.f_greatest_within
  refine ⟨_, fd, F.ok sc_greatest_within spP_len (fun cdv A outer s H vs Q E hr h => ?_), T.g_greatest_within, F.kp, F.bindsN fun _ _ _ _ _ _ us hl => match us, hl with | [_, _], _ => rfl⟩
  have hu := hu_of hr
  obtain ⟨_, G, P, sm, hp, kq⟩ := h
  have wd : Wd none G H := .none sm
  refine ⟨_, PSs.nox (pss_cons (ps_set (i := 2) sc_greatest_within.nd rfl (Or.inl rfl) pe_int)
    (pss_cons (ps_set (i := 3) sc_greatest_within.nd rfl (Or.inl rfl) (pe_d (d_coming_mask T) (hr.mono (by decide)) (by rfl) pass0 (pa_cons (pv 0) (pa_cons (pv 2) (pa_cons (pv 1) pa_nil)))))
    (pss_cons (ps_while PassesOwn.never (pt_cmpR op_ne (pv 3) pe_int (by rfl)) (pss_cons (ps_set (i := 2) sc_greatest_within.nd rfl (Or.inl rfl) (pe_op op_orNN (pv 2) (pv 3)))
    (pss_one (ps_set (i := 3) sc_greatest_within.nd rfl (Or.inl rfl) (pe_d (d_coming_mask T) (hr.mono (by decide)) (by rfl) pass0 (pa_cons (pv 0) (pa_cons (pv 2) (pa_cons (pv 1) pa_nil))))))))
    (pss_one (ps_ret (pv 2)))))), ?_⟩
  obtain ⟨v, ps, room, rfl, hv, k⟩ := hp
  walk_at "ev"
  intro H1 e1 w1
  walk_at "ev"
  refine ev_call (ea_cons (ev_var rfl (ea_cons (ev_var rfl (ea_cons (ev_var rfl (ea_nil ⟨rfl, v, ps, 0, room, rfl, hv, fun G2 e2 H2 e3 w2 => ?_⟩)))))))
  refine s_seq ?_
  refine s_while (b := none) (fun m σ G3 H3 => Stp (Bg none) G H G3 H3 ∧ Wd none G3 H3 ∧ ∃ t : Nat, σ = [some v, some (.int (room : Int)), some (.int (t : Int)), some (.int ((coming ps t room : Nat) : Int))] ∧ (∀ i, t.testBit i = true → room.testBit i = true) ∧ m = room - t ∧ ∃ j : Nat, room - t < j ∧ gwi ps room j t = gwi ps room (room + 1) 0) room
    ⟨e1.trans e3, w2, 0, rfl, fun i h => by simp at h, rfl, room + 1, by omega, rfl⟩ ?_
  rintro m σ G3 H3 ⟨e3, w3, t, rfl, ht, hm, j, hj, hg⟩
  obtain ⟨j, rfl⟩ : ∃ j', j = j' + 1 := ⟨j - 1, by omega⟩
  refine ⟨w3, et_test ?_⟩
  walk_at "ev"
  refine rv_neB rfl ⟨_, rfl, fun H4 e4 w4 => ⟨fun hc => ?_, fun hc => ?_⟩⟩
  · have hne : coming ps t room ≠ 0 := fun z => by
      rw [z] at hc
      exact absurd hc (by decide)
    have hoff := coming_off ps t room
    have hlt := or_grow hne fun i h => (hoff i h).2
    have hsub : ∀ i, (t ||| coming ps t room).testBit i = true → room.testBit i = true := fun i h => by
      rw [Nat.testBit_or, Bool.or_eq_true] at h
      exact h.elim (ht i) fun q => (hoff i q).1
    have hle := sub_le hsub
    walk_at "ev"
    refine rv_nn trivial fun H5 e5 w5 => ?_
    walk_at "ev"
    refine ev_call (ea_cons (ev_var rfl (ea_cons (ev_var rfl (ea_cons (ev_var rfl (ea_nil ⟨rfl, v, ps, t ||| coming ps t room, room, rfl, Dpm hv e3.gg, fun G6 e6 H6 e7 w6 => ?_⟩)))))))
    refine ⟨room - (t ||| coming ps t room), by omega, G6, ((e3.trans e4).trans e5).trans e7, w6, _, rfl, hsub, rfl, j, by omega, ?_⟩
    rw [← hg]
    show _ = if coming ps t room = 0 then t else gwi ps room j (t ||| coming ps t room)
    rw [if_neg hne]
  · have hz : coming ps t room = 0 := by
      have h1 : decide (V.int ((coming ps t room : Nat) : Int) = V.int 0) = true := by
        cases q : decide (V.int ((coming ps t room : Nat) : Int) = V.int 0) with
        | true => rfl
        | false => rw [q] at hc; cases hc
      have := V.int.inj (of_decide_eq_true h1)
      omega
    walk_at "ev"
    intro H5 e5 w5
    have e6 : gwi ps room (room + 1) 0 = t := by
      rw [← hg]
      show (if coming ps t room = 0 then t else _) = t
      rw [if_pos hz]
    rw [← e6]
    exact kq _ _ _ ((e3.trans e4).trans e5) (k _ ((e3.trans e4).trans e5).gg)
end
end FD
namespace FD
open PySem PyProof.Rows L2
section
variable {P : Program} {w : World} {K : PySem.W.Frag} {mg : Str → Option Value} {base : Heap}
local macro_rules | `(tactic| walk_at "ev") => `(tactic| repeat (first | with_reducible refine s_seq ?_ | with_reducible refine s_skip ?_ | with_reducible refine s_gn ?_ | with_reducible refine ev_op ?_ | with_reducible refine ev_un ?_ | ((with_reducible refine' ev_var ?hv ?_); (case hv => rfl)) | with_reducible refine ev_c ?_ | with_reducible refine ev_cb ?_ | with_reducible refine ea_cons ?_ | with_reducible refine ea_nil ?_ | with_reducible refine et_test ?_ | with_reducible refine et_B ?_ | with_reducible refine s_ret (by assumption) ?_ | with_reducible refine s_asg (by assumption) ?_))
def BookOk (R : List Str) (rs : List RecT) : Prop := (∀ r ∈ rs, In1 R r.2) ∧ R.length ≤ 7 ∧ rs.length ≤ 1000
def comTab (R : List Str) (rows : List RowT) : List Nat := (List.range (2 ^ R.length)).map fun t => coming (pairsOf R rows) t (fullOf R.length)
def pComTab (K : PySem.W.Frag) : List V → Hp → (V → Hp → Prop) → Prop := fun vs G P => ∃ (v : V) (R : List Str) (rs : List RecT), vs = [v] ∧ BookIs K G v R rs ∧ BookOk R rs ∧ ∀ v' G', Same G G' → Dp K G' v' (.list ((comTab R (rs.map (·.2))).map encN)) → P v' G'
theorem full_succ (n : Nat) : fullOf n + 1 = 2 ^ n := by
  unfold fullOf
  have := Nat.one_le_two_pow (n := n)
  omega
theorem pow_small {n : Nat} (h : n ≤ 7) : 2 ^ n ≤ 128 := Nat.le_trans (Nat.pow_le_pow_right (by decide) h) (by decide)
theorem d_coming_table (T : Mo K mg) : Def P w K mg base CX0 4 "coming_table" ["book"] (SpP 1 (pComTab K)) := by
  obtain ⟨fd, F⟩ := T.f_coming_table
  refine ⟨_, fd, F.ok sc_coming_table spP_len (fun cdv A outer s H vs Q E hr h => ?_), T.g_coming_table, F.kp, F.bindsN fun _ _ _ _ _ _ us hl => match us, hl with | [_], _ => rfl⟩
  have hu := hu_of hr
  obtain ⟨_, G, P, sm, hp, kq⟩ := h
  have wd : Wd none G H := .none sm
  refine ⟨_, PSs.nox (pss_cons (ps_set (i := 1) sc_coming_table.nd rfl (Or.inr rfl) (pe_d (d_row_masks T) (hr.mono (by decide)) (by rfl) pass0 (pa_cons (pv 0) pa_nil)))
    (pss_cons (ps_set (i := 2) sc_coming_table.nd rfl (Or.inr rfl) (pe_d (d_full_mask T) (hr.mono (by decide)) (by rfl) pass0 (pa_cons (pe_fld (pv 0) rfl) pa_nil)))
    (pss_one (ps_ret (pe_lc (own := [("taken", 3)]) (g := gName 3) (tt := tYes) rfl sc_coming_table.nd (pi_range1 (by rfl) T.n_range (pa_cons (pe_op op_add (pv 2) pe_int) pa_nil)) (blkOk_by (N := ["book", "pairs", "full", "taken"]) (sc := defScope s_coming_table) (by decide +kernel)) (fun _ _ _ _ _ => (pg_name (i := 3) sc_coming_table.nd rfl (Or.inl rfl))) (fun _ _ _ _ _ => pts_nil) (fun _ _ _ _ _ => (blk_te (pe_d (d_coming_mask T) (hr.mono (by decide)) (by rfl) pass0 (pa_cons (pv 1) (pa_cons (pv 3) (pa_cons (pv 2) pa_nil)))) (by (try dsimp only [Cx.blk, Cx.nox, cxOf]); (try rfl))))))))), ?_⟩
  obtain ⟨v, R, rs, rfl, hB, hok, k⟩ := hp
  obtain ⟨hin, hl, hrl⟩ := id hok
  walk_at "ev"
  refine ev_call (ea_cons (ev_var rfl (ea_nil ⟨rfl, v, R, rs, rfl, hB, hin, hl, hrl, fun ps G1 e1 hps H1 s1 w1 => ?_⟩)))
  walk_at "ev"
  refine ev_call (ea_cons (ev_reasons (T := T) (ev_var rfl ⟨R, rs, bookIs_mono e1 hB, fun v1 hv1 => ea_nil ⟨rfl, v1, R, rfl, hv1, hl, fun G2 e2 H2 s2 w2 => ?_⟩⟩)))
  walk_at "ev"
  have h2 := pow_small hl
  have h3 := full_succ R.length
  refine lcRa (K := K) (fullOf R.length + 1) (fun _ => true) (fun t => encN (coming (pairsOf R (rs.map (·.2))) t (fullOf R.length))) (by omega) (fun z => rfl) ?_
  walk_at "ev"
  refine rv_I0 (ea_nil ⟨rfl, fun i G3 hi e3 => et_yes ⟨rfl, fun _ => ?_⟩, fun v G3 e3 hv H3 s3 w3 => ?_⟩)
  · exact ev_call (ea_cons (ev_var rfl (ea_cons (ev_var rfl (ea_cons (ev_var rfl (ea_nil ⟨rfl, ps, _, i, _, rfl, Dpm hps (e2.trans e3), fun G4 e4 => .int _⟩)))))))
  · refine kq _ _ _ ((s1.trans s2).trans s3) (k _ _ ((s1.trans s2).trans s3).gg ?_)
    unfold comTab
    rw [List.map_map, ← h3]
    have e : (List.range (fullOf R.length + 1)).filter (fun _ => true) = List.range (fullOf R.length + 1) := List.filter_eq_self.mpr fun _ _ => rfl
    rw [e] at hv
    exact hv
def bitSum (cs acc : List Nat) (t : Nat) (bs : List Nat) : Nat := (bs.map fun b => acc.getD (t ||| b) 0).sum
def endStep (cs acc : List Nat) (t : Nat) : List Nat := acc.set t (bitSum cs acc t (bitsOf (cs.getD t 0)))
def endStart (cs : List Nat) : List Nat := (List.replicate cs.length 0).set (cs.length - 1) 1
def endCounts (cs : List Nat) : List Nat := (List.range (cs.length - 1)).reverse.foldl (endStep cs) (endStart cs)
def TabOk (cs : List Nat) : Prop := 1 ≤ cs.length ∧ cs.length ≤ 1000 ∧ ∀ t, t < cs.length → Builtin.Int.intBits (cs.getD t 0 : Nat) ≤ 100 ∧ ∀ b ∈ bitsOf (cs.getD t 0), t ||| b < cs.length
def pEnding (K : PySem.W.Frag) : List V → Hp → (V → Hp → Prop) → Prop := fun vs G P => ∃ (v : V) (cs : List Nat), vs = [v] ∧ Dp K G v (.list (cs.map encN)) ∧ TabOk cs ∧ ∀ v' G', Same G G' → Dp K G' v' (.list ((endCounts cs).map encN)) → P v' G'
abbrev vN (n : Nat) : V := .int (n : Int)
theorem dpa_encN : ∀ l : List Nat, DpAll K G (l.map vN) (l.map encN)
  | [] => .nil
  | s :: l => .cons (.int _) (dpa_encN l)
theorem dpa_encN_inv {G : Hp} : ∀ {l : List Nat} {vs : List V}, DpAll K G vs (l.map encN) → vs = l.map vN
  | [], _, h => by
    cases h
    rfl
  | s :: l, _, h => by
    cases h with
    | cons a t =>
      cases a
      rw [dpa_encN_inv t]
      rfl
theorem dp_nats {G : Hp} {v : V} {l : List Nat} (h : Dp K G v (.list (l.map encN))) : ∃ a, v = .ref a ∧ SqL K G a (l.map vN) := by
  obtain ⟨a, xs, e, q, h⟩ := dp_lst h
  rw [dpa_encN_inv h] at q
  exact ⟨a, e, q⟩
theorem len_foldl_set (cs : List Nat) : ∀ (ts : List Nat) (acc : List Nat), (ts.foldl (endStep cs) acc).length = acc.length
  | [], _ => rfl
  | t :: ts, acc => by
    show (ts.foldl (endStep cs) (endStep cs acc t)).length = _
    rw [len_foldl_set cs ts]
    unfold endStep
    rw [List.length_set]
theorem sum_snoc {l : List Nat} {f : Nat → Nat} {i : Nat} {x : Nat} (h : l[i]? = some x) : ((l.take (i + 1)).map f).sum = ((l.take i).map f).sum + f x := by
  rw [map_snoc h, List.sum_append]
  simp
theorem getD_map {α β : Type} {l : List α} {f : α → β} {i : Nat} {d : α} (h : i < l.length) : (l.map f)[i]? = some (f (l.getD i d)) := by
  rw [List.getElem?_map, List.getElem?_eq_getElem h, List.getD_eq_getElem?_getD, List.getElem?_eq_getElem h]
  rfl
theorem rev_range {n i : Nat} (h : i < n) : (List.range n).reverse[i]? = some (n - 1 - i) := by
  rw [List.getElem?_reverse (by rw [List.length_range]; exact h), List.length_range, List.getElem?_range (by omega)]
theorem d_ending_counts (T : Mo K mg) : Def P w K mg base CX0 2 "ending_counts" ["coming"] (SpP 1 (pEnding K)) := by
  obtain ⟨fd, F⟩ := T.f_ending_counts
  refine ⟨_, fd, F.ok sc_ending_counts spP_len (fun cdv A outer s H vs Q E hr h => ?_), T.g_ending_counts, F.kp, F.bindsN fun _ _ _ _ _ _ us hl => match us, hl with | [_], _ => rfl⟩
  have hu := hu_of hr
  obtain ⟨_, G, P, sm, hp, kq⟩ := h
  have wd : Wd none G H := .none sm
  refine ⟨_, PSs.nox (pss_cons (ps_set (i := 1) sc_ending_counts.nd rfl (Or.inl rfl) (pe_op op_sub (pe_callB call_len_seq (by rfl) T.n_len (by decide +kernel) (pa_cons (pv 0) pa_nil)) pe_int))
    (pss_cons (ps_setLc (i := 2) (own := [("taken", 3)]) (g := gName 3) (tt := tYes) rfl sc_ending_counts.nd rfl rfl (sw_true rfl rfl rfl (by decide +kernel)) (pi_list (pv 0)) (blkOk_by (N := ["coming", "last", "counts", "taken", "total", "bit"]) (sc := defScope s_ending_counts) (by decide +kernel)) (fun _ _ _ _ _ => (pg_name (i := 3) sc_ending_counts.nd rfl (Or.inl rfl))) (fun _ _ _ _ _ => pts_nil) (fun _ _ _ _ _ => (blk_te pe_int (by (try dsimp only [Cx.blk, Cx.nox, cxOf]); (try rfl)))))
    (pss_cons (ps_asg pe_int (pg_sub (pv 2) (pv 1) set_list))
    (pss_cons (ps_for PassesOwn.never rfl (pi_revR (by rfl) T.n_reversed (prg_1 (by rfl) T.n_range (pv 1))) (pg_name (i := 3) sc_ending_counts.nd rfl (Or.inl rfl))
      (pss_cons (ps_set (i := 4) sc_ending_counts.nd rfl (Or.inl rfl) pe_int)
    (pss_cons (ps_for PassesOwn.never rfl (pi_list (pe_d (d_bits_of T) (hr.mono (by decide)) (by rfl) pass0 (pa_cons (pe_ix ix_list (pv 0) (pv 3) (fun _ _ => rfl)) pa_nil))) (pg_name (i := 5) sc_ending_counts.nd rfl (Or.inl rfl))
      (pss_one (ps_set (i := 4) sc_ending_counts.nd rfl (Or.inl rfl) (pe_op op_add (pv 4) (pe_ix ix_list (pv 2) (pe_op op_orNN (pv 3) (pv 5)) (fun _ _ => rfl))))))
    (pss_one (ps_asg (pv 4) (pg_sub (pv 2) (pv 3) set_list))))))
    (pss_one (ps_ret (pv 2))))))), ?_⟩
  obtain ⟨v, cs, rfl, hv, hok, k⟩ := hp
  obtain ⟨hl1, hl2, hok⟩ := hok
  obtain ⟨a, rfl, hq⟩ := dp_nats hv
  walk_at "ev"
  refine rv_lenE (.inl hv) ?_
  walk_at "ev"
  refine rv_I0 fun H1 s1 w1 => ?_
  rw [List.length_map]
  have e0 : ((cs.length : Nat) : Int) - 1 = ((cs.length - 1 : Nat) : Int) := by omega
  rw [e0]
  refine s_asg w1 (lcL (K := K) (ev_var rfl ⟨a, _, rfl, hq, by rw [List.length_map]; omega, fun i acc G2 => Same G G2 ∧ acc = (List.replicate i 0).map vN, ⟨Same.refl G, rfl⟩, fun i x G2 acc hx e2 iv hacc => ⟨_, fun _ _ => gv_name, rfl, et_yes ⟨fun _ => ev_c ⟨iv.1, ?_⟩, fun z => nomatch z⟩⟩, fun acc G2 e2 iv hacc c hc H2 s2 w2 => ?_⟩))
  · rw [iv.2, List.replicate_succ']
    simp
  have hacc2 := iv.2
  rw [List.length_map] at hacc2
  have hGc : G c = none := e2.free hc
  have hHc1 : H1 c = none := s2.newAt hGc upd_same
  have hHc : H c = none := Classical.byContradiction fun z => s1.al c z hHc1
  have hx2 : H2 c = some (.lst acc) := s2.gh _ _ upd_same
  have s3 := (s1.trans s2).forget
  have w3 : Wd none G H2 := .none s3.gh
  clear s2 w2
  walk_at "ev"
  refine s_setI (k := cs.length - 1) w3 rfl rfl hx2 (fun z => nomatch z) (by rw [hacc2, List.length_map, List.length_replicate]; omega) (ev_c fun H3 s4 w4 hx3 => ?_)
  have hx4 : upd H3 c (.lst (acc.set (cs.length - 1) (.int 1))) c = some (.lst ((endStart cs).map vN)) := by
    rw [upd_same, hacc2]
    unfold endStart
    rw [List.map_set]
    rfl
  have s5 : Stp (Bg none) G H G (upd H3 c (.lst (acc.set (cs.length - 1) (.int 1)))) := ((s3.trans s4).forget).mut hHc hGc
  generalize upd H3 c (.lst (acc.set (cs.length - 1) (.int 1))) = H4 at hx4 s5
  have w5 : Wd none G H4 := .none s5.gh
  clear s4 w4 hx3 hx2 s3 w3 s1 w1
  walk_at "ev"
  refine s_forRR w5 (ev_var rfl ⟨cs.length - 1, rfl, by omega, fun i σ G2 H2 => G = G2 ∧ Stp (Bg none) G H G H2 ∧ (∃ z1 z2 z3, σ = [some (.ref a), some (.int ((cs.length - 1 : Nat) : Int)), some (.ref c), z1, z2, z3]) ∧ H2 c = some (.lst ((((List.range (cs.length - 1)).reverse.take i).foldl (endStep cs) (endStart cs)).map vN)),
    ⟨fun i σ G2 H2 h => by obtain ⟨rfl, h1, _⟩ := h; exact ⟨Same.refl _, .none h1.gh⟩, ?_⟩, fun H6 s6 w6 => ⟨rfl, (s5.trans s6).forget, ⟨_, _, _, rfl⟩, s6.hh _ _ hx4 (fun z => nomatch z)⟩, ?_⟩)
  · rintro σ G2 H2 ⟨rfl, h1, ⟨z1, z2, z3, rfl⟩, h3⟩
    have hl3 : (List.range (cs.length - 1)).reverse.take (cs.length - 1) = (List.range (cs.length - 1)).reverse := List.take_of_length_le (by rw [List.length_reverse, List.length_range]; omega)
    rw [hl3] at h3
    have w8 : Wd none G H2 := .none h1.gh
    refine s_ret w8 (ev_var rfl fun H3 s3 w3 => ?_)
    have s4 := ((h1.trans s3).forget).know hHc (s3.hh _ _ h3 (fun z => nomatch z)) hGc
    exact kq _ _ _ s4 (k _ _ s4.gg (.lst (SqL.of upd_same) (dpa_encN _)))
  · rintro i σ G2 H2 hi ⟨rfl, h1, ⟨z1, z2, z3, rfl⟩, h3⟩
    have hg := rev_range hi
    generalize hacc : ((List.range (cs.length - 1)).reverse.take i).foldl (endStep cs) (endStart cs) = ac at h3
    have hlen : ac.length = cs.length := by
      rw [← hacc, len_foldl_set]
      unfold endStart
      rw [List.length_set, List.length_replicate]
    have hnext : ((List.range (cs.length - 1)).reverse.take (i + 1)).foldl (endStep cs) (endStart cs) = endStep cs ac (cs.length - 1 - 1 - i) := by rw [fold_snoc hg, hacc]
    generalize ht : cs.length - 1 - 1 - i = t at hg hnext
    have htl : t < cs.length - 1 := by omega
    have w8 : Wd none G H2 := .none h1.gh
    obtain ⟨hb1, hb2⟩ := hok t (by omega)
    -- the counts are known while the sum is taken
    have hGk := same_new (o := .lst (ac.map vN)) hGc
    have w9 : Wd none (upd G c (.lst (ac.map vN))) H2 := .none ((h1.know hHc h3 hGc).gh)
    clear w8
    walk_at "ev"
    intro H5 s6 w6
    walk_at "ev"
    refine s_forL (K := K) w6 (ev_call (ea_cons ?_))
    walk_at "ev"
    refine rv_ixL (sql_mono hGk hq) (v := vN (cs.getD t 0)) (getD_map (by omega)) (ea_nil ⟨rfl, cs.getD t 0, rfl, hb1, fun v' G3 e3 hv' => ?_⟩)
    obtain ⟨p, rfl, hp⟩ := dp_nats hv'
    refine ⟨p, _, rfl, hp, fun j σ G4 H4 => Same G3 G4 ∧ Stp (Bg none) (upd G c (.lst (ac.map vN))) H2 G4 H4 ∧ Wd none G4 H4 ∧ ∃ z, σ = [some (.ref a), some (.int ((cs.length - 1 : Nat) : Int)), some (.ref c), some (vN t), some (vN (bitSum cs ac t ((bitsOf (cs.getD t 0)).take j))), z], ⟨fun j σ G4 H4 h => ?_, ?_⟩, fun H6 s7 w7 => ?_, ?_⟩
    · exact ⟨h.1, h.2.2.1⟩
    · rintro σ G4 H4 ⟨_, s8, w8, z, rfl⟩
      rw [List.length_map, List.take_length]
      have s9 : Stp (Bg none) G H G H4 := (h1.trans (s8.back hGc)).forget
      have hx9 : H4 c = some (.lst (ac.map vN)) := s8.hh _ _ h3 (fun z => nomatch z)
      have w10 : Wd none G H4 := .none s9.gh
      clear w8
      walk_at "ev"
      refine s_setI (k := t) w10 rfl rfl hx9 (fun z => nomatch z) (by rw [List.length_map]; omega) (ev_var rfl fun H10 s10 w11 hx10 => ?_)
      refine ⟨G, rfl, ((s9.trans s10).forget).mut hHc hGc, ⟨_, _, _, rfl⟩, ?_⟩
      rw [upd_same, hnext]
      unfold endStep
      rw [List.map_set]
    · exact ⟨Same.refl _, s6.trans s7, w7, _, rfl⟩
    · rintro j x σ G4 H4 hx ⟨e4, s8, w8, z, rfl⟩
      obtain ⟨bt, hbt, rfl⟩ := get_map hx
      have hbm := hb2 bt (List.mem_of_getElem? hbt)
      walk_at "ev"
      refine rv_nn (n := t) (m := bt) trivial ?_
      have hGc4 : G4 c = some (.lst (ac.map vN)) := s8.gg _ _ upd_same
      refine rv_ixL (SqL.of hGc4) (v := vN (ac.getD (t ||| bt) 0)) (getD_map (by omega)) ?_
      refine rv_I0 fun H10 s10 w11 => ⟨G4, e4, s8.trans s10, w11, some (vN bt), ?_⟩
      have e9 : bitSum cs ac t ((bitsOf (cs.getD t 0)).take (j + 1)) = bitSum cs ac t ((bitsOf (cs.getD t 0)).take j) + ac.getD (t ||| bt) 0 := sum_snoc hbt
      have e10 : ((bitSum cs ac t ((bitsOf (cs.getD t 0)).take j) : Nat) : Int) + ((ac.getD (t ||| bt) 0 : Nat) : Int) = ((bitSum cs ac t ((bitsOf (cs.getD t 0)).take (j + 1)) : Nat) : Int) := by rw [e9]; omega
      show _ = [some (V.ref a), some (V.int ((cs.length - 1 : Nat) : Int)), some (V.ref c), some (vN t), some (V.int ((bitSum cs ac t ((bitsOf (cs.getD t 0)).take (j + 1)) : Nat) : Int)), some (V.int (bt : Int))]
      rw [← e10]
      rfl
end
end FD
namespace FD
open PySem PyProof.Rows L2
section
variable {P : Program} {w : World} {K : PySem.W.Frag} {mg : Str → Option Value} {base : Heap}
local macro_rules | `(tactic| walk_at "ev") => `(tactic| repeat (first | with_reducible refine s_seq ?_ | with_reducible refine s_skip ?_ | with_reducible refine s_gn ?_ | with_reducible refine ev_op ?_ | with_reducible refine ev_un ?_ | ((with_reducible refine' ev_var ?hv ?_); (case hv => rfl)) | with_reducible refine ev_c ?_ | with_reducible refine ev_cb ?_ | with_reducible refine ea_cons ?_ | with_reducible refine ea_nil ?_ | with_reducible refine et_test ?_ | with_reducible refine et_B ?_ | with_reducible refine s_ret (by assumption) ?_ | with_reducible refine s_asg (by assumption) ?_))
theorem mem_bitsOf {m b : Nat} (h : b ∈ bitsOf m) : ∃ i, b = 2 ^ i ∧ m.testBit i = true := by
  unfold bitsOf at h
  obtain ⟨i, hi, rfl⟩ := List.mem_map.mp h
  exact ⟨i, rfl, (List.mem_filter.mp hi).2⟩
theorem full_bit {n i : Nat} (h : (fullOf n).testBit i = true) : i < n := by
  unfold fullOf at h
  rw [Nat.testBit_two_pow_sub_one] at h
  exact of_decide_eq_true h
theorem coming_lt (ps : List (Nat × Nat)) (t n : Nat) : coming ps t (fullOf n) < 2 ^ n := by
  have h : coming ps t (fullOf n) ≤ fullOf n := sub_le fun i h => (coming_off ps t (fullOf n) i h).1
  have := full_succ n
  omega
theorem tab_ok (R : List Str) (rows : List RowT) (hl : R.length ≤ 7) : TabOk (comTab R rows) := by
  have h1 := pow_small hl
  have h2 := Nat.one_le_two_pow (n := R.length)
  have hlen : (comTab R rows).length = 2 ^ R.length := by
    unfold comTab
    rw [List.length_map, List.length_range]
  refine ⟨by omega, by omega, fun t ht => ?_⟩
  rw [hlen] at ht
  have e : (comTab R rows).getD t 0 = coming (pairsOf R rows) t (fullOf R.length) := by
    unfold comTab
    rw [List.getD_eq_getElem?_getD, List.getElem?_map, List.getElem?_range ht]
    rfl
  rw [e, hlen]
  refine ⟨?_, fun b hb => ?_⟩
  · refine PySem.intBits_le_iff.mpr ?_
    have := coming_lt (pairsOf R rows) t R.length
    have h3 : (2 : Nat) ^ 7 ≤ 2 ^ 100 := Nat.pow_le_pow_right (by decide) (by decide)
    rw [Int.natAbs_natCast]
    omega
  · obtain ⟨i, rfl, hi⟩ := mem_bitsOf hb
    have := full_bit (coming_off _ _ _ i hi).1
    exact Nat.or_lt_two_pow ht (Nat.pow_lt_pow_right (by decide) this)
/-- the number of the orders, as the program counts them -/
def countOf (R : List Str) (rows : List RowT) : Nat := (endCounts (comTab R rows)).getD 0 0
theorem end_len (cs : List Nat) : (endCounts cs).length = cs.length := by
  unfold endCounts
  rw [len_foldl_set]
  unfold endStart
  rw [List.length_set, List.length_replicate]
def pBook (K : PySem.W.Frag) (res : List Str → List RecT → PyData) : List V → Hp → (V → Hp → Prop) → Prop := fun vs G P => ∃ (v : V) (R : List Str) (rs : List RecT), vs = [v] ∧ BookIs K G v R rs ∧ BookOk R rs ∧ ∀ v' G', Same G G' → Dp K G' v' (res R rs) → P v' G'
theorem d_count_orders (T : Mo K mg) : Def P w K mg base CX0 5 "count_orders" ["book"] (SpP 1 (pBook K fun R rs => encN (countOf R (rs.map (·.2))))) := by
  obtain ⟨fd, F⟩ := T.f_count_orders
  refine ⟨_, fd, F.ok sc_count_orders spP_len (fun cdv A outer s H vs Q E hr h => ?_), T.g_count_orders, F.kp, F.bindsN fun _ _ _ _ _ _ us hl => match us, hl with | [_], _ => rfl⟩
  have hu := hu_of hr
  obtain ⟨_, G, P, sm, hp, kq⟩ := h
  have wd : Wd none G H := .none sm
  refine ⟨_, PSs.nox (pss_one (ps_ret (pe_ix ix_list (pe_d (d_ending_counts T) (hr.mono (by decide)) (by rfl) pass0 (pa_cons (pe_d (d_coming_table T) (hr.mono (by decide)) (by rfl) pass0 (pa_cons (pv 0) pa_nil)) pa_nil)) pe_int (fun _ _ => rfl)))), ?_⟩
  obtain ⟨v, R, rs, rfl, hB, hok, k⟩ := hp
  have htab := tab_ok R (rs.map (·.2)) hok.2.1
  walk_at "ev"
  refine ev_call (ea_cons (ev_call (ea_cons (ev_var rfl (ea_nil ⟨rfl, v, R, rs, rfl, hB, hok, fun v1 G1 e1 hv1 => ea_nil ⟨rfl, v1, _, rfl, hv1, htab, fun v2 G2 e2 hv2 => ?_⟩⟩)))))
  walk_at "ev"
  have hl : 0 < (endCounts (comTab R (rs.map (·.2)))).length := by
    rw [end_len]
    exact htab.1
  refine rv_ixDL (i := 0) hv2 (getD_map (d := 0) hl) fun v3 hv3 H3 s3 w3 => kq _ _ _ s3 (k _ _ s3.gg hv3)
def layOf (R : List Str) (rows : List RowT) : Nat := gwi (pairsOf R rows) (fullOf R.length) (fullOf R.length + 1) 0
theorem d_layered_mask (T : Mo K mg) : Def P w K mg base CX0 4 "layered_mask" ["book"] (SpP 1 (pBook K fun R rs => encN (layOf R (rs.map (·.2))))) := by
  obtain ⟨fd, F⟩ := T.f_layered_mask
  refine ⟨_, fd, F.ok sc_layered_mask spP_len (fun cdv A outer s H vs Q E hr h => ?_), T.g_layered_mask, F.kp, F.bindsN fun _ _ _ _ _ _ us hl => match us, hl with | [_], _ => rfl⟩
  have hu := hu_of hr
  obtain ⟨_, G, P, sm, hp, kq⟩ := h
  have wd : Wd none G H := .none sm
  refine ⟨_, PSs.nox (pss_one (ps_ret (pe_d (d_greatest_within T) (hr.mono (by decide)) (by rfl) pass0 (pa_cons (pe_d (d_row_masks T) (hr.mono (by decide)) (by rfl) pass0 (pa_cons (pv 0) pa_nil)) (pa_cons (pe_d (d_full_mask T) (hr.mono (by decide)) (by rfl) pass0 (pa_cons (pe_fld (pv 0) rfl) pa_nil)) pa_nil))))), ?_⟩
  obtain ⟨v, R, rs, rfl, hB, hok, k⟩ := hp
  walk_at "ev"
  refine ev_call (ea_cons (ev_call (ea_cons (ev_var rfl (ea_nil ⟨rfl, v, R, rs, rfl, hB, hok.1, hok.2.1, hok.2.2, fun v1 G1 e1 hv1 => ?_⟩)))))
  refine ea_cons (ev_call (ea_cons (ev_reasons (T := T) (ev_var rfl ⟨R, rs, bookIs_mono e1 hB, fun u hu => ea_nil ⟨rfl, u, R, rfl, hu, hok.2.1, fun G2 e2 => ?_⟩⟩))))
  refine ea_nil ⟨rfl, v1, _, _, rfl, Dpm hv1 e2, fun G3 e3 H3 s3 w3 => kq _ _ _ s3 (k _ _ s3.gg (.int _))⟩
def standsOf (R : List Str) (rows : List RowT) : Bool := decide (layOf R rows = fullOf R.length)
theorem dec_int (a c : Nat) : decide (V.int (a : Int) = V.int (c : Int)) = decide (a = c) := decide_eq_decide.mpr ⟨fun h => by have := V.int.inj h; omega, fun h => by rw [h]⟩
theorem d_stands (T : Mo K mg) : Def P w K mg base CX0 5 "stands" ["book"] (SpP 1 (pBook K fun R rs => .bool (standsOf R (rs.map (·.2))))) := by
  obtain ⟨fd, F⟩ := T.f_stands
  refine ⟨_, fd, F.ok sc_stands spP_len (fun cdv A outer s H vs Q E hr h => ?_), T.g_stands, F.kp, F.bindsN fun _ _ _ _ _ _ us hl => match us, hl with | [_], _ => rfl⟩
  have hu := hu_of hr
  obtain ⟨_, G, P, sm, hp, kq⟩ := h
  have wd : Wd none G H := .none sm
  refine ⟨_, PSs.nox (pss_one (ps_ret (pe_cmpR op_eq (pe_d (d_layered_mask T) (hr.mono (by decide)) (by rfl) pass0 (pa_cons (pv 0) pa_nil)) (pe_d (d_full_mask T) (hr.mono (by decide)) (by rfl) pass0 (pa_cons (pe_fld (pv 0) rfl) pa_nil)) (by rfl)))), ?_⟩
  obtain ⟨v, R, rs, rfl, hB, hok, k⟩ := hp
  walk_at "ev"
  refine ev_call (ea_cons (ev_var rfl (ea_nil ⟨rfl, v, R, rs, rfl, hB, hok, fun v1 G1 e1 hv1 => ?_⟩)))
  obtain rfl := dp_int hv1
  refine ev_call (ea_cons (ev_reasons (T := T) (ev_var rfl ⟨R, rs, bookIs_mono e1 hB, fun u hu => ea_nil ⟨rfl, u, R, rfl, hu, hok.2.1, fun G2 e2 => ?_⟩⟩)))
  refine rv_eqB rfl fun H3 s3 w3 => kq _ _ _ s3 (k _ _ s3.gg ?_)
  rw [dec_int]
  exact .bl _
def pIdle (K : PySem.W.Frag) : List V → Hp → (V → Hp → Prop) → Prop := fun vs G P => ∃ (v : V) (r : RowT), vs = [v] ∧ RowIs K G v r ∧ ∀ G', Same G G' → P (.bl (decide (r = ([], [])))) G'
theorem d_Row_idle (T : Mo K mg) : DefP P w K mg base CX0 1 (cls K "Row") "idle" ["self"] (SpP 1 (pIdle K)) := by
  obtain ⟨p, g, fd, F, hp⟩ := T.f_Row_idle
  refine ⟨p, _, fd, F.ok sc_Row_idle spP_len (fun cdv A outer s H vs Q E hr h => ?_), hp, F.bindsN fun _ _ _ _ _ _ us hl => match us, hl with | [_], _ => rfl⟩
  have hu := hu_of hr
  obtain ⟨_, G, P, sm, hp, kq⟩ := h
  have wd : Wd none G H := .none sm
  refine ⟨_, PSs.nox (pss_one (ps_ret (pe_cmpR (op_eqW hr.units) (pe_fld (pv 0) rfl) (pe_tup pa_nil) (by rfl)))), ?_⟩
  obtain ⟨v, r, rfl, hr', k⟩ := hp
  walk_at "ev"
  refine ev_named (T := T) (ev_var rfl ⟨r, hr', fun v1 nm hv1 hnm => ?_⟩)
  refine ev_tup (ea_nil ⟨by decide, fun a ha => ?_⟩)
  refine rv_eqT (α := PySem.W.Tup Str) ⟨nm⟩ ⟨[]⟩ (Dpm hv1 (same_new ha)) (dp_newT .nil ha) (by decide) fun H3 s3 w3 => kq _ _ _ s3 ?_
  have e : decide (PySem.W.Tup.mk nm = PySem.W.Tup.mk []) = decide (r = ([], [])) := decide_eq_decide.mpr ⟨fun h => ?_, fun h => ?_⟩
  · rw [e]
    exact k _ s3.gg
  · have h1 : nm = [] := PySem.W.Tup.mk.inj h
    rw [h1] at hnm
    have h2 := List.append_eq_nil_iff.mp (List.nil_perm.mp hnm)
    exact Prod.ext h2.1 h2.2
  · rw [h] at hnm
    rw [List.perm_nil.mp hnm]
theorem ev_idle {b : Option (Addr × Addr)} {σ : L2.St} {G : Hp} {Q : V → Hp → Prop} {E : XK} {te : TE} (h : Ev b te σ G fun x G1 => ∃ r, RowIs K G1 x r ∧ ∀ G2, Same G1 G2 → Q (.bl (decide (r = ([], [])))) G2) : Ev b (tProp (cls K "Row") (SpP 1 (pIdle K)) [] E te) σ G Q :=
  ev_prop (Ev.mono h fun x G1 _ ⟨r, hr, q⟩ => by
    obtain ⟨a, dx, tp, tc, tn, nm, e1, e2, rest⟩ := id hr
    exact ⟨a, dx, _, e1, e2, x, r, rfl, hr, q⟩)
def stuckOf (R : List Str) (rs : List RecT) : List Str := (rs.filter fun r => !decide (r.2 = ([], [])) && decide (maskOf R r.2.1 &&& layOf R (rs.map (·.2)) = 0)).map (·.1)
theorem d_greatest_stuck (T : Mo K mg) : Def P w K mg base CX0 5 "greatest_stuck" ["book"] (SpP 1 (pBook K fun R rs => .tuple ((stuckOf R rs).map .str))) := by
  obtain ⟨fd, F⟩ := T.f_greatest_stuck
  refine ⟨_, fd, F.ok sc_greatest_stuck spP_len (fun cdv A outer s H vs Q E hr h => ?_), T.g_greatest_stuck, F.kp, F.bindsN fun _ _ _ _ _ _ us hl => match us, hl with | [_], _ => rfl⟩
  have hu := hu_of hr
  obtain ⟨_, G, P, sm, hp, kq⟩ := h
  have wd : Wd none G H := .none sm
  refine ⟨_, PSs.nox (pss_cons (ps_set (i := 1) sc_greatest_stuck.nd rfl (Or.inr rfl) (pe_d (d_layered_mask T) (hr.mono (by decide)) (by rfl) pass0 (pa_cons (pv 0) pa_nil)))
    (pss_one (ps_ret (pe_tupleOf (by rfl) T.n_tuple (pe_lc (own := [("mark", 2), ("row", 3)]) (g := gTup K 2 (gCons (gName 2) (gCons (gName 3) gNil))) (tt := _) rfl sc_greatest_stuck.nd (pi_list (pe_dm0 (d_Book_records T) T.cl_Book (pv 0) (hr.mono (by decide)) pass0)) (blkOk_by (N := ["book", "layered", "mark", "row"]) (sc := defScope s_greatest_stuck) (by decide +kernel)) (fun _ _ _ _ _ => (pg_tup rfl (pgs_cons (pg_name (i := 2) sc_greatest_stuck.nd rfl (Or.inl rfl)) (pgs_cons (pg_name (i := 3) sc_greatest_stuck.nd rfl (Or.inl rfl)) pgs_nil)))) (fun _ _ _ _ _ => (pts_one (blk_tt (PW.pt (pw_and (pt_not (pt_val (pe_dp (d_Row_idle T) T.cl_Row (pv 3) (hr.mono (by decide)) pass0))) (pw_and1 (pt_cmpR op_eq (pe_op op_andNN (pe_d (d_mask_of T) (hr.mono (by decide)) (by rfl) pass0 (pa_cons (pe_fld (pv 0) rfl) (pa_cons (pe_fld (pv 3) rfl) pa_nil))) (pv 1)) pe_int (by rfl))))) (by (try dsimp only [Cx.blk, Cx.nox, cxOf]); (try rfl))))) (fun _ _ _ _ _ => (blk_te (pv 2) (by (try dsimp only [Cx.blk, Cx.nox, cxOf]); (try rfl))))))))), ?_⟩
  obtain ⟨v, R, rs, rfl, hB, hok, k⟩ := hp
  walk_at "ev"
  refine ev_call (ea_cons (ev_var rfl (ea_nil ⟨rfl, v, R, rs, rfl, hB, hok, fun v1 G1 e1 hv1 H1 s1 w1 => ?_⟩)))
  obtain rfl := dp_int hv1
  walk_at "ev"
  refine ev_tupOf (lcL (K := K) (ev_meth (ev_var rfl ?_)))
  obtain ⟨a, dx, t, d, kvs, rfl, e2, rest⟩ := bookIs_mono e1 hB
  refine ⟨a, dx, _, rfl, e2, rfl, ea_nil ⟨rfl, _, R, rs, rfl, bookIs_mono e1 hB, fun v' G2 e2 hnew ⟨la, xs, ev', hla, hpr⟩ => ?_⟩⟩
  refine ⟨la, xs, ev', SqL.of hla, ?_, fun i acc G => Same G2 G ∧ DpAll K G acc ((((rs.take i).filter fun r => !decide (r.2 = ([], [])) && decide (maskOf R r.2.1 &&& layOf R (rs.map (·.2)) = 0)).map (·.1)).map .str), ⟨Same.refl _, .nil⟩, fun i x G3 acc hx e3 iv hacc => ?_, fun acc G3 e3 iv hacc q hq => ⟨(stuckOf R rs).map .str, .inl ?_, fun v G4 e4 hv H4 s4 w4 => kq _ _ _ (s1.trans s4) (k _ _ (s1.trans s4).gg hv)⟩⟩
  · rw [paired_len hpr]
    have := hok.2.2
    omega
  · obtain ⟨r, hr1, hr2⟩ := paired_get hpr hx
    have hrm : r ∈ rs := List.mem_of_getElem? hr1
    obtain ⟨tt, rv, rfl, ht, hrow⟩ := recAt_mono e3 hr2
    have hin := hok.1 r hrm
    refine ⟨_, fun H e Q q => ⟨tt, _, rfl, SqT.of (e _ _ ht), rfl, _, _, rfl, _, _, rfl, rfl, q⟩, rfl, ?_⟩
    have hno : (!decide (r.2 = ([], [])) && decide (maskOf R r.2.1 &&& layOf R (rs.map (·.2)) = 0)) = false → (((rs.take (i + 1)).filter fun r => !decide (r.2 = ([], [])) && decide (maskOf R r.2.1 &&& layOf R (rs.map (·.2)) = 0)).map (·.1)).map PyData.str = (((rs.take i).filter fun r => !decide (r.2 = ([], [])) && decide (maskOf R r.2.1 &&& layOf R (rs.map (·.2)) = 0)).map (·.1)).map PyData.str := fun hc => by
      rw [take_flt _ _ hr1, if_neg (by rw [hc]; decide), List.append_nil]
    refine et_and (et_not (et_test (ev_idle (ev_var rfl ⟨r.2, hrow, fun G4 e4 => ⟨_, rfl, fun hc => ?_, fun hc => ?_⟩⟩))))
    · walk_at "ev"
      refine ev_call (ea_cons (ev_reasons (T := T) (ev_var rfl ⟨R, rs, bookIs_mono (e1.trans (e2.trans (e3.trans e4))) hB, fun u hu => ?_⟩)))
      refine ea_cons (ev_pro (T := T) (ev_var rfl ⟨r.2, rowIs_mono e4 hrow, fun u2 hu2 => ea_nil ⟨rfl, u, u2, R, r.2.1, rfl, hu, hu2, hin.1, hok.2.1, fun G5 e5 => ?_⟩⟩))
      walk_at "ev"
      refine rv_nn trivial ?_
      walk_at "ev"
      refine rv_eqB rfl ⟨_, rfl, fun hc2 => ?_, fun hc2 => ⟨e3.trans (e4.trans e5), ?_⟩⟩
      · walk_at "ev"
        refine ⟨e3.trans (e4.trans e5), ?_⟩
        rw [take_flt _ _ hr1, if_pos (by rw [hc, ← dec_int]; exact hc2), List.map_append]
        exact dpa_snoc (Dpam iv.2 ((e3.trans (e4.trans e5)).trans (Same.refl _) |> fun _ => e4.trans e5)) (.str _)
      · rw [hno (by rw [hc, ← dec_int]; exact hc2)]
        exact Dpam iv.2 (e4.trans e5)
    · refine ⟨fun z => (nomatch z), fun _ => ⟨e3.trans e4, ?_⟩⟩
      rw [hno (by rw [hc]; rfl)]
      exact Dpam iv.2 e4
  · refine dp_newL ?_ hq
    have z := iv.2
    rw [paired_len hpr, List.take_length] at z
    exact z
end
end FD
namespace FD
open PySem PyProof.Rows L2
section
variable {P : Program} {w : World} {K : PySem.W.Frag} {mg : Str → Option Value} {base : Heap}
local macro_rules | `(tactic| walk_at "ev") => `(tactic| repeat (first | with_reducible refine s_seq ?_ | with_reducible refine s_skip ?_ | with_reducible refine s_gn ?_ | with_reducible refine ev_op ?_ | with_reducible refine ev_un ?_ | ((with_reducible refine' ev_var ?hv ?_); (case hv => rfl)) | with_reducible refine ev_c ?_ | with_reducible refine ev_cb ?_ | with_reducible refine ea_cons ?_ | with_reducible refine ea_nil ?_ | with_reducible refine et_test ?_ | with_reducible refine et_B ?_ | with_reducible refine s_ret (by assumption) ?_ | with_reducible refine s_asg (by assumption) ?_))
theorem letter_in0 : (List.range 26).all (fun k => !(Builtin.Str.occurrences "abcdefghijklmnopqrstuvwxyz" ⟨#[97 + k]⟩ 0 (("abcdefghijklmnopqrstuvwxyz" : Str).length) 1).isEmpty) = true := by decide +kernel
theorem letter_in {c : Nat} (h1 : 97 ≤ c) (h2 : c ≤ 122) : (!(Builtin.Str.occurrences "abcdefghijklmnopqrstuvwxyz" ⟨#[c]⟩ 0 (("abcdefghijklmnopqrstuvwxyz" : Str).length) 1).isEmpty) = true := by
  have h := List.all_eq_true.mp letter_in0 (c - 97) (List.mem_range.mpr (by omega))
  rw [show 97 + (c - 97) = c by omega] at h
  exact h
def Spelled (x : Str) (most : Int) : Prop := 1 ≤ x.length ∧ (x.length : Int) ≤ most ∧ x.length ≤ 1000 ∧ ∀ c ∈ x.cps.toList, 97 ≤ c ∧ c ≤ 122
def pSpelled : List V → Hp → (V → Hp → Prop) → Prop := fun vs G P => ∃ (x : Str) (most : Int), vs = [.str x, .int most] ∧ Spelled x most ∧ ∀ G', Same G G' → P (.bl true) G'
theorem d_is_spelled (T : Mo K mg) : Def P w K mg base CX0 1 "is_spelled" ["value", "most"] (SpP 2 pSpelled) := by
  obtain ⟨fd, F⟩ := T.f_is_spelled
  refine ⟨_, fd, F.ok sc_is_spelled spP_len (fun cdv A outer s H vs Q E hr h => ?_), T.g_is_spelled, F.kp, F.bindsN fun _ _ _ _ _ _ us hl => match us, hl with | [_, _], _ => rfl⟩
  have hu := hu_of hr
  obtain ⟨_, G, P, sm, hp, kq⟩ := h
  have wd : Wd none G H := .none sm
  refine ⟨_, PSs.nox (pss_cons (ps_if (PW.pt (pw_or (pt_not (pt_val (pe_callB call_isi (by rfl) T.n_isinstance (by decide +kernel) (pa_cons (pv 0) (pa_cons (pe_bltn (v := .ty "str") (by rfl) T.n_str (by decide +kernel) rfl) pa_nil))))) (pw_or1 (pt_not (pt_chain op_le op_le pe_int (pe_callB call_len_str (by rfl) T.n_len (by decide +kernel) (pa_cons (pv 0) pa_nil)) (pv 1)))))) (pss_one (ps_ret pe_bl)) pss_nil)
    (pss_one (ps_ret (pe_callB (cr_all rfl) (by rfl) T.n_all (by decide +kernel) (pa_cons (pe_lc (own := [("letter", 2)]) (g := gName 2) (tt := tYes) rfl sc_is_spelled.nd (pi_str (pv 0)) (blkOk_by (N := ["value", "most", "letter"]) (sc := defScope s_is_spelled) (by decide +kernel)) (fun _ _ _ _ _ => (pg_name (i := 2) sc_is_spelled.nd rfl (Or.inl rfl))) (fun _ _ _ _ _ => pts_nil) (fun _ _ _ _ _ => (blk_te (pe_cmpR op_in_str (pv 2) (C8.pe_gc (by rfl) (gc_str T.g_LETTERS)) (by rfl)) (by (try dsimp only [Cx.blk, Cx.nox, cxOf]); (try rfl))))) pa_nil))))), ?_⟩
  obtain ⟨x, most, rfl, ⟨h1, h2, h3, h4⟩, k⟩ := hp
  walk_at "ev"
  refine s_if wd (et_or (et_not (et_test ?_)))
  walk_at "ev"
  refine rv_isi (.str x) (T := "str") (r := true) (show kitB "str" "str" = some true by decide +kernel) ⟨_, rfl, (fun z => nomatch z), fun _ => et_not (et_test (ev_chain ?_))⟩
  walk_at "ev"
  refine rv_lenS (by omega) (rv_I0 ⟨_, rfl, fun _ => ?_, fun z => ?_⟩)
  · walk_at "ev"
    refine rv_I0 ⟨_, rfl, fun H1 s1 w1 => ⟨fun z => ?_, fun _ => ?_⟩⟩
    · rw [decide_eq_true h2] at z
      cases z
    walk_at "ev"
    refine lcStr (K := K) (ev_var rfl ⟨x, rfl, by have : x.cps.size = x.length := rfl; omega, fun z => rfl, fun _ => .bool true, fun i c G2 hc e2 => ?_, fun v G2 e2 hv => ?_⟩)
    · walk_at "ev"
      refine Rv.here (fun H _ Q q => ⟨_, _, rfl, rfl, q⟩) ?_
      obtain ⟨q1, q2⟩ := h4 c (by rw [← Array.getElem?_toList] at hc; exact List.mem_of_getElem? hc)
      rw [letter_in q1 q2]
      exact .bl true
    · walk_at "ev"
      have e : x.cps.toList.map (fun _ => PyData.bool true) = (x.cps.toList.map fun _ => true).map PyData.bool := by rw [List.map_map]; rfl
      rw [e] at hv
      refine rv_all hv fun H3 s3 w3 => ?_
      rw [all_map_true fun _ _ => rfl]
      exact kq _ _ _ (s1.trans s3) (k _ (s1.trans s3).gg)
  · have h1' : (1 : Int) ≤ (x.length : Int) := by omega
    rw [decide_eq_true h1'] at z
    cases z
def pIsName : List V → Hp → (V → Hp → Prop) → Prop := fun vs G P => ∃ x : Str, vs = [.str x] ∧ NameOk x ∧ ∀ G', Same G G' → P (.bl true) G'
theorem d_is_name (T : Mo K mg) : Def P w K mg base CX0 2 "is_name" ["value"] (SpP 1 pIsName) := by
  obtain ⟨fd, F⟩ := T.f_is_name
  refine ⟨_, fd, F.ok sc_is_name spP_len (fun cdv A outer s H vs Q E hr h => ?_), T.g_is_name, F.kp, F.bindsN fun _ _ _ _ _ _ us hl => match us, hl with | [_], _ => rfl⟩
  have hu := hu_of hr
  obtain ⟨_, G, P, sm, hp, kq⟩ := h
  have wd : Wd none G H := .none sm
  refine ⟨_, PSs.nox (pss_one (ps_ret (pe_d (d_is_spelled T) (hr.mono (by decide)) (by rfl) pass0 (pa_cons (pv 0) (pa_cons (C8.pe_gc (by rfl) (gc_int T.g_NAME_LENGTH)) pa_nil))))), ?_⟩
  obtain ⟨x, rfl, ⟨h1, h2, h3⟩, k⟩ := hp
  walk_at "ev"
  exact ev_call (ea_cons (ev_var rfl (ea_cons (ev_c (ea_nil ⟨rfl, x, 6, rfl, ⟨h1, by omega, by omega, h3⟩, fun G1 e1 H1 s1 w1 => kq _ _ _ s1 (k _ s1.gg)⟩)))))
/-- unlike names -/
def NamesOk (l : List Str) : Prop := (∀ x ∈ l, NameOk x) ∧ l.Nodup ∧ l.length ≤ 1000
def pIsNames (K : PySem.W.Frag) : List V → Hp → (V → Hp → Prop) → Prop := fun vs G P => ∃ (v : V) (l : List Str), vs = [v] ∧ DpE K G v (l.map .str) ∧ NamesOk l ∧ ∀ G', Same G G' → P (.bl true) G'
theorem d_is_names (T : Mo K mg) : Def P w K mg base CX0 3 "is_names" ["value"] (SpP 1 (pIsNames K)) := by
  obtain ⟨fd, F⟩ := T.f_is_names
  refine ⟨_, fd, F.ok sc_is_names spP_len (fun cdv A outer s H vs Q E hr h => ?_), T.g_is_names, F.kp, F.bindsN fun _ _ _ _ _ _ us hl => match us, hl with | [_], _ => rfl⟩
  have hu := hu_of hr
  obtain ⟨_, G, P, sm, hp, kq⟩ := h
  have wd : Wd none G H := .none sm
  refine ⟨_, PSs.nox (pss_cons (ps_if (PW.pt (pw_or (pt_not (pt_val (pe_callB call_isiT (by rfl) T.n_isinstance (by decide +kernel) (pa_cons (pv 0) (pa_cons (pe_tup (pa_cons (pe_bltn (v := .ty "list") (by rfl) T.n_list (by decide +kernel) rfl) (pa_cons (pe_bltn (v := .ty "tuple") (by rfl) T.n_tuple (by decide +kernel) rfl) pa_nil))) pa_nil))))) (pw_or1 (pt_not (pt_val (pe_callB (cr_all rfl) (by rfl) T.n_all (by decide +kernel) (pa_cons (pe_lc (own := [("item", 1)]) (g := gName 1) (tt := tYes) rfl sc_is_names.nd (pi_seqA (pv 0)) (blkOk_by (N := ["value", "item"]) (sc := defScope s_is_names) (by decide +kernel)) (fun _ _ _ _ _ => (pg_name (i := 1) sc_is_names.nd rfl (Or.inl rfl))) (fun _ _ _ _ _ => pts_nil) (fun _ _ _ _ _ => (blk_te (pe_d (d_is_name T) (hr.mono (by decide)) (by rfl) pass0 (pa_cons (pv 1) pa_nil)) (by (try dsimp only [Cx.blk, Cx.nox, cxOf]); (try rfl))))) pa_nil))))))) (pss_one (ps_ret pe_bl)) pss_nil)
    (pss_one (ps_ret (pe_cmpR op_eq (pe_lenSetW rfl (by rfl) T.n_len (by rfl) T.n_set (pv 0)) (pe_callB call_len_seq (by rfl) T.n_len (by decide +kernel) (pa_cons (pv 0) pa_nil)) (by rfl))))), ?_⟩
  obtain ⟨v, l, rfl, hv, ⟨h1, h2, h3⟩, k⟩ := hp
  walk_at "ev"
  refine s_if wd (et_or (et_not (et_test ?_)))
  walk_at "ev"
  refine ev_tup (ea_cons (ev_c (ea_cons (ev_c (ea_nil ⟨by show 2 ≤ 1000000; decide, fun t ht => ?_⟩)))))
  walk_at "ev"
  refine rv_isi2 (dpe_mono (same_new ht) hv) upd_same ⟨_, rfl, (fun z => nomatch z), fun _ => et_not (et_test ?_)⟩
  walk_at "ev"
  refine lcSa (K := K) PyData.str l (fun _ => true) (fun _ => .bool true) (by omega) (ev_var rfl ⟨dpe_mono (same_new ht) hv, fun x G2 d hd e2 hx => ⟨_, fun _ _ => gv_name, rfl, et_yes ⟨rfl, fun _ => ?_⟩⟩, fun v2 G2 e2 hv2 => ?_⟩)
  · obtain rfl := dp_str hx
    exact ev_call (ea_cons (ev_var rfl (ea_nil ⟨rfl, d, rfl, h1 d hd, fun G3 e3 => .bl true⟩)))
  · walk_at "ev"
    have e : (l.filter fun _ => true).map (fun _ => PyData.bool true) = (l.map fun _ => true).map PyData.bool := by
      rw [List.filter_eq_self.mpr fun _ _ => rfl, List.map_map]
      rfl
    rw [e] at hv2
    refine rv_all hv2 ⟨_, rfl, fun H1 s1 w1 => ⟨fun z => ?_, fun _ => ?_⟩⟩
    · rw [all_map_true fun _ _ => rfl] at z
      cases z
    walk_at "ev"
    refine ev_lenSetW (ev_var rfl ⟨l, dpe_mono s1.gg hv, h3, h2, ?_⟩)
    walk_at "ev"
    refine rv_lenE (dpe_mono s1.gg hv) (rv_eqB rfl fun H2 s2 w2 => ?_)
    rw [List.length_map, decide_eq_true rfl]
    exact kq _ _ _ (s1.trans s2) (k _ (s1.trans s2).gg)
end
end FD
namespace FD
open PySem PyProof.Rows L2
section
variable {P : Program} {w : World} {K : PySem.W.Frag} {mg : Str → Option Value} {base : Heap}
local macro_rules | `(tactic| walk_at "ev") => `(tactic| repeat (first | with_reducible refine s_seq ?_ | with_reducible refine s_skip ?_ | with_reducible refine s_gn ?_ | with_reducible refine ev_op ?_ | with_reducible refine ev_un ?_ | ((with_reducible refine' ev_var ?hv ?_); (case hv => rfl)) | with_reducible refine ev_c ?_ | with_reducible refine ev_cb ?_ | with_reducible refine ea_cons ?_ | with_reducible refine ea_nil ?_ | with_reducible refine et_test ?_ | with_reducible refine et_B ?_ | with_reducible refine s_ret (by assumption) ?_ | with_reducible refine s_asg (by assumption) ?_))
def letterS (k : Nat) : Str := ⟨#[97 + k]⟩
def nmk : Nat → Nat → Str → Str
  | 0, _, mark => mark
  | n + 1, rest, mark => if rest = 0 then mark else nmk n ((rest - 1) / 26) ((Str.empty ++ letterS ((rest - 1) % 26)) ++ mark)
def nthMark (i : Nat) : Str := nmk (i + 2) (i + 1) Str.empty
theorem letters_at0 : (List.range 26).all (fun k => decide ((("abcdefghijklmnopqrstuvwxyz" : Str).cps.toList)[k]? = some (97 + k))) = true := by decide +kernel
theorem letters_at {k : Nat} (h : k < 26) : (("abcdefghijklmnopqrstuvwxyz" : Str).cps.toList)[k]? = some (97 + k) := of_decide_eq_true (List.all_eq_true.mp letters_at0 k (List.mem_range.mpr h))
theorem letters_len : ("abcdefghijklmnopqrstuvwxyz" : Str).length = 26 := by decide +kernel
theorem Rv.news {b : Option (Addr × Addr)} {G : Hp} {r : Hp → (V → Hp → Prop) → Prop} {P : V → Hp → Prop} {o : HO} (h : ∀ H, Same G H → ∀ Q : V → Hp → Prop, (∀ p, H p = none → Q (.ref p) (upd H p o)) → r H Q) (p : ∀ a, G a = none → P (.ref a) (upd G a o)) : Rv b r G P := Rv.made h p
def pNthMark : List V → Hp → (V → Hp → Prop) → Prop := fun vs G P => ∃ i : Nat, vs = [.int (i : Int)] ∧ i ≤ 900 ∧ ∀ G', Same G G' → P (.str (nthMark i)) G'
theorem d_nth_mark (T : Mo K mg) : Def P w K mg base CX0 1 "nth_mark" ["index"] (SpP 1 pNthMark) := by
  obtain ⟨fd, F⟩ := T.f_nth_mark
  refine ⟨_, fd, F.ok sc_nth_mark spP_len (fun cdv A outer s H vs Q E hr h => ?_), T.g_nth_mark, F.kp, F.bindsN fun _ _ _ _ _ _ us hl => match us, hl with | [_], _ => rfl⟩
  have hu := hu_of hr
  obtain ⟨_, G, P, sm, hp, kq⟩ := h
  have wd : Wd none G H := .none sm
  refine ⟨_, PSs.nox (pss_cons (ps_set (i := 1) sc_nth_mark.nd rfl (Or.inl rfl) pe_str)
    (pss_cons (ps_set (i := 2) sc_nth_mark.nd rfl (Or.inl rfl) (pe_op op_add (pv 0) pe_int))
    (pss_cons (ps_while PassesOwn.never (pt_cmpR op_gt (pv 2) pe_int (by rfl)) (pss_cons (ps_asg (pe_callB call_divmod (by rfl) T.n_divmod (by decide +kernel) (pa_cons (pe_op op_sub (pv 2) pe_int) (pa_cons (pe_callB call_len_str (by rfl) T.n_len (by decide +kernel) (pa_cons (C8.pe_gc (by rfl) (gc_str T.g_LETTERS)) pa_nil)) pa_nil))) (pg_tup rfl (pgs_cons (pg_name (i := 2) sc_nth_mark.nd rfl (Or.inl rfl)) (pgs_cons (pg_name (i := 3) sc_nth_mark.nd rfl (Or.inl rfl)) pgs_nil))))
    (pss_one (ps_set (i := 1) sc_nth_mark.nd rfl (Or.inl rfl) (pe_joined (.cons (pe_fmt (pe_ix ix_str (C8.pe_gc (by rfl) (gc_str T.g_LETTERS)) (pv 3) (fun _ _ => rfl))) (.cons (pe_fmt (pv 1)) .nil)))))))
    (pss_one (ps_ret (pv 1)))))), ?_⟩
  obtain ⟨i, rfl, hi, k⟩ := hp
  walk_at "ev"
  intro H1 s1 w1
  walk_at "ev"
  refine rv_I0 fun H2 s2 w2 => ?_
  clear w1
  walk_at "ev"
  refine s_while (b := none) (fun m σ G3 H3 => Stp (Bg none) G H G3 H3 ∧ Wd none G3 H3 ∧ ∃ (rest : Nat) (mark : Str) (z : Option V), σ = [some (.int (i : Int)), some (.str mark), some (.int (rest : Int)), z] ∧ m = rest ∧ rest ≤ 901 ∧ mark.length + rest ≤ 901 ∧ ∃ j, rest < j ∧ nmk j rest mark = nthMark i) (i + 1)
    ⟨s1.trans s2, w2, i + 1, Str.empty, none, by show _ = [some (V.int (i : Int)), some (V.str Str.empty), some (V.int ((i + 1 : Nat) : Int)), none]; rw [Int.natCast_succ]; rfl, rfl, by omega, by show 0 + (i + 1) ≤ 901; omega, i + 2, by omega, rfl⟩ ?_
  rintro m σ G3 H3 ⟨s3, w3, rest, mark, z, rfl, hm, h1, h2, j, hj, hg⟩
  obtain ⟨j, rfl⟩ : ∃ j', j = j' + 1 := ⟨j - 1, by omega⟩
  refine ⟨w3, et_test ?_⟩
  walk_at "ev"
  refine rv_I0 ⟨_, rfl, fun H4 s4 w4 => ⟨fun hc => ?_, fun hc => ?_⟩⟩
  · have hpos : (0 : Int) < (rest : Int) := of_decide_eq_true hc
    walk_at "ev"
    refine s_asgG w4 ?_
    walk_at "ev"
    refine rv_I0 ?_
    walk_at "ev"
    have el := letters_len
    refine rv_lenS (by rw [el]; decide) ?_
    rw [el]
    walk_at "ev"
    refine Rv.made (fun H e Q q => ⟨_, _, rfl, ⟨by decide, by decide⟩, q⟩) fun p hp H5 s5 w5 => ?_
    have e1 : ((rest : Int) - 1) / ((26 : Nat) : Int) = (((rest - 1) / 26 : Nat) : Int) := by omega
    have e2 : ((rest : Int) - 1) % ((26 : Nat) : Int) = (((rest - 1) % 26 : Nat) : Int) := by omega
    rw [e1, e2] at s5 w5
    refine gw_two (G := upd G3 p (.tup [.int (((rest - 1) / 26 : Nat) : Int), .int (((rest - 1) % 26 : Nat) : Int)])) (d1 := .int (((rest - 1) / 26 : Nat) : Int)) (d2 := .int (((rest - 1) % 26 : Nat) : Int)) (dp_newT (.cons (.int _) (.cons (.int _) .nil)) hp) w5.same fun v1 v2 hv1 hv2 => ?_
    obtain rfl := dp_int hv1
    obtain rfl := dp_int hv2
    clear w4
    walk_at "ev"
    refine ev_js2 ?_
    walk_at "ev"
    have hlt : (rest - 1) % 26 < 26 := Nat.mod_lt _ (by decide)
    refine rv_idxS (by rw [el]; decide) (letters_at hlt) ⟨letterS ((rest - 1) % 26), rfl, (show 1 ≤ 1000 by decide), ev_var rfl ⟨mark, rfl, (show 1 + mark.length ≤ 1000 by omega), fun H6 s6 w6 => ?_⟩⟩
    refine ⟨(rest - 1) / 26, by omega, _, (s3.trans s4).trans (s5.trans s6), w6, (rest - 1) / 26, _, _, rfl, rfl, by omega, ?_, j, by omega, ?_⟩
    · rw [Str.length_append, Str.length_append]
      show 0 + 1 + mark.length + (rest - 1) / 26 ≤ 901
      omega
    · rw [← hg]
      show _ = if rest = 0 then mark else nmk j ((rest - 1) / 26) ((Str.empty ++ letterS ((rest - 1) % 26)) ++ mark)
      rw [if_neg (by omega)]
  · have hz : rest = 0 := by
      have h3 : ¬ ((0 : Int) < (rest : Int)) := of_decide_eq_false hc
      omega
    walk_at "ev"
    intro H5 s5 w5
    have e6 : nthMark i = mark := by
      rw [← hg]
      show (if rest = 0 then mark else _) = mark
      rw [if_pos hz]
    rw [← e6]
    exact kq _ _ _ ((s3.trans s4).trans s5) (k _ ((s3.trans s4).trans s5).gg)
end
end FD
namespace FD
open PySem PyProof.Rows L2
section
variable {P : Program} {w : World} {K : PySem.W.Frag} {mg : Str → Option Value} {base : Heap}
local macro_rules | `(tactic| walk_at "ev") => `(tactic| repeat (first | with_reducible refine s_seq ?_ | with_reducible refine s_skip ?_ | with_reducible refine s_gn ?_ | with_reducible refine ev_op ?_ | with_reducible refine ev_un ?_ | ((with_reducible refine' ev_var ?hv ?_); (case hv => rfl)) | with_reducible refine ev_c ?_ | with_reducible refine ev_cb ?_ | with_reducible refine ea_cons ?_ | with_reducible refine ea_nil ?_ | with_reducible refine et_test ?_ | with_reducible refine et_B ?_ | with_reducible refine s_ret (by assumption) ?_ | with_reducible refine s_asg (by assumption) ?_))
/-- ys is xs in order -/
def SortedOf (ys xs : List Str) : Prop := ys.Perm xs ∧ sortedS ys = true
theorem rv_sorted {b : Option (Addr × Addr)} {G : Hp} {Q : V → Hp → Prop} {v : V} {l : List Str} (h : Dp K G v (.list (l.map .str))) (hl : l.length < 64) (p : ∀ ys G2 u, SortedOf ys l → Same G G2 → Dp K G2 u (.list (ys.map .str)) → Q u G2) : Rv b (rSortedS K [v]) G Q := by
  obtain ⟨a, rfl, q⟩ := dp_strsL h
  exact fun H w Q' k => ⟨a, l, rfl, sql_mono w.same q, hl, fun ys c hp hs hc => k _ _ _ ((Stp.refl w.same).new hc) (w.new hc) (p ys _ _ ⟨hp, hs⟩ (same_new (w.same.free hc)) (dp_newL (dpa_strs ys) (w.same.free hc)))⟩
abbrev rListQ (K : PySem.W.Frag) : List V → Hp → VK → Prop := fun xs H Q => ∃ p ys, xs = [V.ref p] ∧ (SqL K H p ys ∨ SqT K H p ys) ∧ ∀ l, H l = none → Q (V.ref l) (upd H l (.lst ys))
theorem rv_listOf {b : Option (Addr × Addr)} {G : Hp} {Q : V → Hp → Prop} {v : V} {ds : List PyData} (h : DpE K G v ds) (p : ∀ G2 u, Same G G2 → Dp K G2 u (.list ds) → Q u G2) : Rv b (rListQ K [v]) G Q := by
  obtain ⟨a, xs, rfl, q, da⟩ := dpe_at h
  exact Rv.made (fun H e Q k => ⟨a, xs, rfl, sqe_mono e q, fun l hl => k l hl⟩) fun c hc => p _ _ (same_new hc) (dp_newL da hc)
/-- *e in a list display -/
theorem ea_star {b : Option (Addr × Addr)} {σ : L2.St} {G : Hp} {Q : List V → Hp → Prop} {te : TE} {t : TA} (h : Ev b te σ G fun x G1 => ∃ ds xs, (∃ a, x = .ref a ∧ SqE K G1 a xs ∧ DpAll K G1 xs ds) ∧ Ev b t σ G1 fun ys G2 => Q (xs ++ ys) G2) : Ev b (StX.tStar K te t) σ G Q :=
  fun H w Q k => h H w _ fun x G1 H1 e1 w1 ⟨ds, xs, ⟨a, ex, q, da⟩, r⟩ => ⟨a, xs, ex, (sqe_mono w1.same q).symm, r H1 w1 _ fun ys G2 H2 e2 w2 p => k _ _ _ (e1.trans e2) w2 p⟩
def pRowInit (K : PySem.W.Frag) : List V → Hp → (V → Hp → Prop) → Prop := fun vs G P => ∃ (v u : V) (ps cs : List Str), vs = [v, u] ∧ DpE K G v (ps.map .str) ∧ DpE K G u (cs.map .str) ∧ NamesOk ps ∧ NamesOk cs ∧ (∀ x ∈ ps, x ∉ cs) ∧ ps.length + cs.length < 64 ∧
  ∀ p' c' v' G', SortedOf p' ps → SortedOf c' cs → Same G G' → RowIs K G' v' (p', c') → P v' G'
theorem Stp.renew {B : Addr → Prop} {G H G1 H1 : Hp} {p : Addr} {o : HO} (x : Stp B G H G1 H1) (h0 : H p = none) (h1 : G p = none) : Stp B G H (upd G1 p o) (upd H1 p o) :=
  ⟨fun a u z => by rw [upd_ne (ne_of_none z h1)]; exact x.gg a u z, same_upd2 x.gh, fun a u e n => by rw [upd_ne (ne_of_none e h0)]; exact x.hh a u e n, fun a e => upd_al (x.al a e), fun a e n => by rw [upd_ne (free_not h0 n)]; exact x.fr a e n⟩
theorem sqt_renew {G : Hp} {a p C dx : Addr} {xs : List V} {fs : List (Str × V)} {o : HO} (h : SqT K G a xs) (hp : G p = some (.ins C dx fs)) : SqT K (upd G p o) a xs := by
  have ne : ∀ u, G a = some u → (∀ C dx fs, u ≠ .ins C dx fs) → a ≠ p := fun u e n q => by
    rw [q, hp] at e
    exact n _ _ _ (Option.some.inj e).symm
  rcases h with (h | ⟨ob, h⟩) | h
  · exact .inl (.inl (by rw [upd_ne (ne _ h fun _ _ _ z => nomatch z)]; exact h))
  · exact .inl (.inr ⟨ob, by rw [upd_ne (ne _ h fun _ _ _ z => nomatch z)]; exact h⟩)
  · exact .inr h
theorem names_len {l : List Str} (h : NamesOk l) : l.length ≤ 1000 := h.2.2
theorem d_Row_init (T : Mo K mg) : DefC P w K mg base CX0 4 (cls K "Row") "Row" (SpI 2 (cls K "Row") (pRowInit K)) := by
  obtain ⟨fd, dvs, hdl, F⟩ := T.f_Row_init
  refine ⟨_, defC_raw (ps := ["self", "pro", "con"]) (F.ok sc_Row_init spI_len (fun cdv A outer s H vs Q E hr h => ?_)) (binds_dfl F hdl 3 rfl fun _ _ _ _ _ _ _ us its h1 h2 => match us, h1, its, h2 with | [_, _, _], _, [_, _], _ => ⟨_, rfl, rfl⟩), T.mk_Row, T.g_Row⟩
  have hu := hu_of hr
  obtain ⟨_, x, dx, H0, G, P, vs, rfl, rfl, nx, ndx, ndx2, sm, hp, kq⟩ := h
  refine ⟨_, PSs.nox (pss_cons (ps_if (pt_not (pt_val (pe_d (d_is_names T) (hr.mono (by decide)) (by rfl) pass0 (pa_cons (pv 1) pa_nil)))) (pss_one ps_never) pss_nil)
    (pss_cons (ps_if (pt_not (pt_val (pe_d (d_is_names T) (hr.mono (by decide)) (by rfl) pass0 (pa_cons (pv 2) pa_nil)))) (pss_one ps_never) pss_nil)
    (pss_cons (ps_if (pt_val (pe_callB (cr_any rfl) (by rfl) T.n_any (by decide +kernel) (pa_cons (pe_lc (own := [("name", 3)]) (g := gName 3) (tt := tYes) rfl sc_Row_init.nd (pi_seqA (pv 1)) (blkOk_by (N := ["self", "pro", "con", "name"]) (sc := defScope s_Row_init) (by decide +kernel)) (fun _ _ _ _ _ => (pg_name (i := 3) sc_Row_init.nd rfl (Or.inl rfl))) (fun _ _ _ _ _ => pts_nil) (fun _ _ _ _ _ => (blk_te (pe_cmpR (op_inW hr.units) (pv 3) (pv 2) (by rfl)) (by (try dsimp only [Cx.blk, Cx.nox, cxOf]); (try rfl))))) pa_nil))) (pss_one ps_never) pss_nil)
    (pss_cons (ps_fld (pv 0) (pe_tupleOf (by rfl) T.n_tuple (pe_callB cr_sortedS (by rfl) T.n_sorted (by decide +kernel) (pa_cons (pe_callTy call_list_of (by rfl) T.n_list (by decide +kernel) (pa_cons (pv 1) pa_nil)) pa_nil))) rfl)
    (pss_cons (ps_fld (pv 0) (pe_tupleOf (by rfl) T.n_tuple (pe_callB cr_sortedS (by rfl) T.n_sorted (by decide +kernel) (pa_cons (pe_callTy call_list_of (by rfl) T.n_list (by decide +kernel) (pa_cons (pv 2) pa_nil)) pa_nil))) rfl)
    (pss_one (ps_fld (pv 0) (pe_tupleOf (by rfl) T.n_tuple (pe_callB cr_sortedS (by rfl) T.n_sorted (by decide +kernel) (pa_cons (pe_lst (StX.pa_star (pe_fld (pv 0) rfl) (StX.pa_star (pe_fld (pv 0) rfl) pa_nil))) pa_nil))) rfl))))))), ?_⟩
  obtain ⟨v, u, ps, cs, rfl, hv, hu', hps, hcs, hdis, hlen, k⟩ := hp
  obtain ⟨s0, hGx⟩ := init_at (C := cls K "Row") sm nx ndx ndx2
  have hx0 : (upd (upd H0 dx (.own x)) x (.ins (cls K "Row") dx [])) x = some (.ins (cls K "Row") dx []) := upd_same
  generalize upd (upd H0 dx (.own x)) x (.ins (cls K "Row") dx []) = Hi at s0 hx0
  have w0 : Wd none G Hi := .none s0.gh
  have nb : ∀ {a : Addr}, ¬ Bg (none : Option (Addr × Addr)) a := fun z => nomatch z
  refine s_if w0 (et_not (et_test ?_))
  refine ev_call (ea_cons (ev_var rfl (ea_nil ⟨rfl, v, ps, rfl, hv, hps, fun G1 e1 => ⟨_, rfl, fun H1 s1 w1 => ⟨(fun z => nomatch z), fun _ => ?_⟩⟩⟩)))
  clear w0
  walk_at "ev"
  refine s_if w1 (et_not (et_test ?_))
  refine ev_call (ea_cons (ev_var rfl (ea_nil ⟨rfl, u, cs, rfl, dpe_mono e1 hu', hcs, fun G2 e2 => ⟨_, rfl, fun H2 s2 w2 => ⟨(fun z => nomatch z), fun _ => ?_⟩⟩⟩)))
  walk_at "ev"
  refine s_if w2 (et_test ?_)
  walk_at "ev"
  refine lcSa (K := K) PyData.str ps (fun _ => true) (fun _ => .bool false) (by omega) (ev_var rfl ⟨dpe_mono (e1.trans e2) hv, fun y G3 d hd e3 hy => ⟨_, fun _ _ => gv_name, rfl, et_yes ⟨rfl, fun _ => ?_⟩⟩, fun v2 G3 e3 hv2 => ?_⟩)
  · walk_at "ev"
    refine rv_inT d cs hy (dpe_mono ((e1.trans e2).trans e3) hu') (by decide) ?_
    rw [decide_eq_false (hdis d hd)]
    exact .bl false
  walk_at "ev"
  have eb : (ps.filter fun _ => true).map (fun _ => PyData.bool false) = (ps.map fun _ => false).map PyData.bool := by
    rw [List.filter_eq_self.mpr fun _ _ => rfl, List.map_map]
    rfl
  rw [eb] at hv2
  refine rv_any hv2 ⟨_, rfl, fun H3 s3 w3 => ⟨fun z => ?_, fun _ => ?_⟩⟩
  · have : ((ps.map fun _ => false).any id) = false := by rw [List.any_eq_false]; intro b hb; obtain ⟨_, _, rfl⟩ := List.mem_map.mp hb; decide
    rw [this] at z
    cases z
  clear w2
  have s4 := (s0.trans s1).trans (s2.trans s3)
  have hx3 := s3.hh _ _ (s2.hh _ _ (s1.hh _ _ hx0 nb) nb) nb
  have hGx3 : G3 x = none := ((s1.trans s2).trans s3).fr x hGx (by rw [hx0]; exact fun z => nomatch z)
  have hvG := dpe_mono s4.gg hv
  have huG := dpe_mono s4.gg hu'
  clear hv2 s0 s1 s2 s3 hx0
  have ne0 : ∀ {G' H' : Hp} {a : Addr} {o : HO}, H' a = some o → H' a ≠ none := fun e z => by rw [e] at z; cases z
  walk_at "ev"
  refine s_fld (fs := []) w3 rfl hx3 nb T.cl_Row T.na_Row_pro (by decide) ?_
  refine ev_tupOf (ev_cb (ea_cons (ev_cb (ea_cons (ev_var rfl (ea_nil (rv_listOf hvG fun G4 u1 e4 hu1 => ea_nil (rv_sorted hu1 (by omega) fun p' G5 u2 hp' e5 hu2 => ⟨_, .inl hu2, fun tp G6 e6 htp H6 s6 w6 => ?_⟩))))))))
  have hx6 := s6.hh _ _ hx3 nb
  have hGx6 : G6 x = none := s6.fr x hGx3 (by rw [hx3]; exact fun z => nomatch z)
  have s7 := (s4.trans s6).mut (o := .ins (cls K "Row") dx (putF "pro" tp [])) nx hGx6
  have hx7 : upd H6 x (.ins (cls K "Row") dx (putF "pro" tp [])) x = some (.ins (cls K "Row") dx [("pro", tp)]) := upd_same
  generalize upd H6 x (.ins (cls K "Row") dx (putF "pro" tp [])) = H7 at s7 hx7
  have huG2 := dpe_mono s6.gg huG
  clear w3 w6 s6 hx6 hx3 s4
  have w7 : Wd none G6 H7 := .none s7.gh
  walk_at "ev"
  refine s_fld (fs := [("pro", tp)]) w7 rfl hx7 nb T.cl_Row T.na_Row_con (by show 1 < 1000; decide) ?_
  refine ev_tupOf (ev_cb (ea_cons (ev_cb (ea_cons (ev_var rfl (ea_nil (rv_listOf huG2 fun G8 u3 e8 hu3 => ea_nil (rv_sorted hu3 (by omega) fun c' G9 u4 hc' e9 hu4 => ⟨_, .inl hu4, fun tc G10 e10 htc H10 s10 w10 => ?_⟩))))))))
  have hx10 := s10.hh _ _ hx7 nb
  have hGx10 : G10 x = none := s10.fr x hGx6 (by rw [hx7]; exact fun z => nomatch z)
  have s11 := (s7.trans s10).mut (o := .ins (cls K "Row") dx (putF "con" tc [("pro", tp)])) nx hGx10
  have hx11 : upd H10 x (.ins (cls K "Row") dx (putF "con" tc [("pro", tp)])) x = some (.ins (cls K "Row") dx [("pro", tp), ("con", tc)]) := upd_same
  generalize upd H10 x (.ins (cls K "Row") dx (putF "con" tc [("pro", tp)])) = H11 at s11 hx11
  have htp2 := Dpm htp s10.gg
  clear w7 w10 s10 hx10 hx7 s7
  obtain ⟨ta, rfl, qa⟩ := dp_strs htp2
  obtain ⟨tb, rfl, qb⟩ := dp_strs htc
  -- the instance is known while its fields are read
  have s12 := s11.know nx hx11 hGx10
  have gk := same_new (o := .ins (cls K "Row") dx [("pro", .ref ta), ("con", .ref tb)]) hGx10
  have qa2 := sqt_mono gk qa
  have qb2 := sqt_mono gk qb
  have hk : upd G10 x (.ins (cls K "Row") dx [("pro", .ref ta), ("con", .ref tb)]) x = some (.ins (cls K "Row") dx [("pro", .ref ta), ("con", .ref tb)]) := upd_same
  generalize upd G10 x (.ins (cls K "Row") dx [("pro", .ref ta), ("con", .ref tb)]) = Gk at s12 qa2 qb2 hk
  have w12 : Wd none Gk H11 := .none s12.gh
  have hnl : (p' ++ c').length < 64 := by
    rw [List.length_append, hp'.1.length_eq, hc'.1.length_eq]
    exact hlen
  have happ : ∀ G, DpAll K G (p'.map V.str ++ (c'.map V.str ++ [])) ((p' ++ c').map PyData.str) := fun G => by
    rw [List.append_nil, ← List.map_append]
    exact dpa_strs _
  dsimp only
  refine s_fld (fs := [("pro", .ref ta), ("con", .ref tb)]) w12 rfl hx11 nb T.cl_Row T.na_Row_named (by show 2 < 1000; decide) ?_
  refine ev_tupOf (ev_cb (ea_cons (ev_lst (ea_star (ev_fld (ev_var rfl ⟨x, _, dx, _, _, rfl, hk, T.cl_Row, T.na_Row_pro, rfl, _, _, ⟨ta, rfl, .inr qa2, dpa_strs _⟩, ?_⟩))))))
  refine ea_star (ev_fld (ev_var rfl ⟨x, _, dx, _, _, rfl, hk, T.cl_Row, T.na_Row_con, rfl, _, _, ⟨tb, rfl, .inr qb2, dpa_strs _⟩, ea_nil ⟨?_, fun q hq => ?_⟩⟩))
  · rw [List.append_nil, ← List.map_append, List.length_map]
    omega
  refine ea_nil (rv_sorted (dp_newL (happ _) hq) hnl fun nm G13 u5 hnm e13 hu5 => ⟨_, .inl hu5, fun tn G14 e14 htn H14 s14 w14 => ?_⟩)
  obtain ⟨tnn, rfl, qn⟩ := dp_strs htn
  have hk14 := s14.gg _ _ hk
  have s15 := (s12.trans s14).renew (o := .ins (cls K "Row") dx (putF "named" (.ref tnn) [("pro", .ref ta), ("con", .ref tb)])) nx hGx
  refine kq _ _ s15 (k p' c' _ _ hp' hc' s15.gg ?_)
  refine ⟨x, dx, ta, tb, tnn, nm, rfl, upd_same, .tup (sqt_renew (sqt_mono s14.gg qa2) hk14) (dpa_strs _), .tup (sqt_renew (sqt_mono s14.gg qb2) hk14) (dpa_strs _), .tup (sqt_renew qn hk14) (dpa_strs _), hnm.1⟩
end
end FD
namespace FD
open PySem PyProof.Rows L2
/-! ### dict comprehensions, keys texts: what is gathered so far -/
section
variable {b : Option (Addr × Addr)} {σ : L2.St} {K : PySem.W.Frag} {g : TG}
theorem dc_walk {J : It} {n : Nat} {Gd : Hp → Prop} {Y : Nat → Hp → V → Hp → Prop} {G0 H0 G1 H1 : Hp} {tt : TT} {tk tv : TE} {vs : List Nat} {Dl : Addr} {P : V → Hp → Prop} {Q : VK} (W : Walk J n Gd Y) (hn : n ≤ 100000) (w1 : Wd b G1 H1) (e01 : Stp (Bg b) G0 H0 G1 H1) (hD : H1 Dl = none)
    (hgd : ∀ H, Same G1 H → Gd H) (Iv : Nat → List (Key × V) → Hp → Prop) (h0 : Iv 0 [] G1)
    (hs : ∀ i x G2 H2 H' acc, i < n → Same G1 G2 → Wd b G2 H2 → Iv i acc G2 → acc.length ≤ i → Y i H2 x H' → ∃ σ3 G3, Stp (Bg b) G2 H2 G3 H' ∧ Wd b G3 H' ∧ Gv g x (wipe σ vs) H' σ3 ∧ wipe σ3 vs = wipe σ vs ∧
      Ev b tt σ3 G3 fun c G4 => (c = true → Ev b tk σ3 G4 fun y G5 => Ev b tv σ3 G5 fun z G6 => ∃ k, y = kV k ∧ Iv (i + 1) (putK acc k z) G6) ∧ (c = false → Iv (i + 1) acc G4))
    (hd : ∀ acc G2, Same G1 G2 → Iv n acc G2 → acc.length ≤ n → ∀ a, G2 a = none → P (.ref a) (upd G2 a (.dK acc)))
    (k : ∀ v G' H', Stp (Bg b) G0 H0 G' H' → Wd b G' H' → P v G' → Q v H') :
    ∃ W : Nat → Nat → Hp → Prop, (∃ m, W 0 m (upd H1 Dl (.dK []))) ∧ ∀ i m H, W i m H →
      (J.stop i H ∧ Q (.ref Dl) H) ∨ (J.go i H ∧ ∃ Nx : Hp → Prop, (∀ H', Nx H' → ∃ m', m' < m ∧ W (i + 1) m' H') ∧ ∀ x H', J.yld i H x H' → g x (wipe σ vs) H' fun σ2 H2 => wipe σ2 vs = wipe σ vs ∧ tt σ2 H2 fun b H3 =>
        if b = true then tk σ2 H3 fun y H4 => tv σ2 H4 fun z H5 => ∃ kvs k, y = kV k ∧ H5 Dl = some (.dK kvs) ∧ kvs.length < sizeLine ∧ Nx (upd H5 Dl (.dK (putK kvs k z))) else Nx H3) := by
  have hG1 : G1 Dl = none := w1.same.free hD
  have hb := w1.off hD
  have non : ∀ {o : HO} {H : Hp}, H Dl = some o → H Dl ≠ none := fun e z => by rw [e] at z; cases z
  let Pv : Nat → Hp → Prop := fun i H => ∃ G2 acc, Stp (Bg b) G1 H1 G2 H ∧ Wd b G2 H ∧ G2 Dl = none ∧ H Dl = some (.dK acc) ∧ Iv i acc G2 ∧ acc.length ≤ i
  refine ⟨fun i m H => m = n - i ∧ i ≤ n ∧ Pv i H, ⟨n, rfl, Nat.zero_le _, G1, [], (Stp.refl w1.same).newP hD, w1.newP hD, hG1, upd_same, h0, Nat.le_refl _⟩, ?_⟩
  rintro i m H ⟨rfl, hi, G2, acc, e, w, gD, hDl, iv, hl⟩
  have hgo : Gd H := hgd H (e.gg.trans w.same)
  by_cases hlt : i < n
  · refine .inr ⟨W.goes i H hlt hgo, fun H' => Pv (i + 1) H', fun H' p => ⟨n - (i + 1), by omega, rfl, hlt, p⟩, fun x H' y => ?_⟩
    obtain ⟨σ3, G3, e3, w3, gv, hw, hv⟩ := hs i x G2 H H' acc hlt e.gg w iv hl (W.yields i H x H' hlt hgo y)
    refine gv _ ⟨hw, hv H' w3 _ fun c G4 H4 e4 w4 q => ?_⟩
    have dl3 : H' Dl = some (.dK acc) := e3.hh _ _ hDl hb
    have dl4 : H4 Dl = some (.dK acc) := e4.hh _ _ dl3 hb
    have gd4 : G4 Dl = none := e4.fr _ (e3.fr _ gD (non hDl)) (non dl3)
    cases c with
    | false => exact iteF ⟨G4, acc, (e.trans e3).trans e4, w4, gd4, dl4, q.2 rfl, Nat.le_succ_of_le hl⟩
    | true =>
      refine iteT (q.1 rfl H4 w4 _ fun y G5 H5 e5 w5 q5 => q5 H5 w5 _ fun z G6 H6 e6 w6 ⟨ky, ey, iv6⟩ => ?_)
      have dl6 : H6 Dl = some (.dK acc) := e6.hh _ _ (e5.hh _ _ dl4 hb) hb
      have gd6 : G6 Dl = none := e6.fr _ (e5.fr _ gd4 (non dl4)) (non (e5.hh _ _ dl4 hb))
      refine ⟨acc, ky, ey, dl6, sz_lt (by omega), G6, putK acc ky z, ((((e.trans e3).trans e4).trans e5).trans e6).mut hD gd6, w6.mut gd6 hb, gd6, upd_same, iv6, ?_⟩
      have := length_putK acc ky z
      omega
  · obtain rfl : i = n := by omega
    have h0 : H0 Dl = none := by
      cases q : H0 Dl with
      | none => rfl
      | some o => exact absurd hD (e01.al _ (by rw [q]; exact fun z => nomatch z))
    exact .inl ⟨W.stops H hgo, k _ _ _ ((e01.trans e).know h0 hDl gD) (w.know hDl gD hb) (hd acc G2 e.gg iv hl Dl gD)⟩
theorem dcLx {G : Hp} {tl : TE} {tt : TT} {tk tv : TE} {vs : List Nat} {P : V → Hp → Prop} (h : Ev b tl σ G fun x G1 => ∃ a xs, x = .ref a ∧ SqE K G1 a xs ∧ xs.length ≤ 100000 ∧ ∃ Iv : Nat → List (Key × V) → Hp → Prop, Iv 0 [] G1 ∧
    (∀ i x G2 acc, xs[i]? = some x → Same G1 G2 → Iv i acc G2 → acc.length ≤ i → ∃ σ3, (∀ H, Same G2 H → Gv g x (wipe σ vs) H σ3) ∧ wipe σ3 vs = wipe σ vs ∧ Ev b tt σ3 G2 fun c G3 => (c = true → Ev b tk σ3 G3 fun y G4 => Ev b tv σ3 G4 fun z G5 => ∃ k, y = kV k ∧ Iv (i + 1) (putK acc k z) G5) ∧ (c = false → Iv (i + 1) acc G3)) ∧
    ∀ acc G2, Same G1 G2 → Iv xs.length acc G2 → acc.length ≤ xs.length → ∀ q, G2 q = none → P (.ref q) (upd G2 q (.dK acc))) : Ev b (tDc (iSeqA K tl) g tt tk tv vs) σ G P :=
  fun H w Q k => h H w _ fun x G1 H1 e1 w1 ⟨a, xs, ex, q, hl, Iv, h0, hs, hd⟩ => by
    have st : ∀ i x G2 H2 H' acc, i < xs.length → Same G1 G2 → Wd b G2 H2 → Iv i acc G2 → acc.length ≤ i → YAt xs i H2 x H' → ∃ σ3 G3, Stp (Bg b) G2 H2 G3 H' ∧ Wd b G3 H' ∧ Gv g x (wipe σ vs) H' σ3 ∧ wipe σ3 vs = wipe σ vs ∧
        Ev b tt σ3 G3 fun c G4 => (c = true → Ev b tk σ3 G4 fun y G5 => Ev b tv σ3 G5 fun z G6 => ∃ k, y = kV k ∧ Iv (i + 1) (putK acc k z) G6) ∧ (c = false → Iv (i + 1) acc G4) := fun i x G2 H2 H' acc hi e w2 iv hacc y => by
      obtain ⟨rfl, y⟩ := y
      obtain ⟨σ3, gv, hw, hv⟩ := hs i x G2 acc y e iv hacc
      exact ⟨σ3, G2, Stp.refl w2.same, w2, gv _ w2.same, hw, hv⟩
    rcases q with q | q
    · exact ⟨a, ex, .inl ⟨⟨xs, sql_mono w1.same q⟩, fun Dl hD => dc_walk (P := P) walk_list hl w1 e1 hD (fun H e => sql_mono e q) Iv h0 st hd k⟩⟩
    · exact ⟨a, ex, .inr ⟨⟨xs, sqt_mono w1.same q⟩, fun Dl hD => dc_walk (P := P) walk_tup hl w1 e1 hD (fun H e => sqt_mono e q) Iv h0 st hd k⟩⟩
end
end FD
namespace FD
open PySem PyProof.Rows
/-! ### sorted(t), t a tuple of texts -/
section
variable {prog : Program} {w : World} {A : Around} {E : Value → Shared → Prop} {s : Shared}
abbrev afterCollect (h : Heap) (vs : List Value) : Heap := (h.push (seqObj "list" #[] 0)).update h.objs.size (Obj.mapSeq (· ++ vs.toArray))
theorem collect_tup {l : Addr} {vs : List Value} {Q : List Value → Shared → Prop} (hl : s.heap.IsTuple l vs.toArray) (hz : vs.length ≤ sizeLine) (h : Q vs { s with heap := afterCollect s.heap vs }) : wpAny (model prog w) A (collect (.ref l)) Q E s := by
  obtain ⟨o, ho, hc, n, hd⟩ := hl
  have ho' : (s.heap.push (seqObj "list" #[] 0)).get? l = some o := Heap.get?_push_of_some _ ho
  have hN : (s.heap.push (seqObj "list" #[] 0)).get? s.heap.objs.size = some (seqObj "list" #[] 0) := Heap.get?_push_size _ rfl
  unfold collect
  refine wpAny_bind (wpAny_runValue (codeAny_builtin entry_proto_collect' (wpAny_bind (wpAny_newList (wpAny_pure ⟨Code.quiet_builtin _ (by decide +kernel), codeAny_builtin entry_list_iadd' ?_⟩)))))
  show wpAny _ _ (Builtin.List.listExtendWith (.ref s.heap.objs.size) (.ref l) (.ref s.heap.objs.size)) _ _ { s with heap := s.heap.push (seqObj "list" #[] 0) }
  unfold Builtin.List.listExtendWith
  refine wpAny_bind (wpAny_typeOf (T := "tuple") ⟨o, ho', hc⟩ ?_)
  rw [if_pos (by rw [show (Value.type "tuple" == Value.type "tuple") = true by rfl]; simp)]
  refine wpAny_bind (listItems_at ho' hd (wpAny_bind (listItems_at (xs := #[]) (n := 0) hN rfl ?_)))
  rw [if_neg (by simp)]
  refine wpAny_bind (listUpdate_at (xs := #[]) (n := 0) hN rfl (wpAny_pure ?_) (Nat.zero_le _) (by show (#[] ++ vs.toArray).size ≤ sizeLine + 1; simp only [Array.size_append, List.size_toArray, List.length_nil]; omega))
  show wpAny (model prog w) A (load s.heap.objs.size >>= _) Q E _
  refine wpAny_bind (wpAny_load (get?_update_seq hN _) ?_)
  show wpAny _ _ (pure ((#[] : Array Value) ++ vs.toArray).toList) Q E _
  rw [show ((#[] : Array Value) ++ vs.toArray).toList = vs by simp]
  exact wpAny_pure h
theorem sorted_tupS {l : Addr} {vs : List Value} {ss : List Str} {Q : Value → Shared → Prop} (hl : s.heap.IsTuple l vs.toArray) (hS : StrsAre vs ss) (h64 : vs.length < 64)
    (h : ∀ (out : Array Value) (ss' : List Str), StrsAre out.toList ss' → ss'.Perm ss → sortedS ss' = true → Q (.ref (s.heap.objs.size + 1)) { s with heap := sortedAll s.heap vs out }) :
    wpAny (model prog w) A (call (.builtin "sorted") [.ref l]) Q E s := by
  refine Calls.call_function_entry kind_sorted plain_sorted entry_sorted (args_sorted1 _) ?_
  unfold Builtin.«sorted»
  refine wpAny_bind (m := checkCount "sorted" 1 1 _) (wpAny_pure (wpAny_bind (collect_tup hl (L2.small64 h64) (wpAny_bind (wpAny_newList ?_)))))
  have hz : (afterCollect s.heap vs).objs.size = s.heap.objs.size + 1 := by rw [Heap.size_update, size_push']
  have hoL : ((afterCollect s.heap vs).push (seqObj "list" vs.toArray 0)).get? (s.heap.objs.size + 1) = some (seqObj "list" vs.toArray 0) := by
    rw [← hz]
    exact Heap.get?_push_size _ rfl
  show wpAny _ _ _ _ _ { s with heap := (afterCollect s.heap vs).push (seqObj "list" vs.toArray 0) }
  rw [hz]
  refine wpAny_bind (wpAny_holding (wpAny_call_entry slot_list_sort ⟨_, hoL, rfl⟩ entry_list_sort (list_sort_treeK strKind_oneLt hoL hS.keysOf (fun v₁ v₂ rest e => keyKind_strs (by rw [← e]; exact hS)) h64 fun st' hp hs => ⟨_, rfl, ?_⟩) (args_list_sort _)))
  obtain ⟨ss', h1, h2, h3⟩ := sorted_out_str hS hp hs
  exact wpAny_pure ⟨_, rfl, h _ ss' h1 h2 h3⟩
end
open L2
def rSortedE (K : PySem.W.Frag) : List V → Hp → VK → Prop := fun vs H Q => ∃ (a : Addr) (xs : List Str), vs = [V.ref a] ∧ SqE K H a (xs.map V.str) ∧ xs.length < 64 ∧ ∀ (ys : List Str) (p : Addr), ys.Perm xs → sortedS ys = true → H p = none → Q (.ref p) (upd H p (.lst (ys.map V.str)))
theorem cr_sortedE {X : Cx} : CallR X (.builtin "sorted") (rSortedE X.K) := by
  intro pins s σ H vs us Q I r h
  obtain ⟨a, xs, rfl, hs, h64, q⟩ := h
  rcases hs with hs | hs
  · exact cr_sortedS pins s σ H _ us Q I r ⟨a, xs, rfl, hs, h64, q⟩
  · obtain ⟨its, rv, hl, _⟩ := I.tuple hs
    rw [Vals.ref1 r]
    have hlen0 := rv.length
    rw [List.length_map] at hlen0
    refine sorted_tupS hl rv.strs (by rw [← hlen0]; exact h64) fun out ys h1 h2 h3 => ?_
    obtain ⟨ep, he'⟩ := sortedAll_at s.heap its out
    have hlen : (ys.map V.str).length ≤ sizeLine := by rw [List.length_map, h2.length_eq]; exact small64 h64
    exact ⟨.ref _, upd H (s.heap.objs.size + 1) (.lst (ys.map V.str)), I.laid (t' := s.toks) (fun _ _ => sortedAll_old) (Nat.le_succ _) ⟨hlen, out.toList, ep, vals_of_strs h1, he'⟩, rfl, q ys _ h2 h3 (I.hok.fresh (Nat.le_succ _))⟩
end FD
namespace FD
open PySem PyProof.Rows L2
/-! ### a list, a tuple or a text -/
section
variable {X : Cx} {tg : Expr}
def iSeqB (K : PySem.W.Frag) (tl : TE) : TI := fun σ H R => tl σ H fun x H1 => (∃ a, x = .ref a ∧ (((∃ xs, SqL K H1 a xs) ∧ R (Itl K a) H1) ∨ ((∃ xs, SqT K H1 a xs) ∧ R (Itt K a) H1))) ∨ ∃ z, x = .str z ∧ R (Its z) H1
theorem pi_seqB {l : Expr} {tl : TE} (hl : PE X l tl) : PI X tg l (iSeqB X.K tl) := by
  refine ⟨fun pins s σ H R I h => ?_⟩
  refine thn (hl.run pins s σ H _ I h) fun v s1 ⟨x, H1, I1, r1, q1⟩ => ?_
  rcases q1 with ⟨a, e, q1⟩ | ⟨z, ez, q⟩
  · subst e
    cases r1
    have fp : ∀ b, b ∈ [s1.heap.objs.size] → FpOk X pins H1 b := fun b hb => by
      have e : b = s1.heap.objs.size := by simpa using hb
      subst e
      exact I1.fpOk (Nat.le_refl _) (I1.hok.fresh (Nat.le_refl _))
    rcases q1 with ⟨⟨xs, hq⟩, q⟩ | ⟨⟨xs, hq⟩, q⟩
    · obtain ⟨its, rv, p, hz⟩ := I1.list hq
      exact wpAny_pyIter_list p.isList ⟨s1.heap.objs.size, [s1.heap.objs.size], _, _, H1, rfl, I1.kept (t' := s1.toks) fun b o e => Heap.get?_push_of_some _ e, turn_list a _, ⟨_, Heap.get?_push_size _ rfl, rfl, rfl⟩, fp, q⟩
    · obtain ⟨its, rv, p, hz⟩ := I1.tuple hq
      exact wpAny_pyIter_tuple (show s1.heap.IsTuple a its.toArray from p) ⟨s1.heap.objs.size, [s1.heap.objs.size], _, _, H1, rfl, I1.kept (t' := s1.toks) fun b o e => Heap.get?_push_of_some _ e, turn_tuple a _, ⟨_, Heap.get?_push_size _ rfl, rfl, rfl⟩, fp, q⟩
  · subst ez
    obtain ⟨t, rfl⟩ := r1
    cases ha : z.cps.all (· < 128)
    · exact wpAny_pyIter_wide ha (pi_one (tk := s1.toks) I1 _ (turn_str _ z t "str_iterator" (.inr rfl)) ⟨_, Heap.get?_push_size _ rfl, rfl, rfl⟩ q)
    · exact wpAny_pyIter_ascii ha (pi_one (tk := s1.toks) I1 _ (turn_str _ z t "str_ascii_iterator" (.inl rfl)) ⟨_, Heap.get?_push_size _ rfl, rfl, rfl⟩ q)
/-- x's items are data: a list, a tuple, or the letters of a text -/
def Items (K : PySem.W.Frag) (G : Hp) (x : V) (ds : List PyData) : Prop := DpE K G x ds ∨ ∃ z : Str, x = .str z ∧ ds = z.cps.toList.map fun c => .str ⟨#[c]⟩
theorem items_mono {K : PySem.W.Frag} {G G' : Hp} {x : V} {ds : List PyData} (e : Same G G') (h : Items K G x ds) : Items K G' x ds := h.elim (fun q => .inl (dpe_mono e q)) .inr
end
section
variable {b : Option (Addr × Addr)} {σ : L2.St} {G H : Hp} {K : PySem.W.Frag} {P : V → Hp → Prop} {D : Ends} {tb : TS} {tl : TE} {g : TG}
theorem s_forB (w : Wd b G H) (h : Ev b tl σ G fun x G1 => ∃ ds, Items K G1 x ds ∧ ∃ Pv : Nat → L2.St → Hp → Hp → Prop, ForW b G1 ds.length D Pv ∧ (∀ H1, Stp (Bg b) G H G1 H1 → Wd b G1 H1 → Pv 0 σ G1 H1) ∧
    ∀ i x d σ G2 H2, ds[i]? = some d → Dp K G2 x d → Pv i σ G2 H2 → g x σ H2 fun σ3 H3 => tb { D with nx := nxP Pv (i + 1), ct := nxP Pv (i + 1), bk := D.nx } σ3 H3) : tFor (iSeqB K tl) g tb D σ H :=
  h H w _ fun x G1 H1 e1 w1 ⟨ds, hI, Pv, F, h0, hs⟩ => by
    rcases hI with hd | ⟨z, rfl, rfl⟩
    · obtain ⟨a, xs, rfl, q, da⟩ := dpe_at hd
      have hl := dpa_len da
      have F' : ForW b G1 xs.length D Pv := ⟨F.wd, by rw [hl]; exact F.done⟩
      have st : ∀ (i : Nat) (x : V) (σ : L2.St) (G2 H2 H' : Hp), i < xs.length → Pv i σ G2 H2 → YAt xs i H2 x H' → g x σ H' fun σ3 H3 => tb { D with nx := nxP Pv (i + 1), ct := nxP Pv (i + 1), bk := D.nx } σ3 H3 := fun i x σ G2 H2 H' hi p y => by
        obtain ⟨rfl, y⟩ := y
        obtain ⟨d, hd1, hd2⟩ := dpa_get (Dpam da (F.wd i σ G2 H' p).1) y
        exact hs i x d σ G2 H' hd1 hd2 p
      rcases q with q | q
      · exact .inl ⟨a, rfl, .inl ⟨⟨xs, sql_mono w1.same q⟩, for_walk walk_list Pv F' (fun H e => sql_mono e q) (h0 H1 e1 w1) st⟩⟩
      · exact .inl ⟨a, rfl, .inr ⟨⟨xs, sqt_mono w1.same q⟩, for_walk walk_tup Pv F' (fun H e => sqt_mono e q) (h0 H1 e1 w1) st⟩⟩
    · have F' : ForW b G1 z.cps.size D Pv := ⟨F.wd, by have := F.done; rw [List.length_map, Array.length_toList] at this; exact this⟩
      refine .inr ⟨z, rfl, for_walk walk_str Pv F' (fun _ _ => trivial) (h0 H1 e1 w1) fun i x σ G2 H2 H' hi p y => ?_⟩
      obtain ⟨rfl, c, hc, rfl⟩ := y
      refine hs i _ (.str ⟨#[c]⟩) σ G2 H' ?_ (.str _) p
      rw [List.getElem?_map, Array.getElem?_toList, hc]
      rfl
/-- len(x), x a list, a tuple or a text -/
abbrev rLenB (K : PySem.W.Frag) : List V → Hp → VK → Prop := fun xs H Q => rLenQ K xs H Q ∨ (∃ z, xs = [.str z] ∧ z.length ≤ sizeLine ∧ Q (.int z.length) H)
theorem rv_lenB {v : V} {ds : List PyData} (h : Items K G v ds) (hl : ds.length ≤ 1000000) (p : P (.int (ds.length : Nat)) G) : Rv b (rLenB K [v]) G P := by
  rcases h with h | ⟨z, rfl, rfl⟩
  · exact fun H w Q k => .inl (rv_lenE h p H w Q k)
  · rw [List.length_map, Array.length_toList] at p hl
    exact fun H w Q k => .inr ⟨z, rfl, sz_of hl, k _ _ _ (Stp.refl w.same) w p⟩
/-- x[i], x a list or a text -/
abbrev rIxB (K : PySem.W.Frag) : R2 := fun x y H Q => rIxL K x y H Q ∨ rIxT K x y H Q ∨ rIxS x y H Q
theorem rv_ixB {v : V} {ds : List PyData} {i : Nat} {d : PyData} (h : Items K G v ds) (hl : ds.length ≤ 1000000) (hi : ds[i]? = some d) (p : ∀ u, Dp K G u d → P u G) : Rv b (rIxB K v (.int (i : Nat))) G P := by
  rcases h with (h | h) | ⟨z, rfl, rfl⟩
  · exact fun H w Q k => .inl (rv_ixDL h hi p H w Q k)
  · exact fun H w Q k => .inr (.inl (rv_ixDT h hi p H w Q k))
  · rw [List.length_map, Array.length_toList] at hl
    obtain ⟨c, hc, rfl⟩ : ∃ c, z.cps.toList[i]? = some c ∧ d = .str ⟨#[c]⟩ := by
      rw [List.getElem?_map] at hi
      cases e : z.cps.toList[i]? with
      | none => rw [e] at hi; cases hi
      | some c => rw [e] at hi; exact ⟨c, rfl, (Option.some.inj hi).symm⟩
    exact fun H w Q k => .inr (.inr (rv_idxS (b := b) (G := G) (P := P) hl hc (p _ (.str _)) H w Q k))
/-- xs.insert(e, y), xs an own list -/
theorem s_ins {i : Nat} {a : Addr} {xs : List V} {ta : TA} (w : Wd b G H) (hi : σ[i]? = some (some (.ref a))) (hx : H a = some (.lst xs)) (hb : ¬ Bg b a) (hG : G a = none) (hl : xs.length ≤ 900000)
    (h : Ev b ta σ (upd G a (.lst xs)) fun vs G1 => ∃ (k : Nat) (y : V), vs = [.int (k : Int), y] ∧ k ≤ xs.length ∧ ∀ H1, Stp (Bg b) (upd G a (.lst xs)) H G1 H1 → H1 a = some (.lst xs) → Wd b G H1 → D.nx σ (upd H1 a (.lst (xs.take k ++ [y] ++ xs.drop k)))) :
    tDrop (tBM K "list" (fun x vs H Q => ∃ (l : Addr) (xs : List V) (i : Int) (y : V), x = .ref l ∧ vs = [.int i, y] ∧ H l = some (.lst xs) ∧ xs.length < sizeLine ∧ 0 ≤ i ∧ i < 2 ^ 63 ∧ Q .non (upd H l (.lst (xs.take i.toNat ++ [y] ++ xs.drop i.toNat)))) (tVar i) ta) D σ H :=
  ⟨_, hi, .inl ⟨rfl, xs, SqL.of hx⟩, h H (w.know hx hG hb) _ fun vs G1 H1 e1 w1 ⟨k, y, ev, hk, q⟩ => by
    have hx1 := e1.hh _ _ hx hb
    refine ⟨a, xs, _, y, rfl, ev, hx1, sz_lt (by omega), Int.natCast_nonneg k, by omega, ?_⟩
    rw [Int.toNat_natCast]
    exact q H1 e1 hx1 (w.pull ((e1.back hG).gh) w1)⟩
end
end FD
namespace FD
open PySem PyProof.Rows L2
section
variable {P : Program} {w : World} {K : PySem.W.Frag} {mg : Str → Option Value} {base : Heap}
local macro_rules | `(tactic| walk_at "ev") => `(tactic| repeat (first | with_reducible refine s_seq ?_ | with_reducible refine s_skip ?_ | with_reducible refine s_gn ?_ | with_reducible refine ev_op ?_ | with_reducible refine ev_un ?_ | ((with_reducible refine' ev_var ?hv ?_); (case hv => rfl)) | with_reducible refine ev_c ?_ | with_reducible refine ev_cb ?_ | with_reducible refine ea_cons ?_ | with_reducible refine ea_nil ?_ | with_reducible refine et_test ?_ | with_reducible refine et_B ?_ | with_reducible refine s_ret (by assumption) ?_ | with_reducible refine s_asg (by assumption) ?_))
def pStranger (K : PySem.W.Frag) : List V → Hp → (V → Hp → Prop) → Prop := fun vs G P => ∃ (v u : V) (r : RowT) (R : List Str), vs = [v, u] ∧ RowIs K G v r ∧ DpE K G u (R.map .str) ∧ In1 R r ∧ ∀ G', Same G G' → P .non G'
theorem d_stranger (T : Mo K mg) : Def P w K mg base CX0 1 "stranger" ["row", "reasons"] (SpP 2 (pStranger K)) := by
  obtain ⟨fd, F⟩ := T.f_stranger
  refine ⟨_, fd, F.ok sc_stranger spP_len (fun cdv A outer s H vs Q E hr h => ?_), T.g_stranger, F.kp, F.bindsN fun _ _ _ _ _ _ us hl => match us, hl with | [_, _], _ => rfl⟩
  have hu := hu_of hr
  obtain ⟨_, G, P, sm, hp, kq⟩ := h
  have wd : Wd none G H := .none sm
  refine ⟨_, PSs.nox (pss_cons (ps_for PassesOwn.never rfl (pi_tup (pe_fld (pv 0) rfl)) (pg_name (i := 2) sc_stranger.nd rfl (Or.inl rfl))
      (pss_one (ps_if (pt_cmpR (op_ninW hr.units) (pv 2) (pv 1) (by rfl)) (pss_one (ps_ret (pv 2))) pss_nil)))
    (pss_one (ps_ret pe_non))), ?_⟩
  obtain ⟨v, u, r, R, rfl, hr', hR, hin, k⟩ := hp
  walk_at "ev"
  refine s_forT (K := K) wd (ev_named (T := T) (ev_var rfl ⟨r, hr', fun v1 nm hv1 hnm => ?_⟩))
  obtain ⟨c, rfl, q⟩ := dp_strs hv1
  have hall : ∀ x ∈ nm, x ∈ R := fun x hx => (List.mem_append.mp (hnm.mem_iff.mp hx)).elim (hin.1 x) (hin.2 x)
  refine ⟨c, _, rfl, q, fun i σ G2 H2 => Stp (Bg none) G H G2 H2 ∧ Wd none G2 H2 ∧ ∃ z, σ = [some v, some u, z], ⟨fun i σ G2 H2 h => ⟨h.1.gg, h.2.1⟩, ?_⟩, fun H1 s1 w1 => ⟨s1, w1, _, rfl⟩, ?_⟩
  · rintro σ G2 H2 ⟨s2, w2, z, rfl⟩
    clear wd
    walk_at "ev"
    intro H3 s3 w3
    exact kq _ _ _ (s2.trans s3) (k _ (s2.trans s3).gg)
  · rintro i x σ G2 H2 hx ⟨s2, w2, z, rfl⟩
    obtain ⟨y, hy, rfl⟩ := get_map hx
    have hyR := hall y (List.mem_of_getElem? hy)
    refine s_gn ?_
    refine s_if w2 (et_test ?_)
    walk_at "ev"
    refine rv_ninT y R (.str y) (dpe_mono s2.gg hR) (by decide) ⟨_, rfl, fun H3 s3 w3 => ⟨fun z => ?_, fun _ => ⟨G2, s2.trans s3, w3, some (.str y), rfl⟩⟩⟩
    rw [decide_eq_true hyR] at z
    cases z
def pIsRecord (K : PySem.W.Frag) : List V → Hp → (V → Hp → Prop) → Prop := fun vs G P => ∃ (v : V) (r : RecT), vs = [v] ∧ RecAt K G v r ∧ NameOk r.1 ∧ ∀ G', Same G G' → P (.bl true) G'
theorem rv_isiTup {b : Option (Addr × Addr)} {G : Hp} {Q : V → Hp → Prop} {a : Addr} {xs : List V} (h : SqT K G a xs) (p : Q (.bl true) G) : Rv b (rIsi K [.ref a, .ty "tuple"]) G Q :=
  Rv.here (fun H e Q q => ⟨_, .ty "tuple", _, .type "tuple", true, rfl, .ty "tuple", tyx_sqt (sqt_mono e h), kit_ty (show kitB "tuple" "tuple" = some true by decide +kernel), q⟩) p
theorem rv_isiOwn {b : Option (Addr × Addr)} {G : Hp} {Q : V → Hp → Prop} {C a dx : Addr} {fs : List (Str × V)} (h : G a = some (.ins C dx fs)) (p : Q (.bl true) G) : Rv b ((fun xs H Q => ∃ a dx fs, xs = [.ref a, .ref C] ∧ H a = some (.ins C dx fs) ∧ Q (.bl true) H : List V → Hp → VK → Prop) [.ref a, .ref C]) G Q :=
  Rv.here (fun H e Q q => ⟨a, dx, fs, rfl, e _ _ h, q⟩) p
theorem row_ins {G : Hp} {v : V} {r : RowT} (h : RowIs K G v r) : ∃ a dx fs, v = .ref a ∧ G a = some (.ins (cls K "Row") dx fs) := let ⟨a, dx, _, _, _, _, e1, e2, _⟩ := h; ⟨a, dx, _, e1, e2⟩
theorem d_is_record (T : Mo K mg) : Def P w K mg base CX0 3 "is_record" ["value"] (SpP 1 (pIsRecord K)) := by
  obtain ⟨fd, F⟩ := T.f_is_record
  refine ⟨_, fd, F.ok sc_is_record spP_len (fun cdv A outer s H vs Q E hr h => ?_), T.g_is_record, F.kp, F.bindsN fun _ _ _ _ _ _ us hl => match us, hl with | [_], _ => rfl⟩
  have hu := hu_of hr
  obtain ⟨_, G, P, sm, hp, kq⟩ := h
  have wd : Wd none G H := .none sm
  refine ⟨_, PSs.nox (pss_cons (ps_if (PW.pt (pw_or (pt_not (pt_val (pe_callB call_isi (by rfl) T.n_isinstance (by decide +kernel) (pa_cons (pv 0) (pa_cons (pe_bltn (v := .ty "tuple") (by rfl) T.n_tuple (by decide +kernel) rfl) pa_nil))))) (pw_or1 (pt_cmpR op_ne (pe_callB call_len_seq (by rfl) T.n_len (by decide +kernel) (pa_cons (pv 0) pa_nil)) pe_int (by rfl))))) (pss_one (ps_ret pe_bl)) pss_nil)
    (pss_one (ps_ret (pe_and (pe_d (d_is_name T) (hr.mono (by decide)) (by rfl) pass0 (pa_cons (pe_ix ix_tup (pv 0) pe_int (fun _ _ => rfl)) pa_nil)) (pe_one (pe_callB (C8.call_isC T.isc_Row) (by rfl) T.n_isinstance (by decide +kernel) (pa_cons (pe_ix ix_tup (pv 0) pe_int (fun _ _ => rfl)) (pa_cons (pe_glob (v := .ref (cls K "Row")) (by rfl) T.g_Row rfl) pa_nil)))))))), ?_⟩
  obtain ⟨v, r, rfl, hr', hn, k⟩ := hp
  obtain ⟨t, rv, rfl, ht, hrow⟩ := hr'
  walk_at "ev"
  refine s_if wd (et_or (et_not (et_test ?_)))
  walk_at "ev"
  refine rv_isiTup (SqT.of ht) ⟨_, rfl, (fun z => nomatch z), fun _ => et_test ?_⟩
  walk_at "ev"
  refine rv_lenT (SqT.of ht) (ev_c (rv_neB rfl ⟨_, rfl, fun H1 s1 w1 => ⟨(fun z => absurd z (by show ¬ _ = true; simp)), fun _ => ?_⟩⟩))
  clear wd
  walk_at "ev"
  refine ev_andV (ev_call (ea_cons ?_))
  walk_at "ev"
  refine rv_ixT (i := 0) (SqT.of ht) rfl (ea_nil ⟨rfl, r.1, rfl, hn, fun G2 e2 => ⟨_, rfl, fun _ => ?_, fun z => nomatch z⟩⟩)
  obtain ⟨ra, rdx, rfs, rfl, hra⟩ := row_ins (rowIs_mono e2 hrow)
  walk_at "ev"
  refine rv_ixT (i := 1) (SqT.of (e2 _ _ ht)) rfl (ea_cons (ev_c (ea_nil (rv_isiOwn hra fun H3 s3 w3 => ?_))))
  exact kq _ _ _ (s1.trans s3) (k _ (s1.trans s3).gg)
/-- the entries of a row of records -/
theorem recs_kvs {G : Hp} : ∀ {xs : List V} {rs : List RecT}, Paired (RecAt K G) xs rs → ∃ kvs : List (Key × V), Paired (fun x (kv : Key × V) => ∃ t, x = .ref t ∧ G t = some (.tup [kV kv.1, kv.2])) xs kvs ∧ Paired (RecIs K G) kvs rs
  | _, _, .nil => ⟨[], .nil, .nil⟩
  | _, _, .cons h t => by
    obtain ⟨t0, rv, e1, e2, e3⟩ := h
    obtain ⟨kvs, h1, h2⟩ := recs_kvs t
    exact ⟨(.inr _, rv) :: kvs, .cons ⟨t0, e1, e2⟩ h1, .cons ⟨rfl, e3⟩ h2⟩
theorem recIs_keys {G : Hp} : ∀ {kvs : List (Key × V)} {rs : List RecT}, Paired (RecIs K G) kvs rs → kvs.map (·.1) = rs.map fun r => (.inr r.1 : Key)
  | _, _, .nil => rfl
  | _, _, .cons h t => by rw [List.map_cons, List.map_cons, recIs_keys t, h.1]
theorem valV_none {kvs : List (Key × V)} {k : Key} (h : k ∉ kvs.map (·.1)) : valV kvs k = none := by
  unfold valV
  rw [Option.map_eq_none_iff, List.find?_eq_none]
  intro x hx e
  exact h (List.mem_map.mpr ⟨x, hx, of_decide_eq_true e⟩)
theorem valV_some {kvs : List (Key × V)} {k : Key} {v : V} (nd : (kvs.map (·.1)).Nodup) (h : (k, v) ∈ kvs) : valV kvs k = some v := by
  induction kvs with
  | nil => cases h
  | cons a l ih =>
    rw [List.map_cons, List.nodup_cons] at nd
    rcases List.mem_cons.mp h with e | h
    · rw [← e]
      exact valV_pos rfl
    · rw [valV_neg (fun e => nd.1 (e ▸ List.mem_map.mpr ⟨_, h, rfl⟩))]
      exact ih nd.2 h
theorem take_not {α : Type} {l : List α} {i : Nat} {x : α} (nd : l.Nodup) (h : l[i]? = some x) : x ∉ l.take i := by
  intro hx
  obtain ⟨j, hj, e⟩ := List.mem_iff_getElem.mp hx
  rw [List.length_take] at hj
  rw [List.getElem_take] at e
  obtain ⟨hi, e2⟩ := List.getElem?_eq_some_iff.mp h
  exact List.pairwise_iff_getElem.mp nd j i (by omega) hi (by omega) (e.trans e2.symm)
theorem putK_new {kvs : List (Key × V)} {k : Key} {v : V} (h : k ∉ kvs.map (·.1)) : putK kvs k v = kvs ++ [(k, v)] := by
  unfold putK
  rw [if_neg]
  intro z
  obtain ⟨x, hx, e⟩ := List.any_eq_true.mp z
  exact h (List.mem_map.mpr ⟨x, hx, of_decide_eq_true e⟩)
theorem putK_take {kvs : List (Key × V)} {i : Nat} {k : Key} {v : V} (nd : (kvs.map (·.1)).Nodup) (h : kvs[i]? = some (k, v)) : k ∉ (kvs.take i).map (·.1) ∧ putK (kvs.take i) k v = kvs.take (i + 1) := by
  have h1 : k ∉ (kvs.take i).map (·.1) := by
    rw [List.map_take]
    exact take_not nd (by rw [List.getElem?_map, h]; rfl)
  refine ⟨h1, ?_⟩
  rw [putK_new h1, List.take_succ, h]
  rfl
end
end FD
namespace FD
open PySem PyProof.Rows L2
section
variable {P : Program} {w : World} {K : PySem.W.Frag} {mg : Str → Option Value} {base : Heap}
local macro_rules | `(tactic| walk_at "ev") => `(tactic| repeat (first | with_reducible refine s_seq ?_ | with_reducible refine s_skip ?_ | with_reducible refine s_gn ?_ | with_reducible refine ev_op ?_ | with_reducible refine ev_un ?_ | ((with_reducible refine' ev_var ?hv ?_); (case hv => rfl)) | with_reducible refine ev_c ?_ | with_reducible refine ev_cb ?_ | with_reducible refine ea_cons ?_ | with_reducible refine ea_nil ?_ | with_reducible refine et_test ?_ | with_reducible refine et_B ?_ | with_reducible refine s_ret (by assumption) ?_ | with_reducible refine s_asg (by assumption) ?_))
theorem rv_tupF {b : Option (Addr × Addr)} {G : Hp} {Q : V → Hp → Prop} {v : V} {l : List Str} (h : Dp K G v (.list (l.map .str))) (p : ∀ u G2, Same G G2 → RsAt G2 u l → Q u G2) : Rv b (rTupF K [v]) G Q := by
  obtain ⟨a, rfl, q⟩ := dp_strsL h
  exact fun H w Q' k => ⟨a, _, rfl, sql_mono w.same q, fun c o hc hd => k _ _ _ ((Stp.refl w.same).new hc) (w.new hc) (p _ _ (same_new (w.same.free hc)) ⟨c, rfl, o, upd_same, hd⟩)⟩
theorem ev_most {b : Option (Addr × Addr)} {σ : L2.St} {G : Hp} {Q : V → Hp → Prop} (T : Mo K mg) (p : Q (.int 40) G) : Ev b (ClX.tCVal K (tC (.ref (cls K "Book"))) "MOST") σ G Q :=
  fun H w Q' k => by
    obtain ⟨mc, u, h1, h2⟩ := T.v_MOST
    exact ⟨_, mc, _, u, rfl, h1, h2, k _ _ _ (Stp.refl w.same) w p⟩
theorem ev_din {b : Option (Addr × Addr)} {σ : L2.St} {G : Hp} {Q : V → Hp → Prop} {ty td : TE} (h : Ev b ty σ G fun y G1 => Ev b td σ G1 fun x G2 => ∃ a kvs k, x = .ref a ∧ y = kV k ∧ G2 a = some (.dK kvs) ∧ Q (.bl (valV kvs k).isSome) G2) : Ev b (tDIn ty td) σ G Q :=
  fun H w Q' k => h H w _ fun y G1 H1 e1 w1 q => q H1 w1 _ fun x G2 H2 e2 w2 ⟨a, kvs, ky, ex, ey, hd, p⟩ => by
    subst ex ey
    exact ⟨a, _, rfl, DGet.k (w2.same _ _ hd), k _ _ _ (e1.trans e2) w2 p⟩
def BookArg (R : List Str) (rs : List RecT) : Prop := NamesOk R ∧ 1 ≤ R.length ∧ R.length ≤ 7 ∧ (∀ r ∈ rs, NameOk r.1) ∧ (rs.map (·.1)).Nodup ∧ (∀ r ∈ rs, In1 R r.2) ∧ rs.length ≤ 40
def pBookInit (K : PySem.W.Frag) : List V → Hp → (V → Hp → Prop) → Prop := fun vs G P => ∃ (v : V) (rest : List V) (R : List Str) (rs : List RecT), vs = v :: rest ∧ DpE K G v (R.map .str) ∧ Paired (RecAt K G) rest rs ∧ BookArg R rs ∧
  ∀ R' v' G', SortedOf R' R → Same G G' → (∃ a, v' = .ref a ∧ G a = none) → BookIs K G' v' R' rs → P v' G'
theorem paired_at {α β : Type} {F : α → β → Prop} : ∀ {xs : List α} {ys : List β} {i : Nat} {y : β}, Paired F xs ys → ys[i]? = some y → ∃ x, xs[i]? = some x ∧ F x y
  | _, _, i, _, .nil, h => by simp at h
  | _, _, 0, _, .cons h _, e => ⟨_, rfl, by
    have q := Option.some.inj e
    rw [← q]
    exact h⟩
  | _, _, i + 1, _, .cons _ t, e => paired_at (i := i) t e
theorem d_Book_init (T : Mo K mg) : DefC P w K mg base CX0 5 (cls K "Book") "Book" (SpIS (cls K "Book") (pBookInit K)) := by
  obtain ⟨fd, F⟩ := T.f_Book_init
  refine ⟨_, defC_star ?_ F sc_Book_init (fun cdv A outer s H vs Q E hr h => ?_), T.mk_Book, T.g_Book⟩
  · exact fun _ _ _ _ _ _ => StX.bind_star2 (B := fun l => bindArgs _ ⟨l, []⟩) (p1 := "self") (p2 := "reasons") (pv := "records") (fun _ _ => rfl) (fun _ _ _ _ => rfl)
  have hu := hu_of hr
  obtain ⟨x, r, rest, dx, H0, G, P, p, rfl, hrest, rfl, nx, ndx, ndx2, np, px, pd, sm, hp, kq⟩ := h
  refine ⟨_, PSs.nox (pss_cons (ps_if (PW.pt (pw_or (pt_not (pt_val (pe_d (d_is_names T) (hr.mono (by decide)) (by rfl) pass0 (pa_cons (pv 1) pa_nil)))) (pw_or1 (pt_not (pt_chain op_le op_le pe_int (pe_callB call_len_seq (by rfl) T.n_len (by decide +kernel) (pa_cons (pv 1) pa_nil)) (C8.pe_gc (by rfl) (gc_int T.g_MOST_REASONS_books))))))) (pss_one ps_never) pss_nil)
    (pss_cons (ps_for PassesOwn.never rfl (pi_enumA (by rfl) T.n_enumerate (pa_cons (pv 2) pa_nil)) (pg_tup rfl (pgs_cons (pg_name (i := 3) sc_Book_init.nd rfl (Or.inl rfl)) (pgs_cons (pg_name (i := 4) sc_Book_init.nd rfl (Or.inl rfl)) pgs_nil)))
      (pss_one (ps_if (pt_not (pt_val (pe_d (d_is_record T) (hr.mono (by decide)) (by rfl) pass0 (pa_cons (pv 4) pa_nil)))) (pss_one ps_never) pss_nil)))
    (pss_cons (ps_if (pt_cmpR op_gt (pe_callB call_len_seq (by rfl) T.n_len (by decide +kernel) (pa_cons (pv 2) pa_nil)) (ClX.pe_cval (pe_glob (v := .ref (cls K "Book")) (by rfl) T.g_Book rfl)) (by rfl)) (pss_one ps_never) pss_nil)
    (pss_cons (ps_set (i := 5) sc_Book_init.nd rfl (Or.inl rfl) pe_dnewK)
    (pss_cons (ps_for PassesOwn.never rfl (pi_tup (pv 2)) (pg_tup rfl (pgs_cons (pg_name (i := 6) sc_Book_init.nd rfl (Or.inl rfl)) (pgs_cons (pg_name (i := 7) sc_Book_init.nd rfl (Or.inl rfl)) pgs_nil)))
      (pss_cons (ps_if (pt_cmp (pc_din hu (pv 6) (pv 5))) (pss_one ps_never) pss_nil)
    (pss_one (ps_dput hu (pv 5) (pv 6) (pv 7) rfl))))
    (pss_cons (ps_for PassesOwn.never rfl (pi_tup (pv 2)) (pg_tup rfl (pgs_cons (pg_name (i := 6) sc_Book_init.nd rfl (Or.inl rfl)) (pgs_cons (pg_name (i := 7) sc_Book_init.nd rfl (Or.inl rfl)) pgs_nil)))
      (pss_cons (ps_set (i := 8) sc_Book_init.nd rfl (Or.inl rfl) (pe_d (d_stranger T) (hr.mono (by decide)) (by rfl) pass0 (pa_cons (pv 7) (pa_cons (pv 1) pa_nil))))
    (pss_one (ps_if (pt_cmpR op_notN (pv 8) pe_non (by rfl)) (pss_one ps_never) pss_nil))))
    (pss_cons (ps_fld (pv 0) (pe_callTy call_tupF (by rfl) T.n_tuple (by decide +kernel) (pa_cons (pe_callB cr_sortedS (by rfl) T.n_sorted (by decide +kernel) (pa_cons (pe_callTy call_list_of (by rfl) T.n_list (by decide +kernel) (pa_cons (pv 1) pa_nil)) pa_nil)) pa_nil)) rfl)
    (pss_one (ps_fld (pv 0) (pv 5) rfl))))))))), ?_⟩
  obtain ⟨v, rest', R, rs, e0, hv, hrs, ⟨hR, hR1, hR7, hnm, hnd, hin, h40⟩, k⟩ := hp
  cases e0
  obtain ⟨s0, hGx⟩ := inits_at (C := cls K "Book") (rest := rest) sm nx ndx ndx2 np px pd
  have hx0 : (upd (upd (upd H0 dx (.own x)) x (.ins (cls K "Book") dx [])) p (.tup rest)) x = some (.ins (cls K "Book") dx []) := by
    rw [upd_ne (Ne.symm px)]
    exact upd_same
  generalize upd (upd (upd H0 dx (.own x)) x (.ins (cls K "Book") dx [])) p (.tup rest) = Hi at s0 hx0
  have gg := same_new (o := .tup rest) (sm.free np)
  have hGp : upd G p (.tup rest) p = some (.tup rest) := upd_same
  have hG0x : G x = none := sm.free nx
  have hv := dpe_mono gg hv
  have hrs := paired_imp (fun _ _ q => recAt_mono gg q) hrs
  generalize upd G p (.tup rest) = Gi at s0 hGx hv hrs hGp
  have w0 : Wd none Gi Hi := .none s0.gh
  have nb : ∀ {a : Addr}, ¬ Bg (none : Option (Addr × Addr)) a := fun z => nomatch z
  have hlen := paired_len hrs
  walk_at "ev"
  refine s_if w0 (et_or (et_not (et_test ?_)))
  refine ev_call (ea_cons (ev_var rfl (ea_nil ⟨rfl, r, R, rfl, hv, hR, fun G1 e1 => ⟨_, rfl, (fun z => nomatch z), fun _ => ?_⟩⟩)))
  refine et_not (et_test (ev_chain ?_))
  walk_at "ev"
  refine rv_lenE (dpe_mono e1 hv) (rv_I0 ⟨_, rfl, fun _ => ?_, fun z => ?_⟩)
  case refine_2 =>
    have h1' : (1 : Int) ≤ ((R.map PyData.str).length : Int) := by rw [List.length_map]; omega
    rw [decide_eq_true h1'] at z
    cases z
  walk_at "ev"
  refine rv_I0 ⟨_, rfl, fun H1 s1 w1 => ⟨fun z => ?_, fun _ => ?_⟩⟩
  · have h1' : ((R.map PyData.str).length : Int) ≤ 7 := by rw [List.length_map]; omega
    rw [decide_eq_true h1'] at z
    cases z
  clear w0
  have hrs1 := paired_imp (fun _ _ q => recAt_mono s1.gg q) hrs
  have hv1 := dpe_mono s1.gg hv
  have hp1 := s1.gg _ _ hGp
  walk_at "ev"
  refine s_forEA (K := K) w1 (ea_cons (ev_var rfl (ea_nil ⟨p, rest, rfl, .inr (SqT.of hp1), fun i σ G2 H2 => Stp (Bg none) G1 H1 G2 H2 ∧ Wd none G2 H2 ∧ ∃ z u, σ = [some (.ref x), some r, some (.ref p), z, u, none, none, none, none], ⟨fun i σ G2 H2 h => ⟨h.1.gg, h.2.1⟩, ?_⟩, fun H2 s2 w2 => ⟨s2, w2, _, _, rfl⟩, ?_⟩)))
  case refine_2 =>
    rintro i y σ G2 H2 t hy ⟨s2, w2, z, u, rfl⟩ ht
    obtain ⟨r0, hr0, hry⟩ := paired_get hrs1 hy
    have s3 := s2.new (o := .tup [.int (i : Nat), y]) ht
    have w3 := w2.new (o := .tup [.int (i : Nat), y]) ht
    refine s_if w3 (et_not (et_test ?_))
    refine ev_call (ea_cons (ev_var rfl (ea_nil ⟨rfl, y, r0, rfl, recAt_mono s3.gg hry, hnm r0 (List.mem_of_getElem? hr0), fun G4 e4 => ⟨_, rfl, fun H4 s4 w4 => ⟨(fun z => nomatch z), fun _ => ⟨G4, s3.trans s4, w4, _, _, rfl⟩⟩⟩⟩)))
  rintro σ G3 H2 ⟨s2, w2, z1, z2, rfl⟩
  have s12 := s1.trans s2
  clear s2 w1
  walk_at "ev"
  refine s_if w2 (et_test ?_)
  walk_at "ev"
  refine rv_lenT (SqT.of (s12.gg _ _ hGp)) (ev_most T (rv_I0 ⟨_, rfl, fun H3 s3 w3 => ⟨fun z => ?_, fun _ => ?_⟩⟩))
  · have : ¬ ((40 : Int) < (rest.length : Int)) := by omega
    rw [decide_eq_false this] at z
    cases z
  have s13 := s12.trans s3
  clear s12 s3 s1 w2
  obtain ⟨kvs, hk1, hk2⟩ := recs_kvs hrs
  have hkeys : (kvs.map (·.1)).Nodup := by
    rw [recIs_keys hk2]
    have e : (rs.map fun r => (Sum.inr r.1 : Key)) = (rs.map (·.1)).map Sum.inr := by rw [List.map_map]; rfl
    rw [e]
    exact List.Pairwise.map _ (fun a b h z => h (Sum.inr.inj z)) hnd
  have hkl : kvs.length = rs.length := paired_len hk2
  with_reducible refine s_skip ?_
  with_reducible refine s_seq ?_
  refine fun d hd => ?_
  have hHid : Hi d = none := Classical.byContradiction fun z => s13.al d z hd
  have hGid : Gi d = none := s0.gh.free hHid
  have s14 := s13.newP (o := .dK []) hd
  have hd4 : upd H3 d (.dK []) d = some (.dK []) := upd_same
  have hGd3 : G3 d = none := w3.same.free hd
  generalize upd H3 d (.dK []) = H4 at s14 hd4
  have w4 : Wd none G3 H4 := .none s14.gh
  clear s13
  have hp3 := s14.gg _ _ hGp
  clear w3
  walk_at "ev"
  refine s_forT (K := K) w4 (ev_var rfl ⟨p, rest, rfl, SqT.of hp3, fun i σ G2 H2 => Same G3 G2 ∧ Stp (Bg none) Gi Hi G2 H2 ∧ Wd none G2 H2 ∧ G2 d = none ∧ H2 d = some (.dK (kvs.take i)) ∧ ∃ z1 z2 z3 z4, σ = [some (.ref x), some r, some (.ref p), z1, z2, some (.ref d), z3, z4, none],
    ⟨fun i σ G2 H2 h => ⟨h.1, h.2.2.1⟩, ?_⟩, fun H5 s5 w5 => ⟨Same.refl _, s14.trans s5, w5, hGd3, s5.hh _ _ hd4 nb, _, _, _, _, rfl⟩, ?_⟩)
  case refine_2 =>
    rintro i y σ G2 H2 hy ⟨sm2, s2, w2, hGd, hdi, z1, z2, z3, z4, rfl⟩
    obtain ⟨kv, hkv, t, rfl, ht⟩ := paired_get hk1 hy
    obtain ⟨ky, vy⟩ := kv
    obtain ⟨hno, hput⟩ := putK_take hkeys hkv
    refine ⟨t, _, rfl, SqT.of (w2.same _ _ (s2.gg _ _ ht)), rfl, _, _, rfl, _, _, rfl, rfl, ?_⟩
    have wk := w2.know hdi hGd nb
    walk_at "ev"
    refine s_if wk (et_B (ev_din ?_))
    walk_at "ev"
    refine ⟨d, _, ky, rfl, rfl, upd_same, _, rfl, fun H5 s5 w5 => ⟨fun z => ?_, fun _ => ?_⟩⟩
    · rw [valV_none hno] at z
      cases z
    have s6 := s2.trans (s5.back hGd)
    have hd5 := s5.hh _ _ hdi nb
    walk_at "ev"
    refine ⟨_, rfl, _, rfl, _, rfl, d, _, rfl, DPut.k hd5 (sz_lt (by rw [List.length_take]; omega)), G2, sm2, s6.mut hHid hGd, .none (s6.mut hHid hGd).gh, hGd, ?_, _, _, _, _, rfl⟩
    rw [upd_same, hput]
  rintro σ G5 H5 ⟨sm5, s5, w5, hGd5, hd5, z1, z2, z3, z4, rfl⟩
  have hd5 : H5 d = some (.dK kvs) := by
    rw [List.take_of_length_le (by omega)] at hd5
    exact hd5
  have hp5 := s5.gg _ _ hGp
  clear w4 s14
  walk_at "ev"
  refine s_forT (K := K) w5 (ev_var rfl ⟨p, rest, rfl, SqT.of hp5, fun i σ G2 H2 => Same G5 G2 ∧ Stp (Bg none) Gi Hi G2 H2 ∧ Wd none G2 H2 ∧ G2 d = none ∧ H2 d = some (.dK kvs) ∧ ∃ z1 z2 z3 z4 z5, σ = [some (.ref x), some r, some (.ref p), z1, z2, some (.ref d), z3, z4, z5],
    ⟨fun i σ G2 H2 h => ⟨h.1, h.2.2.1⟩, ?_⟩, fun H6 s6 w6 => ⟨Same.refl _, s5.trans s6, w6, hGd5, s6.hh _ _ hd5 nb, _, _, _, _, _, rfl⟩, ?_⟩)
  case refine_2 =>
    rintro i y σ G2 H2 hy ⟨sm2, s2, w2, hGd, hdi, z1, z2, z3, z4, z5, rfl⟩
    obtain ⟨kv, hkv, t, rfl, ht⟩ := paired_get hk1 hy
    obtain ⟨r0, hr0, hri⟩ := paired_get hk2 hkv
    refine ⟨t, _, rfl, SqT.of (w2.same _ _ (s2.gg _ _ ht)), rfl, _, _, rfl, _, _, rfl, rfl, ?_⟩
    walk_at "ev"
    refine ev_call (ea_cons (ev_var rfl (ea_cons (ev_var rfl (ea_nil ⟨rfl, kv.2, r, r0.2, R, rfl, rowIs_mono s2.gg hri.2, dpe_mono s2.gg hv, hin r0 (List.mem_of_getElem? hr0), fun G7 e7 H7 s7 w7 => ?_⟩)))))
    clear w2
    dsimp only
    refine s_if w7 (et_test ?_)
    walk_at "ev"
    refine Rv.here (fun _ _ _ q => ⟨rfl, q⟩) ⟨_, rfl, fun H8 s8 w8 => ⟨(fun z => nomatch z), fun _ => ⟨G7, sm2.trans s7.gg, (s2.trans s7).trans s8, w8, s7.fr d hGd (by rw [hdi]; exact fun z => nomatch z), s8.hh _ _ (s7.hh _ _ hdi nb) nb, _, _, _, _, _, rfl⟩⟩⟩
  rintro σ G6 H6 ⟨sm6, s6, w6, hGd6, hd6, z1, z2, z3, z4, z5, rfl⟩
  clear w5 s5
  have hx6 := s6.hh _ _ hx0 nb
  have hGx6 : G6 x = none := s6.fr x hGx (by rw [hx0]; exact fun z => nomatch z)
  have dnx : d ≠ x := fun z => by rw [z, hx0] at hHid; cases hHid
  walk_at "ev"
  refine s_fld (fs := []) w6 rfl hx6 nb T.cl_Book T.na_Book_reasons (by decide) ?_
  refine ev_cb (ea_cons (ev_cb (ea_cons (ev_cb (ea_cons (ev_var rfl (ea_nil (rv_listOf (dpe_mono s6.gg hv) fun G7 u1 e7 hu1 => ea_nil (rv_sorted hu1 (by omega) fun R' G8 u2 hR' e8 hu2 => ea_nil (rv_tupF hu2 fun tr G9 e9 htr H9 s9 w9 => ?_))))))))))
  have hx9 := s9.hh _ _ hx6 nb
  have hd9 := s9.hh _ _ hd6 nb
  have hGx9 : G9 x = none := s9.fr x hGx6 (by rw [hx6]; exact fun z => nomatch z)
  have hGd9 : G9 d = none := s9.fr d hGd6 (by rw [hd6]; exact fun z => nomatch z)
  have s10 := (s0.trans (s6.trans s9)).mut (o := .ins (cls K "Book") dx (putF "reasons" tr [])) nx hGx9
  have hx10 : upd H9 x (.ins (cls K "Book") dx (putF "reasons" tr [])) x = some (.ins (cls K "Book") dx [("reasons", tr)]) := upd_same
  have hd10 : upd H9 x (.ins (cls K "Book") dx (putF "reasons" tr [])) d = some (.dK kvs) := by rw [upd_ne dnx]; exact hd9
  generalize upd H9 x (.ins (cls K "Book") dx (putF "reasons" tr [])) = H10 at s10 hx10 hd10
  clear w6 w9 s9
  have w10 : Wd none G9 H10 := .none s10.gh
  dsimp only
  refine s_fld (fs := [("reasons", tr)]) w10 rfl hx10 nb T.cl_Book T.na_Book_by_mark (by show 1 < 1000; decide) ?_
  refine ev_var rfl fun H11 s11 w11 => ?_
  have hH0d : H0 d = none := Classical.byContradiction fun z => s0.al d z hHid
  have hd11 := s11.hh _ _ hd10 nb
  have s12 := (s10.trans s11).mut (o := .ins (cls K "Book") dx (putF "by_mark" (.ref d) [("reasons", tr)])) nx hGx9
  have hd12 : upd H11 x (.ins (cls K "Book") dx (putF "by_mark" (.ref d) [("reasons", tr)])) d = some (.dK kvs) := by rw [upd_ne dnx]; exact hd11
  have s13 := s12.know hH0d hd12 hGd9
  have s14 := s13.know (p := x) nx upd_same (by rw [upd_ne (Ne.symm dnx)]; exact hGx9)
  have g1 := same_new (o := .dK kvs) hGd9
  have g2 := same_new (p := x) (o := .ins (cls K "Book") dx (putF "by_mark" (.ref d) [("reasons", tr)])) (G := upd G9 d (.dK kvs)) (by rw [upd_ne (Ne.symm dnx)]; exact hGx9)
  have gI : Same Gi G9 := s6.gg.trans (e7.trans (e8.trans e9))
  refine kq _ _ s14 (k R' _ _ hR' (s14.gg) ⟨x, rfl, hG0x⟩ ?_)
  obtain ⟨ta, rfl, hta⟩ := htr
  exact ⟨x, dx, ta, d, kvs, rfl, upd_same, ⟨ta, rfl, ftup_mono (g1.trans g2) hta⟩, g2 _ _ upd_same, paired_imp (fun _ _ q => ⟨q.1, rowIs_mono (gI.trans (g1.trans g2)) q.2⟩) hk2⟩
end
end FD
namespace FD
open PySem PyProof.Rows L2
section
variable {P : Program} {w : World} {K : PySem.W.Frag} {mg : Str → Option Value} {base : Heap}
local macro_rules | `(tactic| walk_at "ev") => `(tactic| repeat (first | with_reducible refine s_seq ?_ | with_reducible refine s_skip ?_ | with_reducible refine s_gn ?_ | with_reducible refine ev_op ?_ | with_reducible refine ev_un ?_ | ((with_reducible refine' ev_var ?hv ?_); (case hv => rfl)) | with_reducible refine ev_c ?_ | with_reducible refine ev_cb ?_ | with_reducible refine ea_cons ?_ | with_reducible refine ea_nil ?_ | with_reducible refine et_test ?_ | with_reducible refine et_B ?_ | with_reducible refine s_ret (by assumption) ?_ | with_reducible refine s_asg (by assumption) ?_))
theorem sortedOf_self {R R' : List Str} (hs : sortedS R = true) (h : SortedOf R' R) : R' = R := sort_unique h.1 h.2 hs
theorem rs_hide {G : Hp} {a C dx : Addr} {fs : List (Str × V)} {v : V} {R : List Str} (hG : G a = some (.ins C dx fs)) (h : RsAt G v R) : RsAt (hide G a) v R := by
  obtain ⟨t, rfl, o, ht, hd⟩ := h
  have ne : t ≠ a := fun z => by rw [z, hG] at ht; cases ht
  exact ⟨t, rfl, o, by rw [hide_ne ne]; exact ht, hd⟩
def pBookWith (K : PySem.W.Frag) : List V → Hp → (V → Hp → Prop) → Prop := fun vs G P => ∃ (v u : V) (R : List Str) (rs : List RecT), vs = [v, u] ∧ DpE K G v (R.map .str) ∧ RecsAt K G u rs ∧ NamesOk R ∧ 1 ≤ R.length ∧ R.length ≤ 7 ∧ sortedS R = true ∧ (rs.map (·.1)).Nodup ∧ rs.length ≤ 1000 ∧
  ∀ v' G', Same G G' → BookIs K G' v' R rs → P v' G'
theorem d_book_with (T : Mo K mg) : Def P w K mg base CX0 7 "book_with" ["reasons", "records"] (SpP 2 (pBookWith K)) := by
  obtain ⟨fd, F⟩ := T.f_book_with
  refine ⟨_, fd, F.ok sc_book_with spP_len (fun cdv A outer s H vs Q E hr h => ?_), T.g_book_with, F.kp, F.bindsN fun _ _ _ _ _ _ us hl => match us, hl with | [_, _], _ => rfl⟩
  have hu := hu_of hr
  obtain ⟨_, G, P, sm, hp, kq⟩ := h
  have wd : Wd none G H := .none sm
  refine ⟨_, PSs.nox (pss_cons (ps_set (i := 2) sc_book_with.nd rfl (Or.inl rfl) (FD.pe_dc (d_Book_init T) (hr.mono (by decide)) (by rfl) pass0 (pa_cons (pv 0) pa_nil)))
    (pss_cons (ps_fld (pv 2) (L2.pe_dc (own := [("mark", 3), ("row", 4)]) (g := gTup K 2 (gCons (gName 3) (gCons (gName 4) gNil))) (tt := tYes) rfl sc_book_with.nd (pi_seqA (pv 1)) (blkOk_by (N := ["reasons", "records", "book", "mark", "row"]) (sc := defScope s_book_with) (by decide +kernel)) (fun _ _ _ _ _ => (pg_tup rfl (pgs_cons (pg_name (i := 3) sc_book_with.nd rfl (Or.inl rfl)) (pgs_cons (pg_name (i := 4) sc_book_with.nd rfl (Or.inl rfl)) pgs_nil)))) (fun _ _ _ _ _ => pts_nil) (fun _ _ _ _ _ => (blk_te (pv 3) (by (try dsimp only [Cx.blk, Cx.nox, cxOf]); (try rfl)))) (fun _ _ _ _ _ => (blk_te (pv 4) (by (try dsimp only [Cx.blk, Cx.nox, cxOf]); (try rfl))))) rfl)
    (pss_one (ps_ret (pv 2))))), ?_⟩
  obtain ⟨v, u, R, rs, rfl, hv, hu', hR, hR1, hR7, hs, hnd, hl, k⟩ := hp
  obtain ⟨la, xs, rfl, hla, hpr⟩ := hu'
  walk_at "ev"
  refine ev_makeS (ea_cons (ev_var rfl (ea_nil ⟨v, [], rfl, by decide, v, [], R, [], rfl, hv, .nil, ⟨hR, hR1, hR7, fun _ h => (nomatch h), List.nodup_nil, fun _ h => (nomatch h), Nat.zero_le _⟩, fun R' v' G1 hR' e1 hnew hB => ?_⟩)))
  obtain rfl := sortedOf_self hs hR'
  obtain ⟨a, rfl, hGa⟩ := hnew
  obtain ⟨a', dx, t, d, kvs, ea, hi, htr, hd, hk⟩ := hB
  cases ea
  refine fun H1 s1 w1 => ?_
  have hHa : H a = none := s1.newAt hGa hi
  have s2 := s1.hide hGa
  have ha1 : H1 a = some (.ins (cls K "Book") dx [("reasons", .ref t), ("by_mark", .ref d)]) := w1.same _ _ hi
  have htr2 := rs_hide hi htr
  have hGh : hide G1 a a = none := hide_same
  generalize hide G1 a = Gh at s2 htr2 hGh
  clear w1 s1
  have w2 : Wd none Gh H1 := .none s2.gh
  have nb : ∀ {a : Addr}, ¬ Bg (none : Option (Addr × Addr)) a := fun z => nomatch z
  have hla2 := s2.gg _ _ hla
  have hpr2 := paired_imp (fun _ _ q => recAt_mono s2.gg q) hpr
  obtain ⟨kvs2, hk1, hk2⟩ := recs_kvs hpr2
  have hkeys : (kvs2.map (·.1)).Nodup := by
    rw [recIs_keys hk2]
    have e : (rs.map fun r => (Sum.inr r.1 : Key)) = (rs.map (·.1)).map Sum.inr := by rw [List.map_map]; rfl
    rw [e]
    exact List.Pairwise.map _ (fun a b h z => h (Sum.inr.inj z)) hnd
  have hlen := paired_len hpr
  clear wd
  walk_at "ev"
  refine s_fld (fs := [("reasons", .ref _), ("by_mark", .ref d)]) w2 rfl ha1 nb T.cl_Book T.na_Book_by_mark (by show 2 < 1000; decide) ?_
  refine dcLx (K := K) (ev_var rfl ⟨la, xs, rfl, .inl (SqL.of hla2), by omega, fun i acc G => Same Gh G ∧ acc = kvs2.take i, ⟨Same.refl _, rfl⟩, fun i x G2 acc hx e2 iv hacc => ?_, fun acc G2 e2 iv hacc q hq => ?_⟩)
  · obtain ⟨kv, hkv, tt, rfl, ht⟩ := paired_get hk1 hx
    obtain ⟨ky, vy⟩ := kv
    obtain ⟨hno, hput⟩ := putK_take hkeys hkv
    refine ⟨_, fun H e Q q => ⟨tt, _, rfl, SqT.of (e _ _ (e2 _ _ ht)), rfl, _, _, rfl, _, _, rfl, rfl, q⟩, rfl, et_yes ⟨fun _ => ev_var rfl (ev_var rfl ⟨ky, rfl, e2, ?_⟩), fun z => nomatch z⟩⟩
    rw [iv.2, hput]
  · refine fun H3 s3 w3 => ?_
    have e5 : acc = kvs2 := by
      rw [iv.2]
      exact List.take_of_length_le (by rw [hlen, ← paired_len hk2]; exact Nat.le_refl _)
    have hG3a : upd G2 q (.dK acc) a = none := s3.fr a hGh (by rw [ha1]; exact fun z => nomatch z)
    have s4 := (s2.trans s3).mut (o := .ins (cls K "Book") dx (putF "by_mark" (.ref q) [("reasons", .ref t), ("by_mark", .ref d)])) hHa hG3a
    walk_at "ev"
    have hup : upd H3 a (.ins (cls K "Book") dx (putF "by_mark" (.ref q) [("reasons", .ref t), ("by_mark", .ref d)])) a = some (.ins (cls K "Book") dx [("reasons", .ref t), ("by_mark", .ref q)]) := upd_same
    have hG4 : upd G2 q (.dK acc) a = none := hG3a
    generalize upd H3 a (.ins (cls K "Book") dx (putF "by_mark" (.ref q) [("reasons", .ref t), ("by_mark", .ref d)])) = H4 at s4 hup
    have w4 : Wd none (upd G2 q (.dK acc)) H4 := .none s4.gh
    clear w3
    walk_at "ev"
    refine fun H5 s5 w5 => ?_
    have s6 := (s4.trans s5).know hHa (s5.hh _ _ hup nb) hG4
    have g1 := same_new (o := .dK acc) hq
    have g2 := same_new (o := .ins (cls K "Book") dx [("reasons", .ref t), ("by_mark", .ref q)]) hG4
    refine kq _ _ _ s6 (k _ _ s6.gg ?_)
    obtain ⟨ta, et, hta⟩ := htr2
    cases et
    refine ⟨a, dx, t, q, acc, rfl, upd_same, ⟨t, rfl, ftup_mono (e2.trans (g1.trans g2)) hta⟩, g2 _ _ upd_same, ?_⟩
    have hk3 : Paired (RecIs K Gh) acc rs := by
      rw [e5]
      exact hk2
    exact paired_imp (fun _ _ z => ⟨z.1, rowIs_mono (e2.trans (g1.trans g2)) z.2⟩) hk3
end
end FD
namespace FD
open PySem PyProof.Rows L2
section
variable {P : Program} {w : World} {K : PySem.W.Frag} {mg : Str → Option Value} {base : Heap}
local macro_rules | `(tactic| walk_at "ev") => `(tactic| repeat (first | with_reducible refine s_seq ?_ | with_reducible refine s_skip ?_ | with_reducible refine s_gn ?_ | with_reducible refine ev_op ?_ | with_reducible refine ev_un ?_ | ((with_reducible refine' ev_var ?hv ?_); (case hv => rfl)) | with_reducible refine ev_c ?_ | with_reducible refine ev_cb ?_ | with_reducible refine ea_cons ?_ | with_reducible refine ea_nil ?_ | with_reducible refine et_test ?_ | with_reducible refine et_B ?_ | with_reducible refine s_ret (by assumption) ?_ | with_reducible refine s_asg (by assumption) ?_))
theorem marks_nd : ((List.range 120).map nthMark).Nodup := by decide +kernel
theorem mark_inj {i j : Nat} (hi : i < 120) (hj : j < 120) (h : nthMark i = nthMark j) : i = j := by
  have nd := marks_nd
  rcases Nat.lt_trichotomy i j with q | q | q
  · exact absurd (by rw [List.getElem_map, List.getElem_map, List.getElem_range, List.getElem_range]; exact h) (List.pairwise_iff_getElem.mp nd i j (by simp; omega) (by simp; omega) q)
  · exact q
  · exact absurd (by rw [List.getElem_map, List.getElem_map, List.getElem_range, List.getElem_range]; exact h.symm) (List.pairwise_iff_getElem.mp nd j i (by simp; omega) (by simp; omega) q)
theorem nodup_len {α : Type} [BEq α] [LawfulBEq α] : ∀ (l m : List α), l.Nodup → (∀ x ∈ l, x ∈ m) → l.length ≤ m.length
  | [], _, _, _ => Nat.zero_le _
  | a :: l, m, nd, h => by
    have ha := h a List.mem_cons_self
    rw [List.nodup_cons] at nd
    have h2 := nodup_len l (m.erase a) nd.2 fun x hx => (List.mem_erase_of_ne (fun e => nd.1 (by rw [← e]; exact hx))).mpr (h x (List.mem_cons_of_mem _ hx))
    rw [List.length_erase_of_mem ha] at h2
    have := List.length_pos_of_mem ha
    rw [List.length_cons]
    omega
/-- how many of the first marks are taken -/
def cntM (ks : List Str) (n : Nat) : Nat := ((List.range n).filter fun j => decide (nthMark j ∈ ks)).length
theorem cntM_succ (ks : List Str) (n : Nat) : cntM ks (n + 1) = cntM ks n + if nthMark n ∈ ks then 1 else 0 := by
  unfold cntM
  rw [List.range_succ, List.filter_append, List.length_append]
  by_cases h : nthMark n ∈ ks
  · rw [if_pos h, List.filter_cons, if_pos (decide_eq_true h)]
    rfl
  · rw [if_neg h, List.filter_cons, if_neg (by rw [decide_eq_false h]; decide)]
    rfl
theorem cntM_le (ks : List Str) (n : Nat) (hn : n ≤ 120) : cntM ks n ≤ ks.length := by
  have h := nodup_len (((List.range n).filter fun j => decide (nthMark j ∈ ks)).map nthMark) ks (by
    refine List.Pairwise.map (R := fun a b => a < b ∧ b < 120) _ (fun a b h e => ?_) ?_
    · exact absurd (mark_inj (by omega) h.2 e) (by omega)
    · refine List.Pairwise.imp_of_mem (R := fun a b => a < b) (fun {a b} ha hb h => ⟨h, ?_⟩) (List.Pairwise.sublist List.filter_sublist List.pairwise_lt_range)
      have := List.mem_range.mp (List.mem_filter.mp hb).1
      omega) fun x hx => by
    obtain ⟨j, hj, rfl⟩ := List.mem_map.mp hx
    exact of_decide_eq_true (List.mem_filter.mp hj).2
  rw [List.length_map] at h
  exact h
theorem sqt_hide {G : Hp} {a c : Addr} {xs ys : List V} (h : SqT K G c xs) (ha : G a = some (.lst ys)) : SqT K (hide G a) c xs := by
  rcases h with (h | ⟨ob, h⟩) | h
  · exact .inl (.inl (by rw [hide_ne (fun z => by rw [z, ha] at h; cases h)]; exact h))
  · exact .inl (.inr ⟨ob, by rw [hide_ne (fun z => by rw [z, ha] at h; cases h)]; exact h⟩)
  · exact .inr h
theorem dps_hide {G : Hp} {a : Addr} {v : V} {l : List Str} {ys : List V} (h : Dp K G v (.tuple (l.map .str))) (ha : G a = some (.lst ys)) : Dp K (hide G a) v (.tuple (l.map .str)) := by
  obtain ⟨c, rfl, q⟩ := dp_strs h
  exact .tup (sqt_hide q ha) (dpa_strs _)
theorem rowIs_hide {G : Hp} {a : Addr} {v : V} {r : RowT} {ys : List V} (h : RowIs K G v r) (ha : G a = some (.lst ys)) : RowIs K (hide G a) v r := by
  obtain ⟨c, dx, tp, tc, tn, nm, e1, e2, e3, e4, e5, e6⟩ := h
  exact ⟨c, dx, tp, tc, tn, nm, e1, by rw [hide_ne (fun z => by rw [z, ha] at e2; cases e2)]; exact e2, dps_hide e3 ha, dps_hide e4 ha, dps_hide e5 ha, e6⟩
theorem recAt_hide {G : Hp} {a : Addr} {v : V} {r : RecT} {ys : List V} (h : RecAt K G v r) (ha : G a = some (.lst ys)) : RecAt K (hide G a) v r := by
  obtain ⟨t, rv, e1, e2, e3⟩ := h
  exact ⟨t, rv, e1, by rw [hide_ne (fun z => by rw [z, ha] at e2; cases e2)]; exact e2, rowIs_hide e3 ha⟩
theorem paired_app {α β : Type} {F : α → β → Prop} : ∀ {xs : List α} {ys : List β} {us : List α} {vs : List β}, Paired F xs ys → Paired F us vs → Paired F (xs ++ us) (ys ++ vs)
  | _, _, _, _, .nil, h => h
  | _, _, _, _, .cons a t, h => .cons a (paired_app t h)
theorem s_aug {b : Option (Addr × Addr)} {σ : L2.St} {G H : Hp} {D : Ends} {i : Nat} {n : Int} {te : TE} (w : Wd b G H) (hi : σ[i]? = some (some (.int n))) (h : Ev b te σ G fun y G1 => ∃ m, y = .int m ∧ ∀ H1, Stp (Bg b) G H G1 H1 → Wd b G1 H1 → D.nx (σ.set i (some (.int (n + m)))) H1) : tAug i te (ipI fun i j => i + j) D σ H :=
  ⟨_, hi, h H w _ fun y G1 H1 e1 w1 ⟨m, em, q⟩ => ⟨n, m, rfl, em, q H1 e1 w1⟩⟩
def pGrown (K : PySem.W.Frag) : List V → Hp → (V → Hp → Prop) → Prop := fun vs G P => ∃ (v u : V) (R : List Str) (rs : List RecT) (rows : List RowT), vs = [v, u] ∧ BookIs K G v R rs ∧ RowsAt K G u rows ∧ NamesOk R ∧ 1 ≤ R.length ∧ R.length ≤ 7 ∧ sortedS R = true ∧ (rs.map (·.1)).Nodup ∧ rs.length ≤ 50 ∧ rows.length ≤ 10 ∧
  (∀ r ∈ rows, In1 R r) ∧ ∀ (ms : List Str) v' G', ms.length = rows.length → Same G G' → BookIs K G' v' R (rs ++ ms.zip rows) → P v' G'
theorem d_Book_grown (T : Mo K mg) : DefM P w K mg base CX0 8 (cls K "Book") "grown" ["self", "rows"] (SpP 2 (pGrown K)) := by
  obtain ⟨fd, F⟩ := T.f_Book_grown
  refine ⟨_, fd, F.ok sc_Book_grown spP_len (fun cdv A outer s H vs Q E hr h => ?_), T.m_Book_grown, F.bindsN fun _ _ _ _ _ _ us hl => match us, hl with | [_, _], _ => rfl⟩
  have hu := hu_of hr
  obtain ⟨_, G, P, sm, hp, kq⟩ := h
  have wd : Wd none G H := .none sm
  refine ⟨_, PSs.nox (pss_cons (ps_for PassesOwn.never rfl (pi_list (pv 1)) (pg_name (i := 2) sc_Book_grown.nd rfl (Or.inl rfl))
      (pss_cons (ps_set (i := 3) sc_Book_grown.nd rfl (Or.inl rfl) (pe_d (d_stranger T) (hr.mono (by decide)) (by rfl) pass0 (pa_cons (pv 2) (pa_cons (pe_fld (pv 0) rfl) pa_nil))))
    (pss_one (ps_if (pt_cmpR op_notN (pv 3) pe_non (by rfl)) (pss_one ps_never) pss_nil))))
    (pss_cons (ps_set (i := 4) sc_Book_grown.nd rfl (Or.inl rfl) (pe_dm0 (d_Book_records T) T.cl_Book (pv 0) (hr.mono (by decide)) pass0))
    (pss_cons (ps_set (i := 5) sc_Book_grown.nd rfl (Or.inl rfl) pe_int)
    (pss_cons (ps_for PassesOwn.never rfl (pi_list (pv 1)) (pg_name (i := 2) sc_Book_grown.nd rfl (Or.inl rfl))
      (pss_cons (ps_while PassesOwn.never (pt_cmp (pc_din hu (pe_d (d_nth_mark T) (hr.mono (by decide)) (by rfl) pass0 (pa_cons (pv 5) pa_nil)) (pe_fld (pv 0) rfl))) (pss_one (ps_aug (i := 5) sc_Book_grown.nd rfl (Or.inl rfl) pe_int ip_add)))
    (pss_cons (ps_expr (pe_bm PySem.F.plainAttrs_list PySem.F.slot_list_append PySem.F.type_list_append mt_append (pv 4) (pa_cons (pe_tup (pa_cons (pe_d (d_nth_mark T) (hr.mono (by decide)) (by rfl) pass0 (pa_cons (pv 5) pa_nil)) (pa_cons (pv 2) pa_nil))) pa_nil)))
    (pss_one (ps_aug (i := 5) sc_Book_grown.nd rfl (Or.inl rfl) pe_int ip_add)))))
    (pss_one (ps_ret (pe_d (d_book_with T) (hr.mono (by decide)) (by rfl) pass0 (pa_cons (pe_fld (pv 0) rfl) (pa_cons (pv 4) pa_nil))))))))), ?_⟩
  obtain ⟨v, u, R, rs, rows, rfl, hB, hrows, hR, hR1, hR7, hs, hnd, hl, hrl, hin, k⟩ := hp
  obtain ⟨ra, rvs, rfl, hra, hrp⟩ := hrows
  have nb : ∀ {a : Addr}, ¬ Bg (none : Option (Addr × Addr)) a := fun z => nomatch z
  have hrlen := paired_len hrp
  walk_at "ev"
  refine s_forL (K := K) wd (ev_var rfl ⟨ra, rvs, rfl, SqL.of hra, fun i σ G2 H2 => Stp (Bg none) G H G2 H2 ∧ Wd none G2 H2 ∧ ∃ z1 z2, σ = [some v, some (.ref ra), z1, z2, none, none], ⟨fun i σ G2 H2 h => ⟨h.1.gg, h.2.1⟩, ?_⟩, fun H1 s1 w1 => ⟨s1, w1, _, _, rfl⟩, ?_⟩)
  case refine_2 =>
    rintro i x σ G2 H2 hx ⟨s2, w2, z1, z2, rfl⟩
    obtain ⟨r0, hr0, hx0⟩ := paired_get hrp hx
    clear wd
    walk_at "ev"
    refine ev_call (ea_cons (ev_var rfl (ea_cons (ev_reasons (T := T) (ev_var rfl ⟨R, rs, bookIs_mono s2.gg hB, fun v1 hv1 => ea_nil ⟨rfl, x, v1, r0, R, rfl, rowIs_mono s2.gg hx0, .inr (rs_dp hv1), hin r0 (List.mem_of_getElem? hr0), fun G7 e7 H7 s7 w7 => ?_⟩⟩)))))
    clear w2
    dsimp only
    refine s_if w7 (et_test ?_)
    walk_at "ev"
    exact Rv.here (fun _ _ _ q => ⟨rfl, q⟩) ⟨_, rfl, fun H8 s8 w8 => ⟨(fun z => nomatch z), fun _ => ⟨G7, (s2.trans s7).trans s8, w8, _, _, rfl⟩⟩⟩
  rintro σ G2 H2 ⟨s2, w2, z1, z2, rfl⟩
  clear wd
  walk_at "ev"
  refine ev_meth (ev_var rfl ?_)
  obtain ⟨ba, bdx, bt, bd, bkvs, rfl, hb1, hb2, hb3, hb4⟩ := id hB
  refine ⟨ba, bdx, _, rfl, s2.gg _ _ hb1, rfl, ea_nil ⟨rfl, _, R, rs, rfl, bookIs_mono s2.gg hB, fun v' G3 e3 hnew hrec => ?_⟩⟩
  obtain ⟨a, rfl, hGa⟩ := hnew
  obtain ⟨a', xs0, ea, hla, hpr⟩ := hrec
  cases ea
  refine fun H3 s3 w3 => ?_
  have s4 := s2.trans s3
  have hGa0 : G a = none := s2.gg.free hGa
  have hHa : H a = none := s4.newAt hGa0 hla
  have ha3 := w3.same _ _ hla
  have s5 := s4.hide hGa0
  have hpr5 := paired_imp (fun _ _ q => recAt_hide q hla) hpr
  have hGh : hide G3 a a = none := hide_same
  generalize hide G3 a = Gh at s5 hpr5 hGh
  clear w2 w3 s4 s3 s2 e3
  have w5 : Wd none Gh H3 := .none s5.gh
  have hB5 := bookIs_mono s5.gg hB
  have hra5 := s5.gg _ _ hra
  walk_at "ev"
  intro H6 s6 w6
  have s7 := s5.trans s6
  have ha6 := s6.hh _ _ ha3 nb
  clear w5 s6 s5
  have hkeys : bkvs.map (·.1) = rs.map fun r => (Sum.inr r.1 : Key) := recIs_keys hb4
  have hin? : ∀ z : Str, (valV bkvs (.inr z)).isSome = decide (z ∈ rs.map (·.1)) := fun z => by
    by_cases h : z ∈ rs.map (·.1)
    · rw [decide_eq_true h]
      obtain ⟨r, hr, e⟩ := List.mem_map.mp h
      have hm : (Sum.inr z : Key) ∈ bkvs.map (·.1) := by rw [hkeys]; exact List.mem_map.mpr ⟨r, hr, by rw [e]⟩
      obtain ⟨kv, hkv, ek⟩ := List.mem_map.mp hm
      unfold valV
      rw [Option.isSome_map, List.find?_isSome]
      exact ⟨kv, hkv, decide_eq_true ek⟩
    · rw [decide_eq_false h, valV_none (by
        rw [hkeys]
        intro hm
        obtain ⟨r, hr, e⟩ := List.mem_map.mp hm
        exact h (List.mem_map.mpr ⟨r, hr, Sum.inr.inj e⟩))]
      rfl
  walk_at "ev"
  refine s_forL (K := K) w6 (ev_var rfl ⟨ra, rvs, rfl, SqL.of hra5, fun i σ G2 H2 => Same Gh G2 ∧ Stp (Bg none) G H G2 H2 ∧ Wd none G2 H2 ∧ G2 a = none ∧ ∃ (ms : List Str) (n : Nat) (acc : List V) (z1 z2 : Option V), σ = [some (.ref ba), some (.ref ra), z1, z2, some (.ref a), some (.int (n : Int))] ∧ H2 a = some (.lst acc) ∧ Paired (RecAt K G2) acc (rs ++ ms.zip (rows.take i)) ∧ ms.length = i ∧
      n ≤ cntM (rs.map (·.1)) n + i ∧ n ≤ 60 ∧ ms.Nodup ∧ (∀ m ∈ ms, m ∉ rs.map (·.1)) ∧ ∀ m ∈ ms, ∃ j, j < n ∧ m = nthMark j,
    ⟨fun i σ G2 H2 h => ⟨h.1, h.2.2.1⟩, ?_⟩, fun H8 s8 w8 => ⟨Same.refl _, s7.trans s8, w8, hGh, [], 0, xs0, _, _, rfl, s8.hh _ _ ha6 nb, by rw [List.take_zero, List.zip_nil_right, List.append_nil]; exact hpr5, rfl, Nat.zero_le _, by decide, List.nodup_nil, fun _ h => (nomatch h), fun _ h => (nomatch h)⟩, ?_⟩)
  case refine_2 =>
    rintro i x σ G2 H2 hx ⟨sm2, s2, w2, hGa2, ms, n, acc, z1, z2, rfl, ha2, hacc, hms, hn1, hn2, hmnd, hmnot, hmj⟩
    obtain ⟨r0, hr0, hx0⟩ := paired_get hrp hx
    have hi : i < rows.length := (List.getElem?_eq_some_iff.mp hr0).1
    clear w6 s7
    walk_at "ev"
    refine s_while (b := none) (fun m σ G4 H4 => Stp (Bg none) G2 H2 G4 H4 ∧ Wd none G4 H4 ∧ ∃ n' : Nat, σ = [some (.ref ba), some (.ref ra), some x, z2, some (.ref a), some (.int (n' : Int))] ∧ n ≤ n' ∧ n' ≤ cntM (rs.map (·.1)) n' + i ∧ n' ≤ 60 ∧ m = 60 - n') (60 - n)
      ⟨Stp.refl w2.same, w2, n, rfl, Nat.le_refl _, hn1, hn2, rfl⟩ ?_
    rintro m σ G4 H4 ⟨s4, w4, n', rfl, hnn, hc1, hc2, rfl⟩
    have hB4 := bookIs_mono (s2.trans s4).gg hB
    refine ⟨w4, et_B (ev_din (ev_call (ea_cons (ev_var rfl (ea_nil ⟨rfl, n', rfl, by omega, fun G5 e5 => ?_⟩)))))⟩
    refine ev_fld (ev_var rfl ⟨ba, _, bdx, _, _, rfl, e5 _ _ ((s2.trans s4).gg _ _ hb1), T.cl_Book, T.na_Book_by_mark, rfl, bd, bkvs, .inr (nthMark n'), rfl, rfl, e5 _ _ ((s2.trans s4).gg _ _ hb3), _, rfl, fun H5 s5 w5 => ⟨fun hc => ?_, fun hc => ?_⟩⟩)
    · rw [hin?] at hc
      have hmem := of_decide_eq_true hc
      have hcs := cntM_succ (rs.map (·.1)) n'
      rw [if_pos hmem] at hcs
      have hcl := cntM_le (rs.map (·.1)) (n' + 1) (by omega)
      rw [List.length_map] at hcl
      refine s_aug w5 rfl (ev_c ⟨1, rfl, fun H6 s6 w6 => ?_⟩)
      exact ⟨60 - (n' + 1), by omega, G5, (s4.trans s5).trans s6, w6, n' + 1, rfl, by omega, by omega, by omega, rfl⟩
    · rw [hin?] at hc
      have hno := of_decide_eq_false hc
      have ha5 := s5.hh _ _ (s4.hh _ _ ha2 nb) nb
      have haccl : acc.length ≤ 100 := by
        rw [paired_len hacc, List.length_append, List.length_zip, List.length_take]
        omega
      clear w4 w2
      walk_at "ev"
      refine s_app (a := a) (xs := acc) w5 rfl ha5 nb (by omega) ?_
      refine ev_tup (ea_cons (ev_call (ea_cons (ev_var rfl (ea_nil ⟨rfl, n', rfl, by omega, fun G6 e6 => ?_⟩)))))
      refine ea_cons (ev_var rfl (ea_nil ⟨by show 2 ≤ 1000000; decide, fun t ht H7 s7 w7 ha7 => ?_⟩))
      have s8 := (s2.trans (s4.trans s5)).trans s7
      have hHa7 : upd G6 t (.tup [.str (nthMark n'), x]) a = none := s7.fr a (s5.fr a (s4.fr a hGa2 (by rw [ha2]; exact fun z => nomatch z)) (by rw [s4.hh _ _ ha2 nb]; exact fun z => nomatch z)) (by rw [ha5]; exact fun z => nomatch z)
      have s9 := s8.mut (o := .lst (acc ++ [.ref t])) hHa hHa7
      have ha9 : upd H7 a (.lst (acc ++ [.ref t])) a = some (.lst (acc ++ [.ref t])) := upd_same
      generalize upd H7 a (.lst (acc ++ [.ref t])) = H9 at s9 ha9
      clear w7
      have w9 : Wd none _ H9 := .none s9.gh
      walk_at "ev"
      dsimp only
      refine s_aug w9 rfl (ev_c ⟨1, rfl, fun H10 s10 w10 => ?_⟩)
      have hcs := cntM_succ (rs.map (·.1)) n'
      rw [if_neg hno] at hcs
      have hcl := cntM_le (rs.map (·.1)) (n' + 1) (by omega)
      rw [List.length_map] at hcl
      have g8 : Same G2 (upd G6 t (.tup [.str (nthMark n'), x])) := s4.gg.trans (s5.gg.trans s7.gg)
      refine ⟨_, sm2.trans g8, s9.trans s10, w10, hHa7, ms ++ [nthMark n'], n' + 1, acc ++ [.ref t], _, _, rfl, s10.hh _ _ ha9 nb, ?_, by rw [List.length_append, hms]; rfl, by omega, by omega, ?_, ?_, ?_⟩
      · have et : rows.take (i + 1) = rows.take i ++ [r0] := by rw [List.take_succ, hr0]; rfl
        rw [et, List.zip_append (by rw [hms, List.length_take]; omega), ← List.append_assoc]
        refine paired_app (paired_imp (fun _ _ q => recAt_mono g8 q) hacc) (.cons ⟨t, x, rfl, upd_same, rowIs_mono (s2.gg.trans g8) hx0⟩ .nil)
      · refine List.nodup_append.mpr ⟨hmnd, List.nodup_cons.mpr ⟨fun h => (nomatch h), List.nodup_nil⟩, fun y hy z hz e => ?_⟩
        obtain ⟨j, hj, rfl⟩ := hmj y hy
        rw [List.mem_singleton.mp hz] at e
        exact absurd (mark_inj (by omega) (by omega) e) (by omega)
      · intro y hy
        rcases List.mem_append.mp hy with q | q
        · exact hmnot y q
        · rw [List.mem_singleton.mp q]; exact hno
      · intro y hy
        rcases List.mem_append.mp hy with q | q
        · obtain ⟨j, hj, e⟩ := hmj y q
          exact ⟨j, by omega, e⟩
        · exact ⟨n', by omega, List.mem_singleton.mp q⟩
  rintro σ G2 H2 ⟨sm2, s2, w2, hGa2, ms, n, acc, z1, z2, rfl, ha2, hacc, hms, hn1, hn2, hmnd, hmnot, hmj⟩
  rw [hrlen, List.take_length] at hacc
  rw [hrlen] at hms
  have s3 := s2.know hHa ha2 hGa2
  have g3 := same_new (o := .lst acc) hGa2
  have w3 : Wd none (upd G2 a (.lst acc)) H2 := .none s3.gh
  have hzf : (ms.zip rows).map (·.1) = ms := List.map_fst_zip (by omega)
  clear w2 w6
  walk_at "ev"
  refine ev_call (ea_cons (ev_reasons (T := T) (ev_var rfl ⟨R, rs, bookIs_mono s3.gg hB, fun v1 hv1 => ea_cons (ev_var rfl (ea_nil ⟨rfl, v1, _, R, rs ++ ms.zip rows, rfl, .inr (rs_dp hv1), ⟨a, acc, rfl, upd_same, paired_imp (fun _ _ q => recAt_mono g3 q) hacc⟩, hR, hR1, hR7, hs, ?_, ?_, fun v' G4 e4 hB4 H5 s5 w5 => kq _ _ _ (s3.trans s5) (k ms _ _ hms (s3.trans s5).gg hB4)⟩))⟩)))
  · rw [List.map_append, hzf]
    exact List.nodup_append.mpr ⟨hnd, hmnd, fun y hy z hz e => hmnot z hz (e ▸ hy)⟩
  · rw [List.length_append, List.length_zip]
    omega
end
end FD
namespace FD
open PySem PyProof.Rows L2
section
variable {P : Program} {w : World} {K : PySem.W.Frag} {mg : Str → Option Value} {base : Heap}
local macro_rules | `(tactic| walk_at "ev") => `(tactic| repeat (first | with_reducible refine s_seq ?_ | with_reducible refine s_skip ?_ | with_reducible refine s_gn ?_ | with_reducible refine ev_op ?_ | with_reducible refine ev_un ?_ | ((with_reducible refine' ev_var ?hv ?_); (case hv => rfl)) | with_reducible refine ev_c ?_ | with_reducible refine ev_cb ?_ | with_reducible refine ea_cons ?_ | with_reducible refine ea_nil ?_ | with_reducible refine et_test ?_ | with_reducible refine et_B ?_ | with_reducible refine s_ret (by assumption) ?_ | with_reducible refine s_asg (by assumption) ?_))
theorem ea_starV {b : Option (Addr × Addr)} {σ : L2.St} {G : Hp} {Q : List V → Hp → Prop} {te : TE} {t : TA} (h : Ev b te σ G fun x G1 => ∃ a xs, x = .ref a ∧ SqE K G1 a xs ∧ Ev b t σ G1 fun ys G2 => Q (xs ++ ys) G2) : Ev b (StX.tStar K te t) σ G Q :=
  fun H w Q k => h H w _ fun x G1 H1 e1 w1 ⟨a, xs, ex, q, r⟩ => ⟨a, xs, ex, (sqe_mono w1.same q).symm, r H1 w1 _ fun ys G2 H2 e2 w2 p => k _ _ _ (e1.trans e2) w2 p⟩
def pBookAdd (K : PySem.W.Frag) : List V → Hp → (V → Hp → Prop) → Prop := fun vs G P => ∃ (v u : V) (R : List Str) (rs : List RecT) (r : RecT), vs = [v, u] ∧ BookIs K G v R rs ∧ RecAt K G u r ∧ sortedS R = true ∧ BookArg R (rs ++ [r]) ∧ ∀ v' G', Same G G' → BookIs K G' v' R (rs ++ [r]) → P v' G'
theorem d_Book_add (T : Mo K mg) : DefM P w K mg base CX0 7 (cls K "Book") "__add__" ["self", "record"] (SpP 2 (pBookAdd K)) := by
  obtain ⟨fd, F⟩ := T.f_Book_add
  refine ⟨_, fd, F.ok sc_Book_add spP_len (fun cdv A outer s H vs Q E hr h => ?_), T.m_Book_add, F.bindsN fun _ _ _ _ _ _ us hl => match us, hl with | [_, _], _ => rfl⟩
  have hu := hu_of hr
  obtain ⟨_, G, P, sm, hp, kq⟩ := h
  have wd : Wd none G H := .none sm
  refine ⟨_, PSs.nox (pss_cons (ps_set (i := 2) sc_Book_add.nd rfl (Or.inl rfl) (pe_lst (StX.pa_star (pe_dm0 (d_Book_records T) T.cl_Book (pv 0) (hr.mono (by decide)) pass0) (pa_cons (pv 1) pa_nil))))
    (pss_one (ps_ret (FD.pe_dcS (d_Book_init T) (hr.mono (by decide)) (by rfl) pass0 (pa_cons (pe_fld (pv 0) rfl) (StX.pa_star (pv 2) pa_nil)))))), ?_⟩
  obtain ⟨v, u, R, rs, r, rfl, hB, hr0, hs, harg, k⟩ := hp
  obtain ⟨ba, bdx, bt, bd, bkvs, rfl, hb1, hb2, hb3, hb4⟩ := id hB
  walk_at "ev"
  refine ev_lst (ea_starV (ev_meth (ev_var rfl ⟨ba, bdx, _, rfl, hb1, rfl, ea_nil ⟨rfl, _, R, rs, rfl, hB, fun v' G1 e1 hnew hrec => ?_⟩⟩)))
  obtain ⟨a, xs, rfl, ha, hpr⟩ := hrec
  refine ⟨a, xs, rfl, .inl (SqL.of ha), ea_cons (ev_var rfl (ea_nil ⟨?_, fun q hq H1 s1 w1 => ?_⟩))⟩
  · have h40 := harg.2.2.2.2.2.2
    rw [List.length_append] at h40 ⊢
    have := paired_len hpr
    simp only [List.length_cons, List.length_nil] at h40 ⊢
    omega
  clear wd
  walk_at "ev"
  have hp2 : Paired (RecAt K (upd G1 q (.lst (xs ++ [u])))) (xs ++ [u]) (rs ++ [r]) := paired_imp (fun _ _ z => recAt_mono (same_new hq) z) (paired_app hpr (.cons (recAt_mono e1 hr0) .nil))
  have h40 := harg.2.2.2.2.2.2
  have hl := paired_len hp2
  refine ev_makeS (ea_cons (ev_reasons (T := T) (ev_var rfl ⟨R, rs, bookIs_mono s1.gg hB, fun v1 hv1 => ea_starV (ev_var rfl ⟨q, _, rfl, .inl (SqL.of upd_same), ea_nil ?_⟩)⟩)))
  rw [List.append_nil]
  refine ⟨v1, xs ++ [u], rfl, by omega, v1, _, R, rs ++ [r], rfl, .inr (rs_dp hv1), hp2, harg, fun R' v' G' hR' e' _ hB' H3 s3 w3 => ?_⟩
  obtain rfl := sortedOf_self hs hR'
  exact kq _ _ _ (s1.trans s3) (k _ _ (s1.trans s3).gg hB')
end
end FD
namespace FD
open PySem PyProof.Rows L2
section
variable {P : Program} {w : World} {K : PySem.W.Frag} {mg : Str → Option Value} {base : Heap}
local macro_rules | `(tactic| walk_at "ev") => `(tactic| repeat (first | with_reducible refine s_seq ?_ | with_reducible refine s_skip ?_ | with_reducible refine s_gn ?_ | with_reducible refine ev_op ?_ | with_reducible refine ev_un ?_ | ((with_reducible refine' ev_var ?hv ?_); (case hv => rfl)) | with_reducible refine ev_c ?_ | with_reducible refine ev_cb ?_ | with_reducible refine ea_cons ?_ | with_reducible refine ea_nil ?_ | with_reducible refine et_test ?_ | with_reducible refine et_B ?_ | with_reducible refine s_ret (by assumption) ?_ | with_reducible refine s_asg (by assumption) ?_))
theorem cutV_hi {xs : List V} {i : Nat} (h : i ≤ xs.length) : cutV xs none (some (i : Int)) = xs.take i := by
  unfold cutV
  rw [HT.sIx_none, HT.sIx_nat, List.drop_zero, Nat.sub_zero, Nat.min_eq_left h]
theorem dpa_take {G : Hp} : ∀ {vs : List V} {ds : List PyData} (i : Nat), DpAll K G vs ds → DpAll K G (vs.take i) (ds.take i)
  | _, _, 0, _ => by rw [List.take_zero, List.take_zero]; exact .nil
  | _, _, i + 1, .nil => .nil
  | _, _, i + 1, .cons a t => .cons a (dpa_take i t)
/-- e[:i], a list -/
theorem rv_cutL {b : Option (Addr × Addr)} {G : Hp} {Q : V → Hp → Prop} {v : V} {ds : List PyData} {i : Nat} (h : Dp K G v (.list ds)) (hi : i ≤ ds.length) (p : ∀ u G2, Same G G2 → Dp K G2 u (.list (ds.take i)) → Q u G2) : Rv b (rSlL K v none (some (i : Int))) G Q := by
  obtain ⟨a, xs, rfl, q, da⟩ := dp_lst h
  have hl := dpa_len da
  refine Rv.made (fun H e Q k => ⟨a, xs, rfl, sql_mono e q, k⟩) fun c hc => ?_
  rw [cutV_hi (by omega)]
  exact p _ _ (same_new hc) (dp_newL (dpa_take i da) hc)
/-- e[:i], a list or a tuple, not the whole -/
theorem rv_cutE {b : Option (Addr × Addr)} {G : Hp} {Q : V → Hp → Prop} {v : V} {ds : List PyData} {i : Nat} (h : DpE K G v ds) (hi : i < ds.length) (p : ∀ u G2, Same G G2 → DpE K G2 u (ds.take i) → Q u G2) : Rv b ((fun x lo hi H Q => rSlL K x lo hi H Q ∨ rSlT K x lo hi H Q) v none (some (i : Int))) G Q := by
  rcases h with h | h
  · exact fun H w Q' k => .inl (rv_cutL h (Nat.le_of_lt hi) (fun u G2 e q => p u G2 e (.inl q)) H w Q' k)
  · obtain ⟨a, xs, rfl, q, da⟩ := dp_tup h
    have hl := dpa_len da
    refine fun H w Q' k => .inr ⟨a, xs, rfl, sqt_mono w.same q, fun z => ?_, fun c hc => ?_⟩
    · rw [HT.sIx_nat] at z
      omega
    · rw [cutV_hi (by omega)]
      exact k _ _ _ ((Stp.refl w.same).new hc) (w.new hc) (p _ _ (same_new (w.same.free hc)) (.inr (dp_newT (dpa_take i da) (w.same.free hc))))
def ReasonsOk (R : List Str) : Prop := NamesOk R ∧ 1 ≤ R.length ∧ R.length ≤ 7
def pCheckReasons (K : PySem.W.Frag) : List V → Hp → (V → Hp → Prop) → Prop := fun vs G P => ∃ (v : V) (R : List Str), vs = [v] ∧ DpE K G v (R.map .str) ∧ ReasonsOk R ∧ ∀ G', Same G G' → P .non G'
theorem d_check_reasons (T : Mo K mg) : Def P w K mg base CX0 3 "check_reasons" ["reasons"] (SpP 1 (pCheckReasons K)) := by
  obtain ⟨fd, F⟩ := T.f_check_reasons
  refine ⟨_, fd, F.ok sc_check_reasons spP_len (fun cdv A outer s H vs Q E hr h => ?_), T.g_check_reasons, F.kp, F.bindsN fun _ _ _ _ _ _ us hl => match us, hl with | [_], _ => rfl⟩
  have hu := hu_of hr
  obtain ⟨_, G, P, sm, hp, kq⟩ := h
  have wd : Wd none G H := .none sm
  refine ⟨_, PSs.nox (pss_cons (ps_if (PW.pt (pw_or (pt_not (pt_val (pe_callB call_isiT (by rfl) T.n_isinstance (by decide +kernel) (pa_cons (pv 0) (pa_cons (pe_tup (pa_cons (pe_bltn (v := .ty "list") (by rfl) T.n_list (by decide +kernel) rfl) (pa_cons (pe_bltn (v := .ty "tuple") (by rfl) T.n_tuple (by decide +kernel) rfl) pa_nil))) pa_nil))))) (pw_or1 (pt_not (pt_chain op_le op_le pe_int (pe_callB call_len_seq (by rfl) T.n_len (by decide +kernel) (pa_cons (pv 0) pa_nil)) (C8.pe_gc (by rfl) (gc_int T.g_MOST_REASONS_sheets))))))) (pss_one ps_never) pss_nil)
    (pss_one (ps_for PassesOwn.never rfl (pi_enumA (by rfl) T.n_enumerate (pa_cons (pv 0) pa_nil)) (pg_tup rfl (pgs_cons (pg_name (i := 1) sc_check_reasons.nd rfl (Or.inl rfl)) (pgs_cons (pg_name (i := 2) sc_check_reasons.nd rfl (Or.inl rfl)) pgs_nil)))
      (pss_one (ps_if (PW.pt (pw_or (pt_not (pt_val (pe_d (d_is_name T) (hr.mono (by decide)) (by rfl) pass0 (pa_cons (pv 2) pa_nil)))) (pw_or1 (pt_cmpR (op_inW hr.units) (pv 2) (pe_slice (sl_list.or sl_tup) (pv 0) po_none (po_some (pv 1))) (by rfl))))) (pss_one ps_never) pss_nil))))), ?_⟩
  obtain ⟨v, R, rfl, hv, ⟨hR, hR1, hR7⟩, k⟩ := hp
  walk_at "ev"
  refine s_if wd (et_or (et_not (et_test ?_)))
  walk_at "ev"
  refine ev_tup (ea_cons (ev_c (ea_cons (ev_c (ea_nil ⟨by show 2 ≤ 1000000; decide, fun t ht => ?_⟩)))))
  walk_at "ev"
  refine rv_isi2 (dpe_mono (same_new ht) hv) upd_same ⟨_, rfl, (fun z => nomatch z), fun _ => et_not (et_test (ev_chain ?_))⟩
  walk_at "ev"
  refine rv_lenE (dpe_mono (same_new ht) hv) (rv_I0 ⟨_, rfl, fun _ => ?_, fun z => ?_⟩)
  case refine_2 =>
    have h1' : (1 : Int) ≤ ((R.map PyData.str).length : Int) := by rw [List.length_map]; omega
    rw [decide_eq_true h1'] at z
    cases z
  walk_at "ev"
  refine rv_I0 ⟨_, rfl, fun H1 s1 w1 => ⟨fun z => ?_, fun _ => ?_⟩⟩
  · have h1' : ((R.map PyData.str).length : Int) ≤ 7 := by rw [List.length_map]; omega
    rw [decide_eq_true h1'] at z
    cases z
  clear wd
  obtain ⟨ra, rfl, hra⟩ := dpe_strs (dpe_mono s1.gg hv)
  walk_at "ev"
  dsimp only
  refine s_forEA (K := K) w1 (ea_cons (ev_var rfl (ea_nil ⟨ra, _, rfl, hra, fun i σ G2 H2 => Same (upd G t (.tup [.ty "list", .ty "tuple"])) G2 ∧ Stp (Bg none) G H G2 H2 ∧ Wd none G2 H2 ∧ ∃ z u, σ = [some (.ref ra), z, u], ⟨fun i σ G2 H2 h => ⟨h.1, h.2.2.1⟩, ?_⟩, fun H2 s2 w2 => ⟨Same.refl _, s1.trans s2, w2, _, _, rfl⟩, ?_⟩)))
  · rintro σ G2 H2 ⟨_, s2, w2, z, u, rfl⟩
    exact kq _ _ _ s2 (k _ s2.gg)
  · rintro i x σ G2 H2 c hx ⟨sm2, s2, w2, z, u, rfl⟩ hc
    obtain ⟨y, hy, rfl⟩ := get_map hx
    have hyR := List.mem_of_getElem? hy
    have w3 := w2.new (o := .tup [.int (i : Nat), .str y]) hc
    have s3 := s2.new (o := .tup [.int (i : Nat), .str y]) hc
    refine s_if w3 (et_or (et_not (et_test ?_)))
    refine ev_call (ea_cons (ev_var rfl (ea_nil ⟨rfl, y, rfl, hR.1 y hyR, fun G4 e4 => ⟨_, rfl, (fun z => nomatch z), fun _ => et_test ?_⟩⟩)))
    walk_at "ev"
    refine ev_sl (ev_var rfl (eo_none (eo_some (ev_var rfl ⟨_, rfl, ?_⟩))))
    refine rv_cutE (dpe_mono (s3.gg.trans e4) hv) (by rw [List.length_map]; exact (List.getElem?_eq_some_iff.mp hy).1) fun u2 G5 e5 hu2 => ?_
    rw [← List.map_take] at hu2
    refine rv_inT y (R.take i) (.str y) hu2 (by decide) ⟨_, rfl, fun H6 s6 w6 => ⟨fun z => ?_, fun _ => ⟨G5, sm2.trans ((same_new (w2.same.free hc)).trans (e4.trans e5)), s3.trans s6, w6, _, _, rfl⟩⟩⟩
    rw [decide_eq_false (take_not hR.2.1 hy)] at z
    cases z
/-- a line: a name and its numbers -/
def LineArg (K : PySem.W.Frag) (G : Hp) (v : V) (l : LineT) : Prop := ∃ t sv, v = .ref t ∧ SqT K G t [.str l.1, sv] ∧ DpE K G sv (l.2.map .int)
theorem lineArg_mono {G G' : Hp} {v : V} {l : LineT} (e : Same G G') (h : LineArg K G v l) : LineArg K G' v l := let ⟨t, sv, e1, e2, e3⟩ := h; ⟨t, sv, e1, sqt_mono e e2, dpe_mono e e3⟩
def pIsLine (K : PySem.W.Frag) : List V → Hp → (V → Hp → Prop) → Prop := fun vs G P => ∃ (v : V) (l : LineT), vs = [v, .int (l.2.length : Nat)] ∧ LineArg K G v l ∧ NameOk l.1 ∧ l.2.length ≤ 1000 ∧ ∀ G', Same G G' → P (.bl true) G'
theorem d_is_line (T : Mo K mg) : Def P w K mg base CX0 3 "is_line" ["value", "many"] (SpP 2 (pIsLine K)) := by
  obtain ⟨fd, F⟩ := T.f_is_line
  refine ⟨_, fd, F.ok sc_is_line spP_len (fun cdv A outer s H vs Q E hr h => ?_), T.g_is_line, F.kp, F.bindsN fun _ _ _ _ _ _ us hl => match us, hl with | [_, _], _ => rfl⟩
  have hu := hu_of hr
  obtain ⟨_, G, P, sm, hp, kq⟩ := h
  have wd : Wd none G H := .none sm
  refine ⟨_, PSs.nox (pss_cons (ps_if (PW.pt (pw_or (pt_not (pt_val (pe_callB call_isi (by rfl) T.n_isinstance (by decide +kernel) (pa_cons (pv 0) (pa_cons (pe_bltn (v := .ty "tuple") (by rfl) T.n_tuple (by decide +kernel) rfl) pa_nil))))) (pw_or (pt_cmpR op_ne (pe_callB call_len_seq (by rfl) T.n_len (by decide +kernel) (pa_cons (pv 0) pa_nil)) pe_int (by rfl)) (pw_or1 (pt_not (pt_val (pe_d (d_is_name T) (hr.mono (by decide)) (by rfl) pass0 (pa_cons (pe_ix ix_tup (pv 0) pe_int (fun _ _ => rfl)) pa_nil)))))))) (pss_one (ps_ret pe_bl)) pss_nil)
    (pss_cons (ps_set (i := 2) sc_is_line.nd rfl (Or.inl rfl) (pe_ix ix_tup (pv 0) pe_int (fun _ _ => rfl)))
    (pss_cons (ps_if (PW.pt (pw_or (pt_not (pt_val (pe_callB call_isiT (by rfl) T.n_isinstance (by decide +kernel) (pa_cons (pv 2) (pa_cons (pe_tup (pa_cons (pe_bltn (v := .ty "list") (by rfl) T.n_list (by decide +kernel) rfl) (pa_cons (pe_bltn (v := .ty "tuple") (by rfl) T.n_tuple (by decide +kernel) rfl) pa_nil))) pa_nil))))) (pw_or1 (pt_cmpR op_ne (pe_callB call_len_seq (by rfl) T.n_len (by decide +kernel) (pa_cons (pv 2) pa_nil)) (pv 1) (by rfl))))) (pss_one (ps_ret pe_bl)) pss_nil)
    (pss_one (ps_ret (pe_callB (cr_all rfl) (by rfl) T.n_all (by decide +kernel) (pa_cons (pe_lc (own := [("score", 3)]) (g := gName 3) (tt := tYes) rfl sc_is_line.nd (pi_seqA (pv 2)) (blkOk_by (N := ["value", "many", "scores", "score"]) (sc := defScope s_is_line) (by decide +kernel)) (fun _ _ _ _ _ => (pg_name (i := 3) sc_is_line.nd rfl (Or.inl rfl))) (fun _ _ _ _ _ => pts_nil) (fun _ _ _ _ _ => (blk_te (pe_and (pe_callB call_isi (by rfl) T.n_isinstance (by decide +kernel) (pa_cons (pv 3) (pa_cons (pe_bltn (v := .ty "int") (by rfl) T.n_int (by decide +kernel) rfl) pa_nil))) (pe_one (pe_not (pe_callB call_isi (by rfl) T.n_isinstance (by decide +kernel) (pa_cons (pv 3) (pa_cons (pe_bltn (v := .ty "bool") (by rfl) T.n_bool (by decide +kernel) rfl) pa_nil)))))) (by (try dsimp only [Cx.blk, Cx.nox, cxOf]); (try rfl))))) pa_nil))))))), ?_⟩
  obtain ⟨v, l, rfl, ⟨t, sv, rfl, ht, hsv⟩, hn, hl, k⟩ := hp
  walk_at "ev"
  refine s_if wd (et_or (et_not (et_test ?_)))
  walk_at "ev"
  refine rv_isiTup ht ⟨_, rfl, (fun z => nomatch z), fun _ => et_or (et_test ?_)⟩
  walk_at "ev"
  refine rv_lenT ht (ev_c (rv_neB rfl ⟨_, rfl, (fun z => absurd z (by show ¬ _ = true; simp)), fun _ => et_not (et_test (ev_call (ea_cons ?_)))⟩))
  walk_at "ev"
  refine rv_ixT (i := 0) ht rfl (ea_nil ⟨rfl, l.1, rfl, hn, fun G2 e2 => ⟨_, rfl, fun H1 s1 w1 => ⟨(fun z => nomatch z), fun _ => ?_⟩⟩⟩)
  clear wd
  walk_at "ev"
  refine rv_ixT (i := 1) (sqt_mono e2 ht) rfl fun H2 s2 w2 => ?_
  clear w1
  walk_at "ev"
  refine s_if w2 (et_or (et_not (et_test ?_)))
  walk_at "ev"
  refine ev_tup (ea_cons (ev_c (ea_cons (ev_c (ea_nil ⟨by show 2 ≤ 1000000; decide, fun c hc => ?_⟩)))))
  walk_at "ev"
  have hsv2 := dpe_mono (e2.trans (same_new (o := .tup [.ty "list", .ty "tuple"]) hc)) hsv
  refine rv_isi2 hsv2 upd_same ⟨_, rfl, (fun z => nomatch z), fun _ => et_test ?_⟩
  walk_at "ev"
  refine rv_lenE hsv2 (ev_var rfl (rv_neB rfl ⟨_, rfl, fun H3 s3 w3 => ⟨fun z => ?_, fun _ => ?_⟩⟩))
  · rw [List.length_map, decide_eq_true rfl] at z
    cases z
  clear w2
  walk_at "ev"
  refine lcSa (K := K) PyData.int l.2 (fun _ => true) (fun _ => .bool true) (by omega) (ev_var rfl ⟨hsv2, fun x G5 d hd e5 hx => ⟨_, fun _ _ => gv_name, rfl, et_yes ⟨rfl, fun _ => ?_⟩⟩, fun v2 G5 e5 hv2 => ?_⟩)
  · obtain rfl := dp_int hx
    refine ev_andV ?_
    walk_at "ev"
    refine rv_isi (.int d) (T := "int") (r := true) (show kitB "int" "int" = some true by decide +kernel) ⟨_, rfl, fun _ => ev_notV ?_, fun z => nomatch z⟩
    walk_at "ev"
    exact rv_isi (.int d) (T := "bool") (r := false) (show kitB "int" "bool" = some false by decide +kernel) ⟨_, rfl, .bl true⟩
  · walk_at "ev"
    have e : (l.2.filter fun _ => true).map (fun _ => PyData.bool true) = (l.2.map fun _ => true).map PyData.bool := by
      rw [List.filter_eq_self.mpr fun _ _ => rfl, List.map_map]
      rfl
    rw [e] at hv2
    refine rv_all hv2 fun H4 s4 w4 => ?_
    rw [all_map_true fun _ _ => rfl]
    exact kq _ _ _ ((s1.trans s2).trans (s3.trans s4)) (k _ ((s1.trans s2).trans (s3.trans s4)).gg)
end
end FD
namespace FD
open PySem PyProof.Rows L2
section
variable {P : Program} {w : World} {K : PySem.W.Frag} {mg : Str → Option Value} {base : Heap}
local macro_rules | `(tactic| walk_at "ev") => `(tactic| repeat (first | with_reducible refine s_seq ?_ | with_reducible refine s_skip ?_ | with_reducible refine s_gn ?_ | with_reducible refine ev_op ?_ | with_reducible refine ev_un ?_ | ((with_reducible refine' ev_var ?hv ?_); (case hv => rfl)) | with_reducible refine ev_c ?_ | with_reducible refine ev_cb ?_ | with_reducible refine ea_cons ?_ | with_reducible refine ea_nil ?_ | with_reducible refine et_test ?_ | with_reducible refine et_B ?_ | with_reducible refine s_ret (by assumption) ?_ | with_reducible refine s_asg (by assumption) ?_))
def LinesOk (ls : List LineT) (n : Nat) : Prop := NamesOk (ls.map (·.1)) ∧ (∀ l ∈ ls, l.2.length = n) ∧ 1 ≤ ls.length ∧ ls.length ≤ 6 ∧ n ≤ 1000
def pCheckLines (K : PySem.W.Frag) : List V → Hp → (V → Hp → Prop) → Prop := fun vs G P => ∃ (p : Addr) (xs : List V) (ls : List LineT) (n : Nat), vs = [.ref p, .int (n : Int)] ∧ SqT K G p xs ∧ Paired (LineArg K G) xs ls ∧ LinesOk ls n ∧ ∀ G', Same G G' → P .non G'
theorem d_check_lines (T : Mo K mg) : Def P w K mg base CX0 4 "check_lines" ["lines", "many"] (SpP 2 (pCheckLines K)) := by
  obtain ⟨fd, F⟩ := T.f_check_lines
  refine ⟨_, fd, F.ok sc_check_lines spP_len (fun cdv A outer s H vs Q E hr h => ?_), T.g_check_lines, F.kp, F.bindsN fun _ _ _ _ _ _ us hl => match us, hl with | [_, _], _ => rfl⟩
  have hu := hu_of hr
  obtain ⟨_, G, P, sm, hp, kq⟩ := h
  have wd : Wd none G H := .none sm
  refine ⟨_, PSs.nox (pss_cons (ps_if (pt_cmpR op_eq (pe_callB call_len_seq (by rfl) T.n_len (by decide +kernel) (pa_cons (pv 0) pa_nil)) pe_int (by rfl)) (pss_one ps_never) pss_nil)
    (pss_cons (ps_for PassesOwn.never rfl (pi_enumA (by rfl) T.n_enumerate (pa_cons (pv 0) pa_nil)) (pg_tup rfl (pgs_cons (pg_name (i := 2) sc_check_lines.nd rfl (Or.inl rfl)) (pgs_cons (pg_name (i := 3) sc_check_lines.nd rfl (Or.inl rfl)) pgs_nil)))
      (pss_one (ps_if (pt_not (pt_val (pe_d (d_is_line T) (hr.mono (by decide)) (by rfl) pass0 (pa_cons (pv 3) (pa_cons (pv 1) pa_nil))))) (pss_one ps_never) pss_nil)))
    (pss_cons (ps_if (pt_cmpR op_gt (pe_callB call_len_seq (by rfl) T.n_len (by decide +kernel) (pa_cons (pv 0) pa_nil)) (C8.pe_gc (by rfl) (gc_int T.g_MOST_LINES)) (by rfl)) (pss_one ps_never) pss_nil)
    (pss_cons (ps_setLc (i := 4) (own := [("line", 3)]) (g := gName 3) (tt := tYes) rfl sc_check_lines.nd rfl rfl (sw_true rfl rfl rfl (by decide +kernel)) (pi_tup (pv 0)) (blkOk_by (N := ["lines", "many", "at", "line", "names", "name"]) (sc := defScope s_check_lines) (by decide +kernel)) (fun _ _ _ _ _ => (pg_name (i := 3) sc_check_lines.nd rfl (Or.inl rfl))) (fun _ _ _ _ _ => pts_nil) (fun _ _ _ _ _ => (blk_te (pe_ix ix_tup (pv 3) pe_int (fun _ _ => rfl)) (by (try dsimp only [Cx.blk, Cx.nox, cxOf]); (try rfl)))))
    (pss_one (ps_for PassesOwn.never rfl (pi_enumA (by rfl) T.n_enumerate (pa_cons (pv 4) pa_nil)) (pg_tup rfl (pgs_cons (pg_name (i := 2) sc_check_lines.nd rfl (Or.inl rfl)) (pgs_cons (pg_name (i := 5) sc_check_lines.nd rfl (Or.inl rfl)) pgs_nil)))
      (pss_one (ps_if (pt_cmpR (op_inW hr.units) (pv 5) (pe_slice sl_list (pv 4) po_none (po_some (pv 2))) (by rfl)) (pss_one ps_never) pss_nil)))))))), ?_⟩
  obtain ⟨p, xs, ls, n, rfl, hq, hpr, ⟨hN, hn, h1, h6, hn1⟩, k⟩ := hp
  have hlen := paired_len hpr
  walk_at "ev"
  refine s_if wd (et_test ?_)
  walk_at "ev"
  refine rv_lenT hq (ev_c (rv_eqB rfl ⟨_, rfl, fun H1 s1 w1 => ⟨fun z => ?_, fun _ => ?_⟩⟩))
  · have := of_decide_eq_true z
    have := V.int.inj this
    omega
  clear wd
  walk_at "ev"
  refine s_forEA (K := K) w1 (ea_cons (ev_var rfl (ea_nil ⟨p, xs, rfl, .inr hq, fun i σ G2 H2 => Stp (Bg none) G H G2 H2 ∧ Wd none G2 H2 ∧ ∃ z u, σ = [some (.ref p), some (.int (n : Int)), z, u, none, none], ⟨fun i σ G2 H2 h => ⟨h.1.gg, h.2.1⟩, ?_⟩, fun H2 s2 w2 => ⟨s1.trans s2, w2, _, _, rfl⟩, ?_⟩)))
  case refine_2 =>
    rintro i x σ G2 H2 c hx ⟨s2, w2, z, u, rfl⟩ hc
    obtain ⟨l, hl, hx0⟩ := paired_get hpr hx
    have hlm := List.mem_of_getElem? hl
    have w3 := w2.new (o := .tup [.int (i : Nat), x]) hc
    have s3 := s2.new (o := .tup [.int (i : Nat), x]) hc
    refine s_if w3 (et_not (et_test (ev_call (ea_cons (ev_var rfl (ea_cons (ev_var rfl (ea_nil ⟨rfl, x, l, ?_, lineArg_mono s3.gg hx0, hN.1 _ (List.mem_map.mpr ⟨l, hlm, rfl⟩), by rw [hn l hlm]; exact hn1, fun G4 e4 => ⟨_, rfl, fun H4 s4 w4 => ⟨(fun z => nomatch z), fun _ => ⟨G4, s3.trans s4, w4, _, _, rfl⟩⟩⟩⟩))))))))
    rw [hn l hlm]
  rintro σ G2 H2 ⟨s2, w2, z1, z2, rfl⟩
  clear w1 s1
  walk_at "ev"
  refine s_if w2 (et_test ?_)
  walk_at "ev"
  refine rv_lenT (sqt_mono s2.gg hq) (ev_c (rv_I0 ⟨_, rfl, fun H3 s3 w3 => ⟨fun z => ?_, fun _ => ?_⟩⟩))
  · have : ¬ ((6 : Int) < (xs.length : Int)) := by omega
    rw [decide_eq_false this] at z
    cases z
  clear w2
  have s4 := s2.trans s3
  have hpr4 := paired_imp (fun _ _ q => lineArg_mono s4.gg q) hpr
  walk_at "ev"
  refine lcT (K := K) (ev_var rfl ⟨p, xs, rfl, sqt_mono s4.gg hq, by omega, fun i acc G => acc = ((ls.map (·.1)).take i).map V.str, rfl, fun i x G5 acc hx e5 iv _ => ?_, fun acc G5 e5 iv _ q hq2 H5 s5 w5 => ?_⟩)
  · obtain ⟨l, hl, t, sv, rfl, ht, hsv⟩ := paired_get hpr4 hx
    refine ⟨_, fun _ _ => gv_name, rfl, et_yes ⟨fun _ => ?_, fun z => nomatch z⟩⟩
    walk_at "ev"
    refine rv_ixT (i := 0) (sqt_mono e5 ht) rfl ?_
    show acc ++ [V.str l.1] = ((ls.map (·.1)).take (i + 1)).map V.str
    have iv' : acc = ((ls.map (·.1)).take i).map V.str := iv
    rw [iv', List.take_succ, List.getElem?_map, hl]
    simp
  have iv : acc = ((ls.map (·.1)).take xs.length).map V.str := iv
  rw [hlen] at iv
  have iv : acc = (ls.map (·.1)).map V.str := by
    rw [iv, List.take_of_length_le (by rw [List.length_map]; exact Nat.le_refl _)]
  subst iv
  have hnm : Dp K (upd G5 q (.lst ((ls.map (·.1)).map V.str))) (.ref q) (.list ((ls.map (·.1)).map .str)) := dp_newL (dpa_strs _) hq2
  clear w3
  walk_at "ev"
  dsimp only
  refine s_forEA (K := K) w5 (ea_cons (ev_var rfl (ea_nil ⟨q, _, rfl, .inl (SqL.of upd_same), fun i σ G6 H6 => Same (upd G5 q (.lst ((ls.map (·.1)).map V.str))) G6 ∧ Stp (Bg none) G H G6 H6 ∧ Wd none G6 H6 ∧ ∃ z u y, σ = [some (.ref p), some (.int (n : Int)), z, u, some (.ref q), y], ⟨fun i σ G2 H2 h => ⟨h.1, h.2.2.1⟩, ?_⟩, fun H6 s6 w6 => ⟨Same.refl _, s4.trans (s5.trans s6), w6, _, _, _, rfl⟩, ?_⟩)))
  · rintro σ G6 H6 ⟨_, s6, w6, z, u, y, rfl⟩
    exact kq _ _ _ s6 (k _ s6.gg)
  · rintro i x σ G6 H6 c hx ⟨sm6, s6, w6, z, u, y, rfl⟩ hc
    obtain ⟨nm, hnm2, rfl⟩ := get_map hx
    have w7 := w6.new (o := .tup [.int (i : Nat), .str nm]) hc
    have s7 := s6.new (o := .tup [.int (i : Nat), .str nm]) hc
    have e7 := same_new (o := .tup [.int (i : Nat), .str nm]) (w6.same.free hc)
    refine s_if w7 (et_test ?_)
    walk_at "ev"
    refine ev_sl (ev_var rfl (eo_none (eo_some (ev_var rfl ⟨_, rfl, ?_⟩))))
    refine rv_cutL (Dpm hnm (sm6.trans e7)) (by rw [List.length_map]; exact Nat.le_of_lt (List.getElem?_eq_some_iff.mp hnm2).1) fun u2 G8 e8 hu2 => ?_
    rw [← List.map_take] at hu2
    refine rv_inT nm ((ls.map (·.1)).take i) (.str nm) (.inl hu2) (by decide) ⟨_, rfl, fun H9 s9 w9 => ⟨fun z => ?_, fun _ => ⟨G8, sm6.trans (e7.trans e8), s7.trans s9, w9, _, _, _, rfl⟩⟩⟩
    rw [decide_eq_false (take_not hN.2.1 hnm2)] at z
    cases z
def pSheetInit (K : PySem.W.Frag) : List V → Hp → (V → Hp → Prop) → Prop := fun vs G P => ∃ (v : V) (rest : List V) (R : List Str) (ls : List LineT), vs = v :: rest ∧ DpE K G v (R.map .str) ∧ ReasonsOk R ∧ Paired (LineArg K G) rest ls ∧ LinesOk ls R.length ∧ ∀ R' v' G', SortedOf R' R → Same G G' → SheetIs K G' v' R' ls → P v' G'
theorem rv_sortedE {b : Option (Addr × Addr)} {G : Hp} {Q : V → Hp → Prop} {v : V} {l : List Str} (h : DpE K G v (l.map .str)) (hl : l.length < 64) (p : ∀ ys G2 u, SortedOf ys l → Same G G2 → Dp K G2 u (.list (ys.map .str)) → Q u G2) : Rv b (rSortedE K [v]) G Q := by
  obtain ⟨a, rfl, q⟩ := dpe_strs h
  exact fun H w Q' k => ⟨a, l, rfl, sqe_mono w.same q, hl, fun ys c hp hs hc => k _ _ _ ((Stp.refl w.same).new hc) (w.new hc) (p ys _ _ ⟨hp, hs⟩ (same_new (w.same.free hc)) (dp_newL (dpa_strs ys) (w.same.free hc)))⟩
theorem d_Sheet_init (T : Mo K mg) : DefC P w K mg base CX0 5 (cls K "Sheet") "Sheet" (SpIS (cls K "Sheet") (pSheetInit K)) := by
  obtain ⟨fd, F⟩ := T.f_Sheet_init
  refine ⟨_, defC_star ?_ F sc_Sheet_init (fun cdv A outer s H vs Q E hr h => ?_), T.mk_Sheet, T.g_Sheet⟩
  · exact fun _ _ _ _ _ _ => StX.bind_star2 (B := fun l => bindArgs _ ⟨l, []⟩) (p1 := "self") (p2 := "reasons") (pv := "lines") (fun _ _ => rfl) (fun _ _ _ _ => rfl)
  have hu := hu_of hr
  obtain ⟨x, r, rest, dx, H0, G, P, p, rfl, hrest, rfl, nx, ndx, ndx2, np, px, pd, sm, hp, kq⟩ := h
  refine ⟨_, PSs.nox (pss_cons (ps_expr (pe_d (d_check_reasons T) (hr.mono (by decide)) (by rfl) pass0 (pa_cons (pv 1) pa_nil)))
    (pss_cons (ps_expr (pe_d (d_check_lines T) (hr.mono (by decide)) (by rfl) pass0 (pa_cons (pv 2) (pa_cons (pe_callB call_len_seq (by rfl) T.n_len (by decide +kernel) (pa_cons (pv 1) pa_nil)) pa_nil))))
    (pss_cons (ps_fld (pv 0) (pe_tupleOf (by rfl) T.n_tuple (pe_callB cr_sortedE (by rfl) T.n_sorted (by decide +kernel) (pa_cons (pv 1) pa_nil))) rfl)
    (pss_cons (ps_fld (pv 0) (pe_lc (own := [("line", 3)]) (g := gName 3) (tt := tYes) rfl sc_Sheet_init.nd (pi_seqA (pv 2)) (blkOk_by (N := ["self", "reasons", "lines", "line"]) (sc := defScope s_Sheet_init) (by decide +kernel)) (fun _ _ _ _ _ => (pg_name (i := 3) sc_Sheet_init.nd rfl (Or.inl rfl))) (fun _ _ _ _ _ => pts_nil) (fun _ _ _ _ _ => (blk_te (pe_ix ix_tup (pv 3) pe_int (fun _ _ => rfl)) (by (try dsimp only [Cx.blk, Cx.nox, cxOf]); (try rfl))))) rfl)
    (pss_one (ps_fld (pv 0) (L2.pe_dc (own := [("line", 3)]) (g := gName 3) (tt := tYes) rfl sc_Sheet_init.nd (pi_seqA (pv 2)) (blkOk_by (N := ["self", "reasons", "lines", "line"]) (sc := defScope s_Sheet_init) (by decide +kernel)) (fun _ _ _ _ _ => (pg_name (i := 3) sc_Sheet_init.nd rfl (Or.inl rfl))) (fun _ _ _ _ _ => pts_nil) (fun _ _ _ _ _ => (blk_te (pe_ix ix_tup (pv 3) pe_int (fun _ _ => rfl)) (by (try dsimp only [Cx.blk, Cx.nox, cxOf]); (try rfl)))) (fun _ _ _ _ _ => (blk_te (pe_tupleOf (by rfl) T.n_tuple (pe_ix ix_tup (pv 3) pe_int (fun _ _ => rfl))) (by (try dsimp only [Cx.blk, Cx.nox, cxOf]); (try rfl))))) rfl)))))), ?_⟩
  obtain ⟨v, rest', R, ls, e0, hv, hR, hpr, hls, k⟩ := hp
  cases e0
  obtain ⟨s0, hGx⟩ := inits_at (C := cls K "Sheet") (rest := rest) sm nx ndx ndx2 np px pd
  have hx0 : (upd (upd (upd H0 dx (.own x)) x (.ins (cls K "Sheet") dx [])) p (.tup rest)) x = some (.ins (cls K "Sheet") dx []) := by
    rw [upd_ne (Ne.symm px)]
    exact upd_same
  generalize upd (upd (upd H0 dx (.own x)) x (.ins (cls K "Sheet") dx [])) p (.tup rest) = Hi at s0 hx0
  have gg := same_new (o := .tup rest) (sm.free np)
  have hGp : upd G p (.tup rest) p = some (.tup rest) := upd_same
  have hv := dpe_mono gg hv
  have hpr := paired_imp (fun _ _ q => lineArg_mono gg q) hpr
  generalize upd G p (.tup rest) = Gi at s0 hGx hv hpr hGp
  have w0 : Wd none Gi Hi := .none s0.gh
  have nb : ∀ {a : Addr}, ¬ Bg (none : Option (Addr × Addr)) a := fun z => nomatch z
  have hlen := paired_len hpr
  have hR64 : R.length < 64 := by have := hR.2.2; omega
  walk_at "ev"
  refine s_drop w0 (ev_call (ea_cons (ev_var rfl (ea_nil ⟨rfl, r, R, rfl, hv, hR, fun G1 e1 H1 s1 w1 => ?_⟩))))
  clear w0
  walk_at "ev"
  refine s_drop w1 (ev_call (ea_cons (ev_var rfl ?_)))
  walk_at "ev"
  refine rv_lenE (dpe_mono e1 hv) (ea_nil ⟨rfl, p, rest, ls, R.length, by rw [List.length_map], SqT.of (e1 _ _ hGp), paired_imp (fun _ _ q => lineArg_mono e1 q) hpr, hls, fun G2 e2 H2 s2 w2 => ?_⟩)
  clear w1
  have s12 := s1.trans s2
  have hx2 := s12.hh _ _ hx0 nb
  have hGx2 : G2 x = none := s12.fr x hGx (by rw [hx0]; exact fun z => nomatch z)
  walk_at "ev"
  refine s_fld (fs := []) w2 rfl hx2 nb T.cl_Sheet T.na_Sheet_reasons (by decide) ?_
  refine ev_tupOf (ev_cb (ea_cons (ev_var rfl (ea_nil (rv_sortedE (dpe_mono s12.gg hv) hR64 fun R' G3 u3 hR' e3 hu3 => ⟨_, .inl hu3, fun tr G4 e4 htr H4 s4 w4 => ?_⟩)))))
  have hx4 := s4.hh _ _ hx2 nb
  have hGx4 : G4 x = none := s4.fr x hGx2 (by rw [hx2]; exact fun z => nomatch z)
  have s5 := (s0.trans (s12.trans s4)).mut (o := .ins (cls K "Sheet") dx (putF "reasons" tr [])) nx hGx4
  have hx5 : upd H4 x (.ins (cls K "Sheet") dx (putF "reasons" tr [])) x = some (.ins (cls K "Sheet") dx [("reasons", tr)]) := upd_same
  have g4 : Same Gi G4 := (s12.trans s4).gg
  generalize upd H4 x (.ins (cls K "Sheet") dx (putF "reasons" tr [])) = H5 at s5 hx5
  clear w2 w4 s4 s12
  have w5 : Wd none G4 H5 := .none s5.gh
  have hpr4 := paired_imp (fun _ _ q => lineArg_mono g4 q) hpr
  walk_at "ev"
  refine s_fld (fs := [("reasons", tr)]) w5 rfl hx5 nb T.cl_Sheet T.na_Sheet__names (by show 1 < 1000; decide) ?_
  refine lcSA (K := K) (ev_var rfl ⟨p, rest, rfl, .inr (SqT.of (g4 _ _ hGp)), by omega, fun i acc G => acc = ((ls.map (·.1)).take i).map V.str, rfl, fun i y G6 acc hy e6 iv _ => ?_, fun acc G6 e6 iv _ ln hln H6 s6 w6 => ?_⟩)
  · obtain ⟨l, hl, t, sv, rfl, ht, hsv⟩ := paired_get hpr4 hy
    refine ⟨_, fun _ _ => gv_name, rfl, et_yes ⟨fun _ => ?_, fun z => nomatch z⟩⟩
    walk_at "ev"
    refine rv_ixT (i := 0) (sqt_mono e6 ht) rfl ?_
    show acc ++ [V.str l.1] = ((ls.map (·.1)).take (i + 1)).map V.str
    have iv' : acc = ((ls.map (·.1)).take i).map V.str := iv
    rw [iv', List.take_succ, List.getElem?_map, hl]
    simp
  have iv : acc = ((ls.map (·.1)).take rest.length).map V.str := iv
  rw [hlen] at iv
  have iv : acc = (ls.map (·.1)).map V.str := by
    rw [iv, List.take_of_length_le (by rw [List.length_map]; exact Nat.le_refl _)]
  subst iv
  have hln2 : Dp K (upd G6 ln (.lst ((ls.map (·.1)).map V.str))) (.ref ln) (.list (ls.map fun l => .str l.1)) := by
    have z := dp_newL (K := K) (dpa_strs (ls.map (·.1))) hln
    have e : (ls.map fun l => PyData.str l.1) = (ls.map (·.1)).map PyData.str := by rw [List.map_map]; rfl
    rw [e]
    exact z
  have hx6 := s6.hh _ _ hx5 nb
  have hGx6 : upd G6 ln (.lst ((ls.map (·.1)).map V.str)) x = none := s6.fr x hGx4 (by rw [hx5]; exact fun z => nomatch z)
  have g6 := s6.gg
  generalize upd G6 ln (.lst ((ls.map (·.1)).map V.str)) = G7 at s6 hln2 hGx6 w6 g6
  have s7 := (s5.trans s6).mut (o := .ins (cls K "Sheet") dx (putF "_names" (.ref ln) [("reasons", tr)])) nx hGx6
  have hx7 : upd H6 x (.ins (cls K "Sheet") dx (putF "_names" (.ref ln) [("reasons", tr)])) x = some (.ins (cls K "Sheet") dx [("reasons", tr), ("_names", .ref ln)]) := upd_same
  generalize upd H6 x (.ins (cls K "Sheet") dx (putF "_names" (.ref ln) [("reasons", tr)])) = H7 at s7 hx7
  clear w5 w6 s6 s5
  have w7 : Wd none G7 H7 := .none s7.gh
  have hpr7 := paired_imp (fun _ _ q => lineArg_mono g6 q) hpr4
  dsimp only
  refine s_fld (fs := [("reasons", tr), ("_names", .ref ln)]) w7 rfl hx7 nb T.cl_Sheet T.na_Sheet__scores (by show 2 < 1000; decide) ?_
  refine dcLx (K := K) (ev_var rfl ⟨p, rest, rfl, .inr (SqT.of (g6 _ _ (g4 _ _ hGp))), by omega, fun i acc G => Same G7 G ∧ Paired (LineIs K G) acc (ls.take i), ⟨Same.refl _, .nil⟩, fun i y G8 acc hy e8 iv _ => ?_, fun acc G8 e8 iv _ d hd => ?_⟩)
  · obtain ⟨l, hl, t, sv, rfl, ht, hsv⟩ := paired_get hpr7 hy
    refine ⟨_, fun _ _ => gv_name, rfl, et_yes ⟨fun _ => ?_, fun z => nomatch z⟩⟩
    walk_at "ev"
    refine rv_ixT (i := 0) (sqt_mono e8 ht) rfl (ev_tupOf ?_)
    walk_at "ev"
    refine rv_ixT (i := 1) (sqt_mono e8 ht) rfl ⟨_, dpe_mono e8 hsv, fun u G9 e9 hu9 => ⟨.inr l.1, rfl, e8.trans e9, ?_⟩⟩
    have hkeys : acc.map (·.1) = (ls.take i).map fun l => (Sum.inr l.1 : Key) := by
      have go : ∀ {kvs : List (Key × V)} {ls : List LineT}, Paired (LineIs K G8) kvs ls → kvs.map (·.1) = ls.map fun l => (Sum.inr l.1 : Key) := fun {kvs ls} h => by
        induction h with
        | nil => rfl
        | cons a t ih => rw [List.map_cons, List.map_cons, ih, a.1]
      exact go iv.2
    have hno : (Sum.inr l.1 : Key) ∉ acc.map (·.1) := by
      rw [hkeys]
      intro hm
      obtain ⟨l2, hl2, e⟩ := List.mem_map.mp hm
      refine take_not hls.1.2.1 (x := l.1) (i := i) (by rw [List.getElem?_map, hl]; rfl) ?_
      rw [← List.map_take]
      exact List.mem_map.mpr ⟨l2, hl2, Sum.inr.inj e⟩
    rw [putK_new hno, List.take_succ, hl]
    exact paired_app (paired_imp (fun _ _ q => ⟨q.1, Dpm q.2 e9⟩) iv.2) (.cons ⟨rfl, hu9⟩ .nil)
  · refine fun H9 s9 w9 => ?_
    have hx9 := s9.hh _ _ hx7 nb
    have hGx9 : upd G8 d (.dK acc) x = none := s9.fr x hGx6 (by rw [hx7]; exact fun z => nomatch z)
    have s10 := (s7.trans s9).mut (o := .ins (cls K "Sheet") dx (putF "_scores" (.ref d) [("reasons", tr), ("_names", .ref ln)])) nx hGx9
    have s11 := s10.know (p := x) nx upd_same hGx9
    have g1 := same_new (o := .dK acc) hd
    have g2 := same_new (o := .ins (cls K "Sheet") dx (putF "_scores" (.ref d) [("reasons", tr), ("_names", .ref ln)])) hGx9
    have iv2 := iv.2
    rw [hlen, List.take_length] at iv2
    obtain ⟨ta, rfl, hta⟩ := dp_strs htr
    refine kq _ _ s11 (k R' _ _ hR' s11.gg ?_)
    exact ⟨x, dx, ta, ln, d, acc, rfl, upd_same, Dpm (.tup hta (dpa_strs _)) (g6.trans (e8.trans (g1.trans g2))), Dpm hln2 (e8.trans (g1.trans g2)), g2 _ _ upd_same, paired_imp (fun _ _ q => ⟨q.1, Dpm q.2 (g1.trans g2)⟩) iv2⟩
end
end FD
namespace FD
open PySem PyProof.Rows L2
section
variable {P : Program} {w : World} {K : PySem.W.Frag} {mg : Str → Option Value} {base : Heap}
local macro_rules | `(tactic| walk_at "ev") => `(tactic| repeat (first | with_reducible refine s_seq ?_ | with_reducible refine s_skip ?_ | with_reducible refine s_gn ?_ | with_reducible refine ev_op ?_ | with_reducible refine ev_un ?_ | ((with_reducible refine' ev_var ?hv ?_); (case hv => rfl)) | with_reducible refine ev_c ?_ | with_reducible refine ev_cb ?_ | with_reducible refine ea_cons ?_ | with_reducible refine ea_nil ?_ | with_reducible refine et_test ?_ | with_reducible refine et_B ?_ | with_reducible refine s_ret (by assumption) ?_ | with_reducible refine s_asg (by assumption) ?_))
def SheetOk (R : List Str) (ls : List LineT) : Prop := ReasonsOk R ∧ sortedS R = true ∧ LinesOk ls R.length
theorem ev_dget {b : Option (Addr × Addr)} {σ : L2.St} {G : Hp} {Q : V → Hp → Prop} {td ty : TE} (h : Ev b td σ G fun x G1 => Ev b ty σ G1 fun y G2 => ∃ a kvs k v, x = .ref a ∧ y = kV k ∧ G2 a = some (.dK kvs) ∧ valV kvs k = some v ∧ Q v G2) : Ev b (tDGet td ty) σ G Q :=
  fun H w Q' k => h H w _ fun x G1 H1 e1 w1 q => q H1 w1 _ fun y G2 H2 e2 w2 ⟨a, kvs, ky, v, ex, ey, hd, hv, p⟩ => by
    subst ex ey
    exact ⟨a, v, rfl, by rw [← hv]; exact DGet.k (w2.same _ _ hd), k _ _ _ (e1.trans e2) w2 p⟩
theorem ev_dnotin {b : Option (Addr × Addr)} {σ : L2.St} {G : Hp} {Q : V → Hp → Prop} {ty td : TE} (h : Ev b ty σ G fun y G1 => Ev b td σ G1 fun x G2 => ∃ a kvs k, x = .ref a ∧ y = kV k ∧ G2 a = some (.dK kvs) ∧ Q (.bl (!(valV kvs k).isSome)) G2) : Ev b (tDNotIn ty td) σ G Q :=
  fun H w Q' k => h H w _ fun y G1 H1 e1 w1 q => q H1 w1 _ fun x G2 H2 e2 w2 ⟨a, kvs, ky, ex, ey, hd, p⟩ => by
    subst ex ey
    exact ⟨a, _, rfl, DGet.k (w2.same _ _ hd), k _ _ _ (e1.trans e2) w2 p⟩
theorem lineIs_keys {G : Hp} : ∀ {kvs : List (Key × V)} {ls : List LineT}, Paired (LineIs K G) kvs ls → kvs.map (·.1) = ls.map fun l => (Sum.inr l.1 : Key)
  | _, _, .nil => rfl
  | _, _, .cons a t => by rw [List.map_cons, List.map_cons, lineIs_keys t, a.1]
theorem keys_nd {ls : List LineT} (h : (ls.map (·.1)).Nodup) : (ls.map fun l => (Sum.inr l.1 : Key)).Nodup := by
  have e : (ls.map fun l => (Sum.inr l.1 : Key)) = (ls.map (·.1)).map Sum.inr := by rw [List.map_map]; rfl
  rw [e]
  exact List.Pairwise.map _ (fun a b h z => h (Sum.inr.inj z)) h
theorem line_val {G : Hp} {kvs : List (Key × V)} {ls : List LineT} {l : LineT} (h : Paired (LineIs K G) kvs ls) (nd : (ls.map (·.1)).Nodup) (hl : l ∈ ls) : ∃ v, valV kvs (.inr l.1) = some v ∧ Dp K G v (.tuple (l.2.map .int)) := by
  obtain ⟨i, hi, e⟩ := List.mem_iff_getElem.mp hl
  obtain ⟨kv, hkv, h1, h2⟩ := paired_at h (by rw [List.getElem?_eq_getElem hi, e])
  refine ⟨kv.2, valV_some (by rw [lineIs_keys h]; exact keys_nd nd) ?_, h2⟩
  rw [← h1]
  exact List.mem_of_getElem? hkv
/-- self._scores[name] -/
theorem ev_score {b : Option (Addr × Addr)} {σ : L2.St} {G : Hp} {Q : V → Hp → Prop} {te ty : TE} (T : Mo K mg) (h : Ev b te σ G fun x G1 => ∃ R ls, SheetIs K G1 x R ls ∧ (ls.map (·.1)).Nodup ∧ Ev b ty σ G1 fun y G2 => ∃ l, l ∈ ls ∧ y = .str l.1 ∧ Same G1 G2 ∧ ∀ v, Dp K G2 v (.tuple (l.2.map .int)) → Q v G2) : Ev b (tDGet (tFld K te "_scores") ty) σ G Q := by
  refine ev_dget (ev_sscores (T := T) (Ev.mono h fun x G1 e1 ⟨R, ls, hS, nd, hy⟩ => ⟨R, ls, hS, fun d kvs hd hk => Ev.mono hy fun y G2 e2 ⟨l, hl, ey, e12, q⟩ => ?_⟩))
  obtain ⟨v, hv1, hv2⟩ := line_val hk nd hl
  exact ⟨d, kvs, .inr l.1, v, rfl, ey, e12 _ _ hd, hv1, q v (Dpm hv2 e12)⟩
def pCheck (K : PySem.W.Frag) : List V → Hp → (V → Hp → Prop) → Prop := fun vs G P => ∃ (v : V) (R : List Str) (ls : List LineT) (l : LineT), vs = [v, .str l.1] ∧ SheetIs K G v R ls ∧ (ls.map (·.1)).Nodup ∧ l ∈ ls ∧ ∀ G', Same G G' → P .non G'
theorem d_Sheetcheck (T : Mo K mg) : DefM P w K mg base CX0 1 (cls K "Sheet") "_check" ["self", "offer"] (SpP 2 (pCheck K)) := by
  obtain ⟨fd, F⟩ := T.f_Sheetcheck
  refine ⟨_, fd, F.ok sc_Sheetcheck spP_len (fun cdv A outer s H vs Q E hr h => ?_), T.m_Sheetcheck, F.bindsN fun _ _ _ _ _ _ us hl => match us, hl with | [_, _], _ => rfl⟩
  have hu := hu_of hr
  obtain ⟨_, G, P, sm, hp, kq⟩ := h
  have wd : Wd none G H := .none sm
  refine ⟨_, PSs.nox (pss_one (ps_if (PW.pt (pw_or (pt_not (pt_val (pe_callB call_isi (by rfl) T.n_isinstance (by decide +kernel) (pa_cons (pv 1) (pa_cons (pe_bltn (v := .ty "str") (by rfl) T.n_str (by decide +kernel) rfl) pa_nil))))) (pw_or1 (pt_cmp (pc_dnotin hu (pv 1) (pe_fld (pv 0) rfl)))))) (pss_one ps_never) pss_nil)), ?_⟩
  obtain ⟨v, R, ls, l, rfl, hS, nd, hl, k⟩ := hp
  dsimp only
  refine s_if wd (et_or (et_not (et_test ?_)))
  walk_at "ev"
  refine rv_isi (.str l.1) (T := "str") (r := true) (show kitB "str" "str" = some true by decide +kernel) ⟨_, rfl, (fun z => nomatch z), fun _ => et_B (ev_dnotin ?_)⟩
  walk_at "ev"
  refine ev_sscores (T := T) (ev_var rfl ⟨R, ls, hS, fun d kvs hd hk => ?_⟩)
  obtain ⟨u, hu1, hu2⟩ := line_val hk nd hl
  refine ⟨d, kvs, .inr l.1, rfl, rfl, hd, _, rfl, fun H1 s1 w1 => ⟨fun z => ?_, fun _ => kq _ _ _ s1 (k _ s1.gg)⟩⟩
  rw [hu1] at z
  cases z
theorem ev_meth2 {b : Option (Addr × Addr)} {σ : L2.St} {G : Hp} {Q : V → Hp → Prop} {pre : List V → Hp → (V → Hp → Prop) → Prop} {E : XK} {to : TE} {ta : TA} {n : Nat} {m : Str} (hm : ∀ a b c : V, ([("reasons", a), ("_names", b), ("_scores", c)] : List (Str × V)).lookup m = none)
    (h : Ev b to σ G fun x G1 => ∃ R ls, SheetIs K G1 x R ls ∧ Ev b ta σ G1 fun vs G2 => vs.length + 1 = n ∧ pre (x :: vs) G2 Q) : Ev b (tMeth (cls K "Sheet") m (SpP n pre) [] E to ta) σ G Q :=
  ev_meth (Ev.mono h fun x G1 _ ⟨R, ls, hS, q⟩ => by
    obtain ⟨a, dx, t, l, d, kvs, e1, e2, _⟩ := hS
    exact ⟨a, dx, _, e1, e2, hm _ _ _, q⟩)
def diffD (a b : List Int) : List Int := (a.zip b).map fun p => p.2 - p.1
def pDiff (K : PySem.W.Frag) : List V → Hp → (V → Hp → Prop) → Prop := fun vs G P => ∃ (v : V) (R : List Str) (ls : List LineT) (l m : LineT), vs = [v, .str l.1, .str m.1] ∧ SheetIs K G v R ls ∧ (ls.map (·.1)).Nodup ∧ l ∈ ls ∧ m ∈ ls ∧ l.2.length ≤ 1000 ∧ ∀ v' G', Same G G' → Dp K G' v' (.tuple ((diffD l.2 m.2).map .int)) → P v' G'
theorem d_Sheet_difference (T : Mo K mg) : DefM P w K mg base CX0 2 (cls K "Sheet") "difference" ["self", "one", "other"] (SpP 3 (pDiff K)) := by
  obtain ⟨fd, F⟩ := T.f_Sheet_difference
  refine ⟨_, fd, F.ok sc_Sheet_difference spP_len (fun cdv A outer s H vs Q E hr h => ?_), T.m_Sheet_difference, F.bindsN fun _ _ _ _ _ _ us hl => match us, hl with | [_, _, _], _ => rfl⟩
  have hu := hu_of hr
  obtain ⟨_, G, P, sm, hp, kq⟩ := h
  have wd : Wd none G H := .none sm
  refine ⟨_, PSs.nox (pss_cons (ps_expr (pe_dm (d_Sheetcheck T) T.cl_Sheet (pv 0) (hr.mono (by decide)) pass0 (pa_cons (pv 1) pa_nil)))
    (pss_cons (ps_expr (pe_dm (d_Sheetcheck T) T.cl_Sheet (pv 0) (hr.mono (by decide)) pass0 (pa_cons (pv 2) pa_nil)))
    (pss_one (ps_ret (pe_tupleOf (by rfl) T.n_tuple (pe_lc (own := [("own", 3), ("theirs", 4)]) (g := gTup K 2 (gCons (gName 3) (gCons (gName 4) gNil))) (tt := tYes) rfl sc_Sheet_difference.nd (RZ.pi_zipA (by rfl) T.n_zip (pa_cons (pe_dget hu (pe_fld (pv 0) rfl) (pv 1) (fun _ _ => rfl)) (pa_cons (pe_dget hu (pe_fld (pv 0) rfl) (pv 2) (fun _ _ => rfl)) pa_nil))) (blkOk_by (N := ["self", "one", "other", "own", "theirs"]) (sc := defScope s_Sheet_difference) (by decide +kernel)) (fun _ _ _ _ _ => (pg_tup rfl (pgs_cons (pg_name (i := 3) sc_Sheet_difference.nd rfl (Or.inl rfl)) (pgs_cons (pg_name (i := 4) sc_Sheet_difference.nd rfl (Or.inl rfl)) pgs_nil)))) (fun _ _ _ _ _ => pts_nil) (fun _ _ _ _ _ => (blk_te (pe_op op_sub (pv 4) (pv 3)) (by (try dsimp only [Cx.blk, Cx.nox, cxOf]); (try rfl)))))))))), ?_⟩
  obtain ⟨v, R, ls, l, m, rfl, hS, nd, hl, hm, hlen, k⟩ := hp
  walk_at "ev"
  refine s_drop wd (ev_meth2 (fun _ _ _ => rfl) (ev_var rfl ⟨R, ls, hS, ea_cons (ev_var rfl (ea_nil ⟨rfl, v, R, ls, l, rfl, hS, nd, hl, fun G1 e1 H1 s1 w1 => ?_⟩))⟩))
  clear wd
  walk_at "ev"
  refine s_drop w1 (ev_meth2 (fun _ _ _ => rfl) (ev_var rfl ⟨R, ls, sheetIs_mono e1 hS, ea_cons (ev_var rfl (ea_nil ⟨rfl, v, R, ls, m, rfl, sheetIs_mono e1 hS, nd, hm, fun G2 e2 H2 s2 w2 => ?_⟩))⟩))
  have s12 := s1.trans s2
  clear w1 s1 s2
  have hS2 := sheetIs_mono s12.gg hS
  walk_at "ev"
  refine ev_tupOf (lcZA (K := K) PyData.int PyData.int l.2 m.2 (fun _ => true) (fun p => .int (p.2 - p.1)) (by omega) (fun _ _ => rfl) ?_)
  refine ea_cons (ev_score T (ev_var rfl ⟨R, ls, hS2, nd, ev_var rfl ⟨l, hl, rfl, Same.refl _, fun v1 hv1 => ?_⟩⟩))
  refine ea_cons (ev_score T (ev_var rfl ⟨R, ls, hS2, nd, ev_var rfl ⟨m, hm, rfl, Same.refl _, fun v2 hv2 => ea_nil ⟨v1, v2, rfl, .inr ⟨hv1, hv2⟩, fun x y G3 d e _ e3 hx hy => et_yes ⟨rfl, fun _ => ?_⟩, fun v3 G3 e3 hv3 => ?_⟩⟩⟩))
  · obtain rfl := dp_int hx
    obtain rfl := dp_int hy
    walk_at "ev"
    exact rv_I0 (.int _)
  · refine ⟨_, .inl hv3, fun u G4 e4 hu4 H4 s4 w4 => kq _ _ _ (s12.trans s4) (k _ _ (s12.trans s4).gg ?_)⟩
    unfold diffD
    rw [List.map_map]
    rw [List.filter_eq_self.mpr fun _ _ => rfl] at hu4
    exact hu4
end
end FD
namespace FD
open PySem PyProof.Rows L2
section
variable {P : Program} {w : World} {K : PySem.W.Frag} {mg : Str → Option Value} {base : Heap}
local macro_rules | `(tactic| walk_at "ev") => `(tactic| repeat (first | with_reducible refine s_seq ?_ | with_reducible refine s_skip ?_ | with_reducible refine s_gn ?_ | with_reducible refine ev_op ?_ | with_reducible refine ev_un ?_ | ((with_reducible refine' ev_var ?hv ?_); (case hv => rfl)) | with_reducible refine ev_c ?_ | with_reducible refine ev_cb ?_ | with_reducible refine ea_cons ?_ | with_reducible refine ea_nil ?_ | with_reducible refine et_test ?_ | with_reducible refine et_B ?_ | with_reducible refine s_ret (by assumption) ?_ | with_reducible refine s_asg (by assumption) ?_))
def proD (R : List Str) (gs : List Int) : List Str := ((R.zip gs).filter fun p => decide (0 < p.2)).map (·.1)
def conD (R : List Str) (gs : List Int) : List Str := ((R.zip gs).filter fun p => decide (p.2 < 0)).map (·.1)
def sheetRow (R : List Str) (a b : List Int) : RowT := (proD R (diffD a b), conD R (diffD a b))
theorem zip_sub (R : List Str) (gs : List Int) (c : Str × Int → Bool) : (((R.zip gs).filter c).map (·.1)).Sublist R := by
  have h1 : (((R.zip gs).filter c).map (·.1)).Sublist ((R.zip gs).map (·.1)) := (List.filter_sublist).map _
  refine h1.trans ?_
  have go : ∀ (R : List Str) (gs : List Int), ((R.zip gs).map (·.1)).Sublist R := fun R gs => by
    induction R generalizing gs with
    | nil => exact .slnil
    | cons x R ih => cases gs with
      | nil => exact List.nil_sublist _
      | cons g gs => exact (ih gs).cons₂ x
  exact go R gs
theorem names_sub {R l : List Str} (h : NamesOk R) (s : l.Sublist R) : NamesOk l := ⟨fun x hx => h.1 x (s.subset hx), h.2.1.sublist s, Nat.le_trans s.length_le h.2.2⟩
theorem zip_one {R : List Str} {gs : List Int} {x : Str} {g1 g2 : Int} (nd : R.Nodup) (h1 : (x, g1) ∈ R.zip gs) (h2 : (x, g2) ∈ R.zip gs) : g1 = g2 := by
  obtain ⟨i, hi, e1⟩ := List.mem_iff_getElem.mp h1
  obtain ⟨j, hj, e2⟩ := List.mem_iff_getElem.mp h2
  rw [List.getElem_zip] at e1 e2
  rw [List.length_zip] at hi hj
  have a1 := congrArg Prod.fst e1
  have a2 := congrArg Prod.fst e2
  have b1 := congrArg Prod.snd e1
  have b2 := congrArg Prod.snd e2
  have eij : i = j := by
    rcases Nat.lt_trichotomy i j with q | q | q
    · exact absurd (a1.trans a2.symm) (List.pairwise_iff_getElem.mp nd i j (by omega) (by omega) q)
    · exact q
    · exact absurd (a2.trans a1.symm) (List.pairwise_iff_getElem.mp nd j i (by omega) (by omega) q)
  subst eij
  exact b1.symm.trans b2
theorem pro_con {R : List Str} {gs : List Int} (nd : R.Nodup) : ∀ x ∈ proD R gs, x ∉ conD R gs := by
  intro x h1 h2
  obtain ⟨p, hp, rfl⟩ := List.mem_map.mp h1
  obtain ⟨q, hq, e⟩ := List.mem_map.mp h2
  obtain ⟨hp1, hp2⟩ := List.mem_filter.mp hp
  obtain ⟨hq1, hq2⟩ := List.mem_filter.mp hq
  have e1 : (p.1, p.2) ∈ R.zip gs := hp1
  have e2 : (p.1, q.2) ∈ R.zip gs := by
    have : (q.1, q.2) ∈ R.zip gs := hq1
    rw [e] at this
    exact this
  have := zip_one nd e1 e2
  have h3 := of_decide_eq_true hp2
  have h4 := of_decide_eq_true hq2
  omega
theorem sorted_sub {a l : List Str} (h : sortedS a = true) (s : l.Sublist a) : sortedS l = true := pairwise_sorted ((sorted_pairwise h).sublist s)
def pSheetRow (K : PySem.W.Frag) : List V → Hp → (V → Hp → Prop) → Prop := fun vs G P => ∃ (v : V) (R : List Str) (ls : List LineT) (l m : LineT), vs = [v, .str l.1, .str m.1] ∧ SheetIs K G v R ls ∧ SheetOk R ls ∧ l ∈ ls ∧ m ∈ ls ∧ ∀ v' G', Same G G' → RowIs K G' v' (sheetRow R l.2 m.2) → P v' G'
theorem d_Sheet_row (T : Mo K mg) : DefM P w K mg base CX0 6 (cls K "Sheet") "row" ["self", "one", "other"] (SpP 3 (pSheetRow K)) := by
  obtain ⟨fd, F⟩ := T.f_Sheet_row
  refine ⟨_, fd, F.ok sc_Sheet_row spP_len (fun cdv A outer s H vs Q E hr h => ?_), T.m_Sheet_row, F.bindsN fun _ _ _ _ _ _ us hl => match us, hl with | [_, _, _], _ => rfl⟩
  have hu := hu_of hr
  obtain ⟨_, G, P, sm, hp, kq⟩ := h
  have wd : Wd none G H := .none sm
  refine ⟨_, PSs.nox (pss_cons (ps_set (i := 3) sc_Sheet_row.nd rfl (Or.inl rfl) (pe_dm (d_Sheet_difference T) T.cl_Sheet (pv 0) (hr.mono (by decide)) pass0 (pa_cons (pv 1) (pa_cons (pv 2) pa_nil))))
    (pss_cons (ps_setLc (i := 4) (own := [("reason", 5), ("gap", 6)]) (g := gTup K 2 (gCons (gName 5) (gCons (gName 6) gNil))) (tt := _) rfl sc_Sheet_row.nd rfl rfl (sw_true rfl rfl rfl (by decide +kernel)) (RZ.pi_zipA (by rfl) T.n_zip (pa_cons (pe_fld (pv 0) rfl) (pa_cons (pv 3) pa_nil))) (blkOk_by (N := ["self", "one", "other", "gaps", "pro", "reason", "gap", "con"]) (sc := defScope s_Sheet_row) (by decide +kernel)) (fun _ _ _ _ _ => (pg_tup rfl (pgs_cons (pg_name (i := 5) sc_Sheet_row.nd rfl (Or.inl rfl)) (pgs_cons (pg_name (i := 6) sc_Sheet_row.nd rfl (Or.inl rfl)) pgs_nil)))) (fun _ _ _ _ _ => (pts_one (blk_tt (pt_cmpR op_gt (pv 6) pe_int (by rfl)) (by (try dsimp only [Cx.blk, Cx.nox, cxOf]); (try rfl))))) (fun _ _ _ _ _ => (blk_te (pv 5) (by (try dsimp only [Cx.blk, Cx.nox, cxOf]); (try rfl)))))
    (pss_cons (ps_setLc (i := 7) (own := [("reason", 5), ("gap", 6)]) (g := gTup K 2 (gCons (gName 5) (gCons (gName 6) gNil))) (tt := _) rfl sc_Sheet_row.nd rfl rfl (sw_true rfl rfl rfl (by decide +kernel)) (RZ.pi_zipA (by rfl) T.n_zip (pa_cons (pe_fld (pv 0) rfl) (pa_cons (pv 3) pa_nil))) (blkOk_by (N := ["self", "one", "other", "gaps", "pro", "reason", "gap", "con"]) (sc := defScope s_Sheet_row) (by decide +kernel)) (fun _ _ _ _ _ => (pg_tup rfl (pgs_cons (pg_name (i := 5) sc_Sheet_row.nd rfl (Or.inl rfl)) (pgs_cons (pg_name (i := 6) sc_Sheet_row.nd rfl (Or.inl rfl)) pgs_nil)))) (fun _ _ _ _ _ => (pts_one (blk_tt (pt_cmpR op_lt (pv 6) pe_int (by rfl)) (by (try dsimp only [Cx.blk, Cx.nox, cxOf]); (try rfl))))) (fun _ _ _ _ _ => (blk_te (pv 5) (by (try dsimp only [Cx.blk, Cx.nox, cxOf]); (try rfl)))))
    (pss_one (ps_ret (FD.pe_dc (d_Row_init T) (hr.mono (by decide)) (by rfl) pass0 (pa_cons (pv 4) (pa_cons (pv 7) pa_nil)))))))), ?_⟩
  obtain ⟨v, R, ls, l, m, rfl, hS, hok, hl, hm, k⟩ := hp
  obtain ⟨hR, hs, hls⟩ := hok
  have hl2 := hls.2.1 l hl
  have hn1 := hls.2.2.2.2
  walk_at "ev"
  refine ev_meth2 (fun _ _ _ => rfl) (ev_var rfl ⟨R, ls, hS, ea_cons (ev_var rfl (ea_cons (ev_var rfl (ea_nil ⟨rfl, v, R, ls, l, m, rfl, hS, hls.1.2.1, hl, hm, by omega, fun gv G1 e1 hgv H1 s1 w1 => ?_⟩))))⟩)
  clear wd
  walk_at "ev"
  refine lcZA (K := K) PyData.str PyData.int R (diffD l.2 m.2) (fun p => decide (0 < p.2)) (fun p => .str p.1) (by have := hR.2.2; omega) (fun _ _ => rfl) ?_
  refine ea_cons (ev_sreasons (T := T) (ev_var rfl ⟨R, ls, sheetIs_mono e1 hS, fun tr htr => ea_cons (ev_var rfl (ea_nil ⟨tr, gv, rfl, .inr ⟨htr, hgv⟩, fun x y G2 d e _ e2 hx hy => ?_, fun pv G2 e2 hpv H2 s2 w2 => ?_⟩))⟩))
  · obtain rfl := dp_str hx
    obtain rfl := dp_int hy
    refine et_test ?_
    walk_at "ev"
    exact rv_I0 ⟨_, rfl, rfl, fun _ => ev_var rfl (.str _)⟩
  clear w1
  walk_at "ev"
  refine lcZA (K := K) PyData.str PyData.int R (diffD l.2 m.2) (fun p => decide (p.2 < 0)) (fun p => .str p.1) (by have := hR.2.2; omega) (fun _ _ => rfl) ?_
  refine ea_cons (ev_sreasons (T := T) (ev_var rfl ⟨R, ls, sheetIs_mono (e1.trans e2) hS, fun tr htr => ea_cons (ev_var rfl (ea_nil ⟨tr, gv, rfl, .inr ⟨htr, Dpm hgv e2⟩, fun x y G3 d e _ e3 hx hy => ?_, fun cv G3 e3 hcv H3 s3 w3 => ?_⟩))⟩))
  · obtain rfl := dp_str hx
    obtain rfl := dp_int hy
    refine et_test ?_
    walk_at "ev"
    exact rv_I0 ⟨_, rfl, rfl, fun _ => ev_var rfl (.str _)⟩
  clear w2
  have hpv' : Dp K G2 pv (.list ((proD R (diffD l.2 m.2)).map .str)) := by
    unfold proD
    rw [List.map_map]
    exact hpv
  have hcv' : Dp K G3 cv (.list ((conD R (diffD l.2 m.2)).map .str)) := by
    unfold conD
    rw [List.map_map]
    exact hcv
  have hps := zip_sub R (diffD l.2 m.2) fun p => decide (0 < p.2)
  have hcs := zip_sub R (diffD l.2 m.2) fun p => decide (p.2 < 0)
  have hpl := hps.length_le
  have hcl := hcs.length_le
  have h7 := hR.2.2
  walk_at "ev"
  refine ev_make (ea_cons (ev_var rfl (ea_cons (ev_var rfl (ea_nil ⟨rfl, pv, cv, proD R (diffD l.2 m.2), conD R (diffD l.2 m.2), rfl, .inl (Dpm hpv' e3), .inl hcv', names_sub hR.1 hps, names_sub hR.1 hcs, pro_con hR.1.2.1, ?_, fun p' c' v' G4 hp' hc' e4 hrow H4 s4 w4 => ?_⟩)))))
  · show (proD R _).length + (conD R _).length < 64
    unfold proD conD
    omega
  · obtain rfl := sortedOf_self (sorted_sub hs hps) hp'
    obtain rfl := sortedOf_self (sorted_sub hs hcs) hc'
    have s := (s1.trans s2).trans (s3.trans s4)
    exact kq _ _ _ s (k _ _ s.gg hrow)
end
end FD
namespace FD
open PySem PyProof.Rows L2
section
variable {P : Program} {w : World} {K : PySem.W.Frag} {mg : Str → Option Value} {base : Heap}
local macro_rules | `(tactic| walk_at "ev") => `(tactic| repeat (first | with_reducible refine s_seq ?_ | with_reducible refine s_skip ?_ | with_reducible refine s_gn ?_ | with_reducible refine ev_op ?_ | with_reducible refine ev_un ?_ | ((with_reducible refine' ev_var ?hv ?_); (case hv => rfl)) | with_reducible refine ev_c ?_ | with_reducible refine ev_cb ?_ | with_reducible refine ea_cons ?_ | with_reducible refine ea_nil ?_ | with_reducible refine et_test ?_ | with_reducible refine et_B ?_ | with_reducible refine s_ret (by assumption) ?_ | with_reducible refine s_asg (by assumption) ?_))
def pSheetOf (K : PySem.W.Frag) (res : List Str → List LineT → LineT → Hp → V → Prop) : List V → Hp → (V → Hp → Prop) → Prop := fun vs G P => ∃ (v : V) (R : List Str) (ls : List LineT) (l : LineT), vs = [v, .str l.1] ∧ SheetIs K G v R ls ∧ SheetOk R ls ∧ l ∈ ls ∧ ∀ v' G', Same G G' → res R ls l G' v' → P v' G'
def rivalsOf (ls : List LineT) (l : LineT) : List LineT := ls.filter fun m => !decide (m.2 = l.2)
def alikeOf (ls : List LineT) (l : LineT) : List Str := (ls.filter fun m => decide (m.2 = l.2)).map (·.1)
theorem tup_eq {α : Type} [DecidableEq α] (a b : List α) : decide (PySem.W.Tup.mk a = PySem.W.Tup.mk b) = decide (a = b) := decide_eq_decide.mpr ⟨fun h => PySem.W.Tup.mk.inj h, fun h => by rw [h]⟩
theorem d_Sheet_rivals (T : Mo K mg) : DefM P w K mg base CX0 2 (cls K "Sheet") "rivals" ["self", "offer"] (SpP 2 (pSheetOf K fun R ls l G v => Dp K G v (.tuple (((rivalsOf ls l).map (·.1)).map .str)))) := by
  obtain ⟨fd, F⟩ := T.f_Sheet_rivals
  refine ⟨_, fd, F.ok sc_Sheet_rivals spP_len (fun cdv A outer s H vs Q E hr h => ?_), T.m_Sheet_rivals, F.bindsN fun _ _ _ _ _ _ us hl => match us, hl with | [_, _], _ => rfl⟩
  have hu := hu_of hr
  obtain ⟨_, G, P, sm, hp, kq⟩ := h
  have wd : Wd none G H := .none sm
  refine ⟨_, PSs.nox (pss_cons (ps_expr (pe_dm (d_Sheetcheck T) T.cl_Sheet (pv 0) (hr.mono (by decide)) pass0 (pa_cons (pv 1) pa_nil)))
    (pss_cons (ps_set (i := 2) sc_Sheet_rivals.nd rfl (Or.inr rfl) (pe_dget hu (pe_fld (pv 0) rfl) (pv 1) (fun _ _ => rfl)))
    (pss_one (ps_ret (pe_tupleOf (by rfl) T.n_tuple (pe_lc (own := [("name", 3)]) (g := gName 3) (tt := _) rfl sc_Sheet_rivals.nd (pi_list (pe_fld (pv 0) rfl)) (blkOk_by (N := ["self", "offer", "own", "name"]) (sc := defScope s_Sheet_rivals) (by decide +kernel)) (fun _ _ _ _ _ => (pg_name (i := 3) sc_Sheet_rivals.nd rfl (Or.inl rfl))) (fun _ _ _ _ _ => (pts_one (blk_tt (pt_cmpR (op_neW hr.units) (pe_dget hu (pe_fld (pv 0) rfl) (pv 3) (fun _ _ => rfl)) (pv 2) (by rfl)) (by (try dsimp only [Cx.blk, Cx.nox, cxOf]); (try rfl))))) (fun _ _ _ _ _ => (blk_te (pv 3) (by (try dsimp only [Cx.blk, Cx.nox, cxOf]); (try rfl)))))))))), ?_⟩
  obtain ⟨v, R, ls, l, rfl, hS, hok, hl, k⟩ := hp
  have nd := hok.2.2.1.2.1
  have h6 := hok.2.2.2.2.2.1
  walk_at "ev"
  refine s_drop wd (ev_meth2 (fun _ _ _ => rfl) (ev_var rfl ⟨R, ls, hS, ea_cons (ev_var rfl (ea_nil ⟨rfl, v, R, ls, l, rfl, hS, nd, hl, fun G1 e1 H1 s1 w1 => ?_⟩))⟩))
  clear wd
  have hS1 := sheetIs_mono e1 hS
  walk_at "ev"
  refine ev_score T (ev_var rfl ⟨R, ls, hS1, nd, ev_var rfl ⟨l, hl, rfl, Same.refl _, fun ov hov H2 s2 w2 => ?_⟩⟩)
  clear w1
  walk_at "ev"
  refine ev_tupOf (lcLa (K := K) (fun m : LineT => PyData.str m.1) ls (fun m => !decide (m.2 = l.2)) (fun m => .str m.1) (by omega) (ev_snames (T := T) (ev_var rfl ⟨R, ls, hS1, fun nv hnv => ⟨hnv, fun x G2 m hm e2 hx => ?_, fun v2 G2 e2 hv2 => ?_⟩⟩)))
  · obtain rfl := dp_str hx
    refine ⟨_, fun _ _ => gv_name, rfl, et_test ?_⟩
    walk_at "ev"
    refine ev_score T (ev_var rfl ⟨R, ls, sheetIs_mono e2 hS1, nd, ev_var rfl ⟨m, hm, rfl, Same.refl _, fun mv hmv => ev_var rfl ?_⟩⟩)
    refine rv_neT (α := PySem.W.Tup Int) ⟨m.2⟩ ⟨l.2⟩ hmv (Dpm hov e2) (by decide) ⟨_, rfl, ?_, fun _ => ev_var rfl (.str _)⟩
    rw [tup_eq]
  · refine ⟨_, .inl hv2, fun u G4 e4 hu4 H4 s4 w4 => kq _ _ _ ((s1.trans s2).trans s4) (k _ _ ((s1.trans s2).trans s4).gg ?_)⟩
    have e : ((rivalsOf ls l).map (·.1)).map PyData.str = (rivalsOf ls l).map fun m => PyData.str m.1 := by rw [List.map_map]; rfl
    show Dp K G4 u (.tuple (((rivalsOf ls l).map (·.1)).map .str))
    rw [e]
    exact hu4
/-- a tuple of texts, as it lies -/
def TupAt (G : Hp) (v : V) (l : List Str) : Prop := ∃ a, v = .ref a ∧ G a = some (.tup (l.map V.str))
def TupsAt (K : PySem.W.Frag) (G : Hp) (v : V) (ls : List (List Str)) : Prop := ∃ a vs, v = .ref a ∧ SqL K G a vs ∧ Paired (TupAt G) vs ls
theorem tupAt_mono {G G' : Hp} {v : V} {l : List Str} (e : Same G G') (h : TupAt G v l) : TupAt G' v l := let ⟨a, h1, h2⟩ := h; ⟨a, h1, e _ _ h2⟩
theorem tupAt_dp {G : Hp} {v : V} {l : List Str} (h : TupAt G v l) : Dp K G v (.tuple (l.map .str)) := by
  obtain ⟨a, rfl, h2⟩ := h
  exact .tup (SqT.of h2) (dpa_strs l)
theorem tupsAt_mono {G G' : Hp} {v : V} {l : List (List Str)} (e : Same G G') (h : TupsAt K G v l) : TupsAt K G' v l := let ⟨a, vs, h1, h2, h3⟩ := h; ⟨a, vs, h1, sql_mono e h2, paired_imp (fun _ _ q => tupAt_mono e q) h3⟩
theorem ev_tupNew {b : Option (Addr × Addr)} {σ : L2.St} {G : Hp} {Q : V → Hp → Prop} {te : TE} (h : Ev b te σ G fun x G1 => ∃ l : List Str, Dp K G1 x (.list (l.map .str)) ∧ ∀ v G2, Same G1 G2 → TupAt G2 v l → Q v G2) : Ev b (tThen te (kTup K)) σ G Q :=
  fun H w R k => h H w _ fun x G1 H1 e1 w1 ⟨l, hd, q⟩ => by
    obtain ⟨a, rfl, hs⟩ := dp_strsL hd
    exact .inl ⟨a, _, rfl, sql_mono w1.same hs, fun p hp => k _ _ _ (e1.new hp) (w1.new hp) (q _ _ (same_new (w1.same.free hp)) ⟨p, rfl, upd_same⟩)⟩
theorem d_Sheet_answer_of (T : Mo K mg) : DefM P w K mg base CX0 2 (cls K "Sheet") "answer_of" ["self", "offer"] (SpP 2 (pSheetOf K fun R ls l G v => TupAt G v (alikeOf ls l))) := by
  obtain ⟨fd, F⟩ := T.f_Sheet_answer_of
  refine ⟨_, fd, F.ok sc_Sheet_answer_of spP_len (fun cdv A outer s H vs Q E hr h => ?_), T.m_Sheet_answer_of, F.bindsN fun _ _ _ _ _ _ us hl => match us, hl with | [_, _], _ => rfl⟩
  have hu := hu_of hr
  obtain ⟨_, G, P, sm, hp, kq⟩ := h
  have wd : Wd none G H := .none sm
  refine ⟨_, PSs.nox (pss_cons (ps_expr (pe_dm (d_Sheetcheck T) T.cl_Sheet (pv 0) (hr.mono (by decide)) pass0 (pa_cons (pv 1) pa_nil)))
    (pss_cons (ps_set (i := 2) sc_Sheet_answer_of.nd rfl (Or.inr rfl) (pe_dget hu (pe_fld (pv 0) rfl) (pv 1) (fun _ _ => rfl)))
    (pss_one (ps_ret (pe_tupleOf (by rfl) T.n_tuple (pe_lc (own := [("name", 3)]) (g := gName 3) (tt := _) rfl sc_Sheet_answer_of.nd (pi_list (pe_fld (pv 0) rfl)) (blkOk_by (N := ["self", "offer", "own", "name"]) (sc := defScope s_Sheet_answer_of) (by decide +kernel)) (fun _ _ _ _ _ => (pg_name (i := 3) sc_Sheet_answer_of.nd rfl (Or.inl rfl))) (fun _ _ _ _ _ => (pts_one (blk_tt (pt_cmpR (op_eqW hr.units) (pe_dget hu (pe_fld (pv 0) rfl) (pv 3) (fun _ _ => rfl)) (pv 2) (by rfl)) (by (try dsimp only [Cx.blk, Cx.nox, cxOf]); (try rfl))))) (fun _ _ _ _ _ => (blk_te (pv 3) (by (try dsimp only [Cx.blk, Cx.nox, cxOf]); (try rfl)))))))))), ?_⟩
  obtain ⟨v, R, ls, l, rfl, hS, hok, hl, k⟩ := hp
  have nd := hok.2.2.1.2.1
  have h6 := hok.2.2.2.2.2.1
  walk_at "ev"
  refine s_drop wd (ev_meth2 (fun _ _ _ => rfl) (ev_var rfl ⟨R, ls, hS, ea_cons (ev_var rfl (ea_nil ⟨rfl, v, R, ls, l, rfl, hS, nd, hl, fun G1 e1 H1 s1 w1 => ?_⟩))⟩))
  clear wd
  have hS1 := sheetIs_mono e1 hS
  walk_at "ev"
  refine ev_score T (ev_var rfl ⟨R, ls, hS1, nd, ev_var rfl ⟨l, hl, rfl, Same.refl _, fun ov hov H2 s2 w2 => ?_⟩⟩)
  clear w1
  walk_at "ev"
  refine ev_tupNew (lcLa (K := K) (fun m : LineT => PyData.str m.1) ls (fun m => decide (m.2 = l.2)) (fun m => .str m.1) (by omega) (ev_snames (T := T) (ev_var rfl ⟨R, ls, hS1, fun nv hnv => ⟨hnv, fun x G2 m hm e2 hx => ?_, fun v2 G2 e2 hv2 => ?_⟩⟩)))
  · obtain rfl := dp_str hx
    refine ⟨_, fun _ _ => gv_name, rfl, et_test ?_⟩
    walk_at "ev"
    refine ev_score T (ev_var rfl ⟨R, ls, sheetIs_mono e2 hS1, nd, ev_var rfl ⟨m, hm, rfl, Same.refl _, fun mv hmv => ev_var rfl ?_⟩⟩)
    refine rv_eqT (α := PySem.W.Tup Int) ⟨m.2⟩ ⟨l.2⟩ hmv (Dpm hov e2) (by decide) ⟨_, rfl, ?_, fun _ => ev_var rfl (.str _)⟩
    rw [tup_eq]
  · refine ⟨alikeOf ls l, ?_, fun u G4 e4 hu4 H4 s4 w4 => kq _ _ _ ((s1.trans s2).trans s4) (k _ _ ((s1.trans s2).trans s4).gg hu4)⟩
    unfold alikeOf
    rw [List.map_map]
    exact hv2
theorem d_Sheet_rows (T : Mo K mg) : DefM P w K mg base CX0 7 (cls K "Sheet") "rows" ["self", "offer"] (SpP 2 (pSheetOf K fun R ls l G v => RowsAt K G v ((rivalsOf ls l).map fun m => sheetRow R l.2 m.2))) := by
  obtain ⟨fd, F⟩ := T.f_Sheet_rows
  refine ⟨_, fd, F.ok sc_Sheet_rows spP_len (fun cdv A outer s H vs Q E hr h => ?_), T.m_Sheet_rows, F.bindsN fun _ _ _ _ _ _ us hl => match us, hl with | [_, _], _ => rfl⟩
  have hu := hu_of hr
  obtain ⟨_, G, P, sm, hp, kq⟩ := h
  have wd : Wd none G H := .none sm
  refine ⟨_, PSs.nox (pss_one (ps_ret (pe_lc (own := [("rival", 2)]) (g := gName 2) (tt := tYes) rfl sc_Sheet_rows.nd (pi_tup (pe_dm (d_Sheet_rivals T) T.cl_Sheet (pv 0) (hr.mono (by decide)) pass0 (pa_cons (pv 1) pa_nil))) (blkOk_by (N := ["self", "offer", "rival"]) (sc := defScope s_Sheet_rows) (by decide +kernel)) (fun _ _ _ _ _ => (pg_name (i := 2) sc_Sheet_rows.nd rfl (Or.inl rfl))) (fun _ _ _ _ _ => pts_nil) (fun _ _ _ _ _ => (blk_te (pe_dm (d_Sheet_row T) T.cl_Sheet (pv 0) (hr.mono (by decide)) pass0 (pa_cons (pv 1) (pa_cons (pv 2) pa_nil))) (by (try dsimp only [Cx.blk, Cx.nox, cxOf]); (try rfl))))))), ?_⟩
  obtain ⟨v, R, ls, l, rfl, hS, hok, hl, k⟩ := hp
  have h6 := hok.2.2.2.2.2.1
  have hrl : (rivalsOf ls l).length ≤ ls.length := List.length_filter_le _ _
  walk_at "ev"
  refine lcT (K := K) (ev_meth2 (fun _ _ _ => rfl) (ev_var rfl ⟨R, ls, hS, ea_cons (ev_var rfl (ea_nil ⟨rfl, v, R, ls, l, rfl, hS, hok, hl, fun rv G1 e1 hrv => ?_⟩))⟩))
  obtain ⟨c, rfl, hc⟩ := dp_strs hrv
  refine ⟨c, _, rfl, hc, by rw [List.length_map, List.length_map]; omega, fun i acc G => Same G1 G ∧ Paired (RowIs K G) acc (((rivalsOf ls l).take i).map fun m => sheetRow R l.2 m.2), ⟨Same.refl _, .nil⟩, fun i x G2 acc hx e2 iv hacc => ?_, fun acc G2 e2 iv hacc q hq H2 s2 w2 => ?_⟩
  · obtain ⟨y, hy, rfl⟩ := get_map hx
    obtain ⟨m, hm, rfl⟩ := get_map hy
    have hml : m ∈ ls := (List.mem_filter.mp (List.mem_of_getElem? hm)).1
    refine ⟨_, fun _ _ => gv_name, rfl, et_yes ⟨fun _ => ?_, fun z => nomatch z⟩⟩
    refine ev_meth2 (fun _ _ _ => rfl) (ev_var rfl ⟨R, ls, sheetIs_mono (e1.trans e2) hS, ea_cons (ev_var rfl (ea_cons (ev_var rfl (ea_nil ⟨rfl, v, R, ls, l, m, rfl, sheetIs_mono (e1.trans e2) hS, hok, hl, hml, fun v' G3 e3 hrow => ⟨e2.trans e3, ?_⟩⟩))))⟩)
    rw [map_snoc hm]
    exact paired_app (paired_imp (fun _ _ q => rowIs_mono e3 q) iv.2) (.cons hrow .nil)
  · refine kq _ _ _ s2 (k _ _ s2.gg ⟨q, acc, rfl, upd_same, ?_⟩)
    have z := iv.2
    rw [List.length_map, List.length_map, List.take_length] at z
    exact paired_imp (fun _ _ q2 => rowIs_mono (same_new hq) q2) z
def answersOf (ls : List LineT) : List (List Str) := (ls.filter fun l => decide ((alikeOf ls l).head? = some l.1)).map (alikeOf ls)
def encT (l : List Str) : PyData := .tuple (l.map .str)
def pAnswers (K : PySem.W.Frag) : List V → Hp → (V → Hp → Prop) → Prop := fun vs G P => ∃ (v : V) (R : List Str) (ls : List LineT), vs = [v] ∧ SheetIs K G v R ls ∧ SheetOk R ls ∧ ∀ v' G', Same G G' → TupsAt K G' v' (answersOf ls) → P v' G'
theorem d_Sheet_answers (T : Mo K mg) : DefM P w K mg base CX0 3 (cls K "Sheet") "answers" ["self"] (SpP 1 (pAnswers K)) := by
  obtain ⟨fd, F⟩ := T.f_Sheet_answers
  refine ⟨_, fd, F.ok sc_Sheet_answers spP_len (fun cdv A outer s H vs Q E hr h => ?_), T.m_Sheet_answers, F.bindsN fun _ _ _ _ _ _ us hl => match us, hl with | [_], _ => rfl⟩
  have hu := hu_of hr
  obtain ⟨_, G, P, sm, hp, kq⟩ := h
  have wd : Wd none G H := .none sm
  refine ⟨_, PSs.nox (pss_cons (ps_set (i := 1) sc_Sheet_answers.nd rfl (Or.inl rfl) (pe_lst pa_nil))
    (pss_cons (ps_for PassesOwn.never rfl (pi_list (pe_fld (pv 0) rfl)) (pg_name (i := 2) sc_Sheet_answers.nd rfl (Or.inl rfl))
      (pss_cons (ps_set (i := 3) sc_Sheet_answers.nd rfl (Or.inl rfl) (pe_dm (d_Sheet_answer_of T) T.cl_Sheet (pv 0) (hr.mono (by decide)) pass0 (pa_cons (pv 2) pa_nil)))
    (pss_one (ps_if (pt_cmpR op_eq (pe_ix ix_tup (pv 3) pe_int (fun _ _ => rfl)) (pv 2) (by rfl)) (pss_one (ps_expr (pe_bm PySem.F.plainAttrs_list PySem.F.slot_list_append PySem.F.type_list_append mt_append (pv 1) (pa_cons (pv 3) pa_nil)))) pss_nil))))
    (pss_one (ps_ret (pv 1))))), ?_⟩
  obtain ⟨v, R, ls, rfl, hS, hok, k⟩ := hp
  have h6 := hok.2.2.2.2.2.1
  have nb : ∀ {a : Addr}, ¬ Bg (none : Option (Addr × Addr)) a := fun z => nomatch z
  with_reducible refine s_seq ?_
  refine s_newL fun f hf => ?_
  have s1 := (Stp.refl (B := Bg none) sm).newP (o := .lst []) hf
  have hf1 : upd H f (.lst []) f = some (.lst []) := upd_same
  have hGf : G f = none := sm.free hf
  generalize upd H f (.lst []) = H1 at s1 hf1
  have w1 : Wd none G H1 := .none s1.gh
  clear wd
  walk_at "ev"
  refine s_forL (K := K) w1 (ev_snames (T := T) (ev_var rfl ⟨R, ls, hS, fun nv hnv => ?_⟩))
  obtain ⟨la, xs, rfl, hla, hda⟩ := dp_lst hnv
  have hxl := dpa_len hda
  rw [List.length_map] at hxl
  refine ⟨la, xs, rfl, hla, fun i σ G2 H2 => Same G G2 ∧ Stp (Bg none) G H G2 H2 ∧ Wd none G2 H2 ∧ G2 f = none ∧ ∃ acc z1 z2, σ = [some v, some (.ref f), z1, z2] ∧ H2 f = some (.lst acc) ∧ Paired (TupAt G2) acc (((ls.take i).filter fun l => decide ((alikeOf ls l).head? = some l.1)).map (alikeOf ls)), ⟨fun i σ G2 H2 h => ⟨h.1, h.2.2.1⟩, ?_⟩, fun H2 s2 w2 => ⟨Same.refl _, s1.trans s2, w2, hGf, [], _, _, rfl, s2.hh _ _ hf1 nb, .nil⟩, ?_⟩
  · rintro σ G2 H2 ⟨_, s2, w2, hGf2, acc, z1, z2, rfl, hf2, hacc⟩
    rw [hxl, List.take_length] at hacc
    have s3 := s2.know hf hf2 hGf2
    have w3 : Wd none (upd G2 f (.lst acc)) H2 := .none s3.gh
    refine s_ret w3 (ev_var rfl fun H3 s4 w4 => kq _ _ _ (s3.trans s4) (k _ _ (s3.trans s4).gg ?_))
    exact ⟨f, acc, rfl, SqL.of upd_same, paired_imp (fun _ _ q => tupAt_mono (same_new hGf2) q) hacc⟩
  · rintro i x σ G2 H2 hx ⟨sm2, s2, w2, hGf2, acc, z1, z2, rfl, hf2, hacc⟩
    obtain ⟨d0, hd1, hd2⟩ := dpa_get (Dpam hda sm2) hx
    obtain ⟨l, hl, rfl⟩ := get_map hd1
    obtain rfl := dp_str hd2
    have hlm := List.mem_of_getElem? hl
    have haccl : acc.length ≤ 1000 := by
      rw [paired_len hacc, List.length_map]
      refine Nat.le_trans (List.length_filter_le _ _) ?_
      rw [List.length_take]
      omega
    clear w1
    walk_at "ev"
    refine ev_meth2 (fun _ _ _ => rfl) (ev_var rfl ⟨R, ls, sheetIs_mono sm2 hS, ea_cons (ev_var rfl (ea_nil ⟨rfl, v, R, ls, l, rfl, sheetIs_mono sm2 hS, hok, hlm, fun av G3 e3 hav H3 s3 w3 => ?_⟩))⟩)
    have hf3 := s3.hh _ _ hf2 nb
    have hGf3 : G3 f = none := s3.fr f hGf2 (by rw [hf2]; exact fun z => nomatch z)
    have hmem : l.1 ∈ alikeOf ls l := List.mem_map.mpr ⟨l, List.mem_filter.mpr ⟨hlm, decide_eq_true rfl⟩, rfl⟩
    obtain ⟨h0, hr, eal⟩ : ∃ h0 hr, alikeOf ls l = h0 :: hr := by
      cases e : alikeOf ls l with
      | nil => rw [e] at hmem; cases hmem
      | cons a b => exact ⟨a, b, rfl⟩
    clear w2
    dsimp only
    refine s_if w3 (et_test ?_)
    walk_at "ev"
    refine rv_ixDT (i := 0) (tupAt_dp (K := K) hav) (d := .str h0) (by rw [eal]; rfl) fun v0 hv0 => ?_
    obtain rfl := dp_str hv0
    walk_at "ev"
    refine rv_eqB rfl ⟨_, rfl, fun H4 s4 w4 => ⟨fun hc => ?_, fun hc => ?_⟩⟩
    · have hc1 : h0 = l.1 := V.str.inj (of_decide_eq_true hc)
      refine s_app (a := f) (xs := acc) w4 rfl (s4.hh _ _ hf3 nb) nb (by omega) (ev_var rfl fun H5 s5 w5 hf5 => ?_)
      have s6 := ((s2.trans s3).trans (s4.trans s5)).mut (o := .lst (acc ++ [av])) hf hGf3
      refine ⟨G3, sm2.trans e3, s6, .none s6.gh, hGf3, _, _, _, rfl, upd_same, ?_⟩
      rw [take_flt _ _ hl, if_pos (decide_eq_true (by rw [eal, hc1]; rfl))]
      exact paired_app (paired_imp (fun _ _ q => tupAt_mono e3 q) hacc) (.cons hav .nil)
    · have hc1 : h0 ≠ l.1 := fun e => by
        rw [e] at hc
        have : decide (V.str l.1 = V.str l.1) = true := decide_eq_true rfl
        rw [this] at hc
        cases hc
      refine ⟨G3, sm2.trans e3, (s2.trans s3).trans s4, w4, hGf3, _, _, _, rfl, s4.hh _ _ hf3 nb, ?_⟩
      rw [take_flt _ _ hl, if_neg (by rw [eal]; exact fun z => hc1 (Option.some.inj (of_decide_eq_true z))), List.append_nil]
      exact paired_imp (fun _ _ q => tupAt_mono e3 q) hacc
end
end FD
namespace FD
open PySem PyProof.Rows L2
section
variable {P : Program} {w : World} {K : PySem.W.Frag} {mg : Str → Option Value} {base : Heap}
local macro_rules | `(tactic| walk_at "ev") => `(tactic| repeat (first | with_reducible refine s_seq ?_ | with_reducible refine s_skip ?_ | with_reducible refine s_gn ?_ | with_reducible refine ev_op ?_ | with_reducible refine ev_un ?_ | ((with_reducible refine' ev_var ?hv ?_); (case hv => rfl)) | with_reducible refine ev_c ?_ | with_reducible refine ev_cb ?_ | with_reducible refine ea_cons ?_ | with_reducible refine ea_nil ?_ | with_reducible refine et_test ?_ | with_reducible refine et_B ?_ | with_reducible refine s_ret (by assumption) ?_ | with_reducible refine s_asg (by assumption) ?_))
abbrev bigM : Int := 2305843009213693951
/-- how the bag stands within a def that changes it -/
def BagSt (a c : Addr) (ns : List Int) (G H H' : Hp) : Prop := ∃ (i : Nat) (g m : Int), i ≤ ns.length ∧ 0 ≤ g ∧ 0 ≤ m ∧ m < bigM ∧ H' a = some (.lst [.ref c, .int (i : Int), .int g, .int m]) ∧ Stp (Bg (some (a, c))) G H G H'
theorem bag_same {G H : Hp} {a : Addr} {o : HO} (s : Same G H) (h : H a = some o) : Same (upd G a o) H := fun x u z => by
  by_cases q : x = a
  · rw [q, upd_same] at z
    rw [q, h]
    exact z
  · rw [upd_ne q] at z
    exact s x u z
theorem rv_int1 {b : Option (Addr × Addr)} {G : Hp} {Q : V → Hp → Prop} {i : Int} (p : Q (.int i) G) : Rv b ((fun xs H Q => (∃ i, xs = [.int i] ∧ Q (.int i) H) ∨ ∃ k, xs = [.bl k] ∧ Q (.int (if k then 1 else 0)) H : List V → Hp → VK → Prop) [.int i]) G Q :=
  Rv.here (fun H _ Q q => .inl ⟨i, rfl, q⟩) p
theorem s_setC {b : Option (Addr × Addr)} {σ : L2.St} {G H : Hp} {D : Ends} {te : TE} {i : Nat} {z : Int} (k : Nat) (ez : z = (k : Int)) {a : Addr} {xs : List V} (w : Wd b G H) (hi : σ[i]? = some (some (.ref a))) (hx : H a = some (.lst xs)) (hb : ¬ Bg b a) (hk : k < xs.length)
    (h : Ev b te σ G fun y G1 => ∀ H1, Stp (Bg b) G H G1 H1 → Wd b G1 H1 → H1 a = some (.lst xs) → D.nx σ (upd H1 a (.lst (xs.set k y)))) : tAsg te (gSub (tVar i) (tC (.int z)) rSetL) D σ H := by
  subst ez
  exact h H w _ fun y G1 H1 e1 w1 q => ⟨_, hi, a, xs, _, k, rfl, rfl, e1.hh _ _ hx hb, ixN_nat hk, q H1 e1 w1 (e1.hh _ _ hx hb)⟩
theorem rv_bagI {b : Option (Addr × Addr)} {G : Hp} {Q : V → Hp → Prop} {a : Addr} {xs : List V} {z : Int} {v : V} (k : Nat) (ez : z = (k : Int)) (h : G a = some (.lst xs)) (hk : xs[k]? = some v) (p : Q v G) : Rv b (rIxL K (.ref a) (.int z)) G Q := by
  subst ez
  exact rv_ixL (SqL.of h) hk p
def pDraw : List V → Hp → (V → Hp → Prop) → Prop := fun vs G P => ∃ many : Nat, vs = [.int (many : Int)] ∧ 1 ≤ many ∧ many ≤ 1000 ∧ ∀ (z : Nat) G', z < many → Same G G' → P (.int (z : Int)) G'
theorem mod_nat {x : Int} {n : Nat} (hn : 1 ≤ n) : ∃ z : Nat, x.fmod (n : Int) = (z : Int) ∧ z < n := by
  have h1 := Int.fmod_nonneg_of_pos x (b := (n : Int)) (by omega)
  have h2 := Int.fmod_lt_of_pos x (b := (n : Int)) (by omega)
  exact ⟨(x.fmod n).toNat, by omega, by omega⟩
theorem fdiv_nn {x : Int} {n : Int} (hx : 0 ≤ x) (hn : 0 < n) : 0 ≤ x.fdiv n := Int.fdiv_nonneg hx (Int.le_of_lt hn)
theorem bagSt_write {a c : Addr} {ns : List Int} {G H H1 H2 G2 : Hp} {o : HO} {i : Nat} {g m : Int} (hG : G a = none) (st : Stp (Bg (some (a, c))) G H G H1) (s2 : Stp (Bg none) (upd G a o) H1 G2 H2) (hi : i ≤ ns.length) (hg : 0 ≤ g) (hm : 0 ≤ m) (hm2 : m < bigM) :
    BagSt a c ns G H (upd H2 a (.lst [.ref c, .int (i : Int), .int g, .int m])) :=
  ⟨i, g, m, hi, hg, hm, hm2, upd_same, (st.trans (s2.back hG).up).mutB rfl hG⟩
theorem bagSt_wd {a c : Addr} {ns : List Int} {G H H' : Hp} (w : Wd (some (a, c)) G H) (hc : G c = some (.lst (ns.map V.int))) (hl : ns.length ≤ 63) (h : BagSt a c ns G H H') : Stp (Bg (some (a, c))) G H G H' ∧ Wd (some (a, c)) G H' := by
  obtain ⟨i, g, m, h1, h2, h3, h4, h5, h6⟩ := h
  refine ⟨h6, h6.gh, fun a' c' e => ?_⟩
  cases e
  exact ⟨(w.bag a c rfl).1, ns, i, g, m, h5, hc, h1, hl, h2, h3, h4⟩
theorem d__law_draw (T : Mo K mg) : Def P w K mg base CX0 1 "_law_draw" ["_law_bag_here", "_law_many"] (SpB 1 pDraw) := by
  obtain ⟨fd, F⟩ := T.f__law_draw
  refine ⟨_, fd, F.ok sc__law_draw spB_len (fun cdv A outer s H vs Q E hr h => ?_), T.g__law_draw, F.kp, F.bindsN fun _ _ _ _ _ _ us hl => match us, hl with | [_, _], _ => rfl⟩
  have hu := hu_of hr
  obtain ⟨_, bg, bc, G, P, vs, rfl, wd, hp, kq⟩ := h
  refine ⟨_, PSs.nox (C8.pss_cut (ps_if (PW.pt (pw_and (pt_cmpR op_eq (pe_ix ix_list (pv 0) pe_int (fun _ _ => rfl)) pe_int (by rfl)) (pw_and1 (pt_cmpR op_lt (pe_ix ix_list (pv 0) pe_int (fun _ _ => rfl)) (pe_callB call_len_seq (by rfl) T.n_len (by decide +kernel) (pa_cons (pe_ix ix_list (pv 0) pe_int (fun _ _ => rfl)) pa_nil)) (by rfl))))) (pss_cons (ps_set (i := 2) sc__law_draw.nd rfl (Or.inl rfl) (pe_ix ix_list (pe_ix ix_list (pv 0) pe_int (fun _ _ => rfl)) (pe_ix ix_list (pv 0) pe_int (fun _ _ => rfl)) (fun _ _ => rfl)))
    (pss_cons (ps_asg (pe_op op_add (pe_ix ix_list (pv 0) pe_int (fun _ _ => rfl)) pe_int) (pg_sub (pv 0) pe_int set_list))
    (pss_one (ps_if (pt_cmpR op_ge (pv 2) (pe_op op_pow pe_int pe_int) (by rfl)) (pss_one (ps_asg (pv 2) (pg_sub (pv 0) pe_int set_list))) (pss_one (ps_asg (pe_op op_modN (pe_callTy call_int1 (by rfl) T.n_int (by decide +kernel) (pa_cons (pe_op op_add (pe_op op_add (pe_op op_mul (pe_ix ix_list (pv 0) pe_int (fun _ _ => rfl)) pe_int) (pe_op op_mul (pv 2) pe_int)) (pe_ix ix_list (pv 0) pe_int (fun _ _ => rfl))) pa_nil)) pe_int) (pg_sub (pv 0) pe_int set_list))))))) pss_nil)
    (pss_cons (ps_if (pt_cmpR op_gt (pe_ix ix_list (pv 0) pe_int (fun _ _ => rfl)) pe_int (by rfl)) (pss_cons (ps_set (i := 3) sc__law_draw.nd rfl (Or.inl rfl) (pe_op op_modN (pe_callTy call_int1 (by rfl) T.n_int (by decide +kernel) (pa_cons (pe_ix ix_list (pv 0) pe_int (fun _ _ => rfl)) pa_nil)) (pv 1)))
    (pss_cons (ps_asg (pe_op op_fdivN (pe_ix ix_list (pv 0) pe_int (fun _ _ => rfl)) (pv 1)) (pg_sub (pv 0) pe_int set_list))
    (pss_one (ps_ret (pv 3))))) pss_nil)
    (pss_cons (ps_asg (pe_op op_modN (pe_callTy call_int1 (by rfl) T.n_int (by decide +kernel) (pa_cons (pe_op op_add (pe_op op_add (pe_op op_mul (pe_op op_pow (pe_ix ix_list (pv 0) pe_int (fun _ _ => rfl)) pe_int) pe_int) (pe_op op_mul (pe_ix ix_list (pv 0) pe_int (fun _ _ => rfl)) pe_int)) pe_int) pa_nil)) pe_int) (pg_sub (pv 0) pe_int set_list))
    (pss_one (ps_ret (pe_op op_modN (pe_callTy call_int1 (by rfl) T.n_int (by decide +kernel) (pa_cons (pe_op op_fdivN (pe_ix ix_list (pv 0) pe_int (fun _ _ => rfl)) pe_int) pa_nil)) (pv 1))))))), ?_⟩
  obtain ⟨many, rfl, hm1, hm2, k⟩ := hp
  obtain ⟨hGa, ns, i0, g0, m0, hb, hGc, hi0, hns, hg0, hm0, hm0'⟩ := wd.bag bg bc rfl
  have st0 : BagSt bg bc ns G H H := ⟨i0, g0, m0, hi0, hg0, hm0, hm0', hb, Stp.refl wd.same⟩
  have nb : ∀ {a : Addr}, ¬ Bg (none : Option (Addr × Addr)) a := fun z => nomatch z
  have fin : ∀ (z : Nat) H', z < many → BagSt bg bc ns G H H' → Q (.int (z : Int)) H' := fun z H' hz st => by
    obtain ⟨s1, w1⟩ := bagSt_wd wd hGc hns st
    exact kq _ _ _ s1 w1 (k z G hz (Same.refl G))
  have hmz : ((many : Nat) : Int) ≠ 0 := by omega
  refine ⟨fun σ' H' => BagSt bg bc ns G H H' ∧ ∃ z, σ' = [some (.ref bg), some (.int (many : Int)), z, none], ?_, ?_⟩
  · -- the next cell
    have s0 : Stp (Bg (some (bg, bc))) G H G H := Stp.refl wd.same
    have hk : upd G bg (.lst [.ref bc, .int (i0 : Int), .int g0, .int m0]) bg = some (.lst [.ref bc, .int (i0 : Int), .int g0, .int m0]) := upd_same
    have hkc : upd G bg (.lst [.ref bc, .int (i0 : Int), .int g0, .int m0]) bc = some (.lst (ns.map V.int)) := by
      rw [upd_ne (fun z => by rw [z, hGa] at hGc; cases hGc)]
      exact hGc
    have wk : Wd none (upd G bg (.lst [.ref bc, .int (i0 : Int), .int g0, .int m0])) H := .none (bag_same wd.same hb)
    refine s_if wk (et_and (et_test ?_))
    walk_at "ev"
    refine rv_bagI 2 rfl hk rfl ?_
    walk_at "ev"
    refine rv_eqB rfl ⟨_, rfl, fun _ => et_test ?_, fun z H1 s1 w1 => ⟨fun h => (nomatch h), fun _ => ⟨⟨i0, g0, m0, hi0, hg0, hm0, hm0', s1.hh _ _ hb nb, s0.trans (s1.back hGa).up⟩, _, rfl⟩⟩⟩
    walk_at "ev"
    refine rv_bagI 1 rfl hk rfl ?_
    walk_at "ev"
    refine rv_bagI 0 rfl hk rfl ?_
    walk_at "ev"
    refine Rv.here (fun H e Q q => ⟨bc, _, rfl, .inl (SqL.of (e _ _ hkc)), q⟩) (rv_I0 ⟨_, rfl, fun H1 s1 w1 => ⟨fun hc => ?_, fun _ => ⟨⟨i0, g0, m0, hi0, hg0, hm0, hm0', s1.hh _ _ hb nb, s0.trans (s1.back hGa).up⟩, _, rfl⟩⟩⟩)
    have hlt : i0 < ns.length := by
      have := of_decide_eq_true hc
      rw [List.length_map] at this
      omega
    clear wk wd
    walk_at "ev"
    refine rv_bagI 0 rfl hk rfl ?_
    walk_at "ev"
    refine rv_bagI 1 rfl hk rfl ?_
    refine rv_ixL (SqL.of hkc) (i := i0) (v := .int ns[i0]) (by rw [List.getElem?_map, List.getElem?_eq_getElem hlt]; rfl) fun H2 s2 w2 => ?_
    clear w1
    generalize ns[i0] = cell
    walk_at "ev"
    refine s_setC 1 rfl w2 rfl (s2.hh _ _ (s1.hh _ _ hb nb) nb) nb (by show 1 < 4; decide) ?_
    walk_at "ev"
    refine rv_bagI 1 rfl hk rfl ?_
    walk_at "ev"
    refine rv_I0 fun H3 s3 w3 hb3 => ?_
    have st3 := bagSt_write (c := bc) (ns := ns) (i := i0 + 1) hGa s0 ((s1.trans s2).trans s3) (by omega) hg0 hm0 hm0'
    have e1 : ([V.ref bc, V.int (i0 : Int), V.int g0, V.int m0] : List V).set 1 (V.int ((i0 : Int) + 1)) = [V.ref bc, V.int ((i0 + 1 : Nat) : Int), V.int g0, V.int m0] := by rw [Int.natCast_succ]; rfl
    rw [e1]
    generalize hH4 : upd H3 bg (.lst [V.ref bc, V.int ((i0 + 1 : Nat) : Int), V.int g0, V.int m0]) = H4 at st3
    have hb4 : H4 bg = some (.lst [V.ref bc, V.int ((i0 + 1 : Nat) : Int), V.int g0, V.int m0]) := by rw [← hH4]; exact upd_same
    have s4 : Stp (Bg (some (bg, bc))) G H G H4 := by obtain ⟨_, _, _, _, _, _, _, _, s⟩ := st3; exact s
    clear w2 w3 hH4
    have hk4 : upd G bg (.lst [.ref bc, .int ((i0 + 1 : Nat) : Int), .int g0, .int m0]) bg = some (.lst [.ref bc, .int ((i0 + 1 : Nat) : Int), .int g0, .int m0]) := upd_same
    have wk4 : Wd none (upd G bg (.lst [.ref bc, .int ((i0 + 1 : Nat) : Int), .int g0, .int m0])) H4 := .none (bag_same s4.gh hb4)
    dsimp only
    refine s_if wk4 (et_test ?_)
    walk_at "ev"
    refine rv_I ⟨by decide, by decide, by decide⟩ ?_
    refine rv_I0 ⟨_, rfl, fun H5 s5 w5 => ⟨fun hc2 => ?_, fun _ => ?_⟩⟩
    · clear wk4
      have hcell : 0 ≤ cell := by
        have h10 : ((10 : Int) ^ (18 : Int).toNat) ≤ cell := of_decide_eq_true hc2
        exact Int.le_trans (by decide) h10
      refine s_setC 2 rfl w5 rfl (s5.hh _ _ hb4 nb) nb (by show 2 < 4; decide) (ev_var rfl fun H6 s6 w6 hb6 => ?_)
      exact ⟨bagSt_write (c := bc) (ns := ns) (i := i0 + 1) hGa s4 (s5.trans s6) (by omega) hcell hm0 hm0', _, rfl⟩
    · clear wk4
      refine s_setC 3 rfl w5 rfl (s5.hh _ _ hb4 nb) nb (by show 3 < 4; decide) ?_
      walk_at "ev"
      refine rv_bagI 3 rfl hk4 rfl ?_
      walk_at "ev"
      refine rv_I (.inr ⟨by decide, by decide⟩) ?_
      walk_at "ev"
      refine rv_I (.inr ⟨by decide, by decide⟩) (rv_I0 ?_)
      walk_at "ev"
      refine rv_bagI 1 rfl hk4 rfl (rv_I0 ?_)
      walk_at "ev"
      refine rv_int1 ?_
      walk_at "ev"
      refine rv_I (by decide) fun H6 s6 w6 hb6 => ?_
      exact ⟨bagSt_write (c := bc) (ns := ns) (i := i0 + 1) hGa s4 (s5.trans s6) (by omega) hg0 (Int.fmod_nonneg_of_pos _ (by decide)) (Int.fmod_lt_of_pos _ (by decide)), _, rfl⟩
  · rintro σ' H' ⟨⟨i1, g1, m1, hi1, hg1, hm1', hm1'', hb1, s1⟩, z0, rfl⟩
    have hk : upd G bg (.lst [.ref bc, .int (i1 : Int), .int g1, .int m1]) bg = some (.lst [.ref bc, .int (i1 : Int), .int g1, .int m1]) := upd_same
    have wk : Wd none (upd G bg (.lst [.ref bc, .int (i1 : Int), .int g1, .int m1])) H' := .none (bag_same s1.gh hb1)
    clear st0
    walk_at "ev"
    refine s_if wk (et_test ?_)
    walk_at "ev"
    refine rv_bagI 2 rfl hk rfl ?_
    walk_at "ev"
    refine rv_I0 ⟨_, rfl, fun H2 s2 w2 => ⟨fun hc => ?_, fun _ => ?_⟩⟩
    · clear wk
      obtain ⟨z, hz1, hz2⟩ := mod_nat (x := g1) hm1
      walk_at "ev"
      refine rv_bagI 2 rfl hk rfl ?_
      walk_at "ev"
      refine rv_int1 ?_
      walk_at "ev"
      refine rv_I hmz fun H3 s3 w3 => ?_
      rw [hz1]
      clear w2
      walk_at "ev"
      refine s_setC 2 rfl w3 rfl (s3.hh _ _ (s2.hh _ _ hb1 nb) nb) nb (by show 2 < 4; decide) ?_
      walk_at "ev"
      refine rv_bagI 2 rfl hk rfl ?_
      walk_at "ev"
      refine rv_I ⟨hmz, by omega⟩ fun H4 s4 w4 hb4 => ?_
      have st := bagSt_write (c := bc) (ns := ns) (i := i1) hGa s1 ((s2.trans s3).trans s4) hi1 (fdiv_nn (n := (many : Int)) hg1 (by omega)) hm1' hm1''
      exact ⟨_, rfl, fin z _ hz2 st⟩
    · clear wk
      walk_at "ev"
      refine s_setC 3 rfl w2 rfl (s2.hh _ _ hb1 nb) nb (by show 3 < 4; decide) ?_
      walk_at "ev"
      refine rv_bagI 3 rfl hk rfl ?_
      walk_at "ev"
      refine rv_I ⟨by decide, by decide, by have : m1 < 2305843009213693951 := hm1''; omega⟩ ?_
      walk_at "ev"
      refine rv_I (.inr ⟨by decide, by decide⟩) ?_
      walk_at "ev"
      refine rv_bagI 3 rfl hk rfl ?_
      walk_at "ev"
      refine rv_I (.inr ⟨by decide, by decide⟩) (rv_I0 ?_)
      walk_at "ev"
      refine rv_I0 ?_
      walk_at "ev"
      refine rv_int1 ?_
      walk_at "ev"
      refine rv_I (by decide) fun H3 s3 w3 hb3 => ?_
      have hq1 := Int.fmod_nonneg_of_pos (m1 ^ (2 : Int).toNat * 13 + m1 * 39373 + 90001) (b := bigM) (by decide)
      have hq2 := Int.fmod_lt_of_pos (m1 ^ (2 : Int).toNat * 13 + m1 * 39373 + 90001) (b := bigM) (by decide)
      have st := bagSt_write (c := bc) (ns := ns) (i := i1) (m := (m1 ^ (2 : Int).toNat * 13 + m1 * 39373 + 90001).fmod bigM) hGa s1 (s2.trans s3) hi1 hg1 hq1 hq2
      generalize hH4 : upd H3 bg (.lst [V.ref bc, V.int (i1 : Int), V.int g1, V.int ((m1 ^ (2 : Int).toNat * 13 + m1 * 39373 + 90001).fmod bigM)]) = H4 at st
      have hbb := st
      obtain ⟨i2, g2, m2, h1, h2, h3, h4, h5, h6⟩ := hbb
      have wk2 : Wd none (upd G bg (.lst [.ref bc, .int (i2 : Int), .int g2, .int m2])) H4 := .none (bag_same h6.gh h5)
      have hk2 : upd G bg (.lst [.ref bc, .int (i2 : Int), .int g2, .int m2]) bg = some (.lst [.ref bc, .int (i2 : Int), .int g2, .int m2]) := upd_same
      obtain ⟨z, hz1, hz2⟩ := mod_nat (x := m2.fdiv 1048573) hm1
      clear w2 w3
      have goal : tRet (tOp (rI (fun _ j => j ≠ 0) fun i j => .int (i.fmod j)) (tCB (fun xs H Q => (∃ i, xs = [.int i] ∧ Q (.int i) H) ∨ ∃ k, xs = [.bl k] ∧ Q (.int (if k then 1 else 0)) H) (tCons (tOp (rI CDivN fun i j => .int (i.fdiv j)) (tOp (rIxL K) (tVar 0) (tC (.int 3))) (tC (.int 1048573))) tNil)) (tVar 1)) { nx := fun _ H' => Q .non H', rt := Q } [some (.ref bg), some (.int (many : Int)), z0, none] H4 := by
        refine s_ret wk2 ?_
        walk_at "ev"
        refine rv_bagI 3 rfl hk2 rfl ?_
        walk_at "ev"
        refine rv_I ⟨by decide, by decide⟩ ?_
        walk_at "ev"
        refine rv_int1 ?_
        walk_at "ev"
        refine rv_I hmz fun H5 s5 w5 => ?_
        rw [hz1]
        exact fin z _ hz2 ⟨i2, g2, m2, h1, h2, h3, h4, s5.hh _ _ h5 nb, h6.trans (s5.back hGa).up⟩
      subst hH4
      exact goal
end
end FD
namespace FD
open PySem PyProof.Rows L2
section
variable {P : Program} {w : World} {K : PySem.W.Frag} {mg : Str → Option Value} {base : Heap}
local macro_rules | `(tactic| walk_at "ev") => `(tactic| repeat (first | with_reducible refine s_seq ?_ | with_reducible refine s_skip ?_ | with_reducible refine s_gn ?_ | with_reducible refine ev_op ?_ | with_reducible refine ev_un ?_ | ((with_reducible refine' ev_var ?hv ?_); (case hv => rfl)) | with_reducible refine ev_c ?_ | with_reducible refine ev_cb ?_ | with_reducible refine ea_cons ?_ | with_reducible refine ea_nil ?_ | with_reducible refine et_test ?_ | with_reducible refine et_B ?_ | with_reducible refine s_ret (by assumption) ?_ | with_reducible refine s_asg (by assumption) ?_))
/-- draw(bag, n) -/
theorem ev_draw {a c : Addr} {σ : L2.St} {G : Hp} {Q : V → Hp → Prop} {E : XK} {ta : TA} (h : Ev (some (a, c)) ta σ G fun vs G1 => ∃ many : Nat, vs = [.ref a, .int (many : Int)] ∧ 1 ≤ many ∧ many ≤ 1000 ∧ ∀ (z : Nat) G', z < many → Same G1 G' → Q (.int (z : Int)) G') : Ev (some (a, c)) (tCall (SpB 1 pDraw) [] E ta) σ G Q :=
  ev_callB (Ev.mono h fun vs G1 _ ⟨many, ev, h1, h2, q⟩ => ⟨_, ev, rfl, many, rfl, h1, h2, q⟩)
def pOf (K : PySem.W.Frag) : List V → Hp → (V → Hp → Prop) → Prop := fun vs G P => ∃ (v : V) (ds : List PyData), vs = [v] ∧ Items K G v ds ∧ 1 ≤ ds.length ∧ ds.length ≤ 1000 ∧ ∀ d v' G', d ∈ ds → Same G G' → Dp K G' v' d → P v' G'
theorem d__law_of (T : Mo K mg) : Def P w K mg base CX0 2 "_law_of" ["_law_bag_here", "_law_row_here"] (SpB 1 (pOf K)) := by
  obtain ⟨fd, F⟩ := T.f__law_of
  refine ⟨_, fd, F.ok sc__law_of spB_len (fun cdv A outer s H vs Q E hr h => ?_), T.g__law_of, F.kp, F.bindsN fun _ _ _ _ _ _ us hl => match us, hl with | [_, _], _ => rfl⟩
  have hu := hu_of hr
  obtain ⟨_, bg, bc, G, P, vs, rfl, wd, hp, kq⟩ := h
  refine ⟨_, PSs.nox (pss_one (ps_ret (pe_ix ix_seq (pv 1) (pe_d (d__law_draw T) (hr.mono (by decide)) (by rfl) pass0 (pa_cons (pv 0) (pa_cons (pe_callB (call_len_seq.or call_len_str) (by rfl) T.n_len (by decide +kernel) (pa_cons (pv 1) pa_nil)) pa_nil))) (fun _ _ => rfl)))), ?_⟩
  obtain ⟨v, ds, rfl, hv, h1, h2, k⟩ := hp
  walk_at "ev"
  refine ev_draw ?_
  walk_at "ev"
  refine rv_lenB hv (by omega) (ea_nil ⟨_, rfl, h1, h2, fun z G1 hz e1 => ?_⟩)
  have hd : ds[z]? = some ds[z] := List.getElem?_eq_getElem hz
  exact rv_ixB (items_mono e1 hv) (by omega) hd fun u hu H3 s3 w3 => kq _ _ _ s3 w3 (k _ _ _ (List.getElem_mem hz) s3.gg hu)
theorem ev_of {a c : Addr} {σ : L2.St} {G : Hp} {Q : V → Hp → Prop} {E : XK} {ta : TA} (h : Ev (some (a, c)) ta σ G fun vs G1 => ∃ v ds, vs = [.ref a, v] ∧ Items K G1 v ds ∧ 1 ≤ ds.length ∧ ds.length ≤ 1000 ∧ ∀ d v' G', d ∈ ds → Same G1 G' → Dp K G' v' d → Q v' G') : Ev (some (a, c)) (tCall (SpB 1 (pOf K)) [] E ta) σ G Q :=
  ev_callB (Ev.mono h fun vs G1 _ ⟨v, ds, ev, h1, h2, h3, q⟩ => ⟨_, ev, rfl, v, ds, rfl, h1, h2, h3, q⟩)
theorem ins_perm {α : Type} (l : List α) (k : Nat) (x : α) : (l.take k ++ [x] ++ l.drop k).Perm (x :: l) := by
  rw [List.append_assoc]
  have h := List.perm_middle (l₁ := l.take k) (l₂ := l.drop k) (a := x)
  rw [List.take_append_drop] at h
  exact h
theorem dpa_drop {G : Hp} : ∀ {vs : List V} {ds : List PyData} (i : Nat), DpAll K G vs ds → DpAll K G (vs.drop i) (ds.drop i)
  | _, _, 0, h => h
  | _, _, i + 1, .nil => .nil
  | _, _, i + 1, .cons a t => dpa_drop i t
def pMixed (K : PySem.W.Frag) : List V → Hp → (V → Hp → Prop) → Prop := fun vs G P => ∃ (v : V) (ds : List PyData), vs = [v] ∧ Items K G v ds ∧ ds.length ≤ 900 ∧ ∀ ds' v' G', ds'.Perm ds → Same G G' → Dp K G' v' (.list ds') → P v' G'
theorem d__law_mixed (T : Mo K mg) : Def P w K mg base CX0 2 "_law_mixed" ["_law_bag_here", "_law_row_here"] (SpB 1 (pMixed K)) := by
  obtain ⟨fd, F⟩ := T.f__law_mixed
  refine ⟨_, fd, F.ok sc__law_mixed spB_len (fun cdv A outer s H vs Q E hr h => ?_), T.g__law_mixed, F.kp, F.bindsN fun _ _ _ _ _ _ us hl => match us, hl with | [_, _], _ => rfl⟩
  have hu := hu_of hr
  obtain ⟨_, bg, bc, G, P, vs, rfl, wd, hp, kq⟩ := h
  refine ⟨_, PSs.nox (pss_cons (ps_set (i := 2) sc__law_mixed.nd rfl (Or.inl rfl) (pe_lst pa_nil))
    (pss_cons (ps_for PassesOwn.never rfl (pi_seqB (pv 1)) (pg_name (i := 3) sc__law_mixed.nd rfl (Or.inl rfl))
      (pss_one (ps_expr (pe_bm PySem.F.plainAttrs_list PySem.F.slot_list_insert PySem.F.type_list_insert mt_insert (pv 2) (pa_cons (pe_d (d__law_draw T) (hr.mono (by decide)) (by rfl) pass0 (pa_cons (pv 0) (pa_cons (pe_op op_add (pe_callB call_len_seq (by rfl) T.n_len (by decide +kernel) (pa_cons (pv 2) pa_nil)) pe_int) pa_nil))) (pa_cons (pv 3) pa_nil))))))
    (pss_one (ps_ret (pv 2))))), ?_⟩
  obtain ⟨v, ds, rfl, hv, h1, k⟩ := hp
  with_reducible refine s_seq ?_
  refine s_newL fun f hf => ?_
  have s1 := (Stp.refl (B := Bg (some (bg, bc))) wd.same).newP (o := .lst []) hf
  have w1 := wd.newP (o := .lst []) hf
  have hf1 : upd H f (.lst []) f = some (.lst []) := upd_same
  have hGf : G f = none := wd.same.free hf
  have nbf : ¬ Bg (some (bg, bc)) f := wd.off hf
  generalize upd H f (.lst []) = H1 at s1 hf1 w1
  walk_at "ev"
  refine s_forB (K := K) w1 (ev_var rfl ⟨ds, hv, fun i σ G2 H2 => G = G2 ∧ Stp (Bg (some (bg, bc))) G H G H2 ∧ Wd (some (bg, bc)) G H2 ∧ ∃ acc ds' z, σ = [some (.ref bg), some v, some (.ref f), z] ∧ H2 f = some (.lst acc) ∧ DpAll K G acc ds' ∧ ds'.Perm (ds.take i), ⟨fun i σ G2 H2 h => ⟨by rw [← h.1]; exact Same.refl _, by rw [← h.1]; exact h.2.2.1⟩, ?_⟩, fun H2 s2 w2 => ⟨rfl, s1.trans s2, w2, [], [], _, rfl, s2.hh _ _ hf1 nbf, .nil, List.Perm.nil⟩, ?_⟩)
  · rintro σ G2 H2 ⟨rfl, s2, w2, acc, ds', z, rfl, hf2, hacc, hp⟩
    rw [List.take_length] at hp
    have w3 := w2.know hf2 hGf nbf
    have s3 := s2.know hf hf2 hGf
    refine s_ret w3 (ev_var rfl fun H3 s4 w4 => kq _ _ _ (s3.trans s4) w4 (k ds' _ _ hp (s3.trans s4).gg ?_))
    exact dp_newL hacc hGf
  · rintro i x d σ G2 H2 hd hx ⟨rfl, s2, w2, acc, ds', z, rfl, hf2, hacc, hp⟩
    have hil := (List.getElem?_eq_some_iff.mp hd).1
    have hal : acc.length ≤ 900 := by
      rw [dpa_len hacc, hp.length_eq, List.length_take]
      omega
    clear w1 wd
    refine s_gn ?_
    dsimp only
    refine s_ins (a := f) (xs := acc) w2 rfl hf2 nbf hGf (by omega) ?_
    refine ea_cons (ev_draw ?_)
    walk_at "ev"
    refine Rv.here (fun H e Q q => ⟨f, acc, rfl, .inl (SqL.of (e _ _ upd_same)), q⟩) ?_
    walk_at "ev"
    refine rv_I0 (ea_nil ⟨acc.length + 1, by rw [Int.natCast_succ], by omega, by omega, fun y G3 hy e3 => ?_⟩)
    refine ea_cons (ev_var rfl (ea_nil ⟨y, x, rfl, by omega, fun H3 s3 hf3 w3 => ?_⟩))
    have s4 := (s2.trans (s3.back hGf)).mut (o := .lst (acc.take y ++ [x] ++ acc.drop y)) hf hGf
    refine ⟨G, rfl, s4, w3.mut hGf nbf, _, ds'.take y ++ [d] ++ ds'.drop y, _, rfl, upd_same, dpa_app (dpa_snoc (dpa_take y hacc) hx) (dpa_drop y hacc), ?_⟩
    refine (ins_perm ds' y d).trans ?_
    rw [List.take_succ, hd]
    exact (List.Perm.cons d hp).trans (List.perm_append_singleton d _).symm
theorem ev_mixed {a c : Addr} {σ : L2.St} {G : Hp} {Q : V → Hp → Prop} {E : XK} {ta : TA} (h : Ev (some (a, c)) ta σ G fun vs G1 => ∃ v ds, vs = [.ref a, v] ∧ Items K G1 v ds ∧ ds.length ≤ 900 ∧ ∀ ds' v' G', ds'.Perm ds → Same G1 G' → Dp K G' v' (.list ds') → Q v' G') : Ev (some (a, c)) (tCall (SpB 1 (pMixed K)) [] E ta) σ G Q :=
  ev_callB (Ev.mono h fun vs G1 _ ⟨v, ds, ev, h1, h2, q⟩ => ⟨_, ev, rfl, v, ds, rfl, h1, h2, q⟩)
end
end FD
namespace FD
open PySem PyProof.Rows L2
section
variable {P : Program} {w : World} {K : PySem.W.Frag} {mg : Str → Option Value} {base : Heap}
local macro_rules | `(tactic| walk_at "ev") => `(tactic| repeat (first | with_reducible refine s_seq ?_ | with_reducible refine s_skip ?_ | with_reducible refine s_gn ?_ | with_reducible refine ev_op ?_ | with_reducible refine ev_un ?_ | ((with_reducible refine' ev_var ?hv ?_); (case hv => rfl)) | with_reducible refine ev_c ?_ | with_reducible refine ev_cb ?_ | with_reducible refine ea_cons ?_ | with_reducible refine ea_nil ?_ | with_reducible refine et_test ?_ | with_reducible refine et_B ?_ | with_reducible refine s_ret (by assumption) ?_ | with_reducible refine s_asg (by assumption) ?_))
section
variable {b : Option (Addr × Addr)} {σ : L2.St} {G H : Hp} {D : Ends} {ta : TA} {Q : V → Hp → Prop}
theorem s_par {i j : Nat} (w : Wd b G H) (h : Ev b ta σ G fun vs G1 => ∃ u v, vs = [u, v] ∧ ∀ H1, Stp (Bg b) G H G1 H1 → Wd b G1 H1 → D.nx ((σ.set i (some u)).set j (some v)) H1) : tPar i j ta D σ H :=
  h H w _ fun vs G1 H1 e1 w1 ⟨u, v, ev, q⟩ => ⟨u, v, ev, q H1 e1 w1⟩
theorem s_par3 {i j l : Nat} (w : Wd b G H) (h : Ev b ta σ G fun vs G1 => ∃ u v x, vs = [u, v, x] ∧ ∀ H1, Stp (Bg b) G H G1 H1 → Wd b G1 H1 → D.nx (((σ.set i (some u)).set j (some v)).set l (some x)) H1) : tPar3 i j l ta D σ H :=
  h H w _ fun vs G1 H1 e1 w1 ⟨u, v, x, ev, q⟩ => ⟨u, v, x, ev, q H1 e1 w1⟩
theorem rv_adds {x y : Str} (h : x.length + y.length ≤ 1000000) (p : Q (.str (x ++ y)) G) : Rv b ((fun x y H Q => ∃ i j, x = .str i ∧ y = .str j ∧ i.length + j.length ≤ sizeLine ∧ Q (.str (i ++ j)) H : R2) (.str x) (.str y)) G Q :=
  Rv.here (fun H _ Q q => ⟨x, y, rfl, rfl, sz_of h, q⟩) p
theorem rv_cutS {z : Str} {lo hi : Option Int} (h : z.length ≤ 1000000) (p : Q (.str (cutS z lo hi)) G) : Rv b (rSlS (.str z) lo hi) G Q := Rv.here (fun H _ Q q => ⟨z, rfl, sz_of h, q⟩) p
end
theorem cutS_to {z : Str} {n : Nat} : (cutS z none (some (n : Int))).cps.toList = z.cps.toList.take n := by
  unfold cutS
  rw [HT.sIx_none, HT.sIx_nat, List.drop_zero, Nat.sub_zero]
  show (z.cps.toList.take (min n z.length)).toArray.toList = _
  rw [List.toList_toArray]
  have e : z.length = z.cps.toList.length := (Array.length_toList).symm
  rw [e]
  by_cases h : n ≤ z.cps.toList.length
  · rw [Nat.min_eq_left h]
  · rw [Nat.min_eq_right (by omega), List.take_of_length_le (Nat.le_refl _), List.take_of_length_le (by omega)]
theorem cutS_from {z : Str} {n : Nat} (h : n ≤ z.length) : (cutS z (some (n : Int)) none).cps.toList = z.cps.toList.drop n := by
  unfold cutS
  rw [HT.sIx_none, HT.sIx_nat, Nat.min_eq_left h]
  show ((z.cps.toList.drop n).take (z.length - n)).toArray.toList = _
  rw [List.toList_toArray]
  have e : z.length = z.cps.toList.length := (Array.length_toList).symm
  rw [List.take_of_length_le (by rw [List.length_drop, ← e]; exact Nat.le_refl _)]
theorem app_cps (a c : Str) : (a ++ c).cps.toList = a.cps.toList ++ c.cps.toList := by
  show (a.cps ++ c.cps).toList = _
  rw [Array.toList_append]
theorem len_cps (a : Str) : a.length = a.cps.toList.length := (Array.length_toList).symm
theorem str_ext {a c : Str} (h : a.cps.toList = c.cps.toList) : a = c := by
  cases a
  cases c
  exact congrArg Str.mk (Array.toList_inj.mp h)
theorem join_cps : ∀ (cs : List Nat), (Txt.join Str.empty (cs.map fun c => (⟨#[c]⟩ : Str))).cps.toList = cs := by
  intro cs
  unfold Txt.join
  rw [StrLaws.glued_eq_join]
  induction cs with
  | nil => rfl
  | cons c cs ih =>
    cases cs with
    | nil => rfl
    | cons c2 cs =>
      show (((⟨#[c]⟩ : Str) ++ Str.empty) ++ Str.join Str.empty ((c2 :: cs).map fun c => (⟨#[c]⟩ : Str))).cps.toList = _
      rw [app_cps, app_cps, ih]
      rfl
/-- a word of the law's: the stem's first n letters, x put in at the gap -/
def wordL (st : List Nat) (gap n x : Nat) : List Nat := (st.take n).take (min gap (st.take n).length) ++ [x] ++ (st.take n).drop (min gap (st.take n).length)
theorem wordL_len (st : List Nat) (gap n x : Nat) : (wordL st gap n x).length = (st.take n).length + 1 := by
  unfold wordL
  rw [List.length_append, List.length_append, List.length_take, List.length_drop]
  simp only [List.length_cons, List.length_nil]
  omega
theorem wordL_inj {st : List Nat} {gap n n' x x' : Nat} (h : wordL st gap n x = wordL st gap n' x') : x = x' := by
  have hl := congrArg List.length h
  rw [wordL_len, wordL_len] at hl
  have ep : st.take n = st.take n' := by
    have h1 : st.take n = st.take (st.take n).length := by rw [List.length_take]; by_cases q : n ≤ st.length
                                                           · rw [Nat.min_eq_left q]
                                                           · rw [Nat.min_eq_right (by omega), List.take_of_length_le (by omega), List.take_of_length_le (Nat.le_refl _)]
    have h2 : st.take n' = st.take (st.take n').length := by rw [List.length_take]; by_cases q : n' ≤ st.length
                                                             · rw [Nat.min_eq_left q]
                                                             · rw [Nat.min_eq_right (by omega), List.take_of_length_le (by omega), List.take_of_length_le (Nat.le_refl _)]
    rw [h1, h2]
    congr 1
    omega
  unfold wordL at h
  rw [ep] at h
  rw [List.append_assoc, List.append_assoc] at h
  have h3 := List.append_cancel_left h
  exact (List.cons.inj h3).1
theorem wordL_ok {st : List Nat} {gap n x : Nat} (hst : st.length ≤ 5) (hs : ∀ c ∈ st, 97 ≤ c ∧ c ≤ 122) (hx : 97 ≤ x ∧ x ≤ 122) {s : Str} (h : s.cps.toList = wordL st gap n x) : NameOk s := by
  have hl : s.length = (st.take n).length + 1 := by rw [len_cps, h, wordL_len]
  have ht : (st.take n).length ≤ 5 := by rw [List.length_take]; omega
  refine ⟨by omega, by omega, fun c hc => ?_⟩
  rw [h] at hc
  unfold wordL at hc
  rcases List.mem_append.mp hc with hc | hc
  · rcases List.mem_append.mp hc with hc | hc
    · exact hs c (List.mem_of_mem_take (List.mem_of_mem_take hc))
    · rw [List.mem_singleton.mp hc]; exact hx
  · exact hs c (List.mem_of_mem_take (List.mem_of_mem_drop hc))
def hops : List Nat := [1, 3, 5, 7, 9, 11, 15, 17, 19, 21, 23, 25]
theorem hop_inj0 : (hops.all fun h => (List.range 26).all fun f => (List.range 10).all fun i => (List.range 10).all fun j => i == j || !((f + h * i) % 26 == (f + h * j) % 26)) = true := by decide +kernel
theorem hop_inj {h f i j : Nat} (hh : h ∈ hops) (hf : f < 26) (hi : i < 10) (hj : j < 10) (e : (f + h * i) % 26 = (f + h * j) % 26) : i = j := by
  have q := List.all_eq_true.mp (List.all_eq_true.mp (List.all_eq_true.mp (List.all_eq_true.mp hop_inj0 h hh) f (List.mem_range.mpr hf)) i (List.mem_range.mpr hi)) j (List.mem_range.mpr hj)
  rw [Bool.or_eq_true, beq_iff_eq] at q
  rcases q with q | q
  · exact q
  · rw [e] at q
    simp at q
def tens : List Str := ["self", "a", "even", "aa", "reason", "row", "sure", "b", "none", "order"]
theorem tens_ok : NamesOk tens := by
  have h1 : (tens.all fun s => decide (1 ≤ s.length) && decide (s.length ≤ 6) && s.cps.toList.all fun c => decide (97 ≤ c) && decide (c ≤ 122)) = true := by decide +kernel
  refine ⟨fun x hx => ?_, by decide +kernel, by decide⟩
  have h2 := List.all_eq_true.mp h1 x hx
  rw [Bool.and_eq_true, Bool.and_eq_true] at h2
  refine ⟨of_decide_eq_true h2.1.1, of_decide_eq_true h2.1.2, fun c hc => ?_⟩
  have h3 := List.all_eq_true.mp h2.2 c hc
  rw [Bool.and_eq_true] at h3
  exact ⟨of_decide_eq_true h3.1, of_decide_eq_true h3.2⟩
def pWords (K : PySem.W.Frag) : List V → Hp → (V → Hp → Prop) → Prop := fun vs G P => ∃ many : Nat, vs = [.int (many : Int)] ∧ many ≤ 10 ∧ ∀ l v' G', NamesOk l → l.length = many → Same G G' → Dp K G' v' (.list (l.map .str)) → P v' G'
end
end FD
namespace FD
open PySem PyProof.Rows L2
section
variable {P : Program} {w : World} {K : PySem.W.Frag} {mg : Str → Option Value} {base : Heap}
local macro_rules | `(tactic| walk_at "ev") => `(tactic| repeat (first | with_reducible refine s_seq ?_ | with_reducible refine s_skip ?_ | with_reducible refine s_gn ?_ | with_reducible refine ev_op ?_ | with_reducible refine ev_un ?_ | ((with_reducible refine' ev_var ?hv ?_); (case hv => rfl)) | with_reducible refine ev_c ?_ | with_reducible refine ev_cb ?_ | with_reducible refine ea_cons ?_ | with_reducible refine ea_nil ?_ | with_reducible refine et_test ?_ | with_reducible refine et_B ?_ | with_reducible refine s_ret (by assumption) ?_ | with_reducible refine s_asg (by assumption) ?_))
theorem items_text {G : Hp} {z : Str} : Items K G (.str z) (z.cps.toList.map fun c => .str ⟨#[c]⟩) := .inr ⟨z, rfl, rfl⟩
section
variable {b : Option (Addr × Addr)} {σ : L2.St} {G H : Hp} {Q : V → Hp → Prop}
theorem ev_m1 {r : V → List V → Hp → VK → Prop} {to te : TE} (h : Ev b to σ G fun x G1 => (∃ a, x = .str a) ∧ Ev b te σ G1 fun y G2 => Rv b (r x [y]) G2 Q) : Ev b (tM1 r to te) σ G Q :=
  fun H w R k => h H w _ fun x G1 H1 e1 w1 ⟨ex, q⟩ => ⟨ex, q H1 w1 _ fun y G2 H2 e2 w2 q2 => q2 H2 w2 R fun z G3 H3 e3 w3 p => k z G3 H3 ((e1.trans e2).trans e3) w3 p⟩
theorem rv_join {ys : List Str} {v : V} {x : Str} (hv : Dp K G v (.list (ys.map .str))) (hl : (ys.map (·.length)).sum + ys.length * x.length ≤ 16777216) (p : Q (.str (Txt.join x ys)) G) : Rv b ((fun x xs H Q => ∃ a p, ∃ ys : List Str, x = .str a ∧ xs = [.ref p] ∧ (SqL K H p (ys.map V.str) ∨ SqT K H p (ys.map V.str)) ∧ (ys.map (·.length)).sum + ys.length * a.length ≤ 16777216 ∧ Q (.str (Txt.join a ys)) H : V → List V → Hp → VK → Prop) (.str x) [v]) G Q := by
  obtain ⟨p0, rfl, hp⟩ := dp_strsL hv
  exact Rv.here (fun H e Q q => ⟨x, p0, ys, rfl, rfl, .inl (sql_mono e hp), hl, q⟩) p
end
theorem dp_sets {G : Hp} : ∀ {vs : List V} {n : Nat} {c : PyData → Prop}, (∀ v ∈ vs, ∃ d, c d ∧ Dp K G v d) → vs.length = n → ∃ ds : List PyData, DpAll K G vs ds ∧ ds.length = n ∧ ∀ d ∈ ds, c d
  | [], _, _, _, hl => ⟨[], .nil, hl, fun _ h => nomatch h⟩
  | v :: vs, _, c, h, hl => by
    obtain ⟨d, hc, hd⟩ := h v (.head _)
    obtain ⟨ds, h1, h2, h3⟩ := dp_sets (vs := vs) (fun v hv => h v (.tail _ hv)) rfl
    exact ⟨d :: ds, .cons hd h1, by rw [List.length_cons, h2, ← hl]; rfl, fun x hx => by
      rcases List.mem_cons.mp hx with q | q
      · rw [q]; exact hc
      · exact h3 x q⟩
theorem perm_map_inv {α β : Type} {f : α → β} {xs ys : List β} (h : xs.Perm ys) : ∀ l : List α, ys = l.map f → ∃ l' : List α, l'.Perm l ∧ xs = l'.map f := by
  induction h with
  | nil => intro l e; cases l with
    | nil => exact ⟨[], .nil, rfl⟩
    | cons x l => cases e
  | cons x _ ih => intro l e; cases l with
    | nil => cases e
    | cons y l =>
      obtain ⟨e1, e2⟩ := List.cons.inj e
      obtain ⟨l', h1, h2⟩ := ih l e2
      exact ⟨y :: l', .cons y h1, by rw [e1, h2]; rfl⟩
  | swap x y t => intro l e; cases l with
    | nil => cases e
    | cons a l => cases l with
      | nil => cases e
      | cons c l =>
        obtain ⟨e1, e2⟩ := List.cons.inj e
        obtain ⟨e3, e4⟩ := List.cons.inj e2
        exact ⟨c :: a :: l, .swap a c l, by rw [e1, e3, e4]; rfl⟩
  | trans _ _ ih1 ih2 =>
    intro l e
    obtain ⟨l1, h1, e1⟩ := ih2 l e
    obtain ⟨l2, h2, e2⟩ := ih1 l1 e1
    exact ⟨l2, h2.trans h1, e2⟩
theorem d__law_words (T : Mo K mg) : Def P w K mg base CX0 3 "_law_words" ["_law_bag_here", "_law_many"] (SpB 1 (pWords K)) := by
  obtain ⟨fd, F⟩ := T.f__law_words
  refine ⟨_, fd, F.ok sc__law_words spB_len (fun cdv A outer s H vs Q E hr h => ?_), T.g__law_words, F.kp, F.bindsN fun _ _ _ _ _ _ us hl => match us, hl with | [_, _], _ => rfl⟩
  have hu := hu_of hr
  obtain ⟨_, bg, bc, G, P, vs, rfl, wd, hp, kq⟩ := h
  refine ⟨_, PSs.nox (pss_cons (ps_if (pt_cmpR op_eq (pe_d (d__law_draw T) (hr.mono (by decide)) (by rfl) pass0 (pa_cons (pv 0) (pa_cons pe_int pa_nil))) pe_int (by rfl)) (pss_one (ps_ret (pe_slice sl_list (pe_d (d__law_mixed T) (hr.mono (by decide)) (by rfl) pass0 (pa_cons (pv 0) (pa_cons (pe_lst (pa_cons pe_str (pa_cons pe_str (pa_cons pe_str (pa_cons pe_str (pa_cons pe_str (pa_cons pe_str (pa_cons pe_str (pa_cons pe_str (pa_cons pe_str (pa_cons pe_str pa_nil))))))))))) pa_nil))) po_none (po_some (pv 1))))) pss_nil)
    (pss_cons (ps_set (i := 2) sc__law_words.nd rfl (Or.inr rfl) pe_str)
    (pss_cons (ps_set (i := 3) sc__law_words.nd rfl (Or.inl rfl) (pe_join pe_str (pe_lc (own := [("_law_k", 4)]) (g := gName 4) (tt := tYes) rfl sc__law_words.nd (pi_range1 (by rfl) T.n_range (pa_cons pe_int pa_nil)) (blkOk_by (N := ["_law_bag_here", "_law_many", "_law_letters", "_law_stem", "_law_k", "_law_first", "_law_hop", "_law_gap", "_law_size", "_law_alike_here", "_law_got_here", "_law_part", "_law_cut"]) (sc := defScope s__law_words) (by decide +kernel)) (fun _ _ _ _ _ => (pg_name (i := 4) sc__law_words.nd rfl (Or.inl rfl))) (fun _ _ _ _ _ => pts_nil) (fun _ _ _ _ _ => (blk_te (pe_d (d__law_of T) (hr.mono (by decide)) (by rfl) pass0 (pa_cons (pv 0) (pa_cons (pv 2) pa_nil))) (by (try dsimp only [Cx.blk, Cx.nox, cxOf]); (try rfl)))))))
    (pss_cons (ps_par3 (i := 5) (j := 6) (l := 7) rfl sc__law_words.nd rfl rfl rfl (by decide) (by decide) (by decide) rfl rfl rfl (pa_cons (pe_d (d__law_draw T) (hr.mono (by decide)) (by rfl) pass0 (pa_cons (pv 0) (pa_cons pe_int pa_nil))) (pa_cons (pe_d (d__law_of T) (hr.mono (by decide)) (by rfl) pass0 (pa_cons (pv 0) (pa_cons (pe_lst (pa_cons pe_int (pa_cons pe_int (pa_cons pe_int (pa_cons pe_int (pa_cons pe_int (pa_cons pe_int (pa_cons pe_int (pa_cons pe_int (pa_cons pe_int (pa_cons pe_int (pa_cons pe_int (pa_cons pe_int pa_nil))))))))))))) pa_nil))) (pa_cons (pe_d (d__law_draw T) (hr.mono (by decide)) (by rfl) pass0 (pa_cons (pv 0) (pa_cons pe_int pa_nil))) pa_nil))) (by rfl))
    (pss_cons (ps_par3 (i := 8) (j := 9) (l := 10) rfl sc__law_words.nd rfl rfl rfl (by decide) (by decide) (by decide) rfl rfl rfl (pa_cons (pe_d (d__law_draw T) (hr.mono (by decide)) (by rfl) pass0 (pa_cons (pv 0) (pa_cons pe_int pa_nil))) (pa_cons (pe_cmpR op_eq (pe_d (d__law_draw T) (hr.mono (by decide)) (by rfl) pass0 (pa_cons (pv 0) (pa_cons pe_int pa_nil))) pe_int (by rfl)) (pa_cons (pe_lst pa_nil) pa_nil))) (by rfl))
    (pss_cons (ps_for PassesOwn.never rfl (pi_range1 (by rfl) T.n_range (pa_cons (pv 1) pa_nil)) (pg_name (i := 4) sc__law_words.nd rfl (Or.inl rfl))
      (pss_cons (ps_set (i := 11) sc__law_words.nd rfl (Or.inl rfl) (pe_slice sl_str (pv 3) po_none (po_some (pe_ifExp (pt_val (pv 9)) (pv 8) (pe_d (d__law_draw T) (hr.mono (by decide)) (by rfl) pass0 (pa_cons (pv 0) (pa_cons pe_int pa_nil)))))))
    (pss_cons (ps_set (i := 12) sc__law_words.nd rfl (Or.inl rfl) (pe_callB (call_min2 rfl) (by rfl) T.n_min (by decide +kernel) (pa_cons (pv 7) (pa_cons (pe_callB call_len_str (by rfl) T.n_len (by decide +kernel) (pa_cons (pv 11) pa_nil)) pa_nil))))
    (pss_one (ps_expr (pe_bm PySem.F.plainAttrs_list PySem.F.slot_list_append PySem.F.type_list_append mt_append (pv 10) (pa_cons (pe_op op_add_str (pe_op op_add_str (pe_slice sl_str (pv 11) po_none (po_some (pv 12))) (pe_ix ix_str (pv 2) (pe_op op_modN (pe_callTy call_int1 (by rfl) T.n_int (by decide +kernel) (pa_cons (pe_op op_add (pv 5) (pe_op op_mul (pv 6) (pv 4))) pa_nil)) pe_int) (fun _ _ => rfl))) (pe_slice sl_str (pv 11) (po_some (pv 12)) po_none)) pa_nil)))))))
    (pss_one (ps_ret (pv 10))))))))), ?_⟩
  obtain ⟨many, rfl, hm, k⟩ := hp
  with_reducible refine s_seq ?_
  refine s_if wd (et_test ?_)
  walk_at "ev"
  refine ev_draw ?_
  walk_at "ev"
  refine ⟨6, rfl, by decide, by decide, fun z0 G1 hz0 e1 => ?_⟩
  walk_at "ev"
  refine rv_eqB rfl ⟨_, rfl, fun H1 s1 w1 => ⟨fun _ => ?_, fun _ => ?_⟩⟩
  · clear wd
    walk_at "ev"
    refine ev_sl (ev_mixed ?_)
    walk_at "ev"
    refine ev_lst ?_
    walk_at "ev"
    refine ⟨by show 10 ≤ 1000000; decide, fun a ha => ?_⟩
    walk_at "ev"
    have hd := dp_newL (K := K) (a := a) (dpa_strs tens) ha
    refine ⟨_, _, rfl, .inl (.inl hd), by show 10 ≤ 900; decide, fun ds' v' G2 hp e2 hv => eo_none (eo_some (ev_var rfl ⟨_, rfl, ?_⟩))⟩
    obtain ⟨l', hpl, rfl⟩ := perm_map_inv hp tens rfl
    refine rv_cutL hv (by rw [List.length_map, hpl.length_eq]; exact hm) fun u G3 e3 hu H3 s3 w3 => ?_
    rw [← List.map_take] at hu
    have hok : NamesOk (l'.take many) := ⟨fun x hx => tens_ok.1 x (hpl.mem_iff.mp (List.mem_of_mem_take hx)), (List.Sublist.nodup (List.take_sublist _ _) (hpl.nodup_iff.mpr tens_ok.2.1)), by rw [List.length_take]; omega⟩
    refine kq _ _ _ (s1.trans s3) w3 (k _ _ _ hok (by rw [List.length_take, hpl.length_eq]; exact Nat.min_eq_left hm) (s1.trans s3).gg hu)
  · clear wd
    walk_at "ev"
    intro H2 s2 w2
    clear w1
    dsimp only
    with_reducible refine s_seq ?_
    with_reducible refine s_asg w2 ?_
    refine ev_m1 (ev_c ⟨⟨_, rfl⟩, ?_⟩)
    refine lcR (ea_cons (ev_c (ea_nil ⟨5, rfl, by decide, (fun _ => by rfl), fun i acc _ => ∃ cs : List Nat, cs.length = i ∧ (∀ c ∈ cs, 97 ≤ c ∧ c ≤ 122) ∧ acc = cs.map fun c => V.str ⟨#[c]⟩, ⟨[], rfl, fun _ h => (nomatch h), rfl⟩, ?_, ?_⟩)))
    · rintro i G2 acc hi e2 ⟨cs, hl, hc, rfl⟩ -
      refine et_yes ⟨fun _ => ?_, fun h => nomatch h⟩
      walk_at "ev"
      refine ev_of ?_
      walk_at "ev"
      refine ⟨_, _, rfl, items_text, ?_, ?_, fun d v' G3 hd e3 hv => ?_⟩
      · rw [List.length_map, ← len_cps, letters_len]; decide
      · rw [List.length_map, ← len_cps, letters_len]; decide
      · obtain ⟨c, hc2, rfl⟩ := List.mem_map.mp hd
        cases dp_str hv
        obtain ⟨j, hj, ej⟩ := List.getElem_of_mem hc2
        rw [← len_cps, letters_len] at hj
        have e5 := letters_at hj
        rw [List.getElem?_eq_getElem (by rw [← len_cps, letters_len]; exact hj), ej] at e5
        cases e5
        refine ⟨cs ++ [97 + j], by rw [List.length_append, hl]; rfl, fun x hx => ?_, by rw [List.map_append]; rfl⟩
        rcases List.mem_append.mp hx with hx | hx
        · exact hc x hx
        · rw [List.mem_singleton.mp hx]; omega
    · rintro acc G2 e2 ⟨st, hst, hstc, rfl⟩ - q hq
      have hstem : Dp K (upd G2 q (.lst (st.map fun c => V.str ⟨#[c]⟩))) (.ref q) (.list ((st.map fun c => (⟨#[c]⟩ : Str)).map .str)) := by
        have h := dp_newL (K := K) (dpa_strs (st.map fun c => (⟨#[c]⟩ : Str))) hq
        rw [List.map_map] at h
        exact h
      refine rv_join hstem ?_ fun H3 s3 w3 => ?_
      · have e0 : Str.empty.length = 0 := rfl
        rw [List.map_map, List.length_map, hst]
        have e1 : (st.map ((fun x : Str => x.length) ∘ fun c => (⟨#[c]⟩ : Str))).sum ≤ 5 := by
          have : ∀ l : List Nat, (l.map ((fun x : Str => x.length) ∘ fun c => (⟨#[c]⟩ : Str))).sum = l.length := fun l => by
            induction l with
            | nil => rfl
            | cons c l ih => rw [List.map_cons, List.sum_cons, ih, List.length_cons]; exact Nat.add_comm 1 _
          rw [this, hst]
          decide
        show _ + 5 * 0 ≤ _
        omega
      have hsl : (Txt.join (Str.ofString "") (st.map fun c => (⟨#[c]⟩ : Str))).cps.toList = st := by
        rw [show Str.ofString "" = Str.empty by decide +kernel]
        exact join_cps st
      generalize Txt.join (Str.ofString "") (st.map fun c => (⟨#[c]⟩ : Str)) = stem at hsl
      have s03 := (s1.trans s2).trans s3
      generalize upd G2 q (.lst (st.map fun c => V.str ⟨#[c]⟩)) = G3 at hstem s3 w3 s03
      clear s1 s2 s3 w2
      dsimp only
      with_reducible refine s_seq ?_
      refine s_par3 w3 (ea_cons (ev_draw ?_))
      walk_at "ev"
      refine ⟨26, rfl, by decide, by decide, fun first G4 hfirst e4 => ea_cons (ev_of ?_)⟩
      walk_at "ev"
      refine ev_lst ?_
      walk_at "ev"
      refine ⟨by show 12 ≤ 1000000; decide, fun hp hhp => ea_nil ⟨_, _, rfl, .inl (.inl (dp_newL (dpa_ints [1, 3, 5, 7, 9, 11, 15, 17, 19, 21, 23, 25]) hhp)), by decide, by decide, fun d v' G5 hd e5 hv => ea_cons (ev_draw ?_)⟩⟩
      obtain ⟨hop, hhop, rfl⟩ : ∃ hop : Nat, hop ∈ hops ∧ d = .int (hop : Int) := by
        obtain ⟨z, hz, rfl⟩ := List.mem_map.mp hd
        have h0 : ∀ z ∈ ([1, 3, 5, 7, 9, 11, 15, 17, 19, 21, 23, 25] : List Int), z.toNat ∈ hops ∧ ((z.toNat : Nat) : Int) = z := by decide +kernel
        exact ⟨z.toNat, (h0 z hz).1, by rw [(h0 z hz).2]⟩
      cases dp_int hv
      walk_at "ev"
      refine ⟨6, rfl, by decide, by decide, fun gap G6 hgap e6 => ea_nil ⟨_, _, _, rfl, fun H4 s4 w4 => ?_⟩⟩
      replace s04 := s03.trans s4
      clear s03 s4 w3
      dsimp only
      with_reducible refine s_seq ?_
      refine s_par3 w4 (ea_cons (ev_draw ?_))
      walk_at "ev"
      refine ⟨6, rfl, by decide, by decide, fun size G7 hsize e7 => ?_⟩
      walk_at "ev"
      refine ev_draw ?_
      walk_at "ev"
      refine ⟨2, rfl, by decide, by decide, fun zz G8 hzz e8 => ?_⟩
      walk_at "ev"
      refine rv_eqB rfl (ea_cons (ev_lst (ea_nil ⟨by decide, fun f hf => ea_nil ⟨_, _, _, rfl, fun H5 s5 w5 => ?_⟩⟩)))
      generalize decide (V.int (zz : Int) = V.int 0) = al
      have hf5 : H5 f = some (.lst []) := w5.same _ _ upd_same
      have hf6 : G6 f = none := by
        cases z : G6 f with
        | none => rfl
        | some o => rw [e8 _ _ (e7 _ _ z)] at hf; cases hf
      have hf4 : H4 f = none := s5.newAt hf6 upd_same
      replace s5 := s5.forget
      replace w5 := w4.pull s5.gh w5
      dsimp only
      have nbf : ¬ Bg (some (bg, bc)) f := w4.off hf4
      clear hf e7 e8 w4
      with_reducible refine s_seq ?_
      refine s_forR1 w5 (ea_cons (ev_var rfl (ea_nil ⟨many, rfl, by omega, fun i σ G2 H2 => G6 = G2 ∧ Stp (Bg (some (bg, bc))) G6 H4 G6 H2 ∧ Wd (some (bg, bc)) G6 H2 ∧ ∃ z4 z11 z12, ∃ ws : List Str, σ = [some (.ref bg), some (.int (many : Nat)), some (.str "abcdefghijklmnopqrstuvwxyz"), some (.str stem), z4, some (.int (first : Nat)), some (.int (hop : Nat)), some (.int (gap : Nat)), some (.int (size : Nat)), some (.bl al), some (.ref f), z11, z12] ∧ H2 f = some (.lst (ws.map .str)) ∧ ws.length = i ∧ ∀ (j : Nat) s, ws[j]? = some s → ∃ n, s.cps.toList = wordL st gap n (97 + (first + hop * j) % 26), ⟨?_, ?_⟩, ?_, ?_⟩)))
      · exact fun i σ G2 H2 h => ⟨by rw [← h.1]; exact Same.refl _, by rw [← h.1]; exact h.2.2.1⟩
      · rintro σ G2 H2 ⟨rfl, s6, w6, z4, z11, z12, ws, rfl, hf7, hl, hws⟩
        have hwl : ws.length ≤ 10 := by omega
        have w7 := w6.know hf7 hf6 nbf
        have s7 := (s6.know hf4 hf7 hf6)
        clear w5 w6
        walk_at "ev"
        intro H8 s8 w8
        have hw1 : ∀ j, j < ws.length → ∃ n, ws[j]!.cps.toList = wordL st gap n (97 + (first + hop * j) % 26) := fun j hj => hws j _ (by rw [List.getElem?_eq_getElem hj, getElem!_pos ws j hj])
        have hok : NamesOk ws := by
          refine ⟨fun x hx => ?_, ?_, by omega⟩
          · obtain ⟨j, hj, ej⟩ := List.getElem_of_mem hx
            obtain ⟨n, hn⟩ := hws j x (by rw [List.getElem?_eq_getElem hj, ej])
            have hlt : (first + hop * j) % 26 < 26 := Nat.mod_lt _ (by decide)
            exact wordL_ok (by omega) hstc ⟨by omega, by omega⟩ hn
          · refine List.pairwise_iff_getElem.mpr fun i j hi2 hj hij e => ?_
            obtain ⟨n1, h1⟩ := hws i _ (List.getElem?_eq_getElem hi2)
            obtain ⟨n2, h2⟩ := hws j _ (List.getElem?_eq_getElem hj)
            rw [e] at h1
            have h3 := wordL_inj (h1.symm.trans h2)
            have h4 := hop_inj hhop hfirst (by omega) (by omega) (Nat.add_left_cancel h3)
            omega
        have sall := (s04.trans (s7.trans s8))
        exact kq _ _ _ sall w8 (k ws _ _ hok hl sall.gg (dp_newL (dpa_strs ws) hf6))
      · intro H6 s6 w6
        exact ⟨rfl, s5.trans s6, w6, _, _, _, [], rfl, s6.hh _ _ hf5 nbf, rfl, fun j s h => by cases h⟩
      · rintro i σ G2 H2 hi ⟨rfl, s6, w6, z4, z11, z12, ws, rfl, hf7, hl, hws⟩
        clear w5
        walk_at "ev"
        refine ev_sl (ev_var rfl (eo_none (eo_some (Ev.mono (P := fun v G1 => ∃ n : Nat, v = .int (n : Int) ∧ Same G6 G1) ?_ fun v G8 _ ⟨n, ev, e8⟩ => ⟨n, ev, rv_cutS ?_ fun H8 s8 w8 => ?_⟩))))
        · refine ev_if (et_B ?_)
          walk_at "ev"
          refine ⟨_, rfl, fun _ => ?_, fun _ => ?_⟩
          · walk_at "ev"
            exact ⟨_, rfl, Same.refl _⟩
          · refine ev_draw ?_
            walk_at "ev"
            exact ⟨6, rfl, by decide, by decide, fun z G9 _ e9 => ⟨z, rfl, e9⟩⟩
        · have h5 : stem.length = 5 := by rw [len_cps, hsl, hst]
          omega
        have hpart : (cutS stem none (some (n : Int))).cps.toList = st.take n := by rw [cutS_to, hsl]
        have hpl : (cutS stem none (some (n : Int))).length ≤ 5 := by
          rw [len_cps, hpart, List.length_take]
          omega
        generalize cutS stem none (some (n : Int)) = part at hpart hpl
        have hf8 : H8 f = some (.lst (ws.map .str)) := s8.hh _ _ hf7 nbf
        replace s8 := (s6.trans s8).forget
        replace w8 := w6.pull s8.gh w8
        clear w6
        walk_at "ev"
        refine rv_lenS (by omega) (ea_nil (Rv.here (fun H _ Q q => ⟨_, _, rfl, q⟩) fun H9 s9 w9 => ?_))
        have ecut : (if (part.length : Int) < (gap : Int) then (part.length : Int) else (gap : Int)) = ((min gap (st.take n).length : Nat) : Int) := by
          rw [← hpart, ← len_cps]
          by_cases h : part.length < gap
          · rw [if_pos (by omega), Nat.min_eq_right (by omega)]
          · rw [if_neg (by omega), Nat.min_eq_left (by omega)]
        have hcl : min gap (st.take n).length ≤ part.length := by
          rw [len_cps, hpart]
          exact Nat.min_le_right _ _
        rw [ecut]
        have hf9 := s9.hh _ _ hf8 nbf
        replace s9 := s8.trans s9
        clear s8 w8 hf8 hf7
        dsimp only
        generalize hcc : min gap (st.take n).length = cut at hcl
        refine s_app w9 rfl hf9 nbf (by rw [List.length_map]; omega) ?_
        walk_at "ev"
        refine ev_sl (ev_var rfl (eo_none (eo_some (ev_var rfl ⟨_, rfl, rv_cutS (by omega) ?_⟩))))
        have h1 : (cutS part none (some (cut : Int))).cps.toList = (st.take n).take cut := by rw [cutS_to, hpart]
        walk_at "ev"
        have hh25 : hop ≤ 25 := by
          have h0 : ∀ z ∈ hops, z ≤ 25 := by decide
          exact h0 hop hhop
        refine rv_I (Or.inl ⟨by omega, by omega⟩) ?_
        walk_at "ev"
        refine rv_I0 (ea_nil (rv_int1 ?_))
        walk_at "ev"
        have emod : ((first : Int) + (hop : Int) * (i : Int)).fmod 26 = (((first + hop * i) % 26 : Nat) : Int) := by
          rw [Int.fmod_eq_emod_of_nonneg _ (by decide)]
          omega
        refine rv_I (by decide) ?_
        rw [emod]
        have hlt : (first + hop * i) % 26 < 26 := Nat.mod_lt _ (by decide)
        refine rv_idxS (by rw [letters_len]; decide) (letters_at hlt) ?_
        have hl1 : (cutS part none (some (cut : Int))).length ≤ 5 := by
          rw [len_cps, h1, List.length_take, List.length_take]
          omega
        refine rv_adds (by show _ + 1 ≤ _; omega) ?_
        refine ev_sl (ev_var rfl (eo_some (ev_var rfl ⟨_, rfl, eo_none (rv_cutS (by omega) ?_)⟩)))
        have h2 : (cutS part (some (cut : Int)) none).cps.toList = (st.take n).drop cut := by rw [cutS_from hcl, hpart]
        have hl2 : (cutS part (some (cut : Int)) none).length ≤ 5 := by
          rw [len_cps, h2, List.length_drop, List.length_take]
          omega
        have hl3 : (cutS part none (some (cut : Int)) ++ (⟨#[97 + (first + hop * i) % 26]⟩ : Str)).length ≤ 6 := by
          rw [len_cps, app_cps, List.length_append, ← len_cps]
          show _ + 1 ≤ 6
          omega
        refine rv_adds (by omega) fun H10 s10 w10 hf10 => ?_
        have h3 : (cutS part none (some (cut : Int)) ++ (⟨#[97 + (first + hop * i) % 26]⟩ : Str) ++ cutS part (some (cut : Int)) none).cps.toList = wordL st gap n (97 + (first + hop * i) % 26) := by
          rw [app_cps, app_cps, h1, h2]
          show _ = (st.take n).take (min gap (st.take n).length) ++ [_] ++ (st.take n).drop (min gap (st.take n).length)
          rw [hcc]
        generalize cutS part none (some (cut : Int)) ++ (⟨#[97 + (first + hop * i) % 26]⟩ : Str) ++ cutS part (some (cut : Int)) none = nw at h3
        refine ⟨G6, rfl, (s9.trans s10).mut hf4 hf6, w10.mut hf6 nbf, _, _, _, ws ++ [nw], rfl, by rw [List.map_append]; exact upd_same, by rw [List.length_append, hl]; rfl, fun j s hj => ?_⟩
        by_cases hji : j < ws.length
        · rw [List.getElem?_append_left hji] at hj
          exact hws j s hj
        · rw [List.getElem?_append_right (by omega)] at hj
          cases hz : j - ws.length with
          | zero =>
            rw [hz] at hj
            cases hj
            have : j = i := by omega
            rw [this]
            exact ⟨n, h3⟩
          | succ z => rw [hz] at hj; cases hj
end
end FD
namespace FD
open PySem PyProof.Rows L2
section
variable {P : Program} {w : World} {K : PySem.W.Frag} {mg : Str → Option Value} {base : Heap}
local macro_rules | `(tactic| walk_at "ev") => `(tactic| repeat (first | with_reducible refine s_seq ?_ | with_reducible refine s_skip ?_ | with_reducible refine s_gn ?_ | with_reducible refine ev_op ?_ | with_reducible refine ev_un ?_ | ((with_reducible refine' ev_var ?hv ?_); (case hv => rfl)) | with_reducible refine ev_c ?_ | with_reducible refine ev_cb ?_ | with_reducible refine ea_cons ?_ | with_reducible refine ea_nil ?_ | with_reducible refine et_test ?_ | with_reducible refine et_B ?_ | with_reducible refine s_ret (by assumption) ?_ | with_reducible refine s_asg (by assumption) ?_))
theorem ev_words {a c : Addr} {σ : L2.St} {G : Hp} {Q : V → Hp → Prop} {E : XK} {ta : TA} (h : Ev (some (a, c)) ta σ G fun vs G1 => ∃ many : Nat, vs = [.ref a, .int (many : Int)] ∧ many ≤ 10 ∧ ∀ l v' G', NamesOk l → l.length = many → Same G1 G' → Dp K G' v' (.list (l.map .str)) → Q v' G') : Ev (some (a, c)) (tCall (SpB 1 (pWords K)) [] E ta) σ G Q :=
  ev_callB (Ev.mono h fun vs G1 _ ⟨many, ev, h1, q⟩ => ⟨_, ev, rfl, many, rfl, h1, q⟩)
def pSome (K : PySem.W.Frag) : List V → Hp → (V → Hp → Prop) → Prop := fun vs G P => ∃ many : Nat, vs = [.int (many : Int)] ∧ many ≤ 10 ∧ ∀ l v' G', NamesOk l → sortedS l = true → l.length = many → Same G G' → RsAt G' v' l → P v' G'
theorem names_sorted {l R : List Str} (h : NamesOk l) (s : SortedOf R l) : NamesOk R ∧ sortedS R = true ∧ R.length = l.length :=
  ⟨⟨fun x hx => h.1 x (s.1.mem_iff.mp hx), s.1.nodup_iff.mpr h.2.1, by rw [s.1.length_eq]; exact h.2.2⟩, s.2, s.1.length_eq⟩
theorem d__law_some (T : Mo K mg) : Def P w K mg base CX0 4 "_law_some" ["_law_bag_here", "_law_many"] (SpB 1 (pSome K)) := by
  obtain ⟨fd, F⟩ := T.f__law_some
  refine ⟨_, fd, F.ok sc__law_some spB_len (fun cdv A outer s H vs Q E hr h => ?_), T.g__law_some, F.kp, F.bindsN fun _ _ _ _ _ _ us hl => match us, hl with | [_, _], _ => rfl⟩
  have hu := hu_of hr
  obtain ⟨_, bg, bc, G, P, vs, rfl, wd, hp, kq⟩ := h
  refine ⟨_, PSs.nox (pss_one (ps_ret (pe_callTy call_tupF (by rfl) T.n_tuple (by decide +kernel) (pa_cons (pe_callB cr_sortedS (by rfl) T.n_sorted (by decide +kernel) (pa_cons (pe_d (d__law_words T) (hr.mono (by decide)) (by rfl) pass0 (pa_cons (pv 0) (pa_cons (pv 1) pa_nil))) pa_nil)) pa_nil)))), ?_⟩
  obtain ⟨many, rfl, hm, k⟩ := hp
  walk_at "ev"
  refine ev_words ?_
  walk_at "ev"
  refine ⟨many, rfl, hm, fun l v' G1 hok hl e1 hv => ?_⟩
  walk_at "ev"
  refine rv_sorted hv (by omega) fun R G2 u hR e2 hu => ?_
  walk_at "ev"
  obtain ⟨h1, h2, h3⟩ := names_sorted hok hR
  exact rv_tupF hu fun u2 G3 e3 hu3 H4 s4 w4 => kq _ _ _ s4 w4 (k R _ _ h1 h2 (h3.trans hl) s4.gg hu3)
theorem ev_some {a c : Addr} {σ : L2.St} {G : Hp} {Q : V → Hp → Prop} {E : XK} {ta : TA} (h : Ev (some (a, c)) ta σ G fun vs G1 => ∃ many : Nat, vs = [.ref a, .int (many : Int)] ∧ many ≤ 10 ∧ ∀ l v' G', NamesOk l → sortedS l = true → l.length = many → Same G1 G' → RsAt G' v' l → Q v' G') : Ev (some (a, c)) (tCall (SpB 1 (pSome K)) [] E ta) σ G Q :=
  ev_callB (Ev.mono h fun vs G1 _ ⟨many, ev, h1, q⟩ => ⟨_, ev, rfl, many, rfl, h1, q⟩)
def pFew : List V → Hp → (V → Hp → Prop) → Prop := fun vs G P => vs = [] ∧ ∀ (z : Nat) G', 1 ≤ z → z ≤ 6 → Same G G' → P (.int (z : Int)) G'
theorem d__law_few (T : Mo K mg) : Def P w K mg base CX0 3 "_law_few" ["_law_bag_here"] (SpB 0 pFew) := by
  obtain ⟨fd, F⟩ := T.f__law_few
  refine ⟨_, fd, F.ok sc__law_few spB_len (fun cdv A outer s H vs Q E hr h => ?_), T.g__law_few, F.kp, F.bindsN fun _ _ _ _ _ _ us hl => match us, hl with | [_], _ => rfl⟩
  have hu := hu_of hr
  obtain ⟨_, bg, bc, G, P, vs, rfl, wd, hp, kq⟩ := h
  refine ⟨_, PSs.nox (pss_one (ps_ret (pe_d (d__law_of T) (hr.mono (by decide)) (by rfl) pass0 (pa_cons (pv 0) (pa_cons (pe_lst (pa_cons pe_int (pa_cons pe_int (pa_cons pe_int (pa_cons pe_int (pa_cons pe_int (pa_cons pe_int (pa_cons pe_int (pa_cons pe_int (pa_cons pe_int (pa_cons pe_int (pa_cons pe_int (pa_cons pe_int (pa_cons pe_int (pa_cons pe_int (pa_cons pe_int (pa_cons pe_int (pa_cons pe_int (pa_cons pe_int (pa_cons pe_int (pa_cons pe_int pa_nil))))))))))))))))))))) pa_nil))))), ?_⟩
  obtain ⟨rfl, k⟩ := hp
  walk_at "ev"
  refine ev_of ?_
  walk_at "ev"
  refine ev_lst ?_
  walk_at "ev"
  refine ⟨by show 20 ≤ 1000000; decide, fun hp hhp => ?_⟩
  walk_at "ev"
  refine ⟨_, _, rfl, .inl (.inl (dp_newL (dpa_ints [3, 2, 4, 3, 5, 3, 4, 2, 4, 1, 3, 4, 5, 3, 2, 4, 3, 4, 5, 6]) hhp)), by decide, by decide, fun d v' G2 hd e2 hv H3 s3 w3 => ?_⟩
  obtain ⟨z, hz, rfl⟩ := List.mem_map.mp hd
  have h0 : ∀ z ∈ ([3, 2, 4, 3, 5, 3, 4, 2, 4, 1, 3, 4, 5, 3, 2, 4, 3, 4, 5, 6] : List Int), 1 ≤ z.toNat ∧ z.toNat ≤ 6 ∧ ((z.toNat : Nat) : Int) = z := by decide +kernel
  obtain ⟨h1, h2, h3⟩ := h0 z hz
  cases dp_int hv
  rw [← h3]
  exact kq _ _ _ s3 w3 (k _ _ h1 h2 s3.gg)
theorem ev_few {a c : Addr} {σ : L2.St} {G : Hp} {Q : V → Hp → Prop} {E : XK} {ta : TA} (h : Ev (some (a, c)) ta σ G fun vs G1 => vs = [.ref a] ∧ ∀ (z : Nat) G', 1 ≤ z → z ≤ 6 → Same G1 G' → Q (.int (z : Int)) G') : Ev (some (a, c)) (tCall (SpB 0 pFew) [] E ta) σ G Q :=
  ev_callB (Ev.mono h fun vs G1 _ ⟨ev, q⟩ => ⟨_, ev, rfl, rfl, q⟩)
def nineL : List Str := ["a", "b", "c", "d", "e", "f", "g", "h", "i"]
theorem nine_ok : NamesOk nineL := by
  have h1 : (nineL.all fun s => decide (1 ≤ s.length) && decide (s.length ≤ 6) && s.cps.toList.all fun c => decide (97 ≤ c) && decide (c ≤ 122)) = true := by decide +kernel
  refine ⟨fun x hx => ?_, by decide +kernel, by decide⟩
  have h2 := List.all_eq_true.mp h1 x hx
  rw [Bool.and_eq_true, Bool.and_eq_true] at h2
  refine ⟨of_decide_eq_true h2.1.1, of_decide_eq_true h2.1.2, fun c hc => ?_⟩
  have h3 := List.all_eq_true.mp h2.2 c hc
  rw [Bool.and_eq_true] at h3
  exact ⟨of_decide_eq_true h3.1, of_decide_eq_true h3.2⟩
def pMarks (K : PySem.W.Frag) : List V → Hp → (V → Hp → Prop) → Prop := fun vs G P => ∃ many : Nat, vs = [.int (many : Int)] ∧ many ≤ 9 ∧ ∀ l v' G', NamesOk l → l.length = many → Same G G' → Dp K G' v' (.list (l.map .str)) → P v' G'
theorem names_perm {l R : List Str} (h : NamesOk l) (s : R.Perm l) : NamesOk R := ⟨fun x hx => h.1 x (s.mem_iff.mp hx), s.nodup_iff.mpr h.2.1, by rw [s.length_eq]; exact h.2.2⟩
theorem names_take {l : List Str} (h : NamesOk l) (n : Nat) : NamesOk (l.take n) := ⟨fun x hx => h.1 x (List.mem_of_mem_take hx), (List.take_sublist _ _).nodup h.2.1, Nat.le_trans (List.length_take_le' _ _) h.2.2⟩
theorem d__law_marks (T : Mo K mg) : Def P w K mg base CX0 4 "_law_marks" ["_law_bag_here", "_law_many"] (SpB 1 (pMarks K)) := by
  obtain ⟨fd, F⟩ := T.f__law_marks
  refine ⟨_, fd, F.ok sc__law_marks spB_len (fun cdv A outer s H vs Q E hr h => ?_), T.g__law_marks, F.kp, F.bindsN fun _ _ _ _ _ _ us hl => match us, hl with | [_, _], _ => rfl⟩
  have hu := hu_of hr
  obtain ⟨_, bg, bc, G, P, vs, rfl, wd, hp, kq⟩ := h
  refine ⟨_, PSs.nox (pss_cons (ps_if (pt_cmpR op_eq (pe_d (d__law_draw T) (hr.mono (by decide)) (by rfl) pass0 (pa_cons (pv 0) (pa_cons pe_int pa_nil))) pe_int (by rfl)) (pss_one (ps_ret (pe_d (d__law_words T) (hr.mono (by decide)) (by rfl) pass0 (pa_cons (pv 0) (pa_cons (pv 1) pa_nil))))) pss_nil)
    (pss_one (ps_ret (pe_d (d__law_mixed T) (hr.mono (by decide)) (by rfl) pass0 (pa_cons (pv 0) (pa_cons (pe_slice sl_list (pe_d (d__law_mixed T) (hr.mono (by decide)) (by rfl) pass0 (pa_cons (pv 0) (pa_cons pe_str pa_nil))) po_none (po_some (pv 1))) pa_nil)))))), ?_⟩
  obtain ⟨many, rfl, hm, k⟩ := hp
  with_reducible refine s_seq ?_
  refine s_if wd (et_test ?_)
  walk_at "ev"
  refine ev_draw ?_
  walk_at "ev"
  refine ⟨2, rfl, by decide, by decide, fun z0 G1 hz0 e1 => ?_⟩
  walk_at "ev"
  refine rv_eqB rfl ⟨_, rfl, fun H1 s1 w1 => ⟨fun _ => ?_, fun _ => ?_⟩⟩
  · clear wd
    walk_at "ev"
    refine ev_words ?_
    walk_at "ev"
    exact ⟨many, rfl, by omega, fun l v' G2 hok hl e2 hv H3 s3 w3 => kq _ _ _ (s1.trans s3) w3 (k l _ _ hok hl (s1.trans s3).gg hv)⟩
  · clear wd
    walk_at "ev"
    dsimp only
    walk_at "ev"
    refine ev_mixed ?_
    walk_at "ev"
    refine ev_sl (ev_mixed ?_)
    walk_at "ev"
    refine ⟨_, _, rfl, items_text, ?_, fun ds v' G2 hp e2 hv => eo_none (eo_some (ev_var rfl ⟨_, rfl, ?_⟩))⟩
    · rw [List.length_map]; decide +kernel
    have hp9 : ds.Perm (nineL.map .str) := hp
    obtain ⟨l, hpl, rfl⟩ := perm_map_inv hp9 _ rfl
    have hln : l.length = 9 := hpl.length_eq
    refine rv_cutL hv (by rw [List.length_map]; omega) fun u G3 e3 hu => ?_
    rw [← List.map_take] at hu
    walk_at "ev"
    refine ⟨_, _, rfl, .inl (.inl hu), by rw [List.length_map, List.length_take]; omega, fun ds' v2 G4 hp4 e4 hv4 H5 s5 w5 => ?_⟩
    obtain ⟨l2, hpl2, rfl⟩ := perm_map_inv hp4 _ rfl
    exact kq _ _ _ (s1.trans s5) w5 (k l2 _ _ (names_perm (names_take (names_perm nine_ok hpl) _) hpl2) (by rw [hpl2.length_eq, List.length_take]; omega) (s1.trans s5).gg hv4)
theorem ev_marks {a c : Addr} {σ : L2.St} {G : Hp} {Q : V → Hp → Prop} {E : XK} {ta : TA} (h : Ev (some (a, c)) ta σ G fun vs G1 => ∃ many : Nat, vs = [.ref a, .int (many : Int)] ∧ many ≤ 9 ∧ ∀ l v' G', NamesOk l → l.length = many → Same G1 G' → Dp K G' v' (.list (l.map .str)) → Q v' G') : Ev (some (a, c)) (tCall (SpB 1 (pMarks K)) [] E ta) σ G Q :=
  ev_callB (Ev.mono h fun vs G1 _ ⟨many, ev, h1, q⟩ => ⟨_, ev, rfl, many, rfl, h1, q⟩)
/-- the names that are free to give -/
def kthL (k : Nat) : List Nat := if k < 26 then [97 + k] else [97 + (k / 26 - 1), 97 + k % 26]
def kthS (k : Nat) : Str := ⟨(kthL k).toArray⟩
def pKth : List V → Hp → (V → Hp → Prop) → Prop := fun vs G P => ∃ k : Nat, vs = [.int (k : Int)] ∧ k ≤ 600 ∧ ∀ s G', s = kthS k → Same G G' → P (.str s) G'
theorem d__law_kth (T : Mo K mg) : Def P w K mg base CX0 1 "_law_kth" ["_law_k"] (SpP 1 pKth) := by
  obtain ⟨fd, F⟩ := T.f__law_kth
  refine ⟨_, fd, F.ok sc__law_kth spP_len (fun cdv A outer s H vs Q E hr h => ?_), T.g__law_kth, F.kp, F.bindsN fun _ _ _ _ _ _ us hl => match us, hl with | [_], _ => rfl⟩
  have hu := hu_of hr
  obtain ⟨_, G, P, sm, hp, kq⟩ := h
  have wd : Wd none G H := .none sm
  refine ⟨_, PSs.nox (pss_cons (ps_set (i := 1) sc__law_kth.nd rfl (Or.inl rfl) pe_str)
    (pss_one (ps_ret (pe_ifExp (pt_cmpR op_lt (pv 0) pe_int (by rfl)) (pe_ix ix_str (pv 1) (pv 0) (fun _ _ => rfl)) (pe_op op_add_str (pe_ix ix_str (pv 1) (pe_op op_sub (pe_op op_fdivN (pv 0) pe_int) pe_int) (fun _ _ => rfl)) (pe_ix ix_str (pv 1) (pe_op op_modN (pe_callTy call_int1 (by rfl) T.n_int (by decide +kernel) (pa_cons (pv 0) pa_nil)) pe_int) (fun _ _ => rfl))))))), ?_⟩
  obtain ⟨k0, rfl, hk0, k⟩ := hp
  walk_at "ev"
  intro H1 s1 w1
  clear wd
  dsimp only
  walk_at "ev"
  refine ev_if (et_test ?_)
  walk_at "ev"
  refine rv_I0 ⟨_, rfl, fun h => ?_, fun h => ?_⟩
  · have h1 : k0 < 26 := by have := of_decide_eq_true h; omega
    walk_at "ev"
    refine rv_idxS (by rw [letters_len]; decide) (letters_at h1) fun H2 s2 w2 => kq _ _ _ (s1.trans s2) (k _ _ ?_ (s1.trans s2).gg)
    refine str_ext ?_
    show _ = (kthL k0).toArray.toList
    unfold kthL
    rw [if_pos h1]
  · have h1 : ¬ k0 < 26 := by have := of_decide_eq_false h; omega
    walk_at "ev"
    refine rv_I ⟨by decide, by decide⟩ ?_
    have e1 : (k0 : Int).fdiv 26 = ((k0 / 26 : Nat) : Int) := by
      rw [Int.fdiv_eq_ediv_of_nonneg _ (by decide)]
      omega
    have e3 : (k0 : Int).fmod 26 = ((k0 % 26 : Nat) : Int) := by
      rw [Int.fmod_eq_emod_of_nonneg _ (by decide)]
      omega
    walk_at "ev"
    refine rv_I0 ?_
    have e2 : ((k0 / 26 : Nat) : Int) - 1 = ((k0 / 26 - 1 : Nat) : Int) := by omega
    rw [e1, e2]
    have h3 : k0 / 26 - 1 < 26 := by omega
    have h4 : k0 % 26 < 26 := Nat.mod_lt _ (by decide)
    refine rv_idxS (by rw [letters_len]; decide) (letters_at h3) ?_
    walk_at "ev"
    refine rv_int1 ?_
    walk_at "ev"
    refine rv_I (by decide) ?_
    rw [e3]
    refine rv_idxS (by rw [letters_len]; decide) (letters_at h4) ?_
    refine rv_adds (by show 2 ≤ 1000000; decide) fun H2 s2 w2 => kq _ _ _ (s1.trans s2) (k _ _ ?_ (s1.trans s2).gg)
    refine str_ext ?_
    show _ = (kthL k0).toArray.toList
    rw [app_cps]
    unfold kthL
    rw [if_neg h1]
    rfl
theorem ev_kth {b : Option (Addr × Addr)} {σ : L2.St} {G : Hp} {Q : V → Hp → Prop} {E : XK} {ta : TA} (h : Ev b ta σ G fun vs G1 => ∃ k : Nat, vs = [.int (k : Int)] ∧ k ≤ 600 ∧ ∀ s G', s = kthS k → Same G1 G' → Q (.str s) G') : Ev b (tCall (SpP 1 pKth) [] E ta) σ G Q :=
  ev_call (Ev.mono h fun vs G1 _ ⟨many, ev, h1, q⟩ => by rw [ev]; exact ⟨rfl, many, rfl, h1, q⟩)
theorem kthL_inj {i j : Nat} (h : kthL i = kthL j) : i = j := by
  unfold kthL at h
  by_cases hi : i < 26
  · by_cases hj : j < 26
    · rw [if_pos hi, if_pos hj] at h
      have := (List.cons.inj h).1
      omega
    · rw [if_pos hi, if_neg hj] at h
      cases (List.cons.inj h).2
  · by_cases hj : j < 26
    · rw [if_neg hi, if_pos hj] at h
      cases (List.cons.inj h).2
    · rw [if_neg hi, if_neg hj] at h
      have h1 := (List.cons.inj h).1
      have h2 := (List.cons.inj (List.cons.inj h).2).1
      omega
theorem kthS_inj {i j : Nat} (h : kthS i = kthS j) : i = j := kthL_inj (by have := congrArg (fun s : Str => s.cps.toList) h; simpa [kthS] using this)
theorem kthS_ok {k : Nat} (hk : k ≤ 600) : NameOk (kthS k) := by
  have h : (kthS k).cps.toList = kthL k := rfl
  generalize kthS k = s at h
  unfold kthL at h
  have hl := len_cps s
  by_cases hi : k < 26
  · rw [if_pos hi] at h
    rw [h] at hl
    refine ⟨by rw [hl]; show 1 ≤ 1; decide, by rw [hl]; show 1 ≤ 6; decide, fun c hc => ?_⟩
    rw [h] at hc
    cases List.mem_singleton.mp hc
    omega
  · rw [if_neg hi] at h
    rw [h] at hl
    refine ⟨by rw [hl]; show 1 ≤ 2; decide, by rw [hl]; show 2 ≤ 6; decide, fun c hc => ?_⟩
    rw [h] at hc
    rcases List.mem_cons.mp hc with rfl | hc
    · omega
    · cases List.mem_singleton.mp hc
      omega
end
end FD
namespace FD
open PySem PyProof.Rows L2
section
variable {P : Program} {w : World} {K : PySem.W.Frag} {mg : Str → Option Value} {base : Heap}
local macro_rules | `(tactic| walk_at "ev") => `(tactic| repeat (first | with_reducible refine s_seq ?_ | with_reducible refine s_skip ?_ | with_reducible refine s_gn ?_ | with_reducible refine ev_op ?_ | with_reducible refine ev_un ?_ | ((with_reducible refine' ev_var ?hv ?_); (case hv => rfl)) | with_reducible refine ev_c ?_ | with_reducible refine ev_cb ?_ | with_reducible refine ea_cons ?_ | with_reducible refine ea_nil ?_ | with_reducible refine et_test ?_ | with_reducible refine et_B ?_ | with_reducible refine s_ret (by assumption) ?_ | with_reducible refine s_asg (by assumption) ?_))
abbrev RowD := List Str × List Str
def encRow (r : RowD) : PyData := .tuple [.tuple (r.1.map .str), .tuple (r.2.map .str)]
def RowFit (R : List Str) (r : RowD) : Prop := r.1.Sublist R ∧ r.2.Sublist R ∧ ∀ x ∈ r.1, x ∉ r.2
def flipRow (r : RowD) : RowD := (r.2, r.1)
theorem rowFit_flip {R : List Str} {r : RowD} (h : RowFit R r) : RowFit R (flipRow r) := ⟨h.2.1, h.1, fun x h1 h2 => h.2.2 x h2 h1⟩
def signOf (R S : List Str) (z : Str) : List Str := ((R.zip S).filter fun p => p.2 == z).map (·.1)
theorem sign_sub {R S : List Str} (h : S.length = R.length) (z : Str) : (signOf R S z).Sublist R := by
  have h1 : ((R.zip S).filter fun p => p.2 == z).Sublist (R.zip S) := List.filter_sublist
  have h2 := h1.map (·.1)
  rwa [List.map_fst_zip (by omega)] at h2
theorem nodup_at {α : Type} {l : List α} (hn : l.Nodup) {i j : Nat} {hi : i < l.length} {hj : j < l.length} (e : l[i] = l[j]) : i = j := by
  rcases Nat.lt_trichotomy i j with h | h | h
  · exact absurd e (List.pairwise_iff_getElem.mp hn i j hi hj h)
  · exact h
  · exact absurd e.symm (List.pairwise_iff_getElem.mp hn j i hj hi h)
theorem sign_ok {R S : List Str} (hn : R.Nodup) (h : S.length = R.length) : RowFit R (signOf R S "+", signOf R S "-") := by
  refine ⟨sign_sub h _, sign_sub h _, fun x h1 h2 => ?_⟩
  obtain ⟨⟨a, s⟩, hp, rfl⟩ := List.mem_map.mp h1
  obtain ⟨⟨a2, s2⟩, hp2, e⟩ := List.mem_map.mp h2
  obtain ⟨hm, hs⟩ := List.mem_filter.mp hp
  obtain ⟨hm2, hs2⟩ := List.mem_filter.mp hp2
  obtain ⟨i, hi, ei⟩ := List.getElem_of_mem hm
  obtain ⟨j, hj, ej⟩ := List.getElem_of_mem hm2
  rw [List.getElem_zip] at ei ej
  have e1 := (Prod.mk.inj ei).1
  have e2 := (Prod.mk.inj ej).1
  have e3 : a2 = a := e
  have hij : i = j := nodup_at hn (e1.trans (e3.symm.trans e2.symm))
  subst hij
  have q1 := (Prod.mk.inj ei).2
  have q2 := (Prod.mk.inj ej).2
  rw [q1] at q2
  have w1 : s = "+" := beq_iff_eq.mp hs
  have w2 : s2 = "-" := beq_iff_eq.mp hs2
  rw [w1, w2] at q2
  exact absurd q2 (by decide)
theorem dpa_two {G : Hp} {v1 v2 : V} {d1 d2 : PyData} (h1 : Dp K G v1 d1) (h2 : Dp K G v2 d2) : DpAll K G [v1, v2] [d1, d2] := .cons h1 (.cons h2 .nil)
def pRow (K : PySem.W.Frag) : List V → Hp → (V → Hp → Prop) → Prop := fun vs G P => ∃ (v : V) (R : List Str), vs = [v] ∧ Dp K G v (.tuple (R.map .str)) ∧ NamesOk R ∧ ∀ r v' G', RowFit R r → Same G G' → Dp K G' v' (encRow r) → P v' G'
theorem d__law_row (T : Mo K mg) : Def P w K mg base CX0 3 "_law_row" ["_law_bag_here", "_law_some_here"] (SpB 1 (pRow K)) := by
  obtain ⟨fd, F⟩ := T.f__law_row
  refine ⟨_, fd, F.ok sc__law_row spB_len (fun cdv A outer s H vs Q E hr h => ?_), T.g__law_row, F.kp, F.bindsN fun _ _ _ _ _ _ us hl => match us, hl with | [_, _], _ => rfl⟩
  have hu := hu_of hr
  obtain ⟨_, bg, bc, G, P, vs, rfl, wd, hp, kq⟩ := h
  refine ⟨_, PSs.nox (pss_cons (ps_setLc (i := 2) (own := [("_law_a", 3)]) (g := gName 3) (tt := tYes) rfl sc__law_row.nd rfl rfl (sw_true rfl rfl rfl (by decide +kernel)) (pi_tup (pv 1)) (blkOk_by (N := ["_law_bag_here", "_law_some_here", "_law_signs", "_law_a", "_law_s"]) (sc := defScope s__law_row) (by decide +kernel)) (fun _ _ _ _ _ => (pg_name (i := 3) sc__law_row.nd rfl (Or.inl rfl))) (fun _ _ _ _ _ => pts_nil) (fun _ _ _ _ _ => (blk_te (pe_d (d__law_of T) (hr.mono (by decide)) (by rfl) pass0 (pa_cons (pv 0) (pa_cons pe_str pa_nil))) (by (try dsimp only [Cx.blk, Cx.nox, cxOf]); (try rfl)))))
    (pss_one (ps_ret (pe_tup (pa_cons (pe_tupleOf (by rfl) T.n_tuple (pe_lc (own := [("_law_a", 3), ("_law_s", 4)]) (g := gTup K 2 (gCons (gName 3) (gCons (gName 4) gNil))) (tt := _) rfl sc__law_row.nd (pi_zipM (by rfl) T.n_zip (pa_cons (pv 1) (pa_cons (pv 2) pa_nil))) (blkOk_by (N := ["_law_bag_here", "_law_some_here", "_law_signs", "_law_a", "_law_s"]) (sc := defScope s__law_row) (by decide +kernel)) (fun _ _ _ _ _ => (pg_tup rfl (pgs_cons (pg_name (i := 3) sc__law_row.nd rfl (Or.inl rfl)) (pgs_cons (pg_name (i := 4) sc__law_row.nd rfl (Or.inl rfl)) pgs_nil)))) (fun _ _ _ _ _ => (pts_one (blk_tt (pt_cmpR op_eq (pv 4) pe_str (by rfl)) (by (try dsimp only [Cx.blk, Cx.nox, cxOf]); (try rfl))))) (fun _ _ _ _ _ => (blk_te (pv 3) (by (try dsimp only [Cx.blk, Cx.nox, cxOf]); (try rfl)))))) (pa_cons (pe_tupleOf (by rfl) T.n_tuple (pe_lc (own := [("_law_a", 3), ("_law_s", 4)]) (g := gTup K 2 (gCons (gName 3) (gCons (gName 4) gNil))) (tt := _) rfl sc__law_row.nd (pi_zipM (by rfl) T.n_zip (pa_cons (pv 1) (pa_cons (pv 2) pa_nil))) (blkOk_by (N := ["_law_bag_here", "_law_some_here", "_law_signs", "_law_a", "_law_s"]) (sc := defScope s__law_row) (by decide +kernel)) (fun _ _ _ _ _ => (pg_tup rfl (pgs_cons (pg_name (i := 3) sc__law_row.nd rfl (Or.inl rfl)) (pgs_cons (pg_name (i := 4) sc__law_row.nd rfl (Or.inl rfl)) pgs_nil)))) (fun _ _ _ _ _ => (pts_one (blk_tt (pt_cmpR op_eq (pv 4) pe_str (by rfl)) (by (try dsimp only [Cx.blk, Cx.nox, cxOf]); (try rfl))))) (fun _ _ _ _ _ => (blk_te (pv 3) (by (try dsimp only [Cx.blk, Cx.nox, cxOf]); (try rfl)))))) pa_nil)))))), ?_⟩
  obtain ⟨v, R, rfl, hv, hR, k⟩ := hp
  walk_at "ev"
  obtain ⟨ta, hta, hq⟩ := dp_strs hv
  refine lcT (ev_var rfl ⟨ta, _, hta, hq, by rw [List.length_map]; have := hR.2.2; omega, fun i acc G2 => ∃ S : List Str, S.length = i ∧ acc = S.map .str, ⟨[], rfl, rfl⟩, ?_, ?_⟩)
  · rintro i x G2 acc hi e2 ⟨S, hS, rfl⟩ -
    refine ⟨_, fun H _ => gv_name, by rfl, et_yes ⟨fun _ => ?_, fun h => nomatch h⟩⟩
    refine ev_of ?_
    walk_at "ev"
    refine ⟨_, _, rfl, items_text, by decide +kernel, by decide +kernel, fun d v' G3 hd e3 hv3 => ?_⟩
    obtain ⟨c, hc, rfl⟩ := List.mem_map.mp hd
    cases dp_str hv3
    exact ⟨S ++ [⟨#[c]⟩], by rw [List.length_append, hS]; rfl, by rw [List.map_append]; rfl⟩
  · rintro acc G2 e2 ⟨S, hS, rfl⟩ - q hq2 H1 s1 w1
    rw [List.length_map] at hS
    have hsg := dp_newL (K := K) (dpa_strs S) hq2
    have hv1 := Dpm hv (s1.gg)
    generalize upd G2 q (.lst (S.map .str)) = G1 at s1 w1 hsg hv1
    clear wd
    dsimp only
    walk_at "ev"
    have hS100 : R.length ≤ 100000 := by have := hR.2.2; omega
    refine ev_tup (ea_cons (ev_tupOf (lcZM (K := K) PyData.str PyData.str R S (fun p => p.2 == "+") (fun p => .str p.1) hS100 (fun _ _ => by rfl) (ea_cons (ev_var rfl (ea_cons (ev_var rfl (ea_nil ⟨_, _, rfl, hv1, hsg, fun x y G3 d e _ e3 hx hy => ?_, fun pv G3 e3 hpv => ?_⟩))))))))
    · cases dp_str hx
      cases dp_str hy
      refine et_test ?_
      walk_at "ev"
      refine rv_eqB rfl ⟨_, rfl, ?_, fun _ => ev_var rfl (.str _)⟩
      by_cases h : e = "+"
      · rw [h]; rfl
      · rw [beq_false_of_ne h]
        exact decide_eq_false fun q => h (V.str.inj q)
    refine ⟨_, .inl hpv, fun p2 G4 e4 hp2 => ea_cons (ev_tupOf (lcZM (K := K) PyData.str PyData.str R S (fun p => p.2 == "-") (fun p => .str p.1) hS100 (fun _ _ => by rfl) (ea_cons (ev_var rfl (ea_cons (ev_var rfl (ea_nil ⟨_, _, rfl, Dpm hv1 (e3.trans e4), Dpm hsg (e3.trans e4), fun x y G5 d e _ e5 hx hy => ?_, fun cv G5 e5 hcv => ?_⟩)))))))⟩
    · cases dp_str hx
      cases dp_str hy
      refine et_test ?_
      walk_at "ev"
      refine rv_eqB rfl ⟨_, rfl, ?_, fun _ => ev_var rfl (.str _)⟩
      by_cases h : e = "-"
      · rw [h]; rfl
      · rw [beq_false_of_ne h]
        exact decide_eq_false fun q => h (V.str.inj q)
    refine ⟨_, .inl hcv, fun c2 G6 e6 hc2 => ea_nil ⟨by show 2 ≤ 1000000; decide, fun t ht H7 s7 w7 => ?_⟩⟩
    refine kq _ _ _ (s1.trans s7) w7 (k (signOf R S "+", signOf R S "-") _ _ (sign_ok hR.2.1 hS) (s1.trans s7).gg ?_)
    have hp3 := Dpm hp2 (e5.trans e6)
    have e1 : ∀ z : Str, ((signOf R S z).map PyData.str) = ((R.zip S).filter fun p => p.2 == z).map fun p => .str p.1 := fun z => by unfold signOf; rw [List.map_map]; rfl
    unfold encRow
    rw [e1, e1]
    exact dp_newT (dpa_two hp3 hc2) ht
theorem ev_row {a c : Addr} {σ : L2.St} {G : Hp} {Q : V → Hp → Prop} {E : XK} {ta : TA} (h : Ev (some (a, c)) ta σ G fun vs G1 => ∃ (v : V) (R : List Str), vs = [.ref a, v] ∧ Dp K G1 v (.tuple (R.map .str)) ∧ NamesOk R ∧ ∀ r v' G', RowFit R r → Same G1 G' → Dp K G' v' (encRow r) → Q v' G') : Ev (some (a, c)) (tCall (SpB 1 (pRow K)) [] E ta) σ G Q :=
  ev_callB (Ev.mono h fun vs G1 _ ⟨v, R, ev, h1, h2, q⟩ => ⟨_, ev, rfl, v, R, rfl, h1, h2, q⟩)
end
end FD
namespace FD
open PySem PyProof.Rows L2
section
variable {P : Program} {w : World} {K : PySem.W.Frag} {mg : Str → Option Value} {base : Heap}
local macro_rules | `(tactic| walk_at "ev") => `(tactic| repeat (first | with_reducible refine s_seq ?_ | with_reducible refine s_skip ?_ | with_reducible refine s_gn ?_ | with_reducible refine ev_op ?_ | with_reducible refine ev_un ?_ | ((with_reducible refine' ev_var ?hv ?_); (case hv => rfl)) | with_reducible refine ev_c ?_ | with_reducible refine ev_cb ?_ | with_reducible refine ea_cons ?_ | with_reducible refine ea_nil ?_ | with_reducible refine et_test ?_ | with_reducible refine et_B ?_ | with_reducible refine s_ret (by assumption) ?_ | with_reducible refine s_asg (by assumption) ?_))
def bearsOf : List Str → RowD → Bool
  | [], _ => true
  | a :: p, r => if a ∈ r.1 ∨ a ∈ r.2 then decide (a ∈ r.1) else bearsOf p r
def pBears (K : PySem.W.Frag) : List V → Hp → (V → Hp → Prop) → Prop := fun vs G P => ∃ (v rv : V) (p : List Str) (r : RowD), vs = [v, rv] ∧ DpE K G v (p.map .str) ∧ Dp K G rv (encRow r) ∧ ∀ G', Same G G' → P (.bl (bearsOf p r)) G'
theorem d__law_bears (T : Mo K mg) : Def P w K mg base CX0 1 "_law_bears" ["_law_p", "_law_row_here"] (SpP 2 (pBears K)) := by
  obtain ⟨fd, F⟩ := T.f__law_bears
  refine ⟨_, fd, F.ok sc__law_bears spP_len (fun cdv A outer s H vs Q E hr h => ?_), T.g__law_bears, F.kp, F.bindsN fun _ _ _ _ _ _ us hl => match us, hl with | [_, _], _ => rfl⟩
  have hu := hu_of hr
  obtain ⟨_, G, P, sm, hp, kq⟩ := h
  have wd : Wd none G H := .none sm
  refine ⟨_, PSs.nox (pss_cons (ps_for PassesOwn.never rfl (pi_seqB (pv 0)) (pg_name (i := 2) sc__law_bears.nd rfl (Or.inl rfl))
      (pss_one (ps_if (PW.pt (pw_or (pt_cmpR (op_inW hr.units) (pv 2) (pe_ix ix_tup (pv 1) pe_int (fun _ _ => rfl)) (by rfl)) (pw_or1 (pt_cmpR (op_inW hr.units) (pv 2) (pe_ix ix_tup (pv 1) pe_int (fun _ _ => rfl)) (by rfl))))) (pss_one (ps_ret (pe_cmpR (op_inW hr.units) (pv 2) (pe_ix ix_tup (pv 1) pe_int (fun _ _ => rfl)) (by rfl)))) pss_nil)))
    (pss_one (ps_ret pe_bl))), ?_⟩
  obtain ⟨v, rv, p, r, rfl, hv, hr', k⟩ := hp
  with_reducible refine s_seq ?_
  refine s_forB (K := K) wd (ev_var rfl ⟨_, .inl hv, fun i σ G2 H2 => G = G2 ∧ Stp (Bg none) G H G H2 ∧ Wd none G H2 ∧ bearsOf p r = bearsOf (p.drop i) r ∧ ∃ z, σ = [some v, some rv, z], ⟨fun i σ G2 H2 h => ⟨by rw [← h.1]; exact Same.refl _, by rw [← h.1]; exact h.2.2.1⟩, ?_⟩, fun H2 s2 w2 => ⟨rfl, s2, w2, rfl, _, rfl⟩, ?_⟩)
  · rintro σ G2 H2 ⟨rfl, s2, w2, hb, z, rfl⟩
    rw [List.length_map, List.drop_length] at hb
    clear wd
    dsimp only
    walk_at "ev"
    intro H3 s3 w3
    refine kq _ _ _ (s2.trans s3) ?_
    have e0 : bearsOf p r = true := hb
    rw [← e0]
    exact k _ (s2.trans s3).gg
  · rintro i x d σ G2 H2 hd hx ⟨rfl, s2, w2, hb, z, rfl⟩
    clear wd
    obtain ⟨a, ha, rfl⟩ : ∃ a, p[i]? = some a ∧ d = .str a := by
      rw [List.getElem?_map] at hd
      cases h : p[i]? with
      | none => rw [h] at hd; cases hd
      | some a => rw [h] at hd; cases hd; exact ⟨a, rfl, rfl⟩
    cases dp_str hx
    have hil := (List.getElem?_eq_some_iff.mp ha).1
    have hdr : p.drop i = a :: p.drop (i + 1) := by
      rw [List.drop_eq_getElem_cons hil, (List.getElem?_eq_some_iff.mp ha).2]
    rw [hdr] at hb
    refine s_gn ?_
    dsimp only
    refine s_if w2 (et_or (et_test ?_))
    walk_at "ev"
    have ret : ∀ H3, Stp (Bg none) G H G H3 → Wd none G H3 → (a ∈ r.1 ∨ a ∈ r.2) → Q (.bl (decide (a ∈ r.1))) H3 := fun H3 s3 w3 h => by
      refine kq _ _ _ s3 ?_
      have e0 : bearsOf p r = decide (a ∈ r.1) := by
        rw [hb]
        show (if a ∈ r.1 ∨ a ∈ r.2 then decide (a ∈ r.1) else _) = _
        rw [if_pos h]
      rw [← e0]
      exact k _ s3.gg
    refine rv_ixDT (i := 0) hr' rfl fun v1 h1 => rv_inT a r.1 (.str a) (.inr h1) (by decide) ⟨_, rfl, fun h => ?_, fun h => ?_⟩
    · have hin := of_decide_eq_true h
      intro H3 s3 w3
      refine ⟨fun _ => ?_, fun z => nomatch z⟩
      clear w2
      walk_at "ev"
      refine rv_ixDT (i := 0) hr' rfl fun v1 h1 => rv_inT a r.1 (.str a) (.inr h1) (by decide) fun H4 s4 w4 => ret _ ((s2.trans s3).trans s4) w4 (.inl hin)
    · have hni := of_decide_eq_false h
      refine et_test ?_
      walk_at "ev"
      refine rv_ixDT (i := 1) hr' rfl fun v2 h2 => rv_inT a r.2 (.str a) (.inr h2) (by decide) ⟨_, rfl, fun H3 s3 w3 => ⟨fun h => ?_, fun h => ?_⟩⟩
      · have hin := of_decide_eq_true h
        clear w2
        walk_at "ev"
        refine rv_ixDT (i := 0) hr' rfl fun v1 h1 => rv_inT a r.1 (.str a) (.inr h1) (by decide) fun H4 s4 w4 => ret _ ((s2.trans s3).trans s4) w4 (.inr hin)
      · have hn2 := of_decide_eq_false h
        refine s_skip ?_
        refine ⟨G, rfl, s2.trans s3, w3, ?_, _, rfl⟩
        rw [hb]
        show (if a ∈ r.1 ∨ a ∈ r.2 then decide (a ∈ r.1) else _) = _
        rw [if_neg (fun q => q.elim hni hn2)]
theorem ev_bears {b : Option (Addr × Addr)} {σ : L2.St} {G : Hp} {Q : V → Hp → Prop} {E : XK} {ta : TA} (h : Ev b ta σ G fun vs G1 => ∃ (v rv : V) (p : List Str) (r : RowD), vs = [v, rv] ∧ DpE K G1 v (p.map .str) ∧ Dp K G1 rv (encRow r) ∧ ∀ G', Same G1 G' → Q (.bl (bearsOf p r)) G') : Ev b (tCall (SpP 2 (pBears K)) [] E ta) σ G Q :=
  ev_call (Ev.mono h fun vs G1 _ ⟨v, rv, p, r, ev, h1, h2, q⟩ => by rw [ev]; exact ⟨rfl, v, rv, p, r, rfl, h1, h2, q⟩)
end
end FD
namespace FD
open PySem PyProof.Rows L2
section
variable {P : Program} {w : World} {K : PySem.W.Frag} {mg : Str → Option Value} {base : Heap}
local macro_rules | `(tactic| walk_at "ev") => `(tactic| repeat (first | with_reducible refine s_seq ?_ | with_reducible refine s_skip ?_ | with_reducible refine s_gn ?_ | with_reducible refine ev_op ?_ | with_reducible refine ev_un ?_ | ((with_reducible refine' ev_var ?hv ?_); (case hv => rfl)) | with_reducible refine ev_c ?_ | with_reducible refine ev_cb ?_ | with_reducible refine ea_cons ?_ | with_reducible refine ea_nil ?_ | with_reducible refine et_test ?_ | with_reducible refine et_B ?_ | with_reducible refine s_ret (by assumption) ?_ | with_reducible refine s_asg (by assumption) ?_))
theorem Stp.unnew {B : Addr → Prop} {G G1 H H1 : Hp} {p : Addr} {o : HO} (x : Stp B G H (upd G1 p o) H1) (g : Same G G1) (n : G1 p = none) : Stp B G H G1 H1 :=
  ⟨g, fun a u z => x.gh a u (same_new n a u z), x.hh, x.al, fun a e h => by
    have q := x.fr a e h
    by_cases r : a = p
    · rw [r]; exact n
    · rwa [upd_ne r] at q⟩
theorem Wd.unnew {b : Option (Addr × Addr)} {G G1 H H1 : Hp} {p : Addr} {o : HO} (x : Wd b G H) (g : Same G G1) (n : G1 p = Option.none) (y : Wd b (upd G1 p o) H1) : Wd b G1 H1 :=
  ⟨fun a u z => y.same a u (same_new n a u z), fun a c z => ⟨by
    have q := (y.bag a c z).1
    by_cases r : a = p
    · rw [r]; exact n
    · rwa [upd_ne r] at q, by
    obtain ⟨ns0, _, _, _, _, e2, _⟩ := (x.bag a c z).2
    obtain ⟨ns, i, g', m, e1, e3, r⟩ := (y.bag a c z).2
    have h1 := g _ _ e2
    have h2 := same_new (o := o) n _ _ h1
    rw [e3] at h2
    exact ⟨ns, i, g', m, e1, h1.trans h2.symm, r⟩⟩⟩
abbrev RecD := Str × RowD
def encRec (x : RecD) : PyData := .tuple [.str x.1, encRow x.2]
def RecsFit (R : List Str) (l : List RecD) : Prop := NamesOk (l.map (·.1)) ∧ ∀ x ∈ l, RowFit R x.2
def pRecs (K : PySem.W.Frag) : List V → Hp → (V → Hp → Prop) → Prop := fun vs G P => ∃ (v : V) (R : List Str) (most : Nat) (stand : Bool), vs = [v, .int (most : Int), .bl stand] ∧ Dp K G v (.tuple (R.map .str)) ∧ NamesOk R ∧ R.length ≤ 900 ∧ most ≤ 9 ∧ ∀ l v' G', RecsFit R l → l.length ≤ 9 → Same G G' → Dp K G' v' (.list (l.map encRec)) → P v' G'
theorem d__law_recs (T : Mo K mg) : Def P w K mg base CX0 5 "_law_recs" ["_law_bag_here", "_law_some_here", "_law_most", "_law_stand"] (SpB 3 (pRecs K)) := by
  obtain ⟨fd, F⟩ := T.f__law_recs
  refine ⟨_, fd, F.ok sc__law_recs spB_len (fun cdv A outer s H vs Q E hr h => ?_), T.g__law_recs, F.kp, F.bindsN fun _ _ _ _ _ _ us hl => match us, hl with | [_, _, _, _], _ => rfl⟩
  have hu := hu_of hr
  obtain ⟨_, bg, bc, G, P, vs, rfl, wd, hp, kq⟩ := h
  refine ⟨_, PSs.nox (pss_cons (ps_set (i := 4) sc__law_recs.nd rfl (Or.inl rfl) (pe_d (d__law_mixed T) (hr.mono (by decide)) (by rfl) pass0 (pa_cons (pv 0) (pa_cons (pv 1) pa_nil))))
    (pss_cons (ps_set (i := 5) sc__law_recs.nd rfl (Or.inl rfl) (pe_d (d__law_draw T) (hr.mono (by decide)) (by rfl) pass0 (pa_cons (pv 0) (pa_cons (pe_op op_add (pv 2) pe_int) pa_nil))))
    (pss_cons (ps_par (i := 6) (j := 7) rfl sc__law_recs.nd rfl rfl (by decide) rfl rfl (pa_cons (pe_d (d__law_marks T) (hr.mono (by decide)) (by rfl) pass0 (pa_cons (pv 0) (pa_cons (pv 5) pa_nil))) (pa_cons (pe_lst pa_nil) pa_nil)) (by rfl))
    (pss_cons (ps_for PassesOwn.never rfl (pi_range1 (by rfl) T.n_range (pa_cons (pv 5) pa_nil)) (pg_name (i := 8) sc__law_recs.nd rfl (Or.inl rfl))
      (pss_cons (ps_set (i := 9) sc__law_recs.nd rfl (Or.inl rfl) (pe_d (d__law_row T) (hr.mono (by decide)) (by rfl) pass0 (pa_cons (pv 0) (pa_cons (pv 1) pa_nil))))
    (C8.pss_cut (ps_if (PW.pt (pw_and (pt_cmpR op_gt (pv 8) pe_int (by rfl)) (pw_and1 (pt_cmpR op_eq (pe_d (d__law_draw T) (hr.mono (by decide)) (by rfl) pass0 (pa_cons (pv 0) (pa_cons pe_int pa_nil))) pe_int (by rfl))))) (pss_one (ps_set (i := 9) sc__law_recs.nd rfl (Or.inl rfl) (pe_ix ix_tup (pe_ix ix_list (pv 7) (pe_d (d__law_draw T) (hr.mono (by decide)) (by rfl) pass0 (pa_cons (pv 0) (pa_cons (pv 8) pa_nil))) (fun _ _ => rfl)) pe_int (fun _ _ => rfl)))) pss_nil)
    (C8.pss_cut (ps_if (PW.pt (pw_and (pt_val (pv 3)) (pw_and1 (pt_not (pt_val (pe_d (d__law_bears T) (hr.mono (by decide)) (by rfl) pass0 (pa_cons (pv 4) (pa_cons (pv 9) pa_nil)))))))) (pss_one (ps_set (i := 9) sc__law_recs.nd rfl (Or.inl rfl) (pe_tup (pa_cons (pe_ix ix_tup (pv 9) pe_int (fun _ _ => rfl)) (pa_cons (pe_ix ix_tup (pv 9) pe_int (fun _ _ => rfl)) pa_nil))))) pss_nil)
    (pss_one (ps_expr (pe_bm PySem.F.plainAttrs_list PySem.F.slot_list_append PySem.F.type_list_append mt_append (pv 7) (pa_cons (pe_tup (pa_cons (pe_ix ix_list (pv 6) (pv 8) (fun _ _ => rfl)) (pa_cons (pv 9) pa_nil))) pa_nil))))))))
    (pss_one (ps_ret (pv 7))))))), ?_⟩
  obtain ⟨v, R, most, stand, rfl, hv, hR, hRl, hmost, k⟩ := hp
  walk_at "ev"
  refine ev_mixed ?_
  walk_at "ev"
  refine ⟨_, _, rfl, .inl (.inr hv), by rw [List.length_map]; exact hRl, fun ds lv G1 hlp e1 hlv H1 s1 w1 => ?_⟩
  obtain ⟨lead, hlead, rfl⟩ := perm_map_inv hlp _ rfl
  clear wd
  dsimp only
  walk_at "ev"
  refine ev_draw ?_
  walk_at "ev"
  refine rv_I0 ?_
  walk_at "ev"
  refine ⟨most + 1, rfl, by omega, by omega, fun many G2 hmany e2 H2 s2 w2 => ?_⟩
  replace s2 := s1.trans s2
  clear s1 w1
  dsimp only
  with_reducible refine s_seq ?_
  refine s_par w2 (ea_cons (ev_marks ?_))
  walk_at "ev"
  refine ⟨many, rfl, by omega, fun names nv G3 hnames hnl e3 hnv => ea_cons (ev_lst (ea_nil ⟨by decide, fun f hf => ea_nil ⟨_, _, rfl, fun H3 s3 w3 => ?_⟩⟩))⟩
  have hf3 : H3 f = some (.lst []) := w3.same _ _ upd_same
  have hG2 : G2 f = none := by
    cases z : G2 f with
    | none => rfl
    | some o => rw [e3 _ _ z] at hf; cases hf
  have hf2 : H2 f = none := s3.newAt hG2 upd_same
  have nbf : ¬ Bg (some (bg, bc)) f := w2.off hf2
  have hf3' : G3 f = none := hf
  replace s3 := s3.unnew e3 hf
  replace w3 := w2.unnew e3 hf w3
  have hf0 : H f = none := by
    cases q : H f with
    | none => rfl
    | some o => exact absurd hf2 (s2.al f (by rw [q]; exact fun z => nomatch z))
  replace s2 := s2.trans s3
  have hv3 := Dpm hv s2.gg
  have hlv3 := Dpm hlv (e2.trans e3)
  clear s3 w2 hlv hf
  dsimp only
  with_reducible refine s_seq ?_
  refine s_forR1 w3 (ea_cons (ev_var rfl (ea_nil ⟨many, rfl, by omega, fun i σ G4 H4 => Same G3 G4 ∧ Stp (Bg (some (bg, bc))) G H G4 H4 ∧ Wd (some (bg, bc)) G4 H4 ∧ G4 f = none ∧ ∃ (acc : List V) (recs : List RecD) (z8 z9 : Option V), σ = [some (.ref bg), some v, some (.int (most : Nat)), some (.bl stand), some lv, some (.int (many : Nat)), some nv, some (.ref f), z8, z9] ∧ H4 f = some (.lst acc) ∧ DpAll K G4 acc (recs.map encRec) ∧ recs.map (·.1) = names.take i ∧ ∀ x ∈ recs, RowFit R x.2, ⟨?_, ?_⟩, ?_, ?_⟩)))
  · exact fun i σ G4 H4 h => ⟨h.1, h.2.2.1⟩
  · rintro σ G4 H4 ⟨g4, s4, w4, hf4, acc, recs, z8, z9, rfl, hh4, hacc, hnm, hrf⟩
    have hal : recs.length ≤ 9 := by
      have := congrArg List.length hnm
      rw [List.length_map, List.length_take] at this
      omega
    clear w3
    dsimp only
    walk_at "ev"
    intro H5 s5 w5
    have w6 := w5
    rw [List.take_of_length_le (by omega)] at hnm
    have hh5 := s5.hh _ _ hh4 nbf
    have w6 := w5.know hh5 hf4 nbf
    have s6 := (s4.trans s5).know hf0 hh5 hf4
    refine kq _ _ _ s6 w6 (k recs _ _ ⟨by rw [hnm]; exact hnames, hrf⟩ hal s6.gg (dp_newL hacc hf4))
  · intro H4 s4 w4
    refine ⟨Same.refl _, s2.trans s4, w4, hf3', [], [], _, _, rfl, s4.hh _ _ hf3 nbf, .nil, rfl, fun x h => nomatch h⟩
  · rintro i σ G4 H4 hi ⟨g4, s4, w4, hf4, acc, recs, z8, z9, rfl, hh4, hacc, hnm, hrf⟩
    have hH4 : H4 f ≠ none := by rw [hh4]; exact fun z => nomatch z
    have hal : recs.length = i := by
      have := congrArg List.length hnm
      rw [List.length_map, List.length_take] at this
      omega
    clear w3
    walk_at "ev"
    refine ev_row ?_
    walk_at "ev"
    refine ⟨v, R, rfl, Dpm hv3 g4, hR, fun r rv G5 hr5 e5 hrv H5 s5 w5 => ?_⟩
    have hf5 := s5.fr f hf4 hH4
    have hh5 := s5.hh _ _ hh4 nbf
    have hH5 : H5 f ≠ none := by rw [hh5]; exact fun z => nomatch z
    have g5 := g4.trans e5
    replace s5 := s4.trans s5
    replace hacc := Dpam hacc e5
    clear s4 w4
    dsimp only
    let Inv : L2.St → Hp → Prop := fun σ' H' => ∃ (r : RowD) (rv : V) (G6 : Hp), σ' = [some (.ref bg), some v, some (.int (most : Nat)), some (.bl stand), some lv, some (.int (many : Nat)), some nv, some (.ref f), some (.int (i : Nat)), some rv] ∧ RowFit R r ∧ Dp K G6 rv (encRow r) ∧ Same G5 G6 ∧ Stp (Bg (some (bg, bc))) G H G6 H' ∧ Wd (some (bg, bc)) G6 H' ∧ H' f = some (.lst acc) ∧ G6 f = none
    refine ⟨Inv, ?_, ?_⟩
    · have base0 : ∀ H6, Stp (Bg (some (bg, bc))) G5 H5 G5 H6 → Wd (some (bg, bc)) G5 H6 → Inv (([some (.ref bg), some v, some (.int (most : Nat)), some (.bl stand), some lv, some (.int (many : Nat)), some nv, some (.ref f), z8, z9].set 8 (some (.int (i : Nat)))).set 9 (some rv)) H6 := fun H6 s6 w6 => ⟨r, rv, G5, rfl, hr5, hrv, Same.refl _, s5.trans s6, w6, s6.hh _ _ hh5 nbf, hf5⟩
      refine s_if w5 (et_and (et_test ?_))
      walk_at "ev"
      refine rv_I0 ⟨_, rfl, fun hi0 => et_test ?_, fun _ H6 s6 w6 => ⟨fun h => (nomatch h), fun _ => base0 H6 s6 w6⟩⟩
      have hi1 : 0 < i := by have := of_decide_eq_true hi0; omega
      walk_at "ev"
      refine ev_draw ?_
      walk_at "ev"
      refine ⟨6, rfl, by decide, by decide, fun z G6 hz e6 => ?_⟩
      walk_at "ev"
      refine rv_eqB rfl ⟨_, rfl, fun H6 s6 w6 => ⟨fun _ => ?_, fun _ => ?_⟩⟩
      · have hh6 := s6.hh _ _ hh5 nbf
        have hf6 := s6.fr f hf5 hH5
        have wk := w6.know hh6 hf6 nbf
        dsimp only
        with_reducible refine s_asg wk ?_
        refine ev_op (ev_op (ev_var rfl (ev_draw ?_)))
        walk_at "ev"
        refine ⟨i, rfl, hi1, by omega, fun j G7 hj e7 => ?_⟩
        have hx : (recs.map encRec)[j]? = some (encRec recs[j]) := by rw [List.getElem?_map, List.getElem?_eq_getElem (by omega)]; rfl
        obtain ⟨t, ht, hd⟩ := dpa_at hacc hx
        refine rv_ixL (SqL.of (e7 _ _ upd_same)) ht ?_
        walk_at "ev"
        obtain ⟨ta, xs, rfl, hq, hxs⟩ := dp_tup hd
        obtain ⟨rv2, h1, h2⟩ := dpa_at (i := 1) hxs rfl
        refine rv_ixT (i := 1) (sqt_mono ((e6.trans (same_new hf6)).trans e7) hq) h1 fun H7 s7 w7 => ?_
        replace s7 := s7.back hf6
        replace w7 := w6.pull s7.gh w7
        exact ⟨recs[j].2, rv2, G6, rfl, hrf _ (List.getElem_mem _), Dpm h2 e6, e6, (s5.trans s6).trans s7, w7, s7.hh _ _ hh6 nbf, hf6⟩
      · exact ⟨r, rv, G6, rfl, hr5, Dpm hrv e6, e6, s5.trans s6, w6, s6.hh _ _ hh5 nbf, s6.fr f hf5 hH5⟩
    · rintro σ H6 ⟨r, rv, G6, rfl, hr6, hrv, e6, s6, w6, hh6, hf6⟩
      have hH6 : H6 f ≠ none := by rw [hh6]; exact fun z => nomatch z
      refine ⟨Inv, ?_, ?_⟩
      · clear w5
        refine s_if w6 (et_and (et_test ?_))
        walk_at "ev"
        refine ⟨_, rfl, fun _ => et_not (et_test ?_), fun _ H7 s7 w7 => ⟨fun h => (nomatch h), fun _ => ⟨r, rv, G6, rfl, hr6, hrv, e6, s6.trans s7, w7, s7.hh _ _ hh6 nbf, hf6⟩⟩⟩
        refine ev_bears ?_
        walk_at "ev"
        refine ⟨lv, rv, lead, r, rfl, .inl (Dpm hlv3 (g5.trans e6)), hrv, fun G7 e7 => ⟨_, rfl, fun H7 s7 w7 => ⟨fun _ => ?_, fun _ => ⟨r, rv, G7, rfl, hr6, Dpm hrv e7, e6.trans e7, s6.trans s7, w7, s7.hh _ _ hh6 nbf, s7.fr f hf6 hH6⟩⟩⟩⟩
        dsimp only
        with_reducible refine s_asg w7 ?_
        refine ev_tup (ea_cons ?_)
        walk_at "ev"
        refine rv_ixDT (i := 1) (Dpm hrv e7) rfl fun v1 h1 => ea_cons ?_
        walk_at "ev"
        refine rv_ixDT (i := 0) (Dpm hrv e7) rfl fun v2 h2 => ea_nil ⟨by show 2 ≤ 1000000; decide, fun t ht H8 s8 w8 => ?_⟩
        have s78 := s7.trans s8
        exact ⟨flipRow r, _, _, rfl, rowFit_flip hr6, dp_newT (dpa_two h1 h2) ht, (e6.trans e7).trans (same_new ht), s6.trans s78, w8, s78.hh _ _ hh6 nbf, s78.fr f hf6 hH6⟩
      · rintro σ H7 ⟨r, rv, G7, rfl, hr7, hrv, e7, s7, w7, hh7, hf7⟩
        have hH7 : H7 f ≠ none := by rw [hh7]; exact fun z => nomatch z
        have hacl : acc.length ≤ 900000 := by
          rw [dpa_len hacc, List.length_map]
          omega
        refine s_app w7 rfl hh7 nbf hacl ?_
        refine ev_tup (ea_cons ?_)
        walk_at "ev"
        have hni : i < names.length := by omega
        refine rv_ixDL (Dpm hnv (g5.trans e7)) (show (names.map PyData.str)[i]? = some (.str names[i]) by rw [List.getElem?_map, List.getElem?_eq_getElem hni]; rfl) fun nmv hnm2 => ?_
        walk_at "ev"
        refine ⟨by show 2 ≤ 1000000; decide, fun t ht H8 s8 w8 hh8 => ?_⟩
        have hf8 := s8.fr f hf7 hH7
        refine ⟨_, (g5.trans e7).trans (same_new ht), (s7.trans s8).mut hf0 hf8, w8.mut hf8 nbf, hf8, _, recs ++ [(names[i], r)], _, _, rfl, upd_same, ?_, ?_, ?_⟩
        · rw [List.map_append]
          exact dpa_snoc (Dpam hacc (e7.trans (same_new ht))) (dp_newT (dpa_two hnm2 hrv) ht)
        · rw [List.map_append, hnm, List.take_succ, List.getElem?_eq_getElem hni]
          rfl
        · intro x hx
          rcases List.mem_append.mp hx with hx | hx
          · exact hrf x hx
          · rw [List.mem_singleton.mp hx]; exact hr7
end
end FD
namespace FD
open PySem PyProof.Rows L2
section
variable {X : Cx}
def rCatL (K : PySem.W.Frag) : R2 := fun x y H Q => ∃ l b xs zs, x = .ref l ∧ y = .ref b ∧ SqL K H l xs ∧ SqL K H b zs ∧ xs.length + zs.length ≤ sizeLine ∧ ∀ p, H p = none → Q (.ref p) (upd H p (.lst (xs ++ zs)))
theorem op_catL : OpR X (binaryOp .Add) (rCatL X.K) := by
  intro pins s σ H x y v u Q I rx ry h
  obtain ⟨l, b, xs, zs, rfl, rfl, hH, hB, hz, q⟩ := h
  cases rx
  cases ry
  obtain ⟨its, r, p1, h1⟩ := I.list hH
  obtain ⟨its2, r2, p2, h2⟩ := I.list hB
  have hl := r.length
  have hl2 := r2.length
  obtain ⟨⟨cls, dd, data, sl⟩, n, ho, hc, hdn, hd⟩ := p1
  obtain ⟨⟨cls2, dd2, data2, sl2⟩, n2, ho2, hc2, hdn2, hd2⟩ := p2
  simp only at hc hd hc2 hd2
  subst hc hd hc2 hd2
  have e : its.toArray ++ its2.toArray = (its ++ its2).toArray := by simp
  refine concat_meets ⟨_, ho, rfl⟩ ⟨_, ho2, rfl⟩ noFill_list_add seq_list_add PySem.F.slot_list_add PySem.F.entry_list_add (PySem.F.args_list_add_2 _ _) (list_addW l b its.toArray its2.toArray n n2 dd dd2 sl sl2 (by simp only [List.size_toArray]; omega)) ⟨ho, ho2, ?_⟩
  rw [e]
  exact ⟨.ref _, _, I.lnew (t' := s.toks) (r.append r2) (by rw [List.length_append]; omega), rfl, q _ I.fresh⟩
end
section
variable {b : Option (Addr × Addr)} {G : Hp} {K : PySem.W.Frag} {Q : V → Hp → Prop}
theorem rv_catL {x y : V} {ds es : List PyData} (hx : Dp K G x (.list ds)) (hy : Dp K G y (.list es)) (hl : ds.length + es.length ≤ 1000000) (p : ∀ u G2, Same G G2 → Dp K G2 u (.list (ds ++ es)) → Q u G2) : Rv b (rCatL K x y) G Q := by
  obtain ⟨a, xs, rfl, q1, d1⟩ := dp_lst hx
  obtain ⟨c, ys, rfl, q2, d2⟩ := dp_lst hy
  have l1 := dpa_len d1
  have l2 := dpa_len d2
  exact fun H w Q' k => ⟨a, c, xs, ys, rfl, rfl, sql_mono w.same q1, sql_mono w.same q2, sz_of (by omega), fun f hf => k _ _ _ ((Stp.refl w.same).new hf) (w.new hf) (p _ _ (same_new (w.same.free hf)) (dp_newL (dpa_app d1 d2) (w.same.free hf)))⟩
theorem rv_catT {x y : V} {ds es : List PyData} (hx : Dp K G x (.tuple ds)) (hy : Dp K G y (.tuple es)) (hl : ds.length + es.length ≤ 1000000) (p : ∀ u G2, Same G G2 → Dp K G2 u (.tuple (ds ++ es)) → Q u G2) : Rv b (rCatA K x y) G Q := by
  obtain ⟨a, xs, rfl, q1, d1⟩ := dp_tup hx
  obtain ⟨c, ys, rfl, q2, d2⟩ := dp_tup hy
  have l1 := dpa_len d1
  have l2 := dpa_len d2
  refine fun H w Q' k => ⟨a, c, xs, ys, rfl, rfl, sqt_mono w.same q1, sqt_mono w.same q2, sz_of (by omega), fun h0 => ?_, fun _ h0 => ?_, fun _ _ f hf => k _ _ _ ((Stp.refl w.same).new hf) (w.new hf) (p _ _ (same_new (w.same.free hf)) (dp_newT (dpa_app d1 d2) (w.same.free hf)))⟩
  · subst h0
    cases d1
    exact k _ _ _ (Stp.refl w.same) w (p _ _ (Same.refl _) hy)
  · subst h0
    cases d2
    rw [List.append_nil] at p
    exact k _ _ _ (Stp.refl w.same) w (p _ _ (Same.refl _) hx)
theorem cutV_eq {α : Type} {xs : List α} {lo hi : Nat} : (xs.drop lo).take (hi - lo) = (xs.take hi).drop lo := by
  rw [List.drop_take]
/-- a part of a tuple -/
def cutD (ds : List PyData) (lo hi : Option Int) : List PyData := (ds.drop (HT.sIx ds.length 0 lo)).take (HT.sIx ds.length ds.length hi - HT.sIx ds.length 0 lo)
theorem rv_cutT {x : V} {ds : List PyData} {lo hi : Option Int} (hx : Dp K G x (.tuple ds)) (p : ∀ u G2, Same G G2 → Dp K G2 u (.tuple (cutD ds lo hi)) → Q u G2) : Rv b (rSlA K x lo hi) G Q := by
  obtain ⟨a, xs, rfl, q1, d1⟩ := dp_tup hx
  have l1 := dpa_len d1
  refine fun H w Q' k => ⟨a, xs, rfl, sqt_mono w.same q1, fun h0 => ?_, fun _ f hf => ?_⟩
  · refine k _ _ _ (Stp.refl w.same) w (p _ _ (Same.refl _) ?_)
    unfold cutD
    rw [← l1, h0.1, h0.2, List.drop_zero, Nat.sub_zero, List.take_of_length_le (by omega)]
    exact hx
  · refine k _ _ _ ((Stp.refl w.same).new hf) (w.new hf) (p _ _ (same_new (w.same.free hf)) ?_)
    unfold cutD
    rw [← l1]
    exact dp_newT (dpa_take _ (dpa_drop _ d1)) (w.same.free hf)
end
end FD
namespace FD
open PySem PyProof.Rows L2
section
variable {P : Program} {w : World} {K : PySem.W.Frag} {mg : Str → Option Value} {base : Heap}
local macro_rules | `(tactic| walk_at "ev") => `(tactic| repeat (first | with_reducible refine s_seq ?_ | with_reducible refine s_skip ?_ | with_reducible refine s_gn ?_ | with_reducible refine ev_op ?_ | with_reducible refine ev_un ?_ | ((with_reducible refine' ev_var ?hv ?_); (case hv => rfl)) | with_reducible refine ev_c ?_ | with_reducible refine ev_cb ?_ | with_reducible refine ea_cons ?_ | with_reducible refine ea_nil ?_ | with_reducible refine et_test ?_ | with_reducible refine et_B ?_ | with_reducible refine s_ret (by assumption) ?_ | with_reducible refine s_asg (by assumption) ?_))
theorem nodup_le {α : Type} [DecidableEq α] : ∀ {W R : List α}, W.Nodup → (∀ x ∈ W, x ∈ R) → W.length ≤ R.length
  | [], _, _, _ => Nat.zero_le _
  | a :: W, R, hn, hs => by
    have h1 := hs a (.head _)
    have h2 : W.length ≤ (R.erase a).length := nodup_le (List.nodup_cons.mp hn).2 fun x hx => (List.mem_erase_of_ne (fun e => (List.nodup_cons.mp hn).1 (by rw [← e]; exact hx))).mpr (hs x (.tail _ hx))
    have h3 := List.length_erase_of_mem h1
    have h4 := List.length_pos_of_mem h1
    rw [List.length_cons]
    omega
def eightL : List Str := ["q", "x", "zz", "m", "end", "hh", "ab", "w"]
theorem eight_ok : NamesOk eightL := by
  have h1 : (eightL.all fun s => decide (1 ≤ s.length) && decide (s.length ≤ 6) && s.cps.toList.all fun c => decide (97 ≤ c) && decide (c ≤ 122)) = true := by decide +kernel
  refine ⟨fun x hx => ?_, by decide +kernel, by decide⟩
  have h2 := List.all_eq_true.mp h1 x hx
  rw [Bool.and_eq_true, Bool.and_eq_true] at h2
  refine ⟨of_decide_eq_true h2.1.1, of_decide_eq_true h2.1.2, fun c hc => ?_⟩
  have h3 := List.all_eq_true.mp h2.2 c hc
  rw [Bool.and_eq_true] at h3
  exact ⟨of_decide_eq_true h3.1, of_decide_eq_true h3.2⟩
theorem fresh_ex {R : List Str} (h : R.length ≤ 7) : ∃ x l, eightL.filter (fun a => !decide (a ∈ R)) = x :: l := by
  cases z : eightL.filter (fun a => !decide (a ∈ R)) with
  | cons x l => exact ⟨x, l, rfl⟩
  | nil =>
    have h2 : eightL.length ≤ R.length := nodup_le eight_ok.2.1 fun x hx => by
      have := List.filter_eq_nil_iff.mp z x hx
      simpa using this
    have : eightL.length = 8 := rfl
    omega
/-- the reasons of an other sheet -/
def otherL (R : List Str) (x : Str) : List (List Str) := [R ++ [x], R.dropLast ++ [x], [x] ++ R.drop 1, if 1 < R.length then R.drop 1 else [x]]
theorem other_ok {R R2 : List Str} {x : Str} (hR : NamesOk R) (h1 : 1 ≤ R.length) (h6 : R.length ≤ 6) (hx : NameOk x) (hxR : x ∉ R) (h : R2 ∈ otherL R x) : NamesOk R2 ∧ 1 ≤ R2.length ∧ R2.length ≤ 7 := by
  have app : ∀ l : List Str, l.Sublist R → NamesOk (l ++ [x]) := fun l hl => ⟨fun y hy => by
      rcases List.mem_append.mp hy with q | q
      · exact hR.1 y (hl.subset q)
      · rw [List.mem_singleton.mp q]; exact hx, by
      rw [List.nodup_append]
      refine ⟨hR.2.1.sublist hl, by simp, fun a ha b hb e => ?_⟩
      rw [List.mem_singleton.mp hb] at e
      exact hxR (e ▸ hl.subset ha), by
      have := hl.length_le
      rw [List.length_append, List.length_singleton]
      omega⟩
  have pre : ∀ l : List Str, l.Sublist R → NamesOk ([x] ++ l) := fun l hl => names_perm (app l hl) List.perm_append_comm
  unfold otherL at h
  rcases List.mem_cons.mp h with rfl | h
  · exact ⟨app R (List.Sublist.refl _), by rw [List.length_append]; show 1 ≤ _ + 1; omega, by rw [List.length_append]; show _ + 1 ≤ 7; omega⟩
  rcases List.mem_cons.mp h with rfl | h
  · refine ⟨app _ (List.dropLast_sublist _), by rw [List.length_append]; show 1 ≤ _ + 1; omega, by rw [List.length_append, List.length_dropLast]; show _ + 1 ≤ 7; omega⟩
  rcases List.mem_cons.mp h with rfl | h
  · refine ⟨pre _ (List.drop_sublist _ _), by rw [List.length_append]; show 1 ≤ 1 + _; omega, by rw [List.length_append, List.length_drop]; show 1 + _ ≤ 7; omega⟩
  cases List.mem_singleton.mp h
  split
  · exact ⟨names_sub hR (List.drop_sublist _ _), by rw [List.length_drop]; omega, by rw [List.length_drop]; omega⟩
  · exact ⟨pre [] (List.nil_sublist _), Nat.le_refl _, by show 1 ≤ 7; decide⟩
theorem cutD_last {ds : List PyData} : cutD ds none (some (-1)) = ds.dropLast := by
  unfold cutD
  have e0 : HT.sIx ds.length 0 none = 0 := rfl
  rw [e0, List.drop_zero, Nat.sub_zero]
  have e : HT.sIx ds.length ds.length (some (-1)) = ds.length - 1 := by
    show (if (-1 : Int) < 0 then ((-1 : Int) + (ds.length : Int)).toNat else min (-1 : Int).toNat ds.length) = _
    rw [if_pos (show (-1 : Int) < 0 by decide)]
    omega
  rw [e, List.dropLast_eq_take]
theorem cutD_from1 {ds : List PyData} (h : 1 ≤ ds.length) : cutD ds (some 1) none = ds.drop 1 := by
  unfold cutD
  have e : HT.sIx ds.length 0 (some 1) = 1 := (HT.sIx_nat ds.length 0 1).trans (Nat.min_eq_left h)
  have e2 : HT.sIx ds.length ds.length none = ds.length := rfl
  rw [e2, e, List.take_of_length_le (by rw [List.length_drop]; exact Nat.le_refl _)]
def pOther (K : PySem.W.Frag) : List V → Hp → (V → Hp → Prop) → Prop := fun vs G P => ∃ (v : V) (R : List Str), vs = [v] ∧ Dp K G v (.tuple (R.map .str)) ∧ NamesOk R ∧ 1 ≤ R.length ∧ R.length ≤ 6 ∧ ∀ R2 v' G', NamesOk R2 → sortedS R2 = true → 1 ≤ R2.length → R2.length ≤ 7 → Same G G' → RsAt G' v' R2 → P v' G'
theorem d__law_other (T : Mo K mg) : Def P w K mg base CX0 3 "_law_other" ["_law_bag_here", "_law_some_here"] (SpB 1 (pOther K)) := by
  obtain ⟨fd, F⟩ := T.f__law_other
  refine ⟨_, fd, F.ok sc__law_other spB_len (fun cdv A outer s H vs Q E hr h => ?_), T.g__law_other, F.kp, F.bindsN fun _ _ _ _ _ _ us hl => match us, hl with | [_, _], _ => rfl⟩
  have hu := hu_of hr
  obtain ⟨_, bg, bc, G, P, vs, rfl, wd, hp, kq⟩ := h
  refine ⟨_, PSs.nox (pss_cons (ps_set (i := 2) sc__law_other.nd rfl (Or.inl rfl) (pe_ix ix_list (pe_lc (own := [("_law_a", 3)]) (g := gName 3) (tt := _) rfl sc__law_other.nd (pi_list (pe_lst (pa_cons pe_str (pa_cons pe_str (pa_cons pe_str (pa_cons pe_str (pa_cons pe_str (pa_cons pe_str (pa_cons pe_str (pa_cons pe_str pa_nil)))))))))) (blkOk_by (N := ["_law_bag_here", "_law_some_here", "_law_fresh", "_law_a", "_law_few_here"]) (sc := defScope s__law_other) (by decide +kernel)) (fun _ _ _ _ _ => (pg_name (i := 3) sc__law_other.nd rfl (Or.inl rfl))) (fun _ _ _ _ _ => (pts_one (blk_tt (pt_cmpR (op_ninW hr.units) (pv 3) (pv 1) (by rfl)) (by (try dsimp only [Cx.blk, Cx.nox, cxOf]); (try rfl))))) (fun _ _ _ _ _ => (blk_te (pv 3) (by (try dsimp only [Cx.blk, Cx.nox, cxOf]); (try rfl))))) pe_int (fun _ _ => rfl)))
    (pss_cons (ps_set (i := 4) sc__law_other.nd rfl (Or.inl rfl) (pe_lst (pa_cons (pe_op op_catA (pv 1) (pe_tup (pa_cons (pv 2) pa_nil))) (pa_cons (pe_op op_catA (pe_slice sl_tupA (pv 1) po_none (po_some (pe_un un_neg pe_int))) (pe_tup (pa_cons (pv 2) pa_nil))) (pa_cons (pe_op op_catA (pe_tup (pa_cons (pv 2) pa_nil)) (pe_slice sl_tupA (pv 1) (po_some pe_int) po_none)) (pa_cons (pe_ifExp (pt_cmpR op_gt (pe_callB call_len_seq (by rfl) T.n_len (by decide +kernel) (pa_cons (pv 1) pa_nil)) pe_int (by rfl)) (pe_slice sl_tupA (pv 1) (po_some pe_int) po_none) (pe_tup (pa_cons (pv 2) pa_nil))) pa_nil))))))
    (pss_one (ps_ret (pe_callTy call_tupF (by rfl) T.n_tuple (by decide +kernel) (pa_cons (pe_callB cr_sortedE (by rfl) T.n_sorted (by decide +kernel) (pa_cons (pe_d (d__law_of T) (hr.mono (by decide)) (by rfl) pass0 (pa_cons (pv 0) (pa_cons (pv 4) pa_nil))) pa_nil)) pa_nil)))))), ?_⟩
  obtain ⟨v, R, rfl, hv, hR, h1, h6, k⟩ := hp
  walk_at "ev"
  refine lcLa (K := K) PyData.str eightL (fun a => !decide (a ∈ R)) PyData.str (by decide) (ev_lst ?_)
  walk_at "ev"
  refine ⟨by show 8 ≤ 1000000; decide, fun hp hhp => ⟨dp_newL (dpa_strs eightL) hhp, fun x G1 d hd e1 hx => ?_, fun fv G1 e1 hfv => ?_⟩⟩
  · cases dp_str hx
    refine ⟨_, fun H _ => gv_name, by rfl, et_test ?_⟩
    walk_at "ev"
    exact rv_ninT d R (.str d) (.inr (Dpm hv ((same_new hhp).trans e1))) (by decide) ⟨_, rfl, rfl, fun _ => ev_var rfl (.str _)⟩
  obtain ⟨x, l, hxl⟩ := fresh_ex (R := R) (by omega)
  have hx8 : x ∈ eightL.filter fun a => !decide (a ∈ R) := by rw [hxl]; exact .head _
  have hxR : x ∉ R := by have := (List.mem_filter.mp hx8).2; simpa using this
  have hxo := eight_ok.1 x (List.mem_filter.mp hx8).1
  rw [hxl] at hfv
  walk_at "ev"
  refine rv_ixDL (i := 0) hfv rfl fun xv hxv H1 s1 w1 => ?_
  cases dp_str hxv
  have hv1 := Dpm hv s1.gg
  clear wd
  dsimp only
  walk_at "ev"
  refine ev_lst (ea_cons ?_)
  walk_at "ev"
  refine ev_tup (ea_cons (ev_var rfl (ea_nil ⟨by show 1 ≤ 1000000; decide, fun t1 ht1 => ?_⟩)))
  have hx1 := dp_newT (K := K) (dpa_strs [x]) ht1
  have hl9 : ∀ l : List Str, l.length ≤ 8 → ((l.map PyData.str).length + ([x].map PyData.str).length) ≤ 1000000 := fun l h => by rw [List.length_map]; show _ + 1 ≤ _; omega
  have e1 := same_new (o := .tup [V.str x]) ht1
  refine rv_catT (Dpm hv1 e1) hx1 (hl9 R (by omega)) fun u1 G2 e2 hu1 => ea_cons ?_
  rw [← List.map_append] at hu1
  walk_at "ev"
  refine ev_sl (ev_var rfl (eo_none (eo_some (ev_un (ev_c (Rv.here (fun H e Q q => ⟨_, rfl, q⟩) ⟨_, rfl, rv_cutT (Dpm hv1 (e1.trans e2)) fun u G3 e3 hu => ?_⟩))))))
  rw [show cutD (R.map PyData.str) none (some (-1)) = R.dropLast.map PyData.str by rw [cutD_last, List.map_dropLast]] at hu
  refine ev_tup (ea_cons (ev_var rfl (ea_nil ⟨by show 1 ≤ 1000000; decide, fun t2 ht2 => ?_⟩)))
  have hx2 := dp_newT (K := K) (dpa_strs [x]) ht2
  refine rv_catT (Dpm hu (same_new ht2)) hx2 (hl9 R.dropLast (by rw [List.length_dropLast]; omega)) fun u2 G4 e4 hu2 => ea_cons ?_
  rw [← List.map_append] at hu2
  have g24 := (e3.trans (same_new (o := .tup [V.str x]) ht2)).trans e4
  walk_at "ev"
  refine ev_tup (ea_cons (ev_var rfl (ea_nil ⟨by show 1 ≤ 1000000; decide, fun t3 ht3 => ?_⟩)))
  have hx3 := dp_newT (K := K) (dpa_strs [x]) ht3
  have e5 := same_new (o := .tup [V.str x]) ht3
  refine ev_sl (ev_var rfl (eo_some (ev_c ⟨_, rfl, eo_none (rv_cutT (Dpm hv1 ((e1.trans e2).trans (g24.trans e5))) fun u G6 e6 hu => ?_)⟩)))
  rw [show cutD (R.map PyData.str) (some 1) none = (R.drop 1).map PyData.str by rw [cutD_from1 (by rw [List.length_map]; exact h1), List.map_drop]] at hu
  refine rv_catT (Dpm hx3 e6) hu (by rw [List.length_map, List.length_map, List.length_drop]; show 1 + _ ≤ _; omega) fun u3 G7 e7 hu3 => ea_cons ?_
  rw [← List.map_append] at hu3
  have g47 := (e5.trans e6).trans e7
  refine Ev.mono (P := fun u4 G8 => Same G7 G8 ∧ Dp K G8 u4 (.tuple ((if 1 < R.length then R.drop 1 else [x]).map .str))) ?_ fun u4 G8 _ ⟨e8, hu4⟩ => ?_
  · refine ev_if (et_test ?_)
    walk_at "ev"
    refine rv_lenE (.inr (Dpm hv1 ((e1.trans e2).trans (g24.trans g47)))) ?_
    walk_at "ev"
    refine rv_I0 ⟨_, rfl, fun h => ?_, fun h => ?_⟩
    · have h2 : 1 < R.length := by have := of_decide_eq_true h; rw [List.length_map] at this; omega
      rw [if_pos h2]
      refine ev_sl (ev_var rfl (eo_some (ev_c ⟨_, rfl, eo_none (rv_cutT (Dpm hv1 ((e1.trans e2).trans (g24.trans g47))) fun u G8 e8 hu => ?_)⟩)))
      rw [show cutD (R.map PyData.str) (some 1) none = (R.drop 1).map PyData.str by rw [cutD_from1 (by rw [List.length_map]; exact h1), List.map_drop]] at hu
      exact ⟨e8, hu⟩
    · have h2 : ¬ 1 < R.length := by have := of_decide_eq_false h; rw [List.length_map] at this; omega
      rw [if_neg h2]
      refine ev_tup (ea_cons (ev_var rfl (ea_nil ⟨by show 1 ≤ 1000000; decide, fun t2 ht2 => ⟨same_new ht2, dp_newT (K := K) (dpa_strs [x]) ht2⟩⟩)))
  refine ea_nil ⟨by show 4 ≤ 1000000; decide, fun q hq H9 s9 w9 => ?_⟩
  have hlist : Dp K (upd G8 q (.lst [u1, u2, u3, u4])) (.ref q) (.list ((otherL R x).map fun l => .tuple (l.map .str))) :=
    dp_newL (.cons (Dpm hu1 ((g24.trans g47).trans e8)) (.cons (Dpm hu2 (g47.trans e8)) (.cons (Dpm hu3 e8) (.cons hu4 .nil)))) hq
  clear w1
  dsimp only
  walk_at "ev"
  refine ev_of ?_
  walk_at "ev"
  refine ⟨_, _, rfl, .inl (.inl hlist), by show 1 ≤ 4; decide, by show 4 ≤ 1000; decide, fun d v' G10 hd e10 hv' => ?_⟩
  obtain ⟨R2, hR2, rfl⟩ := List.mem_map.mp hd
  obtain ⟨ok, p1, p7⟩ := other_ok hR h1 h6 hxo hxR hR2
  walk_at "ev"
  refine rv_sortedE (.inr hv') (by omega) fun R3 G11 u5 hs e11 hu5 => ?_
  obtain ⟨q1, q2, q3⟩ := names_sorted ok hs
  walk_at "ev"
  exact rv_tupF hu5 fun u6 G12 e12 hu6 H13 s13 w13 => kq _ _ _ ((s1.trans s9).trans s13) w13 (k R3 _ _ q1 q2 (by omega) (by omega) ((s1.trans s9).trans s13).gg hu6)
theorem ev_other {a c : Addr} {σ : L2.St} {G : Hp} {Q : V → Hp → Prop} {E : XK} {ta : TA} (h : Ev (some (a, c)) ta σ G fun vs G1 => ∃ (v : V) (R : List Str), vs = [.ref a, v] ∧ Dp K G1 v (.tuple (R.map .str)) ∧ NamesOk R ∧ 1 ≤ R.length ∧ R.length ≤ 6 ∧ ∀ R2 v' G', NamesOk R2 → sortedS R2 = true → 1 ≤ R2.length → R2.length ≤ 7 → Same G1 G' → RsAt G' v' R2 → Q v' G') : Ev (some (a, c)) (tCall (SpB 1 (pOther K)) [] E ta) σ G Q :=
  ev_callB (Ev.mono h fun vs G1 _ ⟨v, R, ev, h1, h2, h3, h4, q⟩ => ⟨_, ev, rfl, v, R, rfl, h1, h2, h3, h4, q⟩)
end
end FD
namespace FD
open PySem PyProof.Rows L2
section
variable {P : Program} {w : World} {K : PySem.W.Frag} {mg : Str → Option Value} {base : Heap}
local macro_rules | `(tactic| walk_at "ev") => `(tactic| repeat (first | with_reducible refine s_seq ?_ | with_reducible refine s_skip ?_ | with_reducible refine s_gn ?_ | with_reducible refine ev_op ?_ | with_reducible refine ev_un ?_ | ((with_reducible refine' ev_var ?hv ?_); (case hv => rfl)) | with_reducible refine ev_c ?_ | with_reducible refine ev_cb ?_ | with_reducible refine ea_cons ?_ | with_reducible refine ea_nil ?_ | with_reducible refine et_test ?_ | with_reducible refine et_B ?_ | with_reducible refine s_ret (by assumption) ?_ | with_reducible refine s_asg (by assumption) ?_))
def permNext (R p : List Str) : List (List Str) := (R.filter fun a => !decide (a ∈ p)).map fun a => p ++ [a]
def permStep (R : List Str) (ps : List (List Str)) : List (List Str) := ps.flatMap (permNext R)
def permsK (R : List Str) : Nat → List (List Str)
  | 0 => [[]]
  | k + 1 => permStep R (permsK R k)
def permsOf (R : List Str) : List (List Str) := permsK R R.length
theorem permNext_len (R p : List Str) : (permNext R p).length ≤ R.length := by
  unfold permNext
  rw [List.length_map]
  exact List.length_filter_le _ _
theorem flat_len {α β : Type} {n : Nat} {f : α → List β} (h : ∀ x, (f x).length ≤ n) : ∀ l : List α, (l.flatMap f).length ≤ l.length * n
  | [] => Nat.zero_le _
  | x :: l => by
    rw [List.flatMap_cons, List.length_append, List.length_cons, Nat.succ_mul]
    have := h x
    have := flat_len h l
    omega
theorem permsK_len {R : List Str} (h : R.length ≤ 6) : ∀ k, (permsK R k).length ≤ 6 ^ k
  | 0 => Nat.le_refl _
  | k + 1 => by
    have h1 := flat_len (n := 6) (f := permNext R) (fun x => Nat.le_trans (permNext_len R x) h) (permsK R k)
    have h2 := permsK_len h k
    show (permStep R (permsK R k)).length ≤ _
    rw [Nat.pow_succ]
    unfold permStep
    exact Nat.le_trans h1 (Nat.mul_le_mul_right 6 h2)
theorem permsK_ln {R : List Str} : ∀ {k : Nat}, ∀ p ∈ permsK R k, p.length = k
  | 0, p, hp => by cases List.mem_singleton.mp hp; rfl
  | k + 1, p, hp => by
    obtain ⟨q, hq, h⟩ := List.mem_flatMap.mp hp
    obtain ⟨a, _, rfl⟩ := List.mem_map.mp h
    rw [List.length_append, permsK_ln q hq]
    rfl
theorem permsK_el {R : List Str} : ∀ {k : Nat}, k ≤ 6 → ∀ p ∈ permsK R k, p.length ≤ 6
  | k, hk, p, hp => Nat.le_trans (Nat.le_of_eq (permsK_ln p hp)) hk
def pPerms (K : PySem.W.Frag) : List V → Hp → (V → Hp → Prop) → Prop := fun vs G P => ∃ (v : V) (R : List Str), vs = [v] ∧ Dp K G v (.tuple (R.map .str)) ∧ R.length ≤ 6 ∧ ∀ v' G', Same G G' → Dp K G' v' (.list ((permsOf R).map encT)) → P v' G'
theorem d__law_perms (T : Mo K mg) : Def P w K mg base CX0 1 "_law_perms" ["_law_some_here"] (SpP 1 (pPerms K)) := by
  obtain ⟨fd, F⟩ := T.f__law_perms
  refine ⟨_, fd, F.ok sc__law_perms spP_len (fun cdv A outer s H vs Q E hr h => ?_), T.g__law_perms, F.kp, F.bindsN fun _ _ _ _ _ _ us hl => match us, hl with | [_], _ => rfl⟩
  have hu := hu_of hr
  obtain ⟨_, G, P, sm, hp, kq⟩ := h
  have wd : Wd none G H := .none sm
  refine ⟨_, PSs.nox (pss_cons (ps_set (i := 1) sc__law_perms.nd rfl (Or.inl rfl) (pe_lst (pa_cons (pe_tup pa_nil) pa_nil)))
    (pss_cons (ps_for PassesOwn.never rfl (pi_range1 (by rfl) T.n_range (pa_cons (pe_callB call_len_seq (by rfl) T.n_len (by decide +kernel) (pa_cons (pv 0) pa_nil)) pa_nil)) (pg_name (i := 2) sc__law_perms.nd rfl (Or.inl rfl))
      (pss_cons (ps_set (i := 3) sc__law_perms.nd rfl (Or.inl rfl) (pe_lst pa_nil))
    (pss_cons (ps_for PassesOwn.never rfl (pi_seqB (pv 1)) (pg_name (i := 4) sc__law_perms.nd rfl (Or.inr rfl))
      (pss_one (ps_set (i := 3) sc__law_perms.nd rfl (Or.inl rfl) (pe_op op_catL (pv 3) (pe_lc (own := [("_law_a", 5)]) (g := gName 5) (tt := _) rfl sc__law_perms.nd (pi_tup (pv 0)) (blkOk_by (N := ["_law_some_here", "_law_got_here", "_law_k", "_law_late", "_law_p", "_law_a"]) (sc := defScope s__law_perms) (by decide +kernel)) (fun _ _ _ _ _ => (pg_name (i := 5) sc__law_perms.nd rfl (Or.inl rfl))) (fun _ _ _ _ _ => (pts_one (blk_tt (pt_cmpR (op_ninW hr.units) (pv 5) (pv 4) (by rfl)) (by (try dsimp only [Cx.blk, Cx.nox, cxOf]); (try rfl))))) (fun _ _ _ _ _ => (blk_te (pe_op op_catA (pv 4) (pe_tup (pa_cons (pv 5) pa_nil))) (by (try dsimp only [Cx.blk, Cx.nox, cxOf]); (try rfl)))))))))
    (pss_one (ps_set (i := 1) sc__law_perms.nd rfl (Or.inl rfl) (pv 3))))))
    (pss_one (ps_ret (pv 1))))), ?_⟩
  obtain ⟨v, R, rfl, hv, h6, k⟩ := hp
  walk_at "ev"
  refine ev_lst (ea_cons (ev_tup (ea_nil ⟨by decide, fun t ht => ea_nil ⟨by show 1 ≤ 1000000; decide, fun l hl H1 s1 w1 => ?_⟩⟩)))
  have hg0 : Dp K (upd (upd G t (.tup [])) l (.lst [.ref t])) (.ref l) (.list ((permsK R 0).map encT)) := dp_newL (.cons (dp_newT .nil ht) .nil) hl
  generalize upd (upd G t (.tup [])) l (.lst [.ref t]) = G1 at s1 w1 hg0
  have hv1 := Dpm hv s1.gg
  clear wd
  dsimp only
  with_reducible refine s_seq ?_
  refine s_forR1 w1 (ea_cons (ev_cb (ea_cons (ev_var rfl (ea_nil (rv_lenE (.inr hv1) (ea_nil ⟨R.length, by rw [List.length_map], by omega, fun i σ G2 H2 => Same G1 G2 ∧ Stp (Bg none) G H G2 H2 ∧ Wd none G2 H2 ∧ ∃ (gv : V) (z2 z3 z4 z5 : Option V), σ = [some v, some gv, z2, z3, z4, z5] ∧ Dp K G2 gv (.list ((permsK R i).map encT)), ⟨?_, ?_⟩, ?_, ?_⟩)))))))
  · exact fun i σ G2 H2 h => ⟨h.1, h.2.2.1⟩
  · rintro σ G2 H2 ⟨g2, s2, w2, gv, z2, z3, z4, z5, rfl, hgv⟩
    clear w1
    dsimp only
    walk_at "ev"
    exact fun H3 s3 w3 => kq _ _ _ (s2.trans s3) (k _ _ (s2.trans s3).gg hgv)
  · intro H2 s2 w2
    exact ⟨Same.refl _, s1.trans s2, w2, _, _, _, _, _, rfl, hg0⟩
  · rintro i σ G2 H2 hi ⟨g2, s2, w2, gv, z2, z3, z4, z5, rfl, hgv⟩
    clear w1
    walk_at "ev"
    refine ev_lst (ea_nil ⟨by decide, fun lt hlt H3 s3 w3 => ?_⟩)
    have hlt0 : Dp K (upd G2 lt (.lst [])) (.ref lt) (.list (([] : List (List Str)).map encT)) := dp_newL .nil hlt
    replace s3 := s2.trans s3
    replace g2 := g2.trans (same_new (o := .lst []) hlt)
    have hgv3 := Dpm hgv (same_new (o := .lst []) hlt)
    generalize upd G2 lt (.lst []) = G3 at s3 w3 hlt0 g2 hgv3
    clear w2
    dsimp only
    with_reducible refine s_seq ?_
    refine s_forB (K := K) w3 (ev_var rfl ⟨_, .inl (.inl hgv3), fun j σ G4 H4 => Same G3 G4 ∧ Stp (Bg none) G H G4 H4 ∧ Wd none G4 H4 ∧ ∃ (lv : V) (z4 z5 : Option V), σ = [some v, some gv, some (.int (i : Nat)), some lv, z4, z5] ∧ Dp K G4 lv (.list (((((permsK R i).take j).flatMap (permNext R))).map encT)), ⟨?_, ?_⟩, ?_, ?_⟩)
    · exact fun i σ G2 H2 h => ⟨h.1, h.2.2.1⟩
    · rintro σ G4 H4 ⟨g4, s4, w4, lv, z4, z5, rfl, hlv⟩
      rw [List.length_map, List.take_of_length_le (Nat.le_refl _)] at hlv
      clear w3
      dsimp only
      with_reducible refine s_asg w4 (ev_var rfl fun H5 s5 w5 => ?_)
      exact ⟨_, g2.trans g4, s4.trans s5, w5, lv, _, _, _, _, rfl, hlv⟩
    · intro H4 s4 w4
      exact ⟨Same.refl _, s3.trans s4, w4, _, _, _, rfl, hlt0⟩
    · rintro j x d σ G4 H4 hd hx ⟨g4, s4, w4, lv, z4, z5, rfl, hlv⟩
      clear w3
      rw [List.getElem?_map] at hd
      obtain ⟨p, hp, rfl⟩ : ∃ p, (permsK R i)[j]? = some p ∧ d = encT p := by
        cases z : (permsK R i)[j]? with
        | none => rw [z] at hd; cases hd
        | some p => rw [z] at hd; cases hd; exact ⟨p, rfl, rfl⟩
      refine s_gn ?_
      dsimp only
      with_reducible refine s_asg w4 ?_
      walk_at "ev"
      refine lcTa (K := K) PyData.str R (fun a => !decide (a ∈ p)) (fun a => encT (p ++ [a])) (by omega) (ev_var rfl ⟨Dpm hv1 (g2.trans g4), fun y G5 d hd5 e5 hy => ?_, fun nv G5 e5 hnv => ?_⟩)
      · cases dp_str hy
        refine ⟨_, fun H _ => gv_name, by rfl, et_test ?_⟩
        walk_at "ev"
        refine rv_ninT d p (.str d) (.inr (Dpm hx e5)) (by decide) ⟨_, rfl, rfl, fun _ => ?_⟩
        walk_at "ev"
        refine ev_tup (ea_cons (ev_var rfl (ea_nil ⟨by show 1 ≤ 1000000; decide, fun t1 ht1 => ?_⟩)))
        have hx1 := dp_newT (K := K) (dpa_strs [d]) ht1
        have hpl : p.length ≤ 6 := permsK_el (by omega) _ (List.mem_of_getElem? hp)
        refine rv_catT (Dpm hx (e5.trans (same_new ht1))) hx1 (by rw [List.length_map]; show _ + 1 ≤ _; omega) fun u G6 e6 hu => ?_
        rw [← List.map_append] at hu
        exact hu
      · have hb1 := permsK_len h6 i
        have hb2 : ((((permsK R i).take j).flatMap (permNext R))).length ≤ 46656 := by
          have h1 := flat_len (n := 6) (f := permNext R) (fun x => Nat.le_trans (permNext_len R x) h6) ((permsK R i).take j)
          have h2 : ((permsK R i).take j).length ≤ 6 ^ i := Nat.le_trans (List.length_take_le' _ _) hb1
          have h3 : 6 ^ i ≤ 6 ^ 5 := Nat.pow_le_pow_right (by decide) (by omega)
          have h4 := Nat.mul_le_mul_right 6 (Nat.le_trans h2 h3)
          have h5 : 6 ^ 5 * 6 = 46656 := by decide
          omega
        have hnl := permNext_len R p
        unfold permNext at hnl
        rw [List.length_map] at hnl
        refine rv_catL (Dpm hlv e5) hnv (by rw [List.length_map, List.length_map]; omega) fun u G6 e6 hu H6 s6 w6 => ?_
        refine ⟨G6, g4.trans s6.gg, s4.trans s6, w6, u, _, _, rfl, ?_⟩
        rw [List.take_succ, hp, List.flatMap_append, List.map_append]
        have e9 : (([p].flatMap (permNext R)).map encT) = (R.filter fun a => !decide (a ∈ p)).map fun a => encT (p ++ [a]) := by
          rw [List.flatMap_cons, List.flatMap_nil, List.append_nil]
          unfold permNext
          rw [List.map_map]
          rfl
        show Dp K G6 u (.list ((((permsK R i).take j).flatMap (permNext R)).map encT ++ (([p].flatMap (permNext R)).map encT)))
        rw [e9]
        exact hu
theorem ev_perms {b : Option (Addr × Addr)} {σ : L2.St} {G : Hp} {Q : V → Hp → Prop} {E : XK} {ta : TA} (h : Ev b ta σ G fun vs G1 => ∃ (v : V) (R : List Str), vs = [v] ∧ Dp K G1 v (.tuple (R.map .str)) ∧ R.length ≤ 6 ∧ ∀ v' G', Same G1 G' → Dp K G' v' (.list ((permsOf R).map encT)) → Q v' G') : Ev b (tCall (SpP 1 (pPerms K)) [] E ta) σ G Q :=
  ev_call (Ev.mono h fun vs G1 _ ⟨v, R, ev, h1, h2, q⟩ => by rw [ev]; exact ⟨rfl, v, R, rfl, h1, h2, q⟩)
theorem permsOf_len {R : List Str} (h : R.length ≤ 6) : (permsOf R).length ≤ 46656 := Nat.le_trans (permsK_len h _) (Nat.pow_le_pow_right (n := 6) (by decide) h)
def fitOf (R : List Str) (recs : List RecD) : List (List Str) := recs.foldl (fun ps x => ps.filter fun p => bearsOf p x.2) (permsOf R)
theorem fitOf_eq (R : List Str) (recs : List RecD) : fitOf R recs = (permsOf R).filter fun p => recs.all fun x => bearsOf p x.2 := by
  unfold fitOf
  generalize permsOf R = ps
  induction recs generalizing ps with
  | nil => rw [List.foldl_nil]; exact (List.filter_eq_self.mpr fun _ _ => rfl).symm
  | cons x recs ih =>
    rw [List.foldl_cons, ih, List.filter_filter]
    congr 1
    funext p
    rw [List.all_cons, Bool.and_comm]
def pFit (K : PySem.W.Frag) : List V → Hp → (V → Hp → Prop) → Prop := fun vs G P => ∃ (v lv : V) (R : List Str) (recs : List RecD), vs = [v, lv] ∧ Dp K G v (.tuple (R.map .str)) ∧ R.length ≤ 6 ∧ Dp K G lv (.list (recs.map encRec)) ∧ ∀ v' G', Same G G' → Dp K G' v' (.list ((fitOf R recs).map encT)) → P v' G'
theorem d__law_fit (T : Mo K mg) : Def P w K mg base CX0 2 "_law_fit" ["_law_some_here", "_law_recs_here"] (SpP 2 (pFit K)) := by
  obtain ⟨fd, F⟩ := T.f__law_fit
  refine ⟨_, fd, F.ok sc__law_fit spP_len (fun cdv A outer s H vs Q E hr h => ?_), T.g__law_fit, F.kp, F.bindsN fun _ _ _ _ _ _ us hl => match us, hl with | [_, _], _ => rfl⟩
  have hu := hu_of hr
  obtain ⟨_, G, P, sm, hp, kq⟩ := h
  have wd : Wd none G H := .none sm
  refine ⟨_, PSs.nox (pss_cons (ps_set (i := 2) sc__law_fit.nd rfl (Or.inl rfl) (pe_d (d__law_perms T) (hr.mono (by decide)) (by rfl) pass0 (pa_cons (pv 0) pa_nil)))
    (pss_cons (ps_for PassesOwn.never rfl (pi_seqB (pv 1)) (pg_tup rfl (pgs_cons (pg_name (i := 3) sc__law_fit.nd rfl (Or.inl rfl)) (pgs_cons (pg_name (i := 4) sc__law_fit.nd rfl (Or.inr rfl)) pgs_nil)))
      (pss_one (ps_setLc (i := 2) (own := [("_law_p", 5)]) (g := gName 5) (tt := _) rfl sc__law_fit.nd rfl rfl (sw_true rfl rfl rfl (by decide +kernel)) (pi_list (pv 2)) (blkOk_by (N := ["_law_some_here", "_law_recs_here", "_law_got_here", "_law_m", "_law_row_here", "_law_p"]) (sc := defScope s__law_fit) (by decide +kernel)) (fun _ _ _ _ _ => (pg_name (i := 5) sc__law_fit.nd rfl (Or.inl rfl))) (fun _ _ _ _ _ => (pts_one (blk_tt (pt_val (pe_d (d__law_bears T) (hr.mono (by decide)) (by rfl) pass0 (pa_cons (pv 5) (pa_cons (pv 4) pa_nil)))) (by (try dsimp only [Cx.blk, Cx.nox, cxOf]); (try rfl))))) (fun _ _ _ _ _ => (blk_te (pv 5) (by (try dsimp only [Cx.blk, Cx.nox, cxOf]); (try rfl)))))))
    (pss_one (ps_ret (pv 2))))), ?_⟩
  obtain ⟨v, lv, R, recs, rfl, hv, h6, hlv, k⟩ := hp
  walk_at "ev"
  refine ev_perms ?_
  walk_at "ev"
  refine ⟨v, R, rfl, hv, h6, fun gv G1 e1 hgv H1 s1 w1 => ?_⟩
  have hlv1 := Dpm hlv s1.gg
  clear wd
  dsimp only
  with_reducible refine s_seq ?_
  refine s_forB (K := K) w1 (ev_var rfl ⟨_, .inl (.inl hlv1), fun i σ G2 H2 => Same G1 G2 ∧ Stp (Bg none) G H G2 H2 ∧ Wd none G2 H2 ∧ ∃ (gv : V) (z3 z4 z5 : Option V), σ = [some v, some lv, some gv, z3, z4, z5] ∧ Dp K G2 gv (.list (((recs.take i).foldl (fun ps x => ps.filter fun p => bearsOf p x.2) (permsOf R)).map encT)), ⟨?_, ?_⟩, ?_, ?_⟩)
  · exact fun i σ G2 H2 h => ⟨h.1, h.2.2.1⟩
  · rintro σ G2 H2 ⟨g2, s2, w2, gv, z3, z4, z5, rfl, hgv2⟩
    rw [List.length_map, List.take_of_length_le (Nat.le_refl _)] at hgv2
    clear w1
    dsimp only
    walk_at "ev"
    exact fun H3 s3 w3 => kq _ _ _ (s2.trans s3) (k _ _ (s2.trans s3).gg hgv2)
  · intro H2 s2 w2
    exact ⟨Same.refl _, s1.trans s2, w2, _, _, _, _, rfl, hgv⟩
  · rintro i x d σ G2 H2 hd hx ⟨g2, s2, w2, gv, z3, z4, z5, rfl, hgv2⟩
    clear w1
    obtain ⟨rc, hrc, rfl⟩ : ∃ rc, recs[i]? = some rc ∧ d = encRec rc := by
      rw [List.getElem?_map] at hd
      cases z : recs[i]? with
      | none => rw [z] at hd; cases hd
      | some p => rw [z] at hd; cases hd; exact ⟨p, rfl, rfl⟩
    obtain ⟨v1, v2, h1, h2, hg⟩ := gv_tup2 (g1 := gName 3) (g2 := gName 4) hx w2.same
    refine hg _ _ gv_name gv_name _ ?_
    dsimp only
    with_reducible refine s_asg w2 ?_
    have hpl : ((recs.take i).foldl (fun ps x => ps.filter fun p => bearsOf p x.2) (permsOf R)).length ≤ 46656 := by
      have h3 := fitOf_eq R (recs.take i)
      unfold fitOf at h3
      rw [h3]
      exact Nat.le_trans (List.length_filter_le _ _) (permsOf_len h6)
    refine lcLa (K := K) encT _ (fun p => bearsOf p rc.2) encT (by omega) (ev_var rfl ⟨hgv2, fun y G3 d hd3 e3 hy => ?_, fun nv G3 e3 hnv H4 s4 w4 => ?_⟩)
    · refine ⟨_, fun H _ => gv_name, by rfl, et_test (ev_bears ?_)⟩
      walk_at "ev"
      exact ⟨_, _, d, rc.2, rfl, .inr hy, Dpm h2 e3, fun G4 e4 => ⟨_, rfl, rfl, fun _ => ev_var rfl (Dpm hy e4)⟩⟩
    · refine ⟨G3, g2.trans e3, s2.trans s4, w4, nv, _, _, _, rfl, ?_⟩
      rw [List.take_succ, hrc]
      show Dp K G3 nv (.list (((recs.take i ++ [rc]).foldl (fun ps x => ps.filter fun p => bearsOf p x.2) (permsOf R)).map encT))
      rw [List.foldl_append]
      exact hnv
theorem ev_fit {b : Option (Addr × Addr)} {σ : L2.St} {G : Hp} {Q : V → Hp → Prop} {E : XK} {ta : TA} (h : Ev b ta σ G fun vs G1 => ∃ (v lv : V) (R : List Str) (recs : List RecD), vs = [v, lv] ∧ Dp K G1 v (.tuple (R.map .str)) ∧ R.length ≤ 6 ∧ Dp K G1 lv (.list (recs.map encRec)) ∧ ∀ v' G', Same G1 G' → Dp K G' v' (.list ((fitOf R recs).map encT)) → Q v' G') : Ev b (tCall (SpP 2 (pFit K)) [] E ta) σ G Q :=
  ev_call (Ev.mono h fun vs G1 _ ⟨v, lv, R, recs, ev, h1, h2, h3, q⟩ => by rw [ev]; exact ⟨rfl, v, lv, R, recs, rfl, h1, h2, h3, q⟩)
end
end FD
namespace FD
open PySem PyProof.Rows L2
section
variable {P : Program} {w : World} {K : PySem.W.Frag} {mg : Str → Option Value} {base : Heap}
local macro_rules | `(tactic| walk_at "ev") => `(tactic| repeat (first | with_reducible refine s_seq ?_ | with_reducible refine s_skip ?_ | with_reducible refine s_gn ?_ | with_reducible refine ev_op ?_ | with_reducible refine ev_un ?_ | ((with_reducible refine' ev_var ?hv ?_); (case hv => rfl)) | with_reducible refine ev_c ?_ | with_reducible refine ev_cb ?_ | with_reducible refine ea_cons ?_ | with_reducible refine ea_nil ?_ | with_reducible refine et_test ?_ | with_reducible refine et_B ?_ | with_reducible refine s_ret (by assumption) ?_ | with_reducible refine s_asg (by assumption) ?_))
section
variable {b : Option (Addr × Addr)} {σ : L2.St} {G H : Hp} {D : Ends} {tb : TS} {tl : TE} {g : TG}
theorem s_forLd (w : Wd b G H) (h : Ev b tl σ G fun x G1 => ∃ ds, Dp K G1 x (.list ds) ∧ ∃ Pv : Nat → L2.St → Hp → Hp → Prop, ForW b G1 ds.length D Pv ∧ (∀ H1, Stp (Bg b) G H G1 H1 → Wd b G1 H1 → Pv 0 σ G1 H1) ∧
    ∀ i x d σ G2 H2, ds[i]? = some d → Dp K G2 x d → Pv i σ G2 H2 → g x σ H2 fun σ3 H3 => tb { D with nx := nxP Pv (i + 1), ct := nxP Pv (i + 1), bk := D.nx } σ3 H3) : tFor (iList K tl) g tb D σ H := by
  refine s_forL w (Ev.mono h fun x G1 _ ⟨ds, hd, Pv, F, h0, hs⟩ => ?_)
  obtain ⟨a, xs, rfl, q, da⟩ := dp_lst hd
  have hl := dpa_len da
  refine ⟨a, xs, rfl, q, Pv, ⟨F.wd, by rw [hl]; exact F.done⟩, h0, fun i x σ G2 H2 hx p => ?_⟩
  obtain ⟨d, h1, h2⟩ := dpa_get da hx
  exact hs i x d σ G2 H2 h1 (Dpm h2 (F.wd _ _ _ _ p).1) p
end
theorem gv_pair {G : Hp} {i j : Nat} {x : V} {d1 d2 : PyData} (h : Dp K G x (.tuple [d1, d2])) : ∃ v1 v2, Dp K G v1 d1 ∧ Dp K G v2 d2 ∧ ∀ H (σ : L2.St), Same G H → Gv (gTup K 2 (gCons (gName i) (gCons (gName j) gNil))) x σ H ((σ.set i (some v1)).set j (some v2)) := by
  obtain ⟨a, xs, rfl, q, h⟩ := dp_tup h
  cases h with
  | @cons v1 r1 _ _ h1 h2 => cases h2 with
    | @cons v2 r2 _ _ h2 h3 =>
      cases h3
      exact ⟨v1, v2, h1, h2, fun H σ e Q q2 => ⟨a, [v1, v2], rfl, sqt_mono e q, rfl, v1, [v2], rfl, ⟨v2, [], rfl, ⟨rfl, q2⟩⟩⟩⟩
theorem map_at {α : Type} {f : α → PyData} {l : List α} {i : Nat} {d : PyData} (h : (l.map f)[i]? = some d) : ∃ x, l[i]? = some x ∧ d = f x := by
  rw [List.getElem?_map] at h
  cases z : l[i]? with
  | none => rw [z] at h; cases h
  | some p => rw [z] at h; cases h; exact ⟨p, rfl, rfl⟩
def lowOf (few : List RecD) : List Str := few.flatMap fun x => x.2.2
def lotStep (few : List RecD) : List RecD := few.filter fun x => x.2.1.all fun a => decide (a ∈ lowOf few)
def lotK (few : List RecD) : Nat → List RecD
  | 0 => few
  | k + 1 => lotStep (lotK few k)
def lotOf (recs : List RecD) : List Str := (lotK (recs.filter fun x => !decide (x.2 = ([], []))) recs.length).map fun x => x.1
theorem lotK_sub (few : List RecD) : ∀ k, (lotK few k).Sublist few
  | 0 => List.Sublist.refl _
  | k + 1 => List.filter_sublist.trans (lotK_sub few k)
def RecsBound (recs : List RecD) : Prop := recs.length ≤ 100 ∧ ∀ x ∈ recs, x.2.1.length ≤ 10 ∧ x.2.2.length ≤ 10
def pLot (K : PySem.W.Frag) : List V → Hp → (V → Hp → Prop) → Prop := fun vs G P => ∃ (lv : V) (recs : List RecD), vs = [lv] ∧ Dp K G lv (.list (recs.map encRec)) ∧ RecsBound recs ∧ ∀ v' G', Same G G' → Dp K G' v' (.tuple ((lotOf recs).map .str)) → P v' G'
theorem d__law_lot (T : Mo K mg) : Def P w K mg base CX0 1 "_law_lot" ["_law_recs_here"] (SpP 1 (pLot K)) := by
  obtain ⟨fd, F⟩ := T.f__law_lot
  refine ⟨_, fd, F.ok sc__law_lot spP_len (fun cdv A outer s H vs Q E hr h => ?_), T.g__law_lot, F.kp, F.bindsN fun _ _ _ _ _ _ us hl => match us, hl with | [_], _ => rfl⟩
  have hu := hu_of hr
  obtain ⟨_, G, P, sm, hp, kq⟩ := h
  have wd : Wd none G H := .none sm
  refine ⟨_, PSs.nox (pss_cons (ps_setLc (i := 1) (own := [("_law_rec", 2)]) (g := gName 2) (tt := _) rfl sc__law_lot.nd rfl rfl (sw_true rfl rfl rfl (by decide +kernel)) (pi_list (pv 0)) (blkOk_by (N := ["_law_recs_here", "_law_few_here", "_law_rec", "_law_k", "_law_low", "_law_m", "_law_row_here", "_law_a"]) (sc := defScope s__law_lot) (by decide +kernel)) (fun _ _ _ _ _ => (pg_name (i := 2) sc__law_lot.nd rfl (Or.inl rfl))) (fun _ _ _ _ _ => (pts_one (blk_tt (pt_cmpR (op_neW hr.units) (pe_ix ix_tup (pv 2) pe_int (fun _ _ => rfl)) (pe_tup (pa_cons (pe_tup pa_nil) (pa_cons (pe_tup pa_nil) pa_nil))) (by rfl)) (by (try dsimp only [Cx.blk, Cx.nox, cxOf]); (try rfl))))) (fun _ _ _ _ _ => (blk_te (pv 2) (by (try dsimp only [Cx.blk, Cx.nox, cxOf]); (try rfl)))))
    (pss_cons (ps_for PassesOwn.never rfl (pi_range1 (by rfl) T.n_range (pa_cons (pe_callB call_len_seq (by rfl) T.n_len (by decide +kernel) (pa_cons (pv 0) pa_nil)) pa_nil)) (pg_name (i := 3) sc__law_lot.nd rfl (Or.inl rfl))
      (pss_cons (ps_set (i := 4) sc__law_lot.nd rfl (Or.inr rfl) (pe_lst pa_nil))
    (C8.pss_cut (ps_for PassesOwn.never rfl (pi_list (pv 1)) (pg_tup rfl (pgs_cons (pg_name (i := 5) sc__law_lot.nd rfl (Or.inl rfl)) (pgs_cons (pg_name (i := 6) sc__law_lot.nd rfl (Or.inl rfl)) pgs_nil)))
      (pss_one (ps_set (i := 4) sc__law_lot.nd rfl (Or.inr rfl) (pe_op op_catL (pv 4) (pe_callTy call_list_of (by rfl) T.n_list (by decide +kernel) (pa_cons (pe_ix ix_tup (pv 6) pe_int (fun _ _ => rfl)) pa_nil))))))
    (pss_one (ps_setLc (i := 1) (own := [("_law_rec", 2)]) (g := gName 2) (tt := _) rfl sc__law_lot.nd rfl rfl (sw_true rfl rfl rfl (by decide +kernel)) (pi_list (pv 1)) (blkOk_by (N := ["_law_recs_here", "_law_few_here", "_law_rec", "_law_k", "_law_low", "_law_m", "_law_row_here", "_law_a"]) (sc := defScope s__law_lot) (by decide +kernel)) (fun _ _ _ _ _ => (pg_name (i := 2) sc__law_lot.nd rfl (Or.inl rfl))) (fun _ _ _ _ _ => (pts_one (blk_tt (pt_val (pe_callB (cr_all rfl) (by rfl) T.n_all (by decide +kernel) (pa_cons (pe_lc (own := [("_law_a", 7)]) (g := gName 7) (tt := tYes) rfl sc__law_lot.nd (pi_tup (pe_ix ix_tup (pe_ix ix_tup (pv 2) pe_int (fun _ _ => rfl)) pe_int (fun _ _ => rfl))) (blkOk_by (N := ["_law_recs_here", "_law_few_here", "_law_rec", "_law_k", "_law_low", "_law_m", "_law_row_here", "_law_a"]) (sc := relS _ (defScope s__law_lot)) (by decide +kernel)) (fun _ _ _ _ _ => (pg_name (i := 7) sc__law_lot.nd rfl (Or.inl rfl))) (fun _ _ _ _ _ => pts_nil) (fun _ _ _ _ _ => (blk_te (pe_cmpR (op_inW hr.units) (pv 7) (pv 4) (by rfl)) (by (try dsimp only [Cx.blk, Cx.nox, cxOf]); (try rfl))))) pa_nil))) (by (try dsimp only [Cx.blk, Cx.nox, cxOf]); (try rfl))))) (fun _ _ _ _ _ => (blk_te (pv 2) (by (try dsimp only [Cx.blk, Cx.nox, cxOf]); (try rfl)))))))))
    (pss_one (ps_ret (pe_tupleOf (by rfl) T.n_tuple (pe_lc (own := [("_law_m", 5), ("_law_row_here", 6)]) (g := gTup K 2 (gCons (gName 5) (gCons (gName 6) gNil))) (tt := tYes) rfl sc__law_lot.nd (pi_list (pv 1)) (blkOk_by (N := ["_law_recs_here", "_law_few_here", "_law_rec", "_law_k", "_law_low", "_law_m", "_law_row_here", "_law_a"]) (sc := defScope s__law_lot) (by decide +kernel)) (fun _ _ _ _ _ => (pg_tup rfl (pgs_cons (pg_name (i := 5) sc__law_lot.nd rfl (Or.inl rfl)) (pgs_cons (pg_name (i := 6) sc__law_lot.nd rfl (Or.inl rfl)) pgs_nil)))) (fun _ _ _ _ _ => pts_nil) (fun _ _ _ _ _ => (blk_te (pv 5) (by (try dsimp only [Cx.blk, Cx.nox, cxOf]); (try rfl)))))))))), ?_⟩
  obtain ⟨lv, recs, rfl, hlv, hb, k⟩ := hp
  have hb1 := hb.1
  walk_at "ev"
  refine lcLa (K := K) encRec recs (fun x => !decide (x.2 = ([], []))) encRec (by omega) (ev_var rfl ⟨hlv, fun x G1 d hd e1 hx => ?_, fun fv G1 e1 hfv H1 s1 w1 => ?_⟩)
  · refine ⟨_, fun H _ => gv_name, by rfl, et_test ?_⟩
    walk_at "ev"
    refine rv_ixDT (i := 1) hx rfl fun rv hrv => ?_
    refine ev_tup (ea_cons (ev_tup (ea_nil ⟨by decide, fun t1 ht1 => ea_cons (ev_tup (ea_nil ⟨by decide, fun t2 ht2 => ea_nil ⟨by show 2 ≤ 1000000; decide, fun t3 ht3 => ?_⟩⟩))⟩)))
    have d1 := dp_newT (K := K) (vs := []) (ds := []) .nil ht1
    have d2 := dp_newT (K := K) (vs := []) (ds := []) .nil ht2
    have g3 := same_new (o := .tup [.ref t1, .ref t2]) ht3
    have g2 := same_new (o := .tup []) ht2
    have g1 := same_new (o := .tup []) ht1
    refine rv_neT (α := PySem.W.Tup Str × PySem.W.Tup Str) (⟨d.2.1⟩, ⟨d.2.2⟩) (⟨[]⟩, ⟨[]⟩) (Dpm hrv ((g1.trans g2).trans g3)) (dp_newT (dpa_two (Dpm d1 g2) d2) ht3) (by decide) ⟨_, rfl, ?_, fun _ => ev_var rfl (Dpm hx ((g1.trans g2).trans g3))⟩
    congr 1
    refine decide_eq_decide.mpr ⟨fun h => ?_, fun h => ?_⟩
    · have h1 := PySem.W.Tup.mk.inj (Prod.mk.inj h).1
      have h2 := PySem.W.Tup.mk.inj (Prod.mk.inj h).2
      exact Prod.ext h1 h2
    · rw [h]
  have hlv1 := Dpm hlv s1.gg
  clear wd
  dsimp only
  with_reducible refine s_seq ?_
  generalize hfe : recs.filter (fun x => !decide (x.2 = ([], []))) = few at hfv
  have hfs : few.Sublist recs := by rw [← hfe]; exact List.filter_sublist
  refine s_forR1 w1 (ea_cons (ev_cb (ea_cons (ev_var rfl (ea_nil (rv_lenE (.inl hlv1) (ea_nil ⟨recs.length, by rw [List.length_map], by omega, fun i σ G2 H2 => Same G1 G2 ∧ Stp (Bg none) G H G2 H2 ∧ Wd none G2 H2 ∧ ∃ (gv : V) (z2 z3 z4 z5 z6 z7 : Option V), σ = [some lv, some gv, z2, z3, z4, z5, z6, z7] ∧ Dp K G2 gv (.list ((lotK few i).map encRec)), ⟨?_, ?_⟩, ?_, ?_⟩)))))))
  · exact fun i σ G2 H2 h => ⟨h.1, h.2.2.1⟩
  · rintro σ G2 H2 ⟨g2, s2, w2, gv, z2, z3, z4, z5, z6, z7, rfl, hgv⟩
    clear w1
    dsimp only
    have hln : (lotK few recs.length).length ≤ 100 := Nat.le_trans ((lotK_sub few _).trans hfs).length_le hb1
    walk_at "ev"
    refine ev_tupOf (lcLa (K := K) encRec _ (fun _ => true) (fun x => .str x.1) (by omega) (ev_var rfl ⟨hgv, fun x G3 d hd e3 hx => ?_, fun nv G3 e3 hnv => ⟨_, .inl hnv, fun v' G4 e4 hv' H5 s5 w5 => kq _ _ _ (s2.trans s5) (k _ _ (s2.trans s5).gg ?_)⟩⟩))
    · obtain ⟨v1, v2, h1, h2, hg⟩ := gv_pair (i := 5) (j := 6) hx
      exact ⟨_, fun H e => hg H _ e, by rfl, et_yes ⟨rfl, fun _ => ev_var rfl h1⟩⟩
    · unfold lotOf
      rw [hfe, List.map_map]
      rw [List.filter_eq_self.mpr fun _ _ => rfl] at hv'
      exact hv'
  · intro H2 s2 w2
    exact ⟨Same.refl _, s1.trans s2, w2, _, _, _, _, _, _, _, rfl, hfv⟩
  · rintro i σ G2 H2 hi ⟨g2, s2, w2, gv, z2, z3, z4, z5, z6, z7, rfl, hgv⟩
    have hln : (lotK few i).length ≤ 100 := Nat.le_trans ((lotK_sub few _).trans hfs).length_le hb1
    have hbd : ∀ x ∈ lotK few i, x.2.1.length ≤ 10 ∧ x.2.2.length ≤ 10 := fun x hx => hb.2 x (((lotK_sub few _).trans hfs).subset hx)
    clear w1
    walk_at "ev"
    refine ev_lst (ea_nil ⟨by decide, fun lt hlt H3 s3 w3 => ?_⟩)
    have hlt0 : Dp K (upd G2 lt (.lst [])) (.ref lt) (.list (([] : List Str).map .str)) := dp_newL .nil hlt
    replace s3 := s2.trans s3
    replace g2 := g2.trans (same_new (o := .lst []) hlt)
    have hgv3 := Dpm hgv (same_new (o := .lst []) hlt)
    generalize upd G2 lt (.lst []) = G3 at s3 w3 hlt0 g2 hgv3
    clear w2
    dsimp only
    refine ⟨fun σ' H' => ∃ G4, Same G3 G4 ∧ Stp (Bg none) G H G4 H' ∧ Wd none G4 H' ∧ ∃ (lv2 : V) (z5 z6 z7 : Option V), σ' = [some lv, some gv, z2, some (.int (i : Nat)), some lv2, z5, z6, z7] ∧ Dp K G4 lv2 (.list ((lowOf (lotK few i)).map .str)), ?_, ?_⟩
    · refine s_forLd (K := K) w3 (ev_var rfl ⟨_, hgv3, fun j σ G4 H4 => Same G3 G4 ∧ Stp (Bg none) G H G4 H4 ∧ Wd none G4 H4 ∧ ∃ (lv2 : V) (z5 z6 z7 : Option V), σ = [some lv, some gv, z2, some (.int (i : Nat)), some lv2, z5, z6, z7] ∧ Dp K G4 lv2 (.list ((lowOf ((lotK few i).take j)).map .str)), ⟨?_, ?_⟩, ?_, ?_⟩)
      · exact fun i σ G2 H2 h => ⟨h.1, h.2.2.1⟩
      · rintro σ G4 H4 ⟨g4, s4, w4, lv2, z5, z6, z7, rfl, hlv2⟩
        rw [List.length_map, List.take_of_length_le (Nat.le_refl _)] at hlv2
        exact ⟨G4, g4, s4, w4, lv2, _, _, _, rfl, hlv2⟩
      · intro H4 s4 w4
        exact ⟨Same.refl _, s3.trans s4, w4, _, _, _, _, rfl, hlt0⟩
      · rintro j x d σ G4 H4 hd hx ⟨g4, s4, w4, lv2, z5, z6, z7, rfl, hlv2⟩
        obtain ⟨rc, hrc, rfl⟩ := map_at hd
        obtain ⟨v1, v2, h1, h2, hg⟩ := gv_pair (i := 5) (j := 6) hx
        refine hg _ _ w4.same _ ?_
        clear w3
        dsimp only
        with_reducible refine s_asg w4 ?_
        walk_at "ev"
        refine rv_ixDT (i := 1) h2 rfl fun cv hcv => ea_nil ?_
        refine rv_listOf (.inr hcv) fun G5 u e5 hu => ?_
        have hcl := (hbd rc (List.mem_of_getElem? hrc)).2
        have hll : (lowOf ((lotK few i).take j)).length ≤ 1000 := by
          have h1 : ((lotK few i).take j).length ≤ 100 := Nat.le_trans (List.length_take_le' _ _) hln
          have h2 : ∀ l : List RecD, (∀ x ∈ l, x.2.2.length ≤ 10) → (lowOf l).length ≤ l.length * 10 := fun l => by
            induction l with
            | nil => exact fun _ => Nat.zero_le _
            | cons x l ih =>
              intro h
              unfold lowOf at ih ⊢
              rw [List.flatMap_cons, List.length_append, List.length_cons, Nat.succ_mul]
              have := ih fun y hy => h y (.tail _ hy)
              have := h x (.head _)
              omega
          have h3 := h2 ((lotK few i).take j) fun x hx => (hbd x (List.mem_of_mem_take hx)).2
          omega
        refine rv_catL (Dpm hlv2 e5) hu (by rw [List.length_map, List.length_map]; omega) fun u2 G6 e6 hu2 H6 s6 w6 => ?_
        refine ⟨G6, g4.trans s6.gg, s4.trans s6, w6, u2, _, _, _, rfl, ?_⟩
        rw [List.take_succ, hrc]
        unfold lowOf
        rw [List.flatMap_append, List.map_append]
        show Dp K G6 u2 (.list ((((lotK few i).take j).flatMap fun x => x.2.2).map PyData.str ++ ([rc].flatMap fun x => x.2.2).map PyData.str))
        rw [List.flatMap_cons, List.flatMap_nil, List.append_nil]
        exact hu2
    · rintro σ H4 ⟨G4, g4, s4, w4, lv2, z5, z6, z7, rfl, hlv2⟩
      clear w3
      with_reducible refine s_asg w4 ?_
      refine lcLa (K := K) encRec (lotK few i) (fun x => x.2.1.all fun a => decide (a ∈ lowOf (lotK few i))) encRec (by omega) (ev_var rfl ⟨Dpm hgv3 g4, fun x G5 d hd e5 hx => ?_, fun nv G5 e5 hnv H5 s5 w5 => ?_⟩)
      · refine ⟨_, fun H _ => gv_name, by rfl, et_test ?_⟩
        walk_at "ev"
        refine lcTa (K := K) PyData.str d.2.1 (fun _ => true) (fun a => .bool (decide (a ∈ lowOf (lotK few i)))) (by have := (hbd d hd).1; omega) ?_
        walk_at "ev"
        refine rv_ixDT (i := 1) hx rfl fun rv hrv => ?_
        walk_at "ev"
        refine rv_ixDT (i := 0) hrv rfl fun pv hpv => ⟨hpv, fun y G6 a ha e6 hy => ?_, fun bv G6 e6 hbv => ea_nil ?_⟩
        · cases dp_str hy
          refine ⟨_, fun H _ => gv_name, by rfl, et_yes ⟨rfl, fun _ => ?_⟩⟩
          walk_at "ev"
          exact rv_inT a (lowOf (lotK few i)) (.str a) (.inl (Dpm hlv2 (e5.trans e6))) (by decide) (.bl _)
        · rw [List.filter_eq_self.mpr fun _ _ => rfl] at hbv
          have hbv2 : Dp K G6 bv (.list ((d.2.1.map fun a => decide (a ∈ lowOf (lotK few i))).map .bool)) := by rw [List.map_map]; exact hbv
          refine rv_all hbv2 ⟨_, rfl, ?_, fun _ => ev_var rfl (Dpm hx e6)⟩
          rw [List.all_map]
          rfl
      · exact ⟨G5, (g2.trans g4).trans e5, s4.trans s5, w5, nv, _, _, _, _, _, _, rfl, hnv⟩
theorem ev_lot {b : Option (Addr × Addr)} {σ : L2.St} {G : Hp} {Q : V → Hp → Prop} {E : XK} {ta : TA} (h : Ev b ta σ G fun vs G1 => ∃ (lv : V) (recs : List RecD), vs = [lv] ∧ Dp K G1 lv (.list (recs.map encRec)) ∧ RecsBound recs ∧ ∀ v' G', Same G1 G' → Dp K G' v' (.tuple ((lotOf recs).map .str)) → Q v' G') : Ev b (tCall (SpP 1 (pLot K)) [] E ta) σ G Q :=
  ev_call (Ev.mono h fun vs G1 _ ⟨lv, recs, ev, h1, h2, q⟩ => by rw [ev]; exact ⟨rfl, lv, recs, rfl, h1, h2, q⟩)
end
end FD
namespace FD
open PySem PyProof.Rows L2
section
variable {P : Program} {w : World} {K : PySem.W.Frag} {mg : Str → Option Value} {base : Heap}
local macro_rules | `(tactic| walk_at "ev") => `(tactic| repeat (first | with_reducible refine s_seq ?_ | with_reducible refine s_skip ?_ | with_reducible refine s_gn ?_ | with_reducible refine ev_op ?_ | with_reducible refine ev_un ?_ | ((with_reducible refine' ev_var ?hv ?_); (case hv => rfl)) | with_reducible refine ev_c ?_ | with_reducible refine ev_cb ?_ | with_reducible refine ea_cons ?_ | with_reducible refine ea_nil ?_ | with_reducible refine et_test ?_ | with_reducible refine et_B ?_ | with_reducible refine s_ret (by assumption) ?_ | with_reducible refine s_asg (by assumption) ?_))
def freeOf (recs : List RecD) (n : Nat) : List Str := ((List.range n).filter fun k => !decide (kthS k ∈ recs.map fun x => x.1)).map kthS
def grownOf (recs : List RecD) (rows : List RowD) : List RecD := recs ++ (freeOf recs (recs.length + rows.length)).zip rows
def pGrownL (K : PySem.W.Frag) : List V → Hp → (V → Hp → Prop) → Prop := fun vs G P => ∃ (lv rv : V) (recs : List RecD) (rows : List RowD), vs = [lv, rv] ∧ Dp K G lv (.list (recs.map encRec)) ∧ Dp K G rv (.list (rows.map encRow)) ∧ recs.length ≤ 100 ∧ rows.length ≤ 100 ∧ ∀ v' G', Same G G' → Dp K G' v' (.list ((grownOf recs rows).map encRec)) → P v' G'
theorem d__law_grown (T : Mo K mg) : Def P w K mg base CX0 2 "_law_grown" ["_law_recs_here", "_law_rows"] (SpP 2 (pGrownL K)) := by
  obtain ⟨fd, F⟩ := T.f__law_grown
  refine ⟨_, fd, F.ok sc__law_grown spP_len (fun cdv A outer s H vs Q E hr h => ?_), T.g__law_grown, F.kp, F.bindsN fun _ _ _ _ _ _ us hl => match us, hl with | [_, _], _ => rfl⟩
  have hu := hu_of hr
  obtain ⟨_, G, P, sm, hp, kq⟩ := h
  have wd : Wd none G H := .none sm
  refine ⟨_, PSs.nox (pss_cons (ps_set (i := 2) sc__law_grown.nd rfl (Or.inr rfl) (pe_lc (own := [("_law_m", 3), ("_law_row_here", 4)]) (g := gTup K 2 (gCons (gName 3) (gCons (gName 4) gNil))) (tt := tYes) rfl sc__law_grown.nd (pi_list (pv 0)) (blkOk_by (N := ["_law_recs_here", "_law_rows", "_law_used", "_law_m", "_law_row_here", "_law_free", "_law_k"]) (sc := defScope s__law_grown) (by decide +kernel)) (fun _ _ _ _ _ => (pg_tup rfl (pgs_cons (pg_name (i := 3) sc__law_grown.nd rfl (Or.inl rfl)) (pgs_cons (pg_name (i := 4) sc__law_grown.nd rfl (Or.inl rfl)) pgs_nil)))) (fun _ _ _ _ _ => pts_nil) (fun _ _ _ _ _ => (blk_te (pv 3) (by (try dsimp only [Cx.blk, Cx.nox, cxOf]); (try rfl))))))
    (pss_cons (ps_setLc (i := 5) (own := [("_law_k", 6)]) (g := gName 6) (tt := _) rfl sc__law_grown.nd rfl rfl (sw_true rfl rfl rfl (by decide +kernel)) (pi_range1 (by rfl) T.n_range (pa_cons (pe_op op_add (pe_callB call_len_seq (by rfl) T.n_len (by decide +kernel) (pa_cons (pv 0) pa_nil)) (pe_callB call_len_seq (by rfl) T.n_len (by decide +kernel) (pa_cons (pv 1) pa_nil))) pa_nil)) (blkOk_by (N := ["_law_recs_here", "_law_rows", "_law_used", "_law_m", "_law_row_here", "_law_free", "_law_k"]) (sc := defScope s__law_grown) (by decide +kernel)) (fun _ _ _ _ _ => (pg_name (i := 6) sc__law_grown.nd rfl (Or.inl rfl))) (fun _ _ _ _ _ => (pts_one (blk_tt (pt_cmpR (op_ninW hr.units) (pe_d (d__law_kth T) (hr.mono (by decide)) (by rfl) pass0 (pa_cons (pv 6) pa_nil)) (pv 2) (by rfl)) (by (try dsimp only [Cx.blk, Cx.nox, cxOf]); (try rfl))))) (fun _ _ _ _ _ => (blk_te (pe_d (d__law_kth T) (hr.mono (by decide)) (by rfl) pass0 (pa_cons (pv 6) pa_nil)) (by (try dsimp only [Cx.blk, Cx.nox, cxOf]); (try rfl)))))
    (pss_one (ps_ret (pe_op op_catL (pe_callTy call_list_of (by rfl) T.n_list (by decide +kernel) (pa_cons (pv 0) pa_nil)) (pe_lc (own := [("_law_m", 3), ("_law_row_here", 4)]) (g := gTup K 2 (gCons (gName 3) (gCons (gName 4) gNil))) (tt := tYes) rfl sc__law_grown.nd (RZ.pi_zipA (by rfl) T.n_zip (pa_cons (pv 5) (pa_cons (pv 1) pa_nil))) (blkOk_by (N := ["_law_recs_here", "_law_rows", "_law_used", "_law_m", "_law_row_here", "_law_free", "_law_k"]) (sc := defScope s__law_grown) (by decide +kernel)) (fun _ _ _ _ _ => (pg_tup rfl (pgs_cons (pg_name (i := 3) sc__law_grown.nd rfl (Or.inl rfl)) (pgs_cons (pg_name (i := 4) sc__law_grown.nd rfl (Or.inl rfl)) pgs_nil)))) (fun _ _ _ _ _ => pts_nil) (fun _ _ _ _ _ => (blk_te (pe_tup (pa_cons (pv 3) (pa_cons (pv 4) pa_nil))) (by (try dsimp only [Cx.blk, Cx.nox, cxOf]); (try rfl)))))))))), ?_⟩
  obtain ⟨lv, rv, recs, rows, rfl, hlv, hrv, hl1, hl2, k⟩ := hp
  walk_at "ev"
  refine lcLa (K := K) encRec recs (fun _ => true) (fun x => .str x.1) (by omega) (ev_var rfl ⟨hlv, fun x G1 d hd e1 hx => ?_, fun uv G1 e1 huv H1 s1 w1 => ?_⟩)
  · obtain ⟨v1, v2, h1, h2, hg⟩ := gv_pair (i := 3) (j := 4) hx
    exact ⟨_, fun H e => hg H _ e, by rfl, et_yes ⟨rfl, fun _ => ev_var rfl h1⟩⟩
  rw [List.filter_eq_self.mpr fun _ _ => rfl] at huv
  have huv1 : Dp K G1 uv (.list ((recs.map fun x => x.1).map .str)) := by rw [List.map_map]; exact huv
  have hlv1 := Dpm hlv s1.gg
  have hrv1 := Dpm hrv s1.gg
  clear wd
  dsimp only
  walk_at "ev"
  refine lcRa (K := K) (recs.length + rows.length) (fun k => !decide (kthS k ∈ recs.map fun x => x.1)) (fun k => .str (kthS k)) (by omega) (fun _ => by rfl) ?_
  walk_at "ev"
  refine rv_lenE (.inl hlv1) ?_
  rw [List.length_map]
  walk_at "ev"
  refine rv_lenE (.inl hrv1) ?_
  rw [List.length_map]
  refine rv_I0 (ea_nil ⟨by rw [Int.natCast_add], fun i G2 hi e2 => ?_, fun fv G2 e2 hfv H2 s2 w2 => ?_⟩)
  · refine et_test ?_
    walk_at "ev"
    refine ev_kth ?_
    walk_at "ev"
    refine ⟨i, rfl, by omega, fun s G3 hs e3 => ?_⟩
    cases hs
    walk_at "ev"
    refine rv_ninT (kthS i) (recs.map fun x => x.1) (.str _) (.inl (Dpm huv1 (e2.trans e3))) (by decide) ⟨_, rfl, rfl, fun _ => ?_⟩
    refine ev_kth ?_
    walk_at "ev"
    refine ⟨i, rfl, by omega, fun s G4 hs e4 => ?_⟩
    cases hs
    exact .str _
  have hfv2 : Dp K G2 fv (.list ((freeOf recs (recs.length + rows.length)).map .str)) := by
    unfold freeOf
    rw [List.map_map]
    exact hfv
  have hll : (freeOf recs (recs.length + rows.length)).length ≤ 200 := by
    unfold freeOf
    rw [List.length_map]
    refine Nat.le_trans (List.length_filter_le _ _) ?_
    rw [List.length_range]
    omega
  clear w1
  dsimp only
  walk_at "ev"
  refine rv_listOf (.inl (Dpm hlv1 s2.gg)) fun G3 u e3 hu => ?_
  refine lcZA (K := K) PyData.str encRow (freeOf recs (recs.length + rows.length)) rows (fun _ => true) (fun p => encRec p) (by omega) (fun _ _ => by rfl) (ea_cons (ev_var rfl (ea_cons (ev_var rfl (ea_nil ⟨fv, rv, rfl, .inl ⟨Dpm hfv2 e3, Dpm hrv1 (s2.gg.trans e3)⟩, fun x y G4 d e _ e4 hx hy => ?_, fun zv G4 e4 hzv => ?_⟩)))))
  · refine et_yes ⟨rfl, fun _ => ?_⟩
    refine ev_tup (ea_cons (ev_var rfl (ea_cons (ev_var rfl (ea_nil ⟨by show 2 ≤ 1000000; decide, fun t ht => dp_newT (dpa_two hx hy) ht⟩)))))
  rw [List.filter_eq_self.mpr fun _ _ => rfl] at hzv
  refine rv_catL (Dpm hu e4) hzv (by rw [List.length_map, List.length_map, List.length_zip]; omega) fun u2 G5 e5 hu2 H5 s5 w5 => kq _ _ _ ((s1.trans s2).trans s5) (k _ _ ((s1.trans s2).trans s5).gg ?_)
  unfold grownOf
  rw [List.map_append]
  exact hu2
theorem ev_grownL {b : Option (Addr × Addr)} {σ : L2.St} {G : Hp} {Q : V → Hp → Prop} {E : XK} {ta : TA} (h : Ev b ta σ G fun vs G1 => ∃ (lv rv : V) (recs : List RecD) (rows : List RowD), vs = [lv, rv] ∧ Dp K G1 lv (.list (recs.map encRec)) ∧ Dp K G1 rv (.list (rows.map encRow)) ∧ recs.length ≤ 100 ∧ rows.length ≤ 100 ∧ ∀ v' G', Same G1 G' → Dp K G' v' (.list ((grownOf recs rows).map encRec)) → Q v' G') : Ev b (tCall (SpP 2 (pGrownL K)) [] E ta) σ G Q :=
  ev_call (Ev.mono h fun vs G1 _ ⟨lv, rv, recs, rows, ev, h1, h2, h3, h4, q⟩ => by rw [ev]; exact ⟨rfl, lv, rv, recs, rows, rfl, h1, h2, h3, h4, q⟩)
end
end FD
namespace FD
open PySem PyProof.Rows L2
section
variable {P : Program} {w : World} {K : PySem.W.Frag} {mg : Str → Option Value} {base : Heap}
local macro_rules | `(tactic| walk_at "ev") => `(tactic| repeat (first | with_reducible refine s_seq ?_ | with_reducible refine s_skip ?_ | with_reducible refine s_gn ?_ | with_reducible refine ev_op ?_ | with_reducible refine ev_un ?_ | ((with_reducible refine' ev_var ?hv ?_); (case hv => rfl)) | with_reducible refine ev_c ?_ | with_reducible refine ev_cb ?_ | with_reducible refine ea_cons ?_ | with_reducible refine ea_nil ?_ | with_reducible refine et_test ?_ | with_reducible refine et_B ?_ | with_reducible refine s_ret (by assumption) ?_ | with_reducible refine s_asg (by assumption) ?_))
section
variable {b : Option (Addr × Addr)} {σ : L2.St} {G H : Hp} {Q : V → Hp → Prop} {tt : TT} {te : TE} {vs : List Nat}
theorem dpa_rg {G : Hp} (n : Nat) : DpAll K G (rgV 0 (n : Int)) ((List.range n).map fun i => .int ((i : Nat) : Int)) := by
  have e : rgV 0 (n : Int) = ((List.range n).map fun i => ((i : Nat) : Int)).map V.int := by
    unfold rgV
    rw [List.map_map]
    have : ((n : Int) - 0).toNat = n := by omega
    rw [this]
    refine List.map_congr_left fun i _ => ?_
    show V.int (0 + (i : Int)) = V.int (i : Int)
    rw [Int.zero_add]
  have e2 : ((List.range n).map fun i => PyData.int ((i : Nat) : Int)) = ((List.range n).map fun i => ((i : Nat) : Int)).map PyData.int := by rw [List.map_map]; rfl
  rw [e, e2]
  exact dpa_ints _
theorem ev_listRg {ta : TE} (h : Ev b ta σ G fun x G1 => ∃ n : Nat, x = .int (n : Int) ∧ n ≤ 1000000 ∧ ∀ v G2, Same G1 G2 → Dp K G2 v (.list ((List.range n).map fun i => .int ((i : Nat) : Int))) → Q v G2) : Ev b (tLstRg (tRg1 ta)) σ G Q :=
  fun H w R k => h H w _ fun x G1 H1 e1 w1 ⟨n, ex, hn, q⟩ => ⟨_, ex, .of_le (by decide) (by omega) (by decide) (by omega), fun p hp => k _ _ _ (e1.new hp) (w1.new hp) (q _ _ (same_new (w1.same.free hp)) (dp_newL (dpa_rg n) (w1.same.free hp)))⟩
theorem lcEA {i1 i2 : Nat} {ta : TA} (hw : ∀ z u, wipe (((wipe σ vs).set i1 (some z)).set i2 (some u)) vs = wipe σ vs) (h : Ev b ta σ G fun vs1 G1 => ∃ a xs, vs1 = [.ref a] ∧ SqE K G1 a xs ∧ xs.length ≤ 100000 ∧ ∃ Iv : Nat → List V → Hp → Prop, Iv 0 [] G1 ∧ (∀ i acc G2 G3, Same G2 G3 → Iv i acc G2 → Iv i acc G3) ∧
    (∀ i x G2 acc, xs[i]? = some x → Same G1 G2 → Iv i acc G2 → acc.length ≤ i → Ev b tt (((wipe σ vs).set i1 (some (.int (i : Nat)))).set i2 (some x)) G2 fun c G4 => (c = true → Ev b te (((wipe σ vs).set i1 (some (.int (i : Nat)))).set i2 (some x)) G4 fun y G5 => Iv (i + 1) (acc ++ [y]) G5) ∧ (c = false → Iv (i + 1) acc G4)) ∧
    ∀ acc G2, Same G1 G2 → Iv xs.length acc G2 → acc.length ≤ xs.length → ∀ q, G2 q = none → Q (.ref q) (upd G2 q (.lst acc))) : Ev b (tLc (iEnumA K ta) (gTwo K i1 i2) tt te vs) σ G Q :=
  fun H w R k => h H w _ fun x G1 H1 e1 w1 ⟨a, xs, ex, q, hl, Iv, h0, hm, hs, hd⟩ => ⟨a, xs, ex, by
    have st : ∀ i x y G2 acc, i < xs.length → (some (V.int (i : Nat)) : Option V) = some x → xs[i]? = some y → Same G1 G2 → Iv i acc G2 → acc.length ≤ i → Ev b tt (((wipe σ vs).set i1 (some x)).set i2 (some y)) G2 fun c G4 => (c = true → Ev b te (((wipe σ vs).set i1 (some x)).set i2 (some y)) G4 fun y G5 => Iv (i + 1) (acc ++ [y]) G5) ∧ (c = false → Iv (i + 1) acc G4) := fun i x y G2 acc hi hx hy e iv hacc => by
      cases hx
      exact hs i y G2 acc hy e iv hacc
    rcases q with q | q
    · exact .inl ⟨sql_mono w1.same q, fun Dl hD => lc_pair (P := Q) walk_enum hl w1 e1 hD (fun H e => sql_mono e q) hw Iv h0 hm st hd k⟩
    · exact .inr ⟨sqt_mono w1.same q, fun Dl hD => lc_pair (P := Q) walk_enumT hl w1 e1 hD (fun H e => sqt_mono e q) hw Iv h0 hm st hd k⟩⟩
theorem s_two {i j : Nat} {te : TE} {D : Ends} (w : Wd b G H) (h : Ev b te σ G fun v G1 => ∃ a v1 v2, v = .ref a ∧ SqT K G1 a [v1, v2] ∧ ∀ H1, Stp (Bg b) G H G1 H1 → Wd b G1 H1 → D.nx ((σ.set i (some v1)).set j (some v2)) H1) : tAsg te (gTup K 2 (gCons (gName i) (gCons (gName j) gNil))) D σ H :=
  s_asgG w (Ev.mono h fun v G1 _ ⟨a, v1, v2, ev, hq, q⟩ H1 s1 w1 => ⟨a, [v1, v2], ev, sqt_mono w1.same hq, rfl, v1, [v2], rfl, ⟨v2, [], rfl, ⟨rfl, q H1 s1 w1⟩⟩⟩)
end
def encLine (l : LineT) : PyData := .tuple [.str l.1, .tuple (l.2.map .int)]
def pLines (K : PySem.W.Frag) : List V → Hp → (V → Hp → Prop) → Prop := fun vs G P => ∃ (v : V) (R : List Str) (most : Nat), vs = [v, .int (most : Int)] ∧ Dp K G v (.tuple (R.map .str)) ∧ R.length ≤ 7 ∧ 1 ≤ most ∧ most ≤ 6 ∧ ∀ ls v' G', LinesOk ls R.length → Same G G' → Dp K G' v' (.list (ls.map encLine)) → P v' G'
theorem d__law_lines (T : Mo K mg) : Def P w K mg base CX0 4 "_law_lines" ["_law_bag_here", "_law_some_here", "_law_most"] (SpB 2 (pLines K)) := by
  obtain ⟨fd, F⟩ := T.f__law_lines
  refine ⟨_, fd, F.ok sc__law_lines spB_len (fun cdv A outer s H vs Q E hr h => ?_), T.g__law_lines, F.kp, F.bindsN fun _ _ _ _ _ _ us hl => match us, hl with | [_, _, _], _ => rfl⟩
  have hu := hu_of hr
  obtain ⟨_, bg, bc, G, P, vs, rfl, wd, hp, kq⟩ := h
  refine ⟨_, PSs.nox (pss_cons (ps_asg (pe_tup (pa_cons (pe_d (d__law_words T) (hr.mono (by decide)) (by rfl) pass0 (pa_cons (pv 0) (pa_cons (pe_op op_add pe_int (pe_d (d__law_draw T) (hr.mono (by decide)) (by rfl) pass0 (pa_cons (pv 0) (pa_cons (pv 2) pa_nil)))) pa_nil))) (pa_cons (pe_lst pa_nil) pa_nil))) (pg_tup rfl (pgs_cons (pg_name (i := 3) sc__law_lines.nd rfl (Or.inr rfl)) (pgs_cons (pg_name (i := 4) sc__law_lines.nd rfl (Or.inl rfl)) pgs_nil))))
    (pss_cons (ps_if (pt_cmpR op_eq (pe_d (d__law_draw T) (hr.mono (by decide)) (by rfl) pass0 (pa_cons (pv 0) (pa_cons pe_int pa_nil))) pe_int (by rfl)) (pss_cons (ps_set (i := 5) sc__law_lines.nd rfl (Or.inr rfl) (pe_lc (own := [("_law_b", 6)]) (g := gName 6) (tt := tYes) rfl sc__law_lines.nd (pi_tup (pv 1)) (blkOk_by (N := ["_law_bag_here", "_law_some_here", "_law_most", "_law_names", "_law_got_here", "_law_sides_here", "_law_b", "_law_side", "_law_k", "_law_a", "_law_wide", "_law_row_here"]) (sc := defScope s__law_lines) (by decide +kernel)) (fun _ _ _ _ _ => (pg_name (i := 6) sc__law_lines.nd rfl (Or.inl rfl))) (fun _ _ _ _ _ => pts_nil) (fun _ _ _ _ _ => (blk_te (pe_d (d__law_mixed T) (hr.mono (by decide)) (by rfl) pass0 (pa_cons (pv 0) (pa_cons (pe_listRg rfl (by rfl) T.n_list (prg_1 (by rfl) T.n_range (pe_callB call_len_seq (by rfl) T.n_len (by decide +kernel) (pa_cons (pv 3) pa_nil)))) pa_nil))) (by (try dsimp only [Cx.blk, Cx.nox, cxOf]); (try rfl))))))
    (pss_one (ps_ret (pe_lc (own := [("_law_k", 8), ("_law_a", 9)]) (g := gTup K 2 (gCons (gName 8) (gCons (gName 9) gNil))) (tt := tYes) rfl sc__law_lines.nd (pi_enumA (by rfl) T.n_enumerate (pa_cons (pv 3) pa_nil)) (blkOk_by (N := ["_law_bag_here", "_law_some_here", "_law_most", "_law_names", "_law_got_here", "_law_sides_here", "_law_b", "_law_side", "_law_k", "_law_a", "_law_wide", "_law_row_here"]) (sc := defScope s__law_lines) (by decide +kernel)) (fun _ _ _ _ _ => (pg_tup rfl (pgs_cons (pg_name (i := 8) sc__law_lines.nd rfl (by first | exact Or.inl rfl | exact Or.inr rfl)) (pgs_cons (pg_name (i := 9) sc__law_lines.nd rfl (Or.inl rfl)) pgs_nil)))) (fun _ _ _ _ _ => pts_nil) (fun _ _ _ _ _ => (blk_te (pe_tup (pa_cons (pv 9) (pa_cons (pe_tupleOf (by rfl) T.n_tuple (pe_lc (own := [("_law_side", 7)]) (g := gName 7) (tt := tYes) rfl sc__law_lines.nd (pi_list (pv 5)) (blkOk_by (N := ["_law_bag_here", "_law_some_here", "_law_most", "_law_names", "_law_got_here", "_law_sides_here", "_law_b", "_law_side", "_law_k", "_law_a", "_law_wide", "_law_row_here"]) (sc := relS _ (defScope s__law_lines)) (by decide +kernel)) (fun _ _ _ _ _ => (pg_name (i := 7) sc__law_lines.nd rfl (Or.inl rfl))) (fun _ _ _ _ _ => pts_nil) (fun _ _ _ _ _ => (blk_te (pe_ix ix_list (pv 7) (pv 8) (fun _ _ => rfl)) (by (try dsimp only [Cx.blk, Cx.nox, cxOf]); (try rfl)))))) pa_nil))) (by (try dsimp only [Cx.blk, Cx.nox, cxOf]); (try rfl)))))))) pss_nil)
    (pss_cons (ps_set (i := 10) sc__law_lines.nd rfl (Or.inr rfl) (pe_d (d__law_of T) (hr.mono (by decide)) (by rfl) pass0 (pa_cons (pv 0) (pa_cons (pe_lst (pa_cons pe_int (pa_cons pe_int (pa_cons pe_int (pa_cons pe_int (pa_cons pe_int (pa_cons pe_int (pa_cons pe_int pa_nil)))))))) pa_nil))))
    (pss_cons (ps_for PassesOwn.never rfl (pi_range1 (by rfl) T.n_range (pa_cons (pe_callB call_len_seq (by rfl) T.n_len (by decide +kernel) (pa_cons (pv 3) pa_nil)) pa_nil)) (pg_name (i := 8) sc__law_lines.nd rfl (Or.inl rfl))
      (pss_cons (ps_set (i := 11) sc__law_lines.nd rfl (Or.inl rfl) (pe_tupleOf (by rfl) T.n_tuple (pe_lc (own := [("_law_a", 9)]) (g := gName 9) (tt := tYes) rfl sc__law_lines.nd (pi_tup (pv 1)) (blkOk_by (N := ["_law_bag_here", "_law_some_here", "_law_most", "_law_names", "_law_got_here", "_law_sides_here", "_law_b", "_law_side", "_law_k", "_law_a", "_law_wide", "_law_row_here"]) (sc := defScope s__law_lines) (by decide +kernel)) (fun _ _ _ _ _ => (pg_name (i := 9) sc__law_lines.nd rfl (Or.inl rfl))) (fun _ _ _ _ _ => pts_nil) (fun _ _ _ _ _ => (blk_te (pe_ifExp (pt_cmpR op_lt (pv 10) pe_int (by rfl)) (pe_d (d__law_draw T) (hr.mono (by decide)) (by rfl) pass0 (pa_cons (pv 0) (pa_cons (pv 10) pa_nil))) (pe_d (d__law_of T) (hr.mono (by decide)) (by rfl) pass0 (pa_cons (pv 0) (pa_cons (pe_lst (pa_cons pe_int (pa_cons pe_int (pa_cons (pe_un un_neg pe_int) (pa_cons (pe_un un_neg pe_int) (pa_cons pe_int (pa_cons pe_int (pa_cons pe_int pa_nil)))))))) pa_nil)))) (by (try dsimp only [Cx.blk, Cx.nox, cxOf]); (try rfl)))))))
    (C8.pss_cut (ps_if (PW.pt (pw_and (pt_cmpR op_gt (pv 8) pe_int (by rfl)) (pw_and1 (pt_cmpR op_eq (pe_d (d__law_draw T) (hr.mono (by decide)) (by rfl) pass0 (pa_cons (pv 0) (pa_cons pe_int pa_nil))) pe_int (by rfl))))) (pss_one (ps_set (i := 11) sc__law_lines.nd rfl (Or.inl rfl) (pe_ix ix_tup (pe_ix ix_list (pv 4) (pe_d (d__law_draw T) (hr.mono (by decide)) (by rfl) pass0 (pa_cons (pv 0) (pa_cons (pv 8) pa_nil))) (fun _ _ => rfl)) pe_int (fun _ _ => rfl)))) pss_nil)
    (pss_one (ps_expr (pe_bm PySem.F.plainAttrs_list PySem.F.slot_list_append PySem.F.type_list_append mt_append (pv 4) (pa_cons (pe_tup (pa_cons (pe_ix ix_list (pv 3) (pv 8) (fun _ _ => rfl)) (pa_cons (pv 11) pa_nil))) pa_nil)))))))
    (pss_one (ps_ret (pv 4))))))), ?_⟩
  obtain ⟨v, R, most, rfl, hv, hR7, hm1, hm6, k⟩ := hp
  obtain ⟨ta, hta, hq⟩ := dp_strs hv
  with_reducible refine s_seq ?_
  refine s_two wd (ev_tup (ea_cons (ev_words ?_)))
  walk_at "ev"
  refine ev_draw ?_
  walk_at "ev"
  refine ⟨most, rfl, hm1, by omega, fun z G1 hz e1 => ?_⟩
  walk_at "ev"
  refine rv_I0 (ea_nil ⟨1 + z, by rw [Int.natCast_add]; rfl, by omega, fun names nv G2 hnames hnl e2 hnv => ea_cons (ev_lst (ea_nil ⟨by decide, fun f hf => ea_nil ⟨by show 2 ≤ 1000000; decide, fun t ht => ⟨t, nv, .ref f, rfl, SqT.of upd_same, fun H1 s1 w1 => ?_⟩⟩⟩))⟩)
  have e02 := e1.trans e2
  have hf1 : H1 f = some (.lst []) := w1.same _ _ (same_new ht _ _ upd_same)
  replace s1 := s1.unnew (e02.trans (same_new hf)) ht
  replace w1 := wd.unnew (e02.trans (same_new hf)) ht w1
  have hGf : G f = none := by
    cases z : G f with
    | none => rfl
    | some o => rw [e02 _ _ z] at hf; cases hf
  have hf0 : H f = none := s1.newAt hGf upd_same
  replace s1 := s1.unnew e02 hf
  replace w1 := wd.unnew e02 hf w1
  have nbf : ¬ Bg (some (bg, bc)) f := wd.off hf0
  have hv1 := Dpm hv s1.gg
  have hq1 := sqt_mono s1.gg hq
  clear wd ht
  have hnl2 : (names.map PyData.str).length = names.length := List.length_map ..
  dsimp only
  with_reducible refine s_seq ?_
  refine s_if w1 (et_test ?_)
  walk_at "ev"
  refine ev_draw ?_
  walk_at "ev"
  refine ⟨3, rfl, by decide, by decide, fun z0 G3 hz0 e3 => ?_⟩
  walk_at "ev"
  refine rv_eqB rfl ⟨_, rfl, fun H2 s2 w2 => ⟨fun _ => ?_, fun _ => ?_⟩⟩
  · replace s2 := s1.trans s2
    have hv2 := Dpm hv1 e3
    have hnv2 := Dpm hnv e3
    clear w1
    dsimp only
    walk_at "ev"
    refine lcT (K := K) (ev_var rfl ⟨ta, _, hta, sqt_mono e3 hq1, by rw [List.length_map]; omega, fun i acc G4 => Same G3 G4 ∧ ∃ S : List (List Int), S.length = i ∧ (∀ s ∈ S, s.length = names.length) ∧ DpAll K G4 acc (S.map fun s => .list (s.map .int)), ⟨Same.refl _, [], rfl, fun _ h => (nomatch h), .nil⟩, ?_, ?_⟩)
    · rintro i x G4 acc hi e4 ⟨_, S, hS, hSn, hacc⟩ -
      refine ⟨_, fun H _ => gv_name, by rfl, et_yes ⟨fun _ => ?_, fun h => nomatch h⟩⟩
      refine ev_mixed ?_
      walk_at "ev"
      refine ev_listRg (K := K) ?_
      walk_at "ev"
      refine rv_lenE (.inl (Dpm hnv2 e4)) ⟨names.length, by rw [hnl2], by omega, fun rg G5 e5 hrg => ?_⟩
      walk_at "ev"
      refine ⟨_, _, rfl, .inl (.inl hrg), by rw [List.length_map, List.length_range]; omega, fun ds' v' G6 hp e6 hv' => ?_⟩
      have hp2 : ds'.Perm (((List.range names.length).map fun i => ((i : Nat) : Int)).map .int) := by rw [List.map_map]; exact hp
      obtain ⟨l, hl, rfl⟩ := perm_map_inv hp2 _ rfl
      refine ⟨(e4.trans e5).trans e6, S ++ [l], by rw [List.length_append, hS]; rfl, fun s hs => ?_, ?_⟩
      · rcases List.mem_append.mp hs with hs | hs
        · exact hSn s hs
        · rw [List.mem_singleton.mp hs, hl.length_eq, List.length_map, List.length_range]
      · rw [List.map_append]
        exact dpa_snoc (Dpam hacc (e5.trans e6)) hv'
    · rintro acc G4 e4 ⟨_, S, hS, hSn, hacc⟩ - q hq4 H5 s5 w5
      rw [List.length_map] at hS
      have hsv := dp_newL hacc hq4
      have e5 := e4.trans (same_new (o := .lst acc) hq4)
      generalize upd G4 q (.lst acc) = G5 at s5 w5 hsv e5
      have hnv5 := Dpm hnv2 e5
      obtain ⟨na, rfl, hna⟩ := dp_strsL hnv5
      clear w2
      dsimp only
      walk_at "ev"
      refine lcEA (K := K) (fun _ _ => by rfl) (ea_cons (ev_var rfl (ea_nil ⟨na, _, rfl, .inl hna, by rw [List.length_map]; omega, fun i acc G6 => ∃ ls : List LineT, ls.map (·.1) = names.take i ∧ (∀ l ∈ ls, l.2.length = R.length) ∧ DpAll K G6 acc (ls.map encLine), ⟨[], rfl, fun _ h => (nomatch h), .nil⟩, fun i acc G6 G7 e ⟨ls, h1, h2, h3⟩ => ⟨ls, h1, h2, Dpam h3 e⟩, ?_, ?_⟩)))
      · rintro i x G6 acc hi e6 ⟨ls, h1, h2, h3⟩ -
        rw [List.getElem?_map] at hi
        obtain ⟨nm, hnm, rfl⟩ := Option.map_eq_some_iff.mp hi
        have hin : i < names.length := (List.getElem?_eq_some_iff.mp hnm).1
        refine et_yes ⟨fun _ => ?_, fun h => nomatch h⟩
        refine ev_tup (ea_cons (ev_var rfl (ea_cons (ev_tupOf (lcLa (K := K) (fun s : List Int => .list (s.map .int)) S (fun _ => true) (fun s => .int (s.getD i 0)) (by omega) (ev_var rfl ⟨Dpm hsv e6, fun y G7 s hs e7 hy => ?_, fun rv G7 e7 hrv => ⟨_, .inl hrv, fun tv G8 e8 htv => ea_nil ⟨by show 2 ≤ 1000000; decide, fun t2 ht2 => ?_⟩⟩⟩))))))
        · refine ⟨_, fun H _ => gv_name, by rfl, et_yes ⟨rfl, fun _ => ?_⟩⟩
          walk_at "ev"
          have hsl := hSn s hs
          refine rv_ixDL hy (show (s.map PyData.int)[i]? = some (.int (s.getD i 0)) by
            rw [List.getElem?_map, List.getElem?_eq_getElem (by omega), List.getD_eq_getElem?_getD, List.getElem?_eq_getElem (by omega)]
            rfl) fun v hv => hv
        · rw [List.filter_eq_self.mpr fun _ _ => rfl] at htv
          have htv2 : Dp K G8 tv (.tuple ((S.map fun s => s.getD i 0).map .int)) := by rw [List.map_map]; exact htv
          refine ⟨ls ++ [(nm, S.map fun s => s.getD i 0)], by rw [List.map_append, h1, List.take_succ, hnm]; rfl, fun l hl => ?_, ?_⟩
          · rcases List.mem_append.mp hl with hl | hl
            · exact h2 l hl
            · rw [List.mem_singleton.mp hl]
              show (S.map _).length = _
              rw [List.length_map, hS]
          · rw [List.map_append]
            exact dpa_snoc (Dpam h3 ((e7.trans e8).trans (same_new ht2))) (dp_newT (dpa_two (.str _) htv2) ht2)
      · rintro acc G6 e6 ⟨ls, h1, h2, h3⟩ - q2 hq6 H7 s7 w7
        rw [List.length_map, List.take_of_length_le (Nat.le_refl _)] at h1
        have hlen := congrArg List.length h1
        rw [List.length_map] at hlen
        exact kq _ _ _ ((s2.trans s5).trans s7) w7 (k ls _ _ ⟨by rw [h1]; exact hnames, h2, by omega, by omega, by omega⟩ ((s2.trans s5).trans s7).gg (dp_newL h3 hq6))
  · have hh2 := s2.hh _ _ hf1 nbf
    have hf3 := s2.fr f hf (by rw [hf1]; exact fun z => nomatch z)
    replace s2 := s1.trans s2
    have hv2 := Dpm hv1 e3
    have hnv2 := Dpm hnv e3
    clear w1
    walk_at "ev"
    dsimp only
    walk_at "ev"
    refine ev_of ?_
    walk_at "ev"
    refine ev_lst ?_
    walk_at "ev"
    refine ⟨by show 7 ≤ 1000000; decide, fun hp hhp => ea_nil ⟨_, _, rfl, .inl (.inl (dp_newL (dpa_ints [2, 3, 3, 4, 2, 3, 7]) hhp)), by decide, by decide, fun d v' G4 hd e4 hvw H3 s3 w3 => ?_⟩⟩
    obtain ⟨wide, hw1, hw2, rfl⟩ : ∃ wide : Nat, 1 ≤ wide ∧ wide ≤ 7 ∧ d = .int (wide : Int) := by
      obtain ⟨z, hz, rfl⟩ := List.mem_map.mp hd
      have h0 : ∀ z ∈ ([2, 3, 3, 4, 2, 3, 7] : List Int), 1 ≤ z.toNat ∧ z.toNat ≤ 7 ∧ ((z.toNat : Nat) : Int) = z := by decide +kernel
      exact ⟨z.toNat, (h0 z hz).1, (h0 z hz).2.1, by rw [(h0 z hz).2.2]⟩
    cases dp_int hvw
    have hh3 := s3.hh _ _ hh2 nbf
    have hf4 := s3.fr f hf3 (by rw [hh2]; exact fun z => nomatch z)
    replace s3 := s2.trans s3
    have e4' := (same_new (o := .lst [.int 2, .int 3, .int 3, .int 4, .int 2, .int 3, .int 7]) hhp).trans e4
    have hnv4 := Dpm hnv2 e4'
    have hq4 := sqt_mono e4' (sqt_mono e3 hq1)
    clear w2
    with_reducible refine s_seq ?_
    refine s_forR1 w3 (ea_cons (ev_cb (ea_cons (ev_var rfl (ea_nil (rv_lenE (.inl hnv4) (ea_nil ⟨names.length, by rw [hnl2], by omega, fun i σ G5 H5 => Same G4 G5 ∧ Stp (Bg (some (bg, bc))) G H G5 H5 ∧ Wd (some (bg, bc)) G5 H5 ∧ G5 f = none ∧ ∃ (acc : List V) (ls : List LineT) (z5 z6 z7 z8 z9 z11 : Option V), σ = [some (.ref bg), some v, some (.int (most : Nat)), some nv, some (.ref f), z5, z6, z7, z8, z9, some (.int (wide : Nat)), z11] ∧ H5 f = some (.lst acc) ∧ DpAll K G5 acc (ls.map encLine) ∧ ls.map (·.1) = names.take i ∧ ∀ l ∈ ls, l.2.length = R.length, ⟨?_, ?_⟩, ?_, ?_⟩)))))))
    · exact fun i σ G4 H4 h => ⟨h.1, h.2.2.1⟩
    · rintro σ G5 H5 ⟨g5, s5, w5, hf5, acc, ls, z5, z6, z7, z8, z9, z11, rfl, hh5, hacc, hnm, hrl⟩
      clear w3
      dsimp only
      walk_at "ev"
      intro H6 s6 w6
      rw [List.take_of_length_le (by omega)] at hnm
      have hlen := congrArg List.length hnm
      rw [List.length_map] at hlen
      have hh6 := s6.hh _ _ hh5 nbf
      have w7 := w6.know hh6 hf5 nbf
      have s7 := (s5.trans s6).know hf0 hh6 hf5
      exact kq _ _ _ s7 w7 (k ls _ _ ⟨by rw [hnm]; exact hnames, hrl, by omega, by omega, by omega⟩ s7.gg (dp_newL hacc hf5))
    · intro H5 s5 w5
      exact ⟨Same.refl _, s3.trans s5, w5, hf4, [], [], _, _, _, _, _, _, rfl, s5.hh _ _ hh3 nbf, .nil, rfl, fun _ h => nomatch h⟩
    · rintro i σ G5 H5 hi ⟨g5, s5, w5, hf5, acc, ls, z5, z6, z7, z8, z9, z11, rfl, hh5, hacc, hnm, hrl⟩
      have hH5 : H5 f ≠ none := by rw [hh5]; exact fun z => nomatch z
      have hal : ls.length = i := by
        have := congrArg List.length hnm
        rw [List.length_map, List.length_take] at this
        omega
      clear w3
      walk_at "ev"
      refine ev_tupOf (lcT (K := K) (ev_var rfl ⟨ta, _, hta, sqt_mono g5 hq4, by rw [List.length_map]; omega, fun j acc2 G6 => Same G5 G6 ∧ ∃ zs : List Int, zs.length = j ∧ acc2 = zs.map V.int, ⟨Same.refl _, [], rfl, rfl⟩, ?_, ?_⟩))
      · rintro j x G6 acc2 hj e6 ⟨_, zs, hzs, rfl⟩ -
        refine ⟨_, fun H _ => gv_name, by rfl, et_yes ⟨fun _ => ?_, fun h => nomatch h⟩⟩
        have done : ∀ (z : Int) G7, Same G6 G7 → Same G5 G7 ∧ ∃ zs' : List Int, zs'.length = j + 1 ∧ zs.map V.int ++ [V.int z] = zs'.map V.int := fun z G7 e7 => ⟨e6.trans e7, zs ++ [z], by rw [List.length_append, hzs]; rfl, by rw [List.map_append]; rfl⟩
        refine ev_if (et_test ?_)
        walk_at "ev"
        refine rv_I0 ⟨_, rfl, fun h => ?_, fun h => ?_⟩
        · refine ev_draw ?_
          walk_at "ev"
          exact ⟨wide, rfl, hw1, by omega, fun z G7 _ e7 => done _ _ e7⟩
        · refine ev_of ?_
          walk_at "ev"
          refine ev_lst (ea_cons (ev_c (ea_cons (ev_c (ea_cons (ev_un (ev_c (Rv.here (fun H e Q q => ⟨_, rfl, q⟩) (ea_cons (ev_un (ev_c (Rv.here (fun H e Q q => ⟨_, rfl, q⟩) ?_))))))))))))
          walk_at "ev"
          refine ⟨by show 7 ≤ 1000000; decide, fun hp2 hhp2 => ea_nil ⟨_, _, rfl, .inl (.inl (dp_newL (dpa_ints [0, 999999999, -999999999, -1, 5, 1, 12]) hhp2)), by decide, by decide, fun d v' G7 hd7 e7 hv7 => ?_⟩⟩
          obtain ⟨z, hz, rfl⟩ := List.mem_map.mp hd7
          cases dp_int hv7
          exact done _ _ ((same_new hhp2).trans e7)
      · rintro acc2 G6 e6 ⟨_, zs, hzs, rfl⟩ - q hq6
        rw [List.length_map] at hzs
        refine ⟨_, .inl (dp_newL (dpa_ints zs) hq6), fun rv G7 e7 hrv H7 s7 w7 => ?_⟩
        have e57 := (e6.trans (same_new (o := .lst (zs.map V.int)) hq6)).trans e7
        have hf7 := s7.fr f hf5 hH5
        have hh7 := s7.hh _ _ hh5 nbf
        have hH7 : H7 f ≠ none := by rw [hh7]; exact fun z => nomatch z
        replace hacc := Dpam hacc e57
        have g7 := g5.trans e57
        replace s7 := s5.trans s7
        clear s5 w5
        dsimp only
        let Inv : L2.St → Hp → Prop := fun σ' H' => ∃ (r : List Int) (rv : V) (G6 : Hp) (z9 : Option V), σ' = [some (.ref bg), some v, some (.int (most : Nat)), some nv, some (.ref f), z5, z6, z7, some (.int (i : Nat)), z9, some (.int (wide : Nat)), some rv] ∧ r.length = R.length ∧ Dp K G6 rv (.tuple (r.map .int)) ∧ Same G7 G6 ∧ Stp (Bg (some (bg, bc))) G H G6 H' ∧ Wd (some (bg, bc)) G6 H' ∧ H' f = some (.lst acc) ∧ G6 f = none
        refine ⟨Inv, ?_, ?_⟩
        · refine s_if w7 (et_and (et_test ?_))
          walk_at "ev"
          refine rv_I0 ⟨_, rfl, fun hi0 => et_test ?_, fun _ H8 s8 w8 => ⟨fun h => (nomatch h), fun _ => ⟨zs, rv, G7, _, rfl, hzs, hrv, Same.refl _, s7.trans s8, w8, s8.hh _ _ hh7 nbf, hf7⟩⟩⟩
          have hi1 : 0 < i := by have := of_decide_eq_true hi0; omega
          walk_at "ev"
          refine ev_draw ?_
          walk_at "ev"
          refine ⟨5, rfl, by decide, by decide, fun z G8 hz e8 => ?_⟩
          walk_at "ev"
          refine rv_eqB rfl ⟨_, rfl, fun H8 s8 w8 => ⟨fun _ => ?_, fun _ => ?_⟩⟩
          · have hh8 := s8.hh _ _ hh7 nbf
            have hf8 := s8.fr f hf7 hH7
            have wk := w8.know hh8 hf8 nbf
            dsimp only
            with_reducible refine s_asg wk ?_
            refine ev_op (ev_op (ev_var rfl (ev_draw ?_)))
            walk_at "ev"
            refine ⟨i, rfl, hi1, by omega, fun j G9 hj e9 => ?_⟩
            have hx : (ls.map encLine)[j]? = some (encLine ls[j]) := by rw [List.getElem?_map, List.getElem?_eq_getElem (by omega)]; rfl
            obtain ⟨t, ht, hd⟩ := dpa_at hacc hx
            refine rv_ixL (SqL.of (e9 _ _ upd_same)) ht ?_
            walk_at "ev"
            obtain ⟨ta2, xs, rfl, hq2, hxs⟩ := dp_tup hd
            obtain ⟨rv2, h1, h2⟩ := dpa_at (i := 1) hxs rfl
            refine rv_ixT (i := 1) (sqt_mono ((e8.trans (same_new hf8)).trans e9) hq2) h1 fun H9 s9 w9 => ?_
            replace s9 := s9.back hf8
            replace w9 := w8.pull s9.gh w9
            exact ⟨ls[j].2, rv2, G8, _, rfl, hrl _ (List.getElem_mem _), Dpm h2 e8, e8, (s7.trans s8).trans s9, w9, s9.hh _ _ hh8 nbf, hf8⟩
          · exact ⟨zs, rv, G8, _, rfl, hzs, Dpm hrv e8, e8, s7.trans s8, w8, s8.hh _ _ hh7 nbf, s8.fr f hf7 hH7⟩
        · rintro σ H8 ⟨r, rv, G8, z9, rfl, hr8, hrv, e8, s8, w8, hh8, hf8⟩
          have hH8 : H8 f ≠ none := by rw [hh8]; exact fun z => nomatch z
          have hacl : acc.length ≤ 900000 := by
            rw [dpa_len hacc, List.length_map]
            omega
          refine s_app w8 rfl hh8 nbf hacl ?_
          refine ev_tup (ea_cons ?_)
          walk_at "ev"
          have hni : i < names.length := by omega
          refine rv_ixDL (Dpm hnv4 (g7.trans e8)) (show (names.map PyData.str)[i]? = some (.str names[i]) by rw [List.getElem?_map, List.getElem?_eq_getElem hni]; rfl) fun nmv hnm2 => ?_
          walk_at "ev"
          refine ⟨by show 2 ≤ 1000000; decide, fun t ht H9 s9 w9 hh9 => ?_⟩
          have hf9 := s9.fr f hf8 hH8
          refine ⟨_, (g7.trans e8).trans (same_new ht), (s8.trans s9).mut hf0 hf9, w9.mut hf9 nbf, hf9, _, ls ++ [(names[i], r)], _, _, _, _, _, _, rfl, upd_same, ?_, ?_, ?_⟩
          · rw [List.map_append]
            exact dpa_snoc (Dpam hacc (e8.trans (same_new ht))) (dp_newT (dpa_two hnm2 hrv) ht)
          · rw [List.map_append, hnm, List.take_succ, List.getElem?_eq_getElem hni]
            rfl
          · intro x hx
            rcases List.mem_append.mp hx with hx | hx
            · exact hrl x hx
            · rw [List.mem_singleton.mp hx]; exact hr8
theorem ev_lines {a c : Addr} {σ : L2.St} {G : Hp} {Q : V → Hp → Prop} {E : XK} {ta : TA} (h : Ev (some (a, c)) ta σ G fun vs G1 => ∃ (v : V) (R : List Str) (most : Nat), vs = [.ref a, v, .int (most : Int)] ∧ Dp K G1 v (.tuple (R.map .str)) ∧ R.length ≤ 7 ∧ 1 ≤ most ∧ most ≤ 6 ∧ ∀ ls v' G', LinesOk ls R.length → Same G1 G' → Dp K G' v' (.list (ls.map encLine)) → Q v' G') : Ev (some (a, c)) (tCall (SpB 2 (pLines K)) [] E ta) σ G Q :=
  ev_callB (Ev.mono h fun vs G1 _ ⟨v, R, most, ev, h1, h2, h3, h4, q⟩ => ⟨_, ev, rfl, v, R, most, rfl, h1, h2, h3, h4, q⟩)
end
end FD
namespace FD
open PySem PyProof.Rows L2
section
open PySem.W
variable {prog : Program} {w : World} {A : Around} {E : Value → Shared → Prop} {s : Shared} {K : Frag} {x C f : Addr} {ox : Obj} {od : Option Obj}
theorem plus_own {t : Value} {Q : Value → Shared → Prop} (kin : K.In s.heap) (I : InstAt s.heap x ox C od) (ht : Looks (model prog w) s.heap (typeOf t) (.type "tuple")) (a : AddF K C)
    (at_ : findIn K (.ref C) "__add__" = some (some (.ref f))) (fn : isFn K (.ref f) = true) (run : wpAny (model prog w) A (call (.ref f) [.ref x, t]) (PySem.W.CmpBack Q) E s) :
    wpAny (model prog w) A (binaryOp .Add (.ref x) t) Q E s := by
  obtain ⟨fo, h1⟩ := a.ta
  obtain ⟨ro, h2⟩ := a.tr
  obtain ⟨cd, rest, k1, k2⟩ := ksp_first a.sf
  have go := ksp_try kin I at_ fn run
  have info : Operator.Add.info = ("+", "add") := rfl
  obtain ⟨hh, g, d, tt, os⟩ := s
  have l1 : Looks (model prog w) hh (typeOf (.ref x)) (.ref C) := I.type
  have l2 : Looks (model prog w) hh (typeOf t) (.type "tuple") := ht
  have l3 : Looks (model prog w) hh (fillsNumberSlot (.ref C) "add") true := fills_K kin k1 k2 at_
  have l4 := ksp_fillsT (M := model prog w) (nm := "add") kin h1 h2
  have l5 : Looks (model prog w) hh (isSubtype (.type "tuple") (.ref C)) false := looks_subIn kin a.su
  have l6 : Looks (model prog w) hh (numberSlotInPython (.ref C) "add") true := ksp_inPy kin at_ a.ra (.inl rfl)
  have l7 : Looks (model prog w) hh (numberSlotInPython (.type "tuple") "add") false := Looks.of_pure rfl
  have l8 : Looks (model prog w) hh (typeLookup (.type "tuple") (dunderR "add")) ro := looks_findIn kin h2
  generalize ((fo.isSome && !isSeqSlot fo) || (ro.isSome && !isSeqSlot ro)) = right at l4
  have ne : (Value.ref C == Value.type "tuple") = false := Bool.eq_false_iff.mpr fun q => by cases beq_iff_eq.mp q
  simp only [binaryOp, info]
  refine wpAny_holding (wpAny_bind ?_)
  unfold binaryOp1
  refine wpAny_bind (l1.at (wpAny_bind (l2.at (wpAny_bind (l3.at ?_)))))
  simp only [ne, Bool.false_eq_true, if_false]
  cases right
  all_goals
    ksp_lk
    refine wpAny_mono go (fun r s' z => ?_) fun _ _ e => e
    obtain ⟨v, rfl, q⟩ := z
    ksp_lk
    exact q
end
section
variable {X : Cx} {CX : CXT} {C : Addr} {k : Nat} {sp : Sp} {E : XK} {ps : List Str}
def rAddO (K : PySem.W.Frag) (C : Addr) (sp : Sp) (E : XK) : R2 := fun x y H Q => ∃ a dx fs t xs, x = .ref a ∧ y = .ref t ∧ H a = some (.ins C dx fs) ∧ SqT K H t xs ∧ sp [x, y] H Q E
theorem op_addO (D : DefM X.prog X.w X.K X.mg X.base CX k C "__add__" ps sp) (a : AddF X.K C) (hr : Room k X.A) (hx : Passes CX X E) : OpR X (binaryOp .Add) (rAddO X.K C sp E) := by
  obtain ⟨g, fd, F, M, hb⟩ := D
  intro pins s σ H x y v u Q I rx ry h
  obtain ⟨c, dx, fs, t, xs, rfl, rfl, hc, ht, q⟩ := h
  cases (show v = Value.ref c from rx)
  cases (show u = Value.ref t from ry)
  obtain ⟨mA, O, _, _, _, _⟩ := ins_get I.hok hc
  obtain ⟨od, J, _⟩ := O.look
  obtain ⟨its, _, ⟨o, e1, e2, _⟩, _⟩ := I.tuple ht
  refine plus_own I.kIn J (fun A Q E s k q => wpAny_typeOf_ref (k _ _ e1) (by rw [e2]; exact q)) a M.at_ M.fn ?_
  refine wpAny_mono (wpAny_call (run_fnR (us := [.ref c, .ref t]) (vs := [.ref c, .ref t]) (defC_raw F hb) hr hx I (.cons rfl (.cons rfl .nil)) q)) (fun w s' z => ?_) fun _ _ x => x
  obtain ⟨z', H', I', rz, qz⟩ := z
  exact SlX.cmpback rz ⟨z', H', I', rz, qz⟩
end
end FD
namespace FD
open PySem PyProof.Rows L2
section
variable {P : Program} {w : World} {K : PySem.W.Frag} {mg : Str → Option Value} {base : Heap}
local macro_rules | `(tactic| walk_at "ev") => `(tactic| repeat (first | with_reducible refine s_seq ?_ | with_reducible refine s_skip ?_ | with_reducible refine s_gn ?_ | with_reducible refine ev_op ?_ | with_reducible refine ev_un ?_ | ((with_reducible refine' ev_var ?hv ?_); (case hv => rfl)) | with_reducible refine ev_c ?_ | with_reducible refine ev_cb ?_ | with_reducible refine ea_cons ?_ | with_reducible refine ea_nil ?_ | with_reducible refine et_test ?_ | with_reducible refine et_B ?_ | with_reducible refine s_ret (by assumption) ?_ | with_reducible refine s_asg (by assumption) ?_))
theorem rv_addO {b : Option (Addr × Addr)} {G : Hp} {Q : V → Hp → Prop} {x y : V} {C : Addr} {pre : List V → Hp → (V → Hp → Prop) → Prop} {E : XK} {a dx t : Addr} {fs : List (Str × V)} {xs : List V} (ex : x = .ref a) (ey : y = .ref t) (ha : G a = some (.ins C dx fs)) (ht : SqT K G t xs) (hp : pre [x, y] G Q) : Rv b (rAddO K C (SpP 2 pre) E x y) G Q :=
  fun H w R k => ⟨a, dx, fs, t, xs, ex, ey, w.same _ _ ha, sqt_mono w.same ht, rfl, G, Q, w.same, hp, fun v G' H' s p => k v G' H' s.up (w.back s) p⟩
def RecsOk (R : List Str) (recs : List RecD) : Prop := NamesOk R ∧ sortedS R = true ∧ 1 ≤ R.length ∧ R.length ≤ 7 ∧ (∀ x ∈ recs, NameOk x.1) ∧ (recs.map (·.1)).Nodup ∧ (∀ x ∈ recs, RowFit R x.2) ∧ recs.length ≤ 40
theorem recsOk_arg {R : List Str} {recs : List RecD} (h : RecsOk R recs) (n : Nat) : BookArg R (recs.take n) := by
  obtain ⟨h1, h2, h3, h4, h5, h6, h7, h8⟩ := h
  refine ⟨h1, h3, h4, fun r hr => h5 r (List.mem_of_mem_take hr), ?_, fun r hr => ?_, ?_⟩
  · rw [List.map_take]
    exact h6.sublist (List.take_sublist _ _)
  · have q := h7 r (List.mem_of_mem_take hr)
    exact ⟨fun x hx => q.1.subset hx, fun x hx => q.2.1.subset hx⟩
  · rw [List.length_take]
    omega
def pBookL (K : PySem.W.Frag) : List V → Hp → (V → Hp → Prop) → Prop := fun vs G P => ∃ (v lv : V) (R : List Str) (recs : List RecD), vs = [v, lv] ∧ Dp K G v (.tuple (R.map .str)) ∧ Dp K G lv (.list (recs.map encRec)) ∧ RecsOk R recs ∧ ∀ v' G', Same G G' → BookIs K G' v' R recs → P v' G'
theorem d__law_book (T : Mo K mg) : Def P w K mg base CX0 8 "_law_book" ["_law_bag_here", "_law_some_here", "_law_recs_here"] (SpB 2 (pBookL K)) := by
  obtain ⟨fd, F⟩ := T.f__law_book
  refine ⟨_, fd, F.ok sc__law_book spB_len (fun cdv A outer s H vs Q E hr h => ?_), T.g__law_book, F.kp, F.bindsN fun _ _ _ _ _ _ us hl => match us, hl with | [_, _, _], _ => rfl⟩
  have hu := hu_of hr
  obtain ⟨_, bg, bc, G, P, vs, rfl, wd, hp, kq⟩ := h
  refine ⟨_, PSs.nox (pss_cons (ps_set (i := 3) sc__law_book.nd rfl (Or.inl rfl) (pe_d (d__law_mixed T) (hr.mono (by decide)) (by rfl) pass0 (pa_cons (pv 0) (pa_cons (pv 1) pa_nil))))
    (pss_cons (ps_set (i := 4) sc__law_book.nd rfl (Or.inl rfl) (pe_ifExp (pt_cmpR op_eq (pe_d (d__law_draw T) (hr.mono (by decide)) (by rfl) pass0 (pa_cons (pv 0) (pa_cons pe_int pa_nil))) pe_int (by rfl)) (FD.pe_dc (d_Book_init T) (hr.mono (by decide)) (by rfl) pass0 (pa_cons (pv 3) pa_nil)) (FD.pe_dc (d_Book_init T) (hr.mono (by decide)) (by rfl) pass0 (pa_cons (pe_tupleOf (by rfl) T.n_tuple (pv 3)) pa_nil))))
    (pss_cons (ps_for PassesOwn.never rfl (pi_seqB (pv 2)) (pg_tup rfl (pgs_cons (pg_name (i := 5) sc__law_book.nd rfl (Or.inl rfl)) (pgs_cons (pg_name (i := 6) sc__law_book.nd rfl (Or.inl rfl)) pgs_nil)))
      (pss_one (ps_set (i := 4) sc__law_book.nd rfl (Or.inl rfl) (pe_op (op_addO (d_Book_add T) T.ad_Book (hr.mono (by decide)) pass0) (pv 4) (pe_tup (pa_cons (pv 5) (pa_cons (FD.pe_dc (d_Row_init T) (hr.mono (by decide)) (by rfl) pass0 (pa_cons (pe_d (d__law_mixed T) (hr.mono (by decide)) (by rfl) pass0 (pa_cons (pv 0) (pa_cons (pe_ix ix_tup (pv 6) pe_int (fun _ _ => rfl)) pa_nil))) (pa_cons (pe_tupleOf (by rfl) T.n_tuple (pe_d (d__law_mixed T) (hr.mono (by decide)) (by rfl) pass0 (pa_cons (pv 0) (pa_cons (pe_ix ix_tup (pv 6) pe_int (fun _ _ => rfl)) pa_nil)))) pa_nil))) pa_nil)))))))
    (pss_one (ps_ret (pv 4)))))), ?_⟩
  obtain ⟨v, lv, R, recs, rfl, hv, hlv, hok, k⟩ := hp
  have hok' := hok
  obtain ⟨hR, hs, h1, h7, hn, hnd, hrf, h40⟩ := hok'
  walk_at "ev"
  refine ev_mixed ?_
  walk_at "ev"
  refine ⟨_, _, rfl, .inl (.inr hv), by rw [List.length_map]; omega, fun ds fv G1 hp1 e1 hfv H1 s1 w1 => ?_⟩
  obtain ⟨few, hfew, rfl⟩ := perm_map_inv hp1 _ rfl
  have arg0 : BookArg few [] := ⟨names_perm hR hfew, by rw [hfew.length_eq]; exact h1, by rw [hfew.length_eq]; exact h7, fun _ h => (nomatch h), List.nodup_nil, fun _ h => (nomatch h), Nat.zero_le _⟩
  have uniq : ∀ R', SortedOf R' few → R' = R := fun R' h => sort_unique (h.1.trans hfew) h.2 hs
  clear wd
  dsimp only
  walk_at "ev"
  refine Ev.mono (P := fun xv G2 => Same G1 G2 ∧ BookIs K G2 xv R []) ?_ fun xv G2 _ ⟨e2, hB⟩ H2 s2 w2 => ?_
  · refine ev_if (et_test ?_)
    walk_at "ev"
    refine ev_draw ?_
    walk_at "ev"
    refine ⟨2, rfl, by decide, by decide, fun z G2 hz e2 => ?_⟩
    walk_at "ev"
    refine rv_eqB rfl ⟨_, rfl, fun _ => ?_, fun _ => ?_⟩
    · refine ev_makeS (ea_cons (ev_var rfl (ea_nil ⟨fv, [], rfl, by decide, fv, [], few, [], rfl, .inl (Dpm hfv e2), .nil, arg0, fun R' v' G3 hR' e3 _ hB => ?_⟩)))
      obtain rfl := uniq R' hR'
      exact ⟨e2.trans e3, hB⟩
    · refine ev_makeS (ea_cons (ev_tupOf (ev_var rfl ⟨_, .inl (Dpm hfv e2), fun tv G3 e3 htv => ea_nil ⟨tv, [], rfl, by decide, tv, [], few, [], rfl, .inr htv, .nil, arg0, fun R' v' G4 hR' e4 _ hB => ?_⟩⟩)))
      obtain rfl := uniq R' hR'
      exact ⟨(e2.trans e3).trans e4, hB⟩
  have hlv2 := Dpm hlv (s1.trans s2).gg
  clear w1
  dsimp only
  with_reducible refine s_seq ?_
  refine s_forB (K := K) w2 (ev_var rfl ⟨_, .inl (.inl hlv2), fun i σ G3 H3 => Same G2 G3 ∧ Stp (Bg (some (bg, bc))) G H G3 H3 ∧ Wd (some (bg, bc)) G3 H3 ∧ ∃ (xv : V) (z5 z6 : Option V), σ = [some (.ref bg), some v, some lv, some fv, some xv, z5, z6] ∧ BookIs K G3 xv R (recs.take i), ⟨?_, ?_⟩, ?_, ?_⟩)
  · exact fun i σ G2 H2 h => ⟨h.1, h.2.2.1⟩
  · rintro σ G3 H3 ⟨g3, s3, w3, xv, z5, z6, rfl, hB3⟩
    rw [List.length_map, List.take_of_length_le (Nat.le_refl _)] at hB3
    clear w2
    dsimp only
    walk_at "ev"
    exact fun H4 s4 w4 => kq _ _ _ (s3.trans s4) w4 (k _ _ (s3.trans s4).gg hB3)
  · intro H3 s3 w3
    exact ⟨Same.refl _, (s1.trans s2).trans s3, w3, xv, _, _, rfl, hB⟩
  · rintro i x d σ G3 H3 hd hx ⟨g3, s3, w3, xv, z5, z6, rfl, hB3⟩
    obtain ⟨rc, hrc, rfl⟩ := map_at hd
    have hmem := List.mem_of_getElem? hrc
    have hfit := hrf rc hmem
    obtain ⟨v1, v2, h11, h12, hg⟩ := gv_pair (i := 5) (j := 6) hx
    cases dp_str h11
    refine hg _ _ w3.same _ ?_
    clear w2
    dsimp only
    with_reducible refine s_asg w3 ?_
    walk_at "ev"
    refine ev_tup (ea_cons (ev_var rfl (ea_cons (ev_make (ea_cons (ev_mixed ?_))))))
    walk_at "ev"
    have hl1 := hfit.1.length_le
    have hl2 := hfit.2.1.length_le
    refine rv_ixDT (i := 0) h12 rfl fun pv hpv => ea_nil ⟨_, _, rfl, .inl (.inr hpv), by rw [List.length_map]; omega, fun ds pv2 G4 hp4 e4 hpv2 => ?_⟩
    obtain ⟨ps, hps, rfl⟩ := perm_map_inv hp4 _ rfl
    refine ea_cons (ev_tupOf (ev_mixed ?_))
    walk_at "ev"
    refine rv_ixDT (i := 1) (Dpm h12 e4) rfl fun cv hcv => ea_nil ⟨_, _, rfl, .inl (.inr hcv), by rw [List.length_map]; omega, fun ds cv2 G5 hp5 e5 hcv2 => ⟨_, .inl hcv2, fun tv G6 e6 htv => ?_⟩⟩
    obtain ⟨cs, hcs, rfl⟩ := perm_map_inv hp5 _ rfl
    have np := names_perm (names_sub hR hfit.1) hps
    have nc := names_perm (names_sub hR hfit.2.1) hcs
    have hpl := hps.length_eq
    have hcl := hcs.length_eq
    refine ea_nil ⟨rfl, pv2, tv, ps, cs, rfl, .inl (Dpm hpv2 (e5.trans e6)), .inr htv, np, nc, fun x hx hxc => hfit.2.2 x (hps.mem_iff.mp hx) (hcs.mem_iff.mp hxc), by omega, fun p' c' rv G7 hp' hc' e7 hrow => ea_nil ⟨by show 2 ≤ 1000000; decide, fun t ht => ?_⟩⟩
    have ep : p' = rc.2.1 := sort_unique (hp'.1.trans hps) hp'.2 (sorted_sub hs hfit.1)
    have ec : c' = rc.2.2 := sort_unique (hc'.1.trans hcs) hc'.2 (sorted_sub hs hfit.2.1)
    subst ep ec
    have htake : recs.take i ++ [rc] = recs.take (i + 1) := by rw [List.take_succ, hrc]; rfl
    have e37 := ((e4.trans e5).trans e6).trans e7
    have hB4 := bookIs_mono (e37.trans (same_new (o := .tup [.str rc.1, rv]) ht)) hB3
    have hB4' := hB4
    obtain ⟨ba, bdx, bt, bd, bkvs, rfl, hb1, hb2, hb3, hb4⟩ := hB4'
    refine rv_addO rfl rfl hb1 (SqT.of upd_same) ⟨_, _, R, recs.take i, rc, rfl, hB4, ⟨t, rv, rfl, upd_same, rowIs_mono (same_new ht) hrow⟩, hs, by rw [htake]; exact recsOk_arg hok _, fun v' G8 e8 hB8 H8 s8 w8 => ?_⟩
    rw [htake] at hB8
    exact ⟨G8, g3.trans s8.gg, s3.trans s8, w8, v', _, _, rfl, hB8⟩
theorem ev_bookL {a c : Addr} {σ : L2.St} {G : Hp} {Q : V → Hp → Prop} {E : XK} {ta : TA} (h : Ev (some (a, c)) ta σ G fun vs G1 => ∃ (v lv : V) (R : List Str) (recs : List RecD), vs = [.ref a, v, lv] ∧ Dp K G1 v (.tuple (R.map .str)) ∧ Dp K G1 lv (.list (recs.map encRec)) ∧ RecsOk R recs ∧ ∀ v' G', Same G1 G' → BookIs K G' v' R recs → Q v' G') : Ev (some (a, c)) (tCall (SpB 2 (pBookL K)) [] E ta) σ G Q :=
  ev_callB (Ev.mono h fun vs G1 _ ⟨v, lv, R, recs, ev, h1, h2, h3, q⟩ => ⟨_, ev, rfl, v, lv, R, recs, rfl, h1, h2, h3, q⟩)
end
end FD
namespace FD
open PySem PyProof.Rows L2
section
variable {P : Program} {w : World} {K : PySem.W.Frag} {mg : Str → Option Value} {base : Heap}
local macro_rules | `(tactic| walk_at "ev") => `(tactic| repeat (first | with_reducible refine s_seq ?_ | with_reducible refine s_skip ?_ | with_reducible refine s_gn ?_ | with_reducible refine ev_op ?_ | with_reducible refine ev_un ?_ | ((with_reducible refine' ev_var ?hv ?_); (case hv => rfl)) | with_reducible refine ev_c ?_ | with_reducible refine ev_cb ?_ | with_reducible refine ea_cons ?_ | with_reducible refine ea_nil ?_ | with_reducible refine et_test ?_ | with_reducible refine et_B ?_ | with_reducible refine s_ret (by assumption) ?_ | with_reducible refine s_asg (by assumption) ?_))
def encG (how : Bool) (l : LineT) : PyData := .tuple [.str l.1, if how = true then .list (l.2.map .int) else .tuple (l.2.map .int)]
theorem lineArg_of {G : Hp} {u : V} {how : Bool} {l : LineT} (h : Dp K G u (encG how l)) : LineArg K G u l := by
  obtain ⟨t, xs, rfl, q, d⟩ := dp_tup h
  cases d with
  | @cons v1 r1 _ _ h1 h2 => cases h2 with
    | @cons v2 r2 _ _ h2 h3 =>
      cases h3
      cases dp_str h1
      refine ⟨t, v2, rfl, q, ?_⟩
      cases how with
      | true => exact .inl h2
      | false => exact .inr h2
def pMade (K : PySem.W.Frag) : List V → Hp → (V → Hp → Prop) → Prop := fun vs G P => ∃ (fv gv : V) (R : List Str) (ls : List LineT) (how : Bool), vs = [fv, gv] ∧ DpE K G fv (R.map .str) ∧ Dp K G gv (.list (ls.map (encG how))) ∧ ReasonsOk R ∧ LinesOk ls R.length ∧ ∀ R' v' G', SortedOf R' R → Same G G' → SheetIs K G' v' R' ls → P v' G'
theorem d__law_made (T : Mo K mg) : Def P w K mg base CX0 7 "_law_made" ["_law_few_here", "_law_given"] (SpP 2 (pMade K)) := by
  obtain ⟨fd, F⟩ := T.f__law_made
  refine ⟨_, fd, F.ok sc__law_made spP_len (fun cdv A outer s H vs Q E hr h => ?_), T.g__law_made, F.kp, F.bindsN fun _ _ _ _ _ _ us hl => match us, hl with | [_, _], _ => rfl⟩
  have hu := hu_of hr
  obtain ⟨_, G, P, sm, hp, kq⟩ := h
  have wd : Wd none G H := .none sm
  refine ⟨_, PSs.nox (pss_cons (ps_set (i := 2) sc__law_made.nd rfl (Or.inl rfl) (pe_callB call_len_seq (by rfl) T.n_len (by decide +kernel) (pa_cons (pv 1) pa_nil)))
    (pss_cons (ps_if (pt_cmpR op_lt (pv 2) pe_int (by rfl)) (pss_one (ps_ret (pe_ifExp (pt_cmpR op_eq (pv 2) pe_int (by rfl)) (FD.pe_dc (d_Sheet_init T) (hr.mono (by decide)) (by rfl) pass0 (pa_cons (pv 0) pa_nil)) (FD.pe_dc (d_Sheet_init T) (hr.mono (by decide)) (by rfl) pass0 (pa_cons (pv 0) (pa_cons (pe_ix ix_list (pv 1) pe_int (fun _ _ => rfl)) pa_nil)))))) pss_nil)
    (pss_cons (ps_if (pt_cmpR op_lt (pv 2) pe_int (by rfl)) (pss_one (ps_ret (pe_ifExp (pt_cmpR op_eq (pv 2) pe_int (by rfl)) (FD.pe_dc (d_Sheet_init T) (hr.mono (by decide)) (by rfl) pass0 (pa_cons (pv 0) (pa_cons (pe_ix ix_list (pv 1) pe_int (fun _ _ => rfl)) (pa_cons (pe_ix ix_list (pv 1) pe_int (fun _ _ => rfl)) pa_nil)))) (FD.pe_dc (d_Sheet_init T) (hr.mono (by decide)) (by rfl) pass0 (pa_cons (pv 0) (pa_cons (pe_ix ix_list (pv 1) pe_int (fun _ _ => rfl)) (pa_cons (pe_ix ix_list (pv 1) pe_int (fun _ _ => rfl)) (pa_cons (pe_ix ix_list (pv 1) pe_int (fun _ _ => rfl)) pa_nil)))))))) pss_nil)
    (pss_cons (ps_if (pt_cmpR op_eq (pv 2) pe_int (by rfl)) (pss_one (ps_ret (FD.pe_dc (d_Sheet_init T) (hr.mono (by decide)) (by rfl) pass0 (pa_cons (pv 0) (pa_cons (pe_ix ix_list (pv 1) pe_int (fun _ _ => rfl)) (pa_cons (pe_ix ix_list (pv 1) pe_int (fun _ _ => rfl)) (pa_cons (pe_ix ix_list (pv 1) pe_int (fun _ _ => rfl)) (pa_cons (pe_ix ix_list (pv 1) pe_int (fun _ _ => rfl)) pa_nil)))))))) pss_nil)
    (pss_cons (ps_if (pt_cmpR op_eq (pv 2) pe_int (by rfl)) (pss_one (ps_ret (FD.pe_dc (d_Sheet_init T) (hr.mono (by decide)) (by rfl) pass0 (pa_cons (pv 0) (pa_cons (pe_ix ix_list (pv 1) pe_int (fun _ _ => rfl)) (pa_cons (pe_ix ix_list (pv 1) pe_int (fun _ _ => rfl)) (pa_cons (pe_ix ix_list (pv 1) pe_int (fun _ _ => rfl)) (pa_cons (pe_ix ix_list (pv 1) pe_int (fun _ _ => rfl)) (pa_cons (pe_ix ix_list (pv 1) pe_int (fun _ _ => rfl)) pa_nil))))))))) pss_nil)
    (pss_cons (ps_if (pt_cmpR op_eq (pv 2) pe_int (by rfl)) (pss_one (ps_ret (FD.pe_dc (d_Sheet_init T) (hr.mono (by decide)) (by rfl) pass0 (pa_cons (pv 0) (pa_cons (pe_ix ix_list (pv 1) pe_int (fun _ _ => rfl)) (pa_cons (pe_ix ix_list (pv 1) pe_int (fun _ _ => rfl)) (pa_cons (pe_ix ix_list (pv 1) pe_int (fun _ _ => rfl)) (pa_cons (pe_ix ix_list (pv 1) pe_int (fun _ _ => rfl)) (pa_cons (pe_ix ix_list (pv 1) pe_int (fun _ _ => rfl)) (pa_cons (pe_ix ix_list (pv 1) pe_int (fun _ _ => rfl)) pa_nil)))))))))) pss_nil)
    (pss_one (ps_ret (FD.pe_dc (d_Sheet_init T) (hr.mono (by decide)) (by rfl) pass0 (pa_cons (pv 0) (pa_cons (pe_ix ix_list (pv 1) pe_int (fun _ _ => rfl)) (pa_cons (pe_ix ix_list (pv 1) pe_int (fun _ _ => rfl)) (pa_cons (pe_ix ix_list (pv 1) pe_int (fun _ _ => rfl)) (pa_cons (pe_ix ix_list (pv 1) pe_int (fun _ _ => rfl)) (pa_cons (pe_ix ix_list (pv 1) pe_int (fun _ _ => rfl)) (pa_cons (pe_ix ix_list (pv 1) pe_int (fun _ _ => rfl)) (pa_cons (pe_ix ix_list (pv 1) pe_int (fun _ _ => rfl)) pa_nil))))))))))))))))), ?_⟩
  obtain ⟨fv, gv, R, ls, how, rfl, hfv, hgv, hR, hok, k⟩ := hp
  have hl1 := hok.2.2.1
  have hl6 := hok.2.2.2.1
  walk_at "ev"
  refine rv_lenE (.inl hgv) fun H1 s1 w1 => ?_
  have hn : (ls.map (encG how)).length = ls.length := List.length_map ..
  rw [hn]
  clear hn wd
  generalize hn : ls.length = n at hl1 hl6
  obtain rfl | rfl | rfl | rfl | rfl | rfl : n = 1 ∨ n = 2 ∨ n = 3 ∨ n = 4 ∨ n = 5 ∨ n = 6 := by omega
  · obtain ⟨l0, rfl⟩ : ∃ l0, ls = [l0] := by
      match ls, hn with
      | [l0], _ => exact ⟨l0, rfl⟩
    dsimp only
    with_reducible refine s_seq ?_
    refine s_if w1 (et_test ?_)
    walk_at "ev"
    refine rv_I0 ⟨_, rfl, fun H2 s2 w2 => ⟨fun _ => ?_, (fun z => absurd z (by decide))⟩⟩
    replace s2 := s1.trans s2
    clear w1
    walk_at "ev"
    refine ev_if (et_test ?_)
    walk_at "ev"
    refine rv_eqB rfl ⟨_, rfl, (fun z => absurd z (by decide)), fun _ => ?_⟩
    refine ev_makeS (ea_cons (ev_var rfl ?_))
    walk_at "ev"
    refine rv_ixDL (i := 0) hgv rfl fun u0 hu0 => ?_
    refine ea_nil ⟨fv, [u0], rfl, by show 1 ≤ 1000; decide, fv, [u0], R, _, rfl, hfv, hR, (.cons (lineArg_of hu0) .nil), hok, fun R' v' G1 hR' e1 hS H9 s9 w9 => ?_⟩
    exact kq _ _ _ (s2.trans s9) (k _ _ _ hR' (s2.trans s9).gg hS)
  · obtain ⟨l0, l1, rfl⟩ : ∃ l0 l1, ls = [l0, l1] := by
      match ls, hn with
      | [l0, l1], _ => exact ⟨l0, l1, rfl⟩
    dsimp only
    with_reducible refine s_seq ?_
    refine s_if w1 (et_test ?_)
    walk_at "ev"
    refine rv_I0 ⟨_, rfl, fun H2 s2 w2 => ⟨(fun z => absurd z (by decide)), fun _ => ?_⟩⟩
    replace s2 := s1.trans s2
    clear w1
    refine s_skip ?_
    dsimp only
    with_reducible refine s_seq ?_
    refine s_if w2 (et_test ?_)
    walk_at "ev"
    refine rv_I0 ⟨_, rfl, fun H3 s3 w3 => ⟨fun _ => ?_, (fun z => absurd z (by decide))⟩⟩
    replace s3 := s2.trans s3
    clear w2
    walk_at "ev"
    refine ev_if (et_test ?_)
    walk_at "ev"
    refine rv_eqB rfl ⟨_, rfl, fun _ => ?_, (fun z => absurd z (by decide))⟩
    refine ev_makeS (ea_cons (ev_var rfl ?_))
    walk_at "ev"
    refine rv_ixDL (i := 0) hgv rfl fun u0 hu0 => ?_
    walk_at "ev"
    refine rv_ixDL (i := 1) hgv rfl fun u1 hu1 => ?_
    refine ea_nil ⟨fv, [u0, u1], rfl, by show 2 ≤ 1000; decide, fv, [u0, u1], R, _, rfl, hfv, hR, (.cons (lineArg_of hu0) (.cons (lineArg_of hu1) .nil)), hok, fun R' v' G1 hR' e1 hS H9 s9 w9 => ?_⟩
    exact kq _ _ _ (s3.trans s9) (k _ _ _ hR' (s3.trans s9).gg hS)
  · obtain ⟨l0, l1, l2, rfl⟩ : ∃ l0 l1 l2, ls = [l0, l1, l2] := by
      match ls, hn with
      | [l0, l1, l2], _ => exact ⟨l0, l1, l2, rfl⟩
    dsimp only
    with_reducible refine s_seq ?_
    refine s_if w1 (et_test ?_)
    walk_at "ev"
    refine rv_I0 ⟨_, rfl, fun H2 s2 w2 => ⟨(fun z => absurd z (by decide)), fun _ => ?_⟩⟩
    replace s2 := s1.trans s2
    clear w1
    refine s_skip ?_
    dsimp only
    with_reducible refine s_seq ?_
    refine s_if w2 (et_test ?_)
    walk_at "ev"
    refine rv_I0 ⟨_, rfl, fun H3 s3 w3 => ⟨fun _ => ?_, (fun z => absurd z (by decide))⟩⟩
    replace s3 := s2.trans s3
    clear w2
    walk_at "ev"
    refine ev_if (et_test ?_)
    walk_at "ev"
    refine rv_eqB rfl ⟨_, rfl, (fun z => absurd z (by decide)), fun _ => ?_⟩
    refine ev_makeS (ea_cons (ev_var rfl ?_))
    walk_at "ev"
    refine rv_ixDL (i := 0) hgv rfl fun u0 hu0 => ?_
    walk_at "ev"
    refine rv_ixDL (i := 1) hgv rfl fun u1 hu1 => ?_
    walk_at "ev"
    refine rv_ixDL (i := 2) hgv rfl fun u2 hu2 => ?_
    refine ea_nil ⟨fv, [u0, u1, u2], rfl, by show 3 ≤ 1000; decide, fv, [u0, u1, u2], R, _, rfl, hfv, hR, (.cons (lineArg_of hu0) (.cons (lineArg_of hu1) (.cons (lineArg_of hu2) .nil))), hok, fun R' v' G1 hR' e1 hS H9 s9 w9 => ?_⟩
    exact kq _ _ _ (s3.trans s9) (k _ _ _ hR' (s3.trans s9).gg hS)
  · obtain ⟨l0, l1, l2, l3, rfl⟩ : ∃ l0 l1 l2 l3, ls = [l0, l1, l2, l3] := by
      match ls, hn with
      | [l0, l1, l2, l3], _ => exact ⟨l0, l1, l2, l3, rfl⟩
    dsimp only
    with_reducible refine s_seq ?_
    refine s_if w1 (et_test ?_)
    walk_at "ev"
    refine rv_I0 ⟨_, rfl, fun H2 s2 w2 => ⟨(fun z => absurd z (by decide)), fun _ => ?_⟩⟩
    replace s2 := s1.trans s2
    clear w1
    refine s_skip ?_
    dsimp only
    with_reducible refine s_seq ?_
    refine s_if w2 (et_test ?_)
    walk_at "ev"
    refine rv_I0 ⟨_, rfl, fun H3 s3 w3 => ⟨(fun z => absurd z (by decide)), fun _ => ?_⟩⟩
    replace s3 := s2.trans s3
    clear w2
    refine s_skip ?_
    dsimp only
    with_reducible refine s_seq ?_
    refine s_if w3 (et_test ?_)
    walk_at "ev"
    refine rv_eqB rfl ⟨_, rfl, fun H4 s4 w4 => ⟨fun _ => ?_, (fun z => absurd z (by decide))⟩⟩
    replace s4 := s3.trans s4
    clear w3
    walk_at "ev"
    refine ev_makeS (ea_cons (ev_var rfl ?_))
    walk_at "ev"
    refine rv_ixDL (i := 0) hgv rfl fun u0 hu0 => ?_
    walk_at "ev"
    refine rv_ixDL (i := 1) hgv rfl fun u1 hu1 => ?_
    walk_at "ev"
    refine rv_ixDL (i := 2) hgv rfl fun u2 hu2 => ?_
    walk_at "ev"
    refine rv_ixDL (i := 3) hgv rfl fun u3 hu3 => ?_
    refine ea_nil ⟨fv, [u0, u1, u2, u3], rfl, by show 4 ≤ 1000; decide, fv, [u0, u1, u2, u3], R, _, rfl, hfv, hR, (.cons (lineArg_of hu0) (.cons (lineArg_of hu1) (.cons (lineArg_of hu2) (.cons (lineArg_of hu3) .nil)))), hok, fun R' v' G1 hR' e1 hS H9 s9 w9 => ?_⟩
    exact kq _ _ _ (s4.trans s9) (k _ _ _ hR' (s4.trans s9).gg hS)
  · obtain ⟨l0, l1, l2, l3, l4, rfl⟩ : ∃ l0 l1 l2 l3 l4, ls = [l0, l1, l2, l3, l4] := by
      match ls, hn with
      | [l0, l1, l2, l3, l4], _ => exact ⟨l0, l1, l2, l3, l4, rfl⟩
    dsimp only
    with_reducible refine s_seq ?_
    refine s_if w1 (et_test ?_)
    walk_at "ev"
    refine rv_I0 ⟨_, rfl, fun H2 s2 w2 => ⟨(fun z => absurd z (by decide)), fun _ => ?_⟩⟩
    replace s2 := s1.trans s2
    clear w1
    refine s_skip ?_
    dsimp only
    with_reducible refine s_seq ?_
    refine s_if w2 (et_test ?_)
    walk_at "ev"
    refine rv_I0 ⟨_, rfl, fun H3 s3 w3 => ⟨(fun z => absurd z (by decide)), fun _ => ?_⟩⟩
    replace s3 := s2.trans s3
    clear w2
    refine s_skip ?_
    dsimp only
    with_reducible refine s_seq ?_
    refine s_if w3 (et_test ?_)
    walk_at "ev"
    refine rv_eqB rfl ⟨_, rfl, fun H4 s4 w4 => ⟨(fun z => absurd z (by decide)), fun _ => ?_⟩⟩
    replace s4 := s3.trans s4
    clear w3
    refine s_skip ?_
    dsimp only
    with_reducible refine s_seq ?_
    refine s_if w4 (et_test ?_)
    walk_at "ev"
    refine rv_eqB rfl ⟨_, rfl, fun H5 s5 w5 => ⟨fun _ => ?_, (fun z => absurd z (by decide))⟩⟩
    replace s5 := s4.trans s5
    clear w4
    walk_at "ev"
    refine ev_makeS (ea_cons (ev_var rfl ?_))
    walk_at "ev"
    refine rv_ixDL (i := 0) hgv rfl fun u0 hu0 => ?_
    walk_at "ev"
    refine rv_ixDL (i := 1) hgv rfl fun u1 hu1 => ?_
    walk_at "ev"
    refine rv_ixDL (i := 2) hgv rfl fun u2 hu2 => ?_
    walk_at "ev"
    refine rv_ixDL (i := 3) hgv rfl fun u3 hu3 => ?_
    walk_at "ev"
    refine rv_ixDL (i := 4) hgv rfl fun u4 hu4 => ?_
    refine ea_nil ⟨fv, [u0, u1, u2, u3, u4], rfl, by show 5 ≤ 1000; decide, fv, [u0, u1, u2, u3, u4], R, _, rfl, hfv, hR, (.cons (lineArg_of hu0) (.cons (lineArg_of hu1) (.cons (lineArg_of hu2) (.cons (lineArg_of hu3) (.cons (lineArg_of hu4) .nil))))), hok, fun R' v' G1 hR' e1 hS H9 s9 w9 => ?_⟩
    exact kq _ _ _ (s5.trans s9) (k _ _ _ hR' (s5.trans s9).gg hS)
  · obtain ⟨l0, l1, l2, l3, l4, l5, rfl⟩ : ∃ l0 l1 l2 l3 l4 l5, ls = [l0, l1, l2, l3, l4, l5] := by
      match ls, hn with
      | [l0, l1, l2, l3, l4, l5], _ => exact ⟨l0, l1, l2, l3, l4, l5, rfl⟩
    dsimp only
    with_reducible refine s_seq ?_
    refine s_if w1 (et_test ?_)
    walk_at "ev"
    refine rv_I0 ⟨_, rfl, fun H2 s2 w2 => ⟨(fun z => absurd z (by decide)), fun _ => ?_⟩⟩
    replace s2 := s1.trans s2
    clear w1
    refine s_skip ?_
    dsimp only
    with_reducible refine s_seq ?_
    refine s_if w2 (et_test ?_)
    walk_at "ev"
    refine rv_I0 ⟨_, rfl, fun H3 s3 w3 => ⟨(fun z => absurd z (by decide)), fun _ => ?_⟩⟩
    replace s3 := s2.trans s3
    clear w2
    refine s_skip ?_
    dsimp only
    with_reducible refine s_seq ?_
    refine s_if w3 (et_test ?_)
    walk_at "ev"
    refine rv_eqB rfl ⟨_, rfl, fun H4 s4 w4 => ⟨(fun z => absurd z (by decide)), fun _ => ?_⟩⟩
    replace s4 := s3.trans s4
    clear w3
    refine s_skip ?_
    dsimp only
    with_reducible refine s_seq ?_
    refine s_if w4 (et_test ?_)
    walk_at "ev"
    refine rv_eqB rfl ⟨_, rfl, fun H5 s5 w5 => ⟨(fun z => absurd z (by decide)), fun _ => ?_⟩⟩
    replace s5 := s4.trans s5
    clear w4
    refine s_skip ?_
    dsimp only
    with_reducible refine s_seq ?_
    refine s_if w5 (et_test ?_)
    walk_at "ev"
    refine rv_eqB rfl ⟨_, rfl, fun H6 s6 w6 => ⟨fun _ => ?_, (fun z => absurd z (by decide))⟩⟩
    replace s6 := s5.trans s6
    clear w5
    walk_at "ev"
    refine ev_makeS (ea_cons (ev_var rfl ?_))
    walk_at "ev"
    refine rv_ixDL (i := 0) hgv rfl fun u0 hu0 => ?_
    walk_at "ev"
    refine rv_ixDL (i := 1) hgv rfl fun u1 hu1 => ?_
    walk_at "ev"
    refine rv_ixDL (i := 2) hgv rfl fun u2 hu2 => ?_
    walk_at "ev"
    refine rv_ixDL (i := 3) hgv rfl fun u3 hu3 => ?_
    walk_at "ev"
    refine rv_ixDL (i := 4) hgv rfl fun u4 hu4 => ?_
    walk_at "ev"
    refine rv_ixDL (i := 5) hgv rfl fun u5 hu5 => ?_
    refine ea_nil ⟨fv, [u0, u1, u2, u3, u4, u5], rfl, by show 6 ≤ 1000; decide, fv, [u0, u1, u2, u3, u4, u5], R, _, rfl, hfv, hR, (.cons (lineArg_of hu0) (.cons (lineArg_of hu1) (.cons (lineArg_of hu2) (.cons (lineArg_of hu3) (.cons (lineArg_of hu4) (.cons (lineArg_of hu5) .nil)))))), hok, fun R' v' G1 hR' e1 hS H9 s9 w9 => ?_⟩
    exact kq _ _ _ (s6.trans s9) (k _ _ _ hR' (s6.trans s9).gg hS)
theorem ev_made {b : Option (Addr × Addr)} {σ : L2.St} {G : Hp} {Q : V → Hp → Prop} {E : XK} {ta : TA} (h : Ev b ta σ G fun vs G1 => ∃ (fv gv : V) (R : List Str) (ls : List LineT) (how : Bool), vs = [fv, gv] ∧ DpE K G1 fv (R.map .str) ∧ Dp K G1 gv (.list (ls.map (encG how))) ∧ ReasonsOk R ∧ LinesOk ls R.length ∧ ∀ R' v' G', SortedOf R' R → Same G1 G' → SheetIs K G' v' R' ls → Q v' G') : Ev b (tCall (SpP 2 (pMade K)) [] E ta) σ G Q :=
  ev_call (Ev.mono h fun vs G1 _ ⟨fv, gv, R, ls, how, ev, h1, h2, h3, h4, q⟩ => by rw [ev]; exact ⟨rfl, fv, gv, R, ls, how, rfl, h1, h2, h3, h4, q⟩)
end
end FD
namespace FD
open PySem PyProof.Rows L2
section
variable {P : Program} {w : World} {K : PySem.W.Frag} {mg : Str → Option Value} {base : Heap}
local macro_rules | `(tactic| walk_at "ev") => `(tactic| repeat (first | with_reducible refine s_seq ?_ | with_reducible refine s_skip ?_ | with_reducible refine s_gn ?_ | with_reducible refine ev_op ?_ | with_reducible refine ev_un ?_ | ((with_reducible refine' ev_var ?hv ?_); (case hv => rfl)) | with_reducible refine ev_c ?_ | with_reducible refine ev_cb ?_ | with_reducible refine ea_cons ?_ | with_reducible refine ea_nil ?_ | with_reducible refine et_test ?_ | with_reducible refine et_B ?_ | with_reducible refine s_ret (by assumption) ?_ | with_reducible refine s_asg (by assumption) ?_))
def pSheetL (K : PySem.W.Frag) : List V → Hp → (V → Hp → Prop) → Prop := fun vs G P => ∃ (v lv : V) (R : List Str) (ls : List LineT), vs = [v, lv] ∧ Dp K G v (.tuple (R.map .str)) ∧ Dp K G lv (.list (ls.map encLine)) ∧ ReasonsOk R ∧ sortedS R = true ∧ LinesOk ls R.length ∧ ∀ v' G', Same G G' → SheetIs K G' v' R ls → P v' G'
theorem d__law_sheet (T : Mo K mg) : Def P w K mg base CX0 8 "_law_sheet" ["_law_bag_here", "_law_some_here", "_law_lines_here"] (SpB 2 (pSheetL K)) := by
  obtain ⟨fd, F⟩ := T.f__law_sheet
  refine ⟨_, fd, F.ok sc__law_sheet spB_len (fun cdv A outer s H vs Q E hr h => ?_), T.g__law_sheet, F.kp, F.bindsN fun _ _ _ _ _ _ us hl => match us, hl with | [_, _, _], _ => rfl⟩
  have hu := hu_of hr
  obtain ⟨_, bg, bc, G, P, vs, rfl, wd, hp, kq⟩ := h
  refine ⟨_, PSs.nox (pss_cons (ps_asg (pe_tup (pa_cons (pe_d (d__law_mixed T) (hr.mono (by decide)) (by rfl) pass0 (pa_cons (pv 0) (pa_cons (pv 1) pa_nil))) (pa_cons (pe_d (d__law_draw T) (hr.mono (by decide)) (by rfl) pass0 (pa_cons (pv 0) (pa_cons pe_int pa_nil))) pa_nil))) (pg_tup rfl (pgs_cons (pg_name (i := 3) sc__law_sheet.nd rfl (Or.inl rfl)) (pgs_cons (pg_name (i := 4) sc__law_sheet.nd rfl (Or.inr rfl)) pgs_nil))))
    (pss_one (ps_ret (pe_d (d__law_made T) (hr.mono (by decide)) (by rfl) pass0 (pa_cons (pe_ifExp (pt_cmpR op_eq (pv 4) pe_int (by rfl)) (pv 3) (pe_tupleOf (by rfl) T.n_tuple (pv 3))) (pa_cons (pe_lc (own := [("_law_a", 5), ("_law_row_here", 6)]) (g := gTup K 2 (gCons (gName 5) (gCons (gName 6) gNil))) (tt := tYes) rfl sc__law_sheet.nd (pi_list (pv 2)) (blkOk_by (N := ["_law_bag_here", "_law_some_here", "_law_lines_here", "_law_few_here", "_law_how", "_law_a", "_law_row_here"]) (sc := defScope s__law_sheet) (by decide +kernel)) (fun _ _ _ _ _ => (pg_tup rfl (pgs_cons (pg_name (i := 5) sc__law_sheet.nd rfl (Or.inl rfl)) (pgs_cons (pg_name (i := 6) sc__law_sheet.nd rfl (Or.inl rfl)) pgs_nil)))) (fun _ _ _ _ _ => pts_nil) (fun _ _ _ _ _ => (blk_te (pe_tup (pa_cons (pv 5) (pa_cons (pe_ifExp (pt_cmpR op_eq (pv 4) pe_int (by rfl)) (pe_callTy call_list_of (by rfl) T.n_list (by decide +kernel) (pa_cons (pv 6) pa_nil)) (pv 6)) pa_nil))) (by (try dsimp only [Cx.blk, Cx.nox, cxOf]); (try rfl))))) pa_nil)))))), ?_⟩
  obtain ⟨v, lv, R, ls, rfl, hv, hlv, hR, hs, hok, k⟩ := hp
  have h7 := hR.2.2
  have h6 := hok.2.2.2.1
  with_reducible refine s_seq ?_
  refine s_two wd (ev_tup (ea_cons (ev_mixed ?_)))
  walk_at "ev"
  refine ⟨_, _, rfl, .inl (.inr hv), by rw [List.length_map]; omega, fun ds fv G1 hp1 e1 hfv => ?_⟩
  obtain ⟨few, hfew, rfl⟩ := perm_map_inv hp1 _ rfl
  refine ea_cons (ev_draw ?_)
  walk_at "ev"
  refine ⟨2, rfl, by decide, by decide, fun z G2 hz e2 => ea_nil ⟨by show 2 ≤ 1000000; decide, fun t ht => ⟨t, fv, .int (z : Int), rfl, SqT.of upd_same, fun H1 s1 w1 => ?_⟩⟩⟩
  have hfv1 := Dpm hfv (e2.trans (same_new (o := .tup [fv, .int (z : Int)]) ht))
  have hlv1 := Dpm hlv s1.gg
  generalize upd G2 t (.tup [fv, .int (z : Int)]) = G3 at s1 w1 hfv1 hlv1
  clear wd ht
  have hRf : ReasonsOk few := ⟨names_perm hR.1 hfew, by rw [hfew.length_eq]; exact hR.2.1, by rw [hfew.length_eq]; exact h7⟩
  have hokf : LinesOk ls few.length := by rw [hfew.length_eq]; exact hok
  dsimp only
  walk_at "ev"
  refine ev_made (ea_cons (Ev.mono (P := fun u G4 => Same G3 G4 ∧ DpE K G4 u (few.map .str)) ?_ fun u G4 _ ⟨e4, hu4⟩ => ea_cons ?_))
  · refine ev_if (et_test ?_)
    walk_at "ev"
    refine rv_eqB rfl ⟨_, rfl, fun _ => ev_var rfl ⟨Same.refl _, .inl hfv1⟩, fun _ => ev_tupOf (ev_var rfl ⟨_, .inl hfv1, fun tv G4 e4 htv => ⟨e4, .inr htv⟩⟩)⟩
  · refine lcLa (K := K) encLine ls (fun _ => true) (encG (decide (V.int (z : Int) = V.int 0))) (by omega) (ev_var rfl ⟨Dpm hlv1 e4, fun x G5 d hd e5 hx => ?_, fun gv G5 e5 hgv => ?_⟩)
    · obtain ⟨v1, v2, h1, h2, hg⟩ := gv_pair (i := 5) (j := 6) hx
      refine ⟨_, fun H e => hg H _ e, by rfl, et_yes ⟨rfl, fun _ => ?_⟩⟩
      refine ev_tup (ea_cons (ev_var rfl (ea_cons (ev_if (et_test ?_)))))
      walk_at "ev"
      refine rv_eqB rfl ⟨_, rfl, fun h => ?_, fun h => ?_⟩
      · walk_at "ev"
        refine rv_listOf (.inr h2) fun G6 u e6 hu => ea_nil ⟨by show 2 ≤ 1000000; decide, fun t ht => ?_⟩
        unfold encG
        rw [h, if_pos rfl]
        exact dp_newT (dpa_two (Dpm h1 e6) hu) ht
      · walk_at "ev"
        refine ⟨by show 2 ≤ 1000000; decide, fun t ht => ?_⟩
        unfold encG
        rw [h, if_neg (by decide)]
        exact dp_newT (dpa_two h1 h2) ht
    · rw [List.filter_eq_self.mpr fun _ _ => rfl] at hgv
      refine ea_nil ⟨u, gv, few, ls, _, rfl, dpe_mono e5 hu4, hgv, hRf, hokf, fun R' v' G6 hR' e6 hS H6 s6 w6 => ?_⟩
      obtain rfl : R' = R := sort_unique (hR'.1.trans hfew) hR'.2 hs
      exact kq _ _ _ (s1.trans s6) w6 (k _ _ (s1.trans s6).gg hS)
theorem ev_sheetL {a c : Addr} {σ : L2.St} {G : Hp} {Q : V → Hp → Prop} {E : XK} {ta : TA} (h : Ev (some (a, c)) ta σ G fun vs G1 => ∃ (v lv : V) (R : List Str) (ls : List LineT), vs = [.ref a, v, lv] ∧ Dp K G1 v (.tuple (R.map .str)) ∧ Dp K G1 lv (.list (ls.map encLine)) ∧ ReasonsOk R ∧ sortedS R = true ∧ LinesOk ls R.length ∧ ∀ v' G', Same G1 G' → SheetIs K G' v' R ls → Q v' G') : Ev (some (a, c)) (tCall (SpB 2 (pSheetL K)) [] E ta) σ G Q :=
  ev_callB (Ev.mono h fun vs G1 _ ⟨v, lv, R, ls, ev, h1, h2, h3, h4, h5, q⟩ => ⟨_, ev, rfl, v, lv, R, ls, rfl, h1, h2, h3, h4, h5, q⟩)
end
end FD
namespace FD
open PySem PyProof.Rows L2
section
variable {P : Program} {w : World} {K : PySem.W.Frag} {mg : Str → Option Value} {base : Heap}
local macro_rules | `(tactic| walk_at "ev") => `(tactic| repeat (first | with_reducible refine s_seq ?_ | with_reducible refine s_skip ?_ | with_reducible refine s_gn ?_ | with_reducible refine ev_op ?_ | with_reducible refine ev_un ?_ | ((with_reducible refine' ev_var ?hv ?_); (case hv => rfl)) | with_reducible refine ev_c ?_ | with_reducible refine ev_cb ?_ | with_reducible refine ea_cons ?_ | with_reducible refine ea_nil ?_ | with_reducible refine et_test ?_ | with_reducible refine et_B ?_ | with_reducible refine s_ret (by assumption) ?_ | with_reducible refine s_asg (by assumption) ?_))
theorem only_one {ls : List LineT} (hn : (ls.map (·.1)).Nodup) {l : LineT} (hl : l ∈ ls) : ls.filter (fun x => decide (x.1 = l.1)) = [l] := by
  induction ls with
  | nil => cases hl
  | cons x ls ih =>
    rw [List.map_cons, List.nodup_cons] at hn
    rcases List.mem_cons.mp hl with e | e
    · subst e
      rw [List.filter_cons, if_pos (by simp)]
      rw [List.filter_eq_nil_iff.mpr fun y hy z => hn.1 (List.mem_map.mpr ⟨y, hy, of_decide_eq_true z⟩)]
    · rw [List.filter_cons, if_neg (fun z => hn.1 (List.mem_map.mpr ⟨l, e, (of_decide_eq_true z).symm⟩))]
      exact ih hn.2 e
def pScores (K : PySem.W.Frag) : List V → Hp → (V → Hp → Prop) → Prop := fun vs G P => ∃ (lv : V) (ls : List LineT) (l : LineT), vs = [lv, .str l.1] ∧ Dp K G lv (.list (ls.map encLine)) ∧ (ls.map (·.1)).Nodup ∧ ls.length ≤ 100 ∧ l ∈ ls ∧ ∀ v' G', Same G G' → Dp K G' v' (.tuple (l.2.map .int)) → P v' G'
theorem d__law_scores (T : Mo K mg) : Def P w K mg base CX0 1 "_law_scores" ["_law_lines_here", "_law_a"] (SpP 2 (pScores K)) := by
  obtain ⟨fd, F⟩ := T.f__law_scores
  refine ⟨_, fd, F.ok sc__law_scores spP_len (fun cdv A outer s H vs Q E hr h => ?_), T.g__law_scores, F.kp, F.bindsN fun _ _ _ _ _ _ us hl => match us, hl with | [_, _], _ => rfl⟩
  have hu := hu_of hr
  obtain ⟨_, G, P, sm, hp, kq⟩ := h
  have wd : Wd none G H := .none sm
  refine ⟨_, PSs.nox (pss_one (ps_ret (pe_ix ix_list (pe_lc (own := [("_law_b", 2), ("_law_row_here", 3)]) (g := gTup K 2 (gCons (gName 2) (gCons (gName 3) gNil))) (tt := _) rfl sc__law_scores.nd (pi_list (pv 0)) (blkOk_by (N := ["_law_lines_here", "_law_a", "_law_b", "_law_row_here"]) (sc := defScope s__law_scores) (by decide +kernel)) (fun _ _ _ _ _ => (pg_tup rfl (pgs_cons (pg_name (i := 2) sc__law_scores.nd rfl (Or.inl rfl)) (pgs_cons (pg_name (i := 3) sc__law_scores.nd rfl (Or.inl rfl)) pgs_nil)))) (fun _ _ _ _ _ => (pts_one (blk_tt (pt_cmpR op_eq (pv 2) (pv 1) (by rfl)) (by (try dsimp only [Cx.blk, Cx.nox, cxOf]); (try rfl))))) (fun _ _ _ _ _ => (blk_te (pv 3) (by (try dsimp only [Cx.blk, Cx.nox, cxOf]); (try rfl))))) pe_int (fun _ _ => rfl)))), ?_⟩
  obtain ⟨lv, ls, l, rfl, hlv, hn, h100, hl, k⟩ := hp
  walk_at "ev"
  refine lcLa (K := K) encLine ls (fun x => decide (x.1 = l.1)) (fun x => .tuple (x.2.map .int)) (by omega) (ev_var rfl ⟨hlv, fun x G1 d hd e1 hx => ?_, fun gv G1 e1 hgv => ?_⟩)
  · obtain ⟨v1, v2, h1, h2, hg⟩ := gv_pair (i := 2) (j := 3) hx
    cases dp_str h1
    refine ⟨_, fun H e => hg H _ e, by rfl, et_test ?_⟩
    walk_at "ev"
    refine rv_eqB rfl ⟨_, rfl, ?_, fun _ => ev_var rfl h2⟩
    exact decide_eq_decide.mpr ⟨fun h => V.str.inj h, fun h => by rw [h]⟩
  · rw [only_one hn hl] at hgv
    walk_at "ev"
    exact rv_ixDL (i := 0) hgv rfl fun v2 hv2 H2 s2 w2 => kq _ _ _ s2 (k _ _ s2.gg hv2)
theorem ev_scores {b : Option (Addr × Addr)} {σ : L2.St} {G : Hp} {Q : V → Hp → Prop} {E : XK} {ta : TA} (h : Ev b ta σ G fun vs G1 => ∃ (lv : V) (ls : List LineT) (l : LineT), vs = [lv, .str l.1] ∧ Dp K G1 lv (.list (ls.map encLine)) ∧ (ls.map (·.1)).Nodup ∧ ls.length ≤ 100 ∧ l ∈ ls ∧ ∀ v' G', Same G1 G' → Dp K G' v' (.tuple (l.2.map .int)) → Q v' G') : Ev b (tCall (SpP 2 (pScores K)) [] E ta) σ G Q :=
  ev_call (Ev.mono h fun vs G1 _ ⟨lv, ls, l, ev, h1, h2, h3, h4, q⟩ => by rw [ev]; exact ⟨rfl, lv, ls, l, rfl, h1, h2, h3, h4, q⟩)
def pAlike (K : PySem.W.Frag) : List V → Hp → (V → Hp → Prop) → Prop := fun vs G P => ∃ (lv : V) (ls : List LineT) (l : LineT), vs = [lv, .str l.1] ∧ Dp K G lv (.list (ls.map encLine)) ∧ (ls.map (·.1)).Nodup ∧ ls.length ≤ 100 ∧ l ∈ ls ∧ ∀ v' G', Same G G' → TupAt G' v' (alikeOf ls l) → P v' G'
theorem d__law_alike (T : Mo K mg) : Def P w K mg base CX0 2 "_law_alike" ["_law_lines_here", "_law_a"] (SpP 2 (pAlike K)) := by
  obtain ⟨fd, F⟩ := T.f__law_alike
  refine ⟨_, fd, F.ok sc__law_alike spP_len (fun cdv A outer s H vs Q E hr h => ?_), T.g__law_alike, F.kp, F.bindsN fun _ _ _ _ _ _ us hl => match us, hl with | [_, _], _ => rfl⟩
  have hu := hu_of hr
  obtain ⟨_, G, P, sm, hp, kq⟩ := h
  have wd : Wd none G H := .none sm
  refine ⟨_, PSs.nox (pss_one (ps_ret (pe_tupleOf (by rfl) T.n_tuple (pe_lc (own := [("_law_b", 2), ("_law_row_here", 3)]) (g := gTup K 2 (gCons (gName 2) (gCons (gName 3) gNil))) (tt := _) rfl sc__law_alike.nd (pi_list (pv 0)) (blkOk_by (N := ["_law_lines_here", "_law_a", "_law_b", "_law_row_here"]) (sc := defScope s__law_alike) (by decide +kernel)) (fun _ _ _ _ _ => (pg_tup rfl (pgs_cons (pg_name (i := 2) sc__law_alike.nd rfl (Or.inl rfl)) (pgs_cons (pg_name (i := 3) sc__law_alike.nd rfl (Or.inl rfl)) pgs_nil)))) (fun _ _ _ _ _ => (pts_one (blk_tt (pt_cmpR (op_eqW hr.units) (pv 3) (pe_d (d__law_scores T) (hr.mono (by decide)) (by rfl) pass0 (pa_cons (pv 0) (pa_cons (pv 1) pa_nil))) (by rfl)) (by (try dsimp only [Cx.blk, Cx.nox, cxOf]); (try rfl))))) (fun _ _ _ _ _ => (blk_te (pv 2) (by (try dsimp only [Cx.blk, Cx.nox, cxOf]); (try rfl)))))))), ?_⟩
  obtain ⟨lv, ls, l, rfl, hlv, hn, h100, hl, k⟩ := hp
  walk_at "ev"
  refine ev_tupNew (lcLa (K := K) encLine ls (fun x => decide (x.2 = l.2)) (fun x => .str x.1) (by omega) (ev_var rfl ⟨hlv, fun x G1 d hd e1 hx => ?_, fun gv G1 e1 hgv => ⟨alikeOf ls l, ?_, fun tv G2 e2 htv H2 s2 w2 => kq _ _ _ s2 (k _ _ s2.gg htv)⟩⟩))
  · obtain ⟨v1, v2, h1, h2, hg⟩ := gv_pair (i := 2) (j := 3) hx
    refine ⟨_, fun H e => hg H _ e, by rfl, et_test ?_⟩
    walk_at "ev"
    refine ev_scores ?_
    walk_at "ev"
    refine ⟨lv, ls, l, rfl, Dpm hlv e1, hn, h100, hl, fun v' G2 e2 hv' => ?_⟩
    refine rv_eqT (α := PySem.W.Tup Int) ⟨d.2⟩ ⟨l.2⟩ (Dpm h2 e2) hv' (by decide) ⟨_, rfl, tup_eq _ _, fun _ => ev_var rfl (Dpm h1 e2)⟩
  · unfold alikeOf
    rw [List.map_map]
    exact hgv
theorem ev_alike {b : Option (Addr × Addr)} {σ : L2.St} {G : Hp} {Q : V → Hp → Prop} {E : XK} {ta : TA} (h : Ev b ta σ G fun vs G1 => ∃ (lv : V) (ls : List LineT) (l : LineT), vs = [lv, .str l.1] ∧ Dp K G1 lv (.list (ls.map encLine)) ∧ (ls.map (·.1)).Nodup ∧ ls.length ≤ 100 ∧ l ∈ ls ∧ ∀ v' G', Same G1 G' → TupAt G' v' (alikeOf ls l) → Q v' G') : Ev b (tCall (SpP 2 (pAlike K)) [] E ta) σ G Q :=
  ev_call (Ev.mono h fun vs G1 _ ⟨lv, ls, l, ev, h1, h2, h3, h4, q⟩ => by rw [ev]; exact ⟨rfl, lv, ls, l, rfl, h1, h2, h3, h4, q⟩)
def ansStep (ls : List LineT) (acc : List (List Str)) (l : LineT) : List (List Str) := if alikeOf ls l ∈ acc then acc else acc ++ [alikeOf ls l]
def ansOf (ls : List LineT) : List (List Str) := ls.foldl (ansStep ls) []
theorem ansStep_len (ls : List LineT) (acc : List (List Str)) (l : LineT) : (ansStep ls acc l).length ≤ acc.length + 1 := by
  unfold ansStep
  split
  · omega
  · rw [List.length_append]; exact Nat.le_refl _
theorem ansFold_len (ls : List LineT) : ∀ (l : List LineT) (acc : List (List Str)), (l.foldl (ansStep ls) acc).length ≤ acc.length + l.length
  | [], acc => Nat.le_refl _
  | x :: l, acc => by
    rw [List.foldl_cons, List.length_cons]
    have h1 := ansFold_len ls l (ansStep ls acc x)
    have h2 := ansStep_len ls acc x
    omega
def pAns (K : PySem.W.Frag) : List V → Hp → (V → Hp → Prop) → Prop := fun vs G P => ∃ (lv : V) (ls : List LineT), vs = [lv] ∧ Dp K G lv (.list (ls.map encLine)) ∧ (ls.map (·.1)).Nodup ∧ ls.length ≤ 100 ∧ ∀ v' G', Same G G' → TupsAt K G' v' (ansOf ls) → P v' G'
theorem tupmem (a : List Str) (acc : List (List Str)) : decide (PySem.W.Tup.mk a ∈ acc.map PySem.W.Tup.mk) = decide (a ∈ acc) := decide_eq_decide.mpr ⟨fun h => by
  obtain ⟨b, hb, e⟩ := List.mem_map.mp h
  rw [← PySem.W.Tup.mk.inj e]
  exact hb, fun h => List.mem_map.mpr ⟨a, h, rfl⟩⟩
theorem tups_dpa {G : Hp} : ∀ {vs : List V} {ls : List (List Str)}, Paired (TupAt G) vs ls → DpAll K G vs (ls.map (PySem.W.Datum.toD ∘ PySem.W.Tup.mk))
  | _, _, .nil => .nil
  | _, _, .cons h t => .cons (tupAt_dp h) (tups_dpa t)
theorem ev_ans {b : Option (Addr × Addr)} {σ : L2.St} {G : Hp} {Q : V → Hp → Prop} {E : XK} {ta : TA} (h : Ev b ta σ G fun vs G1 => ∃ (lv : V) (ls : List LineT), vs = [lv] ∧ Dp K G1 lv (.list (ls.map encLine)) ∧ (ls.map (·.1)).Nodup ∧ ls.length ≤ 100 ∧ ∀ v' G', Same G1 G' → TupsAt K G' v' (ansOf ls) → Q v' G') : Ev b (tCall (SpP 1 (pAns K)) [] E ta) σ G Q :=
  ev_call (Ev.mono h fun vs G1 _ ⟨lv, ls, ev, h1, h2, h3, q⟩ => by rw [ev]; exact ⟨rfl, lv, ls, rfl, h1, h2, h3, q⟩)
theorem d__law_answers (T : Mo K mg) : Def P w K mg base CX0 3 "_law_answers" ["_law_lines_here"] (SpP 1 (pAns K)) := by
  obtain ⟨fd, F⟩ := T.f__law_answers
  refine ⟨_, fd, F.ok sc__law_answers spP_len (fun cdv A outer s H vs Q E hr h => ?_), T.g__law_answers, F.kp, F.bindsN fun _ _ _ _ _ _ us hl => match us, hl with | [_], _ => rfl⟩
  have hu := hu_of hr
  obtain ⟨_, G, P, sm, hp, kq⟩ := h
  have wd : Wd none G H := .none sm
  refine ⟨_, PSs.nox (pss_cons (ps_set (i := 1) sc__law_answers.nd rfl (Or.inl rfl) (pe_lst pa_nil))
    (pss_cons (ps_for PassesOwn.never rfl (pi_seqB (pv 0)) (pg_tup rfl (pgs_cons (pg_name (i := 2) sc__law_answers.nd rfl (Or.inl rfl)) (pgs_cons (pg_name (i := 3) sc__law_answers.nd rfl (Or.inl rfl)) pgs_nil)))
      (pss_one (ps_if (pt_cmpR (op_ninW hr.units) (pe_d (d__law_alike T) (hr.mono (by decide)) (by rfl) pass0 (pa_cons (pv 0) (pa_cons (pv 2) pa_nil))) (pv 1) (by rfl)) (pss_one (ps_expr (pe_bm PySem.F.plainAttrs_list PySem.F.slot_list_append PySem.F.type_list_append mt_append (pv 1) (pa_cons (pe_d (d__law_alike T) (hr.mono (by decide)) (by rfl) pass0 (pa_cons (pv 0) (pa_cons (pv 2) pa_nil))) pa_nil)))) pss_nil)))
    (pss_one (ps_ret (pv 1))))), ?_⟩
  obtain ⟨lv, ls, rfl, hlv, hn, h100, k⟩ := hp
  with_reducible refine s_seq ?_
  refine s_newL fun f hf => ?_
  have s1 := (Stp.refl (B := Bg none) wd.same).newP (o := .lst []) hf
  have w1 := wd.newP (o := .lst []) hf
  have hf1 : upd H f (.lst []) f = some (.lst []) := upd_same
  have hGf : G f = none := wd.same.free hf
  have nbf : ¬ Bg (none : Option (Addr × Addr)) f := fun z => nomatch z
  generalize upd H f (.lst []) = H1 at s1 hf1 w1
  clear wd
  with_reducible refine s_seq ?_
  refine s_forB (K := K) w1 (ev_var rfl ⟨_, .inl (.inl hlv), fun i σ G2 H2 => Same G G2 ∧ Stp (Bg none) G H G2 H2 ∧ Wd none G2 H2 ∧ G2 f = none ∧ ∃ (acc : List V) (z2 z3 : Option V), σ = [some lv, some (.ref f), z2, z3] ∧ H2 f = some (.lst acc) ∧ Paired (TupAt G2) acc ((ls.take i).foldl (ansStep ls) []), ⟨?_, ?_⟩, ?_, ?_⟩)
  · exact fun i σ G2 H2 h => ⟨h.1, h.2.2.1⟩
  · rintro σ G2 H2 ⟨g2, s2, w2, hf2, acc, z2, z3, rfl, hh2, hacc⟩
    rw [List.length_map, List.take_of_length_le (Nat.le_refl _)] at hacc
    clear w1
    dsimp only
    walk_at "ev"
    intro H3 s3 w3
    have s4 := (s2.trans s3).know hf (s3.hh _ _ hh2 nbf) hf2
    exact kq _ _ _ s4 (k _ _ s4.gg ⟨f, acc, rfl, SqL.of upd_same, paired_imp (fun _ _ q => tupAt_mono (same_new hf2) q) hacc⟩)
  · intro H2 s2 w2
    exact ⟨Same.refl _, s1.trans s2, w2, hGf, [], _, _, rfl, s2.hh _ _ hf1 nbf, .nil⟩
  · rintro i x d σ G2 H2 hd hx ⟨g2, s2, w2, hf2, acc, z2, z3, rfl, hh2, hacc⟩
    obtain ⟨l, hl, rfl⟩ := map_at hd
    have hmem := List.mem_of_getElem? hl
    have hH2 : H2 f ≠ none := by rw [hh2]; exact fun z => nomatch z
    obtain ⟨v1, v2, h1, h2, hg⟩ := gv_pair (i := 2) (j := 3) hx
    cases dp_str h1
    refine hg _ _ w2.same _ ?_
    clear w1
    dsimp only
    have hnext : (ls.take (i + 1)).foldl (ansStep ls) [] = ansStep ls ((ls.take i).foldl (ansStep ls) []) l := by
      rw [List.take_succ, hl, List.foldl_append]
      rfl
    have hlenf : ((ls.take i).foldl (ansStep ls) []).length ≤ 100 := by
      have h3 := ansFold_len ls (ls.take i) []
      have h4 := List.length_take_le' i ls
      have h5 : ([] : List (List Str)).length = 0 := rfl
      omega
    generalize hfo : (ls.take i).foldl (ansStep ls) [] = fo at hacc hnext hlenf
    have wk := w2.know hh2 hf2 nbf
    refine s_if wk (et_test ?_)
    walk_at "ev"
    refine ev_alike ?_
    walk_at "ev"
    refine ⟨lv, ls, l, rfl, Dpm (Dpm hlv g2) (same_new hf2), hn, h100, hmem, fun av G3 e3 hav => ?_⟩
    walk_at "ev"
    have hgot : Dp K G3 (.ref f) (.list ((fo.map PySem.W.Tup.mk).map PySem.W.Datum.toD)) := by
      rw [List.map_map]
      exact .lst (SqL.of (e3 _ _ upd_same)) (tups_dpa (paired_imp (fun _ _ q => tupAt_mono ((same_new hf2).trans e3) q) hacc))
    refine rv_ninT (α := PySem.W.Tup Str) ⟨alikeOf ls l⟩ (fo.map PySem.W.Tup.mk) (tupAt_dp hav) (.inl hgot) (by decide) ⟨_, rfl, fun H3 s3 w3 => ⟨fun h => ?_, fun h => ?_⟩⟩
    · rw [tupmem] at h
      have hni : alikeOf ls l ∉ fo := by simpa using h
      have hh3 := s3.hh _ _ hh2 nbf
      have w3' := w2.pull (s3.back hf2).gh w3
      have s3' := s3.back hf2
      clear wk w3
      refine s_app w3' rfl hh3 nbf (by rw [paired_len hacc]; omega) ?_
      refine ev_alike ?_
      walk_at "ev"
      refine ⟨lv, ls, l, rfl, Dpm hlv g2, hn, h100, hmem, fun av2 G4 e4 hav2 H4 s4 w4 hh4 => ?_⟩
      have hf4 := s4.fr f hf2 (by rw [hh3]; exact fun z => nomatch z)
      refine ⟨G4, g2.trans e4, ((s2.trans s3').trans s4).mut hf hf4, w4.mut hf4 nbf, hf4, _, _, _, rfl, upd_same, ?_⟩
      rw [hnext]
      unfold ansStep
      rw [if_neg hni]
      exact paired_app (paired_imp (fun _ _ q => tupAt_mono e4 q) hacc) (.cons hav2 .nil)
    · rw [tupmem] at h
      have hin : alikeOf ls l ∈ fo := by simpa using h
      refine s_skip ?_
      have s3' := s3.back hf2
      refine ⟨G2, g2, s2.trans s3', w2.pull s3'.gh w3, hf2, _, _, _, rfl, s3.hh _ _ hh2 nbf, ?_⟩
      rw [hnext]
      unfold ansStep
      rw [if_pos hin]
      exact hacc
end
end FD
namespace FD
open PySem PyProof.Rows L2
/-! ### min of a list of data -/
def rMinD (K : PySem.W.Frag) : List V → Hp → VK → Prop := fun vs H Q => ∃ (a : Addr) (ws : List V) (x : PyData) (xs : List PyData), vs = [.ref a] ∧ SqL K H a ws ∧ DpAll K H ws (x :: xs) ∧ PySem.W.AlikeAll (x :: xs) ∧ PyData.depthAll (x :: xs) ≤ 20 ∧ ∀ (i : Nat) v, ws[i]? = some v → (x :: xs)[i]? = some (PySem.W.minD x xs) → Q v H
theorem vals_at : ∀ {ws : List V} {us : List Value} {i : Nat} {v : Value}, Vals ws us → us[i]? = some v → ∃ y, ws[i]? = some y ∧ RelV y v
  | _, _, 0, _, .cons h _, e => ⟨_, rfl, by cases e; exact h⟩
  | _, _, i + 1, _, .cons _ t, e => vals_at (i := i) t e
  | _, _, 0, _, .nil, e => nomatch e
  | _, _, i + 1, _, .nil, e => nomatch e
theorem cr_minD {X : Cx} (hc : X.calm = true) (hu : X.A.units + 64 < cLine) : CallR X (.builtin "min") (rMinD X.K) := by
  intro pins s σ H vs us Q I r h
  obtain ⟨a, ws, x, xs, rfl, hs, hd, hal, hdp, q⟩ := h
  obtain ⟨its, rv, hl, hz⟩ := I.list hs
  rw [Vals.ref1 r]
  obtain ⟨as, hr⟩ := Dp.readsAll I (x :: xs) ws its hd rv
  refine PySem.W.min_list_data (I.ok.hd hc) hl.isList (by rw [List.toList_toArray]; exact hr) hal (by omega) fun i v h' tk bs hi hrd hk => ?_
  rw [List.getElem?_toArray] at hi
  obtain ⟨y, hy, ry⟩ := vals_at rv hi
  refine ⟨y, H, I.kept hk, ry, q i y hy ?_⟩
  obtain ⟨d, hd1, hd2⟩ := dpa_get hd hy
  obtain ⟨as2, hr2⟩ := Dp.reads I d y v hd2 ry
  have e := (Reads.unique (Reads.keeps hk hr2) _ _ hrd).1
  rw [← e]
  exact hd1
end FD
namespace FD
open PySem PyProof.Rows L2
section
variable {P : Program} {w : World} {K : PySem.W.Frag} {mg : Str → Option Value} {base : Heap}
local macro_rules | `(tactic| walk_at "ev") => `(tactic| repeat (first | with_reducible refine s_seq ?_ | with_reducible refine s_skip ?_ | with_reducible refine s_gn ?_ | with_reducible refine ev_op ?_ | with_reducible refine ev_un ?_ | ((with_reducible refine' ev_var ?hv ?_); (case hv => rfl)) | with_reducible refine ev_c ?_ | with_reducible refine ev_cb ?_ | with_reducible refine ea_cons ?_ | with_reducible refine ea_nil ?_ | with_reducible refine et_test ?_ | with_reducible refine et_B ?_ | with_reducible refine s_ret (by assumption) ?_ | with_reducible refine s_asg (by assumption) ?_))
theorem cutV_to {xs : List V} {i : Nat} : cutV xs none (some (i : Int)) = xs.take i := by
  unfold cutV
  rw [HT.sIx_none, HT.sIx_nat, List.drop_zero, Nat.sub_zero]
  by_cases h : i ≤ xs.length
  · rw [Nat.min_eq_left h]
  · rw [Nat.min_eq_right (by omega), List.take_of_length_le (Nat.le_refl _), List.take_of_length_le (by omega)]
theorem rv_cutLs {b : Option (Addr × Addr)} {G : Hp} {Q : V → Hp → Prop} {v : V} {ds : List PyData} {i : Nat} {z : Int} (ez : z = (i : Int)) (h : Dp K G v (.list ds)) (p : ∀ u G2, Same G G2 → Dp K G2 u (.list (ds.take i)) → Q u G2) : Rv b (rSlL K v none (some z)) G Q := by
  subst ez
  obtain ⟨a, xs, rfl, q, da⟩ := dp_lst h
  refine Rv.made (fun H e Q k => ⟨a, xs, rfl, sql_mono e q, k⟩) fun c hc => ?_
  rw [cutV_to]
  exact p _ _ (same_new hc) (dp_newL (dpa_take i da) hc)
def pBag (K : PySem.W.Frag) : List V → Hp → (V → Hp → Prop) → Prop := fun vs G P => ∃ (sv : V) (ns : List Int), vs = [sv] ∧ Dp K G sv (.list (ns.map .int)) ∧ ∀ (a c : Addr) (m : Int) G', Same G G' → G a = none → G' a = some (.lst [.ref c, .int 0, .int 0, .int m]) → G' c = some (.lst ((ns.take 63).map .int)) → a ≠ c → 0 ≤ m → m < bigM → P (.ref a) G'
theorem d__law_bag (T : Mo K mg) : Def P w K mg base CX0 1 "_law_bag" ["_law_script"] (SpP 1 (pBag K)) := by
  obtain ⟨fd, F⟩ := T.f__law_bag
  refine ⟨_, fd, F.ok sc__law_bag spP_len (fun cdv A outer s H vs Q E hr h => ?_), T.g__law_bag, F.kp, F.bindsN fun _ _ _ _ _ _ us hl => match us, hl with | [_], _ => rfl⟩
  have hu := hu_of hr
  obtain ⟨_, G, P, sm, hp, kq⟩ := h
  have wd : Wd none G H := .none sm
  refine ⟨_, PSs.nox (pss_cons (ps_setLc (i := 1) (own := [("_law_cell", 2)]) (g := gName 2) (tt := tYes) rfl sc__law_bag.nd rfl rfl (sw_true rfl rfl rfl (by decide +kernel)) (pi_list (pe_slice sl_list (pv 0) po_none (po_some pe_int))) (blkOk_by (N := ["_law_script", "_law_cells", "_law_cell", "_law_start"]) (sc := defScope s__law_bag) (by decide +kernel)) (fun _ _ _ _ _ => (pg_name (i := 2) sc__law_bag.nd rfl (Or.inl rfl))) (fun _ _ _ _ _ => pts_nil) (fun _ _ _ _ _ => (blk_te (pe_callTy call_int1 (by rfl) T.n_int (by decide +kernel) (pa_cons (pv 2) pa_nil)) (by (try dsimp only [Cx.blk, Cx.nox, cxOf]); (try rfl)))))
    (pss_cons (ps_set (i := 3) sc__law_bag.nd rfl (Or.inl rfl) pe_int)
    (pss_cons (ps_for PassesOwn.never rfl (pi_list (pv 1)) (pg_name (i := 2) sc__law_bag.nd rfl (Or.inl rfl))
      (pss_one (ps_set (i := 3) sc__law_bag.nd rfl (Or.inl rfl) (pe_op op_modN (pe_callTy call_int1 (by rfl) T.n_int (by decide +kernel) (pa_cons (pe_op op_add (pe_op op_add (pe_op op_mul (pv 3) pe_int) (pv 2)) pe_int) pa_nil)) pe_int))))
    (pss_one (ps_ret (pe_lst (pa_cons (pv 1) (pa_cons pe_int (pa_cons pe_int (pa_cons (pv 3) pa_nil)))))))))), ?_⟩
  obtain ⟨sv, ns, rfl, hsv, k⟩ := hp
  walk_at "ev"
  refine lcL (K := K) (ev_sl (ev_var rfl (eo_none (eo_some (ev_c ⟨_, rfl, rv_cutLs (i := 63) rfl hsv fun u G1 e1 hu => ?_⟩)))))
  rw [← List.map_take] at hu
  obtain ⟨ua, us, rfl, hus, hda⟩ := dp_lst hu
  obtain rfl := dpa_ints_inv hda
  have h63 : (ns.take 63).length ≤ 63 := by rw [List.length_take]; omega
  generalize ns.take 63 = cs at k hus h63 hda
  refine ⟨ua, _, rfl, hus, by rw [List.length_map]; omega, fun i acc _ => acc = (cs.take i).map V.int, rfl, ?_, ?_⟩
  · rintro i x G2 acc hi e2 rfl -
    rw [List.getElem?_map] at hi
    obtain ⟨z, hz, rfl⟩ := Option.map_eq_some_iff.mp hi
    refine ⟨_, fun H _ => gv_name, by rfl, et_yes ⟨fun _ => ?_, fun h => nomatch h⟩⟩
    walk_at "ev"
    refine rv_int1 ?_
    show _ = (cs.take (i + 1)).map V.int
    rw [List.take_succ, hz, List.map_append]
    rfl
  · rintro acc G2 e2 rfl - c hc H1 s1 w1
    rw [List.length_map, List.take_of_length_le (Nat.le_refl _)] at s1 w1
    have hcl : upd G2 c (.lst (cs.map V.int)) c = some (.lst (cs.map V.int)) := upd_same
    generalize upd G2 c (.lst (cs.map V.int)) = G3 at s1 w1 hcl
    clear wd
    dsimp only
    walk_at "ev"
    intro H2 s2 w2
    replace s2 := s1.trans s2
    clear w1 s1
    dsimp only
    with_reducible refine s_seq ?_
    refine s_forL (K := K) w2 (ev_var rfl ⟨c, _, rfl, SqL.of hcl, fun i σ G4 H4 => G3 = G4 ∧ Stp (Bg none) G H G3 H4 ∧ Wd none G3 H4 ∧ ∃ (z2 : Option V) (m : Int), σ = [some sv, some (.ref c), z2, some (.int m)] ∧ 0 ≤ m ∧ m < bigM, ⟨fun i σ G4 H4 h => ⟨by rw [← h.1]; exact Same.refl _, by rw [← h.1]; exact h.2.2.1⟩, ?_⟩, fun H4 s4 w4 => ⟨rfl, s2.trans s4, w4, _, _, rfl, by decide, by decide⟩, ?_⟩)
    · rintro σ G4 H4 ⟨rfl, s4, w4, z2, m, rfl, hm0, hm1⟩
      clear w2
      dsimp only
      walk_at "ev"
      refine ev_lst ?_
      walk_at "ev"
      refine ⟨by show 4 ≤ 1000000; decide, fun a ha H5 s5 w5 => ?_⟩
      have hca : a ≠ c := fun e => by rw [e, hcl] at ha; cases ha
      have hGa : G a = none := by
        cases z : G a with
        | none => rfl
        | some o => rw [s4.gg _ _ z] at ha; cases ha
      exact kq _ _ _ (s4.trans s5) (k a c m _ (s4.trans s5).gg hGa upd_same (same_new ha _ _ hcl) hca hm0 hm1)
    · rintro i x σ G4 H4 hx ⟨rfl, s4, w4, z2, m, rfl, hm0, hm1⟩
      rw [List.getElem?_map] at hx
      obtain ⟨z, hz, rfl⟩ := Option.map_eq_some_iff.mp hx
      refine s_gn ?_
      clear w2
      dsimp only
      with_reducible refine s_asg w4 ?_
      walk_at "ev"
      refine rv_I (Or.inr ⟨by decide, by decide⟩) ?_
      walk_at "ev"
      refine rv_I0 ?_
      walk_at "ev"
      refine rv_I0 ?_
      walk_at "ev"
      refine rv_int1 ?_
      walk_at "ev"
      refine rv_I (by decide) fun H5 s5 w5 => ?_
      exact ⟨G3, rfl, s4.trans s5, w5, _, _, rfl, Int.fmod_nonneg_of_pos _ (by decide), Int.fmod_lt_of_pos _ (by decide)⟩
end
end FD
namespace FD
open PySem PyProof.Rows L2
section
variable {P : Program} {w : World} {K : PySem.W.Frag} {mg : Str → Option Value} {base : Heap}
local macro_rules | `(tactic| walk_at "ev") => `(tactic| repeat (first | with_reducible refine s_seq ?_ | with_reducible refine s_skip ?_ | with_reducible refine s_gn ?_ | with_reducible refine ev_op ?_ | with_reducible refine ev_un ?_ | ((with_reducible refine' ev_var ?hv ?_); (case hv => rfl)) | with_reducible refine ev_c ?_ | with_reducible refine ev_cb ?_ | with_reducible refine ea_cons ?_ | with_reducible refine ea_nil ?_ | with_reducible refine et_test ?_ | with_reducible refine et_B ?_ | with_reducible refine s_ret (by assumption) ?_ | with_reducible refine s_asg (by assumption) ?_))
theorem ev_recs {a c : Addr} {σ : L2.St} {G : Hp} {Q : V → Hp → Prop} {E : XK} {ta : TA} (h : Ev (some (a, c)) ta σ G fun vs G1 => ∃ (v : V) (R : List Str) (most : Nat) (stand : Bool), vs = [.ref a, v, .int (most : Int), .bl stand] ∧ Dp K G1 v (.tuple (R.map .str)) ∧ NamesOk R ∧ R.length ≤ 900 ∧ most ≤ 9 ∧ ∀ l v' G', RecsFit R l → l.length ≤ 9 → Same G1 G' → Dp K G' v' (.list (l.map encRec)) → Q v' G') : Ev (some (a, c)) (tCall (SpB 3 (pRecs K)) [] E ta) σ G Q :=
  ev_callB (Ev.mono h fun vs G1 _ ⟨v, R, most, stand, ev, h1, h2, h3, h4, q⟩ => ⟨_, ev, rfl, v, R, most, stand, rfl, h1, h2, h3, h4, q⟩)
def pWorld (K : PySem.W.Frag) : List V → Hp → (V → Hp → Prop) → Prop := fun vs G P => ∃ most : Nat, vs = [.int (most : Int)] ∧ 1 ≤ most ∧ most ≤ 6 ∧ ∀ (t : Addr) (v1 v2 v3 v4 : V) (R R2 : List Str) (recs : List RecD) (ls : List LineT) G', NamesOk R → sortedS R = true → 1 ≤ R.length → R.length ≤ 6 → RecsFit R recs → recs.length ≤ 9 → NamesOk R2 → sortedS R2 = true → 1 ≤ R2.length → R2.length ≤ 7 → LinesOk ls R2.length →
  Same G G' → G' t = some (.tup [v1, v2, v3, v4]) → RsAt G' v1 R → Dp K G' v2 (.list (recs.map encRec)) → RsAt G' v3 R2 → Dp K G' v4 (.list (ls.map encLine)) → P (.ref t) G'
theorem d__law_world (T : Mo K mg) : Def P w K mg base CX0 6 "_law_world" ["_law_bag_here", "_law_most"] (SpB 1 (pWorld K)) := by
  obtain ⟨fd, F⟩ := T.f__law_world
  refine ⟨_, fd, F.ok sc__law_world spB_len (fun cdv A outer s H vs Q E hr h => ?_), T.g__law_world, F.kp, F.bindsN fun _ _ _ _ _ _ us hl => match us, hl with | [_, _], _ => rfl⟩
  have hu := hu_of hr
  obtain ⟨_, bg, bc, G, P, vs, rfl, wd, hp, kq⟩ := h
  refine ⟨_, PSs.nox (pss_cons (ps_set (i := 2) sc__law_world.nd rfl (Or.inl rfl) (pe_d (d__law_some T) (hr.mono (by decide)) (by rfl) pass0 (pa_cons (pv 0) (pa_cons (pe_d (d__law_few T) (hr.mono (by decide)) (by rfl) pass0 (pa_cons (pv 0) pa_nil)) pa_nil))))
    (pss_cons (ps_set (i := 3) sc__law_world.nd rfl (Or.inl rfl) (pe_d (d__law_recs T) (hr.mono (by decide)) (by rfl) pass0 (pa_cons (pv 0) (pa_cons (pv 2) (pa_cons (pe_d (d__law_of T) (hr.mono (by decide)) (by rfl) pass0 (pa_cons (pv 0) (pa_cons (pe_lst (pa_cons pe_int (pa_cons pe_int (pa_cons pe_int (pa_cons pe_int (pa_cons pe_int pa_nil)))))) pa_nil))) (pa_cons (pe_cmpR op_gt (pe_d (d__law_draw T) (hr.mono (by decide)) (by rfl) pass0 (pa_cons (pv 0) (pa_cons pe_int pa_nil))) pe_int (by rfl)) pa_nil))))))
    (pss_cons (ps_set (i := 4) sc__law_world.nd rfl (Or.inl rfl) (pe_ifExp (pt_cmpR op_eq (pe_d (d__law_draw T) (hr.mono (by decide)) (by rfl) pass0 (pa_cons (pv 0) (pa_cons pe_int pa_nil))) pe_int (by rfl)) (pe_d (d__law_other T) (hr.mono (by decide)) (by rfl) pass0 (pa_cons (pv 0) (pa_cons (pv 2) pa_nil))) (pv 2)))
    (pss_one (ps_ret (pe_tup (pa_cons (pv 2) (pa_cons (pv 3) (pa_cons (pv 4) (pa_cons (pe_d (d__law_lines T) (hr.mono (by decide)) (by rfl) pass0 (pa_cons (pv 0) (pa_cons (pv 4) (pa_cons (pv 1) pa_nil)))) pa_nil)))))))))), ?_⟩
  obtain ⟨most, rfl, hm1, hm6, k⟩ := hp
  walk_at "ev"
  refine ev_some ?_
  walk_at "ev"
  refine ev_few ?_
  walk_at "ev"
  refine ⟨rfl, fun n G1 hn1 hn6 e1 => ea_nil ⟨n, rfl, by omega, fun R v1 G2 hR hs hl e2 hv1 H2 s2 w2 => ?_⟩⟩
  subst hl
  have hd1 := rs_dp (K := K) hv1
  clear wd
  dsimp only
  walk_at "ev"
  refine ev_recs (ea_cons (ev_var rfl (ea_cons (ev_var rfl (ea_cons (ev_of ?_))))))
  walk_at "ev"
  refine ev_lst ?_
  walk_at "ev"
  refine ⟨by show 5 ≤ 1000000; decide, fun hp hhp => ea_nil ⟨_, _, rfl, .inl (.inl (dp_newL (dpa_ints [7, 2, 0, 4, 1]) hhp)), by decide, by decide, fun d v' G3 hd e3 hv' => ?_⟩⟩
  obtain ⟨z, hz7, rfl⟩ : ∃ z : Nat, z ≤ 7 ∧ d = .int (z : Int) := by
    obtain ⟨z, hz, rfl⟩ := List.mem_map.mp hd
    have h0 : ∀ z ∈ ([7, 2, 0, 4, 1] : List Int), z.toNat ≤ 7 ∧ ((z.toNat : Nat) : Int) = z := by decide +kernel
    exact ⟨z.toNat, (h0 z hz).1, by rw [(h0 z hz).2]⟩
  cases dp_int hv'
  have e3' := (same_new (o := .lst [.int 7, .int 2, .int 0, .int 4, .int 1]) hhp).trans e3
  walk_at "ev"
  refine ev_draw ?_
  walk_at "ev"
  refine ⟨8, rfl, by decide, by decide, fun z8 G4 hz8 e4 => ?_⟩
  walk_at "ev"
  refine rv_I0 (ea_nil ⟨v1, R, z, _, rfl, Dpm hd1 (e3'.trans e4), hR, by omega, by omega, fun recs v2 G5 hrf hrl e5 hv2 H5 s5 w5 => ?_⟩)
  have g5 := (e3'.trans e4).trans e5
  have hv1' := rs_mono g5 hv1
  replace s5 := s2.trans s5
  clear w2 s2
  dsimp only
  walk_at "ev"
  refine Ev.mono (P := fun v3 G6 => Same G5 G6 ∧ ∃ R2, NamesOk R2 ∧ sortedS R2 = true ∧ 1 ≤ R2.length ∧ R2.length ≤ 7 ∧ RsAt G6 v3 R2) ?_ fun v3 G6 _ ⟨e6, R2, hR2, hs2, h21, h27, hv3⟩ H6 s6 w6 => ?_
  · refine ev_if (et_test ?_)
    walk_at "ev"
    refine ev_draw ?_
    walk_at "ev"
    refine ⟨9, rfl, by decide, by decide, fun z9 G6 hz9 e6 => ?_⟩
    walk_at "ev"
    refine rv_eqB rfl ⟨_, rfl, fun _ => ?_, fun _ => ?_⟩
    · refine ev_other ?_
      walk_at "ev"
      exact ⟨v1, R, rfl, Dpm hd1 (g5.trans e6), hR, hn1, hn6, fun R2 v' G7 q1 q2 q3 q4 e7 q5 => ⟨e6.trans e7, R2, q1, q2, q3, q4, q5⟩⟩
    · exact ev_var rfl ⟨e6, R, hR, hs, hn1, by omega, rs_mono e6 hv1'⟩
  clear w5
  dsimp only
  walk_at "ev"
  refine ev_tup (ea_cons (ev_var rfl (ea_cons (ev_var rfl (ea_cons (ev_var rfl (ea_cons (ev_lines ?_))))))))
  walk_at "ev"
  refine ⟨v3, R2, most, rfl, rs_dp hv3, h27, hm1, hm6, fun ls v4 G7 hls e7 hv4 => ea_nil ⟨by show 4 ≤ 1000000; decide, fun t ht H8 s8 w8 => ?_⟩⟩
  have g8 := e7.trans (same_new (o := .tup [v1, v2, v3, v4]) ht)
  have sall := (s5.trans s6).trans s8
  exact kq _ _ _ sall w8 (k t v1 v2 v3 v4 R R2 recs ls _ hR hs hn1 hn6 hrf hrl hR2 hs2 h21 h27 hls sall.gg upd_same (rs_mono (e6.trans g8) hv1') (Dpm hv2 (e6.trans g8)) (rs_mono g8 hv3) (Dpm hv4 (same_new ht)))
end
end FD
namespace FD
open PySem PyProof.Rows L2
section
variable {P : Program} {w : World} {K : PySem.W.Frag} {mg : Str → Option Value} {base : Heap}
local macro_rules | `(tactic| walk_at "ev") => `(tactic| repeat (first | with_reducible refine s_seq ?_ | with_reducible refine s_skip ?_ | with_reducible refine s_gn ?_ | with_reducible refine ev_op ?_ | with_reducible refine ev_un ?_ | ((with_reducible refine' ev_var ?hv ?_); (case hv => rfl)) | with_reducible refine ev_c ?_ | with_reducible refine ev_cb ?_ | with_reducible refine ea_cons ?_ | with_reducible refine ea_nil ?_ | with_reducible refine et_test ?_ | with_reducible refine et_B ?_ | with_reducible refine s_ret (by assumption) ?_ | with_reducible refine s_asg (by assumption) ?_))
theorem bears_flip : ∀ {p : List Str} {r : RowD}, bearsOf p r = false → bearsOf p (flipRow r) = true
  | [], _, h => by cases h
  | a :: p, r, h => by
    have h1 : (if a ∈ r.1 ∨ a ∈ r.2 then decide (a ∈ r.1) else bearsOf p r) = false := h
    show (if a ∈ r.2 ∨ a ∈ r.1 then decide (a ∈ r.2) else bearsOf p (flipRow r)) = true
    by_cases q : a ∈ r.1 ∨ a ∈ r.2
    · rw [if_pos q] at h1
      have h2 := of_decide_eq_false h1
      rw [if_pos (q.elim (fun z => .inr z) .inl)]
      exact decide_eq_true (q.elim (fun z => absurd z h2) id)
    · rw [if_neg q] at h1
      rw [if_neg (fun z => q (z.elim .inr .inl))]
      exact bears_flip h1
def pFull (K : PySem.W.Frag) : List V → Hp → (V → Hp → Prop) → Prop := fun vs G P => vs = [] ∧ ∀ (t : Addr) (v1 v2 v3 v4 : V) (R p : List Str) (recs : List RecD) (ls : List LineT) G', RecsOk R recs → R.length ≤ 6 → p.Perm R → (∀ x ∈ recs, bearsOf p x.2 = true) → LinesOk ls R.length →
  Same G G' → G' t = some (.tup [v1, v2, v3, v4]) → RsAt G' v1 R → Dp K G' v2 (.list (recs.map encRec)) → Dp K G' v3 (.list ((fitOf R recs).map encT)) → Dp K G' v4 (.list (ls.map encLine)) → P (.ref t) G'
theorem d__law_full (T : Mo K mg) : Def P w K mg base CX0 5 "_law_full" ["_law_bag_here"] (SpB 0 (pFull K)) := by
  obtain ⟨fd, F⟩ := T.f__law_full
  refine ⟨_, fd, F.ok sc__law_full spB_len (fun cdv A outer s H vs Q E hr h => ?_), T.g__law_full, F.kp, F.bindsN fun _ _ _ _ _ _ us hl => match us, hl with | [_], _ => rfl⟩
  have hu := hu_of hr
  obtain ⟨_, bg, bc, G, P, vs, rfl, wd, hp, kq⟩ := h
  refine ⟨_, PSs.nox (pss_cons (ps_set (i := 1) sc__law_full.nd rfl (Or.inr rfl) (pe_d (d__law_some T) (hr.mono (by decide)) (by rfl) pass0 (pa_cons (pv 0) (pa_cons (pe_d (d__law_of T) (hr.mono (by decide)) (by rfl) pass0 (pa_cons (pv 0) (pa_cons (pe_lst (pa_cons pe_int (pa_cons pe_int (pa_cons pe_int pa_nil)))) pa_nil))) pa_nil))))
    (pss_cons (ps_asg (pe_tup (pa_cons (pe_d (d__law_mixed T) (hr.mono (by decide)) (by rfl) pass0 (pa_cons (pv 0) (pa_cons (pv 1) pa_nil))) (pa_cons (pe_lst pa_nil) pa_nil))) (pg_tup rfl (pgs_cons (pg_name (i := 2) sc__law_full.nd rfl (Or.inl rfl)) (pgs_cons (pg_name (i := 3) sc__law_full.nd rfl (Or.inr rfl)) pgs_nil))))
    (pss_cons (ps_for PassesOwn.never rfl (pi_range1 (by rfl) T.n_range (pa_cons pe_int pa_nil)) (pg_name (i := 4) sc__law_full.nd rfl (Or.inl rfl))
      (pss_cons (ps_set (i := 5) sc__law_full.nd rfl (Or.inl rfl) (pe_d (d__law_row T) (hr.mono (by decide)) (by rfl) pass0 (pa_cons (pv 0) (pa_cons (pv 1) pa_nil))))
    (pss_one (ps_expr (pe_bm PySem.F.plainAttrs_list PySem.F.slot_list_append PySem.F.type_list_append mt_append (pv 3) (pa_cons (pe_ifExp (pt_val (pe_d (d__law_bears T) (hr.mono (by decide)) (by rfl) pass0 (pa_cons (pv 2) (pa_cons (pv 5) pa_nil)))) (pv 5) (pe_tup (pa_cons (pe_ix ix_tup (pv 5) pe_int (fun _ _ => rfl)) (pa_cons (pe_ix ix_tup (pv 5) pe_int (fun _ _ => rfl)) pa_nil)))) pa_nil))))))
    (pss_cons (ps_setLc (i := 6) (own := [("_law_k", 4)]) (g := gName 4) (tt := tYes) rfl sc__law_full.nd rfl rfl (sw_true rfl rfl rfl (by decide +kernel)) (pi_range1 (by rfl) T.n_range (pa_cons (pe_op op_add pe_int (pe_d (d__law_draw T) (hr.mono (by decide)) (by rfl) pass0 (pa_cons (pv 0) (pa_cons pe_int pa_nil)))) pa_nil)) (blkOk_by (N := ["_law_bag_here", "_law_some_here", "_law_lead", "_law_few_here", "_law_k", "_law_row_here", "_law_recs_here", "_law_lines_here", "_law_b", "_law_a"]) (sc := defScope s__law_full) (by decide +kernel)) (fun _ _ _ _ _ => (pg_name (i := 4) sc__law_full.nd rfl (Or.inl rfl))) (fun _ _ _ _ _ => pts_nil) (fun _ _ _ _ _ => (blk_te (pe_tup (pa_cons (pe_d (d__law_kth T) (hr.mono (by decide)) (by rfl) pass0 (pa_cons (pe_op op_add (pe_op op_mul pe_int (pv 4)) pe_int) pa_nil)) (pa_cons (pe_d (d__law_of T) (hr.mono (by decide)) (by rfl) pass0 (pa_cons (pv 0) (pa_cons (pv 3) pa_nil))) pa_nil))) (by (try dsimp only [Cx.blk, Cx.nox, cxOf]); (try rfl)))))
    (pss_cons (ps_setLc (i := 7) (own := [("_law_a", 9)]) (g := gName 9) (tt := tYes) rfl sc__law_full.nd rfl rfl (sw_true rfl rfl rfl (by decide +kernel)) (pi_list (pe_d (d__law_words T) (hr.mono (by decide)) (by rfl) pass0 (pa_cons (pv 0) (pa_cons pe_int pa_nil)))) (blkOk_by (N := ["_law_bag_here", "_law_some_here", "_law_lead", "_law_few_here", "_law_k", "_law_row_here", "_law_recs_here", "_law_lines_here", "_law_b", "_law_a"]) (sc := defScope s__law_full) (by decide +kernel)) (fun _ _ _ _ _ => (pg_name (i := 9) sc__law_full.nd rfl (Or.inl rfl))) (fun _ _ _ _ _ => pts_nil) (fun _ _ _ _ _ => (blk_te (pe_tup (pa_cons (pv 9) (pa_cons (pe_tupleOf (by rfl) T.n_tuple (pe_lc (own := [("_law_b", 8)]) (g := gName 8) (tt := tYes) rfl sc__law_full.nd (pi_tup (pv 1)) (blkOk_by (N := ["_law_bag_here", "_law_some_here", "_law_lead", "_law_few_here", "_law_k", "_law_row_here", "_law_recs_here", "_law_lines_here", "_law_b", "_law_a"]) (sc := relS _ (defScope s__law_full)) (by decide +kernel)) (fun _ _ _ _ _ => (pg_name (i := 8) sc__law_full.nd rfl (Or.inl rfl))) (fun _ _ _ _ _ => pts_nil) (fun _ _ _ _ _ => (blk_te (pe_d (d__law_draw T) (hr.mono (by decide)) (by rfl) pass0 (pa_cons (pv 0) (pa_cons pe_int pa_nil))) (by (try dsimp only [Cx.blk, Cx.nox, cxOf]); (try rfl)))))) pa_nil))) (by (try dsimp only [Cx.blk, Cx.nox, cxOf]); (try rfl)))))
    (pss_one (ps_ret (pe_tup (pa_cons (pv 1) (pa_cons (pv 6) (pa_cons (pe_d (d__law_fit T) (hr.mono (by decide)) (by rfl) pass0 (pa_cons (pv 1) (pa_cons (pv 6) pa_nil))) (pa_cons (pv 7) pa_nil)))))))))))), ?_⟩
  obtain ⟨rfl, k⟩ := hp
  walk_at "ev"
  refine ev_some ?_
  walk_at "ev"
  refine ev_of ?_
  walk_at "ev"
  refine ev_lst ?_
  walk_at "ev"
  refine ⟨by show 3 ≤ 1000000; decide, fun hp hhp => ea_nil ⟨_, _, rfl, .inl (.inl (dp_newL (dpa_ints [3, 2, 4]) hhp)), by decide, by decide, fun d v' G1 hd e1 hv' => ?_⟩⟩
  obtain ⟨n, hn2, hn4, rfl⟩ : ∃ z : Nat, 2 ≤ z ∧ z ≤ 4 ∧ d = .int (z : Int) := by
    obtain ⟨z, hz, rfl⟩ := List.mem_map.mp hd
    have h0 : ∀ z ∈ ([3, 2, 4] : List Int), 2 ≤ z.toNat ∧ z.toNat ≤ 4 ∧ ((z.toNat : Nat) : Int) = z := by decide +kernel
    exact ⟨z.toNat, (h0 z hz).1, (h0 z hz).2.1, by rw [(h0 z hz).2.2]⟩
  cases dp_int hv'
  walk_at "ev"
  refine ⟨n, rfl, by omega, fun R v1 G2 hR hs hl e2 hv1 H2 s2 w2 => ?_⟩
  subst hl
  have hd1 := rs_dp (K := K) hv1
  clear wd
  dsimp only
  with_reducible refine s_seq ?_
  refine s_two w2 (ev_tup (ea_cons (ev_mixed ?_)))
  walk_at "ev"
  refine ⟨_, _, rfl, .inl (.inr hd1), by rw [List.length_map]; omega, fun ds lv G3 hlp e3 hlv => ea_cons (ev_lst (ea_nil ⟨by decide, fun f hf => ea_nil ⟨by show 2 ≤ 1000000; decide, fun t ht => ⟨t, lv, .ref f, rfl, SqT.of upd_same, fun H3 s3 w3 => ?_⟩⟩⟩))⟩
  obtain ⟨lead, hlead, rfl⟩ := perm_map_inv hlp _ rfl
  have hf3 : H3 f = some (.lst []) := w3.same _ _ (same_new ht _ _ upd_same)
  replace s3 := s3.unnew (e3.trans (same_new hf)) ht
  replace w3 := w2.unnew (e3.trans (same_new hf)) ht w3
  have hG2 : G2 f = none := by
    cases z : G2 f with
    | none => rfl
    | some o => rw [e3 _ _ z] at hf; cases hf
  have hf2 : H2 f = none := s3.newAt hG2 upd_same
  replace s3 := s3.unnew e3 hf
  replace w3 := w2.unnew e3 hf w3
  have nbf : ¬ Bg (some (bg, bc)) f := w2.off hf2
  have hf0 : H f = none := by
    cases q : H f with
    | none => rfl
    | some o => exact absurd hf2 (s2.al f (by rw [q]; exact fun z => nomatch z))
  replace s3 := s2.trans s3
  have hv3 := rs_mono e3 hv1
  have hd3 := Dpm hd1 e3
  clear s2 w2 ht
  dsimp only
  with_reducible refine s_seq ?_
  refine s_forR1 w3 (ea_cons (ev_c (ea_nil ⟨3, rfl, by decide, fun i σ G4 H4 => Same G3 G4 ∧ Stp (Bg (some (bg, bc))) G H G4 H4 ∧ Wd (some (bg, bc)) G4 H4 ∧ G4 f = none ∧ ∃ (acc : List V) (rows : List RowD) (z4 z5 z6 z7 z8 z9 : Option V), σ = [some (.ref bg), some v1, some lv, some (.ref f), z4, z5, z6, z7, z8, z9] ∧ H4 f = some (.lst acc) ∧ DpAll K G4 acc (rows.map encRow) ∧ rows.length = i ∧ ∀ r ∈ rows, RowFit R r ∧ bearsOf lead r = true, ⟨?_, ?_⟩, ?_, ?_⟩)))
  · exact fun i σ G4 H4 h => ⟨h.1, h.2.2.1⟩
  · rintro σ G4 H4 ⟨g4, s4, w4, hf4, acc, rows, z4, z5, z6, z7, z8, z9, rfl, hh4, hacc, hrl, hrf⟩
    have wk := w4.know hh4 hf4 nbf
    have s5 := s4.know hf0 hh4 hf4
    have g45 := same_new (o := .lst acc) hf4
    have hfew := dp_newL (K := K) hacc hf4
    have hv5 := rs_mono (g4.trans g45) hv3
    generalize upd G4 f (.lst acc) = G5 at wk s5 g45 hfew hv5
    have hd5 := rs_dp (K := K) hv5
    have hrl3 : rows.length = 3 := hrl
    clear w3 w4 s4
    dsimp only
    walk_at "ev"
    refine lcR ?_
    walk_at "ev"
    refine ev_draw ?_
    walk_at "ev"
    refine ⟨5, rfl, by decide, by decide, fun z G6 hz e6 => ?_⟩
    walk_at "ev"
    refine rv_I0 (ea_nil ⟨36 + z, by rw [Int.natCast_add]; rfl, by omega, (fun _ => by rfl), fun i acc G7 => Same G6 G7 ∧ ∃ l : List RecD, l.map (·.1) = (List.range i).map (fun k => kthS (2 * k + 1)) ∧ (∀ x ∈ l, RowFit R x.2 ∧ bearsOf lead x.2 = true) ∧ DpAll K G7 acc (l.map encRec), ⟨Same.refl _, [], rfl, fun _ h => (nomatch h), .nil⟩, ?_, ?_⟩)
    · rintro i G7 acc2 hi e7 ⟨_, l, h1, h2, h3⟩ -
      refine et_yes ⟨fun _ => ?_, fun h => nomatch h⟩
      refine ev_tup (ea_cons (ev_kth ?_))
      walk_at "ev"
      refine rv_I (Or.inl ⟨by decide, by decide⟩) ?_
      walk_at "ev"
      refine rv_I0 (ea_nil ⟨2 * i + 1, by rw [Int.natCast_add, Int.natCast_mul]; rfl, by omega, fun s G8 hs8 e8 => ?_⟩)
      cases hs8
      refine ea_cons (ev_of ?_)
      walk_at "ev"
      refine ⟨_, _, rfl, .inl (.inl (Dpm hfew ((e6.trans e7).trans e8))), by rw [List.length_map]; omega, by rw [List.length_map]; omega, fun d v' G9 hd9 e9 hv9 => ea_nil ⟨by show 2 ≤ 1000000; decide, fun t ht => ?_⟩⟩
      obtain ⟨r, hr, rfl⟩ := List.mem_map.mp hd9
      refine ⟨((e7.trans e8).trans e9).trans (same_new ht), l ++ [(kthS (2 * i + 1), r)], by rw [List.map_append, h1, List.range_succ, List.map_append]; rfl, fun x hx => ?_, ?_⟩
      · rcases List.mem_append.mp hx with hx | hx
        · exact h2 x hx
        · rw [List.mem_singleton.mp hx]; exact hrf r hr
      · rw [List.map_append]
        exact dpa_snoc (Dpam h3 ((e8.trans e9).trans (same_new ht))) (dp_newT (dpa_two (.str _) hv9) ht)
    · rintro acc2 G7 e7 ⟨_, recs, h1, h2, h3⟩ - q hq H7 s7 w7
      have hrv := dp_newL h3 hq
      have g7 := (e6.trans e7).trans (same_new (o := .lst acc2) hq)
      generalize upd G7 q (.lst acc2) = G8 at s7 w7 hrv g7
      replace s7 := s5.trans s7
      have hd8 := Dpm hd5 g7
      have hv8 := rs_mono g7 hv5
      have hlen : recs.length = 36 + z := by
        have := congrArg List.length h1
        rw [List.length_map, List.length_map, List.length_range] at this
        exact this
      have hok : RecsOk R recs := by
        refine ⟨hR, hs, by omega, by omega, fun x hx => ?_, ?_, fun x hx => (h2 x hx).1, by omega⟩
        · have hm : x.1 ∈ recs.map (·.1) := List.mem_map.mpr ⟨x, hx, rfl⟩
          rw [h1] at hm
          obtain ⟨k, hk, e⟩ := List.mem_map.mp hm
          rw [← e]
          have := List.mem_range.mp hk
          exact kthS_ok (by omega)
        · rw [h1]
          exact List.Pairwise.map _ (fun a b h e => by have := kthS_inj e; omega) (List.nodup_range (n := 36 + z))
      obtain ⟨ta, hta, hqR⟩ := dp_strs hd8
      clear wk s5
      dsimp only
      walk_at "ev"
      refine lcL (K := K) (ev_words ?_)
      walk_at "ev"
      refine ⟨6, rfl, by decide, fun names nv G9 hnames hnl e9 hnv => ?_⟩
      obtain ⟨na, rfl, hna⟩ := dp_strsL hnv
      refine ⟨na, _, rfl, hna, by rw [List.length_map]; omega, fun i acc G10 => Same G9 G10 ∧ ∃ ls : List LineT, ls.map (·.1) = names.take i ∧ (∀ l ∈ ls, l.2.length = R.length) ∧ DpAll K G10 acc (ls.map encLine), ⟨Same.refl _, [], rfl, fun _ h => (nomatch h), .nil⟩, ?_, ?_⟩
      · rintro i x G10 acc3 hi e10 ⟨_, ls, k1, k2, k3⟩ -
        rw [List.getElem?_map] at hi
        obtain ⟨nm, hnm, rfl⟩ := Option.map_eq_some_iff.mp hi
        refine ⟨_, fun H _ => gv_name, by rfl, et_yes ⟨fun _ => ?_, fun h => nomatch h⟩⟩
        refine ev_tup (ea_cons (ev_var rfl (ea_cons (ev_tupOf (lcT (K := K) (ev_var rfl ⟨ta, _, hta, sqt_mono (e9.trans e10) hqR, by rw [List.length_map]; omega, fun j acc4 G11 => Same G10 G11 ∧ ∃ zs : List Int, zs.length = j ∧ acc4 = zs.map V.int, ⟨Same.refl _, [], rfl, rfl⟩, ?_, ?_⟩))))))
        · rintro j y G11 acc4 hj e11 ⟨_, zs, hzs, rfl⟩ -
          refine ⟨_, fun H _ => gv_name, by rfl, et_yes ⟨fun _ => ?_, fun h => nomatch h⟩⟩
          refine ev_draw ?_
          walk_at "ev"
          exact ⟨3, rfl, by decide, by decide, fun u G12 _ e12 => ⟨e11.trans e12, zs ++ [(u : Int)], by rw [List.length_append, hzs]; rfl, by rw [List.map_append]; rfl⟩⟩
        · rintro acc4 G11 e11 ⟨_, zs, hzs, rfl⟩ - q2 hq2
          rw [List.length_map] at hzs
          refine ⟨_, .inl (dp_newL (dpa_ints zs) hq2), fun rv G12 e12 hrv12 => ea_nil ⟨by show 2 ≤ 1000000; decide, fun t2 ht2 => ?_⟩⟩
          have g12 := ((e11.trans (same_new (o := .lst (zs.map V.int)) hq2)).trans e12).trans (same_new (o := .tup [.str nm, rv]) ht2)
          refine ⟨e10.trans g12, ls ++ [(nm, zs)], by rw [List.map_append, k1, List.take_succ, hnm]; rfl, fun l hl => ?_, ?_⟩
          · rcases List.mem_append.mp hl with hl | hl
            · exact k2 l hl
            · rw [List.mem_singleton.mp hl]; exact hzs
          · rw [List.map_append]
            exact dpa_snoc (Dpam k3 g12) (dp_newT (dpa_two (.str _) hrv12) ht2)
      · rintro acc3 G10 e10 ⟨_, ls, k1, k2, k3⟩ - q2 hq2 H10 s10 w10
        rw [List.length_map, List.take_of_length_le (Nat.le_refl _)] at k1
        have hll := congrArg List.length k1
        rw [List.length_map] at hll
        have hlsv := dp_newL k3 hq2
        have g10 := (e9.trans e10).trans (same_new (o := .lst acc3) hq2)
        generalize upd G10 q2 (.lst acc3) = G11 at s10 w10 hlsv g10
        replace s10 := s7.trans s10
        clear w7 s7
        dsimp only
        walk_at "ev"
        refine ev_tup (ea_cons (ev_var rfl (ea_cons (ev_var rfl (ea_cons (ev_fit ?_))))))
        walk_at "ev"
        refine ⟨v1, .ref q, R, recs, rfl, Dpm hd8 g10, by omega, Dpm hrv g10, fun fv G12 e12 hfv => ea_cons (ev_var rfl (ea_nil ⟨by show 4 ≤ 1000000; decide, fun t2 ht2 H13 s13 w13 => ?_⟩))⟩
        have g12 := e12.trans (same_new (o := .tup [v1, .ref q, fv, .ref q2]) ht2)
        have sall := s10.trans s13
        exact kq _ _ _ sall w13 (k t2 v1 _ fv _ R lead recs ls _ hok (by omega) hlead (fun x hx => (h2 x hx).2) ⟨by rw [k1]; exact hnames, k2, by omega, by omega, by omega⟩ sall.gg upd_same (rs_mono (g10.trans g12) hv8) (Dpm hrv (g10.trans g12)) (Dpm hfv (same_new ht2)) (Dpm hlsv g12))
  · intro H4 s4 w4
    exact ⟨Same.refl _, s3.trans s4, w4, hf, [], [], _, _, _, _, _, _, rfl, s4.hh _ _ hf3 nbf, .nil, rfl, fun _ h => nomatch h⟩
  · rintro i σ G4 H4 hi ⟨g4, s4, w4, hf4, acc, rows, z4, z5, z6, z7, z8, z9, rfl, hh4, hacc, hrl, hrf⟩
    have hH4 : H4 f ≠ none := by rw [hh4]; exact fun z => nomatch z
    clear w3
    walk_at "ev"
    refine ev_row ?_
    walk_at "ev"
    refine ⟨v1, R, rfl, Dpm hd3 g4, hR, fun r rv G5 hr5 e5 hrv H5 s5 w5 => ?_⟩
    have hf5 := s5.fr f hf4 hH4
    have hh5 := s5.hh _ _ hh4 nbf
    have hH5 : H5 f ≠ none := by rw [hh5]; exact fun z => nomatch z
    have g5 := g4.trans e5
    replace s5 := s4.trans s5
    replace hacc := Dpam hacc e5
    clear s4 w4
    dsimp only
    refine s_app w5 rfl hh5 nbf (by rw [dpa_len hacc, List.length_map]; omega) ?_
    refine Ev.mono (P := fun u G6 => Same G5 G6 ∧ ∃ r', RowFit R r' ∧ bearsOf lead r' = true ∧ Dp K G6 u (encRow r')) ?_ fun u G6 _ ⟨e6, r', h1, h2, h3⟩ H6 s6 w6 hh6 => ?_
    · refine ev_if (et_test (ev_bears ?_))
      walk_at "ev"
      refine ⟨lv, rv, lead, r, rfl, .inl (Dpm hlv g5), hrv, fun G6 e6 => ⟨_, rfl, fun h => ?_, fun h => ?_⟩⟩
      · exact ev_var rfl ⟨e6, r, hr5, h, Dpm hrv e6⟩
      · refine ev_tup (ea_cons ?_)
        walk_at "ev"
        refine rv_ixDT (i := 1) (Dpm hrv e6) rfl fun a1 h1 => ea_cons ?_
        walk_at "ev"
        refine rv_ixDT (i := 0) (Dpm hrv e6) rfl fun a2 h2 => ea_nil ⟨by show 2 ≤ 1000000; decide, fun t ht => ?_⟩
        exact ⟨e6.trans (same_new ht), flipRow r, rowFit_flip hr5, bears_flip h, dp_newT (dpa_two h1 h2) ht⟩
    · have hf6 := s6.fr f hf5 hH5
      refine ⟨G6, g5.trans e6, (s5.trans s6).mut hf0 hf6, w6.mut hf6 nbf, hf6, _, rows ++ [r'], _, _, _, _, _, _, rfl, upd_same, ?_, by rw [List.length_append, hrl]; rfl, fun x hx => ?_⟩
      · rw [List.map_append]
        exact dpa_snoc (Dpam hacc e6) h3
      · rcases List.mem_append.mp hx with hx | hx
        · exact hrf x hx
        · rw [List.mem_singleton.mp hx]; exact ⟨h1, h2⟩
end
end FD
namespace FD
open PySem PyProof.Rows L2
section
variable {P : Program} {w : World} {K : PySem.W.Frag} {mg : Str → Option Value} {base : Heap}
local macro_rules | `(tactic| walk_at "ev") => `(tactic| repeat (first | with_reducible refine s_seq ?_ | with_reducible refine s_skip ?_ | with_reducible refine s_gn ?_ | with_reducible refine ev_op ?_ | with_reducible refine ev_un ?_ | ((with_reducible refine' ev_var ?hv ?_); (case hv => rfl)) | with_reducible refine ev_c ?_ | with_reducible refine ev_cb ?_ | with_reducible refine ea_cons ?_ | with_reducible refine ea_nil ?_ | with_reducible refine et_test ?_ | with_reducible refine et_B ?_ | with_reducible refine s_ret (by assumption) ?_ | with_reducible refine s_asg (by assumption) ?_))
def encI (a : List Int) : PyData := .list (a.map .int)
def ltI (a b : List Int) : Bool := PySem.W.dataLt (encI a) (encI b)
def minI : List (List Int) → List Int
  | [] => []
  | x :: xs => xs.foldl (fun a y => if ltI y a = true then y else a) x
theorem minD_enc (x : List Int) (xs : List (List Int)) : PySem.W.minD (encI x) (xs.map encI) = encI (minI (x :: xs)) := by
  unfold PySem.W.minD
  show _ = encI (xs.foldl (fun a y => if ltI y a = true then y else a) x)
  induction xs generalizing x with
  | nil => rfl
  | cons y xs ih =>
    rw [List.map_cons, List.foldl_cons, List.foldl_cons]
    by_cases h : ltI y x = true
    · rw [if_pos h, if_pos (show PySem.W.dataLt (encI y) (encI x) = true from h)]
      exact ih y
    · rw [if_neg h, if_neg (show ¬ PySem.W.dataLt (encI y) (encI x) = true from h)]
      exact ih x
theorem alike_ints : ∀ a c : List Int, PySem.W.alikeAll (a.map .int) (c.map .int) = true
  | [], c => by rw [List.map_nil, PySem.W.alikeAll]
  | x :: a, [] => by rw [List.map_cons, List.map_nil, PySem.W.alikeAll]
  | x :: a, y :: c => by
    rw [List.map_cons, List.map_cons, PySem.W.alikeAll, alike_ints a c]
    rfl
theorem alike_encI (a c : List Int) : PySem.W.alike (encI a) (encI c) = true := by
  unfold encI
  rw [PySem.W.alike]
  exact alike_ints a c
theorem depth_ints : ∀ a : List Int, PyData.depthAll (a.map .int) ≤ 2
  | [] => by rw [List.map_nil]; decide
  | x :: a => by
    have := depth_ints a
    rw [List.map_cons]
    simp only [PyData.depthAll, PyData.depth]
    omega
theorem depth_encI : ∀ l : List (List Int), PyData.depthAll (l.map encI) ≤ 5
  | [] => by rw [List.map_nil]; decide
  | a :: l => by
    have h1 := depth_encI l
    have h2 := depth_ints a
    rw [List.map_cons]
    simp only [PyData.depthAll, PyData.depth, encI]
    omega
theorem rv_minI {b : Option (Addr × Addr)} {G : Hp} {Q : V → Hp → Prop} {v : V} {l : List (List Int)} (hl : 1 ≤ l.length) (h : Dp K G v (.list (l.map encI))) (p : ∀ u, Dp K G u (encI (minI l)) → Q u G) : Rv b (rMinD K [v]) G Q := by
  obtain ⟨a, ws, rfl, q, d⟩ := dp_lst h
  cases l with
  | nil => exact absurd hl (by decide)
  | cons x xs =>
    refine fun H w R k => ⟨a, ws, encI x, xs.map encI, rfl, sql_mono w.same q, Dpam d w.same, ⟨fun y hy z hz => ?_, fun y hy => ?_⟩, Nat.le_trans (depth_encI (x :: xs)) (by decide), fun i u hu hi => k u _ _ (Stp.refl w.same) w (p u ?_)⟩
    · have hy2 : y ∈ (x :: xs).map encI := hy
      have hz2 : z ∈ (x :: xs).map encI := hz
      obtain ⟨y', _, rfl⟩ := List.mem_map.mp hy2
      obtain ⟨z', _, rfl⟩ := List.mem_map.mp hz2
      exact alike_encI y' z'
    · have hy2 : y ∈ (x :: xs).map encI := hy
      obtain ⟨y', _, rfl⟩ := List.mem_map.mp hy2
      exact fun e => by unfold encI at e; cases e
    · obtain ⟨d', h1, h2⟩ := dpa_get d hu
      have h3 : (encI x :: xs.map encI)[i]? = some d' := h1
      rw [hi] at h3
      cases h3
      rw [← minD_enc]
      exact h2
def readOf (R p : List Str) (l : LineT) : List Int := p.map fun b => l.2.getD (R.idxOf b) 0
def winOf (R : List Str) (ls : List LineT) (p : List Str) : List Str := (ls.filter fun l => decide (readOf R p l = minI (ls.map (readOf R p)))).map (·.1)
def encRd (x : Str × List Int) : PyData := .tuple [.str x.1, encI x.2]
def pWin (K : PySem.W.Frag) : List V → Hp → (V → Hp → Prop) → Prop := fun vs G P => ∃ (sv lv pv : V) (R p : List Str) (ls : List LineT), vs = [sv, lv, pv] ∧ RsAt G sv R ∧ Dp K G lv (.list (ls.map encLine)) ∧ Dp K G pv (encT p) ∧ (∀ b ∈ p, b ∈ R) ∧ p.length ≤ 10 ∧ LinesOk ls R.length ∧ ∀ v' G', Same G G' → TupAt G' v' (winOf R ls p) → P v' G'
theorem d__law_win (T : Mo K mg) : Def P w K mg base CX0 1 "_law_win" ["_law_some_here", "_law_lines_here", "_law_p"] (SpP 3 (pWin K)) := by
  obtain ⟨fd, F⟩ := T.f__law_win
  refine ⟨_, fd, F.ok sc__law_win spP_len (fun cdv A outer s H vs Q E hr h => ?_), T.g__law_win, F.kp, F.bindsN fun _ _ _ _ _ _ us hl => match us, hl with | [_, _, _], _ => rfl⟩
  have hu := hu_of hr
  obtain ⟨_, G, P, sm, hp, kq⟩ := h
  have wd : Wd none G H := .none sm
  refine ⟨_, PSs.nox (pss_cons (ps_setLc (i := 3) (own := [("_law_a", 5), ("_law_row_here", 6)]) (g := gTup K 2 (gCons (gName 5) (gCons (gName 6) gNil))) (tt := tYes) rfl sc__law_win.nd rfl rfl (sw_true rfl rfl rfl (by decide +kernel)) (pi_list (pv 1)) (blkOk_by (N := ["_law_some_here", "_law_lines_here", "_law_p", "_law_read", "_law_b", "_law_a", "_law_row_here", "_law_least"]) (sc := defScope s__law_win) (by decide +kernel)) (fun _ _ _ _ _ => (pg_tup rfl (pgs_cons (pg_name (i := 5) sc__law_win.nd rfl (Or.inl rfl)) (pgs_cons (pg_name (i := 6) sc__law_win.nd rfl (by first | exact Or.inl rfl | exact Or.inr rfl)) pgs_nil)))) (fun _ _ _ _ _ => pts_nil) (fun _ _ _ _ _ => (blk_te (pe_tup (pa_cons (pv 5) (pa_cons (pe_lc (own := [("_law_b", 4)]) (g := gName 4) (tt := tYes) rfl sc__law_win.nd (pi_tup (pv 2)) (blkOk_by (N := ["_law_some_here", "_law_lines_here", "_law_p", "_law_read", "_law_b", "_law_a", "_law_row_here", "_law_least"]) (sc := relS _ (defScope s__law_win)) (by decide +kernel)) (fun _ _ _ _ _ => (pg_name (i := 4) sc__law_win.nd rfl (Or.inl rfl))) (fun _ _ _ _ _ => pts_nil) (fun _ _ _ _ _ => (blk_te (pe_ix ix_tup (pv 6) (pe_bF PySem.F.slot_tuple_index PySem.F.type_tuple_index mt_tIx (pv 0) (pa_cons (pv 4) pa_nil)) (fun _ _ => rfl)) (by (try dsimp only [Cx.blk, Cx.nox, cxOf]); (try rfl))))) pa_nil))) (by (try dsimp only [Cx.blk, Cx.nox, cxOf]); (try rfl)))))
    (pss_cons (ps_set (i := 7) sc__law_win.nd rfl (Or.inr rfl) (pe_callB (cr_minD rfl hr.units) (by rfl) T.n_min (by decide +kernel) (pa_cons (pe_lc (own := [("_law_a", 5), ("_law_row_here", 6)]) (g := gTup K 2 (gCons (gName 5) (gCons (gName 6) gNil))) (tt := tYes) rfl sc__law_win.nd (pi_list (pv 3)) (blkOk_by (N := ["_law_some_here", "_law_lines_here", "_law_p", "_law_read", "_law_b", "_law_a", "_law_row_here", "_law_least"]) (sc := defScope s__law_win) (by decide +kernel)) (fun _ _ _ _ _ => (pg_tup rfl (pgs_cons (pg_name (i := 5) sc__law_win.nd rfl (Or.inl rfl)) (pgs_cons (pg_name (i := 6) sc__law_win.nd rfl (by first | exact Or.inl rfl | exact Or.inr rfl)) pgs_nil)))) (fun _ _ _ _ _ => pts_nil) (fun _ _ _ _ _ => (blk_te (pv 6) (by (try dsimp only [Cx.blk, Cx.nox, cxOf]); (try rfl))))) pa_nil)))
    (pss_one (ps_ret (pe_tupleOf (by rfl) T.n_tuple (pe_lc (own := [("_law_a", 5), ("_law_row_here", 6)]) (g := gTup K 2 (gCons (gName 5) (gCons (gName 6) gNil))) (tt := _) rfl sc__law_win.nd (pi_list (pv 3)) (blkOk_by (N := ["_law_some_here", "_law_lines_here", "_law_p", "_law_read", "_law_b", "_law_a", "_law_row_here", "_law_least"]) (sc := defScope s__law_win) (by decide +kernel)) (fun _ _ _ _ _ => (pg_tup rfl (pgs_cons (pg_name (i := 5) sc__law_win.nd rfl (Or.inl rfl)) (pgs_cons (pg_name (i := 6) sc__law_win.nd rfl (by first | exact Or.inl rfl | exact Or.inr rfl)) pgs_nil)))) (fun _ _ _ _ _ => (pts_one (blk_tt (pt_cmpR (op_eqW hr.units) (pv 6) (pv 7) (by rfl)) (by (try dsimp only [Cx.blk, Cx.nox, cxOf]); (try rfl))))) (fun _ _ _ _ _ => (blk_te (pv 5) (by (try dsimp only [Cx.blk, Cx.nox, cxOf]); (try rfl)))))))))), ?_⟩
  obtain ⟨sv, lv, pv, R, p, ls, rfl, hsv, hlv, hpv, hpR, hp10, hok, k⟩ := hp
  have hl6 := hok.2.2.2.1
  walk_at "ev"
  refine lcLa (K := K) encLine ls (fun _ => true) (fun l => encRd (l.1, readOf R p l)) (by omega) (ev_var rfl ⟨hlv, fun x G1 d hd e1 hx => ?_, fun rv G1 e1 hrv H1 s1 w1 => ?_⟩)
  · obtain ⟨v1, v2, h1, h2, hg⟩ := gv_pair (i := 5) (j := 6) hx
    refine ⟨_, fun H e => hg H _ e, by rfl, et_yes ⟨rfl, fun _ => ?_⟩⟩
    refine ev_tup (ea_cons (ev_var rfl (ea_cons (lcTa (K := K) PyData.str p (fun _ => true) (fun b => .int (d.2.getD (R.idxOf b) 0)) (by omega) (ev_var rfl ⟨Dpm hpv e1, fun y G2 b hb e2 hy => ?_, fun u G2 e2 hu => ea_nil ⟨by show 2 ≤ 1000000; decide, fun t ht => ?_⟩⟩)))))
    · cases dp_str hy
      refine ⟨_, fun H _ => gv_name, by rfl, et_yes ⟨rfl, fun _ => ?_⟩⟩
      walk_at "ev"
      obtain ⟨sa, rfl, hs⟩ := rs_mono (e1.trans e2) hsv
      refine ev_bF (ev_var rfl ⟨⟨sa, _, rfl, hs⟩, ?_⟩)
      walk_at "ev"
      refine rv_tIx hs.sqt (hpR b hb) ?_
      have hln := hok.2.1 d hd
      have hil : R.idxOf b < d.2.length := by rw [hln]; exact List.idxOf_lt_length_of_mem (hpR b hb)
      refine rv_ixDT (Dpm h2 e2) (show (d.2.map PyData.int)[R.idxOf b]? = some (.int (d.2.getD (R.idxOf b) 0)) by
        rw [List.getElem?_map, List.getElem?_eq_getElem hil, List.getD_eq_getElem?_getD, List.getElem?_eq_getElem hil]
        rfl) fun v hv => hv
    · rw [List.filter_eq_self.mpr fun _ _ => rfl] at hu
      have hu2 : Dp K G2 u (encI (readOf R p d)) := by
        unfold encI readOf
        rw [List.map_map]
        exact hu
      exact dp_newT (dpa_two (Dpm h1 e2) hu2) ht
  rw [List.filter_eq_self.mpr fun _ _ => rfl] at hrv
  clear wd
  dsimp only
  walk_at "ev"
  have hl1 := hok.2.2.1
  refine lcLa (K := K) (fun l => encRd (l.1, readOf R p l)) ls (fun _ => true) (fun l => encI (readOf R p l)) (by omega) (ev_var rfl ⟨hrv, fun x G2 d hd e2 hx => ?_, fun mv G2 e2 hmv => ?_⟩)
  · obtain ⟨v1, v2, h1, h2, hg⟩ := gv_pair (i := 5) (j := 6) hx
    exact ⟨_, fun H e => hg H _ e, by rfl, et_yes ⟨rfl, fun _ => ev_var rfl h2⟩⟩
  rw [List.filter_eq_self.mpr fun _ _ => rfl] at hmv
  have hmv2 : Dp K G2 mv (.list ((ls.map (readOf R p)).map encI)) := by rw [List.map_map]; exact hmv
  refine ea_nil (rv_minI (by rw [List.length_map]; exact hl1) hmv2 fun lv2 hlv2 H2 s2 w2 => ?_)
  have hrv2 := Dpm hrv s2.gg
  clear w1
  dsimp only
  walk_at "ev"
  refine ev_tupNew (lcLa (K := K) (fun l => encRd (l.1, readOf R p l)) ls (fun l => decide (readOf R p l = minI (ls.map (readOf R p)))) (fun l => .str l.1) (by omega) (ev_var rfl ⟨hrv2, fun x G3 d hd e3 hx => ?_, fun rv2 G3 e3 hrv3 => ⟨winOf R ls p, ?_, fun tv G4 e4 htv H4 s4 w4 => kq _ _ _ ((s1.trans s2).trans s4) (k _ _ ((s1.trans s2).trans s4).gg htv)⟩⟩))
  · obtain ⟨v1, v2, h1, h2, hg⟩ := gv_pair (i := 5) (j := 6) hx
    cases dp_str h1
    refine ⟨_, fun H e => hg H _ e, by rfl, et_test ?_⟩
    walk_at "ev"
    exact rv_eqT (α := List Int) (readOf R p d) (minI (ls.map (readOf R p))) h2 (Dpm hlv2 e3) (by decide) ⟨_, rfl, rfl, fun _ => ev_var rfl (.str _)⟩
  · unfold winOf
    rw [List.map_map]
    exact hrv3
theorem ev_win {b : Option (Addr × Addr)} {σ : L2.St} {G : Hp} {Q : V → Hp → Prop} {E : XK} {ta : TA} (h : Ev b ta σ G fun vs G1 => ∃ (sv lv pv : V) (R p : List Str) (ls : List LineT), vs = [sv, lv, pv] ∧ RsAt G1 sv R ∧ Dp K G1 lv (.list (ls.map encLine)) ∧ Dp K G1 pv (encT p) ∧ (∀ b ∈ p, b ∈ R) ∧ p.length ≤ 10 ∧ LinesOk ls R.length ∧ ∀ v' G', Same G1 G' → TupAt G' v' (winOf R ls p) → Q v' G') : Ev b (tCall (SpP 3 (pWin K)) [] E ta) σ G Q :=
  ev_call (Ev.mono h fun vs G1 _ ⟨sv, lv, pv, R, p, ls, ev, h1, h2, h3, h4, h5, h6, q⟩ => by rw [ev]; exact ⟨rfl, sv, lv, pv, R, p, ls, rfl, h1, h2, h3, h4, h5, h6, q⟩)
end
end FD
namespace FD
open PySem PyProof.Rows L2
/-! ### a dict by tuples of texts -/
def tKey (l : List Str) : List Key := l.map Sum.inr
theorem tKey_inj : ∀ {l m : List Str}, tKey l = tKey m → l = m
  | [], [], _ => rfl
  | [], _ :: _, h => by cases h
  | _ :: _, [], h => by cases h
  | x :: l, y :: m, h => by
    obtain ⟨h1, h2⟩ := List.cons.inj h
    rw [Sum.inr.inj h1, tKey_inj h2]
theorem tKey_kV (l : List Str) : (tKey l).map kV = l.map V.str := by unfold tKey; rw [List.map_map]; rfl
def tkvs (l : List (List Str)) (f : List Str → Int) : List (List Key × V) := l.map fun t => (tKey t, V.int (f t))
theorem tkvs_in {f : List Str → Int} {t : List Str} : ∀ {l : List (List Str)}, t ∈ l → valV (tkvs l f) (tKey t) = some (.int (f t))
  | u :: l, h => by
    by_cases e : u = t
    · subst e
      exact valV_pos rfl
    · rcases List.mem_cons.mp h with q | q
      · exact absurd q.symm e
      · exact (valV_neg (fun z => e (tKey_inj z))).trans (tkvs_in q)
theorem tkvs_out {f : List Str → Int} {t : List Str} : ∀ {l : List (List Str)}, t ∉ l → valV (tkvs l f) (tKey t) = none
  | [], _ => rfl
  | u :: l, h => (valV_neg (fun z => h (by rw [tKey_inj z]; exact .head _))).trans (tkvs_out fun q => h (.tail _ q))
theorem tkvs_put {l : List (List Str)} {f : List Str → Int} {t : List Str} {z : Int} (h : t ∈ l) : putK (tkvs l f) (tKey t) (.int z) = tkvs l (fun u => if u = t then z else f u) := by
  have h0 : ((tkvs l f).any fun kv => decide (kv.1 = tKey t)) = true := List.any_eq_true.mpr ⟨(tKey t, V.int (f t)), List.mem_map.mpr ⟨t, h, rfl⟩, decide_eq_true rfl⟩
  unfold putK
  rw [if_pos h0]
  unfold tkvs
  rw [List.map_map]
  refine List.map_congr_left fun u _ => ?_
  show (if tKey u = tKey t then (tKey u, V.int z) else (tKey u, V.int (f u))) = (tKey u, V.int (if u = t then z else f u))
  by_cases e : u = t
  · rw [if_pos (by rw [e]), if_pos e]
  · rw [if_neg (fun q => e (tKey_inj q)), if_neg e]
theorem tkvs_new {l : List (List Str)} {f : List Str → Int} {t : List Str} (h : t ∉ l) : putK (tkvs l f) (tKey t) (.int (f t)) = tkvs (l ++ [t]) f := by
  rw [L2.putK_new _ (tkvs_out h)]
  unfold tkvs
  rw [List.map_append]
  rfl
theorem ansStep_nodup {ls : List LineT} {acc : List (List Str)} {l : LineT} (h : acc.Nodup) : (ansStep ls acc l).Nodup := by
  unfold ansStep
  split
  · exact h
  · rename_i q
    rw [List.nodup_append]
    exact ⟨h, by simp, fun a ha b hb e => q (by rw [List.mem_singleton.mp hb] at e; exact e ▸ ha)⟩
theorem ansOf_nodup (ls : List LineT) : (ansOf ls).Nodup := by
  unfold ansOf
  have : ∀ (l : List LineT) (acc : List (List Str)), acc.Nodup → (l.foldl (ansStep ls) acc).Nodup := fun l => by
    induction l with
    | nil => exact fun _ h => h
    | cons x l ih => exact fun acc h => ih _ (ansStep_nodup h)
  exact this ls [] List.nodup_nil
/-- how many of ps the answer t wins -/
def winsOf (R : List Str) (ls : List LineT) (ps : List (List Str)) (t : List Str) : Int := ((ps.filter fun p => decide (winOf R ls p = t)).length : Nat)
end FD
namespace FD
open PySem PyProof.Rows L2
section
variable {P : Program} {w : World} {K : PySem.W.Frag} {mg : Str → Option Value} {base : Heap}
local macro_rules | `(tactic| walk_at "ev") => `(tactic| repeat (first | with_reducible refine s_seq ?_ | with_reducible refine s_skip ?_ | with_reducible refine s_gn ?_ | with_reducible refine ev_op ?_ | with_reducible refine ev_un ?_ | ((with_reducible refine' ev_var ?hv ?_); (case hv => rfl)) | with_reducible refine ev_c ?_ | with_reducible refine ev_cb ?_ | with_reducible refine ea_cons ?_ | with_reducible refine ea_nil ?_ | with_reducible refine et_test ?_ | with_reducible refine et_B ?_ | with_reducible refine s_ret (by assumption) ?_ | with_reducible refine s_asg (by assumption) ?_))
section
variable {b : Option (Addr × Addr)} {σ : L2.St} {G H : Hp} {D : Ends}
theorem s_dputT {i j : Nat} {a : Addr} {kv : V} {kvs : List (List Key × V)} {t : List Str} {tv : TE} (w : Wd b G H) (hi : σ[i]? = some (some (.ref a))) (hj : σ[j]? = some (some kv)) (hk : TupAt G kv t) (hx : H a = some (.dT kvs)) (nb : ¬ Bg b a) (hn : G a = none) (hl : kvs.length ≤ 900000)
    (h : Ev b tv σ (upd G a (.dT kvs)) fun v G1 => ∀ H1, Stp (Bg b) G H G H1 → Wd b G H1 → H1 a = some (.dT kvs) → D.nx σ (upd H1 a (.dT (putK kvs (tKey t) v)))) : sDPut (tVar i) (tVar j) tv D σ H := by
  obtain ⟨kb, rfl, hkb⟩ := hk
  refine h H (w.know hx hn nb) _ fun v G1 H1 e1 w1 q => ?_
  have e2 := e1.back hn
  have hx1 := e2.hh _ _ hx nb
  exact ⟨_, hi, _, hj, a, _, rfl, DPut.t hx1 (by rw [tKey_kV]; exact e2.gh _ _ hkb) (sz_lt (by omega)), q H1 e2 (w.pull e2.gh w1) hx1⟩
theorem ev_dgetT {i j : Nat} {a : Addr} {kv v : V} {kvs : List (List Key × V)} {t : List Str} {Q : V → Hp → Prop} (hi : σ[i]? = some (some (.ref a))) (hj : σ[j]? = some (some kv)) (hk : TupAt G kv t) (hx : G a = some (.dT kvs)) (hv : valV kvs (tKey t) = some v) (p : Q v G) : Ev b (tDGet (tVar i) (tVar j)) σ G Q := by
  obtain ⟨kb, rfl, hkb⟩ := hk
  exact fun H w R k => ⟨_, hi, _, hj, a, v, rfl, by rw [← hv]; exact DGet.t (w.same _ _ hx) (by rw [tKey_kV]; exact w.same _ _ hkb), k v G H (Stp.refl w.same) w p⟩
end
def pTally (K : PySem.W.Frag) : List V → Hp → (V → Hp → Prop) → Prop := fun vs G P => ∃ (sv lv pv : V) (R : List Str) (ls : List LineT) (ps : List (List Str)), vs = [sv, lv, pv] ∧ RsAt G sv R ∧ Dp K G lv (.list (ls.map encLine)) ∧ Dp K G pv (.list (ps.map encT)) ∧ LinesOk ls R.length ∧ (∀ p ∈ ps, (∀ b ∈ p, b ∈ R) ∧ p.length ≤ 10 ∧ winOf R ls p ∈ ansOf ls) ∧ ps.length ≤ 100000 ∧
  ∀ (f : Addr) G', Same G G' → G' f = some (.dT (tkvs (ansOf ls) (winsOf R ls ps))) → P (.ref f) G'
theorem d__law_tally (T : Mo K mg) : Def P w K mg base CX0 4 "_law_tally" ["_law_some_here", "_law_lines_here", "_law_fit_here"] (SpP 3 (pTally K)) := by
  obtain ⟨fd, F⟩ := T.f__law_tally
  refine ⟨_, fd, F.ok sc__law_tally spP_len (fun cdv A outer s H vs Q E hr h => ?_), T.g__law_tally, F.kp, F.bindsN fun _ _ _ _ _ _ us hl => match us, hl with | [_, _, _], _ => rfl⟩
  have hu := hu_of hr
  obtain ⟨_, G, P, sm, hp, kq⟩ := h
  have wd : Wd none G H := .none sm
  refine ⟨_, PSs.nox (pss_cons (ps_set (i := 3) sc__law_tally.nd rfl (Or.inl rfl) pe_dnewT)
    (pss_cons (ps_for PassesOwn.never rfl (pi_list (pe_d (d__law_answers T) (hr.mono (by decide)) (by rfl) pass0 (pa_cons (pv 1) pa_nil))) (pg_name (i := 4) sc__law_tally.nd rfl (Or.inl rfl))
      (pss_one (ps_dput hu (pv 3) (pv 4) pe_int rfl)))
    (pss_cons (ps_for PassesOwn.never rfl (pi_seqB (pv 2)) (pg_name (i := 5) sc__law_tally.nd rfl (Or.inl rfl))
      (pss_cons (ps_set (i := 4) sc__law_tally.nd rfl (Or.inl rfl) (pe_d (d__law_win T) (hr.mono (by decide)) (by rfl) pass0 (pa_cons (pv 0) (pa_cons (pv 1) (pa_cons (pv 5) pa_nil)))))
    (pss_one (ps_dput hu (pv 3) (pv 4) (pe_op op_add (pe_dget hu (pv 3) (pv 4) (fun _ _ => rfl)) pe_int) rfl))))
    (pss_one (ps_ret (pv 3)))))), ?_⟩
  obtain ⟨sv, lv, pv, R, ls, ps, rfl, hsv, hlv, hpv, hok, hps, hpl, k⟩ := hp
  have hl6 := hok.2.2.2.1
  have hal : (ansOf ls).length ≤ 6 := by
    have := ansFold_len ls ls []
    have h0 : ([] : List (List Str)).length = 0 := rfl
    unfold ansOf
    omega
  with_reducible refine s_seq ?_
  refine fun f hf => ?_
  have s1 := (Stp.refl (B := Bg none) wd.same).newP (o := .dT []) hf
  have w1 := wd.newP (o := .dT []) hf
  have hf1 : upd H f (.dT []) f = some (.dT []) := upd_same
  have hGf : G f = none := wd.same.free hf
  have nbf : ¬ Bg (none : Option (Addr × Addr)) f := fun z => nomatch z
  generalize upd H f (.dT []) = H1 at s1 hf1 w1
  clear wd
  refine s_gn ?_
  dsimp only
  with_reducible refine s_seq ?_
  refine s_forL (K := K) w1 (ev_ans ?_)
  walk_at "ev"
  refine ⟨lv, ls, rfl, hlv, hok.1.2.1, by omega, fun av G1 e1 hav => ?_⟩
  obtain ⟨aa, avs, rfl, haq, hap⟩ := hav
  have hapl := paired_len hap
  refine ⟨aa, avs, rfl, haq, fun i σ G2 H2 => Same G1 G2 ∧ Stp (Bg none) G H G2 H2 ∧ Wd none G2 H2 ∧ G2 f = none ∧ ∃ (z4 z5 : Option V), σ = [some sv, some lv, some pv, some (.ref f), z4, z5] ∧ H2 f = some (.dT (tkvs ((ansOf ls).take i) fun _ => 0)), ⟨fun i σ G2 H2 h => ⟨h.1, h.2.2.1⟩, ?_⟩, ?_, ?_⟩
  · rintro σ G2 H2 ⟨g2, s2, w2, hf2, z4, z5, rfl, hh2⟩
    rw [hapl, List.take_length] at hh2
    clear w1
    dsimp only
    with_reducible refine s_seq ?_
    have hpv2 := Dpm hpv s2.gg
    refine s_forB (K := K) w2 (ev_var rfl ⟨_, .inl (.inl hpv2), fun i σ G3 H3 => Same G2 G3 ∧ Stp (Bg none) G H G3 H3 ∧ Wd none G3 H3 ∧ G3 f = none ∧ ∃ (z4 z5 : Option V), σ = [some sv, some lv, some pv, some (.ref f), z4, z5] ∧ H3 f = some (.dT (tkvs (ansOf ls) (winsOf R ls (ps.take i)))), ⟨fun i σ G2 H2 h => ⟨h.1, h.2.2.1⟩, ?_⟩, ?_, ?_⟩)
    · rintro σ G3 H3 ⟨g3, s3, w3, hf3, z4, z5, rfl, hh3⟩
      rw [List.length_map, List.take_length] at hh3
      clear w2
      dsimp only
      walk_at "ev"
      intro H4 s4 w4
      have s5 := (s3.trans s4).know hf (s4.hh _ _ hh3 nbf) hf3
      exact kq _ _ _ s5 (k f _ s5.gg upd_same)
    · intro H3 s3 w3
      exact ⟨Same.refl _, s2.trans s3, w3, hf2, _, _, rfl, s3.hh _ _ hh2 nbf⟩
    · rintro i x d σ G3 H3 hd hx ⟨g3, s3, w3, hf3, z4, z5, rfl, hh3⟩
      obtain ⟨p, hp, rfl⟩ := map_at hd
      obtain ⟨hpR, hp10, hwin⟩ := hps p (List.mem_of_getElem? hp)
      refine s_gn ?_
      clear w2
      dsimp only
      walk_at "ev"
      refine ev_win ?_
      walk_at "ev"
      refine ⟨sv, lv, x, R, p, ls, rfl, rs_mono s3.gg hsv, Dpm hlv s3.gg, hx, hpR, hp10, hok, fun wv G4 e4 hwv H4 s4 w4 => ?_⟩
      have hh4 := s4.hh _ _ hh3 nbf
      have hf4 := s4.fr f hf3 (by rw [hh3]; exact fun z => nomatch z)
      clear w3
      dsimp only
      refine s_dputT w4 rfl rfl hwv hh4 nbf hf4 (by unfold tkvs; rw [List.length_map]; omega) ?_
      walk_at "ev"
      refine ev_dgetT rfl rfl (tupAt_mono (same_new hf4) hwv) upd_same (tkvs_in hwin) ?_
      walk_at "ev"
      refine rv_I0 fun H5 s5 w5 hh5 => ?_
      refine ⟨G4, g3.trans e4, ((s3.trans s4).trans s5).mut hf hf4, w5.mut hf4 nbf, hf4, _, _, rfl, ?_⟩
      rw [upd_same, tkvs_put hwin]
      have efun : (fun u => if u = winOf R ls p then winsOf R ls (ps.take i) (winOf R ls p) + 1 else winsOf R ls (ps.take i) u) = winsOf R ls (ps.take (i + 1)) := by
        funext u
        unfold winsOf
        rw [List.take_succ, hp, List.filter_append, List.length_append]
        rw [Option.toList_some]
        by_cases e : u = winOf R ls p
        · rw [if_pos e, List.filter_cons, if_pos (decide_eq_true e.symm), e]
          rfl
        · rw [if_neg e, List.filter_cons, if_neg (fun q => e (of_decide_eq_true q).symm)]
          rfl
      rw [efun]
  · intro H2 s2 w2
    have hf2 : G1 f = none := s2.fr f hGf (by rw [hf1]; exact fun z => nomatch z)
    exact ⟨Same.refl _, s1.trans s2, w2, hf2, _, _, rfl, s2.hh _ _ hf1 nbf⟩
  · rintro i x σ G2 H2 hx ⟨g2, s2, w2, hf2, z4, z5, rfl, hh2⟩
    obtain ⟨t, ht, hxt⟩ := paired_get hap hx
    have hni : t ∉ (ansOf ls).take i := take_not (ansOf_nodup ls) ht
    refine s_gn ?_
    clear w1
    dsimp only
    refine s_dputT w2 rfl rfl (tupAt_mono g2 hxt) hh2 nbf hf2 (by unfold tkvs; rw [List.length_map, List.length_take]; omega) ?_
    walk_at "ev"
    intro H3 s3 w3 hh3
    refine ⟨G2, g2, (s2.trans s3).mut hf hf2, w3.mut hf2 nbf, hf2, _, _, rfl, ?_⟩
    have e0 := tkvs_new (f := fun _ => 0) hni
    rw [upd_same, e0, List.take_succ, ht]
    rfl
end
end FD
namespace FD
open PySem PyProof.Rows L2
section
variable {P : Program} {w : World} {K : PySem.W.Frag} {mg : Str → Option Value} {base : Heap}
local macro_rules | `(tactic| walk_at "ev") => `(tactic| repeat (first | with_reducible refine s_seq ?_ | with_reducible refine s_skip ?_ | with_reducible refine s_gn ?_ | with_reducible refine ev_op ?_ | with_reducible refine ev_un ?_ | ((with_reducible refine' ev_var ?hv ?_); (case hv => rfl)) | with_reducible refine ev_c ?_ | with_reducible refine ev_cb ?_ | with_reducible refine ea_cons ?_ | with_reducible refine ea_nil ?_ | with_reducible refine et_test ?_ | with_reducible refine et_B ?_ | with_reducible refine s_ret (by assumption) ?_ | with_reducible refine s_asg (by assumption) ?_))
def pSides (K : PySem.W.Frag) : List V → Hp → (V → Hp → Prop) → Prop := fun vs G P => ∃ (v : V) (r : RowT), vs = [v] ∧ RowIs K G v r ∧ ∀ v' G', Same G G' → Dp K G' v' (encRow r) → P v' G'
theorem d__law_sides (T : Mo K mg) : Def P w K mg base CX0 1 "_law_sides" ["_law_x"] (SpP 1 (pSides K)) := by
  obtain ⟨fd, F⟩ := T.f__law_sides
  refine ⟨_, fd, F.ok sc__law_sides spP_len (fun cdv A outer s H vs Q E hr h => ?_), T.g__law_sides, F.kp, F.bindsN fun _ _ _ _ _ _ us hl => match us, hl with | [_], _ => rfl⟩
  have hu := hu_of hr
  obtain ⟨_, G, P, sm, hp, kq⟩ := h
  have wd : Wd none G H := .none sm
  refine ⟨_, PSs.nox (pss_one (ps_ret (pe_ifExp (pt_val (pe_callB (C8.call_isC T.isc_Row) (by rfl) T.n_isinstance (by decide +kernel) (pa_cons (pv 0) (pa_cons (pe_glob (v := .ref (cls K "Row")) (by rfl) T.g_Row rfl) pa_nil)))) (pe_tup (pa_cons (pe_fld (pv 0) rfl) (pa_cons (pe_fld (pv 0) rfl) pa_nil))) pe_str))), ?_⟩
  obtain ⟨v, r, rfl, hr1, k⟩ := hp
  obtain ⟨a, dx, fs, rfl, ha⟩ := row_ins hr1
  walk_at "ev"
  refine ev_if (et_test ?_)
  walk_at "ev"
  refine rv_isiOwn ha ⟨_, rfl, fun _ => ?_, fun h => nomatch h⟩
  refine ev_tup (ea_cons (ev_pro (T := T) (ev_var rfl ⟨r, hr1, fun v1 h1 => ea_cons (ev_con (T := T) (ev_var rfl ⟨r, hr1, fun v2 h2 => ea_nil ⟨by show 2 ≤ 1000000; decide, fun t ht H1 s1 w1 => ?_⟩⟩))⟩)))
  exact kq _ _ _ s1 (k _ _ s1.gg (dp_newT (dpa_two h1 h2) ht))
theorem ev_sides {b : Option (Addr × Addr)} {σ : L2.St} {G : Hp} {Q : V → Hp → Prop} {E : XK} {ta : TA} (h : Ev b ta σ G fun vs G1 => ∃ (v : V) (r : RowT), vs = [v] ∧ RowIs K G1 v r ∧ ∀ v' G', Same G1 G' → Dp K G' v' (encRow r) → Q v' G') : Ev b (tCall (SpP 1 (pSides K)) [] E ta) σ G Q :=
  ev_call (Ev.mono h fun vs G1 _ ⟨v, r, ev, h1, q⟩ => by rw [ev]; exact ⟨rfl, v, r, rfl, h1, q⟩)
def toldOf (R : List Str) (recs : List RecD) : PyData := .list [.tuple (R.map .str), .list (recs.map encRec)]
def pTold (K : PySem.W.Frag) : List V → Hp → (V → Hp → Prop) → Prop := fun vs G P => ∃ (v : V) (R : List Str) (recs : List RecD), vs = [v] ∧ BookIs K G v R recs ∧ recs.length ≤ 1000 ∧ ∀ v' G', Same G G' → Dp K G' v' (toldOf R recs) → P v' G'
theorem d__law_told (T : Mo K mg) : Def P w K mg base CX0 7 "_law_told" ["_law_x"] (SpP 1 (pTold K)) := by
  obtain ⟨fd, F⟩ := T.f__law_told
  refine ⟨_, fd, F.ok sc__law_told spP_len (fun cdv A outer s H vs Q E hr h => ?_), T.g__law_told, F.kp, F.bindsN fun _ _ _ _ _ _ us hl => match us, hl with | [_], _ => rfl⟩
  have hu := hu_of hr
  obtain ⟨_, G, P, sm, hp, kq⟩ := h
  have wd : Wd none G H := .none sm
  refine ⟨_, PSs.nox (pss_cons (ps_if (pt_not (pt_val (pe_callB (C8.call_isC T.isc_Book) (by rfl) T.n_isinstance (by decide +kernel) (pa_cons (pv 0) (pa_cons (pe_glob (v := .ref (cls K "Book")) (by rfl) T.g_Book rfl) pa_nil))))) (pss_one (ps_ret pe_str)) pss_nil)
    (pss_one (ps_ret (pe_lst (pa_cons (pe_fld (pv 0) rfl) (pa_cons (pe_lc (own := [("_law_m", 1), ("_law_row_here", 2)]) (g := gTup K 2 (gCons (gName 1) (gCons (gName 2) gNil))) (tt := tYes) rfl sc__law_told.nd (pi_list (pe_dm0 (d_Book_records T) T.cl_Book (pv 0) (hr.mono (by decide)) pass0)) (blkOk_by (N := ["_law_x", "_law_m", "_law_row_here"]) (sc := defScope s__law_told) (by decide +kernel)) (fun _ _ _ _ _ => (pg_tup rfl (pgs_cons (pg_name (i := 1) sc__law_told.nd rfl (Or.inl rfl)) (pgs_cons (pg_name (i := 2) sc__law_told.nd rfl (Or.inl rfl)) pgs_nil)))) (fun _ _ _ _ _ => pts_nil) (fun _ _ _ _ _ => (blk_te (pe_tup (pa_cons (pv 1) (pa_cons (pe_d (d__law_sides T) (hr.mono (by decide)) (by rfl) pass0 (pa_cons (pv 2) pa_nil)) pa_nil))) (by (try dsimp only [Cx.blk, Cx.nox, cxOf]); (try rfl))))) pa_nil)))))), ?_⟩
  obtain ⟨v, R, recs, rfl, hB, hl, k⟩ := hp
  obtain ⟨ba, bdx, bt, bd, bkvs, rfl, hb1, _⟩ := id hB
  with_reducible refine s_seq ?_
  refine s_if wd (et_not (et_test ?_))
  walk_at "ev"
  refine rv_isiOwn hb1 ⟨_, rfl, fun H1 s1 w1 => ⟨fun h => (nomatch h), fun _ => ?_⟩⟩
  clear wd
  refine s_skip ?_
  dsimp only
  walk_at "ev"
  refine ev_lst (ea_cons (ev_reasons (T := T) (ev_var rfl ⟨R, recs, hB, fun v1 hv1 => ea_cons ?_⟩)))
  refine lcL (K := K) (ev_meth (ev_var rfl ⟨ba, bdx, _, rfl, hb1, rfl, ea_nil ⟨rfl, _, R, recs, rfl, hB, fun v' G1 e1 _ hrec => ?_⟩⟩))
  obtain ⟨ra, xs, rfl, hra, hpr⟩ := hrec
  have hxl := paired_len hpr
  refine ⟨ra, xs, rfl, SqL.of hra, by omega, fun i acc G2 => Same G1 G2 ∧ DpAll K G2 acc ((recs.take i).map encRec), ⟨Same.refl _, .nil⟩, ?_, ?_⟩
  · rintro i x G2 acc hi e2 ⟨_, hacc⟩ -
    obtain ⟨rc, hrc, hx⟩ := paired_get hpr hi
    obtain ⟨t, rv, rfl, ht, hrow⟩ := recAt_mono e2 hx
    refine ⟨_, fun H e => fun Q q2 => ⟨t, [.str rc.1, rv], rfl, SqT.of (e _ _ ht), rfl, .str rc.1, [rv], rfl, ⟨rv, [], rfl, ⟨rfl, q2⟩⟩⟩, by rfl, et_yes ⟨fun _ => ?_, fun h => nomatch h⟩⟩
    refine ev_tup (ea_cons (ev_var rfl (ea_cons (ev_sides ?_))))
    walk_at "ev"
    refine ⟨rv, rc.2, rfl, hrow, fun sv G3 e3 hsv => ea_nil ⟨by show 2 ≤ 1000000; decide, fun q hq => ⟨(e2.trans e3).trans (same_new hq), ?_⟩⟩⟩
    rw [List.take_succ, hrc, List.map_append]
    exact dpa_snoc (Dpam hacc (e3.trans (same_new hq))) (dp_newT (dpa_two (.str _) hsv) hq)
  · rintro acc G2 e2 ⟨_, hacc⟩ - q hq
    rw [hxl, List.take_of_length_le (Nat.le_refl _)] at hacc
    have hl2 := dp_newL hacc hq
    have g2 := (e1.trans e2).trans (same_new (o := .lst acc) hq)
    refine ea_nil ⟨by show 2 ≤ 1000000; decide, fun q3 hq3 H4 s4 w4 => ?_⟩
    exact kq _ _ _ (s1.trans s4) (k _ _ (s1.trans s4).gg (dp_newL (dpa_two (rs_dp (rs_mono g2 hv1)) hl2) hq3))
theorem ev_told {b : Option (Addr × Addr)} {σ : L2.St} {G : Hp} {Q : V → Hp → Prop} {E : XK} {ta : TA} (h : Ev b ta σ G fun vs G1 => ∃ (v : V) (R : List Str) (recs : List RecD), vs = [v] ∧ BookIs K G1 v R recs ∧ recs.length ≤ 1000 ∧ ∀ v' G', Same G1 G' → Dp K G' v' (toldOf R recs) → Q v' G') : Ev b (tCall (SpP 1 (pTold K)) [] E ta) σ G Q :=
  ev_call (Ev.mono h fun vs G1 _ ⟨v, R, recs, ev, h1, h2, q⟩ => by rw [ev]; exact ⟨rfl, v, R, recs, rfl, h1, h2, q⟩)
end
end FD
namespace FD
open PySem PyProof.Rows L2
section
variable {P : Program} {w : World} {K : PySem.W.Frag} {mg : Str → Option Value} {base : Heap}
local macro_rules | `(tactic| walk_at "ev") => `(tactic| repeat (first | with_reducible refine s_seq ?_ | with_reducible refine s_skip ?_ | with_reducible refine s_gn ?_ | with_reducible refine ev_op ?_ | with_reducible refine ev_un ?_ | ((with_reducible refine' ev_var ?hv ?_); (case hv => rfl)) | with_reducible refine ev_c ?_ | with_reducible refine ev_cb ?_ | with_reducible refine ea_cons ?_ | with_reducible refine ea_nil ?_ | with_reducible refine et_test ?_ | with_reducible refine et_B ?_ | with_reducible refine s_ret (by assumption) ?_ | with_reducible refine s_asg (by assumption) ?_))
def wrongOf (R R2 : List Str) (recs : List RecD) (fit : List (List Str)) : PyData := if R2 ≠ R then .tuple [.str "OtherReasons"] else if fit = [] then .tuple [.str "Stuck", .tuple ((lotOf recs).map .str)] else .none
theorem tups_toD (fit : List (List Str)) : (fit.map encT) = (fit.map PySem.W.Tup.mk).map PySem.W.Datum.toD := by rw [List.map_map]; rfl
def pWrong (K : PySem.W.Frag) : List V → Hp → (V → Hp → Prop) → Prop := fun vs G P => ∃ (v0 v1 v2 v3 v4 v5 : V) (R R2 : List Str) (recs : List RecD) (fit : List (List Str)), vs = [v0, v1, v2, v3, v4, v5] ∧ Dp K G v0 (.tuple (R.map .str)) ∧ Dp K G v1 (.tuple (R2.map .str)) ∧ Dp K G v3 (.list (recs.map encRec)) ∧ Dp K G v4 (.list (fit.map encT)) ∧ Dp K G v5 (.list []) ∧ RecsBound recs ∧ ∀ v' G', Same G G' → Dp K G' v' (wrongOf R R2 recs fit) → P v' G'
theorem d__law_wrong (T : Mo K mg) : Def P w K mg base CX0 3 "_law_wrong" ["_law_some_here", "_law_far", "_law_lines_here", "_law_recs_here", "_law_fit_here", "_law_asked"] (SpP 6 (pWrong K)) := by
  obtain ⟨fd, F⟩ := T.f__law_wrong
  refine ⟨_, fd, F.ok sc__law_wrong spP_len (fun cdv A outer s H vs Q E hr h => ?_), T.g__law_wrong, F.kp, F.bindsN fun _ _ _ _ _ _ us hl => match us, hl with | [_, _, _, _, _, _], _ => rfl⟩
  have hu := hu_of hr
  obtain ⟨_, G, P, sm, hp, kq⟩ := h
  have wd : Wd none G H := .none sm
  refine ⟨_, PSs.nox (pss_cons (ps_if (pt_cmpR (op_neW hr.units) (pv 1) (pv 0) (by rfl)) (pss_one (ps_ret (pe_tup (pa_cons pe_str pa_nil)))) pss_nil)
    (pss_cons (ps_for PassesOwn.never rfl (pi_list (pv 5)) (pg_name (i := 6) sc__law_wrong.nd rfl (Or.inl rfl))
      (pss_one (ps_if (pt_cmpR (op_ninW hr.units) (pv 6) (pe_lc (own := [("_law_a", 7), ("_law_row_here", 8)]) (g := gTup K 2 (gCons (gName 7) (gCons (gName 8) gNil))) (tt := tYes) rfl sc__law_wrong.nd (pi_list (pv 2)) (blkOk_by (N := ["_law_some_here", "_law_far", "_law_lines_here", "_law_recs_here", "_law_fit_here", "_law_asked", "_law_v", "_law_a", "_law_row_here"]) (sc := defScope s__law_wrong) (by decide +kernel)) (fun _ _ _ _ _ => (pg_tup rfl (pgs_cons (pg_name (i := 7) sc__law_wrong.nd rfl (Or.inl rfl)) (pgs_cons (pg_name (i := 8) sc__law_wrong.nd rfl (Or.inl rfl)) pgs_nil)))) (fun _ _ _ _ _ => pts_nil) (fun _ _ _ _ _ => (blk_te (pv 7) (by (try dsimp only [Cx.blk, Cx.nox, cxOf]); (try rfl))))) (by rfl)) (pss_one (ps_ret (pe_tup (pa_cons pe_str (pa_cons (pv 6) pa_nil))))) pss_nil)))
    (pss_one (ps_ret (pe_ifExp (pt_cmpR (op_eqW hr.units) (pv 4) (pe_lst pa_nil) (by rfl)) (pe_tup (pa_cons pe_str (pa_cons (pe_d (d__law_lot T) (hr.mono (by decide)) (by rfl) pass0 (pa_cons (pv 3) pa_nil)) pa_nil))) pe_non))))), ?_⟩
  obtain ⟨v0, v1, v2, v3, v4, v5, R, R2, recs, fit, rfl, h0, h1, h3, h4, h5, hb, k⟩ := hp
  with_reducible refine s_seq ?_
  refine s_if wd (et_test ?_)
  walk_at "ev"
  refine rv_neT (α := PySem.W.Tup Str) ⟨R2⟩ ⟨R⟩ h1 h0 (by decide) ⟨_, rfl, fun H1 s1 w1 => ⟨fun h => ?_, fun h => ?_⟩⟩
  · rw [tup_eq] at h
    have hne : R2 ≠ R := by simpa using h
    clear wd
    walk_at "ev"
    refine ev_tup (ea_cons (ev_c (ea_nil ⟨by show 1 ≤ 1000000; decide, fun t ht H2 s2 w2 => ?_⟩)))
    refine kq _ _ _ (s1.trans s2) (k _ _ (s1.trans s2).gg ?_)
    unfold wrongOf
    rw [if_pos hne]
    exact dp_newT (.cons (.str _) .nil) ht
  · rw [tup_eq] at h
    have he : ¬ R2 ≠ R := fun q => by simp [q] at h
    clear wd
    refine s_skip ?_
    dsimp only
    with_reducible refine s_seq ?_
    refine s_forLd (K := K) w1 (ev_var rfl ⟨[], h5, fun i σ G2 H2 => G = G2 ∧ Stp (Bg none) G H G H2 ∧ Wd none G H2 ∧ ∃ (z6 z7 z8 : Option V), σ = [some v0, some v1, some v2, some v3, some v4, some v5, z6, z7, z8], ⟨fun i σ G4 H4 h => ⟨by rw [← h.1]; exact Same.refl _, by rw [← h.1]; exact h.2.2.1⟩, ?_⟩, fun H4 s4 w4 => ⟨rfl, s1.trans s4, w4, _, _, _, rfl⟩, fun i x d σ G2 H2 hd => nomatch hd⟩)
    rintro σ G2 H2 ⟨rfl, s2, w2, z6, z7, z8, rfl⟩
    clear w1
    dsimp only
    walk_at "ev"
    refine ev_if (et_test ?_)
    walk_at "ev"
    refine ev_lst (ea_nil ⟨by decide, fun q hq => ?_⟩)
    have e1 := same_new (o := .lst []) hq
    have hl0 : Dp K (upd G q (.lst [])) (.ref q) (.list (([] : List (PySem.W.Tup Str)).map PySem.W.Datum.toD)) := dp_newL .nil hq
    have h4' := Dpm h4 e1
    rw [tups_toD] at h4'
    refine rv_eqT (α := List (PySem.W.Tup Str)) (fit.map PySem.W.Tup.mk) [] h4' hl0 (by decide) ⟨_, rfl, fun h => ?_, fun h => ?_⟩
    · have hf0 : fit = [] := List.map_eq_nil_iff.mp (of_decide_eq_true h)
      refine ev_tup (ea_cons (ev_c (ea_cons (ev_lot ?_))))
      walk_at "ev"
      refine ⟨v3, recs, rfl, Dpm h3 e1, hb, fun lv G3 e3 hlv => ea_nil ⟨by show 2 ≤ 1000000; decide, fun t ht H4 s4 w4 => ?_⟩⟩
      refine kq _ _ _ (s2.trans s4) (k _ _ (s2.trans s4).gg ?_)
      unfold wrongOf
      rw [if_neg he, if_pos hf0]
      exact dp_newT (dpa_two (.str _) hlv) ht
    · have hf0 : fit ≠ [] := fun e => by rw [e] at h; exact absurd h (by decide)
      refine ev_c fun H4 s4 w4 => ?_
      refine kq _ _ _ (s2.trans s4) (k _ _ (s2.trans s4).gg ?_)
      unfold wrongOf
      rw [if_neg he, if_neg hf0]
      exact .non
end
end FD
namespace FD
open PySem PyProof.Rows

/-! ### one row, read behind pre -/
def okRow (r : RowD) : List Str → List Str → Bool
  | _, [] => true
  | pre, a :: s => (!decide (a ∈ r.2) || pre.any fun b => decide (b ∈ r.1)) && okRow r (pre ++ [a]) s
theorem okRow_paid {r : RowD} : ∀ (s pre : List Str), (pre.any fun b => decide (b ∈ r.1)) = true → okRow r pre s = true
  | [], _, _ => rfl
  | a :: s, pre, h => by
    have h2 : ((pre ++ [a]).any fun b => decide (b ∈ r.1)) = true := by rw [List.any_append, h]; rfl
    show ((!decide (a ∈ r.2) || pre.any fun b => decide (b ∈ r.1)) && okRow r (pre ++ [a]) s) = true
    rw [h, okRow_paid s _ h2, Bool.or_true]
    rfl
theorem okRow_bears {r : RowD} (hd : ∀ x ∈ r.1, x ∉ r.2) : ∀ (s pre : List Str), (pre.any fun b => decide (b ∈ r.1)) = false → okRow r pre s = bearsOf s r
  | [], _, _ => rfl
  | a :: s, pre, h => by
    show ((!decide (a ∈ r.2) || pre.any fun b => decide (b ∈ r.1)) && okRow r (pre ++ [a]) s) = if a ∈ r.1 ∨ a ∈ r.2 then decide (a ∈ r.1) else bearsOf s r
    rw [h, Bool.or_false]
    by_cases h1 : a ∈ r.1
    · have h2 : ((pre ++ [a]).any fun b => decide (b ∈ r.1)) = true := by rw [List.any_append, h, List.any_cons, decide_eq_true h1]; rfl
      rw [if_pos (.inl h1), okRow_paid s _ h2, decide_eq_true h1, decide_eq_false (hd a h1)]
      rfl
    · by_cases h2 : a ∈ r.2
      · rw [if_pos (.inr h2), decide_eq_true h2, decide_eq_false h1]
        rfl
      · have h3 : ((pre ++ [a]).any fun b => decide (b ∈ r.1)) = false := by rw [List.any_append, h, List.any_cons, decide_eq_false h1]; rfl
        rw [if_neg (fun z => z.elim h1 h2), decide_eq_false h2, okRow_bears hd s _ h3]
        rfl
/-- a may stand behind pre -/
def freeAt (rows : List RowD) (pre : List Str) (a : Str) : Bool := rows.all fun r => !decide (a ∈ r.2) || pre.any fun b => decide (b ∈ r.1)
def okAll (rows : List RowD) : List Str → List Str → Bool
  | _, [] => true
  | pre, a :: s => freeAt rows pre a && okAll rows (pre ++ [a]) s
theorem okAll_rows (rows : List RowD) : ∀ (s pre : List Str), okAll rows pre s = rows.all fun r => okRow r pre s
  | [], _ => by
    symm
    exact List.all_eq_true.mpr fun _ _ => rfl
  | a :: s, pre => by
    show (freeAt rows pre a && okAll rows (pre ++ [a]) s) = _
    rw [okAll_rows rows s, Bool.eq_iff_iff]
    unfold freeAt
    rw [Bool.and_eq_true, List.all_eq_true, List.all_eq_true, List.all_eq_true]
    constructor
    · intro h r hr
      show (_ && _) = true
      rw [Bool.and_eq_true]
      exact ⟨h.1 r hr, h.2 r hr⟩
    · intro h
      have h2 : ∀ r ∈ rows, _ ∧ _ := fun r hr => (Bool.and_eq_true _ _).mp (h r hr)
      exact ⟨fun r hr => (h2 r hr).1, fun r hr => (h2 r hr).2⟩
def RowsDis (rows : List RowD) : Prop := ∀ r ∈ rows, ∀ x ∈ r.1, x ∉ r.2
theorem okAll_bears {rows : List RowD} (hd : RowsDis rows) (p : List Str) : okAll rows [] p = rows.all fun r => bearsOf p r := by
  rw [okAll_rows, Bool.eq_iff_iff, List.all_eq_true, List.all_eq_true]
  exact ⟨fun h r hr => by rw [← okRow_bears (hd r hr) p [] rfl]; exact h r hr, fun h r hr => by rw [okRow_bears (hd r hr) p [] rfl]; exact h r hr⟩
theorem okAll_append (rows : List RowD) : ∀ (s pre t : List Str), okAll rows pre (s ++ t) = (okAll rows pre s && okAll rows (pre ++ s) t)
  | [], pre, t => by
    rw [List.nil_append, List.append_nil]
    exact (Bool.true_and _).symm
  | a :: s, pre, t => by
    show (freeAt rows pre a && okAll rows (pre ++ [a]) (s ++ t)) = ((freeAt rows pre a && okAll rows (pre ++ [a]) s) && okAll rows (pre ++ a :: s) t)
    rw [okAll_append rows s, Bool.and_assoc, List.append_assoc]
    rfl

/-! ### the orders, from the front -/
def extK (R : List Str) : List Str → Nat → List (List Str)
  | p, 0 => [p]
  | p, k + 1 => (R.filter fun a => !decide (a ∈ p)).flatMap fun a => extK R (p ++ [a]) k
theorem extK_succ (R : List Str) : ∀ (k : Nat) (p : List Str), extK R p (k + 1) = (extK R p k).flatMap (permNext R)
  | 0, p => by
    show ((R.filter fun a => !decide (a ∈ p)).flatMap fun a => [p ++ [a]]) = [p].flatMap (permNext R)
    rw [List.flatMap_cons, List.flatMap_nil, List.append_nil]
    unfold permNext
    generalize R.filter _ = l
    induction l with
    | nil => rfl
    | cons x l ih => rw [List.flatMap_cons, ih]; rfl
  | k + 1, p => by
    show ((R.filter fun a => !decide (a ∈ p)).flatMap fun a => extK R (p ++ [a]) (k + 1)) = ((R.filter fun a => !decide (a ∈ p)).flatMap fun a => extK R (p ++ [a]) k).flatMap (permNext R)
    rw [List.flatMap_assoc]
    congr 1
    funext a
    exact extK_succ R k _
theorem permsK_ext (R : List Str) : ∀ k, permsK R k = extK R [] k
  | 0 => rfl
  | k + 1 => by
    show (permsK R k).flatMap (permNext R) = _
    rw [extK_succ, permsK_ext R k]
theorem extK_mem {R : List Str} : ∀ {k : Nat} {p q : List Str}, q ∈ extK R p k → ∃ s, q = p ++ s ∧ s.length = k ∧ (∀ x ∈ s, x ∈ R) ∧ (p.Nodup → q.Nodup)
  | 0, p, q, h => ⟨[], by rw [List.mem_singleton.mp h, List.append_nil], rfl, fun _ h => (nomatch h), fun hp => by rw [List.mem_singleton.mp h]; exact hp⟩
  | k + 1, p, q, h => by
    obtain ⟨a, ha, hq⟩ := List.mem_flatMap.mp h
    obtain ⟨haR, hap⟩ := List.mem_filter.mp ha
    have hap : a ∉ p := by simpa using hap
    obtain ⟨s, e, hl, hs, hn⟩ := extK_mem hq
    refine ⟨a :: s, by rw [e, List.append_assoc]; rfl, by rw [List.length_cons, hl], fun x hx => ?_, fun hp => hn ?_⟩
    · rcases List.mem_cons.mp hx with z | z
      · rw [z]; exact haR
      · exact hs x z
    · exact List.nodup_append.mpr ⟨hp, List.nodup_cons.mpr ⟨fun h => (nomatch h), List.nodup_nil⟩, fun y hy z hz e => hap (by rw [← List.mem_singleton.mp hz, ← e]; exact hy)⟩
theorem extK_in {R : List Str} : ∀ (s p : List Str), (∀ x ∈ s, x ∈ R) → (p ++ s).Nodup → p ++ s ∈ extK R p s.length
  | [], p, _, _ => by rw [List.append_nil]; exact List.mem_singleton.mpr rfl
  | a :: s, p, hs, hn => by
    have e : p ++ a :: s = (p ++ [a]) ++ s := by rw [List.append_assoc]; rfl
    refine List.mem_flatMap.mpr ⟨a, List.mem_filter.mpr ⟨hs a (.head _), ?_⟩, ?_⟩
    · have : a ∉ p := fun h => (List.nodup_append.mp hn).2.2 a h a (.head _) rfl
      simpa using this
    · rw [e] at hn ⊢
      exact extK_in s _ (fun x hx => hs x (.tail _ hx)) hn
/-- an order of R -/
theorem permsOf_mem {R p : List Str} : p ∈ permsOf R ↔ p.length = R.length ∧ (∀ x ∈ p, x ∈ R) ∧ p.Nodup := by
  unfold permsOf
  rw [permsK_ext]
  constructor
  · intro h
    obtain ⟨s, e, hl, hs, hn⟩ := extK_mem h
    rw [List.nil_append] at e
    subst e
    exact ⟨hl, hs, hn List.nodup_nil⟩
  · rintro ⟨hl, hs, hn⟩
    rw [← hl]
    exact extK_in p [] hs hn
theorem nodup_all {p R : List Str} (hp : p.Nodup) (hs : ∀ x ∈ p, x ∈ R) (hl : R.length ≤ p.length) : ∀ x ∈ R, x ∈ p := fun x hx => Classical.byContradiction fun h => by
  have h1 := nodup_len (x :: p) R (List.nodup_cons.mpr ⟨h, hp⟩) fun y hy => by
    rcases List.mem_cons.mp hy with z | z
    · rw [z]; exact hx
    · exact hs y z
  rw [List.length_cons] at h1
  omega
theorem permsOf_all {R p : List Str} (h : p ∈ permsOf R) : ∀ x ∈ R, x ∈ p := by
  obtain ⟨hl, hs, hn⟩ := permsOf_mem.mp h
  exact nodup_all hn hs (by omega)
def cnt (R : List Str) (rows : List RowD) (p : List Str) (k : Nat) : Nat := ((extK R p k).filter fun q => okAll rows [] q).length
theorem cnt_bad {R : List Str} {rows : List RowD} {p : List Str} {k : Nat} (h : okAll rows [] p = false) : cnt R rows p k = 0 := by
  unfold cnt
  rw [List.filter_eq_nil_iff.mpr]
  · rfl
  · intro q hq
    obtain ⟨s, e, _⟩ := extK_mem hq
    rw [e, okAll_append, h]
    exact fun z => nomatch z
theorem sum_filter {α : Type} (g : α → Nat) (c d : α → Bool) (hz : ∀ a, d a = false → g a = 0) : ∀ l : List α, ((l.filter c).map g).sum = ((l.filter fun a => c a && d a).map g).sum
  | [] => rfl
  | a :: l => by
    have ih := sum_filter g c d hz l
    rw [List.filter_cons, List.filter_cons]
    cases hc : c a with
    | false => exact ih
    | true =>
      cases hd : d a with
      | false =>
        have h0 := hz a hd
        show ((a :: l.filter c).map g).sum = ((l.filter fun a => c a && d a).map g).sum
        rw [List.map_cons, List.sum_cons, h0, ih, Nat.zero_add]
      | true =>
        show ((a :: l.filter c).map g).sum = ((a :: l.filter fun a => c a && d a).map g).sum
        rw [List.map_cons, List.sum_cons, List.map_cons, List.sum_cons, ih]
theorem cnt_succ {R : List Str} {rows : List RowD} {p : List Str} {k : Nat} (h : okAll rows [] p = true) :
    cnt R rows p (k + 1) = ((R.filter fun a => !decide (a ∈ p) && freeAt rows p a).map fun a => cnt R rows (p ++ [a]) k).sum := by
  rw [← sum_filter (fun a => cnt R rows (p ++ [a]) k) (fun a => !decide (a ∈ p)) (freeAt rows p) fun a ha => cnt_bad (by
    rw [okAll_append, h]
    show (true && (freeAt rows p a && true)) = false
    rw [ha]
    rfl)]
  unfold cnt
  show ((((R.filter fun a => !decide (a ∈ p)).flatMap fun a => extK R (p ++ [a]) k)).filter fun q => okAll rows [] q).length = _
  rw [List.filter_flatMap, List.length_flatMap]
end FD
namespace FD
open PySem PyProof.Rows
theorem testBit_foldMask (R : List Str) (i : Nat) : ∀ (ns : List Str) (m : Nat), (ns.foldl (fun m x => m ||| 2 ^ R.idxOf x) m).testBit i = true ↔ m.testBit i = true ∨ ∃ x ∈ ns, R.idxOf x = i
  | [], m => by simp
  | x :: ns, m => by
    rw [List.foldl_cons, testBit_foldMask R i ns, Nat.testBit_or, Bool.or_eq_true, Nat.testBit_two_pow, decide_eq_true_eq]
    simp only [List.mem_cons, exists_eq_or_imp]
    exact or_assoc
theorem testBit_mask (R ns : List Str) (i : Nat) : (maskOf R ns).testBit i = true ↔ ∃ x ∈ ns, R.idxOf x = i := by
  unfold maskOf
  rw [testBit_foldMask]
  simp
theorem idx_inj {R : List Str} {a b : Str} (ha : a ∈ R) (h : R.idxOf a = R.idxOf b) (hb : b ∈ R) : a = b := by
  have h1 := List.getElem_idxOf (List.idxOf_lt_length_of_mem ha)
  have h2 := List.getElem_idxOf (List.idxOf_lt_length_of_mem hb)
  rw [← h1, ← h2]
  simp only [h]
theorem testBit_in {R ns : List Str} {a : Str} (ha : a ∈ R) (hs : ∀ x ∈ ns, x ∈ R) : (maskOf R ns).testBit (R.idxOf a) = true ↔ a ∈ ns := by
  rw [testBit_mask]
  exact ⟨fun ⟨x, hx, e⟩ => by rw [idx_inj ha e.symm (hs x hx)]; exact hx, fun h => ⟨a, h, rfl⟩⟩
theorem mask_dis {R ns p : List Str} (h1 : ∀ x ∈ ns, x ∈ R) (h2 : ∀ x ∈ p, x ∈ R) : maskOf R ns &&& maskOf R p = 0 ↔ ∀ b ∈ ns, b ∉ p := by
  constructor
  · intro h b hb hp
    have e : (maskOf R ns &&& maskOf R p).testBit (R.idxOf b) = true := by
      rw [Nat.testBit_and, (testBit_in (h1 b hb) h1).mpr hb, (testBit_in (h1 b hb) h2).mpr hp]
      rfl
    rw [h, Nat.zero_testBit] at e
    cases e
  · intro h
    apply Nat.eq_of_testBit_eq
    intro i
    rw [Nat.zero_testBit, Nat.testBit_and]
    cases q1 : (maskOf R ns).testBit i with
    | false => rfl
    | true =>
      cases q2 : (maskOf R p).testBit i with
      | false => rfl
      | true =>
        obtain ⟨x, hx, ex⟩ := (testBit_mask R ns i).mp q1
        obtain ⟨y, hy, ey⟩ := (testBit_mask R p i).mp q2
        have := idx_inj (h1 x hx) (ex.trans ey.symm) (h2 y hy)
        exact absurd (this ▸ hy) (h x hx)
theorem testBit_foldBlk (t i : Nat) : ∀ (ps : List (Nat × Nat)) (m : Nat), (ps.foldl (fun m p => if p.1 &&& t = 0 then m ||| p.2 else m) m).testBit i = true ↔ m.testBit i = true ∨ ∃ p ∈ ps, p.1 &&& t = 0 ∧ p.2.testBit i = true
  | [], m => by simp
  | p :: ps, m => by
    rw [List.foldl_cons, testBit_foldBlk t i ps]
    simp only [List.mem_cons, exists_eq_or_imp]
    by_cases h : p.1 &&& t = 0
    · rw [if_pos h, Nat.testBit_or, Bool.or_eq_true]
      constructor
      · rintro ((z | z) | z)
        · exact .inl z
        · exact .inr (.inl ⟨h, z⟩)
        · exact .inr (.inr z)
      · rintro (z | z | z)
        · exact .inl (.inl z)
        · exact .inl (.inr z.2)
        · exact .inr z
    · rw [if_neg h]
      constructor
      · rintro (z | z)
        · exact .inl z
        · exact .inr (.inr z)
      · rintro (z | z | z)
        · exact .inl z
        · exact absurd z.1 h
        · exact .inr z
def RowsIn (R : List Str) (rows : List RowD) : Prop := ∀ r ∈ rows, In1 R r
theorem testBit_blocked {R : List Str} {rows : List RowD} {p : List Str} {a : Str} (hin : RowsIn R rows) (hp : ∀ x ∈ p, x ∈ R) (ha : a ∈ R) :
    (blocked (pairsOf R rows) (maskOf R p)).testBit (R.idxOf a) = true ↔ ∃ r ∈ rows, (∀ b ∈ r.1, b ∉ p) ∧ a ∈ r.2 := by
  unfold blocked
  rw [testBit_foldBlk]
  constructor
  · rintro (z | ⟨q, hq, h1, h2⟩)
    · rw [Nat.zero_testBit] at z; cases z
    · obtain ⟨r, hr, rfl⟩ := List.mem_map.mp hq
      exact ⟨r, hr, (mask_dis (hin r hr).1 hp).mp h1, (testBit_in ha (hin r hr).2).mp h2⟩
  · rintro ⟨r, hr, h1, h2⟩
    exact .inr ⟨_, List.mem_map.mpr ⟨r, hr, rfl⟩, (mask_dis (hin r hr).1 hp).mpr h1, (testBit_in ha (hin r hr).2).mpr h2⟩
theorem freeAt_iff {rows : List RowD} {p : List Str} {a : Str} : freeAt rows p a = true ↔ ∀ r ∈ rows, a ∈ r.2 → ∃ b ∈ p, b ∈ r.1 := by
  unfold freeAt
  rw [List.all_eq_true]
  refine forall_congr' fun r => forall_congr' fun hr => ?_
  rw [Bool.or_eq_true, Bool.not_eq_true', decide_eq_false_iff_not, List.any_eq_true]
  constructor
  · rintro (h | ⟨b, h1, h2⟩) h3
    · exact absurd h3 h
    · exact ⟨b, h1, of_decide_eq_true h2⟩
  · intro h
    by_cases q : a ∈ r.2
    · obtain ⟨b, h1, h2⟩ := h q
      exact .inr ⟨b, h1, decide_eq_true h2⟩
    · exact .inl q
theorem blocked_free {R : List Str} {rows : List RowD} {p : List Str} {a : Str} (hin : RowsIn R rows) (hp : ∀ x ∈ p, x ∈ R) (ha : a ∈ R) :
    (blocked (pairsOf R rows) (maskOf R p)).testBit (R.idxOf a) = !freeAt rows p a := by
  rw [Bool.eq_iff_iff, testBit_blocked hin hp ha, Bool.not_eq_true', ← Bool.not_eq_true, freeAt_iff]
  constructor
  · rintro ⟨r, hr, h1, h2⟩ h
    obtain ⟨b, hb, hb2⟩ := h r hr h2
    exact h1 b hb2 hb
  · intro h
    refine Classical.byContradiction fun q => h fun r hr h2 => Classical.byContradiction fun h3 => q ⟨r, hr, fun b hb hbp => h3 ⟨b, hbp, hb⟩, h2⟩
theorem full_bit_lt {n i : Nat} (h : i < n) : (fullOf n).testBit i = true := by
  unfold fullOf
  rw [Nat.testBit_two_pow_sub_one]
  exact decide_eq_true h
theorem coming_bit {R : List Str} {rows : List RowD} {p : List Str} {a : Str} (hin : RowsIn R rows) (hp : ∀ x ∈ p, x ∈ R) (ha : a ∈ R) :
    (coming (pairsOf R rows) (maskOf R p) (fullOf R.length)).testBit (R.idxOf a) = (!decide (a ∈ p) && freeAt rows p a) := by
  unfold coming
  rw [testBit_diff, testBit_diff, full_bit_lt (List.idxOf_lt_length_of_mem ha), blocked_free hin hp ha, Bool.not_not, Bool.true_and]
  congr 2
  rw [Bool.eq_iff_iff, testBit_in ha hp, decide_eq_true_eq]
theorem map_idx {R : List Str} (nd : R.Nodup) : R.map R.idxOf = List.range R.length := by
  apply List.ext_getElem
  · rw [List.length_map, List.length_range]
  · intro i h1 h2
    rw [List.getElem_map, List.getElem_range]
    exact List.Nodup.idxOf_getElem nd i _
theorem mask_lt {R p : List Str} (hp : ∀ x ∈ p, x ∈ R) : maskOf R p < 2 ^ R.length := by
  refine Nat.lt_pow_two_of_testBit _ fun i hi => ?_
  cases q : (maskOf R p).testBit i with
  | false => rfl
  | true =>
    obtain ⟨x, hx, e⟩ := (testBit_mask R p i).mp q
    have := List.idxOf_lt_length_of_mem (hp x hx)
    omega
theorem mask_snoc (R p : List Str) (a : Str) : maskOf R (p ++ [a]) = maskOf R p ||| 2 ^ R.idxOf a := by
  unfold maskOf
  rw [List.foldl_append]
  rfl
/-- the mask of all reasons -/
theorem mask_full {R p : List Str} (nd : R.Nodup) (hp : ∀ x ∈ p, x ∈ R) : maskOf R p = fullOf R.length ↔ ∀ x ∈ R, x ∈ p := by
  constructor
  · intro h x hx
    have := full_bit_lt (List.idxOf_lt_length_of_mem hx)
    rw [← h] at this
    exact (testBit_in hx hp).mp this
  · intro h
    apply Nat.eq_of_testBit_eq
    intro i
    rw [Bool.eq_iff_iff, testBit_mask]
    constructor
    · rintro ⟨x, hx, rfl⟩
      exact full_bit_lt (List.idxOf_lt_length_of_mem (hp x hx))
    · intro hi
      have hl := full_bit hi
      exact ⟨R[i], h _ (List.getElem_mem hl), List.Nodup.idxOf_getElem nd i hl⟩
theorem range_filter {f : Nat → Bool} : ∀ {m n : Nat}, m ≤ n → (∀ i, m ≤ i → f i = false) → (List.range n).filter f = (List.range m).filter f := by
  intro m n h hf
  obtain ⟨d, rfl⟩ := Nat.exists_eq_add_of_le h
  clear h
  induction d with
  | zero => rfl
  | succ d ih =>
    rw [← Nat.add_assoc, List.range_succ, List.filter_append, ih, List.filter_cons, hf (m + d) (by omega)]
    exact List.append_nil _
theorem bitsOf_lt {m n : Nat} (h : m < 2 ^ n) : bitsOf m = ((List.range n).filter fun i => m.testBit i).map fun i => 2 ^ i := by
  unfold bitsOf
  congr 1
  have hz : ∀ k, m < 2 ^ k → ∀ i, k ≤ i → m.testBit i = false := fun k hk i hi => Nat.testBit_lt_two_pow (Nat.lt_of_lt_of_le hk (Nat.pow_le_pow_right (by decide) hi))
  have h2 : m < 2 ^ (Builtin.Int.intBits (m : Int)) := by
    have := (PySem.intBits_le_iff (x := (m : Int))).mp (Nat.le_refl (Builtin.Int.intBits (m : Int)))
    rw [Int.natAbs_natCast] at this
    exact this
  rcases Nat.le_total (Builtin.Int.intBits (m : Int)) n with q | q
  · exact (range_filter q (hz _ h2)).symm
  · exact range_filter q (hz _ h)
/-! ### the table of counts -/
def EndLaw (cs acc : List Nat) (m : Nat) : Prop := acc.length = cs.length ∧ ∀ t, m ≤ t → t < cs.length → acc.getD t 0 = if t = cs.length - 1 then 1 else bitSum cs acc t (bitsOf (cs.getD t 0))
theorem getD_set_ne {l : List Nat} {i j v : Nat} (h : i ≠ j) : (l.set i v).getD j 0 = l.getD j 0 := by
  rw [List.getD_eq_getElem?_getD, List.getD_eq_getElem?_getD, List.getElem?_set_ne h]
theorem getD_set_eq {l : List Nat} {i v : Nat} (h : i < l.length) : (l.set i v).getD i 0 = v := by
  rw [List.getD_eq_getElem?_getD, List.getElem?_set_self h]
  rfl
theorem bitSum_set {cs acc : List Nat} {t m v : Nat} {bs : List Nat} (h : ∀ b ∈ bs, m ≠ t ||| b) : bitSum cs (acc.set m v) t bs = bitSum cs acc t bs := by
  unfold bitSum
  congr 1
  exact List.map_congr_left fun b hb => getD_set_ne (h b hb)
theorem end_law {cs : List Nat} (hup : ∀ t, t < cs.length → ∀ b ∈ bitsOf (cs.getD t 0), t < t ||| b) : ∀ (m : Nat) (acc : List Nat), m ≤ cs.length - 1 → EndLaw cs acc m → EndLaw cs ((List.range m).reverse.foldl (endStep cs) acc) 0
  | 0, acc, _, h => h
  | m + 1, acc, hm, h => by
    rw [List.range_succ, List.reverse_append]
    show EndLaw cs ((List.range m).reverse.foldl (endStep cs) (endStep cs acc m)) 0
    refine end_law hup m _ (by omega) ⟨?_, fun t h1 h2 => ?_⟩
    · unfold endStep
      rw [List.length_set]
      exact h.1
    · unfold endStep
      have hne : ∀ b ∈ bitsOf (cs.getD t 0), m ≠ t ||| b := fun b hb => by
        have := hup t h2 b hb
        omega
      rw [bitSum_set hne]
      by_cases e : t = m
      · subst e
        rw [getD_set_eq (by rw [h.1]; exact h2), if_neg (by omega)]
      · rw [getD_set_ne (fun z => e z.symm)]
        exact h.2 t (by omega) h2
theorem endCounts_law {cs : List Nat} (hl : 1 ≤ cs.length) (hup : ∀ t, t < cs.length → ∀ b ∈ bitsOf (cs.getD t 0), t < t ||| b) : EndLaw cs (endCounts cs) 0 := by
  refine end_law hup (cs.length - 1) (endStart cs) (Nat.le_refl _) ⟨?_, fun t h1 h2 => ?_⟩
  · unfold endStart
    rw [List.length_set, List.length_replicate]
  · have e : t = cs.length - 1 := by omega
    rw [if_pos e, e]
    unfold endStart
    exact getD_set_eq (by rw [List.length_replicate]; omega)
theorem comTab_at {R : List Str} {rows : List RowD} {t : Nat} (h : t < 2 ^ R.length) : (comTab R rows).getD t 0 = coming (pairsOf R rows) t (fullOf R.length) := by
  unfold comTab
  rw [List.getD_eq_getElem?_getD, List.getElem?_map, List.getElem?_range h]
  rfl
theorem comTab_len (R : List Str) (rows : List RowD) : (comTab R rows).length = 2 ^ R.length := by
  unfold comTab
  rw [List.length_map, List.length_range]
theorem comTab_law {R : List Str} (rows : List RowD) : EndLaw (comTab R rows) (endCounts (comTab R rows)) 0 := by
  refine endCounts_law (by rw [comTab_len]; exact Nat.one_le_two_pow) fun t ht b hb => ?_
  rw [comTab_len] at ht
  rw [comTab_at ht] at hb
  obtain ⟨i, rfl, hi⟩ := mem_bitsOf hb
  refine or_grow (Nat.ne_of_gt (Nat.pow_pos (by decide))) fun j hj => ?_
  rw [Nat.testBit_two_pow] at hj
  have := of_decide_eq_true hj
  subst this
  exact (coming_off _ _ _ _ hi).2
/-- how many orders go on behind p -/
theorem count_from {R : List Str} {rows : List RowD} (nd : R.Nodup) (hin : RowsIn R rows) : ∀ (k : Nat) (p : List Str), p.Nodup → (∀ x ∈ p, x ∈ R) → p.length + k = R.length → okAll rows [] p = true →
    (endCounts (comTab R rows)).getD (maskOf R p) 0 = cnt R rows p k
  | 0, p, hn, hp, hl, hok => by
    have hf := (mask_full nd hp).mpr (nodup_all hn hp (by omega))
    have h1 := (comTab_law (R := R) rows).2 (maskOf R p) (Nat.zero_le _) (by rw [comTab_len]; exact mask_lt hp)
    rw [comTab_len, if_pos (by rw [hf]; rfl)] at h1
    rw [h1]
    show 1 = (([p]).filter fun q => okAll rows [] q).length
    rw [List.filter_cons, if_pos hok]
    rfl
  | k + 1, p, hn, hp, hl, hok => by
    have hlt := mask_lt hp
    have hnf : maskOf R p ≠ fullOf R.length := fun h => by
      have h1 := nodup_len R p nd ((mask_full nd hp).mp h)
      omega
    have h1 := (comTab_law (R := R) rows).2 (maskOf R p) (Nat.zero_le _) (by rw [comTab_len]; exact hlt)
    rw [comTab_len, if_neg (by exact fun z => hnf (z.trans rfl)), comTab_at hlt, bitsOf_lt (coming_lt _ _ _)] at h1
    rw [h1, cnt_succ hok]
    unfold bitSum
    rw [List.map_map, ← map_idx nd, List.filter_map, List.map_map]
    have e1 : R.filter ((fun i => (coming (pairsOf R rows) (maskOf R p) (fullOf R.length)).testBit i) ∘ R.idxOf) = R.filter fun a => !decide (a ∈ p) && freeAt rows p a :=
      List.filter_congr fun a ha => coming_bit hin hp ha
    rw [e1]
    congr 1
    refine List.map_congr_left fun a ha => ?_
    obtain ⟨haR, hq⟩ := List.mem_filter.mp ha
    rw [Bool.and_eq_true] at hq
    have hap : a ∉ p := by simpa using hq.1
    have ih := count_from nd hin k (p ++ [a]) (List.nodup_append.mpr ⟨hn, List.nodup_cons.mpr ⟨fun h => (nomatch h), List.nodup_nil⟩, fun y hy z hz e => hap (by rw [← List.mem_singleton.mp hz, ← e]; exact hy)⟩) (fun x hx => by
      rcases List.mem_append.mp hx with z | z
      · exact hp x z
      · rw [List.mem_singleton.mp z]; exact haR) (by rw [List.length_append]; show p.length + 1 + k = _; omega) (by
      rw [okAll_append, hok]
      show (true && (freeAt rows p a && true)) = true
      rw [hq.2]
      rfl)
    rw [← ih, mask_snoc]
    rfl
/-- the program's count is the number of the orders that bear all rows -/
theorem countOf_eq {R : List Str} {rows : List RowD} (nd : R.Nodup) (hin : RowsIn R rows) (hd : RowsDis rows) : countOf R rows = ((permsOf R).filter fun p => rows.all fun r => bearsOf p r).length := by
  have h := count_from nd hin R.length [] List.nodup_nil (fun _ h => (nomatch h)) (by rw [List.length_nil, Nat.zero_add]) rfl
  unfold countOf
  rw [show maskOf R [] = 0 from rfl] at h
  rw [h]
  unfold cnt permsOf
  rw [permsK_ext]
  congr 1
  exact List.filter_congr fun p _ => okAll_bears hd p
end FD
namespace FD
open PySem PyProof.Rows
theorem freeAt_mono {rows : List RowD} {p q : List Str} {a : Str} (h : freeAt rows p a = true) (s : ∀ x ∈ p, x ∈ q) : freeAt rows q a = true :=
  freeAt_iff.mpr fun r hr ha => let ⟨b, h1, h2⟩ := freeAt_iff.mp h r hr ha; ⟨b, s b h1, h2⟩
theorem okAll_free {rows : List RowD} {p : List Str} : ∀ (s pre : List Str), (∀ x ∈ p, x ∈ pre) → (∀ a ∈ s, freeAt rows p a = true) → okAll rows pre s = true
  | [], _, _, _ => rfl
  | a :: s, pre, hp, h => by
    show (freeAt rows pre a && okAll rows (pre ++ [a]) s) = true
    rw [freeAt_mono (h a (.head _)) hp, okAll_free s (pre ++ [a]) (fun x hx => List.mem_append_left _ (hp x hx)) fun b hb => h b (.tail _ hb)]
    rfl
/-- the next layer behind p -/
def layerOf (R : List Str) (rows : List RowD) (p : List Str) : List Str := R.filter fun a => !decide (a ∈ p) && freeAt rows p a
theorem layer_in {R : List Str} {rows : List RowD} {p : List Str} {a : Str} (h : a ∈ layerOf R rows p) : a ∈ R ∧ a ∉ p ∧ freeAt rows p a = true := by
  obtain ⟨h1, h2⟩ := List.mem_filter.mp h
  rw [Bool.and_eq_true] at h2
  exact ⟨h1, by simpa using h2.1, h2.2⟩
theorem layer_sub {R : List Str} {rows : List RowD} {p : List Str} (hp : ∀ x ∈ p, x ∈ R) : ∀ x ∈ p ++ layerOf R rows p, x ∈ R := fun x hx => by
  rcases List.mem_append.mp hx with z | z
  · exact hp x z
  · exact (layer_in z).1
theorem mask_layer {R : List Str} {rows : List RowD} {p : List Str} (nd : R.Nodup) (hin : RowsIn R rows) (hp : ∀ x ∈ p, x ∈ R) : maskOf R (p ++ layerOf R rows p) = maskOf R p ||| coming (pairsOf R rows) (maskOf R p) (fullOf R.length) := by
  apply Nat.eq_of_testBit_eq
  intro i
  rw [Bool.eq_iff_iff, Nat.testBit_or, Bool.or_eq_true, testBit_mask, testBit_mask]
  constructor
  · rintro ⟨x, hx, rfl⟩
    rcases List.mem_append.mp hx with z | z
    · exact .inl ⟨x, z, rfl⟩
    · obtain ⟨h1, h2⟩ := List.mem_filter.mp z
      exact .inr (by rw [coming_bit hin hp h1]; exact h2)
  · rintro (⟨x, hx, rfl⟩ | h)
    · exact ⟨x, List.mem_append_left _ hx, rfl⟩
    · have hi := full_bit (coming_off _ _ _ i h).1
      have e := List.Nodup.idxOf_getElem nd i hi
      rw [← e, coming_bit hin hp (List.getElem_mem hi)] at h
      exact ⟨R[i], List.mem_append_right _ (List.mem_filter.mpr ⟨List.getElem_mem hi, h⟩), e⟩
theorem gwi_ind {R : List Str} {rows : List RowD} (nd : R.Nodup) (hin : RowsIn R rows) {J : List Str → Prop} (hs : ∀ p, J p → (∀ x ∈ p, x ∈ R) → J (p ++ layerOf R rows p)) :
    ∀ (n : Nat) (p : List Str), J p → (∀ x ∈ p, x ∈ R) → ∃ p', J p' ∧ (∀ x ∈ p', x ∈ R) ∧ maskOf R p' = gwi (pairsOf R rows) (fullOf R.length) n (maskOf R p)
  | 0, p, h, hp => ⟨p, h, hp, rfl⟩
  | n + 1, p, h, hp => by
    show ∃ p', J p' ∧ (∀ x ∈ p', x ∈ R) ∧ maskOf R p' = if coming (pairsOf R rows) (maskOf R p) (fullOf R.length) = 0 then maskOf R p else gwi (pairsOf R rows) (fullOf R.length) n (maskOf R p ||| coming (pairsOf R rows) (maskOf R p) (fullOf R.length))
    by_cases q : coming (pairsOf R rows) (maskOf R p) (fullOf R.length) = 0
    · rw [if_pos q]
      exact ⟨p, h, hp, rfl⟩
    · rw [if_neg q, ← mask_layer nd hin hp]
      exact gwi_ind nd hin hs n _ (hs p h hp) (layer_sub hp)
theorem gwi_end (ps : List (Nat × Nat)) (room : Nat) : ∀ (n t : Nat), (∀ i, t.testBit i = true → room.testBit i = true) → room - t < n → coming ps (gwi ps room n t) room = 0
  | 0, _, _, h => by omega
  | n + 1, t, ht, h => by
    show coming ps (if coming ps t room = 0 then t else gwi ps room n (t ||| coming ps t room)) room = 0
    by_cases q : coming ps t room = 0
    · rw [if_pos q]
      exact q
    · rw [if_neg q]
      have hoff := coming_off ps t room
      have hlt := or_grow q fun i h => (hoff i h).2
      have hsub : ∀ i, (t ||| coming ps t room).testBit i = true → room.testBit i = true := fun i h => by
        rw [Nat.testBit_or, Bool.or_eq_true] at h
        exact h.elim (ht i) fun q => (hoff i q).1
      have hle := sub_le hsub
      exact gwi_end ps room n _ hsub (by omega)
theorem lay_end (R : List Str) (rows : List RowD) : coming (pairsOf R rows) (layOf R rows) (fullOf R.length) = 0 := by
  unfold layOf
  exact gwi_end _ _ _ 0 (fun i h => by rw [Nat.zero_testBit] at h; cases h) (by omega)
theorem lay_ind {R : List Str} {rows : List RowD} (nd : R.Nodup) (hin : RowsIn R rows) {J : List Str → Prop} (h0 : J []) (hs : ∀ p, J p → (∀ x ∈ p, x ∈ R) → J (p ++ layerOf R rows p)) :
    ∃ p, J p ∧ (∀ x ∈ p, x ∈ R) ∧ maskOf R p = layOf R rows := by
  unfold layOf
  have := gwi_ind nd hin hs (fullOf R.length + 1) [] h0 fun _ h => nomatch h
  exact this
/-- all that may come is in -/
theorem lay_stop {R : List Str} {rows : List RowD} {p : List Str} (hin : RowsIn R rows) (hp : ∀ x ∈ p, x ∈ R) (e : maskOf R p = layOf R rows) {a : Str} (ha : a ∈ R) (hf : freeAt rows p a = true) : a ∈ p := by
  have h := coming_bit hin hp ha
  rw [e, lay_end, Nat.zero_testBit, hf, Bool.and_true] at h
  have h2 : decide (a ∈ p) = true := by simpa using h.symm
  exact of_decide_eq_true h2
theorem first_out {p : List Str} : ∀ (q : List Str), (∃ x ∈ q, x ∉ p) → ∃ q1 a q2, q = q1 ++ a :: q2 ∧ a ∉ p ∧ ∀ x ∈ q1, x ∈ p
  | [], ⟨_, h, _⟩ => nomatch h
  | b :: q, h => by
    by_cases hb : b ∈ p
    · obtain ⟨q1, a, q2, e, h1, h2⟩ := first_out q (by
        obtain ⟨x, hx, hn⟩ := h
        rcases List.mem_cons.mp hx with z | z
        · exact absurd (z ▸ hb) hn
        · exact ⟨x, z, hn⟩)
      exact ⟨b :: q1, a, q2, by rw [e]; rfl, h1, fun x hx => by
        rcases List.mem_cons.mp hx with z | z
        · rw [z]; exact hb
        · exact h2 x z⟩
    · exact ⟨[], b, q, rfl, hb, fun _ h => nomatch h⟩
theorem stands_iff {R : List Str} {rows : List RowD} (nd : R.Nodup) (hin : RowsIn R rows) : standsOf R rows = true ↔ ∃ q ∈ permsOf R, okAll rows [] q = true := by
  unfold standsOf
  rw [decide_eq_true_eq]
  constructor
  · intro h
    obtain ⟨p, ⟨h1, h2⟩, hp, e⟩ := lay_ind nd hin (J := fun p => p.Nodup ∧ okAll rows [] p = true) ⟨List.nodup_nil, rfl⟩ fun p ⟨h1, h2⟩ hp => ⟨List.nodup_append.mpr ⟨h1, nd.sublist List.filter_sublist, fun x hx y hy e => (layer_in hy).2.1 (e ▸ hx)⟩, by
      rw [okAll_append, h2, List.nil_append, okAll_free _ p (fun _ h => h) fun a ha => (layer_in ha).2.2]
      rfl⟩
    rw [h] at e
    have hall := (mask_full nd hp).mp e
    refine ⟨p, permsOf_mem.mpr ⟨?_, hp, h1⟩, h2⟩
    have l1 := nodup_len p R h1 hp
    have l2 := nodup_len R p nd hall
    omega
  · rintro ⟨q, hq, hok⟩
    obtain ⟨p, _, hp, e⟩ := lay_ind nd hin (J := fun _ => True) trivial fun _ _ _ => trivial
    rw [← e]
    refine (mask_full nd hp).mpr fun x hx => Classical.byContradiction fun hn => ?_
    obtain ⟨q1, a, q2, eq, ha, h1⟩ := first_out q ⟨x, permsOf_all hq x hx, hn⟩
    have haR : a ∈ R := (permsOf_mem.mp hq).2.1 a (by rw [eq]; exact List.mem_append_right _ (.head _))
    rw [eq, okAll_append, Bool.and_eq_true] at hok
    have h2 : (freeAt rows ([] ++ q1) a && okAll rows ([] ++ q1 ++ [a]) q2) = true := hok.2
    rw [Bool.and_eq_true, List.nil_append] at h2
    exact ha (lay_stop hin hp e haR (freeAt_mono h2.1 h1))
theorem stands_fit {R : List Str} {recs : List RecD} (nd : R.Nodup) (hin : RowsIn R (recs.map (·.2))) (hd : RowsDis (recs.map (·.2))) : standsOf R (recs.map (·.2)) = true ↔ fitOf R recs ≠ [] := by
  rw [stands_iff nd hin, fitOf_eq]
  have e : ∀ q, okAll (recs.map (·.2)) [] q = recs.all fun x => bearsOf q x.2 := fun q => by
    rw [okAll_bears hd, List.all_map]
    rfl
  constructor
  · rintro ⟨q, hq, h⟩ hz
    have : q ∈ (permsOf R).filter fun p => recs.all fun x => bearsOf p x.2 := List.mem_filter.mpr ⟨hq, by rw [← e]; exact h⟩
    rw [hz] at this
    cases this
  · intro h
    obtain ⟨q, hq⟩ := List.exists_mem_of_ne_nil _ h
    obtain ⟨h1, h2⟩ := List.mem_filter.mp hq
    exact ⟨q, h1, by rw [e]; exact h2⟩

/-! ### the greatest stuck lot -/
theorem mem_low {few : List RecD} {a : Str} : a ∈ lowOf few ↔ ∃ y ∈ few, a ∈ y.2.2 := List.mem_flatMap
theorem mem_lotStep {few : List RecD} {x : RecD} : x ∈ lotStep few ↔ x ∈ few ∧ ∀ a ∈ x.2.1, a ∈ lowOf few := by
  unfold lotStep
  rw [List.mem_filter, List.all_eq_true]
  exact ⟨fun ⟨h1, h2⟩ => ⟨h1, fun a ha => of_decide_eq_true (h2 a ha)⟩, fun ⟨h1, h2⟩ => ⟨h1, fun a ha => decide_eq_true (h2 a ha)⟩⟩
theorem lotK_filter (few : List RecD) : ∀ k, ∃ q : RecD → Bool, lotK few k = few.filter q
  | 0 => ⟨fun _ => true, (List.filter_eq_self.mpr fun _ _ => rfl).symm⟩
  | k + 1 => by
    obtain ⟨q, e⟩ := lotK_filter few k
    refine ⟨fun x => q x && x.2.1.all fun a => decide (a ∈ lowOf (lotK few k)), ?_⟩
    show lotStep (lotK few k) = _
    unfold lotStep
    rw [show ((lotK few k).filter fun x => x.2.1.all fun a => decide (a ∈ lowOf (lotK few k))) = ((few.filter q).filter fun x => x.2.1.all fun a => decide (a ∈ lowOf (lotK few k))) by rw [← e], List.filter_filter]
    exact List.filter_congr fun _ _ => Bool.and_comm _ _
theorem lotK_fix (few : List RecD) : ∀ k, lotStep (lotK few k) = lotK few k ∨ (lotK few k).length + k ≤ few.length
  | 0 => .inr (Nat.le_refl _)
  | k + 1 => by
    rcases lotK_fix few k with h | h
    · refine .inl ?_
      show lotStep (lotStep (lotK few k)) = lotStep (lotK few k)
      rw [h, h]
    · by_cases q : lotStep (lotK few k) = lotK few k
      · refine .inl ?_
        show lotStep (lotStep (lotK few k)) = lotStep (lotK few k)
        rw [q, q]
      · refine .inr ?_
        show (lotStep (lotK few k)).length + (k + 1) ≤ few.length
        have h1 : (lotStep (lotK few k)).length ≤ (lotK few k).length := List.length_filter_le _ _
        have h2 : (lotStep (lotK few k)).length ≠ (lotK few k).length := fun e => q (List.filter_sublist.eq_of_length e)
        omega
theorem lotK_end {few : List RecD} {k : Nat} (h : few.length ≤ k) : lotStep (lotK few k) = lotK few k := by
  rcases lotK_fix few k with q | q
  · exact q
  · have h0 : lotK few k = [] := List.length_eq_zero_iff.mp (by omega)
    rw [h0]
    rfl
theorem lotK_great {few T : List RecD} (h1 : ∀ x ∈ T, x ∈ few) (h2 : ∀ x ∈ T, ∀ a ∈ x.2.1, a ∈ lowOf T) : ∀ k, ∀ x ∈ T, x ∈ lotK few k
  | 0, x, hx => h1 x hx
  | k + 1, x, hx => mem_lotStep.mpr ⟨lotK_great h1 h2 k x hx, fun a ha => let ⟨y, hy, h3⟩ := mem_low.mp (h2 x hx a ha); mem_low.mpr ⟨y, lotK_great h1 h2 k y hy, h3⟩⟩
theorem stuck_eq {R : List Str} {recs : List RecD} (nd : R.Nodup) (hin : RowsIn R (recs.map (·.2))) : stuckOf R recs = lotOf recs := by
  unfold stuckOf lotOf
  congr 1
  have hin' : ∀ x ∈ recs, In1 R x.2 := fun x hx => hin _ (List.mem_map.mpr ⟨x, hx, rfl⟩)
  generalize hfe : recs.filter (fun x => !decide (x.2 = ([], []))) = few
  have hfm : ∀ x, x ∈ few ↔ x ∈ recs ∧ x.2 ≠ ([], []) := fun x => by
    rw [← hfe, List.mem_filter, Bool.not_eq_true', decide_eq_false_iff_not]
  have hfl : few.length ≤ recs.length := by rw [← hfe]; exact List.length_filter_le _ _
  have e1 : (recs.filter fun r => !decide (r.2 = ([], [])) && decide (maskOf R r.2.1 &&& layOf R (recs.map (·.2)) = 0)) = few.filter fun r => decide (maskOf R r.2.1 &&& layOf R (recs.map (·.2)) = 0) := by
    rw [← hfe, List.filter_filter]
    exact List.filter_congr fun _ _ => Bool.and_comm _ _
  rw [e1]
  obtain ⟨q, eq⟩ := lotK_filter few recs.length
  have hfix := lotK_end hfl
  rw [eq] at hfix ⊢
  have hS : ∀ x, x ∈ few.filter q → ∀ a ∈ x.2.1, a ∈ lowOf (few.filter q) := fun x hx => by
    rw [← hfix] at hx
    exact (mem_lotStep.mp hx).2
  obtain ⟨p, hJ, hp, e⟩ := lay_ind nd hin (J := fun p => ∀ x ∈ few.filter q, ∀ b ∈ x.2.1, b ∉ p) (fun _ _ _ _ h => nomatch h) fun p hJ hp x hx b hb hbp => by
    rcases List.mem_append.mp hbp with z | z
    · exact hJ x hx b hb z
    · obtain ⟨y, hy, h3⟩ := mem_low.mp (hS x hx b hb)
      obtain ⟨c, hc, hc2⟩ := freeAt_iff.mp (layer_in z).2.2 y.2 (List.mem_map.mpr ⟨y, ((hfm y).mp (List.mem_filter.mp hy).1).1, rfl⟩) h3
      exact hJ y hy c hc2 hc
  rw [← e]
  have hT : ∀ x ∈ few, decide (maskOf R x.2.1 &&& maskOf R p = 0) = true ↔ ∀ b ∈ x.2.1, b ∉ p := fun x hx => by
    rw [decide_eq_true_eq]
    exact mask_dis (hin' x ((hfm x).mp hx).1).1 hp
  refine List.filter_congr fun x hx => ?_
  rw [Bool.eq_iff_iff, hT x hx]
  constructor
  · intro h
    have hg := lotK_great (few := few) (T := few.filter fun r => decide (maskOf R r.2.1 &&& maskOf R p = 0)) (fun x hx => (List.mem_filter.mp hx).1) (fun x hx a ha => by
      obtain ⟨hx1, hx2⟩ := List.mem_filter.mp hx
      have hx3 := (hT x hx1).mp hx2
      have haR := (hin' x ((hfm x).mp hx1).1).1 a ha
      have hnf : ¬ freeAt (recs.map (·.2)) p a = true := fun z => hx3 a ha (lay_stop hin hp e haR z)
      rw [freeAt_iff] at hnf
      refine Classical.byContradiction fun hno => hnf fun r hr har => Classical.byContradiction fun hno2 => hno ?_
      obtain ⟨y, hy, rfl⟩ := List.mem_map.mp hr
      have hyf : y ∈ few := (hfm y).mpr ⟨hy, fun z => by rw [z] at har; cases har⟩
      exact mem_low.mpr ⟨y, List.mem_filter.mpr ⟨hyf, (hT y hyf).mpr fun b hb hbp => hno2 ⟨b, hbp, hb⟩⟩, har⟩) recs.length x (List.mem_filter.mpr ⟨hx, (hT x hx).mpr h⟩)
    rw [eq] at hg
    exact (List.mem_filter.mp hg).2
  · intro h
    exact hJ x (List.mem_filter.mpr ⟨hx, h⟩)
end FD
namespace FD
open PySem PyProof.Rows
theorem ltI_lt (a b : List Int) : ltI a b = decide (a < b) := by
  have h := PySem.W.dataLt_ints a b
  rw [← h]
  unfold ltI encI PySem.W.dataLt
  rfl
theorem minI_spec : ∀ (xs : List (List Int)) (x : List Int), minI (x :: xs) ∈ x :: xs ∧ ∀ y ∈ x :: xs, ¬ y < minI (x :: xs)
  | [], x => ⟨.head _, fun y hy => by rw [List.mem_singleton.mp hy]; exact List.lt_irrefl _⟩
  | z :: xs, x => by
    have e : minI (x :: z :: xs) = minI ((if ltI z x = true then z else x) :: xs) := rfl
    rw [e]
    obtain ⟨h1, h2⟩ := minI_spec xs (if ltI z x = true then z else x)
    by_cases q : ltI z x = true
    · rw [if_pos q] at h1 h2 ⊢
      have q2 : z < x := of_decide_eq_true ((ltI_lt z x).symm.trans q)
      refine ⟨.tail _ h1, fun y hy => ?_⟩
      rcases List.mem_cons.mp hy with w | w
      · rw [w]
        exact fun hlt => h2 z (.head _) (List.lt_trans q2 hlt)
      · exact h2 y w
    · rw [if_neg q] at h1 h2 ⊢
      have q2 : ¬ z < x := fun hlt => q ((ltI_lt z x).trans (decide_eq_true hlt))
      refine ⟨?_, fun y hy => ?_⟩
      · rcases List.mem_cons.mp h1 with w | w
        · rw [w]; exact .head _
        · exact .tail _ (.tail _ w)
      · rcases List.mem_cons.mp hy with w | w
        · rw [w]; exact h2 x (.head _)
        · rcases List.mem_cons.mp w with w | w
          · rw [w]
            exact fun hlt => h2 x (.head _) (Std.lt_of_le_of_lt (List.not_lt.mp q2) hlt)
          · exact h2 y (.tail _ w)
theorem minI_mem {l : List (List Int)} (h : l ≠ []) : minI l ∈ l := by
  cases l with
  | nil => exact absurd rfl h
  | cons x xs => exact (minI_spec xs x).1
theorem minI_least {l : List (List Int)} {y : List Int} (h : y ∈ l) : ¬ y < minI l := by
  cases l with
  | nil => cases h
  | cons x xs => exact (minI_spec xs x).2 y h
/-- the one that nothing is below -/
theorem minI_iff {l : List (List Int)} {x : List Int} (h : x ∈ l) : x = minI l ↔ ∀ y ∈ l, ¬ y < x := by
  constructor
  · intro e y hy
    rw [e]
    exact minI_least hy
  · intro hx
    have h1 := minI_mem (l := l) (fun z => by rw [z] at h; cases h)
    exact List.le_antisymm (List.not_lt.mp (hx _ h1)) (List.not_lt.mp (minI_least h))
/-! ### the row of two offers -/
theorem diffD_get {a b : List Int} {i : Nat} (h1 : i < a.length) (h2 : i < b.length) : (diffD a b)[i]? = some (b.getD i 0 - a.getD i 0) := by
  unfold diffD
  have e : (a.zip b)[i]? = some (a[i], b[i]) := List.getElem?_zip_eq_some.mpr ⟨List.getElem?_eq_getElem h1, List.getElem?_eq_getElem h2⟩
  rw [List.getElem?_map, e]
  rw [List.getD_eq_getElem?_getD, List.getD_eq_getElem?_getD, List.getElem?_eq_getElem h1, List.getElem?_eq_getElem h2]
  rfl
theorem mem_zipR {R : List Str} {gs : List Int} {x : Str} {g : Int} (nd : R.Nodup) (hx : x ∈ R) : (x, g) ∈ R.zip gs ↔ gs[R.idxOf x]? = some g := by
  have hi := List.idxOf_lt_length_of_mem hx
  have hR : R[R.idxOf x]? = some x := by
    rw [List.getElem?_eq_getElem hi, List.getElem_idxOf hi]
  constructor
  · intro h
    obtain ⟨i, h0⟩ := List.mem_iff_getElem?.mp h
    obtain ⟨h1, h2⟩ := List.getElem?_zip_eq_some.mp h0
    obtain ⟨hl, e⟩ := List.getElem?_eq_some_iff.mp h1
    have e : R[i] = x := e
    have : R.idxOf x = i := by rw [← e]; exact List.Nodup.idxOf_getElem nd i hl
    rw [this]
    exact h2
  · intro h
    exact List.mem_of_getElem? (List.getElem?_zip_eq_some.mpr ⟨hR, h⟩)
section
variable {R : List Str} {a b : List Int}
theorem mem_pro (nd : R.Nodup) (ha : a.length = R.length) (hb : b.length = R.length) {x : Str} (hx : x ∈ R) : x ∈ (sheetRow R a b).1 ↔ a.getD (R.idxOf x) 0 < b.getD (R.idxOf x) 0 := by
  have hi := List.idxOf_lt_length_of_mem hx
  have hg := diffD_get (a := a) (b := b) (i := R.idxOf x) (by omega) (by omega)
  show x ∈ proD R (diffD a b) ↔ _
  unfold proD
  rw [List.mem_map]
  constructor
  · rintro ⟨q, hq, rfl⟩
    obtain ⟨h1, h2⟩ := List.mem_filter.mp hq
    have h3 := (mem_zipR nd hx (g := q.2) (gs := diffD a b)).mp h1
    rw [hg] at h3
    have h4 := Option.some.inj h3
    have h5 := of_decide_eq_true h2
    omega
  · intro h
    exact ⟨(x, _), List.mem_filter.mpr ⟨(mem_zipR nd hx).mpr hg, decide_eq_true (by show (0 : Int) < _; omega)⟩, rfl⟩
theorem mem_con (nd : R.Nodup) (ha : a.length = R.length) (hb : b.length = R.length) {x : Str} (hx : x ∈ R) : x ∈ (sheetRow R a b).2 ↔ b.getD (R.idxOf x) 0 < a.getD (R.idxOf x) 0 := by
  have hi := List.idxOf_lt_length_of_mem hx
  have hg := diffD_get (a := a) (b := b) (i := R.idxOf x) (by omega) (by omega)
  show x ∈ conD R (diffD a b) ↔ _
  unfold conD
  rw [List.mem_map]
  constructor
  · rintro ⟨q, hq, rfl⟩
    obtain ⟨h1, h2⟩ := List.mem_filter.mp hq
    have h3 := (mem_zipR nd hx (g := q.2) (gs := diffD a b)).mp h1
    rw [hg] at h3
    have h4 := Option.some.inj h3
    have h5 := of_decide_eq_true h2
    omega
  · intro h
    exact ⟨(x, _), List.mem_filter.mpr ⟨(mem_zipR nd hx).mpr hg, decide_eq_true (by show _ < (0 : Int); omega)⟩, rfl⟩
theorem row_sub (R : List Str) (a b : List Int) : (sheetRow R a b).1.Sublist R ∧ (sheetRow R a b).2.Sublist R := ⟨zip_sub R (diffD a b) fun p => decide (0 < p.2), zip_sub R (diffD a b) fun p => decide (p.2 < 0)⟩
theorem row_in (R : List Str) (a b : List Int) : In1 R (sheetRow R a b) := ⟨fun x hx => (row_sub R a b).1.subset hx, fun x hx => (row_sub R a b).2.subset hx⟩
abbrev readI (R p : List Str) (a : List Int) : List Int := p.map fun x => a.getD (R.idxOf x) 0
/-- an order bears the row of two offers exactly if, read by it, the other is not below -/
theorem bears_row (nd : R.Nodup) (ha : a.length = R.length) (hb : b.length = R.length) : ∀ (p : List Str), (∀ x ∈ p, x ∈ R) → (bearsOf p (sheetRow R a b) = true ↔ ¬ readI R p b < readI R p a)
  | [], _ => ⟨fun _ => List.not_lt_nil _, fun _ => rfl⟩
  | x :: p, h => by
    have hx := h x (.head _)
    have h1 := mem_pro nd ha hb hx
    have h2 := mem_con nd ha hb hx
    have ih := bears_row nd ha hb p fun y hy => h y (.tail _ hy)
    show (if x ∈ (sheetRow R a b).1 ∨ x ∈ (sheetRow R a b).2 then decide (x ∈ (sheetRow R a b).1) else bearsOf p (sheetRow R a b)) = true ↔ ¬ (b.getD (R.idxOf x) 0 :: readI R p b < a.getD (R.idxOf x) 0 :: readI R p a)
    rw [List.cons_lt_cons_iff]
    rcases Int.lt_trichotomy (a.getD (R.idxOf x) 0) (b.getD (R.idxOf x) 0) with q | q | q
    · rw [if_pos (.inl (h1.mpr q)), decide_eq_true (h1.mpr q)]
      refine ⟨fun _ z => ?_, fun _ => rfl⟩
      rcases z with z | z
      · omega
      · omega
    · rw [if_neg (by rw [h1, h2]; omega), ih]
      constructor
      · intro z w
        rcases w with w | w
        · omega
        · exact z w.2
      · exact fun z w => z (.inr ⟨q.symm, w⟩)
    · rw [if_pos (.inr (h2.mpr q)), decide_eq_false (fun z => by have := h1.mp z; omega)]
      exact ⟨fun z => (nomatch z), fun z => absurd (.inl q) z⟩
theorem read_inj (ha : a.length = R.length) (hb : b.length = R.length) (nd : R.Nodup) {p : List Str} (hp : ∀ x ∈ R, x ∈ p) (e : readI R p a = readI R p b) : a = b := by
  apply List.ext_getElem?
  intro i
  by_cases hi : i < R.length
  · have h1 := hp R[i] (List.getElem_mem hi)
    have h2 := List.map_inj_left.mp e _ h1
    rw [List.Nodup.idxOf_getElem nd i hi] at h2
    have ga : a[i]? = some (a.getD i 0) := by rw [List.getD_eq_getElem?_getD, List.getElem?_eq_getElem (by omega)]; rfl
    have gb : b[i]? = some (b.getD i 0) := by rw [List.getD_eq_getElem?_getD, List.getElem?_eq_getElem (by omega)]; rfl
    rw [ga, gb, h2]
  · rw [List.getElem?_eq_none (by omega), List.getElem?_eq_none (by omega)]
end
/-! ### the winner -/
section
variable {R : List Str} {ls : List LineT}
theorem fst_inj (nd : (ls.map (·.1)).Nodup) {l m : LineT} (hl : l ∈ ls) (hm : m ∈ ls) (e : l.1 = m.1) : l = m := by
  have h := only_one nd hl
  have : m ∈ ls.filter fun x => decide (x.1 = l.1) := List.mem_filter.mpr ⟨hm, decide_eq_true e.symm⟩
  rw [h] at this
  exact (List.mem_singleton.mp this).symm
theorem win_alike (hok : LinesOk ls R.length) (nd : R.Nodup) {p : List Str} (hp : ∀ x ∈ R, x ∈ p) {l : LineT} (hl : l ∈ ls) : winOf R ls p = alikeOf ls l ↔ readOf R p l = minI (ls.map (readOf R p)) := by
  constructor
  · intro e
    have h1 : l.1 ∈ alikeOf ls l := List.mem_map.mpr ⟨l, List.mem_filter.mpr ⟨hl, decide_eq_true rfl⟩, rfl⟩
    rw [← e] at h1
    obtain ⟨m, hm, em⟩ := List.mem_map.mp h1
    obtain ⟨hm1, hm2⟩ := List.mem_filter.mp hm
    have := fst_inj hok.1.2.1 hm1 hl em
    subst this
    exact of_decide_eq_true hm2
  · intro e
    unfold winOf alikeOf
    congr 1
    refine List.filter_congr fun m hm => ?_
    rw [← e]
    refine decide_eq_decide.mpr ⟨fun h => ?_, fun h => by unfold readOf; rw [h]⟩
    exact read_inj (hok.2.1 m hm) (hok.2.1 l hl) nd hp h
theorem win_rows (hok : LinesOk ls R.length) (nd : R.Nodup) {p : List Str} (hpR : ∀ x ∈ p, x ∈ R) (hp : ∀ x ∈ R, x ∈ p) {l : LineT} (hl : l ∈ ls) :
    winOf R ls p = alikeOf ls l ↔ ((rivalsOf ls l).map fun m => sheetRow R l.2 m.2).all (fun r => bearsOf p r) = true := by
  rw [win_alike hok nd hp hl, minI_iff (List.mem_map.mpr ⟨l, hl, rfl⟩), List.all_eq_true]
  constructor
  · intro h r hr
    obtain ⟨m, hm, rfl⟩ := List.mem_map.mp hr
    have hml := (List.mem_filter.mp hm).1
    exact (bears_row nd (hok.2.1 l hl) (hok.2.1 m hml) p hpR).mpr (h _ (List.mem_map.mpr ⟨m, hml, rfl⟩))
  · intro h y hy
    obtain ⟨m, hm, rfl⟩ := List.mem_map.mp hy
    by_cases e : m.2 = l.2
    · have : readOf R p m = readOf R p l := by unfold readOf; rw [e]
      rw [this]
      exact List.lt_irrefl _
    · exact (bears_row nd (hok.2.1 l hl) (hok.2.1 m hm) p hpR).mp (h _ (List.mem_map.mpr ⟨m, List.mem_filter.mpr ⟨hm, by rw [decide_eq_false e]; rfl⟩, rfl⟩))
/-- some offer wins -/
theorem win_some (hok : LinesOk ls R.length) (nd : R.Nodup) {p : List Str} (hp : ∀ x ∈ R, x ∈ p) : ∃ l ∈ ls, winOf R ls p = alikeOf ls l := by
  have h0 : ls.map (readOf R p) ≠ [] := fun z => by
    have := hok.2.2.1
    rw [List.map_eq_nil_iff.mp z] at this
    exact absurd this (by decide)
  obtain ⟨l, hl, e⟩ := List.mem_map.mp (minI_mem h0)
  exact ⟨l, hl, (win_alike hok nd hp hl).mpr e⟩
/-! ### the answers -/
theorem ans_fold (ls : List LineT) : ∀ (l : List LineT) (acc : List (List Str)), (∀ t ∈ acc, t ∈ l.foldl (ansStep ls) acc) ∧ ∀ x ∈ l, alikeOf ls x ∈ l.foldl (ansStep ls) acc
  | [], acc => ⟨fun _ h => h, fun _ h => nomatch h⟩
  | x :: l, acc => by
    obtain ⟨h1, h2⟩ := ans_fold ls l (ansStep ls acc x)
    have h3 : (∀ t ∈ acc, t ∈ ansStep ls acc x) ∧ alikeOf ls x ∈ ansStep ls acc x := by
      unfold ansStep
      split
      · rename_i q
        exact ⟨fun _ h => h, q⟩
      · exact ⟨fun _ h => List.mem_append_left _ h, List.mem_append_right _ (.head _)⟩
    refine ⟨fun t ht => h1 t (h3.1 t ht), fun y hy => ?_⟩
    rcases List.mem_cons.mp hy with z | z
    · rw [z]; exact h1 _ h3.2
    · exact h2 y z
theorem ans_in {l : LineT} (hl : l ∈ ls) : alikeOf ls l ∈ ansOf ls := (ans_fold ls ls []).2 l hl
theorem win_in (hok : LinesOk ls R.length) (nd : R.Nodup) {p : List Str} (hp : ∀ x ∈ R, x ∈ p) : winOf R ls p ∈ ansOf ls := by
  obtain ⟨l, hl, e⟩ := win_some hok nd hp
  rw [e]
  exact ans_in hl
theorem alike_head {l : LineT} (hl : l ∈ ls) : ∃ pre h post, ls = pre ++ h :: post ∧ h.2 = l.2 ∧ (∀ x ∈ pre, x.2 ≠ l.2) ∧ (alikeOf ls l).head? = some h.1 ∧ alikeOf ls h = alikeOf ls l := by
  obtain ⟨pre, h, post, e, h1, h2⟩ := first_at ls l hl
  refine ⟨pre, h, post, e, h1, h2, ?_, by unfold alikeOf; rw [h1]⟩
  unfold alikeOf
  rw [e, List.filter_append, List.filter_eq_nil_iff.mpr fun x hx z => h2 x hx (of_decide_eq_true z), List.nil_append, List.filter_cons, if_pos (decide_eq_true h1)]
  rfl
where first_at : ∀ (ls : List LineT) (l : LineT), l ∈ ls → ∃ pre h post, ls = pre ++ h :: post ∧ h.2 = l.2 ∧ ∀ x ∈ pre, x.2 ≠ l.2
  | x :: ls, l, hl => by
    by_cases q : x.2 = l.2
    · exact ⟨[], x, ls, rfl, q, fun _ h => nomatch h⟩
    · rcases List.mem_cons.mp hl with z | z
      · exact absurd (by rw [z]) q
      · obtain ⟨pre, h, post, e, h1, h2⟩ := first_at ls l z
        exact ⟨x :: pre, h, post, by rw [e]; rfl, h1, fun y hy => by
          rcases List.mem_cons.mp hy with w | w
          · rw [w]; exact q
          · exact h2 y w⟩
theorem answers_eq (nd : (ls.map (·.1)).Nodup) : answersOf ls = ansOf ls := by
  have key : ∀ i, i ≤ ls.length → (ls.take i).foldl (ansStep ls) [] = ((ls.take i).filter fun l => decide ((alikeOf ls l).head? = some l.1)).map (alikeOf ls) := by
    intro i
    induction i with
    | zero => exact fun _ => rfl
    | succ i ih =>
      intro hi
      have ih := ih (by omega)
      have hg : ls[i]? = some ls[i] := List.getElem?_eq_getElem (by omega)
      rw [fold_snoc hg, ih, take_flt _ _ hg]
      generalize hli : ls[i] = l at hg
      have hl : l ∈ ls := List.mem_of_getElem? hg
      obtain ⟨pre, h, post, e, h1, h2, h3, h4⟩ := alike_head hl
      unfold ansStep
      have hpost : l ∈ ls.take i ∨ l ∉ ls.take i := Classical.em _
      have hnot : l ∉ ls.take i := take_not (List.Pairwise.of_map (·.1) (fun a b n e => n (by rw [e])) nd) hg
      by_cases q : (alikeOf ls l).head? = some l.1
      · rw [if_pos (decide_eq_true q), if_neg]
        intro hm
        obtain ⟨m, hm1, hm2⟩ := List.mem_map.mp hm
        obtain ⟨hm3, hm4⟩ := List.mem_filter.mp hm1
        have hm5 := of_decide_eq_true hm4
        rw [hm2, q] at hm5
        have := fst_inj nd (List.mem_of_mem_take hm3) hl (Option.some.inj hm5).symm
        exact hnot (this ▸ hm3)
      · rw [if_neg (fun z => q (of_decide_eq_true z)), List.append_nil, if_pos]
        rw [h3] at q
        have hne : h.1 ≠ l.1 := fun z => q (by rw [z])
        have hh : h ∈ ls.take i := by
          have hlen : pre.length < i := by
            refine Classical.byContradiction fun hn => ?_
            by_cases hi2 : i = pre.length
            · rw [e, hi2, List.getElem?_append_right (Nat.le_refl _), Nat.sub_self] at hg
              exact hne (by rw [Option.some.inj hg])
            · rw [e, List.getElem?_append_left (by omega)] at hg
              exact h2 l (List.mem_of_getElem? hg) rfl
          rw [e, List.take_append]
          refine List.mem_append_right _ ?_
          obtain ⟨d, hd⟩ : ∃ d, i - pre.length = d + 1 := ⟨i - pre.length - 1, by omega⟩
          rw [hd]
          exact .head _
        rw [← h4]
        exact List.mem_map.mpr ⟨h, List.mem_filter.mpr ⟨hh, decide_eq_true (by rw [h4]; exact h3)⟩, rfl⟩
  have h := key ls.length (Nat.le_refl _)
  rw [List.take_length] at h
  exact h.symm
/-- an answer's own offer -/
theorem answer_line (nd : (ls.map (·.1)).Nodup) {t : List Str} (h : t ∈ answersOf ls) : ∃ l ∈ ls, t = alikeOf ls l ∧ t.head? = some l.1 := by
  obtain ⟨l, hl, rfl⟩ := List.mem_map.mp h
  obtain ⟨h1, h2⟩ := List.mem_filter.mp hl
  exact ⟨l, h1, rfl, of_decide_eq_true h2⟩
end
/-- the share of an answer, as the program counts it -/
theorem share_eq {R : List Str} {ls : List LineT} {recs : List RecD} (nd : R.Nodup) (hin : RowsIn R (recs.map (·.2))) (hd : RowsDis (recs.map (·.2))) (hok : LinesOk ls R.length) {l : LineT} (hl : l ∈ ls) :
    ((countOf R (recs.map (·.2) ++ (rivalsOf ls l).map fun m => sheetRow R l.2 m.2) : Nat) : Int) = winsOf R ls (fitOf R recs) (alikeOf ls l) := by
  have hin2 : RowsIn R (recs.map (·.2) ++ (rivalsOf ls l).map fun m => sheetRow R l.2 m.2) := fun r hr => by
    rcases List.mem_append.mp hr with z | z
    · exact hin r z
    · obtain ⟨m, _, rfl⟩ := List.mem_map.mp z
      exact row_in R _ _
  have hd2 : RowsDis (recs.map (·.2) ++ (rivalsOf ls l).map fun m => sheetRow R l.2 m.2) := fun r hr => by
    rcases List.mem_append.mp hr with z | z
    · exact hd r z
    · obtain ⟨m, _, rfl⟩ := List.mem_map.mp z
      exact pro_con nd
  rw [countOf_eq nd hin2 hd2]
  unfold winsOf
  rw [fitOf_eq, List.filter_filter]
  congr 2
  refine List.filter_congr fun p hp => ?_
  have hpR := (permsOf_mem.mp hp).2.1
  rw [List.all_append, Bool.and_comm, Bool.eq_iff_iff, Bool.and_eq_true, Bool.and_eq_true, decide_eq_true_eq, win_rows hok nd hpR (permsOf_all hp) hl]
  have e : ((recs.map (·.2)).all fun r => bearsOf p r) = recs.all fun x => bearsOf p x.2 := by rw [List.all_map]; rfl
  rw [e]
/-- the shares sum to the number of the orders -/
theorem wins_sum {R : List Str} {ls : List LineT} {ps : List (List Str)} : ∀ (ts : List (List Str)), ts.Nodup → (∀ p ∈ ps, winOf R ls p ∈ ts) → (ts.map (winsOf R ls ps)).sum = (ps.length : Int) := by
  intro ts nd
  induction ps with
  | nil =>
    intro _
    have : ts.map (winsOf R ls []) = ts.map fun _ => (0 : Int) := List.map_congr_left fun _ _ => rfl
    rw [this]
    have h0 : ∀ l : List (List Str), (l.map fun _ => (0 : Int)).sum = 0 := fun l => by
      induction l with
      | nil => rfl
      | cons t l ih => rw [List.map_cons, List.sum_cons, ih]; rfl
    exact h0 ts
  | cons p ps ih =>
    intro h
    have ih := ih fun q hq => h q (.tail _ hq)
    have hp := h p (.head _)
    have e : ∀ t, winsOf R ls (p :: ps) t = winsOf R ls ps t + if winOf R ls p = t then 1 else 0 := fun t => by
      unfold winsOf
      rw [List.filter_cons]
      by_cases q : winOf R ls p = t
      · rw [if_pos (decide_eq_true q), if_pos q, List.length_cons]
        omega
      · rw [if_neg (fun z => q (of_decide_eq_true z)), if_neg q]
        omega
    have h1 : ∀ (l : List (List Str)), (l.map (winsOf R ls (p :: ps))).sum = (l.map (winsOf R ls ps)).sum + (l.map fun t => if winOf R ls p = t then (1 : Int) else 0).sum := fun l => by
      induction l with
      | nil => rfl
      | cons t l ih => rw [List.map_cons, List.sum_cons, ih, e, List.map_cons, List.sum_cons, List.map_cons, List.sum_cons]; omega
    have h2 : ∀ (l : List (List Str)), l.Nodup → (l.map fun t => if winOf R ls p = t then (1 : Int) else 0).sum = if winOf R ls p ∈ l then 1 else 0 := fun l => by
      induction l with
      | nil => exact fun _ => rfl
      | cons t l ih =>
        intro hn
        obtain ⟨hn1, hn2⟩ := List.nodup_cons.mp hn
        rw [List.map_cons, List.sum_cons, ih hn2]
        by_cases q : winOf R ls p = t
        · rw [if_pos q, if_neg (by rw [q]; exact hn1), if_pos (by rw [q]; exact .head _)]
          rfl
        · rw [if_neg q, Int.zero_add]
          by_cases q2 : winOf R ls p ∈ l
          · rw [if_pos q2, if_pos (.tail _ q2)]
          · rw [if_neg q2, if_neg (fun z => (List.mem_cons.mp z).elim q q2)]
    rw [h1, ih, h2 ts nd, if_pos hp, List.length_cons]
    omega
end FD
namespace FD
open PySem PySem.Spec PyProof.Rows L2
/-! ### a dict comprehension whose keys are tuples: the rule -/
section
variable {X : Cx} {pins : List (Addr × Obj)} {σ : L2.St} {H : Hp}
/-- the key lies as a tuple at b -/
theorem dset_tup {s : Shared} {E : Value → Shared → Prop} {dl b : Addr} {kvs : List (List Key × V)} {k : List Key} {v : V} {r : Value} {Q : Unit → Shared → Prop} (room : X.A.units < cLine) (I : Inv X pins σ H s)
    (at_ : H dl = some (.dT kvs)) (few : kvs.length < sizeLine) (kt : H b = some (.tup (k.map kV))) (rv : RelV v r) (after : ∀ t, Inv X pins σ (upd H dl (.dT (putK kvs k v))) t → Q () t) : wpAny (model X.prog X.w) X.A (dictSet dl (.ref b) r) Q E s := by
  obtain ⟨le, ns, xs, rel, lies⟩ := dt_of I.hok at_
  have le' : xs.length ≤ sizeLine := by
    have e := Paired.length rel
    omega
  have grow := length_putK kvs k v
  refine wpAny_dictSet_heap (knd := tupleKind (mixKind X.prog X.w)) (hsz := le') room (key_of I.hok kt) lies fun hp lies' but => after _ ?_
  obtain ⟨ob, es, ep, there, c2, c3, c4, _, c5⟩ := lies'
  refine d_write I (by rw [at_]; trivial) but ⟨ob, there⟩ ⟨by omega, ns, _, (rel.put k kt rv).keeps fun c ys ec => ?_, ob, es, ep, there, c2, c3, c4, c5⟩
  rw [upd_ne (ne_of ec at_ fun z => nomatch z)]
  exact ec
/-- {k: v for target in iter}: the new dict at dl, its keys tuples -/
def tDcT (wi : TI) (g : TG) (tt : TT) (tk tv : TE) (vs : List Nat) : TE := fun σ H Q => wi σ H fun J Ha => ∀ dl, Ha dl = none → ∃ St : Nat → Nat → Hp → Prop, (∃ m, St 0 m (upd Ha dl (.dT []))) ∧ ∀ i m H, St i m H →
  (J.stop i H ∧ Q (.ref dl) H) ∨ (J.go i H ∧ ∃ Nx : Hp → Prop, (∀ Hn, Nx Hn → ∃ m', m' < m ∧ St (i + 1) m' Hn) ∧ ∀ x Hx, J.yld i H x Hx → g x (wipe σ vs) Hx fun σb Hb => wipe σb vs = wipe σ vs ∧ tt σb Hb fun c Hc =>
    if c = true then tk σb Hc fun y Hy => tv σb Hy fun z Hz => ∃ kvs k b, y = .ref b ∧ Hz b = some (.tup (k.map kV)) ∧ Hz dl = some (.dT kvs) ∧ kvs.length < sizeLine ∧ Nx (upd Hz dl (.dT (putK kvs k z))) else Nx Hc)
abbrev blkE (X : Cx) (scope : Scope) (s : Shared) (H : Hp) (C : Addr) (cl : List (Str × Addr)) (fp : List Addr) : Cx := X.blk s H scope (compEnvC scope cl C X.env) fp
theorem dct_core {s : Shared} {Q : VK} {kx vx tg iter : Expr} {ifs : List Expr} {scope : Scope} {own : List (Str × Nat)} {pos posI : Pos} {wi : TI} {g : TG} {tt : TT} {tk tv : TE} {use : Option (Value → Sem Unit)} {Qf : Value → Shared → Prop}
    (calm : X.calm = true) (room : X.A.units < cLine) (nd : X.N.Nodup) (I : Inv X pins σ H s) (pi : PI X tg iter wi) (bo : BlkOk X.N X.env.scope scope own)
    (pg : ∀ s H C cl fp, PG (blkE X scope s H C cl fp) tg g) (pt : ∀ s H C cl fp, PTs (blkE X scope s H C cl fp) ifs tt) (pk : ∀ s H C cl fp, PE (blkE X scope s H C cl fp) kx tk) (pv : ∀ s H C cl fp, PE (blkE X scope s H C cl fp) vx tv)
    (nofold : ∀ x, foldedSetIterable iter X.env x = pure x) (h : tDcT wi g tt tk tv (own.map (·.2)) σ H Q)
    (last : ∀ dl C t m Ht, Inv X pins σ Ht t → Q (.ref dl) Ht → t.heap.Ns C m → FpOk X pins Ht C → compPost (model X.prog X.w) X.A X.xe use Qf (.ref dl) C (.ok .next) t) :
    wpAny (model X.prog X.w) X.A (comprehension (.DictComp kx vx [⟨tg, iter, ifs, 0⟩] scope pos) scope X.env posI newDict false (eval iter X.env) use) Qf X.xe s := by
  have caps : ∀ y ∈ scope.names, y.2 = .free → ∃ c, X.env.cells.lookup y.1 = some c := fun y hy e => I.ok.has _ (bo.free y hy e)
  refine wpAny_comprehension_free (use := use) rfl nofold (closure_ok caps) bo.kind (fun y hy e => by rw [bo.uniq y hy, e]) (thn (pi.run pins s σ H _ I h) fun _ sa ha => thn ha fun itv sb hb => ?_)
  obtain ⟨it, fp, tn, J, Hb, rfl, Ib, T, goes, own_, q⟩ := hb
  refine wpAny_newObj_type (newEnv_comp ?_)
  obtain ⟨dl, edl⟩ : ∃ dl, dl = sb.heap.objs.size := ⟨_, rfl⟩
  have fresh : Hb dl = none := Ib.hok.fresh (Nat.le_of_eq edl.symm)
  obtain ⟨St, ⟨m0, st0⟩, turn⟩ := q dl fresh
  obtain ⟨sc, esc⟩ : ∃ sc : Shared, sc = { sb with heap := sb.heap.push { cls := .type "dict", data := .dict #[] } } := ⟨_, rfl⟩
  have hsc : sc.heap = sb.heap.push { cls := .type "dict", data := .dict #[] } := by rw [esc]
  have Ic : Inv X pins σ (upd Hb dl (.dT [])) sc := by
    rw [esc]
    refine Ib.laid (t' := sb.toks) (fun _ _ e => Heap.get?_push_of_some _ e) (Nat.le_of_eq edl.symm) ?_
    rw [edl]
    exact dt_empty sb.heap Ib.big
  have below : ∀ b ∈ fp, b < sb.heap.objs.size := fun b hb => let ⟨_, e, _⟩ := T.obj _ _ goes b hb; Heap.lt_size e
  have own3 : ∀ b ∈ fp, FpOk X pins (upd Hb dl (.dT [])) b ∧ b < sc.heap.objs.size := fun b hb => by
    have lt := below b hb
    exact ⟨⟨by rw [upd_ne (by rw [edl]; exact Nat.ne_of_lt lt)]; exact (own_ b hb).1, (own_ b hb).2⟩, by rw [hsc, Heap.size_push]; exact Nat.lt_succ_of_lt lt⟩
  have goes3 : tn 0 sc.heap := T.keep _ _ _ goes fun b _ o e => by rw [hsc]; exact Heap.get?_push_of_some _ e
  have Id := block_start Ic bo nd own3
  obtain ⟨C, eC⟩ : ∃ C, C = sc.heap.objs.size := ⟨_, rfl⟩
  obtain ⟨cl, ecl⟩ : ∃ cl, cl = cellsFrom (C + 1) scope.names (cloFrom X.env.cells scope.names []) := ⟨_, rfl⟩
  have ig : PG (X.blk sc (upd Hb dl (.dT [])) scope (compEnvC scope cl C X.env) fp) tg g := pg sc (upd Hb dl (.dT [])) C cl fp
  have itt : PTs (X.blk sc (upd Hb dl (.dT [])) scope (compEnvC scope cl C X.env) fp) ifs tt := pt sc (upd Hb dl (.dT [])) C cl fp
  have ik : PE (X.blk sc (upd Hb dl (.dT [])) scope (compEnvC scope cl C X.env) fp) kx tk := pk sc (upd Hb dl (.dT [])) C cl fp
  have iv : PE (X.blk sc (upd Hb dl (.dT [])) scope (compEnvC scope cl C X.env) fp) vx tv := pv sc (upd Hb dl (.dT [])) C cl fp
  rw [← eC, ← ecl] at Id
  have none3 : ∀ b ∈ fp, upd Hb dl (.dT []) b = none := fun b hb => (own3 b hb).1.1
  suffices main : codeAny (model X.prog X.w) X.A (.compStart (.DictComp kx vx [⟨tg, iter, ifs, 0⟩] scope pos) 0 (.ref it) (.ref dl) (compEnvC scope cl C X.env)) (compPost (model X.prog X.w) X.A X.xe use Qf (.ref dl) C) { sc with heap := pushCells (sc.heap.push { cls := .type "dict", data := .dict #[] }) scope.names } by
    subst ecl eC edl esc
    exact main
  generalize ece : compEnvC scope cl C X.env = ce at Id ig itt ik iv ⊢
  have cloc : ce.locals = C := by subst ece; rfl
  generalize eH3 : upd Hb dl (.dT []) = H3 at Ic Id ig itt ik iv st0 none3 own3
  generalize es4 : ({ sc with heap := pushCells (sc.heap.push { cls := .type "dict", data := .dict #[] }) scope.names } : Shared) = sd at Id ⊢
  have goes4 : tn 0 sd.heap := T.keep _ _ _ goes3 fun b _ o e => by rw [← es4]; exact pushCells_keeps _ _ _ _ (Heap.get?_push_of_some _ e)
  have fpok : ∀ {σ' : L2.St} {H' : Hp} {s' : Shared}, Inv (X.blk sc H3 scope ce fp) [] σ' H' s' → (∀ b ∈ fp, H' b = none) → ∀ b ∈ fp, FpOk (X.blk sc H3 scope ce fp) [] H' b := fun I' hn b hb =>
    ⟨hn b hb, (I'.ok.exf b hb).1, I'.ok.exfs b hb, .inl hb, fun x c e => (I'.ok.exf b hb).2 x c e, fun p hp => nomatch (show p ∈ ([] : List (Addr × Obj)) from hp)⟩
  have loop : codeAny (model X.prog X.w) X.A (.compLoop (.DictComp kx vx [⟨tg, iter, ifs, 0⟩] scope pos) 0 (.ref it) (.ref dl) ce) (compPost (model X.prog X.w) X.A X.xe use Qf (.ref dl) C) sd := by
    refine compLoop_anyD (fun n t => ∃ i Ht, Inv (X.blk sc H3 scope ce fp) [] (wipe σ (own.map (·.2))) Ht t ∧ tn i t.heap ∧ (∀ b ∈ fp, Ht b = none) ∧ St i n Ht) ?_ m0 ⟨0, H3, Id, goes4, none3, st0⟩
    rintro n t5 ⟨i, H5, I5, g5, n5, w5⟩
    rcases turn i n H5 w5 with ⟨stop, fin⟩ | ⟨go, Nx, nxt, step⟩
    · refine thnF (T.done (X.blk sc H3 scope ce fp) rfl rfl rfl calm i [] t5 _ H5 (fun _ _ => False) I5 (fpok I5 n5) g5 stop) fun r t6 ⟨er, I6⟩ => ?_
      subst er
      have back : Inv X pins σ H5 t6 := Ic.call' (ch := fp) I6.os I6.base I6.hok I6.bare fun b hb => let ⟨f1, f2, f3, f4, f5, f6⟩ := (own3 b hb).1; ⟨f4, f2, f5, f6⟩
      have noC : H5 C = none := by
        have z : H5 ce.locals = none := I6.free
        rw [cloc] at z
        exact z
      obtain ⟨m, hn, _⟩ := I6.loc
      have hn : t6.heap.Ns ce.locals m := hn
      rw [cloc] at hn
      exact last dl C t6 m H5 back fin hn (Ic.fpOk (Nat.le_of_eq eC.symm) noC)
    · refine thnF (T.item (X.blk sc H3 scope ce fp) rfl rfl rfl calm i [] t5 _ H5 (fun _ _ => False) I5 (fpok I5 n5) g5 go) fun r t6 ⟨u, er, h6⟩ => ?_
      subst er
      refine thnF h6 fun _ t7 ⟨x, H7, I7, r7, y7, g7, n7⟩ => ?_
      refine thnF (ig.run _ t7 _ H7 x u _ (I7.pinned (fpok I7 n7) (T.obj _ _ g7)) r7 (step x H7 y7)) fun _ t8 ⟨σ8, H8, I8, hw8, q8⟩ => ?_
      refine thnF (itt.run _ t8 σ8 H8 _ I8 q8) fun c t9 ⟨H9, I9, q9⟩ => ?_
      have close : ∀ {t : Shared} {Ht : Hp}, Inv (X.blk sc H3 scope ce fp) ([] ++ pinsAt fp t7.heap) σ8 Ht t → Nx Ht → ∃ m, m < n ∧ ∃ i Ht, Inv (X.blk sc H3 scope ce fp) [] (wipe σ (own.map (·.2))) Ht t ∧ tn i t.heap ∧ (∀ b ∈ fp, Ht b = none) ∧ St i m Ht := fun {t Ht} It nx => by
        obtain ⟨m', lt, w'⟩ := nxt Ht nx
        have kept : ∀ b ∈ fp, ∀ o, t7.heap.get? b = some o → t.heap.get? b = some o ∧ Ht b = none := fun b hb o e => let z := It.pin (b, o) (List.mem_append_right _ (List.mem_append_right _ (mem_pinsAt hb e))); ⟨z.1, z.2.1⟩
        have len : (wipe σ (own.map (·.2))).length = σ8.length := by rw [← hw8, wipe_length]
        refine ⟨m', lt, i + 1, Ht, (It.unpinned (pins := [])).weak len (fun j v e => ?_), T.keep _ _ _ g7 fun b hb o e => (kept b hb o e).1, fun b hb => ?_, w'⟩
        · rw [← hw8] at e
          exact (wipe_some e).1
        · obtain ⟨o, e, _⟩ := T.obj _ _ g7 b hb
          exact (kept b hb o e).2
      cases c with
      | false =>
        simp only [Bool.false_eq_true, if_false] at q9 ⊢
        exact close I9 q9
      | true =>
        simp only [if_true] at q9 ⊢
        refine thnF (ik.run _ t9 σ8 H9 _ I9 q9) fun z ta ⟨yk, Ha, Ia, ra, qa⟩ => thnF (iv.run _ ta σ8 Ha _ Ia qa) fun z2 tb ⟨yv, Hb, Ib, rb, kvs, k, kb, ek, hkb, hdl, few, nx⟩ => ?_
        subst ek
        obtain rfl : z = Value.ref kb := ra
        exact dset_tup (X := X.blk sc H3 scope ce fp) room Ib hdl few hkb rb fun t Ic => close Ic nx
  have run := codeAny_compStart_dict loop (T.self X.A 0 _ _ _ goes4 loop)
  exact run
/-- as a value -/
theorem pe_dcT {kx vx tg iter : Expr} {ifs : List Expr} {scope : Scope} {own : List (Str × Nat)} {pos : Pos} {wi : TI} {g : TG} {tt : TT} {tk tv : TE} (room : X.A.units < cLine) (calm : X.calm = true) (nd : X.N.Nodup) (pi : PI X tg iter wi) (bo : BlkOk X.N X.env.scope scope own)
    (pg : ∀ s H C cl fp, PG (blkE X scope s H C cl fp) tg g) (pt : ∀ s H C cl fp, PTs (blkE X scope s H C cl fp) ifs tt) (pk : ∀ s H C cl fp, PE (blkE X scope s H C cl fp) kx tk) (pv : ∀ s H C cl fp, PE (blkE X scope s H C cl fp) vx tv)
    (nofold : ∀ x, foldedSetIterable iter X.env x = pure x := by intro _; rfl) : PE X (.DictComp kx vx [⟨tg, iter, ifs, 0⟩] scope pos) (tDcT wi g tt tk tv (own.map (·.2))) := by
  refine ⟨fun pins s σ H Q I h => ?_⟩
  rw [arm_eval_DictComp]
  refine dct_core calm room nd I pi bo pg pt pk pv nofold h fun dl C t m Ht It q hn ⟨f0, f1, f2, f3, f4, f5⟩ => ⟨m, hn, fun h2 sb => ⟨.ref dl, Ht, ?_, rfl, q⟩⟩
  exact It.turned (t' := t.toks) (fun b o hb e => (sb.2 b hb).trans e) f0 f1 f3 f4 f5
end
end FD
namespace FD
open PySem PySem.Spec PyProof.Rows L2
/-! ### try: body / except A as n: .. / except (B, C) as n: .. -/
section
variable {B hp hq : Heap} {l : List Env} {e : Addr} {Z : Obj → Prop}
theorem flying_kept (fl : HandSPX.FlyingZ B l e Z hp) (k : ∀ b o, hp.get? b = some o → hq.get? b = some o) : HandSPX.FlyingZ B l e Z hq := by
  obtain ⟨st, no, ff, oe, vs, T, oT, ts, t1, t2, t3, t4, t5, t6, t7, t8⟩ := fl
  exact ⟨fun b o h => k b o (st b o h), no, ff.of_keeps fun b o h _ => ⟨o, k b o h, rfl⟩, oe, vs, T, oT, ts, k _ _ t1, t2, t3, t4, t5, t6, k _ _ t7, t8⟩
end
/-- the ends of a suite whose name (slot i) goes -/
def unb (i : Nat) (D : Ends) : Ends := { nx := fun σ H => D.nx (σ.set i none) H, rt := D.rt, bk := fun σ H => D.bk (σ.set i none) H, ct := fun σ H => D.ct (σ.set i none) H }
/-- what the two clauses wish of an exception of the body -/
def wTwo (K : PySem.W.Frag) (c1 c2 c3 : Value) (i : Nat) (ta tb : Addr → Value → Option Addr → TS) (D : Ends) : WX := fun cls d σ H =>
  (PySem.W.exmOne K cls c1 = some true ∧ ∀ a, H a = none → ta a cls d (unb i D) (σ.set i (some (.ref a))) H) ∨
  (PySem.W.exmOne K cls c1 = some false ∧ PySem.W.exmAny K cls [c2, c3] = some true ∧ ∀ a, H a = none → tb a cls d (unb i D) (σ.set i (some (.ref a))) H)
section
variable {X : Cx} {x1 x2 x3 n : Str} {c1 c2 c3 : Value} {i kk : Nat} {body sa sb : List Stmt} {a0 b0 : Stmt} {p1 p2 p3 tp q1 q2 pos : Pos} {tt : WX → TS} {ta tb : Addr → Value → Option Addr → TS}
theorem ps_try_two (hs : X.stack = X.env :: X.outer) (hf : X.env.frame = some X.env.locals) (nd : X.N.Nodup) (hi : X.N[i]? = some n) (loc : X.env.kindOf n = some .local) (n1 : Names X x1 c1) (n2 : Names X x2 c2) (n3 : Names X x3 c3)
    (pb : ∀ (W : WX) (pn : List (Addr × Obj)) (xe : Value → Shared → Prop), Takes (X.tr pn xe) W → PassesOwn (model X.prog X.w) X.A X.env xe → PSs (X.tr pn xe) body (tt W))
    (pa : ∀ (a : Addr) (oe : Obj) (cls : Value) (d : Option Addr) (pn : List (Addr × Obj)), Zc cls d oe → (∃ vs, oe.data = .fields vs) → PSs (X.suite a ((a, oe) :: pn)) (a0 :: sa) (ta a cls d))
    (pc : ∀ (a : Addr) (oe : Obj) (cls : Value) (d : Option Addr) (pn : List (Addr × Obj)), Zc cls d oe → (∃ vs, oe.data = .fields vs) → PSs (X.suite a ((a, oe) :: pn)) (b0 :: sb) (tb a cls d)) :
    PS X (.Try body [.ExceptHandler (some (.Name x1 p1)) (some n) (a0 :: sa) q1, .ExceptHandler (some (.Tuple [.Name x2 p2, .Name x3 p3] kk tp)) (some n) (b0 :: sb) q2] [] [] pos) (fun D σ H => tt (wTwo X.K c1 c2 c3 i ta tb D) D σ H) := by
  refine ⟨fun pins s σ H D I h => ?_⟩
  have ok := I.ok
  have frames : X.A.frames = some (X.env :: X.outer) := by rw [ok.frames, hs]
  refine wpAny_Try_except (wpAny_mono ((pb (wTwo X.K c1 c2 c3 i ta tb D) (X.pn ++ pins) (fun e s₁ => wpAny (model X.prog X.w) X.A (noteFrame e X.env) (fun _ s₂ => wpAny (model X.prog X.w) X.A (setFlight e none) (fun _ s₃ =>
    wpAny (model X.prog X.w) X.A (handleBy e X.env [.ExceptHandler (some (.Name x1 p1)) (some n) (a0 :: sa) q1, .ExceptHandler (some (.Tuple [.Name x2 p2, .Name x3 p3] kk tp)) (some n) (b0 :: sb) q2]) (SP X pins D) X.xe s₃) X.xe s₂) X.xe s₁) (fun u t cought => ?_) PassesOwn.looking).run [] s σ H D (I.toTry _) h) (fun f t hsp => ?_) fun _ _ z => z)
  · obtain ⟨a, B, sI, pins', σt, Ht, cls, d, rfl, J', ground, up, sky, na, os, ag, w⟩ := cought
    have J : Inv X pins σt Ht sI := J'.ofTry ok
    rw [show (X.tr (X.pn ++ pins) _).stack = X.env :: X.outer from hs] at sky
    refine Sky.land Zc.steady frames hf sky fun ha fa upa => ?_
    -- one state of the hand: the exception flies, nothing is told of it but its class and dict
    have hand : ∀ {hp : Heap}, HandSPX.FlyingZ B (X.env :: X.outer) a (Zc cls d) hp → sI.heap.UpToSlots hp → ∃ (oe : Obj) (vs : Array Value), hp.get? a = some oe ∧ Zc cls d oe ∧ oe.data = .fields vs ∧ Inv (X.suite a ((a, oe) :: (X.pn ++ pins))) [] σt Ht { t with heap := hp } := fun {hp} fl u => by
      obtain ⟨oe, vs, e1, e2, e3⟩ := fl.there
      have out : a ∉ frs (X.env :: X.outer) := fun hm => by
        obtain ⟨_, o', e', hnf⟩ := fl.2.2.1.mem hm
        rw [e1] at e'
        cases e'
        exact hnf _ e3
      refine ⟨oe, vs, e1, e2, e3, (J.landed (s' := { t with heap := hp }) ground fl.1 u os ag).suite e1 e3 na (fun z => out (List.mem_filterMap.mpr ⟨X.env, List.mem_cons_self, by rw [hf, z]⟩)) fun hm => ?_⟩
      obtain ⟨ev, he, q⟩ := List.mem_filterMap.mp hm
      exact out (List.mem_filterMap.mpr ⟨ev, List.mem_cons_of_mem _ he, q⟩)
    have named : ∀ {x : Str} {c : Value} {p : Pos} {tq : Shared} {Q : Value → Shared → Prop} {E : Value → Shared → Prop} {oe : Obj}, Names X x c → Inv (X.suite a ((a, oe) :: (X.pn ++ pins))) [] σt Ht tq → Q c tq → wpAny (model X.prog X.w) (X.A.mark (some (.ref a))) (eval (.Name x p) X.env) Q E tq := fun {x c p tq Q E oe} nm S q => by
      obtain ⟨g1, g2, g3 | ⟨g3, g4, g5⟩⟩ := nm
      · exact ld_glob (X := X.suite a ((a, oe) :: (X.pn ++ pins))) S g1 g3 q g2
      · exact ld_blt (X := X.suite a ((a, oe) :: (X.pn ++ pins))) S g1 g3 g4 q g5 g2
    have looks : ∀ {hp : Heap} {oe : Obj}, hp.get? a = some oe → Zc cls d oe → PySem.W.Looks (model X.prog X.w) hp (typeOf (.ref a)) cls := fun e1 e2 A Q E s k q => wpAny_typeOf_ref (k _ _ e1) (by rw [e2.1]; exact q)
    -- a suite, its name bound and gone
    have suite : ∀ {hp : Heap} {st : Stmt} {ss : List Stmt} {q : Pos} {ts : Addr → Value → Option Addr → TS}, HandSPX.FlyingZ B (X.env :: X.outer) a (Zc cls d) hp → sI.heap.UpToSlots hp →
        (∀ (oe : Obj) (pn : List (Addr × Obj)), Zc cls d oe → (∃ vs, oe.data = .fields vs) → PSs (X.suite a ((a, oe) :: pn)) (st :: ss) (ts a cls d)) → ts a cls d (unb i D) (σt.set i (some (.ref a))) Ht →
        codeAny (model X.prog X.w) (X.A.mark (some (.ref a))) (.handlers (.ref a) [.ExceptHandler none (some n) (st :: ss) q] X.env) (fun r s₂ => match r with
          | .ok f => wpAny (model X.prog X.w) X.A (do bindName X.env n .none; unbindBehindTheSuite X.env n q) (fun _ s₃ => SP X pins D f s₃) X.xe s₂
          | .error x => cameBackBy (model X.prog X.w) X.A X.env X.xe x s₂) { t with heap := hp } := fun {hp st ss q ts} fl u ps hts => by
      refine codeAny_handlers_suite_as (HandSPX.lands_againZ fl fun hq fq upq => ?_)
      obtain ⟨oe, vs, e1, e2, e3, S⟩ := hand fq (u.trans upq)
      refine store_ok (X := X.suite a ((a, oe) :: (X.pn ++ pins))) (v := .ref a) S nd hi (.inl loc) rfl (fun s5 S5 => ?_) (.inr loc)
      refine wpAny_mono ((ps oe (X.pn ++ pins) e2 ⟨_, e3⟩).run [] s5 _ Ht _ S5 hts) (fun f s6 hsp => ?_) (fun _ _ z => False.elim z)
      have gone : ∀ {σ6 : L2.St} {H6 : Hp} {Q : Shared → Prop}, Inv (X.suite a ((a, oe) :: (X.pn ++ pins))) [] σ6 H6 s6 → (∀ s7, Inv X pins (σ6.set i none) H6 s7 → Q s7) → wpAny (model X.prog X.w) X.A (do bindName X.env n .none; unbindBehindTheSuite X.env n q) (fun _ s7 => Q s7) X.xe s6 := fun S6 hq => gone_ok (S6.unsuite ok) nd hi loc hq
      cases f with
      | next => obtain ⟨σ6, H6, S6, z⟩ := hsp; exact gone S6 fun s7 J7 => ⟨_, _, J7, z⟩
      | brk => obtain ⟨σ6, H6, S6, z⟩ := hsp; exact gone S6 fun s7 J7 => ⟨_, _, J7, z⟩
      | cont => obtain ⟨σ6, H6, S6, z⟩ := hsp; exact gone S6 fun s7 J7 => ⟨_, _, J7, z⟩
      | ret u6 => obtain ⟨v6, σ6, H6, S6, r6, z⟩ := hsp; exact gone S6 fun s7 J7 => ⟨_, _, _, J7, r6, z⟩
    obtain ⟨oe, vs, e1, e2, e3, S⟩ := hand fa (up.trans upa)
    refine wpAny_handleBy_cons (codeAny_handlers_test (named n1 S ?_)) (fun z => nomatch z)
    have kI : X.K.In ha := S.kIn
    rcases w with ⟨y1, w⟩ | ⟨y1, y2, w⟩
    · refine (PySem.W.exm_one (M := model X.prog X.w) kI (looks e1 e2) y1).here ?_
      exact suite fa (up.trans upa) (fun oe pn z1 z2 => pa a oe cls d pn z1 z2) (w a na)
    · refine (PySem.W.exm_one (M := model X.prog X.w) kI (looks e1 e2) y1).here ?_
      show wpAny _ X.A (handleBy (.ref a) X.env [.ExceptHandler (some (.Tuple [.Name x2 p2, .Name x3 p3] kk tp)) (some n) (b0 :: sb) q2]) _ _ _
      refine wpAny_handleBy_cons (codeAny_handlers_test (wpAny_Tuple (wpAny_items_cons (named n2 S (wpAny_items_cons (named n3 S (wpAny_items_nil ⟨by size_fits, ?_⟩))))))) (fun z => nomatch z)
      have kp : ∀ b o, ha.get? b = some o → (ha.push { cls := .type "tuple", data := .seq [c2, c3].toArray }).get? b = some o := fun _ _ z => Heap.get?_push_of_some _ z
      refine (PySem.W.exm_tup2 (M := model X.prog X.w) (tp := ha.objs.size) (kI.keeps kp) ((looks e1 e2).keeps kp) (Heap.get?_push_size ha rfl) y2).here ?_
      exact suite (flying_kept fa kp) ((up.trans upa).trans (Heap.UpToSlots.of_keeps kp)) (fun oe pn z1 z2 => pc a oe cls d pn z1 z2) (w a na)
  · cases f with
    | next =>
      obtain ⟨σ', H', J', q⟩ := hsp
      exact wpAny_execs_nil ⟨σ', H', J'.ofTry ok, q⟩
    | brk => obtain ⟨σ', H', J', q⟩ := hsp; exact ⟨σ', H', J'.ofTry ok, q⟩
    | cont => obtain ⟨σ', H', J', q⟩ := hsp; exact ⟨σ', H', J'.ofTry ok, q⟩
    | ret u => obtain ⟨v, σ', H', J', r, q⟩ := hsp; exact ⟨v, σ', H', J'.ofTry ok, r, q⟩
end
end FD
namespace FD
open PySem PySem.Spec PyProof.Rows L2
/-! ### an own exception made without arguments -/
section
variable {X : Cx} {pos p : Pos}
/-- C() with C's own __init__ keeping sp -/
theorem pmk_oex0 {CX : CXT} {x : Str} {C fI : Addr} {k : Nat} {fd : FuncData} {ps : List Str} {sp : Sp} (T : OexC X.K C) (ini : PySem.W.findIn X.K (.ref C) "__init__" = some (some (.ref fI))) (isF : PySem.W.typeIn X.K (.ref fI) = some (.type "function"))
    (F : FnOk X.prog X.w X.K X.mg X.base CX k fI fd ps sp) (room : Room (k + 1) X.A) (bi : L2.Binds X.K fd ps []) (px : Passes CX X (fun _ _ _ => False)) (gl : Gl X x) (gm : X.mg x = some (.ref C)) (db : (x == ("__debug__" : Str)) = false := by decide) :
    PMk X (.Call (.Name x p) [] [] pos) (tMkO C sp [] tNil) := by
  intro pins s σ H Q I h
  obtain ⟨z, q⟩ := h
  obtain ⟨nm, qn, N, bs, bm, sn, sub, ab, col, dd, k0, k1, k2, k3, k5, lies, line⟩ := T.cls
  refine wpAny_Call_Name_kw (ld_glob I gl gm ?_ db)
  refine PySem.W.callWith_K0 I.kIn T.kC ?_
  show wpAny _ _ (call (.ref C) []) _ _ _
  obtain ⟨hp, g, dr, tk, os⟩ := s
  have big : hp.objs.size ≤ hp.objs.size + 1 := Nat.le_succ _
  have free := I.hok.fresh big
  have want := q (hp.objs.size + 1) free
  obtain ⟨hq, ehq⟩ : ∃ hq, hq = (hp.push (PySem.W.kdv_tup [])).push (PySem.HandSPX.excO C hp.objs.size) := ⟨_, rfl⟩
  have kk : ∀ b o, hp.get? b = some o → hq.get? b = some o := fun b o e => by rw [ehq]; exact Heap.get?_push_of_some _ (Heap.get?_push_of_some _ e)
  have new : hq.get? (hp.objs.size + 1) = some (PySem.HandSPX.excO C hp.objs.size) := by rw [ehq]; heap_get
  have I2 : Inv X pins σ (upd H (hp.objs.size + 1) (exo (hp.objs.size + 1) C none)) ⟨hq, g, dr, tk, os⟩ := I.laid (t' := tk) (a := hp.objs.size + 1) (o := exo (hp.objs.size + 1) C none) (h' := hq) kk big (exo_ok new)
  have len : ([Value.ref (hp.objs.size + 1)] ++ ([] : List Value)).length = ps.length := (F.len _ _ _ _ want).symm ▸ rfl
  refine wpAny_call (PySem.HandSPX.call_own PySem.F.excBase_ValueError (fun Y => PySem.HandSPX.refsVE_contains Y bm line) (I.kIn _ _ lies) (PySem.W.looks_findIn I.kIn ini) (fun self => PySem.W.bind_fn I.kIn self isF) (Nat.zero_le _) ?_)
  rw [← ehq]
  refine codeAny_mono (F.run _ X.stack _ _ ⟨[Value.ref (hp.objs.size + 1)], []⟩ [Value.ref (hp.objs.size + 1)] _ _ (fun _ _ _ => False) (room.make C [] []) (I2.env0.make C [] []) (bi _ [Value.ref (hp.objs.size + 1)] I2.kIn len) (show Vals [V.ref (hp.objs.size + 1)] [Value.ref (hp.objs.size + 1)] from .cons rfl .nil) want) fun r t hr => ?_
  cases r with
  | error er => exact px pins σ _ _ er t I2 hr
  | ok fl =>
    cases fl with
    | ret u =>
      obtain ⟨v, Hb, os2, bare2, un2, hok2, rv, ev, d, fs, ea, ed, hd1, q2⟩ := hr
      subst ev
      obtain ⟨hb, gb, db2, tb, ob⟩ := t
      exact ⟨rv, mk_end (raises_own T.exC T.tyC) I big kk un2 hok2 os2 bare2 ea ed hd1 q2⟩
    | next => exact False.elim hr
    | brk => exact False.elim hr
    | cont => exact False.elim hr
end
end FD
namespace FD
open PySem PyProof.Rows L2
/-! ### dict comprehensions, keys tuples: what is gathered so far -/
section
variable {b : Option (Addr × Addr)} {σ : L2.St} {K : PySem.W.Frag} {g : TG}
theorem dct_walk {J : It} {n : Nat} {Gd : Hp → Prop} {Y : Nat → Hp → V → Hp → Prop} {G0 H0 G1 H1 : Hp} {tt : TT} {tk tv : TE} {vs : List Nat} {Dl : Addr} {P : V → Hp → Prop} {Q : VK} (W : Walk J n Gd Y) (hn : n ≤ 100000) (w1 : Wd b G1 H1) (e01 : Stp (Bg b) G0 H0 G1 H1) (hD : H1 Dl = none)
    (hgd : ∀ H, Same G1 H → Gd H) (Iv : Nat → List (List Key × V) → Hp → Prop) (h0 : Iv 0 [] G1)
    (hs : ∀ i x G2 H2 H' acc, i < n → Same G1 G2 → Wd b G2 H2 → Iv i acc G2 → acc.length ≤ i → Y i H2 x H' → ∃ σ3 G3, Stp (Bg b) G2 H2 G3 H' ∧ Wd b G3 H' ∧ Gv g x (wipe σ vs) H' σ3 ∧ wipe σ3 vs = wipe σ vs ∧
      Ev b tt σ3 G3 fun c G4 => (c = true → Ev b tk σ3 G4 fun y G5 => Ev b tv σ3 G5 fun z G6 => ∃ k kb, y = .ref kb ∧ G6 kb = some (.tup (k.map kV)) ∧ Iv (i + 1) (putK acc k z) G6) ∧ (c = false → Iv (i + 1) acc G4))
    (hd : ∀ acc G2, Same G1 G2 → Iv n acc G2 → acc.length ≤ n → ∀ a, G2 a = none → P (.ref a) (upd G2 a (.dT acc)))
    (k : ∀ v G' H', Stp (Bg b) G0 H0 G' H' → Wd b G' H' → P v G' → Q v H') :
    ∃ W : Nat → Nat → Hp → Prop, (∃ m, W 0 m (upd H1 Dl (.dT []))) ∧ ∀ i m H, W i m H →
      (J.stop i H ∧ Q (.ref Dl) H) ∨ (J.go i H ∧ ∃ Nx : Hp → Prop, (∀ H', Nx H' → ∃ m', m' < m ∧ W (i + 1) m' H') ∧ ∀ x H', J.yld i H x H' → g x (wipe σ vs) H' fun σ2 H2 => wipe σ2 vs = wipe σ vs ∧ tt σ2 H2 fun b H3 =>
        if b = true then tk σ2 H3 fun y H4 => tv σ2 H4 fun z H5 => ∃ kvs k b, y = .ref b ∧ H5 b = some (.tup (k.map kV)) ∧ H5 Dl = some (.dT kvs) ∧ kvs.length < sizeLine ∧ Nx (upd H5 Dl (.dT (putK kvs k z))) else Nx H3) := by
  have hG1 : G1 Dl = none := w1.same.free hD
  have hb := w1.off hD
  have non : ∀ {o : HO} {H : Hp}, H Dl = some o → H Dl ≠ none := fun e z => by rw [e] at z; cases z
  let Pv : Nat → Hp → Prop := fun i H => ∃ G2 acc, Stp (Bg b) G1 H1 G2 H ∧ Wd b G2 H ∧ G2 Dl = none ∧ H Dl = some (.dT acc) ∧ Iv i acc G2 ∧ acc.length ≤ i
  refine ⟨fun i m H => m = n - i ∧ i ≤ n ∧ Pv i H, ⟨n, rfl, Nat.zero_le _, G1, [], (Stp.refl w1.same).newP hD, w1.newP hD, hG1, upd_same, h0, Nat.le_refl _⟩, ?_⟩
  rintro i m H ⟨rfl, hi, G2, acc, e, w, gD, hDl, iv, hl⟩
  have hgo : Gd H := hgd H (e.gg.trans w.same)
  by_cases hlt : i < n
  · refine .inr ⟨W.goes i H hlt hgo, fun H' => Pv (i + 1) H', fun H' p => ⟨n - (i + 1), by omega, rfl, hlt, p⟩, fun x H' y => ?_⟩
    obtain ⟨σ3, G3, e3, w3, gv, hw, hv⟩ := hs i x G2 H H' acc hlt e.gg w iv hl (W.yields i H x H' hlt hgo y)
    refine gv _ ⟨hw, hv H' w3 _ fun c G4 H4 e4 w4 q => ?_⟩
    have dl3 : H' Dl = some (.dT acc) := e3.hh _ _ hDl hb
    have dl4 : H4 Dl = some (.dT acc) := e4.hh _ _ dl3 hb
    have gd4 : G4 Dl = none := e4.fr _ (e3.fr _ gD (non hDl)) (non dl3)
    cases c with
    | false => exact iteF ⟨G4, acc, (e.trans e3).trans e4, w4, gd4, dl4, q.2 rfl, Nat.le_succ_of_le hl⟩
    | true =>
      refine iteT (q.1 rfl H4 w4 _ fun y G5 H5 e5 w5 q5 => q5 H5 w5 _ fun z G6 H6 e6 w6 ⟨ky, kb, ey, hkb, iv6⟩ => ?_)
      have dl6 : H6 Dl = some (.dT acc) := e6.hh _ _ (e5.hh _ _ dl4 hb) hb
      have gd6 : G6 Dl = none := e6.fr _ (e5.fr _ gd4 (non dl4)) (non (e5.hh _ _ dl4 hb))
      refine ⟨acc, ky, kb, ey, w6.same _ _ hkb, dl6, sz_lt (by omega), G6, putK acc ky z, ((((e.trans e3).trans e4).trans e5).trans e6).mut hD gd6, w6.mut gd6 hb, gd6, upd_same, iv6, ?_⟩
      have := length_putK acc ky z
      omega
  · obtain rfl : i = n := by omega
    have h0 : H0 Dl = none := by
      cases q : H0 Dl with
      | none => rfl
      | some o => exact absurd hD (e01.al _ (by rw [q]; exact fun z => nomatch z))
    exact .inl ⟨W.stops H hgo, k _ _ _ ((e01.trans e).know h0 hDl gD) (w.know hDl gD hb) (hd acc G2 e.gg iv hl Dl gD)⟩
theorem dcTL {G : Hp} {tl : TE} {tt : TT} {tk tv : TE} {vs : List Nat} {P : V → Hp → Prop} (h : Ev b tl σ G fun x G1 => ∃ a xs, x = .ref a ∧ SqL K G1 a xs ∧ xs.length ≤ 100000 ∧ ∃ Iv : Nat → List (List Key × V) → Hp → Prop, Iv 0 [] G1 ∧
    (∀ i x G2 acc, xs[i]? = some x → Same G1 G2 → Iv i acc G2 → acc.length ≤ i → ∃ σ3, (∀ H, Same G2 H → Gv g x (wipe σ vs) H σ3) ∧ wipe σ3 vs = wipe σ vs ∧ Ev b tt σ3 G2 fun c G3 => (c = true → Ev b tk σ3 G3 fun y G4 => Ev b tv σ3 G4 fun z G5 => ∃ k kb, y = .ref kb ∧ G5 kb = some (.tup (k.map kV)) ∧ Iv (i + 1) (putK acc k z) G5) ∧ (c = false → Iv (i + 1) acc G3)) ∧
    ∀ acc G2, Same G1 G2 → Iv xs.length acc G2 → acc.length ≤ xs.length → ∀ q, G2 q = none → P (.ref q) (upd G2 q (.dT acc))) : Ev b (tDcT (iList K tl) g tt tk tv vs) σ G P :=
  fun H w Q k => h H w _ fun x G1 H1 e1 w1 ⟨a, xs, ex, q, hl, Iv, h0, hs, hd⟩ => ⟨a, ex, ⟨xs, sql_mono w1.same q⟩, fun Dl hD =>
    dct_walk (P := P) walk_list hl w1 e1 hD (fun H e => sql_mono e q) Iv h0 (fun i x G2 H2 H' acc hi e w2 iv hacc y => by
      obtain ⟨rfl, y⟩ := y
      obtain ⟨σ3, gv, hw, hv⟩ := hs i x G2 acc y e iv hacc
      exact ⟨σ3, G2, Stp.refl w2.same, w2, gv _ w2.same, hw, hv⟩) hd k⟩
end
end FD
namespace FD
open PySem PyProof.Rows L2
/-! ### defs that may raise -/
/-- P: what comes of an answer; PX: of an exception, by its class and its dict -/
def SpX (n : Nat) (pre : List V → Hp → (V → Hp → Prop) → (Value → Addr → Hp → Prop) → Prop) : Sp := fun vs H Q E => vs.length = n ∧ ∃ G P PX, Same G H ∧ pre vs G P PX ∧ (∀ v G' H', Stp (Bg none) G H G' H' → P v G' → Q v H') ∧ ∀ cls d G' H', Stp (Bg none) G H G' H' → PX cls d G' → E cls (some d) H'
theorem spX_len {n : Nat} {pre : List V → Hp → (V → Hp → Prop) → (Value → Addr → Hp → Prop) → Prop} : ∀ vs H Q E, SpX n pre vs H Q E → vs.length = n := fun _ _ _ _ h => h.1
abbrev DefX (P : Program) (w : World) (K : PySem.W.Frag) (mg : Str → Option Value) (base : Heap) (k : Nat) (x : Str) (ps : List Str) (sp : Sp) : Prop := Def P w K mg base (L2.CX P w) k x ps sp
section
variable {b : Option (Addr × Addr)} {σ : L2.St} {G H : Hp} {K : PySem.W.Frag} {pre : List V → Hp → (V → Hp → Prop) → (Value → Addr → Hp → Prop) → Prop} {P : V → Hp → Prop} {PX : Value → Addr → Hp → Prop} {E : XK} {ta : TA} {n : Nat} {D : Ends}
theorem run_spX (w : Wd b G H) {G1 H1 : Hp} (e1 : Stp (Bg b) G H G1 H1) (w1 : Wd b G1 H1) {vs : List V} {Q : VK} (hl : vs.length = n) (hp : pre vs G1 P PX) (hx : ∀ cls d G' H', Stp (Bg b) G H G' H' → PX cls d G' → E cls (some d) H') (k : ∀ v G2 H2, Stp (Bg b) G H G2 H2 → Wd b G2 H2 → P v G2 → Q v H2) : SpX n pre (vs ++ []) H1 Q E := by
  rw [List.append_nil]
  exact ⟨hl, G1, P, PX, w1.same, hp, fun v G2 H2 e2 p => k v G2 H2 (e1.trans e2.up) (w1.back e2) p, fun cls d G2 H2 e2 p => hx cls d G2 H2 (e1.trans e2.up) p⟩
theorem s_dropX (w : Wd b G H) (hx : ∀ cls d G' H', Stp (Bg b) G H G' H' → PX cls d G' → E cls (some d) H') (h : Ev b ta σ G fun vs G1 => vs.length = n ∧ pre vs G1 P PX) (k : ∀ v G1 H1, Stp (Bg b) G H G1 H1 → Wd b G1 H1 → P v G1 → D.nx σ H1) : tDrop (tCall (SpX n pre) [] E ta) D σ H :=
  h H w _ fun vs G1 H1 e1 w1 ⟨hl, hp⟩ => run_spX w e1 w1 hl hp hx fun v G2 H2 e2 w2 p => k v G2 H2 e2 w2 p
/-- a call that does not raise here -/
theorem ev_callX (h : Ev b ta σ G fun vs G1 => vs.length = n ∧ pre vs G1 P fun _ _ _ => False) : Ev b (tCall (SpX n pre) [] E ta) σ G P :=
  fun H w Q k => h H w _ fun vs G1 H1 e1 w1 ⟨hl, hp⟩ => run_spX w e1 w1 hl hp (fun _ _ _ _ _ z => z.elim) k
end
/-! ### the two errors -/
def spOR (C : Addr) : Sp := fun vs H Q _ => vs.length = 1 ∧ ∃ a, vs = [.ref a] ∧ H a = some (exo a C none) ∧ ∀ d, H d = none → d ≠ a → Q .non (upd (upd H d (exd d [("code", .str "OtherReasons")])) a (exo a C (some d)))
def spSt (C : Addr) : Sp := fun vs H Q _ => vs.length = 2 ∧ ∃ a v, vs = [.ref a, v] ∧ H a = some (exo a C none) ∧ ∀ d, H d = none → d ≠ a → Q .non (upd (upd (upd H d (exd d [("code", .str "Stuck")])) a (exo a C (some d))) d (exd d [("lot", v), ("code", .str "Stuck")]))
theorem lookup_none {H : Hp} {a d : Addr} {o : HO} (h : H a = some o) (hd : H d = none) : d ≠ a := fun z => by
  rw [z, h] at hd
  cases hd
/-- the exception goes, its dict stays -/
theorem exc_end {H : Hp} {a d : Addr} {o o1 o2 o3 : HO} (ha : H a = none) (hda : d ≠ a) : upd (del (upd (upd (upd H a o1) d o2) a o3) a) d o = upd H d o := by
  funext b
  by_cases h1 : b = d
  · rw [h1, upd_same, upd_same]
  · rw [upd_ne h1, upd_ne h1]
    by_cases h2 : b = a
    · rw [h2, del_same, ha]
    · rw [del_ne h2, upd_ne h2, upd_ne h1, upd_ne h2]
section
variable {P : Program} {w : World} {K : PySem.W.Frag} {mg : Str → Option Value} {base : Heap}
local macro_rules | `(tactic| walk_at "ev") => `(tactic| repeat (first | with_reducible refine s_seq ?_ | with_reducible refine s_skip ?_ | with_reducible refine s_gn ?_ | with_reducible refine ev_op ?_ | with_reducible refine ev_un ?_ | ((with_reducible refine' ev_var ?hv ?_); (case hv => rfl)) | with_reducible refine ev_c ?_ | with_reducible refine ev_cb ?_ | with_reducible refine ea_cons ?_ | with_reducible refine ea_nil ?_ | with_reducible refine et_test ?_ | with_reducible refine et_B ?_ | with_reducible refine s_ret (by assumption) ?_ | with_reducible refine s_asg (by assumption) ?_))
theorem d_OtherReasons_init (T : Mo K mg) : ∃ fd, FnOk P w K mg base CX0 1 (meth K "OtherReasons" "__init__") fd ["self"] (spOR (cls K "OtherReasons")) ∧ L2.Binds K fd ["self"] [] := by
  obtain ⟨fd, F⟩ := T.f_OtherReasons_init
  refine ⟨fd, F.ok sc_OtherReasons_init (fun _ _ _ _ h => h.1) (fun cdv A outer s H vs Q E hr h => ?_), F.bindsN fun _ _ _ _ _ _ us hl => match us, hl with | [_], _ => rfl⟩
  obtain ⟨_, a, rfl, ha, q⟩ := h
  refine ⟨_, PSs.nox (pss_one (ps_ost (pv 0) pe_str)), ?_⟩
  exact ⟨_, rfl, a, _, rfl, T.ox_OtherReasons, T.no_OtherReasons_code, .inl ⟨ha, fun d hd hda => q d hd hda⟩⟩
theorem d_Stuck_init (T : Mo K mg) : ∃ fd, FnOk P w K mg base CX0 1 (meth K "Stuck" "__init__") fd ["self", "lot"] (spSt (cls K "Stuck")) ∧ L2.Binds K fd ["self", "lot"] [] := by
  obtain ⟨fd, F⟩ := T.f_Stuck_init
  refine ⟨fd, F.ok sc_Stuck_init (fun _ _ _ _ h => h.1) (fun cdv A outer s H vs Q E hr h => ?_), F.bindsN fun _ _ _ _ _ _ us hl => match us, hl with | [_, _], _ => rfl⟩
  obtain ⟨_, a, v, rfl, ha, q⟩ := h
  refine ⟨_, PSs.nox (pss_cons (ps_ost (pv 0) pe_str) (pss_one (ps_ost (pv 0) (pv 1)))), ?_⟩
  refine ⟨_, rfl, a, _, rfl, T.ox_Stuck, T.no_Stuck_code, .inl ⟨ha, fun d hd hda => ?_⟩⟩
  refine ⟨v, rfl, _, rfl, a, _, rfl, T.ox_Stuck, T.no_Stuck_lot, .inr ⟨d, _, upd_same, ?_, by show 1 ≤ 900; decide, q d hd hda⟩⟩
  rw [upd_ne hda, upd_same]
/-- the error e: its class, its dict -/
def ErrAt (K : PySem.W.Frag) (e : PyData) (c : Value) (d : Addr) (G : Hp) : Prop :=
  (e = .tuple [.str "OtherReasons"] ∧ c = .ref (cls K "OtherReasons") ∧ G d = some (.xd [("code", .str "OtherReasons")])) ∨
  ∃ (l : List Str) (lv : V), e = .tuple [.str "Stuck", .tuple (l.map .str)] ∧ c = .ref (cls K "Stuck") ∧ G d = some (.xd [("lot", lv), ("code", .str "Stuck")]) ∧ Dp K G lv (.tuple (l.map .str))
theorem errAt_mono {e : PyData} {c : Value} {d : Addr} {G G' : Hp} (h : ErrAt K e c d G) (s : Same G G') : ErrAt K e c d G' := by
  rcases h with ⟨h1, h2, h3⟩ | ⟨l, lv, h1, h2, h3, h4⟩
  · exact .inl ⟨h1, h2, s _ _ h3⟩
  · exact .inr ⟨l, lv, h1, h2, s _ _ h3, Dpm h4 s⟩
theorem mk_or {σ : L2.St} {H : Hp} {Q : XK} {C : Addr} (h : ∀ d, H d = none → Q (.ref C) (some d) (upd H d (.xd [("code", .str "OtherReasons")]))) : tMkO C (spOR C) [] tNil σ H Q :=
  ⟨by show 0 ≤ 1000; decide, fun a ha => ⟨rfl, a, rfl, upd_same, fun d hd hda => by
    have hd0 : H d = none := by rw [upd_ne hda] at hd; exact hd
    refine ⟨rfl, d, [("code", .str "OtherReasons")], upd_same, by rw [upd_ne hda, upd_same], hd0, ?_⟩
    rw [exc_end ha hda]
    exact h d hd0⟩⟩
theorem mk_st {b : Option (Addr × Addr)} {σ : L2.St} {G H : Hp} {Q : XK} {C : Addr} {ta : TA} (w : Wd b G H) (h : Ev b ta σ G fun vs G1 => ∃ v, vs = [v] ∧ ∀ d H1, Stp (Bg b) G H G1 H1 → Wd b G1 H1 → H1 d = none → Q (.ref C) (some d) (upd H1 d (.xd [("lot", v), ("code", .str "Stuck")]))) : tMkO C (spSt C) [] ta σ H Q := by
  refine h H w _ fun vs G1 H1 e1 w1 => ?_
  rintro ⟨v, rfl, h⟩
  refine ⟨by show 1 ≤ 1000; decide, fun a ha => ⟨rfl, a, v, rfl, upd_same, fun d hd hda => ?_⟩⟩
  have hd0 : H1 d = none := by rw [upd_ne hda] at hd; exact hd
  refine ⟨rfl, d, _, by rw [upd_ne (Ne.symm hda), upd_same], upd_same, hd0, ?_⟩
  have e : ∀ (X Y : HO), upd (del (upd (upd (upd (upd H1 a (exo a C none)) d X) a (exo a C (some d))) d Y) a) d (.xd [("lot", v), ("code", .str "Stuck")]) = upd H1 d (.xd [("lot", v), ("code", .str "Stuck")]) := fun X Y => by
    funext b
    by_cases h1 : b = d
    · rw [h1, upd_same, upd_same]
    · rw [upd_ne h1, upd_ne h1]
      by_cases h2 : b = a
      · rw [h2, del_same, ha]
      · rw [del_ne h2, upd_ne h1, upd_ne h2, upd_ne h1, upd_ne h2]
  rw [e]
  exact h d H1 e1 w1 hd0
end
end FD
namespace FD
open PySem PyProof.Rows L2
section
variable {P : Program} {w : World} {K : PySem.W.Frag} {mg : Str → Option Value} {base : Heap}
local macro_rules | `(tactic| walk_at "ev") => `(tactic| repeat (first | with_reducible refine s_seq ?_ | with_reducible refine s_skip ?_ | with_reducible refine s_gn ?_ | with_reducible refine ev_op ?_ | with_reducible refine ev_un ?_ | ((with_reducible refine' ev_var ?hv ?_); (case hv => rfl)) | with_reducible refine ev_c ?_ | with_reducible refine ev_cb ?_ | with_reducible refine ea_cons ?_ | with_reducible refine ea_nil ?_ | with_reducible refine et_test ?_ | with_reducible refine et_B ?_ | with_reducible refine s_ret (by assumption) ?_ | with_reducible refine s_asg (by assumption) ?_))
abbrev eOther : PyData := .tuple [.str "OtherReasons"]
def pNeedR (K : PySem.W.Frag) : List V → Hp → (V → Hp → Prop) → (Value → Addr → Hp → Prop) → Prop := fun vs G P PX => ∃ (bv ov : V) (R R2 : List Str) (rs : List RecT) (ls : List LineT), vs = [bv, ov] ∧ BookIs K G bv R rs ∧ SheetIs K G ov R2 ls ∧ (R2 = R → ∀ G', Same G G' → P .non G') ∧ (R2 ≠ R → ∀ c d G', Same G G' → ErrAt K eOther c d G' → PX c d G')
theorem d_need_reasons (T : Mo K mg) : DefX P w K mg base 3 "need_reasons" ["book", "other"] (SpX 2 (pNeedR K)) := by
  obtain ⟨fd, F⟩ := T.f_need_reasons
  refine ⟨_, fd, F.ok sc_need_reasons spX_len (fun cdv A outer s H vs Q E hr h => ?_), T.g_need_reasons, F.kp, F.bindsN fun _ _ _ _ _ _ us hl => match us, hl with | [_, _], _ => rfl⟩
  obtain ⟨_, G, P, PX, sm, hp, kq, kx⟩ := h
  have wd : Wd none G H := .none sm
  obtain ⟨fdi, Fi, bi⟩ := d_OtherReasons_init (P := _) (w := w) (base := base) T
  refine ⟨_, pss_one (ps_if (pt_cmpR (op_neW hr.units) (pe_fld (pv 1) rfl) (pe_fld (pv 0) rfl) (by rfl)) (pss_one (ps_raise rfl (takes_of (E := E) rfl rfl rfl rfl) (pmk_oex0 T.ox_OtherReasons T.ini_OtherReasons T.tyi_OtherReasons Fi (hr.mono (by decide)) bi pass0 (by rfl) T.g_OtherReasons))) pss_nil), ?_⟩
  obtain ⟨bv, ov, R, R2, rs, ls, rfl, hB, hS, k1, k2⟩ := hp
  refine s_if wd (et_test ?_)
  walk_at "ev"
  refine ev_sreasons (T := T) (ev_var rfl ⟨R2, ls, hS, fun v1 h1 => ?_⟩)
  refine ev_reasons (T := T) (ev_var rfl ⟨R, rs, hB, fun v2 h2 => ?_⟩)
  refine rv_neT (α := PySem.W.Tup Str) ⟨R2⟩ ⟨R⟩ h1 (rs_dp h2) (by decide) ⟨_, rfl, fun H1 s1 w1 => ⟨fun h => ?_, fun h => ?_⟩⟩
  · rw [tup_eq] at h
    have hne : R2 ≠ R := by simpa using h
    refine mk_or fun d hd => ?_
    have s2 := s1.new (o := .xd [("code", .str "OtherReasons")]) hd
    exact kx _ d _ _ s2 (k2 hne _ d _ s2.gg (.inl ⟨rfl, rfl, upd_same⟩))
  · rw [tup_eq] at h
    have he : R2 = R := by simpa using h
    exact kq _ _ _ s1 (k1 he _ s1.gg)
def eStuck (l : List Str) : PyData := .tuple [.str "Stuck", .tuple (l.map .str)]
def pNeedS (K : PySem.W.Frag) : List V → Hp → (V → Hp → Prop) → (Value → Addr → Hp → Prop) → Prop := fun vs G P PX => ∃ (bv : V) (R : List Str) (rs : List RecT), vs = [bv] ∧ BookIs K G bv R rs ∧ BookOk R rs ∧ (standsOf R (rs.map (·.2)) = true → ∀ G', Same G G' → P .non G') ∧ (standsOf R (rs.map (·.2)) = false → ∀ c d G', Same G G' → ErrAt K (eStuck (stuckOf R rs)) c d G' → PX c d G')
theorem d_need_standing (T : Mo K mg) : DefX P w K mg base 6 "need_standing" ["book"] (SpX 1 (pNeedS K)) := by
  obtain ⟨fd, F⟩ := T.f_need_standing
  refine ⟨_, fd, F.ok sc_need_standing spX_len (fun cdv A outer s H vs Q E hr h => ?_), T.g_need_standing, F.kp, F.bindsN fun _ _ _ _ _ _ us hl => match us, hl with | [_], _ => rfl⟩
  obtain ⟨_, G, P, PX, sm, hp, kq, kx⟩ := h
  have wd : Wd none G H := .none sm
  obtain ⟨fdi, Fi, bi⟩ := d_Stuck_init (P := _) (w := w) (base := base) T
  refine ⟨_, pss_one (ps_if (pt_not (pt_val (pe_d (d_stands T) (hr.mono (by decide)) (by rfl) pass0 (pa_cons (pv 0) pa_nil)))) (pss_one (ps_raise rfl (takes_of (E := E) rfl rfl rfl rfl) (pmk_oex T.ox_Stuck T.ini_Stuck T.tyi_Stuck Fi (hr.mono (by decide)) bi .nil pass0 (by rfl) T.g_Stuck (pa_cons (pe_d (d_greatest_stuck T) (hr.mono (by decide)) (by rfl) pass0 (pa_cons (pv 0) pa_nil)) pa_nil)))) pss_nil), ?_⟩
  obtain ⟨bv, R, rs, rfl, hB, hok, k1, k2⟩ := hp
  refine s_if wd (et_not (et_test ?_))
  refine ev_call (ea_cons (ev_var rfl (ea_nil ⟨rfl, bv, R, rs, rfl, hB, hok, fun v1 G1 e1 h1 => ?_⟩)))
  obtain rfl : v1 = .bl (standsOf R (rs.map (·.2))) := by cases h1; rfl
  refine ⟨_, rfl, fun H1 s1 w1 => ⟨fun h => ?_, fun h => ?_⟩⟩
  · have hs : standsOf R (rs.map (·.2)) = false := by simpa using h
    refine mk_st w1 (ea_cons (ev_call (ea_cons (ev_var rfl (ea_nil ⟨rfl, bv, R, rs, rfl, bookIs_mono e1 hB, hok, fun v2 G2 e2 h2 => ea_nil ⟨v2, rfl, fun d H2 s2 w2 hd => ?_⟩⟩)))))
    have s3 := (s1.trans s2).new (o := .xd [("lot", v2), ("code", .str "Stuck")]) hd
    exact kx _ d _ _ s3 (k2 hs _ d _ s3.gg (.inr ⟨_, v2, rfl, rfl, upd_same, Dpm h2 (same_new (w2.same.free hd))⟩))
  · have hs : standsOf R (rs.map (·.2)) = true := by simpa using h
    exact kq _ _ _ s1 (k1 hs _ s1.gg)
end
end FD
namespace FD
open PySem PyProof.Rows L2
section
variable {P : Program} {w : World} {K : PySem.W.Frag} {mg : Str → Option Value} {base : Heap}
local macro_rules | `(tactic| walk_at "ev") => `(tactic| repeat (first | with_reducible refine s_seq ?_ | with_reducible refine s_skip ?_ | with_reducible refine s_gn ?_ | with_reducible refine ev_op ?_ | with_reducible refine ev_un ?_ | ((with_reducible refine' ev_var ?hv ?_); (case hv => rfl)) | with_reducible refine ev_c ?_ | with_reducible refine ev_cb ?_ | with_reducible refine ea_cons ?_ | with_reducible refine ea_nil ?_ | with_reducible refine et_test ?_ | with_reducible refine et_B ?_ | with_reducible refine s_ret (by assumption) ?_ | with_reducible refine s_asg (by assumption) ?_))
theorem Paired.reverse_ {α β : Type} {F : α → β → Prop} {xs : List α} {ys : List β} (h : Paired F xs ys) : Paired F xs.reverse ys.reverse := by
  induction h with
  | nil => exact .nil
  | cons a t ih =>
    rw [List.reverse_cons, List.reverse_cons]
    exact paired_app ih (.cons a .nil)
theorem recs_in {R : List Str} {rs : List RecD} (h : RecsOk R rs) : RowsIn R (rs.map (·.2)) := fun r hr => by
  obtain ⟨x, hx, rfl⟩ := List.mem_map.mp hr
  have q := h.2.2.2.2.2.2.1 x hx
  exact ⟨fun y hy => q.1.subset hy, fun y hy => q.2.1.subset hy⟩
theorem recs_dis {R : List Str} {rs : List RecD} (h : RecsOk R rs) : RowsDis (rs.map (·.2)) := fun r hr => by
  obtain ⟨x, hx, rfl⟩ := List.mem_map.mp hr
  exact (h.2.2.2.2.2.2.1 x hx).2.2
theorem recs_nd {R : List Str} {rs : List RecD} (h : RecsOk R rs) : R.Nodup := h.1.2.1
theorem recs_bookOk {R : List Str} {rs : List RecD} (h : RecsOk R rs) : BookOk R rs := ⟨fun r hr => recs_in h _ (List.mem_map.mpr ⟨r, hr, rfl⟩), h.2.2.2.1, Nat.le_trans h.2.2.2.2.2.2.2 (by decide)⟩
def pShares (K : PySem.W.Frag) : List V → Hp → (V → Hp → Prop) → (Value → Addr → Hp → Prop) → Prop := fun vs G P PX => ∃ (bv sv : V) (R R2 : List Str) (rs : List RecD) (ls : List LineT), vs = [bv, sv] ∧ BookIs K G bv R rs ∧ SheetIs K G sv R2 ls ∧ RecsOk R rs ∧ (R2 = R → SheetOk R ls) ∧
  (R2 = R → fitOf R rs ≠ [] → ∀ f G', Same G G' → G f = none → G' f = some (.dT (tkvs (ansOf ls) (winsOf R ls (fitOf R rs)))) → P (.ref f) G') ∧
  ∀ c d G', Same G G' → wrongOf R R2 rs (fitOf R rs) ≠ .none → ErrAt K (wrongOf R R2 rs (fitOf R rs)) c d G' → PX c d G'
/-- shares(sheet = .., book = ..) -/
theorem kb_shares {f : Addr} {fd : FuncData} (F : FnP K "shares" "shares" s_shares f fd) : KBn K fd ["book", "sheet"] 0 ["sheet", "book"] (fun _ ws => ws.reverse) (fun _ zs => zs.reverse) := by
  obtain ⟨oc, od, dV, kV, doc, pm, an, cdv, ct, osl, rfl, lk, hcd, hD, hK⟩ := F.ex
  rcases hD with ⟨_, rfl⟩ | ⟨e, _⟩
  · refine ⟨fun s us ws X l1 l2 => ?_, fun r1 r2 => ?_⟩
    · match us, ws, l1, l2 with
      | [], [w0, w1], _, _ => exact BindsTo.of_eq rfl
    · exact Paired.reverse_ r2
  · exact absurd rfl e
theorem d_sharesF (T : Mo K mg) : ∃ (f : Addr) (fd : FuncData), FnOk P w K mg base (L2.CX P w) 9 f fd ["book", "sheet"] (SpX 2 (pShares K)) ∧ mg "shares" = some (.ref f) ∧ PySem.W.keepIn K (.ref f) = true ∧ L2.Binds K fd ["book", "sheet"] [] ∧ KBn K fd ["book", "sheet"] 0 ["sheet", "book"] (fun _ ws => ws.reverse) (fun _ zs => zs.reverse) := by
  obtain ⟨fd, F⟩ := T.f_shares
  refine ⟨_, fd, F.ok sc_shares spX_len (fun cdv A outer s H vs Q E hr h => ?_), T.g_shares, F.kp, F.bindsN fun _ _ _ _ _ _ us hl => match us, hl with | [_, _], _ => rfl, kb_shares F⟩
  have hu := hu_of hr
  obtain ⟨_, G, P, PX, sm, hp, kq, kx⟩ := h
  have wd : Wd none G H := .none sm
  refine ⟨_, (pss_cons (ps_expr (pe_d (d_need_reasons T) (hr.mono (by decide)) (by rfl) (passes_call (takes_of (E := E) rfl rfl rfl rfl) (fun _ _ _ _ h => h)) (pa_cons (pv 0) (pa_cons (pv 1) pa_nil))))
    (pss_cons (ps_expr (pe_d (d_need_standing T) (hr.mono (by decide)) (by rfl) (passes_call (takes_of (E := E) rfl rfl rfl rfl) (fun _ _ _ _ h => h)) (pa_cons (pv 0) pa_nil)))
    (pss_one (ps_ret (FD.pe_dcT (Nat.lt_of_succ_lt hu) (own := [("answer", 2)]) (g := gName 2) (tt := tYes) rfl sc_shares.nd (pi_list (pe_dm0 (d_Sheet_answers T) T.cl_Sheet (pv 1) (hr.mono (by decide)) pass0)) (blkOk_by (N := ["book", "sheet", "answer"]) (sc := defScope s_shares) (by decide +kernel)) (fun _ _ _ _ _ => (pg_name (i := 2) sc_shares.nd rfl (Or.inl rfl))) (fun _ _ _ _ _ => pts_nil) (fun _ _ _ _ _ => (blk_te (pv 2) (by (try dsimp only [Cx.blk, Cx.nox, cxOf]); (try rfl)))) (fun _ _ _ _ _ => (blk_te (pe_d (d_count_orders T) (hr.mono (by decide)) (by rfl) pass0 (pa_cons (pe_dm (d_Book_grown T) T.cl_Book (pv 0) (hr.mono (by decide)) pass0 (pa_cons (pe_dm (d_Sheet_rows T) T.cl_Sheet (pv 1) (hr.mono (by decide)) pass0 (pa_cons (pe_ix ix_tup (pv 2) pe_int (fun _ _ => rfl)) pa_nil)) pa_nil)) pa_nil)) (by (try dsimp only [Cx.blk, Cx.nox, cxOf]); (try rfl))))))))) , ?_⟩
  obtain ⟨bv, sv, R, R2, rs, ls, rfl, hB, hS, hok, hso, k1, k2⟩ := hp
  have nd := recs_nd hok
  have hin := recs_in hok
  have hdis := recs_dis hok
  with_reducible refine s_seq ?_
  refine s_dropX (P := fun _ _ => R2 = R) (PX := fun c d G' => Same G G' ∧ R2 ≠ R ∧ ErrAt K eOther c d G') wd (fun c d G' H' s' ⟨g', hne, he⟩ => kx c d G' H' s' (k2 c d G' g' ?_ ?_)) (ea_cons (ev_var rfl (ea_cons (ev_var rfl (ea_nil ⟨rfl, bv, sv, R, R2, rs, ls, rfl, hB, hS, fun e _ _ => e, fun hne c d G' g he => ⟨g, hne, he⟩⟩))))) fun v1 G1 H1 s1 w1 e12 => ?_
  · unfold wrongOf
    rw [if_pos hne]
    exact fun z => nomatch z
  · unfold wrongOf
    rw [if_pos hne]
    exact he
  have hB1 := bookIs_mono s1.gg hB
  have hS1 := sheetIs_mono s1.gg hS
  clear wd
  dsimp only
  with_reducible refine s_seq ?_
  refine s_dropX (P := fun _ _ => standsOf R (rs.map (·.2)) = true) (PX := fun c d G' => Same G1 G' ∧ standsOf R (rs.map (·.2)) = false ∧ ErrAt K (eStuck (stuckOf R rs)) c d G') w1 (fun c d G' H' s' ⟨g', hst, he⟩ => kx c d G' H' (s1.trans s') (k2 c d G' (s1.gg.trans g') ?_ ?_)) (ea_cons (ev_var rfl (ea_nil ⟨rfl, bv, R, rs, rfl, hB1, recs_bookOk hok, fun e _ _ => e, fun hne c d G' g he => ⟨g, hne, he⟩⟩))) fun v2 G2 H2 s2 w2 hst => ?_
  · have hf : fitOf R rs = [] := Classical.byContradiction fun z => by rw [(stands_fit nd hin hdis).mpr z] at hst; cases hst
    unfold wrongOf
    rw [if_neg (fun z => z e12), if_pos hf]
    exact fun z => nomatch z
  · have hf : fitOf R rs = [] := Classical.byContradiction fun z => by rw [(stands_fit nd hin hdis).mpr z] at hst; cases hst
    unfold wrongOf
    rw [if_neg (fun z => z e12), if_pos hf, ← stuck_eq nd hin]
    exact he
  have hfit := (stands_fit nd hin hdis).mp hst
  have s12 := s1.trans s2
  have hB2 := bookIs_mono s2.gg hB1
  have hS2 := sheetIs_mono s2.gg hS1
  subst e12
  have hsok := hso rfl
  have hls := hsok.2.2
  have hnd := hls.1.2.1
  have hl6 := hls.2.2.2.1
  have hal : (ansOf ls).length ≤ 6 := by
    have := ansFold_len ls ls []
    have h0 : ([] : List (List Str)).length = 0 := rfl
    unfold ansOf
    omega
  clear w1
  dsimp only
  walk_at "ev"
  refine dcTL (K := K) (ev_meth2 (fun _ _ _ => rfl) (ev_var rfl ⟨R2, ls, hS2, ea_nil ⟨rfl, sv, R2, ls, rfl, hS2, hsok, fun av G3 e3 hav => ?_⟩⟩))
  obtain ⟨aa, xs, rfl, hxs, hpr⟩ := hav
  rw [answers_eq hnd] at hpr
  have hxl := paired_len hpr
  refine ⟨aa, xs, rfl, hxs, by omega, fun i acc G4 => Same G3 G4 ∧ acc = tkvs ((ansOf ls).take i) (winsOf R2 ls (fitOf R2 rs)), ⟨Same.refl _, rfl⟩, ?_, ?_⟩
  · rintro i x G4 acc hx e4 ⟨_, rfl⟩ -
    obtain ⟨t, ht, hxt⟩ := paired_get hpr hx
    obtain ⟨kb, rfl, hkb⟩ := hxt
    have hni : t ∉ (ansOf ls).take i := take_not (ansOf_nodup ls) ht
    have htm := List.mem_of_getElem? ht
    rw [← answers_eq hnd] at htm
    obtain ⟨l, hl, rfl, hhd⟩ := answer_line hnd htm
    refine ⟨_, fun _ _ => gv_name, rfl, et_yes ⟨fun _ => ev_var rfl ?_, fun z => nomatch z⟩⟩
    have hB4 := bookIs_mono (e3.trans e4) hB2
    have hS4 := sheetIs_mono (e3.trans e4) hS2
    have hkb4 := e4 _ _ hkb
    obtain ⟨ba, bdx, bt, bd, bkvs, rfl, hb1, _⟩ := id hB4
    refine ev_call (ea_cons (ev_meth (ev_var rfl ⟨ba, bdx, _, rfl, hb1, rfl, ea_cons (ev_meth2 (fun _ _ _ => rfl) (ev_var rfl ⟨R2, ls, hS4, ea_cons ?_⟩))⟩)))
    walk_at "ev"
    refine rv_ixDT (i := 0) (tupAt_dp (K := K) ⟨kb, rfl, hkb4⟩) (d := .str l.1) (by rw [List.getElem?_map, ← List.head?_eq_getElem?, hhd]; rfl) fun v0 hv0 => ea_nil ?_
    obtain rfl := dp_str hv0
    refine ⟨rfl, sv, R2, ls, l, rfl, hS4, hsok, hl, fun rv G5 e5 hrv => ea_nil ?_⟩
    have hrl : ((rivalsOf ls l).map fun m => sheetRow R2 l.2 m.2).length ≤ 6 := by
      rw [List.length_map]
      exact Nat.le_trans (List.length_filter_le _ _) hl6
    refine ⟨rfl, _, rv, R2, rs, _, rfl, bookIs_mono e5 hB4, hrv, hok.1, hok.2.2.1, hok.2.2.2.1, hok.2.1, hok.2.2.2.2.2.1, Nat.le_trans hok.2.2.2.2.2.2.2 (by decide), by omega, fun r hr => ?_, fun ms v' G6 hms e6 hB6 => ea_nil ?_⟩
    · obtain ⟨m, _, rfl⟩ := List.mem_map.mp hr
      exact row_in R2 _ _
    have hbk : BookOk R2 (rs ++ ms.zip ((rivalsOf ls l).map fun m => sheetRow R2 l.2 m.2)) := by
      refine ⟨fun r hr => ?_, hok.2.2.2.1, ?_⟩
      · rcases List.mem_append.mp hr with z | z
        · exact (recs_bookOk hok).1 r z
        · obtain ⟨m, _, e⟩ := List.mem_map.mp (List.of_mem_zip (a := r.1) (b := r.2) z).2
          rw [← e]
          exact row_in R2 _ _
      · rw [List.length_append, List.length_zip]
        have := hok.2.2.2.2.2.2.2
        omega
    refine ⟨rfl, v', R2, _, rfl, hB6, hbk, fun v7 G7 e7 hv7 => ?_⟩
    obtain rfl := dp_int hv7
    have ez : (rs ++ ms.zip ((rivalsOf ls l).map fun m => sheetRow R2 l.2 m.2)).map (·.2) = rs.map (·.2) ++ (rivalsOf ls l).map fun m => sheetRow R2 l.2 m.2 := by
      rw [List.map_append, List.map_snd_zip (by omega)]
    have e47 := (e5.trans e6).trans e7
    refine ⟨tKey (alikeOf ls l), kb, rfl, by rw [tKey_kV]; exact e47 _ _ hkb4, e4.trans e47, ?_⟩
    rw [ez, share_eq nd hin hdis hls hl, tkvs_new hni, List.take_succ, ht]
    rfl
  · rintro acc G4 e4 ⟨_, rfl⟩ - q hq H5 s5 w5
    rw [hxl, List.take_length] at *
    exact kq _ _ _ (s12.trans s5) (k1 rfl hfit q _ (s12.trans s5).gg ((s12.gg.trans (e3.trans e4)).free hq) upd_same)
theorem d_shares (T : Mo K mg) : DefX P w K mg base 9 "shares" ["book", "sheet"] (SpX 2 (pShares K)) := by
  obtain ⟨f, fd, h1, h2, h3, h4, _⟩ := d_sharesF (P := P) (w := w) (base := base) T
  exact ⟨f, fd, h1, h2, h3, h4⟩
/-- shares(sheet = b, book = a), names at the slots j, i -/
theorem pe_sharesK {X : Cx} {E : XK} {ea eb : Expr} {i j : Nat} {p k1 k2 pos : Pos} (T : Mo X.K X.mg) (room : Room 9 X.A) (gl : Gl X "shares") (px : Passes (L2.CX X.prog X.w) X E) (ha : PE X ea (tVar i)) (hb : PE X eb (tVar j))
    (all : (backToKw pos (keywordEach [⟨some "sheet", eb, k1⟩, ⟨some "book", ea, k2⟩] X.env)).all (·.1.isSome) = true := by rfl) (names : (backToKw pos (keywordEach [⟨some "sheet", eb, k1⟩, ⟨some "book", ea, k2⟩] X.env)).filterMap (·.1) = (["sheet", "book"] : List Str) := by rfl)
    (flat : ((backTo pos (starEach [] X.env)).any (·.1) || (backToKw pos (keywordEach [⟨some "sheet", eb, k1⟩, ⟨some "book", ea, k2⟩] X.env)).any (·.1.isNone)) = false := by rfl) :
    PE X (.Call (.Name "shares" p) [] [⟨some "sheet", eb, k1⟩, ⟨some "book", ea, k2⟩] pos) (tCall (SpX 2 (pShares X.K)) [] E (tCons (tVar i) (tCons (tVar j) tNil))) := by
  obtain ⟨f, fd, F, gm, keep, _, kb⟩ := d_sharesF (P := X.prog) (w := X.w) (base := X.base) T
  refine ⟨fun pins s σ H Q I h => ?_⟩
  obtain ⟨va, sa, vb, sb, q⟩ := h
  refine wpAny_Call_Name_kw (ld_glob I gl gm ?_ (by decide))
  refine PySem.W.callWith_KW0 (h₀ := X.base) I.ok.mod.kin keep all ?_ flat
  refine thn ((pk_cons hb (pk_cons ha pk_nil)).run pos pins s σ H (fun zs H2 => zs = [vb, va] ∧ H2 = H) I ⟨vb, sb, va, sa, rfl, rfl⟩) fun ws s2 ⟨zs, H2, I2, rz, ez, eH⟩ => ⟨I2.kIn, ?_⟩
  subst ez eH
  rw [names]
  exact run_fnN (us := []) (vs := []) F room kb px I2 .nil rz rfl rfl q
end
end FD
namespace FD
open PySem PyProof.Rows L2
/-! ### _law_same: True for equal data -/
def Smp : Nat → PyData → Prop
  | 0, d => (∃ s, d = .str s) ∨ ∃ i, d = .int i
  | n + 1, d => ((∃ s, d = .str s) ∨ ∃ i, d = .int i) ∨ ∃ ds, (d = .list ds ∨ d = .tuple ds) ∧ ds.length ≤ 100000 ∧ ∀ x ∈ ds, Smp n x
section
variable {b : Option (Addr × Addr)} {σ : L2.St} {G H : Hp} {K : PySem.W.Frag}
/-- a step made while more was in mind -/
theorem Stp.less {B : Addr → Prop} {G G1 H G2 H2 : Hp} (x : Stp B G1 H G2 H2) (h : Same G G1) : Stp B G H G H2 := ⟨Same.refl G, fun a u e => x.gh a u (x.gg a u (h a u e)), x.hh, x.al, fun _ e _ => e⟩
/-- a reading whose answer leans on no heap may be told of all that is there -/
theorem ev_full {t : TE} {p : V → Prop} (h : ∀ H, Same G H → Ev none t σ H fun v _ => p v) : Ev none t σ G fun v _ => p v :=
  fun H w Q k => h H w.same H (Wd.none (Same.refl H)) Q fun v G' H' s _ q => k v G H' (s.less w.same) (Wd.none (s.less w.same).gh) q
theorem tvar_at {i : Nat} {v : V} {Q : V → Hp → Prop} (h : σ[i]? = some (some v)) (q : Q v H) : tVar i σ H Q := ⟨v, h, q⟩
end
section
variable {P : Program} {w : World} {K : PySem.W.Frag} {mg : Str → Option Value} {base : Heap}
local macro_rules | `(tactic| walk_at "ev") => `(tactic| repeat (first | with_reducible refine s_seq ?_ | with_reducible refine s_skip ?_ | with_reducible refine s_gn ?_ | with_reducible refine ev_op ?_ | with_reducible refine ev_un ?_ | ((with_reducible refine' ev_var ?hv ?_); (case hv => rfl)) | with_reducible refine ev_c ?_ | with_reducible refine ev_cb ?_ | with_reducible refine ea_cons ?_ | with_reducible refine ea_nil ?_ | with_reducible refine et_test ?_ | with_reducible refine et_B ?_ | with_reducible refine s_ret (by assumption) ?_ | with_reducible refine s_asg (by assumption) ?_))
def pSame (K : PySem.W.Frag) (d : Nat) : List V → Hp → (V → Hp → Prop) → Prop := fun vs G P => ∃ u v : V, vs = [u, v] ∧ ((∃ D, Smp d D ∧ Dp K G u D ∧ Dp K G v D) ∨
    (3 ≤ d ∧ ∃ (f1 f2 : Addr) (l : List (List Str)) (g : List Str → Int), u = .ref f1 ∧ v = .ref f2 ∧ G f1 = some (.dT (tkvs l g)) ∧ G f2 = some (.dT (tkvs l g)) ∧ l.length ≤ 1000 ∧ l.Nodup ∧ ∀ t ∈ l, t.length ≤ 1000)) ∧ ∀ G', Same G G' → P (.bl true) G'
/-- the key tuples in a list -/
theorem keys_dp {H : Hp} : ∀ {l : List (List Str)} {g : List Str → Int} {bs : List Addr}, IsKeys H (tkvs l g) bs → DpAll K H (bs.map V.ref) (l.map encT)
  | [], _, _, h => by
    cases h
    exact .nil
  | t :: l, g, _, h => by
    cases h with
    | @cons _ b _ bs e r => exact .cons (.tup (SqT.of (by rw [e, tKey_kV])) (dpa_strs t)) (keys_dp r)
abbrev rListDT : List V → Hp → VK → Prop := fun xs H Q => ∃ d kvs, xs = [V.ref d] ∧ Rd H d (.dT kvs) ∧ ∀ p bs, H p = none → IsKeys H kvs bs → Q (.ref p) (upd H p (.lst (bs.map V.ref)))
theorem isKeys_new {H : Hp} {p : Addr} {o : HO} {kvs : List (List Key × V)} {bs : List Addr} (h : IsKeys H kvs bs) (n : H p = none) : IsKeys (upd H p o) kvs bs := by
  unfold IsKeys at *
  exact paired_imp (fun _ _ e => by rw [upd_ne (ne_of_none e n)]; exact e) h
/-- _law_same(list(x), list(y)) of two dicts with the same keys -/
theorem ev_sameKeys {σ : L2.St} {G : Hp} {E : XK} {d i j : Nat} {f1 f2 : Addr} {l : List (List Str)} {g : List Str → Int} (hi : σ[i]? = some (some (.ref f1))) (hj : σ[j]? = some (some (.ref f2))) (h1 : G f1 = some (.dT (tkvs l g))) (h2 : G f2 = some (.dT (tkvs l g))) (hl : l.length ≤ 1000) (ht : ∀ t ∈ l, t.length ≤ 1000) :
    Ev none (tCall (SpP 2 (pSame K (d + 2))) [] E (tCons (tCB rListDT (tCons (tVar i) tNil)) (tCons (tCB rListDT (tCons (tVar j) tNil)) tNil))) σ G fun v _ => v = .bl true := by
  intro H w Q k
  refine tvar_at hi ⟨f1, _, rfl, .inl (w.same _ _ h1), fun p1 bs1 n1 k1 => ?_⟩
  have e1 := upd_ne (H := H) (a := p1) (o := .lst (bs1.map V.ref)) (ne_of_none (w.same _ _ h2) n1)
  refine tvar_at hj ⟨f2, _, rfl, .inl (e1.trans (w.same _ _ h2)), fun p2 bs2 n2 k2 => ?_⟩
  generalize eH1 : upd H p1 (.lst (bs1.map V.ref)) = H1 at n2 k2
  have np : p1 ≠ p2 := ne_of_none (o := .lst (bs1.map V.ref)) (by rw [← eH1]; exact upd_same) n2
  have s2 : Stp (Bg none) G H G (upd H1 p2 (.lst (bs2.map V.ref))) := by
    have s1 := (Stp.refl (B := Bg none) w.same).newP (o := .lst (bs1.map V.ref)) n1
    rw [eH1] at s1
    exact s1.newP n2
  have k1' : IsKeys (upd H1 p2 (.lst (bs2.map V.ref))) (tkvs l g) bs1 := by
    refine isKeys_new ?_ n2
    rw [← eH1]
    exact isKeys_new k1 n1
  have k2' := isKeys_new (o := .lst (bs2.map V.ref)) k2 n2
  have l1 : upd H1 p2 (.lst (bs2.map V.ref)) p1 = some (.lst (bs1.map V.ref)) := by rw [upd_ne np, ← eH1]; exact upd_same
  have l2 : upd H1 p2 (.lst (bs2.map V.ref)) p2 = some (.lst (bs2.map V.ref)) := upd_same
  generalize upd H1 p2 (.lst (bs2.map V.ref)) = H2 at s2 k1' k2' l1 l2
  show SpP 2 (pSame K (d + 2)) ([.ref p1, .ref p2] ++ []) H2 Q E
  refine ⟨rfl, H2, fun v _ => v = .bl true, Same.refl _, ⟨_, _, rfl, .inl ⟨.list (l.map encT), .inr ⟨_, .inl rfl, by rw [List.length_map]; omega, fun x hx => ?_⟩, .lst (SqL.of l1) (keys_dp k1'), .lst (SqL.of l2) (keys_dp k2')⟩, fun _ _ => rfl⟩, fun v G' H' s p => k v G H' ?_ ?_ p⟩
  · obtain ⟨t, htl, rfl⟩ := List.mem_map.mp hx
    refine .inr ⟨_, .inr rfl, ?_, fun y hy => ?_⟩
    · rw [List.length_map]
      exact Nat.le_trans (ht t htl) (by decide)
    · obtain ⟨z, _, rfl⟩ := List.mem_map.mp hy
      cases d with
      | zero => exact .inl ⟨z, rfl⟩
      | succ d => exact .inl (.inl ⟨z, rfl⟩)
  · exact s2.trans (s.less s2.gh)
  · exact Wd.none (s2.trans (s.less s2.gh)).gh
theorem paired_getR {α β : Type} {F : α → β → Prop} : ∀ {xs : List α} {ys : List β} {i : Nat} {y : β}, Paired F xs ys → ys[i]? = some y → ∃ x, xs[i]? = some x ∧ F x y
  | _, _, i, _, .nil, h => by simp at h
  | _, _, 0, _, .cons h _, e => ⟨_, rfl, by
    have q := Option.some.inj e
    rw [← q]
    exact h⟩
  | _, _, i + 1, _, .cons _ t, e => paired_getR (i := i) t e
theorem rv_isN {b : Option (Addr × Addr)} {G : Hp} {Q : V → Hp → Prop} {x : V} (p : Q (.bl (decide (x = .non))) G) : Rv b ((fun x y H Q => y = .non ∧ Q (.bl (decide (x = .non))) H : R2) x .non) G Q := Rv.here (fun _ _ _ q => ⟨rfl, q⟩) p
/-- isinstance of a dict by tuples -/
theorem rv_isiD {b : Option (Addr × Addr)} {G : Hp} {Q : V → Hp → Prop} {a : Addr} {kvs : List (List Key × V)} {T : String} {r : Bool} (h : G a = some (.dT kvs)) (hk : kitB "dict" T = some r) (p : Q (.bl r) G) : Rv b (rIsi K [.ref a, .ty T]) G Q :=
  Rv.here (fun H e Q q => ⟨.ref a, .ty T, _, .type T, r, rfl, .ty T, .base (.dT (e _ _ h)), kit_ty hk, q⟩) p
theorem rv_isi2N {b : Option (Addr × Addr)} {G : Hp} {Q : V → Hp → Prop} {v : V} {n : String} {t : Addr} (h : ∀ H, Same G H → TyX K H v (.type n)) (k1 : kitB n "list" = some false) (k2 : kitB n "tuple" = some false) (ht : G t = some (.tup [.ty "list", .ty "tuple"])) (p : Q (.bl false) G) : Rv b (rIsiT K [v, .ref t]) G Q :=
  Rv.here (fun H e Q q => ⟨v, t, _, _, _, false, rfl, e _ _ ht, .cons (.ty _) (.cons (.ty _) .nil), h H e, kitAny_cons (b := false) (kit_ty k1) (fun _ => kitAny_cons (b := false) (kit_ty k2) (fun _ => rfl) (fun z => nomatch z)) (fun z => nomatch z), q⟩) p
theorem same_step (T : Mo K mg) {k : Nat} {pre' : List V → Hp → (V → Hp → Prop) → Prop} (d : Nat) (DS : Def P w K mg base CX0 k "_law_same" ["_law_got_here", "_law_due"] (SpP 2 pre')) (hpre : ∀ e, d = e + 1 → pre' = pSame K e) : Def P w K mg base CX0 (k + 2) "_law_same" ["_law_got_here", "_law_due"] (SpP 2 (pSame K d)) := by
  obtain ⟨fd, F⟩ := T.f__law_same
  have hk : k ≤ k + 1 := Nat.le_succ k
  refine ⟨_, fd, F.ok sc__law_same spP_len (fun cdv A outer s H vs Q E hr h => ?_), T.g__law_same, F.kp, F.bindsN fun _ _ _ _ _ _ us hl => match us, hl with | [_, _], _ => rfl⟩
  have hu := hu_of hr
  obtain ⟨_, G, P, sm, hp, kq⟩ := h
  have wd : Wd none G H := .none sm
  refine ⟨_, PSs.nox (pss_cons (ps_if (PW.pt (pw_or (pt_cmpR op_isN (pv 1) pe_non (by rfl)) (pw_or1 (pt_cmpR op_isN (pv 0) pe_non (by rfl))))) (pss_one (ps_ret (pe_and (pe_cmpR op_isN (pv 1) pe_non (by rfl)) (pe_one (pe_cmpR op_isN (pv 0) pe_non (by rfl)))))) pss_nil)
    (pss_cons (ps_if (pt_val (pe_callB call_isiT (by rfl) T.n_isinstance (by decide +kernel) (pa_cons (pv 1) (pa_cons (pe_tup (pa_cons (pe_bltn (v := .ty "list") (by rfl) T.n_list (by decide +kernel) rfl) (pa_cons (pe_bltn (v := .ty "tuple") (by rfl) T.n_tuple (by decide +kernel) rfl) pa_nil))) pa_nil)))) (pss_cons (ps_if (PW.pt (pw_or (pt_cmpR op_ne (pe_callB call_isi (by rfl) T.n_isinstance (by decide +kernel) (pa_cons (pv 0) (pa_cons (pe_bltn (v := .ty "list") (by rfl) T.n_list (by decide +kernel) rfl) pa_nil))) (pe_callB call_isi (by rfl) T.n_isinstance (by decide +kernel) (pa_cons (pv 1) (pa_cons (pe_bltn (v := .ty "list") (by rfl) T.n_list (by decide +kernel) rfl) pa_nil))) (by rfl)) (pw_or1 (pt_cmpR op_ne (pe_callB call_isi (by rfl) T.n_isinstance (by decide +kernel) (pa_cons (pv 0) (pa_cons (pe_bltn (v := .ty "tuple") (by rfl) T.n_tuple (by decide +kernel) rfl) pa_nil))) (pe_callB call_isi (by rfl) T.n_isinstance (by decide +kernel) (pa_cons (pv 1) (pa_cons (pe_bltn (v := .ty "tuple") (by rfl) T.n_tuple (by decide +kernel) rfl) pa_nil))) (by rfl))))) (pss_one (ps_ret pe_bl)) pss_nil)
    (pss_one (ps_ret (pe_and (pe_cmpR op_eq (pe_callB call_len_seq (by rfl) T.n_len (by decide +kernel) (pa_cons (pv 0) pa_nil)) (pe_callB call_len_seq (by rfl) T.n_len (by decide +kernel) (pa_cons (pv 1) pa_nil)) (by rfl)) (pe_one (pe_callB (cr_all rfl) (by rfl) T.n_all (by decide +kernel) (pa_cons (pe_lc (own := [("_law_a", 2), ("_law_b", 3)]) (g := gTup K 2 (gCons (gName 2) (gCons (gName 3) gNil))) (tt := tYes) rfl sc__law_same.nd (RZ.pi_zipA (by rfl) T.n_zip (pa_cons (pv 0) (pa_cons (pv 1) pa_nil))) (blkOk_by (N := ["_law_got_here", "_law_due", "_law_a", "_law_b"]) (sc := defScope s__law_same) (by decide +kernel)) (fun _ _ _ _ _ => (pg_tup rfl (pgs_cons (pg_name (i := 2) sc__law_same.nd rfl (Or.inl rfl)) (pgs_cons (pg_name (i := 3) sc__law_same.nd rfl (Or.inl rfl)) pgs_nil)))) (fun _ _ _ _ _ => pts_nil) (fun _ _ _ _ _ => (blk_te (pe_d DS (hr.mono hk) (by rfl) pass0 (pa_cons (pv 2) (pa_cons (pv 3) pa_nil))) (by (try dsimp only [Cx.blk, Cx.nox, cxOf]); (try rfl))))) pa_nil))))))) pss_nil)
    (pss_cons (ps_if (pt_val (pe_callB call_isi (by rfl) T.n_isinstance (by decide +kernel) (pa_cons (pv 1) (pa_cons (pe_bltn (v := .ty "dict") (by rfl) T.n_dict (by decide +kernel) rfl) pa_nil)))) (pss_cons (ps_if (PW.pt (pw_or (pt_not (pt_val (pe_callB call_isi (by rfl) T.n_isinstance (by decide +kernel) (pa_cons (pv 0) (pa_cons (pe_bltn (v := .ty "dict") (by rfl) T.n_dict (by decide +kernel) rfl) pa_nil))))) (pw_or1 (pt_not (pt_val (pe_d DS (hr.mono hk) (by rfl) pass0 (pa_cons (pe_callTy (call_list_dT rfl) (by rfl) T.n_list (by decide +kernel) (pa_cons (pv 0) pa_nil)) (pa_cons (pe_callTy (call_list_dT rfl) (by rfl) T.n_list (by decide +kernel) (pa_cons (pv 1) pa_nil)) pa_nil)))))))) (pss_one (ps_ret pe_bl)) pss_nil)
    (pss_one (ps_ret (pe_callB (cr_all rfl) (by rfl) T.n_all (by decide +kernel) (pa_cons (pe_lc (own := [("_law_a", 2)]) (g := gName 2) (tt := tYes) rfl sc__law_same.nd (pi_list (pe_callTy (call_list_dT rfl) (by rfl) T.n_list (by decide +kernel) (pa_cons (pv 1) pa_nil))) (blkOk_by (N := ["_law_got_here", "_law_due", "_law_a", "_law_b"]) (sc := defScope s__law_same) (by decide +kernel)) (fun _ _ _ _ _ => (pg_name (i := 2) sc__law_same.nd rfl (Or.inl rfl))) (fun _ _ _ _ _ => pts_nil) (fun _ _ _ _ _ => (blk_te (pe_d DS (hr.mono hk) (by rfl) pass0 (pa_cons (pe_dget hu (pv 0) (pv 2) (fun _ _ => rfl)) (pa_cons (pe_dget hu (pv 1) (pv 2) (fun _ _ => rfl)) pa_nil))) (by (try dsimp only [Cx.blk, Cx.nox, cxOf]); (try rfl))))) pa_nil))))) pss_nil)
    (pss_cons (ps_if (PW.pt (pw_or (pt_cmpR op_ne (pe_callB call_isi (by rfl) T.n_isinstance (by decide +kernel) (pa_cons (pv 1) (pa_cons (pe_bltn (v := .ty "bool") (by rfl) T.n_bool (by decide +kernel) rfl) pa_nil))) (pe_callB call_isi (by rfl) T.n_isinstance (by decide +kernel) (pa_cons (pv 0) (pa_cons (pe_bltn (v := .ty "bool") (by rfl) T.n_bool (by decide +kernel) rfl) pa_nil))) (by rfl)) (pw_or1 (pt_cmpR op_ne (pe_callB call_isi (by rfl) T.n_isinstance (by decide +kernel) (pa_cons (pv 1) (pa_cons (pe_bltn (v := .ty "int") (by rfl) T.n_int (by decide +kernel) rfl) pa_nil))) (pe_callB call_isi (by rfl) T.n_isinstance (by decide +kernel) (pa_cons (pv 0) (pa_cons (pe_bltn (v := .ty "int") (by rfl) T.n_int (by decide +kernel) rfl) pa_nil))) (by rfl))))) (pss_one (ps_ret pe_bl)) pss_nil)
    (pss_one (ps_ret (pe_and (pe_cmpR op_eq (pe_callB call_isi (by rfl) T.n_isinstance (by decide +kernel) (pa_cons (pv 1) (pa_cons (pe_bltn (v := .ty "str") (by rfl) T.n_str (by decide +kernel) rfl) pa_nil))) (pe_callB call_isi (by rfl) T.n_isinstance (by decide +kernel) (pa_cons (pv 0) (pa_cons (pe_bltn (v := .ty "str") (by rfl) T.n_str (by decide +kernel) rfl) pa_nil))) (by rfl)) (pe_one (pe_cmpR (op_eqW hr.units) (pv 0) (pv 1) (by rfl)))))))))) , ?_⟩
  obtain ⟨u, v, rfl, hd, kP⟩ := hp
  have nn : u ≠ .non ∧ v ≠ .non := by
    rcases hd with ⟨D, h1, h2, h3⟩ | ⟨_, f1, f2, l, g, rfl, rfl, _⟩
    · have : (∃ s, D = .str s) ∨ (∃ i, D = .int i) ∨ ∃ ds, D = .list ds ∨ D = .tuple ds := by
        cases d with
        | zero => exact h1.elim .inl fun z => .inr (.inl z)
        | succ d => rcases h1 with (z | z) | ⟨ds, z, _⟩; exact .inl z; exact .inr (.inl z); exact .inr (.inr ⟨ds, z⟩)
      rcases this with ⟨s, rfl⟩ | ⟨i, rfl⟩ | ⟨ds, rfl | rfl⟩ <;> cases h2 <;> cases h3 <;> exact ⟨fun z => (nomatch z), fun z => (nomatch z)⟩
    · exact ⟨fun z => (nomatch z), fun z => (nomatch z)⟩
  have fin : ∀ {G2 H2 H3}, Stp (Bg none) G H G2 H2 → H3 = H2 → Q (.bl true) H3 := fun s e => by rw [e]; exact kq _ _ _ s (kP _ s.gg)
  with_reducible refine s_seq ?_
  refine s_if wd (et_or (et_test ?_))
  walk_at "ev"
  refine rv_isN ⟨_, rfl, fun h => absurd (of_decide_eq_true h) nn.2, fun _ => et_test ?_⟩
  walk_at "ev"
  refine rv_isN ⟨_, rfl, fun H1 s1 w1 => ⟨fun h => absurd (of_decide_eq_true h) nn.1, fun _ => ?_⟩⟩
  refine s_skip ?_
  clear wd
  dsimp only
  with_reducible refine s_seq ?_
  rcases hd with ⟨D, hD, hu1, hv1⟩ | ⟨h3d, f1, f2, l, g, rfl, rfl, hf1, hf2, hl, hnd, hts⟩
  · have hcase : (∃ e ds, d = e + 1 ∧ (D = .list ds ∨ D = .tuple ds) ∧ ds.length ≤ 100000 ∧ ∀ x ∈ ds, Smp e x) ∨ (∃ s, D = .str s) ∨ ∃ i, D = .int i := by
      cases d with
      | zero => exact .inr hD
      | succ d => rcases hD with z | ⟨ds, z1, z2, z3⟩; exact .inr z; exact .inl ⟨d, ds, rfl, z1, z2, z3⟩
    rcases hcase with ⟨e, ds, rfl, hds, hdl, hsm⟩ | hsc
    · -- lists, tuples
      have hpe := hpre e rfl
      subst hpe
      have hul : DpE K G u ds := by rcases hds with z | z <;> rw [z] at hu1; exact .inl hu1; exact .inr hu1
      have hvl : DpE K G v ds := by rcases hds with z | z <;> rw [z] at hv1; exact .inl hv1; exact .inr hv1
      refine s_if w1 (et_B ?_)
      walk_at "ev"
      refine ev_tup (ea_cons (ev_c (ea_cons (ev_c (ea_nil ⟨by show 2 ≤ 1000000; decide, fun t ht => ea_nil (rv_isi2 (dpe_mono (same_new ht) hvl) upd_same ⟨_, rfl, fun H2 s2 w2 => ⟨fun _ => ?_, fun z => nomatch z⟩⟩)⟩)))))
      have hu2 := Dpm hu1 s2.gg
      have hv2 := Dpm hv1 s2.gg
      have hul2 := dpe_mono s2.gg hul
      have hvl2 := dpe_mono s2.gg hvl
      clear w1
      with_reducible refine s_seq ?_
      obtain ⟨bl, hbl, bt, hbt⟩ : ∃ bl, kitB (tyD D) "list" = some bl ∧ ∃ bt, kitB (tyD D) "tuple" = some bt := by
        rcases hds with z | z <;> rw [z]
        · exact ⟨true, (show kitB "list" "list" = some true by decide +kernel), false, (show kitB "list" "tuple" = some false by decide +kernel)⟩
        · exact ⟨false, (show kitB "tuple" "list" = some false by decide +kernel), true, (show kitB "tuple" "tuple" = some true by decide +kernel)⟩
      refine s_if w2 (et_or (et_test ?_))
      walk_at "ev"
      refine rv_isi hu2 hbl (ev_cb (ea_cons (ev_var rfl (ea_cons (ev_c (ea_nil (rv_isi hv2 hbl (rv_neB rfl ⟨_, rfl, fun h => ?_, fun _ => et_test ?_⟩))))))))
      · simp at h
      walk_at "ev"
      refine rv_isi hu2 hbt (ev_cb (ea_cons (ev_var rfl (ea_cons (ev_c (ea_nil (rv_isi hv2 hbt (rv_neB rfl ⟨_, rfl, fun H3 s3 w3 => ⟨fun h => ?_, fun _ => ?_⟩⟩))))))))
      · simp at h
      refine s_skip ?_
      clear w2
      dsimp only
      refine s_ret w3 (ev_andV ?_)
      walk_at "ev"
      refine rv_lenE hul2 ?_
      walk_at "ev"
      refine rv_lenE hvl2 (rv_eqB rfl ⟨_, rfl, fun _ => ?_, fun h => ?_⟩)
      · walk_at "ev"
        refine lcZA (K := K) id id ds ds (fun _ => true) (fun _ => .bool true) hdl (fun _ _ => rfl) ?_
        walk_at "ev"
        refine ⟨u, v, rfl, by rw [List.map_id]; rcases hds with z | z <;> rw [z] at hu2 hv2; exact .inl ⟨hu2, hv2⟩; exact .inr ⟨hu2, hv2⟩, fun x y G4 c e' hce e4 hx hy => et_yes ⟨rfl, fun _ => ?_⟩, fun bv G4 e4 hbv => ea_nil ?_⟩
        · obtain rfl : c = e' := by
            obtain ⟨i, h0⟩ := List.mem_iff_getElem?.mp hce
            obtain ⟨q1, q2⟩ := List.getElem?_zip_eq_some.mp h0
            exact Option.some.inj (q1.symm.trans q2)
          exact ev_call (ea_cons (ev_var rfl (ea_cons (ev_var rfl (ea_nil ⟨rfl, x, y, rfl, .inl ⟨c, hsm c (List.of_mem_zip hce).1, hx, hy⟩, fun G5 e5 => .bl true⟩)))))
        · rw [List.filter_eq_self.mpr fun _ _ => rfl] at hbv
          have hbv2 : Dp K G4 bv (.list (((ds.zip ds).map fun _ => true).map .bool)) := by rw [List.map_map]; exact hbv
          refine rv_all hbv2 fun H5 s5 w5 => ?_
          have e9 : ((ds.zip ds).map fun _ => true).all id = true := all_map_true fun _ _ => rfl
          rw [e9]
          have s9 := ((s1.trans s2).trans s3).trans s5
          exact kq _ _ _ s9 (kP _ s9.gg)
      · simp at h
    · -- texts, numbers
      obtain ⟨n, hn, k1, k2, k3, kb, kbe, ki, kie, ks, kse⟩ : ∃ n, tyD D = n ∧ kitB n "list" = some false ∧ kitB n "tuple" = some false ∧ kitB n "dict" = some false ∧ ∃ kb, kitB n "bool" = some kb ∧ ∃ ki, kitB n "int" = some ki ∧ ∃ ks, kitB n "str" = some ks := by
        rcases hsc with ⟨s, rfl⟩ | ⟨i, rfl⟩
        · exact ⟨"str", rfl, by decide +kernel, by decide +kernel, by decide +kernel, false, by decide +kernel, false, by decide +kernel, true, by decide +kernel⟩
        · exact ⟨"int", rfl, by decide +kernel, by decide +kernel, by decide +kernel, false, by decide +kernel, true, by decide +kernel, false, by decide +kernel⟩
      refine s_if w1 (et_B ?_)
      walk_at "ev"
      refine ev_tup (ea_cons (ev_c (ea_cons (ev_c (ea_nil ⟨by show 2 ≤ 1000000; decide, fun t ht => ea_nil (rv_isi2N (n := n) (fun H e => by rw [← hn]; exact dp_ty (Dpm hv1 ((same_new ht).trans e))) k1 k2 upd_same ⟨_, rfl, fun H2 s2 w2 => ⟨fun z => (nomatch z), fun _ => ?_⟩⟩)⟩)))))
      have hu2 := Dpm hu1 s2.gg
      have hv2 := Dpm hv1 s2.gg
      refine s_skip ?_
      clear w1
      dsimp only
      with_reducible refine s_seq ?_
      refine s_if w2 (et_B ?_)
      walk_at "ev"
      refine rv_isi hv2 (T := "dict") (r := false) (by rw [hn]; exact k3) ⟨_, rfl, fun H3 s3 w3 => ⟨fun z => (nomatch z), fun _ => ?_⟩⟩
      refine s_skip ?_
      clear w2
      dsimp only
      with_reducible refine s_seq ?_
      refine s_if w3 (et_or (et_test ?_))
      walk_at "ev"
      refine rv_isi hv2 (T := "bool") (r := kb) (by rw [hn]; exact kbe) (ev_cb (ea_cons (ev_var rfl (ea_cons (ev_c (ea_nil (rv_isi hu2 (T := "bool") (r := kb) (by rw [hn]; exact kbe) (rv_neB rfl ⟨_, rfl, fun h => ?_, fun _ => et_test ?_⟩))))))))
      · simp at h
      walk_at "ev"
      refine rv_isi hv2 (T := "int") (r := ki) (by rw [hn]; exact kie) (ev_cb (ea_cons (ev_var rfl (ea_cons (ev_c (ea_nil (rv_isi hu2 (T := "int") (r := ki) (by rw [hn]; exact kie) (rv_neB rfl ⟨_, rfl, fun H4 s4 w4 => ⟨fun h => ?_, fun _ => ?_⟩⟩))))))))
      · simp at h
      refine s_skip ?_
      clear w3
      dsimp only
      refine s_ret w4 (ev_andV ?_)
      walk_at "ev"
      refine rv_isi hv2 (T := "str") (r := ks) (by rw [hn]; exact kse) (ev_cb (ea_cons (ev_var rfl (ea_cons (ev_c (ea_nil (rv_isi hu2 (T := "str") (r := ks) (by rw [hn]; exact kse) (rv_eqB rfl ⟨_, rfl, fun _ => ?_, fun h => ?_⟩))))))))
      · walk_at "ev"
        rcases hsc with ⟨s, rfl⟩ | ⟨i, rfl⟩
        · refine rv_eqT (α := Str) s s hu2 hv2 (by decide) fun H5 s5 w5 => ?_
          rw [decide_eq_true rfl]
          have s9 := (((s1.trans s2).trans s3).trans s4).trans s5
          exact kq _ _ _ s9 (kP _ s9.gg)
        · refine rv_eqT (α := Int) i i hu2 hv2 (by decide) fun H5 s5 w5 => ?_
          rw [decide_eq_true rfl]
          have s9 := (((s1.trans s2).trans s3).trans s4).trans s5
          exact kq _ _ _ s9 (kP _ s9.gg)
      · simp at h
  · -- dicts
    obtain ⟨e, rfl⟩ : ∃ e, d = e + 3 := ⟨d - 3, by omega⟩
    have hpe := hpre (e + 2) rfl
    subst hpe
    refine s_if w1 (et_B ?_)
    walk_at "ev"
    refine ev_tup (ea_cons (ev_c (ea_cons (ev_c (ea_nil ⟨by show 2 ≤ 1000000; decide, fun t ht => ea_nil (rv_isi2N (n := "dict") (fun H e => .base (.dT (e _ _ (same_new ht _ _ hf2)))) (by decide +kernel) (by decide +kernel) upd_same ⟨_, rfl, fun H2 s2 w2 => ⟨fun z => (nomatch z), fun _ => ?_⟩⟩)⟩)))))
    have hf12 := s2.gg _ _ hf1
    have hf22 := s2.gg _ _ hf2
    refine s_skip ?_
    clear w1
    dsimp only
    with_reducible refine s_seq ?_
    refine s_if w2 (et_B ?_)
    walk_at "ev"
    refine rv_isiD hf22 (T := "dict") (r := true) (by decide +kernel) ⟨_, rfl, fun H3 s3 w3 => ⟨fun _ => ?_, fun z => nomatch z⟩⟩
    clear w2
    with_reducible refine s_seq ?_
    refine s_if w3 (et_or (et_not (et_B ?_)))
    walk_at "ev"
    refine rv_isiD hf12 (T := "dict") (r := true) (by decide +kernel) ⟨_, rfl, fun z => (nomatch z), fun _ => et_not (et_B ?_)⟩
    refine Ev.mono (ev_sameKeys (i := 0) (j := 1) rfl rfl hf12 hf22 hl hts) fun v4 G4 e4 h4 => ⟨true, h4, fun H4 s4 w4 => ⟨fun z => (nomatch z), fun _ => ?_⟩⟩
    refine s_skip ?_
    clear w3
    dsimp only
    have hf14 := s4.gg _ _ hf12
    have hf24 := s4.gg _ _ hf22
    refine s_ret w4 (Ev.mono (P := fun v _ => v = .bl true) ?_ fun v5 G5 e5 h5 H5 s5 w5 => ?_)
    · intro H5 w5 Q5 k5
      refine tvar_at rfl ⟨f2, _, rfl, .inl (w5.same _ _ hf24), fun p bs np ks => ?_⟩
      have s5 := (Stp.refl (B := Bg none) w5.same).newP (o := .lst (bs.map V.ref)) np
      have ks2 := isKeys_new (o := .lst (bs.map V.ref)) ks np
      have hp6 : upd H5 p (.lst (bs.map V.ref)) p = some (.lst (bs.map V.ref)) := upd_same
      have hf16 := s5.gh _ _ hf14
      have hf26 := s5.gh _ _ hf24
      generalize upd H5 p (.lst (bs.map V.ref)) = H6 at s5 ks2 hp6 hf16 hf26 ⊢
      have hbl : bs.length = l.length := by rw [← Paired.length ks2]; unfold tkvs; rw [List.length_map]
      refine Ev.mono (t := tCB (rAll K) (tCons (tLc (iList K (tC (.ref p))) (gName 2) tYes _ _) tNil)) (P := fun v _ => v = .bl true) ?_ (fun _ _ _ h => h) H6 (Wd.none (Same.refl H6)) Q5 fun v G' H' s' _ q => k5 v _ H' (s5.trans (s'.less s5.gh)) (Wd.none (s5.trans (s'.less s5.gh)).gh) q
      refine ev_cb (ea_cons (lcL (K := K) (ev_c ⟨p, _, rfl, SqL.of hp6, by rw [List.length_map]; omega, fun i acc G => Same H6 G ∧ DpAll K G acc ((List.replicate i true).map .bool), ⟨Same.refl _, .nil⟩, ?_, ?_⟩)))
      · rintro i x G2 acc hx e2 ⟨_, hacc⟩ -
        obtain ⟨b, hb, rfl⟩ := get_map hx
        obtain ⟨kv, hkv, hkb⟩ := paired_getR ks2 hb
        obtain ⟨t, ht, rfl⟩ := get_map hkv
        have htl := List.mem_of_getElem? ht
        have hta : TupAt G2 (.ref b) t := ⟨b, rfl, e2 _ _ (by rw [hkb, tKey_kV])⟩
        refine ⟨_, fun _ _ => gv_name, rfl, et_yes ⟨fun _ => ?_, fun z => nomatch z⟩⟩
        refine ev_call (ea_cons (ev_dgetT rfl rfl hta (e2 _ _ hf16) (tkvs_in htl) (ea_cons (ev_dgetT rfl rfl hta (e2 _ _ hf26) (tkvs_in htl) (ea_nil ⟨rfl, _, _, rfl, .inl ⟨.int (g t), .inl (.inr ⟨_, rfl⟩), .int _, .int _⟩, fun G3 e3 => ⟨e2.trans e3, ?_⟩⟩)))))
        rw [List.replicate_succ', List.map_append]
        exact dpa_snoc (Dpam hacc e3) (.bl true)
      · rintro acc G2 e2 ⟨_, hacc⟩ - q hq
        have hbv := dp_newL hacc hq
        refine ea_nil (rv_all hbv ?_)
        rw [List.all_eq_true.mpr fun x hx => by rw [(List.mem_replicate.mp hx).2]; rfl]
    · rw [h5]
      have s9 := (((s1.trans s2).trans s3).trans s4).trans s5
      exact kq _ _ _ s9 (kP _ s9.gg)
theorem d_same (T : Mo K mg) : ∀ d : Nat, Def P w K mg base CX0 (2 * d + 2) "_law_same" ["_law_got_here", "_law_due"] (SpP 2 (pSame K d))
  | 0 => by
    obtain ⟨fd, F⟩ := T.f__law_same
    refine same_step (k := 0) (pre' := fun _ _ _ => False) T 0 ⟨_, fd, ⟨spP_len, fun _ _ _ _ _ _ _ _ _ _ _ _ _ h => ?_⟩, T.g__law_same, F.kp, F.bindsN fun _ _ _ _ _ _ us hl => match us, hl with | [_, _], _ => rfl⟩ fun e h => by omega
    obtain ⟨_, _, _, _, z, _⟩ := h
    exact z.elim
  | d + 1 => same_step (k := 2 * d + 2) T (d + 1) (d_same T d) fun e h => by rw [Nat.succ.inj h]
end
end FD
namespace FD
set_option maxHeartbeats 2000000
open PySem PySem.Spec PyProof.Rows L2 LamX
/-! ### objects known as they are -/
/-- the very object at a -/
def ObjO (a : Addr) (o : Obj) : HO := .ext fun h => h.get? a = some o
def addO (H : Hp) (os : Addr → Option Obj) : Hp := fun a => match os a with
  | some o => some (ObjO a o)
  | none => H a
def rem (H : Hp) (os : Addr → Option Obj) : Hp := fun a => match os a with
  | some _ => none
  | none => H a
section
variable {P : Program} {w : World} {H H' : Hp} {h h' B : Heap} {os : Addr → Option Obj} {a : Addr} {o : Obj} {u : HO}
theorem addO_in (e : os a = some o) : addO H os a = some (ObjO a o) := by unfold addO; rw [e]
theorem addO_out (e : os a = none) : addO H os a = H a := by unfold addO; rw [e]
theorem rem_in (e : os a = some o) : rem H os a = none := by unfold rem; rw [e]
theorem rem_out (e : os a = none) : rem H os a = H a := by unfold rem; rw [e]
theorem rem_some (e : rem H os a = some u) : os a = none ∧ H a = some u := by
  cases q : os a with
  | some o => rw [rem_in q] at e; cases e
  | none => rw [rem_out q] at e; exact ⟨rfl, e⟩
theorem objO_ok (e : h.get? a = some o) : ObjOk P w H h a (ObjO a o) := ⟨e, ⟨o, e⟩, fun _ _ x k => k _ x⟩
theorem objO_at (x : HOk P w H h) (e : H a = some (ObjO a o)) : h.get? a = some o := (x a _ e).1
theorem objO_own {x : Addr} : ObjO a o ≠ .own x := fun z => by unfold ObjO at z; cases z
theorem objO_tup {xs : List V} : ObjO a o ≠ .tup xs := fun z => by unfold ObjO at z; cases z
theorem objO_frz {p : Obj} {v : HO} : ObjO a o ≠ .frz p v := fun z => by unfold ObjO at z; cases z
theorem objO_tbl {ps : Array Value} : ObjO a o ≠ .tbl ps := fun z => by unfold ObjO at z; cases z
/-- what is known of such objects is let go -/
theorem rem_ok (x : HOk P w H h) (k : ∀ a o, os a = some o → H a = some (ObjO a o)) : HOk P w (rem H os) h := fun a u e => by
  obtain ⟨e1, e2⟩ := rem_some e
  refine (x a u e2).stay (fun _ _ _ q => q) (fun b q => ?_) fun b xs q => ?_
  · cases z : os b with
    | none => rw [rem_out z]; exact q
    | some ob => rw [k b ob z] at q; exact absurd (Option.some.inj q) objO_own
  · cases z : os b with
    | none => rw [rem_out z]; exact q
    | some ob => rw [k b ob z] at q; exact absurd (Option.some.inj q) objO_tup
/-- such objects are known from now on -/
theorem add_ok (x : HOk P w H h) (n : ∀ a o, os a = some o → H a = none) (k : ∀ a o, os a = some o → h.get? a = some o) : HOk P w (addO H os) h := fun a u e => by
  cases z : os a with
  | some o =>
    rw [addO_in z] at e
    cases e
    exact objO_ok (k a o z)
  | none =>
    rw [addO_out z] at e
    refine (x a u e).stay (fun _ _ _ q => q) (fun b q => ?_) fun b xs q => ?_
    · cases z2 : os b with
      | none => rw [addO_out z2]; exact q
      | some ob => rw [n b ob z2] at q; cases q
    · cases z2 : os b with
      | none => rw [addO_out z2]; exact q
      | some ob => rw [n b ob z2] at q; cases q
theorem rem_env {K : PySem.W.Frag} {mg : Str → Option Value} {base : Heap} {A : Around} {outer : List Env} {s : Shared} (e : Env0 P w K mg base A outer s H) (k : ∀ a o, os a = some o → H a = some (ObjO a o)) : Env0 P w K mg base A outer s (rem H os) := by
  have off : ∀ b, H b = none → rem H os b = none := fun b q => by
    cases z : os b with
    | none => rw [rem_out z]; exact q
    | some ob => exact rem_in z
  exact ⟨e.frames, e.mod, fun b o q => ⟨(e.bs b o q).1, off b (e.bs b o q).2⟩, e.bsz, e.funs, fun b q => off b (e.frf b q), rem_ok e.hok k, e.bare⟩
/-- an exception that left a call over less: seen over more -/
theorem cx_add {outer : List Env} {s s' : Shared} {E : XK} {v : Value} (k : ∀ a o, os a = some o → H a = some (ObjO a o)) (ok : HOk P w H s.heap) (fr : ∀ b ∈ frs outer, H b = none)
    (c : L2.CX P w outer (rem H os) s (fun cls d Ht => (∀ a o, os a = some o → Ht a = none) → E cls d (addO Ht os)) v s') : L2.CX P w outer H s E v s' := by
  obtain ⟨a, B, Ht, cls, d, rfl, fl, hok, ub, na, ho, ag, hE⟩ := c
  have there : ∀ b o, os b = some o → s.heap.get? b = some o ∧ b ∉ frs outer := fun b o z => ⟨objO_at ok (k b o z), fun hb => by
    have := fr b hb
    rw [k b o z] at this
    cases this⟩
  have inB : ∀ b o, os b = some o → B.get? b = some o := fun b o z => ub.keep b o (there b o z).1 (rem_in z) (there b o z).2
  have free : ∀ b o, os b = some o → Ht b = none := fun b o z => ub.free b o (there b o z).1 (rem_in z)
  have out : ∀ b, H b = none → os b = none := fun b q => by
    cases z : os b with
    | none => rfl
    | some o => rw [k b o z] at q; cases q
  have na2 : os a = none := by
    cases z : os a with
    | none => rfl
    | some o =>
      have h1 := inB a o z
      rw [fl.2.1] at h1
      cases h1
  have known : ∀ b u, H b = some u → (∀ o, u ≠ ObjO b o) → os b = none := fun b u q n => by
    cases z : os b with
    | none => rfl
    | some o =>
      rw [k b o z] at q
      exact absurd (Option.some.inj q).symm (n o)
  refine ⟨a, B, addO Ht os, cls, d, rfl, fl, add_ok hok free inB, ⟨fun b o e n hb => ?_, ub.slot, fun b o e n => ?_, ub.there, fun b xs q => ?_, fun b o v q => ?_, fun b ps q => ?_⟩, by rw [addO_out na2]; exact na, ho, ag, hE free⟩
  · exact ub.keep b o e (by rw [rem_out (out b n)]; exact n) hb
  · rw [addO_out (out b n)]
    exact ub.free b o e (by rw [rem_out (out b n)]; exact n)
  · have z := known b _ q fun o e => objO_tup e.symm
    rw [addO_out z]
    exact ub.tups b xs (by rw [rem_out z]; exact q)
  · have z := known b _ q fun o e => objO_frz e.symm
    rw [addO_out z]
    exact ub.frzs b o v (by rw [rem_out z]; exact q)
  · have z := known b _ q fun o e => objO_tbl e.symm
    obtain ⟨more, e⟩ := ub.tbls b ps (by rw [rem_out z]; exact q)
    exact ⟨more, by rw [addO_out z]; exact e⟩
end
/-! ### a lambda without parameters, as a thing that is known -/
structure LamD where
  q : Str
  params : Arguments
  body : Expr
  scope : Scope
abbrev lamO (L : LamD) (clo : List (Str × Addr)) (pm : Value) (c' : Addr) (ctv : Value) : Obj := PySem.W.kla_obj "<lambda>" L.q L.params L.body L.scope clo pm c' ctv
/-- the function object of L at f, whose captured names are N and stand for σ -/
def AskAt (H : Hp) (f : Addr) (L : LamD) (N : List Str) (σ : List V) (os : Addr → Option Obj) : Prop := ∃ (pm ctv : Value) (c' : Addr) (clo : List (Str × Addr)),
  H f = some (ObjO f (lamO L clo pm c' ctv)) ∧ H c' = some (CodeO c' L.q) ∧ (∀ a o, os a = some o → H a = some (ObjO a o)) ∧ (∀ x y c, clo.lookup x = some c → clo.lookup y = some c → x = y) ∧
  (∀ x, L.scope.names.lookup x = some .free → ∃ c, clo.lookup x = some c) ∧ (∀ x c, clo.lookup x = some c → ∃ o v, os c = some o ∧ o.data = .cell v) ∧
  ∀ (i : Nat) (x : Str) (v : V), N[i]? = some x → σ[i]? = some v → ∃ c o u, L.scope.names.lookup x = some .free ∧ clo.lookup x = some c ∧ os c = some o ∧ o.data = .cell (some u) ∧ RelV v u
theorem askAt_mono {H H' : Hp} {f : Addr} {L : LamD} {N : List Str} {σ : List V} {os : Addr → Option Obj} (h : AskAt H f L N σ os) (s : Same H H') : AskAt H' f L N σ os := by
  obtain ⟨pm, ctv, c', clo, h1, h2, h3, r⟩ := h
  exact ⟨pm, ctv, c', clo, s _ _ h1, s _ _ h2, fun a o z => s _ _ (h3 a o z), r⟩
abbrev lamEnvB (L : LamD) (clo : List (Str × Addr)) (loc f c' : Addr) : Env := PySem.W.envX L.q L.scope loc f (.ref c') clo
/-- its body running, called at s -/
def lamCxB (P : Program) (w : World) (K : PySem.W.Frag) (mg : Str → Option Value) (base : Heap) (A : Around) (outer : List Env) (s : Shared) (H : Hp) (E : XK) (L : LamD) (clo : List (Str × Addr)) (f c' : Addr) (N : List Str) : Cx where
  prog := P
  w := w
  K := K
  mg := mg
  base := base
  A := A.deeper (lamEnvB L clo s.heap.objs.size f c')
  N := N
  s_0 := s
  H_0 := H
  env := lamEnvB L clo s.heap.objs.size f c'
  outer := outer
  stack := lamEnvB L clo s.heap.objs.size f c' :: outer
  ex := []
  fn := fun _ => false
  calm := true
  pn := []
  xe := fun e s' => wpAny (model P w) (A.deeper (lamEnvB L clo s.heap.objs.size f c')) (leaving (lamEnvB L clo s.heap.objs.size f c') e) (fun _ s'' => L2.CX P w outer H s E e s'') (fun e' s'' => L2.CX P w outer H s E e' s'') s'
/-- what of the text a lambda must have: its promise sp at the captured values -/
structure LamOk (P : Program) (w : World) (K : PySem.W.Frag) (mg : Str → Option Value) (base : Heap) (L : LamD) (N : List Str) (k : Nat) (tb : XK → TE) : Prop where
  kind : L.scope.kind = .function
  co : L.scope.isCoroutine = false
  gen : L.scope.isGenerator = false
  own : ∀ y ∈ L.scope.names, y.2 ≠ .local ∧ y.2 ≠ .cell
  bind : ∀ (cl : List (Str × Addr)) (pm cv ctv : Value), bindArgs (PySem.W.kla_fn "<lambda>" L.q L.params L.body L.scope cl pm cv ctv) ⟨[], []⟩ = pure []
  body : ∀ (A : Around) (outer : List Env) (s : Shared) (H : Hp) (E : XK) (clo : List (Str × Addr)) (f c' : Addr), Room k (A.deeper (lamEnvB L clo s.heap.objs.size f c')) → PE (lamCxB P w K mg base A outer s H E L clo f c' N) L.body (tb E)
section
variable {P : Program} {w : World} {K : PySem.W.Frag} {mg : Str → Option Value} {base : Heap}
theorem lamB_start {A : Around} {outer : List Env} {s : Shared} {H : Hp} {E : XK} {L : LamD} {clo : List (Str × Addr)} {f c' : Addr} {N : List Str} {k : Nat} {tb : XK → TE} {h₁ : Heap} {tk : Nat} {σ : L2.St} (O : LamOk P w K mg base L N k tb) (e0 : Env0 P w K mg base A outer s H) (hd : A.handled = none)
    (hns : h₁.Ns s.heap.objs.size fun y => ([] : List (Str × Value)).reverse.lookup y) (kp : ∀ b o, s.heap.get? b = some o → h₁.get? b = some o) (inj : ∀ x y c, clo.lookup x = some c → clo.lookup y = some c → x = y)
    (has : ∀ x, L.scope.names.lookup x = some .free → ∃ c, clo.lookup x = some c) (cells : ∀ x c, clo.lookup x = some c → H c = none ∧ ∃ v, s.heap.IsCell c v)
    (vals : ∀ (i : Nat) (x : Str) (v : V), N[i]? = some x → σ[i]? = some (some v) → ∃ u c, RelV v u ∧ L.scope.names.lookup x = some .free ∧ clo.lookup x = some c ∧ s.heap.IsCell c (some u)) (len : σ.length = N.length) :
    Inv (lamCxB P w K mg base A outer s H E L clo f c' N) [] σ H { s with heap := h₁, toks := tk } := by
  have up : ∀ {c : Addr} {v : Option Value}, s.heap.IsCell c v → h₁.IsCell c v := fun ⟨o, ho, hd⟩ => ⟨o, kp _ _ ho, hd⟩
  have noA : ∀ b : Addr, b ∉ (lamCxB P w K mg base A outer s H E L clo f c' N).ex := fun b z => nomatch (show b ∈ ([] : List Addr) from z)
  refine ⟨⟨e0.mod, O.kind, rfl, rfl, Nat.le_refl _, inj, fun y hy => ?_, fun y c z _ => ?_, fun _ => hd, Around.frames_deeper e0.frames, .inr ⟨rfl, rfl⟩, fun b z => absurd z (noA b), e0.bs, e0.bsz, fun b _ _ => noA b, fun b z => absurd z (noA b), e0.funs, e0.frf⟩,
    rfl, e0.bare, Un.kept kp, ⟨_, hns, fun i y v e1 e2 e3 => ?_⟩, fun y c e => ?_, e0.hok.fresh (Nat.le_refl _), fun y c e => (cells y c e).1, fun q hq => (nomatch (show q ∈ ([] : List (Addr × Obj)) from hq)), e0.hok.kept kp, len⟩
  · have hy : L.scope.names.lookup y = some .cell ∨ L.scope.names.lookup y = some .free := hy
    rcases hy with hy | hy
    · exact absurd rfl (O.own _ (PySem.mem_of_lookup hy)).2
    · exact has y hy
  · have z : false = true := z
    cases z
  · obtain ⟨u, c, r, hf, hc, ic⟩ := vals i y v e1 e2
    exact ⟨u, r, .inr ⟨.inr hf, c, hc, up ic⟩⟩
  · obtain ⟨v, ic⟩ := (cells y c e).2
    exact ⟨v, up ic⟩
/-- a(), a local that holds such a lambda, where what is raised is taken by W; the lambda always raises -/
theorem pe_ask {X : Cx} {L : LamD} {N : List Str} {k i : Nat} {tb : XK → TE} {a : Str} {W : WX} {p1 p2 : Pos} (O : LamOk X.prog X.w X.K X.mg X.base L N k tb) (tk : Takes X W) (room : Room (k + 1) X.A) (hN : X.N[i]? = some a) (hv : Vis X.env.scope a) (hd : (a == ("__debug__" : Str)) = false := by decide) (hcd : (a == ("__classdict__" : Str)) = false := by decide) :
    PE X (.Call (.Name a p1) [] [] p2) (fun σ H Q => ∃ f vs os, σ[i]? = some (some (.ref f)) ∧ AskAt H f L N vs os ∧ vs.length = N.length ∧ tb (fun cls d Ht => (∀ a o, os a = some o → Ht a = none) → W cls d σ (addO Ht os)) (vs.map some) (rem H os) fun _ _ => False) := by
  refine ⟨fun pins s σ H Q I h => ?_⟩
  obtain ⟨f, vs, os, hs, ⟨pm, ctv, c', clo, hf, hc, hos, inj, has, cel, val⟩, len, ht⟩ := h
  refine wpAny_Call_Name_kw (thn ((pe_var (pos := p1) (i := i) hN hv hd hcd).run pins s σ H (fun v H1 => v = .ref f ∧ H1 = H) I ⟨.ref f, hs, rfl, rfl⟩) fun u s1 ⟨v, H1, I1, r1, q1⟩ => ?_)
  obtain ⟨ev, eH⟩ := q1
  subst ev
  rw [eH] at I1
  obtain rfl : u = Value.ref f := r1
  have of1 := objO_at I1.hok hf
  refine PySem.W.callWith_F0 ⟨_, _, _, _, of1⟩ ?_
  obtain ⟨⟨oc, ws, t, hoc, hdc, hvc⟩, _, _⟩ := I1.hok c' _ hc
  have e0 := I1.env0
  have e0' := rem_env e0 hos
  have rc : codeAny (model X.prog X.w) X.A (.call (.ref f) ⟨[], []⟩) (CR (L2.CX X.prog X.w) X.stack X.prog X.w (rem H os) s1 (fun _ _ => False) (fun cls d Ht => (∀ a o, os a = some o → Ht a = none) → W cls d σ (addO Ht os))) s1 := by
    refine PySem.W.kla_callFunE room.depth of1 rfl O.co O.gen rfl ⟨c', oc, ws, t, rfl, hoc, hdc, hvc⟩ ?_
    rw [O.bind]
    refine wpAny_pure (wpAny_newFunctionEnv (fun y hy => (O.own y hy).2) (fun y hy => (nomatch hy)) (fun h₁ hns hsb => ⟨I1.nolimit.fresh _ hsb, ?_⟩) O.kind)
    show codeAny _ _ (.expr L.body (lamEnvB L clo s1.heap.objs.size f c')) _ _
    have kp : ∀ b o, s1.heap.get? b = some o → h₁.get? b = some o := fun b o e => hsb.extBut b o (Nat.ne_of_lt (Heap.lt_size e)) (Heap.get?_push_of_some _ e)
    have J : Inv (lamCxB X.prog X.w X.K X.mg X.base X.A X.stack s1 (rem H os) (fun cls d Ht => (∀ a o, os a = some o → Ht a = none) → W cls d σ (addO Ht os)) L clo f c' N) [] (vs.map some) (rem H os) { s1 with heap := h₁, toks := s1.toks + ([] : List (Str × Value)).length } :=
      lamB_start O e0' room.hd hns kp inj has (fun x c e => by
        obtain ⟨o, v, h1, h2⟩ := cel x c e
        exact ⟨rem_in h1, v, o, objO_at I1.hok (hos c o h1), h2⟩) (fun i x v e1 e2 => by
        rw [List.getElem?_map] at e2
        obtain ⟨v', e3, e4⟩ := Option.map_eq_some_iff.mp e2
        cases e4
        obtain ⟨c, o, u, h1, h2, h3, h4, h5⟩ := val i x v e1 e3
        exact ⟨u, c, h5, h1, h2, o, objO_at I1.hok (hos c o h3), h4⟩) (by rw [List.length_map]; exact len)
    refine PySem.W.kla_codeExpr (wpAny_mono ((O.body _ _ s1 (rem H os) _ clo f c' (room.deeper _)).run [] _ _ _ _ J ht) (fun v s' hq => ?_) fun e s' hq => hq)
    obtain ⟨w', H', J', rv, q⟩ := hq
    exact q.elim
  refine wpAny_call (codeAny_mono rc fun r s' hq => ?_)
  cases r with
  | error e => exact tk _ _ (XE.of_call (E := fun cls d Ht => W cls d σ Ht) I1 (fun _ _ _ z => z) (cx_add hos I1.hok e0.frf hq))
  | ok fl =>
    cases fl with
    | ret u =>
      obtain ⟨_, _, _, _, _, _, _, z⟩ := hq
      exact z.elim
    | next => exact False.elim hq
    | brk => exact False.elim hq
    | cont => exact False.elim hq
end
end FD
namespace FD
set_option maxHeartbeats 2000000
open PySem PySem.Spec PyProof.Rows L2 LamX
/-! ### x([lambda: ..], e): the lambda and the cells of its names are known while x runs -/
section
variable {X : Cx} {pins : List (Addr × Obj)} {σ : L2.St} {H : Hp} {s : Shared}
/-- all but the table at Pt stay -/
def ExtP (Pt : Addr) (H Ha : Hp) : Prop := ∀ b o, b ≠ Pt → H b = some o → Ha b = some o
/-- the lambda is made; f: where, beyond all that was -/
theorem lam_new {c Pt : Addr} {params : Arguments} {body : Expr} {scope : Scope} {pos : Pos} {q : Str} {E Q : Value → Shared → Prop} (I : Inv X pins σ H s) (TB : TabB X.base X.mg c Pt) (code : X.env.code = .ref c) (eq : q = X.env.qual ++ "<lambda>") (hT : TabS H Pt q)
    (nodef : defaultsOf params X.env = ([], [])) (caps : ∀ y ∈ scope.names, y.2 = .free → ∃ c, X.env.cells.lookup y.1 = some c)
    (next : ∀ (f c' : Addr) (pm ctv : Value) (Ha : Hp) (t : Shared), Inv X pins σ Ha t → ExtP Pt H Ha → TabS Ha Pt q → t.heap.get? f = some (PySem.W.kla_obj "<lambda>" q params body scope (cloFrom X.env.cells scope.names []) pm c' ctv) → s.heap.objs.size ≤ f → Ha f = none → Ha c' = some (CodeO c' q) → Q (.ref f) t) :
    wpAny (model X.prog X.w) X.A (eval (.Lambda params body scope pos) X.env) Q E s := by
  subst eq
  obtain ⟨ps, lies, tri, among⟩ := hT
  refine PySem.W.kla_eval nodef ?_
  have bm : s.heap.BuiltinsAt X.mg Pt := TB.bm.keeps I.bk
  have tab : s.heap.get? Pt = some { cls := .none, data := .fields ps } := I.hok Pt _ lies
  cases found : codeAmong pos ps.toList with
  | none =>
    refine PySem.W.kla_makeFunction (mg := X.mg) (c := c) (P := Pt) (ps := ps) (closure_ok caps) I.ok.glob (I.mod.glob.keeps I.bk) code (TB.code.keeps I.bk) tab tri found TB.gP bm fun c' ctv hp tk kept ge lt rec_ wrote => ?_
    obtain ⟨c2, oc, vs, t, ec, isC, dC, vC⟩ := rec_
    cases ec
    have freeC : H c' = none := I.hok.fresh ge
    have Ia := inv_table (t' := tk) (q := X.env.qual ++ "<lambda>") (more := #[rawInt pos.line, rawInt pos.col, .ref c']) (h' := hp.push (PySem.W.kla_obj "<lambda>" (X.env.qual ++ "<lambda>") params body scope (cloFrom X.env.cells scope.names []) ((X.mg "__name__").getD .none) c' ctv)) I lies
      (fun b o hb e => Heap.get?_push_of_some _ (kept b o hb e)) (Heap.get?_push_of_some _ wrote) ge ⟨oc, vs, t, Heap.get?_push_of_some _ isC, dC, vC⟩
    have ext : ExtP Pt H (upd (upd H Pt (.tbl (ps ++ #[rawInt pos.line, rawInt pos.col, .ref c']))) c' (CodeO c' (X.env.qual ++ "<lambda>"))) := fun b o n e => by
      rw [upd_ne (ne_of_none e freeC), upd_ne n]
      exact e
    have sz : s.heap.objs.size ≤ hp.objs.size := Nat.le_trans ge (Nat.le_of_lt lt)
    refine next hp.objs.size c' _ ctv _ _ Ia ext ⟨_, by rw [upd_ne (ne_of_none lies freeC), upd_same], ?_, fun p' cv hcv => ?_⟩ (Heap.get?_push_size _ rfl) sz ?_ upd_same
    · rw [show (ps ++ #[rawInt pos.line, rawInt pos.col, .ref c']).toList = ps.toList ++ [rawInt pos.line, rawInt pos.col, .ref c'] by simp]
      exact PySem.TriplesOk_snoc _ _ _ _ tri
    · rw [show (ps ++ #[rawInt pos.line, rawInt pos.col, .ref c']).toList = ps.toList ++ [rawInt pos.line, rawInt pos.col, .ref c'] by simp] at hcv
      rcases among_app _ tri hcv with z | z
      · obtain ⟨c0, e1, e2⟩ := among p' cv z
        exact ⟨c0, e1, ext _ _ (fun z => codeO_ne ps (Option.some.inj (e2.symm.trans (by rw [z]; exact lies)))) e2⟩
      · exact ⟨c', z, upd_same⟩
    · have n2 : hp.objs.size ≠ Pt := fun z => Nat.lt_irrefl _ (Nat.lt_of_lt_of_le (Heap.lt_size tab) (by rw [← z]; exact sz))
      rw [upd_ne (Nat.ne_of_gt lt), upd_ne n2]
      exact I.hok.fresh sz
  | some cv =>
    obtain ⟨c', e, hco⟩ := among pos cv found
    subst e
    refine PySem.W.kla_makeFunctionHit (mg := X.mg) (c := c) (P := Pt) (ps := ps) (closure_ok caps) I.ok.glob (I.mod.glob.keeps I.bk) code (TB.code.keeps I.bk) tab tri found bm fun ctv hp tk kept sz => ?_
    have Ia : Inv X pins σ H { s with heap := hp.push (PySem.W.kla_obj "<lambda>" (X.env.qual ++ "<lambda>") params body scope (cloFrom X.env.cells scope.names []) ((X.mg "__name__").getD .none) c' ctv), toks := tk } := I.kept fun b o e => Heap.get?_push_of_some _ (kept b o e)
    exact next hp.objs.size c' _ ctv H _ Ia (fun _ _ _ e => e) ⟨ps, lies, tri, among⟩ (Heap.get?_push_size _ rfl) sz (I.hok.fresh sz) hco
theorem clo_cell {cells : List (Str × Addr)} {names : List (Str × NameKind)} (caps : ∀ y ∈ names, y.2 = .free → ∃ c, cells.lookup y.1 = some c) {x : Str} {c : Addr} (e : (cloFrom cells names []).lookup x = some c) : cells.lookup x = some c := by
  rcases cloFrom_mem (PySem.mem_of_lookup e) with z | ⟨h1, h2⟩
  · cases z
  · obtain ⟨c1, h3⟩ := caps _ h1 rfl
    have h3 : cells.lookup x = some c1 := h3
    rw [h3] at h2
    have h4 : c = c1 := h2
    rw [h4]
    exact h3
/-- x([lambda: ..], e2): the lambda's captured names x1, x2 stand at the slots j1, j2 -/
def tLamL (sp : Sp) (Pt : Addr) (L : LamD) (x1 x2 : Str) (j1 j2 : Nat) (E : XK) (t2 : TE) : TE := fun σ H Q => TabS H Pt L.q ∧ ∃ v1 v2 : V, σ[j1]? = some (some v1) ∧ σ[j2]? = some (some v2) ∧ ∀ (Ha : Hp) (f c' l : Addr), ExtP Pt H Ha → TabS Ha Pt L.q → Ha f = none → Ha c' = some (CodeO c' L.q) → Ha l = none → f ≠ l →
  t2 σ (upd Ha l (.lst [.ref f])) fun w Hb => Hb c' = some (CodeO c' L.q) ∧ ∀ os os2 : Addr → Option Obj, (∀ a o, os2 a = some o → Hb a = none) → AskAt (addO Hb os2) f L [x1, x2] [v1, v2] os → (∀ a o, os a = some o → os2 a = some o) → sp ([.ref l, w] ++ []) (addO Hb os2) (fun v Hc => (∀ a o, os2 a = some o → Hc a = some (ObjO a o)) ∧ Q v (rem Hc os2)) E
theorem pe_lamL {k j1 j2 : Nat} {x x1 x2 : Str} {ps : List Str} {sp : Sp} {E : XK} {c Pt : Addr} {params : Arguments} {body e2 : Expr} {scope : Scope} {p lp lpos pos : Pos} {t2 : TE} {q : Str} (D : Def X.prog X.w X.K X.mg X.base CX0 k x ps sp) (room : Room k X.A) (gl : Gl X x)
    (TB : TabB X.base X.mg c Pt) (code : X.env.code = .ref c) (eq : q = X.env.qual ++ "<lambda>") (LS : LamS X.env.scope scope) (nodef : defaultsOf params X.env = ([], [])) (hs : X.stack = X.env :: X.outer) (hf : X.env.frame = some X.env.locals) (fn : ∀ y, X.fn y = true)
    (n1 : X.N[j1]? = some x1) (n2 : X.N[j2]? = some x2) (k1 : X.env.scope.names.lookup x1 = some .cell) (k2 : X.env.scope.names.lookup x2 = some .cell) (f1 : scope.names.lookup x1 = some .free) (f2 : scope.names.lookup x2 = some .free) (he : PE X e2 t2) (db : (x == ("__debug__" : Str)) = false := by decide) (one : starEach [e2] X.env = (false, eval e2 X.env) :: starEach [] X.env := by rfl) (flat : (backTo pos (starEach [e2] X.env)).any (·.1) = false := by rfl) :
    PE X (.Call (.Name x p) [.List [.Lambda params body scope lpos] lp, e2] [] pos) (tLamL sp Pt ⟨q, params, body, scope⟩ x1 x2 j1 j2 E t2) := by
  classical
  obtain ⟨g, fd, F, gm, keep, bi⟩ := D
  refine ⟨fun pins s σ H Q I h => ?_⟩
  obtain ⟨hT, v1, v2, hv1, hv2, h⟩ := h
  have caps := LS.has I.ok
  refine wpAny_Call_Name_kw (ld_glob I gl gm ?_ db)
  refine PySem.W.callWith_K (h₀ := X.base) I.ok.mod.kin keep ?_ (by rfl) flat
  refine wpAny_items_cons (wpAny_List (wpAny_items_cons (lam_new I TB code eq hT nodef caps fun f c' pm ctv Ha sa Ia ext hTa isF big noF hco => wpAny_items_nil ⟨by size_fits, ?_⟩)))
  obtain ⟨l, el⟩ : ∃ l, l = sa.heap.objs.size := ⟨_, rfl⟩
  have noL : Ha l = none := Ia.hok.fresh (Nat.le_of_eq el.symm)
  have nfl : f ≠ l := by
    have := Heap.lt_size isF
    rw [el]
    exact Nat.ne_of_lt this
  have Il : Inv X pins σ (upd Ha l (.lst [.ref f])) { sa with heap := sa.heap.push { cls := .type "list", data := .seq [Value.ref f].toArray } } := by
    rw [el]
    exact Ia.laid (t' := sa.toks) (fun b u e => Heap.get?_push_of_some _ e) (Nat.le_refl _) ⟨by size_fits, [.ref f], 0, .cons rfl .nil, Heap.get?_push_size _ rfl⟩
  have isF2 : (sa.heap.push { cls := .type "list", data := .seq [Value.ref f].toArray }).get? f = some (lamO ⟨q, params, body, scope⟩ (cloFrom X.env.cells scope.names []) pm c' ctv) := Heap.get?_push_of_some _ isF
  have noFr : f ∉ frs X.stack := fun z => by
    rw [hs] at z
    rcases List.mem_filterMap.mp z with ⟨ev, hev, e⟩
    rcases List.mem_cons.mp hev with y | y
    · rw [y, hf] at e
      have h1 := I.lt
      rw [Option.some.inj e] at h1
      exact Nat.lt_irrefl _ (Nat.lt_of_lt_of_le h1 big)
    · exact I.nofs big (List.mem_filterMap.mpr ⟨ev, y, e⟩)
  have outer : ∀ b, b ∈ X.fs → b ∈ frs X.stack := fun b hb => by
    rw [hs]
    obtain ⟨ev, h1, h2⟩ := List.mem_filterMap.mp hb
    exact List.mem_filterMap.mpr ⟨ev, List.mem_cons_of_mem _ h1, h2⟩
  have Ip : Inv X (pins ++ [(f, lamO ⟨q, params, body, scope⟩ (cloFrom X.env.cells scope.names []) pm c' ctv)]) σ (upd Ha l (.lst [.ref f])) { sa with heap := sa.heap.push { cls := .type "list", data := .seq [Value.ref f].toArray } } := Il.pins_of fun p hp => by
    rcases List.mem_append.mp hp with z | z
    · exact Il.pin p (List.mem_append_right _ z)
    · rw [List.mem_singleton.mp z]
      refine ⟨isF2, by rw [upd_ne nfl]; exact noF, fun e => ?_, fun hb => noFr (outer _ hb), fun v e => nomatch e⟩
      refine noFr ?_
      rw [hs]
      exact List.mem_filterMap.mpr ⟨X.env, List.mem_cons_self, by rw [hf, ← e]⟩
  rw [← el]
  refine wpAny_items_cons (thn (he.run _ _ σ _ _ Ip (h Ha f c' l ext hTa noF hco noL nfl)) fun u2 sb ⟨w2, Hb, Ib, r2, hcb, hq⟩ => wpAny_items_nil ⟨Ib.kIn, ?_⟩) one
  obtain ⟨isFb, noFb, _, _, _⟩ := Ib.pin (f, lamO ⟨q, params, body, scope⟩ (cloFrom X.env.cells scope.names []) pm c' ctv) (List.mem_append_right _ (List.mem_append_right _ (List.mem_singleton.mpr rfl)))
  -- the cells, the lambda
  obtain ⟨os, eos⟩ : ∃ os : Addr → Option Obj, os = fun a => if ∃ y, (cloFrom X.env.cells scope.names []).lookup y = some a then sb.heap.get? a else none := ⟨_, rfl⟩
  have os_of : ∀ {a o}, os a = some o → (∃ y, X.env.cells.lookup y = some a) ∧ sb.heap.get? a = some o := fun {a o} e => by
    rw [eos] at e
    by_cases z : ∃ y, (cloFrom X.env.cells scope.names []).lookup y = some a
    · have e : (if ∃ y, (cloFrom X.env.cells scope.names []).lookup y = some a then sb.heap.get? a else none) = some o := e
      rw [if_pos z] at e
      obtain ⟨y, hy⟩ := z
      exact ⟨⟨y, clo_cell caps hy⟩, e⟩
    · have e : (if ∃ y, (cloFrom X.env.cells scope.names []).lookup y = some a then sb.heap.get? a else none) = some o := e
      rw [if_neg z] at e
      cases e
  have os_in : ∀ {y a o}, (cloFrom X.env.cells scope.names []).lookup y = some a → sb.heap.get? a = some o → os a = some o := fun {y a o} h1 h2 => by
    rw [eos]
    show (if ∃ y, (cloFrom X.env.cells scope.names []).lookup y = some a then sb.heap.get? a else none) = some o
    rw [if_pos ⟨y, h1⟩]
    exact h2
  obtain ⟨os2, eos2⟩ : ∃ os2 : Addr → Option Obj, os2 = fun a => if a = f then some (lamO ⟨q, params, body, scope⟩ (cloFrom X.env.cells scope.names []) pm c' ctv) else os a := ⟨_, rfl⟩
  have os2_f : os2 f = some (lamO ⟨q, params, body, scope⟩ (cloFrom X.env.cells scope.names []) pm c' ctv) := by rw [eos2]; exact if_pos rfl
  have os2_ne : ∀ {a}, a ≠ f → os2 a = os a := fun {a} e => by rw [eos2]; exact if_neg e
  have os2_of : ∀ {a o}, os2 a = some o → Hb a = none ∧ sb.heap.get? a = some o ∧ X.base.get? a = none ∧ a ∉ frs X.stack := fun {a o} e => by
    by_cases z : a = f
    · rw [z, os2_f] at e
      cases e
      rw [z]
      refine ⟨noFb, isFb, ?_, noFr⟩
      cases y : X.base.get? f with
      | none => rfl
      | some ob =>
        have h1 := Heap.lt_size y
        have h2 := I.ok.bsz
        have h3 := I.sz
        have h4 : s.heap.objs.size ≤ f := big
        exact absurd (Nat.lt_of_lt_of_le h1 (Nat.le_trans h2 (Nat.le_trans h3 h4))) (Nat.lt_irrefl _)
    · rw [os2_ne z] at e
      obtain ⟨⟨y, hy⟩, e1⟩ := os_of e
      have above := I.ok.cab y a (fn y) hy
      refine ⟨Ib.freeC y a hy, e1, ?_, fun hb => ?_⟩
      · cases y : X.base.get? a with
        | none => rfl
        | some ob => exact absurd (Nat.lt_of_lt_of_le (Heap.lt_size y) (Nat.le_trans I.ok.bsz above)) (Nat.lt_irrefl _)
      · rw [hs] at hb
        obtain ⟨ev, hev, e2⟩ := List.mem_filterMap.mp hb
        rcases List.mem_cons.mp hev with y2 | y2
        · rw [y2, hf] at e2
          exact I.cne y a hy (Option.some.inj e2).symm
        · obtain ⟨_, o', e3, _⟩ := I.ok.funs.mem (List.mem_filterMap.mpr ⟨ev, y2, e2⟩)
          exact absurd (Nat.lt_of_lt_of_le (Heap.lt_size e3) above) (Nat.lt_irrefl _)
  have sub : ∀ a o, os a = some o → os2 a = some o := fun a o e => by
    by_cases z : a = f
    · have e1 := (os_of e).2
      rw [z] at e1
      have e2 := isFb.symm.trans e1
      rw [z, os2_f]
      exact e2
    · rw [os2_ne z]
      exact e
  have slot : ∀ {j : Nat} {xn : Str} {v : V}, X.N[j]? = some xn → X.env.scope.names.lookup xn = some .cell → scope.names.lookup xn = some .free → σ[j]? = some (some v) → ∃ c o u, scope.names.lookup xn = some .free ∧ (cloFrom X.env.cells scope.names []).lookup xn = some c ∧ os c = some o ∧ o.data = .cell (some u) ∧ RelV v u := fun {j xn v} h1 h2 h3 h4 => by
    obtain ⟨m, _, look⟩ := Ib.loc
    obtain ⟨u, r, z⟩ := look j xn v h1 h4 (.inr (.inl h2))
    rcases z with ⟨z, _⟩ | ⟨_, c, hc, o, ho, hd⟩
    · have z : X.env.scope.names.lookup xn = some .local := z
      rw [h2] at z
      cases z
    · obtain ⟨c2, hc2⟩ := mem_lookup (cloFrom_has (cells := X.env.cells) (acc := []) (PySem.mem_of_lookup h3))
      have hc3 := clo_cell caps hc2
      rw [hc] at hc3
      cases hc3
      exact ⟨c, o, u, h3, hc2, os_in hc2 ho, hd, r⟩
  have ask : AskAt (addO Hb os2) f ⟨q, params, body, scope⟩ [x1, x2] [v1, v2] os := by
    refine ⟨pm, ctv, c', cloFrom X.env.cells scope.names [], addO_in os2_f, ?_, fun a o e => addO_in (sub a o e), fun y z c h1 h2 => I.ok.inj y z c (clo_cell caps h1) (clo_cell caps h2), fun y hy => mem_lookup (cloFrom_has (cells := X.env.cells) (acc := []) (PySem.mem_of_lookup hy)), fun y c hc => ?_, fun i y v hi hv => ?_⟩
    · have z : os2 c' = none := by
        cases y : os2 c' with
        | none => rfl
        | some o =>
          have := (os2_of y).1
          rw [hcb] at this
          cases this
      rw [addO_out z]
      exact hcb
    · obtain ⟨v, o, ho, hd⟩ := Ib.cell y c (clo_cell caps hc)
      exact ⟨o, v, os_in hc ho, hd⟩
    · match i, hi, hv with
      | 0, hi, hv =>
        cases hi
        cases hv
        exact slot n1 k1 f1 hv1
      | 1, hi, hv =>
        cases hi
        cases hv
        exact slot n2 k2 f2 hv2
      | i + 2, hi, hv => exact nomatch hi
  have want := hq os os2 (fun a o e => (os2_of e).1) ask sub
  have out : ∀ {b : Addr} {u : HO}, Hb b = some u → os2 b = none := fun {b u} e => by
    cases z : os2 b with
    | none => rfl
    | some o =>
      rw [(os2_of z).1] at e
      cases e
  have e0 := Ib.env0
  have e1 : Env0 X.prog X.w X.K X.mg X.base X.A X.stack sb (addO Hb os2) := ⟨e0.frames, e0.mod, fun b o e => ⟨(e0.bs b o e).1, by
      have z : os2 b = none := by
        cases y : os2 b with
        | none => rfl
        | some ob =>
          have := (os2_of y).2.2.1
          rw [e] at this
          cases this
      rw [addO_out z]
      exact (e0.bs b o e).2⟩, e0.bsz, e0.funs, fun b hb => by
      have z : os2 b = none := by
        cases y : os2 b with
        | none => rfl
        | some ob => exact absurd hb (os2_of y).2.2.2
      rw [addO_out z]
      exact e0.frf b hb, add_ok e0.hok (fun a o e => (os2_of e).1) (fun a o e => (os2_of e).2.1), e0.bare⟩
  have rv : Vals ([.ref l, w2] ++ []) [.ref l, u2] := .cons rfl (.cons r2 .nil)
  have hl : ([Value.ref l, u2] ++ ([] : List Value)).length = ps.length := by rw [← F.len _ _ _ _ want]; rfl
  show wpAny _ _ (call (.ref g) [.ref l, u2]) _ _ _
  refine wpAny_call (codeAny_mono (F.run X.A X.stack sb (addO Hb os2) ⟨[.ref l, u2], []⟩ ([.ref l, u2] ++ []) _ _ E room e1 (bi sb [.ref l, u2] Ib.kIn hl) rv want) fun r s' hr => ?_)
  cases r with
  | error er => exact (show False from hr).elim
  | ok fl =>
    cases fl with
    | next => exact False.elim hr
    | brk => exact False.elim hr
    | cont => exact False.elim hr
    | ret u =>
      obtain ⟨v, Hc, ho, ag, un, hok, rv2, hkn, hQ⟩ := hr
      have CEb : CE X.stack X.prog X.w Hb sb Q u s' := by
        refine ⟨v, rem Hc os2, ho, ag, ⟨fun b o e n hb hx => ?_, fun b o e n hb hx => ?_, fun b o e n hx => ?_, un.there, fun b xs e => ?_, fun b o v e => ?_, fun b ps e => ?_⟩, rem_ok hok hkn, rv2, hQ⟩
        · cases z : os2 b with
          | some ob =>
            have h1 := objO_at hok (hkn b ob z)
            have h2 := (os2_of z).2.1
            rw [e] at h2
            cases h2
            exact h1
          | none => exact un.keep b o e (by rw [addO_out z]; exact n) hb hx
        · have z : os2 b = none := by
            cases y : os2 b with
            | none => rfl
            | some ob => exact absurd hb (os2_of y).2.2.2
          exact un.slot b o e (by rw [addO_out z]; exact n) hb hx
        · cases z : os2 b with
          | some ob => exact rem_in z
          | none =>
            rw [rem_out z]
            exact un.free b o e (by rw [addO_out z]; exact n) hx
        · rw [rem_out (out e)]
          exact un.tups b xs (by rw [addO_out (out e)]; exact e)
        · rw [rem_out (out e)]
          exact un.frzs b o v (by rw [addO_out (out e)]; exact e)
        · rw [rem_out (out e)]
          exact un.tbls b ps (by rw [addO_out (out e)]; exact e)
      obtain ⟨v9, H9, I9, r9, q9⟩ := Ib.after CEb
      exact ⟨v9, H9, I9.unpinned, r9, q9⟩
end
end FD
namespace FD
open PySem PyProof.Rows L2 LamX
/-! ### _law_got, _law_raise: asked where an error is due -/
section
variable {H H' : Hp} {os : Addr → Option Obj}
/-- back from a step that was made over less -/
theorem stp_add {G G0 G' : Hp} (s : Stp (Bg none) G0 (rem H os) G' H') (sm : Same G H) (s0 : Same G0 G) (k : ∀ a o, os a = some o → H a = some (ObjO a o)) (n : ∀ a o, os a = some o → H' a = none) : ∃ Gx, Stp (Bg none) G H Gx (addO H' os) ∧ Same G' Gx := by
  classical
  have nb : ∀ {a : Addr}, ¬ Bg (none : Option (Addr × Addr)) a := fun z => nomatch z
  have kept : ∀ a o, H a = some o → addO H' os a = some o := fun a o e => by
    cases z : os a with
    | some ob => rw [addO_in z, ← k a ob z]; exact e
    | none => rw [addO_out z]; exact s.hh a o (by rw [rem_out z]; exact e) nb
  refine ⟨fun a => if G a = none then (if H a = none then addO H' os a else none) else G a, ⟨fun a o e => ?_, fun a o e => ?_, fun a o e _ => kept a o e, fun a e => ?_, fun a e1 e2 => ?_⟩, fun a o e => ?_⟩
  · show (if G a = none then _ else G a) = some o
    rw [if_neg (by rw [e]; exact fun z => nomatch z), e]
  · have e : (if G a = none then (if H a = none then addO H' os a else none) else G a) = some o := e
    by_cases h1 : G a = none
    · rw [if_pos h1] at e
      by_cases h2 : H a = none
      · rw [if_pos h2] at e; exact e
      · rw [if_neg h2] at e; cases e
    · rw [if_neg h1] at e
      exact kept a o (sm a o e)
  · cases z : H a with
    | none => exact absurd z e
    | some o => rw [kept a o z]; exact fun z => nomatch z
  · show (if G a = none then (if H a = none then addO H' os a else none) else G a) = none
    rw [if_pos e1, if_neg e2]
  · have hx := s.gh a o e
    have z : os a = none := by
      cases y : os a with
      | none => rfl
      | some ob => rw [n a ob y] at hx; cases hx
    show (if G a = none then (if H a = none then addO H' os a else none) else G a) = some o
    cases g0 : G0 a with
    | some o2 =>
      have h1 := s.gg a o2 g0
      rw [e] at h1
      cases h1
      have h2 := s0 a _ g0
      rw [if_neg (by rw [h2]; exact fun z => nomatch z), h2]
    | none =>
      have h1 := s.newAt g0 e
      rw [rem_out z] at h1
      have h2 : G a = none := sm.free h1
      rw [if_pos h2, if_pos h1, addO_out z]
      exact hx
end
section
variable {P : Program} {w : World} {K : PySem.W.Frag} {mg : Str → Option Value} {base : Heap}
local macro_rules | `(tactic| walk_at "ev") => `(tactic| repeat (first | with_reducible refine s_seq ?_ | with_reducible refine s_skip ?_ | with_reducible refine s_gn ?_ | with_reducible refine ev_op ?_ | with_reducible refine ev_un ?_ | ((with_reducible refine' ev_var ?hv ?_); (case hv => rfl)) | with_reducible refine ev_c ?_ | with_reducible refine ev_cb ?_ | with_reducible refine ea_cons ?_ | with_reducible refine ea_nil ?_ | with_reducible refine et_test ?_ | with_reducible refine et_B ?_ | with_reducible refine s_ret (by assumption) ?_ | with_reducible refine s_asg (by assumption) ?_))
abbrev tbS (K : PySem.W.Frag) : XK → TE := fun E => tCall (SpX 2 (pShares K)) [] E (tCons (tVar 0) (tCons (tVar 1) tNil))
/-- an asked lambda L of a book and a sheet; the error that is due -/
def AskOk (K : PySem.W.Frag) (G : Hp) (f : Addr) (L : LamD) (N : List Str) (R R2 : List Str) (rs : List RecD) : Prop := ∃ (os : Addr → Option Obj) (bv sv : V) (ls : List LineT) (G0 : Hp), AskAt G f L N [bv, sv] os ∧ Same G0 G ∧ (∀ a o, os a = some o → G0 a = none) ∧ BookIs K G0 bv R rs ∧ SheetIs K G0 sv R2 ls ∧ RecsOk R rs ∧ (R2 = R → SheetOk R ls)
theorem askOk_mono {G G' : Hp} {f : Addr} {L : LamD} {N R R2 : List Str} {rs : List RecD} (h : AskOk K G f L N R R2 rs) (s : Same G G') : AskOk K G' f L N R R2 rs := by
  obtain ⟨os, bv, sv, ls, G0, h1, h2, r⟩ := h
  exact ⟨os, bv, sv, ls, G0, askAt_mono h1 s, h2.trans s, r⟩
def pGot (K : PySem.W.Frag) (L : LamD) (N : List Str) : List V → Hp → (V → Hp → Prop) → Prop := fun vs G P => ∃ (f : Addr) (R R2 : List Str) (rs : List RecD), vs = [.ref f] ∧ AskOk K G f L N R R2 rs ∧ wrongOf R R2 rs (fitOf R rs) ≠ .none ∧ ∀ v' G', Same G G' → Dp K G' v' (wrongOf R R2 rs (fitOf R rs)) → P v' G'
theorem d_got (T : Mo K mg) {L : LamD} {N : List Str} (hN : N.length = 2) (O : LamOk P w K mg base L N 9 (tbS K)) : Def P w K mg base CX0 12 "_law_got" ["_law_ask"] (SpP 1 (pGot K L N)) := by
  obtain ⟨fd, F⟩ := T.f__law_got
  refine ⟨_, fd, F.ok sc__law_got spP_len (fun cdv A outer s H vs Q E hr h => ?_), T.g__law_got, F.kp, F.bindsN fun _ _ _ _ _ _ us hl => match us, hl with | [_], _ => rfl⟩
  obtain ⟨_, G, P, sm, hp, kq⟩ := h
  have wd : Wd none G H := .none sm
  refine ⟨_, PSs.nox (pss_one (ps_try_two rfl rfl sc__law_got.nd (i := 1) rfl rfl ⟨by rfl, by decide, .inl T.g_Stuck⟩ ⟨by rfl, by decide, .inl T.g_ChoiceError⟩ ⟨by rfl, by decide, .inl T.g_Missing⟩
    (fun W pn xe tk _ => pss_one (ps_ret (pe_tup (pa_cons pe_str (pa_cons (pe_ask (i := 0) O tk (hr.mono (by decide)) rfl (.inl rfl)) pa_nil)))))
    (fun a oe cls d pn hz hf => pss_one (ps_ret (pe_tup (pa_cons (pe_xf T.xf_Stuck T.no_Stuck_code hz hf (pv 1)) (pa_cons (pe_xf T.xf_Stuck T.no_Stuck_lot hz hf (pv 1)) pa_nil)))))
    (fun a oe cls d pn hz hf => pss_one (ps_ret (pe_tup (pa_cons (pe_xf T.xf_OtherReasons T.no_OtherReasons_code hz hf (pv 1)) pa_nil)))))), ?_⟩
  obtain ⟨f, R, R2, rs, rfl, ⟨os, bv, sv, ls, G0, hA, s0, hn0, hB, hS, hok, hso⟩, hne, k⟩ := hp
  have hAH := askAt_mono hA sm
  have kos : ∀ a o, os a = some o → H a = some (ObjO a o) := by
    obtain ⟨_, _, _, _, _, _, h3, _⟩ := hAH
    exact h3
  refine ⟨f, [bv, sv], os, rfl, hAH, hN.symm, bv, rfl, sv, rfl, ?_⟩
  refine ⟨rfl, G0, fun _ _ => False, fun c d G' => ErrAt K (wrongOf R R2 rs (fitOf R rs)) c d G', fun a o e => ?_, ⟨bv, sv, R, R2, rs, ls, rfl, hB, hS, hok, hso, fun e12 hf => ?_, fun c d G' _ _ he => he⟩, fun _ _ _ _ z => z.elim, fun cls d G' H' s' he hfree => ?_⟩
  · have z : os a = none := by
      cases y : os a with
      | none => rfl
      | some ob => rw [hn0 a ob y] at e; cases e
    rw [rem_out z]
    exact sm a o (s0 a o e)
  · refine absurd ?_ hne
    unfold wrongOf
    rw [if_neg (fun z => z e12), if_neg hf]
  · obtain ⟨Gx, sx, gx⟩ := stp_add s' sm s0 kos hfree
    have he2 := errAt_mono he gx
    have done : ∀ (xs : List V) (ds : List PyData) (p : Addr), DpAll K Gx xs ds → wrongOf R R2 rs (fitOf R rs) = .tuple ds → addO H' os p = none → Q (.ref p) (upd (addO H' os) p (.tup xs)) := fun xs ds p h1 h2 hp => by
      have s2 := sx.new (o := .tup xs) hp
      refine kq _ _ _ s2 (k _ _ s2.gg ?_)
      rw [h2]
      exact dp_newT h1 (sx.gh.free hp)
    rcases he2 with ⟨h1, rfl, h3⟩ | ⟨l, lv, h1, rfl, h3, h4⟩
    · refine .inr ⟨T.em_OS, T.em_O, fun a ha => ?_⟩
      refine ⟨.ref a, rfl, rfl, rfl, d, _, _, rfl, sx.gh _ _ h3, rfl, by show 1 ≤ sizeLine; exact sz_of (by decide), fun p hp => done _ _ p (.cons (.str _) .nil) h1 hp⟩
    · refine .inl ⟨T.em_SS, fun a ha => ?_⟩
      refine ⟨.ref a, rfl, rfl, rfl, d, _, _, rfl, sx.gh _ _ h3, rfl, .ref a, rfl, rfl, rfl, d, _, _, rfl, sx.gh _ _ h3, rfl, by show 2 ≤ sizeLine; exact sz_of (by decide), fun p hp => done _ _ p (.cons (.str _) (.cons h4 .nil)) h1 hp⟩
end
end FD
namespace FD
open PySem PyProof.Rows L2 LamX
section
variable {P : Program} {w : World} {K : PySem.W.Frag} {mg : Str → Option Value} {base : Heap}
local macro_rules | `(tactic| walk_at "ev") => `(tactic| repeat (first | with_reducible refine s_seq ?_ | with_reducible refine s_skip ?_ | with_reducible refine s_gn ?_ | with_reducible refine ev_op ?_ | with_reducible refine ev_un ?_ | ((with_reducible refine' ev_var ?hv ?_); (case hv => rfl)) | with_reducible refine ev_c ?_ | with_reducible refine ev_cb ?_ | with_reducible refine ea_cons ?_ | with_reducible refine ea_nil ?_ | with_reducible refine et_test ?_ | with_reducible refine et_B ?_ | with_reducible refine s_ret (by assumption) ?_ | with_reducible refine s_asg (by assumption) ?_))
theorem smp_strs (l : List Str) (n : Nat) (h : l.length ≤ 100000) : Smp (n + 1) (.tuple (l.map .str)) := by
  refine .inr ⟨_, .inr rfl, by rw [List.length_map]; exact h, fun x hx => ?_⟩
  obtain ⟨s, _, rfl⟩ := List.mem_map.mp hx
  cases n with
  | zero => exact .inl ⟨s, rfl⟩
  | succ n => exact .inl (.inl ⟨s, rfl⟩)
theorem smp_wrong {R R2 : List Str} {rs : List RecD} {fit : List (List Str)} (h : wrongOf R R2 rs fit ≠ .none) (hl : rs.length ≤ 1000) : Smp 3 (wrongOf R R2 rs fit) := by
  unfold wrongOf at h ⊢
  by_cases h1 : R2 ≠ R
  · rw [if_pos h1]
    refine .inr ⟨_, .inr rfl, by show 1 ≤ 100000; decide, fun x hx => ?_⟩
    rw [List.mem_singleton.mp hx]
    exact .inl (.inl ⟨_, rfl⟩)
  · rw [if_neg h1] at h ⊢
    by_cases h2 : fit = []
    · rw [if_pos h2]
      refine .inr ⟨_, .inr rfl, by show 2 ≤ 100000; decide, fun x hx => ?_⟩
      rcases List.mem_cons.mp hx with z | z
      · rw [z]; exact .inl (.inl ⟨_, rfl⟩)
      · rw [List.mem_singleton.mp z]
        refine smp_strs _ 1 ?_
        unfold lotOf
        rw [List.length_map]
        have e1 := (lotK_sub (rs.filter fun x => !decide (x.2 = ([], []))) rs.length).length_le
        have e2 := List.length_filter_le (fun x : RecD => !decide (x.2 = ([], []))) rs
        omega
    · rw [if_neg h2] at h
      exact absurd rfl h
def pRaise (K : PySem.W.Frag) (L : LamD) (N : List Str) : List V → Hp → (V → Hp → Prop) → Prop := fun vs G P => ∃ (l f : Addr) (dv : V) (R R2 : List Str) (rs : List RecD), vs = [.ref l, dv] ∧ G l = some (.lst [.ref f]) ∧ Dp K G dv (wrongOf R R2 rs (fitOf R rs)) ∧ AskOk K G f L N R R2 rs ∧ ∀ G', Same G G' → P (.bl true) G'
theorem d_raise (T : Mo K mg) {L : LamD} {N : List Str} (hN : N.length = 2) (O : LamOk P w K mg base L N 9 (tbS K)) : Def P w K mg base CX0 13 "_law_raise" ["_law_asks", "_law_due"] (SpP 2 (pRaise K L N)) := by
  obtain ⟨fd, F⟩ := T.f__law_raise
  refine ⟨_, fd, F.ok sc__law_raise spP_len (fun cdv A outer s H vs Q E hr h => ?_), T.g__law_raise, F.kp, F.bindsN fun _ _ _ _ _ _ us hl => match us, hl with | [_, _], _ => rfl⟩
  have hu := hu_of hr
  obtain ⟨_, G, P, sm, hp, kq⟩ := h
  have wd : Wd none G H := .none sm
  refine ⟨_, PSs.nox (pss_one (ps_ret (pe_or (pe_cmpR op_isN (pv 1) pe_non (by rfl)) (pe_one (pe_callB (cr_all rfl) (by rfl) T.n_all (by decide +kernel) (pa_cons (pe_lc (own := [("_law_ask", 2)]) (g := gName 2) (tt := tYes) rfl sc__law_raise.nd (pi_list (pv 0)) (blkOk_by (N := ["_law_asks", "_law_due", "_law_ask"]) (sc := defScope s__law_raise) (by decide +kernel)) (fun _ _ _ _ _ => (pg_name (i := 2) sc__law_raise.nd rfl (Or.inl rfl))) (fun _ _ _ _ _ => pts_nil) (fun _ _ _ _ _ => (blk_te (pe_d (d_same T 3) (hr.mono (by decide)) (by rfl) pass0 (pa_cons (pe_d (d_got T hN O) (hr.mono (by decide)) (by rfl) pass0 (pa_cons (pv 2) pa_nil)) (pa_cons (pv 1) pa_nil))) (by (try dsimp only [Cx.blk, Cx.nox, cxOf]); (try rfl))))) pa_nil)))))) , ?_⟩
  obtain ⟨l, f, dv, R, R2, rs, rfl, hl, hdv, hask, k⟩ := hp
  have hrl : rs.length ≤ 40 := by
    obtain ⟨_, _, _, _, _, _, _, _, _, _, hok, _⟩ := hask
    exact hok.2.2.2.2.2.2.2
  refine s_ret wd (ev_orV ?_)
  walk_at "ev"
  refine rv_isN ⟨_, rfl, fun h => ?_, fun h => ?_⟩
  · exact fun H1 s1 w1 => kq _ _ _ s1 (k _ s1.gg)
  · have hnn : dv ≠ .non := of_decide_eq_false h
    have hne : wrongOf R R2 rs (fitOf R rs) ≠ .none := fun z => by
      rw [z] at hdv
      cases hdv
      exact hnn rfl
    walk_at "ev"
    refine lcL (K := K) (ev_var rfl ⟨l, _, rfl, SqL.of hl, by show 1 ≤ 100000; decide, fun i acc G2 => Same G G2 ∧ DpAll K G2 acc ((List.replicate i true).map .bool), ⟨Same.refl _, .nil⟩, ?_, ?_⟩)
    · rintro i x G2 acc hx e2 ⟨_, hacc⟩ -
      obtain rfl : x = .ref f := by
        match i, hx with
        | 0, hx => exact (Option.some.inj hx).symm
        | i + 1, hx => exact nomatch hx
      refine ⟨_, fun _ _ => gv_name, rfl, et_yes ⟨fun _ => ?_, fun z => nomatch z⟩⟩
      refine ev_call (ea_cons (ev_call (ea_cons (ev_var rfl (ea_nil ⟨rfl, f, R, R2, rs, rfl, askOk_mono hask e2, hne, fun gv G3 e3 hgv => ?_⟩)))))
      refine ea_cons (ev_var rfl (ea_nil ⟨rfl, gv, dv, rfl, .inl ⟨_, smp_wrong hne (by omega), hgv, Dpm hdv (e2.trans e3)⟩, fun G4 e4 => ⟨(e2.trans e3).trans e4, ?_⟩⟩))
      rw [List.replicate_succ', List.map_append]
      exact dpa_snoc (Dpam hacc (e3.trans e4)) (.bl true)
    · rintro acc G2 e2 ⟨_, hacc⟩ - q hq
      have hbv := dp_newL hacc hq
      refine ea_nil (rv_all hbv fun H1 s1 w1 => ?_)
      rw [List.all_eq_true.mpr fun x hx => by rw [(List.mem_replicate.mp hx).2]; rfl]
      exact kq _ _ _ s1 (k _ s1.gg)
/-! ### at the law: _law_raise([lambda: ..], e) -/
theorem tab_keep {H H' : Hp} {Pt : Addr} {q : Str} (t : TabS H Pt q) (k : ∀ b o, H b = some o → (∀ xs, o ≠ .lst xs) → H' b = some o) : TabS H' Pt q := by
  obtain ⟨ps, h1, h2, h3⟩ := t
  refine ⟨ps, k _ _ h1 (fun xs z => nomatch z), h2, fun pos cv hc => ?_⟩
  obtain ⟨c, e1, e2⟩ := h3 pos cv hc
  exact ⟨c, e1, k _ _ e2 fun xs z => by unfold CodeO at z; cases z⟩
theorem bg_lst {b : Option (Addr × Addr)} {G H : Hp} {a : Addr} {o : HO} (w : Wd b G H) (e : H a = some o) (n : ∀ xs, o ≠ .lst xs) : ¬ Bg b a := fun z => by
  cases b with
  | none => cases z
  | some p =>
    obtain ⟨x, c⟩ := p
    have ex : x = a := Option.some.inj z
    subst ex
    obtain ⟨ns, i, g, m, e1, _⟩ := (w.bag x c rfl).2
    rw [e1] at e
    cases e
    exact n _ rfl
theorem lam_run {b : Option (Addr × Addr)} {G H : Hp} {σ : L2.St} {Pt : Addr} {L : LamD} {x1 x2 : Str} {j1 j2 : Nat} {E : XK} {t2 : TE} {Q : VK} {v1 v2 : V} {R R2 : List Str} {rs : List RecD} {ls : List LineT} (w : Wd b G H) (tab : TabS H Pt L.q) (noP : G Pt = none) (h1 : σ[j1]? = some (some v1)) (h2 : σ[j2]? = some (some v2))
    (hB : BookIs K G v1 R rs) (hS : SheetIs K G v2 R2 ls) (hok : RecsOk R rs) (hso : R2 = R → SheetOk R ls) (he : ∀ G1, Same G G1 → Ev b t2 σ G1 fun u G2 => Dp K G2 u (wrongOf R R2 rs (fitOf R rs)))
    (k : ∀ H', Wd b G H' → TabS H' Pt L.q → Q (.bl true) H') : tLamL (SpP 2 (pRaise K L [x1, x2])) Pt L x1 x2 j1 j2 E t2 σ H Q := by
  have nb : ∀ {a : Addr}, ¬ Bg (none : Option (Addr × Addr)) a := fun z => nomatch z
  refine ⟨tab, v1, v2, h1, h2, fun Ha f c' l ext hTa noF hco noL nfl => ?_⟩
  have neP : ∀ {a : Addr} {o : HO}, H a = some o → (∀ ps, o ≠ .tbl ps) → a ≠ Pt := fun {a o} e n z => by
    obtain ⟨ps, hp, _⟩ := tab
    rw [z, hp] at e
    exact n ps (Option.some.inj e).symm
  have wa : Wd b G Ha := ⟨fun a o e => ext a o (fun z => by rw [z, noP] at e; cases e) (w.same a o e), fun a c z => ⟨(w.bag a c z).1, by
    obtain ⟨ns, i, g, m, e1, ec, r⟩ := (w.bag a c z).2
    exact ⟨ns, i, g, m, ext _ _ (neP e1 fun _ z => nomatch z) e1, ec, r⟩⟩⟩
  have w1 := wa.new (o := .lst [.ref f]) noL
  have g1 := same_new (o := .lst [.ref f]) (wa.same.free noL)
  have hl1 : upd G l (.lst [.ref f]) l = some (.lst [.ref f]) := upd_same
  have hc1 : upd Ha l (.lst [.ref f]) c' = some (CodeO c' L.q) := by rw [upd_ne (ne_of_none hco noL)]; exact hco
  have ht1 : TabS (upd Ha l (.lst [.ref f])) Pt L.q := tab_keep hTa fun b o e _ => by rw [upd_ne (ne_of_none e noL)]; exact e
  generalize upd Ha l (.lst [.ref f]) = H1 at w1 hc1 ht1 ⊢
  generalize upd G l (.lst [.ref f]) = G1 at w1 g1 hl1
  refine he G1 g1 H1 w1 _ fun u G2 Hb e2 w2 hu => ?_
  have keep2 : ∀ a o, H1 a = some o → (∀ xs, o ≠ .lst xs) → Hb a = some o := fun a o e n => e2.hh a o e (bg_lst w1 e n)
  have hcb := keep2 _ _ hc1 fun xs z => by unfold CodeO at z; cases z
  have htb := tab_keep ht1 keep2
  refine ⟨hcb, fun os os2 free ask sub => ?_⟩
  have out : ∀ {a : Addr} {o : HO}, Hb a = some o → os2 a = none := fun {a o} e => by
    cases z : os2 a with
    | none => rfl
    | some ob => rw [free a ob z] at e; cases e
  have inx : ∀ {a : Addr} {o : HO}, Hb a = some o → addO Hb os2 a = some o := fun {a o} e => by rw [addO_out (out e)]; exact e
  have s2x : Same G2 (addO Hb os2) := fun a o e => inx (w2.same a o e)
  have g12 := g1.trans e2.gg
  refine ⟨rfl, addO Hb os2, fun v _ => v = .bl true, Same.refl _, ⟨l, f, u, R, R2, rs, rfl, s2x _ _ (e2.gg _ _ hl1), Dpm hu s2x, ⟨os, v1, v2, ls, G2, ask, s2x, fun a o e => w2.same.free (free a o (sub a o e)), bookIs_mono g12 hB, sheetIs_mono g12 hS, hok, hso⟩, fun _ _ => rfl⟩, fun v G' H' s' ev => ?_⟩
  subst ev
  have back : ∀ a o, Hb a = some o → rem H' os2 a = some o := fun a o e => by
    rw [rem_out (out e)]
    exact s'.hh _ _ (inx e) nb
  refine ⟨fun a o e => s'.hh _ _ (addO_in e) nb, k _ ⟨fun a o e => back a o (w2.same a o (g12 a o e)), fun a c z => ⟨(w.bag a c z).1, ?_⟩⟩ (tab_keep htb fun b o e _ => back b o e)⟩
  obtain ⟨ns0, _, _, _, _, ec0, _⟩ := (w.bag a c z).2
  obtain ⟨ns, i, g, m, e1, ec, r⟩ := (w2.bag a c z).2
  have e3 := g12 _ _ ec0
  rw [ec] at e3
  exact ⟨ns, i, g, m, back _ _ e1, by rw [ec0, ← e3], r⟩
end
end FD
namespace FD
open PySem PyProof.Rows L2 LamX
theorem passE {X : Cx} : Passes (L2.CX X.prog X.w) X E0 := fun _ _ _ _ _ _ _ h => by
  obtain ⟨_, _, _, _, _, _, _, _, _, _, _, _, z⟩ := h
  exact z.elim
section
variable {b : Option (Addr × Addr)} {σ : L2.St} {G H : Hp} {K : PySem.W.Frag}
theorem s_four {i j k l : Nat} {te : TE} {D : Ends} (w : Wd b G H) (h : Ev b te σ G fun v G1 => ∃ a v1 v2 v3 v4, v = .ref a ∧ SqT K G1 a [v1, v2, v3, v4] ∧ ∀ H1, Stp (Bg b) G H G1 H1 → Wd b G1 H1 → D.nx ((((σ.set i (some v1)).set j (some v2)).set k (some v3)).set l (some v4)) H1) : tAsg te (gTup K 4 (gCons (gName i) (gCons (gName j) (gCons (gName k) (gCons (gName l) gNil))))) D σ H :=
  h H w _ fun v G1 H1 e1 w1 ⟨a, v1, v2, v3, v4, ev, hs, q⟩ => ⟨a, [v1, v2, v3, v4], ev, sqt_mono w1.same hs, rfl, v1, [v2, v3, v4], rfl, v2, [v3, v4], rfl, v3, [v4], rfl, v4, [], rfl, rfl, q H1 e1 w1⟩
theorem s_three {i j k : Nat} {te : TE} {D : Ends} (w : Wd b G H) (h : Ev b te σ G fun v G1 => ∃ a v1 v2 v3, v = .ref a ∧ SqT K G1 a [v1, v2, v3] ∧ ∀ H1, Stp (Bg b) G H G1 H1 → Wd b G1 H1 → D.nx (((σ.set i (some v1)).set j (some v2)).set k (some v3)) H1) : tAsg te (gTup K 3 (gCons (gName i) (gCons (gName j) (gCons (gName k) gNil)))) D σ H :=
  h H w _ fun v G1 H1 e1 w1 ⟨a, v1, v2, v3, ev, hs, q⟩ => ⟨a, [v1, v2, v3], ev, sqt_mono w1.same hs, rfl, v1, [v2, v3], rfl, v2, [v3], rfl, v3, [], rfl, rfl, q H1 e1 w1⟩
end
/-! ### what the plain law gives at the law's calls -/
theorem recsOk_sheet {R : List Str} {rs : List RecD} {ls : List LineT} (h : RecsOk R rs) (hl : LinesOk ls R.length) : SheetOk R ls := ⟨⟨h.1, h.2.2.1, h.2.2.2.1⟩, h.2.1, hl⟩
theorem fit_mem {R : List Str} {rs : List RecD} {p : List Str} : p ∈ fitOf R rs ↔ p ∈ permsOf R ∧ ∀ x ∈ rs, bearsOf p x.2 = true := by
  rw [fitOf_eq, List.mem_filter, List.all_eq_true]
theorem perm_mem {R p : List Str} (nd : R.Nodup) (h : p.Perm R) : p ∈ permsOf R := permsOf_mem.mpr ⟨h.length_eq, fun x hx => h.mem_iff.mp hx, h.nodup_iff.mpr nd⟩
theorem fit_tally {R : List Str} {rs : List RecD} {ls : List LineT} (nd : R.Nodup) (h6 : R.length ≤ 6) (hl : LinesOk ls R.length) : (∀ p ∈ fitOf R rs, (∀ b ∈ p, b ∈ R) ∧ p.length ≤ 10 ∧ winOf R ls p ∈ ansOf ls) ∧ (fitOf R rs).length ≤ 100000 := by
  refine ⟨fun p hp => ?_, ?_⟩
  · have hp := (fit_mem.mp hp).1
    obtain ⟨h1, h2, _⟩ := permsOf_mem.mp hp
    exact ⟨h2, by omega, win_in hl nd (permsOf_all hp)⟩
  · rw [fitOf_eq]
    refine Nat.le_trans (List.length_filter_le _ _) ?_
    have := permsOf_len h6
    omega
theorem ans_small {R : List Str} {ls : List LineT} (hl : LinesOk ls R.length) : (ansOf ls).length ≤ 1000 ∧ ∀ t ∈ ansOf ls, t.length ≤ 1000 := by
  have h6 := hl.2.2.2.1
  refine ⟨?_, fun t ht => ?_⟩
  · have := ansFold_len ls ls []
    have h0 : ([] : List (List Str)).length = 0 := rfl
    unfold ansOf
    omega
  · rw [← answers_eq hl.1.2.1] at ht
    obtain ⟨l, _, rfl, _⟩ := answer_line hl.1.2.1 ht
    unfold alikeOf
    rw [List.length_map]
    have := List.length_filter_le (fun m : LineT => decide (m.2 = l.2)) ls
    omega
section
variable {P : Program} {w : World} {K : PySem.W.Frag} {mg : Str → Option Value} {base : Heap}
local macro_rules | `(tactic| walk_at "ev") => `(tactic| repeat (first | with_reducible refine s_seq ?_ | with_reducible refine s_skip ?_ | with_reducible refine s_gn ?_ | with_reducible refine ev_op ?_ | with_reducible refine ev_un ?_ | ((with_reducible refine' ev_var ?hv ?_); (case hv => rfl)) | with_reducible refine ev_c ?_ | with_reducible refine ev_cb ?_ | with_reducible refine ea_cons ?_ | with_reducible refine ea_nil ?_ | with_reducible refine et_test ?_ | with_reducible refine et_B ?_ | with_reducible refine s_ret (by assumption) ?_ | with_reducible refine s_asg (by assumption) ?_))
/-- shares of a book and a sheet, where it is told -/
theorem ev_shares {b : Option (Addr × Addr)} {σ : L2.St} {G : Hp} {Q : V → Hp → Prop} {E : XK} {ta : TA} (h : Ev b ta σ G fun vs G1 => ∃ (bv sv : V) (R : List Str) (rs : List RecD) (ls : List LineT), vs = [bv, sv] ∧ BookIs K G1 bv R rs ∧ SheetIs K G1 sv R ls ∧ RecsOk R rs ∧ LinesOk ls R.length ∧ fitOf R rs ≠ [] ∧ ∀ f G', Same G1 G' → G1 f = none → G' f = some (.dT (tkvs (ansOf ls) (winsOf R ls (fitOf R rs)))) → Q (.ref f) G') : Ev b (tCall (SpX 2 (pShares K)) [] E ta) σ G Q :=
  ev_callX (Ev.mono h fun vs G1 _ ⟨bv, sv, R, rs, ls, ev, hB, hS, hok, hl, hf, q⟩ => by
    subst ev
    refine ⟨rfl, bv, sv, R, R, rs, ls, rfl, hB, hS, hok, fun _ => recsOk_sheet hok hl, fun _ _ f G' => q f G', fun c d G' _ hne _ => hne ?_⟩
    unfold wrongOf
    rw [if_neg (fun z => z rfl), if_neg hf])
theorem ev_tallyS {b : Option (Addr × Addr)} {σ : L2.St} {G : Hp} {Q : V → Hp → Prop} {E : XK} {ta : TA} (h : Ev b ta σ G fun vs G1 => ∃ (sv lv pv : V) (R : List Str) (rs : List RecD) (ls : List LineT), vs = [sv, lv, pv] ∧ RsAt G1 sv R ∧ Dp K G1 lv (.list (ls.map encLine)) ∧ Dp K G1 pv (.list ((fitOf R rs).map encT)) ∧ R.Nodup ∧ R.length ≤ 6 ∧ LinesOk ls R.length ∧ ∀ f G', Same G1 G' → G' f = some (.dT (tkvs (ansOf ls) (winsOf R ls (fitOf R rs)))) → Q (.ref f) G') : Ev b (tCall (SpP 3 (pTally K)) [] E ta) σ G Q :=
  ev_call (Ev.mono h fun vs G1 _ ⟨sv, lv, pv, R, rs, ls, ev, h1, h2, h3, nd, h6, hl, q⟩ => by
    subst ev
    obtain ⟨q1, q2⟩ := fit_tally (rs := rs) nd h6 hl
    exact ⟨rfl, sv, lv, pv, R, ls, _, rfl, h1, h2, h3, hl, q1, q2, q⟩)
/-- the same shares, told and tried -/
theorem ev_sameS {b : Option (Addr × Addr)} {σ : L2.St} {G : Hp} {Q : V → Hp → Prop} {E : XK} {ta : TA} {R : List Str} {ls : List LineT} {g : List Str → Int} (hl : LinesOk ls R.length) (h : Ev b ta σ G fun vs G1 => ∃ f1 f2 : Addr, vs = [.ref f1, .ref f2] ∧ G1 f1 = some (.dT (tkvs (ansOf ls) g)) ∧ G1 f2 = some (.dT (tkvs (ansOf ls) g)) ∧ ∀ G', Same G1 G' → Q (.bl true) G') : Ev b (tCall (SpP 2 (pSame K 3)) [] E ta) σ G Q :=
  ev_call (Ev.mono h fun vs G1 _ ⟨f1, f2, ev, h1, h2, q⟩ => by
    subst ev
    exact ⟨rfl, _, _, rfl, .inr ⟨Nat.le_refl _, f1, f2, _, g, rfl, rfl, h1, h2, (ans_small hl).1, ansOf_nodup ls, (ans_small hl).2⟩, q⟩)
def pFullSo : List V → Hp → (V → Hp → Prop) → Prop := fun vs G P => vs = [] ∧ ∀ G', Same G G' → P (.bl true) G'
theorem d__law_full_so (T : Mo K mg) : Def P w K mg base CX0 10 "_law_full_so" ["_law_bag_here"] (SpB 0 pFullSo) := by
  obtain ⟨fd, F⟩ := T.f__law_full_so
  refine ⟨_, fd, F.ok sc__law_full_so spB_len (fun cdv A outer s H vs Q E hr h => ?_), T.g__law_full_so, F.kp, F.bindsN fun _ _ _ _ _ _ us hl => match us, hl with | [_], _ => rfl⟩
  have hu := hu_of hr
  obtain ⟨_, bg, bc, G, P, vs, rfl, wd, hp, kq⟩ := h
  refine ⟨_, PSs.nox (pss_cons (ps_asg (pe_d (d__law_full T) (hr.mono (by decide)) (by rfl) pass0 (pa_cons (pv 0) pa_nil)) (pg_tup rfl (pgs_cons (pg_name (i := 1) sc__law_full_so.nd rfl (Or.inl rfl)) (pgs_cons (pg_name (i := 2) sc__law_full_so.nd rfl (Or.inl rfl)) (pgs_cons (pg_name (i := 3) sc__law_full_so.nd rfl (Or.inl rfl)) (pgs_cons (pg_name (i := 4) sc__law_full_so.nd rfl (Or.inl rfl)) pgs_nil))))))
    (pss_one (ps_ret (pe_d (d_same T 3) (hr.mono (by decide)) (by rfl) pass0 (pa_cons (pe_d (d_shares T) (hr.mono (by decide)) (by rfl) passE (pa_cons (pe_d (d__law_book T) (hr.mono (by decide)) (by rfl) pass0 (pa_cons (pv 0) (pa_cons (pv 1) (pa_cons (pv 2) pa_nil)))) (pa_cons (pe_d (d__law_sheet T) (hr.mono (by decide)) (by rfl) pass0 (pa_cons (pv 0) (pa_cons (pv 1) (pa_cons (pv 4) pa_nil)))) pa_nil))) (pa_cons (pe_d (d__law_tally T) (hr.mono (by decide)) (by rfl) pass0 (pa_cons (pv 1) (pa_cons (pv 4) (pa_cons (pv 3) pa_nil)))) pa_nil)))))), ?_⟩
  obtain ⟨rfl, k⟩ := hp
  with_reducible refine s_seq ?_
  refine s_four (K := K) wd (ev_callB (ea_cons (ev_var rfl (ea_nil ⟨_, rfl, rfl, rfl, fun t v1 v2 v3 v4 R p recs ls G1 hok h6 hp hbr hl e1 ht hv1 hv2 hv3 hv4 => ⟨t, v1, v2, v3, v4, rfl, SqT.of ht, fun H1 s1 w1 => ?_⟩⟩))))
  have nd := recs_nd hok
  have hfit : fitOf R recs ≠ [] := fun z => by
    have : p ∈ fitOf R recs := fit_mem.mpr ⟨perm_mem nd hp, hbr⟩
    rw [z] at this
    cases this
  clear wd
  dsimp only
  walk_at "ev"
  refine ev_sameS (g := winsOf R ls (fitOf R recs)) hl (ea_cons (ev_shares (ea_cons (ev_bookL ?_))))
  walk_at "ev"
  refine ⟨v1, v2, R, recs, rfl, rs_dp hv1, hv2, hok, fun bv G2 e2 hB => ea_cons (ev_sheetL ?_)⟩
  walk_at "ev"
  refine ⟨v1, v4, R, ls, rfl, rs_dp (rs_mono e2 hv1), Dpm hv4 e2, ⟨hok.1, hok.2.2.1, hok.2.2.2.1⟩, hok.2.1, hl, fun sv G3 e3 hS => ea_nil ⟨bv, sv, R, recs, ls, rfl, bookIs_mono e3 hB, hS, hok, hl, hfit, fun f1 G4 e4 _ hf1 => ea_cons (ev_tallyS ?_)⟩⟩
  have e24 := (e2.trans e3).trans e4
  walk_at "ev"
  refine ⟨v1, v4, v3, R, recs, ls, rfl, rs_mono e24 hv1, Dpm hv4 e24, Dpm hv3 e24, nd, h6, hl, fun f2 G5 e5 hf2 => ea_nil ⟨f1, f2, rfl, e5 _ _ hf1, hf2, fun G6 e6 H6 s6 w6 => ?_⟩⟩
  exact kq _ _ _ (s1.trans s6) w6 (k _ (s1.trans s6).gg)
end
end FD
namespace FD
open PySem PyProof.Rows L2 LamX
/-! ### the law's two lambdas -/
def lamOf : Stmt → LamD
  | .If (.UnaryOp _ (.Call _ (.List (.Lambda p b s _ :: _) _ :: _) _ _) _) _ _ _ => ⟨"law.<locals>.<lambda>", p, b, s⟩
  | _ => ⟨"", ⟨[], [], none, [], [], none, []⟩, .Constant .none 0 ⟨0, 0, 0, 0⟩, defScope s_law⟩
def lamA : LamD := lamOf ((defBody s_law).getD 5 (.Pass ⟨0, 0, 0, 0⟩))
def lamB : LamD := lamOf ((defBody s_law).getD 6 (.Pass ⟨0, 0, 0, 0⟩))
section
variable {P : Program} {w : World} {K : PySem.W.Frag} {mg : Str → Option Value} {base : Heap}
theorem lamA_ok (T : Mo K mg) : LamOk P w K mg base lamA ["_law_x", "_law_s"] 9 (tbS K) :=
  ⟨by decide +kernel, by decide +kernel, by decide +kernel, by decide +kernel, fun _ _ _ _ => rfl, fun A outer s H E clo f c' hr => pe_d (d_shares T) (hr.mono (by decide)) (by rfl) (passes_call (takes_of (E := E) rfl rfl rfl rfl) (fun _ _ _ _ h => h)) (pa_cons (pv 0) (pa_cons (pv 1) pa_nil))⟩
theorem lamB_ok (T : Mo K mg) : LamOk P w K mg base lamB ["_law_x", "_law_t"] 9 (tbS K) :=
  ⟨by decide +kernel, by decide +kernel, by decide +kernel, by decide +kernel, fun _ _ _ _ => rfl, fun A outer s H E clo f c' hr => pe_sharesK (i := 0) (j := 1) T (hr.mono (by decide)) (by rfl) (passes_call (takes_of (E := E) rfl rfl rfl rfl) (fun _ _ _ _ h => h)) (pv 0) (pv 1)⟩
/-! ### what is kept for the lambdas -/
structure Kp (Pt : Addr) (G H : Hp) : Prop where
  off : G Pt = none
  tab : TabS H Pt "law.<locals>.<lambda>"
theorem kp_step {b : Option (Addr × Addr)} {Pt : Addr} {G H G' H' : Hp} (k : Kp Pt G H) (w : Wd b G H) (s : Stp (Bg b) G H G' H') : Kp Pt G' H' :=
  ⟨s.fr Pt k.off (by obtain ⟨_, e, _⟩ := k.tab; rw [e]; exact fun z => nomatch z), tab_keep k.tab fun b o e n => s.hh b o e (bg_lst w e n)⟩
/-- d[(s,)] = e, the dict one's own -/
theorem s_dputU {b : Option (Addr × Addr)} {σ : L2.St} {G H : Hp} {D : Ends} {i : Nat} {a : Addr} {kvs : List (List Key × V)} {s : Str} {tv : TE} (w : Wd b G H) (hi : σ[i]? = some (some (.ref a))) (hx : H a = some (.dT kvs)) (nb : ¬ Bg b a) (hl : kvs.length ≤ 900000)
    (h : Ev b tv σ G fun v G1 => ∀ H1 p, Stp (Bg b) G H G1 H1 → Wd b G1 H1 → H1 a = some (.dT kvs) → H1 p = none → D.nx σ (upd (upd H1 p (.tup [.str s])) a (.dT (putK kvs (tKey [s]) v)))) : sDPut (tVar i) (tTup (tCons (tC (.str s)) tNil)) tv D σ H := by
  refine h H w _ fun v G1 H1 e1 w1 q => ?_
  have hx1 := e1.hh _ _ hx nb
  exact ⟨_, hi, by show 1 ≤ sizeLine; exact sz_of (by decide), fun p hp => ⟨a, _, rfl, DPut.t (by rw [upd_ne (ne_of_none hx1 hp)]; exact hx1) (by rw [tKey_kV]; exact upd_same) (sz_lt (by omega)), q H1 p e1 w1 hx1 hp⟩⟩
end
/-! ### plain -/
theorem world_ok {R : List Str} {recs : List RecD} (h1 : NamesOk R) (h2 : sortedS R = true) (h3 : 1 ≤ R.length) (h4 : R.length ≤ 6) (h5 : RecsFit R recs) (h6 : recs.length ≤ 9) : RecsOk R recs :=
  ⟨h1, h2, h3, by omega, fun x hx => h5.1.1 _ (List.mem_map.mpr ⟨x, hx, rfl⟩), h5.1.2.1, h5.2, by omega⟩
theorem free_some (recs : List RecD) : ∃ m l, freeOf recs (recs.length + 1) = m :: l ∧ m ∉ recs.map (·.1) ∧ ∃ k, k ≤ recs.length ∧ m = kthS k := by
  cases e : freeOf recs (recs.length + 1) with
  | nil =>
    exfalso
    unfold freeOf at e
    have hall : ∀ k ∈ List.range (recs.length + 1), kthS k ∈ recs.map fun x => x.1 := fun k hk => by
      have h0 := List.filter_eq_nil_iff.mp (List.map_eq_nil_iff.mp e) k hk
      simpa using h0
    have hs : ∀ s ∈ (List.range (recs.length + 1)).map kthS, s ∈ recs.map fun x => x.1 := fun s hs => by
      obtain ⟨k, hk, rfl⟩ := List.mem_map.mp hs
      exact hall k hk
    have hn : ((List.range (recs.length + 1)).map kthS).Nodup := List.Pairwise.map _ (fun a b h z => h (kthS_inj z)) List.nodup_range
    have := nodup_le hn hs
    rw [List.length_map, List.length_map, List.length_range] at this
    omega
  | cons m l =>
    have hm : m ∈ freeOf recs (recs.length + 1) := by rw [e]; exact List.mem_cons_self
    unfold freeOf at hm
    obtain ⟨k, hk, rfl⟩ := List.mem_map.mp hm
    obtain ⟨hk1, hk2⟩ := List.mem_filter.mp hk
    refine ⟨_, l, rfl, ?_, k, ?_, rfl⟩
    · simpa using hk2
    · have := List.mem_range.mp hk1
      omega
theorem grown_one {R : List Str} {recs : List RecD} {r : RowD} (h : RecsOk R recs) (h9 : recs.length ≤ 9) (hr : RowFit R r) : ∃ m, grownOf recs [r] = recs ++ [(m, r)] ∧ RecsOk R (recs ++ [(m, r)]) := by
  obtain ⟨m, l, e, hm, k, hk, ek⟩ := free_some recs
  refine ⟨m, ?_, h.1, h.2.1, h.2.2.1, h.2.2.2.1, fun x hx => ?_, ?_, fun x hx => ?_, ?_⟩
  · unfold grownOf
    rw [show recs.length + [r].length = recs.length + 1 from rfl, e, List.zip_cons_cons, List.zip_nil_right]
  · rcases List.mem_append.mp hx with z | z
    · exact h.2.2.2.2.1 x z
    · rw [List.mem_singleton.mp z, ek]
      exact kthS_ok (by omega)
  · rw [List.map_append, List.nodup_append]
    refine ⟨h.2.2.2.2.2.1, by simp, fun a ha b hb => ?_⟩
    have hb : b = m := List.mem_singleton.mp hb
    rw [hb]
    exact fun z => hm (by rw [← z]; exact ha)
  · rcases List.mem_append.mp hx with z | z
    · exact h.2.2.2.2.2.2.1 x z
    · rw [List.mem_singleton.mp z]; exact hr
  · rw [List.length_append]
    show recs.length + 1 ≤ 40
    omega
theorem smp_row (r : RowD) (R : List Str) (hR : R.length ≤ 6) (hr : RowFit R r) (n : Nat) : Smp (n + 2) (encRow r) := by
  have h1 := hr.1.length_le
  have h2 := hr.2.1.length_le
  refine .inr ⟨_, .inr rfl, by show 2 ≤ 100000; decide, fun x hx => ?_⟩
  rcases List.mem_cons.mp hx with z | z
  · rw [z]; exact smp_strs _ n (by omega)
  · rw [List.mem_singleton.mp z]; exact smp_strs _ n (by omega)
theorem smp_told {R : List Str} {recs : List RecD} (h : RecsOk R recs) (h6 : R.length ≤ 6) : Smp 5 (toldOf R recs) := by
  refine .inr ⟨_, .inl rfl, by show 2 ≤ 100000; decide, fun x hx => ?_⟩
  rcases List.mem_cons.mp hx with z | z
  · rw [z]; exact smp_strs _ 3 (by omega)
  · rw [List.mem_singleton.mp z]
    refine .inr ⟨_, .inl rfl, by rw [List.length_map]; have := h.2.2.2.2.2.2.2; omega, fun y hy => ?_⟩
    obtain ⟨rc, hrc, rfl⟩ := List.mem_map.mp hy
    refine .inr ⟨_, .inr rfl, by show 2 ≤ 100000; decide, fun x hx => ?_⟩
    rcases List.mem_cons.mp hx with z | z
    · rw [z]; exact .inl (.inl ⟨_, rfl⟩)
    · rw [List.mem_singleton.mp z]; exact smp_row rc.2 R h6 (h.2.2.2.2.2.2.1 rc hrc) 0
/-! ### how many orders there are -/
theorem perms_in {R : List Str} : ∀ {k : Nat}, ∀ p ∈ permsK R k, (∀ x ∈ p, x ∈ R) ∧ p.Nodup
  | 0, p, hp => by cases List.mem_singleton.mp hp; exact ⟨fun _ h => (nomatch h), List.nodup_nil⟩
  | k + 1, p, hp => by
    obtain ⟨q, hq, h⟩ := List.mem_flatMap.mp hp
    obtain ⟨a, ha, rfl⟩ := List.mem_map.mp h
    obtain ⟨ha1, ha2⟩ := List.mem_filter.mp ha
    have ha3 : a ∉ q := by simpa using ha2
    obtain ⟨h1, h2⟩ := perms_in q hq
    refine ⟨fun x hx => ?_, ?_⟩
    · rcases List.mem_append.mp hx with z | z
      · exact h1 x z
      · rw [List.mem_singleton.mp z]; exact ha1
    · rw [List.nodup_append]
      refine ⟨h2, by simp, fun x hx y hy => ?_⟩
      have hy : y = a := List.mem_singleton.mp hy
      rw [hy]
      exact fun z => ha3 (by rw [← z]; exact hx)
theorem filter_two {α : Type} (c : α → Bool) : ∀ l : List α, (l.filter c).length + (l.filter fun a => !c a).length = l.length
  | [] => rfl
  | a :: l => by
    have ih := filter_two c l
    rw [List.filter_cons, List.filter_cons]
    cases c a with
    | true => show (l.filter c).length + 1 + (l.filter fun a => !c a).length = l.length + 1; omega
    | false => show (l.filter c).length + ((l.filter fun a => !c a).length + 1) = l.length + 1; omega
theorem flat_in {α β : Type} {n : Nat} {f : α → List β} : ∀ l : List α, (∀ x ∈ l, (f x).length ≤ n) → (l.flatMap f).length ≤ l.length * n
  | [], _ => by rw [List.flatMap_nil]; exact Nat.zero_le _
  | a :: l, h => by
    have h1 := h a List.mem_cons_self
    have ih := flat_in l fun x hx => h x (List.mem_cons_of_mem _ hx)
    rw [List.flatMap_cons, List.length_append, List.length_cons, Nat.add_mul, Nat.one_mul]
    omega
def dwn (n : Nat) : Nat → Nat
  | 0 => 1
  | k + 1 => dwn n k * (n - k)
theorem perms_dwn {R : List Str} : ∀ k, (permsK R k).length ≤ dwn R.length k
  | 0 => Nat.le_refl _
  | k + 1 => by
    refine Nat.le_trans (flat_in (n := R.length - k) (f := permNext R) (permsK R k) fun q hq => ?_) (Nat.mul_le_mul_right _ (perms_dwn k))
    obtain ⟨h1, h2⟩ := perms_in q hq
    have hl := permsK_ln q hq
    unfold permNext
    rw [List.length_map]
    have h3 := filter_two (fun a => decide (a ∈ q)) R
    have h4 := nodup_le (W := q) (R := R.filter fun a => decide (a ∈ q)) h2 fun x hx => List.mem_filter.mpr ⟨h1 x hx, decide_eq_true hx⟩
    omega
theorem fit_few {R : List Str} {recs : List RecD} (h : R.length ≤ 6) : (fitOf R recs).length ≤ 720 := by
  rw [fitOf_eq]
  refine Nat.le_trans (List.length_filter_le _ _) (Nat.le_trans (perms_dwn R.length) ?_)
  have h0 : ∀ n, n < 7 → dwn n n ≤ 720 := by decide
  exact h0 _ (by omega)
end FD
namespace FD
set_option maxHeartbeats 0
open PySem PyProof.Rows L2 LamX
section
variable {P : Program} {w : World} {K : PySem.W.Frag} {mg : Str → Option Value} {base : Heap}
local macro_rules | `(tactic| walk_at "ev") => `(tactic| repeat (first | with_reducible refine s_seq ?_ | with_reducible refine s_skip ?_ | with_reducible refine s_gn ?_ | with_reducible refine ev_op ?_ | with_reducible refine ev_un ?_ | ((with_reducible refine' ev_var ?hv ?_); (case hv => rfl)) | with_reducible refine ev_c ?_ | with_reducible refine ev_cb ?_ | with_reducible refine ea_cons ?_ | with_reducible refine ea_nil ?_ | with_reducible refine et_test ?_ | with_reducible refine et_B ?_ | with_reducible refine s_ret (by assumption) ?_ | with_reducible refine s_asg (by assumption) ?_))
def spLaw (K : PySem.W.Frag) (Pt : Addr) : Sp := fun vs H Q _ => ∃ (a : Addr) (ns : List Int), vs = [.ref a] ∧ H Pt = some (.tbl #[]) ∧ SqL K H a (ns.map V.int) ∧ ∀ H', Q (.bl true) H'
section
variable {b : Option (Addr × Addr)} {σ : L2.St} {G H : Hp} {D : Ends} {te : TE} {tu tw : TS}
theorem s_notV (h : te σ H fun v H' => ∃ k, v = V.bl k ∧ (if (!k) = true then tu D σ H' else tw D σ H')) : tIfS (tNot (tTest te)) tu tw D σ H := h
theorem rv_lenL {Q : V → Hp → Prop} {a : Addr} {xs : List V} (h : SqL K G a xs) (p : Q (.int (xs.length : Nat)) G) : Rv b ((fun xs H Q => ∃ p ys, xs = [V.ref p] ∧ (SqL K H p ys ∨ SqT K H p ys) ∧ Q (V.int ys.length) H : List V → Hp → VK → Prop) [.ref a]) G Q :=
  Rv.here (fun _ sm _ q => ⟨a, xs, rfl, .inl (sql_mono sm h), q⟩) p
theorem s_ifSet {R' : L2.St → Hp → Hp → Prop} {t : TT} {i : Nat} (w : Wd b G H) (h : Ev b t σ G fun c G1 => ∀ H1, Stp (Bg b) G H G1 H1 → Wd b G1 H1 → (c = true → Ev b te σ G1 fun v G2 => ∀ H2, Stp (Bg b) G1 H1 G2 H2 → Wd b G2 H2 → R' (σ.set i (some v)) G2 H2) ∧ (c = false → R' σ G1 H1))
    (k : ∀ σ' G' H', R' σ' G' H' → D.nx σ' H') : tIfS t (tAsg te (gName i)) tNext D σ H :=
  s_if w (Ev.mono h fun _ G1 _ q H1 e1 w1 => ⟨fun z => s_asg w1 (Ev.mono ((q H1 e1 w1).1 z) fun _ G2 _ r H2 e2 w2 => k _ G2 H2 (r H2 e2 w2)), fun z => s_skip (k _ G1 H1 ((q H1 e1 w1).2 z))⟩)
theorem rv_last {Q : V → Hp → Prop} {v0 : V} {ds : List PyData} {d : PyData} (h : Dp K G v0 (.list (ds ++ [d]))) (p : ∀ v, Dp K G v d → Q v G) : Rv b (rIxL K v0 (.int (-1))) G Q := by
  obtain ⟨a, xs, rfl, q, da⟩ := dp_lst h
  have hl := dpa_len da
  rw [List.length_append, List.length_singleton] at hl
  obtain ⟨v, hv⟩ : ∃ v, xs[ds.length]? = some v := ⟨_, List.getElem?_eq_getElem (by omega)⟩
  obtain ⟨d', hd', hd⟩ := dpa_get da hv
  rw [List.getElem?_append_right (Nat.le_refl _), Nat.sub_self] at hd'
  cases hd'
  refine Rv.here (fun _ sm _ q' => ⟨a, xs, _, v, rfl, rfl, sql_mono sm q, ?_, q'⟩) (p v hd)
  unfold atI ixN
  rw [if_neg (by decide), if_pos (by omega)]
  show xs[(-1 + (xs.length : Int)).toNat]? = some v
  rw [show (-1 + (xs.length : Int)).toNat = ds.length by omega]
  exact hv
theorem rv_sum {Q : V → Hp → Prop} {a : Addr} {ns : List Int} (h : SqL K G a (ns.map V.int)) (p : Q (.int ns.sum) G) : Rv b (rSum K [.ref a]) G Q :=
  Rv.here (fun _ sm _ q => ⟨a, ns, rfl, sql_mono sm h, q⟩) p
theorem ev_told5 {Q : V → Hp → Prop} {E E' : XK} {i j k : Nat} {xv v1 v2 : V} {R : List Str} {recs : List RecD} (hok : RecsOk R recs) (h6 : R.length ≤ 6) (hi : σ[i]? = some (some xv)) (hj : σ[j]? = some (some v1)) (hk : σ[k]? = some (some v2)) (hX : BookIs K G xv R recs) (h1 : RsAt G v1 R) (h2 : Dp K G v2 (.list (recs.map encRec)))
    (q : ∀ G', Same G G' → Q (.bl true) G') : Ev b (tCall (SpP 2 (pSame K 5)) [] E (tCons (tCall (SpP 1 (pTold K)) [] E' (tCons (tVar i) tNil)) (tCons (tLst (tCons (tVar j) (tCons (tVar k) tNil))) tNil))) σ G Q := by
  have h40 := hok.2.2.2.2.2.2.2
  refine ev_call (ea_cons (ev_told (ea_cons (ev_var hi (ea_nil ⟨xv, R, recs, rfl, hX, by omega, fun dv G1 e1 hd => ea_cons (ev_lst (ea_cons (ev_var hj (ea_cons (ev_var hk (ea_nil ⟨by show 2 ≤ 1000000; decide, fun p hp => ea_nil ?_⟩))))))⟩)))))
  exact ⟨rfl, dv, .ref p, rfl, .inl ⟨_, smp_told hok h6, Dpm hd (same_new hp), dp_newL (dpa_two (Dpm (rs_dp h1) e1) (Dpm h2 e1)) hp⟩, fun G' e' => q G' ((e1.trans (same_new hp)).trans e')⟩
end
theorem hide_at {H : Hp} {Pt : Addr} {a : Addr} {xs : List V} (h : SqL K H a xs) (e : H Pt = some (.tbl #[])) : SqL K (hide H Pt) a xs := by
  rcases h with (h | ⟨o, h⟩) | h
  · refine .inl (.inl ?_)
    rw [hide_ne (fun z => by rw [z, e] at h; cases h)]
    exact h
  · refine .inl (.inr ⟨o, ?_⟩)
    rw [hide_ne (fun z => by rw [z, e] at h; cases h)]
    exact h
  · exact .inr h
theorem ok_law (T : Mo K mg) {fd : FuncData} (F : FnP K "law" "law" s_law (He.ga K "law") fd) {Pt : Addr} (TB' : TabB base mg (He.codeOf K ("law", none)) Pt) : FnOk P w K mg base CX0 16 (He.ga K "law") fd ["_law_script"] (spLaw K Pt) := by
  obtain ⟨oc, od, dV, kV, doc, pm, an, cdv, ct, osl, rfl, lk, hcd, _, _⟩ := F.ex
  obtain ⟨c, rfl⟩ := He.codeIn_ref hcd
  have TB : TabB base mg c Pt := by
    have e : He.codeOf K ("law", none) = c := He.codeOf_eq lk rfl
    rw [e] at TB'
    exact TB'
  refine fn_of lk hcd sc_law (fun vs H Q E h => ?_) (fun A outer s H vs Q E hr h => ?_)
  · obtain ⟨a, ns, rfl, _⟩ := h
    rfl
  have hu := hu_of hr
  refine ⟨_, PSs.nox (pss_cons (ps_set (i := 1) sc_law.nd rfl (Or.inl rfl) (pe_d (d__law_bag T) (hr.mono (by decide)) (by rfl) pass0 (pa_cons (pv 0) pa_nil)))
    (pss_cons (ps_if (PW.pt (pw_and (pt_cmpR op_eq (pe_d (d__law_draw T) (hr.mono (by decide)) (by rfl) pass0 (pa_cons (pv 1) (pa_cons pe_int pa_nil))) pe_int (by rfl)) (pw_and1 (pt_not (pt_val (pe_d (d__law_full_so T) (hr.mono (by decide)) (by rfl) pass0 (pa_cons (pv 1) pa_nil))))))) (pss_one (ps_ret pe_bl)) pss_nil)
    (pss_cons (ps_asg (pe_d (d__law_world T) (hr.mono (by decide)) (by rfl) pass0 (pa_cons (pv 1) (pa_cons pe_int pa_nil))) (pg_tup rfl (pgs_cons (pg_name (i := 2) sc_law.nd rfl (Or.inl rfl)) (pgs_cons (pg_name (i := 3) sc_law.nd rfl (Or.inl rfl)) (pgs_cons (pg_name (i := 4) sc_law.nd rfl (Or.inl rfl)) (pgs_cons (pg_name (i := 5) sc_law.nd rfl (Or.inl rfl)) pgs_nil))))))
    (pss_cons (ps_par (i := 6) (j := 7) rfl sc_law.nd rfl rfl (by decide) rfl rfl (pa_cons (pe_d (d__law_fit T) (hr.mono (by decide)) (by rfl) pass0 (pa_cons (pv 2) (pa_cons (pv 3) pa_nil))) (pa_cons (pe_d (d__law_lines T) (hr.mono (by decide)) (by rfl) pass0 (pa_cons (pv 1) (pa_cons (pv 2) (pa_cons pe_int pa_nil)))) pa_nil)) (by rfl))
    (pss_cons (ps_asg (pe_tup (pa_cons (pe_d (d__law_book T) (hr.mono (by decide)) (by rfl) pass0 (pa_cons (pv 1) (pa_cons (pv 2) (pa_cons (pv 3) pa_nil)))) (pa_cons (pe_d (d__law_sheet T) (hr.mono (by decide)) (by rfl) pass0 (pa_cons (pv 1) (pa_cons (pv 4) (pa_cons (pv 5) pa_nil)))) (pa_cons (pe_d (d__law_sheet T) (hr.mono (by decide)) (by rfl) pass0 (pa_cons (pv 1) (pa_cons (pv 2) (pa_cons (pv 7) pa_nil)))) pa_nil)))) (pg_tup rfl (pgs_cons (pg_name (i := 8) sc_law.nd rfl (Or.inr rfl)) (pgs_cons (pg_name (i := 9) sc_law.nd rfl (Or.inr rfl)) (pgs_cons (pg_name (i := 10) sc_law.nd rfl (Or.inr rfl)) pgs_nil)))))
    (pss_cons (ps_if (pt_not (pt_val (pe_lamL (E := E0) (j1 := 8) (j2 := 9) (x1 := "_law_x") (x2 := "_law_s") (d_raise T rfl (lamA_ok T)) (hr.mono (by decide)) (by rfl) TB rfl (by rfl) (lamS_by (sc := defScope s_law) (by decide +kernel)) rfl rfl rfl (fun _ => rfl) rfl rfl (by rfl) (by rfl) (by rfl) (by rfl) (pe_d (d__law_wrong T) (hr.mono (by decide)) (by rfl) pass0 (pa_cons (pv 2) (pa_cons (pv 4) (pa_cons (pv 5) (pa_cons (pv 3) (pa_cons (pv 6) (pa_cons (pe_lst pa_nil) pa_nil)))))))))) (pss_one (ps_ret pe_bl)) pss_nil)
    (pss_cons (ps_if (pt_not (pt_val (pe_lamL (E := E0) (j1 := 8) (j2 := 10) (x1 := "_law_x") (x2 := "_law_t") (d_raise T rfl (lamB_ok T)) (hr.mono (by decide)) (by rfl) TB rfl (by rfl) (lamS_by (sc := defScope s_law) (by decide +kernel)) rfl rfl rfl (fun _ => rfl) rfl rfl (by rfl) (by rfl) (by rfl) (by rfl) (pe_d (d__law_wrong T) (hr.mono (by decide)) (by rfl) pass0 (pa_cons (pv 2) (pa_cons (pv 2) (pa_cons (pv 7) (pa_cons (pv 3) (pa_cons (pv 6) (pa_cons (pe_lst pa_nil) pa_nil)))))))))) (pss_one (ps_ret pe_bl)) pss_nil)
    (pss_cons (ps_if (pt_cmpR (op_eqW hr.units) (pv 6) (pe_lst pa_nil) (by rfl)) (pss_one (ps_ret (pe_d (d_same T 5) (hr.mono (by decide)) (by rfl) pass0 (pa_cons (pe_d (d__law_told T) (hr.mono (by decide)) (by rfl) pass0 (pa_cons (pv 8) pa_nil)) (pa_cons (pe_lst (pa_cons (pv 2) (pa_cons (pv 3) pa_nil))) pa_nil))))) pss_nil)
    (pss_cons (ps_set (i := 11) sc_law.nd rfl (Or.inl rfl) (pe_d (d__law_tally T) (hr.mono (by decide)) (by rfl) pass0 (pa_cons (pv 2) (pa_cons (pv 7) (pa_cons (pv 6) pa_nil)))))
    (pss_cons (ps_for PassesOwn.never rfl (pi_range1 (by rfl) T.n_range (pa_cons pe_int pa_nil)) (pg_name (i := 12) sc_law.nd rfl (Or.inl rfl))
      (pss_cons (ps_set (i := 13) sc_law.nd rfl (Or.inl rfl) (pe_ifExp (pt_cmpR op_eq (pv 12) pe_int (by rfl)) (pe_d (d_shares T) (hr.mono (by decide)) (by rfl) passE (pa_cons (pv 8) (pa_cons (pv 10) pa_nil))) (pe_sharesK T (hr.mono (by decide)) (by rfl) passE (pv 8) (pv 10))))
    (pss_cons (ps_if (PW.pt (pw_or (pt_not (pt_val (pe_d (d_same T 3) (hr.mono (by decide)) (by rfl) pass0 (pa_cons (pv 13) (pa_cons (pv 11) pa_nil))))) (pw_or1 (pt_cmpR op_ne (pe_callB (cr_sum rfl) (by rfl) T.n_sum (by decide +kernel) (pa_cons (pe_listVals rfl (pv 13) (by rfl) T.n_list boot_list) pa_nil)) (pe_callB call_len_seq (by rfl) T.n_len (by decide +kernel) (pa_cons (pv 6) pa_nil)) (by rfl))))) (pss_one (ps_ret pe_bl)) pss_nil)
    (pss_cons (ps_dput hu (pv 13) (pe_tup (pa_cons pe_str pa_nil)) pe_int rfl)
    (pss_one (ps_if (PW.pt (pw_and (pt_cmpR (op_eqW hr.units) (pv 4) (pv 2) (by rfl)) (pw_and1 (pt_not (pt_val (pe_d (d_same T 3) (hr.mono (by decide)) (by rfl) pass0 (pa_cons (pe_d (d_shares T) (hr.mono (by decide)) (by rfl) passE (pa_cons (pv 8) (pa_cons (pv 9) pa_nil))) (pa_cons (pe_d (d__law_tally T) (hr.mono (by decide)) (by rfl) pass0 (pa_cons (pv 2) (pa_cons (pv 5) (pa_cons (pv 6) pa_nil)))) pa_nil)))))))) (pss_one (ps_ret pe_bl)) pss_nil))))))
    (pss_cons (ps_set (i := 14) sc_law.nd rfl (Or.inl rfl) (pe_d (d__law_row T) (hr.mono (by decide)) (by rfl) pass0 (pa_cons (pv 1) (pa_cons (pv 2) pa_nil))))
    (pss_cons (ps_if (pt_not (pt_val (pe_d (d__law_bears T) (hr.mono (by decide)) (by rfl) pass0 (pa_cons (pe_d (d__law_of T) (hr.mono (by decide)) (by rfl) pass0 (pa_cons (pv 1) (pa_cons (pv 6) pa_nil))) (pa_cons (pv 14) pa_nil))))) (pss_one (ps_set (i := 14) sc_law.nd rfl (Or.inl rfl) (pe_tup (pa_cons (pe_ix ix_tup (pv 14) pe_int (fun _ _ => rfl)) (pa_cons (pe_ix ix_tup (pv 14) pe_int (fun _ _ => rfl)) pa_nil))))) pss_nil)
    (pss_cons (ps_set (i := 15) sc_law.nd rfl (Or.inl rfl) (pe_d (d__law_grown T) (hr.mono (by decide)) (by rfl) pass0 (pa_cons (pv 3) (pa_cons (pe_lst (pa_cons (pv 14) pa_nil)) pa_nil))))
    (pss_cons (ps_set (i := 16) sc_law.nd rfl (Or.inl rfl) (pe_op (op_addO (d_Book_add T) T.ad_Book (hr.mono (by decide)) pass0) (pv 8) (pe_tup (pa_cons (pe_ix ix_tup (pe_ix ix_list (pv 15) (pe_un un_neg pe_int) (fun _ _ => rfl)) pe_int (fun _ _ => rfl)) (pa_cons (FD.pe_dc (d_Row_init T) (hr.mono (by decide)) (by rfl) pass0 (pa_cons (pe_callTy call_list_of (by rfl) T.n_list (by decide +kernel) (pa_cons (pe_ix ix_tup (pv 14) pe_int (fun _ _ => rfl)) pa_nil)) (pa_cons (pe_ix ix_tup (pv 14) pe_int (fun _ _ => rfl)) pa_nil))) pa_nil)))))
    (pss_cons (ps_if (pt_not (pt_val (pe_d (d_same T 3) (hr.mono (by decide)) (by rfl) pass0 (pa_cons (pe_d (d_shares T) (hr.mono (by decide)) (by rfl) passE (pa_cons (pv 16) (pa_cons (pv 10) pa_nil))) (pa_cons (pe_d (d__law_tally T) (hr.mono (by decide)) (by rfl) pass0 (pa_cons (pv 2) (pa_cons (pv 7) (pa_cons (pe_d (d__law_fit T) (hr.mono (by decide)) (by rfl) pass0 (pa_cons (pv 2) (pa_cons (pv 15) pa_nil))) pa_nil)))) pa_nil))))) (pss_one (ps_ret pe_bl)) pss_nil)
    (pss_one (ps_ret (pe_and (pe_d (d_same T 3) (hr.mono (by decide)) (by rfl) pass0 (pa_cons (pe_d (d_shares T) (hr.mono (by decide)) (by rfl) passE (pa_cons (pv 8) (pa_cons (pv 10) pa_nil))) (pa_cons (pv 11) pa_nil))) (pe_one (pe_d (d_same T 5) (hr.mono (by decide)) (by rfl) pass0 (pa_cons (pe_d (d__law_told T) (hr.mono (by decide)) (by rfl) pass0 (pa_cons (pv 8) pa_nil)) (pa_cons (pe_lst (pa_cons (pv 2) (pa_cons (pv 3) pa_nil))) pa_nil)))))))))))))))))))))) , ?_⟩
  obtain ⟨sa, ns, rfl, hPt, hS, fin⟩ := h
  have wd : Wd none (hide H Pt) H := .none hide_le
  have k0 : Kp Pt (hide H Pt) H := ⟨hide_same, TabS.nil hPt⟩
  have hsa : Dp K (hide H Pt) (.ref sa) (.list (ns.map .int)) := .lst (hide_at hS hPt) (dpa_ints ns)
  generalize hide H Pt = G at wd k0 hsa
  with_reducible refine s_seq ?_
  refine s_asg wd (ev_call (ea_cons (ev_var rfl (ea_nil ⟨rfl, _, ns, rfl, hsa, fun ba bc m G1 e1 nba hba hbc hne hm0 hm1 H1 s1 w1 => ?_⟩))))
  have k1 := kp_step k0 wd s1
  have wb : Wd (some (ba, bc)) (hide G1 ba) H1 := ⟨hide_le.trans w1.same, fun a' c' z => by
    cases z
    exact ⟨hide_same, ns.take 63, 0, 0, m, w1.same _ _ hba, by rw [hide_ne (fun z => hne z.symm)]; exact hbc, Nat.zero_le _, by rw [List.length_take]; omega, by decide, hm0, hm1⟩⟩
  have kb : Kp Pt (hide G1 ba) H1 := ⟨hide_le.free k1.off, k1.tab⟩
  clear wd k0 hsa w1 k1 s1
  generalize hide G1 ba = G2 at wb kb
  dsimp only
  with_reducible refine s_seq ?_
  refine s_if wb (Ev.mono (P := fun k _ => k = false) ?_ fun k G3 _ hk H3 s3 w3 => ⟨fun z => (by rw [hk] at z; cases z), fun _ => ?_⟩)
  · refine et_and (et_test ?_)
    walk_at "ev"
    refine ev_draw ?_
    walk_at "ev"
    refine ⟨4, rfl, by decide, by decide, fun z G3 hz e3 => ?_⟩
    walk_at "ev"
    refine rv_eqB rfl ⟨_, rfl, fun _ => ?_, fun _ => rfl⟩
    exact et_not (et_B (ev_callB (ea_cons (ev_var rfl (ea_nil ⟨_, rfl, rfl, rfl, fun G4 e4 => ⟨true, rfl, rfl⟩⟩)))))
  have k3 := kp_step kb wb s3
  clear wb kb s3
  refine s_skip ?_
  dsimp only
  with_reducible refine s_seq ?_
  refine s_four (K := K) w3 (ev_callB (ea_cons (ev_var rfl (ea_cons (ev_c (ea_nil ⟨_, rfl, rfl, 6, rfl, by decide, by decide, fun t v1 v2 v3 v4 R R2 recs ls G4 hR hs h1 h6 hf h9 hR2 hs2 h21 h27 hl e4 ht hv1 hv2 hv3 hv4 => ⟨t, v1, v2, v3, v4, rfl, SqT.of ht, fun H4 s4 w4 => ?_⟩⟩))))))
  have hok := world_ok hR hs h1 h6 hf h9
  have nd := recs_nd hok
  have hrb : RecsBound recs := ⟨by omega, fun x hx => by
    have h1 := (hf.2 x hx).1.length_le
    have h2 := (hf.2 x hx).2.1.length_le
    omega⟩
  have k4 := kp_step k3 w3 s4
  clear w3 k3 s4 ht
  dsimp only
  with_reducible refine s_seq ?_
  refine s_par w4 (ea_cons (ev_fit ?_))
  walk_at "ev"
  refine ⟨v1, v2, R, recs, rfl, rs_dp hv1, h6, hv2, fun fv G5 e5 hfv => ea_cons (ev_lines ?_)⟩
  walk_at "ev"
  refine ⟨v1, R, 6, rfl, Dpm (rs_dp hv1) e5, by omega, by decide, by decide, fun ls2 lv G6 hl2 e6 hlv => ea_nil ⟨fv, lv, rfl, fun H6 s6 w6 => ?_⟩⟩
  have k6 := kp_step k4 w4 s6
  replace hv1 := rs_mono s6.gg hv1
  replace hv2 := Dpm hv2 s6.gg
  replace hv3 := rs_mono s6.gg hv3
  replace hv4 := Dpm hv4 s6.gg
  replace hfv := Dpm hfv e6
  clear w4 k4 s6 e5 e6
  dsimp only
  with_reducible refine s_seq ?_
  refine s_three (K := K) w6 (ev_tup (ea_cons (ev_bookL ?_)))
  walk_at "ev"
  refine ⟨v1, v2, R, recs, rfl, rs_dp hv1, hv2, hok, fun xv G7 e7 hX => ea_cons (ev_sheetL ?_)⟩
  walk_at "ev"
  refine ⟨v3, v4, R2, ls, rfl, Dpm (rs_dp hv3) e7, Dpm hv4 e7, ⟨hR2, h21, h27⟩, hs2, hl, fun sv G8 e8 hSh => ea_cons (ev_sheetL ?_)⟩
  walk_at "ev"
  refine ⟨v1, lv, R, ls2, rfl, Dpm (rs_dp hv1) (e7.trans e8), Dpm hlv (e7.trans e8), ⟨hok.1, hok.2.2.1, hok.2.2.2.1⟩, hok.2.1, hl2, fun tv G9 e9 hT => ea_nil ⟨by show 3 ≤ 1000000; decide, fun tp htp => ⟨tp, xv, sv, tv, rfl, SqT.of upd_same, fun Ha sa' wa => ?_⟩⟩⟩
  have ka := kp_step k6 w6 sa'
  have e9t := same_new (o := .tup [xv, sv, tv]) htp
  replace hv1 := rs_mono sa'.gg hv1
  replace hv2 := Dpm hv2 sa'.gg
  replace hv3 := rs_mono sa'.gg hv3
  replace hv4 := Dpm hv4 sa'.gg
  replace hfv := Dpm hfv sa'.gg
  replace hlv := Dpm hlv sa'.gg
  replace hX := bookIs_mono ((e8.trans e9).trans e9t) hX
  replace hSh := sheetIs_mono (e9.trans e9t) hSh
  replace hT := sheetIs_mono e9t hT
  clear w6 k6 e9t sa' e7 e8 e9
  generalize upd G9 tp (.tup [xv, sv, tv]) = Ga at *
  dsimp only
  with_reducible refine s_seq ?_
  refine s_notV (lam_run wa ka.tab ka.off rfl rfl hX hSh hok (fun e => by subst e; exact recsOk_sheet hok hl) (fun Gx ex => ?_) fun Hb wb tb => ⟨true, rfl, iteF ?_⟩)
  · refine ev_call (ea_cons (ev_var rfl (ea_cons (ev_var rfl (ea_cons (ev_var rfl (ea_cons (ev_var rfl (ea_cons (ev_var rfl (ea_cons (ev_lst (ea_nil ⟨by decide, fun q hq => ea_nil ⟨rfl, v1, v3, v4, v2, fv, .ref q, R, R2, recs, _, rfl, ?_, ?_, ?_, ?_, dp_newL .nil hq, hrb, fun _ _ _ h => h⟩⟩)))))))))))))
    · exact Dpm (rs_dp hv1) (ex.trans (same_new hq))
    · exact Dpm (rs_dp hv3) (ex.trans (same_new hq))
    · exact Dpm hv2 (ex.trans (same_new hq))
    · exact Dpm hfv (ex.trans (same_new hq))
  refine s_skip ?_
  dsimp only
  with_reducible refine s_seq ?_
  refine s_notV (lam_run wb tb ka.off rfl rfl hX hT hok (fun _ => recsOk_sheet hok hl2) (fun Gx ex => ?_) fun Hc wc tc => ⟨true, rfl, iteF ?_⟩)
  · refine ev_call (ea_cons (ev_var rfl (ea_cons (ev_var rfl (ea_cons (ev_var rfl (ea_cons (ev_var rfl (ea_cons (ev_var rfl (ea_cons (ev_lst (ea_nil ⟨by decide, fun q hq => ea_nil ⟨rfl, v1, v1, lv, v2, fv, .ref q, R, R, recs, _, rfl, ?_, ?_, ?_, ?_, dp_newL .nil hq, hrb, fun _ _ _ h => h⟩⟩)))))))))))))
    · exact Dpm (rs_dp hv1) (ex.trans (same_new hq))
    · exact Dpm (rs_dp hv1) (ex.trans (same_new hq))
    · exact Dpm hv2 (ex.trans (same_new hq))
    · exact Dpm hfv (ex.trans (same_new hq))
  clear wa wb tb tc ka
  refine s_skip ?_
  dsimp only
  with_reducible refine s_seq ?_
  refine s_if wc (Ev.mono (P := fun k G' => Same Ga G' ∧ (k = true ↔ fitOf R recs = [])) ?_ fun k Gd _ hk Hd sd wd => ⟨fun z => ?_, fun z => ?_⟩)
  · refine et_test ?_
    walk_at "ev"
    refine ev_lst (ea_nil ⟨by decide, fun q hq => ?_⟩)
    have e1 := same_new (o := .lst []) hq
    have hl0 : Dp K (upd Ga q (.lst [])) (.ref q) (.list (([] : List (PySem.W.Tup Str)).map PySem.W.Datum.toD)) := dp_newL .nil hq
    have h4' := Dpm hfv e1
    rw [tups_toD] at h4'
    refine rv_eqT (α := List (PySem.W.Tup Str)) ((fitOf R recs).map PySem.W.Tup.mk) [] h4' hl0 (by decide) ⟨_, rfl, e1, ?_⟩
    rw [decide_eq_true_iff]
    exact List.map_eq_nil_iff
  · clear wc
    dsimp only
    exact s_ret wd (ev_told5 hok h6 rfl rfl rfl (bookIs_mono hk.1 hX) (rs_mono hk.1 hv1) (Dpm hv2 hk.1) fun _ _ _ _ _ => fin _)
  have hfit : fitOf R recs ≠ [] := fun y => by
    rw [z] at hk
    exact Bool.noConfusion (hk.2.mpr y)
  have g1 := hk.1
  replace hv1 := rs_mono g1 hv1
  replace hv2 := Dpm hv2 g1
  replace hv3 := rs_mono g1 hv3
  replace hv4 := Dpm hv4 g1
  replace hfv := Dpm hfv g1
  replace hlv := Dpm hlv g1
  replace hX := bookIs_mono g1 hX
  replace hSh := sheetIs_mono g1 hSh
  replace hT := sheetIs_mono g1 hT
  clear wc sd hk g1
  refine s_skip ?_
  dsimp only
  with_reducible refine s_seq ?_
  refine s_asg wd (ev_tallyS (ea_cons (ev_var rfl (ea_cons (ev_var rfl (ea_cons (ev_var rfl (ea_nil ⟨v1, lv, fv, R, recs, ls2, rfl, hv1, hlv, hfv, nd, h6, hl2, fun due Ge g1 hdue He se we => ?_⟩))))))))
  replace hv1 := rs_mono g1 hv1
  replace hv2 := Dpm hv2 g1
  replace hv3 := rs_mono g1 hv3
  replace hv4 := Dpm hv4 g1
  replace hfv := Dpm hfv g1
  replace hlv := Dpm hlv g1
  replace hX := bookIs_mono g1 hX
  replace hSh := sheetIs_mono g1 hSh
  replace hT := sheetIs_mono g1 hT
  clear wd se g1
  obtain ⟨fa, fx, efv, hfq, hfd⟩ := dp_lst hfv
  have hfl : fx.length = (fitOf R recs).length := by rw [dpa_len hfd, List.length_map]
  dsimp only
  with_reducible refine s_seq ?_
  refine s_forR1 we (ea_cons (ev_c (ea_nil ⟨2, rfl, by decide, fun i σ G' H' => Ge = G' ∧ Wd (some (ba, bc)) Ge H' ∧ ∃ z12 z13 : Option V, σ = [some (.ref sa), some (.ref ba), some v1, some v2, some v3, some v4, some fv, some lv, some xv, some sv, some tv, some (.ref due), z12, z13, none, none, none], ⟨fun i σ G' H' h => ⟨by rw [← h.1]; exact Same.refl _, by rw [← h.1]; exact h.2.1⟩, ?_⟩, fun H' s' w' => ⟨rfl, w', _, _, rfl⟩, ?_⟩)))
  · rintro σ G' H' ⟨rfl, w', z12, z13, rfl⟩
    clear we
    dsimp only
    with_reducible refine s_seq ?_
    refine s_asg w' (ev_row ?_)
    walk_at "ev"
    refine ⟨v1, R, rfl, rs_dp hv1, hR, fun r rv G1 hr0 g1 hrv H1 s1 w1 => ?_⟩
    clear w'
    dsimp only
    with_reducible refine s_seq ?_
    refine s_ifSet (R' := fun σ G' H' => Same Ge G' ∧ Wd (some (ba, bc)) G' H' ∧ ∃ (rv : V) (r : RowD) (p : List Str), σ = [some (.ref sa), some (.ref ba), some v1, some v2, some v3, some v4, some fv, some lv, some xv, some sv, some tv, some (.ref due), z12, z13, some rv, none, none] ∧ RowFit R r ∧ p ∈ fitOf R recs ∧ bearsOf p r = true ∧ Dp K G' rv (encRow r)) w1 (et_not (et_test (ev_bears (ea_cons (ev_of ?_))))) ?_
    · walk_at "ev"
      refine ⟨fv, _, rfl, .inl (.inl (Dpm hfv g1)), ?_, ?_, fun d pv G2 hd g2 hpv => ea_cons (ev_var rfl (ea_nil ?_))⟩
      · rw [List.length_map]
        exact List.length_pos_iff.mpr hfit
      · rw [List.length_map]
        have := fit_few (recs := recs) h6
        omega
      obtain ⟨p, hp, rfl⟩ := List.mem_map.mp hd
      refine ⟨pv, rv, p, r, rfl, .inr hpv, Dpm hrv g2, fun G3 g3 => ⟨_, rfl, fun H3 s3 w3 => ⟨fun hb => ?_, fun hb => ?_⟩⟩⟩
      · have hb' : bearsOf p r = false := by simpa using hb
        refine ev_tup (ea_cons ?_)
        walk_at "ev"
        refine rv_ixDT (i := 1) (Dpm hrv (g2.trans g3)) rfl fun c1 hc1 => ?_
        walk_at "ev"
        refine rv_ixDT (i := 0) (Dpm hrv (g2.trans g3)) rfl fun c0 hc0 => ea_nil ⟨by show 2 ≤ 1000000; decide, fun t ht H4 s4 w4 => ⟨((g1.trans g2).trans g3).trans (same_new ht), w4, .ref t, flipRow r, p, rfl, rowFit_flip hr0, hp, bears_flip hb', dp_newT (dpa_two hc1 hc0) ht⟩⟩
      · exact ⟨(g1.trans g2).trans g3, w3, rv, r, p, rfl, hr0, hp, by simpa using hb, Dpm hrv (g2.trans g3)⟩
    clear w1 s1 hrv hr0 g1
    rintro σ G' H' ⟨g1, w', rv, r, p, rfl, hr0, hp, hbr, hrv⟩
    replace hv1 := rs_mono g1 hv1
    replace hv2 := Dpm hv2 g1
    replace hlv := Dpm hlv g1
    replace hX := bookIs_mono g1 hX
    replace hT := sheetIs_mono g1 hT
    replace hdue := g1 _ _ hdue
    clear g1
    obtain ⟨m, egr, hok2⟩ := grown_one hok h9 hr0
    dsimp only
    with_reducible refine s_seq ?_
    refine s_asg w' (ev_grownL (ea_cons (ev_var rfl (ea_cons (ev_lst (ea_cons (ev_var rfl (ea_nil ⟨by show 1 ≤ 1000000; decide, fun q hq => ea_nil ⟨v2, .ref q, recs, [r], rfl, Dpm hv2 (same_new hq), dp_newL (.cons hrv .nil) hq, by omega, by show 1 ≤ 100; decide, fun lt G2 g2 hlt H2 s2 w2 => ?_⟩⟩))))))))
    rw [egr] at hlt
    replace hv1 := rs_mono s2.gg hv1
    replace hv2 := Dpm hv2 s2.gg
    replace hlv := Dpm hlv s2.gg
    replace hX := bookIs_mono s2.gg hX
    replace hT := sheetIs_mono s2.gg hT
    replace hdue := s2.gg _ _ hdue
    replace hrv := Dpm hrv s2.gg
    clear w' s2 g2
    dsimp only
    with_reducible refine s_seq ?_
    refine s_asg w2 (ev_op (ev_var rfl (ev_tup (ea_cons ?_))))
    walk_at "ev"
    refine Rv.here (fun _ _ _ q => ⟨_, rfl, q⟩) ?_
    refine rv_last (ds := recs.map encRec) (d := encRec (m, r)) (by rw [List.map_append] at hlt; exact hlt) fun u hu => ?_
    walk_at "ev"
    refine rv_ixDT (i := 0) hu rfl fun mv hmv => ?_
    cases dp_str hmv
    refine ea_cons (ev_make (ea_cons ?_))
    walk_at "ev"
    refine rv_ixDT (i := 0) hrv rfl fun c0 hc0 => ea_nil (rv_listOf (.inr hc0) fun G3 l0 g3 hl0 => ?_)
    walk_at "ev"
    have hl1 := hr0.1.length_le
    have hl2' := hr0.2.1.length_le
    refine rv_ixDT (i := 1) (Dpm hrv g3) rfl fun c1 hc1 => ea_nil ⟨rfl, l0, c1, r.1, r.2, rfl, .inl hl0, .inr hc1, names_sub hR hr0.1, names_sub hR hr0.2.1, hr0.2.2, by omega, fun p' c' rw' G4 hp' hc' g4 hrow => ea_nil ⟨by show 2 ≤ 1000000; decide, fun t ht => ?_⟩⟩
    have ep : p' = r.1 := sort_unique hp'.1 hp'.2 (sorted_sub hs hr0.1)
    have ec : c' = r.2 := sort_unique hc'.1 hc'.2 (sorted_sub hs hr0.2.1)
    subst ep ec
    have hB4 := bookIs_mono ((g3.trans g4).trans (same_new (o := .tup [.str m, rw']) ht)) hX
    have harg : BookArg R (recs ++ [(m, r)]) := by
      have := recsOk_arg hok2 (recs ++ [(m, r)]).length
      rw [List.take_length] at this
      exact this
    obtain ⟨xa, xdx, xt, xd, xkvs, rfl, hb1, _⟩ := id hB4
    refine rv_addO rfl rfl hb1 (SqT.of upd_same) ⟨_, _, R, recs, (m, r), rfl, hB4, ⟨t, rw', rfl, upd_same, rowIs_mono (same_new ht) hrow⟩, hs, harg, fun yv G8 g8 hY H8 s8 w8 => ?_⟩
    replace hv1 := rs_mono s8.gg hv1
    replace hv2 := Dpm hv2 s8.gg
    replace hlv := Dpm hlv s8.gg
    replace hX := bookIs_mono s8.gg hX
    replace hT := sheetIs_mono s8.gg hT
    replace hdue := s8.gg _ _ hdue
    replace hlt := Dpm hlt s8.gg
    clear w2 s8 g8 hB4 hb1 hrow g4 hc1 hl0 g3
    have hfit2 : fitOf R (recs ++ [(m, r)]) ≠ [] := fun z => by
      have hpm : p ∈ fitOf R (recs ++ [(m, r)]) := fit_mem.mpr ⟨(fit_mem.mp hp).1, fun x hx => by
        rcases List.mem_append.mp hx with y | y
        · exact (fit_mem.mp hp).2 x y
        · rw [List.mem_singleton.mp y]; exact hbr⟩
      rw [z] at hpm
      cases hpm
    dsimp only
    with_reducible refine s_seq ?_
    refine s_if w8 (Ev.mono (P := fun k _ => k = false) ?_ fun k G9 _ hk9 H9 s9 w9 => ⟨fun z => (by rw [hk9] at z; cases z), fun _ => ?_⟩)
    · refine et_not (et_test (ev_sameS (g := winsOf R ls2 (fitOf R (recs ++ [(m, r)]))) hl2 (ea_cons (ev_shares (ea_cons (ev_var rfl (ea_cons (ev_var rfl (ea_nil ⟨yv, tv, R, _, ls2, rfl, hY, hT, hok2, hl2, hfit2, fun f1 Ga g1 _ hf1 => ea_cons (ev_tallyS (ea_cons (ev_var rfl (ea_cons (ev_var rfl (ea_cons ?_))))))⟩)))))))))
      refine ev_fit (ea_cons (ev_var rfl (ea_cons (ev_var rfl (ea_nil ⟨v1, lt, R, _, rfl, rs_dp (rs_mono g1 hv1), h6, Dpm hlt g1, fun fv2 Gb g2 hfv2 => ea_nil ⟨v1, lv, fv2, R, _, ls2, rfl, rs_mono (g1.trans g2) hv1, Dpm hlv (g1.trans g2), hfv2, nd, h6, hl2, fun f2 Gc g3 hf2 => ea_nil ⟨f1, f2, rfl, (g2.trans g3) _ _ hf1, hf2, fun Gd g4 => ⟨true, rfl, rfl⟩⟩⟩⟩)))))
    refine s_skip ?_
    dsimp only
    refine s_ret w9 (ev_andV (ev_sameS (g := winsOf R ls2 (fitOf R recs)) hl2 (ea_cons (ev_shares (ea_cons (ev_var rfl (ea_cons (ev_var rfl (ea_nil ⟨_, tv, R, recs, ls2, rfl, bookIs_mono s9.gg hX, sheetIs_mono s9.gg hT, hok, hl2, hfit, fun f1 Ga g1 _ hf1 => ea_cons (ev_var rfl (ea_nil ⟨f1, due, rfl, hf1, g1 _ _ (s9.gg _ _ hdue), fun Gb g2 => ⟨true, rfl, fun _ => ?_, fun z => nomatch z⟩⟩))⟩)))))))))
    have g9 := s9.gg.trans (g1.trans g2)
    exact ev_told5 hok h6 rfl rfl rfl (bookIs_mono g9 hX) (rs_mono g9 hv1) (Dpm hv2 g9) fun _ _ _ _ _ => fin _
  · rintro i σ G' H' hi ⟨rfl, w', z12, z13, rfl⟩
    clear we
    refine s_gn ?_
    dsimp only
    with_reducible refine s_seq ?_
    refine s_asg w' (Ev.mono (P := fun v G1 => ∃ f, v = V.ref f ∧ Same Ge G1 ∧ Ge f = none ∧ G1 f = some (.dT (tkvs (ansOf ls2) (winsOf R ls2 (fitOf R recs))))) ?_ fun v G1 _ ⟨f, ev, g1, nf, hf⟩ H1 s1 w1 => ?_)
    · refine ev_if (et_test ?_)
      walk_at "ev"
      refine rv_eqB rfl ⟨_, rfl, fun _ => ?_, fun _ => ?_⟩
      · exact ev_shares (ea_cons (ev_var rfl (ea_cons (ev_var rfl (ea_nil ⟨xv, tv, R, recs, ls2, rfl, hX, hT, hok, hl2, hfit, fun f G' e n h => ⟨f, rfl, e, n, h⟩⟩)))))
      · exact ev_shares (ea_cons (ev_var rfl (ea_cons (ev_var rfl (ea_nil ⟨xv, tv, R, recs, ls2, rfl, hX, hT, hok, hl2, hfit, fun f G' e n h => ⟨f, rfl, e, n, h⟩⟩)))))
    subst ev
    dsimp only
    with_reducible refine s_seq ?_
    refine s_if w1 (Ev.mono (P := fun k _ => k = false) ?_ fun k G2 _ hk2 H2 s2 w2 => ⟨fun z => (by rw [hk2] at z; cases z), fun _ => ?_⟩)
    · refine et_or (et_not (et_test (ev_sameS (g := winsOf R ls2 (fitOf R recs)) hl2 (ea_cons (ev_var rfl (ea_cons (ev_var rfl (ea_nil ⟨f, due, rfl, hf, g1 _ _ hdue, fun G' e' => ⟨true, rfl, fun z => (nomatch z), fun _ => ?_⟩⟩))))))))
      refine et_test ?_
      walk_at "ev"
      refine ev_listVals (ev_var rfl ⟨f, _, rfl, .inr ⟨_, e' _ _ hf, rfl⟩, fun q hq => ea_nil ?_⟩)
      have hvals : (tkvs (ansOf ls2) (winsOf R ls2 (fitOf R recs))).map (·.2) = ((ansOf ls2).map (winsOf R ls2 (fitOf R recs))).map V.int := by
        unfold tkvs
        rw [List.map_map, List.map_map]
        rfl
      refine rv_sum (ns := (ansOf ls2).map (winsOf R ls2 (fitOf R recs))) (by rw [← hvals]; exact SqL.of upd_same) ?_
      walk_at "ev"
      subst efv
      refine rv_lenL (sql_mono ((g1.trans e').trans (same_new hq)) hfq) ?_
      refine rv_neB rfl ⟨_, rfl, ?_⟩
      rw [wins_sum (ansOf ls2) (ansOf_nodup ls2) fun p hp => ((fit_tally nd h6 hl2).1 p hp).2.2, hfl]
      simp
    have nfH : H' f = none := s1.newAt nf hf
    have nbf : ¬ Bg (some (ba, bc)) f := w'.off nfH
    have hx2 := w2.same _ _ (s2.gg _ _ hf)
    have w2' : Wd (some (ba, bc)) Ge H2 := w'.pull ((g1.trans s2.gg).trans w2.same) w2
    clear s1 s2 w1 w2
    refine s_skip ?_
    dsimp only
    with_reducible refine s_seq ?_
    refine s_dputU w2' rfl hx2 nbf (by unfold tkvs; rw [List.length_map]; have := (ans_small hl2).1; omega) (ev_c fun H3 p s3 w3 hx3 hp3 => ?_)
    have w4 := (w3.newP (o := .tup [.str "zz"]) hp3).mut (o := .dT (putK (tkvs (ansOf ls2) (winsOf R ls2 (fitOf R recs))) (tKey ["zz"]) (.int 1))) nf nbf
    clear w2' w3
    dsimp only
    refine s_if w4 (Ev.mono (P := fun k _ => k = false) ?_ fun k G5 _ hk5 H5 s5 w5 => ⟨fun z => (by rw [hk5] at z; cases z), fun _ => ?_⟩)
    · refine et_and (et_test ?_)
      walk_at "ev"
      refine rv_eqT (α := PySem.W.Tup Str) ⟨R2⟩ ⟨R⟩ (rs_dp hv3) (rs_dp hv1) (by decide) ⟨_, rfl, fun h => ?_, fun _ => rfl⟩
      have e : R2 = R := by
        rw [tup_eq] at h
        exact of_decide_eq_true h
      subst e
      refine et_not (et_B (ev_sameS (g := winsOf R2 ls (fitOf R2 recs)) hl (ea_cons (ev_shares (ea_cons (ev_var rfl (ea_cons (ev_var rfl (ea_nil ⟨xv, sv, R2, recs, ls, rfl, hX, hSh, hok, hl, hfit, fun f1 G6 e6 _ hf1 => ea_cons (ev_tallyS (ea_cons (ev_var rfl (ea_cons (ev_var rfl (ea_cons (ev_var rfl (ea_nil ⟨v1, v4, fv, R2, recs, ls, rfl, rs_mono e6 hv1, Dpm hv4 e6, Dpm hfv e6, nd, h6, hl, fun f2 G7 e7 hf2 => ea_nil ⟨f1, f2, rfl, e7 _ _ hf1, hf2, fun G8 e8 => ⟨true, rfl, rfl⟩⟩⟩))))))))⟩)))))))))
    refine s_skip ?_
    exact ⟨Ge, rfl, w4.pull (s5.gg.trans w5.same) w5, _, _, rfl⟩
end
end FD
namespace FD
set_option maxHeartbeats 0
open PySem PySem.Spec PyProof.Rows L2
/-! ### the law at the head's heap -/
theorem law_at {w : World} {K : PySem.W.Frag} {mg : Str → Option Value} {fa : Addr} {h : Heap} (X : K.In h) (G : h.Ns mainGlobals mg) (hfa : mg "law" = some (.ref fa)) (c : SaysZ hdDs hdTf hdEx h K) : LamX.LawAtS PySem.Challenge.rw_firstdecides_k47_whole_shares_of_orders w K CX0 16 63 "_law_script" mg fa h := by
  have T := mo_of X G c
  obtain ⟨fd, F⟩ := T.f_law
  have e := hfa.symm.trans T.g_law
  cases e
  have b := FunD.bindsA (ps := ["_law_script"]) F fun _ _ _ _ _ _ us hl => match us, hl with | [_], _ => rfl
  have one : ∀ p ∈ [He.cT K ("law", none)], p = He.cT K ("law", none) := fun p hp => List.mem_singleton.mp hp
  have mem : (("law", none) : He.Defn) ∈ hdTf := List.mem_singleton.mpr rfl
  refine ⟨fd, [He.cT K ("law", none)], spLaw K (He.cT K ("law", none)).2, fun p hp => ?_, fun p hp => ?_, fun p hp => ?_, fun s v => b s [v] rfl, fun H a ns _ _ hH hS => ⟨a, ns, rfl, hH _ (List.mem_singleton.mpr rfl), hS, fun _ => rfl⟩, fun base _ _ hT => ok_law T F (hT _ (List.mem_singleton.mpr rfl))⟩
  · rw [one p hp]
    exact c.empty _ mem
  · rw [one p hp]
    exact c.out _ mem
  · rw [one p hp]
    exact PySem.W.codeHd_of_K X (c.hd _ mem)
end FD
set_option maxHeartbeats 0
open PySem PySem.W PySem.Calls PyProof.Rows
theorem PySem.Challenge.cw_firstdecides_k47_whole_shares_of_orders_holds : PySem.Challenge.rw_firstdecides_k47_whole_shares_of_orders.Holds := by
  w_on; o_law
  refine HandSHeadRun.head_any (r := OpenLaw.row PySem.Challenge.rw_firstdecides_k47_whole_shares_of_orders) (q := FD.hdView) (H := FD.hdHk) (ob := FD.hdOb) (M := 30000) (loose := FD.hdNames) (d := HandSHeadRun.topDef (OpenLaw.row PySem.Challenge.rw_firstdecides_k47_whole_shares_of_orders).prog 103) (kwd := []) FD.hdOb_eq
    (by kernel_rfl) (fun s => by kernel_rfl) FD.hdRun (by kernel_rfl) (by kernel_rfl) (by kernel_rfl) (by rfl) (by first | assumption | decide +kernel) (by decide +kernel) ⟨rfl, rfl, rfl, rfl, rfl, by decide +kernel⟩ ?hw ?hc
  case hw => w_witness2
  case hc =>
    refine LamX.walk_ofTsE (l := PySem.Challenge.rw_firstdecides_k47_whole_shares_of_orders) (n := 63) (k := 16) (x := "_law_script") (CX := fun _ => L2.CX0) rfl (by decide) (by kernel_rfl) ⟨rfl, by decide, by decide⟩ ?F (fun _ _ _ _ _ z => z)
    intro w mg fa h Y G hmg0
    obtain ⟨K, KX, c⟩ := Y
    have hmg : mg ("law" : PySem.Str) = some (.ref fa) := by
      have e : (HandSHeadRun.topDef (OpenLaw.row PySem.Challenge.rw_firstdecides_k47_whole_shares_of_orders).prog 103).name = ("law" : PySem.Str) := by kernel_rfl
      rw [← e]
      exact hmg0
    exact ⟨K, KX, FD.law_at KX G hmg c⟩
