import PyProof.Rows.All
import Wide.All
import OpenK.AllK
import Wide.FinOn
import KE.KStateDown
import Lean
import HandS.ForMost
import HandS.WordsExc
import HandS.Defaults
import HandS.Flow
import HandS.Style
import HandS.Conv
import HandS.Deep
import HandS.DictTup
import HandS.IsInst
import HandS.Walk
import HandS.Wide
import HandS.SetKeys
import HandS.TupSets
import HandS.Zip
import HandS.TupAny
import HandS.Head0
import HandS.Head1
import HandS.Head2
import HandS.HeadEnd
import HandS.HeadHook1
import HandS.HeadHook2
import HandS.HeadHook4
import KE.GoesNewDict
import KE.GoesMore
import KE.GoesEnum
import HandS.Keys
import HandS.Strs
import HandS.TupLen
import KE.IntBitsLaws
import PyProof.P3Eq
import PySem.Challenge.RW_keptreading_k43_whole_what_stays
set_option Elab.async false
set_option linter.all false
set_option maxRecDepth 100000
set_option maxHeartbeats 4000000
namespace Kr
open PySem PySem.Spec PyProof.Rows L2
def top (i : Nat) : Stmt := PySem.Challenge.pw_keptreading_k43_whole_what_stays.main.body.getD i (.Pass ⟨0, 0, 0, 0⟩)
def d_is_sign : He.DefD := ⟨("is_sign", none), "is_sign", "is_sign", defArgs (top 19), defBody (top 19), defScope (top 19), [], []⟩
def d_is_text : He.DefD := ⟨("is_text", none), "is_text", "is_text", defArgs (top 20), defBody (top 20), defScope (top 20), [], []⟩
def d_is_name : He.DefD := ⟨("is_name", none), "is_name", "is_name", defArgs (top 21), defBody (top 21), defScope (top 21), [], []⟩
def d_are_signs : He.DefD := ⟨("are_signs", none), "are_signs", "are_signs", defArgs (top 22), defBody (top 22), defScope (top 22), [], []⟩
def d_is_form : He.DefD := ⟨("is_form", none), "is_form", "is_form", defArgs (top 23), defBody (top 23), defScope (top 23), [], []⟩
def d_parts_of : He.DefD := ⟨("parts_of", none), "parts_of", "parts_of", defArgs (top 24), defBody (top 24), defScope (top 24), [], []⟩
def d_is_rule : He.DefD := ⟨("is_rule", none), "is_rule", "is_rule", defArgs (top 26), defBody (top 26), defScope (top 26), [], []⟩
def d_is_book : He.DefD := ⟨("is_book", none), "is_book", "is_book", defArgs (top 27), defBody (top 27), defScope (top 27), [], []⟩
def d_may_be_empty : He.DefD := ⟨("may_be_empty", none), "may_be_empty", "may_be_empty", defArgs (top 28), defBody (top 28), defScope (top 28), [], []⟩
def d_emptiness : He.DefD := ⟨("emptiness", none), "emptiness", "emptiness", defArgs (top 29), defBody (top 29), defScope (top 29), [], []⟩
def d_first_parts : He.DefD := ⟨("first_parts", none), "first_parts", "first_parts", defArgs (top 30), defBody (top 30), defScope (top 30), [], []⟩
def d_followers : He.DefD := ⟨("followers", none), "followers", "followers", defArgs (top 31), defBody (top 31), defScope (top 31), [], []⟩
def d_loop : He.DefD := ⟨("loop", none), "loop", "loop", defArgs (top 32), defBody (top 32), defScope (top 32), [], []⟩
def d_Work_init : He.DefD := ⟨("Work", some "__init__"), "__init__", "Work.__init__", defArgs (inClass (top 34) 0), defBody (inClass (top 34) 0), defScope (inClass (top 34) 0), [], []⟩
def d_Work_wants : He.DefD := ⟨("Work", some "wants"), "wants", "Work.wants", defArgs (inClass (top 34) 1), defBody (inClass (top 34) 1), defScope (inClass (top 34) 1), [], []⟩
def d_Work_hear : He.DefD := ⟨("Work", some "hear"), "hear", "Work.hear", defArgs (inClass (top 34) 2), defBody (inClass (top 34) 2), defScope (inClass (top 34) 2), [], []⟩
def d_Work_outcome : He.DefD := ⟨("Work", some "outcome"), "outcome", "Work.outcome", defArgs (inClass (top 34) 3), defBody (inClass (top 34) 3), defScope (inClass (top 34) 3), [], []⟩
def d_finished : He.DefD := ⟨("finished", none), "finished", "finished", defArgs (top 35), defBody (top 35), defScope (top 35), [], []⟩
def d_make : He.DefD := ⟨("make", none), "make", "make", defArgs (top 36), defBody (top 36), defScope (top 36), [], []⟩
def d_is_count : He.DefD := ⟨("is_count", none), "is_count", "is_count", defArgs (top 38), defBody (top 38), defScope (top 38), [], []⟩
def d_is_kept_row : He.DefD := ⟨("is_kept_row", none), "is_kept_row", "is_kept_row", defArgs (top 39), defBody (top 39), defScope (top 39), [], []⟩
def d_are_unlike : He.DefD := ⟨("are_unlike", none), "are_unlike", "are_unlike", defArgs (top 40), defBody (top 40), defScope (top 40), [], []⟩
def d_are_rows : He.DefD := ⟨("are_rows", none), "are_rows", "are_rows", defArgs (top 41), defBody (top 41), defScope (top 41), [], []⟩
def d_Reader_init : He.DefD := ⟨("Reader", some "__init__"), "__init__", "Reader.__init__", defArgs (inClass (top 43) 0), defBody (inClass (top 43) 0), defScope (inClass (top 43) 0), [], []⟩
def d_Reader_reading_at : He.DefD := ⟨("Reader", some "reading_at"), "reading_at", "Reader.reading_at", defArgs (inClass (top 43) 1), defBody (inClass (top 43) 1), defScope (inClass (top 43) 1), [], []⟩
def d_Reader_row_of : He.DefD := ⟨("Reader", some "row_of"), "row_of", "Reader.row_of", defArgs (inClass (top 43) 2), defBody (inClass (top 43) 2), defScope (inClass (top 43) 2), [], []⟩
def d_Reader_read : He.DefD := ⟨("Reader", some "read"), "read", "Reader.read", defArgs (inClass (top 43) 3), defBody (inClass (top 43) 3), defScope (inClass (top 43) 3), [.int 0], []⟩
def d_Reader_kept : He.DefD := ⟨("Reader", some "kept"), "kept", "Reader.kept", defArgs (inClass (top 43) 8), defBody (inClass (top 43) 8), defScope (inClass (top 43) 8), [], []⟩
def d_Reader_made : He.DefD := ⟨("Reader", some "made"), "made", "Reader.made", defArgs (inClass (top 43) 9), defBody (inClass (top 43) 9), defScope (inClass (top 43) 9), [], []⟩
def d_Reader_put : He.DefD := ⟨("Reader", some "put"), "put", "Reader.put", defArgs (inClass (top 43) 12), defBody (inClass (top 43) 12), defScope (inClass (top 43) 12), [], []⟩
def d_Reader_put_in : He.DefD := ⟨("Reader", some "put_in"), "put_in", "Reader.put_in", defArgs (inClass (top 43) 13), defBody (inClass (top 43) 13), defScope (inClass (top 43) 13), [], []⟩
def d_Reader_rule : He.DefD := ⟨("Reader", some "rule"), "rule", "Reader.rule", defArgs (inClass (top 43) 14), defBody (inClass (top 43) 14), defScope (inClass (top 43) 14), [], []⟩
def d_Reader_rule_in : He.DefD := ⟨("Reader", some "rule_in"), "rule_in", "Reader.rule_in", defArgs (inClass (top 43) 15), defBody (inClass (top 43) 15), defScope (inClass (top 43) 15), [], []⟩
def d_Reader_let_go : He.DefD := ⟨("Reader", some "let_go"), "let_go", "Reader.let_go", defArgs (inClass (top 43) 16), defBody (inClass (top 43) 16), defScope (inClass (top 43) 16), [], []⟩
def d_Reader_drop : He.DefD := ⟨("Reader", some "drop"), "drop", "Reader.drop", defArgs (inClass (top 43) 17), defBody (inClass (top 43) 17), defScope (inClass (top 43) 17), [], []⟩
def d_laid : He.DefD := ⟨("laid", none), "laid", "laid", defArgs (top 44), defBody (top 44), defScope (top 44), [], []⟩
def d_law_cell_at : He.DefD := ⟨("_law_cell_at", none), "_law_cell_at", "_law_cell_at", defArgs (top 46), defBody (top 46), defScope (top 46), [], []⟩
def d_law_bag : He.DefD := ⟨("_law_bag", none), "_law_bag", "_law_bag", defArgs (top 47), defBody (top 47), defScope (top 47), [], []⟩
def d_law_take : He.DefD := ⟨("_law_take", none), "_law_take", "_law_take", defArgs (top 48), defBody (top 48), defScope (top 48), [], []⟩
def d_law_alike : He.DefD := ⟨("_law_alike", none), "_law_alike", "_law_alike", defArgs (top 49), defBody (top 49), defScope (top 49), [], []⟩
def d_law_names : He.DefD := ⟨("_law_names", none), "_law_names", "_law_names", defArgs (top 50), defBody (top 50), defScope (top 50), [], []⟩
def d_law_every : He.DefD := ⟨("_law_every", none), "_law_every", "_law_every", defArgs (top 51), defBody (top 51), defScope (top 51), [], []⟩
def d_law_some : He.DefD := ⟨("_law_some", none), "_law_some", "_law_some", defArgs (top 52), defBody (top 52), defScope (top 52), [], []⟩
def d_law_text : He.DefD := ⟨("_law_text", none), "_law_text", "_law_text", defArgs (top 53), defBody (top 53), defScope (top 53), [], []⟩
def d_law_nobody : He.DefD := ⟨("_law_nobody", none), "_law_nobody", "_law_nobody", defArgs (top 54), defBody (top 54), defScope (top 54), [], []⟩
def d_law_form : He.DefD := ⟨("_law_form", none), "_law_form", "_law_form", defArgs (top 55), defBody (top 55), defScope (top 55), [], []⟩
def d_law_rules : He.DefD := ⟨("_law_rules", none), "_law_rules", "_law_rules", defArgs (top 56), defBody (top 56), defScope (top 56), [], []⟩
def d_law_reading : He.DefD := ⟨("_law_reading", none), "_law_reading", "_law_reading", defArgs (top 57), defBody (top 57), defScope (top 57), [], []⟩
def d_law_begins : He.DefD := ⟨("_law_begins", none), "_law_begins", "_law_begins", defArgs (top 58), defBody (top 58), defScope (top 58), [], []⟩
def d_law_loops : He.DefD := ⟨("_law_loops", none), "_law_loops", "_law_loops", defArgs (top 59), defBody (top 59), defScope (top 59), [], []⟩
def d_law_world : He.DefD := ⟨("_law_world", none), "_law_world", "_law_world", defArgs (top 60), defBody (top 60), defScope (top 60), [], []⟩
def d_law_rows : He.DefD := ⟨("_law_rows", none), "_law_rows", "_law_rows", defArgs (top 61), defBody (top 61), defScope (top 61), [], []⟩
def d_law_copies : He.DefD := ⟨("_law_copies", none), "_law_copies", "_law_copies", defArgs (top 62), defBody (top 62), defScope (top 62), [], []⟩
def d_law_still : He.DefD := ⟨("_law_still", none), "_law_still", "_law_still", defArgs (top 63), defBody (top 63), defScope (top 63), [], []⟩
def d_law_put : He.DefD := ⟨("_law_put", none), "_law_put", "_law_put", defArgs (top 64), defBody (top 64), defScope (top 64), [], []⟩
def d_law_rule : He.DefD := ⟨("_law_rule", none), "_law_rule", "_law_rule", defArgs (top 65), defBody (top 65), defScope (top 65), [], []⟩
def d_law : He.DefD := ⟨("law", none), "law", "law", defArgs (top 66), defBody (top 66), defScope (top 66), [], []⟩
def fn : List He.DefD := [d_is_sign, d_is_text, d_is_name, d_are_signs, d_is_form, d_parts_of, d_is_rule, d_is_book, d_may_be_empty, d_emptiness, d_first_parts, d_followers, d_loop, d_Work_init, d_Work_wants, d_Work_hear, d_Work_outcome, d_finished, d_make, d_is_count, d_is_kept_row, d_are_unlike, d_are_rows, d_Reader_init, d_Reader_reading_at, d_Reader_row_of, d_Reader_read, d_Reader_kept, d_Reader_made, d_Reader_put, d_Reader_put_in, d_Reader_rule, d_Reader_rule_in, d_Reader_let_go, d_Reader_drop, d_laid, d_law_cell_at, d_law_bag, d_law_take, d_law_alike, d_law_names, d_law_every, d_law_some, d_law_text, d_law_nobody, d_law_form, d_law_rules, d_law_reading, d_law_begins, d_law_loops, d_law_world, d_law_rows, d_law_copies, d_law_still, d_law_put, d_law_rule, d_law]
def fa : List He.Fa := [.str "LETTERS" ⟨#[97, 98, 99, 100, 101, 102, 103, 104, 105, 106, 107, 108, 109, 110, 111, 112, 113, 114, 115, 116, 117, 118, 119, 120, 121, 122]⟩, .str "FIGURES" ⟨#[48, 49, 50, 51, 52, 53, 54, 55, 56, 57]⟩, .str "GREAT" ⟨#[65, 66, 67, 68, 69, 70, 71, 72, 73, 74, 75, 76, 77, 78, 79, 80, 81, 82, 83, 84, 85, 86, 87, 88, 89, 90]⟩, .str "MARKS" ⟨#[32, 33, 34, 35, 36, 38, 39, 40, 41, 42, 43, 44, 45, 46, 47, 58, 59, 60, 61, 62, 63, 64, 91, 92, 93, 94, 95, 96, 123, 124, 125, 126]⟩, .int "LONGEST_NAME" 8, .int "MOST_SIGNS" 40, .int "MOST_PARTS" 8, .glo "is_sign", .glo "is_text", .glo "is_name", .glo "are_signs", .glo "is_form", .glo "parts_of", .glo "is_rule", .glo "is_book", .glo "may_be_empty", .glo "emptiness", .glo "first_parts", .glo "followers", .glo "loop", .glo "Work", .cls "Work", .mkr "Work", .meth "Work" "wants", .meth "Work" "hear", .meth "Work" "outcome", .noat "Work" "at", .noat "Work" "form", .noat "Work" "heard", .noat "Work" "label", .noat "Work" "over", .noat "Work" "place", .noat "Work" "seen", .noat "Work" "turn", .glo "finished", .glo "make", .glo "is_count", .glo "is_kept_row", .glo "are_unlike", .glo "are_rows", .glo "Reader", .cls "Reader", .mkr "Reader", .meth "Reader" "reading_at", .meth "Reader" "row_of", .meth "Reader" "read", .meth "Reader" "kept", .meth "Reader" "made", .meth "Reader" "put", .meth "Reader" "put_in", .meth "Reader" "rule", .meth "Reader" "rule_in", .meth "Reader" "let_go", .meth "Reader" "drop", .noat "Reader" "count_made", .noat "Reader" "deeds", .noat "Reader" "further", .noat "Reader" "numbers", .noat "Reader" "rules", .noat "Reader" "signs", .noat "Reader" "table", .glo "laid", .glo "_law_cell_at", .glo "_law_bag", .glo "_law_take", .glo "_law_alike", .glo "_law_names", .glo "_law_every", .glo "_law_some", .glo "_law_text", .glo "_law_nobody", .glo "_law_form", .glo "_law_rules", .glo "_law_reading", .glo "_law_begins", .glo "_law_loops", .glo "_law_world", .glo "_law_rows", .glo "_law_copies", .glo "_law_still", .glo "_law_put", .glo "_law_rule", .glo "law", .free "all", .free "any", .free "bool", .free "dict", .free "int", .free "isinstance", .free "len", .free "list", .free "max", .free "range", .free "set", .free "sorted", .free "str", .free "tuple", .free "zip"]
theorem mc_LETTERS : He.Fa.str "LETTERS" ⟨#[97, 98, 99, 100, 101, 102, 103, 104, 105, 106, 107, 108, 109, 110, 111, 112, 113, 114, 115, 116, 117, 118, 119, 120, 121, 122]⟩ ∈ fa := List.mem_of_getElem? (i := 0) rfl
theorem mc_FIGURES : He.Fa.str "FIGURES" ⟨#[48, 49, 50, 51, 52, 53, 54, 55, 56, 57]⟩ ∈ fa := List.mem_of_getElem? (i := 1) rfl
theorem mc_GREAT : He.Fa.str "GREAT" ⟨#[65, 66, 67, 68, 69, 70, 71, 72, 73, 74, 75, 76, 77, 78, 79, 80, 81, 82, 83, 84, 85, 86, 87, 88, 89, 90]⟩ ∈ fa := List.mem_of_getElem? (i := 2) rfl
theorem mc_MARKS : He.Fa.str "MARKS" ⟨#[32, 33, 34, 35, 36, 38, 39, 40, 41, 42, 43, 44, 45, 46, 47, 58, 59, 60, 61, 62, 63, 64, 91, 92, 93, 94, 95, 96, 123, 124, 125, 126]⟩ ∈ fa := List.mem_of_getElem? (i := 3) rfl
theorem mc_LONGEST_NAME : He.Fa.int "LONGEST_NAME" 8 ∈ fa := List.mem_of_getElem? (i := 4) rfl
theorem mc_MOST_SIGNS : He.Fa.int "MOST_SIGNS" 40 ∈ fa := List.mem_of_getElem? (i := 5) rfl
theorem mc_MOST_PARTS : He.Fa.int "MOST_PARTS" 8 ∈ fa := List.mem_of_getElem? (i := 6) rfl
theorem mg_is_sign : He.Fa.glo "is_sign" ∈ fa := List.mem_of_getElem? (i := 7) rfl
theorem mg_is_text : He.Fa.glo "is_text" ∈ fa := List.mem_of_getElem? (i := 8) rfl
theorem mg_is_name : He.Fa.glo "is_name" ∈ fa := List.mem_of_getElem? (i := 9) rfl
theorem mg_are_signs : He.Fa.glo "are_signs" ∈ fa := List.mem_of_getElem? (i := 10) rfl
theorem mg_is_form : He.Fa.glo "is_form" ∈ fa := List.mem_of_getElem? (i := 11) rfl
theorem mg_parts_of : He.Fa.glo "parts_of" ∈ fa := List.mem_of_getElem? (i := 12) rfl
theorem mg_is_rule : He.Fa.glo "is_rule" ∈ fa := List.mem_of_getElem? (i := 13) rfl
theorem mg_is_book : He.Fa.glo "is_book" ∈ fa := List.mem_of_getElem? (i := 14) rfl
theorem mg_may_be_empty : He.Fa.glo "may_be_empty" ∈ fa := List.mem_of_getElem? (i := 15) rfl
theorem mg_emptiness : He.Fa.glo "emptiness" ∈ fa := List.mem_of_getElem? (i := 16) rfl
theorem mg_first_parts : He.Fa.glo "first_parts" ∈ fa := List.mem_of_getElem? (i := 17) rfl
theorem mg_followers : He.Fa.glo "followers" ∈ fa := List.mem_of_getElem? (i := 18) rfl
theorem mg_loop : He.Fa.glo "loop" ∈ fa := List.mem_of_getElem? (i := 19) rfl
theorem mg_Work : He.Fa.glo "Work" ∈ fa := List.mem_of_getElem? (i := 20) rfl
theorem mk_Work : He.Fa.cls "Work" ∈ fa := List.mem_of_getElem? (i := 21) rfl
theorem mm_Work : He.Fa.mkr "Work" ∈ fa := List.mem_of_getElem? (i := 22) rfl
theorem mt_Work_wants : He.Fa.meth "Work" "wants" ∈ fa := List.mem_of_getElem? (i := 23) rfl
theorem mt_Work_hear : He.Fa.meth "Work" "hear" ∈ fa := List.mem_of_getElem? (i := 24) rfl
theorem mt_Work_outcome : He.Fa.meth "Work" "outcome" ∈ fa := List.mem_of_getElem? (i := 25) rfl
theorem mn_Work_at : He.Fa.noat "Work" "at" ∈ fa := List.mem_of_getElem? (i := 26) rfl
theorem mn_Work_form : He.Fa.noat "Work" "form" ∈ fa := List.mem_of_getElem? (i := 27) rfl
theorem mn_Work_heard : He.Fa.noat "Work" "heard" ∈ fa := List.mem_of_getElem? (i := 28) rfl
theorem mn_Work_label : He.Fa.noat "Work" "label" ∈ fa := List.mem_of_getElem? (i := 29) rfl
theorem mn_Work_over : He.Fa.noat "Work" "over" ∈ fa := List.mem_of_getElem? (i := 30) rfl
theorem mn_Work_place : He.Fa.noat "Work" "place" ∈ fa := List.mem_of_getElem? (i := 31) rfl
theorem mn_Work_seen : He.Fa.noat "Work" "seen" ∈ fa := List.mem_of_getElem? (i := 32) rfl
theorem mn_Work_turn : He.Fa.noat "Work" "turn" ∈ fa := List.mem_of_getElem? (i := 33) rfl
theorem mg_finished : He.Fa.glo "finished" ∈ fa := List.mem_of_getElem? (i := 34) rfl
theorem mg_make : He.Fa.glo "make" ∈ fa := List.mem_of_getElem? (i := 35) rfl
theorem mg_is_count : He.Fa.glo "is_count" ∈ fa := List.mem_of_getElem? (i := 36) rfl
theorem mg_is_kept_row : He.Fa.glo "is_kept_row" ∈ fa := List.mem_of_getElem? (i := 37) rfl
theorem mg_are_unlike : He.Fa.glo "are_unlike" ∈ fa := List.mem_of_getElem? (i := 38) rfl
theorem mg_are_rows : He.Fa.glo "are_rows" ∈ fa := List.mem_of_getElem? (i := 39) rfl
theorem mg_Reader : He.Fa.glo "Reader" ∈ fa := List.mem_of_getElem? (i := 40) rfl
theorem mk_Reader : He.Fa.cls "Reader" ∈ fa := List.mem_of_getElem? (i := 41) rfl
theorem mm_Reader : He.Fa.mkr "Reader" ∈ fa := List.mem_of_getElem? (i := 42) rfl
theorem mt_Reader_reading_at : He.Fa.meth "Reader" "reading_at" ∈ fa := List.mem_of_getElem? (i := 43) rfl
theorem mt_Reader_row_of : He.Fa.meth "Reader" "row_of" ∈ fa := List.mem_of_getElem? (i := 44) rfl
theorem mt_Reader_read : He.Fa.meth "Reader" "read" ∈ fa := List.mem_of_getElem? (i := 45) rfl
theorem mt_Reader_kept : He.Fa.meth "Reader" "kept" ∈ fa := List.mem_of_getElem? (i := 46) rfl
theorem mt_Reader_made : He.Fa.meth "Reader" "made" ∈ fa := List.mem_of_getElem? (i := 47) rfl
theorem mt_Reader_put : He.Fa.meth "Reader" "put" ∈ fa := List.mem_of_getElem? (i := 48) rfl
theorem mt_Reader_put_in : He.Fa.meth "Reader" "put_in" ∈ fa := List.mem_of_getElem? (i := 49) rfl
theorem mt_Reader_rule : He.Fa.meth "Reader" "rule" ∈ fa := List.mem_of_getElem? (i := 50) rfl
theorem mt_Reader_rule_in : He.Fa.meth "Reader" "rule_in" ∈ fa := List.mem_of_getElem? (i := 51) rfl
theorem mt_Reader_let_go : He.Fa.meth "Reader" "let_go" ∈ fa := List.mem_of_getElem? (i := 52) rfl
theorem mt_Reader_drop : He.Fa.meth "Reader" "drop" ∈ fa := List.mem_of_getElem? (i := 53) rfl
theorem mn_Reader_count_made : He.Fa.noat "Reader" "count_made" ∈ fa := List.mem_of_getElem? (i := 54) rfl
theorem mn_Reader_deeds : He.Fa.noat "Reader" "deeds" ∈ fa := List.mem_of_getElem? (i := 55) rfl
theorem mn_Reader_further : He.Fa.noat "Reader" "further" ∈ fa := List.mem_of_getElem? (i := 56) rfl
theorem mn_Reader_numbers : He.Fa.noat "Reader" "numbers" ∈ fa := List.mem_of_getElem? (i := 57) rfl
theorem mn_Reader_rules : He.Fa.noat "Reader" "rules" ∈ fa := List.mem_of_getElem? (i := 58) rfl
theorem mn_Reader_signs : He.Fa.noat "Reader" "signs" ∈ fa := List.mem_of_getElem? (i := 59) rfl
theorem mn_Reader_table : He.Fa.noat "Reader" "table" ∈ fa := List.mem_of_getElem? (i := 60) rfl
theorem mg_laid : He.Fa.glo "laid" ∈ fa := List.mem_of_getElem? (i := 61) rfl
theorem mg_law_cell_at : He.Fa.glo "_law_cell_at" ∈ fa := List.mem_of_getElem? (i := 62) rfl
theorem mg_law_bag : He.Fa.glo "_law_bag" ∈ fa := List.mem_of_getElem? (i := 63) rfl
theorem mg_law_take : He.Fa.glo "_law_take" ∈ fa := List.mem_of_getElem? (i := 64) rfl
theorem mg_law_alike : He.Fa.glo "_law_alike" ∈ fa := List.mem_of_getElem? (i := 65) rfl
theorem mg_law_names : He.Fa.glo "_law_names" ∈ fa := List.mem_of_getElem? (i := 66) rfl
theorem mg_law_every : He.Fa.glo "_law_every" ∈ fa := List.mem_of_getElem? (i := 67) rfl
theorem mg_law_some : He.Fa.glo "_law_some" ∈ fa := List.mem_of_getElem? (i := 68) rfl
theorem mg_law_text : He.Fa.glo "_law_text" ∈ fa := List.mem_of_getElem? (i := 69) rfl
theorem mg_law_nobody : He.Fa.glo "_law_nobody" ∈ fa := List.mem_of_getElem? (i := 70) rfl
theorem mg_law_form : He.Fa.glo "_law_form" ∈ fa := List.mem_of_getElem? (i := 71) rfl
theorem mg_law_rules : He.Fa.glo "_law_rules" ∈ fa := List.mem_of_getElem? (i := 72) rfl
theorem mg_law_reading : He.Fa.glo "_law_reading" ∈ fa := List.mem_of_getElem? (i := 73) rfl
theorem mg_law_begins : He.Fa.glo "_law_begins" ∈ fa := List.mem_of_getElem? (i := 74) rfl
theorem mg_law_loops : He.Fa.glo "_law_loops" ∈ fa := List.mem_of_getElem? (i := 75) rfl
theorem mg_law_world : He.Fa.glo "_law_world" ∈ fa := List.mem_of_getElem? (i := 76) rfl
theorem mg_law_rows : He.Fa.glo "_law_rows" ∈ fa := List.mem_of_getElem? (i := 77) rfl
theorem mg_law_copies : He.Fa.glo "_law_copies" ∈ fa := List.mem_of_getElem? (i := 78) rfl
theorem mg_law_still : He.Fa.glo "_law_still" ∈ fa := List.mem_of_getElem? (i := 79) rfl
theorem mg_law_put : He.Fa.glo "_law_put" ∈ fa := List.mem_of_getElem? (i := 80) rfl
theorem mg_law_rule : He.Fa.glo "_law_rule" ∈ fa := List.mem_of_getElem? (i := 81) rfl
theorem mg_law : He.Fa.glo "law" ∈ fa := List.mem_of_getElem? (i := 82) rfl
theorem mf_all : He.Fa.free "all" ∈ fa := List.mem_of_getElem? (i := 83) rfl
theorem mf_any : He.Fa.free "any" ∈ fa := List.mem_of_getElem? (i := 84) rfl
theorem mf_bool : He.Fa.free "bool" ∈ fa := List.mem_of_getElem? (i := 85) rfl
theorem mf_dict : He.Fa.free "dict" ∈ fa := List.mem_of_getElem? (i := 86) rfl
theorem mf_int : He.Fa.free "int" ∈ fa := List.mem_of_getElem? (i := 87) rfl
theorem mf_isinstance : He.Fa.free "isinstance" ∈ fa := List.mem_of_getElem? (i := 88) rfl
theorem mf_len : He.Fa.free "len" ∈ fa := List.mem_of_getElem? (i := 89) rfl
theorem mf_list : He.Fa.free "list" ∈ fa := List.mem_of_getElem? (i := 90) rfl
theorem mf_max : He.Fa.free "max" ∈ fa := List.mem_of_getElem? (i := 91) rfl
theorem mf_range : He.Fa.free "range" ∈ fa := List.mem_of_getElem? (i := 92) rfl
theorem mf_set : He.Fa.free "set" ∈ fa := List.mem_of_getElem? (i := 93) rfl
theorem mf_sorted : He.Fa.free "sorted" ∈ fa := List.mem_of_getElem? (i := 94) rfl
theorem mf_str : He.Fa.free "str" ∈ fa := List.mem_of_getElem? (i := 95) rfl
theorem mf_tuple : He.Fa.free "tuple" ∈ fa := List.mem_of_getElem? (i := 96) rfl
theorem mf_zip : He.Fa.free "zip" ∈ fa := List.mem_of_getElem? (i := 97) rfl
theorem in_is_sign : d_is_sign ∈ fn := List.mem_of_getElem? (i := 0) rfl
theorem in_is_text : d_is_text ∈ fn := List.mem_of_getElem? (i := 1) rfl
theorem in_is_name : d_is_name ∈ fn := List.mem_of_getElem? (i := 2) rfl
theorem in_are_signs : d_are_signs ∈ fn := List.mem_of_getElem? (i := 3) rfl
theorem in_is_form : d_is_form ∈ fn := List.mem_of_getElem? (i := 4) rfl
theorem in_parts_of : d_parts_of ∈ fn := List.mem_of_getElem? (i := 5) rfl
theorem in_is_rule : d_is_rule ∈ fn := List.mem_of_getElem? (i := 6) rfl
theorem in_is_book : d_is_book ∈ fn := List.mem_of_getElem? (i := 7) rfl
theorem in_may_be_empty : d_may_be_empty ∈ fn := List.mem_of_getElem? (i := 8) rfl
theorem in_emptiness : d_emptiness ∈ fn := List.mem_of_getElem? (i := 9) rfl
theorem in_first_parts : d_first_parts ∈ fn := List.mem_of_getElem? (i := 10) rfl
theorem in_followers : d_followers ∈ fn := List.mem_of_getElem? (i := 11) rfl
theorem in_loop : d_loop ∈ fn := List.mem_of_getElem? (i := 12) rfl
theorem in_Work_init : d_Work_init ∈ fn := List.mem_of_getElem? (i := 13) rfl
theorem in_Work_wants : d_Work_wants ∈ fn := List.mem_of_getElem? (i := 14) rfl
theorem in_Work_hear : d_Work_hear ∈ fn := List.mem_of_getElem? (i := 15) rfl
theorem in_Work_outcome : d_Work_outcome ∈ fn := List.mem_of_getElem? (i := 16) rfl
theorem in_finished : d_finished ∈ fn := List.mem_of_getElem? (i := 17) rfl
theorem in_make : d_make ∈ fn := List.mem_of_getElem? (i := 18) rfl
theorem in_is_count : d_is_count ∈ fn := List.mem_of_getElem? (i := 19) rfl
theorem in_is_kept_row : d_is_kept_row ∈ fn := List.mem_of_getElem? (i := 20) rfl
theorem in_are_unlike : d_are_unlike ∈ fn := List.mem_of_getElem? (i := 21) rfl
theorem in_are_rows : d_are_rows ∈ fn := List.mem_of_getElem? (i := 22) rfl
theorem in_Reader_init : d_Reader_init ∈ fn := List.mem_of_getElem? (i := 23) rfl
theorem in_Reader_reading_at : d_Reader_reading_at ∈ fn := List.mem_of_getElem? (i := 24) rfl
theorem in_Reader_row_of : d_Reader_row_of ∈ fn := List.mem_of_getElem? (i := 25) rfl
theorem in_Reader_read : d_Reader_read ∈ fn := List.mem_of_getElem? (i := 26) rfl
theorem in_Reader_kept : d_Reader_kept ∈ fn := List.mem_of_getElem? (i := 27) rfl
theorem in_Reader_made : d_Reader_made ∈ fn := List.mem_of_getElem? (i := 28) rfl
theorem in_Reader_put : d_Reader_put ∈ fn := List.mem_of_getElem? (i := 29) rfl
theorem in_Reader_put_in : d_Reader_put_in ∈ fn := List.mem_of_getElem? (i := 30) rfl
theorem in_Reader_rule : d_Reader_rule ∈ fn := List.mem_of_getElem? (i := 31) rfl
theorem in_Reader_rule_in : d_Reader_rule_in ∈ fn := List.mem_of_getElem? (i := 32) rfl
theorem in_Reader_let_go : d_Reader_let_go ∈ fn := List.mem_of_getElem? (i := 33) rfl
theorem in_Reader_drop : d_Reader_drop ∈ fn := List.mem_of_getElem? (i := 34) rfl
theorem in_laid : d_laid ∈ fn := List.mem_of_getElem? (i := 35) rfl
theorem in_law_cell_at : d_law_cell_at ∈ fn := List.mem_of_getElem? (i := 36) rfl
theorem in_law_bag : d_law_bag ∈ fn := List.mem_of_getElem? (i := 37) rfl
theorem in_law_take : d_law_take ∈ fn := List.mem_of_getElem? (i := 38) rfl
theorem in_law_alike : d_law_alike ∈ fn := List.mem_of_getElem? (i := 39) rfl
theorem in_law_names : d_law_names ∈ fn := List.mem_of_getElem? (i := 40) rfl
theorem in_law_every : d_law_every ∈ fn := List.mem_of_getElem? (i := 41) rfl
theorem in_law_some : d_law_some ∈ fn := List.mem_of_getElem? (i := 42) rfl
theorem in_law_text : d_law_text ∈ fn := List.mem_of_getElem? (i := 43) rfl
theorem in_law_nobody : d_law_nobody ∈ fn := List.mem_of_getElem? (i := 44) rfl
theorem in_law_form : d_law_form ∈ fn := List.mem_of_getElem? (i := 45) rfl
theorem in_law_rules : d_law_rules ∈ fn := List.mem_of_getElem? (i := 46) rfl
theorem in_law_reading : d_law_reading ∈ fn := List.mem_of_getElem? (i := 47) rfl
theorem in_law_begins : d_law_begins ∈ fn := List.mem_of_getElem? (i := 48) rfl
theorem in_law_loops : d_law_loops ∈ fn := List.mem_of_getElem? (i := 49) rfl
theorem in_law_world : d_law_world ∈ fn := List.mem_of_getElem? (i := 50) rfl
theorem in_law_rows : d_law_rows ∈ fn := List.mem_of_getElem? (i := 51) rfl
theorem in_law_copies : d_law_copies ∈ fn := List.mem_of_getElem? (i := 52) rfl
theorem in_law_still : d_law_still ∈ fn := List.mem_of_getElem? (i := 53) rfl
theorem in_law_put : d_law_put ∈ fn := List.mem_of_getElem? (i := 54) rfl
theorem in_law_rule : d_law_rule ∈ fn := List.mem_of_getElem? (i := 55) rfl
theorem in_law : d_law ∈ fn := List.mem_of_getElem? (i := 56) rfl
theorem bt_len : bootBuiltins "len" = some (.builtin "len") := by decide +kernel
theorem bt_all : bootBuiltins "all" = some (.builtin "all") := by decide +kernel
theorem bt_any : bootBuiltins "any" = some (.builtin "any") := by decide +kernel
theorem bt_max : bootBuiltins "max" = some (.builtin "max") := by decide +kernel
theorem bt_sorted : bootBuiltins "sorted" = some (.builtin "sorted") := by decide +kernel
theorem bt_isinstance : bootBuiltins "isinstance" = some (.builtin "isinstance") := by decide +kernel
theorem bt_list : bootBuiltins "list" = some (.type "list") := by decide +kernel
theorem bt_tuple : bootBuiltins "tuple" = some (.type "tuple") := by decide +kernel
theorem bt_dict : bootBuiltins "dict" = some (.type "dict") := by decide +kernel
theorem bt_set : bootBuiltins "set" = some (.type "set") := by decide +kernel
theorem bt_int : bootBuiltins "int" = some (.type "int") := by decide +kernel
theorem bt_str : bootBuiltins "str" = some (.type "str") := by decide +kernel
theorem bt_bool : bootBuiltins "bool" = some (.type "bool") := by decide +kernel
theorem bt_range : bootBuiltins "range" = some (.type "range") := by decide +kernel
theorem bt_zip : bootBuiltins "zip" = some (.type "zip") := by decide +kernel
end Kr
namespace Kr
open PySem PySem.Spec PyProof.Rows L2
/-! ### heaps: what never changes, what a call keeps -/
def isImm : HO → Bool
  | .tup _ => true
  | .frz _ _ => true
  | _ => false
/-- all that can't change stands -/
def Imm (H H' : Hp) : Prop := ∀ b o, H b = some o → isImm o = true → H' b = some o
theorem Imm.refl (H : Hp) : Imm H H := fun _ _ h _ => h
theorem Imm.trans {H H1 H2 : Hp} (a : Imm H H1) (b : Imm H1 H2) : Imm H H2 := fun c o h i => b c o (a c o h i) i
theorem Imm.new {H H' : Hp} {p : Addr} {o : HO} (a : Imm H H') (h : H' p = none) : Imm H (upd H' p o) := fun b u e i => by
  have e' := a b u e i
  rw [upd_ne (ne_of_none e' h)]
  exact e'
theorem Imm.mut {H H' : Hp} {p : Addr} {o u : HO} (a : Imm H H') (h : H' p = some u) (hu : isImm u = false := by rfl) : Imm H (upd H' p o) := fun b v e i => by
  have e' := a b v e i
  by_cases hb : b = p
  · subst hb
    rw [h] at e'
    cases e'
    rw [hu] at i
    cases i
  · rw [upd_ne hb]
    exact e'
theorem Imm.tup {H H' : Hp} (a : Imm H H') {b : Addr} {xs : List V} (h : H b = some (.tup xs)) : H' b = some (.tup xs) := a b _ h rfl
theorem Imm.frz {H H' : Hp} (a : Imm H H') {b : Addr} {o : Obj} {u : HO} (h : H b = some (.frz o u)) : H' b = some (.frz o u) := a b _ h rfl
/-- all but what stands at S stands -/
def Keeps (S : List Addr) (H H' : Hp) : Prop := ∀ b o, H b = some o → b ∉ S → H' b = some o
theorem Keeps.refl (S : List Addr) (H : Hp) : Keeps S H H := fun _ _ h _ => h
theorem Keeps.trans {S : List Addr} {H H1 H2 : Hp} (a : Keeps S H H1) (b : Keeps S H1 H2) : Keeps S H H2 := fun c o h i => b c o (a c o h i) i
theorem Keeps.mono {S S' : List Addr} {H H' : Hp} (a : Keeps S H H') (h : ∀ x ∈ S, x ∈ S') : Keeps S' H H' := fun c o e i => a c o e fun z => i (h c z)
theorem Keeps.nil {S : List Addr} {H H' : Hp} (a : Keeps [] H H') : Keeps S H H' := a.mono (by simp)
theorem Keeps.new {S : List Addr} {H H' : Hp} {p : Addr} {o : HO} (a : Keeps S H H') (h : H' p = none) : Keeps S H (upd H' p o) := fun b u e i => by
  have e' := a b u e i
  rw [upd_ne (ne_of_none e' h)]
  exact e'
theorem Keeps.mem {S : List Addr} {H H' : Hp} {p : Addr} {o : HO} (a : Keeps S H H') (h : p ∈ S) : Keeps S H (upd H' p o) := fun b u e i => by
  have hb : b ≠ p := fun q => i (by rw [q]; exact h)
  rw [upd_ne hb]
  exact a b u e i
/-- what H did not know may change -/
theorem Keeps.own {S : List Addr} {H H' : Hp} {p : Addr} {o : HO} (a : Keeps S H H') (h : H p = none) : Keeps S H (upd H' p o) := fun b u e i => by
  rw [upd_ne (ne_of_none e h)]
  exact a b u e i
/-- what a callee may change is no one's of H, or within S -/
theorem Keeps.call {S S' : List Addr} {H H1 H2 : Hp} (a : Keeps S H H1) (b : Keeps S' H1 H2) (h : ∀ x ∈ S', x ∈ S ∨ H x = none) : Keeps S H H2 := fun c o e i => by
  refine b c o (a c o e i) fun z => ?_
  rcases h c z with q | q
  · exact i q
  · rw [e] at q
    cases q
theorem Keeps.at {S : List Addr} {H H' : Hp} (a : Keeps S H H') {b : Addr} {o : HO} (h : H b = some o) (i : b ∉ S) : H' b = some o := a b o h i
theorem Keeps.same {H H' : Hp} (a : Keeps [] H H') {b : Addr} {o : HO} (h : H b = some o) : H' b = some o := a b o h (by simp)
theorem Keeps.free {S : List Addr} {H H' : Hp} (a : Keeps S H H') {p : Addr} (h : H' p = none) (i : p ∉ S) : H p = none := by
  cases q : H p with
  | none => rfl
  | some o =>
    rw [a p o q i] at h
    cases h
theorem Keeps.free0 {H H' : Hp} (a : Keeps [] H H') {p : Addr} (h : H' p = none) : H p = none := a.free h (by simp)
/-! ### the program's top -/
structure Tp (K : PySem.W.Frag) (mg : Str → Option Value) : Prop where
  says : He.SaysD fa fn K
  glo : ∀ x, He.Fa.glo x ∈ fa → mg x = some (.ref (He.ga K x))
  fre : ∀ x, He.Fa.free x ∈ fa → mg x = none
  str : ∀ x z, He.Fa.str x z ∈ fa → ∃ t, mg x = some (.str z t)
  int : ∀ x i, He.Fa.int x i ∈ fa → ∃ t, mg x = some (.int i t)
theorem Tp.cls {K : PySem.W.Frag} {mg : Str → Option Value} (T : Tp K mg) {x : Str} (h : He.Fa.cls x ∈ fa) : Cls K (He.ga K x) := He.cls_ok (T.says.facts h)
theorem Tp.noat {K : PySem.W.Frag} {mg : Str → Option Value} (T : Tp K mg) {x f : Str} (h : He.Fa.noat x f ∈ fa) : NoAttr K (He.ga K x) f := He.noat_ok (T.says.facts h)
section
variable (P : Program) (w : World) (K : PySem.W.Frag) (mg : Str → Option Value) (base : Heap)
/-- the def x of the top keeps sp -/
def Calls (k : Nat) (x : Str) (ps : List Str) (sp : Sp) : Prop :=
  ∃ (f : Addr) (fd : FuncData), mg x = some (.ref f) ∧ PySem.W.keepIn K (.ref f) = true ∧ Binds K fd ps [] ∧ FnOk P w K mg base CX0 k f fd ps sp
/-- the method m of the class at C -/
def CallsM (k : Nat) (C : Addr) (m : Str) (ps : List Str) (sp : Sp) : Prop :=
  ∃ (f : Addr) (fd : FuncData), Meth K C m f ∧ Binds K fd ps [] ∧ FnOk P w K mg base CX0 k f fd ps sp
/-- the class x at C, its __init__ -/
def CallsN (k : Nat) (x : Str) (C : Addr) (ps : List Str) (sp : Sp) : Prop :=
  ∃ (f : Addr) (fd : FuncData), mg x = some (.ref C) ∧ Mk K C f ∧ Binds K fd ps [] ∧ FnOk P w K mg base CX0 k f fd ps sp
end
theorem Calls.mono {P : Program} {w : World} {K : PySem.W.Frag} {mg : Str → Option Value} {base : Heap} {j k : Nat} {x : Str} {ps : List Str} {sp : Sp} (c : Calls P w K mg base j x ps sp) (h : j ≤ k) : Calls P w K mg base k x ps sp :=
  let ⟨f, fd, a, b, d, e⟩ := c
  ⟨f, fd, a, b, d, e.mono h⟩
theorem CallsM.mono {P : Program} {w : World} {K : PySem.W.Frag} {mg : Str → Option Value} {base : Heap} {j k : Nat} {C : Addr} {x : Str} {ps : List Str} {sp : Sp} (c : CallsM P w K mg base j C x ps sp) (h : j ≤ k) : CallsM P w K mg base k C x ps sp :=
  let ⟨f, fd, a, b, e⟩ := c
  ⟨f, fd, a, b, e.mono h⟩
theorem CallsN.mono {P : Program} {w : World} {K : PySem.W.Frag} {mg : Str → Option Value} {base : Heap} {j k : Nat} {C : Addr} {x : Str} {ps : List Str} {sp : Sp} (c : CallsN P w K mg base j x C ps sp) (h : j ≤ k) : CallsN P w K mg base k x C ps sp :=
  let ⟨f, fd, a, b, d, e⟩ := c
  ⟨f, fd, a, b, d, e.mono h⟩
theorem FnOk.immL {P : Program} {w : World} {K : PySem.W.Frag} {mg : Str → Option Value} {base : Heap} {k : Nat} {f : Addr} {fd : FuncData} {ps : List Str} {sp : Sp} (F : FnOk P w K mg base CX0 k f fd ps sp) :
    FnOk P w K mg base CX0 k f fd ps (fun vs H Q E => sp vs H (fun v H' => Imm H H' → Q v H') E) := by
  refine ⟨fun vs H Q E h => F.len _ _ _ _ h, fun A outer s H args us vs Q E hr e0 hb r h => ?_⟩
  refine codeAny_mono (F.run A outer s H args us vs _ E hr e0 hb r h) fun r s' q => ?_
  cases r with
  | error e => exact q
  | ok fl =>
    cases fl with
    | ret u =>
      obtain ⟨v, H', a, b, un, d, e, q⟩ := q
      refine ⟨v, H', a, b, un, d, e, q fun c o ho hi => ?_⟩
      cases o with
      | tup xs => exact un.tups _ _ ho
      | frz o u => exact un.frzs _ _ _ ho
      | _ => cases hi
    | next => exact q
    | brk => exact q
    | cont => exact q
def tCallI (sp : Sp) (t : TA) : TE := fun σ H Q => t σ H fun vs H1 => sp vs H1 (fun v H2 => Imm H1 H2 → Q v H2) E0
def tMethI (C : Addr) (m : Str) (sp : Sp) (ta : TE) (t : TA) : TE := fun σ H Q => ta σ H fun x H1 => ∃ a dx fs, x = .ref a ∧ H1 a = some (.ins C dx fs) ∧ fs.lookup m = none ∧
  t σ H1 fun vs H2 => sp (x :: vs) H2 (fun v H3 => Imm H2 H3 → Q v H3) E0
def tMakeI (C : Addr) (sp : Sp) (t : TA) : TE := fun σ H Q => t σ H fun vs H1 => ∀ x dx, H1 x = none → H1 dx = none → dx ≠ x →
  sp (.ref x :: vs) (upd (upd H1 dx (.own x)) x (.ins C dx [])) (fun v H2 => Imm (upd (upd H1 dx (.own x)) x (.ins C dx [])) H2 → v = .non ∧ Q (.ref x) H2) E0
section
variable {X : Cx} {k : Nat} {C : Addr} {ps : List Str} {sp : Sp} {x m : Str} {p pos apos : Pos} {e o : Expr} {es : List Expr} {ta : TE} {t : TA}
theorem PE.to {e : Expr} {t u : TE} (h : PE X e t) (k : ∀ σ H Q, u σ H Q → t σ H Q) : PE X e u := ⟨fun pins s σ H Q I hw => h.run pins s σ H Q I (k _ _ _ hw)⟩
theorem pcall (c : Calls X.prog X.w X.K X.mg X.base k x ps sp) (hr : Room k X.A) (ha : PA X (e :: es) t) (hg : Gl X x := by rfl) (hdb : (x == ("__debug__" : Str)) = false := by decide)
    (he : starEach (e :: es) X.env = (false, eval e X.env) :: starEach es X.env := by rfl) (hpl : (backTo pos (starEach es X.env)).any (·.1) = false := by rfl) : PE X (.Call (.Name x p) (e :: es) [] pos) (tCallI sp t) := by
  obtain ⟨f, fd, hm, hk, hb, F⟩ := c
  refine PE.to (pe_call (FnOk.immL F) hr hg hm hk hb .nil pass0 ha hdb he hpl) fun σ H Q h => ?_
  have e0 : (fun (vs : List V) (H1 : Hp) => sp (vs ++ []) H1 (fun v H2 => Imm H1 H2 → Q v H2) E0) = fun vs H1 => sp vs H1 (fun v H2 => Imm H1 H2 → Q v H2) E0 := by
    funext vs H1
    rw [List.append_nil]
  show t σ H fun vs H1 => sp (vs ++ []) H1 (fun v H2 => Imm H1 H2 → Q v H2) E0
  rw [e0]
  exact h
theorem pcall0 (c : Calls X.prog X.w X.K X.mg X.base k x ps sp) (hr : Room k X.A) (hg : Gl X x := by rfl) (hdb : (x == ("__debug__" : Str)) = false := by decide) : PE X (.Call (.Name x p) [] [] pos) (tCallI sp tNil) := by
  obtain ⟨f, fd, hm, hk, hb, F⟩ := c
  exact pe_call0 (FnOk.immL F) hr hg hm hk hb .nil pass0 hdb
theorem app_nil_tr (t : TA) (σ : L2.St) (H : Hp) (R R' : List V → Hp → Prop) (h : t σ H R) (e : R' = R) : t σ H R' := by
  rw [e]
  exact h
theorem pmeth {pl : Sem Bool} (he : PE X o ta) (c : Cls X.K C) (cm : CallsM X.prog X.w X.K X.mg X.base k C m ps sp) (hr : Room k X.A) (ha : PA X (e :: es) t)
    (hst : starEach (e :: es) X.env = (false, eval e X.env) :: starEach es X.env := by rfl) (hpl : (backTo pos (starEach es X.env)).any (·.1) = false := by rfl)
    (ht : eval (.Call (.Attribute o m apos) (e :: es) [] pos) X.env = (do
      let ov ← eval o X.env
      standAt apos.atName
      let (f, first) ← holding [ov] (getMethod ov m pl)
      callWith pos f first (backTo pos (starEach (e :: es) X.env)) (backToKw pos (keywordEach [] X.env))) := by rfl) : PE X (.Call (.Attribute o m apos) (e :: es) [] pos) (tMethI C m sp ta t) := by
  obtain ⟨f, fd, hm, hb, F⟩ := cm
  refine PE.to (pe_meth he c hm (FnOk.immL F) hr hb .nil pass0 ha hst hpl ht) fun σ H Q h => ?_
  have e0 : (fun (x : V) (H1 : Hp) => ∃ a dx fs, x = .ref a ∧ H1 a = some (.ins C dx fs) ∧ fs.lookup m = none ∧ t σ H1 fun vs H2 => sp (x :: (vs ++ [])) H2 (fun v H3 => Imm H2 H3 → Q v H3) E0) =
      fun x H1 => ∃ a dx fs, x = .ref a ∧ H1 a = some (.ins C dx fs) ∧ fs.lookup m = none ∧ t σ H1 fun vs H2 => sp (x :: vs) H2 (fun v H3 => Imm H2 H3 → Q v H3) E0 := by
    funext x H1
    have e1 : (fun (vs : List V) (H2 : Hp) => sp (x :: (vs ++ [])) H2 (fun v H3 => Imm H2 H3 → Q v H3) E0) = fun vs H2 => sp (x :: vs) H2 (fun v H3 => Imm H2 H3 → Q v H3) E0 := by
      funext vs H2
      rw [List.append_nil]
    rw [e1]
  show ta σ H (fun (x : V) (H1 : Hp) => ∃ a dx fs, x = .ref a ∧ H1 a = some (.ins C dx fs) ∧ fs.lookup m = none ∧ t σ H1 fun vs H2 => sp (x :: (vs ++ [])) H2 (fun v H3 => Imm H2 H3 → Q v H3) E0)
  rw [e0]
  exact h
theorem pmeth0 {pl : Sem Bool} (he : PE X o ta) (c : Cls X.K C) (cm : CallsM X.prog X.w X.K X.mg X.base k C m ps sp) (hr : Room k X.A)
    (ht : eval (.Call (.Attribute o m apos) [] [] pos) X.env = (do
      let ov ← eval o X.env
      standAt apos.atName
      let (f, first) ← holding [ov] (getMethod ov m pl)
      callWith pos f first (backTo pos (starEach [] X.env)) (backToKw pos (keywordEach [] X.env))) := by rfl) : PE X (.Call (.Attribute o m apos) [] [] pos) (tMethI C m sp ta tNil) := by
  obtain ⟨f, fd, hm, hb, F⟩ := cm
  exact pe_meth0 he c hm (FnOk.immL F) hr hb .nil pass0 ht
theorem pmake (cn : CallsN X.prog X.w X.K X.mg X.base k x C ps sp) (hr : Room (k + 1) X.A) (ha : PA X (e :: es) t) (hg : Gl X x := by rfl) (hdb : (x == ("__debug__" : Str)) = false := by decide)
    (he : starEach (e :: es) X.env = (false, eval e X.env) :: starEach es X.env := by rfl) (hpl : (backTo pos (starEach es X.env)).any (·.1) = false := by rfl) : PE X (.Call (.Name x p) (e :: es) [] pos) (tMakeI C sp t) := by
  obtain ⟨f, fd, hm, M, hb, F⟩ := cn
  refine PE.to (pe_make M (FnOk.immL F) hr hg hm hb .nil pass0 ha hdb he hpl) fun σ H Q h => ?_
  have e0 : (fun (vs : List V) (H1 : Hp) => ∀ x dx, H1 x = none → H1 dx = none → dx ≠ x → sp (.ref x :: (vs ++ [])) (upd (upd H1 dx (.own x)) x (.ins C dx [])) (fun v H2 => Imm (upd (upd H1 dx (.own x)) x (.ins C dx [])) H2 → v = .non ∧ Q (.ref x) H2) E0) =
      fun vs H1 => ∀ x dx, H1 x = none → H1 dx = none → dx ≠ x → sp (.ref x :: vs) (upd (upd H1 dx (.own x)) x (.ins C dx [])) (fun v H2 => Imm (upd (upd H1 dx (.own x)) x (.ins C dx [])) H2 → v = .non ∧ Q (.ref x) H2) E0 := by
    funext vs H1
    rw [List.append_nil]
  show t σ H fun (vs : List V) (H1 : Hp) => ∀ x dx, H1 x = none → H1 dx = none → dx ≠ x → sp (.ref x :: (vs ++ [])) (upd (upd H1 dx (.own x)) x (.ins C dx [])) (fun v H2 => Imm (upd (upd H1 dx (.own x)) x (.ins C dx [])) H2 → v = .non ∧ Q (.ref x) H2) E0
  rw [e0]
  exact h
theorem pmake0 (cn : CallsN X.prog X.w X.K X.mg X.base k x C ps sp) (hr : Room (k + 1) X.A) (hg : Gl X x := by rfl) (hdb : (x == ("__debug__" : Str)) = false := by decide) : PE X (.Call (.Name x p) [] [] pos) (tMakeI C sp tNil) := by
  obtain ⟨f, fd, hm, M, hb, F⟩ := cn
  exact pe_make0 M (FnOk.immL F) hr hg hm hb .nil pass0 hdb
/-! ### a list is closed for good -/
def tFrz (t : TE) : TE := fun σ H Q => t σ H fun v H1 => ∃ d u, v = .ref d ∧ H1 d = some u ∧ Mut (some u) ∧ ∀ od, Q v (upd H1 d (.frz od u))
theorem pe_frz {t : TE} (h : PE X e t) : PE X e (tFrz t) := by
  refine ⟨fun pins s σ H Q I hw => ?_⟩
  refine thn (h.run pins s σ H _ I hw) fun v s1 ⟨x, H1, I1, r1, d, u, ex, hd, mu, q⟩ => ?_
  obtain ⟨od, I2⟩ := I1.lock hd mu
  exact ⟨x, _, I2, r1, q od⟩
end
/-! ### a def of the top keeps its promise -/
section
variable {P : Program} {w : World} {K : PySem.W.Frag} {mg : Str → Option Value} {base : Heap}
abbrev BindOk (d : He.DefD) (ps : List Str) : Prop := ∀ (kV doc pm : Value) (an : Option Addr) (cdv ct : Value) (us : List Value), us.length = ps.length →
  bindArgs (PySem.W.fnOf d.name d.qual d.params d.body d.scope .none kV doc pm an cdv ct) ⟨us, []⟩ = pure (ps.zip us)
abbrev BodyOk (P : Program) (w : World) (K : PySem.W.Frag) (mg : Str → Option Value) (base : Heap) (k : Nat) (d : He.DefD) (N : List Str) (sp : Sp) : Prop :=
  ∀ (f : Addr) (cdv : Value) (A : Around) (outer : List Env) (s : Shared) (H : Hp) (vs : List V) (Q : VK) (E : XK), Room k (A.deeper (envOfC d.qual d.scope s.heap.objs.size f cdv)) → sp vs H Q E →
    ∃ t, PSs (cxOf CX0 P w K mg base N d.qual d.scope f cdv A outer s H E).nox d.body t ∧ t { nx := fun _ H' => Q .non H', rt := Q } (start N vs) H
theorem fn_ok {k : Nat} {d : He.DefD} {N ps : List Str} {sp : Sp} {f : Addr} {fd : FuncData} {dvs : List V} {kws : List (Str × V)} (F : FunD K d.name d.qual d.params d.body d.scope dvs kws f fd) (S : FnScope N ps d.scope)
    (len : ∀ vs H Q E, sp vs H Q E → vs.length = ps.length) (hbody : BodyOk P w K mg base k d N sp) : FnOk P w K mg base CX0 (k + 1) f fd ps sp := by
  refine F.ok S len fun cdv A outer s H vs Q E hr h => ?_
  obtain ⟨t, h1, h2⟩ := hbody f cdv A outer s H vs Q E hr h
  exact ⟨t, h1.nox, h2⟩
theorem mkCall (T : Tp K mg) {k : Nat} {d : He.DefD} {x : Str} {N ps : List Str} {sp : Sp} (hd : d ∈ fn) (hat : d.at_ = (x, none)) (hgl : He.Fa.glo x ∈ fa) (h0 : d.dfl = []) (h1 : d.kwd = []) (S : FnScope N ps d.scope) (hb : BindOk d ps)
    (len : ∀ vs H Q E, sp vs H Q E → vs.length = ps.length) (hbody : BodyOk P w K mg base k d N sp) : Calls P w K mg base (k + 1) x ps sp := by
  obtain ⟨fd, F⟩ := T.says.defs hd
  have e0 : d.dvs K = [] := by show d.dfl.map _ = []; rw [h0]; rfl
  have e1 : d.kws K = [] := by show d.kwd.map _ = []; rw [h1]; rfl
  have e2 : He.fAd K d.at_ = He.ga K x := by rw [hat]; rfl
  rw [e0, e1, e2] at F
  exact ⟨_, fd, T.glo x hgl, F.kp, F.bindsN hb, fn_ok F S len hbody⟩
theorem mkMeth (T : Tp K mg) {k : Nat} {d : He.DefD} {c m : Str} {N ps : List Str} {sp : Sp} (hd : d ∈ fn) (hat : d.at_ = (c, some m)) (hgl : He.Fa.meth c m ∈ fa) (h0 : d.dfl = []) (h1 : d.kwd = []) (S : FnScope N ps d.scope) (hb : BindOk d ps)
    (len : ∀ vs H Q E, sp vs H Q E → vs.length = ps.length) (hbody : BodyOk P w K mg base k d N sp) : CallsM P w K mg base (k + 1) (He.ga K c) m ps sp := by
  obtain ⟨fd, F⟩ := T.says.defs hd
  have e0 : d.dvs K = [] := by show d.dfl.map _ = []; rw [h0]; rfl
  have e1 : d.kws K = [] := by show d.kwd.map _ = []; rw [h1]; rfl
  have e2 : He.fAd K d.at_ = He.ma K (He.ga K c) m := by rw [hat]; rfl
  rw [e0, e1, e2] at F
  exact ⟨_, fd, He.meth_ok (T.says.facts hgl), F.bindsN hb, fn_ok F S len hbody⟩
/-- a method one of whose parameters has a default, all given -/
theorem mkMeth1 (T : Tp K mg) {k : Nat} {d : He.DefD} {c m : Str} {N ps : List Str} {sp : Sp} (hd : d ∈ fn) (hat : d.at_ = (c, some m)) (hgl : He.Fa.meth c m ∈ fa) (h0 : d.dfl = [.int 0]) (h1 : d.kwd = []) (S : FnScope N ps d.scope)
    (hb : ∀ (T : Addr) (kV doc pm : Value) (an : Option Addr) (cdv ct : Value) (us its : List Value), us.length = ps.length → its.length = 1 →
      ∃ k, bindArgs (PySem.W.fnOf d.name d.qual d.params d.body d.scope (.ref T) kV doc pm an cdv ct) ⟨us, []⟩ = seqItems? (.ref T) >>= k ∧ k (some its.toArray) = pure (ps.zip (us ++ its.drop 1)))
    (len : ∀ vs H Q E, sp vs H Q E → vs.length = ps.length) (hbody : BodyOk P w K mg base k d N sp) : CallsM P w K mg base (k + 1) (He.ga K c) m ps sp := by
  obtain ⟨fd, F⟩ := T.says.defs hd
  have e0 : d.dvs K = [.int 0] := by show d.dfl.map _ = _; rw [h0]; rfl
  have e1 : d.kws K = [] := by show d.kwd.map _ = []; rw [h1]; rfl
  have e2 : He.fAd K d.at_ = He.ma K (He.ga K c) m := by rw [hat]; rfl
  rw [e0, e1, e2] at F
  obtain ⟨ds, r, b⟩ := F.binds1 (ps := ps) ps.length 1 (by simp) (by simp) hb
  have e3 : ds = [] := by
    have l := r.length
    exact List.eq_nil_of_length_eq_zero l.symm
  rw [e3] at b
  exact ⟨_, fd, He.meth_ok (T.says.facts hgl), b, fn_ok F S len hbody⟩
theorem mkInit (T : Tp K mg) {k : Nat} {d : He.DefD} {c : Str} {N ps : List Str} {sp : Sp} (hd : d ∈ fn) (hat : d.at_ = (c, some ("__init__" : Str))) (hgl : He.Fa.mkr c ∈ fa) (hgc : He.Fa.glo c ∈ fa) (h0 : d.dfl = []) (h1 : d.kwd = []) (S : FnScope N ps d.scope)
    (hb : BindOk d ps) (len : ∀ vs H Q E, sp vs H Q E → vs.length = ps.length) (hbody : BodyOk P w K mg base k d N sp) : CallsN P w K mg base (k + 1) c (He.ga K c) ps sp := by
  obtain ⟨fd, F⟩ := T.says.defs hd
  have e0 : d.dvs K = [] := by show d.dfl.map _ = []; rw [h0]; rfl
  have e1 : d.kws K = [] := by show d.kwd.map _ = []; rw [h1]; rfl
  have e2 : He.fAd K d.at_ = He.ma K (He.ga K c) "__init__" := by rw [hat]; rfl
  rw [e0, e1, e2] at F
  exact ⟨_, fd, T.glo c hgc, He.mkr_ok (T.says.facts hgl), F.bindsN hb, fn_ok F S len hbody⟩
end
end Kr
/-! rules that the hand layer lacks -/
namespace Kr
open PySem PySem.Spec PyProof.Rows L2
section
variable {X : Cx} {x : Str} {pos : Pos}
theorem pe_gstr {z : Str} (hg : Gl X x) (h : ∃ t, X.mg x = some (.str z t)) (hd : (x == ("__debug__" : Str)) = false := by decide) : PE X (.Name x pos) (tC (.str z)) := by
  obtain ⟨t, h⟩ := h
  exact pe_glob hg h ⟨_, rfl⟩ hd
theorem pe_gint {z : Int} (hg : Gl X x) (h : ∃ t, X.mg x = some (.int z t)) (hd : (x == ("__debug__" : Str)) = false := by decide) : PE X (.Name x pos) (tC (.int z)) := by
  obtain ⟨t, h⟩ := h
  exact pe_glob hg h ⟨_, rfl⟩ hd
def CPowW (i j : Int) : Prop := 0 ≤ j ∧ (Builtin.Int.intBits i : Int) * j ≤ 2 ^ 27
theorem op_powW : OpR X (binaryOp .Pow) (rI CPowW fun i j => .int (i ^ j.toNat)) := opI fun _ _ _ _ _ _ _ hc q => PyProof.Rows.pow_int hc.1 hc.2 q
end
end Kr
/-! comprehensions by an invariant; the data that never change -/
namespace Kr
open PySem PySem.Spec PyProof.Rows L2
theorem line5 {n : Nat} (h : n ≤ 100000) : n < sizeLine := Nat.lt_of_le_of_lt h (by decide)
theorem line5' {n : Nat} (h : n ≤ 100000) : n ≤ sizeLine := Nat.le_of_lt (line5 h)
section
variable {J : It} {n : Nat} {G : Hp → Prop} {Y : Nat → Hp → V → Hp → Prop} {g : TG} {tt : TT} {te : TE} {vs : List Nat} {σ : L2.St} {H1 : Hp} {D : Addr} {Qd : Hp → Prop}
abbrev LcW (J : It) (g : TG) (tt : TT) (te : TE) (vs : List Nat) (σ : L2.St) (H1 : Hp) (D : Addr) (Qd : Hp → Prop) : Prop :=
    ∃ W : Nat → Nat → Hp → Prop, (∃ m, W 0 m (upd H1 D (.lst []))) ∧ ∀ i m H, W i m H →
      (J.stop i H ∧ Qd H) ∨ (J.go i H ∧ ∃ Nx : Hp → Prop, (∀ H', Nx H' → ∃ m', m' < m ∧ W (i + 1) m' H') ∧ ∀ x H', J.yld i H x H' → g x (wipe σ vs) H' fun σ2 H2 => wipe σ2 vs = wipe σ vs ∧ tt σ2 H2 fun b H3 =>
        if b = true then te σ2 H3 fun y H4 => ∃ acc, H4 D = some (.lst acc) ∧ acc.length < sizeLine ∧ Nx (upd H4 D (.lst (acc ++ [y]))) else Nx H3)
/-- an invariant over what is made so far; S: what an element may change -/
theorem lc_acc (w : Walk J n G Y) (S : List Addr) (hn : n ≤ 100000) (hD : H1 D = none) (hS : ∀ s ∈ S, H1 s ≠ none) (Acc : Nat → List V → Hp → Prop)
    (hA : ∀ i acc H H', Imm H H' → (∀ s ∈ S, H' s = H s) → Acc i acc H → Acc i acc H') (h0 : Acc 0 [] H1) (hG : ∀ H', Keeps S H1 H' → Imm H1 H' → G H')
    (hs : ∀ i x acc H H', i < n → Keeps S H1 H → Imm H1 H → acc.length ≤ i → Acc i acc H → Y i H x H' → ∀ (R : V → Hp → Prop) (N : Hp → Prop),
      (∀ y H4, Keeps S H H4 → Imm H H4 → Acc (i + 1) (acc ++ [y]) H4 → R y H4) → (∀ H3, Keeps S H H3 → Imm H H3 → Acc (i + 1) acc H3 → N H3) →
      g x (wipe σ vs) H' fun σ2 H2 => wipe σ2 vs = wipe σ vs ∧ tt σ2 H2 fun b H3 => if b = true then te σ2 H3 R else N H3)
    (hd : ∀ acc H, acc.length ≤ n → Keeps S H1 H → Imm H1 H → H D = some (.lst acc) → Acc n acc H → Qd H) : LcW J g tt te vs σ H1 D Qd := by
  have DS : D ∉ S := fun h => hS D h hD
  refine lc_it w (fun i H => ∃ acc, H D = some (.lst acc) ∧ acc.length ≤ i ∧ Keeps S H1 H ∧ Imm H1 H ∧ Acc i acc H) ?_ (fun i H _ ⟨acc, _, _, k, m, _⟩ => hG H k m) ?_ ?_
  · refine ⟨[], upd_same, Nat.le_refl _, (Keeps.refl S H1).new hD, (Imm.refl H1).new hD, hA _ _ H1 _ ((Imm.refl H1).new hD) (fun s hs => ?_) h0⟩
    rw [upd_ne fun e => DS (by rw [← e]; exact hs)]
  · rintro i x H H' hi ⟨acc, hDa, hl, k, m, a⟩ y
    refine hs i x acc H H' hi k m hl a y _ _ (fun v H4 k4 m4 a4 => ?_) (fun H3 k3 m3 a3 => ?_)
    · have e4 : H4 D = some (.lst acc) := k4 D _ hDa DS
      refine ⟨acc, e4, line5 (by omega), acc ++ [v], upd_same, by rw [List.length_append, List.length_singleton]; omega, ?_, ?_, ?_⟩
      · exact (k.trans k4).own hD
      · exact (m.trans m4).mut e4
      · refine hA _ _ H4 _ ((Imm.refl H4).mut e4) (fun s hs => ?_) a4
        rw [upd_ne fun e => DS (by rw [← e]; exact hs)]
    · exact ⟨acc, k3 D _ hDa DS, by omega, k.trans k3, m.trans m3, a3⟩
  · rintro H ⟨acc, hDa, hl, k, m, a⟩
    exact hd acc H hl k m hDa a
/-- every turn gives inj (f i), nothing else changes -/
theorem lc_map {α : Type} (w : Walk J n G Y) (inj : α → V) (f : Nat → α) (hn : n ≤ 100000) (hD : H1 D = none) (hG : ∀ H', Keeps [] H1 H' → Imm H1 H' → G H')
    (hs : ∀ i x H H', i < n → Keeps [] H1 H → Imm H1 H → Y i H x H' → ∀ R : V → Hp → Prop, (∀ H4, Keeps [] H H4 → Imm H H4 → R (inj (f i)) H4) →
      g x (wipe σ vs) H' fun σ2 H2 => wipe σ2 vs = wipe σ vs ∧ te σ2 H2 R)
    (hd : ∀ H, Keeps [] H1 H → Imm H1 H → H D = some (.lst (((List.range n).map f).map inj)) → Qd H) : LcW J g tYes te vs σ H1 D Qd := by
  refine lc_acc w [] hn hD (by simp) (fun i acc _ => acc = ((List.range i).map f).map inj) (fun _ _ _ _ _ _ h => h) rfl hG ?_ ?_
  · intro i x acc H H' hi k m hl e y R N hR hN
    refine hs i x H H' hi k m y R fun H4 k4 m4 => hR _ H4 k4 m4 ?_
    rw [e, List.range_succ, List.map_append, List.map_append]
    rfl
  · intro acc H hl k m h e
    refine hd H k m ?_
    rw [← e]
    exact h
end
/-! ### data -/
def okC (c : Nat) : Bool := decide (32 ≤ c) && (decide (c ≤ 126) && decide (c ≠ 37))
def okT (z : Str) : Prop := ∀ c ∈ z.cps.toList, okC c = true
def okL (c : Nat) : Bool := decide (97 ≤ c) && decide (c ≤ 122)
def okN (z : Str) : Prop := 1 ≤ z.length ∧ z.length ≤ 8 ∧ ∀ c ∈ z.cps.toList, okL c = true
def okS (z : Str) : Prop := okT z ∧ 1 ≤ z.length ∧ z.length ≤ 40 ∧ z.cps.toList.Pairwise (· < ·)
inductive Fm where
  | none | any | signs (z : Str) | row (ps : List Str) | first (ps : List Str) | again (p : Str) | ahead (p : Str) | not (p : Str)
  deriving DecidableEq
def Fm.l : Fm → List Str
  | .none => ["none"]
  | .any => ["any"]
  | .signs z => ["signs", z]
  | .row ps => "row" :: ps
  | .first ps => "first" :: ps
  | .again p => ["again", p]
  | .ahead p => ["ahead", p]
  | .not p => ["not", p]
def Fm.parts : Fm → List Str
  | .row ps => ps
  | .first ps => ps
  | .again p => [p]
  | .ahead p => [p]
  | .not p => [p]
  | _ => []
def Fm.ok : Fm → Prop
  | .none => True
  | .any => True
  | .signs z => okS z
  | .row ps => 1 ≤ ps.length ∧ ps.length ≤ 8 ∧ ∀ p ∈ ps, okN p
  | .first ps => 1 ≤ ps.length ∧ ps.length ≤ 8 ∧ ∀ p ∈ ps, okN p
  | .again p => okN p
  | .ahead p => okN p
  | .not p => okN p
def FormAt (H : Hp) (a : Addr) (f : Fm) : Prop := H a = some (.tup (f.l.map V.str))
/-- a list of texts, closed -/
def StrsAt (H : Hp) (a : Addr) (xs : List Str) : Prop := ∃ o, H a = some (.frz o (.lst (xs.map V.str)))
theorem FormAt.imm {H H' : Hp} {a : Addr} {f : Fm} (h : FormAt H a f) (i : Imm H H') : FormAt H' a f := i.tup h
theorem StrsAt.imm {H H' : Hp} {a : Addr} {xs : List Str} (h : StrsAt H a xs) (i : Imm H H') : StrsAt H' a xs := let ⟨o, h⟩ := h; ⟨o, i.frz h⟩
theorem StrsAt.sq {K : PySem.W.Frag} {H : Hp} {a : Addr} {xs : List Str} (h : StrsAt H a xs) : SqL K H a (xs.map V.str) := let ⟨o, h⟩ := h; .inl (.inr ⟨o, h⟩)
end Kr
/-! rules that the hand layer lacks: operators, calls, walks -/
namespace Kr
open PySem PySem.Spec PyProof.Rows L2
section
variable {X : Cx} {pins : List (Addr × Obj)} {σ : L2.St} {H : Hp} {s : Shared}
theorem rdL (I : L2.Inv X pins σ H s) {l : Addr} {xs : List V} (h : Rd H l (.lst xs)) : xs.length ≤ sizeLine ∧ ∃ (its : List Value) (n : Nat), Vals xs its ∧ xs.length = its.length ∧ s.heap.get? l = some { cls := .type "list", data := .seq its.toArray n } := by
  obtain ⟨z, its, n, r, e⟩ := h.ok I.hok
  exact ⟨z, its, n, r, r.length, e⟩
/-- a list is, or is not, the empty one -/
def rEqNil : R2 := fun x y H Q => ∃ a xs b, x = .ref a ∧ y = .ref b ∧ Rd H a (.lst xs) ∧ Rd H b (.lst []) ∧ Q (.bl xs.isEmpty) H
def rNeNil : R2 := fun x y H Q => ∃ a xs b, x = .ref a ∧ y = .ref b ∧ Rd H a (.lst xs) ∧ Rd H b (.lst []) ∧ Q (.bl (!xs.isEmpty)) H
theorem op_eqNil (hu : X.A.units + 64 < cLine) : OpR X (compareOp .Eq) rEqNil := by
  intro pins s σ H x y v u Q I rx ry h
  obtain ⟨a, xs, b, rfl, rfl, ha, hb, q⟩ := h
  cases rx
  cases ry
  obtain ⟨z1, its, n, r, l1, e⟩ := rdL I ha
  obtain ⟨z2, its2, n2, r2, l2, e2⟩ := rdL I hb
  have e0 : its2 = [] := by
    cases r2
    rfl
  subst e0
  cases its with
  | nil =>
    have e1 : xs = [] := List.length_eq_zero_iff.mp l1
    subst e1
    exact PySem.SeqAt.eq_listAt (e := fun _ => true) ⟨_, e, rfl, _, rfl⟩ ⟨_, e2, rfl, _, rfl⟩ rfl (by omega) (fun j h1 _ => by simp at h1) ⟨.bl true, H, I, rfl, q⟩
  | cons i is =>
    have e1 : xs.isEmpty = false := by
      cases xs with
      | nil => simp at l1
      | cons _ _ => rfl
    rw [e1] at q
    exact PySem.SeqAt.eq_list_lengthsAt ⟨_, e, rfl, _, rfl⟩ ⟨_, e2, rfl, _, rfl⟩ (by simp) (by omega) ⟨.bl false, H, I, rfl, q⟩
theorem op_neNil (hu : X.A.units + 64 < cLine) : OpR X (compareOp .NotEq) rNeNil := by
  intro pins s σ H x y v u Q I rx ry h
  obtain ⟨a, xs, b, rfl, rfl, ha, hb, q⟩ := h
  cases rx
  cases ry
  obtain ⟨z1, its, n, r, l1, e⟩ := rdL I ha
  obtain ⟨z2, its2, n2, r2, l2, e2⟩ := rdL I hb
  have e0 : its2 = [] := by
    cases r2
    rfl
  subst e0
  cases its with
  | nil =>
    have e1 : xs = [] := List.length_eq_zero_iff.mp l1
    subst e1
    exact PySem.SeqAt.RcNeAt.lists (e := fun _ => true) ⟨_, e, rfl, _, rfl⟩ ⟨_, e2, rfl, _, rfl⟩ rfl (by omega) (fun j h1 _ => by simp at h1) X.prog X.w X.xe _ ⟨.bl false, H, I, rfl, q⟩
  | cons i is =>
    have e1 : xs.isEmpty = false := by
      cases xs with
      | nil => simp at l1
      | cons _ _ => rfl
    rw [e1] at q
    exact PySem.SeqAt.RcNeAt.lists_lengths ⟨_, e, rfl, _, rfl⟩ ⟨_, e2, rfl, _, rfl⟩ (by simp) (by omega) X.prog X.w X.xe _ ⟨.bl true, H, I, rfl, q⟩
/-- a + b of lists that are read -/
def rCatS : R2 := fun x y H Q => ∃ l b xs zs, x = .ref l ∧ y = .ref b ∧ Rd H l (.lst xs) ∧ Rd H b (.lst zs) ∧ xs.length + zs.length ≤ sizeLine ∧ ∀ p, H p = none → Q (.ref p) (upd H p (.lst (xs ++ zs)))
theorem op_catS : OpR X (binaryOp .Add) rCatS := by
  intro pins s σ H x y v u Q I rx ry h
  obtain ⟨l, b, xs, zs, rfl, rfl, hH, hB, hz, q⟩ := h
  cases rx
  cases ry
  obtain ⟨z, its, n, r, hl, e⟩ := rdL I hH
  obtain ⟨z2, its2, n2, r2, hl2, e2⟩ := rdL I hB
  refine PySem.P.add_list e e2 ?_ (by rw [List.size_toArray, List.size_toArray]; omega)
  have ea : its.toArray ++ its2.toArray = (its ++ its2).toArray := by simp
  rw [ea]
  exact ⟨.ref _, _, I.lnew (t' := s.toks) (r.append r2) (by rw [List.length_append]; omega), rfl, q _ I.fresh⟩
def rExtendS : V → List V → Hp → VK → Prop := fun x vs H Q => ∃ l b xs zs, x = .ref l ∧ vs = [.ref b] ∧ H l = some (.lst xs) ∧ Rd H b (.lst zs) ∧ xs.length + zs.length ≤ sizeLine ∧ Q .non (upd H l (.lst (xs ++ zs)))
theorem mt_extendS : MtM X "list.extend" rExtendS := by
  intro pins s σ H x vs v us Q I rx rv h
  obtain ⟨l, b, xs, zs, rfl, rfl, hH, hB, hz, q⟩ := h
  cases rx
  obtain ⟨u, rfl, ru⟩ := rv.one
  cases ru
  obtain ⟨z, its, n, r, hl, e⟩ := I.lstM hH
  obtain ⟨z2, its2, n2, r2, hl2, e2⟩ := rdL I hB
  have hsz : its.toArray.size + its2.toArray.size ≤ sizeLine := by rw [List.size_toArray, List.size_toArray]; omega
  have hlong : ¬ (!its.toArray.isEmpty && Builtin.List.listTooLong (its.toArray.size + its2.toArray.size)) = true := by
    rw [notLongL hsz, Bool.and_false]
    exact Bool.false_ne_true
  refine call_meets PySem.F.slot_list_extend ⟨_, e, rfl⟩ PySem.F.entry_list_extend (PySem.F.args_list_extend_2 _ _)
    (AutoSeq1.list_extend_list_list_0 l its.toArray n b its2.toArray n2 hlong (by rw [List.size_toArray]; omega) (by omega)) ⟨e, e2, ?_⟩
  refine ⟨.non, _, I.lset (its' := its ++ its2) hH e (by simp) (r.append r2) ?_, rfl, q⟩
  rw [List.length_append]
  omega
/-- a text times an int -/
def mulS (x : Str) (n : Int) : Str := if (n == 1 || x.length == 0) = true then x else ⟨(List.replicate n.toNat x.cps).foldl (· ++ ·) #[]⟩
theorem op_mulStr : OpR X (binaryOp .Mult) (fun x y H Q => ∃ z n, x = .str z ∧ y = .int n ∧ 1 ≤ n ∧ n ≤ 1000 ∧ z.length ≤ 1000 ∧ (mulS z n).length ≤ 1000 ∧ Q (.str (mulS z n)) H) := by
  intro pins s σ H x y v u Q I rx ry h
  obtain ⟨z, n, rfl, rfl, h1, h2, h3, h4, q⟩ := h
  obtain ⟨t, rfl⟩ := rx
  obtain ⟨t', rfl⟩ := ry
  refine PySem.P.mul_str ?_ (fun _ _ hh => ?_) (fun _ _ => ?_) ?_
  · rw [decide_eq_false (by omega), decide_eq_false (by omega)]
    rfl
  · have : (1000 : Int) ≤ (2 ^ 63 - 1) / n := by
      have := Int.le_ediv_of_mul_le (a := 1000) (b := 2 ^ 63 - 1) (c := n) (by omega) (by omega)
      exact this
    omega
  · have h5 : z.length * n.toNat ≤ 1000 * 1000 := Nat.mul_le_mul h3 (by omega)
    unfold Builtin.Str.tooLong
    rw [sizeLine_eq]
    exact decide_eq_false (by omega)
  · rw [if_neg (by omega)]
    unfold mulS at q h4
    by_cases e : (n == 1 || z.length == 0) = true
    · rw [if_pos e] at q ⊢
      exact ⟨.str z, H, I, ⟨_, rfl⟩, q⟩
    · rw [if_neg e] at q h4 ⊢
      exact ⟨line5' (Nat.le_trans h4 (by decide)), .str _, H, I.tok _, ⟨_, rfl⟩, q⟩
/-- list(d), len(d) of a dict that is read -/
theorem call_list_dKR (hc : X.calm = true) : CallR X (.type "list") (fun xs H Q => ∃ p kvs, xs = [.ref p] ∧ Rd H p (.dK kvs) ∧ ∀ q, H q = none → Q (.ref q) (upd H q (.lst (kvs.map fun kv => kV kv.1)))) := by
  intro pins s σ H xs us Q I r h
  obtain ⟨p, kvs, e, hk, q⟩ := h
  subst e
  obtain ⟨u, eu, rx⟩ := vals1 r
  subst eu
  obtain rfl : u = Value.ref p := rx
  obtain ⟨z, lo, vs, rk, hd⟩ := dk_rd I.hok hk
  obtain ⟨ep, hat⟩ := hd.dictAt
  have hl : kvs.length = vs.length := Paired.length rk
  refine PySem.W.kdl_call (PySem.W.kdl_dict (knd := mixKind X.prog X.w) (kvs := vs) (ep := ep) lo) (I.ok.hd hc) hat (by rw [← hl]; exact z) fun h' tk acc' c' hkeep hS hacc => ?_
  refine ⟨.ref s.heap.objs.size, upd H s.heap.objs.size (.lst (kvs.map fun kv => kV kv.1)), I.laid hkeep (Nat.le_refl _) (show ObjOk X.prog X.w _ _ _ (.lst (kvs.map fun kv => kV kv.1)) from ⟨?_, acc'.toList, c', ?_, ?_⟩), rfl, q _ (I.hok.fresh (Nat.le_refl _))⟩
  · rw [List.length_map]; exact z
  · have el : acc'.toList.length = acc'.size := by simp
    refine vals_of_at (by rw [List.length_map, el, hacc.1, hl]) fun j x w h1 h2 => ?_
    obtain ⟨k, y, hky, hi⟩ := hacc.2 j w (by rw [← Array.getElem?_toList]; exact h2)
    have e1 : (kvs.map (·.1))[j]? = some k := by
      rw [KV.keys rk, List.getElem?_map, hky] <;> rfl
    have e2 : (kvs.map fun kv => kV kv.1)[j]? = some (kV k) := by
      have e3 : (kvs.map fun kv => kV kv.1) = (kvs.map (·.1)).map kV := by rw [List.map_map] <;> rfl
      rw [e3, List.getElem?_map, e1] <;> rfl
    rw [e2] at h1
    cases h1
    exact keyIs_rel hi
  · rw [Array.toArray_toList]; exact hS
theorem call_lenDR : CallR X (.builtin "len") (fun xs H Q => ∃ a kvs, xs = [V.ref a] ∧ Rd H a (.dK kvs) ∧ Q (.int kvs.length) H) := by
  intro pins s σ H xs us Q I r h
  obtain ⟨a, kvs, rfl, ha, q⟩ := h
  obtain ⟨u, rfl, ru⟩ := vals1 r
  cases ru
  exact d_len I ha fun t s' I' => ⟨.int kvs.length, H, I', ⟨t, rfl⟩, q⟩
end
/-! ### d.pop(k), k there, tuple keys -/
section
variable {K : Type} [DecidableEq K] {prog : Program} {w : World} {knd : HeapKind prog w K}
theorem meetsPop1 {d b : Addr} {k : K} (hd : (d == sysModules) = false) :
    MeetsIn prog w (Builtin.«dict.pop» ⟨[.ref d, .ref b], []⟩) (fun A R s => ∃ xs p, knd.room A.in1 ∧ knd.is s.heap k b ∧ s.heap.DictOfH knd d xs ∧ xs.length ≤ sizeLine ∧ atKey xs k = some p ∧
      ∀ h' tk, h'.DictOfH knd d (DT.dropH xs k) → Heap.SameBut d s.heap h' → R (.ok (.ret p.2)) { s with heap := h', toks := tk }) :=
  .of_wp fun A R s ⟨xs, p, hu, hkey, hm, hsz, hat, hsome⟩ => by
    obtain ⟨o, es, ep, ho, hc, hdat, he, his, hn⟩ := id hm
    have hes : es.size = xs.length := size_of_entries he
    have hpart : (keyPart (Value.ref b)).isSome = false := rfl
    unfold Builtin.«dict.pop»
    refine wpAny_bind ?_
    unfold Builtin.Dict.keyAndDefault
    refine wpAny_bind (wpAny_notOrdered_dict hm.typeIs ?_)
    show wpAny _ _ (pure (d, Value.ref b, none)) _ _ s
    refine wpAny_pure ?_
    simp only [hpart, Bool.false_eq_true, if_false]
    refine wpAny_bind (wpAny_dictEntries ho hdat (wpAny_bind (wpAny_pure ?_)))
    cases hem : es.isEmpty with
    | true =>
      have h0 : xs = [] := by
        have z : es.size = 0 := by simpa using hem
        exact List.length_eq_zero_iff.mp (by omega)
      rw [h0] at hat
      cases hat
    | false =>
      simp only [Bool.false_eq_true, if_false]
      refine wpAny_bind (DT.takeH hu hkey hm hsz (fun hno => ?_) fun p' e hp hev h' hm' hs' => ?_)
      · rw [hat] at hno
        cases hno
      · rw [hat] at hp
        cases hp
        simp only [Option.isNone_some, Bool.false_eq_true, if_false]
        exact wpAny_bind (wpAny_letGo (wpAny_pure ⟨e.val, rfl, by rw [hev]; exact hsome h' _ hm' hs'⟩))
end
section
variable {X : Cx}
def rPopT1 : V → List V → Hp → VK → Prop := fun x xs H Q => ∃ (a : Addr) (kvs : List (List L2.Key × V)) (k : List L2.Key) (b : Addr) (v : V), x = .ref a ∧ xs = [.ref b] ∧ H a = some (.dT kvs) ∧ H b = some (.tup (k.map kV)) ∧
  valV kvs k = some v ∧ Q v (upd H a (.dT (dropK kvs k)))
theorem mt_popT1 (hu : X.A.units + 1 < cLine) : MtR X "dict.pop" rPopT1 := by
  intro pins s σ H x xs v us Q I rx rxs h
  obtain ⟨a, kvs, k, b, d, rfl, rfl, ha, hb, hv, q1⟩ := h
  cases rx
  obtain ⟨u1, rfl, r1⟩ := vals1 rxs
  cases r1
  obtain ⟨z, hd, xs', rel, dd⟩ := dt_of I.hok ha
  have hz : xs'.length ≤ sizeLine := by rw [← Paired.length rel]; exact z
  have r := rel.val k
  rw [hv] at r
  obtain ⟨p2, hp2, rv⟩ := r.some_of
  obtain ⟨p, hp, e2⟩ := Option.map_eq_some_iff.mp hp2
  subst e2
  refine call_meetsIn PySem.F.slot_dict_pop dd.typeIs PySem.F.entry_dict_pop (PySem.F.args_dict_pop_2 _ _) (meetsPop1 (knd := tupleKind (mixKind X.prog X.w)) (k := k) hd)
    ⟨xs', p, tupleKind_room_in1 hu, key_of I.hok hb, dd, hz, hp, fun h' tk dd' hs => ?_⟩
  obtain ⟨o, es, ep, hq, h2, h3, h4, _, h5⟩ := dd'
  have I2 : L2.Inv X pins σ (upd H a (.dT (dropK kvs k))) { s with heap := h', toks := tk } :=
    d_write I (by rw [ha]; exact True.intro) hs ⟨o, hq⟩ ⟨Nat.le_trans (dropK_le kvs k) z, hd, _, (L2.DX.KT_drop k rel).keeps (fun c ys ec => (by rw [upd_ne (ne_of ec ha (fun z => nomatch z))]; exact ec)), o, es, ep, hq, h2, h3, h4, h5⟩
  show EP X pins σ Q p.2 _
  exact ⟨d, _, I2, rv, q1⟩
end
end Kr
/-! walks that the hand layer lacks: zip of two texts, items of a dict with tuple keys -/
namespace Kr
open PySem PySem.Spec PyProof.Rows L2
/-! ### zip(text, text) -/
def Itzs (x y : Str) : It := ⟨fun i _ => i < min x.cps.size y.cps.size, fun i H v H' => ∃ T c d, v = .ref T ∧ H T = none ∧ H' = upd H T (.tup [.str ⟨#[c]⟩, .str ⟨#[d]⟩]) ∧ x.cps[i]? = some c ∧ y.cps[i]? = some d, fun i _ => min x.cps.size y.cps.size ≤ i⟩
theorem walk_zipS {x y : Str} : Walk (Itzs x y) (min x.cps.size y.cps.size) (fun _ => True) (fun i H v H' => ∃ T c d, v = .ref T ∧ H T = none ∧ H' = upd H T (.tup [.str ⟨#[c]⟩, .str ⟨#[d]⟩]) ∧ x.cps[i]? = some c ∧ y.cps[i]? = some d) :=
  ⟨fun _ _ hi _ => hi, fun _ _ => Nat.le_refl _, fun _ _ _ _ _ _ y => y⟩
theorem turn_zipS {P : Program} {w : World} {K : PySem.W.Frag} {elts : List Expr} {kk : Nat} {tpos : Pos} {x y : Str} {t u : Tok} {z TI TO i1 i2 : Addr} (S : ZipSep2 z TI TO i1 i2 [i1] [i2]) :
    Turn P w K (.Tuple elts kk tpos) (Itzs x y) (z :: TI :: TO :: ([i1] ++ [i2])) z
      (fun i h => i ≤ min x.cps.size y.cps.size ∧ IsZip h z TI TO .none ∧ IsTupOf2 h TI (.ref i1) (.ref i2) ∧ (∃ a1 a2, IsTupOf2 h TO a1 a2) ∧ h.IsStrIter i1 (strIterType x) x t i ∧ h.IsStrIter i2 (strIterType y) y u i) where
  mem := by simp
  obj := fun i h st b hb => by
    obtain ⟨_, hz, hTI, ⟨a1, a2, hTO⟩, ⟨o1, e1, _, d1⟩, ⟨o2, e2, _, d2⟩⟩ := st
    have e' : b = z ∨ b = TI ∨ b = TO ∨ b = i1 ∨ b = i2 := by simpa using hb
    rcases e' with q | q | q | q | q
    · rw [q]; exact ⟨_, hz, fun v q => nomatch q⟩
    · rw [q]; exact ⟨_, hTI, fun v q => nomatch q⟩
    · rw [q]; exact ⟨_, hTO, fun v q => nomatch q⟩
    · rw [q]; exact ⟨o1, e1, fun v q => by rw [d1] at q; cases q⟩
    · rw [q]; exact ⟨o2, e2, fun v q => by rw [d2] at q; cases q⟩
  keep := fun i h h' st k => by
    obtain ⟨hl, hz, hTI, ⟨a1, a2, hTO⟩, ⟨o1, e1, r1⟩, ⟨o2, e2, r2⟩⟩ := st
    exact ⟨hl, k z (by simp) _ hz, k TI (by simp) _ hTI, ⟨a1, a2, k TO (by simp) _ hTO⟩, ⟨o1, k i1 (by simp) _ e1, r1⟩, ⟨o2, k i2 (by simp) _ e2, r2⟩⟩
  item := by
    intro X hP hw hK hc i pins s σ H E I hf st hg
    subst hP hw hK
    have W := GoesN.zip2 (prog := X.prog) (w := X.w) (A := X.A) (elts := elts) (x1 := kk) (pos := tpos) S (Draws.text (show X.A.in1.handled = none from I.ok.hd hc) i1 x t) (Draws.text (show X.A.in1.handled = none from I.ok.hd hc) i2 y u)
    refine W.goes i s (fun u s2 => ∃ x_1 H', L2.Inv X pins σ H' s2 ∧ RelV x_1 u ∧ (Itzs x y).yld i H x_1 H' ∧ _ ∧ ∀ b ∈ z :: TI :: TO :: ([i1] ++ [i2]), H' b = none) E hg st.2 ?_
    rintro v h' tk ⟨T, vx, vy, rfl, hn, ⟨c, tc, hc1, rfl⟩, ⟨d, td, hd1, rfl⟩, hT⟩ st' kk' htk
    have new : ObjOk X.prog X.w (upd H T (.tup [.str ⟨#[c]⟩, .str ⟨#[d]⟩])) h' T (.tup [.str ⟨#[c]⟩, .str ⟨#[d]⟩]) :=
      ⟨by show 2 ≤ sizeLine; decide, [_, _], .cons ⟨tc, rfl⟩ (.cons ⟨td, rfl⟩ .nil), hT⟩
    have I1 : L2.Inv X pins σ (upd H T (.tup [.str ⟨#[c]⟩, .str ⟨#[d]⟩])) { s with heap := h', toks := tk } :=
      I.turnedNew (ch := [z, TO, i1, i2]) (fun b o hb e => kk' b o hb e) (fun b hb => hf b (W.sub b hb)) hn new
    refine ⟨.ref T, _, I1, rfl, ⟨T, c, d, rfl, I.hok.fresh hn, rfl, hc1, hd1⟩, ⟨hg, st'⟩, fun b hb => ?_⟩
    have hlt : b < s.heap.objs.size := by
      obtain ⟨_, hz, hTI, ⟨a1, a2, hTO⟩, ⟨o1, e1, _, d1⟩, ⟨o2, e2, _, d2⟩⟩ := st
      have e' : b = z ∨ b = TI ∨ b = TO ∨ b = i1 ∨ b = i2 := by simpa using hb
      rcases e' with q | q | q | q | q
      · rw [q]; exact Heap.lt_size hz
      · rw [q]; exact Heap.lt_size hTI
      · rw [q]; exact Heap.lt_size hTO
      · rw [q]; exact Heap.lt_size e1
      · rw [q]; exact Heap.lt_size e2
    rw [upd_ne (Nat.ne_of_lt (Nat.lt_of_lt_of_le hlt hn))]
    exact (hf b hb).1
  done := by
    intro X hP hw hK hc i pins s σ H E I hf st hg
    subst hP hw hK
    have hi : min x.cps.size y.cps.size ≤ i := hg
    obtain ⟨hl, hz, hTI, ⟨a1, a2, hTO⟩, st1, st2⟩ := st
    refine wpAny_pyNext_zipD2_end S (Draws.text (show X.A.in1.handled = none from I.ok.hd hc) i1 x t) (Draws.text (show X.A.in1.handled = none from I.ok.hd hc) i2 y u) hz hTI hTO st1 st2 (by omega) (by omega) (by omega) ?_
    intro h' tk hk
    exact ⟨rfl, I.turnedL (ch := [z, TO, i1, i2]) (fun c o hb q => hk c o (fun q' => hb (by simp [q'])) (fun q' => hb (by simp [q'])) (fun q' => hb (by simp [q'])) (fun q' => hb (by simp [q'])) q) (fun b hb => hf b (by simp at hb ⊢; rcases hb with q | q | q | q <;> simp [q]))⟩
  self := fun A i s Q E st h => wpAny_pyIter_zip st.2.1 h
def iZipS (ta : TA) : TI := fun σ H R => ta σ H fun vs H1 => ∃ x y, vs = [.str x, .str y] ∧ R (Itzs x y) H1
theorem pi_zipS {X : Cx} {e e2 : Expr} {ta : TA} {p pos tpos : Pos} {elts : List Expr} {kk : Nat} (hg : Gl X "zip") (hm : X.mg "zip" = none) (ha : PA X [e, e2] ta)
    (hs : starEach [e, e2] X.env = (false, eval e X.env) :: starEach [e2] X.env := by rfl) (hpl : (backTo pos (starEach [e2] X.env)).any (·.1) = false := by rfl) :
    PI X (.Tuple elts kk tpos) (.Call (.Name "zip" p) [e, e2] [] pos) (iZipS ta) := by
  refine ⟨fun pins s σ H R I h => ?_⟩
  refine Call_ (ld_blt I hg hm PyProof.Rows.boot_zip (PyProof.Rows.callWith_type1 (thn (ha.run pos pins s σ H _ I h) fun us s1 ⟨vs, H1, I1, r1, q1⟩ => ?_) hs hpl))
  obtain ⟨x, y, ex, q⟩ := q1
  subst ex
  cases r1 with
  | cons r rr =>
    cases rr with
    | cons r' rr =>
      cases rr
      obtain ⟨t, rfl⟩ := r
      obtain ⟨u, rfl⟩ := r'
      refine zip_begins2 (begins_text x t) (begins_text y u) trivial trivial fun h' hz hTI hTO h1 h2 hsz hk => wpAny_pyIter_zip hz ?_
      have I2 : L2.Inv X pins σ H1 { s1 with heap := h' } := I1.kept (t' := s1.toks) hk
      refine ⟨s1.heap.objs.size + 4, _, _, _, H1, rfl, I2, turn_zipS (x := x) (y := y) (t := t) (u := u) (zip_sep2 (N := s1.heap.objs.size) (fp1 := []) (fp2 := []) (by simp) (by simp)), ⟨Nat.zero_le _, hz, hTI, ⟨_, _, hTO⟩, ⟨_, h1, rfl, rfl⟩, ⟨_, h2, rfl, rfl⟩⟩, fun c hcm => ?_, q⟩
      have hb : s1.heap.objs.size ≤ c := by
        have e' : c = s1.heap.objs.size + 4 ∨ c = s1.heap.objs.size + 2 ∨ c = s1.heap.objs.size + 3 ∨ c = s1.heap.objs.size ∨ c = s1.heap.objs.size + 1 := by simpa using hcm
        rcases e' with q | q | q | q | q <;> (rw [q]; omega)
      exact I1.fpOk hb (I1.hok.fresh hb)
/-! ### for k, v in d.items(), tuple keys; d stands closed -/
def Iti2 (d : Addr) (o : Obj) (kvs : List (List L2.Key × V)) : It :=
  ⟨fun i H => H d = some (.frz o (.dT kvs)) ∧ i < kvs.length, fun i H x H' => ∃ T k v q, kvs[i]? = some (k, v) ∧ H q = some (.tup (k.map kV)) ∧ x = .ref T ∧ H T = none ∧ H' = upd H T (.tup [.ref q, v]), fun i H => H d = some (.frz o (.dT kvs)) ∧ kvs.length ≤ i⟩
theorem walk_itemsT {d : Addr} {o : Obj} {kvs : List (List L2.Key × V)} : Walk (Iti2 d o kvs) kvs.length (fun H => H d = some (.frz o (.dT kvs)))
    (fun i H x H' => ∃ T k v q, kvs[i]? = some (k, v) ∧ H q = some (.tup (k.map kV)) ∧ x = .ref T ∧ H T = none ∧ H' = upd H T (.tup [.ref q, v])) :=
  ⟨fun _ _ hi q => ⟨q, hi⟩, fun _ q => ⟨q, Nat.le_refl _⟩, fun _ _ _ _ _ _ y => y⟩
theorem frzT2 {X : Cx} {pins : List (Addr × Obj)} {σ : L2.St} {H : Hp} {s : Shared} {d : Addr} {o : Obj} {kvs : List (List L2.Key × V)} (I : L2.Inv X pins σ H s) (h : H d = some (.frz o (.dT kvs))) :
    (d == sysModules) = false ∧ s.heap.get? d = some o ∧ o.ExactDict ∧ ∃ (es : Array DictEntry) (ep : Nat), o.data = .dict es ep ∧ es.size = kvs.length ∧ kvs.length ≤ sizeLine ∧
      ∀ (i : Nat) (k : List L2.Key) (v : V), kvs[i]? = some (k, v) → ∃ (en : DictEntry) (q : Addr), es[i]? = some en ∧ en.key = .ref q ∧ H q = some (.tup (k.map kV)) ∧ RelV v en.val := by
  obtain ⟨hd, z, hs, xs, pr, o', es, ep, ho, hx, hdt, he, _⟩ := I.hok d _ h
  rw [hd] at ho
  cases ho
  refine ⟨hs, hd, hx, es, ep, hdt, ?_, z, fun i k v e => ?_⟩
  · have l1 : es.size = xs.length := size_of_entries he
    have l2 : kvs.length = xs.length := Paired.length pr
    omega
  · obtain ⟨b, hb, e1, e2, e3⟩ := paired_get pr e
    have q := entry_at he i
    rw [hb] at q
    exact ⟨_, b.2.1, q, rfl, e2, e3⟩
theorem turn_itemsT {P : Program} {w : World} {K : PySem.W.Frag} {elts : List Expr} {kk : Nat} {tpos : Pos} {d : Addr} {o : Obj} {es : Array DictEntry} {ep : Nat} {kvs : List (List L2.Key × V)} (it : Addr) (hne : d ≠ it) (hod : o.data = .dict es ep) :
    Turn P w K (.Tuple elts kk tpos) (Iti2 d o kvs) [it] it (fun i h => i ≤ kvs.length ∧ ∃ ok ov, IsItemIter h it d i es.size ep ok ov) where
  mem := by simp
  obj := fun i h st b hb => by
    have e : b = it := by simpa using hb
    subst e
    obtain ⟨_, ok, ov, e⟩ := st
    exact ⟨_, e, fun v z => nomatch z⟩
  keep := fun i h h' st k => let ⟨a, ok, ov, e⟩ := st; ⟨a, ok, ov, k it (by simp) _ e⟩
  item := by
    intro X hP hw hK hc i pins s σ H E I hf st hg
    subst hP hw hK
    obtain ⟨hd, hi⟩ := hg
    obtain ⟨hs, hgd, hx, es', ep', hdt, hsz, _, ent⟩ := frzT2 I hd
    obtain ⟨rfl, rfl⟩ := dict_ep hod hdt
    obtain ⟨⟨k, v⟩, hkv⟩ : ∃ p, kvs[i]? = some p := ⟨kvs[i], List.getElem?_eq_getElem hi⟩
    obtain ⟨en, q, he, hk, hq, rv⟩ := ent i k v hkv
    have W := GoesN.rawItems (prog := X.prog) (w := X.w) (A := X.A) (elts := elts) (x1 := kk) (pos := tpos) (I.ok.hd hc) it d hne es' ep'
    refine W.goes i s (fun u s2 => ∃ x_1 H', L2.Inv X pins σ H' s2 ∧ RelV x_1 u ∧ (Iti2 d o kvs).yld i H x_1 H' ∧ _ ∧ ∀ b ∈ [it], H' b = none) E (by omega) ⟨st.2, o, hgd, hx, hdt⟩ ?_
    rintro v1 h' tk ⟨T, hi', rfl, hn, hT⟩ st' kk' htk
    have en1 : es'[i] = en := by
      obtain ⟨h1, h2⟩ := Array.getElem?_eq_some_iff.mp he
      exact h2
    rw [en1, hk] at hT
    have new : ObjOk X.prog X.w (upd H T (.tup [.ref q, v])) h' T (.tup [.ref q, v]) :=
      ⟨by show 2 ≤ sizeLine; decide, [_, _], .cons rfl (.cons rv .nil), hT⟩
    have I1 : L2.Inv X pins σ (upd H T (.tup [.ref q, v])) { s with heap := h', toks := tk } :=
      I.turnedNew (ch := [it]) (fun b o hb e => kk' b o hb e) hf hn new
    refine ⟨.ref T, _, I1, rfl, ⟨T, k, v, q, hkv, hq, rfl, I.hok.fresh hn, rfl⟩, ⟨hi, st'.1⟩, fun b hb => ?_⟩
    have e : b = it := by simpa using hb
    obtain ⟨_, ok, ov, e1⟩ := st
    rw [e, upd_ne (Nat.ne_of_lt (Nat.lt_of_lt_of_le (Heap.lt_size e1) hn))]
    exact (hf it (by simp)).1
  done := by
    intro X hP hw hK hc i pins s σ H E I hf st hg
    subst hP hw hK
    obtain ⟨hd, hi⟩ := hg
    obtain ⟨hs, hgd, hx, es', ep', hdt, hsz, _, ent⟩ := frzT2 I hd
    obtain ⟨rfl, rfl⟩ := dict_ep hod hdt
    obtain ⟨hl, ok, ov, e1⟩ := st
    obtain ⟨f0, f1, f2, f3, f4, f5⟩ := hf it (by simp)
    exact wpAny_pyNext_items_end_raw (I.ok.hd hc) e1 ⟨o, hgd, hx, hdt⟩ (by omega) fun h' eb => ⟨rfl, I.turned (t' := s.toks) (fun b ob hb e => eb b ob hb e) f0 f1 f3 f4 f5⟩
  self := fun A i s Q E st h => let ⟨_, _, _, e⟩ := st; PySem.W.kcp_self e h
def iItemsT (td : TE) : TI := fun σ H R => td σ H fun x H1 => ∃ d o kvs, x = .ref d ∧ H1 d = some (.frz o (.dT kvs)) ∧ R (Iti2 d o kvs) H1
theorem pi_itemsT {X : Cx} {e : Expr} {td : TE} {apos cpos tpos : Pos} {elts : List Expr} {kk : Nat} (he : PE X e td) (hbase : attributeBase e "items" X.env (eval e X.env) = eval e X.env := by rfl) (hline : (apos.endLine == cpos.line) = true := by rfl) :
    PI X (.Tuple elts kk tpos) (.Call (.Attribute e "items" apos) [] [] cpos) (iItemsT td) := by
  refine ⟨fun pins s σ H R I h => ?_⟩
  refine wpAny_Call_method (T := "dict") (id := "dict.items") hbase rfl hline PySem.F.plainAttrs_dict PySem.F.slot_dict_items PySem.F.type_dict_items (thn (he.run pins s σ H _ I h) fun u s1 ⟨x, H1, I1, rx, d, o, kvs, ex, hd, q⟩ => ?_)
  subst ex
  obtain rfl : u = Value.ref d := rx
  obtain ⟨hs, hgd, hx, es, ep, hdt, hsz, hz, ent⟩ := frzT2 I1 hd
  have raw : s1.heap.DictRaw d es ep := ⟨o, hgd, hx, hdt⟩
  refine ⟨raw.typeIs, ?_, ?_⟩
  · intro a ea
    cases ea
    exact ⟨o, hgd, hx.2.1⟩
  have I2 : L2.Inv X pins σ H1 { s1 with heap := s1.heap.push { cls := .type "dict_items", data := .fields #[.ref d] } } := I1.kept (t' := s1.toks) fun b ob q => Heap.get?_push_of_some _ q
  have fin : wpAny (model X.prog X.w) X.A (pyIter (.ref s1.heap.objs.size)) (PIE X pins σ (.Tuple elts kk tpos) R) X.xe { s1 with heap := s1.heap.push { cls := .type "dict_items", data := .fields #[.ref d] } } := by
    refine wpAny_pyIter_items_raw (d := d) ⟨_, Heap.get?_push_size _ rfl, rfl, rfl⟩ (raw.at fun o e => Heap.get?_push_of_some _ e) (pi_one (tk := s1.toks) I2 _ (turn_itemsT _ (Nat.ne_of_lt (Heap.lt_size (Heap.get?_push_of_some _ hgd))) hdt) ⟨Nat.zero_le _, .none, .none, ?_⟩ q)
    exact Heap.get?_push_size _ rfl
  show wpAny _ _ (callWith cpos (.builtin "dict.items") [.ref d] [] []) _ X.xe s1
  exact method_meetsIn PySem.F.slot_dict_items PySem.F.entry_dict_items rfl (PySem.evalArgs_none ⟨rfl, raw.typeIs, PySem.F.args_dict_items_1 _, _, meets_dict_items_raw d hs, ⟨es, ep, raw⟩, fin⟩)
end Kr
/-! sorted of tuples whose first items are unlike -/
namespace Kr
open PySem PySem.Spec PyProof.Rows L2
/-- a first item: an int or a text -/
def fstIs (f : Value) : Int ⊕ Str → Prop
  | .inl n => ∃ t, f = .int n t
  | .inr x => ∃ t, f = .str x t
/-- v is a tuple whose first item is k -/
def Fst (h : Heap) (v : Value) (k : Int ⊕ Str) : Prop := ∃ (a : Addr) (o : Obj) (xs : Array Value) (n : Nat) (f : Value), v = .ref a ∧ h.get? a = some o ∧ o.cls = .type "tuple" ∧ o.data = .seq xs n ∧ xs[0]? = some f ∧ fstIs f k
theorem Fst.keeps {h h' : Heap} {v : Value} {k : Int ⊕ Str} (x : Fst h v k) (kp : ∀ b o, h.get? b = some o → o.cls = .type "tuple" → h'.get? b = some o) : Fst h' v k := by
  obtain ⟨a, o, xs, n, f, e, ho, hc, r⟩ := x
  exact ⟨a, o, xs, n, f, e, kp _ _ ho hc, hc, r⟩
/-- the order of first items -/
def fltk : Int ⊕ Str → Int ⊕ Str → Bool
  | .inl a, .inl b => decide (a < b)
  | .inr x, .inr y => decide (x.cps.toList < y.cps.toList)
  | _, _ => false
def sameK : Int ⊕ Str → Int ⊕ Str → Prop
  | .inl _, .inl _ => True
  | .inr _, .inr _ => True
  | _, _ => False
section
variable {prog : Program} {w : World} {A : Around} {E : Value → Shared → Prop} {s : Shared}
theorem eqBool_same {a : Value} {Q : Bool → Shared → Prop} (h : Q true s) : wpAny (model prog w) A (eqBool a a) Q E s := by
  unfold eqBool
  refine wpAny_holding ?_
  rw [if_pos (beq_self_eq_true a)]
  exact wpAny_bind (wpAny_rule (wpAny_pure h))
theorem lex_same {b : Bool} {Q : Bool → Shared → Prop} : ∀ (xs : List Value) (i : Nat), Q false s → PySem.W.KatLex prog w A b false Q (xs.zip xs) i s
  | [], i, h => PySem.W.kat_nil h
  | x :: xs, i, h => by
    show PySem.W.KatLex prog w A b false Q ((x, x) :: xs.zip xs) i s
    exact PySem.W.kat_cons (eqBool_same (PySem.W.kat_yes (lex_same xs (i + 1) h)))
theorem oneLt_strs (c : Bool) {p q : Str} {t u : Tok} {Q : Bool → Shared → Prop} (h : Q (decide (p.cps.toList < q.cps.toList)) s) : wpAny (model prog w) A (oneLt' c (.str p t) (.str q u)) Q E s := by
  cases c with
  | true => exact PyProof.Rows.oneLt_str h
  | false => exact PySem.W.kat_one _ _ (PyProof.Rows.lt_str (Q := PySem.W.BoolBack Q) h)
theorem firsts_k {h : Heap} (kOf : Value → Int ⊕ Str) : ∀ vs : List Value, (∀ v ∈ vs, Fst h v (kOf v)) → ∃ fs, PySem.W.KatTups h vs fs ∧ fs.length = vs.length ∧ ∀ f ∈ fs, ∃ v ∈ vs, fstIs f (kOf v)
  | [], _ => ⟨[], PySem.W.KatTups.nil, rfl, fun f hf => by simp at hf⟩
  | v :: vs, x => by
    obtain ⟨fs, k, hl, hi⟩ := firsts_k kOf vs fun u hu => x u (List.mem_cons_of_mem _ hu)
    obtain ⟨a, o, xs, n, f, rfl, ho, hc, hd, hf, hk⟩ := x v (List.mem_cons_self ..)
    refine ⟨f :: fs, PySem.W.KatTups.cons ho hc hd hf k, by simp [hl], fun g hg => ?_⟩
    rcases List.mem_cons.mp hg with rfl | hg
    · exact ⟨_, List.mem_cons_self .., hk⟩
    · obtain ⟨u, hu, q⟩ := hi g hg
      exact ⟨u, List.mem_cons_of_mem _ hu, q⟩
theorem kind_first {vs : List Value} (kOf : Value → Int ⊕ Str) (r : Value → Int) (h2 : 2 ≤ vs.length) (hu : A.units < cLine) (x : ∀ v ∈ vs, Fst s.heap v (kOf v)) (hsame : ∀ v ∈ vs, ∀ u ∈ vs, sameK (kOf v) (kOf u)) (hinj : ∀ v ∈ vs, ∀ u ∈ vs, kOf v = kOf u → v = u)
    (hr : ∀ v ∈ vs, ∀ u ∈ vs, decide (r v < r u) = fltk (kOf v) (kOf u)) (Q : SortKind → Shared → Prop)
    (h : ∀ κ, TS.Cmp prog w A s κ (pairsOf vs) r → Q κ s) : wpAny (model prog w) A (keyKind' vs.toArray) Q E s := by
  obtain ⟨fs, k, hl, hi⟩ := firsts_k kOf vs x
  obtain ⟨v0, hv0⟩ : ∃ v0, v0 ∈ vs := by
    cases vs with
    | nil => simp at h2
    | cons v _ => exact ⟨v, List.mem_cons_self ..⟩
  have cmp : ∀ b, TS.Cmp prog w A s (tuples' b) (pairsOf vs) r := by
    intro b p q hp hq Q' E' hQ
    rw [pairsOf_toList] at hp hq
    have mp := (mem_zip_self hp).2
    have mq := (mem_zip_self hq).2
    rw [hr _ mp _ mq] at hQ
    by_cases e : kOf p.1 = kOf q.1
    · have e2 := hinj _ mp _ mq e
      rw [e2] at hQ ⊢
      obtain ⟨a, o, xs, n, f, e1, ho, hc, hd, hf, hk⟩ := x _ mq
      rw [e1]
      refine PySem.W.kat_lt ho hd ho hd ?_
      have sz : decide (xs.size < xs.size) = false := decide_eq_false (Nat.lt_irrefl _)
      rw [sz]
      refine lex_same xs.toList 0 ?_
      have q0 : fltk (kOf q.1) (kOf q.1) = false := by
        cases kOf q.1 with
        | inl a => exact decide_eq_false (Int.lt_irrefl _)
        | inr y => exact decide_eq_false (List.lt_irrefl _)
      rw [q0] at hQ
      exact hQ
    · obtain ⟨a, o, xs, n, f, e1, ho, hc, hd, hf, hk⟩ := x _ mp
      obtain ⟨a', o', xs', n', f', e1', ho', hc', hd', hf', hk'⟩ := x _ mq
      rw [e1, e1']
      refine PySem.W.kat_lt ho hd ho' hd' ?_
      obtain ⟨ys, ey⟩ : ∃ ys, xs.toList = f :: ys := by
        cases q : xs.toList with
        | nil => rw [← Array.getElem?_toList, q] at hf; cases hf
        | cons z ys => rw [← Array.getElem?_toList, q] at hf; cases hf; exact ⟨ys, rfl⟩
      obtain ⟨ys', ey'⟩ : ∃ ys, xs'.toList = f' :: ys := by
        cases q : xs'.toList with
        | nil => rw [← Array.getElem?_toList, q] at hf'; cases hf'
        | cons z ys => rw [← Array.getElem?_toList, q] at hf'; cases hf'; exact ⟨ys, rfl⟩
      rw [ey, ey']
      show PySem.W.KatLex prog w A b _ Q' ((f, f') :: ys.zip ys') 0 s
      have sk := hsame _ mp _ mq
      cases hp1 : kOf p.1 with
      | inl m =>
        cases hq1 : kOf q.1 with
        | inl m' =>
          rw [hp1, hq1] at e hQ
          rw [hp1] at hk
          rw [hq1] at hk'
          obtain ⟨t, rfl⟩ := hk
          obtain ⟨t', rfl⟩ := hk'
          refine PySem.W.kat_cons (wpAny_eqBool_int ?_)
          have ne : (m == m') = false := beq_eq_false_iff_ne.mpr fun q => e (by rw [q])
          rw [ne]
          exact PySem.W.kat_no (TS.oneLt_ints _ hQ)
        | inr y =>
          rw [hp1, hq1] at sk
          exact sk.elim
      | inr y =>
        cases hq1 : kOf q.1 with
        | inl m' =>
          rw [hp1, hq1] at sk
          exact sk.elim
        | inr y' =>
          rw [hp1, hq1] at e hQ
          rw [hp1] at hk
          rw [hq1] at hk'
          obtain ⟨t, rfl⟩ := hk
          obtain ⟨t', rfl⟩ := hk'
          refine PySem.W.kat_cons (wpAny_eqBool_str ?_)
          have ne : decide (y = y') = false := decide_eq_false fun q => e (by rw [q])
          rw [ne]
          exact PySem.W.kat_no (oneLt_strs _ hQ)
  cases hk0 : kOf v0 with
  | inl n =>
    refine PySem.W.kat_kind (T := Value.type "int") k (by omega) (fun f hf => ?_) rfl (h _ (cmp _))
    obtain ⟨v, hv, q⟩ := hi f hf
    have sk := hsame _ hv _ hv0
    rw [hk0] at sk
    cases hkv : kOf v with
    | inl m =>
      rw [hkv] at q
      obtain ⟨t, rfl⟩ := q
      exact PySem.W.Looks.of_pure rfl
    | inr y =>
      rw [hkv] at sk
      exact sk.elim
  | inr y0 =>
    refine PySem.W.kat_kind (T := Value.type "str") k (by omega) (fun f hf => ?_) rfl (h _ (cmp _))
    obtain ⟨v, hv, q⟩ := hi f hf
    have sk := hsame _ hv _ hv0
    rw [hk0] at sk
    cases hkv : kOf v with
    | inl m =>
      rw [hkv] at sk
      exact sk.elim
    | inr y =>
      rw [hkv] at q
      obtain ⟨t, rfl⟩ := q
      exact PySem.W.Looks.of_pure rfl
/-- list.sort of such a list -/
theorem sort_first {a : Addr} {vs : List Value} {n : Nat} {P : PySem.Fin → Shared → Prop} (ho : s.heap.get? a = some (seqObj "list" vs.toArray n)) (h64 : vs.length < 64) (hu : A.units < cLine) (kOf : Value → Int ⊕ Str) (r : Value → Int)
    (x : ∀ v ∈ vs, Fst s.heap v (kOf v)) (hsame : ∀ v ∈ vs, ∀ u ∈ vs, sameK (kOf v) (kOf u)) (hinj : ∀ v ∈ vs, ∀ u ∈ vs, kOf v = kOf u → v = u) (hr : ∀ v ∈ vs, ∀ u ∈ vs, decide (r v < r u) = fltk (kOf v) (kOf u))
    (h : ∀ out : Array Value, out.toList.Perm vs → out.toList.Pairwise (fun u v => r u ≤ r v) → P (.done (.ret .none)) { s with heap := sortedHeap s.heap a vs out }) :
    wpAny (model prog w) A (Builtin.«list.sort» ⟨[.ref a], []⟩) P E s := by
  have keep : ∀ b o, s.heap.get? b = some o → o.cls = .type "tuple" → (TS.midHeap s.heap a vs).get? b = some o := fun b o e hc => by
    refine TS.midHeap_old ?_ e
    rintro rfl
    rw [ho] at e
    have e' : seqObj "list" vs.toArray n = o := Option.some.inj e
    rw [← e'] at hc
    have c' : Value.type "list" = Value.type "tuple" := hc
    injection c' with c''
    exact absurd c'' (by decide)
  refine SK.plain_sort (r := r) ho h64 (fun h2 Q hQ => ?_) fun ps out h1 h2 h3 => ?_
  · exact kind_first (s := { s with heap := TS.midHeap s.heap a vs }) kOf r h2 hu (fun v hv => (x v hv).keeps keep) hsame hinj hr Q hQ
  · obtain ⟨p, o⟩ := TS.out_rank h1 h2 h3
    exact h out p o
/-- sorted(xs) -/
theorem sorted_first {l : Addr} {vs : List Value} {Q : Value → Shared → Prop} (hl : s.heap.IsList l vs.toArray) (h64 : vs.length < 64) (hu : A.in1.in1.units < cLine) (kOf : Value → Int ⊕ Str) (r : Value → Int)
    (x : ∀ v ∈ vs, Fst s.heap v (kOf v)) (hsame : ∀ v ∈ vs, ∀ u ∈ vs, sameK (kOf v) (kOf u)) (hinj : ∀ v ∈ vs, ∀ u ∈ vs, kOf v = kOf u → v = u) (hr : ∀ v ∈ vs, ∀ u ∈ vs, decide (r v < r u) = fltk (kOf v) (kOf u))
    (h : ∀ out : Array Value, out.toList.Perm vs → out.toList.Pairwise (fun u v => r u ≤ r v) → Q (.ref (s.heap.objs.size + 1)) { s with heap := sortedAll s.heap vs out }) :
    wpAny (model prog w) A (call (.builtin "sorted") [.ref l]) Q E s := by
  refine Calls.call_function_entry kind_sorted plain_sorted entry_sorted (args_sorted1 _) ?_
  unfold Builtin.«sorted»
  refine wpAny_bind (m := checkCount "sorted" 1 1 _) (wpAny_pure ?_)
  refine wpAny_bind (collect_list hl ?_ (by rw [sizeLine_eq]; omega))
  refine wpAny_bind (wpAny_newList ?_ (by rw [sizeLine_eq]; omega))
  have hsz : ((s.heap.push (seqObj "list" #[] 0)).update s.heap.objs.size (Obj.mapSeq (· ++ vs.toArray))).objs.size = s.heap.objs.size + 1 := by
    rw [Heap.size_update, size_push']
  have hoL : (((s.heap.push (seqObj "list" #[] 0)).update s.heap.objs.size (Obj.mapSeq (· ++ vs.toArray))).push (seqObj "list" vs.toArray 0)).get? (s.heap.objs.size + 1) = some (seqObj "list" vs.toArray 0) := by
    rw [← hsz]; exact Heap.get?_push_size _ rfl
  have keep : ∀ b o, s.heap.get? b = some o → o.cls = .type "tuple" → (((s.heap.push (seqObj "list" #[] 0)).update s.heap.objs.size (Obj.mapSeq (· ++ vs.toArray))).push (seqObj "list" vs.toArray 0)).get? b = some o := fun b o q _ => by
    have hlt : b < s.heap.objs.size := Heap.lt_size q
    rw [Heap.get?_push_ne _ _ _ (by rw [hsz]; exact Nat.ne_of_lt (Nat.lt_succ_of_lt hlt)), Heap.get?_update_ne _ _ _ _ (Nat.ne_of_lt hlt), Heap.get?_push_ne _ _ _ (Nat.ne_of_lt hlt)]
    exact q
  show wpAny _ _ _ _ _ { s with heap := ((s.heap.push (seqObj "list" #[] 0)).update s.heap.objs.size (Obj.mapSeq (· ++ vs.toArray))).push (seqObj "list" vs.toArray 0) }
  rw [hsz]
  refine wpAny_bind (wpAny_holding (wpAny_call_entry slot_list_sort ⟨_, hoL, rfl⟩ entry_list_sort (sort_first hoL h64 hu kOf r (fun v hv => (x v hv).keeps keep) hsame hinj hr fun out a1 a2 => ⟨_, rfl, ?_⟩) (args_list_sort _)))
  exact wpAny_pure ⟨_, rfl, h out a1 a2⟩
end
end Kr
/-! sorted(xs) of tuples by unlike first ints; sorted(d.items()), text keys -/
namespace Kr
open PySem PySem.Spec PyProof.Rows L2
/-- the order of texts -/
def slt (x y : Str) : Bool := decide (x.cps.toList < y.cps.toList)
theorem slt_irrefl (x : Str) : slt x x = false := decide_eq_false (List.lt_irrefl _)
theorem slt_trans {x y z : Str} (h : slt x y = true) (h' : slt y z = true) : slt x z = true := decide_eq_true (List.lt_trans (of_decide_eq_true h) (of_decide_eq_true h'))
theorem str_ext {x y : Str} (h : x.cps.toList = y.cps.toList) : x = y := by
  obtain ⟨⟨a⟩⟩ := x
  obtain ⟨⟨b⟩⟩ := y
  simp at h
  rw [h]
theorem slt_tri (x y : Str) : slt x y = true ∨ x = y ∨ slt y x = true := by
  by_cases h : x.cps.toList < y.cps.toList
  · exact .inl (decide_eq_true h)
  · by_cases h' : y.cps.toList < x.cps.toList
    · exact .inr (.inr (decide_eq_true h'))
    · have e : x.cps.toList = y.cps.toList := List.le_antisymm (Std.not_lt.mp h') (Std.not_lt.mp h)
      exact .inr (.inl (str_ext e))
/-- how many of ks are less -/
def srk (ks : List Str) (x : Str) : Int := ((ks.filter fun y => slt y x).length : Nat)
theorem srk_lt {ks : List Str} {x y : Str} (hx : x ∈ ks) (h : slt x y = true) : srk ks x < srk ks y := by
  have sub : ∀ l : List Str, ((l.filter fun z => slt z x).length ≤ (l.filter fun z => slt z y).length) ∧ (x ∈ l → (l.filter fun z => slt z x).length < (l.filter fun z => slt z y).length) := by
    intro l
    induction l with
    | nil => exact ⟨Nat.le_refl _, fun h => by simp at h⟩
    | cons a l ih =>
      obtain ⟨i1, i2⟩ := ih
      by_cases ha : slt a x = true
      · have hb := slt_trans ha h
        rw [List.filter_cons_of_pos (by simpa using ha), List.filter_cons_of_pos (by simpa using hb), List.length_cons, List.length_cons]
        refine ⟨by omega, fun hm => ?_⟩
        rcases List.mem_cons.mp hm with e | hm
        · rw [← e, slt_irrefl] at ha
          cases ha
        · have := i2 hm
          omega
      · rw [List.filter_cons_of_neg (by simpa using ha)]
        by_cases hb : slt a y = true
        · rw [List.filter_cons_of_pos (by simpa using hb), List.length_cons]
          exact ⟨by omega, fun _ => by omega⟩
        · rw [List.filter_cons_of_neg (by simpa using hb)]
          refine ⟨i1, fun hm => ?_⟩
          rcases List.mem_cons.mp hm with e | hm
          · rw [← e, h] at hb
            exact absurd rfl hb
          · exact i2 hm
  have := (sub ks).2 hx
  unfold srk
  omega
theorem srk_iff {ks : List Str} {x y : Str} (hx : x ∈ ks) (hy : y ∈ ks) : decide (srk ks x < srk ks y) = slt x y := by
  rcases slt_tri x y with h | h | h
  · rw [h]
    exact decide_eq_true (srk_lt hx h)
  · rw [h, slt_irrefl]
    exact decide_eq_false (Int.lt_irrefl _)
  · have h1 := srk_lt hy h
    have h2 : slt x y = false := by
      cases e : slt x y with
      | false => rfl
      | true =>
        have := slt_trans e h
        rw [slt_irrefl] at this
        cases this
    rw [h2]
    exact decide_eq_false (by omega)
def adV : Value → Addr
  | .ref a => a
  | _ => 0
section
variable {X : Cx}
/-- sorted(xs), xs a list of tuples whose first items are unlike ints -/
def rSortBy : List V → Hp → VK → Prop := fun vs H Q => ∃ (a : Addr) (as : List Addr) (nOf : Addr → Int), vs = [V.ref a] ∧ Rd H a (.lst (as.map V.ref)) ∧ as.length < 64 ∧ (∀ b ∈ as, ∃ xs, H b = some (.tup (.int (nOf b) :: xs))) ∧
  (∀ b ∈ as, ∀ c ∈ as, nOf b = nOf c → b = c) ∧ ∀ (bs : List Addr) (p : Addr), bs.Perm as → bs.Pairwise (fun b c => nOf b ≤ nOf c) → H p = none → Q (.ref p) (upd H p (.lst (bs.map V.ref)))
theorem refs_eq : ∀ {as : List Addr} {us : List Value}, Vals (as.map V.ref) us → us = as.map Value.ref
  | [], _, .nil => rfl
  | a :: as, _ :: us, .cons r t => by
    cases r
    rw [refs_eq t]
    rfl
theorem cr_sortedBy (hu : X.A.units + 64 < cLine) : CallR X (.builtin "sorted") rSortBy := by
  intro pins s σ H vs us Q I r h
  obtain ⟨a, as, nOf, rfl, hs, h64, hx, hinj, q⟩ := h
  obtain ⟨z, its, n, rv, hl, e⟩ := rdL I hs
  rw [Vals.ref1 r]
  have ei := refs_eq rv
  subst ei
  have mem : ∀ v ∈ as.map Value.ref, ∃ b ∈ as, v = .ref b := fun v hv => by
    obtain ⟨b, hb, e⟩ := List.mem_map.mp hv
    exact ⟨b, hb, e.symm⟩
  refine sorted_first (l := a) (vs := as.map Value.ref) ⟨_, e, rfl, _, rfl⟩ (by rw [List.length_map]; exact h64) (by show X.A.units + 1 + 1 < cLine; omega) (fun v => .inl (nOf (adV v))) (fun v => nOf (adV v)) ?_ ?_ ?_ ?_ ?_
  · intro v hv
    obtain ⟨b, hb, rfl⟩ := mem v hv
    obtain ⟨xs, hb2⟩ := hx b hb
    obtain ⟨_, its2, r2, o, ho, hc, n2, hd⟩ := I.hok _ _ hb2
    cases r2 with
    | cons r1 r2 =>
      obtain ⟨t, rfl⟩ := r1
      exact ⟨b, o, _, n2, _, rfl, ho, hc, hd, rfl, t, rfl⟩
  · intro v _ u _
    trivial
  · intro v hv u hu e
    obtain ⟨b, hb, rfl⟩ := mem v hv
    obtain ⟨c, hc, rfl⟩ := mem u hu
    injection e with e1
    rw [hinj b hb c hc e1]
  · intro v _ u _
    rfl
  · intro out h1 h2
    obtain ⟨ep, he'⟩ := PyProof.Rows.sortedAll_at s.heap (as.map Value.ref) out
    have h3 : ∀ u ∈ out.toList, ∃ b, u = Value.ref b := fun u hu => by
      obtain ⟨b, _, e⟩ := mem u (h1.mem_iff.mp hu)
      exact ⟨b, e⟩
    have e3 : out.toList = (out.toList.map adV).map Value.ref := by
      rw [List.map_map]
      conv => lhs; rw [← List.map_id out.toList]
      refine List.map_congr_left fun u hu => ?_
      obtain ⟨b, rfl⟩ := h3 u hu
      rfl
    have hp : (out.toList.map adV).Perm as := by
      have := h1.map adV
      rw [List.map_map] at this
      have e4 : as.map (adV ∘ Value.ref) = as := by
        conv => rhs; rw [← List.map_id as]
        rfl
      rw [e4] at this
      exact this
    have rv2 : Vals ((out.toList.map adV).map V.ref) out.toList := by
      rw [e3]
      have : ((out.toList.map adV).map Value.ref).map adV = out.toList.map adV := by
        rw [← e3]
      rw [this]
      exact vals_refs _
    refine ⟨.ref _, upd H (s.heap.objs.size + 1) (.lst ((out.toList.map adV).map V.ref)), I.laid (t' := s.toks) (fun _ _ => PyProof.Rows.sortedAll_old) (Nat.le_succ _) ⟨?_, out.toList, ep, rv2, he'⟩, rfl, q _ _ hp ?_ (I.hok.fresh (Nat.le_succ _))⟩
    · rw [List.length_map, hp.length_eq]
      rw [List.length_map] at z
      exact z
    · rw [List.pairwise_map]
      exact h2
end
end Kr
/-! sorted(d.items()), text keys -/
namespace Kr
open PySem PySem.Spec PyProof.Rows L2
section
variable {X : Cx}
def rItemsK : V → List V → Hp → VK → Prop := fun x xs H Q => ∃ (a : Addr) (kvs : List (L2.Key × V)), x = .ref a ∧ xs = [] ∧ Rd H a (.dK kvs) ∧ ∀ p, H p = none → Q (.ref p) (upd H p (L2.DX.itemsO p a))
theorem mt_itemsK : MtR X "dict.items" rItemsK := by
  intro pins s σ H x xs v us Q I rx rxs h
  obtain ⟨a, kvs, rfl, rfl, ha, q⟩ := h
  cases rx
  cases rxs
  obtain ⟨z, hd, vs, kv, dd⟩ := dk_rd I.hok ha
  obtain ⟨es, ep, ⟨o, ho, hx, hdat⟩, hsz, hent⟩ := dd.raw
  refine DT.callItems (es := es) (ep := ep) hd ⟨o, ho, hx, hdat⟩ ?_
  have hf : H s.heap.objs.size = none := I.hok.fresh (Nat.le_refl _)
  exact ⟨.ref s.heap.objs.size, upd H s.heap.objs.size (L2.DX.itemsO s.heap.objs.size a), I.laid (t' := s.toks) (fun b u e => Heap.get?_push_of_some _ e) (Nat.le_refl _) (L2.DX.itemsO_ok (Heap.get?_push_size _ rfl)), rfl, q _ hf⟩
/-- sorted(d.items()): the pairs by their keys -/
abbrev entK (e : Str × Addr) : L2.Key × V := (Sum.inr e.1, V.ref e.2)
def rSortItK : List V → Hp → VK → Prop := fun vs H Q => ∃ (p a : Addr) (ks : List (Str × Addr)), vs = [.ref p] ∧ H p = some (L2.DX.itemsO p a) ∧ Rd H a (.dK (ks.map entK)) ∧ ks.length < 64 ∧ (ks.map (·.1)).Nodup ∧
  ∀ (H' : Hp) (l : Addr) (ps : List (Addr × Str × Addr)), Keeps [] H H' → (ps.map (·.2)).Perm ks → (ps.map (·.2)).Pairwise (fun e f => slt f.1 e.1 = false) → H' l = some (.lst (ps.map fun z => V.ref z.1)) →
    (∀ z ∈ ps, H' z.1 = some (.tup [.str z.2.1, .ref z.2.2])) → Q (.ref l) H'
theorem cr_sortedItK (hc : X.calm = true) (hu : X.A.units + 64 < cLine) : CallR X (.builtin "sorted") rSortItK := by
  intro pins s σ H xs us Q I r h
  obtain ⟨p, a, ks, rfl, hp, ha, h64, hnd, q⟩ := h
  obtain rfl := Vals.ref1 r
  have view : s.heap.IsItemsView p a := (show ObjOk X.prog X.w H s.heap p (L2.DX.itemsO p a) from I.hok p _ hp).1
  obtain ⟨z, hd, vs, kv, dd⟩ := dk_rd I.hok ha
  obtain ⟨es, ep, ⟨o, ho, hx, hdat⟩, hsz, hent⟩ := dd.raw
  have l1 : (ks.map entK).length = vs.length := Paired.length kv
  rw [List.length_map] at l1
  have hh : X.A.handled = none := I.ok.hd hc
  refine DT.sortedI (es := es) (ep := ep) hh view ⟨o, ho, hx, hdat⟩ (by rw [sizeLine_eq]; omega) fun h' tk as hk hlt hl hG => ?_
  have lak : as.length = ks.length := by omega
  have nd : as.Nodup := List.Pairwise.imp (fun h => Nat.ne_of_lt h) hG.rise
  -- the pairs that were made
  have pr : ∀ (j : Nat) (b : Addr), as[j]? = some b → ∃ (e : Str × Addr) (t : Tok), ks[j]? = some e ∧ h'.get? b = some { cls := .type "tuple", data := .seq #[Value.str e.1 t, Value.ref e.2] } := by
    intro j b hj
    obtain ⟨en, he, hg⟩ := hG.pairs j b hj
    have hjl : j < ks.length := by rw [← lak]; exact (List.getElem?_eq_some_iff.mp hj).1
    have hks : ks[j]? = some ks[j] := List.getElem?_eq_getElem hjl
    have hkv : (ks.map entK)[j]? = some (entK ks[j]) := by rw [List.getElem?_map, hks]; rfl
    obtain ⟨u, hu1, ru⟩ := kv_get kv hkv
    obtain ⟨hi, ee⟩ := Array.getElem?_eq_some_iff.mp he
    obtain ⟨k1, k2⟩ := hent j hi _ _ hu1
    have rk := relV_key (show keyIs (Sum.inr ks[j].1) es[j].key = true from k1)
    obtain ⟨t, et⟩ := rk
    refine ⟨ks[j], t, hks, ?_⟩
    rw [hg, ← ee, et, k2]
    have er : u = Value.ref ks[j].2 := ru
    rw [er]
  -- the heap of the sort
  have hob : (h'.push { cls := .type "list", data := .seq (as.map Value.ref).toArray }).get? h'.objs.size = some (seqObj "list" (as.map Value.ref).toArray 0) := Heap.get?_push_size _ rfl
  have kb : ∀ b o, s.heap.get? b = some o → (h'.push { cls := .type "list", data := .seq (as.map Value.ref).toArray }).get? b = some o := fun b o e => Heap.get?_push_of_some _ (hk b o e)
  have ne0 : ∀ b o, h'.get? b = some o → b ≠ h'.objs.size := fun b o e => Nat.ne_of_lt (Heap.lt_size e)
  generalize hh2 : h'.push { cls := .type "list", data := .seq (as.map Value.ref).toArray } = h2 at hob kb ⊢
  have ka : ∀ b o, h'.get? b = some o → h2.get? b = some o := fun b o e => by rw [← hh2]; exact Heap.get?_push_of_some _ e
  let nm : Addr → Str := fun b => match as.findIdx? (· == b) with
    | some j => (ks[j]?.map (·.1)).getD ⟨#[]⟩
    | none => ⟨#[]⟩
  have nmj : ∀ (j : Nat) (b : Addr) (e : Str × Addr), as[j]? = some b → ks[j]? = some e → nm b = e.1 := by
    intro j b e hj he
    have hi : as.findIdx? (· == b) = some j := by
      rw [List.findIdx?_eq_some_iff_getElem]
      obtain ⟨h1, h2⟩ := List.getElem?_eq_some_iff.mp hj
      refine ⟨h1, by rw [h2]; exact beq_self_eq_true b, fun i hij => ?_⟩
      intro hb
      have e1 := eq_of_beq hb
      have := (List.getElem_inj (h₀ := by omega) (h₁ := h1) nd).mp (e1.trans h2.symm)
      omega
    show (match as.findIdx? (· == b) with | some j => (ks[j]?.map (·.1)).getD ⟨#[]⟩ | none => ⟨#[]⟩) = e.1
    rw [hi]
    show (ks[j]?.map (·.1)).getD ⟨#[]⟩ = e.1
    rw [he]
    rfl
  have at_ : ∀ v ∈ as.map Value.ref, ∃ (j : Nat) (b : Addr) (e : Str × Addr) (t : Tok), v = .ref b ∧ as[j]? = some b ∧ ks[j]? = some e ∧ h'.get? b = some { cls := .type "tuple", data := .seq #[Value.str e.1 t, Value.ref e.2] } := by
    intro v hv'
    obtain ⟨b, hb, rfl⟩ := List.mem_map.mp hv'
    obtain ⟨j, hj⟩ := List.mem_iff_getElem?.mp hb
    obtain ⟨e, t, he, hg⟩ := pr j b hj
    exact ⟨j, b, e, t, rfl, hj, he, hg⟩
  have memk : ∀ {j : Nat} {e : Str × Addr}, ks[j]? = some e → e.1 ∈ ks.map (·.1) := fun {j e} h => List.mem_map.mpr ⟨e, List.mem_of_getElem? h, rfl⟩
  refine wpAny_call_entry PyProof.Rows.slot_list_sort ⟨_, hob, rfl⟩ PyProof.Rows.entry_list_sort
    (sort_first (s := { s with heap := h2, toks := tk }) hob (by rw [List.length_map]; omega) (by show X.A.units + 1 + 1 < cLine; omega) (fun v => .inr (nm (adV v))) (fun v => srk (ks.map (·.1)) (nm (adV v))) ?_ ?_ ?_ ?_ fun out o1 o2 => ⟨.none, rfl, ?_⟩) (PyProof.Rows.args_list_sort _)
  · intro v hv
    obtain ⟨j, b, e, t, rfl, hj, he, hg⟩ := at_ v hv
    exact ⟨b, _, _, 0, _, rfl, ka _ _ hg, rfl, rfl, rfl, t, by rw [show adV (.ref b) = b from rfl, nmj j b e hj he]; rfl⟩
  · intro v _ u _
    trivial
  · intro v hv u hu e
    obtain ⟨j, b, e1, t, rfl, hj, he, hg⟩ := at_ v hv
    obtain ⟨j2, b2, e2, t2, rfl, hj2, he2, hg2⟩ := at_ u hu
    injection e with e
    rw [show adV (.ref b) = b from rfl, show adV (.ref b2) = b2 from rfl, nmj j b e1 hj he, nmj j2 b2 e2 hj2 he2] at e
    have h1 : (ks.map (·.1))[j]? = some e1.1 := by rw [List.getElem?_map, he]; rfl
    have h2 : (ks.map (·.1))[j2]? = some e1.1 := by rw [List.getElem?_map, he2, e]; rfl
    have ej : j = j2 := (List.getElem?_inj (List.getElem?_eq_some_iff.mp h1).1 hnd).mp (h1.trans h2.symm)
    subst ej
    rw [hj] at hj2
    cases hj2
    rfl
  · intro v hv u hu
    obtain ⟨j, b, e1, t, rfl, hj, he, hg⟩ := at_ v hv
    obtain ⟨j2, b2, e2, t2, rfl, hj2, he2, hg2⟩ := at_ u hu
    show decide (srk (ks.map (·.1)) (nm b) < srk (ks.map (·.1)) (nm b2)) = slt (nm b) (nm b2)
    rw [nmj j b e1 hj he, nmj j2 b2 e2 hj2 he2]
    exact srk_iff (memk he) (memk he2)
  · show EP X pins σ Q (.ref h'.objs.size) { s with heap := sortedHeap h2 h'.objs.size (as.map Value.ref) out, toks := tk }
    have h3 : ∀ u ∈ out.toList, ∃ b ∈ as, u = Value.ref b := fun u hu => by
      obtain ⟨b, hb, e⟩ := List.mem_map.mp (o1.mem_iff.mp hu)
      exact ⟨b, hb, e.symm⟩
    have e3 : out.toList = (out.toList.map adV).map Value.ref := by
      rw [List.map_map]
      conv => lhs; rw [← List.map_id out.toList]
      refine List.map_congr_left fun u hu => ?_
      obtain ⟨b, _, rfl⟩ := h3 u hu
      rfl
    have hpA : (out.toList.map adV).Perm as := by
      have := o1.map adV
      rw [List.map_map] at this
      have e4 : as.map (adV ∘ Value.ref) = as := by
        conv => rhs; rw [← List.map_id as]
        rfl
      rw [e4] at this
      exact this
    have zip1 : (as.zip ks).map (·.1) = as := List.map_fst_zip (by rw [lak]; exact Nat.le_refl _)
    have zip2 : (as.zip ks).map (·.2) = ks := List.map_snd_zip (by rw [lak]; exact Nat.le_refl _)
    obtain ⟨zs, pz, ez⟩ := perm_lift (fun z : Addr × Str × Addr => z.1) hpA (as.zip ks) zip1
    have idx : ∀ z ∈ zs, ∃ j : Nat, as[j]? = some z.1 ∧ ks[j]? = some z.2 := by
      intro z' hz'
      obtain ⟨j, hj⟩ := List.mem_iff_getElem?.mp (pz.mem_iff.mp hz')
      exact ⟨j, List.getElem?_zip_eq_some.mp hj⟩
    have hout : out.toList = zs.map fun z => Value.ref z.1 := by
      rw [e3, ← ez, List.map_map]
      rfl
    have hperm : (zs.map (·.2)).Perm ks := by
      have e := pz.map (·.2)
      rw [zip2] at e
      exact e
    have hsort : (zs.map (·.2)).Pairwise (fun e f => slt f.1 e.1 = false) := by
      rw [hout, List.pairwise_map] at o2
      rw [List.pairwise_map]
      refine List.Pairwise.imp_of_mem (fun {x y} hx hy h => ?_) o2
      obtain ⟨j, j1, j2⟩ := idx x hx
      obtain ⟨i, i1, i2⟩ := idx y hy
      have h' : srk (ks.map (·.1)) (nm x.1) ≤ srk (ks.map (·.1)) (nm y.1) := h
      rw [nmj j _ _ j1 j2, nmj i _ _ i1 i2] at h'
      rw [← srk_iff (memk i2) (memk j2)]
      exact decide_eq_false (by omega)
    -- behind the sort
    have kF : ∀ b o, b ≠ h'.objs.size → h2.get? b = some o → (sortedHeap h2 h'.objs.size (as.map Value.ref) out).get? b = some o := fun b o hb e => (PyProof.Rows.sortedHeap_old hb (Heap.lt_size e)).trans e
    have kS : ∀ b o, s.heap.get? b = some o → (sortedHeap h2 h'.objs.size (as.map Value.ref) out).get? b = some o := fun b o e => kF b o (ne0 _ _ (hk b o e)) (kb b o e)
    obtain ⟨eF, heF⟩ := PyProof.Rows.sortedHeap_at (vs := as.map Value.ref) (out := out) hob
    have I1 : L2.Inv X pins σ H { s with heap := sortedHeap h2 h'.objs.size (as.map Value.ref) out, toks := tk } := I.kept (t' := tk) kS
    have hn0 : H h'.objs.size = none := I.hok.fresh (Nat.le_of_lt hlt)
    have hlen : (zs.map fun z => V.ref z.1).length ≤ sizeLine := by
      have e := hperm.length_eq
      rw [List.length_map] at e
      rw [List.length_map, sizeLine_eq]
      omega
    have rv : Vals (zs.map fun z => V.ref z.1) out.toList := by
      rw [hout]
      have := vals_refs (zs.map (·.1))
      rw [List.map_map, List.map_map] at this
      exact this
    have I2 : L2.Inv X pins σ (upd H h'.objs.size (.lst (zs.map fun z => V.ref z.1))) { s with heap := sortedHeap h2 h'.objs.size (as.map Value.ref) out, toks := tk } :=
      I1.take (h' := sortedHeap h2 h'.objs.size (as.map Value.ref) out) (t' := tk) (fun b ob _ e => e) (I.fpOk (Nat.le_of_lt hlt) hn0) ⟨hlen, out.toList, eF, rv, heF⟩
    obtain ⟨H2, I3, g, qt⟩ := L2.DX.takeT (P := fun b vs => ∃ (j : Nat) (e : Str × Addr), as[j]? = some b ∧ ks[j]? = some e ∧ vs = [.str e.1, .ref e.2]) I as _ I2 nd fun b hb => by
      obtain ⟨j, hj⟩ := List.mem_iff_getElem?.mp hb
      obtain ⟨e, t, he, hg⟩ := pr j b hj
      have hbl : s.heap.objs.size ≤ b := Nat.le_of_lt (hG.above b hb)
      refine ⟨hbl, ?_, [.str e.1, .ref e.2], ⟨j, e, hj, he, rfl⟩, fun H3 => ⟨(by rw [sizeLine_eq]; show 2 ≤ 16777216; omega), [Value.str e.1 t, Value.ref e.2], .cons ⟨t, rfl⟩ (.cons rfl .nil), ⟨_, kF _ _ (ne0 _ _ hg) (ka _ _ hg), rfl, 0, rfl⟩⟩⟩
      rw [upd_ne (ne0 _ _ hg)]
      exact I.hok.fresh hbl
    have gr : Keeps [] H H2 := fun b o e _ => g b o (by rw [upd_ne (ne_of_none e hn0)]; exact e)
    refine ⟨.ref h'.objs.size, H2, I3, rfl, q H2 h'.objs.size zs gr hperm hsort (g _ _ upd_same) fun z' hz' => ?_⟩
    obtain ⟨i, i1, i2⟩ := idx z' hz'
    obtain ⟨vs, ⟨j, e, j1, j2, ev⟩, hH⟩ := qt z'.1 (List.mem_of_getElem? i1)
    have eij : i = j := (List.getElem?_inj (List.getElem?_eq_some_iff.mp i1).1 nd).mp (i1.trans j1.symm)
    subst eij
    have ee : e = z'.2 := Option.some.inj (j2.symm.trans i2)
    rw [ev, ee] at hH
    exact hH
end
end Kr
/-! sets of texts: set(xs), sorted(set(xs)) -/
namespace Kr
open PySem PySem.Spec PyProof.Rows L2
def keyS (e : Int × Value) : Str := match e.2 with | .str k _ => k | _ => ⟨#[]⟩
def GoodS (w : World) (e : Int × Value) : Prop := ∃ k tk, e.2 = Value.str k tk ∧ e.1 = hashStr w k
/-- the set of texts at a: S its members, n their number; its table rises and can be walked -/
def SetRS (w : World) (h : Heap) (a : Addr) (S : Str → Bool) (n : Nat) : Prop :=
  ∃ o es ep t, h.get? a = some o ∧ o.ExactSet ∧ o.data = .set es ep t ∧ (∀ e ∈ es.toList, GoodS w e) ∧ (es.toList.map keyS).Nodup ∧ (∀ k, S k = true ↔ k ∈ es.toList.map keyS) ∧
    es.size < scanBound ∧ t.fits es.size = true ∧ es.size = n ∧ Ris t.place.toList ∧ (w.params.followText "set-order" = true ∨ t.led = true)
section
variable {P : Program} {w : World} {h h' : Heap} {a : Addr} {S : Str → Bool} {n : Nat}
theorem SetRS.at (R : SetRS w h a S n) (k : ∀ o, h.get? a = some o → h'.get? a = some o) : SetRS w h' a S n := by
  obtain ⟨o, es, ep, t, ho, r⟩ := R
  exact ⟨o, es, ep, t, k o ho, r⟩
theorem SetRS.lt (R : SetRS w h a S n) : a < h.objs.size := by
  obtain ⟨o, es, ep, t, ho, r⟩ := R
  exact Heap.lt_size ho
theorem SetRS.congr {S' : Str → Bool} (R : SetRS w h a S n) (e : ∀ k, S' k = S k) : SetRS w h a S' n := by
  have q : S' = S := funext e
  rw [q]; exact R
theorem goodS_elems {l : List (Int × Value)} (g : ∀ e ∈ l, GoodS w e) : ElemsOf (PySem.strKind P w) l := fun e he => by
  obtain ⟨k, tk, h1, h2⟩ := g e he
  exact ⟨⟨k, by rw [h1]; exact strKind_is P w k tk, h2⟩, by rw [h1] <;> rfl⟩
theorem goodS_is {e : Int × Value} (g : GoodS w e) (k : Str) : (PySem.strKind P w).is k e.2 = true ↔ keyS e = k := by
  obtain ⟨k0, tk, h1, _⟩ := g
  unfold keyS
  rw [h1]
  show ((Value.isStrOf k (.str k0 tk)) = true) ↔ k0 = k
  exact beq_iff_eq
theorem goodS_mem {l : List (Int × Value)} (g : ∀ e ∈ l, GoodS w e) (k : Str) : k ∈ l.map keyS ↔ ∃ e ∈ l, (PySem.strKind P w).is k e.2 = true := by
  rw [List.mem_map]
  constructor
  · rintro ⟨e, he, q⟩
    exact ⟨e, he, (goodS_is (g e he) k).2 q⟩
  · rintro ⟨e, he, q⟩
    exact ⟨e, he, (goodS_is (g e he) k).1 q⟩
theorem SetRS.setOf (R : SetRS w h a S n) : h.SetOf (PySem.strKind P w) a S n := by
  obtain ⟨o, es, ep, t, ho, hx, hd, g, nd, hm, hb, hf, hn, _⟩ := R
  exact ⟨o, es, ep, t, ho, hx, hd, goodS_elems g, fun k => (hm k).trans (goodS_mem g k), hb, hf, hn⟩
end
section
variable {P : Program} {w : World} {A : Around} {E : Value → Shared → Prop} {s : Shared} {a : Addr} {S : Str → Bool} {n : Nat}
/-! ### add -/
theorem storeS_at {h : Heap} {a : Addr} {o : Obj} {es es' : Array (Int × Value)} {ep : Nat} {t t' : SetTable} (ho : h.get? a = some o) (hd : o.data = .set es ep t) :
    (h.update a (Obj.putSet es' t')).get? a = some { o with data := .set es' (ep + 1) t' } := by
  have q := Heap.get?_update_self (Obj.putSet es' t') ho (by rw [putSet_of es' t' hd]; rfl)
  rw [putSet_of es' t' hd] at q
  exact q
theorem setRS_add_tail {g : Bool → Sem Unit} (hg : ∀ (b : Bool) (s₁ : Shared) (Q' : Unit → Shared → Prop), Q' () s₁ → wpAny (model P w) A (g b) Q' E s₁)
    {o : Obj} {es : Array (Int × Value)} {ep : Nat} {t : SetTable} (ho : s.heap.get? a = some o) (hex : o.ExactSet) (hd : o.data = .set es ep t)
    {es1 : Array (Int × Value)} {t2 : SetTable} {S' : Str → Bool} (g1 : ∀ e ∈ es1.toList, GoodS w e) (nd1 : (es1.toList.map keyS).Nodup) (m1 : ∀ k, S' k = true ↔ k ∈ es1.toList.map keyS)
    (hb1 : es1.size < scanBound) (hf2 : t2.fits es1.size = true) (hr : Ris t2.place.toList) (hl : w.params.followText "set-order" = true ∨ t2.led = true) {wasDummy : Bool} {R : Option Bool → Shared → Prop}
    (hR : ∀ h', Heap.SameBut a s.heap h' → SetRS w h' a S' es1.size → R (some true) { s with heap := h' }) :
    wpAny (model P w) A (do
        storeSet a es1 t2
        if (!wasDummy && t2.tooFull) = true then do
            g (relayAll t2 es1 (SetTable.grown es1.size)).2.2
            storeSet a (relayAll t2 es1 (SetTable.grown es1.size)).1 (relayAll t2 es1 (SetTable.grown es1.size)).2.1
            pure (some true)
          else pure (some true)) R E s := by
  refine wpAny_bind (wpAny_storeSet_of ho hd ?_ (fits_of_scanBound hb1))
  have ho1 := storeS_at (es' := es1) (t' := t2) ho hd
  have sb1 := Heap.SameBut.update s.heap a (Obj.putSet es1 t2)
  split
  · have pm := relayAll_perm t2 es1 (SetTable.grown es1.size)
    have hf3 := relayAll_fits t2 es1 (SetTable.grown es1.size)
    have hr3 := relayAll_ris t2 es1 (SetTable.grown es1.size)
    have hl3 := relayAll_led t2 es1 (SetTable.grown es1.size)
    generalize relayAll t2 es1 (SetTable.grown es1.size) = Z at pm hf3 hr3 hl3 ⊢
    obtain ⟨es2, t3, gave⟩ := Z
    dsimp only at pm hf3 hr3 hl3 ⊢
    have hsz : es2.size = es1.size := by rw [← Array.length_toList, pm.length_eq, Array.length_toList]
    have hb2 : es2.size < scanBound := by rw [hsz]; exact hb1
    refine wpAny_bind (hg _ _ _ ?_)
    refine wpAny_bind (wpAny_storeSet_of ho1 rfl ?_ (fits_of_scanBound hb2))
    have ho2 := storeS_at (es' := es2) (t' := t3) ho1 rfl
    refine wpAny_pure (hR _ (sb1.trans (Heap.SameBut.update _ a _)) ?_)
    exact ⟨_, es2, _, t3, ho2, hex, rfl, fun e he => g1 e (pm.mem_iff.mp he), (pm.map keyS).nodup_iff.mpr nd1, fun k => (m1 k).trans (pm.map keyS).mem_iff.symm, hb2, hf3, hsz, hr3,
      hl.imp id fun z => by rw [hl3]; exact z⟩
  · exact wpAny_pure (hR _ sb1 ⟨_, es1, _, t2, ho1, hex, rfl, g1, nd1, m1, hb1, hf2, rfl, hr, hl⟩)
theorem setRS_add_hashed {k : Str} {tk : Tok} {Q : Bool → Shared → Prop} (R : SetRS w s.heap a S n) (room : n + 1 < scanBound)
    (hQ : ∀ h', Heap.SameBut a s.heap h' → SetRS w h' a (fun j => S j || decide (j = k)) (if S k = true then n else n + 1) → Q (!S k) { s with heap := h' }) :
    wpAny (model P w) A (setAddHashed a (.str k tk) ((PySem.strKind P w).hash k)) Q E s := by
  obtain ⟨o, es, ep, t, ho, hex, hd, g, nd, hm, hb, hf, hn, hr, hl⟩ := R
  have hkey : (PySem.strKind P w).is k (.str k tk) = true := strKind_is P w k tk
  have hsc : (Value.str k tk).scannable = true := rfl
  have hel : ElemsOf (PySem.strKind P w) es.toList := goodS_elems g
  unfold setAddHashed setAddHashedIn
  refine wpAny_holding (wpAny_bind (wpAny_setState_of ho hd hf ?_))
  dsimp only
  rw [byScan_of hsc hb hel]
  simp only [↓reduceIte]
  unfold setAddByScan
  refine wpAny_bind ?_
  refine wpAny_bind (wpAny_rule ?_)
  refine wpAny_bind (wpAny_setScan_of hkey ho hd hf hel ?_)
  cases hfi : List.findIdx? (fun e => (PySem.strKind P w).is k e.2) es.toList with
  | some j =>
    dsimp only
    obtain ⟨hj, pj, _⟩ := List.findIdx?_eq_some_iff_getElem.mp hfi
    have hSk : S k = true := (hm k).2 ((goodS_mem (P := P) (w := w) g k).2 ⟨es.toList[j], List.getElem_mem hj, pj⟩)
    refine wpAny_pure (wpAny_pure ?_)
    have q := hQ s.heap (Heap.SameBut.refl a s.heap) ⟨o, es, ep, t, ho, hex, hd, g, nd, fun i => by
      rw [Bool.or_eq_true, decide_eq_true_eq, ← hm i]
      exact ⟨fun z => z.elim id (fun e => e ▸ hSk), .inl⟩, hb, hf, by rw [if_pos hSk]; exact hn, hr, hl⟩
    rw [hSk] at q
    exact q
  | none =>
    dsimp only
    have hnk : k ∉ es.toList.map keyS := fun z => by
      obtain ⟨e, he, q⟩ := (goodS_mem (P := P) (w := w) g k).1 z
      have c := List.findIdx?_eq_none_iff.mp hfi e he
      rw [q] at c
      cases c
    have hSk : S k = false := by
      cases q : S k with
      | false => rfl
      | true => exact absurd ((hm k).1 q) hnk
    have hgw : ∀ (b : Bool) {s₁ : Shared} {Q' : Unit → Shared → Prop}, Q' () s₁ → wpAny (model P w) A (match b with | true => rule "set.scan.the-table-gave-way" | false => pure ()) Q' E s₁ :=
      fun b s₁ Q' q => by cases b <;> first | exact wpAny_pure q | exact wpAny_rule q
    have pm := layNew_perm t es ((PySem.strKind P w).hash k) (.str k tk)
    have hf1 := layNew_fits t es ((PySem.strKind P w).hash k) (.str k tk)
    have hr1 := layNew_ris t es ((PySem.strKind P w).hash k) (.str k tk) hr
    have hl1 := layNew_led t es ((PySem.strKind P w).hash k) (.str k tk)
    generalize layNew t es ((PySem.strKind P w).hash k) (.str k tk) = Z at pm hf1 hr1 hl1 ⊢
    obtain ⟨es1, t1, wasDummy, gave⟩ := Z
    dsimp only at pm hf1 hr1 hl1 ⊢
    rw [Array.toList_push] at pm
    have pc : es1.toList.Perm (((PySem.strKind P w).hash k, Value.str k tk) :: es.toList) := pm.trans (List.perm_append_singleton _ _)
    have pk : (es1.toList.map keyS).Perm (k :: es.toList.map keyS) := pc.map keyS
    have g1 : ∀ e ∈ es1.toList, GoodS w e := fun e he => by
      rcases List.mem_cons.mp (pc.mem_iff.mp he) with z | z
      · rw [z]; exact ⟨k, tk, rfl, rfl⟩
      · exact g e z
    have nd1 : (es1.toList.map keyS).Nodup := pk.nodup_iff.mpr (List.nodup_cons.mpr ⟨hnk, nd⟩)
    have m1 : ∀ i, (S i || decide (i = k)) = true ↔ i ∈ es1.toList.map keyS := fun i => by
      rw [Bool.or_eq_true, decide_eq_true_eq, hm i, pk.mem_iff, List.mem_cons]
      exact Or.comm
    have hsz : es1.size = n + 1 := by rw [← Array.length_toList, pc.length_eq, List.length_cons, Array.length_toList, hn]
    have hb1 : es1.size < scanBound := by rw [hsz]; exact room
    have hled : w.params.followText "set-order" = true ∨ t1.led = true := hl.imp id fun z => by rw [hl1]; exact z
    have fin : ∀ h', Heap.SameBut a s.heap h' → SetRS w h' a (fun j => S j || decide (j = k)) es1.size → Q true { s with heap := h' } := fun h' sb r => by
      have q := hQ h' sb
      rw [hSk] at q
      rw [hsz] at r
      exact q r
    refine wpAny_bind (hgw _ ?_)
    split
    · refine wpAny_bind ?_
      rw [hashByValue_scannable 8 hsc]
      refine wpAny_pure ?_
      refine setRS_add_tail ?_ ho hex hd g1 nd1 m1 hb1 ?_ ?_ ?_ ?_
      · intro b s₁ Q' q; cases b <;> first | exact wpAny_pure q | exact wpAny_rule q
      · first | (split <;> first | exact hf1 | exact SetTable.fits_plain_off hf1) | exact hf1
      · first | (split <;> exact hr1) | exact hr1
      · first | (split <;> exact hled) | exact hled
      · intro h' sb r; dsimp only; exact wpAny_pure (fin h' sb r)
    · refine wpAny_bind (wpAny_pure ?_)
      simp only [↓reduceIte]
      refine setRS_add_tail ?_ ho hex hd g1 nd1 m1 hb1 hf1 hr1 hled ?_
      · intro b s₁ Q' q; cases b <;> first | exact wpAny_pure q | exact wpAny_rule q
      · intro h' sb r; dsimp only; exact wpAny_pure (fin h' sb r)
end
theorem setRS_new_at {w : World} {h : Heap} {a : Addr} {ns : List Str} (ho : h.get? a = some { cls := .type "set", dict := none, data := .set #[] 0 (.fresh 0 0 (!w.params.followText "set-order")) }) : SetRS w h a (fun j => decide (j ∈ ns.take 0)) 0 :=
  ⟨_, #[], 0, _, ho, ⟨rfl, rfl, rfl⟩, rfl, (fun e he => by simp at he), (by simp), (fun k => by simp), (by decide), (by rfl), rfl, List.Pairwise.nil, by
    show _ ∨ (!w.params.followText "set-order") = true
    cases w.params.followText "set-order"
    · exact .inr rfl
    · exact .inl rfl⟩
section
variable {P : Program} {w : World} {A : Around} {E : Value → Shared → Prop} {s : Shared}
theorem set_update_strs {I : Addr} {fp wr : List Addr} {G : Array GenState → Array GenState → Prop} {n : Nat} {Pv : Nat → Value → Prop} {St : Nat → Shared → Prop} {R : Result → Shared → Prop}
    (W : WalksS P w A.in1 I fp wr G n Pv St) (S : Addr) (hSf : S ∉ fp) (ns : List Str) (hn : n = ns.length) (hb : ns.length + 1 < scanBound) (hval : ∀ i v, Pv i v → ∃ k t, ns[i]? = some k ∧ v = .str k t) :
    ∀ (k i : Nat) (s : Shared), n - i = k → i ≤ n → St i s → (∃ c, c ≤ i ∧ SetRS w s.heap S (fun j => decide (j ∈ ns.take i)) c) →
      (∀ s' c, Moved (S :: wr) G s s' → c ≤ n → SetRS w s'.heap S (fun j => decide (j ∈ ns)) c → R (.ok (.ret .none)) s') →
      codeAny (model P w) A (.builtin "set.update.loop" ⟨[.ref S, .ref I], []⟩) R s := by
  have hSw : S ∉ wr := fun h => hSf (W.sub _ h)
  have hsub : ∀ b ∈ wr, b ∈ S :: wr := fun b hb => List.mem_cons_of_mem _ hb
  intro k
  induction k with
  | zero =>
    intro i s hk' hi hst ⟨c, hc, hS⟩ hR
    have hin : i = n := by omega
    subst hin
    refine codeAny_builtin F.entry_set_update_loop ?_
    rw [Around.under_plainId F.plain_set_update_loop _]
    show wpAny _ A.in1 (pyNext (.ref I) >>= _) _ _ s
    refine wpAny_bind (W.done s _ _ hst fun s' hm => ?_)
    show wpAny _ A.in1 (ret Value.none) _ _ s'
    have e : ns.take i = ns := List.take_of_length_le (by omega)
    rw [e] at hS
    exact wpAny_pure (hR s' c (hm.mono hsub) hc (hS.at fun o e => hm.heap S o hSw e))
  | succ k ih =>
    intro i s hk' hi hst ⟨c, hc, hS⟩ hR
    have hlt : i < n := by omega
    refine codeAny_builtin F.entry_set_update_loop ?_
    rw [Around.under_plainId F.plain_set_update_loop _]
    show wpAny _ A.in1 (pyNext (.ref I) >>= _) _ _ s
    refine wpAny_bind (W.item i s _ _ hlt hst fun v s' hP hst' hm => ?_)
    obtain ⟨z, t, hz, rfl⟩ := hval i v hP
    have hS' : SetRS w s'.heap S (fun j => decide (j ∈ ns.take i)) c := hS.at fun o e => hm.heap S o hSw e
    show wpAny _ A.in1 (holding [Value.str z t] (setAdd S (.str z t)) >>= _) _ _ s'
    refine wpAny_bind (wpAny_holding ?_)
    unfold setAdd
    refine wpAny_holding ?_
    refine wpAny_bind ((PySem.strKind P w).pyHash (k := z) (strKind_is _ _ _ _) ?_)
    refine setRS_add_hashed (s := { s' with toks := s'.toks + 1 }) hS' (by omega) fun h' hsb hS2 => ?_
    have hS3 : SetRS w h' S (fun j => decide (j ∈ ns.take (i + 1))) (if decide (z ∈ ns.take i) = true then c else c + 1) := hS2.congr fun j => by
      rw [List.take_add_one, hz]
      simp [List.mem_append]
    have hc3 : (if decide (z ∈ ns.take i) = true then c else c + 1) ≤ i + 1 := by
      split <;> omega
    refine wpAny_pure ⟨plainId_quiet F.plain_set_update_loop _, ih (i + 1) _ (by omega) hlt (W.frame _ s' _ _ hst' (Nat.le_succ _) fun b hb o e => ?_) ⟨_, hc3, hS3⟩ fun s'' c2 hm'' hc'' hS'' => ?_⟩
    · rw [hsb.2 b (fun h : b = S => hSf (by rw [← h]; exact hb))]; exact e
    · refine hR s'' c2 (Moved.trans W.gtrans ((hm.mono hsub).then_heap (Nat.le_succ _) fun b o hb e => ?_) hm'') hc'' hS''
      rw [hsb.2 b (fun h : b = S => hb (by rw [h]; exact List.mem_cons_self))]; exact e
set_option maxRecDepth 100000 in
set_option maxHeartbeats 3200000 in
theorem call_set_lstS {l : Addr} {items : Array Value} (ns : List Str) {Q : Value → Shared → Prop} (hh : A.handled = none) (hl : s.heap.IsList l items) (hit : StrsAre items.toList ns) (hb : ns.length + 1 < scanBound)
    (h : ∀ (h' : Heap) (tk c : Nat), SetRS w h' s.heap.objs.size (fun j => decide (j ∈ ns)) c → c ≤ ns.length → (∀ b o, s.heap.get? b = some o → h'.get? b = some o) → Q (.ref s.heap.objs.size) { s with heap := h', toks := tk }) :
    wpAny (model P w) A (call (.type "set") [.ref l]) Q E s := by
  have hisz : items.size = ns.length := by
    have q := StrsAre.len_eq hit
    rw [Array.length_toList] at q
    exact q
  obtain ⟨c, tl, hmro⟩ := F.called_set.mro
  have hmade := F.called_set.made
  have hsub := F.called_set.sub
  refine wpAny_call (codeAny_of_tree ?_)
  show wpAny _ _ (callAny (.type "set") _) _ _ _
  refine wpAny_pure ⟨Code.quiet_builtin _ (by decide +kernel), codeAny_builtin F.entry_type_call ?_⟩
  rw [Around.under_plain (weight_type_call_type "set" [.ref l] []) rfl]
  have h1 := F.called_set.notType
  have h2 := F.called_set.canCreate
  have hct := F.typeCall_set_1 (.ref l)
  repeat (any_goals (first | assumption | wp_step))
  refine codeAny_mono (code_set_led1 (.ref l) (E := E) (Q₁ := fun obj s₁ => obj = .ref s.heap.objs.size ∧ s₁ = { s with heap := s.heap.push { cls := .type "set", dict := none, data := .set #[] 0 (.fresh 0 0 (!w.params.followText "set-order")) } }) ⟨rfl, rfl⟩) fun r s₁ hr => ?_
  cases r with
  | error e => exact hr
  | ok fl =>
    cases fl with
    | ret obj =>
      obtain ⟨rfl, rfl⟩ := hr
      have hS : (s.heap.push { cls := .type "set", dict := none, data := .set #[] 0 (.fresh 0 0 (!w.params.followText "set-order")) }).get? s.heap.objs.size = some { cls := .type "set", dict := none, data := .set #[] 0 (.fresh 0 0 (!w.params.followText "set-order")) } := Heap.get?_push_size _ rfl
      have hT : Shared.TypeIs { s with heap := s.heap.push { cls := .type "set", dict := none, data := .set #[] 0 (.fresh 0 0 (!w.params.followText "set-order")) } } (.ref s.heap.objs.size) "set" := ⟨_, hS, rfl⟩
      have hli := F.called_set.init.lookup
      have hbi := F.called_set.init.bind (.ref s.heap.objs.size)
      repeat (any_goals (first | assumption | wp_step))
      refine codeAny_mono (codeAny_call_builtin (R := wants (fun r s₂ => r = .none ∧ ∃ h' tk c, s₂ = { s with heap := h', toks := tk } ∧ SetRS w h' s.heap.objs.size (fun j => decide (j ∈ ns)) c ∧ c ≤ ns.length ∧
          (∀ b o, s.heap.get? b = some o → h'.get? b = some o)) E) F.called_set.init.plain F.entry_set_init (check_set_init_1 hT ?_)) fun r₂ s₂ hr₂ => ?_
      · obtain ⟨ol, hol, hcl, nl, hdl⟩ := hl
        obtain ⟨ocls, odict, odata, oslots⟩ := ol
        simp only at hcl hdl
        subst hcl; subst hdl
        have hol' : (s.heap.push { cls := .type "set", dict := none, data := .set #[] 0 (.fresh 0 0 (!w.params.followText "set-order")) }).get? l = some { cls := .type "list", dict := odict, data := .seq items nl, slots := oslots } := Heap.get?_push_of_some _ hol
        have hsls := F.sub_list_set
        have hslf := F.sub_list_frozenset
        have hne : (Value.type "list" == Value.type "dict") = false := by decide
        have hl1 : (s.heap.push { cls := .type "set", dict := none, data := .set #[] 0 (.fresh 0 0 (!w.params.followText "set-order")) }).IsList l items := ⟨_, hol', rfl, nl, rfl⟩
        unfold Builtin.«set.__init__» noKeywords Builtin.Frozenset.updateFrom
        generalize hPI : pyIter = PI
        wp_walk
        subst hPI
        refine wpAny_pyIter_list hl1 ?_
        refine wpAny_bind (wpAny_runValue ?_)
        have hlS : l < s.heap.objs.size := Heap.lt_size hol
        have hh3 : A.in1.in1.in1.handled = none := by simp [hh]
        have hz1 : (s.heap.push { cls := .type "set", dict := none, data := .set #[] 0 (.fresh 0 0 (!w.params.followText "set-order")) }).objs.size = s.heap.objs.size + 1 := Heap.size_push ..
        have hneI : l ≠ (s.heap.push { cls := .type "set", dict := none, data := .set #[] 0 (.fresh 0 0 (!w.params.followText "set-order")) }).objs.size := by
          rw [Heap.size_push]; exact Nat.ne_of_lt (Nat.lt_succ_of_lt hlS)
        have hSf : s.heap.objs.size ∉ [(s.heap.push { cls := .type "set", dict := none, data := .set #[] 0 (.fresh 0 0 (!w.params.followText "set-order")) }).objs.size, l] := by
          rw [Heap.size_push]; simp only [List.mem_cons, List.mem_singleton, List.not_mem_nil, or_false, not_or]
          exact ⟨Nat.ne_of_lt (Nat.lt_succ_self _), Nat.ne_of_gt hlS⟩
        have hval : ∀ (i : Nat) (v : Value), items[i]? = some v → ∃ k t, ns[i]? = some k ∧ v = .str k t := fun i v hv => by
          have hi : i < ns.length := by rw [← hisz]; exact (Array.getElem?_eq_some_iff.mp hv).1
          obtain ⟨t, e⟩ := SS.strs_at hit i v (by rw [Array.getElem?_toList]; exact hv)
          refine ⟨ns[i], t, List.getElem?_eq_getElem hi, ?_⟩
          rw [e, List.getD_eq_getElem?_getD, List.getElem?_eq_getElem hi] <;> rfl
        refine set_update_strs ((Walks.list hh3 _ l hneI items).toS) s.heap.objs.size
          hSf ns hisz hb hval (items.size - 0) 0 _ (by omega) (Nat.zero_le _)
          ⟨⟨_, Heap.get?_push_size _ rfl, rfl, rfl⟩, (hl1.push _)⟩ ?hS0 ?hR
        case hS0 =>
          have hget : ((s.heap.push { cls := .type "set", dict := none, data := .set #[] 0 (.fresh 0 0 (!w.params.followText "set-order")) }).push { cls := .type "list_iterator", data := .fields #[.ref l, .int 0 0] }).get? s.heap.objs.size
              = some { cls := .type "set", dict := none, data := .set #[] 0 (.fresh 0 0 (!w.params.followText "set-order")) } := Heap.get?_push_of_some _ hS
          exact ⟨0, Nat.le_refl 0, setRS_new_at hget⟩
        case hR =>
          intro s' c' hm hc' hS'
          obtain ⟨h', g2, d', tk', os'⟩ := s'
          have eg : g2 = s.gens := hm.gens
          have ed : d' = s.drawn := hm.drawn
          have eo : os' = s.os := hm.os
          subst eg; subst ed; subst eo
          show wpAny _ _ _ _ _ _
          refine wpAny_pure ?_
          show wpAny _ _ (ret Value.none) _ _ _
          rw [hisz] at hc'
          refine wpAny_pure ⟨rfl, h', tk', c', rfl, hS', hc', fun b o e => ?_⟩
          have hb0 : b < s.heap.objs.size := Heap.lt_size e
          have hb1 : b ≠ s.heap.objs.size := Nat.ne_of_lt hb0
          have hb2 : b ≠ (s.heap.push { cls := .type "set", dict := none, data := .set #[] 0 (.fresh 0 0 (!w.params.followText "set-order")) }).objs.size := by
            rw [Heap.size_push]; exact Nat.ne_of_lt (Nat.lt_succ_of_lt hb0)
          exact hm.heap b o (by simp only [List.mem_cons, List.mem_singleton, List.not_mem_nil, or_false, not_or]; exact ⟨hb1, hb2⟩) (Heap.get?_push_of_some _ (Heap.get?_push_of_some _ e))
      · cases r₂ with
        | error e => exact hr₂
        | ok fl₂ =>
          cases fl₂ with
          | ret r =>
            obtain ⟨rfl, h', tk, c', rfl, hS', hc', hk'⟩ := hr₂
            repeat (any_goals (first | assumption | wp_step))
            exact h _ _ _ hS' hc' hk'
          | _ => exact hr₂.elim
    | _ => exact hr.elim
end
section
variable {P : Program} {w : World} {A : Around} {E : Value → Shared → Prop} {s : Shared} {a : Addr}
theorem strs_of : ∀ (l : List Value), (∀ v ∈ l, ∃ k tk, v = Value.str k tk) → StrsAre l (l.map strOf)
  | [], _ => .nil
  | v :: l, h => by
    obtain ⟨k, tk, rfl⟩ := h v List.mem_cons_self
    exact .cons k tk (strs_of l fun u hu => h u (List.mem_cons_of_mem _ hu))
theorem sorted_setS {S : Str → Bool} {n : Nat} {Q : Value → Shared → Prop} (R : SetRS w s.heap a S n) (hh : A.handled = none) (h64 : n < 64)
    (hQ : ∀ s' p (out : Array Value) (c : Nat) (ns : List Str), (∀ b o, s.heap.get? b = some o → s'.heap.get? b = some o) → s'.gens = s.gens → s'.os = s.os → s.heap.objs.size ≤ p →
      s'.heap.get? p = some (seqObj "list" out c) → StrsAre out.toList ns → sortedS ns = true → ns.Nodup → (∀ k, k ∈ ns ↔ S k = true) → ns.length = n → Q (.ref p) s') :
    wpAny (model P w) A (call (.builtin "sorted") [.ref a]) Q E s := by
  obtain ⟨o, es, ep, t, ho, hex, hd, g, nd, hm, hb, hf, hn, hr, hl⟩ := R
  refine Calls.call_function_entry kind_sorted plain_sorted entry_sorted (args_sorted1 _) ?_
  unfold Builtin.«sorted»
  refine wpAny_bind (m := checkCount "sorted" 1 1 _) (wpAny_pure ?_)
  refine wpAny_bind (collect_set (A := A.in1) hh ⟨o, ho, hex.1, hd⟩ hf hb hr hl fun s1 vs k1 hz g1 o1 pm => ?_)
  have hvl : vs.length = n := by rw [pm.length_eq, List.length_map, Array.length_toList]; exact hn
  have hI : StrsAre vs (vs.map strOf) := strs_of vs fun v hv => by
    obtain ⟨e, he, q⟩ := List.mem_map.mp (pm.mem_iff.mp hv)
    obtain ⟨k, tk, h1, _⟩ := g e he
    exact ⟨k, tk, by rw [← q]; exact h1⟩
  have pk : (vs.map strOf).Perm (es.toList.map keyS) := by
    have q := pm.map strOf
    rw [List.map_map] at q
    refine q.trans (List.Perm.of_eq (List.map_congr_left fun e he => ?_))
    obtain ⟨k, tk, h1, _⟩ := g e he
    show strOf e.2 = keyS e
    unfold keyS
    rw [h1]
    rfl
  refine wpAny_bind (wpAny_newList ?_ (by rw [hvl, sizeLine_eq]; omega))
  have hoL : (s1.heap.push (seqObj "list" vs.toArray 0)).get? s1.heap.objs.size = some (seqObj "list" vs.toArray 0) := Heap.get?_push_size _ rfl
  refine wpAny_bind (wpAny_holding (wpAny_call_entry slot_list_sort ⟨_, hoL, rfl⟩ entry_list_sort (list_sort_treeK strKind_oneLt (s := { s1 with heap := s1.heap.push (seqObj "list" vs.toArray 0) }) hoL hI.keysOf (fun v₁ v₂ rest e => keyKind_strs (by rw [← e]; exact hI)) (by rw [hvl]; exact h64) fun st' hp hs => ⟨_, rfl, ?_⟩) (args_list_sort _)))
  obtain ⟨ys, a1, a2, a3⟩ := sorted_out_str hI hp hs
  obtain ⟨c, hc⟩ := sortedHeap_at (vs := vs) (out := (arrOf st').map (·.2)) hoL
  have pn : ys.Perm (es.toList.map keyS) := a2.trans pk
  refine wpAny_pure ⟨_, rfl, hQ _ s1.heap.objs.size ((arrOf st').map (·.2)) c ys (fun b u e => ?_) g1 o1 hz hc a1 a3 (pn.nodup_iff.mpr nd) (fun k => by rw [pn.mem_iff, ← hm k]) ?_⟩
  · have q := k1 b u e
    have hlt := Heap.lt_size q
    show (sortedHeap (s1.heap.push (seqObj "list" vs.toArray 0)) s1.heap.objs.size vs _).get? b = some u
    rw [sortedHeap_old (Nat.ne_of_lt hlt) (by rw [size_push']; exact Nat.lt_succ_of_lt hlt)]
    exact Heap.get?_push_of_some _ q
  · rw [pn.length_eq, List.length_map, Array.length_toList]; exact hn
end
/-- rising, no text twice -/
def Ris1 (l : List Str) : Prop := l.Pairwise (fun x y => slt x y = true)
theorem risingS_pw : ∀ (l : List Str) (p : Str), risingS p l = true → (p :: l).Pairwise (fun a b => slt b a = false)
  | [], p, _ => List.pairwise_singleton _ _
  | x :: r, p, h => by
    have h' : (!ltCps x.cps.toList p.cps.toList && risingS x r) = true := h
    rw [Bool.and_eq_true] at h'
    obtain ⟨h1, h2⟩ := h'
    have ih := risingS_pw r x h2
    have e1 : slt x p = false := by
      rw [ltCps_eq] at h1
      unfold slt
      simpa using h1
    refine List.pairwise_cons.mpr ⟨fun y hy => ?_, ih⟩
    rcases List.mem_cons.mp hy with e | hy
    · rw [e]; exact e1
    · have e2 := (List.pairwise_cons.mp ih).1 y hy
      cases e3 : slt y p with
      | false => rfl
      | true =>
        rcases slt_tri p x with c | c | c
        · rw [slt_trans e3 c] at e2; cases e2
        · rw [c] at e3; rw [e3] at e2; cases e2
        · rw [c] at e1; cases e1
theorem sortedS_pw : ∀ (l : List Str), sortedS l = true → l.Pairwise (fun a b => slt b a = false)
  | [], _ => List.Pairwise.nil
  | x :: r, h => risingS_pw r x h
theorem ris1_of {l : List Str} (h : sortedS l = true) (d : l.Nodup) : Ris1 l := by
  have h1 := sortedS_pw l h
  have h2 := h1.and d
  refine List.Pairwise.imp (fun {x y} q => ?_) h2
  rcases slt_tri x y with c | c | c
  · exact c
  · exact absurd c q.2
  · rw [c] at q; exact absurd q.1 (by simp)
section
variable {X : Cx}
theorem strsAre_vals : ∀ {ys : List Str} {us : List Value}, Vals (ys.map V.str) us → StrsAre us ys
  | [], _, .nil => .nil
  | y :: ys, _, .cons r t => by
    obtain ⟨k, rfl⟩ := r
    exact .cons y k (strsAre_vals t)
def tSortedSet (K : PySem.W.Frag) (t : TE) : TE := fun σ H Q => t σ H fun x H1 => ∃ l, ∃ xs : List Str, x = .ref l ∧ SqL K H1 l (xs.map V.str) ∧ xs.length ≤ 1000 ∧ (∃ D : List Str, D.length < 64 ∧ ∀ z ∈ xs, z ∈ D) ∧
  ∀ (H2 : Hp) (p : Addr) (ys : List Str), Keeps [] H1 H2 → H1 p = none → Ris1 ys → (∀ z, z ∈ ys ↔ z ∈ xs) → H2 p = some (.lst (ys.map V.str)) → Q (.ref p) H2
theorem nodup_len : ∀ (l D : List Str), l.Nodup → (∀ x ∈ l, x ∈ D) → l.length ≤ D.length
  | [], _, _, _ => Nat.zero_le _
  | x :: l, D, hn, hs => by
    obtain ⟨h1, h2⟩ := List.nodup_cons.mp hn
    have hx : x ∈ D := hs x List.mem_cons_self
    have ih := nodup_len l (D.erase x) h2 fun y hy => by
      have hne : y ≠ x := fun e => h1 (e ▸ hy)
      exact (List.mem_erase_of_ne hne).2 (hs y (List.mem_cons_of_mem _ hy))
    have e := List.length_erase_of_mem hx
    have hp : 0 < D.length := List.length_pos_of_mem hx
    rw [List.length_cons]
    omega
theorem SetRS.few {w : World} {h : Heap} {a : Addr} {S : Str → Bool} {n : Nat} (R : SetRS w h a S n) {D : List Str} (hD : ∀ z, S z = true → z ∈ D) : n ≤ D.length := by
  obtain ⟨o, es, ep, t, ho, hex, hd, g, nd, hm, hb, hf, hn, hr, hl⟩ := R
  have q := nodup_len _ D nd fun x hx => hD x ((hm x).2 hx)
  rw [List.length_map, Array.length_toList, hn] at q
  exact q
theorem pe_sortedSet {a : Expr} {ta : TE} {p p2 q pos : Pos} (hg : Gl X "sorted") (hm : X.mg "sorted" = none) (hg2 : Gl X "set") (hm2 : X.mg "set" = none) (hc : X.calm = true) (hu : X.A.units + 64 < cLine) (ha : PE X a ta)
    (na : starEach [a] X.env = (false, eval a X.env) :: starEach [] X.env := by rfl) : PE X (.Call (.Name "sorted" p) [.Call (.Name "set" p2) [a] [] q] [] pos) (tSortedSet X.K ta) := by
  refine ⟨fun pins s σ H Q I h => ?_⟩
  refine Call_ (ld_blt I hg hm bt_sorted ?_)
  refine PyProof.Rows.callWith_builtin1 (PyProof.Rows.args_cons ?_ rfl) rfl rfl
  refine Call_ (ld_blt I hg2 hm2 bt_set ?_)
  refine PyProof.Rows.callWith_type1 (PyProof.Rows.args_cons (thn (ha.run pins s σ H _ I h) fun v s1 ⟨x, H1, I1, r1, q1⟩ => PyProof.Rows.args_nil ?_) na) na rfl
  obtain ⟨l, xs, rfl, hq, h1, ⟨D, hD, hmD⟩, q1⟩ := q1
  cases r1
  obtain ⟨its, r, pl, hz⟩ := I1.list hq
  have hh : X.A.handled = none := I1.ok.hd hc
  refine call_set_lstS xs hh pl.isList (by simpa using strsAre_vals r) (by unfold scanBound; omega) fun h' tk c hS hcl hk => ?_
  refine PyProof.Rows.args_nil ?_
  have few := hS.few (D := D) fun z hz => hmD z (of_decide_eq_true hz)
  refine sorted_setS (s := { s1 with heap := h', toks := tk }) hS hh (by omega) fun s' p out c2 ns k g o hp hg3 hi hs hnd hmem hl2 => ?_
  have hp1 : s1.heap.objs.size ≤ p := Nat.le_trans (Nat.le_of_lt hS.lt) hp
  have hn : H1 p = none := I1.hok.fresh hp1
  have kk : ∀ b u, s1.heap.get? b = some u → s'.heap.get? b = some u := fun b u e => k b u (hk b u e)
  have hlen : (ns.map V.str).length ≤ sizeLine := by rw [List.length_map, sizeLine_eq]; omega
  have J : L2.Inv X pins σ (upd H1 p (.lst (ns.map V.str))) { s1 with heap := s'.heap, gens := s'.gens, drawn := s'.drawn, toks := s'.toks } :=
    I1.call (ch := []) (Un.laid kk hp1 hn) (I1.hok.laid kk hp1 ⟨hlen, out.toList, c2, vals_of_strs hi, hg3⟩) (by rw [g]; exact I1.bare) (fun _ z => nomatch z)
  have e : s' = { s1 with heap := s'.heap, gens := s'.gens, drawn := s'.drawn, toks := s'.toks } := by
    cases s'
    cases s1
    cases o
    rfl
  rw [e]
  exact ⟨.ref p, _, J, rfl, q1 _ p ns ((Keeps.refl [] _).new hn) hn (ris1_of hs hnd) (fun z => by rw [hmem z]; exact decide_eq_true_iff) upd_same⟩
end
end Kr
/-! rules whose readings name the frame's own maps: K said openly, for comprehensions -/
namespace Kr
open PySem PySem.Spec PyProof.Rows L2
section
variable {X : Cx} {pos : Pos}
theorem pg_tupK {K : PySem.W.Frag} {es : List Expr} {k : Nat} {t : TGs} {n : Nat} (hK : X.K = K) (hc : X.calm = true) (h : PGs X es t)
    (hn : (assignEach es X.env).length = n := by rfl) (hst : (assignEach es X.env).findIdx? (·.1) = none := by rfl) : PG X (.Tuple es k pos) (gTup K n t) := by
  subst hK
  exact pg_tup hc h hn hst
section
variable {K : PySem.W.Frag}
theorem op_in_seqK (hK : X.K = K) : OpR X (compareOp .In) (rIn K false) := by subst hK; exact op_in_seq
theorem op_notIn_seqK (hK : X.K = K) : OpR X (compareOp .NotIn) (rIn K true) := by subst hK; exact op_notIn_seq
theorem ix_listK (hK : X.K = K) : IxR X (rIxL K) := by subst hK; exact ix_list
theorem ix_tupK (hK : X.K = K) : IxR X (rIxT K) := by subst hK; exact ix_tup
theorem sl_listK (hK : X.K = K) : SlR X (rSlL K) := by subst hK; exact sl_list
theorem sl_tupK (hK : X.K = K) : SlR X (rSlT K) := by subst hK; exact sl_tup
theorem call_len_seqK (hK : X.K = K) : CallR X (.builtin "len") fun xs H Q => ∃ p ys, xs = [V.ref p] ∧ (SqL K H p ys ∨ SqT K H p ys) ∧ Q (.int (ys.length : Nat)) H := by subst hK; exact call_len_seq
theorem call_list_ofK (hK : X.K = K) : CallR X (.type "list") fun xs H Q => ∃ p ys, xs = [V.ref p] ∧ (SqL K H p ys ∨ SqT K H p ys) ∧ ∀ l : Addr, H l = none → Q (.ref l) (upd H l (.lst ys)) := by subst hK; exact call_list_of
theorem cr_anyK (hK : X.K = K) (hc : X.calm = true) : CallR X (.builtin "any") (rAny K) := by subst hK; exact cr_any hc
theorem cr_allK (hK : X.K = K) (hc : X.calm = true) : CallR X (.builtin "all") (rAll K) := by subst hK; exact cr_all hc
theorem pi_listK {tg l : Expr} {tl : TE} (hK : X.K = K) (h : PE X l tl) : PI X tg l (iList K tl) := by subst hK; exact pi_list h
theorem pi_tupK {tg l : Expr} {tl : TE} (hK : X.K = K) (h : PE X l tl) : PI X tg l (iTup K tl) := by subst hK; exact pi_tup h
theorem pe_fldK {e : Expr} {f : Str} {ta : TE} (hK : X.K = K) (h : PE X e ta) (hb : attributeBase e f X.env (eval e X.env) = eval e X.env) : PE X (.Attribute e f pos) (tFld K ta f) := by subst hK; exact pe_fld h hb
theorem op_catTK (hK : X.K = K) : OpR X (binaryOp .Add) (rCatT K) := by subst hK; exact op_catT
theorem sl_tupAK (hK : X.K = K) : SlR X (rSlA K) := by subst hK; exact sl_tupA
end
end
end Kr
/-! sorted(d.items()), text keys; the list is new -/
namespace Kr
open PySem PySem.Spec PyProof.Rows L2
section
variable {X : Cx}
def rSortItN : List V → Hp → VK → Prop := fun vs H Q => ∃ (p a : Addr) (ks : List (Str × Addr)), vs = [.ref p] ∧ H p = some (L2.DX.itemsO p a) ∧ Rd H a (.dK (ks.map entK)) ∧ ks.length < 64 ∧ (ks.map (·.1)).Nodup ∧
  ∀ (H' : Hp) (l : Addr) (ps : List (Addr × Str × Addr)), Keeps [] H H' → H l = none → (ps.map (·.2)).Perm ks → (ps.map (·.2)).Pairwise (fun e f => slt f.1 e.1 = false) → H' l = some (.lst (ps.map fun z => V.ref z.1)) →
    (∀ z ∈ ps, H' z.1 = some (.tup [.str z.2.1, .ref z.2.2])) → Q (.ref l) H'
theorem cr_sortedItN (hc : X.calm = true) (hu : X.A.units + 64 < cLine) : CallR X (.builtin "sorted") rSortItN := by
  intro pins s σ H xs us Q I r h
  obtain ⟨p, a, ks, rfl, hp, ha, h64, hnd, q⟩ := h
  obtain rfl := Vals.ref1 r
  have view : s.heap.IsItemsView p a := (show ObjOk X.prog X.w H s.heap p (L2.DX.itemsO p a) from I.hok p _ hp).1
  obtain ⟨z, hd, vs, kv, dd⟩ := dk_rd I.hok ha
  obtain ⟨es, ep, ⟨o, ho, hx, hdat⟩, hsz, hent⟩ := dd.raw
  have l1 : (ks.map entK).length = vs.length := Paired.length kv
  rw [List.length_map] at l1
  have hh : X.A.handled = none := I.ok.hd hc
  refine DT.sortedI (es := es) (ep := ep) hh view ⟨o, ho, hx, hdat⟩ (by rw [sizeLine_eq]; omega) fun h' tk as hk hlt hl hG => ?_
  have lak : as.length = ks.length := by omega
  have nd : as.Nodup := List.Pairwise.imp (fun h => Nat.ne_of_lt h) hG.rise
  -- the pairs that were made
  have pr : ∀ (j : Nat) (b : Addr), as[j]? = some b → ∃ (e : Str × Addr) (t : Tok), ks[j]? = some e ∧ h'.get? b = some { cls := .type "tuple", data := .seq #[Value.str e.1 t, Value.ref e.2] } := by
    intro j b hj
    obtain ⟨en, he, hg⟩ := hG.pairs j b hj
    have hjl : j < ks.length := by rw [← lak]; exact (List.getElem?_eq_some_iff.mp hj).1
    have hks : ks[j]? = some ks[j] := List.getElem?_eq_getElem hjl
    have hkv : (ks.map entK)[j]? = some (entK ks[j]) := by rw [List.getElem?_map, hks]; rfl
    obtain ⟨u, hu1, ru⟩ := kv_get kv hkv
    obtain ⟨hi, ee⟩ := Array.getElem?_eq_some_iff.mp he
    obtain ⟨k1, k2⟩ := hent j hi _ _ hu1
    have rk := relV_key (show keyIs (Sum.inr ks[j].1) es[j].key = true from k1)
    obtain ⟨t, et⟩ := rk
    refine ⟨ks[j], t, hks, ?_⟩
    rw [hg, ← ee, et, k2]
    have er : u = Value.ref ks[j].2 := ru
    rw [er]
  -- the heap of the sort
  have hob : (h'.push { cls := .type "list", data := .seq (as.map Value.ref).toArray }).get? h'.objs.size = some (seqObj "list" (as.map Value.ref).toArray 0) := Heap.get?_push_size _ rfl
  have kb : ∀ b o, s.heap.get? b = some o → (h'.push { cls := .type "list", data := .seq (as.map Value.ref).toArray }).get? b = some o := fun b o e => Heap.get?_push_of_some _ (hk b o e)
  have ne0 : ∀ b o, h'.get? b = some o → b ≠ h'.objs.size := fun b o e => Nat.ne_of_lt (Heap.lt_size e)
  generalize hh2 : h'.push { cls := .type "list", data := .seq (as.map Value.ref).toArray } = h2 at hob kb ⊢
  have ka : ∀ b o, h'.get? b = some o → h2.get? b = some o := fun b o e => by rw [← hh2]; exact Heap.get?_push_of_some _ e
  let nm : Addr → Str := fun b => match as.findIdx? (· == b) with
    | some j => (ks[j]?.map (·.1)).getD ⟨#[]⟩
    | none => ⟨#[]⟩
  have nmj : ∀ (j : Nat) (b : Addr) (e : Str × Addr), as[j]? = some b → ks[j]? = some e → nm b = e.1 := by
    intro j b e hj he
    have hi : as.findIdx? (· == b) = some j := by
      rw [List.findIdx?_eq_some_iff_getElem]
      obtain ⟨h1, h2⟩ := List.getElem?_eq_some_iff.mp hj
      refine ⟨h1, by rw [h2]; exact beq_self_eq_true b, fun i hij => ?_⟩
      intro hb
      have e1 := eq_of_beq hb
      have := (List.getElem_inj (h₀ := by omega) (h₁ := h1) nd).mp (e1.trans h2.symm)
      omega
    show (match as.findIdx? (· == b) with | some j => (ks[j]?.map (·.1)).getD ⟨#[]⟩ | none => ⟨#[]⟩) = e.1
    rw [hi]
    show (ks[j]?.map (·.1)).getD ⟨#[]⟩ = e.1
    rw [he]
    rfl
  have at_ : ∀ v ∈ as.map Value.ref, ∃ (j : Nat) (b : Addr) (e : Str × Addr) (t : Tok), v = .ref b ∧ as[j]? = some b ∧ ks[j]? = some e ∧ h'.get? b = some { cls := .type "tuple", data := .seq #[Value.str e.1 t, Value.ref e.2] } := by
    intro v hv'
    obtain ⟨b, hb, rfl⟩ := List.mem_map.mp hv'
    obtain ⟨j, hj⟩ := List.mem_iff_getElem?.mp hb
    obtain ⟨e, t, he, hg⟩ := pr j b hj
    exact ⟨j, b, e, t, rfl, hj, he, hg⟩
  have memk : ∀ {j : Nat} {e : Str × Addr}, ks[j]? = some e → e.1 ∈ ks.map (·.1) := fun {j e} h => List.mem_map.mpr ⟨e, List.mem_of_getElem? h, rfl⟩
  refine wpAny_call_entry PyProof.Rows.slot_list_sort ⟨_, hob, rfl⟩ PyProof.Rows.entry_list_sort
    (sort_first (s := { s with heap := h2, toks := tk }) hob (by rw [List.length_map]; omega) (by show X.A.units + 1 + 1 < cLine; omega) (fun v => .inr (nm (adV v))) (fun v => srk (ks.map (·.1)) (nm (adV v))) ?_ ?_ ?_ ?_ fun out o1 o2 => ⟨.none, rfl, ?_⟩) (PyProof.Rows.args_list_sort _)
  · intro v hv
    obtain ⟨j, b, e, t, rfl, hj, he, hg⟩ := at_ v hv
    exact ⟨b, _, _, 0, _, rfl, ka _ _ hg, rfl, rfl, rfl, t, by rw [show adV (.ref b) = b from rfl, nmj j b e hj he]; rfl⟩
  · intro v _ u _
    trivial
  · intro v hv u hu e
    obtain ⟨j, b, e1, t, rfl, hj, he, hg⟩ := at_ v hv
    obtain ⟨j2, b2, e2, t2, rfl, hj2, he2, hg2⟩ := at_ u hu
    injection e with e
    rw [show adV (.ref b) = b from rfl, show adV (.ref b2) = b2 from rfl, nmj j b e1 hj he, nmj j2 b2 e2 hj2 he2] at e
    have h1 : (ks.map (·.1))[j]? = some e1.1 := by rw [List.getElem?_map, he]; rfl
    have h2 : (ks.map (·.1))[j2]? = some e1.1 := by rw [List.getElem?_map, he2, e]; rfl
    have ej : j = j2 := (List.getElem?_inj (List.getElem?_eq_some_iff.mp h1).1 hnd).mp (h1.trans h2.symm)
    subst ej
    rw [hj] at hj2
    cases hj2
    rfl
  · intro v hv u hu
    obtain ⟨j, b, e1, t, rfl, hj, he, hg⟩ := at_ v hv
    obtain ⟨j2, b2, e2, t2, rfl, hj2, he2, hg2⟩ := at_ u hu
    show decide (srk (ks.map (·.1)) (nm b) < srk (ks.map (·.1)) (nm b2)) = slt (nm b) (nm b2)
    rw [nmj j b e1 hj he, nmj j2 b2 e2 hj2 he2]
    exact srk_iff (memk he) (memk he2)
  · show EP X pins σ Q (.ref h'.objs.size) { s with heap := sortedHeap h2 h'.objs.size (as.map Value.ref) out, toks := tk }
    have h3 : ∀ u ∈ out.toList, ∃ b ∈ as, u = Value.ref b := fun u hu => by
      obtain ⟨b, hb, e⟩ := List.mem_map.mp (o1.mem_iff.mp hu)
      exact ⟨b, hb, e.symm⟩
    have e3 : out.toList = (out.toList.map adV).map Value.ref := by
      rw [List.map_map]
      conv => lhs; rw [← List.map_id out.toList]
      refine List.map_congr_left fun u hu => ?_
      obtain ⟨b, _, rfl⟩ := h3 u hu
      rfl
    have hpA : (out.toList.map adV).Perm as := by
      have := o1.map adV
      rw [List.map_map] at this
      have e4 : as.map (adV ∘ Value.ref) = as := by
        conv => rhs; rw [← List.map_id as]
        rfl
      rw [e4] at this
      exact this
    have zip1 : (as.zip ks).map (·.1) = as := List.map_fst_zip (by rw [lak]; exact Nat.le_refl _)
    have zip2 : (as.zip ks).map (·.2) = ks := List.map_snd_zip (by rw [lak]; exact Nat.le_refl _)
    obtain ⟨zs, pz, ez⟩ := perm_lift (fun z : Addr × Str × Addr => z.1) hpA (as.zip ks) zip1
    have idx : ∀ z ∈ zs, ∃ j : Nat, as[j]? = some z.1 ∧ ks[j]? = some z.2 := by
      intro z' hz'
      obtain ⟨j, hj⟩ := List.mem_iff_getElem?.mp (pz.mem_iff.mp hz')
      exact ⟨j, List.getElem?_zip_eq_some.mp hj⟩
    have hout : out.toList = zs.map fun z => Value.ref z.1 := by
      rw [e3, ← ez, List.map_map]
      rfl
    have hperm : (zs.map (·.2)).Perm ks := by
      have e := pz.map (·.2)
      rw [zip2] at e
      exact e
    have hsort : (zs.map (·.2)).Pairwise (fun e f => slt f.1 e.1 = false) := by
      rw [hout, List.pairwise_map] at o2
      rw [List.pairwise_map]
      refine List.Pairwise.imp_of_mem (fun {x y} hx hy h => ?_) o2
      obtain ⟨j, j1, j2⟩ := idx x hx
      obtain ⟨i, i1, i2⟩ := idx y hy
      have h' : srk (ks.map (·.1)) (nm x.1) ≤ srk (ks.map (·.1)) (nm y.1) := h
      rw [nmj j _ _ j1 j2, nmj i _ _ i1 i2] at h'
      rw [← srk_iff (memk i2) (memk j2)]
      exact decide_eq_false (by omega)
    -- behind the sort
    have kF : ∀ b o, b ≠ h'.objs.size → h2.get? b = some o → (sortedHeap h2 h'.objs.size (as.map Value.ref) out).get? b = some o := fun b o hb e => (PyProof.Rows.sortedHeap_old hb (Heap.lt_size e)).trans e
    have kS : ∀ b o, s.heap.get? b = some o → (sortedHeap h2 h'.objs.size (as.map Value.ref) out).get? b = some o := fun b o e => kF b o (ne0 _ _ (hk b o e)) (kb b o e)
    obtain ⟨eF, heF⟩ := PyProof.Rows.sortedHeap_at (vs := as.map Value.ref) (out := out) hob
    have I1 : L2.Inv X pins σ H { s with heap := sortedHeap h2 h'.objs.size (as.map Value.ref) out, toks := tk } := I.kept (t' := tk) kS
    have hn0 : H h'.objs.size = none := I.hok.fresh (Nat.le_of_lt hlt)
    have hlen : (zs.map fun z => V.ref z.1).length ≤ sizeLine := by
      have e := hperm.length_eq
      rw [List.length_map] at e
      rw [List.length_map, sizeLine_eq]
      omega
    have rv : Vals (zs.map fun z => V.ref z.1) out.toList := by
      rw [hout]
      have := vals_refs (zs.map (·.1))
      rw [List.map_map, List.map_map] at this
      exact this
    have I2 : L2.Inv X pins σ (upd H h'.objs.size (.lst (zs.map fun z => V.ref z.1))) { s with heap := sortedHeap h2 h'.objs.size (as.map Value.ref) out, toks := tk } :=
      I1.take (h' := sortedHeap h2 h'.objs.size (as.map Value.ref) out) (t' := tk) (fun b ob _ e => e) (I.fpOk (Nat.le_of_lt hlt) hn0) ⟨hlen, out.toList, eF, rv, heF⟩
    obtain ⟨H2, I3, g, qt⟩ := L2.DX.takeT (P := fun b vs => ∃ (j : Nat) (e : Str × Addr), as[j]? = some b ∧ ks[j]? = some e ∧ vs = [.str e.1, .ref e.2]) I as _ I2 nd fun b hb => by
      obtain ⟨j, hj⟩ := List.mem_iff_getElem?.mp hb
      obtain ⟨e, t, he, hg⟩ := pr j b hj
      have hbl : s.heap.objs.size ≤ b := Nat.le_of_lt (hG.above b hb)
      refine ⟨hbl, ?_, [.str e.1, .ref e.2], ⟨j, e, hj, he, rfl⟩, fun H3 => ⟨(by rw [sizeLine_eq]; show 2 ≤ 16777216; omega), [Value.str e.1 t, Value.ref e.2], .cons ⟨t, rfl⟩ (.cons rfl .nil), ⟨_, kF _ _ (ne0 _ _ hg) (ka _ _ hg), rfl, 0, rfl⟩⟩⟩
      rw [upd_ne (ne0 _ _ hg)]
      exact I.hok.fresh hbl
    have gr : Keeps [] H H2 := fun b o e _ => g b o (by rw [upd_ne (ne_of_none e hn0)]; exact e)
    refine ⟨.ref h'.objs.size, H2, I3, rfl, q H2 h'.objs.size zs gr hn0 hperm hsort (g _ _ upd_same) fun z' hz' => ?_⟩
    obtain ⟨i, i1, i2⟩ := idx z' hz'
    obtain ⟨vs, ⟨j, e, j1, j2, ev⟩, hH⟩ := qt z'.1 (List.mem_of_getElem? i1)
    have eij : i = j := (List.getElem?_inj (List.getElem?_eq_some_iff.mp i1).1 nd).mp (i1.trans j1.symm)
    subst eij
    have ee : e = z'.2 := Option.some.inj (j2.symm.trans i2)
    rw [ev, ee] at hH
    exact hH
end
end Kr
/-! the data in the heap, walks over them -/
namespace Kr
open PySem PySem.Spec PyProof.Rows L2
/-! ### walks -/
theorem sq_kp {K : PySem.W.Frag} {S : List Addr} {H H' : Hp} {a : Addr} {xs : List V} (h : SqL K H a xs) (k : Keeps S H H') (n : a ∉ S) : SqL K H' a xs := by
  rcases h with (h | ⟨o, h⟩) | h
  · exact .inl (.inl (k _ _ h n))
  · exact .inl (.inr ⟨o, k _ _ h n⟩)
  · exact .inr h
theorem sqt_im {K : PySem.W.Frag} {H H' : Hp} {a : Addr} {xs : List V} (h : SqT K H a xs) (k : Imm H H') : SqT K H' a xs := by
  rcases h with (h | ⟨o, h⟩) | h
  · exact .inl (.inl (k _ _ h rfl))
  · exact .inl (.inr ⟨o, k _ _ h rfl⟩)
  · exact .inr h
theorem sqt_of {K : PySem.W.Frag} {H : Hp} {a : Addr} {xs : List V} (h : H a = some (.tup xs)) : SqT K H a xs := .inl (.inl h)
theorem sq_fr {K : PySem.W.Frag} {H : Hp} {a : Addr} {xs : List V} {o : Obj} (h : H a = some (.frz o (.lst xs))) : SqL K H a xs := .inl (.inr ⟨o, h⟩)
theorem rd_kp {S : List Addr} {H H' : Hp} {a : Addr} {u : HO} (h : Rd H a u) (k : Keeps S H H') (n : a ∉ S) : Rd H' a u := by
  rcases h with h | ⟨o, h⟩
  · exact .inl (k _ _ h n)
  · exact .inr ⟨o, k _ _ h n⟩
section
variable {J : It} {n : Nat} {G : Hp → Prop} {Y : Nat → Hp → V → Hp → Prop} {g : TG} {tt : TT} {te : TE} {vs : List Nat} {σ : L2.St} {H1 : Hp} {D : Addr} {Qd : Hp → Prop}
theorem take_snoc {α : Type} {l : List α} {i : Nat} {x : α} (h : l[i]? = some x) : l.take (i + 1) = l.take i ++ [x] := by
  rw [List.take_add_one, h]
  rfl
/-- a comprehension, with a test; each element is in Rl to what was walked -/
theorem lc_rel {β α : Type} (ys : List β) (p : β → Bool) (inj : α → V) (Rl : β → α → Hp → Prop) (w : Walk J n G Y) (hn : n = ys.length) (h5 : ys.length ≤ 100000) (hD : H1 D = none)
    (hG : ∀ H', Keeps [] H1 H' → Imm H1 H' → G H') (stab : ∀ b a H H', Imm H H' → Rl b a H → Rl b a H')
    (hs : ∀ i y x H H', ys[i]? = some y → Keeps [] H1 H → Imm H1 H → Y i H x H' → ∀ (R : V → Hp → Prop) (N : Hp → Prop),
      (p y = true → ∀ a H4, Keeps [] H H4 → Imm H H4 → Rl y a H4 → R (inj a) H4) → (p y = false → ∀ H3, Keeps [] H H3 → Imm H H3 → N H3) →
      g x (wipe σ vs) H' fun σ2 H2 => wipe σ2 vs = wipe σ vs ∧ tt σ2 H2 fun b H3 => if b = true then te σ2 H3 R else N H3)
    (hd : ∀ (zs : List (β × α)) H, Keeps [] H1 H → Imm H1 H → zs.map (·.1) = ys.filter p → (∀ z ∈ zs, Rl z.1 z.2 H) → H D = some (.lst (zs.map fun z => inj z.2)) → Qd H) : LcW J g tt te vs σ H1 D Qd := by
  refine lc_acc w [] (by omega) hD (by simp) (fun i acc H => ∃ zs : List (β × α), zs.map (·.1) = (ys.take i).filter p ∧ acc = zs.map (fun z => inj z.2) ∧ ∀ z ∈ zs, Rl z.1 z.2 H) ?_ ⟨[], by simp, rfl, by simp⟩ hG ?_ ?_
  · rintro i acc H H' m _ ⟨zs, h1, h2, h3⟩
    exact ⟨zs, h1, h2, fun z hz => stab _ _ _ _ m (h3 z hz)⟩
  · rintro i x acc H H' hi k m hl ⟨zs, h1, h2, h3⟩ y R N hR hN
    have hy : ys[i]? = some (ys[i]'(by omega)) := List.getElem?_eq_getElem (by omega)
    refine hs i _ x H H' hy k m y R N (fun hp a H4 k4 m4 r => hR _ H4 k4 m4 ?_) (fun hp H3 k3 m3 => hN H3 k3 m3 ?_)
    · refine ⟨zs ++ [(ys[i]'(by omega), a)], ?_, ?_, fun z hz => ?_⟩
      · rw [List.map_append, h1, take_snoc hy, List.filter_append]
        simp [hp]
      · rw [h2, List.map_append]
        rfl
      · rcases List.mem_append.mp hz with hz | hz
        · exact stab _ _ _ _ m4 (h3 z hz)
        · rw [List.mem_singleton.mp hz]
          exact r
    · refine ⟨zs, ?_, h2, fun z hz => stab _ _ _ _ m3 (h3 z hz)⟩
      rw [h1, take_snoc hy, List.filter_append]
      simp [hp]
  · rintro acc H hl k m e ⟨zs, h1, h2, h3⟩
    refine hd zs H k m ?_ h3 (by rw [← h2]; exact e)
    rw [h1, hn, List.take_length]
/-- each element a function of what was walked -/
theorem lc_fun {β α : Type} (ys : List β) (p : β → Bool) (inj : α → V) (f : β → α) (w : Walk J n G Y) (hn : n = ys.length) (h5 : ys.length ≤ 100000) (hD : H1 D = none)
    (hG : ∀ H', Keeps [] H1 H' → Imm H1 H' → G H')
    (hs : ∀ i y x H H', ys[i]? = some y → Keeps [] H1 H → Imm H1 H → Y i H x H' → ∀ (R : V → Hp → Prop) (N : Hp → Prop),
      (p y = true → ∀ H4, Keeps [] H H4 → Imm H H4 → R (inj (f y)) H4) → (p y = false → ∀ H3, Keeps [] H H3 → Imm H H3 → N H3) →
      g x (wipe σ vs) H' fun σ2 H2 => wipe σ2 vs = wipe σ vs ∧ tt σ2 H2 fun b H3 => if b = true then te σ2 H3 R else N H3)
    (hd : ∀ H, Keeps [] H1 H → Imm H1 H → H D = some (.lst (((ys.filter p).map f).map inj)) → Qd H) : LcW J g tt te vs σ H1 D Qd := by
  refine lc_rel ys p inj (fun y a _ => a = f y) w hn h5 hD hG (fun _ _ _ _ _ h => h) (fun i y x H H' hy k m yy R N hR hN => hs i y x H H' hy k m yy R N (fun hp H4 k4 m4 => hR hp _ H4 k4 m4 rfl) hN) ?_
  intro zs H k m h1 h2 h3
  refine hd H k m ?_
  rw [h3, ← h1, List.map_map, List.map_map]
  congr 2
  refine List.map_congr_left fun z hz => ?_
  show inj z.2 = inj (f z.1)
  rw [h2 z hz]
theorem filter_all_true {α : Type} (l : List α) : l.filter (fun _ => true) = l := by simp
end
/-! ### dicts -/
section
variable {ι κ : Type} [DecidableEq ι] [DecidableEq κ]
def mkD (f : ι → κ) (g : ι → V) (ks : List ι) : List (κ × V) := ks.map fun k => (f k, g k)
theorem mkD_len {f : ι → κ} {g : ι → V} {ks : List ι} : (mkD f g ks).length = ks.length := List.length_map _
theorem mkD_val {f : ι → κ} {g : ι → V} (hf : ∀ a b, f a = f b → a = b) (ks : List ι) (k : ι) : valV (mkD f g ks) (f k) = if k ∈ ks then some (g k) else none := by
  induction ks with
  | nil => rfl
  | cons a l ih =>
    by_cases e : a = k
    · subst e
      rw [if_pos List.mem_cons_self]
      exact valV_pos (p := (f a, g a)) rfl
    · have e1 : valV (mkD f g (a :: l)) (f k) = valV (mkD f g l) (f k) := valV_neg (p := (f a, g a)) fun h => e (hf _ _ h)
      rw [e1, ih]
      have e2 : (k ∈ a :: l) ↔ k ∈ l := by
        rw [List.mem_cons]
        exact ⟨fun h => h.resolve_left fun h => e h.symm, .inr⟩
      simp only [e2]
theorem mkD_in {f : ι → κ} {g : ι → V} (hf : ∀ a b, f a = f b → a = b) {ks : List ι} {k : ι} (h : k ∈ ks) : valV (mkD f g ks) (f k) = some (g k) := by rw [mkD_val hf, if_pos h]
theorem mkD_no {f : ι → κ} {g : ι → V} (hf : ∀ a b, f a = f b → a = b) {ks : List ι} {k : ι} (h : k ∉ ks) : valV (mkD f g ks) (f k) = none := by rw [mkD_val hf, if_neg h]
theorem mkD_congr {f : ι → κ} {g g' : ι → V} {ks : List ι} (h : ∀ k ∈ ks, g k = g' k) : mkD f g ks = mkD f g' ks := List.map_congr_left fun k hk => by rw [h k hk]
def setF {β : Type} (g : ι → β) (k : ι) (v : β) : ι → β := fun j => if j = k then v else g j
theorem setF_same {β : Type} {g : ι → β} {k : ι} {v : β} : setF g k v k = v := if_pos rfl
theorem setF_ne {β : Type} {g : ι → β} {k j : ι} {v : β} (h : j ≠ k) : setF g k v j = g j := if_neg h
def addK (ks : List ι) (k : ι) : List ι := if k ∈ ks then ks else ks ++ [k]
theorem mem_addK {ks : List ι} {k j : ι} : j ∈ addK ks k ↔ j ∈ ks ∨ j = k := by
  unfold addK
  split
  · rename_i h
    exact ⟨.inl, fun q => q.elim id fun e => e ▸ h⟩
  · simp
theorem addK_nodup {ks : List ι} {k : ι} (h : ks.Nodup) : (addK ks k).Nodup := by
  unfold addK
  split
  · exact h
  · rename_i n
    rw [List.nodup_append]
    exact ⟨h, by simp, fun a ha b hb e => n (by rw [← List.mem_singleton.mp hb, ← e]; exact ha)⟩
theorem addK_in {ks : List ι} {k : ι} (h : k ∈ ks) : addK ks k = ks := if_pos h
theorem addK_no {ks : List ι} {k : ι} (h : k ∉ ks) : addK ks k = ks ++ [k] := if_neg h
theorem addK_len {ks : List ι} {k : ι} : (addK ks k).length ≤ ks.length + 1 := by
  unfold addK
  split
  · omega
  · simp
theorem mkD_put {f : ι → κ} {g : ι → V} (hf : ∀ a b, f a = f b → a = b) (ks : List ι) (k : ι) (v : V) : putK (mkD f g ks) (f k) v = mkD f (setF g k v) (addK ks k) := by
  by_cases h : k ∈ ks
  · have e1 : (mkD f g ks).any (fun kv => decide (kv.1 = f k)) = true := by rw [valV_any, mkD_in hf h]; rfl
    unfold putK
    rw [if_pos e1, addK_in h]
    unfold mkD
    rw [List.map_map]
    refine List.map_congr_left fun j hj => ?_
    show (if f j = f k then (f j, v) else (f j, g j)) = (f j, setF g k v j)
    by_cases e : j = k
    · subst e
      rw [if_pos rfl, setF_same]
    · rw [if_neg fun z => e (hf _ _ z), setF_ne e]
  · rw [putK_new v (mkD_no hf h), addK_no h]
    unfold mkD
    rw [List.map_append]
    have e2 : (ks.map fun j => (f j, g j)) = ks.map fun j => (f j, setF g k v j) := List.map_congr_left fun j hj => by
      rw [setF_ne fun e : j = k => h (by rw [← e]; exact hj)]
    rw [e2]
    show _ = _ ++ [(f k, setF g k v k)]
    rw [setF_same]
theorem mkD_drop {f : ι → κ} {g : ι → V} (hf : ∀ a b, f a = f b → a = b) (ks : List ι) (k : ι) : dropK (mkD f g ks) (f k) = mkD f g (ks.filter fun j => decide (j ≠ k)) := by
  unfold dropK mkD
  rw [List.filter_map]
  congr 1
  refine List.filter_congr fun j hj => ?_
  show decide (f j ≠ f k) = decide (j ≠ k)
  by_cases e : j = k
  · subst e
    simp
  · have : f j ≠ f k := fun z => e (hf _ _ z)
    simp [e, this]
end
def nmK (x : Str) : L2.Key := .inr x
theorem nmK_inj : ∀ a b, nmK a = nmK b → a = b := fun a b h => by injection h
abbrev Ky := Str × Nat
def kyK (k : Ky) : List L2.Key := [.inr k.1, .inl (k.2 : Nat)]
theorem kyK_inj : ∀ a b, kyK a = kyK b → a = b := fun a b h => by
  obtain ⟨a1, a2⟩ := a
  obtain ⟨b1, b2⟩ := b
  unfold kyK at h
  injection h with h1 h2
  injection h2 with h3 h4
  injection h1 with h1
  injection h3 with h3
  have h3' : a2 = b2 := by
    have : ((a2 : Nat) : Int) = ((b2 : Nat) : Int) := h3
    omega
  have h1' : a1 = b1 := h1
  rw [h1', h3']
theorem kyK_kV (k : Ky) : (kyK k).map kV = [.str k.1, .int (k.2 : Nat)] := rfl
/-! ### what stands in the heap -/
structure Rc where
  len : Option Nat
  reach : Nat
  asked : List Ky
  leans : List Str
def lenV : Option Nat → V
  | none => .non
  | some n => .int (n : Nat)
def KeyAt (H : Hp) (a : Addr) (k : Ky) : Prop := H a = some (.tup [.str k.1, .int (k.2 : Nat)])
def KeysAt (H : Hp) (a : Addr) (ks : List Ky) : Prop := ∃ (o : Obj) (es : List (Ky × Addr)), es.map (·.1) = ks ∧ H a = some (.frz o (.lst (es.map fun e => .ref e.2))) ∧ ∀ e ∈ es, KeyAt H e.2 e.1
def RecAt (H : Hp) (a : Addr) (r : Rc) : Prop := ∃ la lb, H a = some (.tup [lenV r.len, .int (r.reach : Nat), .ref la, .ref lb]) ∧ KeysAt H la r.asked ∧ StrsAt H lb r.leans
theorem KeyAt.imm {H H' : Hp} {a : Addr} {k : Ky} (h : KeyAt H a k) (i : Imm H H') : KeyAt H' a k := i.tup h
theorem KeysAt.imm {H H' : Hp} {a : Addr} {ks : List Ky} (h : KeysAt H a ks) (i : Imm H H') : KeysAt H' a ks :=
  let ⟨o, es, h1, h2, h3⟩ := h
  ⟨o, es, h1, i.frz h2, fun e he => (h3 e he).imm i⟩
theorem RecAt.imm {H H' : Hp} {a : Addr} {r : Rc} (h : RecAt H a r) (i : Imm H H') : RecAt H' a r :=
  let ⟨la, lb, h1, h2, h3⟩ := h
  ⟨la, lb, i.tup h1, h2.imm i, h3.imm i⟩
/-- rules at d: the names in their order, G what they are -/
def RulesAt (H : Hp) (d : Addr) (ks : List Str) (G : Str → Option Fm) : Prop :=
  ∃ ad : Str → Addr, Rd H d (.dK (mkD nmK (fun x => .ref (ad x)) ks)) ∧ ∀ x ∈ ks, ∃ f, G x = some f ∧ FormAt H (ad x) f
structure RulesOk (ks : List Str) (G : Str → Option Fm) : Prop where
  nd : ks.Nodup
  few : ks.length ≤ 9
  nm : ∀ x ∈ ks, okN x
  dom : ∀ x, x ∈ ks ↔ (G x).isSome = true
  ok : ∀ x f, G x = some f → f.ok
theorem RulesAt.kp {S : List Addr} {H H' : Hp} {d : Addr} {ks : List Str} {G : Str → Option Fm} (h : RulesAt H d ks G) (k : Keeps S H H') (n : d ∉ S) (i : Imm H H') : RulesAt H' d ks G :=
  let ⟨ad, h1, h2⟩ := h
  ⟨ad, rd_kp h1 k n, fun x hx => let ⟨f, a, b⟩ := h2 x hx; ⟨f, a, b.imm i⟩⟩
/-- a table of records -/
def TabAt (R : Ky → Rc) (H : Hp) (t : Addr) (ks : List Ky) : Prop := ∃ ad : Ky → Addr, H t = some (.dT (mkD kyK (fun k => .ref (ad k)) ks)) ∧ ∀ k ∈ ks, RecAt H (ad k) (R k)
theorem TabAt.kp {S : List Addr} {R : Ky → Rc} {H H' : Hp} {t : Addr} {ks : List Ky} (h : TabAt R H t ks) (k : Keeps S H H') (n : t ∉ S) (i : Imm H H') : TabAt R H' t ks :=
  let ⟨ad, h1, h2⟩ := h
  ⟨ad, k _ _ h1 n, fun x hx => (h2 x hx).imm i⟩
/-- the numbers of the rows -/
def NumAt (num : Ky → Nat) (H : Hp) (t : Addr) (ks : List Ky) : Prop := H t = some (.dT (mkD kyK (fun k => .int (num k : Nat)) ks))
/-- a list of keys that grows -/
def OrdAt (H : Hp) (o : Addr) (ks : List Ky) : Prop := ∃ es : List (Ky × Addr), es.map (·.1) = ks ∧ H o = some (.lst (es.map fun e => .ref e.2)) ∧ ∀ e ∈ es, KeyAt H e.2 e.1
theorem OrdAt.kp {S : List Addr} {H H' : Hp} {t : Addr} {ks : List Ky} (h : OrdAt H t ks) (k : Keeps S H H') (n : t ∉ S) (i : Imm H H') : OrdAt H' t ks :=
  let ⟨es, h0, h1, h2⟩ := h
  ⟨es, h0, k _ _ h1 n, fun x hx => (h2 x hx).imm i⟩
theorem OrdAt.add {H H' : Hp} {t a : Addr} {ks : List Ky} {k : Ky} (h : OrdAt H t ks) (i : Imm H H') (ha : KeyAt H' a k) (e : ∀ xs, H t = some (.lst xs) → H' t = some (.lst (xs ++ [.ref a]))) : OrdAt H' t (ks ++ [k]) := by
  obtain ⟨es, h0, h1, h2⟩ := h
  refine ⟨es ++ [(k, a)], by rw [List.map_append, h0]; rfl, by rw [e _ h1, List.map_append]; rfl, fun x hx => ?_⟩
  rcases List.mem_append.mp hx with hx | hx
  · exact (h2 x hx).imm i
  · rw [List.mem_singleton.mp hx]
    exact ha
/-- a row: its number, its key, its record -/
structure Rw where
  num : Nat
  key : Ky
  len : Option Nat
  reach : Nat
  leans : List Str
def RowAt (H : Hp) (a : Addr) (r : Rw) : Prop := ∃ lb, H a = some (.tup [.int (r.num : Nat), .str r.key.1, .int (r.key.2 : Nat), lenV r.len, .int (r.reach : Nat), .ref lb]) ∧ StrsAt H lb r.leans
def RowsAt (H : Hp) (a : Addr) (rs : List Rw) : Prop := ∃ (o : Obj) (es : List (Rw × Addr)), es.map (·.1) = rs ∧ H a = some (.frz o (.lst (es.map fun e => .ref e.2))) ∧ ∀ e ∈ es, RowAt H e.2 e.1
theorem RowAt.imm {H H' : Hp} {a : Addr} {k : Rw} (h : RowAt H a k) (i : Imm H H') : RowAt H' a k := let ⟨lb, h, s⟩ := h; ⟨lb, i.tup h, s.imm i⟩
theorem RowsAt.imm {H H' : Hp} {a : Addr} {ks : List Rw} (h : RowsAt H a ks) (i : Imm H H') : RowsAt H' a ks :=
  let ⟨o, es, h1, h2, h3⟩ := h
  ⟨o, es, h1, i.frz h2, fun e he => (h3 e he).imm i⟩
/-- a book: the rules as a list of pairs -/
def BookAt (H : Hp) (a : Addr) (bs : List (Str × Fm)) : Prop := ∃ (o : Obj) (es : List ((Str × Fm) × Addr)), es.map (·.1) = bs ∧ H a = some (.frz o (.lst (es.map fun e => .ref e.2))) ∧ ∀ e ∈ es, ∃ fa, H e.2 = some (.tup [.str e.1.1, .ref fa]) ∧ FormAt H fa e.1.2
theorem BookAt.imm {H H' : Hp} {a : Addr} {bs : List (Str × Fm)} (h : BookAt H a bs) (i : Imm H H') : BookAt H' a bs :=
  let ⟨o, es, h1, h2, h3⟩ := h
  ⟨o, es, h1, i.frz h2, fun e he => let ⟨fa, a, b⟩ := h3 e he; ⟨fa, i.tup a, b.imm i⟩⟩
/-- names that were found -/
def FndAt (H : Hp) (d : Addr) (xs : List Str) : Prop := Rd H d (.dK (mkD nmK (fun _ => .bl true) xs))
/-- a bag: three ints, c of which were asked for -/
def BagAt (H : Hp) (b : Addr) (n : Nat) : Prop := ∃ x y c : Int, H b = some (.lst [.int x, .int y, .int c]) ∧ 0 ≤ x ∧ 0 ≤ y ∧ y < 2 ^ 110 ∧ 0 ≤ c ∧ c ≤ n
theorem BagAt.mono {H : Hp} {b : Addr} {n m : Nat} (h : BagAt H b n) (l : n ≤ m) : BagAt H b m := let ⟨x, y, c, e, h0, h1, h2, h3, h4⟩ := h; ⟨x, y, c, e, h0, h1, h2, h3, by omega⟩
theorem BagAt.kp {S : List Addr} {H H' : Hp} {b : Addr} {n : Nat} (h : BagAt H b n) (k : Keeps S H H') (i : b ∉ S) : BagAt H' b n := let ⟨x, y, c, e, r⟩ := h; ⟨x, y, c, k _ _ e i, r⟩
end Kr
/-! what a reading is -/
namespace Kr
open PySem PySem.Spec PyProof.Rows L2
def signAt (T z : Str) (p : Nat) : Bool := match T.cps[p]? with
  | some c => decide (c ∈ z.cps.toList)
  | none => false
/-- the parts of a row from at on, the reading's place p: what is asked, what comes out -/
def seqRow (L : Ky → Option Nat) (p : Nat) : Nat → List Str → List Ky × Option Nat
  | at_, [] => ([], some (at_ - p))
  | at_, q :: qs => match L (q, at_) with
    | none => ([(q, at_)], none)
    | some n => ((q, at_) :: (seqRow L p (at_ + n) qs).1, (seqRow L p (at_ + n) qs).2)
def seqFirst (L : Ky → Option Nat) (p : Nat) : List Str → List Ky × Option Nat
  | [] => ([], none)
  | q :: qs => match L (q, p) with
    | some n => ([(q, p)], some n)
    | none => ((q, p) :: (seqFirst L p qs).1, (seqFirst L p qs).2)
def seqAgain (L : Ky → Option Nat) (p : Nat) (q : Str) : Nat → Nat → List Ky × Option Nat
  | 0, at_ => ([], some (at_ - p))
  | f + 1, at_ => match L (q, at_) with
    | none => ([(q, at_)], some (at_ - p))
    | some 0 => ([(q, at_)], some (at_ - p))
    | some (n + 1) => ((q, at_) :: (seqAgain L p q f (at_ + (n + 1))).1, (seqAgain L p q f (at_ + (n + 1))).2)
def out (G : Str → Option Fm) (T : Str) (L : Ky → Option Nat) (k : Ky) : List Ky × Option Nat :=
  match G k.1 with
  | none => ([], none)
  | some .none => ([], some 0)
  | some .any => ([], if k.2 < T.length then some 1 else none)
  | some (.signs z) => ([], if signAt T z k.2 = true then some 1 else none)
  | some (.row ps) => seqRow L k.2 k.2 ps
  | some (.first ps) => seqFirst L k.2 ps
  | some (.again q) => seqAgain L k.2 q 50 k.2
  | some (.ahead q) => ([(q, k.2)], if (L (q, k.2)).isSome = true then some 0 else none)
  | some (.not q) => ([(q, k.2)], if (L (q, k.2)).isSome = true then none else some 0)
/-- each key once, in the order of the first -/
def once : List Ky → List Ky → List Ky
  | acc, [] => acc
  | acc, k :: ks => once (addK acc k) ks
def far (R : Ky → Rc) (p : Nat) (ks : List Ky) : Nat := ks.foldl (fun m q => max m (q.2 + (R q).reach)) (p + 1)
/-- in the order of texts, each once -/
def ins (x : Str) : List Str → List Str
  | [] => [x]
  | y :: ys => if slt x y = true then x :: y :: ys else if x = y then y :: ys else y :: ins x ys
def canon (xs : List Str) : List Str := xs.foldr ins []
def recOf (G : Str → Option Fm) (T : Str) (R : Ky → Rc) (k : Ky) : Rc :=
  let o := out G T (fun j => (R j).len) k
  let a := once [] o.1
  ⟨o.2, far R k.2 a - k.2, a, canon (k.1 :: a.flatMap fun q => (R q).leans)⟩
def rdF (G : Str → Option Fm) (T : Str) : Nat → Ky → Rc
  | 0 => fun _ => ⟨none, 1, [], []⟩
  | f + 1 => fun k => recOf G T (rdF G T f) k
/-- the readings -/
def rdG (G : Str → Option Fm) (T : Str) : Ky → Rc := rdF G T 100
/-- may f read nothing, the names in E may -/
def mbe (E : Str → Bool) : Fm → Bool
  | .row ps => ps.all E
  | .first ps => ps.any E
  | .any => false
  | .signs _ => false
  | _ => true
def upTo (E : Str → Bool) : List Str → List Str
  | [] => []
  | q :: qs => if E q = true then q :: upTo E qs else [q]
/-- what f asks at its own place, at most -/
def begins (E : Str → Bool) : Fm → List Str
  | .row ps => upTo E ps
  | f => f.parts
/-- no rule comes back to itself at its place -/
structure Ranked (G : Str → Option Fm) (E : Str → Bool) (rk : Str → Nat) : Prop where
  bd : ∀ x, rk x ≤ 9
  cl : ∀ x f, G x = some f → mbe E f = true → E x = true
  lt : ∀ x f, G x = some f → ∀ q ∈ begins E f, rk q < rk x
def mu (T : Str) (rk : Str → Nat) (k : Ky) : Nat := (T.length - k.2) * 10 + rk k.1
/-- R is the readings of T by G; D: the names at hand -/
structure Sys (G : Str → Option Fm) (T : Str) (R : Ky → Rc) (D : List Str) (rk : Str → Nat) : Prop where
  few : D.length ≤ 9
  nm : ∀ x ∈ D, okN x
  dom : ∀ x f, G x = some f → x ∈ D ∧ ∀ q ∈ f.parts, q ∈ D
  ok : ∀ x f, G x = some f → f.ok
  bd : ∀ x, rk x ≤ 9
  tl : T.length ≤ 7
  tx : okT T
  eqn : ∀ k : Ky, k.2 ≤ T.length → R k = recOf G T R k
  less : ∀ k : Ky, k.2 ≤ T.length → ∀ q ∈ (out G T (fun j => (R j).len) k).1, q.2 ≤ T.length ∧ k.2 ≤ q.2 ∧ mu T rk q < mu T rk k
  fit : ∀ (k : Ky) (n : Nat), k.2 ≤ T.length → (R k).len = some n → k.2 + n ≤ T.length
/-- the keys at hand -/
def InDom (D : List Str) (T : Str) (k : Ky) : Prop := k.1 ∈ D ∧ k.2 ≤ T.length
end Kr
/-! small laws: slices, places, tests -/
namespace Kr
open PySem PySem.Spec PyProof.Rows L2
theorem iteY {b : Bool} {A B : Prop} (h : b = true) (a : A) : if b = true then A else B := by rw [if_pos h]; exact a
theorem iteN {b : Bool} {A B : Prop} (h : b = false) (a : B) : if b = true then A else B := by rw [h]; exact iteF a
theorem iteB {b : Bool} {A B : Prop} (h1 : b = true → A) (h2 : b = false → B) : if b = true then A else B := by
  cases b with
  | true => exact iteT (h1 rfl)
  | false => exact iteF (h2 rfl)
theorem cut_from {xs : List V} (k : Nat) : cutV xs (some (k : Int)) none = xs.drop k := by
  unfold cutV
  rw [HT.sIx_nat, HT.sIx_none]
  have e : xs.drop (min k xs.length) = xs.drop k := by
    by_cases h : k ≤ xs.length
    · rw [Nat.min_eq_left h]
    · rw [Nat.min_eq_right (by omega), List.drop_length, List.drop_of_length_le (by omega)]
  rw [e]
  exact List.take_of_length_le (by rw [List.length_drop]; omega)
theorem cut_to {xs : List V} (k : Nat) : cutV xs none (some (k : Int)) = xs.take k := by
  unfold cutV
  rw [HT.sIx_nat, HT.sIx_none]
  show (xs.drop 0).take (min k xs.length - 0) = xs.take k
  rw [List.drop_zero, Nat.sub_zero]
  by_cases h : k ≤ xs.length
  · rw [Nat.min_eq_left h]
  · rw [Nat.min_eq_right (by omega), List.take_length, List.take_of_length_le (by omega)]
theorem cut_mid {xs : List V} (j k : Nat) : cutV xs (some (j : Int)) (some (k : Int)) = (xs.drop j).take (k - j) := by
  unfold cutV
  rw [HT.sIx_nat, HT.sIx_nat]
  by_cases h : j ≤ xs.length
  · rw [Nat.min_eq_left h]
    by_cases h2 : k ≤ xs.length
    · rw [Nat.min_eq_left h2]
    · rw [Nat.min_eq_right (by omega), List.take_of_length_le (by rw [List.length_drop]; omega), List.take_of_length_le (by rw [List.length_drop]; omega)]
  · rw [show min j xs.length = xs.length from Nat.min_eq_right (by omega), List.drop_length, List.drop_of_length_le (by omega)]
    simp
theorem cuts_from {z : Str} (k : Nat) : (cutS z (some (k : Int)) none).cps.toList = z.cps.toList.drop k := by
  unfold cutS
  show (z.cps.toList.drop _).take _ = _
  rw [HT.sIx_nat, HT.sIx_none]
  have hl : z.length = z.cps.toList.length := rfl
  rw [hl]
  have e : z.cps.toList.drop (min k z.cps.toList.length) = z.cps.toList.drop k := by
    by_cases h : k ≤ z.cps.toList.length
    · rw [Nat.min_eq_left h]
    · rw [Nat.min_eq_right (by omega), List.drop_length, List.drop_of_length_le (by omega)]
  rw [e]
  exact List.take_of_length_le (by rw [List.length_drop]; omega)
theorem cuts_to {z : Str} (k : Nat) : (cutS z none (some (k : Int))).cps.toList = z.cps.toList.take k := by
  unfold cutS
  show (z.cps.toList.drop _).take _ = _
  rw [HT.sIx_nat, HT.sIx_none]
  have hl : z.length = z.cps.toList.length := rfl
  rw [hl]
  show (z.cps.toList.drop 0).take (min k _ - 0) = _
  rw [List.drop_zero, Nat.sub_zero]
  by_cases h : k ≤ z.cps.toList.length
  · rw [Nat.min_eq_left h]
  · rw [Nat.min_eq_right (by omega), List.take_length, List.take_of_length_le (by omega)]
theorem cuts_mid {z : Str} (j k : Nat) : (cutS z (some (j : Int)) (some (k : Int))).cps.toList = (z.cps.toList.drop j).take (k - j) := by
  unfold cutS
  show (z.cps.toList.drop _).take _ = _
  rw [HT.sIx_nat, HT.sIx_nat]
  have hl : z.length = z.cps.toList.length := rfl
  rw [hl]
  by_cases h : j ≤ z.cps.toList.length
  · rw [Nat.min_eq_left h]
    by_cases h2 : k ≤ z.cps.toList.length
    · rw [Nat.min_eq_left h2]
    · rw [Nat.min_eq_right (by omega), List.take_of_length_le (by rw [List.length_drop]; omega), List.take_of_length_le (by rw [List.length_drop]; omega)]
  · rw [show min j z.cps.toList.length = z.cps.toList.length from Nat.min_eq_right (by omega), List.drop_length, List.drop_of_length_le (by omega)]
    simp
theorem flat_strs (xs : List Str) : (xs.map V.str).all flatV = true := by simp [flatV]
theorem inV_str (x : Str) (xs : List Str) : inV (.str x) (xs.map V.str) = decide (x ∈ xs) := by
  unfold inV
  rw [List.any_map]
  induction xs with
  | nil => simp
  | cons y ys ih =>
    rw [List.any_cons, ih]
    show ((y == x) || _) = _
    by_cases e : y = x
    · subst e; simp
    · have e' : ¬ x = y := fun h => e h.symm
      simp [e, e']
theorem flat_ints (xs : List Int) : (xs.map V.int).all flatV = true := by simp [flatV]
theorem at_str {z : Str} {i : Nat} {c : Nat} (h : z.cps[i]? = some c) : atI z.cps.toList (i : Int) = some c := atI_nat (by rw [Array.getElem?_toList]; exact h)
theorem okT_mem {z : Str} (h : okT z) {c : Nat} (hc : c ∈ z.cps.toList) : okC c = true := h c hc
theorem all_of {α : Type} (l : List α) (f : α → Bool) (h : ∀ a ∈ l, f a = true) : (l.map f).all id = true := by
  rw [List.all_map, List.all_eq_true]
  exact h
theorem all_map_id {α : Type} (l : List α) (f : α → Bool) : (l.map f).all id = l.all f := by rw [List.all_map]; rfl
theorem any_map_id {α : Type} (l : List α) (f : α → Bool) : (l.map f).any id = l.any f := by rw [List.any_map]; rfl
theorem FndAt.get {H : Hp} {d : Addr} {xs : List Str} (h : FndAt H d xs) (x : Str) : DGet H d (.str x) (if x ∈ xs then some (.bl true) else none) := by
  refine .inl ⟨_, .inr x, h, rfl, ?_⟩
  exact (mkD_val (f := nmK) (g := fun _ => .bl true) nmK_inj xs x).symm
theorem FndAt.kp {S : List Addr} {H H' : Hp} {d : Addr} {xs : List Str} (h : FndAt H d xs) (k : Keeps S H H') (n : d ∉ S) : FndAt H' d xs := rd_kp h k n
theorem isSome_if (p : Prop) [Decidable p] (v : V) : (if p then some v else none).isSome = decide p := by
  by_cases h : p
  · rw [if_pos h, decide_eq_true h]; rfl
  · rw [if_neg h, decide_eq_false h]; rfl
theorem at_0 {α : Type} {xs : List α} {v : α} (h : xs[0]? = some v) : atI xs 0 = some v := atI_nat (j := 0) h
theorem at_1 {α : Type} {xs : List α} {v : α} (h : xs[1]? = some v) : atI xs 1 = some v := atI_nat (j := 1) h
theorem at_2 {α : Type} {xs : List α} {v : α} (h : xs[2]? = some v) : atI xs 2 = some v := atI_nat (j := 2) h
theorem at_3 {α : Type} {xs : List α} {v : α} (h : xs[3]? = some v) : atI xs 3 = some v := atI_nat (j := 3) h
theorem at_4 {α : Type} {xs : List α} {v : α} (h : xs[4]? = some v) : atI xs 4 = some v := atI_nat (j := 4) h
theorem at_5 {α : Type} {xs : List α} {v : α} (h : xs[5]? = some v) : atI xs 5 = some v := atI_nat (j := 5) h
theorem nw1 {n : Nat} {p : Prop} (h : 1 ≤ n) : ¬ (HT.sIx n 0 (some 1) = 0 ∧ p) := fun q => by
  have e : HT.sIx n 0 (some 1) = min 1 n := HT.sIx_nat n 0 1
  have := q.1
  omega
theorem qb {Q : VK} {b : Bool} {H : Hp} (h : b = true) (q : Q (.bl true) H) : Q (.bl b) H := by rw [h]; exact q
theorem qbF {Q : VK} {b : Bool} {H : Hp} (h : b = false) (q : Q (.bl false) H) : Q (.bl b) H := by rw [h]; exact q
theorem dec_int_eq {i j : Int} (h : i = j) : decide (V.int i = V.int j) = true := by rw [h]; simp
theorem dec_int_ne {i j : Int} (h : i ≠ j) : decide (V.int i = V.int j) = false := by simp [h]
theorem one1 : (1 : Int) = ((1 : Nat) : Int) := rfl
end Kr
/-! plain laws of names that may be empty, of begins -/
namespace Kr
open PySem PySem.Spec PyProof.Rows L2
theorem put_true (xs : List Str) (n : Str) : putK (mkD nmK (fun _ => .bl true) xs) (.inr n) (.bl true) = mkD nmK (fun _ => .bl true) (addK xs n) := by
  refine (mkD_put nmK_inj xs n (.bl true)).trans (mkD_congr fun j _ => ?_)
  unfold setF
  split <;> rfl
theorem put_trueT (xs : List Ky) (n : Ky) : putK (mkD kyK (fun _ => .bl true) xs) (kyK n) (.bl true) = mkD kyK (fun _ => .bl true) (addK xs n) := by
  refine (mkD_put kyK_inj xs n (.bl true)).trans (mkD_congr fun j _ => ?_)
  unfold setF
  split <;> rfl
theorem mbe_mono {E E' : Str → Bool} (h : ∀ x, E x = true → E' x = true) : ∀ f, mbe E f = true → mbe E' f = true := by
  intro f
  cases f with
  | row ps =>
    intro q
    rw [mbe, List.all_eq_true] at q ⊢
    exact fun x hx => h x (q x hx)
  | first ps =>
    intro q
    rw [mbe, List.any_eq_true] at q ⊢
    obtain ⟨x, hx, e⟩ := q
    exact ⟨x, hx, h x e⟩
  | _ => exact id
theorem upTo_mono {E E' : Str → Bool} (h : ∀ x, E x = true → E' x = true) : ∀ (ps : List Str) q, q ∈ upTo E ps → q ∈ upTo E' ps
  | [], _, hq => by cases hq
  | p :: ps, q, hq => by
    unfold upTo at hq ⊢
    by_cases e : E p = true
    · rw [if_pos e] at hq
      rw [if_pos (h p e)]
      rcases List.mem_cons.mp hq with z | z
      · exact List.mem_cons.mpr (.inl z)
      · exact List.mem_cons.mpr (.inr (upTo_mono h ps q z))
    · rw [if_neg e] at hq
      have z := List.mem_singleton.mp hq
      split
      · exact List.mem_cons.mpr (.inl z)
      · exact hq
theorem begins_mono {E E' : Str → Bool} (h : ∀ x, E x = true → E' x = true) (f : Fm) (q : Str) (hq : q ∈ begins E f) : q ∈ begins E' f := by
  cases f with
  | row ps => exact upTo_mono h ps q hq
  | _ => exact hq
theorem upTo_sub (E : Str → Bool) : ∀ (ps : List Str) q, q ∈ upTo E ps → q ∈ ps
  | [], _, hq => by cases hq
  | p :: ps, q, hq => by
    unfold upTo at hq
    split at hq
    · rcases List.mem_cons.mp hq with z | z
      · exact List.mem_cons.mpr (.inl z)
      · exact List.mem_cons.mpr (.inr (upTo_sub E ps q z))
    · exact List.mem_cons.mpr (.inl (List.mem_singleton.mp hq))
theorem begins_sub (E : Str → Bool) (f : Fm) (q : Str) (hq : q ∈ begins E f) : q ∈ f.parts := by
  cases f with
  | row ps => exact upTo_sub E ps q hq
  | _ => exact hq
theorem upTo_len (E : Str → Bool) : ∀ ps : List Str, (upTo E ps).length ≤ ps.length
  | [] => Nat.le_refl _
  | p :: ps => by
    have := upTo_len E ps
    unfold upTo
    split
    · rw [List.length_cons, List.length_cons]; omega
    · simp
theorem begins_few (E : Str → Bool) (f : Fm) : (begins E f).length ≤ f.parts.length := by
  cases f with
  | row ps => exact upTo_len E ps
  | _ => exact Nat.le_refl _
theorem upTo_take {E : Str → Bool} : ∀ (ps : List Str) (i : Nat) (q : Str), (ps.take i).all E = true → ps[i]? = some q → E q = false → upTo E ps = ps.take (i + 1)
  | [], _, _, _, h, _ => by simp at h
  | p :: ps, 0, q, _, h, e => by
    have : p = q := by simpa using h
    subst this
    unfold upTo
    rw [if_neg (by rw [e]; exact Bool.false_ne_true)]
    rfl
  | p :: ps, i + 1, q, ha, h, e => by
    have ha' : E p = true ∧ (ps.take i).all E = true := by
      simpa [List.take_succ_cons] using ha
    unfold upTo
    rw [if_pos ha'.1, upTo_take ps i q ha'.2 (by simpa using h) e]
    rfl
theorem upTo_all {E : Str → Bool} : ∀ (ps : List Str), ps.all E = true → upTo E ps = ps
  | [], _ => rfl
  | p :: ps, h => by
    have h' : E p = true ∧ ps.all E = true := by simpa using h
    unfold upTo
    rw [if_pos h'.1, upTo_all ps h'.2]
theorem stable_nil (L : List Str) (rk : Str → Nat) (h : ∀ x ∈ L, ∃ q ∈ L, rk q < rk x) : L = [] := by
  have no : ∀ n x, x ∈ L → rk x < n → False := by
    intro n
    induction n with
    | zero => intro x _ hx; omega
    | succ n ih =>
      intro x hx hn
      obtain ⟨q, hq, hr⟩ := h x hx
      exact ih q hq (by omega)
  cases L with
  | nil => rfl
  | cons x l => exact (no (rk x + 1) x List.mem_cons_self (Nat.lt_succ_self _)).elim
theorem filter_len {α : Type} (p : α → Bool) : ∀ (l : List α), (l.filter p).length = l.length → ∀ x ∈ l, p x = true
  | [], _, x, hx => by cases hx
  | a :: l, h, x, hx => by
    have hle := List.length_filter_le p l
    by_cases e : p a = true
    · rw [List.filter_cons_of_pos e, List.length_cons, List.length_cons] at h
      rcases List.mem_cons.mp hx with z | z
      · rw [z]; exact e
      · exact filter_len p l (by omega) x z
    · rw [List.filter_cons_of_neg e, List.length_cons] at h
      omega
end Kr
namespace Kr
open PySem PySem.Spec PyProof.Rows L2
section
variable {P : Program} {w : World} {K : PySem.W.Frag} {mg : Str → Option Value} {base : Heap} {k : Nat}
def spCellAt (K : PySem.W.Frag) : Sp := fun vs H Q _ => ∃ (a : Addr) (ns : List Int) (i : Int), vs = [.ref a, .int i] ∧ SqL K H a (ns.map V.int) ∧ 0 ≤ i ∧ ∀ v, Q (.int v) H
theorem ok_cell_at (T : Tp K mg) : Calls P w K mg base (k + 1) "_law_cell_at" ["script", "k"] (spCellAt K) := by
  have sc : FnScope ["script", "k"] ["script", "k"] d_law_cell_at.scope := ⟨rfl, rfl, rfl, by decide +kernel, rfl, by decide +kernel, by decide +kernel⟩
  refine mkCall T in_law_cell_at rfl mg_law_cell_at rfl rfl sc (fun _ _ _ _ _ _ us hl => match us, hl with | [_, _], _ => rfl) (fun vs H Q E h => ?_) (fun f cdv A outer s H vs Q E hr h => ?_)
  · obtain ⟨a, ns, i, rfl, _⟩ := h
    rfl
  obtain ⟨a, ns, i, rfl, hS, h0, k⟩ := h
  refine ⟨_, (pss_cons (ps_if (pt_cmpR op_lt (pv 1) (pe_callB call_len_seq (by rfl) (T.fre _ mf_len) bt_len (pa_cons (pv 0) pa_nil)) (nomark _)) (pss_one (ps_ret (pe_ix ix_list (pv 0) (pv 1) (fun _ _ => rfl)))) pss_nil)
      (pss_one (ps_ret pe_int))), ?_⟩
  refine ⟨_, rfl, _, rfl, _, _, rfl, .inl hS, _, _, rfl, rfl, _, rfl, ?_⟩
  refine ite2 (fun h => ?_) (fun h => k 0)
  have h2 : i < ((ns.map V.int).length : Nat) := of_decide_eq_true h
  rw [List.length_map] at h2
  refine ⟨_, rfl, _, rfl, _, _, _, .int (ns[i.toNat]'(by omega)), rfl, rfl, hS, ?_, k _⟩
  have q : atI (ns.map V.int) ((i.toNat : Nat) : Int) = some (.int (ns[i.toNat]'(by omega))) := atI_nat (by rw [List.getElem?_map, List.getElem?_eq_getElem (by omega)]; rfl)
  have e : ((i.toNat : Nat) : Int) = i := by omega
  rw [e] at q
  exact q
theorem signs_all : ∀ c : Nat, c < 127 → okC c = true → decide (c ∈ ("abcdefghijklmnopqrstuvwxyz" : Str).cps.toList) = false → decide (c ∈ ("ABCDEFGHIJKLMNOPQRSTUVWXYZ" : Str).cps.toList) = false → decide (c ∈ ("0123456789" : Str).cps.toList) = false →
    decide (c ∈ (⟨#[32, 33, 34, 35, 36, 38, 39, 40, 41, 42, 43, 44, 45, 46, 47, 58, 59, 60, 61, 62, 63, 64, 91, 92, 93, 94, 95, 96, 123, 124, 125, 126]⟩ : Str).cps.toList) = true := by decide +kernel
theorem letters_all : ∀ c : Nat, c < 127 → okL c = true → decide (c ∈ ("abcdefghijklmnopqrstuvwxyz" : Str).cps.toList) = true := by decide +kernel
theorem okC_lt {c : Nat} (h : okC c = true) : c < 127 := by
  simp [okC] at h
  omega
theorem okL_lt {c : Nat} (h : okL c = true) : c < 127 := by
  simp [okL] at h
  omega
theorem okL_C {c : Nat} (h : okL c = true) : okC c = true := by
  simp [okL] at h
  simp [okC]
  omega
theorem okN_T {z : Str} (h : okN z) : okT z := fun c hc => okL_C (h.2.2 c hc)
def spIsSign : Sp := fun vs H Q _ => ∃ (c : Nat), vs = [.str ⟨#[c]⟩] ∧ okC c = true ∧ Q (.bl true) H
theorem ok_is_sign (T : Tp K mg) : Calls P w K mg base (k + 1) "is_sign" ["sign"] spIsSign := by
  have sc : FnScope ["sign"] ["sign"] d_is_sign.scope := ⟨rfl, rfl, rfl, by decide +kernel, rfl, by decide +kernel, by decide +kernel⟩
  refine mkCall T in_is_sign rfl mg_is_sign rfl rfl sc (fun _ _ _ _ _ _ us hl => match us, hl with | [_], _ => rfl) (fun vs H Q E h => ?_) (fun f cdv A outer s H vs Q E hr h => ?_)
  · obtain ⟨c, rfl, _⟩ := h
    rfl
  obtain ⟨c, rfl, hc, k⟩ := h
  refine ⟨_, (pss_one (ps_ret (pe_or (pe_cmpR op_in_sign (pv 0) (pe_gstr (by rfl) (T.str _ _ mc_LETTERS)) (by rfl)) (pe_or (pe_cmpR op_in_sign (pv 0) (pe_gstr (by rfl) (T.str _ _ mc_GREAT)) (by rfl)) (pe_or (pe_cmpR op_in_sign (pv 0) (pe_gstr (by rfl) (T.str _ _ mc_FIGURES)) (by rfl)) (pe_one (pe_cmpR op_in_sign (pv 0) (pe_gstr (by rfl) (T.str _ _ mc_MARKS)) (by rfl)))))))), ?_⟩
  refine ⟨_, rfl, _, _, rfl, rfl, _, rfl, ?_⟩
  refine ite2 (fun _ => k) (fun h1 => ?_)
  refine ⟨_, rfl, _, _, rfl, rfl, _, rfl, ?_⟩
  refine ite2 (fun _ => k) (fun h2 => ?_)
  refine ⟨_, rfl, _, _, rfl, rfl, _, rfl, ?_⟩
  refine ite2 (fun _ => k) (fun h3 => ?_)
  refine ⟨_, rfl, _, _, rfl, rfl, ?_⟩
  have e := signs_all c (okC_lt hc) hc (Bool.eq_false_iff.mpr h1) (Bool.eq_false_iff.mpr h2) (Bool.eq_false_iff.mpr h3)
  have k' : Q (.bl (decide (c ∈ (⟨#[32, 33, 34, 35, 36, 38, 39, 40, 41, 42, 43, 44, 45, 46, 47, 58, 59, 60, 61, 62, 63, 64, 91, 92, 93, 94, 95, 96, 123, 124, 125, 126]⟩ : Str).cps.toList))) H := by
    rw [e]
    exact k
  exact k'
theorem isi_ok {K : PySem.W.Frag} {H : Hp} {x : V} {t : Value} {n : String} {b : Bool} {Q : VK} (ty : TyX K H x t) (q : Q (.bl b) H) (e : PySem.W.kitOne K t (.type n) = some b := by rfl) : rIsi K [x, .ty n] H Q := ⟨_, _, _, _, _, rfl, .ty n, ty, e, q⟩
theorem all_true (n : Nat) : ((List.range n).map fun _ => true).all id = true := by
  simp
theorem Pass.str_at {z : Str} {i : Nat} {c : Nat} (h : z.cps[i]? = some c) : c ∈ z.cps.toList := by
  obtain ⟨hi, e⟩ := Array.getElem?_eq_some_iff.mp h
  rw [← e]
  simp
def spIsText : Sp := fun vs H Q _ => ∃ (z : Str), vs = [.str z] ∧ okT z ∧ z.length ≤ 1000 ∧ ∀ H', Keeps [] H H' → Q (.bl true) H'
theorem ok_is_text (T : Tp K mg) (c_is_sign : Calls P w K mg base k "is_sign" ["sign"] spIsSign) : Calls P w K mg base (k + 1) "is_text" ["thing"] spIsText := by
  have sc : FnScope ["thing", "sign"] ["thing"] d_is_text.scope := ⟨rfl, rfl, rfl, by decide +kernel, rfl, by decide +kernel, by decide +kernel⟩
  refine mkCall T in_is_text rfl mg_is_text rfl rfl sc (fun _ _ _ _ _ _ us hl => match us, hl with | [_], _ => rfl) (fun vs H Q E h => ?_) (fun f cdv A outer s H vs Q E hr h => ?_)
  · obtain ⟨c, rfl, _⟩ := h
    rfl
  obtain ⟨z, rfl, hc, hl, k⟩ := h
  refine ⟨_, (pss_one (ps_ret (pe_and (pe_callB call_isi (by rfl) (T.fre _ mf_isinstance) bt_isinstance (pa_cons (pv 0) (pa_cons (pe_bltn (v := .ty "str") (by rfl) (T.fre _ mf_str) bt_str rfl) pa_nil))) (pe_one (pe_callB (cr_all rfl) (by rfl) (T.fre _ mf_all) bt_all (pa_cons (pe_lc (own := [("sign", 1)]) rfl sc.nd (pi_str (pv 0)) (blkOk_by (by kernel_rfl)) (fun _ _ _ _ _ => (pg_name (i := 1) sc.nd rfl (by first | exact Or.inl rfl | exact Or.inr rfl))) (fun _ _ _ _ _ => pts_nil) (fun _ _ _ _ _ => (pcall c_is_sign hr (pa_cons (pv 1) pa_nil)))) pa_nil)))))), ?_⟩
  refine ⟨_, rfl, _, _, _, _, _, rfl, .ty _, .base (.str z), rfl, _, rfl, ?_⟩
  refine iteT ?_
  have hz : z.cps.size ≤ 100000 := Nat.le_trans hl (by decide)
  refine ⟨_, rfl, _, rfl, fun D hD => lc_map walk_str V.bl (fun _ => true) hz hD (fun _ _ _ => trivial) ?_ ?_⟩
  · rintro i x H1 H1' hi k1 m1 ⟨rfl, c, hc1, rfl⟩ R hR
    refine ⟨rfl, _, rfl, c, rfl, hc c (Pass.str_at hc1), fun m => hR _ (Keeps.refl [] _) (Imm.refl _)⟩
  · intro H1 k1 m1 e
    refine ⟨D, _, rfl, SqL.of e, ?_⟩
    rw [all_true]
    exact k _ k1
def spIsName : Sp := fun vs H Q _ => ∃ (z : Str), vs = [.str z] ∧ okN z ∧ ∀ H', Keeps [] H H' → Q (.bl true) H'
theorem ok_is_name (T : Tp K mg) : Calls P w K mg base (k + 1) "is_name" ["thing"] spIsName := by
  have sc : FnScope ["thing", "sign"] ["thing"] d_is_name.scope := ⟨rfl, rfl, rfl, by decide +kernel, rfl, by decide +kernel, by decide +kernel⟩
  refine mkCall T in_is_name rfl mg_is_name rfl rfl sc (fun _ _ _ _ _ _ us hl => match us, hl with | [_], _ => rfl) (fun vs H Q E h => ?_) (fun f cdv A outer s H vs Q E hr h => ?_)
  · obtain ⟨c, rfl, _⟩ := h
    rfl
  obtain ⟨z, rfl, ⟨h1, h8, hc⟩, k⟩ := h
  refine ⟨_, (pss_cons (ps_if (PW.pt (pw_or (pt_not (pt_val (pe_callB call_isi (by rfl) (T.fre _ mf_isinstance) bt_isinstance (pa_cons (pv 0) (pa_cons (pe_bltn (v := .ty "str") (by rfl) (T.fre _ mf_str) bt_str rfl) pa_nil))))) (pw_or (pt_cmpR op_lt (pe_callB call_len_str (by rfl) (T.fre _ mf_len) bt_len (pa_cons (pv 0) pa_nil)) pe_int (nomark _)) (pw_or1 (pt_cmpR op_gt (pe_callB call_len_str (by rfl) (T.fre _ mf_len) bt_len (pa_cons (pv 0) pa_nil)) (pe_gint (by rfl) (T.int _ _ mc_LONGEST_NAME)) (nomark _)))))) (pss_one (ps_ret pe_bl)) pss_nil)
      (pss_one (ps_ret (pe_callB (cr_all rfl) (by rfl) (T.fre _ mf_all) bt_all (pa_cons (pe_lc (own := [("sign", 1)]) rfl sc.nd (pi_str (pv 0)) (blkOk_by (by kernel_rfl)) (fun _ _ _ _ _ => (pg_name (i := 1) sc.nd rfl (by first | exact Or.inl rfl | exact Or.inr rfl))) (fun _ _ _ _ _ => pts_nil) (fun _ _ _ _ _ => (pe_cmpR op_in_sign (pv 1) (pe_gstr (by rfl) (T.str _ _ mc_LETTERS)) (by rfl)))) pa_nil))))), ?_⟩
  have hz : z.length ≤ sizeLine := line5' (Nat.le_trans h8 (by decide))
  refine ⟨_, rfl, _, _, _, _, _, rfl, .ty _, .base (.str z), rfl, _, rfl, ?_⟩
  refine ⟨_, rfl, _, rfl, hz, _, _, rfl, rfl, _, rfl, ?_⟩
  refine ite2 (fun h => ?_) (fun _ => ?_)
  · have := of_decide_eq_true h
    omega
  refine ⟨_, rfl, _, rfl, hz, _, _, rfl, rfl, _, rfl, ?_⟩
  refine ite2 (fun h => ?_) (fun _ => ?_)
  · have := of_decide_eq_true h
    omega
  have hz : z.cps.size ≤ 100000 := Nat.le_trans h8 (by decide)
  refine ⟨_, rfl, _, rfl, fun D hD => lc_map walk_str V.bl (fun _ => true) hz hD (fun _ _ _ => trivial) ?_ ?_⟩
  · rintro i x H1 H1' hi k1 m1 ⟨rfl, c, hc1, rfl⟩ R hR
    refine ⟨rfl, _, rfl, c, _, rfl, rfl, ?_⟩
    have q := letters_all c (okL_lt (hc c (Pass.str_at hc1))) (hc c (Pass.str_at hc1))
    have q2 : R (.bl (decide (c ∈ ("abcdefghijklmnopqrstuvwxyz" : Str).cps.toList))) H1' := by
      rw [q]
      exact hR _ (Keeps.refl [] _) (Imm.refl _)
    exact q2
  · intro H1 k1 m1 e
    refine ⟨D, _, rfl, SqL.of e, ?_⟩
    rw [all_true]
    exact k _ k1
end
end Kr
namespace Kr
open PySem PySem.Spec PyProof.Rows L2
section
variable {P : Program} {w : World} {K : PySem.W.Frag} {mg : Str → Option Value} {base : Heap} {k : Nat}
theorem qb' {R : V → Hp → Prop} {b : Bool} {H : Hp} (h : b = true) (q : R (.bl true) H) : R (.bl b) H := by rw [h]; exact q
def spAreSigns : Sp := fun vs H Q _ => ∃ (z : Str), vs = [.str z] ∧ okS z ∧ ∀ H', Keeps [] H H' → Q (.bl true) H'
theorem ok_are_signs (T : Tp K mg) (c_is_text : Calls P w K mg base k "is_text" ["thing"] spIsText) : Calls P w K mg base (k + 1) "are_signs" ["thing"] spAreSigns := by
  have sc : FnScope ["thing", "one", "other"] ["thing"] d_are_signs.scope := ⟨rfl, rfl, rfl, by decide +kernel, rfl, by decide +kernel, by decide +kernel⟩
  refine mkCall T in_are_signs rfl mg_are_signs rfl rfl sc (fun _ _ _ _ _ _ us hl => match us, hl with | [_], _ => rfl) (fun vs H Q E h => ?_) (fun f cdv A outer s H vs Q E hr h => ?_)
  · obtain ⟨c, rfl, _⟩ := h
    rfl
  obtain ⟨z, rfl, ⟨hT, h1, h40, hp⟩, k⟩ := h
  refine ⟨_, (pss_cons (ps_if (PW.pt (pw_or (pt_not (pt_val (pcall c_is_text hr (pa_cons (pv 0) pa_nil)))) (pw_or (pt_cmpR op_lt (pe_callB call_len_str (by rfl) (T.fre _ mf_len) bt_len (pa_cons (pv 0) pa_nil)) pe_int (nomark _)) (pw_or1 (pt_cmpR op_gt (pe_callB call_len_str (by rfl) (T.fre _ mf_len) bt_len (pa_cons (pv 0) pa_nil)) (pe_gint (by rfl) (T.int _ _ mc_MOST_SIGNS)) (nomark _)))))) (pss_one (ps_ret pe_bl)) pss_nil)
      (pss_one (ps_ret (pe_callB (cr_all rfl) (by rfl) (T.fre _ mf_all) bt_all (pa_cons (pe_lc (own := [("one", 1), ("other", 2)]) rfl sc.nd (pi_zipS (by rfl) (T.fre _ mf_zip) (pa_cons (pv 0) (pa_cons (pe_slice sl_str (pv 0) (po_some pe_int) po_none) pa_nil))) (blkOk_by (by kernel_rfl)) (fun _ _ _ _ _ => (pg_tupK (K := K) (n := 2) rfl rfl (pgs_cons (pg_name (i := 1) sc.nd rfl (by first | exact Or.inl rfl | exact Or.inr rfl)) (pgs_cons (pg_name (i := 2) sc.nd rfl (by first | exact Or.inl rfl | exact Or.inr rfl)) pgs_nil)))) (fun _ _ _ _ _ => pts_nil) (fun _ _ _ _ _ => (pe_cmpR op_lt_str (pv 1) (pv 2) (nomark _)))) pa_nil))))), ?_⟩
  have hz : z.length ≤ sizeLine := line5' (Nat.le_trans h40 (by decide))
  refine ⟨_, rfl, z, rfl, hT, Nat.le_trans h40 (by decide), fun H1 k1 m1 => ⟨_, rfl, ?_⟩⟩
  refine ⟨_, rfl, _, rfl, hz, _, _, rfl, rfl, _, rfl, ?_⟩
  refine ite2 (fun h => ?_) (fun _ => ?_)
  · have := of_decide_eq_true h
    omega
  refine ⟨_, rfl, _, rfl, hz, _, _, rfl, rfl, _, rfl, ?_⟩
  refine ite2 (fun h => ?_) (fun _ => ?_)
  · have := of_decide_eq_true h
    omega
  refine ⟨_, rfl, _, rfl, _, rfl, _, rfl, hz, _, _, rfl, fun D hD => lc_map walk_zipS V.bl (fun _ => true) ?_ hD (fun _ _ _ => trivial) ?_ ?_⟩
  · refine Nat.le_trans (Nat.min_le_left _ _) (Nat.le_trans h40 (by decide))
  · rintro i x H2 H2' hi k2 m2 ⟨T, c, d, rfl, hT2, rfl, hc, hd⟩ R hR
    refine ⟨T, _, rfl, sqt_of upd_same, rfl, _, _, rfl, _, _, rfl, rfl, rfl, _, rfl, _, rfl, _, _, rfl, rfl, ?_⟩
    have e1 : z.cps.toList[i]? = some c := by rw [Array.getElem?_toList]; exact hc
    have e2 : z.cps.toList[i + 1]? = some d := by
      have e3 : (cutS z (some 1) none).cps.toList[i]? = some d := by rw [Array.getElem?_toList]; exact hd
      rw [show (1 : Int) = ((1 : Nat) : Int) from rfl, cuts_from, List.getElem?_drop] at e3
      rw [Nat.add_comm]
      exact e3
    have lt : c < d := by
      obtain ⟨l1, g1⟩ := List.getElem?_eq_some_iff.mp e1
      obtain ⟨l2, g2⟩ := List.getElem?_eq_some_iff.mp e2
      rw [← g1, ← g2]
      exact List.pairwise_iff_getElem.mp hp i (i + 1) l1 l2 (by omega)
    have e4 : decide ((#[c] : Array Nat).toList < (#[d] : Array Nat).toList) = true := by
      have : [c] < [d] := List.Lex.rel lt
      exact decide_eq_true this
    rw [e4]
    exact hR _ ((Keeps.refl _ _).new hT2) ((Imm.refl _).new hT2)
  · intro H2 k2 m2 e
    refine ⟨D, _, rfl, SqL.of e, ?_⟩
    rw [all_true]
    exact k _ (k1.trans k2)
def spIsForm : Sp := fun vs H Q _ => ∃ (a : Addr) (f : Fm), vs = [.ref a] ∧ FormAt H a f ∧ f.ok ∧ ∀ H', Keeps [] H H' → Q (.bl true) H'
def spPartsOf : Sp := fun vs H Q _ => ∃ (a : Addr) (f : Fm), vs = [.ref a] ∧ FormAt H a f ∧ ∀ l, H l = none → ∀ H', Keeps [] H H' → H' l = some (.lst (f.parts.map V.str)) → Q (.ref l) H'
theorem ok_is_form (T : Tp K mg) (c_are_signs : Calls P w K mg base k "are_signs" ["thing"] spAreSigns) (c_is_name : Calls P w K mg base k "is_name" ["thing"] spIsName) : Calls P w K mg base (k + 1) "is_form" ["thing"] spIsForm := by
  have sc : FnScope ["thing", "word", "further", "one"] ["thing"] d_is_form.scope := ⟨rfl, rfl, rfl, by decide +kernel, rfl, by decide +kernel, by decide +kernel⟩
  refine mkCall T in_is_form rfl mg_is_form rfl rfl sc (fun _ _ _ _ _ _ us hl => match us, hl with | [_], _ => rfl) (fun vs H Q E h => ?_) (fun f cdv A outer s H vs Q E hr h => ?_)
  · obtain ⟨a, f, rfl, _⟩ := h
    rfl
  obtain ⟨a, f, rfl, hf, ok, k⟩ := h
  refine ⟨_, (pss_cons (ps_if (PW.pt (pw_or (pt_not (pt_val (pe_callB call_isi (by rfl) (T.fre _ mf_isinstance) bt_isinstance (pa_cons (pv 0) (pa_cons (pe_bltn (v := .ty "tuple") (by rfl) (T.fre _ mf_tuple) bt_tuple rfl) pa_nil))))) (pw_or (pt_cmpR op_lt (pe_callB call_len_seq (by rfl) (T.fre _ mf_len) bt_len (pa_cons (pv 0) pa_nil)) pe_int (nomark _)) (pw_or1 (pt_not (pt_val (pe_callB call_isi (by rfl) (T.fre _ mf_isinstance) bt_isinstance (pa_cons (pe_ix ix_tup (pv 0) pe_int (fun _ _ => rfl)) (pa_cons (pe_bltn (v := .ty "str") (by rfl) (T.fre _ mf_str) bt_str rfl) pa_nil))))))))) (pss_one (ps_ret pe_bl)) pss_nil)
      (pss_cons (ps_set (i := 1) sc.nd rfl (by first | exact Or.inl rfl | exact Or.inr rfl) (pe_ix ix_tup (pv 0) pe_int (fun _ _ => rfl)))
      (pss_cons (ps_set (i := 2) sc.nd rfl (by first | exact Or.inl rfl | exact Or.inr rfl) (pe_slice sl_tup (pv 0) (po_some pe_int) po_none))
      (pss_cons (ps_if (PW.pt (pw_or (pt_cmpR op_eq (pv 1) pe_str (nomark _)) (pw_or1 (pt_cmpR op_eq (pv 1) pe_str (nomark _))))) (pss_one (ps_ret (pe_cmpR op_eq (pe_callB call_len_seq (by rfl) (T.fre _ mf_len) bt_len (pa_cons (pv 2) pa_nil)) pe_int (nomark _)))) pss_nil)
      (pss_cons (ps_if (pt_cmpR op_eq (pv 1) pe_str (nomark _)) (pss_one (ps_ret (pe_and (pe_cmpR op_eq (pe_callB call_len_seq (by rfl) (T.fre _ mf_len) bt_len (pa_cons (pv 2) pa_nil)) pe_int (nomark _)) (pe_one (pcall c_are_signs hr (pa_cons (pe_ix ix_tup (pv 2) pe_int (fun _ _ => rfl)) pa_nil)))))) pss_nil)
      (pss_cons (ps_if (pt_not (pt_val (pe_callB (cr_all rfl) (by rfl) (T.fre _ mf_all) bt_all (pa_cons (pe_lc (own := [("one", 3)]) rfl sc.nd (pi_tup (pv 2)) (blkOk_by (by kernel_rfl)) (fun _ _ _ _ _ => (pg_name (i := 3) sc.nd rfl (by first | exact Or.inl rfl | exact Or.inr rfl))) (fun _ _ _ _ _ => pts_nil) (fun _ _ _ _ _ => (pcall c_is_name hr (pa_cons (pv 3) pa_nil)))) pa_nil)))) (pss_one (ps_ret pe_bl)) pss_nil)
      (pss_cons (ps_if (PW.pt (pw_or (pt_cmpR op_eq (pv 1) pe_str (nomark _)) (pw_or1 (pt_cmpR op_eq (pv 1) pe_str (nomark _))))) (pss_one (ps_ret (pe_and (pe_cmpR op_gt (pe_callB call_len_seq (by rfl) (T.fre _ mf_len) bt_len (pa_cons (pv 2) pa_nil)) pe_int (nomark _)) (pe_one (pe_cmpR op_le (pe_callB call_len_seq (by rfl) (T.fre _ mf_len) bt_len (pa_cons (pv 2) pa_nil)) (pe_gint (by rfl) (T.int _ _ mc_MOST_PARTS)) (nomark _)))))) pss_nil)
      (pss_one (ps_ret (pe_and (pe_cmpR op_in_seq (pv 1) (pe_tup (pa_cons pe_str (pa_cons pe_str (pa_cons pe_str pa_nil)))) (by rfl)) (pe_one (pe_cmpR op_eq (pe_callB call_len_seq (by rfl) (T.fre _ mf_len) bt_len (pa_cons (pv 2) pa_nil)) pe_int (nomark _))))))))))))), ?_⟩
  have hq : SqT K H a (f.l.map V.str) := sqt_of hf
  have l1 : 1 ≤ (f.l.map V.str).length := by cases f <;> simp [Fm.l]
  obtain ⟨wd, ps, el⟩ : ∃ wd ps, f.l = wd :: ps := by cases f <;> exact ⟨_, _, rfl⟩
  rw [el] at hq l1
  refine ⟨_, rfl, _, _, _, _, _, rfl, .ty _, .base (.tup hf), rfl, _, rfl, ?_⟩
  refine ⟨_, rfl, _, _, rfl, .inr hq, _, _, rfl, rfl, _, rfl, ?_⟩
  refine iteB (fun h => ?_) (fun _ => ?_)
  · have := of_decide_eq_true h
    omega
  refine ⟨_, rfl, _, _, _, _, rfl, rfl, hq, at_0 rfl, _, _, _, _, _, rfl, .ty _, .base (.str wd), rfl, _, rfl, ?_⟩
  refine iteF ?_
  refine ⟨_, rfl, _, _, _, _, rfl, rfl, hq, at_0 rfl, ?_⟩
  refine ⟨_, rfl, _, rfl, _, _, rfl, hq, nw1 l1, fun p hp => ?_⟩
  have e : cutV ((wd :: ps).map V.str) (some 1) none = ps.map V.str := cut_from (xs := (wd :: ps).map V.str) 1
  have hq2 : SqT K (upd H p (.tup (cutV ((wd :: ps).map V.str) (some 1) none))) p (ps.map V.str) := by
    rw [e]
    exact sqt_of upd_same
  have k2 := (Keeps.refl [] H).new (o := .tup (cutV ((wd :: ps).map V.str) (some 1) none)) hp
  refine ⟨_, rfl, rfl, _, rfl, ?_⟩
  cases f with
  | none =>
    cases el
    refine iteY (by decide +kernel) ?_
    exact ⟨_, rfl, _, _, rfl, .inr hq2, rfl, qb rfl (k _ k2)⟩
  | any =>
    cases el
    refine iteN (by decide +kernel) ?_
    refine ⟨_, rfl, rfl, _, rfl, ?_⟩
    refine iteY (by decide +kernel) ?_
    exact ⟨_, rfl, _, _, rfl, .inr hq2, rfl, qb rfl (k _ k2)⟩
  | signs z =>
    cases el
    refine iteN (by decide +kernel) ?_
    refine ⟨_, rfl, rfl, _, rfl, ?_⟩
    refine iteN (by decide +kernel) ?_
    refine ⟨_, rfl, rfl, _, rfl, ?_⟩
    refine iteY (by decide +kernel) ?_
    refine ⟨_, rfl, _, _, rfl, .inr hq2, rfl, _, rfl, ?_⟩
    refine iteY (by rfl) ?_
    exact ⟨_, rfl, _, _, _, _, rfl, rfl, hq2, at_0 rfl, z, rfl, ok, fun H3 k3 m => k _ (k2.trans k3)⟩
  | row ps =>
    cases el
    refine iteN (by decide +kernel) ?_
    refine ⟨_, rfl, rfl, _, rfl, ?_⟩
    refine iteN (by decide +kernel) ?_
    refine ⟨_, rfl, rfl, _, rfl, ?_⟩
    refine iteN (by decide +kernel) ?_
    refine ⟨_, rfl, _, rfl, ⟨_, hq2⟩, fun D hD => lc_map walk_tup V.bl (fun _ => true) (by rw [List.length_map]; have := ok.2.1; omega) hD (fun H' _ m => sqt_im hq2 m) ?_ ?_⟩
    · rintro i x H3 H3' hi k3 m3 ⟨rfl, hx⟩ R hR
      obtain ⟨q', hq', rfl⟩ := List.mem_map.mp (List.mem_of_getElem? hx)
      exact ⟨rfl, _, rfl, q', rfl, ok.2.2 q' hq', fun H4 k4 m4 => hR _ k4 m4⟩
    intro H3 k3 m3 e3
    refine ⟨D, _, rfl, SqL.of e3, ?_⟩
    rw [all_true]
    refine ⟨_, rfl, iteF ?_⟩
    have hq3 := sqt_im hq2 m3
    have k3' := k2.trans k3
    refine ⟨_, rfl, rfl, _, rfl, ?_⟩
    refine iteY (by decide +kernel) ?_
    refine ⟨_, rfl, _, _, rfl, .inr hq3, _, _, rfl, rfl, _, rfl, ?_⟩
    have o1 : ((ps.map V.str).length : Int) > 0 ∧ ((ps.map V.str).length : Int) ≤ 8 := by
      have := ok.1
      have := ok.2.1
      rw [List.length_map]
      omega
    refine iteY (decide_eq_true o1.1) ?_
    exact ⟨_, rfl, _, _, rfl, .inr hq3, _, _, rfl, rfl, qb (decide_eq_true o1.2) (k _ k3')⟩
  | first ps =>
    cases el
    refine iteN (by decide +kernel) ?_
    refine ⟨_, rfl, rfl, _, rfl, ?_⟩
    refine iteN (by decide +kernel) ?_
    refine ⟨_, rfl, rfl, _, rfl, ?_⟩
    refine iteN (by decide +kernel) ?_
    refine ⟨_, rfl, _, rfl, ⟨_, hq2⟩, fun D hD => lc_map walk_tup V.bl (fun _ => true) (by rw [List.length_map]; have := ok.2.1; omega) hD (fun H' _ m => sqt_im hq2 m) ?_ ?_⟩
    · rintro i x H3 H3' hi k3 m3 ⟨rfl, hx⟩ R hR
      obtain ⟨q', hq', rfl⟩ := List.mem_map.mp (List.mem_of_getElem? hx)
      exact ⟨rfl, _, rfl, q', rfl, ok.2.2 q' hq', fun H4 k4 m4 => hR _ k4 m4⟩
    intro H3 k3 m3 e3
    refine ⟨D, _, rfl, SqL.of e3, ?_⟩
    rw [all_true]
    refine ⟨_, rfl, iteF ?_⟩
    have hq3 := sqt_im hq2 m3
    have k3' := k2.trans k3
    refine ⟨_, rfl, rfl, _, rfl, ?_⟩
    refine iteN (by decide +kernel) ?_
    refine ⟨_, rfl, rfl, _, rfl, ?_⟩
    refine iteY (by decide +kernel) ?_
    refine ⟨_, rfl, _, _, rfl, .inr hq3, _, _, rfl, rfl, _, rfl, ?_⟩
    have o1 : ((ps.map V.str).length : Int) > 0 ∧ ((ps.map V.str).length : Int) ≤ 8 := by
      have := ok.1
      have := ok.2.1
      rw [List.length_map]
      omega
    refine iteY (decide_eq_true o1.1) ?_
    exact ⟨_, rfl, _, _, rfl, .inr hq3, _, _, rfl, rfl, qb (decide_eq_true o1.2) (k _ k3')⟩
  | again q =>
    cases el
    refine iteN (by decide +kernel) ?_
    refine ⟨_, rfl, rfl, _, rfl, ?_⟩
    refine iteN (by decide +kernel) ?_
    refine ⟨_, rfl, rfl, _, rfl, ?_⟩
    refine iteN (by decide +kernel) ?_
    refine ⟨_, rfl, _, rfl, ⟨_, hq2⟩, fun D hD => lc_map walk_tup V.bl (fun _ => true) (by show 1 ≤ 100000; decide) hD (fun H' _ m => sqt_im hq2 m) ?_ ?_⟩
    · rintro i x H3 H3' hi k3 m3 ⟨rfl, hx⟩ R hR
      obtain ⟨q', hq', rfl⟩ := List.mem_map.mp (List.mem_of_getElem? hx)
      exact ⟨rfl, _, rfl, q', rfl, by rw [List.mem_singleton.mp hq']; exact ok, fun H4 k4 m4 => hR _ k4 m4⟩
    intro H3 k3 m3 e3
    refine ⟨D, _, rfl, SqL.of e3, ?_⟩
    rw [all_true]
    refine ⟨_, rfl, iteF ?_⟩
    have hq3 := sqt_im hq2 m3
    have k3' := k2.trans k3
    refine ⟨_, rfl, rfl, _, rfl, ?_⟩
    refine iteN (by decide +kernel) ?_
    refine ⟨_, rfl, rfl, _, rfl, ?_⟩
    refine iteN (by decide +kernel) ?_
    refine ⟨_, rfl, by decide, fun t ht => ⟨_, _, rfl, .inr (sqt_of upd_same), rfl, rfl, _, rfl, ?_⟩⟩
    refine iteY (by decide +kernel) ?_
    exact ⟨_, rfl, _, _, rfl, .inr (sqt_im hq3 ((Imm.refl _).new ht)), rfl, qb rfl (k _ (k3'.new ht))⟩
  | ahead q =>
    cases el
    refine iteN (by decide +kernel) ?_
    refine ⟨_, rfl, rfl, _, rfl, ?_⟩
    refine iteN (by decide +kernel) ?_
    refine ⟨_, rfl, rfl, _, rfl, ?_⟩
    refine iteN (by decide +kernel) ?_
    refine ⟨_, rfl, _, rfl, ⟨_, hq2⟩, fun D hD => lc_map walk_tup V.bl (fun _ => true) (by show 1 ≤ 100000; decide) hD (fun H' _ m => sqt_im hq2 m) ?_ ?_⟩
    · rintro i x H3 H3' hi k3 m3 ⟨rfl, hx⟩ R hR
      obtain ⟨q', hq', rfl⟩ := List.mem_map.mp (List.mem_of_getElem? hx)
      exact ⟨rfl, _, rfl, q', rfl, by rw [List.mem_singleton.mp hq']; exact ok, fun H4 k4 m4 => hR _ k4 m4⟩
    intro H3 k3 m3 e3
    refine ⟨D, _, rfl, SqL.of e3, ?_⟩
    rw [all_true]
    refine ⟨_, rfl, iteF ?_⟩
    have hq3 := sqt_im hq2 m3
    have k3' := k2.trans k3
    refine ⟨_, rfl, rfl, _, rfl, ?_⟩
    refine iteN (by decide +kernel) ?_
    refine ⟨_, rfl, rfl, _, rfl, ?_⟩
    refine iteN (by decide +kernel) ?_
    refine ⟨_, rfl, by decide, fun t ht => ⟨_, _, rfl, .inr (sqt_of upd_same), rfl, rfl, _, rfl, ?_⟩⟩
    refine iteY (by decide +kernel) ?_
    exact ⟨_, rfl, _, _, rfl, .inr (sqt_im hq3 ((Imm.refl _).new ht)), rfl, qb rfl (k _ (k3'.new ht))⟩
  | not q =>
    cases el
    refine iteN (by decide +kernel) ?_
    refine ⟨_, rfl, rfl, _, rfl, ?_⟩
    refine iteN (by decide +kernel) ?_
    refine ⟨_, rfl, rfl, _, rfl, ?_⟩
    refine iteN (by decide +kernel) ?_
    refine ⟨_, rfl, _, rfl, ⟨_, hq2⟩, fun D hD => lc_map walk_tup V.bl (fun _ => true) (by show 1 ≤ 100000; decide) hD (fun H' _ m => sqt_im hq2 m) ?_ ?_⟩
    · rintro i x H3 H3' hi k3 m3 ⟨rfl, hx⟩ R hR
      obtain ⟨q', hq', rfl⟩ := List.mem_map.mp (List.mem_of_getElem? hx)
      exact ⟨rfl, _, rfl, q', rfl, by rw [List.mem_singleton.mp hq']; exact ok, fun H4 k4 m4 => hR _ k4 m4⟩
    intro H3 k3 m3 e3
    refine ⟨D, _, rfl, SqL.of e3, ?_⟩
    rw [all_true]
    refine ⟨_, rfl, iteF ?_⟩
    have hq3 := sqt_im hq2 m3
    have k3' := k2.trans k3
    refine ⟨_, rfl, rfl, _, rfl, ?_⟩
    refine iteN (by decide +kernel) ?_
    refine ⟨_, rfl, rfl, _, rfl, ?_⟩
    refine iteN (by decide +kernel) ?_
    refine ⟨_, rfl, by decide, fun t ht => ⟨_, _, rfl, .inr (sqt_of upd_same), rfl, rfl, _, rfl, ?_⟩⟩
    refine iteY (by decide +kernel) ?_
    exact ⟨_, rfl, _, _, rfl, .inr (sqt_im hq3 ((Imm.refl _).new ht)), rfl, qb rfl (k _ (k3'.new ht))⟩
theorem ok_parts_of (T : Tp K mg) : Calls P w K mg base (k + 1) "parts_of" ["form"] spPartsOf := by
  have sc : FnScope ["form"] ["form"] d_parts_of.scope := ⟨rfl, rfl, rfl, by decide +kernel, rfl, by decide +kernel, by decide +kernel⟩
  refine mkCall T in_parts_of rfl mg_parts_of rfl rfl sc (fun _ _ _ _ _ _ us hl => match us, hl with | [_], _ => rfl) (fun vs H Q E h => ?_) (fun f cdv A outer s H vs Q E hr h => ?_)
  · obtain ⟨a, f, rfl, _⟩ := h
    rfl
  obtain ⟨a, f, rfl, hf, k⟩ := h
  refine ⟨_, (pss_cons (ps_if (pt_cmpR op_in_seq (pe_ix ix_tup (pv 0) pe_int (fun _ _ => rfl)) (pe_tup (pa_cons pe_str (pa_cons pe_str (pa_cons pe_str pa_nil)))) (by rfl)) (pss_one (ps_ret (pe_lst pa_nil))) pss_nil)
      (pss_one (ps_ret (pe_callTy call_list_of (by rfl) (T.fre _ mf_list) bt_list (pa_cons (pe_slice sl_tup (pv 0) (po_some pe_int) po_none) pa_nil))))), ?_⟩
  have hq : SqT K H a (f.l.map V.str) := sqt_of hf
  have l1 : 1 ≤ (f.l.map V.str).length := by cases f <;> simp [Fm.l]
  obtain ⟨wd, ps, el⟩ : ∃ wd ps, f.l = wd :: ps := by cases f <;> exact ⟨_, _, rfl⟩
  rw [el] at hq l1
  refine ⟨_, rfl, _, _, _, _, rfl, rfl, hq, at_0 rfl, by decide, fun t ht => ⟨_, _, rfl, .inr (sqt_of upd_same), rfl, rfl, _, rfl, ?_⟩⟩
  have kt : ∀ (o : HO), Keeps [] H (upd H t o) := fun o => (Keeps.refl [] H).new ht
  have mt : ∀ (o : HO), Imm H (upd H t o) := fun o => (Imm.refl H).new ht
  have tail : f.parts = ps → (∀ (o : HO), tRet (tCB (fun xs H Q => ∃ p ys, xs = [V.ref p] ∧ (SqL K H p ys ∨ SqT K H p ys) ∧ ∀ l, H l = none → Q (V.ref l) (upd H l (HO.lst ys))) (tCons (tSl (rSlT K) (tVar 0) (tPart (tC (V.int 1))) tNoPart) tNil)) { nx := fun _ H' => Q .non H', rt := Q } (L2.start ["form"] [V.ref a]) (upd H t o)) := by
    intro ep o
    refine ⟨_, rfl, _, rfl, _, _, rfl, sqt_im hq (mt o), nw1 l1, fun p hp => ?_⟩
    have e : cutV ((wd :: ps).map V.str) (some 1) none = ps.map V.str := cut_from (xs := (wd :: ps).map V.str) 1
    refine ⟨p, ps.map V.str, rfl, .inr ?_, fun l hl => ?_⟩
    · rw [e]
      exact sqt_of upd_same
    · have k2 := (kt o).new (o := .tup (cutV ((wd :: ps).map V.str) (some 1) none)) hp
      exact k l (k2.free0 hl) _ (k2.new hl) (by rw [ep]; exact upd_same)
  cases f with
  | none =>
    cases el
    exact iteY (by decide +kernel) ⟨by decide, fun l hl => k l ((kt _).free0 hl) _ ((kt _).new hl) upd_same⟩
  | any =>
    cases el
    exact iteY (by decide +kernel) ⟨by decide, fun l hl => k l ((kt _).free0 hl) _ ((kt _).new hl) upd_same⟩
  | signs z =>
    cases el
    exact iteY (by decide +kernel) ⟨by decide, fun l hl => k l ((kt _).free0 hl) _ ((kt _).new hl) upd_same⟩
  | row ps =>
    cases el
    exact iteN (by decide +kernel) (tail rfl _)
  | first ps =>
    cases el
    exact iteN (by decide +kernel) (tail rfl _)
  | again q =>
    cases el
    exact iteN (by decide +kernel) (tail rfl _)
  | ahead q =>
    cases el
    exact iteN (by decide +kernel) (tail rfl _)
  | not q =>
    cases el
    exact iteN (by decide +kernel) (tail rfl _)
def spIsRule : Sp := fun vs H Q _ => ∃ (a fa : Addr) (n : Str) (f : Fm), vs = [.ref a] ∧ H a = some (.tup [.str n, .ref fa]) ∧ okN n ∧ FormAt H fa f ∧ f.ok ∧ ∀ H', Keeps [] H H' → Q (.bl true) H'
theorem ok_is_rule (T : Tp K mg) (c_is_name : Calls P w K mg base k "is_name" ["thing"] spIsName) (c_is_form : Calls P w K mg base k "is_form" ["thing"] spIsForm) : Calls P w K mg base (k + 1) "is_rule" ["thing"] spIsRule := by
  have sc : FnScope ["thing"] ["thing"] d_is_rule.scope := ⟨rfl, rfl, rfl, by decide +kernel, rfl, by decide +kernel, by decide +kernel⟩
  refine mkCall T in_is_rule rfl mg_is_rule rfl rfl sc (fun _ _ _ _ _ _ us hl => match us, hl with | [_], _ => rfl) (fun vs H Q E h => ?_) (fun f cdv A outer s H vs Q E hr h => ?_)
  · obtain ⟨a, fa, n, f, rfl, _⟩ := h
    rfl
  obtain ⟨a, fa, n, f, rfl, ha, hn, hf, ok, k⟩ := h
  refine ⟨_, (pss_one (ps_ret (pe_and (pe_callB call_isi (by rfl) (T.fre _ mf_isinstance) bt_isinstance (pa_cons (pv 0) (pa_cons (pe_bltn (v := .ty "tuple") (by rfl) (T.fre _ mf_tuple) bt_tuple rfl) pa_nil))) (pe_and (pe_cmpR op_eq (pe_callB call_len_seq (by rfl) (T.fre _ mf_len) bt_len (pa_cons (pv 0) pa_nil)) pe_int (nomark _)) (pe_and (pcall c_is_name hr (pa_cons (pe_ix ix_tup (pv 0) pe_int (fun _ _ => rfl)) pa_nil)) (pe_one (pcall c_is_form hr (pa_cons (pe_ix ix_tup (pv 0) pe_int (fun _ _ => rfl)) pa_nil)))))))), ?_⟩
  refine ⟨_, rfl, _, _, _, _, _, rfl, .ty _, .base (.tup ha), rfl, _, rfl, iteT ?_⟩
  refine ⟨_, rfl, _, _, rfl, .inr (sqt_of ha), rfl, _, rfl, iteY rfl ?_⟩
  refine ⟨_, rfl, _, _, _, _, rfl, rfl, sqt_of ha, at_0 rfl, n, rfl, hn, fun H1 k1 m1 => ⟨_, rfl, iteT ?_⟩⟩
  exact ⟨_, rfl, _, _, _, _, rfl, rfl, sqt_of (k1.same ha), at_1 rfl, fa, f, rfl, hf.imm m1, ok, fun H2 k2 m2 => k _ (k1.trans k2)⟩
def spIsBook : Sp := fun vs H Q _ => ∃ (a : Addr) (bs : List (Str × Fm)), vs = [.ref a] ∧ BookAt H a bs ∧ bs.length ≤ 1000 ∧ (∀ b ∈ bs, okN b.1 ∧ b.2.ok) ∧ Ris1 (bs.map (·.1)) ∧ ∀ H', Keeps [] H H' → Q (.bl true) H'
theorem getM {α β : Type} {l : List α} {f : α → β} {i : Nat} {y : β} (h : (l.map f)[i]? = some y) : ∃ x, l[i]? = some x ∧ x ∈ l ∧ y = f x := by
  rw [List.getElem?_map] at h
  cases e : l[i]? with
  | none => rw [e] at h; cases h
  | some x =>
    rw [e] at h
    exact ⟨x, rfl, List.mem_of_getElem? e, (Option.some.inj h).symm⟩
theorem ok_is_book (T : Tp K mg) (c_is_rule : Calls P w K mg base k "is_rule" ["thing"] spIsRule) : Calls P w K mg base (k + 1) "is_book" ["thing"] spIsBook := by
  have sc : FnScope ["thing", "row", "names", "name", "form", "one", "other"] ["thing"] d_is_book.scope := ⟨rfl, rfl, rfl, by decide +kernel, rfl, by decide +kernel, by decide +kernel⟩
  refine mkCall T in_is_book rfl mg_is_book rfl rfl sc (fun _ _ _ _ _ _ us hl => match us, hl with | [_], _ => rfl) (fun vs H Q E h => ?_) (fun f cdv A outer s H vs Q E hr h => ?_)
  · obtain ⟨a, bs, rfl, _⟩ := h
    rfl
  obtain ⟨a, bs, rfl, ⟨o, es, ee, ha, he⟩, hl, ok, ris, k⟩ := h
  refine ⟨_, (pss_cons (ps_if (pt_not (pt_val (pe_callB call_isi (by rfl) (T.fre _ mf_isinstance) bt_isinstance (pa_cons (pv 0) (pa_cons (pe_bltn (v := .ty "list") (by rfl) (T.fre _ mf_list) bt_list rfl) pa_nil))))) (pss_one (ps_ret pe_bl)) pss_nil)
      (pss_cons (ps_for PassesOwn.never rfl (pi_list (pv 0)) (pg_name (i := 1) sc.nd rfl (by first | exact Or.inl rfl | exact Or.inr rfl))
        (pss_one (ps_if (pt_not (pt_val (pcall c_is_rule hr (pa_cons (pv 1) pa_nil)))) (pss_one (ps_ret pe_bl)) pss_nil)))
      (pss_cons (ps_setLc (i := 2) (own := [("name", 3), ("form", 4)]) rfl sc.nd rfl rfl (sw_true rfl rfl rfl (by kernel_rfl)) (pi_list (pv 0)) (blkOk_by (by kernel_rfl)) (fun _ _ _ _ _ => (pg_tupK (K := K) (n := 2) rfl rfl (pgs_cons (pg_name (i := 3) sc.nd rfl (by first | exact Or.inl rfl | exact Or.inr rfl)) (pgs_cons (pg_name (i := 4) sc.nd rfl (by first | exact Or.inl rfl | exact Or.inr rfl)) pgs_nil)))) (fun _ _ _ _ _ => pts_nil) (fun _ _ _ _ _ => (pv 3)))
      (pss_one (ps_ret (pe_callB (cr_all rfl) (by rfl) (T.fre _ mf_all) bt_all (pa_cons (pe_lc (own := [("one", 5), ("other", 6)]) rfl sc.nd (pi_zip (by rfl) (T.fre _ mf_zip) (pa_cons (pv 2) (pa_cons (pe_slice sl_list (pv 2) (po_some pe_int) po_none) pa_nil))) (blkOk_by (by kernel_rfl)) (fun _ _ _ _ _ => (pg_tupK (K := K) (n := 2) rfl rfl (pgs_cons (pg_name (i := 5) sc.nd rfl (by first | exact Or.inl rfl | exact Or.inr rfl)) (pgs_cons (pg_name (i := 6) sc.nd rfl (by first | exact Or.inl rfl | exact Or.inr rfl)) pgs_nil)))) (fun _ _ _ _ _ => pts_nil) (fun _ _ _ _ _ => (pe_cmpR op_lt_str (pv 5) (pv 6) (nomark _)))) pa_nil))))))), ?_⟩
  have sq : ∀ H', Keeps [] H H' → SqL K H' a (es.map fun e => .ref e.2) := fun H' k' => sq_fr (k'.same ha)
  have les : es.length ≤ 100000 := by
    have : es.length = bs.length := by rw [← ee, List.length_map]
    omega
  refine ⟨_, rfl, _, _, _, _, _, rfl, .ty _, .base (.frz ha), rfl, _, rfl, iteF ?_⟩
  refine ⟨_, rfl, _, rfl, ⟨_, sq _ (Keeps.refl _ _)⟩, ?_⟩
  refine for_it walk_list (fun i σ H' => ∃ v, σ = [some (.ref a), v, none, none, none, none, none] ∧ Keeps [] H H' ∧ Imm H H') ⟨none, rfl, Keeps.refl _ _, Imm.refl _⟩ (fun i σ H' _ ⟨v, _, k', _⟩ => sq _ k') ?_ ?_
  · rintro i x σ H1 H1' hi ⟨v, rfl, k1, m1⟩ ⟨rfl, hx⟩
    obtain ⟨e, _, hm, rfl⟩ := getM hx
    obtain ⟨fa, q1, q2⟩ := he e hm
    have hb : e.1 ∈ bs := by rw [← ee]; exact List.mem_map.mpr ⟨e, hm, rfl⟩
    refine ⟨_, rfl, e.2, fa, e.1.1, e.1.2, rfl, m1.tup q1, (ok _ hb).1, q2.imm m1, (ok _ hb).2, fun H2 k2 m2 => ⟨_, rfl, iteF ?_⟩⟩
    exact ⟨_, rfl, k1.trans k2, m1.trans m2⟩
  rintro σ H1 ⟨v, rfl, k1, m1⟩
  refine ⟨_, rfl, _, rfl, ⟨_, sq _ k1⟩, fun D hD => lc_fun es (fun _ => true) V.str (fun e => e.1.1) walk_list (by rw [List.length_map]) les hD (fun H' k' _ => sq _ (k1.trans k')) ?_ ?_⟩
  · rintro i y x H2 H2' hy k2 m2 ⟨rfl, hx⟩ R N hR _
    obtain ⟨e, he1, hm, rfl⟩ := getM hx
    obtain rfl : e = y := Option.some.inj (he1.symm.trans hy)
    obtain ⟨fa, q1, q2⟩ := he e hm
    exact ⟨e.2, _, rfl, sqt_of ((m1.trans m2).tup q1), rfl, _, _, rfl, _, _, rfl, rfl, rfl, _, rfl, hR rfl _ (Keeps.refl _ _) (Imm.refl _)⟩
  intro H2 k2 m2 e2
  rw [filter_all_true] at e2
  have en : (es.map fun e => e.1.1) = bs.map (·.1) := by rw [← ee, List.map_map]; rfl
  rw [en] at e2
  have k2' := k1.trans k2
  refine ⟨_, rfl, _, rfl, _, rfl, _, _, rfl, SqL.of e2, fun p hp => ?_⟩
  have ec : cutV ((bs.map (·.1)).map V.str) (some 1) none = ((bs.map (·.1)).drop 1).map V.str := by
    rw [show (1 : Int) = ((1 : Nat) : Int) from rfl, cut_from, List.map_drop]
  rw [ec]
  have e3 : upd H2 p (.lst (((bs.map (·.1)).drop 1).map V.str)) D = some (.lst ((bs.map (·.1)).map V.str)) := by
    rw [upd_ne (ne_of_none e2 hp)]
    exact e2
  have k3 := k2'.new (o := .lst (((bs.map (·.1)).drop 1).map V.str)) hp
  generalize hH3 : upd H2 p (.lst (((bs.map (·.1)).drop 1).map V.str)) = H3 at e3 k3 ⊢
  have e4 : H3 p = some (.lst (((bs.map (·.1)).drop 1).map V.str)) := by rw [← hH3]; exact upd_same
  refine ⟨D, p, _, _, rfl, SqL.of e3, SqL.of e4, fun D2 hD2 => lc_map (walk_zip rfl) V.bl (fun _ => true) ?_ hD2 (fun H' k' _ => ⟨SqL.of (k'.same e3), SqL.of (k'.same e4)⟩) ?_ ?_⟩
  · rw [List.length_map]
    refine Nat.le_trans (Nat.min_le_left _ _) ?_
    rw [List.length_map]
    omega
  · rintro i x H4 H4' hi k4 m4 ⟨t, x1, y1, rfl, ht, rfl, h1, h2⟩ R hR
    obtain ⟨n1, g1, _, rfl⟩ := getM h1
    obtain ⟨n2, g2, _, rfl⟩ := getM h2
    refine ⟨t, _, rfl, sqt_of upd_same, rfl, _, _, rfl, _, _, rfl, rfl, rfl, _, rfl, _, rfl, _, _, rfl, rfl, ?_⟩
    have lt : slt n1 n2 = true := by
      rw [List.getElem?_drop] at g2
      obtain ⟨l1, a1⟩ := List.getElem?_eq_some_iff.mp g1
      obtain ⟨l2, a2⟩ := List.getElem?_eq_some_iff.mp g2
      rw [← a1, ← a2]
      exact List.pairwise_iff_getElem.mp ris i (1 + i) l1 l2 (by omega)
    exact qb' lt (hR _ ((Keeps.refl _ _).new ht) ((Imm.refl _).new ht))
  · intro H4 k4 m4 e5
    refine ⟨D2, _, rfl, SqL.of e5, ?_⟩
    rw [all_true]
    exact k _ (k3.trans k4)
end
end Kr
namespace Kr
open PySem PySem.Spec PyProof.Rows L2
section
variable {P : Program} {w : World} {K : PySem.W.Frag} {mg : Str → Option Value} {base : Heap} {k : Nat}
abbrev inL (xs : List Str) : Str → Bool := fun x => decide (x ∈ xs)
def spMayBe : Sp := fun vs H Q _ => ∃ (a d : Addr) (f : Fm) (xs : List Str), vs = [.ref a, .ref d] ∧ FormAt H a f ∧ f.ok ∧ FndAt H d xs ∧ ∀ H', Keeps [] H H' → Q (.bl (mbe (inL xs) f)) H'
theorem parts_few {f : Fm} (h : f.ok) : f.parts.length ≤ 8 := by
  cases f with
  | row ps => exact h.2.1
  | first ps => exact h.2.1
  | again _ => exact (by decide : 1 ≤ 8)
  | ahead _ => exact (by decide : 1 ≤ 8)
  | not _ => exact (by decide : 1 ≤ 8)
  | _ => exact Nat.zero_le _
theorem ok_may_be_empty (T : Tp K mg) (c_parts_of : Calls P w K mg base k "parts_of" ["form"] spPartsOf) : Calls P w K mg base (k + 1) "may_be_empty" ["form", "empty"] spMayBe := by
  have sc : FnScope ["form", "empty", "part"] ["form", "empty"] d_may_be_empty.scope := ⟨rfl, rfl, rfl, by decide +kernel, rfl, by decide +kernel, by decide +kernel⟩
  refine mkCall T in_may_be_empty rfl mg_may_be_empty rfl rfl sc (fun _ _ _ _ _ _ us hl => match us, hl with | [_, _], _ => rfl) (fun vs H Q E h => ?_) (fun f cdv A outer s H vs Q E hr h => ?_)
  · obtain ⟨a, d, f, xs, rfl, _⟩ := h
    rfl
  obtain ⟨a, d, f, xs, rfl, hf, ok, hd, k⟩ := h
  refine ⟨_, (pss_cons (ps_if (pt_cmpR op_eq (pe_ix ix_tup (pv 0) pe_int (fun _ _ => rfl)) pe_str (nomark _)) (pss_one (ps_ret (pe_callB (cr_all rfl) (by rfl) (T.fre _ mf_all) bt_all (pa_cons (pe_lc (own := [("part", 2)]) rfl sc.nd (pi_list (pcall c_parts_of hr (pa_cons (pv 0) pa_nil))) (blkOk_by (by kernel_rfl)) (fun _ _ _ _ _ => (pg_name (i := 2) sc.nd rfl (by first | exact Or.inl rfl | exact Or.inr rfl))) (fun _ _ _ _ _ => pts_nil) (fun _ _ _ _ _ => (pe_cmp (pc_din (hu_of hr) (pv 2) (pv 1)) rfl))) pa_nil)))) pss_nil)
      (pss_cons (ps_if (pt_cmpR op_eq (pe_ix ix_tup (pv 0) pe_int (fun _ _ => rfl)) pe_str (nomark _)) (pss_one (ps_ret (pe_callB (cr_any rfl) (by rfl) (T.fre _ mf_any) bt_any (pa_cons (pe_lc (own := [("part", 2)]) rfl sc.nd (pi_list (pcall c_parts_of hr (pa_cons (pv 0) pa_nil))) (blkOk_by (by kernel_rfl)) (fun _ _ _ _ _ => (pg_name (i := 2) sc.nd rfl (by first | exact Or.inl rfl | exact Or.inr rfl))) (fun _ _ _ _ _ => pts_nil) (fun _ _ _ _ _ => (pe_cmp (pc_din (hu_of hr) (pv 2) (pv 1)) rfl))) pa_nil)))) pss_nil)
      (pss_one (ps_ret (pe_cmpR op_notIn_seq (pe_ix ix_tup (pv 0) pe_int (fun _ _ => rfl)) (pe_tup (pa_cons pe_str (pa_cons pe_str pa_nil))) (by rfl)))))), ?_⟩
  have hq : SqT K H a (f.l.map V.str) := sqt_of hf
  obtain ⟨wd, ps, el⟩ : ∃ wd ps, f.l = wd :: ps := by cases f <;> exact ⟨_, _, rfl⟩
  rw [el] at hq
  refine ⟨_, rfl, _, _, _, _, rfl, rfl, hq, at_0 rfl, rfl, _, rfl, ?_⟩
  have l8 := parts_few ok
  have nx : mbe (inL xs) f = decide (wd ∉ [("any" : Str), "signs"]) → (∀ (A B : Prop), A → (if decide (V.str wd = V.str "x") = true then A else A)) → True := fun _ _ => trivial
  have lastN : ∀ b : Bool, mbe (inL xs) f = b → (!inV (.str wd) [.str "any", .str "signs"]) = b → tRet (tOp (rIn K true) (tOp (rIxT K) (tVar 0) (tC (V.int 0))) (tTup (tCons (tC (V.str "any")) (tCons (tC (V.str "signs")) tNil)))) { nx := fun _ H' => Q .non H', rt := Q } (L2.start ["form", "empty", "part"] [V.ref a, V.ref d]) H := by
    intro b e1 e2
    refine ⟨_, rfl, _, _, _, _, rfl, rfl, hq, at_0 rfl, by decide, fun t ht => ⟨_, _, rfl, .inr (sqt_of upd_same), rfl, rfl, ?_⟩⟩
    have e3 := k (upd H t (.tup [.str "any", .str "signs"])) ((Keeps.refl _ _).new ht)
    rw [e1, ← e2] at e3
    exact e3
  cases f with
  | row ps =>
    cases el
    refine iteY (by decide +kernel) ?_
    refine ⟨_, rfl, a, _, rfl, hf, fun l hl H1 k1 e1 m1 => ⟨_, rfl, ⟨_, SqL.of e1⟩, fun D hD => lc_fun ps (fun _ => true) V.bl (inL xs) walk_list (by rw [List.length_map]; rfl) (by show ps.length ≤ 100000; have : ps.length ≤ 8 := l8; omega) hD (fun H' k' _ => SqL.of (k'.same e1)) ?_ ?_⟩⟩
    · rintro i y x H2 H2' hy k2 m2 ⟨rfl, hx⟩ R N hR _
      obtain ⟨q, h1, _, rfl⟩ := getM hx
      obtain rfl : q = y := Option.some.inj (h1.symm.trans hy)
      refine ⟨rfl, _, rfl, _, rfl, _, _, rfl, (hd.kp (k1.trans k2) (by simp)).get q, ?_⟩
      rw [isSome_if]
      exact hR rfl _ (Keeps.refl _ _) (Imm.refl _)
    · intro H2 k2 m2 e2
      refine ⟨D, _, rfl, SqL.of e2, ?_⟩
      rw [filter_all_true, all_map_id]
      exact k _ (k1.trans k2)
  | first ps =>
    cases el
    refine iteN (by decide +kernel) ?_
    refine ⟨_, rfl, _, _, _, _, rfl, rfl, hq, at_0 rfl, rfl, _, rfl, ?_⟩
    refine iteY (by decide +kernel) ?_
    refine ⟨_, rfl, a, _, rfl, hf, fun l hl H1 k1 e1 m1 => ⟨_, rfl, ⟨_, SqL.of e1⟩, fun D hD => lc_fun ps (fun _ => true) V.bl (inL xs) walk_list (by rw [List.length_map]; rfl) (by show ps.length ≤ 100000; have : ps.length ≤ 8 := l8; omega) hD (fun H' k' _ => SqL.of (k'.same e1)) ?_ ?_⟩⟩
    · rintro i y x H2 H2' hy k2 m2 ⟨rfl, hx⟩ R N hR _
      obtain ⟨q, h1, _, rfl⟩ := getM hx
      obtain rfl : q = y := Option.some.inj (h1.symm.trans hy)
      refine ⟨rfl, _, rfl, _, rfl, _, _, rfl, (hd.kp (k1.trans k2) (by simp)).get q, ?_⟩
      rw [isSome_if]
      exact hR rfl _ (Keeps.refl _ _) (Imm.refl _)
    · intro H2 k2 m2 e2
      refine ⟨D, _, rfl, SqL.of e2, ?_⟩
      rw [filter_all_true, any_map_id]
      exact k _ (k1.trans k2)
  | none =>
    cases el
    refine iteN (by decide +kernel) ?_
    refine ⟨_, rfl, _, _, _, _, rfl, rfl, hq, at_0 rfl, rfl, _, rfl, iteN (by decide +kernel) (lastN true rfl (by decide +kernel))⟩
  | any =>
    cases el
    refine iteN (by decide +kernel) ?_
    refine ⟨_, rfl, _, _, _, _, rfl, rfl, hq, at_0 rfl, rfl, _, rfl, iteN (by decide +kernel) (lastN false rfl (by decide +kernel))⟩
  | signs z =>
    cases el
    refine iteN (by decide +kernel) ?_
    refine ⟨_, rfl, _, _, _, _, rfl, rfl, hq, at_0 rfl, rfl, _, rfl, iteN (by decide +kernel) (lastN false rfl (by decide +kernel))⟩
  | again z =>
    cases el
    refine iteN (by decide +kernel) ?_
    refine ⟨_, rfl, _, _, _, _, rfl, rfl, hq, at_0 rfl, rfl, _, rfl, iteN (by decide +kernel) (lastN true rfl (by decide +kernel))⟩
  | ahead z =>
    cases el
    refine iteN (by decide +kernel) ?_
    refine ⟨_, rfl, _, _, _, _, rfl, rfl, hq, at_0 rfl, rfl, _, rfl, iteN (by decide +kernel) (lastN true rfl (by decide +kernel))⟩
  | not z =>
    cases el
    refine iteN (by decide +kernel) ?_
    refine ⟨_, rfl, _, _, _, _, rfl, rfl, hq, at_0 rfl, rfl, _, rfl, iteN (by decide +kernel) (lastN true rfl (by decide +kernel))⟩
def spFirstParts : Sp := fun vs H Q _ => ∃ (a d : Addr) (f : Fm) (xs : List Str), vs = [.ref a, .ref d] ∧ FormAt H a f ∧ f.ok ∧ FndAt H d xs ∧ ∀ l, H l = none → ∀ H', Keeps [] H H' → H' l = some (.lst ((begins (inL xs) f).map V.str)) → Q (.ref l) H'
theorem ok_first_parts (T : Tp K mg) (c_parts_of : Calls P w K mg base k "parts_of" ["form"] spPartsOf) : Calls P w K mg base (k + 1) "first_parts" ["form", "empty"] spFirstParts := by
  have sc : FnScope ["form", "empty", "found", "part"] ["form", "empty"] d_first_parts.scope := ⟨rfl, rfl, rfl, by decide +kernel, rfl, by decide +kernel, by decide +kernel⟩
  refine mkCall T in_first_parts rfl mg_first_parts rfl rfl sc (fun _ _ _ _ _ _ us hl => match us, hl with | [_, _], _ => rfl) (fun vs H Q E h => ?_) (fun f cdv A outer s H vs Q E hr h => ?_)
  · obtain ⟨a, d, f, xs, rfl, _⟩ := h
    rfl
  obtain ⟨a, d, f, xs, rfl, hf, ok, hd, k⟩ := h
  refine ⟨_, (pss_cons (ps_if (pt_cmpR op_ne (pe_ix ix_tup (pv 0) pe_int (fun _ _ => rfl)) pe_str (nomark _)) (pss_one (ps_ret (pcall c_parts_of hr (pa_cons (pv 0) pa_nil)))) pss_nil)
      (pss_cons (ps_set (i := 2) sc.nd rfl (by first | exact Or.inl rfl | exact Or.inr rfl) (pe_lst pa_nil))
      (pss_cons (ps_for PassesOwn.never rfl (pi_list (pcall c_parts_of hr (pa_cons (pv 0) pa_nil))) (pg_name (i := 3) sc.nd rfl (by first | exact Or.inl rfl | exact Or.inr rfl))
        (pss_cons (ps_expr (pe_bm PySem.F.plainAttrs_list PySem.F.slot_list_append PySem.F.type_list_append mt_append (pv 2) (pa_cons (pv 3) pa_nil)))
      (pss_one (ps_if (pt_cmp (pc_dnotin (hu_of hr) (pv 3) (pv 1)) rfl) (pss_one (ps_ret (pv 2))) pss_nil))))
      (pss_one (ps_ret (pv 2)))))), ?_⟩
  have hq : SqT K H a (f.l.map V.str) := sqt_of hf
  obtain ⟨wd, ps, el⟩ : ∃ wd ps, f.l = wd :: ps := by cases f <;> exact ⟨_, _, rfl⟩
  rw [el] at hq
  have l8 := parts_few ok
  refine ⟨_, rfl, _, _, _, _, rfl, rfl, hq, at_0 rfl, rfl, _, rfl, ?_⟩
  have same : begins (inL xs) f = f.parts → tRet (tCallI spPartsOf (tCons (tVar 0) tNil)) { nx := fun _ H' => Q .non H', rt := Q } (L2.start ["form", "empty", "found", "part"] [V.ref a, V.ref d]) H := by
    intro e
    exact ⟨_, rfl, a, f, rfl, hf, fun l hl H1 k1 e1 _ => k l hl H1 k1 (by rw [e]; exact e1)⟩
  cases f with
  | row ps =>
    cases el
    refine iteN (by decide +kernel) ?_
    refine ⟨by decide, fun D hD => ?_⟩
    have kD := (Keeps.refl [] H).new (o := .lst []) hD
    have mD := (Imm.refl H).new (o := .lst []) hD
    refine ⟨_, rfl, a, _, rfl, hf.imm mD, fun l hl H1 k1 e1 m1 => ⟨_, rfl, ⟨_, SqL.of e1⟩, ?_⟩⟩
    have hl1 : H l = none := kD.free0 hl
    have lD : l ≠ D := fun e => by rw [e, upd_same] at hl; cases hl
    refine for_it walk_list (fun i σ H' => ∃ v, σ = [some (.ref a), some (.ref d), some (.ref D), v] ∧ Keeps [] H H' ∧ H' l = some (.lst (ps.map V.str)) ∧ H' D = some (.lst ((ps.take i).map V.str)) ∧ (ps.take i).all (inL xs) = true) ⟨none, rfl, kD.trans k1, e1, k1.same upd_same, rfl⟩ (fun i σ H' _ ⟨v, _, _, e, _⟩ => SqL.of e) ?_ ?_
    · rintro i x σ H2 H2' hi ⟨v, rfl, k2, e2, d2, all⟩ ⟨rfl, hx⟩
      obtain ⟨q, h1, _, rfl⟩ := getM hx
      have hi' : i < ps.length := (List.getElem?_eq_some_iff.mp h1).1
      refine ⟨_, rfl, .inl ⟨rfl, _, SqL.of d2⟩, _, rfl, D, _, _, rfl, rfl, d2, ?_, ?_⟩
      · have : ps.length ≤ 8 := l8
        rw [List.length_map, List.length_take]
        exact line5 (by omega)
      have et : (ps.take i).map V.str ++ [V.str q] = (ps.take (i + 1)).map V.str := by rw [take_snoc h1, List.map_append]; rfl
      rw [et]
      have k3 := k2.own (o := .lst ((ps.take (i + 1)).map V.str)) hD
      have e3 : upd H2' D (.lst ((ps.take (i + 1)).map V.str)) l = some (.lst (ps.map V.str)) := by rw [upd_ne lD]; exact e2
      generalize hH3 : upd H2' D (.lst ((ps.take (i + 1)).map V.str)) = H3 at k3 e3 ⊢
      have d3 : H3 D = some (.lst ((ps.take (i + 1)).map V.str)) := by rw [← hH3]; exact upd_same
      refine ⟨_, rfl, _, rfl, _, _, rfl, (hd.kp k3 (by simp)).get q, _, rfl, ?_⟩
      rw [isSome_if]
      by_cases hq2 : q ∈ xs
      · rw [decide_eq_true hq2]
        refine iteF ⟨_, rfl, k3, e3, d3, ?_⟩
        rw [take_snoc h1, List.all_append, all]
        simp [inL, hq2]
      · rw [decide_eq_false hq2]
        refine iteT ⟨_, rfl, k D hD H3 k3 ?_⟩
        have e4 : begins (inL xs) (.row ps) = ps.take (i + 1) := upTo_take ps i q all h1 (decide_eq_false hq2)
        rw [e4]
        exact d3
    · rintro σ H2 ⟨v, rfl, k2, e2, d2, all⟩
      rw [List.length_map, List.take_length] at d2 all
      refine ⟨_, rfl, k D hD H2 k2 ?_⟩
      have e4 : begins (inL xs) (.row ps) = ps := upTo_all ps all
      rw [e4]
      exact d2
  | none => cases el; exact iteY (by decide +kernel) (same rfl)
  | any => cases el; exact iteY (by decide +kernel) (same rfl)
  | signs z => cases el; exact iteY (by decide +kernel) (same rfl)
  | first ps => cases el; exact iteY (by decide +kernel) (same rfl)
  | again z => cases el; exact iteY (by decide +kernel) (same rfl)
  | ahead z => cases el; exact iteY (by decide +kernel) (same rfl)
  | not z => cases el; exact iteY (by decide +kernel) (same rfl)
/-- what E holds is closed under the rules of bs -/
def ClosedB (bs : List (Str × Fm)) (E : Str → Bool) : Prop := ∀ b ∈ bs, mbe E b.2 = true → E b.1 = true
def spEmptiness : Sp := fun vs H Q _ => ∃ (a : Addr) (bs : List (Str × Fm)), vs = [.ref a] ∧ BookAt H a bs ∧ bs.length ≤ 1000 ∧ (∀ b ∈ bs, b.2.ok) ∧
  ∀ d xs H', H d = none → Keeps [] H H' → H' d = some (.dK (mkD nmK (fun _ => .bl true) xs)) → (∀ E, ClosedB bs E → ∀ x ∈ xs, E x = true) → Q (.ref d) H'
theorem ok_emptiness (T : Tp K mg) (c_may_be_empty : Calls P w K mg base k "may_be_empty" ["form", "empty"] spMayBe) : Calls P w K mg base (k + 1) "emptiness" ["book"] spEmptiness := by
  have sc : FnScope ["book", "found", "many", "name", "form"] ["book"] d_emptiness.scope := ⟨rfl, rfl, rfl, by decide +kernel, rfl, by decide +kernel, by decide +kernel⟩
  refine mkCall T in_emptiness rfl mg_emptiness rfl rfl sc (fun _ _ _ _ _ _ us hl => match us, hl with | [_], _ => rfl) (fun vs H Q E h => ?_) (fun f cdv A outer s H vs Q E hr h => ?_)
  · obtain ⟨a, bs, rfl, _⟩ := h
    rfl
  obtain ⟨a, bs, rfl, ⟨o, es, ee, ha, he⟩, hl, ok, k⟩ := h
  refine ⟨_, (pss_cons (ps_set (i := 1) sc.nd rfl (by first | exact Or.inl rfl | exact Or.inr rfl) pe_dnewK)
      (pss_cons (ps_set (i := 2) sc.nd rfl (by first | exact Or.inl rfl | exact Or.inr rfl) (pe_un un_neg pe_int))
      (pss_cons (ps_while PassesOwn.never (pt_cmpR op_lt (pv 2) (pe_callB call_lenDR (by rfl) (T.fre _ mf_len) bt_len (pa_cons (pv 1) pa_nil)) (nomark _)) (pss_cons (ps_set (i := 2) sc.nd rfl (by first | exact Or.inl rfl | exact Or.inr rfl) (pe_callB call_lenDR (by rfl) (T.fre _ mf_len) bt_len (pa_cons (pv 1) pa_nil)))
      (pss_one (ps_for PassesOwn.never rfl (pi_list (pv 0)) (pg_tupK (K := K) (n := 2) rfl rfl (pgs_cons (pg_name (i := 3) sc.nd rfl (by first | exact Or.inl rfl | exact Or.inr rfl)) (pgs_cons (pg_name (i := 4) sc.nd rfl (by first | exact Or.inl rfl | exact Or.inr rfl)) pgs_nil)))
        (pss_one (ps_if (pt_val (pcall c_may_be_empty hr (pa_cons (pv 4) (pa_cons (pv 1) pa_nil)))) (pss_one (ps_dput (hu_of hr) (pv 1) (pv 3) pe_bl rfl)) pss_nil))))))
      (pss_one (ps_ret (pv 1)))))), ?_⟩
  have les : es.length = bs.length := by rw [← ee, List.length_map]
  intro d hd
  refine ⟨_, rfl, ?_⟩
  have kd := (Keeps.refl [] H).new (o := .dK []) hd
  have md := (Imm.refl H).new (o := .dK []) hd
  let Good := fun (xs : List Str) => xs.Nodup ∧ (∀ x ∈ xs, x ∈ bs.map (·.1)) ∧ ∀ E, ClosedB bs E → ∀ x ∈ xs, E x = true
  have small : ∀ xs, Good xs → xs.length ≤ bs.length := fun xs g => by
    have := nodup_len xs (bs.map (·.1)) g.1 g.2.1
    rw [List.length_map] at this
    exact this
  refine ⟨fun m σ H' => ∃ (xs : List Str) (many : Int) (v3 v4 : Option V), σ = [some (.ref a), some (.ref d), some (.int many), v3, v4] ∧ Keeps [] H H' ∧ Imm H H' ∧ H' d = some (.dK (mkD nmK (fun _ => .bl true) xs)) ∧ Good xs ∧ -1 ≤ many ∧ m = ((bs.length : Int) - many).toNat, ⟨_, [], -1, none, none, rfl, kd, md, upd_same, ⟨List.nodup_nil, by simp, by simp⟩, by omega, rfl⟩, ?_⟩
  rintro m σ H1 ⟨xs, many, v3, v4, rfl, k1, m1, e1, g, hm, rfl⟩
  refine ⟨_, rfl, _, rfl, _, _, rfl, .inl e1, _, _, rfl, rfl, _, rfl, ?_⟩
  refine iteB (fun hlt => ?_) (fun _ => ?_)
  · have hlt' := of_decide_eq_true hlt
    have hs := small xs g
    rw [mkD_len] at hlt'
    refine ⟨fun σ' H' => ∃ (xs' : List Str) (v3 v4 : Option V), σ' = [some (.ref a), some (.ref d), some (.int (xs.length : Nat)), v3, v4] ∧ Keeps [] H H' ∧ Imm H H' ∧ H' d = some (.dK (mkD nmK (fun _ => .bl true) xs')) ∧ Good xs', ?_, ?_⟩
    · rintro σ' H' ⟨xs', w3, w4, rfl, k2, m2, e2, g2⟩
      exact ⟨_, by omega, xs', _, w3, w4, rfl, k2, m2, e2, g2, by omega, rfl⟩
    refine ⟨_, rfl, _, _, rfl, .inl e1, ?_⟩
    rw [mkD_len]
    refine ⟨_, rfl, _, rfl, ⟨_, sq_fr (k1.same ha)⟩, ?_⟩
    refine for_it walk_list (fun i σ' H' => ∃ (xs' : List Str) (v3 v4 : Option V), σ' = [some (.ref a), some (.ref d), some (.int (xs.length : Nat)), v3, v4] ∧ Keeps [] H H' ∧ Imm H H' ∧ H' d = some (.dK (mkD nmK (fun _ => .bl true) xs')) ∧ Good xs') ⟨xs, v3, v4, rfl, k1, m1, e1, g⟩ (fun i σ H' _ ⟨_, _, _, _, k', _⟩ => sq_fr (k'.same ha)) ?_ (fun _ _ h => h)
    rintro i x σ2 H2 H2' hi ⟨ys, w3, w4, rfl, k2, m2, e2, g2⟩ ⟨rfl, hx⟩
    obtain ⟨e, _, hem, rfl⟩ := getM hx
    obtain ⟨fa, q1, q2⟩ := he e hem
    have hb : e.1 ∈ bs := by rw [← ee]; exact List.mem_map.mpr ⟨e, hem, rfl⟩
    refine ⟨e.2, _, rfl, sqt_of (m2.tup q1), rfl, _, _, rfl, _, _, rfl, rfl, ?_⟩
    refine ⟨_, rfl, _, rfl, fa, d, e.1.2, ys, rfl, q2.imm m2, ok _ hb, .inl e2, fun H3 k3 m3 => ⟨_, rfl, ?_⟩⟩
    refine iteB (fun hme => ?_) (fun _ => ⟨ys, _, _, rfl, k2.trans k3, m2.trans m3, k3.same e2, g2⟩)
    have hy := small ys g2
    refine ⟨_, rfl, _, rfl, d, _, rfl, DPut.k (k := .inr e.1.1) (k3.same e2) ?_, ?_⟩
    · rw [mkD_len]
      exact line5 (by omega)
    refine ⟨addK ys e.1.1, _, _, rfl, (k2.trans k3).own hd, (m2.trans m3).mut (k3.same e2), ?_, addK_nodup g2.1, fun x hx => ?_, fun E hE x hx => ?_⟩
    · rw [put_true]
      exact upd_same
    · rcases mem_addK.mp hx with z | z
      · exact g2.2.1 x z
      · rw [z]
        exact List.mem_map.mpr ⟨_, hb, rfl⟩
    · rcases mem_addK.mp hx with z | z
      · exact g2.2.2 E hE x z
      · rw [z]
        exact hE _ hb (mbe_mono (fun y hy => g2.2.2 E hE y (of_decide_eq_true hy)) _ hme)
  · refine ⟨_, rfl, k d xs _ hd k1 e1 g.2.2⟩
/-- the book's rules, by name -/
def spFollowers : Sp := fun vs H Q _ => ∃ (a : Addr) (bs : List (Str × Fm)), vs = [.ref a] ∧ BookAt H a bs ∧ bs.length ≤ 1000 ∧ (bs.map (·.1)).Nodup ∧ (∀ b ∈ bs, b.2.ok) ∧
  ∀ d (ad : Str → Addr) (fl : Str → List Str) H', H d = none → Keeps [] H H' → H' d = some (.dK (mkD nmK (fun x => .ref (ad x)) (bs.map (·.1)))) → (∀ x ∈ bs.map (·.1), StrsAt H' (ad x) (fl x) ∧ (fl x).length ≤ 8) →
    (∀ E, ClosedB bs E → ∀ b ∈ bs, ∀ q ∈ fl b.1, q ∈ begins E b.2 ∧ q ∈ bs.map (·.1)) → Q (.ref d) H'
theorem ok_followers (T : Tp K mg) (c_emptiness : Calls P w K mg base k "emptiness" ["book"] spEmptiness) (c_first_parts : Calls P w K mg base k "first_parts" ["form", "empty"] spFirstParts) : Calls P w K mg base (k + 1) "followers" ["book"] spFollowers := by
  have sc : FnScope ["book", "empty", "names", "found", "name", "form", "part"] ["book"] d_followers.scope := ⟨rfl, rfl, rfl, by decide +kernel, rfl, by decide +kernel, by decide +kernel⟩
  refine mkCall T in_followers rfl mg_followers rfl rfl sc (fun _ _ _ _ _ _ us hl => match us, hl with | [_], _ => rfl) (fun vs H Q E h => ?_) (fun f cdv A outer s H vs Q E hr h => ?_)
  · obtain ⟨a, bs, rfl, _⟩ := h
    rfl
  obtain ⟨a, bs, rfl, ⟨o, es, ee, ha, he⟩, hl, hnd, ok, k⟩ := h
  refine ⟨_, (pss_cons (ps_set (i := 1) sc.nd rfl (by first | exact Or.inl rfl | exact Or.inr rfl) (pcall c_emptiness hr (pa_cons (pv 0) pa_nil)))
      (pss_cons (ps_set (i := 2) sc.nd rfl (by first | exact Or.inl rfl | exact Or.inr rfl) (pe_lc (own := [("name", 4), ("form", 5)]) rfl sc.nd (pi_list (pv 0)) (blkOk_by (by kernel_rfl)) (fun _ _ _ _ _ => (pg_tupK (K := K) (n := 2) rfl rfl (pgs_cons (pg_name (i := 4) sc.nd rfl (by first | exact Or.inl rfl | exact Or.inr rfl)) (pgs_cons (pg_name (i := 5) sc.nd rfl (by first | exact Or.inl rfl | exact Or.inr rfl)) pgs_nil)))) (fun _ _ _ _ _ => pts_nil) (fun _ _ _ _ _ => (pv 4))))
      (pss_cons (ps_set (i := 3) sc.nd rfl (by first | exact Or.inl rfl | exact Or.inr rfl) pe_dnewK)
      (pss_cons (ps_for PassesOwn.never rfl (pi_list (pv 0)) (pg_tupK (K := K) (n := 2) rfl rfl (pgs_cons (pg_name (i := 4) sc.nd rfl (by first | exact Or.inl rfl | exact Or.inr rfl)) (pgs_cons (pg_name (i := 5) sc.nd rfl (by first | exact Or.inl rfl | exact Or.inr rfl)) pgs_nil)))
        (pss_one (ps_dput (hu_of hr) (pv 3) (pv 4) (pe_frz (pe_lc (own := [("part", 6)]) rfl sc.nd (pi_list (pcall c_first_parts hr (pa_cons (pv 5) (pa_cons (pv 1) pa_nil)))) (blkOk_by (by kernel_rfl)) (fun _ _ _ _ _ => (pg_name (i := 6) sc.nd rfl (by first | exact Or.inl rfl | exact Or.inr rfl))) (fun _ _ _ _ _ => (pts_one (pt_cmpR (op_in_seqK (K := K) rfl) (pv 6) (pv 2) (by rfl)))) (fun _ _ _ _ _ => (pv 6)))) rfl)))
      (pss_one (ps_ret (pv 3))))))), ?_⟩
  have les : es.length = bs.length := by rw [← ee, List.length_map]
  refine ⟨_, rfl, a, bs, rfl, ⟨o, es, ee, ha, he⟩, hl, ok, fun d0 xs H0 hd0 k0 e0 sound m0 => ?_⟩
  refine ⟨_, rfl, _, rfl, ⟨_, sq_fr (k0.same ha)⟩, fun D hD => lc_fun es (fun _ => true) V.str (fun e => e.1.1) walk_list (by rw [List.length_map]) (by omega) hD (fun H' k' _ => sq_fr ((k0.trans k').same ha)) ?_ ?_⟩
  · rintro i y x H2 H2' hy k2 m2 ⟨rfl, hx⟩ R N hR _
    obtain ⟨e, he1, hm, rfl⟩ := getM hx
    obtain rfl : e = y := Option.some.inj (he1.symm.trans hy)
    obtain ⟨fa, q1, q2⟩ := he e hm
    exact ⟨e.2, _, rfl, sqt_of ((m0.trans m2).tup q1), rfl, _, _, rfl, _, _, rfl, rfl, rfl, _, rfl, hR rfl _ (Keeps.refl _ _) (Imm.refl _)⟩
  intro H1 k1 m1 e1
  rw [filter_all_true] at e1
  have en : (es.map fun e => e.1.1) = bs.map (·.1) := by rw [← ee, List.map_map]; rfl
  rw [en] at e1
  have k01 := k0.trans k1
  have m01 := m0.trans m1
  intro d hd
  have kd := k01.new (o := .dK []) hd
  have md := m01.new (o := .dK []) hd
  have hdH : H d = none := k01.free0 hd
  have hDd : D ≠ d := ne_of_none e1 hd
  have hd0d : d0 ≠ d := ne_of_none (k1.same e0) hd
  have hD0 : H0 D = none := hD
  have nmi : ∀ i : Nat, (bs.take i).map (·.1) = (bs.map (·.1)).take i := fun i => List.map_take
  refine ⟨_, rfl, _, rfl, ⟨_, sq_fr (kd.same ha)⟩, ?_⟩
  refine for_it (walk_list (xs := es.map fun e => V.ref e.2)) (fun i σ' H' => ∃ (v4 v5 : Option V) (ad : Str → Addr) (fl : Str → List Str), σ' = [some (.ref a), some (.ref d0), some (.ref D), some (.ref d), v4, v5, none] ∧ Keeps [d] (upd H1 d (.dK [])) H' ∧ Imm (upd H1 d (.dK [])) H' ∧
      H' d = some (.dK (mkD nmK (fun x => .ref (ad x)) ((bs.take i).map (·.1)))) ∧ (∀ x ∈ (bs.take i).map (·.1), StrsAt H' (ad x) (fl x) ∧ (fl x).length ≤ 8) ∧
      ∀ E, ClosedB bs E → ∀ b ∈ bs.take i, ∀ q ∈ fl b.1, q ∈ begins E b.2 ∧ q ∈ bs.map (·.1)) ⟨none, none, fun _ => 0, fun _ => [], rfl, Keeps.refl _ _, Imm.refl _, upd_same, by simp, by simp⟩ ?_ ?_ ?_
  · rintro i σ' H' _ ⟨_, _, _, _, _, k', _⟩
    exact sq_fr (k' _ _ (kd.same ha) (fun z => by
      have z := List.mem_singleton.mp z
      rw [z] at ha
      rw [hdH] at ha
      cases ha))
  · rintro i x σ2 H2 H2' hi ⟨w4, w5, ad, fl, rfl, k2, m2, e2, hs, hf⟩ ⟨rfl, hx⟩
    obtain ⟨e, he1, hem, rfl⟩ := getM hx
    obtain ⟨fa, q1, q2⟩ := he e hem
    have hbi : bs[i]? = some e.1 := by rw [← ee, List.getElem?_map, he1]; rfl
    have hb : e.1 ∈ bs := List.mem_of_getElem? hbi
    have mall := md.trans m2
    have kD2 : H2' D = some (.lst ((bs.map (·.1)).map V.str)) := k2 _ _ (by rw [upd_ne hDd]; exact e1) (fun z => hDd (List.mem_singleton.mp z))
    have kd02 : H2' d0 = some (.dK (mkD nmK (fun _ => .bl true) xs)) := k2 _ _ (by rw [upd_ne hd0d]; exact k1.same e0) (fun z => hd0d (List.mem_singleton.mp z))
    refine ⟨e.2, _, rfl, sqt_of (mall.tup q1), rfl, _, _, rfl, _, _, rfl, rfl, ?_⟩
    refine ⟨_, rfl, _, rfl, fa, d0, e.1.2, xs, rfl, q2.imm mall, ok _ hb, .inl kd02, fun l hl H3 k3 e3 m3 => ⟨_, rfl, ⟨_, SqL.of e3⟩, fun D2 hD2 =>
      lc_fun (begins (inL xs) e.1.2) (fun q => decide (q ∈ bs.map (·.1))) V.str id walk_list (by rw [List.length_map]) ?_ hD2 (fun H' k' _ => SqL.of (k'.same e3)) ?_ ?_⟩⟩
    · have := begins_few (inL xs) e.1.2
      have := parts_few (ok _ hb)
      omega
    · rintro j y x H4 H4' hy k4 m4 ⟨rfl, hx⟩ R N hR hN
      obtain ⟨q, h1, _, rfl⟩ := getM hx
      obtain rfl : q = y := Option.some.inj (h1.symm.trans hy)
      refine ⟨rfl, _, rfl, _, rfl, D, _, rfl, .inl (SqL.of ((k3.trans k4).same kD2)), rfl, flat_strs _, _, rfl, ?_⟩
      rw [if_neg Bool.false_ne_true, inV_str]
      exact iteB (fun hb2 => ⟨_, rfl, hR hb2 _ (Keeps.refl _ _) (Imm.refl _)⟩) (fun hb2 => hN hb2 _ (Keeps.refl _ _) (Imm.refl _))
    · intro H4 k4 m4 e4
      rw [List.map_id] at e4
      refine ⟨D2, _, rfl, e4, trivial, fun od => ?_⟩
      have hnew : e.1.1 ∉ (bs.take i).map (·.1) := by
        rw [nmi]
        intro hz
        obtain ⟨j, hj⟩ := List.mem_iff_getElem?.mp hz
        rw [List.getElem?_take] at hj
        split at hj
        · rename_i hji
          have hi2 : (bs.map (·.1))[i]? = some e.1.1 := by rw [List.getElem?_map, hbi]; rfl
          have hlt : j < (bs.map (·.1)).length := (List.getElem?_eq_some_iff.mp hj).1
          have := (List.getElem?_inj hlt hnd).mp (hj.trans hi2.symm)
          omega
        · cases hj
      have k34 := k3.trans k4
      have m34 := m3.trans m4
      have d4 : H4 d = some (.dK (mkD nmK (fun x => .ref (ad x)) ((bs.take i).map (·.1)))) := k34.same e2
      have hD2d : d ≠ D2 := fun z => by rw [z] at d4; rw [d4] at e4; cases e4
      have m5 : Imm H2' (upd H4 D2 (.frz od (.lst (((begins (inL xs) e.1.2).filter fun q => decide (q ∈ bs.map (·.1))).map V.str)))) := m34.mut e4
      have hD2' : H2' D2 = none := k3.free0 hD2
      have k5 : Keeps [] H2' (upd H4 D2 (.frz od (.lst (((begins (inL xs) e.1.2).filter fun q => decide (q ∈ bs.map (·.1))).map V.str)))) := k34.own hD2'
      have f5 : upd H4 D2 (.frz od (.lst (((begins (inL xs) e.1.2).filter fun q => decide (q ∈ bs.map (·.1))).map V.str))) D2 = some (.frz od (.lst (((begins (inL xs) e.1.2).filter fun q => decide (q ∈ bs.map (·.1))).map V.str))) := upd_same
      generalize upd H4 D2 (.frz od (.lst (((begins (inL xs) e.1.2).filter fun q => decide (q ∈ bs.map (·.1))).map V.str))) = H5 at m5 k5 f5 ⊢
      have d5 := k5.same e2
      refine ⟨_, rfl, _, rfl, d, _, rfl, DPut.k (k := .inr e.1.1) d5 ?_, ?_⟩
      · rw [mkD_len, List.length_map, List.length_take]
        exact line5 (by omega)
      have ep : putK (mkD nmK (fun x => .ref (ad x)) ((bs.take i).map (·.1))) (Sum.inr e.1.1) (V.ref D2) = mkD nmK (fun x => .ref (setF ad e.1.1 D2 x)) ((bs.take (i + 1)).map (·.1)) := by
        refine (mkD_put nmK_inj _ e.1.1 (.ref D2)).trans ?_
        rw [addK_no hnew, take_snoc hbi, List.map_append]
        refine mkD_congr fun j _ => ?_
        unfold setF
        split <;> rfl
      have m6 : Imm H2' (upd H5 d (.dK (putK (mkD nmK (fun x => .ref (ad x)) ((bs.take i).map (·.1))) (Sum.inr e.1.1) (V.ref D2)))) := m5.mut d5
      refine ⟨_, _, setF ad e.1.1 D2, setF fl e.1.1 ((begins (inL xs) e.1.2).filter fun q => decide (q ∈ bs.map (·.1))), rfl, (k2.trans k5.nil).mem (by simp), m2.trans m6, by rw [ep]; exact upd_same, fun x hx => ?_, fun E hE b hbm q hq => ?_⟩
      · rw [take_snoc hbi, List.map_append] at hx
        rcases List.mem_append.mp hx with hx | hx
        · have hne : x ≠ e.1.1 := fun z => hnew (z ▸ hx)
          rw [setF_ne hne, setF_ne hne]
          exact ⟨(hs x hx).1.imm m6, (hs x hx).2⟩
        · have z : x = e.1.1 := List.mem_singleton.mp hx
          rw [z, setF_same, setF_same]
          refine ⟨⟨od, ?_⟩, ?_⟩
          · rw [upd_ne (fun z => by rw [z] at f5; rw [f5] at d5; cases d5)]
            exact f5
          · have h1 := begins_few (inL xs) e.1.2
            have h2 := parts_few (ok _ hb)
            have h3 := List.length_filter_le (fun q => decide (q ∈ bs.map (·.1))) (begins (inL xs) e.1.2)
            omega
      · rw [take_snoc hbi] at hbm
        rcases List.mem_append.mp hbm with hbm | hbm
        · have hne : b.1 ≠ e.1.1 := fun z => hnew (z ▸ List.mem_map.mpr ⟨b, hbm, rfl⟩)
          rw [setF_ne hne] at hq
          exact hf E hE b hbm q hq
        · have z : b = e.1 := List.mem_singleton.mp hbm
          rw [z] at hq ⊢
          rw [setF_same] at hq
          obtain ⟨q1, q2⟩ := List.mem_filter.mp hq
          exact ⟨begins_mono (fun y hy => sound E hE y (of_decide_eq_true hy)) _ _ q1, of_decide_eq_true q2⟩
  · rintro σ2 H2 ⟨w4, w5, ad, fl, rfl, k2, m2, e2, hs, hf⟩
    rw [List.length_map, les, List.take_length] at e2 hs hf
    refine ⟨_, rfl, k d ad fl H2 hdH (fun b u hb hn => ?_) e2 hs hf⟩
    exact k2 b u (kd.same hb) (fun z => by rw [List.mem_singleton.mp z, hdH] at hb; cases hb)
end
end Kr
namespace Kr
open PySem PySem.Spec PyProof.Rows L2
section
variable {P : Program} {w : World} {K : PySem.W.Frag} {mg : Str → Option Value} {base : Heap} {k : Nat}
/-- the book does not loop -/
def NoLoop (bs : List (Str × Fm)) : Prop := ∃ (E : Str → Bool) (rk : Str → Nat), ClosedB bs E ∧ ∀ b ∈ bs, ∀ q ∈ begins E b.2, q ∈ bs.map (·.1) → rk q < rk b.1
def spLoop : Sp := fun vs H Q _ => ∃ (a : Addr) (bs : List (Str × Fm)), vs = [.ref a] ∧ BookAt H a bs ∧ bs.length ≤ 1000 ∧ (bs.map (·.1)).Nodup ∧ (∀ b ∈ bs, b.2.ok) ∧ NoLoop bs ∧ ∀ H', Keeps [] H H' → Q .non H'
theorem ok_loop (T : Tp K mg) (c_followers : Calls P w K mg base k "followers" ["book"] spFollowers) : Calls P w K mg base (k + 1) "loop" ["book"] spLoop := by
  have sc : FnScope ["book", "follow", "left", "many", "row", "at", "name", "one"] ["book"] d_loop.scope := ⟨rfl, rfl, rfl, by decide +kernel, rfl, by decide +kernel, by decide +kernel⟩
  refine mkCall T in_loop rfl mg_loop rfl rfl sc (fun _ _ _ _ _ _ us hl => match us, hl with | [_], _ => rfl) (fun vs H Q E h => ?_) (fun f cdv A outer s H vs Q E hr h => ?_)
  · obtain ⟨a, bs, rfl, _⟩ := h
    rfl
  obtain ⟨a, bs, rfl, hb, hl, hnd, ok, ⟨EE, rk, hcl, hrk⟩, k⟩ := h
  refine ⟨_, (pss_cons (ps_set (i := 1) sc.nd rfl (by first | exact Or.inl rfl | exact Or.inr rfl) (pcall c_followers hr (pa_cons (pv 0) pa_nil)))
      (pss_cons (ps_set (i := 2) sc.nd rfl (by first | exact Or.inl rfl | exact Or.inr rfl) (pe_callTy (call_list_dKR rfl) (by rfl) (T.fre _ mf_list) bt_list (pa_cons (pv 1) pa_nil)))
      (pss_cons (ps_set (i := 3) sc.nd rfl (by first | exact Or.inl rfl | exact Or.inr rfl) (pe_op op_add (pe_callB call_len_seq (by rfl) (T.fre _ mf_len) bt_len (pa_cons (pv 2) pa_nil)) pe_int))
      (pss_cons (ps_while PassesOwn.never (pt_cmpR op_lt (pe_callB call_len_seq (by rfl) (T.fre _ mf_len) bt_len (pa_cons (pv 2) pa_nil)) (pv 3) (nomark _)) (pss_cons (ps_set (i := 3) sc.nd rfl (by first | exact Or.inl rfl | exact Or.inr rfl) (pe_callB call_len_seq (by rfl) (T.fre _ mf_len) bt_len (pa_cons (pv 2) pa_nil)))
      (pss_one (ps_set (i := 2) sc.nd rfl (by first | exact Or.inl rfl | exact Or.inr rfl) (pe_lc (own := [("name", 6)]) rfl sc.nd (pi_list (pv 2)) (blkOk_by (by kernel_rfl)) (fun _ _ _ _ _ => (pg_name (i := 6) sc.nd rfl (by first | exact Or.inl rfl | exact Or.inr rfl))) (fun _ _ _ _ _ => (pts_one (pt_val (pe_callB (cr_anyK (K := K) rfl rfl) (by rfl) (T.fre _ mf_any) bt_any (pa_cons (pe_lc (own := [("one", 7)]) rfl sc.nd (pi_listK (K := K) rfl (pe_dget (hu_of hr) (pv 1) (pv 6) (fun _ _ => rfl))) (blkOk_by (by kernel_rfl)) (fun _ _ _ _ _ => (pg_name (i := 7) sc.nd rfl (by first | exact Or.inl rfl | exact Or.inr rfl))) (fun _ _ _ _ _ => pts_nil) (fun _ _ _ _ _ => (pe_cmpR (op_in_seqK (K := K) rfl) (pv 7) (pv 2) (by rfl)))) pa_nil))))) (fun _ _ _ _ _ => (pv 6)))))))
      (pss_cons (ps_if (pt_cmpR (op_eqNil hr.units) (pv 2) (pe_lst pa_nil) (nomark _)) (pss_one (ps_ret pe_non)) pss_nil)
      pss_never))))), ?_⟩
  refine ⟨_, rfl, a, bs, rfl, hb, hl, hnd, ok, fun d ad fl H0 hd k0 e0 hs hf m0 => ?_⟩
  refine ⟨_, rfl, d, _, rfl, .inl e0, fun l hl => ?_⟩
  have ek : ((mkD nmK (fun x => V.ref (ad x)) (bs.map (·.1))).map fun kv => kV kv.1) = (bs.map (·.1)).map V.str := by
    unfold mkD
    rw [List.map_map]
    rfl
  rw [ek]
  have k1 := k0.new (o := .lst ((bs.map (·.1)).map V.str)) hl
  have m1 := m0.new (o := .lst ((bs.map (·.1)).map V.str)) hl
  have ld : d ≠ l := ne_of_none e0 hl
  have e1 : upd H0 l (.lst ((bs.map (·.1)).map V.str)) d = some (.dK (mkD nmK (fun x => V.ref (ad x)) (bs.map (·.1)))) := by rw [upd_ne ld]; exact e0
  have s1 : upd H0 l (.lst ((bs.map (·.1)).map V.str)) l = some (.lst ((bs.map (·.1)).map V.str)) := upd_same
  have i1 : Imm H0 (upd H0 l (.lst ((bs.map (·.1)).map V.str))) := (Imm.refl _).new hl
  have hs1 : ∀ x ∈ bs.map (·.1), StrsAt (upd H0 l (.lst ((bs.map (·.1)).map V.str))) (ad x) (fl x) ∧ (fl x).length ≤ 8 := fun x hx => ⟨(hs x hx).1.imm i1, (hs x hx).2⟩
  generalize upd H0 l (.lst ((bs.map (·.1)).map V.str)) = H1 at k1 m1 e1 s1 hs1 ⊢
  refine ⟨_, rfl, _, _, rfl, .inl (SqL.of s1), _, _, rfl, rfl, ?_⟩
  rw [List.length_map]
  let St := fun (L : List Str) => (fl' : Str → Bool) → True
  let keepL := fun (L : List Str) (x : Str) => (fl x).any fun q => decide (q ∈ L)
  refine ⟨fun m σ H' => ∃ (L : List Str) (l : Addr) (many : Nat) (v6 v7 : Option V), σ = [some (.ref a), some (.ref d), some (.ref l), some (.int (many : Nat)), none, none, v6, v7] ∧ Keeps [] H1 H' ∧ Imm H1 H' ∧ H' l = some (.lst (L.map V.str)) ∧ (∀ x ∈ L, x ∈ bs.map (·.1)) ∧ L.length ≤ bs.length ∧
    L.length ≤ many ∧ (L.length = many → ∀ x ∈ L, keepL L x = true) ∧ m = many, ⟨_, bs.map (·.1), l, (bs.map (·.1)).length + 1, none, none, rfl, Keeps.refl _ _, Imm.refl _, s1, fun _ h => h, by rw [List.length_map]; exact Nat.le_refl _, Nat.le_succ _, fun h => absurd h (by omega), rfl⟩, ?_⟩
  rintro m σ H2 ⟨L, l2, many, v6, v7, rfl, k2, m2, e2, hL, hLl, hle, hst, rfl⟩
  refine ⟨_, rfl, _, _, rfl, .inl (SqL.of e2), _, rfl, _, _, rfl, rfl, _, rfl, ?_⟩
  refine iteB (fun hlt => ?_) (fun hge => ?_)
  · have hlt' := of_decide_eq_true hlt
    rw [List.length_map] at hlt'
    refine ⟨fun σ' H' => ∃ (L' : List Str) (l' : Addr) (v6 v7 : Option V), σ' = [some (.ref a), some (.ref d), some (.ref l'), some (.int (L.length : Nat)), none, none, v6, v7] ∧ Keeps [] H1 H' ∧ Imm H1 H' ∧ H' l' = some (.lst (L'.map V.str)) ∧ (∀ x ∈ L', x ∈ bs.map (·.1)) ∧ L'.length ≤ bs.length ∧ L'.length ≤ L.length ∧ (L'.length = L.length → ∀ x ∈ L', keepL L' x = true), ?_, ?_⟩
    · rintro σ' H' ⟨L', l', w6, w7, rfl, h1, h2, h3, h4, h5, h6, h7⟩
      exact ⟨L.length, by omega, L', l', _, w6, w7, rfl, h1, h2, h3, h4, h5, h6, h7, rfl⟩
    refine ⟨_, rfl, _, _, rfl, .inl (SqL.of e2), ?_⟩
    rw [List.length_map]
    refine ⟨_, rfl, _, rfl, ⟨_, SqL.of e2⟩, fun D hD => lc_fun L (keepL L) V.str id walk_list (by rw [List.length_map]) (by omega) hD (fun H' k' _ => SqL.of (k'.same e2)) ?_ ?_⟩
    · rintro i y x H3 H3' hy k3 m3 ⟨rfl, hx⟩ R N hR hN
      obtain ⟨q, h1, hm, rfl⟩ := getM hx
      obtain rfl : q = y := Option.some.inj (h1.symm.trans hy)
      have k23 := k2.trans k3
      have m23 := m2.trans m3
      obtain ⟨⟨o, hfl⟩, hf8⟩ := hs1 q (hL q hm)
      have hfl3 := m23.frz hfl
      refine ⟨rfl, _, rfl, _, rfl, d, _, rfl, .inl ⟨_, .inr q, .inl (k23.same e1), rfl, (mkD_in nmK_inj (hL q hm)).symm⟩, _, rfl, ⟨_, sq_fr hfl3⟩, fun D2 hD2 =>
        lc_fun (fl q) (fun _ => true) V.bl (fun z => decide (z ∈ L)) walk_list (by rw [List.length_map]) (by omega) hD2 (fun H' _ m' => sq_fr (m'.frz hfl3)) ?_ ?_⟩
      · rintro j z x H4 H4' hz k4 m4 ⟨rfl, hx⟩ R' N' hR' _
        obtain ⟨z', h1, _, rfl⟩ := getM hx
        obtain rfl : z' = z := Option.some.inj (h1.symm.trans hz)
        refine ⟨rfl, _, rfl, _, rfl, l2, _, rfl, .inl (SqL.of ((k3.trans k4).same e2)), rfl, flat_strs _, ?_⟩
        rw [if_neg Bool.false_ne_true, inV_str]
        exact hR' rfl _ (Keeps.refl _ _) (Imm.refl _)
      · intro H4 k4 m4 e4
        refine ⟨D2, _, rfl, SqL.of e4, _, rfl, ?_⟩
        rw [filter_all_true, any_map_id]
        exact iteB (fun hb2 => ⟨_, rfl, hR hb2 _ k4 m4⟩) (fun hb2 => hN hb2 _ k4 m4)
    · intro H3 k3 m3 e3
      rw [List.map_id] at e3
      have lf := List.length_filter_le (keepL L) L
      refine ⟨_, _, _, _, rfl, k2.trans k3, m2.trans m3, e3, fun x hx => hL x (List.mem_filter.mp hx).1, by omega, lf, fun he x hx => ?_⟩
      have hall := filter_len (keepL L) L he
      have ef : L.filter (keepL L) = L := List.filter_eq_self.mpr hall
      rw [ef] at hx ⊢
      exact hall x hx
  · have hge' := of_decide_eq_false hge
    rw [List.length_map] at hge'
    have em : L.length = m := by omega
    have nl : L = [] := by
      refine stable_nil L rk fun x hx => ?_
      have h1 := hst em x hx
      obtain ⟨q, hq, hqL⟩ := List.any_eq_true.mp h1
      obtain ⟨b, hbm, rfl⟩ := List.mem_map.mp (hL x hx)
      obtain ⟨g1, g2⟩ := hf EE hcl b hbm q hq
      exact ⟨q, of_decide_eq_true hqL, hrk b hbm q g1 g2⟩
    subst nl
    refine ⟨_, rfl, by decide, fun p hp => ⟨l2, [], p, rfl, rfl, .inl (by rw [upd_ne (ne_of_none e2 hp)]; exact e2), .inl upd_same, _, rfl, ?_⟩⟩
    exact iteY rfl (k _ ((k1.trans k2).new hp))
end
end Kr
namespace Kr
open PySem PySem.Spec PyProof.Rows L2
section
variable {P : Program} {w : World} {K : PySem.W.Frag} {mg : Str → Option Value} {base : Heap} {k : Nat}
def spBag : Sp := fun vs H Q _ => ∃ (cell i : Int), vs = [.int cell, .int i] ∧ 0 ≤ i ∧ i ≤ 1000 ∧ ∀ b H', H b = none → Keeps [] H H' → BagAt H' b 0 → Q (.ref b) H'
theorem ok_law_bag (T : Tp K mg) : Calls P w K mg base (k + 1) "_law_bag" ["cell", "k"] spBag := by
  have sc : FnScope ["cell", "k"] ["cell", "k"] d_law_bag.scope := ⟨rfl, rfl, rfl, by decide +kernel, rfl, by decide +kernel, by decide +kernel⟩
  refine mkCall T in_law_bag rfl mg_law_bag rfl rfl sc (fun _ _ _ _ _ _ us hl => match us, hl with | [_, _], _ => rfl) (fun vs H Q E h => ?_) (fun f cdv A outer s H vs Q E hr h => ?_)
  · obtain ⟨a, i, rfl, _⟩ := h
    rfl
  obtain ⟨cell, i, rfl, h0, h1, k⟩ := h
  refine ⟨_, (pss_one (ps_ret (pe_lst (pa_cons (pe_callB (call_max2 rfl) (by rfl) (T.fre _ mf_max) bt_max (pa_cons pe_int (pa_cons (pe_op op_sub (pv 0) (pe_op op_powW pe_int pe_int)) pa_nil))) (pa_cons (pe_op op_add (pe_op op_mod (pv 0) pe_int) (pe_op op_mul pe_int (pe_op op_add (pv 1) pe_int))) (pa_cons pe_int pa_nil)))))), ?_⟩
  refine ⟨_, rfl, _, _, rfl, rfl, ⟨by decide, by decide +kernel⟩, _, _, rfl, rfl, _, _, rfl, ?_⟩
  refine ⟨_, rfl, _, _, rfl, rfl, (show (0 : Int) < 162259276829213363391578010288127 by decide), _, rfl, _, _, rfl, rfl, _, _, rfl, rfl, .inl ⟨by decide, by decide⟩, _, _, rfl, rfl, ?_⟩
  refine ⟨(show 3 ≤ sizeLine by decide), fun b hb => k b _ hb ((Keeps.refl _ _).new hb) ⟨_, _, 0, upd_same, ?_, ?_, ?_, by omega, by omega⟩⟩
  · split <;> omega
  · have := Int.emod_nonneg cell (show (162259276829213363391578010288127 : Int) ≠ 0 by decide)
    omega
  · have := Int.emod_lt_of_pos cell (show (0 : Int) < 162259276829213363391578010288127 by decide)
    omega
def spTake : Sp := fun vs H Q _ => ∃ (b : Addr) (many : Int) (n : Nat), vs = [.ref b, .int many] ∧ BagAt H b n ∧ n ≤ 100000 ∧ 0 < many ∧ many ≤ 1000 ∧ ∀ v H', Keeps [b] H H' → BagAt H' b (n + 1) → 0 ≤ v → v < many → Q (.int v) H'
theorem bits_lt {x : Int} {m : Nat} (h0 : 0 ≤ x) (h : x < 2 ^ m) : Builtin.Int.intBits x ≤ m := by
  refine PySem.intBits_le_iff.mpr ?_
  have e : ((x.natAbs : Nat) : Int) = x := by omega
  have h' : ((x.natAbs : Nat) : Int) < ((2 ^ m : Nat) : Int) := by
    rw [e]
    simpa using h
  exact Int.ofNat_lt.mp h'
theorem pow_ok {x : Int} {m j : Nat} (h0 : 0 ≤ x) (h : x < 2 ^ m) (hm : m * j ≤ 2 ^ 27) : CPowW x (j : Int) := by
  refine ⟨by omega, ?_⟩
  have h1 := bits_lt h0 h
  have h2 : Builtin.Int.intBits x * j ≤ m * j := Nat.mul_le_mul_right j h1
  have h3 : ((Builtin.Int.intBits x * j : Nat) : Int) ≤ ((2 ^ 27 : Nat) : Int) := Int.ofNat_le.mpr (Nat.le_trans h2 hm)
  simpa using h3
theorem ok_law_take (T : Tp K mg) : Calls P w K mg base (k + 1) "_law_take" ["bag", "many"] spTake := by
  have sc : FnScope ["bag", "many", "mixed", "found"] ["bag", "many"] d_law_take.scope := ⟨rfl, rfl, rfl, by decide +kernel, rfl, by decide +kernel, by decide +kernel⟩
  refine mkCall T in_law_take rfl mg_law_take rfl rfl sc (fun _ _ _ _ _ _ us hl => match us, hl with | [_, _], _ => rfl) (fun vs H Q E h => ?_) (fun f cdv A outer s H vs Q E hr h => ?_)
  · obtain ⟨a, i, n, rfl, _⟩ := h
    rfl
  obtain ⟨b, many, n, rfl, ⟨x, y, c, hb, hx, hy, hy2, hc, hcn⟩, hn, h0, h1, k⟩ := h
  refine ⟨_, (pss_cons (ps_if (pt_cmpR op_gt (pe_ix ix_list (pv 0) pe_int (fun _ _ => rfl)) pe_int (nomark _)) (pss_cons (ps_set (i := 3) sc.nd rfl (by first | exact Or.inl rfl | exact Or.inr rfl) (pe_op op_mod (pe_ix ix_list (pv 0) pe_int (fun _ _ => rfl)) (pv 1)))
      (pss_cons (ps_asg (pe_op op_fdiv (pe_ix ix_list (pv 0) pe_int (fun _ _ => rfl)) (pv 1)) (pg_sub (pv 0) pe_int set_list))
      (pss_one (ps_ret (pv 3))))) pss_nil)
      (pss_cons (ps_asg (pe_op op_add (pe_ix ix_list (pv 0) pe_int (fun _ _ => rfl)) pe_int) (pg_sub (pv 0) pe_int set_list))
      (pss_cons (ps_set (i := 2) sc.nd rfl (by first | exact Or.inl rfl | exact Or.inr rfl) (pe_op op_mod (pe_op op_powW (pe_op op_add (pe_ix ix_list (pv 0) pe_int (fun _ _ => rfl)) (pe_op op_mul pe_int (pe_ix ix_list (pv 0) pe_int (fun _ _ => rfl)))) pe_int) pe_int))
      (pss_cons (ps_set (i := 2) sc.nd rfl (by first | exact Or.inl rfl | exact Or.inr rfl) (pe_op op_mod (pe_op op_powW (pe_op op_add (pv 2) (pe_op op_mul pe_int (pe_ix ix_list (pv 0) pe_int (fun _ _ => rfl)))) pe_int) pe_int))
      (pss_one (ps_ret (pe_op op_mod (pe_op op_fdiv (pv 2) pe_int) (pv 1)))))))), ?_⟩
  have sq := SqL.of (K := K) hb
  refine ⟨_, rfl, _, _, _, _, rfl, rfl, sq, at_0 rfl, _, _, rfl, rfl, _, rfl, ?_⟩
  refine ite2 (fun hgt => ?_) (fun _ => ?_)
  · refine ⟨_, rfl, _, _, _, _, rfl, rfl, sq, at_0 rfl, _, rfl, _, _, rfl, rfl, h0, ?_⟩
    refine ⟨_, rfl, _, _, _, _, rfl, rfl, sq, at_0 rfl, _, rfl, _, _, rfl, rfl, ⟨h0, by omega⟩, ?_⟩
    refine ⟨_, rfl, _, _, _, 0, rfl, rfl, hb, (show ixN 3 0 = some 0 by decide), ?_⟩
    refine ⟨_, rfl, k _ _ ((Keeps.refl _ _).mem (by simp)) ⟨_, y, c, upd_same, ?_, hy, hy2, hc, by omega⟩ (Int.emod_nonneg _ (by omega)) (Int.emod_lt_of_pos _ h0)⟩
    exact Int.ediv_nonneg hx (by omega)
  · refine ⟨_, rfl, _, _, _, _, rfl, rfl, sq, at_2 rfl, _, _, rfl, rfl, ?_⟩
    refine ⟨_, rfl, _, _, _, 2, rfl, rfl, hb, (show ixN 3 2 = some 2 by decide), ?_⟩
    have hb2 : upd H b (.lst ([V.int x, V.int y, V.int c].set 2 (V.int (c + 1)))) b = some (.lst [V.int x, V.int y, V.int (c + 1)]) := upd_same
    have k2 : Keeps [b] H (upd H b (.lst ([V.int x, V.int y, V.int c].set 2 (V.int (c + 1))))) := (Keeps.refl _ _).mem (by simp)
    generalize upd H b (.lst ([V.int x, V.int y, V.int c].set 2 (V.int (c + 1)))) = H2 at hb2 k2 ⊢
    have sq2 := SqL.of (K := K) hb2
    have e41 : (2 : Int) ^ 110 = 1298074214633706907132624082305024 := by decide
    have e42 : (2 : Int) ^ 120 = 1329227995784915872903807060280344576 := by decide
    refine ⟨_, rfl, _, _, _, _, rfl, rfl, sq2, at_1 rfl, _, rfl, _, _, _, _, rfl, rfl, sq2, at_2 rfl, _, _, rfl, rfl, .inl ⟨by decide, by decide⟩, _, _, rfl, rfl, _, _, rfl, rfl, pow_ok (m := 120) (j := 3) (by omega) (by omega) (by decide), _, _, rfl, rfl, (show (0 : Int) < 162259276829213363391578010288127 by decide), ?_⟩
    have l1 : ∀ z : Int, 0 ≤ z % 162259276829213363391578010288127 ∧ z % 162259276829213363391578010288127 < 162259276829213363391578010288127 := fun z => ⟨Int.emod_nonneg z (by decide), Int.emod_lt_of_pos z (by decide)⟩
    generalize hz : (y + 1299709 * (c + 1)) ^ ((3 : Nat) : Int).toNat % 162259276829213363391578010288127 = z
    have hz2 : 0 ≤ z ∧ z < 162259276829213363391578010288127 := by rw [← hz]; exact l1 _
    refine ⟨_, rfl, _, rfl, _, _, _, _, rfl, rfl, sq2, at_2 rfl, _, _, rfl, rfl, .inl ⟨by decide, by decide⟩, _, _, rfl, rfl, _, _, rfl, rfl, pow_ok (m := 120) (j := 5) (by omega) (by omega) (by decide), _, _, rfl, rfl, (show (0 : Int) < 618970019642690137449562111 by decide), ?_⟩
    refine ⟨_, rfl, _, _, rfl, rfl, ⟨by decide, by decide⟩, _, rfl, _, _, rfl, rfl, h0, ?_⟩
    exact k _ _ k2 ⟨x, y, c + 1, hb2, hx, hy, hy2, by omega, by omega⟩ (Int.emod_nonneg _ (by omega)) (Int.emod_lt_of_pos _ h0)
/-! ### texts of single signs, glued -/
def one1s (c : Nat) : Str := ⟨#[c]⟩
theorem joinL_one : ∀ cs : List Nat, TL.joinL [] (cs.map fun c => [c]) = cs
  | [] => rfl
  | [c] => rfl
  | c :: d :: r => by
    show [c] ++ ([] ++ TL.joinL [] ((d :: r).map fun c => [c])) = _
    rw [joinL_one (d :: r)]
    rfl
theorem join_one (cs : List Nat) : (Txt.join "" (cs.map one1s)).cps.toList = cs := by
  have h := TL.tl_join "" (cs.map one1s)
  rw [← TL.join_eq, List.map_map] at h
  have e : ((cs.map (TL.tl ∘ one1s))) = cs.map fun c => [c] := List.map_congr_left fun c _ => rfl
  rw [e] at h
  exact h.trans (joinL_one cs)
theorem one_sum (cs : List Nat) : ((cs.map one1s).map (·.length)).sum = cs.length := by
  induction cs with
  | nil => rfl
  | cons c cs ih =>
    rw [List.map_cons, List.map_cons, List.sum_cons, ih, List.length_cons]
    show 1 + cs.length = _
    omega
def everyL : List Nat := ((List.range 95).map (· + 32)).filter fun c => decide (c ≠ 37)
def spEvery : Sp := fun vs H Q _ => vs = [] ∧ ∀ z : Str, z.cps.toList = everyL → Q (.str z) H
theorem ok_law_every (T : Tp K mg) : Calls P w K mg base (k + 1) "_law_every" [] spEvery := by
  have sc : FnScope [] [] d_law_every.scope := ⟨rfl, rfl, rfl, by decide +kernel, rfl, by decide +kernel, by decide +kernel⟩
  refine mkCall T in_law_every rfl mg_law_every rfl rfl sc (fun _ _ _ _ _ _ us hl => match us, hl with | [], _ => rfl) (fun vs H Q E h => ?_) (fun f cdv A outer s H vs Q E hr h => ?_)
  · obtain ⟨rfl, _⟩ := h
    rfl
  obtain ⟨rfl, k⟩ := h
  refine ⟨_, (pss_one (ps_ret pe_str)), ?_⟩
  exact k _ (by decide +kernel)
def letL : List Str := ("abcdefghijklmnopqrstuvwxyz" : Str).cps.toList.map one1s
theorem letL_nd : letL.Nodup := by decide +kernel
theorem letL_ok : ∀ z ∈ letL, okN z := by
  intro z hz
  obtain ⟨c, hc, rfl⟩ := List.mem_map.mp hz
  have h : ∀ c ∈ ("abcdefghijklmnopqrstuvwxyz" : Str).cps.toList, okL c = true := by decide +kernel
  refine ⟨Nat.le_refl _, by show 1 ≤ 8; decide, fun d hd => ?_⟩
  have e : d = c := List.mem_singleton.mp hd
  rw [e]
  exact h c hc
theorem free_in (D xs : List Str) (hD : D.Nodup) (hl : xs.length < D.length) : (D.filter fun z => decide (z ∉ xs)) ≠ [] := by
  intro e
  have : D.length ≤ xs.length := nodup_len D xs hD fun z hz => by
    have h := List.filter_eq_nil_iff.mp e z hz
    simpa using h
  omega
def spNames : Sp := fun vs H Q _ => ∃ (b : Addr) (many n : Nat), vs = [.ref b, .int (many : Nat)] ∧ many ≤ 7 ∧ BagAt H b n ∧ n ≤ 50000 ∧
  ∀ (l : Addr) (xs : List Str) H', H l = none → Keeps [b] H H' → BagAt H' b (n + 100) → H' l = some (.lst (xs.map V.str)) → xs.length = many → xs.Nodup → (∀ x ∈ xs, okN x) → Q (.ref l) H'
theorem ok_law_names (T : Tp K mg) (c_law_take : Calls P w K mg base k "_law_take" ["bag", "many"] spTake) : Calls P w K mg base (k + 1) "_law_names" ["bag", "many"] spNames := by
  have sc : FnScope ["bag", "many", "letters", "names", "k", "long", "word", "j", "one"] ["bag", "many"] d_law_names.scope := ⟨rfl, rfl, rfl, by decide +kernel, rfl, by decide +kernel, by decide +kernel⟩
  refine mkCall T in_law_names rfl mg_law_names rfl rfl sc (fun _ _ _ _ _ _ us hl => match us, hl with | [_, _], _ => rfl) (fun vs H Q E h => ?_) (fun f cdv A outer s H vs Q E hr h => ?_)
  · obtain ⟨a, i, n, rfl, _⟩ := h
    rfl
  obtain ⟨b, many, n, rfl, h7, hb, hn, k⟩ := h
  refine ⟨_, (pss_cons (ps_set (i := 2) sc.nd rfl (by first | exact Or.inl rfl | exact Or.inr rfl) pe_str)
      (pss_cons (ps_set (i := 3) sc.nd rfl (by first | exact Or.inl rfl | exact Or.inr rfl) (pe_lst pa_nil))
      (pss_cons (ps_for PassesOwn.never rfl (pi_range1 (by rfl) (T.fre _ mf_range) (pa_cons (pv 1) pa_nil)) (pg_name (i := 4) sc.nd rfl (by first | exact Or.inl rfl | exact Or.inr rfl))
        (pss_cons (ps_set (i := 5) sc.nd rfl (by first | exact Or.inl rfl | exact Or.inr rfl) (pe_ix ix_list (pe_lst (pa_cons pe_int (pa_cons pe_int (pa_cons (pe_op op_add pe_int (pcall c_law_take hr (pa_cons (pv 0) (pa_cons pe_int pa_nil)))) pa_nil)))) (pcall c_law_take hr (pa_cons (pv 0) (pa_cons pe_int pa_nil))) (fun _ _ => rfl)))
      (pss_cons (ps_set (i := 6) sc.nd rfl (by first | exact Or.inl rfl | exact Or.inr rfl) (pe_join pe_str (pe_lc (own := [("j", 7)]) rfl sc.nd (pi_range1 (by rfl) (T.fre _ mf_range) (pa_cons (pv 5) pa_nil)) (blkOk_by (by kernel_rfl)) (fun _ _ _ _ _ => (pg_name (i := 7) sc.nd rfl (by first | exact Or.inl rfl | exact Or.inr rfl))) (fun _ _ _ _ _ => pts_nil) (fun _ _ _ _ _ => (pe_ix ix_str (pv 2) (pcall c_law_take hr (pa_cons (pv 0) (pa_cons pe_int pa_nil))) (fun _ _ => rfl))))))
      (pss_cons (ps_if (pt_cmpR op_in_seq (pv 6) (pv 3) (by rfl)) (pss_one (ps_set (i := 6) sc.nd rfl (by first | exact Or.inl rfl | exact Or.inr rfl) (pe_ix ix_list (pe_lc (own := [("one", 8)]) rfl sc.nd (pi_str (pv 2)) (blkOk_by (by kernel_rfl)) (fun _ _ _ _ _ => (pg_name (i := 8) sc.nd rfl (by first | exact Or.inl rfl | exact Or.inr rfl))) (fun _ _ _ _ _ => (pts_one (pt_cmpR (op_notIn_seqK (K := K) rfl) (pv 8) (pv 3) (by rfl)))) (fun _ _ _ _ _ => (pv 8))) pe_int (fun _ _ => rfl)))) pss_nil)
      (pss_one (ps_expr (pe_bm PySem.F.plainAttrs_list PySem.F.slot_list_append PySem.F.type_list_append mt_append (pv 3) (pa_cons (pv 6) pa_nil))))))))
      (pss_one (ps_ret (pv 3)))))), ?_⟩
  refine ⟨by decide, fun l hl => ?_⟩
  have hbl : b ≠ l := let ⟨_, _, _, e, _⟩ := hb; ne_of_none e hl
  have hb1 : BagAt (upd H l (.lst [])) b n := hb.kp ((Keeps.refl [] H).new hl) (by simp)
  have kl : Keeps [b] H (upd H l (.lst [])) := (Keeps.refl _ _).new hl
  refine ⟨_, rfl, _, rfl, by omega, by omega, ?_⟩
  have e0 : ((many : Nat) : Int).toNat = many := by omega
  rw [e0]
  refine for_it walk_range (fun i σ H' => ∃ (v4 v5 v6 : Option V) (xs : List Str), σ = [some (.ref b), some (.int (many : Nat)), some (.str "abcdefghijklmnopqrstuvwxyz"), some (.ref l), v4, v5, v6, none, none] ∧ Keeps [b] H H' ∧ BagAt H' b (n + 10 * i) ∧ H' l = some (.lst (xs.map V.str)) ∧ xs.length = i ∧ xs.Nodup ∧ ∀ x ∈ xs, okN x)
    ⟨none, none, none, [], rfl, kl, hb1, upd_same, rfl, List.nodup_nil, by simp⟩ (fun _ _ _ _ _ => trivial) ?_ ?_
  · rintro i x σ H1 H1' hi ⟨v4, v5, v6, xs, rfl, k1, b1, e1, hlen, hnd, hok⟩ ⟨rfl, rfl⟩
    refine ⟨_, rfl, b, 8, _, rfl, b1, by omega, by omega, by omega, fun v H2 k2 b2 hv0 hv8 m2 => ?_⟩
    have lb : l ∉ [b] := fun z => hbl (List.mem_singleton.mp z).symm
    have e2 := k2 _ _ e1 lb
    refine ⟨_, _, rfl, rfl, show 3 ≤ sizeLine by decide, fun p hp => ?_⟩
    have k3 : Keeps [b] H1' (upd H2 p (.lst [V.int 1, V.int 2, V.int (1 + v)])) := k2.new hp
    have b3 : BagAt (upd H2 p (.lst [V.int 1, V.int 2, V.int (1 + v)])) b (n + 10 * i + 1) := b2.kp ((Keeps.refl [] _).new hp) (by simp)
    have p3 : upd H2 p (.lst [V.int 1, V.int 2, V.int (1 + v)]) p = some (.lst [V.int 1, V.int 2, V.int (1 + v)]) := upd_same
    have e3 : upd H2 p (.lst [V.int 1, V.int 2, V.int (1 + v)]) l = some (.lst (xs.map V.str)) := by rw [upd_ne (ne_of_none e2 hp)]; exact e2
    generalize upd H2 p (.lst [V.int 1, V.int 2, V.int (1 + v)]) = H3 at k3 b3 p3 e3 ⊢
    refine ⟨_, rfl, b, 3, _, rfl, b3, by omega, by omega, by omega, fun v' H4 k4 b4 hw0 hw3 m4 => ?_⟩
    have pb : p ∉ [b] := fun z => by
      obtain ⟨_, _, _, q, _⟩ := b2
      rw [List.mem_singleton.mp z, q] at hp
      cases hp
    have p4 := k4 _ _ p3 pb
    have e4 := k4 _ _ e3 lb
    obtain ⟨lg, hlg, hlg1, hlg8⟩ : ∃ lg : Int, atI [V.int 1, V.int 2, V.int (1 + v)] v' = some (V.int lg) ∧ 1 ≤ lg ∧ lg ≤ 8 := by
      have h : v' = 0 ∨ v' = 1 ∨ v' = 2 := by omega
      rcases h with rfl | rfl | rfl
      · exact ⟨1, at_0 rfl, by omega, by omega⟩
      · exact ⟨2, at_1 rfl, by omega, by omega⟩
      · exact ⟨1 + v, at_2 rfl, by omega, by omega⟩
    refine ⟨_, _, _, _, rfl, rfl, SqL.of p4, hlg, ?_⟩
    have k04 := (k1.trans k3).trans k4
    refine ⟨⟨_, rfl⟩, _, rfl, _, rfl, by omega, by omega, fun D hD => ?_⟩
    refine lc_acc walk_range [b] (by omega) hD (fun s hs => by
      obtain ⟨_, _, _, q, _⟩ := b4
      rw [List.mem_singleton.mp hs, q]
      exact fun z => nomatch z) (fun j acc H' => ∃ cs : List Nat, acc = cs.map (fun c => V.str (one1s c)) ∧ cs.length = j ∧ (∀ c ∈ cs, okL c = true) ∧ BagAt H' b (n + 10 * i + 1 + 1 + j)) ?_ ⟨[], rfl, rfl, by simp, b4⟩ (fun _ _ _ => trivial) ?_ ?_
    · rintro j acc H5 H5' m5 hs ⟨cs, h1, h2, h3, ⟨x, y, c, q, r⟩⟩
      exact ⟨cs, h1, h2, h3, x, y, c, by rw [hs b (by simp)]; exact q, r⟩
    · rintro j x acc H5 H5' hj k5 m5 _ ⟨cs, h1, h2, h3, b5⟩ ⟨rfl, rfl⟩ R N hR hN
      refine ⟨rfl, _, rfl, _, rfl, b, 26, _, rfl, b5, by omega, by omega, by omega, fun u H6 k6 b6 hu0 hu1 m6 => ?_⟩
      have hz : ("abcdefghijklmnopqrstuvwxyz" : Str).cps.toList.length = 26 := by decide +kernel
      have hc : ("abcdefghijklmnopqrstuvwxyz" : Str).cps.toList[u.toNat]? = some (("abcdefghijklmnopqrstuvwxyz" : Str).cps.toList[u.toNat]'(by omega)) := List.getElem?_eq_getElem (by omega)
      have hat := atI_nat hc
      rw [show ((u.toNat : Nat) : Int) = u by omega] at hat
      refine ⟨_, _, _, rfl, rfl, by decide +kernel, hat, hR _ _ k6 m6 ⟨cs ++ [_], by rw [h1, List.map_append]; rfl, by rw [List.length_append, h2]; rfl, fun c hc2 => ?_, b6⟩⟩
      rcases List.mem_append.mp hc2 with z | z
      · exact h3 c z
      · rw [List.mem_singleton.mp z]
        have hal : ∀ c ∈ ("abcdefghijklmnopqrstuvwxyz" : Str).cps.toList, okL c = true := by decide +kernel
        exact hal _ (List.getElem_mem _)
    · rintro acc H5 _ k5 m5 e5 ⟨cs, rfl, h2, h3, b5⟩
      have e5l := k5 _ _ e4 lb
      refine ⟨"", D, cs.map one1s, rfl, rfl, .inl (SqL.of (by rw [e5, List.map_map]; rfl)), ?_, ?_⟩
      · rw [one_sum, h2]
        show lg.toNat + _ * 0 ≤ 16777216
        omega
      have hwc := join_one cs
      generalize Txt.join "" (cs.map one1s) = wd at hwc
      have hwl : wd.length = lg.toNat := by
        show wd.cps.size = _
        rw [← Array.length_toList, hwc, h2]
      have hwok : okN wd := ⟨by omega, by omega, by rw [hwc]; exact h3⟩
      have k05 := k04.trans k5
      refine ⟨_, rfl, _, rfl, l, _, rfl, .inl (SqL.of e5l), rfl, flat_strs _, _, rfl, ?_⟩
      rw [if_neg Bool.false_ne_true, inV_str]
      have fin : ∀ (z : Str) (v8 : Option V) (H' : Hp), okN z → z ∉ xs → Keeps [] H5 H' → v8 = none →
          tDrop (tBM K "list" rAppend (tVar 3) (tCons (tVar 6) tNil)) { nx := fun σ H' => ∃ (v4 v5 v6 : Option V) (xs : List Str), σ = [some (.ref b), some (.int (many : Nat)), some (.str "abcdefghijklmnopqrstuvwxyz"), some (.ref l), v4, v5, v6, none, none] ∧ Keeps [b] H H' ∧ BagAt H' b (n + 10 * (i + 1)) ∧ H' l = some (.lst (xs.map V.str)) ∧ xs.length = i + 1 ∧ xs.Nodup ∧ ∀ x ∈ xs, okN x, rt := Q }
            [some (.ref b), some (.int (many : Nat)), some (.str "abcdefghijklmnopqrstuvwxyz"), some (.ref l), some (.int (0 + i)), some (.int lg), some (.str z), none, v8] H' := by
        intro z v8 H6 hz hzx k6 h8
        subst h8
        have e6 := k6.same e5l
        refine ⟨_, rfl, .inl ⟨rfl, _, SqL.of e6⟩, _, rfl, l, _, _, rfl, rfl, e6, ?_, ?_⟩
        · rw [List.length_map]
          exact line5 (by omega)
        refine ⟨_, _, _, xs ++ [z], rfl, (k05.trans k6.nil).own hl, ?_, by rw [upd_same, List.map_append]; rfl, by rw [List.length_append, hlen]; rfl, ?_, ?_⟩
        · have b6 := b5.kp k6 (by simp)
          obtain ⟨x, y, c, q, r1, r2, r3, r4, r5⟩ := b6
          exact ⟨x, y, c, by rw [upd_ne hbl]; exact q, r1, r2, r3, r4, by omega⟩
        · rw [List.nodup_append]
          exact ⟨hnd, by simp, fun a ha c hc e => hzx (by rw [← List.mem_singleton.mp hc, ← e]; exact ha)⟩
        · intro x hx
          rcases List.mem_append.mp hx with q | q
          · exact hok x q
          · rw [List.mem_singleton.mp q]
            exact hz
      refine iteB (fun hin => ?_) (fun hout => fin wd none H5 hwok (of_decide_eq_false hout) (Keeps.refl _ _) rfl)
      refine ⟨_, rfl, _, rfl, fun D2 hD2 => lc_fun letL (fun z => decide (z ∉ xs)) V.str id walk_str (by decide +kernel) (by decide +kernel) hD2 (fun _ _ _ => trivial) ?_ ?_⟩
      · rintro j y x H6 H6' hy k6 m6 ⟨rfl, c, hc, rfl⟩ R N hR hN
        have hy2 : y = one1s c := by
          have h1 : letL[j]? = some (one1s c) := by
            unfold letL
            rw [List.getElem?_map, Array.getElem?_toList, hc]
            rfl
          exact Option.some.inj (hy.symm.trans h1)
        subst hy2
        refine ⟨rfl, _, rfl, _, rfl, l, _, rfl, .inl (SqL.of (k6.same e5l)), rfl, flat_strs _, _, rfl, ?_⟩
        rw [if_pos rfl, show V.str ⟨#[c]⟩ = V.str (one1s c) from rfl, inV_str]
        refine iteB (fun hb2 => ⟨_, rfl, hR (by simpa using hb2) _ (Keeps.refl _ _) (Imm.refl _)⟩) (fun hb2 => hN (by simpa using hb2) _ (Keeps.refl _ _) (Imm.refl _))
      · intro H6 k6 m6 e6
        rw [List.map_id] at e6
        have hne := free_in letL xs letL_nd (by have : letL.length = 26 := by decide +kernel
                                                omega)
        obtain ⟨z, r, hz⟩ := List.exists_cons_of_ne_nil hne
        rw [hz] at e6
        have hzm : z ∈ letL.filter fun z => decide (z ∉ xs) := by rw [hz]; exact List.mem_cons_self
        obtain ⟨hz1, hz2⟩ := List.mem_filter.mp hzm
        refine ⟨_, _, _, _, rfl, rfl, SqL.of e6, at_0 rfl, ?_⟩
        exact fin z none H6 (letL_ok z hz1) (of_decide_eq_true hz2) k6 rfl
  · rintro σ H1 ⟨v4, v5, v6, xs, rfl, k1, b1, e1, hlen, hnd, hok⟩
    exact ⟨_, rfl, k l xs H1 hl k1 (b1.mono (by omega)) e1 hlen hnd hok⟩
end
end Kr
namespace Kr
open PySem PySem.Spec PyProof.Rows L2
section
variable {P : Program} {w : World} {K : PySem.W.Frag} {mg : Str → Option Value} {base : Heap} {k : Nat}
theorem rm_len (a : Nat) : ∀ l : List Nat, l.Nodup → l.length ≤ (l.filter fun x => decide (x ≠ a)).length + 1
  | [], _ => Nat.zero_le _
  | x :: l, h => by
    obtain ⟨h1, h2⟩ := List.nodup_cons.mp h
    have ih := rm_len a l h2
    by_cases e : x = a
    · have hl : l.filter (fun x => decide (x ≠ a)) = l := List.filter_eq_self.mpr fun y hy => decide_eq_true fun z => h1 (by rw [e, ← z]; exact hy)
      rw [List.filter_cons_of_neg (by simp [e]), hl, List.length_cons]
      exact Nat.le_refl _
    · rw [List.filter_cons_of_pos (by simp [e]), List.length_cons, List.length_cons]
      omega
theorem everyL_len : everyL.length = 94 := by decide +kernel
theorem everyL_ok : ∀ c ∈ everyL, okC c = true := by decide +kernel
theorem everyL_up : everyL.Pairwise (· < ·) := by decide +kernel
def spSome : Sp := fun vs H Q _ => ∃ (b : Addr) (n : Nat), vs = [.ref b] ∧ BagAt H b n ∧ n ≤ 50000 ∧
  ∀ (z : Str) H', Keeps [b] H H' → BagAt H' b (n + 3) → okT z → z.length = 3 → z.cps.toList.Pairwise (· < ·) → Q (.str z) H'
theorem ok_law_some (T : Tp K mg) (c_law_take : Calls P w K mg base k "_law_take" ["bag", "many"] spTake) (c_law_every : Calls P w K mg base k "_law_every" [] spEvery) : Calls P w K mg base (k + 1) "_law_some" ["bag"] spSome := by
  have sc : FnScope ["bag", "one", "other", "third", "k"] ["bag"] d_law_some.scope := ⟨rfl, rfl, rfl, by decide +kernel, rfl, by decide +kernel, by decide +kernel⟩
  refine mkCall T in_law_some rfl mg_law_some rfl rfl sc (fun _ _ _ _ _ _ us hl => match us, hl with | [_], _ => rfl) (fun vs H Q E h => ?_) (fun f cdv A outer s H vs Q E hr h => ?_)
  · obtain ⟨b, n, rfl, _⟩ := h
    rfl
  obtain ⟨b, n, rfl, hb, hn, k⟩ := h
  refine ⟨_, (pss_cons (ps_set (i := 1) sc.nd rfl (by first | exact Or.inl rfl | exact Or.inr rfl) (pcall c_law_take hr (pa_cons (pv 0) (pa_cons pe_int pa_nil))))
      (pss_cons (ps_set (i := 2) sc.nd rfl (by first | exact Or.inl rfl | exact Or.inr rfl) (pe_op op_mod (pe_op op_add (pe_op op_add (pv 1) pe_int) (pcall c_law_take hr (pa_cons (pv 0) (pa_cons pe_int pa_nil)))) pe_int))
      (pss_cons (ps_set (i := 3) sc.nd rfl (by first | exact Or.inl rfl | exact Or.inr rfl) (pe_ix ix_list (pe_lc (own := [("k", 4)]) rfl sc.nd (pi_range1 (by rfl) (T.fre _ mf_range) (pa_cons pe_int pa_nil)) (blkOk_by (by kernel_rfl)) (fun _ _ _ _ _ => (pg_name (i := 4) sc.nd rfl (by first | exact Or.inl rfl | exact Or.inr rfl))) (fun _ _ _ _ _ => (pts_one (PW.pt (pw_and (pt_cmpR op_ne (pv 4) (pv 1) (nomark _)) (pw_and1 (pt_cmpR op_ne (pv 4) (pv 2) (nomark _))))))) (fun _ _ _ _ _ => (pv 4))) (pcall c_law_take hr (pa_cons (pv 0) (pa_cons pe_int pa_nil))) (fun _ _ => rfl)))
      (pss_one (ps_ret (pe_join pe_str (pe_lc (own := [("k", 4)]) rfl sc.nd (pi_list (pe_callB cr_sorted (by rfl) (T.fre _ mf_sorted) bt_sorted (pa_cons (pe_lst (pa_cons (pv 1) (pa_cons (pv 2) (pa_cons (pv 3) pa_nil)))) pa_nil))) (blkOk_by (by kernel_rfl)) (fun _ _ _ _ _ => (pg_name (i := 4) sc.nd rfl (by first | exact Or.inl rfl | exact Or.inr rfl))) (fun _ _ _ _ _ => pts_nil) (fun _ _ _ _ _ => (pe_ix ix_str (pcall0 c_law_every hr) (pv 4) (fun _ _ => rfl)))))))))), ?_⟩
  refine ⟨_, rfl, b, 94, _, rfl, hb, by omega, by omega, by omega, fun one H1 k1 b1 h10 h11 m1 => ?_⟩
  refine ⟨_, rfl, _, _, rfl, rfl, _, rfl, b, 93, _, rfl, b1, by omega, by omega, by omega, fun v H2 k2 b2 h20 h21 m2 => ?_⟩
  refine ⟨_, _, rfl, rfl, _, _, rfl, rfl, (show (0 : Int) < 94 by decide), ?_⟩
  have hot : ∀ ot : Int, ot = (one + 1 + v) % 94 → 0 ≤ ot ∧ ot < 94 ∧ ot ≠ one := fun ot e => by omega
  dsimp only
  have hot' := hot _ rfl
  generalize (one + 1 + v) % 94 = ot at hot'
  obtain ⟨ho0, ho1, hoo⟩ := hot'
  have k12 := k1.trans k2
  refine ⟨_, rfl, by omega, by omega, fun D hD => ?_⟩
  refine lc_fun (List.range 94) (fun j : Nat => decide ((j : Int) ≠ one) && decide ((j : Int) ≠ ot)) (fun j : Nat => V.int (j : Nat)) id (walk_range (n := 94)) rfl (by decide) hD (fun _ _ _ => trivial) ?_ ?_
  · rintro i y x H3 H3' hy k3 m3 ⟨rfl, rfl⟩ R N hR hN
    obtain rfl : i = y := by
      have := List.getElem?_eq_some_iff.mp hy
      obtain ⟨h1, h2⟩ := this
      rw [List.getElem_range] at h2
      exact h2
    refine ⟨rfl, _, rfl, _, rfl, rfl, _, rfl, ?_⟩
    have e1 : ∀ z : Int, (!decide (V.int (0 + (i : Nat)) = V.int z)) = decide ((i : Int) ≠ z) := fun z => by
      rw [show ((0 : Int) + (i : Nat)) = (i : Int) by omega]
      by_cases h : (i : Int) = z <;> simp [h]
    rw [e1]
    refine iteB (fun h1 => ?_) (fun h1 => ?_)
    · refine ⟨_, rfl, _, rfl, rfl, _, rfl, ?_⟩
      rw [e1]
      refine iteB (fun h2 => ⟨_, rfl, ?_⟩) (fun h2 => ?_)
      · have := hR (by rw [h1, h2]; rfl) _ (Keeps.refl _ _) (Imm.refl _)
        have e0 : V.int (0 + ((i : Nat) : Int)) = V.int ((id i : Nat) : Int) := by rw [Int.zero_add]; rfl
        show R (V.int (0 + ((i : Nat) : Int))) H3'
        rw [e0]
        exact this
      · exact hN (by rw [h1, h2]; rfl) _ (Keeps.refl _ _) (Imm.refl _)
    · exact iteF (hN (by rw [h1]; rfl) _ (Keeps.refl _ _) (Imm.refl _))
  · intro H3 k3 m3 e3
    rw [List.map_id] at e3
    have hlen : 92 ≤ ((List.range 94).filter fun j : Nat => decide ((j : Int) ≠ one) && decide ((j : Int) ≠ ot)).length := by
      have h1 := rm_len one.toNat (List.range 94) List.nodup_range
      have h2 := rm_len ot.toNat ((List.range 94).filter fun x => decide (x ≠ one.toNat)) (List.nodup_range.filter _)
      rw [List.filter_filter] at h2
      have e : (List.range 94).filter (fun j : Nat => decide ((j : Int) ≠ one) && decide ((j : Int) ≠ ot)) = (List.range 94).filter (fun j => decide (j ≠ ot.toNat) && decide (j ≠ one.toNat)) := by
        refine List.filter_congr fun j _ => ?_
        have a1 : decide ((j : Int) ≠ one) = decide (j ≠ one.toNat) := decide_eq_decide.mpr ⟨fun h => by omega, fun h => by omega⟩
        have a2 : decide ((j : Int) ≠ ot) = decide (j ≠ ot.toNat) := decide_eq_decide.mpr ⟨fun h => by omega, fun h => by omega⟩
        rw [a1, a2, Bool.and_comm]
      rw [e]
      rw [List.length_range] at h1
      omega
    have hb3 := b2.kp k3 (by simp)
    refine ⟨_, rfl, b, 92, _, rfl, hb3, by omega, by omega, by omega, fun u H4 k4 b4 hu0 hu1 m4 => ?_⟩
    have Db : D ∉ [b] := fun z => by
      obtain ⟨_, _, _, q, _⟩ := b2
      rw [List.mem_singleton.mp z, q] at hD
      cases hD
    have e4 := k4 _ _ e3 Db
    have hul : u.toNat < ((List.range 94).filter fun j : Nat => decide ((j : Int) ≠ one) && decide ((j : Int) ≠ ot)).length := by omega
    obtain ⟨th, hth⟩ : ∃ th, ((List.range 94).filter fun j : Nat => decide ((j : Int) ≠ one) && decide ((j : Int) ≠ ot))[u.toNat]? = some th := ⟨_, List.getElem?_eq_getElem hul⟩
    have hthm := List.mem_filter.mp (List.mem_of_getElem? hth)
    have hth1 : th < 94 := List.mem_range.mp hthm.1
    have hth2 : (th : Int) ≠ one ∧ (th : Int) ≠ ot := by simpa using hthm.2
    have hat : atI (((List.range 94).filter fun j : Nat => decide ((j : Int) ≠ one) && decide ((j : Int) ≠ ot)).map fun j : Nat => V.int (j : Nat)) u = some (V.int (th : Nat)) := by
      have := atI_nat (xs := ((List.range 94).filter fun j : Nat => decide ((j : Int) ≠ one) && decide ((j : Int) ≠ ot)).map fun j : Nat => V.int (j : Nat)) (j := u.toNat) (v := V.int (th : Nat)) (by rw [List.getElem?_map, hth]; rfl)
      rw [show ((u.toNat : Nat) : Int) = u by omega] at this
      exact this
    refine ⟨_, _, _, _, rfl, rfl, SqL.of e4, hat, ?_⟩
    refine ⟨⟨_, rfl⟩, _, rfl, _, rfl, _, rfl, show 3 ≤ sizeLine by decide, fun p hp => ?_⟩
    have kp := (Keeps.refl [] H4).new (o := .lst [V.int one, V.int ot, V.int th]) hp
    have ep : upd H4 p (.lst [V.int one, V.int ot, V.int th]) p = some (.lst [V.int one, V.int ot, V.int th]) := upd_same
    generalize upd H4 p (.lst [V.int one, V.int ot, V.int th]) = H5 at kp ep ⊢
    refine ⟨p, [one, ot, th], rfl, SqL.of ep, show 3 < 64 by decide, fun ns q hperm hle hq => ?_⟩
    have kq := kp.new (o := .lst (ns.map V.int)) hq
    have eq : upd H5 q (.lst (ns.map V.int)) q = some (.lst (ns.map V.int)) := upd_same
    generalize upd H5 q (.lst (ns.map V.int)) = H6 at kq eq ⊢
    have hns : ∀ j ∈ ns, 0 ≤ j ∧ j < 94 := fun j hj => by
      have := hperm.mem_iff.mp hj
      simp at this
      rcases this with rfl | rfl | rfl <;> omega
    have hnd : ns.Nodup := hperm.nodup_iff.mpr (by
      have := hth2.1
      have := hth2.2
      simp only [List.nodup_cons, List.mem_cons, List.not_mem_nil, or_false, not_or, not_false_eq_true, List.nodup_nil, and_true]
      omega)
    have hl3 : ns.length = 3 := by rw [hperm.length_eq]; rfl
    have lt2 : ns.Pairwise (· < ·) := List.Pairwise.imp (fun {a b} h => by
      have := h.1
      have := h.2
      omega) (hle.and hnd)
    refine ⟨q, rfl, ⟨_, SqL.of eq⟩, fun D2 hD2 => lc_fun ns (fun _ => true) V.str (fun j => one1s (everyL.getD j.toNat 0)) walk_list (by rw [List.length_map]) (by omega) hD2 (fun H' k' _ => SqL.of (k'.same eq)) ?_ ?_⟩
    · rintro i y x H7 H7' hy k7 m7 ⟨rfl, hx⟩ R N hR _
      obtain ⟨j, h1, hjm, rfl⟩ := getM hx
      obtain rfl : j = y := Option.some.inj (h1.symm.trans hy)
      have hj := hns j hjm
      refine ⟨rfl, rfl, fun z hz _ => ⟨_, rfl, _, _, everyL.getD j.toNat 0, rfl, rfl, ?_, ?_, hR rfl _ (Keeps.refl _ _) (Imm.refl _)⟩⟩
      · show z.cps.size ≤ sizeLine
        rw [← Array.length_toList, hz, everyL_len]
        decide
      · rw [hz]
        have hlt : j.toNat < everyL.length := by rw [everyL_len]; omega
        have := atI_nat (xs := everyL) (j := j.toNat) (List.getElem?_eq_getElem hlt)
        rw [show ((j.toNat : Nat) : Int) = j by omega] at this
        rw [this, List.getD_eq_getElem?_getD, List.getElem?_eq_getElem hlt]
        rfl
    · intro H7 k7 m7 e7
      rw [filter_all_true] at e7
      have em : (ns.map fun j => one1s (everyL.getD j.toNat 0)) = (ns.map fun j => everyL.getD j.toNat 0).map one1s := by rw [List.map_map]; rfl
      rw [em] at e7
      refine ⟨"", D2, (ns.map fun j => everyL.getD j.toNat 0).map one1s, rfl, rfl, .inl (SqL.of e7), ?_, ?_⟩
      · rw [one_sum, List.length_map, hl3]
        show 3 + _ * 0 ≤ 16777216
        omega
      have hj := join_one (ns.map fun j => everyL.getD j.toNat 0)
      generalize Txt.join "" ((ns.map fun j => everyL.getD j.toNat 0).map one1s) = z at hj
      have kz : Keeps [b] H H7 := ((((k12.trans k3.nil).trans k4).trans kq.nil).trans k7.nil)
      have inE : ∀ j : Int, 0 ≤ j ∧ j < 94 → everyL[j.toNat]? = some (everyL.getD j.toNat 0) := fun j hj => by
        have hlt : j.toNat < everyL.length := by rw [everyL_len]; omega
        rw [List.getD_eq_getElem?_getD, List.getElem?_eq_getElem hlt]
        rfl
      refine k z H7 kz ((b4.kp kq (by simp)).kp k7 (by simp)) ?_ ?_ ?_
      · intro c hc
        rw [hj] at hc
        obtain ⟨j, hjm, rfl⟩ := List.mem_map.mp hc
        exact everyL_ok _ (List.mem_of_getElem? (inE j (hns j hjm)))
      · show z.cps.size = 3
        rw [← Array.length_toList, hj, List.length_map, hl3]
      · rw [hj, List.pairwise_map]
        refine List.Pairwise.imp_of_mem (fun {a b} ha hb h => ?_) lt2
        have h1 := inE a (hns a ha)
        have h2 := inE b (hns b hb)
        obtain ⟨l1, g1⟩ := List.getElem?_eq_some_iff.mp h1
        obtain ⟨l2, g2⟩ := List.getElem?_eq_some_iff.mp h2
        rw [← g1, ← g2]
        have ha2 := hns a ha
        exact List.pairwise_iff_getElem.mp everyL_up _ _ l1 l2 (by omega)
end
end Kr
namespace Kr
open PySem PySem.Spec PyProof.Rows L2
section
variable {P : Program} {w : World} {K : PySem.W.Frag} {mg : Str → Option Value} {base : Heap} {k : Nat}
theorem bag_ne {H : Hp} {b l : Addr} {n : Nat} (h : BagAt H b n) (hl : H l = none) : b ≠ l := let ⟨_, _, _, e, _⟩ := h; ne_of_none e hl
theorem bag_in {H : Hp} {b : Addr} {n : Nat} (h : BagAt H b n) : ∀ s ∈ [b], H s ≠ none := fun s hs => by
  obtain ⟨_, _, _, e, _⟩ := h
  rw [List.mem_singleton.mp hs, e]
  exact fun z => nomatch z
theorem app_cps (x y : Str) : (x ++ y).cps.toList = x.cps.toList ++ y.cps.toList := by
  show (x.cps ++ y.cps).toList = _
  exact Array.toList_append
theorem app_len (x y : Str) : (x ++ y).length = x.length + y.length := by
  show (x.cps ++ y.cps).size = _
  exact Array.size_append
theorem every8 : okT " aZ09~!." := by
  have h : ∀ c ∈ (" aZ09~!." : Str).cps.toList, okC c = true := by decide +kernel
  exact h
def spText : Sp := fun vs H Q _ => ∃ (b : Addr) (some_ : Str) (long n : Nat), vs = [.ref b, .str some_, .int (long : Nat)] ∧ okT some_ ∧ some_.length = 3 ∧ long ≤ 10 ∧ BagAt H b n ∧ n ≤ 50000 ∧
  ∀ (z : Str) H', Keeps [b] H H' → BagAt H' b (n + 30) → okT z → z.length = long → Q (.str z) H'
theorem ok_law_text (T : Tp K mg) (c_law_take : Calls P w K mg base k "_law_take" ["bag", "many"] spTake) : Calls P w K mg base (k + 1) "_law_text" ["bag", "some", "long"] spText := by
  have sc : FnScope ["bag", "some", "long", "every", "found", "k", "sign"] ["bag", "some", "long"] d_law_text.scope := ⟨rfl, rfl, rfl, by decide +kernel, rfl, by decide +kernel, by decide +kernel⟩
  refine mkCall T in_law_text rfl mg_law_text rfl rfl sc (fun _ _ _ _ _ _ us hl => match us, hl with | [_, _, _], _ => rfl) (fun vs H Q E h => ?_) (fun f cdv A outer s H vs Q E hr h => ?_)
  · obtain ⟨b, z, i, n, rfl, _⟩ := h
    rfl
  obtain ⟨b, sm, long, n, rfl, hT, h3, h10, hb, hn, k⟩ := h
  refine ⟨_, (pss_cons (ps_set (i := 3) sc.nd rfl (by first | exact Or.inl rfl | exact Or.inr rfl) pe_str)
      (pss_cons (ps_set (i := 4) sc.nd rfl (by first | exact Or.inl rfl | exact Or.inr rfl) pe_str)
      (pss_cons (ps_for PassesOwn.never rfl (pi_range1 (by rfl) (T.fre _ mf_range) (pa_cons (pv 2) pa_nil)) (pg_name (i := 5) sc.nd rfl (by first | exact Or.inl rfl | exact Or.inr rfl))
        (pss_cons (ps_set (i := 6) sc.nd rfl (by first | exact Or.inl rfl | exact Or.inr rfl) (pe_ix ix_str (pv 1) (pcall c_law_take hr (pa_cons (pv 0) (pa_cons pe_int pa_nil))) (fun _ _ => rfl)))
      (pss_cons (ps_if (pt_cmpR op_eq (pcall c_law_take hr (pa_cons (pv 0) (pa_cons pe_int pa_nil))) pe_int (nomark _)) (pss_one (ps_set (i := 6) sc.nd rfl (by first | exact Or.inl rfl | exact Or.inr rfl) (pe_ix ix_str (pv 3) (pcall c_law_take hr (pa_cons (pv 0) (pa_cons pe_int pa_nil))) (fun _ _ => rfl)))) pss_nil)
      (pss_one (ps_set (i := 4) sc.nd rfl (by first | exact Or.inl rfl | exact Or.inr rfl) (pe_op op_add_str (pv 4) (pv 6)))))))
      (pss_one (ps_ret (pv 4)))))), ?_⟩
  refine ⟨_, rfl, _, rfl, by omega, by omega, ?_⟩
  have e0 : ((long : Nat) : Int).toNat = long := by omega
  rw [e0]
  refine for_it walk_range (fun i σ H' => ∃ (v5 v6 : Option V) (z : Str), σ = [some (.ref b), some (.str sm), some (.int (long : Nat)), some (.str " aZ09~!."), some (.str z), v5, v6] ∧ Keeps [b] H H' ∧ BagAt H' b (n + 3 * i) ∧ okT z ∧ z.length = i)
    ⟨none, none, ⟨#[]⟩, rfl, Keeps.refl _ _, hb, fun c hc => by simp at hc, rfl⟩ (fun _ _ _ _ _ => trivial) ?_ ?_
  · rintro i x σ H1 H1' hi ⟨v5, v6, z, rfl, k1, b1, ok1, hl1⟩ ⟨rfl, rfl⟩
    refine ⟨_, rfl, _, rfl, b, 3, _, rfl, b1, by omega, by omega, by omega, fun v H2 k2 b2 hv0 hv3 m2 => ?_⟩
    have pick : ∀ (zz : Str) (v : Int) (m : Nat), okT zz → zz.length = m → 0 ≤ v → v < m → ∃ c, atI zz.cps.toList v = some c ∧ okC c = true := by
      intro zz v m hz hm h0 h1
      have hlt : v.toNat < zz.cps.toList.length := by
        rw [Array.length_toList]
        have : zz.cps.size = m := hm
        omega
      have hg := List.getElem?_eq_getElem hlt
      have := atI_nat hg
      rw [show ((v.toNat : Nat) : Int) = v by omega] at this
      exact ⟨_, this, hz _ (List.getElem_mem _)⟩
    obtain ⟨c, hc1, hc2⟩ := pick sm v 3 hT h3 hv0 hv3
    refine ⟨_, _, c, rfl, rfl, by show sm.length ≤ _; rw [h3]; decide, hc1, ?_⟩
    refine ⟨_, rfl, b, 9, _, rfl, b2, by omega, by omega, by omega, fun u H3 k3 b3 hu0 hu9 m3 => ?_⟩
    have fin : ∀ (d : Nat) (H' : Hp), okC d = true → Keeps [b] H3 H' → BagAt H' b (n + 3 * (i + 1)) →
        tAsg (tOp (fun x y H Q => ∃ i j, x = V.str i ∧ y = V.str j ∧ i.length + j.length ≤ sizeLine ∧ Q (V.str (i ++ j)) H) (tVar 4) (tVar 6)) (gName 4) { nx := fun σ H' => ∃ (v5 v6 : Option V) (z : Str), σ = [some (.ref b), some (.str sm), some (.int (long : Nat)), some (.str " aZ09~!."), some (.str z), v5, v6] ∧ Keeps [b] H H' ∧ BagAt H' b (n + 3 * (i + 1)) ∧ okT z ∧ z.length = i + 1, rt := Q }
          [some (.ref b), some (.str sm), some (.int (long : Nat)), some (.str " aZ09~!."), some (.str z), some (.int (0 + i)), some (.str ⟨#[d]⟩)] H' := by
      intro d H' hd k4 b4
      refine ⟨_, rfl, _, rfl, _, _, rfl, rfl, ?_, _, _, _, rfl, ((k1.trans k2).trans k3).trans k4, b4, ?_, ?_⟩
      · show z.length + 1 ≤ sizeLine
        exact line5' (by omega)
      · intro c hc
        rw [app_cps] at hc
        rcases List.mem_append.mp hc with q | q
        · exact ok1 c q
        · rw [List.mem_singleton.mp q]
          exact hd
      · rw [app_len, hl1]
        rfl
    refine ⟨rfl, _, rfl, iteB (fun _ => ?_) (fun _ => fin c H3 hc2 (Keeps.refl _ _) (b3.mono (by omega)))⟩
    refine ⟨_, rfl, _, rfl, b, 8, _, rfl, b3, by omega, by omega, by omega, fun t H4 k4 b4 ht0 ht8 m4 => ?_⟩
    obtain ⟨d, hd1, hd2⟩ := pick " aZ09~!." t 8 every8 (by decide +kernel) ht0 ht8
    exact ⟨_, _, d, rfl, rfl, by decide +kernel, hd1, fin d H4 hd2 k4 (b4.mono (by omega))⟩
  · rintro σ H1 ⟨v5, v6, z, rfl, k1, b1, ok1, hl1⟩
    exact ⟨_, rfl, k z H1 k1 (b1.mono (by omega)) ok1 hl1⟩
/-- names that are no rule's -/
def cands : List Str := ((List.range 8).map fun i => mulS "q" (1 + (i : Nat))) ++ [("zz" : Str)]
def nobody (names : List Str) : Str := (cands.filter fun z => decide (z ∉ names)).headD "zz"
theorem cands_nd : cands.Nodup := by decide +kernel
theorem cands_ok : ∀ z ∈ cands, okN z := by
  have h : ∀ z ∈ cands, (decide (1 ≤ z.length) && (decide (z.length ≤ 8) && z.cps.toList.all okL)) = true := by decide +kernel
  intro z hz
  have := h z hz
  simp only [Bool.and_eq_true, decide_eq_true_eq, List.all_eq_true] at this
  exact ⟨this.1, this.2.1, this.2.2⟩
theorem nobody_of {names : List Str} (h : names.length ≤ 8) : ∃ r, (cands.filter fun z => decide (z ∉ names)) = nobody names :: r ∧ nobody names ∉ names ∧ okN (nobody names) := by
  have hne := free_in cands names cands_nd (by have : cands.length = 9 := by decide +kernel
                                               omega)
  obtain ⟨z, r, hz⟩ := List.exists_cons_of_ne_nil hne
  have e : nobody names = z := by unfold nobody; rw [hz]; rfl
  have hm : z ∈ cands.filter fun z => decide (z ∉ names) := by rw [hz]; exact List.mem_cons_self
  obtain ⟨h1, h2⟩ := List.mem_filter.mp hm
  rw [e]
  exact ⟨r, hz, of_decide_eq_true h2, cands_ok z h1⟩
def spNobody (K : PySem.W.Frag) : Sp := fun vs H Q _ => ∃ (l : Addr) (names : List Str), vs = [.ref l] ∧ SqL K H l (names.map V.str) ∧ names.length ≤ 8 ∧ ∀ H', Keeps [] H H' → Q (.str (nobody names)) H'
theorem ok_law_nobody (T : Tp K mg) : Calls P w K mg base (k + 1) "_law_nobody" ["names"] (spNobody K) := by
  have sc : FnScope ["names", "one", "k"] ["names"] d_law_nobody.scope := ⟨rfl, rfl, rfl, by decide +kernel, rfl, by decide +kernel, by decide +kernel⟩
  refine mkCall T in_law_nobody rfl mg_law_nobody rfl rfl sc (fun _ _ _ _ _ _ us hl => match us, hl with | [_], _ => rfl) (fun vs H Q E h => ?_) (fun f cdv A outer s H vs Q E hr h => ?_)
  · obtain ⟨b, z, rfl, _⟩ := h
    rfl
  obtain ⟨l, names, rfl, hl, h8, k⟩ := h
  refine ⟨_, (pss_one (ps_ret (pe_ix ix_list (pe_lc (own := [("one", 1)]) rfl sc.nd (pi_list (pe_op op_catS (pe_lc (own := [("k", 2)]) rfl sc.nd (pi_range2 (by rfl) (T.fre _ mf_range) (pa_cons pe_int (pa_cons pe_int pa_nil))) (blkOk_by (by kernel_rfl)) (fun _ _ _ _ _ => (pg_name (i := 2) sc.nd rfl (by first | exact Or.inl rfl | exact Or.inr rfl))) (fun _ _ _ _ _ => pts_nil) (fun _ _ _ _ _ => (pe_op op_mulStr pe_str (pv 2)))) (pe_lst (pa_cons pe_str pa_nil)))) (blkOk_by (by kernel_rfl)) (fun _ _ _ _ _ => (pg_name (i := 1) sc.nd rfl (by first | exact Or.inl rfl | exact Or.inr rfl))) (fun _ _ _ _ _ => (pts_one (pt_cmpR (op_notIn_seqK (K := K) rfl) (pv 1) (pv 0) (by rfl)))) (fun _ _ _ _ _ => (pv 1))) pe_int (fun _ _ => rfl)))), ?_⟩
  refine ⟨_, _, rfl, by omega, fun D hD => lc_map (walk_range (n := 8)) V.str (fun i => mulS "q" (1 + (i : Nat))) (by decide) hD (fun _ _ _ => trivial) ?_ ?_⟩
  · rintro i x H3 H3' hi k3 m3 ⟨rfl, rfl⟩ R hR
    have hm : ∀ i : Nat, i < 8 → (mulS "q" (1 + (i : Nat))).length ≤ 1000 := by decide +kernel
    exact ⟨rfl, _, rfl, _, _, rfl, rfl, by omega, by omega, by decide, hm i hi, hR _ (Keeps.refl _ _) (Imm.refl _)⟩
  · intro H1 k1 m1 e1
    refine ⟨by decide, fun p hp => ⟨D, p, _, _, rfl, rfl, .inl (by rw [upd_ne (ne_of_none e1 hp)]; exact e1), .inl upd_same, by decide, fun q hq => ?_⟩⟩
    have kp := k1.new (o := .lst [V.str "zz"]) hp
    have kq := kp.new (o := .lst ((((List.range 8).map fun i => mulS "q" (1 + (i : Nat))).map V.str) ++ [V.str "zz"])) hq
    have eq : upd (upd H1 p (.lst [V.str "zz"])) q (.lst ((((List.range 8).map fun i => mulS "q" (1 + (i : Nat))).map V.str) ++ [V.str "zz"])) q = some (.lst (cands.map V.str)) := by
      rw [upd_same]
      unfold cands
      rw [List.map_append]
      rfl
    generalize upd (upd H1 p (.lst [V.str "zz"])) q (.lst ((((List.range 8).map fun i => mulS "q" (1 + (i : Nat))).map V.str) ++ [V.str "zz"])) = H2 at kq eq ⊢
    refine ⟨q, rfl, ⟨_, SqL.of eq⟩, fun D2 hD2 => lc_fun cands (fun z => decide (z ∉ names)) V.str id walk_list (by rw [List.length_map]) (by decide +kernel) hD2 (fun H' k' _ => SqL.of (k'.same eq)) ?_ ?_⟩
    · rintro i y x H3 H3' hy k3 m3 ⟨rfl, hx⟩ R N hR hN
      obtain ⟨z, h1, _, rfl⟩ := getM hx
      obtain rfl : z = y := Option.some.inj (h1.symm.trans hy)
      refine ⟨rfl, _, rfl, _, rfl, l, _, rfl, .inl (sq_kp hl (kq.trans k3) (by simp)), rfl, flat_strs _, _, rfl, ?_⟩
      rw [if_pos rfl, inV_str]
      exact iteB (fun hb2 => ⟨_, rfl, hR (by simpa using hb2) _ (Keeps.refl _ _) (Imm.refl _)⟩) (fun hb2 => hN (by simpa using hb2) _ (Keeps.refl _ _) (Imm.refl _))
    · intro H3 k3 m3 e3
      rw [List.map_id] at e3
      obtain ⟨r, hr2, _⟩ := nobody_of h8
      rw [hr2] at e3
      exact ⟨_, _, _, _, rfl, rfl, SqL.of e3, at_0 rfl, k _ (kq.trans k3)⟩
end
end Kr
namespace Kr
open PySem PySem.Spec PyProof.Rows L2
section
variable {P : Program} {w : World} {K : PySem.W.Frag} {mg : Str → Option Value} {base : Heap} {k : Nat}
def Fm.leaf : Fm → Bool
  | .any => true
  | .signs _ => true
  | _ => false
/-- what _law_form gives -/
def FormOf (names : List Str) (j : Nat) (leaves : List Str) (f : Fm) : Prop :=
  f.ok ∧ (f.leaf = true ∨ (∀ q ∈ f.parts, q ∈ names.drop (j + 1) ∨ q = nobody names) ∨ ∃ leaf more, f = .row (leaf :: more) ∧ leaf ∈ leaves ∧ ∀ q ∈ more, q ∈ names)
abbrev rLenS (K : PySem.W.Frag) : List V → Hp → VK → Prop := fun xs H Q => ∃ p ys, xs = [V.ref p] ∧ (SqL K H p ys ∨ SqT K H p ys) ∧ Q (.int (ys.length : Nat)) H
/-- n of xs, drawn -/
theorem lc_pick {b l D : Addr} {xs : List Str} {a cnt n : Nat} {σ : L2.St} {H1 : Hp} {Qd : Hp → Prop} (h1 : ∀ v, ((wipe σ [13]).set 13 (some v))[a]? = some (some (.ref l))) (h0 : ∀ v, ((wipe σ [13]).set 13 (some v))[0]? = some (some (.ref b)))
    (hw : ∀ v, wipe ((wipe σ [13]).set 13 (some v)) [13] = wipe σ [13]) (hl : SqL K H1 l (xs.map V.str)) (lb : l ≠ b) (hx : xs ≠ []) (hx9 : xs.length ≤ 1000) (hb : BagAt H1 b n) (hn : n + cnt ≤ 100000) (hD : H1 D = none)
    (hd : ∀ (ps : List Str) H, Keeps [b] H1 H → Imm H1 H → BagAt H b (n + cnt) → ps.length = cnt → (∀ q ∈ ps, q ∈ xs) → H D = some (.lst (ps.map V.str)) → Qd H) :
    LcW (Itr 0 cnt) (gName 13) tYes (tOp (rIxL K) (tVar a) (tCallI spTake (tCons (tVar 0) (tCons (tCB (rLenS K) (tCons (tVar a) tNil)) tNil)))) [13] σ H1 D Qd := by
  have hpos : 0 < xs.length := List.length_pos_iff.mpr hx
  refine lc_acc (walk_range (lo := 0) (n := cnt)) [b] (by omega) hD (bag_in hb) (fun j acc H' => ∃ ps : List Str, acc = ps.map V.str ∧ ps.length = j ∧ (∀ q ∈ ps, q ∈ xs) ∧ BagAt H' b (n + j)) ?_ ⟨[], rfl, rfl, by simp, hb⟩ (fun _ _ _ => trivial) ?_ ?_
  · rintro j acc H5 H5' m5 hs ⟨cs, h1, h2, h3, ⟨x, y, c, q, r⟩⟩
    exact ⟨cs, h1, h2, h3, x, y, c, by rw [hs b (by simp)]; exact q, r⟩
  · rintro j x acc H5 H5' hj k5 m5 _ ⟨ps, rfl, e2, e3, b5⟩ ⟨rfl, rfl⟩ R N hR hN
    have hl5 : SqL K H5' l (xs.map V.str) := sq_kp hl k5 (fun z => lb (List.mem_singleton.mp z))
    refine ⟨hw _, _, h1 _, _, h0 _, _, h1 _, l, _, rfl, .inl hl5, b, _, _, rfl, b5, by omega, ?_, ?_, fun v H6 k6 b6 hv0 hv1 m6 => ?_⟩
    · rw [List.length_map]; omega
    · rw [List.length_map]; omega
    rw [List.length_map] at hv1
    have hg : xs[v.toNat]? = some (xs[v.toNat]'(by omega)) := List.getElem?_eq_getElem (by omega)
    have hat := atI_nat (xs := xs.map V.str) (j := v.toNat) (v := V.str (xs[v.toNat]'(by omega))) (by rw [List.getElem?_map, hg]; rfl)
    rw [show ((v.toNat : Nat) : Int) = v by omega] at hat
    refine ⟨l, _, _, _, rfl, rfl, sq_kp hl5 k6 (fun z => lb (List.mem_singleton.mp z)), hat, hR _ H6 k6 m6 ⟨ps ++ [_], by rw [List.map_append]; rfl, by rw [List.length_append, e2]; rfl, fun q hq => ?_, b6⟩⟩
    rcases List.mem_append.mp hq with z | z
    · exact e3 q z
    · rw [List.mem_singleton.mp z]
      exact List.getElem_mem _
  · rintro acc H _ k m e ⟨ps, rfl, e2, e3, b5⟩
    exact hd ps H k m b5 e2 e3 e
theorem ixN_n {n j : Nat} (hj : j < n) : ixN n (j : Int) = some j := by
  unfold ixN
  rw [if_pos (by omega), if_pos (by omega), Int.toNat_natCast]
theorem gName_go {i : Nat} {v : V} {σ : L2.St} {H : Hp} {Q : L2.St → Hp → Prop} (h : Q (σ.set i (some v)) H) : gName i v σ H Q := h
theorem seq_with {t u : TS} {D : Ends} {σ : L2.St} {H : Hp} (Pv : L2.St → Hp → Prop) (h2 : ∀ σ' H', Pv σ' H' → u D σ' H') (h1 : (∀ σ' H', Pv σ' H' → u D σ' H') → t { D with nx := u D } σ H) : tSeq t u D σ H := h1 h2
theorem okS_sub {z y : Str} (hs : z.cps.toList.Sublist y.cps.toList) (hy : ∀ c ∈ y.cps.toList, okC c = true) (hp : y.cps.toList.Pairwise (· < ·)) (h1 : 1 ≤ z.length) (h40 : z.length ≤ 40) : okS z :=
  ⟨fun c hc => hy c (hs.subset hc), h1, h40, hp.sublist hs⟩
def spForm (K : PySem.W.Frag) : Sp := fun vs H Q _ => ∃ (b l lv : Addr) (names leaves : List Str) (j n : Nat) (sm : Str), vs = [.ref b, .ref l, .int (j : Nat), .str sm, .ref lv] ∧ SqL K H l (names.map V.str) ∧ l ≠ b ∧ lv ≠ b ∧ Rd H lv (.lst (leaves.map V.str)) ∧
  j < names.length ∧ names.length ≤ 7 ∧ leaves.length ≤ 7 ∧ (∀ x ∈ names, okN x) ∧ (∀ x ∈ leaves, x ∈ names) ∧ okT sm ∧ sm.length = 3 ∧ sm.cps.toList.Pairwise (· < ·) ∧ BagAt H b n ∧ n ≤ 50000 ∧
  ∀ (a : Addr) (f : Fm) H', Keeps [b] H H' → BagAt H' b (n + 30) → FormAt H' a f → FormOf names j leaves f → Q (.ref a) H'
theorem ok_law_form (T : Tp K mg) (c_law_take : Calls P w K mg base k "_law_take" ["bag", "many"] spTake) (c_law_every : Calls P w K mg base k "_law_every" [] spEvery) (c_law_nobody : Calls P w K mg base k "_law_nobody" ["names"] (spNobody K)) : Calls P w K mg base (k + 1) "_law_form" ["bag", "names", "k", "some", "leaves"] (spForm K) := by
  have sc : FnScope ["bag", "names", "k", "some", "leaves", "way", "later", "parts", "word", "at", "wide", "cut", "more", "j"] ["bag", "names", "k", "some", "leaves"] d_law_form.scope := ⟨rfl, rfl, rfl, by decide +kernel, rfl, by decide +kernel, by decide +kernel⟩
  refine mkCall T in_law_form rfl mg_law_form rfl rfl sc (fun _ _ _ _ _ _ us hl => match us, hl with | [_, _, _, _, _], _ => rfl) (fun vs H Q E h => ?_) (fun f cdv A outer s H vs Q E hr h => ?_)
  · obtain ⟨b, l, lv, names, leaves, j, n, sm, rfl, _⟩ := h
    rfl
  obtain ⟨b, l, lv, names, leaves, j, n, sm, rfl, hl, lb, lvb, hlv, hj, h7, hv7, hok, hlf, hT, h3, hup, hb, hn, k⟩ := h
  refine ⟨_, (pss_cons (ps_set (i := 5) sc.nd rfl (by first | exact Or.inl rfl | exact Or.inr rfl) (pcall c_law_take hr (pa_cons (pv 0) (pa_cons pe_int pa_nil))))
      (pss_cons (ps_set (i := 6) sc.nd rfl (by first | exact Or.inl rfl | exact Or.inr rfl) (pe_slice sl_list (pv 1) (po_some (pe_op op_add (pv 2) pe_int)) po_none))
      (pss_cons (ps_if (PW.pt (pw_or (pt_cmpR op_lt (pv 5) pe_int (nomark _)) (pw_or1 (pt_cmpR (op_eqNil hr.units) (pv 6) (pe_lst pa_nil) (nomark _))))) (pss_cons (ps_set (i := 9) sc.nd rfl (by first | exact Or.inl rfl | exact Or.inr rfl) (pcall c_law_take hr (pa_cons (pv 0) (pa_cons pe_int pa_nil))))
      (pss_cons (ps_set (i := 10) sc.nd rfl (by first | exact Or.inl rfl | exact Or.inr rfl) (pe_slice sl_str (pcall0 c_law_every hr) (po_some (pv 9)) (po_some (pe_op op_add (pe_op op_add (pv 9) pe_int) (pcall c_law_take hr (pa_cons (pv 0) (pa_cons pe_int pa_nil)))))))
      (pss_cons (ps_set (i := 11) sc.nd rfl (by first | exact Or.inl rfl | exact Or.inr rfl) (pe_ix ix_list (pe_lst (pa_cons (pv 3) (pa_cons (pe_slice sl_str (pv 3) po_none (po_some pe_int)) (pa_cons (pe_slice sl_str (pv 3) (po_some pe_int) po_none) (pa_cons (pe_slice sl_str (pv 3) po_none (po_some pe_int)) (pa_cons (pe_slice sl_str (pv 3) (po_some pe_int) po_none) (pa_cons (pv 10) pa_nil))))))) (pcall c_law_take hr (pa_cons (pv 0) (pa_cons pe_int pa_nil))) (fun _ _ => rfl)))
      (pss_one (ps_ret (pe_ix ix_list (pe_lst (pa_cons (pe_tup (pa_cons pe_str (pa_cons (pv 11) pa_nil))) (pa_cons (pe_tup (pa_cons pe_str pa_nil)) (pa_cons (pe_tup (pa_cons pe_str (pa_cons (pv 11) pa_nil))) (pa_cons (pe_tup (pa_cons pe_str (pa_cons (pv 11) pa_nil))) pa_nil))))) (pcall c_law_take hr (pa_cons (pv 0) (pa_cons pe_int pa_nil))) (fun _ _ => rfl))))))) pss_nil)
      (pss_cons (ps_setLc (i := 7) (own := [("j", 13)]) rfl sc.nd rfl rfl (sw_true rfl rfl rfl (by kernel_rfl)) (pi_range1 (by rfl) (T.fre _ mf_range) (pa_cons (pe_op op_add pe_int (pcall c_law_take hr (pa_cons (pv 0) (pa_cons pe_int pa_nil)))) pa_nil)) (blkOk_by (by kernel_rfl)) (fun _ _ _ _ _ => (pg_name (i := 13) sc.nd rfl (by first | exact Or.inl rfl | exact Or.inr rfl))) (fun _ _ _ _ _ => pts_nil) (fun _ _ _ _ _ => (pe_ix (ix_listK (K := K) rfl) (pv 6) (pcall c_law_take hr (pa_cons (pv 0) (pa_cons (pe_callB (call_len_seqK (K := K) rfl) (by rfl) (T.fre _ mf_len) bt_len (pa_cons (pv 6) pa_nil)) pa_nil))) (fun _ _ => rfl))))
      (pss_cons (ps_if (pt_cmpR op_eq (pcall c_law_take hr (pa_cons (pv 0) (pa_cons pe_int pa_nil))) pe_int (nomark _)) (pss_one (ps_asg (pcall c_law_nobody hr (pa_cons (pv 1) pa_nil)) (pg_sub (pv 7) (pcall c_law_take hr (pa_cons (pv 0) (pa_cons (pe_callB call_len_seq (by rfl) (T.fre _ mf_len) bt_len (pa_cons (pv 7) pa_nil)) pa_nil))) set_list))) pss_nil)
      (pss_cons (ps_if (pt_cmpR op_lt (pv 5) pe_int (nomark _)) (pss_one (ps_ret (pe_op op_catT (pe_tup (pa_cons pe_str pa_nil)) (pe_callTy call_tuple_of (by rfl) (T.fre _ mf_tuple) bt_tuple (pa_cons (pv 7) pa_nil))))) pss_nil)
      (pss_cons (ps_if (PW.pt (pw_and (pt_cmpR op_lt (pv 5) pe_int (nomark _)) (pw_and1 (pt_cmpR (op_neNil hr.units) (pv 4) (pe_lst pa_nil) (nomark _))))) (pss_cons (ps_setLc (i := 12) (own := [("j", 13)]) rfl sc.nd rfl rfl (sw_true rfl rfl rfl (by kernel_rfl)) (pi_range1 (by rfl) (T.fre _ mf_range) (pa_cons (pcall c_law_take hr (pa_cons (pv 0) (pa_cons pe_int pa_nil))) pa_nil)) (blkOk_by (by kernel_rfl)) (fun _ _ _ _ _ => (pg_name (i := 13) sc.nd rfl (by first | exact Or.inl rfl | exact Or.inr rfl))) (fun _ _ _ _ _ => pts_nil) (fun _ _ _ _ _ => (pe_ix (ix_listK (K := K) rfl) (pv 1) (pcall c_law_take hr (pa_cons (pv 0) (pa_cons (pe_callB (call_len_seqK (K := K) rfl) (by rfl) (T.fre _ mf_len) bt_len (pa_cons (pv 1) pa_nil)) pa_nil))) (fun _ _ => rfl))))
      (pss_one (ps_ret (pe_op op_catT (pe_tup (pa_cons pe_str (pa_cons (pe_ix ix_list (pv 4) (pcall c_law_take hr (pa_cons (pv 0) (pa_cons (pe_callB call_len_seq (by rfl) (T.fre _ mf_len) bt_len (pa_cons (pv 4) pa_nil)) pa_nil))) (fun _ _ => rfl)) pa_nil))) (pe_callTy call_tuple_of (by rfl) (T.fre _ mf_tuple) bt_tuple (pa_cons (pv 12) pa_nil)))))) pss_nil)
      (pss_cons (ps_if (pt_cmpR op_eq (pv 5) pe_int (nomark _)) (pss_one (ps_ret (pe_op op_catT (pe_tup (pa_cons pe_str pa_nil)) (pe_callTy call_tuple_of (by rfl) (T.fre _ mf_tuple) bt_tuple (pa_cons (pv 7) pa_nil))))) pss_nil)
      (pss_cons (ps_set (i := 8) sc.nd rfl (by first | exact Or.inl rfl | exact Or.inr rfl) (pe_ix ix_list (pe_lst (pa_cons pe_str (pa_cons pe_str (pa_cons pe_str (pa_cons pe_str (pa_cons pe_str pa_nil)))))) (pcall c_law_take hr (pa_cons (pv 0) (pa_cons pe_int pa_nil))) (fun _ _ => rfl)))
      (pss_one (ps_ret (pe_ifExp (pt_cmpR op_eq (pv 8) pe_str (nomark _)) (pe_tup (pa_cons pe_str pa_nil)) (pe_tup (pa_cons (pv 8) (pa_cons (pe_ix ix_list (pv 7) pe_int (fun _ _ => rfl)) pa_nil))))))))))))))), ?_⟩
  refine ⟨_, rfl, b, 12, _, rfl, hb, by omega, by omega, by omega, fun way H1 k1 b1 hw0 hw12 m1 => ?_⟩
  have hl1 := sq_kp hl k1 (fun z => lb (List.mem_singleton.mp z))
  refine ⟨_, rfl, _, rfl, _, _, rfl, rfl, _, rfl, _, _, rfl, hl1, fun lt hlt => ?_⟩
  have ec : cutV (names.map V.str) (some ((j : Int) + 1)) none = (names.drop (j + 1)).map V.str := by
    rw [show ((j : Int) + 1) = ((j + 1 : Nat) : Int) by omega, cut_from, List.map_drop]
  rw [ec]
  have k2 : Keeps [b] H (upd H1 lt (.lst ((names.drop (j + 1)).map V.str))) := k1.new hlt
  have b2 : BagAt (upd H1 lt (.lst ((names.drop (j + 1)).map V.str))) b (n + 1) := b1.kp ((Keeps.refl [] _).new hlt) (by simp)
  have lt2 : upd H1 lt (.lst ((names.drop (j + 1)).map V.str)) lt = some (.lst ((names.drop (j + 1)).map V.str)) := upd_same
  have ltb : lt ≠ b := fun z => bag_ne b1 hlt z.symm
  generalize upd H1 lt (.lst ((names.drop (j + 1)).map V.str)) = H2 at k2 b2 lt2 ⊢
  have hl2 := sq_kp hl k2 (fun z => lb (List.mem_singleton.mp z))
  have hlv2 := rd_kp hlv k2 (fun z => lvb (List.mem_singleton.mp z))
  -- the leaf road
  have leafRoad : ∀ (H3 : Hp), Keeps [] H2 H3 → tSeq (tAsg (tCallI spTake (tCons (tVar 0) (tCons (tC (V.int 94)) tNil))) (gName 9)) (tSeq (tAsg (tSl rSlS (tCallI spEvery tNil) (tPart (tVar 9)) (tPart (tOp (rI0 fun i j => V.int (i + j)) (tOp (rI0 fun i j => V.int (i + j)) (tVar 9) (tC (V.int 1))) (tCallI spTake (tCons (tVar 0) (tCons (tC (V.int 40)) tNil)))))) (gName 10))
      (tSeq (tAsg (tOp (rIxL K) (tLst (tCons (tVar 3) (tCons (tSl rSlS (tVar 3) tNoPart (tPart (tC (V.int 1)))) (tCons (tSl rSlS (tVar 3) (tPart (tC (V.int 1))) tNoPart) (tCons (tSl rSlS (tVar 3) tNoPart (tPart (tC (V.int 2)))) (tCons (tSl rSlS (tVar 3) (tPart (tC (V.int 2))) tNoPart) (tCons (tVar 10) tNil))))))) (tCallI spTake (tCons (tVar 0) (tCons (tC (V.int 6)) tNil)))) (gName 11))
        (tRet (tOp (rIxL K) (tLst (tCons (tTup (tCons (tC (V.str "signs")) (tCons (tVar 11) tNil))) (tCons (tTup (tCons (tC (V.str "any")) tNil)) (tCons (tTup (tCons (tC (V.str "signs")) (tCons (tVar 11) tNil))) (tCons (tTup (tCons (tC (V.str "signs")) (tCons (tVar 11) tNil))) tNil))))) (tCallI spTake (tCons (tVar 0) (tCons (tC (V.int 4)) tNil)))))))
      { nx := fun _ H' => Q .non H', rt := Q } [some (.ref b), some (.ref l), some (.int (j : Nat)), some (.str sm), some (.ref lv), some (.int way), some (.ref lt), none, none, none, none, none, none, none] H3 := by
    intro H3 k3
    have b3 := b2.kp k3 (by simp)
    refine ⟨_, rfl, b, 94, _, rfl, b3, by omega, by omega, by omega, fun at_ H4 k4 b4 ha0 ha1 m4 => ?_⟩
    refine ⟨rfl, fun ev hev _ => ⟨_, rfl, _, rfl, _, rfl, _, _, rfl, rfl, _, rfl, b, 40, _, rfl, b4, by omega, by omega, by omega, fun v H5 k5 b5 hv0 hv1 m5 => ?_⟩⟩
    refine ⟨_, _, rfl, rfl, _, rfl, ev, rfl, ?_, ?_⟩
    · show ev.cps.size ≤ sizeLine
      rw [← Array.length_toList, hev, everyL_len]
      decide
    have hwide : okS (cutS ev (some at_) (some (at_ + 1 + v))) := by
      have e1 : (cutS ev (some at_) (some (at_ + 1 + v))).cps.toList = (everyL.drop at_.toNat).take (1 + v.toNat) := by
        rw [show at_ + 1 + v = ((at_.toNat + 1 + v.toNat : Nat) : Int) by omega]
        rw [show some at_ = some ((at_.toNat : Nat) : Int) by congr 1; omega, cuts_mid, hev]
        congr 1
        omega
      have l1 : (cutS ev (some at_) (some (at_ + 1 + v))).length = min (1 + v.toNat) (94 - at_.toNat) := by
        show (cutS ev (some at_) (some (at_ + 1 + v))).cps.size = _
        rw [← Array.length_toList, e1, List.length_take, List.length_drop, everyL_len]
      refine okS_sub (y := ev) ?_ (by rw [hev]; exact everyL_ok) (by rw [hev]; exact everyL_up) (by omega) (by omega)
      rw [e1, hev]
      exact (List.take_sublist _ _).trans (List.drop_sublist _ _)
    have l3 : sm.length ≤ sizeLine := by rw [h3]; decide
    have l3' : sm.cps.toList.length = 3 := by rw [Array.length_toList]; exact h3
    have sub : ∀ z : Str, z.cps.toList.Sublist sm.cps.toList → 1 ≤ z.cps.toList.length → okS z := fun z hz h1 => by
      have hle := hz.length_le
      have e : z.length = z.cps.toList.length := (Array.length_toList).symm
      exact okS_sub hz hT hup (by omega) (by omega)
    have s1 : okS (cutS sm none (some 1)) := by
      have e := cuts_to (z := sm) 1
      refine sub _ ?_ ?_
      · rw [show (1 : Int) = ((1 : Nat) : Int) from rfl, e]; exact List.take_sublist _ _
      · rw [show (1 : Int) = ((1 : Nat) : Int) from rfl, e, List.length_take]; omega
    have s2 : okS (cutS sm (some 1) none) := by
      have e := cuts_from (z := sm) 1
      refine sub _ ?_ ?_
      · rw [show (1 : Int) = ((1 : Nat) : Int) from rfl, e]; exact List.drop_sublist _ _
      · rw [show (1 : Int) = ((1 : Nat) : Int) from rfl, e, List.length_drop]; omega
    have s3 : okS (cutS sm none (some 2)) := by
      have e := cuts_to (z := sm) 2
      refine sub _ ?_ ?_
      · rw [show (2 : Int) = ((2 : Nat) : Int) from rfl, e]; exact List.take_sublist _ _
      · rw [show (2 : Int) = ((2 : Nat) : Int) from rfl, e, List.length_take]; omega
    have s4 : okS (cutS sm (some 2) none) := by
      have e := cuts_from (z := sm) 2
      refine sub _ ?_ ?_
      · rw [show (2 : Int) = ((2 : Nat) : Int) from rfl, e]; exact List.drop_sublist _ _
      · rw [show (2 : Int) = ((2 : Nat) : Int) from rfl, e, List.length_drop]; omega
    have s0 : okS sm := sub sm (List.Sublist.refl _) (by omega)
    generalize cutS ev (some at_) (some (at_ + 1 + v)) = wide at hwide ⊢
    refine ⟨_, rfl, _, rfl, _, rfl, _, rfl, l3, _, rfl, _, rfl, _, rfl, l3, _, rfl, _, rfl, _, rfl, l3, _, rfl, _, rfl, _, rfl, l3, _, rfl, show 6 ≤ sizeLine by decide, fun p hp => ?_⟩
    have kp : Keeps [b] H4 (upd H5 p (.lst [V.str sm, V.str (cutS sm none (some 1)), V.str (cutS sm (some 1) none), V.str (cutS sm none (some 2)), V.str (cutS sm (some 2) none), V.str wide])) := k5.new hp
    have bp : BagAt (upd H5 p (.lst [V.str sm, V.str (cutS sm none (some 1)), V.str (cutS sm (some 1) none), V.str (cutS sm none (some 2)), V.str (cutS sm (some 2) none), V.str wide])) b (n + 1 + 1 + 1) := b5.kp ((Keeps.refl [] _).new hp) (by simp)
    have ep : upd H5 p (.lst [V.str sm, V.str (cutS sm none (some 1)), V.str (cutS sm (some 1) none), V.str (cutS sm none (some 2)), V.str (cutS sm (some 2) none), V.str wide]) p = some (.lst ([sm, cutS sm none (some 1), cutS sm (some 1) none, cutS sm none (some 2), cutS sm (some 2) none, wide].map V.str)) := upd_same
    have pb : p ≠ b := fun z => bag_ne b5 hp z.symm
    generalize upd H5 p (.lst [V.str sm, V.str (cutS sm none (some 1)), V.str (cutS sm (some 1) none), V.str (cutS sm none (some 2)), V.str (cutS sm (some 2) none), V.str wide]) = H6 at kp bp ep ⊢
    refine ⟨_, rfl, b, 6, _, rfl, bp, by omega, by omega, by omega, fun u H7 k7 b7 hu0 hu1 m7 => ?_⟩
    obtain ⟨cut, hcut, okc⟩ : ∃ cut, atI ([sm, cutS sm none (some 1), cutS sm (some 1) none, cutS sm none (some 2), cutS sm (some 2) none, wide].map V.str) u = some (V.str cut) ∧ okS cut := by
      have h : u = 0 ∨ u = 1 ∨ u = 2 ∨ u = 3 ∨ u = 4 ∨ u = 5 := by omega
      rcases h with rfl | rfl | rfl | rfl | rfl | rfl
      · exact ⟨_, at_0 rfl, s0⟩
      · exact ⟨_, at_1 rfl, s1⟩
      · exact ⟨_, at_2 rfl, s2⟩
      · exact ⟨_, at_3 rfl, s3⟩
      · exact ⟨_, at_4 rfl, s4⟩
      · exact ⟨_, at_5 rfl, hwide⟩
    refine ⟨_, _, _, _, rfl, rfl, SqL.of (k7 _ _ ep (fun z => pb (List.mem_singleton.mp z))), hcut, ?_⟩
    refine ⟨_, rfl, show 2 ≤ sizeLine by decide, fun t1 ht1 => ⟨show 1 ≤ sizeLine by decide, fun t2 ht2 => ⟨_, rfl, show 2 ≤ sizeLine by decide, fun t3 ht3 => ⟨_, rfl, show 2 ≤ sizeLine by decide, fun t4 ht4 => ⟨show 4 ≤ sizeLine by decide, fun q hq => ?_⟩⟩⟩⟩⟩
    have i1 := (Imm.refl H7).new (o := .tup [V.str "signs", V.str cut]) ht1
    have f1 : FormAt (upd H7 t1 (.tup [V.str "signs", V.str cut])) t1 (.signs cut) := upd_same
    have c1 := (Keeps.refl [] H7).new (o := .tup [V.str "signs", V.str cut]) ht1
    generalize upd H7 t1 (.tup [V.str "signs", V.str cut]) = G1 at i1 f1 c1 ht2 ht3 ht4 hq ⊢
    have i2 := (Imm.refl G1).new (o := .tup [V.str "any"]) ht2
    have f2 : FormAt (upd G1 t2 (.tup [V.str "any"])) t2 .any := upd_same
    have c2 := c1.new (o := .tup [V.str "any"]) ht2
    generalize upd G1 t2 (.tup [V.str "any"]) = G2 at i2 f2 c2 ht3 ht4 hq ⊢
    have i3 := (Imm.refl G2).new (o := .tup [V.str "signs", V.str cut]) ht3
    have f3 : FormAt (upd G2 t3 (.tup [V.str "signs", V.str cut])) t3 (.signs cut) := upd_same
    have c3 := c2.new (o := .tup [V.str "signs", V.str cut]) ht3
    generalize upd G2 t3 (.tup [V.str "signs", V.str cut]) = G3 at i3 f3 c3 ht4 hq ⊢
    have i4 := (Imm.refl G3).new (o := .tup [V.str "signs", V.str cut]) ht4
    have f4 : FormAt (upd G3 t4 (.tup [V.str "signs", V.str cut])) t4 (.signs cut) := upd_same
    have c4 := c3.new (o := .tup [V.str "signs", V.str cut]) ht4
    generalize upd G3 t4 (.tup [V.str "signs", V.str cut]) = G4 at i4 f4 c4 hq ⊢
    have i5 := (Imm.refl G4).new (o := .lst [V.ref t1, V.ref t2, V.ref t3, V.ref t4]) hq
    have c5 := c4.new (o := .lst [V.ref t1, V.ref t2, V.ref t3, V.ref t4]) hq
    have f5 : upd G4 q (.lst [V.ref t1, V.ref t2, V.ref t3, V.ref t4]) q = some (.lst [V.ref t1, V.ref t2, V.ref t3, V.ref t4]) := upd_same
    generalize upd G4 q (.lst [V.ref t1, V.ref t2, V.ref t3, V.ref t4]) = G5 at i5 c5 f5 ⊢
    have b8 := b7.kp c5 (by simp)
    have qb : q ≠ b := fun z => bag_ne (b7.kp c4 (by simp)) hq z.symm
    refine ⟨_, rfl, b, 4, _, rfl, b8, by omega, by omega, by omega, fun u H8 k8 b8 hu0 hu1 m8 => ?_⟩
    have kall : Keeps [b] H H8 := ((((k2.trans k3.nil).trans k4).trans kp).trans k7).trans (c5.nil.trans k8)
    have lst8 : SqL K H8 q [V.ref t1, V.ref t2, V.ref t3, V.ref t4] := SqL.of (k8 _ _ f5 (fun z => qb (List.mem_singleton.mp z)))
    have done : ∀ (t : Addr) (f : Fm), FormAt H8 t f → f.ok → f.leaf = true → Q (.ref t) H8 := fun t f hf ok lf => k t f H8 kall (b8.mono (by omega)) hf ⟨ok, .inl lf⟩
    have h : u = 0 ∨ u = 1 ∨ u = 2 ∨ u = 3 := by omega
    rcases h with rfl | rfl | rfl | rfl
    · exact ⟨_, _, _, _, rfl, rfl, lst8, at_0 rfl, done t1 _ ((((((f1.imm i2).imm i3).imm i4).imm i5)).imm m8) okc rfl⟩
    · exact ⟨_, _, _, _, rfl, rfl, lst8, at_1 rfl, done t2 _ ((((f2.imm i3).imm i4).imm i5).imm m8) trivial rfl⟩
    · exact ⟨_, _, _, _, rfl, rfl, lst8, at_2 rfl, done t3 _ (((f3.imm i4).imm i5).imm m8) okc rfl⟩
    · exact ⟨_, _, _, _, rfl, rfl, lst8, at_3 rfl, done t4 _ ((f4.imm i5).imm m8) okc rfl⟩
  refine ⟨_, rfl, _, _, rfl, rfl, _, rfl, iteB (fun _ => leafRoad H2 (Keeps.refl _ _)) (fun hway => ?_)⟩
  refine ⟨_, rfl, by decide, fun p0 hp0 => ⟨lt, _, p0, rfl, rfl, .inl (by rw [upd_ne (ne_of_none lt2 hp0)]; exact lt2), .inl upd_same, _, rfl, ?_⟩⟩
  have k0 := (Keeps.refl [] H2).new (o := .lst []) hp0
  refine iteB (fun _ => leafRoad _ k0) (fun hne => ?_)
  have hlater : names.drop (j + 1) ≠ [] := fun e => by rw [e] at hne; cases hne
  have b20 := b2.kp k0 (by simp)
  have lt20 := k0.same lt2
  generalize upd H2 p0 (.lst []) = H20 at k0 b20 lt20 ⊢
  obtain ⟨_, _, nb1, nb2⟩ := nobody_of (names := names) (by omega)
  have okP : ∀ q, q ∈ names.drop (j + 1) ∨ q = nobody names → okN q := fun q hq => hq.elim (fun h => hok q (List.mem_of_mem_drop h)) fun h => by rw [h]; exact nb2
  refine ⟨_, rfl, b, 3, _, rfl, b20, by omega, by omega, by omega, fun c H3 k3 b3 hc0 hc3 m3 => ⟨_, _, rfl, rfl, _, rfl, by omega, by omega, fun D hD => ?_⟩⟩
  have lt3 := k3 _ _ lt20 (fun z => ltb (List.mem_singleton.mp z))
  have kk3 := (k2.trans k0.nil).trans k3
  refine lc_pick (xs := names.drop (j + 1)) (fun _ => rfl) (fun _ => rfl) (fun _ => rfl) (SqL.of lt3) ltb hlater (by rw [List.length_drop]; omega) b3 (by omega) hD fun ps0 H4 k4 m4 b4 hlen hps0 e4 => ?_
  have Db : D ≠ b := fun z => bag_ne b3 hD z.symm
  have DH : H D = none := kk3.free hD (fun z => Db (List.mem_singleton.mp z))
  refine gName_go ?_
  dsimp only
  refine seq_with (fun σ' H' => ∃ ps : List Str, σ' = [some (.ref b), some (.ref l), some (.int (j : Nat)), some (.str sm), some (.ref lv), some (.int way), some (.ref lt), some (.ref D), none, none, none, none, none, none] ∧ Keeps [b] H H' ∧ BagAt H' b (n + 12) ∧ H' D = some (.lst (ps.map V.str)) ∧ 1 ≤ ps.length ∧ ps.length ≤ 3 ∧ ∀ q ∈ ps, q ∈ names.drop (j + 1) ∨ q = nobody names) ?_ ?_
  · rintro σ' H5 ⟨ps, rfl, kk, bb, eD, hp1, hp3, hps⟩
    have pn : ps.map V.str ≠ [] := fun e => by
      have := congrArg List.length e
      rw [List.length_map] at this
      simp at this
      rw [this] at hp1
      simp at hp1
    refine ⟨_, rfl, _, _, rfl, rfl, _, rfl, iteB (fun _ => ?_) (fun _ => ?_)⟩
    · refine ⟨show 1 ≤ sizeLine by decide, fun t ht => ⟨_, rfl, D, ps.map V.str, rfl, .inl ⟨SqL.of (by rw [upd_ne (ne_of_none eD ht)]; exact eD), fun t2 ht2 => ⟨t, t2, _, _, rfl, rfl, sqt_im (sqt_of upd_same) ((Imm.refl _).new ht2), sqt_of upd_same, by simp, by rw [List.length_map]; show 1 + ps.length ≤ sizeLine; exact line5' (by omega), fun e => absurd e pn, fun _ p hp => ?_⟩⟩⟩⟩
      exact k p (.first ps) _ (((kk.new ht).new ht2).new hp) ((((bb.kp ((Keeps.refl [] _).new ht) (by simp)).kp ((Keeps.refl [] _).new ht2) (by simp)).kp ((Keeps.refl [] _).new hp) (by simp)).mono (by omega)) upd_same ⟨⟨hp1, by omega, fun q hq => okP q (hps q hq)⟩, .inr (.inl hps)⟩
    dsimp only [tNext]
    refine seq_with (fun σ' H' => σ' = [some (.ref b), some (.ref l), some (.int (j : Nat)), some (.str sm), some (.ref lv), some (.int way), some (.ref lt), some (.ref D), none, none, none, none, none, none] ∧ Keeps [b] H H' ∧ BagAt H' b (n + 12) ∧ H' D = some (.lst (ps.map V.str))) ?_ ?_
    · rintro σ' H6 ⟨rfl, kk, bb, eD⟩
      refine ⟨_, rfl, rfl, _, rfl, iteB (fun _ => ?_) (fun _ => ?_)⟩
      · refine ⟨show 1 ≤ sizeLine by decide, fun t ht => ⟨_, rfl, D, ps.map V.str, rfl, .inl ⟨SqL.of (by rw [upd_ne (ne_of_none eD ht)]; exact eD), fun t2 ht2 => ⟨t, t2, _, _, rfl, rfl, sqt_im (sqt_of upd_same) ((Imm.refl _).new ht2), sqt_of upd_same, by simp, by rw [List.length_map]; show 1 + ps.length ≤ sizeLine; exact line5' (by omega), fun e => absurd e pn, fun _ p hp => ?_⟩⟩⟩⟩
        exact k p (.row ps) _ (((kk.new ht).new ht2).new hp) ((((bb.kp ((Keeps.refl [] _).new ht) (by simp)).kp ((Keeps.refl [] _).new ht2) (by simp)).kp ((Keeps.refl [] _).new hp) (by simp)).mono (by omega)) upd_same ⟨⟨hp1, by omega, fun q hq => okP q (hps q hq)⟩, .inr (.inl hps)⟩
      refine ⟨show 5 ≤ sizeLine by decide, fun p hp => ⟨_, rfl, b, 5, _, rfl, bb.kp ((Keeps.refl [] _).new hp) (by simp), by omega, by omega, by omega, fun v H7 k7 b7 hv0 hv5 m7 => ?_⟩⟩
      have pb : p ≠ b := fun z => bag_ne bb hp z.symm
      have p7 := k7 _ _ (upd_same (H := H6) (a := p) (o := .lst [V.str "none", V.str "again", V.str "again", V.str "ahead", V.str "not"])) (fun z => pb (List.mem_singleton.mp z))
      have kk7 := (kk.new hp).trans k7
      have eD7 : H7 D = some (.lst (ps.map V.str)) := k7 _ _ (by rw [upd_ne (ne_of_none eD hp)]; exact eD) (fun z => Db (List.mem_singleton.mp z))
      obtain ⟨q0, ps', hq0⟩ := List.exists_cons_of_ne_nil (show ps ≠ [] from fun e => pn (by rw [e]; rfl))
      have q0m : q0 ∈ ps := by rw [hq0]; exact List.mem_cons_self
      have at0 : atI (ps.map V.str) 0 = some (V.str q0) := by rw [hq0]; exact at_0 rfl
      have one : ∀ (wd : Str) (mk : Fm), mk.l = [wd, q0] → mk.ok → mk.parts = [q0] → ∀ t, H7 t = none → Q (.ref t) (upd H7 t (.tup [V.str wd, V.str q0])) := by
        intro wd mk hl hok' hpar t ht
        refine k t mk _ (kk7.new ht) ((b7.kp ((Keeps.refl [] _).new ht) (by simp)).mono (by omega)) ?_ ⟨hok', .inr (.inl fun q hq => ?_)⟩
        · show upd H7 t (.tup [V.str wd, V.str q0]) t = some (.tup (mk.l.map V.str))
          rw [hl]
          exact upd_same
        · rw [hpar] at hq
          rw [List.mem_singleton.mp hq]
          exact hps q0 q0m
      have h : v = 0 ∨ v = 1 ∨ v = 2 ∨ v = 3 ∨ v = 4 := by omega
      have okq := okP q0 (hps q0 q0m)
      rcases h with rfl | rfl | rfl | rfl | rfl
      · refine ⟨_, _, _, _, rfl, rfl, SqL.of p7, at_0 rfl, _, rfl, rfl, _, rfl, iteY (by decide +kernel) ⟨by show 1 ≤ sizeLine; decide, fun t ht => ?_⟩⟩
        exact k t .none _ (kk7.new ht) ((b7.kp ((Keeps.refl [] _).new ht) (by simp)).mono (by omega)) upd_same ⟨trivial, .inr (.inl fun q hq => by cases hq)⟩
      · exact ⟨_, _, _, _, rfl, rfl, SqL.of p7, at_1 rfl, _, rfl, rfl, _, rfl, iteN (by decide +kernel) ⟨_, rfl, _, rfl, _, _, _, _, rfl, rfl, SqL.of eD7, at0, show 2 ≤ sizeLine by decide, one "again" (.again q0) rfl okq rfl⟩⟩
      · exact ⟨_, _, _, _, rfl, rfl, SqL.of p7, at_2 rfl, _, rfl, rfl, _, rfl, iteN (by decide +kernel) ⟨_, rfl, _, rfl, _, _, _, _, rfl, rfl, SqL.of eD7, at0, show 2 ≤ sizeLine by decide, one "again" (.again q0) rfl okq rfl⟩⟩
      · exact ⟨_, _, _, _, rfl, rfl, SqL.of p7, at_3 rfl, _, rfl, rfl, _, rfl, iteN (by decide +kernel) ⟨_, rfl, _, rfl, _, _, _, _, rfl, rfl, SqL.of eD7, at0, show 2 ≤ sizeLine by decide, one "ahead" (.ahead q0) rfl okq rfl⟩⟩
      · exact ⟨_, _, _, _, rfl, rfl, SqL.of p7, at_4 rfl, _, rfl, rfl, _, rfl, iteN (by decide +kernel) ⟨_, rfl, _, rfl, _, _, _, _, rfl, rfl, SqL.of eD7, at0, show 2 ≤ sizeLine by decide, one "not" (.not q0) rfl okq rfl⟩⟩
    · intro fin
      refine ⟨_, rfl, _, _, rfl, rfl, _, rfl, iteB (fun _ => ?_) (fun _ => iteF (fin _ _ ⟨rfl, kk, bb, eD⟩))⟩
      have lv5 := rd_kp hlv kk (fun z => lvb (List.mem_singleton.mp z))
      refine ⟨_, rfl, by decide, fun p hp => ⟨lv, _, p, rfl, rfl, rd_kp lv5 ((Keeps.refl [] _).new hp) (by simp), .inl upd_same, _, rfl, ?_⟩⟩
      have kp := (Keeps.refl [] H5).new (o := .lst []) hp
      refine iteB (fun hnn => ?_) (fun _ => fin _ _ ⟨rfl, kk.trans kp.nil, bb.kp kp (by simp), kp.same eD⟩)
      have hlne : leaves ≠ [] := fun e => by rw [e] at hnn; cases hnn
      have lpos := List.length_pos_iff.mpr hlne
      have b6 := bb.kp kp (by simp)
      have kk6 := kk.trans kp.nil
      generalize upd H5 p (.lst []) = H6 at b6 kk6 ⊢
      refine ⟨_, rfl, b, 3, _, rfl, b6, by omega, by omega, by omega, fun c H7 k7 b7 hc0 hc3 m7 => ⟨_, rfl, by omega, by omega, fun D2 hD2 => ?_⟩⟩
      have kk7 := kk6.trans k7
      refine lc_pick (xs := names) (fun _ => rfl) (fun _ => rfl) (fun _ => rfl) (sq_kp hl kk7 (fun z => lb (List.mem_singleton.mp z))) lb (fun e => by rw [e] at hj; simp at hj) (by omega) b7 (by omega) hD2 fun more H8 k8 m8 b8 hmlen hmore e8 => ?_
      have kk8 := kk7.trans k8
      have lv8 : SqL K H8 lv (leaves.map V.str) := .inl (rd_kp hlv kk8 (fun z => lvb (List.mem_singleton.mp z)))
      have D2b : D2 ≠ b := fun z => bag_ne b7 hD2 z.symm
      have ll : (leaves.map V.str).length = leaves.length := List.length_map _
      refine ⟨_, rfl, _, rfl, _, rfl, lv, _, rfl, .inl lv8, b, _, _, rfl, b8, by omega, by rw [ll]; omega, by rw [ll]; omega, fun u H9 k9 b9 hu0 hu1 m9 => ?_⟩
      rw [ll] at hu1
      have e9 := k9 _ _ e8 (fun z => D2b (List.mem_singleton.mp z))
      have lv9 : SqL K H9 lv (leaves.map V.str) := sq_kp lv8 k9 (fun z => lvb (List.mem_singleton.mp z))
      have hg : leaves[u.toNat]? = some (leaves[u.toNat]'(by omega)) := List.getElem?_eq_getElem (by omega)
      have hat := atI_nat (xs := leaves.map V.str) (j := u.toNat) (v := V.str (leaves[u.toNat]'(by omega))) (by rw [List.getElem?_map, hg]; rfl)
      rw [show ((u.toNat : Nat) : Int) = u by omega] at hat
      have hlm : leaves[u.toNat]'(by omega) ∈ leaves := List.getElem_mem _
      generalize leaves[u.toNat]'(by omega) = lf at hat hlm
      have kk9 := kk8.trans k9
      have fo : FormOf names j leaves (.row (lf :: more)) := ⟨⟨by simp, by rw [List.length_cons]; omega, fun q hq => (List.mem_cons.mp hq).elim (fun z => by rw [z]; exact hok _ (hlf _ hlm)) fun z => hok _ (hmore _ z)⟩, .inr (.inr ⟨lf, more, rfl, hlm, hmore⟩)⟩
      refine ⟨lv, _, _, _, rfl, rfl, lv9, hat, show 2 ≤ sizeLine by decide, fun t ht => ⟨_, rfl, D2, more.map V.str, rfl, .inl ⟨SqL.of (by rw [upd_ne (ne_of_none e9 ht)]; exact e9), fun t2 ht2 => ⟨t, t2, _, _, rfl, rfl, sqt_im (sqt_of upd_same) ((Imm.refl _).new ht2), sqt_of upd_same, by simp, by rw [List.length_map]; show 2 + more.length ≤ sizeLine; exact line5' (by omega), fun e => ?_, fun _ p hp => ?_⟩⟩⟩⟩
      · have em : more = [] := List.map_eq_nil_iff.mp e
        rw [em] at fo
        exact k t _ _ ((kk9.new ht).new ht2) (((b9.kp ((Keeps.refl [] _).new ht) (by simp)).kp ((Keeps.refl [] _).new ht2) (by simp)).mono (by omega)) (((Imm.refl _).new ht2).tup upd_same) fo
      · exact k p (.row (lf :: more)) _ (((kk9.new ht).new ht2).new hp) ((((b9.kp ((Keeps.refl [] _).new ht) (by simp)).kp ((Keeps.refl [] _).new ht2) (by simp)).kp ((Keeps.refl [] _).new hp) (by simp)).mono (by omega)) upd_same fo
  · intro fin
    have kk4 := kk3.trans k4
    have hm0 : ∀ q ∈ ps0, q ∈ names.drop (j + 1) ∨ q = nobody names := fun q hq => .inl (hps0 q hq)
    refine ⟨_, rfl, b, 12, _, rfl, b4, by omega, by omega, by omega, fun u H5 k5 b5 hu0 hu1 m5 => ?_⟩
    have e5 := k5 _ _ e4 (fun z => Db (List.mem_singleton.mp z))
    have kk5 := kk4.trans k5
    refine ⟨rfl, _, rfl, iteB (fun _ => ?_) (fun _ => fin _ _ ⟨ps0, rfl, kk5, b5.mono (by omega), e5, by omega, by omega, hm0⟩)⟩
    refine ⟨_, rfl, l, names, rfl, sq_kp hl kk5 (fun z => lb (List.mem_singleton.mp z)), by omega, fun H6 k6 m6 => ?_⟩
    have e6 := k6.same e5
    have b6 := b5.kp k6 (by simp)
    have lp : (ps0.map V.str).length = ps0.length := List.length_map _
    refine ⟨_, rfl, _, rfl, _, rfl, D, _, rfl, .inl (SqL.of e6), b, _, _, rfl, b6, by omega, by rw [lp]; omega, by rw [lp]; omega, fun v H7 k7 b7 hv0 hv1 m7 => ?_⟩
    rw [lp] at hv1
    have e7 := k7 _ _ e6 (fun z => Db (List.mem_singleton.mp z))
    have hix := ixN_n (n := (ps0.map V.str).length) (j := v.toNat) (by rw [lp]; omega)
    rw [show ((v.toNat : Nat) : Int) = v by omega] at hix
    refine ⟨D, _, _, _, rfl, rfl, e7, hix, fin _ _ ⟨ps0.set v.toNat (nobody names), rfl, ((kk5.trans k6.nil).trans k7).own DH, ?_, ?_, ?_, ?_, fun q hq => ?_⟩⟩
    · obtain ⟨x, y, c', q, r1, r2, r3, r4, r5⟩ := b7
      exact ⟨x, y, c', by rw [upd_ne (fun z => Db z.symm)]; exact q, r1, r2, r3, r4, by omega⟩
    · rw [upd_same, List.map_set]
    · rw [List.length_set]; omega
    · rw [List.length_set]; omega
    · rcases List.mem_or_eq_of_mem_set hq with z | z
      · exact hm0 q z
      · exact .inr z
end
end Kr
namespace Kr
open PySem PySem.Spec PyProof.Rows L2
section
variable {P : Program} {w : World} {K : PySem.W.Frag} {mg : Str → Option Value} {base : Heap} {k : Nat}
/-- the rule of the j-th name -/
def OkAt (names : List Str) (G : Str → Option Fm) (j : Nat) : Prop :=
  ∃ x f, names[j]? = some x ∧ G x = some f ∧ f.ok ∧ (f.leaf = true ∨ (∀ q ∈ f.parts, q ∈ names.drop (j + 1) ∨ q = nobody names) ∨
    ∃ leaf more, f = .row (leaf :: more) ∧ leaf ∈ names.drop (j + 1) ∧ (∃ g, G leaf = some g ∧ g.leaf = true) ∧ ∀ q ∈ more, q ∈ names)
theorem OkAt.mono {names : List Str} {G G' : Str → Option Fm} {j : Nat} (h : OkAt names G j) (e : ∀ x f, G x = some f → G' x = some f) : OkAt names G' j := by
  obtain ⟨x, f, h1, h2, h3, h4⟩ := h
  refine ⟨x, f, h1, e _ _ h2, h3, ?_⟩
  rcases h4 with h | h | ⟨lf, more, a, b, ⟨g, g1, g2⟩, d⟩
  · exact .inl h
  · exact .inr (.inl h)
  · exact .inr (.inr ⟨lf, more, a, b, ⟨g, e _ _ g1, g2⟩, d⟩)
/-- a dict of rules that stands open -/
def RulesM (H : Hp) (d : Addr) (ks : List Str) (G : Str → Option Fm) : Prop :=
  ∃ ad : Str → Addr, H d = some (.dK (mkD nmK (fun x => .ref (ad x)) ks)) ∧ ∀ x ∈ ks, ∃ f, G x = some f ∧ FormAt H (ad x) f
theorem RulesM.at {H : Hp} {d : Addr} {ks : List Str} {G : Str → Option Fm} (h : RulesM H d ks G) : RulesAt H d ks G := let ⟨ad, h1, h2⟩ := h; ⟨ad, .inl h1, h2⟩
theorem RulesM.kp {S : List Addr} {H H' : Hp} {d : Addr} {ks : List Str} {G : Str → Option Fm} (h : RulesM H d ks G) (k : Keeps S H H') (n : d ∉ S) (i : Imm H H') : RulesM H' d ks G :=
  let ⟨ad, h1, h2⟩ := h
  ⟨ad, k _ _ h1 n, fun x hx => let ⟨f, a, b⟩ := h2 x hx; ⟨f, a, b.imm i⟩⟩
theorem strs_bag {H : Hp} {l b : Addr} {xs : List Str} {n : Nat} (h : StrsAt H l xs) (hb : BagAt H b n) : l ≠ b := fun e => by
  obtain ⟨o, h⟩ := h
  obtain ⟨_, _, _, q, _⟩ := hb
  rw [e, q] at h
  cases h
def spRules : Sp := fun vs H Q _ => ∃ (b l : Addr) (names : List Str) (n : Nat) (sm : Str), vs = [.ref b, .ref l, .str sm] ∧ StrsAt H l names ∧ names.length ≤ 7 ∧ names.Nodup ∧ (∀ x ∈ names, okN x) ∧ okT sm ∧ sm.length = 3 ∧ sm.cps.toList.Pairwise (· < ·) ∧ BagAt H b n ∧ n ≤ 20000 ∧
  ∀ (d : Addr) (G : Str → Option Fm) H', H d = none → Keeps [b] H H' → BagAt H' b (n + 300) → RulesM H' d names.reverse G → (∀ x, x ∉ names → G x = none) → (∀ j, j < names.length → OkAt names G j) → Q (.ref d) H'
theorem ok_law_rules (T : Tp K mg) (c_law_form : Calls P w K mg base k "_law_form" ["bag", "names", "k", "some", "leaves"] (spForm K)) : Calls P w K mg base (k + 1) "_law_rules" ["bag", "names", "some"] spRules := by
  have sc : FnScope ["bag", "names", "some", "rules", "leaves", "k"] ["bag", "names", "some"] d_law_rules.scope := ⟨rfl, rfl, rfl, by decide +kernel, rfl, by decide +kernel, by decide +kernel⟩
  refine mkCall T in_law_rules rfl mg_law_rules rfl rfl sc (fun _ _ _ _ _ _ us hl => match us, hl with | [_, _, _], _ => rfl) (fun vs H Q E h => ?_) (fun f cdv A outer s H vs Q E hr h => ?_)
  · obtain ⟨b, l, names, n, sm, rfl, _⟩ := h
    rfl
  obtain ⟨b, l, names, n, sm, rfl, hS, h7, hnd, hok, hT, h3, hup, hb, hn, k⟩ := h
  refine ⟨_, (pss_cons (ps_set (i := 3) sc.nd rfl (by first | exact Or.inl rfl | exact Or.inr rfl) pe_dnewK)
      (pss_cons (ps_set (i := 4) sc.nd rfl (by first | exact Or.inl rfl | exact Or.inr rfl) (pe_lst pa_nil))
      (pss_cons (ps_for PassesOwn.never rfl (pi_range3 (by rfl) (T.fre _ mf_range) (pa_cons (pe_op op_sub (pe_callB call_len_seq (by rfl) (T.fre _ mf_len) bt_len (pa_cons (pv 1) pa_nil)) pe_int) (pa_cons (pe_un un_neg pe_int) (pa_cons (pe_un un_neg pe_int) pa_nil)))) (pg_name (i := 5) sc.nd rfl (by first | exact Or.inl rfl | exact Or.inr rfl))
        (pss_cons (ps_dput (hu_of hr) (pv 3) (pe_ix ix_list (pv 1) (pv 5) (fun _ _ => rfl)) (pcall c_law_form hr (pa_cons (pv 0) (pa_cons (pv 1) (pa_cons (pv 5) (pa_cons (pv 2) (pa_cons (pv 4) pa_nil)))))) rfl)
      (pss_one (ps_if (pt_cmpR op_in_seq (pe_ix ix_tup (pe_dget (hu_of hr) (pv 3) (pe_ix ix_list (pv 1) (pv 5) (fun _ _ => rfl)) (fun _ _ => rfl)) pe_int (fun _ _ => rfl)) (pe_tup (pa_cons pe_str (pa_cons pe_str pa_nil))) (by rfl)) (pss_one (ps_expr (pe_bm PySem.F.plainAttrs_list PySem.F.slot_list_append PySem.F.type_list_append mt_append (pv 4) (pa_cons (pe_ix ix_list (pv 1) (pv 5) (fun _ _ => rfl)) pa_nil)))) pss_nil))))
      (pss_one (ps_ret (pv 3)))))), ?_⟩
  intro d hd
  have kd := (Keeps.refl [] H).new (o := .dK []) hd
  have hbd := bag_ne hb hd
  have lb : l ≠ b := strs_bag hS hb
  have id0 := (Imm.refl H).new (o := .dK []) hd
  have hb0 := hb.kp kd (by simp)
  have ed : upd H d (.dK []) d = some (.dK []) := upd_same
  generalize upd H d (.dK []) = H0 at kd hb0 ed id0 ⊢
  refine ⟨by decide, fun v hv => ?_⟩
  have kv := kd.new (o := .lst []) hv
  have hbv := bag_ne hb0 hv
  have iv0 := id0.new (o := .lst []) hv
  have hb1 := hb0.kp ((Keeps.refl [] H0).new (o := .lst []) hv) (by simp)
  have ev : upd H0 v (.lst []) v = some (.lst []) := upd_same
  have dv : d ≠ v := ne_of_none ed hv
  have ed1 : upd H0 v (.lst []) d = some (.dK []) := by rw [upd_ne dv]; exact ed
  have hvH : H v = none := kd.free0 hv
  generalize upd H0 v (.lst []) = H1 at kv hb1 ev ed1 iv0 ⊢
  have hl1 : SqL K H1 l (names.map V.str) := (hS.imm iv0).sq
  have lm : (names.map V.str).length = names.length := List.length_map _
  refine ⟨_, rfl, l, _, rfl, .inl hl1, _, _, rfl, rfl, _, rfl, _, rfl, _, _, _, _, rfl, RgC.neg (by omega) (by rw [lm]; omega) (by omega) (by omega), ?_⟩
  rw [lm]
  have en : (((names.length : Nat) : Int) - 1 - -1).toNat = names.length := by omega
  rw [en]
  refine for_it walk_rangeC (fun i σ H' => ∃ (v5 : Option V) (G : Str → Option Fm) (L : List Str), σ = [some (.ref b), some (.ref l), some (.str sm), some (.ref d), some (.ref v), v5] ∧ Keeps [b, d, v] H1 H' ∧ Imm H1 H' ∧ BagAt H' b (n + 30 * i) ∧ RulesM H' d (names.drop (names.length - i)).reverse G ∧
      (∀ x, x ∉ names.drop (names.length - i) → G x = none) ∧ (∀ j, names.length - i ≤ j → j < names.length → OkAt names G j) ∧ H' v = some (.lst (L.map V.str)) ∧ L.length ≤ i ∧ ∀ x ∈ L, x ∈ names.drop (names.length - i) ∧ ∃ g, G x = some g ∧ g.leaf = true)
    ⟨none, fun _ => none, [], rfl, Keeps.refl _ _, Imm.refl _, hb1, ⟨fun _ => 0, by rw [Nat.sub_zero, List.drop_length]; exact ed1, by rw [Nat.sub_zero, List.drop_length]; simp⟩, fun _ _ => rfl, fun j h1 h2 => by omega, ev, Nat.le_refl _, by simp⟩ (fun _ _ _ _ _ => trivial) ?_ ?_
  · rintro i x σ H2 H2' hi ⟨v5, G, L, rfl, k2, m2, b2, hR, hG, hO, hv2, hL, hLg⟩ ⟨rfl, rfl⟩
    have hl2 : SqL K H2' l (names.map V.str) := (hS.imm (iv0.trans m2)).sq
    have hidx : ((names.length : Nat) : Int) - 1 + ((i : Nat) : Int) * -1 = ((names.length - 1 - i : Nat) : Int) := by omega
    refine gName_go ?_
    dsimp only
    rw [hidx]
    have hjlt : names.length - 1 - i < names.length := by omega
    obtain ⟨x, hx⟩ : ∃ x, names[names.length - 1 - i]? = some x := ⟨_, List.getElem?_eq_getElem hjlt⟩
    have hxm : x ∈ names := List.mem_of_getElem? hx
    have hdr : names.drop (names.length - (i + 1)) = x :: names.drop (names.length - i) := by
      have h1 := List.drop_eq_getElem_cons hjlt
      have h2 := (List.getElem?_eq_some_iff.mp hx).2
      rw [show names.length - (i + 1) = names.length - 1 - i by omega, h1, h2, show names.length - 1 - i + 1 = names.length - i by omega]
    have hxn : x ∉ names.drop (names.length - i) := by
      have := hnd.sublist (List.drop_sublist (names.length - (i + 1)) names)
      rw [hdr] at this
      exact (List.nodup_cons.mp this).1
    have hat := atI_nat (xs := names.map V.str) (j := names.length - 1 - i) (v := V.str x) (by rw [List.getElem?_map, hx]; rfl)
    have vb : v ≠ b := hbv.symm
    refine ⟨_, rfl, _, rfl, _, rfl, _, rfl, _, rfl, b, l, v, names, L, names.length - 1 - i, n + 30 * i, sm, rfl, hl2, lb, vb, .inl hv2, hjlt, h7, by omega, hok, fun y hy => List.mem_of_mem_drop (hLg y hy).1, hT, h3, hup, b2, by omega, fun a f H3 k3 b3 hf hfo m3 => ?_⟩
    have dbv : d ∉ [b] := fun z => hbd (List.mem_singleton.mp z).symm
    have vbv : v ∉ [b] := fun z => vb (List.mem_singleton.mp z)
    have hR3 := hR.kp k3 dbv m3
    obtain ⟨ad, hd3, had⟩ := hR3
    have hl3 := sq_kp hl2 k3 (fun z => lb (List.mem_singleton.mp z))
    refine ⟨_, rfl, _, rfl, _, rfl, l, _, _, _, rfl, rfl, hl3, hat, d, _, rfl, DPut.k (k := .inr x) hd3 ?_, ?_⟩
    · rw [mkD_len, List.length_reverse, List.length_drop]
      exact line5 (by omega)
    have ep : putK (mkD nmK (fun x => .ref (ad x)) (names.drop (names.length - i)).reverse) (Sum.inr x) (V.ref a) = mkD nmK (fun y => .ref (setF ad x a y)) (names.drop (names.length - (i + 1))).reverse := by
      refine (mkD_put nmK_inj _ x (.ref a)).trans ?_
      rw [addK_no (by rw [List.mem_reverse]; exact hxn), hdr, List.reverse_cons]
      refine mkD_congr fun j _ => ?_
      unfold setF
      split <;> rfl
    rw [ep]
    have m4 : Imm H3 (upd H3 d (.dK (mkD nmK (fun y => .ref (setF ad x a y)) (names.drop (names.length - (i + 1))).reverse))) := (Imm.refl _).mut hd3
    have k4 : Keeps [d] H3 (upd H3 d (.dK (mkD nmK (fun y => .ref (setF ad x a y)) (names.drop (names.length - (i + 1))).reverse))) := (Keeps.refl _ _).mem (by simp)
    have ed4 : upd H3 d (.dK (mkD nmK (fun y => .ref (setF ad x a y)) (names.drop (names.length - (i + 1))).reverse)) d = some (.dK (mkD nmK (fun y => .ref (setF ad x a y)) (names.drop (names.length - (i + 1))).reverse)) := upd_same
    generalize upd H3 d (.dK (mkD nmK (fun y => .ref (setF ad x a y)) (names.drop (names.length - (i + 1))).reverse)) = H4 at m4 k4 ed4 ⊢
    have hf4 : FormAt H4 a f := hf.imm m4
    have hl4 : SqL K H4 l (names.map V.str) := (hS.imm (((iv0.trans m2).trans m3).trans m4)).sq
    have hv4 : H4 v = some (.lst (L.map V.str)) := k4 _ _ (k3 _ _ hv2 vbv) (fun z => dv (List.mem_singleton.mp z).symm)
    have b4 := b3.kp k4 (fun z => hbd (List.mem_singleton.mp z))
    have e4x : valV (mkD nmK (fun y => V.ref (setF ad x a y)) (names.drop (names.length - (i + 1))).reverse) (Sum.inr x) = some (V.ref a) := by
      have := mkD_in (f := nmK) (g := fun y => V.ref (setF ad x a y)) nmK_inj (ks := (names.drop (names.length - (i + 1))).reverse) (k := x) (by rw [hdr]; simp)
      rw [setF_same] at this
      exact this
    have hG' : ∀ y g, G y = some g → setF G x (some f) y = some g := fun y g hy => by
      rw [setF_ne fun e => ?_]
      · exact hy
      · rw [e, hG x hxn] at hy
        cases hy
    have kk4 : Keeps [b, d, v] H1 H4 := (k2.trans (k3.mono (by simp))).trans (k4.mono (by simp))
    have mm4 : Imm H1 H4 := (m2.trans m3).trans m4
    have R4 : RulesM H4 d (names.drop (names.length - (i + 1))).reverse (setF G x (some f)) := ⟨setF ad x a, ed4, fun y hy => by
      rw [hdr, List.reverse_cons] at hy
      rcases List.mem_append.mp hy with hy | hy
      · have hyx : y ≠ x := fun e => hxn (by rw [← e]; exact List.mem_reverse.mp hy)
        obtain ⟨g, g1, g2⟩ := had y hy
        exact ⟨g, hG' y g g1, by rw [setF_ne hyx]; exact g2.imm m4⟩
      · have e := List.mem_singleton.mp hy
        rw [e, setF_same, setF_same]
        exact ⟨f, rfl, hf4⟩⟩
    have N4 : ∀ y, y ∉ names.drop (names.length - (i + 1)) → setF G x (some f) y = none := fun y hy => by
      rw [hdr] at hy
      rw [setF_ne fun e => hy (by rw [e]; exact List.mem_cons_self)]
      exact hG y fun z => hy (List.mem_cons_of_mem _ z)
    have O4 : ∀ j, names.length - (i + 1) ≤ j → j < names.length → OkAt names (setF G x (some f)) j := fun j h1 h2 => by
      by_cases e : names.length - i ≤ j
      · exact (hO j e h2).mono hG'
      · have ej : j = names.length - 1 - i := by omega
        subst ej
        refine ⟨x, f, hx, setF_same, hfo.1, ?_⟩
        rcases hfo.2 with h | h | ⟨lf, more, e1, e2, e3⟩
        · exact .inl h
        · exact .inr (.inl h)
        · obtain ⟨q1, g, q2, q3⟩ := hLg lf e2
          refine .inr (.inr ⟨lf, more, e1, ?_, ⟨g, hG' _ _ q2, q3⟩, e3⟩)
          rw [show names.length - 1 - i + 1 = names.length - i by omega]
          exact q1
    have Lg4 : ∀ y ∈ L, y ∈ names.drop (names.length - (i + 1)) ∧ ∃ g, setF G x (some f) y = some g ∧ g.leaf = true := fun y hy => by
      obtain ⟨q1, g, q2, q3⟩ := hLg y hy
      exact ⟨by rw [hdr]; exact List.mem_cons_of_mem _ q1, g, hG' _ _ q2, q3⟩
    obtain ⟨wd, ps, el⟩ : ∃ wd ps, f.l = wd :: ps := by cases f <;> exact ⟨_, _, rfl⟩
    have hfq : SqT K H4 a ((wd :: ps).map V.str) := by rw [← el]; exact sqt_of hf4
    refine ⟨_, rfl, _, rfl, _, rfl, l, _, _, _, rfl, rfl, hl4, hat, d, _, rfl, .inl ⟨_, .inr x, .inl ed4, rfl, e4x.symm⟩, _, _, _, _, rfl, rfl, hfq, at_0 rfl, by decide, fun t ht => ⟨_, _, rfl, .inr (sqt_of upd_same), rfl, rfl, _, rfl, ?_⟩⟩
    have kt := (Keeps.refl [] H4).new (o := .tup [V.str "any", V.str "signs"]) ht
    have mt := (Imm.refl H4).new (o := .tup [V.str "any", V.str "signs"]) ht
    have hl5 := sq_kp hl4 kt (by simp)
    have hv5 := kt.same hv4
    have b5 := b4.kp kt (by simp)
    have R5 := R4.kp kt (by simp) mt
    generalize upd H4 t (.tup [V.str "any", V.str "signs"]) = H5 at kt mt hl5 hv5 b5 R5 ⊢
    have lf : f.leaf = decide (wd ∈ [("any" : Str), "signs"]) := by cases f <;> cases el <;> first | (show true = _; decide +kernel) | (show false = _; decide +kernel)
    have ein : (if false = true then !inV (V.str wd) [V.str "any", V.str "signs"] else inV (V.str wd) [V.str "any", V.str "signs"]) = f.leaf := by
      rw [if_neg Bool.false_ne_true, lf]
      exact inV_str wd ["any", "signs"]
    rw [ein]
    refine iteB (fun hleaf => ?_) (fun _ => ⟨_, setF G x (some f), L, rfl, kk4.trans kt.nil, mm4.trans mt, b5.mono (by omega), R5, N4, O4, hv5, by omega, Lg4⟩)
    refine ⟨_, rfl, .inl ⟨rfl, _, SqL.of hv5⟩, _, rfl, _, rfl, l, _, _, _, rfl, rfl, hl5, hat, v, _, _, rfl, rfl, hv5, ?_, ?_⟩
    · rw [List.length_map]
      exact line5 (by omega)
    refine ⟨_, setF G x (some f), L ++ [x], rfl, (kk4.trans kt.nil).mem (by simp), (mm4.trans mt).mut hv5, ?_, R5.kp (S := [v]) ((Keeps.refl _ _).mem (by simp)) (fun z => dv (List.mem_singleton.mp z)) ((Imm.refl _).mut hv5), N4, O4, by rw [upd_same, List.map_append]; rfl, by rw [List.length_append, List.length_singleton]; omega, fun y hy => ?_⟩
    · obtain ⟨p1, p2, p3, q, r1, r2, r3, r4, r5⟩ := b5
      exact ⟨p1, p2, p3, by rw [upd_ne hbv]; exact q, r1, r2, r3, r4, by omega⟩
    · rcases List.mem_append.mp hy with z | z
      · exact Lg4 y z
      · rw [List.mem_singleton.mp z]
        exact ⟨by rw [hdr]; exact List.mem_cons_self, f, setF_same, hleaf⟩
  · rintro σ H2 ⟨v5, G, L, rfl, k2, m2, b2, hR, hG, hO, hv2, hL, hLg⟩
    rw [Nat.sub_self, List.drop_zero] at hR hG
    refine ⟨_, rfl, k d G H2 hd (fun c u hc hn => k2 c u (kv.same hc) fun z => ?_) (b2.mono (by omega)) hR hG (fun j hj => hO j (by omega) hj)⟩
    simp at z
    rcases z with z | z | z
    · exact hn (by simp [z])
    · rw [z, hd] at hc
      cases hc
    · rw [z, hvH] at hc
      cases hc
/-- a world: the names at l, a text of three signs, the rules at d, a text -/
structure World_ (H : Hp) (l d : Addr) (names : List Str) (G : Str → Option Fm) (sm T : Str) : Prop where
  at_ : StrsAt H l names
  rules : RulesM H d names.reverse G
  few : names.length ≤ 7
  two : 2 ≤ names.length
  nd : names.Nodup
  nm : ∀ x ∈ names, okN x
  smT : okT sm
  sm3 : sm.length = 3
  tT : okT T
  no : ∀ x, x ∉ names → G x = none
  ok : ∀ j, j < names.length → OkAt names G j
def spWorld : Sp := fun vs H Q _ => ∃ (b : Addr) (most n : Nat), vs = [.ref b, .int (most : Nat)] ∧ most ≤ 9 ∧ BagAt H b n ∧ n ≤ 1000 ∧
  ∀ (a l d : Addr) (names : List Str) (G : Str → Option Fm) (sm T : Str) H', Keeps [b] H H' → H d = none → H' a = some (.tup [.ref l, .str sm, .ref d, .str T]) → World_ H' l d names G sm T → T.length ≤ most → Q (.ref a) H'
theorem ok_law_world (T : Tp K mg) (c_law_take : Calls P w K mg base k "_law_take" ["bag", "many"] spTake) (c_law_names : Calls P w K mg base k "_law_names" ["bag", "many"] spNames) (c_law_some : Calls P w K mg base k "_law_some" ["bag"] spSome)
    (c_law_rules : Calls P w K mg base k "_law_rules" ["bag", "names", "some"] spRules) (c_law_text : Calls P w K mg base k "_law_text" ["bag", "some", "long"] spText) : Calls P w K mg base (k + 1) "_law_world" ["bag", "most"] spWorld := by
  have sc : FnScope ["bag", "most", "names", "some", "rules"] ["bag", "most"] d_law_world.scope := ⟨rfl, rfl, rfl, by decide +kernel, rfl, by decide +kernel, by decide +kernel⟩
  refine mkCall T in_law_world rfl mg_law_world rfl rfl sc (fun _ _ _ _ _ _ us hl => match us, hl with | [_, _], _ => rfl) (fun vs H Q E h => ?_) (fun f cdv A outer s H vs Q E hr h => ?_)
  · obtain ⟨b, most, n, rfl, _⟩ := h
    rfl
  obtain ⟨b, most, n, rfl, h9, hb, hn, k⟩ := h
  refine ⟨_, (pss_cons (ps_set (i := 2) sc.nd rfl (by first | exact Or.inl rfl | exact Or.inr rfl) (pe_frz (pcall c_law_names hr (pa_cons (pv 0) (pa_cons (pe_op op_add pe_int (pcall c_law_take hr (pa_cons (pv 0) (pa_cons pe_int pa_nil)))) pa_nil)))))
      (pss_cons (ps_set (i := 3) sc.nd rfl (by first | exact Or.inl rfl | exact Or.inr rfl) (pcall c_law_some hr (pa_cons (pv 0) pa_nil)))
      (pss_cons (ps_set (i := 4) sc.nd rfl (by first | exact Or.inl rfl | exact Or.inr rfl) (pcall c_law_rules hr (pa_cons (pv 0) (pa_cons (pv 2) (pa_cons (pv 3) pa_nil)))))
      (pss_one (ps_ret (pe_tup (pa_cons (pv 2) (pa_cons (pv 3) (pa_cons (pv 4) (pa_cons (pcall c_law_text hr (pa_cons (pv 0) (pa_cons (pv 3) (pa_cons (pcall c_law_take hr (pa_cons (pv 0) (pa_cons (pe_op op_add (pv 1) pe_int) pa_nil))) pa_nil)))) pa_nil)))))))))), ?_⟩
  refine ⟨_, rfl, _, rfl, b, 6, _, rfl, hb, by omega, by omega, by omega, fun v H1 k1 b1 hv0 hv6 m1 => ⟨_, _, rfl, rfl, ?_⟩⟩
  have ev : (2 : Int) + v = ((2 + v.toNat : Nat) : Int) := by omega
  refine ⟨b, 2 + v.toNat, n + 1, by dsimp only; rw [ev], by omega, b1, by omega, fun l names H2 hl k2 b2 e2 hlen hnd hok m2 => ⟨l, _, rfl, e2, trivial, fun od => ?_⟩⟩
  have lb : l ≠ b := (bag_ne b1 hl).symm
  have mf : Imm H2 (upd H2 l (.frz od (.lst (names.map V.str)))) := (Imm.refl _).mut e2
  have kf : Keeps [l] H2 (upd H2 l (.frz od (.lst (names.map V.str)))) := (Keeps.refl _ _).mem (by simp)
  have b3 := b2.kp kf (fun z => lb (List.mem_singleton.mp z).symm)
  have hS : StrsAt (upd H2 l (.frz od (.lst (names.map V.str)))) l names := ⟨od, upd_same⟩
  have k3 : Keeps [b] H (upd H2 l (.frz od (.lst (names.map V.str)))) := fun c u hc hn' => by
    have hcl : c ≠ l := fun e => by
      have := k1 c u hc hn'
      rw [e, hl] at this
      cases this
    rw [upd_ne hcl]
    exact k2 c u (k1 c u hc hn') hn'
  generalize upd H2 l (.frz od (.lst (names.map V.str))) = H3 at mf kf b3 hS k3 ⊢
  refine ⟨_, rfl, b, _, rfl, b3, by omega, fun sm H4 k4 b4 hT h3 hup m4 => ?_⟩
  refine ⟨_, rfl, _, rfl, _, rfl, b, l, names, _, sm, rfl, hS.imm m4, by omega, hnd, hok, hT, h3, hup, b4, by omega, fun d G H5 hd k5 b5 hR hN hO m5 => ?_⟩
  have k45 := k4.trans k5
  have hdH : H d = none := by
    have db : d ≠ b := (bag_ne b4 hd).symm
    exact (k3.trans k4).free hd (fun z => db (List.mem_singleton.mp z))
  refine ⟨_, rfl, _, rfl, _, rfl, _, rfl, _, rfl, _, rfl, _, rfl, _, _, rfl, rfl, b, _, _, rfl, b5, by omega, by omega, by omega, fun tl H6 k6 b6 ht0 ht1 m6 => ?_⟩
  have et : tl = ((tl.toNat : Nat) : Int) := by omega
  refine ⟨b, sm, tl.toNat, _, by rw [← et], hT, h3, by omega, b6, by omega, fun TX H7 k7 b7 hTX hlTX m7 => ⟨show 4 ≤ sizeLine by decide, fun a ha => ?_⟩⟩
  have db : d ∉ [b] := fun z => (bag_ne b4 hd) (List.mem_singleton.mp z).symm
  refine k a l d names G sm TX _ ((((k3.trans k45).trans k6).trans k7).new ha) hdH upd_same ?_ (by omega)
  have ma := (Imm.refl H7).new (o := .tup [V.ref l, V.str sm, V.ref d, V.str TX]) ha
  exact ⟨(hS.imm ((((m4.trans m5).trans m6).trans m7))).imm ma, ((hR.kp k6 db m6).kp k7 db m7).kp ((Keeps.refl [] _).new ha) (by simp) ma, by omega, by omega, hnd, hok, hT, h3, hTX, hN, hO⟩
end
end Kr
namespace Kr
open PySem PySem.Spec PyProof.Rows L2
section
variable {P : Program} {w : World} {K : PySem.W.Frag} {mg : Str → Option Value} {base : Heap} {k : Nat}
/-- a list of rows that stands open -/
def RowsM (H : Hp) (a : Addr) (rs : List Rw) : Prop := ∃ es : List (Rw × Addr), es.map (·.1) = rs ∧ H a = some (.lst (es.map fun e => .ref e.2)) ∧ ∀ e ∈ es, RowAt H e.2 e.1
def rowV (r : Rw) (lb : Addr) : List V := [.int (r.num : Nat), .str r.key.1, .int (r.key.2 : Nat), lenV r.len, .int (r.reach : Nat), .ref lb]
def spCopies : Sp := fun vs H Q _ => ∃ (a : Addr) (rs : List Rw), vs = [.ref a] ∧ RowsAt H a rs ∧ rs.length ≤ 1000 ∧ ∀ l H', H l = none → Keeps [] H H' → RowsM H' l rs → Q (.ref l) H'
theorem ok_law_copies (T : Tp K mg) : Calls P w K mg base (k + 1) "_law_copies" ["rows"] spCopies := by
  have sc : FnScope ["rows", "row"] ["rows"] d_law_copies.scope := ⟨rfl, rfl, rfl, by decide +kernel, rfl, by decide +kernel, by decide +kernel⟩
  refine mkCall T in_law_copies rfl mg_law_copies rfl rfl sc (fun _ _ _ _ _ _ us hl => match us, hl with | [_], _ => rfl) (fun vs H Q E h => ?_) (fun f cdv A outer s H vs Q E hr h => ?_)
  · obtain ⟨a, rs, rfl, _⟩ := h
    rfl
  obtain ⟨a, rs, rfl, ⟨o, es, ee, ha, he⟩, hl, k⟩ := h
  refine ⟨_, (pss_one (ps_ret (pe_lc (own := [("row", 1)]) rfl sc.nd (pi_list (pv 0)) (blkOk_by (by kernel_rfl)) (fun _ _ _ _ _ => (pg_name (i := 1) sc.nd rfl (by first | exact Or.inl rfl | exact Or.inr rfl))) (fun _ _ _ _ _ => pts_nil) (fun _ _ _ _ _ => (pe_op (op_catTK (K := K) rfl) (pe_slice (sl_tupK (K := K) rfl) (pv 1) po_none (po_some pe_int)) (pe_tup (pa_cons (pe_frz (pe_callTy (call_list_ofK (K := K) rfl) (by rfl) (T.fre _ mf_list) bt_list (pa_cons (pe_ix (ix_tupK (K := K) rfl) (pv 1) pe_int (fun _ _ => rfl)) pa_nil))) pa_nil))))))), ?_⟩
  have les : es.length = rs.length := by rw [← ee, List.length_map]
  refine ⟨_, rfl, _, rfl, ⟨_, sq_fr ha⟩, fun D hD => lc_rel es (fun _ => true) V.ref (fun e a H => RowAt H a e.1) walk_list (by rw [List.length_map]) (by omega) hD (fun H' k' _ => sq_fr (k'.same ha)) (fun _ _ _ _ i h => h.imm i) ?_ ?_⟩
  · rintro i y x H1 H1' hy k1 m1 ⟨rfl, hx⟩ R N hR _
    obtain ⟨e, he1, hm, rfl⟩ := getM hx
    obtain rfl : e = y := Option.some.inj (he1.symm.trans hy)
    obtain ⟨lb, q1, q2⟩ := (he e hm).imm m1
    have sq := sqt_of (K := K) q1
    refine ⟨rfl, _, rfl, _, rfl, _, _, rfl, sq, ?_, fun p hp => ?_⟩
    · rintro ⟨_, h⟩
      have h' : min 5 6 = 6 := h
      omega
    have ec : cutV (rowV e.1 lb) none (some 5) = [.int (e.1.num : Nat), .str e.1.key.1, .int (e.1.key.2 : Nat), lenV e.1.len, .int (e.1.reach : Nat)] := cut_to (xs := rowV e.1 lb) 5
    have ip := (Imm.refl H1').new (o := .tup (cutV (rowV e.1 lb) none (some 5))) hp
    have kp := (Keeps.refl [] H1').new (o := .tup (cutV (rowV e.1 lb) none (some 5))) hp
    have ep : upd H1' p (.tup (cutV (rowV e.1 lb) none (some 5))) p = some (.tup [.int (e.1.num : Nat), .str e.1.key.1, .int (e.1.key.2 : Nat), lenV e.1.len, .int (e.1.reach : Nat)]) := by rw [ec]; exact upd_same
    show tTup _ _ (upd H1' p (.tup (cutV (rowV e.1 lb) none (some 5)))) _
    generalize upd H1' p (.tup (cutV (rowV e.1 lb) none (some 5))) = H2 at ip kp ep ⊢
    obtain ⟨ol, hlb⟩ := q2.imm ip
    refine ⟨_, rfl, _, _, _, _, rfl, rfl, sqt_im sq ip, at_5 rfl, lb, _, rfl, .inl (sq_fr hlb), fun l hl => ⟨l, _, rfl, upd_same, trivial, fun od => ⟨show 1 ≤ sizeLine by decide, fun t ht => ?_⟩⟩⟩
    rw [upd_upd] at ht ⊢
    have i3 := (Imm.refl H2).new (o := .frz od (.lst (e.1.leans.map V.str))) hl
    have k3 := kp.new (o := .frz od (.lst (e.1.leans.map V.str))) hl
    have e3 : StrsAt (upd H2 l (.frz od (.lst (e.1.leans.map V.str)))) l e.1.leans := ⟨od, upd_same⟩
    generalize upd H2 l (.frz od (.lst (e.1.leans.map V.str))) = H3 at i3 k3 e3 ht ⊢
    have i4 := (Imm.refl H3).new (o := .tup [V.ref l]) ht
    refine ⟨p, t, _, _, rfl, rfl, sqt_im (sqt_of ep) (i3.trans i4), sqt_of upd_same, by simp, by show 5 + 1 ≤ sizeLine; decide, (fun e => nomatch e), fun _ q hq => ?_⟩
    exact hR rfl q _ ((k3.new ht).new hq) (((ip.trans i3).trans i4).new hq) ⟨l, upd_same, (e3.imm i4).imm ((Imm.refl _).new hq)⟩
  · intro zs H1 k1 m1 h1 h2 e1
    rw [filter_all_true] at h1
    have hl1 : H D = none := hD
    refine k D H1 hl1 k1 ⟨zs.map fun z => (z.1.1, z.2), ?_, by rw [e1, List.map_map]; rfl, fun e hem => ?_⟩
    · rw [List.map_map, ← ee, ← h1, List.map_map]
      rfl
    · obtain ⟨z, hz, rfl⟩ := List.mem_map.mp hem
      exact h2 z hz
def spIsCount : Sp := fun vs H Q _ => ∃ n : Nat, vs = [.int (n : Nat)] ∧ Q (.bl true) H
theorem ok_is_count (T : Tp K mg) : Calls P w K mg base (k + 1) "is_count" ["thing"] spIsCount := by
  have sc : FnScope ["thing"] ["thing"] d_is_count.scope := ⟨rfl, rfl, rfl, by decide +kernel, rfl, by decide +kernel, by decide +kernel⟩
  refine mkCall T in_is_count rfl mg_is_count rfl rfl sc (fun _ _ _ _ _ _ us hl => match us, hl with | [_], _ => rfl) (fun vs H Q E h => ?_) (fun f cdv A outer s H vs Q E hr h => ?_)
  · obtain ⟨a, rfl, _⟩ := h
    rfl
  obtain ⟨n, rfl, k⟩ := h
  refine ⟨_, (pss_one (ps_ret (pe_and (pe_callB call_isi (by rfl) (T.fre _ mf_isinstance) bt_isinstance (pa_cons (pv 0) (pa_cons (pe_bltn (v := .ty "int") (by rfl) (T.fre _ mf_int) bt_int rfl) pa_nil))) (pe_and (pe_not (pe_callB call_isi (by rfl) (T.fre _ mf_isinstance) bt_isinstance (pa_cons (pv 0) (pa_cons (pe_bltn (v := .ty "bool") (by rfl) (T.fre _ mf_bool) bt_bool rfl) pa_nil)))) (pe_one (pe_cmpR op_ge (pv 0) pe_int (nomark _))))))), ?_⟩
  refine ⟨_, rfl, _, _, _, _, _, rfl, .ty _, .base (.int _), rfl, _, rfl, iteT ?_⟩
  refine ⟨_, rfl, _, _, _, _, _, rfl, .ty _, .base (.int _), rfl, _, rfl, _, rfl, iteT ?_⟩
  exact ⟨_, rfl, _, _, rfl, rfl, qb (decide_eq_true (by omega)) k⟩
def spIsKept : Sp := fun vs H Q _ => ∃ (a : Addr) (r : Rw) (far : Nat), vs = [.ref a, .int (far : Nat)] ∧ RowAt H a r ∧ okN r.key.1 ∧ r.key.2 ≤ far ∧ ∀ H', Keeps [] H H' → Q (.bl true) H'
theorem ok_is_kept_row (T : Tp K mg) (c_is_count : Calls P w K mg base k "is_count" ["thing"] spIsCount) (c_is_name : Calls P w K mg base k "is_name" ["thing"] spIsName) : Calls P w K mg base (k + 1) "is_kept_row" ["thing", "far"] spIsKept := by
  have sc : FnScope ["thing", "far", "number", "name", "place", "length", "reach", "leans"] ["thing", "far"] d_is_kept_row.scope := ⟨rfl, rfl, rfl, by decide +kernel, rfl, by decide +kernel, by decide +kernel⟩
  refine mkCall T in_is_kept_row rfl mg_is_kept_row rfl rfl sc (fun _ _ _ _ _ _ us hl => match us, hl with | [_, _], _ => rfl) (fun vs H Q E h => ?_) (fun f cdv A outer s H vs Q E hr h => ?_)
  · obtain ⟨a, r, far, rfl, _⟩ := h
    rfl
  obtain ⟨a, r, far, rfl, ⟨lb, ha, olb, hlb⟩, hn, hf, k⟩ := h
  refine ⟨_, (pss_cons (ps_if (PW.pt (pw_or (pt_not (pt_val (pe_callB call_isi (by rfl) (T.fre _ mf_isinstance) bt_isinstance (pa_cons (pv 0) (pa_cons (pe_bltn (v := .ty "tuple") (by rfl) (T.fre _ mf_tuple) bt_tuple rfl) pa_nil))))) (pw_or1 (pt_cmpR op_ne (pe_callB call_len_seq (by rfl) (T.fre _ mf_len) bt_len (pa_cons (pv 0) pa_nil)) pe_int (nomark _))))) (pss_one (ps_ret pe_bl)) pss_nil)
      (pss_cons (ps_asg (pv 0) (pg_tupK (K := K) (n := 6) rfl rfl (pgs_cons (pg_name (i := 2) sc.nd rfl (by first | exact Or.inl rfl | exact Or.inr rfl)) (pgs_cons (pg_name (i := 3) sc.nd rfl (by first | exact Or.inl rfl | exact Or.inr rfl)) (pgs_cons (pg_name (i := 4) sc.nd rfl (by first | exact Or.inl rfl | exact Or.inr rfl)) (pgs_cons (pg_name (i := 5) sc.nd rfl (by first | exact Or.inl rfl | exact Or.inr rfl)) (pgs_cons (pg_name (i := 6) sc.nd rfl (by first | exact Or.inl rfl | exact Or.inr rfl)) (pgs_cons (pg_name (i := 7) sc.nd rfl (by first | exact Or.inl rfl | exact Or.inr rfl)) pgs_nil))))))))
      (pss_cons (ps_if (PW.pt (pw_or (pt_not (pt_val (pcall c_is_count hr (pa_cons (pv 2) pa_nil)))) (pw_or (pt_not (pt_val (pcall c_is_name hr (pa_cons (pv 3) pa_nil)))) (pw_or (pt_not (pt_val (pcall c_is_count hr (pa_cons (pv 4) pa_nil)))) (pw_or1 (pt_cmpR op_gt (pv 4) (pv 1) (nomark _))))))) (pss_one (ps_ret pe_bl)) pss_nil)
      (pss_cons (ps_if (PW.pt (pw_and (pt_cmpR op_notN (pv 5) pe_non (nomark _)) (pw_and1 (pt_not (pt_val (pcall c_is_count hr (pa_cons (pv 5) pa_nil))))))) (pss_one (ps_ret pe_bl)) pss_nil)
      (pss_one (ps_ret (pe_and (pcall c_is_count hr (pa_cons (pv 6) pa_nil)) (pe_one (pe_callB call_isi (by rfl) (T.fre _ mf_isinstance) bt_isinstance (pa_cons (pv 7) (pa_cons (pe_bltn (v := .ty "list") (by rfl) (T.fre _ mf_list) bt_list rfl) pa_nil))))))))))), ?_⟩
  refine ⟨_, rfl, _, _, _, _, _, rfl, .ty _, .base (.tup ha), rfl, _, rfl, iteF ?_⟩
  refine ⟨_, rfl, _, _, rfl, .inr (sqt_of ha), rfl, _, rfl, iteN (by rfl) ?_⟩
  refine ⟨_, rfl, _, _, rfl, sqt_of ha, rfl, _, _, rfl, _, _, rfl, _, _, rfl, _, _, rfl, _, _, rfl, _, _, rfl, rfl, ?_⟩
  refine ⟨_, rfl, _, rfl, fun m0 => ⟨_, rfl, iteF ?_⟩⟩
  refine ⟨_, rfl, _, rfl, hn, fun H1 k1 m1 => ⟨_, rfl, iteF ?_⟩⟩
  refine ⟨_, rfl, _, rfl, fun m2 => ⟨_, rfl, iteF ?_⟩⟩
  refine ⟨_, rfl, _, rfl, _, _, rfl, rfl, _, rfl, iteN (decide_eq_false (by omega)) ?_⟩
  have last : ∀ H', Keeps [] H H' → Imm H H' → tRet (tAndV (tCallI spIsCount (tCons (tVar 6) tNil)) (tCB (rIsi K) (tCons (tVar 7) (tCons (tC (.ty "list")) tNil)))) { nx := fun _ H' => Q .non H', rt := Q }
      [some (.ref a), some (.int (far : Nat)), some (.int (r.num : Nat)), some (.str r.key.1), some (.int (r.key.2 : Nat)), some (lenV r.len), some (.int (r.reach : Nat)), some (.ref lb)] H' := by
    intro H' k' m'
    refine ⟨_, rfl, _, rfl, fun m3 => ⟨_, rfl, iteT ?_⟩⟩
    exact ⟨_, rfl, _, _, _, _, _, rfl, .ty _, .base (.frz (m'.frz hlb)), rfl, k _ k'⟩
  cases hlen : r.len with
  | none =>
    rw [hlen] at last
    exact ⟨_, rfl, rfl, _, rfl, iteN (by decide) (iteF (last H1 k1 m1))⟩
  | some n =>
    rw [hlen] at last
    refine ⟨_, rfl, rfl, _, rfl, iteY (by rfl) ?_⟩
    exact ⟨_, rfl, n, rfl, fun m4 => ⟨_, rfl, iteF (last H1 k1 m1)⟩⟩
def spUnlike : Sp := fun vs H Q _ => ∃ (l : Addr) (ns : List Nat), vs = [.ref l] ∧ H l = some (.lst (ns.map fun n : Nat => V.int (n : Nat))) ∧ ns.Nodup ∧ ns.length ≤ 1000 ∧ ∀ H', Keeps [] H H' → Q (.bl true) H'
def inK (n : Nat) : L2.Key := .inl (n : Nat)
theorem inK_inj : ∀ a b, inK a = inK b → a = b := fun a b h => by
  have h' : ((a : Nat) : Int) = ((b : Nat) : Int) := by injection h
  omega
theorem ok_are_unlike (T : Tp K mg) : Calls P w K mg base (k + 1) "are_unlike" ["things"] spUnlike := by
  have sc : FnScope ["things", "seen", "thing"] ["things"] d_are_unlike.scope := ⟨rfl, rfl, rfl, by decide +kernel, rfl, by decide +kernel, by decide +kernel⟩
  refine mkCall T in_are_unlike rfl mg_are_unlike rfl rfl sc (fun _ _ _ _ _ _ us hl => match us, hl with | [_], _ => rfl) (fun vs H Q E h => ?_) (fun f cdv A outer s H vs Q E hr h => ?_)
  · obtain ⟨a, ns, rfl, _⟩ := h
    rfl
  obtain ⟨l, ns, rfl, hl, hnd, hlen, k⟩ := h
  refine ⟨_, (pss_cons (ps_set (i := 1) sc.nd rfl (by first | exact Or.inl rfl | exact Or.inr rfl) pe_dnewK)
      (pss_cons (ps_for PassesOwn.never rfl (pi_list (pv 0)) (pg_name (i := 2) sc.nd rfl (by first | exact Or.inl rfl | exact Or.inr rfl))
        (pss_one (ps_dput (hu_of hr) (pv 1) (pv 2) pe_bl rfl)))
      (pss_one (ps_ret (pe_cmpR op_eq (pe_callB call_lenDR (by rfl) (T.fre _ mf_len) bt_len (pa_cons (pv 1) pa_nil)) (pe_callB call_len_seq (by rfl) (T.fre _ mf_len) bt_len (pa_cons (pv 0) pa_nil)) (nomark _)))))), ?_⟩
  intro d hd
  have kd := (Keeps.refl [] H).new (o := .dK []) hd
  have ld : l ≠ d := ne_of_none hl hd
  refine ⟨_, rfl, _, rfl, ⟨_, SqL.of (kd.same hl)⟩, ?_⟩
  refine for_it (walk_list (xs := ns.map fun n : Nat => V.int (n : Nat))) (fun i σ H' => ∃ v, σ = [some (.ref l), some (.ref d), v] ∧ Keeps [] H H' ∧ H' d = some (.dK (mkD inK (fun _ => .bl true) (ns.take i)))) ⟨none, rfl, kd, upd_same⟩ (fun i σ H' _ ⟨v, _, k', _⟩ => SqL.of (k'.same hl)) ?_ ?_
  · rintro i x σ H1 H1' hi ⟨v, rfl, k1, e1⟩ ⟨rfl, hx⟩
    obtain ⟨m, h1, hm, rfl⟩ := getM hx
    have hnew : m ∉ ns.take i := fun hz => by
      obtain ⟨j, hj⟩ := List.mem_iff_getElem?.mp hz
      rw [List.getElem?_take] at hj
      split at hj
      · rename_i hji
        have hlt : j < ns.length := (List.getElem?_eq_some_iff.mp hj).1
        have := (List.getElem?_inj hlt hnd).mp (hj.trans h1.symm)
        omega
      · cases hj
    refine ⟨_, rfl, _, rfl, d, _, rfl, DPut.k (k := .inl (m : Nat)) e1 ?_, _, rfl, k1.own hd, ?_⟩
    · rw [mkD_len, List.length_take]
      exact line5 (by omega)
    · have ep : putK (mkD inK (fun _ => V.bl true) (ns.take i)) (Sum.inl (m : Nat)) (V.bl true) = mkD inK (fun _ => .bl true) (ns.take (i + 1)) := by
        refine (mkD_put inK_inj _ m (.bl true)).trans ?_
        rw [addK_no hnew, take_snoc h1]
        refine mkD_congr fun j _ => ?_
        unfold setF
        split <;> rfl
      rw [ep]
      exact upd_same
  · rintro σ H1 ⟨v, rfl, k1, e1⟩
    rw [List.length_map, List.take_length] at e1
    refine ⟨_, rfl, d, _, rfl, .inl e1, _, rfl, l, _, rfl, .inl (SqL.of (k1.same hl)), rfl, qb ?_ (k _ k1)⟩
    rw [mkD_len, List.length_map]
    simp
end
end Kr
namespace Kr
open PySem PySem.Spec PyProof.Rows L2
section
variable {P : Program} {w : World} {K : PySem.W.Frag} {mg : Str → Option Value} {base : Heap} {k : Nat}
def spNever : Sp := fun _ _ _ _ => False
theorem no_law_alike (T : Tp K mg) : Calls P w K mg base (k + 1) "_law_alike" ["found", "due"] spNever := by
  have sc : FnScope ["found", "due", "k"] ["found", "due"] d_law_alike.scope := ⟨rfl, rfl, rfl, by decide +kernel, rfl, by decide +kernel, by decide +kernel⟩
  exact mkCall T in_law_alike rfl mg_law_alike rfl rfl sc (fun _ _ _ _ _ _ us hl => match us, hl with | [_, _], _ => rfl) (fun vs H Q E h => h.elim) (fun f cdv A outer s H vs Q E hr h => h.elim)
def spAlike0 : Sp := fun vs H Q _ => ∃ x : V, vs = [x, x] ∧ (x = .non ∨ ∃ i, x = .int i) ∧ ∀ H', Keeps [] H H' → Q (.bl true) H'
theorem ok_law_alike0 (T : Tp K mg) (c_law_alike : Calls P w K mg base k "_law_alike" ["found", "due"] spNever) : Calls P w K mg base (k + 1) "_law_alike" ["found", "due"] spAlike0 := by
  have sc : FnScope ["found", "due", "k"] ["found", "due"] d_law_alike.scope := ⟨rfl, rfl, rfl, by decide +kernel, rfl, by decide +kernel, by decide +kernel⟩
  refine mkCall T in_law_alike rfl mg_law_alike rfl rfl sc (fun _ _ _ _ _ _ us hl => match us, hl with | [_, _], _ => rfl) (fun vs H Q E h => ?_) (fun f cdv A outer s H vs Q E hr h => ?_)
  · obtain ⟨x, rfl, _⟩ := h
    rfl
  obtain ⟨x, rfl, hx, k⟩ := h
  refine ⟨_, (pss_cons (ps_if (pt_val (pe_callB call_isiT (by rfl) (T.fre _ mf_isinstance) bt_isinstance (pa_cons (pv 1) (pa_cons (pe_tup (pa_cons (pe_bltn (v := .ty "list") (by rfl) (T.fre _ mf_list) bt_list rfl) (pa_cons (pe_bltn (v := .ty "tuple") (by rfl) (T.fre _ mf_tuple) bt_tuple rfl) pa_nil))) pa_nil)))) (pss_cons (ps_if (PW.pt (pw_or (pt_cmpR op_ne (pe_callB call_isi (by rfl) (T.fre _ mf_isinstance) bt_isinstance (pa_cons (pv 0) (pa_cons (pe_bltn (v := .ty "list") (by rfl) (T.fre _ mf_list) bt_list rfl) pa_nil))) (pe_callB call_isi (by rfl) (T.fre _ mf_isinstance) bt_isinstance (pa_cons (pv 1) (pa_cons (pe_bltn (v := .ty "list") (by rfl) (T.fre _ mf_list) bt_list rfl) pa_nil))) (nomark _)) (pw_or1 (pt_not (pt_val (pe_callB call_isiT (by rfl) (T.fre _ mf_isinstance) bt_isinstance (pa_cons (pv 0) (pa_cons (pe_tup (pa_cons (pe_bltn (v := .ty "list") (by rfl) (T.fre _ mf_list) bt_list rfl) (pa_cons (pe_bltn (v := .ty "tuple") (by rfl) (T.fre _ mf_tuple) bt_tuple rfl) pa_nil))) pa_nil)))))))) (pss_one (ps_ret pe_bl)) pss_nil)
      (pss_one (ps_ret (pe_and (pe_cmpR op_eq (pe_callB call_len_seq (by rfl) (T.fre _ mf_len) bt_len (pa_cons (pv 0) pa_nil)) (pe_callB call_len_seq (by rfl) (T.fre _ mf_len) bt_len (pa_cons (pv 1) pa_nil)) (nomark _)) (pe_one (pe_callB (cr_all rfl) (by rfl) (T.fre _ mf_all) bt_all (pa_cons (pe_lc (own := [("k", 2)]) rfl sc.nd (pi_range1 (by rfl) (T.fre _ mf_range) (pa_cons (pe_callB call_len_seq (by rfl) (T.fre _ mf_len) bt_len (pa_cons (pv 1) pa_nil)) pa_nil)) (blkOk_by (by kernel_rfl)) (fun _ _ _ _ _ => (pg_name (i := 2) sc.nd rfl (by first | exact Or.inl rfl | exact Or.inr rfl))) (fun _ _ _ _ _ => pts_nil) (fun _ _ _ _ _ => (pcall c_law_alike hr (pa_cons (pe_ix (ix_tupK (K := K) rfl) (pv 0) (pv 2) (fun _ _ => rfl)) (pa_cons (pe_ix (ix_tupK (K := K) rfl) (pv 1) (pv 2) (fun _ _ => rfl)) pa_nil))))) pa_nil))))))) pss_nil)
      (pss_cons (ps_if (PW.pt (pw_or (pt_val (pe_callB call_isi (by rfl) (T.fre _ mf_isinstance) bt_isinstance (pa_cons (pv 1) (pa_cons (pe_bltn (v := .ty "bool") (by rfl) (T.fre _ mf_bool) bt_bool rfl) pa_nil)))) (pw_or1 (pt_val (pe_callB call_isi (by rfl) (T.fre _ mf_isinstance) bt_isinstance (pa_cons (pv 0) (pa_cons (pe_bltn (v := .ty "bool") (by rfl) (T.fre _ mf_bool) bt_bool rfl) pa_nil))))))) (pss_one (ps_ret (pe_and (pe_callB call_isi (by rfl) (T.fre _ mf_isinstance) bt_isinstance (pa_cons (pv 1) (pa_cons (pe_bltn (v := .ty "bool") (by rfl) (T.fre _ mf_bool) bt_bool rfl) pa_nil))) (pe_and (pe_callB call_isi (by rfl) (T.fre _ mf_isinstance) bt_isinstance (pa_cons (pv 0) (pa_cons (pe_bltn (v := .ty "bool") (by rfl) (T.fre _ mf_bool) bt_bool rfl) pa_nil))) (pe_one (pe_cmpR op_eq (pv 0) (pv 1) (nomark _))))))) pss_nil)
      (pss_one (ps_ret (pe_cmpR op_eq (pv 0) (pv 1) (nomark _)))))), ?_⟩
  rcases hx with rfl | ⟨i, rfl⟩
  · refine ⟨_, rfl, show 2 ≤ sizeLine by decide, fun tp htp => ⟨_, tp, _, _, _, _, rfl, upd_same, .cons (.ty _) (.cons (.ty _) .nil), .base .non, rfl, _, rfl, iteF ?_⟩⟩
    refine ⟨_, rfl, _, _, _, _, _, rfl, .ty _, .base .non, rfl, _, rfl, iteF ?_⟩
    refine ⟨_, rfl, _, _, _, _, _, rfl, .ty _, .base .non, rfl, _, rfl, iteF ?_⟩
    exact ⟨_, rfl, _, rfl, rfl, qb rfl (k _ ((Keeps.refl _ _).new htp))⟩
  · refine ⟨_, rfl, show 2 ≤ sizeLine by decide, fun tp htp => ⟨_, tp, _, _, _, _, rfl, upd_same, .cons (.ty _) (.cons (.ty _) .nil), .base (.int _), rfl, _, rfl, iteF ?_⟩⟩
    refine ⟨_, rfl, _, _, _, _, _, rfl, .ty _, .base (.int _), rfl, _, rfl, iteF ?_⟩
    refine ⟨_, rfl, _, _, _, _, _, rfl, .ty _, .base (.int _), rfl, _, rfl, iteF ?_⟩
    exact ⟨_, rfl, _, rfl, rfl, qb (dec_int_eq rfl) (k _ ((Keeps.refl _ _).new htp))⟩
def spAlike1 : Sp := fun vs H Q _ => ∃ (a b : Addr) (xs : List V), vs = [.ref a, .ref b] ∧ H a = some (.tup xs) ∧ H b = some (.tup xs) ∧ xs.length ≤ 100 ∧ (∀ x ∈ xs, x = .non ∨ ∃ i, x = .int i) ∧ ∀ H', Keeps [] H H' → Q (.bl true) H'
theorem ok_law_alike1 (T : Tp K mg) (c_law_alike : Calls P w K mg base k "_law_alike" ["found", "due"] spAlike0) : Calls P w K mg base (k + 1) "_law_alike" ["found", "due"] spAlike1 := by
  have sc : FnScope ["found", "due", "k"] ["found", "due"] d_law_alike.scope := ⟨rfl, rfl, rfl, by decide +kernel, rfl, by decide +kernel, by decide +kernel⟩
  refine mkCall T in_law_alike rfl mg_law_alike rfl rfl sc (fun _ _ _ _ _ _ us hl => match us, hl with | [_, _], _ => rfl) (fun vs H Q E h => ?_) (fun f cdv A outer s H vs Q E hr h => ?_)
  · obtain ⟨a, b, xs, rfl, _⟩ := h
    rfl
  obtain ⟨a, b, xs, rfl, ha, hb, hl, hx, k⟩ := h
  refine ⟨_, (pss_cons (ps_if (pt_val (pe_callB call_isiT (by rfl) (T.fre _ mf_isinstance) bt_isinstance (pa_cons (pv 1) (pa_cons (pe_tup (pa_cons (pe_bltn (v := .ty "list") (by rfl) (T.fre _ mf_list) bt_list rfl) (pa_cons (pe_bltn (v := .ty "tuple") (by rfl) (T.fre _ mf_tuple) bt_tuple rfl) pa_nil))) pa_nil)))) (pss_cons (ps_if (PW.pt (pw_or (pt_cmpR op_ne (pe_callB call_isi (by rfl) (T.fre _ mf_isinstance) bt_isinstance (pa_cons (pv 0) (pa_cons (pe_bltn (v := .ty "list") (by rfl) (T.fre _ mf_list) bt_list rfl) pa_nil))) (pe_callB call_isi (by rfl) (T.fre _ mf_isinstance) bt_isinstance (pa_cons (pv 1) (pa_cons (pe_bltn (v := .ty "list") (by rfl) (T.fre _ mf_list) bt_list rfl) pa_nil))) (nomark _)) (pw_or1 (pt_not (pt_val (pe_callB call_isiT (by rfl) (T.fre _ mf_isinstance) bt_isinstance (pa_cons (pv 0) (pa_cons (pe_tup (pa_cons (pe_bltn (v := .ty "list") (by rfl) (T.fre _ mf_list) bt_list rfl) (pa_cons (pe_bltn (v := .ty "tuple") (by rfl) (T.fre _ mf_tuple) bt_tuple rfl) pa_nil))) pa_nil)))))))) (pss_one (ps_ret pe_bl)) pss_nil)
      (pss_one (ps_ret (pe_and (pe_cmpR op_eq (pe_callB call_len_seq (by rfl) (T.fre _ mf_len) bt_len (pa_cons (pv 0) pa_nil)) (pe_callB call_len_seq (by rfl) (T.fre _ mf_len) bt_len (pa_cons (pv 1) pa_nil)) (nomark _)) (pe_one (pe_callB (cr_all rfl) (by rfl) (T.fre _ mf_all) bt_all (pa_cons (pe_lc (own := [("k", 2)]) rfl sc.nd (pi_range1 (by rfl) (T.fre _ mf_range) (pa_cons (pe_callB call_len_seq (by rfl) (T.fre _ mf_len) bt_len (pa_cons (pv 1) pa_nil)) pa_nil)) (blkOk_by (by kernel_rfl)) (fun _ _ _ _ _ => (pg_name (i := 2) sc.nd rfl (by first | exact Or.inl rfl | exact Or.inr rfl))) (fun _ _ _ _ _ => pts_nil) (fun _ _ _ _ _ => (pcall c_law_alike hr (pa_cons (pe_ix (ix_tupK (K := K) rfl) (pv 0) (pv 2) (fun _ _ => rfl)) (pa_cons (pe_ix (ix_tupK (K := K) rfl) (pv 1) (pv 2) (fun _ _ => rfl)) pa_nil))))) pa_nil))))))) pss_nil)
      (pss_cons (ps_if (PW.pt (pw_or (pt_val (pe_callB call_isi (by rfl) (T.fre _ mf_isinstance) bt_isinstance (pa_cons (pv 1) (pa_cons (pe_bltn (v := .ty "bool") (by rfl) (T.fre _ mf_bool) bt_bool rfl) pa_nil)))) (pw_or1 (pt_val (pe_callB call_isi (by rfl) (T.fre _ mf_isinstance) bt_isinstance (pa_cons (pv 0) (pa_cons (pe_bltn (v := .ty "bool") (by rfl) (T.fre _ mf_bool) bt_bool rfl) pa_nil))))))) (pss_one (ps_ret (pe_and (pe_callB call_isi (by rfl) (T.fre _ mf_isinstance) bt_isinstance (pa_cons (pv 1) (pa_cons (pe_bltn (v := .ty "bool") (by rfl) (T.fre _ mf_bool) bt_bool rfl) pa_nil))) (pe_and (pe_callB call_isi (by rfl) (T.fre _ mf_isinstance) bt_isinstance (pa_cons (pv 0) (pa_cons (pe_bltn (v := .ty "bool") (by rfl) (T.fre _ mf_bool) bt_bool rfl) pa_nil))) (pe_one (pe_cmpR op_eq (pv 0) (pv 1) (nomark _))))))) pss_nil)
      (pss_one (ps_ret (pe_cmpR op_eq (pv 0) (pv 1) (nomark _)))))), ?_⟩
  refine ⟨_, rfl, show 2 ≤ sizeLine by decide, fun tp htp => ?_⟩
  have k1 := (Keeps.refl [] H).new (o := .tup [.ty "list", .ty "tuple"]) htp
  have e1 : upd H tp (.tup [.ty "list", .ty "tuple"]) tp = some (.tup [.ty "list", .ty "tuple"]) := upd_same
  generalize upd H tp (.tup [.ty "list", .ty "tuple"]) = H1 at k1 e1 ⊢
  refine ⟨_, tp, _, _, _, _, rfl, e1, .cons (.ty _) (.cons (.ty _) .nil), .base (.tup (k1.same hb)), rfl, _, rfl, iteT ?_⟩
  refine ⟨_, rfl, _, _, _, _, _, rfl, .ty _, .base (.tup (k1.same ha)), rfl, _, rfl, _, _, _, _, _, rfl, .ty _, .base (.tup (k1.same hb)), rfl, rfl, _, rfl, iteN (by decide) ?_⟩
  refine ⟨_, rfl, show 2 ≤ sizeLine by decide, fun tq htq => ?_⟩
  have k2 := k1.new (o := .tup [.ty "list", .ty "tuple"]) htq
  have e2 : upd H1 tq (.tup [.ty "list", .ty "tuple"]) tq = some (.tup [.ty "list", .ty "tuple"]) := upd_same
  generalize upd H1 tq (.tup [.ty "list", .ty "tuple"]) = H2 at k2 e2 ⊢
  refine ⟨_, tq, _, _, _, _, rfl, e2, .cons (.ty _) (.cons (.ty _) .nil), .base (.tup (k2.same ha)), rfl, _, rfl, iteF ?_⟩
  refine ⟨_, rfl, a, _, rfl, .inr (sqt_of (k2.same ha)), _, rfl, b, _, rfl, .inr (sqt_of (k2.same hb)), rfl, _, rfl, iteY (dec_int_eq rfl) ?_⟩
  refine ⟨_, rfl, b, _, rfl, .inr (sqt_of (k2.same hb)), _, rfl, by omega, by omega, fun D hD => ?_⟩
  rw [Int.toNat_natCast]
  refine lc_map walk_range V.bl (fun _ => true) (by omega) hD (fun _ _ _ => trivial) ?_ ?_
  · rintro i x H3 H3' hi k3 m3 ⟨rfl, rfl⟩ R hR
    have hg : xs[i]? = some (xs[i]'(by omega)) := List.getElem?_eq_getElem (by omega)
    have hat := atI_nat hg
    have e0 : (0 : Int) + (i : Nat) = ((i : Nat) : Int) := Int.zero_add _
    refine ⟨rfl, _, rfl, _, rfl, a, _, _, _, rfl, rfl, sqt_of ((k2.trans k3).same ha), by first | (rw [e0]; exact hat) | (dsimp only; rw [e0]; exact hat), _, rfl, _, rfl, b, _, _, _, rfl, rfl, sqt_of ((k2.trans k3).same hb), by first | (rw [e0]; exact hat) | (dsimp only; rw [e0]; exact hat), _, rfl, hx _ (List.getElem_mem _), fun H4 k4 m4 => hR _ k4 m4⟩
  · intro H3 k3 m3 e3
    refine ⟨D, _, rfl, SqL.of e3, ?_⟩
    rw [all_true]
    exact k _ (k2.trans k3)
/-- begins, by the places of what can't be empty -/
theorem upTo_ends (E : Str → Bool) (ps : List Str) : upTo E ps = ps.take ((((List.range ps.length).filter fun i => !E (ps.getD i "")) ++ [ps.length]).headD 0 + 1) := by
  cases he : (List.range ps.length).filter (fun i => !E (ps.getD i "")) with
  | nil =>
    have h := List.filter_eq_nil_iff.mp he
    have hall : ps.all E = true := by
      rw [List.all_eq_true]
      intro x hx
      obtain ⟨i, hi, e⟩ := List.getElem_of_mem hx
      have := h i (List.mem_range.mpr hi)
      rw [List.getD_eq_getElem?_getD, List.getElem?_eq_getElem hi, Option.getD_some, e] at this
      simpa using this
    rw [upTo_all ps hall]
    show ps = ps.take (ps.length + 1)
    rw [List.take_of_length_le (by omega)]
  | cons i r =>
    show upTo E ps = ps.take (i + 1)
    have hm : i ∈ (List.range ps.length).filter fun i => !E (ps.getD i "") := by rw [he]; exact List.mem_cons_self
    obtain ⟨h1, h2⟩ := List.mem_filter.mp hm
    have hi := List.mem_range.mp h1
    have hg : ps[i]? = some (ps[i]'hi) := List.getElem?_eq_getElem hi
    have hE : E (ps[i]'hi) = false := by
      rw [List.getD_eq_getElem?_getD, hg, Option.getD_some] at h2
      simpa using h2
    refine upTo_take ps i _ ?_ hg hE
    rw [List.all_eq_true]
    intro x hx
    obtain ⟨j, hj, e⟩ := List.getElem_of_mem hx
    rw [List.length_take] at hj
    rw [List.getElem_take] at e
    have hj2 : j < ps.length := by omega
    cases hEj : E x with
    | true => rfl
    | false =>
      have hmj : j ∈ (List.range ps.length).filter fun i => !E (ps.getD i "") := List.mem_filter.mpr ⟨List.mem_range.mpr hj2, by rw [List.getD_eq_getElem?_getD, List.getElem?_eq_getElem hj2, Option.getD_some, e, hEj]; rfl⟩
      have hp : ((List.range ps.length).filter fun i => !E (ps.getD i "")).Pairwise (· < ·) := List.pairwise_lt_range.filter _
      rw [he] at hp hmj
      rcases List.mem_cons.mp hmj with z | z
      · omega
      · have := (List.pairwise_cons.mp hp).1 j z
        omega
def spBegins : Sp := fun vs H Q _ => ∃ (a d : Addr) (f : Fm) (xs : List Str), vs = [.ref a, .ref d] ∧ FormAt H a f ∧ f.ok ∧ FndAt H d xs ∧ ∀ l H', H l = none → Keeps [] H H' → H' l = some (.lst ((begins (inL xs) f).map V.str)) → Q (.ref l) H'
theorem ok_law_begins (T : Tp K mg) : Calls P w K mg base (k + 1) "_law_begins" ["form", "empty"] spBegins := by
  have sc : FnScope ["form", "empty", "found", "ends", "k"] ["form", "empty"] d_law_begins.scope := ⟨rfl, rfl, rfl, by decide +kernel, rfl, by decide +kernel, by decide +kernel⟩
  refine mkCall T in_law_begins rfl mg_law_begins rfl rfl sc (fun _ _ _ _ _ _ us hl => match us, hl with | [_, _], _ => rfl) (fun vs H Q E h => ?_) (fun f cdv A outer s H vs Q E hr h => ?_)
  · obtain ⟨a, d, f, xs, rfl, _⟩ := h
    rfl
  obtain ⟨a, d, f, xs, rfl, hf, ok, hd, k⟩ := h
  refine ⟨_, (pss_cons (ps_set (i := 2) sc.nd rfl (by first | exact Or.inl rfl | exact Or.inr rfl) (pe_op op_rep (pe_callTy call_list_of (by rfl) (T.fre _ mf_list) bt_list (pa_cons (pe_slice sl_tup (pv 0) (po_some pe_int) po_none) pa_nil)) (pe_callTy call_int1 (by rfl) (T.fre _ mf_int) bt_int (pa_cons (pe_cmpR op_notIn_seq (pe_ix ix_tup (pv 0) pe_int (fun _ _ => rfl)) (pe_tup (pa_cons pe_str (pa_cons pe_str (pa_cons pe_str pa_nil)))) (by rfl)) pa_nil))))
      (pss_cons (ps_setLc (i := 3) (own := [("k", 4)]) rfl sc.nd rfl rfl (sw_true rfl rfl rfl (by kernel_rfl)) (pi_range1 (by rfl) (T.fre _ mf_range) (pa_cons (pe_callB call_len_seq (by rfl) (T.fre _ mf_len) bt_len (pa_cons (pv 2) pa_nil)) pa_nil)) (blkOk_by (by kernel_rfl)) (fun _ _ _ _ _ => (pg_name (i := 4) sc.nd rfl (by first | exact Or.inl rfl | exact Or.inr rfl))) (fun _ _ _ _ _ => (pts_one (PW.pt (pw_and (pt_cmpR op_eq (pe_ix (ix_tupK (K := K) rfl) (pv 0) pe_int (fun _ _ => rfl)) pe_str (nomark _)) (pw_and1 (pt_cmp (pc_dnotin (hu_of hr) (pe_ix (ix_listK (K := K) rfl) (pv 2) (pv 4) (fun _ _ => rfl)) (pv 1)) rfl)))))) (fun _ _ _ _ _ => (pv 4)))
      (pss_one (ps_ret (pe_slice sl_list (pv 2) po_none (po_some (pe_op op_add (pe_ix ix_list (pe_op op_catS (pv 3) (pe_lst (pa_cons (pe_callB call_len_seq (by rfl) (T.fre _ mf_len) bt_len (pa_cons (pv 2) pa_nil)) pa_nil))) pe_int (fun _ _ => rfl)) pe_int))))))), ?_⟩
  have hq : SqT K H a (f.l.map V.str) := sqt_of hf
  have l1 : 1 ≤ (f.l.map V.str).length := by cases f <;> simp [Fm.l]
  obtain ⟨wd, ps, el⟩ : ∃ wd ps, f.l = wd :: ps := by cases f <;> exact ⟨_, _, rfl⟩
  have l8 : ps.length ≤ 8 := by
    have := parts_few ok
    cases f <;> cases el <;> first | exact this | (show 0 ≤ 8; decide) | (show 1 ≤ 8; decide)
  rw [el] at hq l1
  refine ⟨_, rfl, _, rfl, _, _, rfl, hq, nw1 l1, fun p hp => ?_⟩
  have e : cutV ((wd :: ps).map V.str) (some 1) none = ps.map V.str := cut_from (xs := (wd :: ps).map V.str) 1
  rw [e]
  have ip := (Imm.refl H).new (o := .tup (ps.map V.str)) hp
  have kp := (Keeps.refl [] H).new (o := .tup (ps.map V.str)) hp
  have ep : upd H p (.tup (ps.map V.str)) p = some (.tup (ps.map V.str)) := upd_same
  generalize upd H p (.tup (ps.map V.str)) = H1 at ip kp ep ⊢
  refine ⟨p, _, rfl, .inr (sqt_of ep), fun l hl => ?_⟩
  have i2 := ip.new (o := .lst (ps.map V.str)) hl
  have k2 := kp.new (o := .lst (ps.map V.str)) hl
  have e2 : upd H1 l (.lst (ps.map V.str)) l = some (.lst (ps.map V.str)) := upd_same
  generalize upd H1 l (.lst (ps.map V.str)) = H2 at i2 k2 e2 ⊢
  refine ⟨_, rfl, _, _, _, _, rfl, rfl, sqt_im hq i2, at_0 rfl, by decide, fun t ht => ⟨_, _, rfl, .inr (sqt_of upd_same), rfl, rfl, .inr ⟨_, rfl, ?_⟩⟩⟩
  have i3 := i2.new (o := .tup [V.str "none", V.str "any", V.str "signs"]) ht
  have k3 := k2.new (o := .tup [V.str "none", V.str "any", V.str "signs"]) ht
  have e3 : upd H2 t (.tup [V.str "none", V.str "any", V.str "signs"]) l = some (.lst (ps.map V.str)) := by rw [upd_ne (ne_of_none e2 ht)]; exact e2
  generalize upd H2 t (.tup [V.str "none", V.str "any", V.str "signs"]) = H3 at i3 k3 e3 ⊢
  -- what is repeated
  have ein : (if true = true then !inV (V.str wd) [V.str "none", V.str "any", V.str "signs"] else inV (V.str wd) [V.str "none", V.str "any", V.str "signs"]) = !decide (wd ∈ [("none" : Str), "any", "signs"]) := by
    rw [if_pos rfl]
    exact congrArg _ (inV_str wd ["none", "any", "signs"])
  rw [ein]
  have hrow : ∃ fnd : List Str, (List.replicate (if (!decide (wd ∈ [("none" : Str), "any", "signs"])) = true then (1 : Int) else 0).toNat (ps.map V.str)).flatten = fnd.map V.str ∧ fnd.length ≤ 8 ∧
      begins (inL xs) f = fnd.take ((((List.range fnd.length).filter fun i => decide (wd = "row") && !inL xs (fnd.getD i "")) ++ [fnd.length]).headD 0 + 1) := by
    have r1 : ∀ (fnd : List Str), wd ≠ "row" → fnd = fnd.take ((((List.range fnd.length).filter fun i => decide (wd = "row") && !inL xs (fnd.getD i "")) ++ [fnd.length]).headD 0 + 1) := by
      intro fnd hne
      have e : (List.range fnd.length).filter (fun i => decide (wd = "row") && !inL xs (fnd.getD i "")) = [] := by
        rw [List.filter_eq_nil_iff]
        intro i _
        simp [hne]
      rw [e]
      show fnd = fnd.take (fnd.length + 1)
      rw [List.take_of_length_le (by omega)]
    have y1 : ∀ b : Bool, b = true → (List.replicate (if b = true then (1 : Int) else 0).toNat (ps.map V.str)).flatten = ps.map V.str := by
      rintro b rfl
      simp
    have y0 : ∀ b : Bool, b = false → (List.replicate (if b = true then (1 : Int) else 0).toNat (ps.map V.str)).flatten = ([] : List Str).map V.str := by
      rintro b rfl
      simp
    cases f with
    | none => cases el; exact ⟨[], y0 _ (by decide +kernel), by decide, r1 [] (by decide +kernel)⟩
    | any => cases el; exact ⟨[], y0 _ (by decide +kernel), by decide, r1 [] (by decide +kernel)⟩
    | signs z => cases el; exact ⟨[], y0 _ (by decide +kernel), by decide, r1 [] (by decide +kernel)⟩
    | row qs =>
      cases el
      refine ⟨ps, y1 _ (by decide +kernel), l8, ?_⟩
      have := upTo_ends (inL xs) ps
      simp only [decide_true, Bool.true_and]
      exact this
    | first qs => cases el; exact ⟨ps, y1 _ (by decide +kernel), l8, r1 ps (by decide +kernel)⟩
    | again q => cases el; exact ⟨[q], y1 _ (by decide +kernel), (show 1 ≤ 8 by decide), r1 [q] (by decide +kernel)⟩
    | ahead q => cases el; exact ⟨[q], y1 _ (by decide +kernel), (show 1 ≤ 8 by decide), r1 [q] (by decide +kernel)⟩
    | not q => cases el; exact ⟨[q], y1 _ (by decide +kernel), (show 1 ≤ 8 by decide), r1 [q] (by decide +kernel)⟩
  obtain ⟨fnd, hfnd, hf8, hbg⟩ := hrow
  refine ⟨l, _, _, rfl, rfl, e3, ?_, ?_, ?_, fun q hqn => ?_⟩
  · split <;> omega
  · split <;> omega
  · rw [List.length_map]
    have : (if (!decide (wd ∈ [("none" : Str), "any", "signs"])) = true then (1 : Int) else 0).toNat ≤ 1 := by split <;> decide
    have := Nat.mul_le_mul_left ps.length this
    exact line5' (by omega)
  rw [hfnd]
  have i4 := i3.new (o := .lst (fnd.map V.str)) hqn
  have k4 := k3.new (o := .lst (fnd.map V.str)) hqn
  have e4 : upd H3 q (.lst (fnd.map V.str)) q = some (.lst (fnd.map V.str)) := upd_same
  generalize upd H3 q (.lst (fnd.map V.str)) = H4 at i4 k4 e4 ⊢
  refine ⟨_, rfl, _, _, rfl, .inl (SqL.of e4), _, rfl, by omega, by rw [List.length_map]; omega, fun D hD => ?_⟩
  rw [Int.toNat_natCast]
  refine lc_fun (List.range fnd.length) (fun i => decide (wd = "row") && !inL xs (fnd.getD i "")) (fun j : Nat => V.int (j : Nat)) id walk_range (by rw [List.length_map, List.length_range]) (by rw [List.length_range]; omega) hD (fun _ _ _ => trivial) ?_ ?_
  · rintro i y x H5 H5' hy k5 m5 ⟨rfl, rfl⟩ R N hR hN
    have hil : i < fnd.length := by
      have := (List.getElem?_eq_some_iff.mp hy).1
      rw [List.length_range] at this
      exact this
    obtain rfl : i = y := by
      obtain ⟨h1, h2⟩ := List.getElem?_eq_some_iff.mp hy
      rw [List.getElem_range] at h2
      exact h2
    have e0 : (0 : Int) + (i : Nat) = ((i : Nat) : Int) := Int.zero_add _
    refine ⟨rfl, _, rfl, _, _, _, _, rfl, rfl, sqt_im hq (i4.trans m5), at_0 rfl, rfl, _, rfl, ?_⟩
    have ew : decide (V.str wd = V.str "row") = decide (wd = "row") := by
      by_cases h : wd = "row" <;> simp [h]
    rw [ew]
    refine iteB (fun hw => ?_) (fun hw => iteF (hN (by rw [hw]; rfl) _ (Keeps.refl _ _) (Imm.refl _)))
    have hg : (fnd.map V.str)[i]? = some (V.str (fnd.getD i "")) := by rw [List.getElem?_map, List.getElem?_eq_getElem hil, List.getD_eq_getElem?_getD, List.getElem?_eq_getElem hil]; rfl
    have hat := atI_nat hg
    refine ⟨_, rfl, _, rfl, q, _, _, _, rfl, rfl, SqL.of (k5.same e4), by first | (rw [e0]; exact hat) | (dsimp only; rw [e0]; exact hat), _, rfl, _, _, rfl, (hd.kp (k4.trans k5) (by simp)).get _, _, rfl, ?_⟩
    rw [isSome_if]
    refine iteB (fun hb2 => ⟨_, rfl, ?_⟩) (fun hb2 => hN (by rw [hw]; exact hb2) _ (Keeps.refl _ _) (Imm.refl _))
    have := hR (by rw [hw]; exact hb2) _ (Keeps.refl _ _) (Imm.refl _)
    dsimp only
    rw [e0]
    exact this
  · intro H5 k5 m5 e5
    rw [List.map_id] at e5
    have e5' : H5 D = some (.lst ((((List.range fnd.length).filter fun i => decide (wd = "row") && !inL xs (fnd.getD i ""))).map fun j : Nat => V.int (j : Nat))) := e5
    have q5 := k5.same e4
    refine ⟨_, rfl, _, rfl, _, rfl, q, _, rfl, .inl (SqL.of q5), show 1 ≤ sizeLine by decide, fun u hu => ?_⟩
    rw [List.length_map]
    have ku := (k4.trans k5).new (o := .lst [V.int (fnd.length : Nat)]) hu
    have eD : upd H5 u (.lst [V.int (fnd.length : Nat)]) D = some (.lst ((((List.range fnd.length).filter fun i => decide (wd = "row") && !inL xs (fnd.getD i ""))).map fun j : Nat => V.int (j : Nat))) := by rw [upd_ne (ne_of_none e5 hu)]; exact e5'
    have eu : upd H5 u (.lst [V.int (fnd.length : Nat)]) u = some (.lst [V.int (fnd.length : Nat)]) := upd_same
    have eq : upd H5 u (.lst [V.int (fnd.length : Nat)]) q = some (.lst (fnd.map V.str)) := by rw [upd_ne (ne_of_none q5 hu)]; exact q5
    generalize upd H5 u (.lst [V.int (fnd.length : Nat)]) = H6 at ku eD eu eq ⊢
    have fl := List.length_filter_le (fun i => decide (wd = "row") && !inL xs (fnd.getD i "")) (List.range fnd.length)
    rw [List.length_range] at fl
    refine ⟨D, u, _, _, rfl, rfl, .inl eD, .inl eu, ?_, fun c hc => ?_⟩
    · rw [List.length_map]
      exact line5' (by rw [List.length_singleton]; omega)
    have ec : ((((List.range fnd.length).filter fun i => decide (wd = "row") && !inL xs (fnd.getD i ""))).map fun j : Nat => V.int (j : Nat)) ++ [V.int (fnd.length : Nat)] = ((((List.range fnd.length).filter fun i => decide (wd = "row") && !inL xs (fnd.getD i ""))) ++ [fnd.length]).map fun j : Nat => V.int (j : Nat) := by rw [List.map_append]; rfl
    rw [ec]
    obtain ⟨h0, r, hr0⟩ : ∃ h0 r, (((List.range fnd.length).filter fun i => decide (wd = "row") && !inL xs (fnd.getD i ""))) ++ [fnd.length] = h0 :: r := by
      cases ((List.range fnd.length).filter fun i => decide (wd = "row") && !inL xs (fnd.getD i "")) with
      | nil => exact ⟨_, _, rfl⟩
      | cons x xs => exact ⟨_, _, rfl⟩
    rw [hr0] at hbg ⊢
    have kc := ku.new (o := .lst ((h0 :: r).map fun j : Nat => V.int (j : Nat))) hc
    have ecc : upd H6 c (.lst ((h0 :: r).map fun j : Nat => V.int (j : Nat))) c = some (.lst (V.int (h0 : Nat) :: r.map fun j : Nat => V.int (j : Nat))) := upd_same
    have eqc : upd H6 c (.lst ((h0 :: r).map fun j : Nat => V.int (j : Nat))) q = some (.lst (fnd.map V.str)) := by rw [upd_ne (ne_of_none eq hc)]; exact eq
    generalize upd H6 c (.lst ((h0 :: r).map fun j : Nat => V.int (j : Nat))) = H7 at kc ecc eqc ⊢
    refine ⟨_, _, _, _, rfl, rfl, SqL.of ecc, at_0 rfl, _, _, rfl, rfl, _, rfl, q, _, rfl, SqL.of eqc, fun v hv => ?_⟩
    have ez : cutV (fnd.map V.str) none (some ((h0 : Nat) + 1)) = (begins (inL xs) f).map V.str := by
      rw [show (((h0 : Nat) : Int) + 1) = ((h0 + 1 : Nat) : Int) by omega, cut_to, hbg, List.map_take]
      rfl
    dsimp only
    rw [ez]
    exact k v _ (kc.free0 hv) (kc.new hv) upd_same
end
end Kr
namespace Kr
open PySem PySem.Spec PyProof.Rows L2
section
variable {P : Program} {w : World} {K : PySem.W.Frag} {mg : Str → Option Value} {base : Heap} {k : Nat}
theorem unlockK {H H' : Hp} {d : Addr} {u z : HO} (hd : H d = some u) (k : Keeps [] (upd H d z) H') : Keeps [] H (upd H' d u) := fun b o hb _ => by
  by_cases e : b = d
  · subst e
    rw [upd_same, ← hd, hb]
  · rw [upd_ne e]
    exact k b o (by rw [upd_ne e]; exact hb) (by simp)
theorem unlockI {H H' : Hp} {d : Addr} {u z : HO} (hd : H d = some u) (hu : isImm u = false) (k : Imm (upd H d z) H') : Imm H (upd H' d u) := fun b o hb hi => by
  by_cases e : b = d
  · subst e
    rw [hd] at hb
    cases hb
    rw [hu] at hi
    cases hi
  · rw [upd_ne e]
    exact k b o (by rw [upd_ne e]; exact hb) hi
theorem mkD_get {ι κ : Type} [DecidableEq ι] {f : ι → κ} {g : ι → V} {ks : List ι} {i : Nat} {k : κ} {v : V} (h : (mkD f g ks)[i]? = some (k, v)) : ∃ x, ks[i]? = some x ∧ k = f x := by
  unfold mkD at h
  rw [List.getElem?_map] at h
  cases e : ks[i]? with
  | none => rw [e] at h; cases h
  | some x =>
    rw [e] at h
    have h' := Option.some.inj h
    injection h' with h1 h2
    exact ⟨x, rfl, h1.symm⟩
/-- xs is closed under the rules -/
def ClG (G : Str → Option Fm) (xs : List Str) : Prop := ∀ x f, G x = some f → mbe (inL xs) f = true → x ∈ xs
theorem all_in {xs ks : List Str} (h1 : xs.Nodup) (h2 : ∀ x ∈ xs, x ∈ ks) (h3 : ks.length ≤ xs.length) : ∀ x ∈ ks, x ∈ xs := by
  intro x hx
  by_cases e : x ∈ xs
  · exact e
  · have := nodup_len (x :: xs) ks (List.nodup_cons.mpr ⟨e, h1⟩) (fun y hy => (List.mem_cons.mp hy).elim (fun z => z ▸ hx) (h2 y))
    rw [List.length_cons] at this
    omega
def spLoops : Sp := fun vs H Q _ => ∃ (d : Addr) (ks : List Str) (G : Str → Option Fm), vs = [.ref d] ∧ RulesM H d ks G ∧ RulesOk ks G ∧
  ∀ (b : Bool) H', Keeps [] H H' → (b = false → ∃ E rk, Ranked G E rk) → Q (.bl b) H'
theorem ok_law_loops (T : Tp K mg) (c_law_begins : Calls P w K mg base k "_law_begins" ["form", "empty"] spBegins) : Calls P w K mg base (k + 1) "_law_loops" ["rules"] spLoops := by
  have sc : FnScope ["rules", "empty", "turn", "left", "name", "word", "parts", "may", "one"] ["rules"] d_law_loops.scope := ⟨rfl, rfl, rfl, by decide +kernel, rfl, by decide +kernel, by decide +kernel⟩
  refine mkCall T in_law_loops rfl mg_law_loops rfl rfl sc (fun _ _ _ _ _ _ us hl => match us, hl with | [_], _ => rfl) (fun vs H Q E h => ?_) (fun f cdv A outer s H vs Q E hr h => ?_)
  · obtain ⟨d, ks, G, rfl, _⟩ := h
    rfl
  obtain ⟨d, ks, G, rfl, ⟨ad, hd, had⟩, RO, k⟩ := h
  refine ⟨_, (pss_cons (ps_set (i := 1) sc.nd rfl (by first | exact Or.inl rfl | exact Or.inr rfl) pe_dnewK)
      (pss_cons (ps_lock (ps_for PassesOwn.never rfl (pi_keys (pv 0)) (pg_name (i := 2) sc.nd rfl (by first | exact Or.inl rfl | exact Or.inr rfl))
        (pss_one (ps_for PassesOwn.never rfl (pi_keys (pv 0)) (pg_name (i := 4) sc.nd rfl (by first | exact Or.inl rfl | exact Or.inr rfl))
        (pss_cons (ps_set (i := 5) sc.nd rfl (by first | exact Or.inl rfl | exact Or.inr rfl) (pe_ix ix_tup (pe_dget (hu_of hr) (pv 0) (pv 4) (fun _ _ => rfl)) pe_int (fun _ _ => rfl)))
      (pss_cons (ps_setLc (i := 6) (own := [("one", 8)]) rfl sc.nd rfl rfl (sw_true rfl rfl rfl (by kernel_rfl)) (pi_tup (pe_slice sl_tup (pe_dget (hu_of hr) (pv 0) (pv 4) (fun _ _ => rfl)) (po_some pe_int) po_none)) (blkOk_by (by kernel_rfl)) (fun _ _ _ _ _ => (pg_name (i := 8) sc.nd rfl (by first | exact Or.inl rfl | exact Or.inr rfl))) (fun _ _ _ _ _ => pts_nil) (fun _ _ _ _ _ => (pe_cmp (pc_din (hu_of hr) (pv 8) (pv 1)) rfl)))
      (pss_cons (ps_set (i := 7) sc.nd rfl (by first | exact Or.inl rfl | exact Or.inr rfl) (pe_or (pe_and (pe_cmpR op_eq (pv 5) pe_str (nomark _)) (pe_one (pe_callB (cr_all rfl) (by rfl) (T.fre _ mf_all) bt_all (pa_cons (pv 6) pa_nil)))) (pe_one (pe_and (pe_cmpR op_eq (pv 5) pe_str (nomark _)) (pe_one (pe_callB (cr_any rfl) (by rfl) (T.fre _ mf_any) bt_any (pa_cons (pv 6) pa_nil)))))))
      (pss_one (ps_if (PW.pt (pw_or (pt_val (pv 7)) (pw_or1 (pt_cmpR op_in_seq (pv 5) (pe_tup (pa_cons pe_str (pa_cons pe_str (pa_cons pe_str (pa_cons pe_str pa_nil))))) (by rfl))))) (pss_one (ps_dput (hu_of hr) (pv 1) (pv 4) pe_bl rfl)) pss_nil)))))))))
      (pss_cons (ps_set (i := 3) sc.nd rfl (by first | exact Or.inl rfl | exact Or.inr rfl) (pe_callB (call_sortedD rfl) (by rfl) (T.fre _ mf_sorted) bt_sorted (pa_cons (pv 0) pa_nil)))
      (pss_cons (ps_lock (ps_for PassesOwn.never rfl (pi_keys (pv 0)) (pg_name (i := 2) sc.nd rfl (by first | exact Or.inl rfl | exact Or.inr rfl))
        (pss_one (ps_set (i := 3) sc.nd rfl (by first | exact Or.inl rfl | exact Or.inr rfl) (pe_lc (own := [("name", 4)]) rfl sc.nd (pi_list (pv 3)) (blkOk_by (by kernel_rfl)) (fun _ _ _ _ _ => (pg_name (i := 4) sc.nd rfl (by first | exact Or.inl rfl | exact Or.inr rfl))) (fun _ _ _ _ _ => (pts_one (pt_val (pe_callB (cr_anyK (K := K) rfl rfl) (by rfl) (T.fre _ mf_any) bt_any (pa_cons (pe_lc (own := [("one", 8)]) rfl sc.nd (pi_listK (K := K) rfl (pcall c_law_begins hr (pa_cons (pe_dget (hu_of hr) (pv 0) (pv 4) (fun _ _ => rfl)) (pa_cons (pv 1) pa_nil)))) (blkOk_by (by kernel_rfl)) (fun _ _ _ _ _ => (pg_name (i := 8) sc.nd rfl (by first | exact Or.inl rfl | exact Or.inr rfl))) (fun _ _ _ _ _ => pts_nil) (fun _ _ _ _ _ => (pe_cmpR (op_in_seqK (K := K) rfl) (pv 8) (pv 3) (by rfl)))) pa_nil))))) (fun _ _ _ _ _ => (pv 4)))))))
      (pss_one (ps_ret (pe_cmpR (op_neNil hr.units) (pv 3) (pe_lst pa_nil) (nomark _)))))))), ?_⟩
  have few := RO.few
  have hget : ∀ (x : Str), x ∈ ks → valV (mkD nmK (fun x => V.ref (ad x)) ks) (.inr x) = some (V.ref (ad x)) := fun x hx => mkD_in (f := nmK) (g := fun x => V.ref (ad x)) nmK_inj hx
  intro e he
  have ke := (Keeps.refl [] H).new (o := .dK []) he
  have ie := (Imm.refl H).new (o := .dK []) he
  have hde : d ≠ e := ne_of_none hd he
  have hd0 : upd H e (.dK []) d = some (.dK (mkD nmK (fun x => .ref (ad x)) ks)) := by rw [upd_ne hde]; exact hd
  have he0 : upd H e (.dK []) e = some (.dK []) := upd_same
  have hadI : ∀ H', Imm H H' → ∀ x ∈ ks, ∃ f, G x = some f ∧ f.ok ∧ FormAt H' (ad x) f := fun H' i x hx => let ⟨f, a, b⟩ := had x hx; ⟨f, a, RO.ok x f a, b.imm i⟩
  generalize upd H e (.dK []) = H0 at ke ie hd0 he0 ⊢
  -- the names that may be empty
  refine ⟨d, _, hd0, trivial, fun od => ?_⟩
  have hL0 : upd H0 d (.frz od (.dK (mkD nmK (fun x => .ref (ad x)) ks))) d = some (.frz od (.dK (mkD nmK (fun x => .ref (ad x)) ks))) := upd_same
  have hLe : upd H0 d (.frz od (.dK (mkD nmK (fun x => .ref (ad x)) ks))) e = some (.dK []) := by rw [upd_ne hde.symm]; exact he0
  have iL : Imm H0 (upd H0 d (.frz od (.dK (mkD nmK (fun x => .ref (ad x)) ks)))) := (Imm.refl _).mut hd0
  have back : ∀ H', Keeps [e] (upd H0 d (.frz od (.dK (mkD nmK (fun x => .ref (ad x)) ks)))) H' → Keeps [e] H0 (upd H' d (.dK (mkD nmK (fun x => .ref (ad x)) ks))) := fun H' k b o hb hn => by
    by_cases q : b = d
    · subst q
      rw [upd_same, ← hd0, hb]
    · rw [upd_ne q]
      exact k b o (by rw [upd_ne q]; exact hb) hn
  have backI : ∀ H', Imm (upd H0 d (.frz od (.dK (mkD nmK (fun x => .ref (ad x)) ks)))) H' → Imm H0 (upd H' d (.dK (mkD nmK (fun x => .ref (ad x)) ks))) := fun H' i => unlockI hd0 rfl i
  generalize upd H0 d (.frz od (.dK (mkD nmK (fun x => .ref (ad x)) ks))) = HL at hL0 hLe iL back backI ⊢
  have kl : (mkD nmK (fun x => V.ref (ad x)) ks).length = ks.length := mkD_len
  let Fd := fun (xs : List Str) (H' : Hp) => H' e = some (.dK (mkD nmK (fun _ => .bl true) xs)) ∧ xs.Nodup ∧ ∀ x ∈ xs, x ∈ ks
  have dS : d ∉ [e] := fun z => hde (List.mem_singleton.mp z)
  refine ⟨_, rfl, d, od, rfl, .inl ⟨_, hL0, ?_⟩⟩
  refine for_it walk_keys (fun i σ H' => ∃ (xs : List Str) (v2 v4 v5 v6 v7 : Option V), σ = [some (.ref d), some (.ref e), v2, none, v4, v5, v6, v7, none] ∧ Keeps [e] HL H' ∧ Imm HL H' ∧ Fd xs H' ∧ (ClG G xs ∨ i ≤ xs.length))
    ⟨[], none, none, none, none, none, rfl, Keeps.refl _ _, Imm.refl _, ⟨hLe, List.nodup_nil, by simp⟩, .inr (Nat.le_refl _)⟩ (fun i σ H' _ ⟨_, _, _, _, _, _, _, k', _⟩ => k' _ _ hL0 dS) ?_ ?_
  · rintro i x σ H1 H1' hi ⟨xs0, v2, v4, v5, v6, v7, rfl, k1, m1, ⟨e1, nd1, sub1⟩, cl1⟩ ⟨rfl, kk, vv, _, rfl⟩
    refine ⟨_, rfl, d, od, rfl, .inl ⟨_, k1 _ _ hL0 dS, ?_⟩⟩
    refine for_it walk_keys (fun j σ H' => ∃ (xs : List Str) (v4 v5 v6 v7 : Option V), σ = [some (.ref d), some (.ref e), some (kV kk), none, v4, v5, v6, v7, none] ∧ Keeps [e] HL H' ∧ Imm HL H' ∧ Fd xs H' ∧ (∀ x ∈ xs0, x ∈ xs) ∧ (∀ x ∈ ks.take j, ∀ f, G x = some f → mbe (inL xs0) f = true → x ∈ xs) ∧
      (ClG G xs0 → ∀ x ∈ xs, x ∈ xs0) ∧ (xs = xs0 ∨ xs0.length < xs.length))
      ⟨xs0, v4, v5, v6, v7, rfl, k1, m1, ⟨e1, nd1, sub1⟩, fun _ h => h, by simp, fun _ _ h => h, .inl rfl⟩ (fun i σ H' _ ⟨_, _, _, _, _, _, k', _⟩ => k' _ _ hL0 dS) ?_ ?_
    · rintro j x σ H2 H2' hj ⟨xs, w4, w5, w6, w7, rfl, k2, m2, ⟨e2, nd2, sub2⟩, s0, st, scl, sz⟩ ⟨rfl, kx, vx, hkx, rfl⟩
      obtain ⟨x, hx, rfl⟩ := mkD_get hkx
      have hxm := List.mem_of_getElem? hx
      obtain ⟨f, hf1, hfok, hf2⟩ := hadI _ ((ie.trans iL).trans m2) x hxm
      have hq : SqT K H2' (ad x) (f.l.map V.str) := sqt_of hf2
      have l1 : 1 ≤ (f.l.map V.str).length := by cases f <;> simp [Fm.l]
      obtain ⟨wd, ps, el⟩ : ∃ wd ps, f.l = wd :: ps := by cases f <;> exact ⟨_, _, rfl⟩
      have l8 : ps.length ≤ 8 := by
        have := parts_few hfok
        cases f <;> cases el <;> first | exact this | (show 0 ≤ 8; decide) | (show 1 ≤ 8; decide)
      rw [el] at hq l1
      have dg2 : ∀ H', Keeps [e] H2' H' → DGet H' d (.str x) (some (.ref (ad x))) := fun H' k' => .inl ⟨_, .inr x, .inr ⟨od, k' _ _ (k2 _ _ hL0 dS) dS⟩, rfl, (hget x hxm).symm⟩
      refine ⟨_, rfl, _, rfl, d, _, rfl, dg2 _ (Keeps.refl _ _), _, _, _, _, rfl, rfl, hq, at_0 rfl, ?_⟩
      refine ⟨_, rfl, _, rfl, d, _, rfl, dg2 _ (Keeps.refl _ _), _, rfl, _, _, rfl, hq, nw1 l1, fun p hp => ?_⟩
      have ec : cutV ((wd :: ps).map V.str) (some 1) none = ps.map V.str := cut_from (xs := (wd :: ps).map V.str) 1
      rw [ec]
      have kp := (Keeps.refl [] H2').new (o := .tup (ps.map V.str)) hp
      have ip := (Imm.refl H2').new (o := .tup (ps.map V.str)) hp
      have ep : upd H2' p (.tup (ps.map V.str)) p = some (.tup (ps.map V.str)) := upd_same
      generalize upd H2' p (.tup (ps.map V.str)) = H3 at kp ip ep ⊢
      refine ⟨p, rfl, ⟨_, sqt_of ep⟩, fun D hD => lc_fun ps (fun _ => true) V.bl (inL xs) walk_tup (by rw [List.length_map]) (by omega) hD (fun H' _ m' => sqt_im (sqt_of ep) m') ?_ ?_⟩
      · rintro t y z H4 H4' hy k4 m4 ⟨rfl, hz⟩ R N hR _
        obtain ⟨q, h1, _, rfl⟩ := getM hz
        obtain rfl : q = y := Option.some.inj (h1.symm.trans hy)
        refine ⟨rfl, _, rfl, _, rfl, _, _, rfl, FndAt.get (.inl ((kp.trans k4).same e2)) q, ?_⟩
        rw [isSome_if]
        exact hR rfl _ (Keeps.refl _ _) (Imm.refl _)
      intro H4 k4 m4 e4
      rw [filter_all_true] at e4
      have k24 := kp.trans k4
      have m24 := ip.trans m4
      refine gName_go ?_
      dsimp only
      refine seq_with (fun σ' H' => ∃ (b : Bool), σ' = [some (.ref d), some (.ref e), some (kV kk), none, some (.str x), some (.str wd), some (.ref D), some (.bl b), none] ∧ H' = H4 ∧ (b || decide (wd ∈ [("none" : Str), "again", "ahead", "not"])) = mbe (inL xs) f) ?_ ?_
      · rintro σ' H' ⟨b, rfl, rfl, hb⟩
        have skip : mbe (inL xs) f = false → ∀ (H5 : Hp) (v7 : Option V), Keeps [] H' H5 → Imm H' H5 → ∃ (xs : List Str) (w4 w5 w6 w7 : Option V), [some (V.ref d), some (.ref e), some (kV kk), none, some (.str x), some (.str wd), some (.ref D), v7, none] = [some (.ref d), some (.ref e), some (kV kk), none, w4, w5, w6, w7, none] ∧ Keeps [e] HL H5 ∧ Imm HL H5 ∧ Fd xs H5 ∧ (∀ x ∈ xs0, x ∈ xs) ∧ (∀ x ∈ ks.take (j + 1), ∀ f, G x = some f → mbe (inL xs0) f = true → x ∈ xs) ∧
            (ClG G xs0 → ∀ x ∈ xs, x ∈ xs0) ∧ (xs = xs0 ∨ xs0.length < xs.length) := by
          intro hm H5 v7 k5 m5
          refine ⟨xs, _, _, _, _, rfl, k2.trans (k24.trans k5).nil, (m2.trans m24).trans m5, ⟨(k24.trans k5).same e2, nd2, sub2⟩, s0, fun y hy g hg hmb => ?_, scl, sz⟩
          rw [take_snoc hx] at hy
          rcases List.mem_append.mp hy with hy | hy
          · exact st y hy g hg hmb
          · rw [List.mem_singleton.mp hy] at hg ⊢
            rw [hf1] at hg
            cases hg
            rw [mbe_mono (fun z hz => decide_eq_true (s0 z (of_decide_eq_true hz))) _ hmb] at hm
            cases hm
        have add : mbe (inL xs) f = true → ∀ (H5 : Hp) (v7 : Option V), Keeps [] H' H5 → Imm H' H5 →
            sDPut (tVar 1) (tVar 4) (tC (V.bl true)) { nx := fun σ H' => ∃ (xs : List Str) (w4 w5 w6 w7 : Option V), σ = [some (.ref d), some (.ref e), some (kV kk), none, w4, w5, w6, w7, none] ∧ Keeps [e] HL H' ∧ Imm HL H' ∧ Fd xs H' ∧ (∀ x ∈ xs0, x ∈ xs) ∧ (∀ x ∈ ks.take (j + 1), ∀ f, G x = some f → mbe (inL xs0) f = true → x ∈ xs) ∧
              (ClG G xs0 → ∀ x ∈ xs, x ∈ xs0) ∧ (xs = xs0 ∨ xs0.length < xs.length), rt := Q } [some (V.ref d), some (.ref e), some (kV kk), none, some (.str x), some (.str wd), some (.ref D), v7, none] H5 := by
          intro hm H5 v7 k5 m5
          have e5 := (k24.trans k5).same e2
          have hln := nodup_len xs ks nd2 sub2
          refine ⟨_, rfl, _, rfl, e, _, rfl, DPut.k (k := .inr x) e5 (by rw [mkD_len]; exact line5 (by omega)), addK xs x, _, _, _, _, rfl, (k2.trans (k24.trans k5).nil).mem (by simp), ((m2.trans m24).trans m5).mut e5, ⟨by rw [put_true]; exact upd_same, addK_nodup nd2, fun y hy => ?_⟩, fun y hy => mem_addK.mpr (.inl (s0 y hy)), fun y hy g hg hmb => ?_, fun hcl y hy => ?_, ?_⟩
          · rcases mem_addK.mp hy with z | z
            · exact sub2 y z
            · rw [z]; exact hxm
          · rw [take_snoc hx] at hy
            rcases List.mem_append.mp hy with hy | hy
            · exact mem_addK.mpr (.inl (st y hy g hg hmb))
            · exact mem_addK.mpr (.inr (List.mem_singleton.mp hy))
          · rcases mem_addK.mp hy with z | z
            · exact scl hcl y z
            · rw [z]
              exact hcl x f hf1 (mbe_mono (fun q hq => decide_eq_true (scl hcl q (of_decide_eq_true hq))) _ hm)
          · by_cases hin : x ∈ xs
            · rw [addK_in hin]
              exact sz
            · rw [addK_no hin]
              right
              have := nodup_len xs0 xs
              rw [List.length_append, List.length_singleton]
              rcases sz with z | z
              · rw [z]; omega
              · omega
        refine ⟨_, rfl, _, rfl, iteB (fun hbt => ?_) (fun hbf => ?_)⟩
        · rw [hbt, Bool.true_or] at hb
          exact add hb.symm H' _ (Keeps.refl _ _) (Imm.refl _)
        · refine ⟨_, rfl, show 4 ≤ sizeLine by decide, fun t ht => ⟨_, _, rfl, .inr (sqt_of upd_same), rfl, rfl, _, rfl, ?_⟩⟩
          have ein : (if false = true then !inV (V.str wd) [V.str "none", V.str "again", V.str "ahead", V.str "not"] else inV (V.str wd) [V.str "none", V.str "again", V.str "ahead", V.str "not"]) = decide (wd ∈ [("none" : Str), "again", "ahead", "not"]) := by
            rw [if_neg Bool.false_ne_true]
            exact inV_str wd ["none", "again", "ahead", "not"]
          rw [ein]
          rw [hbf, Bool.false_or] at hb
          rw [hb]
          have kt := (Keeps.refl [] H').new (o := .tup [V.str "none", V.str "again", V.str "ahead", V.str "not"]) ht
          have mt := (Imm.refl H').new (o := .tup [V.str "none", V.str "again", V.str "ahead", V.str "not"]) ht
          exact iteB (fun hm => add hm _ _ kt mt) (fun hm => skip hm _ _ kt mt)
      · intro fin
        have ew : ∀ z : Str, decide (V.str wd = V.str z) = decide (wd = z) := fun z => by
          by_cases h : wd = z <;> simp [h]
        refine ⟨_, rfl, rfl, _, rfl, ?_⟩
        rw [ew]
        have other : wd ≠ "row" → wd ≠ "first" → decide (wd ∈ [("none" : Str), "again", "ahead", "not"]) = mbe (inL xs) f → ∀ (A : Prop), (if decide (wd = "row") = true then A else False) → True := fun _ _ _ _ _ => trivial
        cases f with
        | row qs =>
          cases el
          refine iteY (by decide +kernel) ⟨_, rfl, D, _, rfl, SqL.of e4, _, rfl, ?_⟩
          rw [all_map_id]
          refine iteB (fun ht => fin _ _ ⟨true, rfl, rfl, ?_⟩) (fun hf => ⟨_, rfl, rfl, _, rfl, iteN (by decide +kernel) (fin _ _ ⟨false, rfl, rfl, ?_⟩)⟩)
          · exact (Bool.true_or _).trans ht.symm
          · rw [Bool.false_or]
            have : decide (("row" : Str) ∈ [("none" : Str), "again", "ahead", "not"]) = false := by decide +kernel
            exact this.trans hf.symm
        | first qs =>
          cases el
          refine iteN (by decide +kernel) ⟨_, rfl, iteF ⟨_, rfl, rfl, _, rfl, iteY (by decide +kernel) ⟨_, rfl, D, _, rfl, SqL.of e4, ?_⟩⟩⟩
          rw [any_map_id]
          refine fin _ _ ⟨_, rfl, rfl, ?_⟩
          have : decide (("first" : Str) ∈ [("none" : Str), "again", "ahead", "not"]) = false := by decide +kernel
          rw [this, Bool.or_false]
          rfl
        | none => cases el; exact iteN (by decide +kernel) ⟨_, rfl, iteF ⟨_, rfl, rfl, _, rfl, iteN (by decide +kernel) (fin _ _ ⟨false, rfl, rfl, (by show _ = true; decide +kernel)⟩)⟩⟩
        | any => cases el; exact iteN (by decide +kernel) ⟨_, rfl, iteF ⟨_, rfl, rfl, _, rfl, iteN (by decide +kernel) (fin _ _ ⟨false, rfl, rfl, (by show _ = false; decide +kernel)⟩)⟩⟩
        | signs z => cases el; exact iteN (by decide +kernel) ⟨_, rfl, iteF ⟨_, rfl, rfl, _, rfl, iteN (by decide +kernel) (fin _ _ ⟨false, rfl, rfl, (by show _ = false; decide +kernel)⟩)⟩⟩
        | again z => cases el; exact iteN (by decide +kernel) ⟨_, rfl, iteF ⟨_, rfl, rfl, _, rfl, iteN (by decide +kernel) (fin _ _ ⟨false, rfl, rfl, (by show _ = true; decide +kernel)⟩)⟩⟩
        | ahead z => cases el; exact iteN (by decide +kernel) ⟨_, rfl, iteF ⟨_, rfl, rfl, _, rfl, iteN (by decide +kernel) (fin _ _ ⟨false, rfl, rfl, (by show _ = true; decide +kernel)⟩)⟩⟩
        | not z => cases el; exact iteN (by decide +kernel) ⟨_, rfl, iteF ⟨_, rfl, rfl, _, rfl, iteN (by decide +kernel) (fin _ _ ⟨false, rfl, rfl, (by show _ = true; decide +kernel)⟩)⟩⟩
    · rintro σ H2 ⟨xs, w4, w5, w6, w7, rfl, k2, m2, fd2, s0, st, scl, sz⟩
      rw [kl, List.take_length] at st
      refine ⟨xs, _, w4, w5, w6, w7, rfl, k2, m2, fd2, ?_⟩
      rcases cl1 with cl1 | cl1
      · left
        intro y g hg hm
        exact s0 y (cl1 y g hg (mbe_mono (fun z hz => decide_eq_true (scl cl1 z (of_decide_eq_true hz))) _ hm))
      · rcases sz with z | z
        · left
          rw [z] at st ⊢
          intro y g hg hm
          exact st y ((RO.dom y).mpr (by rw [hg]; rfl)) g hg hm
        · right; omega
  · rintro σ H1 ⟨xs, v2, v4, v5, v6, v7, rfl, k1, m1, ⟨e1, nd1, sub1⟩, cl1⟩
    rw [kl] at cl1
    have cl : ClG G xs := by
      rcases cl1 with cl1 | cl1
      · exact cl1
      · intro y g hg _
        exact all_in nd1 sub1 cl1 y ((RO.dom y).mpr (by rw [hg]; rfl))
    refine ⟨k1 _ _ hL0 dS, ?_⟩
    have kB := back H1 k1
    have iB := backI H1 m1
    have eB : upd H1 d (.dK (mkD nmK (fun x => .ref (ad x)) ks)) e = some (.dK (mkD nmK (fun _ => .bl true) xs)) := by rw [upd_ne hde.symm]; exact e1
    have dB : upd H1 d (.dK (mkD nmK (fun x => .ref (ad x)) ks)) d = some (.dK (mkD nmK (fun x => .ref (ad x)) ks)) := upd_same
    generalize upd H1 d (.dK (mkD nmK (fun x => .ref (ad x)) ks)) = H2 at kB iB eB dB ⊢
    have iB' := ie.trans iB
    have kBH : Keeps [] H H2 := fun b o hb _ => kB b o (ke.same hb) (fun z => by rw [List.mem_singleton.mp z, he] at hb; cases hb)
    have hks : (mkD nmK (fun x => V.ref (ad x)) ks).map (·.1) = ks.map Sum.inr := by
      unfold mkD
      rw [List.map_map]
      rfl
    refine ⟨_, rfl, d, _, ks, rfl, .inl dB, hks, by omega, fun ys l hperm _ hl => ?_⟩
    have kl2 := kBH.new (o := .lst (ys.map V.str)) hl
    have il2 := iB'.new (o := .lst (ys.map V.str)) hl
    have el2 : upd H2 l (.lst (ys.map V.str)) l = some (.lst (ys.map V.str)) := upd_same
    have eB2 : upd H2 l (.lst (ys.map V.str)) e = some (.dK (mkD nmK (fun _ => .bl true) xs)) := by rw [upd_ne (ne_of_none eB hl)]; exact eB
    have dB2 : upd H2 l (.lst (ys.map V.str)) d = some (.dK (mkD nmK (fun x => .ref (ad x)) ks)) := by rw [upd_ne (ne_of_none dB hl)]; exact dB
    generalize upd H2 l (.lst (ys.map V.str)) = H3 at kl2 il2 el2 eB2 dB2 ⊢
    refine ⟨d, _, dB2, trivial, fun od2 => ?_⟩
    have hM0 : upd H3 d (.frz od2 (.dK (mkD nmK (fun x => .ref (ad x)) ks))) d = some (.frz od2 (.dK (mkD nmK (fun x => .ref (ad x)) ks))) := upd_same
    have hMe : upd H3 d (.frz od2 (.dK (mkD nmK (fun x => .ref (ad x)) ks))) e = some (.dK (mkD nmK (fun _ => .bl true) xs)) := by rw [upd_ne hde.symm]; exact eB2
    have hMl : upd H3 d (.frz od2 (.dK (mkD nmK (fun x => .ref (ad x)) ks))) l = some (.lst (ys.map V.str)) := by
      rw [upd_ne (fun z => by rw [z, dB2] at el2; cases el2)]
      exact el2
    have iM : Imm H3 (upd H3 d (.frz od2 (.dK (mkD nmK (fun x => .ref (ad x)) ks)))) := (Imm.refl _).mut dB2
    have backM : ∀ H', Keeps [] (upd H3 d (.frz od2 (.dK (mkD nmK (fun x => .ref (ad x)) ks)))) H' → Keeps [] H3 (upd H' d (.dK (mkD nmK (fun x => .ref (ad x)) ks))) := fun H' k' => unlockK dB2 k'
    generalize upd H3 d (.frz od2 (.dK (mkD nmK (fun x => .ref (ad x)) ks))) = HM at hM0 hMe hMl iM backM ⊢
    refine ⟨_, rfl, d, od2, rfl, .inl ⟨_, hM0, ?_⟩⟩
    refine for_it walk_keys (fun i σ H' => ∃ (L : List Str) (l' : Addr) (rk : Str → Nat) (v2 v4 v5 v6 v7 : Option V), σ = [some (.ref d), some (.ref e), v2, some (.ref l'), v4, v5, v6, v7, none] ∧ Keeps [] HM H' ∧ Imm HM H' ∧ H' l' = some (.lst (L.map V.str)) ∧ (∀ x ∈ L, x ∈ ks) ∧ L.length ≤ 9 ∧
      (∀ x, x ∉ L → rk x ≤ i ∧ ∀ f, G x = some f → ∀ q ∈ begins (inL xs) f, q ∉ L ∧ rk q < rk x))
      ⟨ys, l, fun _ => 0, v2, v4, v5, v6, v7, rfl, Keeps.refl _ _, Imm.refl _, hMl, fun x hx => hperm.mem_iff.mp hx, by rw [hperm.length_eq]; exact few, fun x hx => ⟨Nat.le_refl _, fun f hf => absurd (hperm.mem_iff.mpr ((RO.dom x).mpr (by rw [hf]; rfl))) hx⟩⟩
      (fun i σ H' _ ⟨_, _, _, _, _, _, _, _, _, k', _⟩ => k'.same hM0) ?_ ?_
    · rintro i x σ H4 H4' hi ⟨L, l', rk, u2, u4, u5, u6, u7, rfl, k4, m4, e4, hL, hLl, hrk⟩ ⟨rfl, kk, vv, _, rfl⟩
      -- whose begins meet what is left
      let meets := fun (x : Str) => ((G x).map fun f => (begins (inL xs) f).any fun q => decide (q ∈ L)).getD false
      refine ⟨_, rfl, _, rfl, ⟨_, SqL.of e4⟩, fun D hD => lc_fun L meets V.str id walk_list (by rw [List.length_map]) (by omega) hD (fun H' k' _ => SqL.of (k'.same e4)) ?_ ?_⟩
      · rintro j y x H5 H5' hy k5 m5 ⟨rfl, hx⟩ R N hR hN
        obtain ⟨q, h1, hm, rfl⟩ := getM hx
        obtain rfl : q = y := Option.some.inj (h1.symm.trans hy)
        have k45 := k4.trans k5
        have m45 := m4.trans m5
        obtain ⟨f, hf1, hfok, hf2⟩ := hadI _ ((il2.trans iM).trans m45) q (hL q hm)
        have em : meets q = (begins (inL xs) f).any fun z => decide (z ∈ L) := by
          show ((G q).map _).getD false = _
          rw [hf1]
          rfl
        have bf := begins_few (inL xs) f
        have pf := parts_few hfok
        refine ⟨rfl, _, rfl, _, rfl, d, _, rfl, .inl ⟨_, .inr q, .inr ⟨od2, k45.same hM0⟩, rfl, (hget q (hL q hm)).symm⟩, _, rfl, ad q, e, f, xs, rfl, hf2, hfok, .inl (k45.same hMe), fun bl H6 hbl k6 e6 m6 => ⟨_, rfl, ⟨_, SqL.of e6⟩, fun D2 hD2 =>
          lc_fun (begins (inL xs) f) (fun _ => true) V.bl (fun z => decide (z ∈ L)) walk_list (by rw [List.length_map]) (by omega) hD2 (fun H' k' _ => SqL.of (k'.same e6)) ?_ ?_⟩⟩
        · rintro t z x H7 H7' hz k7 m7 ⟨rfl, hx⟩ R' N' hR' _
          obtain ⟨z', h1, _, rfl⟩ := getM hx
          obtain rfl : z' = z := Option.some.inj (h1.symm.trans hz)
          refine ⟨rfl, _, rfl, _, rfl, l', _, rfl, .inl (SqL.of (((k5.trans k6).trans k7).same e4)), rfl, flat_strs _, ?_⟩
          rw [if_neg Bool.false_ne_true, inV_str]
          exact hR' rfl _ (Keeps.refl _ _) (Imm.refl _)
        · intro H7 k7 m7 e7
          refine ⟨D2, _, rfl, SqL.of e7, _, rfl, ?_⟩
          rw [filter_all_true, any_map_id, ← em]
          exact iteB (fun hb2 => ⟨_, rfl, hR hb2 _ (k6.trans k7) (m6.trans m7)⟩) (fun hb2 => hN hb2 _ (k6.trans k7) (m6.trans m7))
      · intro H5 k5 m5 e5
        rw [List.map_id] at e5
        have lf := List.length_filter_le meets L
        refine ⟨L.filter meets, D, fun x => if x ∈ L ∧ x ∉ L.filter meets then i + 1 else rk x, _, _, _, _, _, rfl, k4.trans k5, m4.trans m5, e5, fun x hx => hL x (List.mem_filter.mp hx).1, by omega, fun x hx => ?_⟩
        dsimp only
        by_cases hxL : x ∈ L
        · have e1 : (if x ∈ L ∧ x ∉ L.filter meets then i + 1 else rk x) = i + 1 := if_pos ⟨hxL, hx⟩
          rw [e1]
          refine ⟨Nat.le_refl _, fun f hf q hq => ?_⟩
          have hmx : meets x = false := by
            cases e : meets x with
            | false => rfl
            | true => exact absurd (List.mem_filter.mpr ⟨hxL, e⟩) hx
          have hqL : q ∉ L := by
            have e2 : meets x = (begins (inL xs) f).any fun z => decide (z ∈ L) := by
              show ((G x).map _).getD false = _
              rw [hf]
              rfl
            rw [e2] at hmx
            have := List.any_eq_false.mp hmx q hq
            simpa using this
          refine ⟨fun z => hqL (List.mem_filter.mp z).1, ?_⟩
          have e3 : (if q ∈ L ∧ q ∉ L.filter meets then i + 1 else rk q) = rk q := if_neg fun z => hqL z.1
          rw [e3]
          have := (hrk q hqL).1
          omega
        · have e1 : (if x ∈ L ∧ x ∉ L.filter meets then i + 1 else rk x) = rk x := if_neg fun z => hxL z.1
          rw [e1]
          obtain ⟨h1, h2⟩ := hrk x hxL
          refine ⟨by omega, fun f hf q hq => ?_⟩
          obtain ⟨h3, h4⟩ := h2 f hf q hq
          have e3 : (if q ∈ L ∧ q ∉ L.filter meets then i + 1 else rk q) = rk q := if_neg fun z => h3 z.1
          rw [e3]
          exact ⟨fun z => h3 (List.mem_filter.mp z).1, h4⟩
    · rintro σ H4 ⟨L, l', rk, u2, u4, u5, u6, u7, rfl, k4, m4, e4, hL, hLl, hrk⟩
      rw [kl] at hrk
      refine ⟨k4.same hM0, ?_⟩
      have kF := kl2.trans (backM H4 k4)
      have eF : upd H4 d (.dK (mkD nmK (fun x => .ref (ad x)) ks)) l' = some (.lst (L.map V.str)) := by
        rw [upd_ne (fun z => by rw [z, k4.same hM0] at e4; cases e4)]
        exact e4
      generalize upd H4 d (.dK (mkD nmK (fun x => .ref (ad x)) ks)) = H5 at kF eF ⊢
      refine ⟨_, rfl, by decide, fun p hp => ⟨l', _, p, rfl, rfl, .inl (by rw [upd_ne (ne_of_none eF hp)]; exact eF), .inl upd_same, ?_⟩⟩
      refine k _ _ (kF.new hp) fun hne => ?_
      have hLn : L = [] := by
        cases L with
        | nil => rfl
        | cons a b => cases hne
      subst hLn
      exact ⟨inL xs, rk, ⟨fun x => by have := (hrk x (by simp)).1; omega, fun x f hf hm => decide_eq_true (cl x f hf hm), fun x f hf q hq => ((hrk x (by simp)).2 f hf q hq).2⟩⟩
end
end Kr
/-! the work on one reading, and the stack of works: plain -/
namespace Kr
open PySem PySem.Spec PyProof.Rows L2
structure Wk where
  key : Ky
  seen : List Ky
  at_ : Nat
  turn : Nat
  heard : Option Nat
  over : Bool
def Fm.asks : Fm → Bool
  | .none => false
  | .any => false
  | .signs _ => false
  | _ => true
def initW (fo : Option Fm) (k : Ky) : Wk := ⟨k, [], k.2, 0, none, match fo with | none => true | some f => !f.asks⟩
def wantsW (fo : Option Fm) (w : Wk) : Option Ky := if w.over = true then none else match fo with
  | none => none
  | some (.again q) => some (q, w.at_)
  | some f => (f.parts[w.turn]?).map fun q => (q, w.at_)
def hearW (fo : Option Fm) (w : Wk) (k : Ky) (l : Option Nat) : Wk := match fo with
  | some (.first _) => ⟨w.key, addK w.seen k, w.at_, w.turn + 1, l, l.isSome⟩
  | some (.row _) => match l with
    | none => ⟨w.key, addK w.seen k, w.at_, w.turn + 1, l, true⟩
    | some n => ⟨w.key, addK w.seen k, w.at_ + n, w.turn + 1, l, false⟩
  | some (.again _) => match l with
    | none => ⟨w.key, addK w.seen k, w.at_, w.turn + 1, l, true⟩
    | some n => ⟨w.key, addK w.seen k, w.at_ + n, w.turn + 1, l, decide (n = 0)⟩
  | _ => ⟨w.key, addK w.seen k, w.at_, w.turn + 1, l, w.over || l.isNone⟩
def outW (fo : Option Fm) (T : Str) (w : Wk) : Option Nat := match fo with
  | none => none
  | some .none => some 0
  | some .any => if w.key.2 < T.length then some 1 else none
  | some (.signs z) => if signAt T z w.key.2 = true then some 1 else none
  | some (.again _) => some (w.at_ - w.key.2)
  | some (.not _) => if w.heard.isSome = true then none else some 0
  | some (.first _) => w.heard
  | some (.row _) => if w.heard.isSome = true then some (w.at_ - w.key.2) else none
  | some (.ahead _) => if w.heard.isSome = true then some (w.at_ - w.key.2) else none
def hears (fo : Option Fm) (L : Ky → Option Nat) (w : Wk) (ks : List Ky) : Wk := ks.foldl (fun w q => hearW fo w q (L q)) w
theorem hearW_seen (fo : Option Fm) (w : Wk) (k : Ky) (l : Option Nat) : (hearW fo w k l).seen = addK w.seen k := by
  cases fo with
  | none => rfl
  | some f => cases f <;> cases l <;> rfl
theorem hearW_key (fo : Option Fm) (w : Wk) (k : Ky) (l : Option Nat) : (hearW fo w k l).key = w.key := by
  cases fo with
  | none => rfl
  | some f => cases f <;> cases l <;> rfl
theorem hears_key (fo : Option Fm) (L : Ky → Option Nat) : ∀ (ks : List Ky) (w : Wk), (hears fo L w ks).key = w.key
  | [], w => rfl
  | k :: ks, w => by
    show (hears fo L (hearW fo w k (L k)) ks).key = w.key
    rw [hears_key fo L ks, hearW_key]
theorem hears_seen (fo : Option Fm) (L : Ky → Option Nat) : ∀ (ks : List Ky) (w : Wk), (hears fo L w ks).seen = once w.seen ks
  | [], w => rfl
  | k :: ks, w => by
    show (hears fo L (hearW fo w k (L k)) ks).seen = once (addK w.seen k) ks
    rw [hears_seen fo L ks, hearW_seen]
theorem mem_once : ∀ (ks acc : List Ky) (k : Ky), k ∈ once acc ks ↔ k ∈ acc ∨ k ∈ ks
  | [], acc, k => by simp [once]
  | q :: ks, acc, k => by
    show k ∈ once (addK acc q) ks ↔ _
    rw [mem_once ks, mem_addK, List.mem_cons]
    exact ⟨fun h => h.elim (fun z => z.elim .inl fun z => .inr (.inl z)) fun z => .inr (.inr z), fun h => h.elim (fun z => .inl (.inl z)) fun z => z.elim (fun z => .inl (.inr z)) .inr⟩
theorem once_nodup : ∀ (ks acc : List Ky), acc.Nodup → (once acc ks).Nodup
  | [], _, h => h
  | q :: ks, acc, h => once_nodup ks (addK acc q) (addK_nodup h)
/-- from w on, the asks and the outcome are r's -/
structure Fol (fo : Option Fm) (T : Str) (L : Ky → Option Nat) (w : Wk) (r : List Ky × Option Nat) : Prop where
  wants : ∀ i, i ≤ r.1.length → wantsW fo (hears fo L w (r.1.take i)) = r.1[i]?
  out : outW fo T (hears fo L w r.1) = r.2
theorem Fol.nil {fo : Option Fm} {T : Str} {L : Ky → Option Nat} {w : Wk} {o : Option Nat} (h1 : wantsW fo w = none) (h2 : outW fo T w = o) : Fol fo T L w ([], o) :=
  ⟨fun i hi => by
    have : i = 0 := Nat.le_zero.mp hi
    subst this
    exact h1, h2⟩
theorem Fol.cons {fo : Option Fm} {T : Str} {L : Ky → Option Nat} {w : Wk} {k : Ky} {ks : List Ky} {o : Option Nat} (h1 : wantsW fo w = some k) (h2 : Fol fo T L (hearW fo w k (L k)) (ks, o)) : Fol fo T L w (k :: ks, o) :=
  ⟨fun i hi => by
    cases i with
    | zero => exact h1
    | succ i => exact h2.wants i (Nat.le_of_succ_le_succ hi), h2.out⟩
theorem fol_row {T : Str} {L : Ky → Option Nat} {ps : List Str} : ∀ (qs : List Str) (w : Wk), w.over = false → ps.drop w.turn = qs → (qs = [] → w.heard.isSome = true) → w.key.2 ≤ w.at_ → Fol (some (.row ps)) T L w (seqRow L w.key.2 w.at_ qs)
  | [], w, ho, hd, hh, _ => by
    refine Fol.nil ?_ ?_
    · have : ps.length ≤ w.turn := List.drop_eq_nil_iff.mp hd
      unfold wantsW
      rw [ho, if_neg Bool.false_ne_true]
      show (ps[w.turn]?).map _ = none
      rw [List.getElem?_eq_none this]
      rfl
    · show (if w.heard.isSome = true then some (w.at_ - w.key.2) else none) = some (w.at_ - w.key.2)
      rw [if_pos (hh rfl)]
  | q :: qs, w, ho, hd, hh, hle => by
    have hq : ps[w.turn]? = some q := by
      have := congrArg List.head? hd
      rw [List.head?_drop] at this
      exact this
    have hd' : ps.drop (w.turn + 1) = qs := by
      have := congrArg List.tail hd
      rw [List.tail_drop] at this
      exact this
    have hw : wantsW (some (.row ps)) w = some (q, w.at_) := by
      unfold wantsW
      rw [ho, if_neg Bool.false_ne_true]
      show (ps[w.turn]?).map _ = _
      rw [hq]
      rfl
    unfold seqRow
    cases hl : L (q, w.at_) with
    | none =>
      refine Fol.cons hw (Fol.nil ?_ ?_)
      · rw [hl]
        rfl
      · rw [hl]
        rfl
    | some n =>
      refine Fol.cons hw ?_
      rw [hl]
      exact fol_row qs ⟨w.key, addK w.seen (q, w.at_), w.at_ + n, w.turn + 1, some n, false⟩ rfl hd' (fun _ => rfl) (by show w.key.2 ≤ w.at_ + n; omega)
theorem fol_first {T : Str} {L : Ky → Option Nat} {ps : List Str} : ∀ (qs : List Str) (w : Wk), w.over = false → ps.drop w.turn = qs → w.heard = none → w.at_ = w.key.2 → Fol (some (.first ps)) T L w (seqFirst L w.key.2 qs)
  | [], w, ho, hd, hh, ha => by
    refine Fol.nil ?_ hh
    have : ps.length ≤ w.turn := List.drop_eq_nil_iff.mp hd
    unfold wantsW
    rw [ho, if_neg Bool.false_ne_true]
    show (ps[w.turn]?).map _ = none
    rw [List.getElem?_eq_none this]
    rfl
  | q :: qs, w, ho, hd, hh, ha => by
    have hq : ps[w.turn]? = some q := by
      have := congrArg List.head? hd
      rw [List.head?_drop] at this
      exact this
    have hd' : ps.drop (w.turn + 1) = qs := by
      have := congrArg List.tail hd
      rw [List.tail_drop] at this
      exact this
    have hw : wantsW (some (.first ps)) w = some (q, w.key.2) := by
      unfold wantsW
      rw [ho, if_neg Bool.false_ne_true]
      show (ps[w.turn]?).map _ = _
      rw [hq, ha]
      rfl
    unfold seqFirst
    cases hl : L (q, w.key.2) with
    | some n =>
      refine Fol.cons hw (Fol.nil ?_ ?_)
      · rw [hl]
        rfl
      · rw [hl]
        rfl
    | none =>
      refine Fol.cons hw ?_
      rw [hl]
      exact fol_first qs ⟨w.key, addK w.seen (q, w.key.2), w.at_, w.turn + 1, none, false⟩ rfl hd' rfl ha
theorem fol_again {T : Str} {L : Ky → Option Nat} {q : Str} (fit : ∀ a n, a ≤ T.length → L (q, a) = some n → a + n ≤ T.length) : ∀ (f : Nat) (w : Wk), w.over = false → w.at_ ≤ T.length → T.length < f + w.at_ → Fol (some (.again q)) T L w (seqAgain L w.key.2 q f w.at_)
  | 0, w, ho, ha, hf => by omega
  | f + 1, w, ho, ha, hf => by
    have hw : wantsW (some (.again q)) w = some (q, w.at_) := by
      unfold wantsW
      rw [ho, if_neg Bool.false_ne_true]
    unfold seqAgain
    cases hl : L (q, w.at_) with
    | none =>
      refine Fol.cons hw (Fol.nil ?_ ?_)
      · rw [hl]
        rfl
      · rw [hl]
        rfl
    | some n =>
      cases n with
      | zero =>
        refine Fol.cons hw (Fol.nil ?_ ?_)
        · rw [hl]
          rfl
        · rw [hl]
          rfl
      | succ n =>
        refine Fol.cons hw ?_
        rw [hl]
        have := fit w.at_ (n + 1) ha hl
        exact fol_again fit f ⟨w.key, addK w.seen (q, w.at_), w.at_ + (n + 1), w.turn + 1, some (n + 1), false⟩ rfl this (by show T.length < f + (w.at_ + (n + 1)); omega)
theorem fol_init {G : Str → Option Fm} {T : Str} {L : Ky → Option Nat} {k : Ky} (ok : ∀ f, G k.1 = some f → f.ok) (hT : T.length ≤ 40) (hk : k.2 ≤ T.length) (fit : ∀ q a n, a ≤ T.length → L (q, a) = some n → a + n ≤ T.length) :
    Fol (G k.1) T L (initW (G k.1) k) (out G T L k) := by
  unfold out
  cases hG : G k.1 with
  | none => exact Fol.nil rfl rfl
  | some f =>
    cases f with
    | none => exact Fol.nil rfl rfl
    | any => exact Fol.nil rfl rfl
    | signs z => exact Fol.nil rfl rfl
    | row ps =>
      have := ok _ hG
      refine fol_row ps (initW (some (.row ps)) k) rfl rfl (fun e => ?_) (Nat.le_refl _)
      have h1 := this.1
      rw [e] at h1
      simp at h1
    | first ps => exact fol_first ps (initW (some (.first ps)) k) rfl rfl rfl rfl
    | again q => exact fol_again (fit q) 50 (initW (some (.again q)) k) rfl hk (by show T.length < 50 + k.2; omega)
    | ahead q =>
      refine Fol.cons rfl (Fol.nil ?_ ?_)
      · cases hl : L (q, k.2) <;> rfl
      · show (if (L (q, k.2)).isSome = true then some (k.2 - k.2) else none) = _
        rw [Nat.sub_self]
    | not q =>
      refine Fol.cons rfl (Fol.nil ?_ ?_)
      · cases hl : L (q, k.2) <;> rfl
      · rfl
/-! ### the stack -/
section
variable (A : Ky → List Ky)
def stepM : List (Ky × Nat) × List Ky → List (Ky × Nat) × List Ky
  | ([], t) => ([], t)
  | ((k, i) :: S, t) => match (A k)[i]? with
    | none => (S, t ++ [k])
    | some q => if q ∈ t then ((k, i + 1) :: S, t) else ((q, 0) :: (k, i) :: S, t)
theorem stepM_none {A : Ky → List Ky} {k : Ky} {i : Nat} {S : List (Ky × Nat)} {t : List Ky} (h : (A k)[i]? = none) : stepM A ((k, i) :: S, t) = (S, t ++ [k]) := by
  simp only [stepM, h]
theorem stepM_in {A : Ky → List Ky} {k q : Ky} {i : Nat} {S : List (Ky × Nat)} {t : List Ky} (h : (A k)[i]? = some q) (hq : q ∈ t) : stepM A ((k, i) :: S, t) = ((k, i + 1) :: S, t) := by
  simp only [stepM, h]
  rw [if_pos hq]
theorem stepM_out {A : Ky → List Ky} {k q : Ky} {i : Nat} {S : List (Ky × Nat)} {t : List Ky} (h : (A k)[i]? = some q) (hq : q ∉ t) : stepM A ((k, i) :: S, t) = ((q, 0) :: (k, i) :: S, t) := by
  simp only [stepM, h]
  rw [if_neg hq]
def iterM : Nat → List (Ky × Nat) × List Ky → List (Ky × Nat) × List Ky
  | 0, s => s
  | n + 1, s => iterM n (stepM A s)
theorem iterM_add (m n : Nat) : ∀ s, iterM A (m + n) s = iterM A n (iterM A m s) := by
  induction m with
  | zero => intro s; rw [Nat.zero_add]; rfl
  | succ m ih => intro s; rw [Nat.succ_add]; exact ih (stepM A s)
/-- what holds of a stack over a table -/
structure StkOk (V : Ky → Prop) (μ : Ky → Nat) (S : List (Ky × Nat)) (t : List Ky) : Prop where
  nd : t.Nodup
  tv : ∀ k ∈ t, V k
  sv : ∀ p ∈ S, V p.1 ∧ p.2 ≤ (A p.1).length ∧ p.1 ∉ t ∧ ∀ j, j < p.2 → ∀ q, (A p.1)[j]? = some q → q ∈ t
  up : S.Pairwise (fun p r => μ p.1 < μ r.1)
theorem StkOk.step {A : Ky → List Ky} {V : Ky → Prop} {μ : Ky → Nat} (hA : ∀ k, V k → ∀ q ∈ A k, V q ∧ μ q < μ k) {S : List (Ky × Nat)} {t : List Ky} (h : StkOk A V μ S t) : StkOk A V μ (stepM A (S, t)).1 (stepM A (S, t)).2 := by
  cases S with
  | nil => exact h
  | cons p S =>
    obtain ⟨k, i⟩ := p
    obtain ⟨h1, h2, h3, h4⟩ := h.sv (k, i) List.mem_cons_self
    obtain ⟨u1, u2⟩ := List.pairwise_cons.mp h.up
    have hS : ∀ p ∈ S, p ∈ (k, i) :: S := fun p hp => List.mem_cons_of_mem _ hp
    cases hq : (A k)[i]? with
    | none =>
      rw [stepM_none hq]
      refine ⟨?_, fun x hx => ?_, fun p hp => ?_, u2⟩
      · show (t ++ [k]).Nodup
        rw [List.nodup_append]
        exact ⟨h.nd, by simp, fun a ha b hb e => h3 (by rw [← List.mem_singleton.mp hb, ← e]; exact ha)⟩
      · rcases List.mem_append.mp hx with z | z
        · exact h.tv x z
        · rw [List.mem_singleton.mp z]; exact h1
      · obtain ⟨a, b, c, d⟩ := h.sv p (hS p hp)
        refine ⟨a, b, fun z => ?_, fun j hj q hq => List.mem_append.mpr (.inl (d j hj q hq))⟩
        rcases List.mem_append.mp z with z | z
        · exact c z
        · have := u1 p hp
          rw [List.mem_singleton.mp z] at this
          exact Nat.lt_irrefl _ this
    | some q =>
      obtain ⟨v1, v2⟩ := hA k h1 q (List.mem_of_getElem? hq)
      have hi : i < (A k).length := (List.getElem?_eq_some_iff.mp hq).1
      by_cases hin : q ∈ t
      · rw [stepM_in hq hin]
        refine ⟨h.nd, h.tv, fun p hp => ?_, List.pairwise_cons.mpr ⟨u1, u2⟩⟩
        rcases List.mem_cons.mp hp with z | z
        · rw [z]
          refine ⟨h1, hi, h3, fun j hj x hx => ?_⟩
          by_cases e : j = i
          · rw [e] at hx
            change (A k)[i]? = some x at hx
            rw [hq] at hx
            cases hx
            exact hin
          · exact h4 j (by have : j < i + 1 := hj; omega) x hx
        · exact h.sv p (hS p z)
      · have hout := hin
        rw [stepM_out hq hin]
        refine ⟨h.nd, h.tv, fun p hp => ?_, List.pairwise_cons.mpr ⟨fun p hp => ?_, h.up⟩⟩
        · rcases List.mem_cons.mp hp with z | z
          · rw [z]
            exact ⟨v1, Nat.zero_le _, hout, fun j hj => absurd hj (Nat.not_lt_zero _)⟩
          · exact h.sv p z
        · rcases List.mem_cons.mp hp with z | z
          · rw [z]; exact v2
          · exact Nat.lt_trans v2 (u1 p z)
/-- the top of the stack is done within some steps -/
theorem iter_done {A : Ky → List Ky} {V : Ky → Prop} {μ : Ky → Nat} (hA : ∀ k, V k → ∀ q ∈ A k, V q ∧ μ q < μ k) : ∀ (n d : Nat) (k : Ky) (i : Nat) (S : List (Ky × Nat)) (t : List Ky), μ k < n → (A k).length - i = d → StkOk A V μ ((k, i) :: S) t →
    ∃ m new, iterM A m ((k, i) :: S, t) = (S, t ++ new) ∧ k ∈ new := by
  intro n
  induction n with
  | zero => intro d k i S t h; omega
  | succ n ihn =>
    intro d
    induction d with
    | zero =>
      intro k i S t hμ hd h
      obtain ⟨h1, h2, h3, h4⟩ := h.sv (k, i) List.mem_cons_self
      have h2' : i ≤ (A k).length := h2
      refine ⟨1, [k], ?_, by simp⟩
      show stepM A ((k, i) :: S, t) = _
      exact stepM_none (List.getElem?_eq_none (by omega))
    | succ d ihd =>
      intro k i S t hμ hd h
      obtain ⟨h1, h2, h3, h4⟩ := h.sv (k, i) List.mem_cons_self
      have hi : i < (A k).length := by omega
      have hq : (A k)[i]? = some ((A k)[i]'hi) := List.getElem?_eq_getElem hi
      obtain ⟨v1, v2⟩ := hA k h1 _ (List.mem_of_getElem? hq)
      have st := h.step hA
      -- when the ask is in the table
      have inn : ∀ t', (A k)[i]'hi ∈ t' → StkOk A V μ ((k, i) :: S) t' → ∃ m new, iterM A m ((k, i) :: S, t') = (S, t' ++ new) ∧ k ∈ new := by
        intro t' hin h'
        have st' := h'.step hA
        have e1 : stepM A ((k, i) :: S, t') = ((k, i + 1) :: S, t') := stepM_in hq hin
        rw [e1] at st'
        obtain ⟨m, new, e2, hk⟩ := ihd k (i + 1) S t' hμ (by omega) st'
        exact ⟨m + 1, new, by show iterM A m (stepM A ((k, i) :: S, t')) = _; rw [e1, e2], hk⟩
      by_cases hin : (A k)[i]'hi ∈ t
      · exact inn t hin h
      · have e1 : stepM A ((k, i) :: S, t) = (((A k)[i]'hi, 0) :: (k, i) :: S, t) := stepM_out hq hin
        rw [e1] at st
        obtain ⟨m, new, e2, hk⟩ := ihn _ ((A k)[i]'hi) 0 ((k, i) :: S) t (by omega) rfl st
        have stm : ∀ m s, StkOk A V μ s.1 s.2 → StkOk A V μ (iterM A m s).1 (iterM A m s).2 := by
          intro m
          induction m with
          | zero => intro s hs; exact hs
          | succ m ih => intro s hs; exact ih _ (hs.step hA)
        have st2 := stm m (((A k)[i]'hi, 0) :: (k, i) :: S, t) st
        rw [e2] at st2
        obtain ⟨m2, new2, e3, hk2⟩ := inn (t ++ new) (List.mem_append.mpr (.inr hk)) st2
        refine ⟨m + m2 + 1, new ++ new2, ?_, List.mem_append.mpr (.inr hk2)⟩
        show iterM A (m + m2) (stepM A ((k, i) :: S, t)) = _
        rw [e1, iterM_add, e2, e3, List.append_assoc]
end
end Kr
namespace Kr
open PySem PySem.Spec PyProof.Rows L2
section
variable {P : Program} {w : World} {K : PySem.W.Frag} {mg : Str → Option Value} {base : Heap} {k : Nat}
def fldsW (fv : V) (sd : Addr) (w : Wk) : List (Str × V) := [("label", .str w.key.1), ("place", .int (w.key.2 : Nat)), ("form", fv), ("seen", .ref sd), ("at", .int (w.at_ : Nat)), ("turn", .int (w.turn : Nat)), ("heard", lenV w.heard), ("over", .bl w.over)]
def FormV (H : Hp) (fv : V) : Option Fm → Prop
  | none => fv = .non
  | some f => ∃ fa, fv = .ref fa ∧ FormAt H fa f
theorem FormV.imm {H H' : Hp} {fv : V} {fo : Option Fm} (h : FormV H fv fo) (i : Imm H H') : FormV H' fv fo := by
  cases fo with
  | none => exact h
  | some f =>
    obtain ⟨fa, a, b⟩ := h
    exact ⟨fa, a, b.imm i⟩
def WorkAt (K : PySem.W.Frag) (H : Hp) (wa sd : Addr) (fo : Option Fm) (w : Wk) : Prop :=
  ∃ dx fv, H wa = some (.ins (He.ga K "Work") dx (fldsW fv sd w)) ∧ H sd = some (.dT (mkD kyK (fun _ => .bl true) w.seen)) ∧ FormV H fv fo
theorem WorkAt.kp {S : List Addr} {H H' : Hp} {wa sd : Addr} {fo : Option Fm} {w : Wk} (h : WorkAt K H wa sd fo w) (k : Keeps S H H') (h1 : wa ∉ S) (h2 : sd ∉ S) (i : Imm H H') : WorkAt K H' wa sd fo w :=
  let ⟨dx, fv, a, b, c⟩ := h
  ⟨dx, fv, k _ _ a h1, k _ _ b h2, c.imm i⟩
theorem putF_set (f : Str) (v : V) : ∀ (a b : List (Str × V)) (o : V), (∀ p ∈ a, p.1 ≠ f) → putF f v (a ++ (f, o) :: b) = a ++ (f, v) :: b
  | [], b, o, _ => by
    show (if f = f then (f, v) :: b else _) = _
    rw [if_pos rfl]
    rfl
  | p :: a, b, o, h => by
    obtain ⟨g, x⟩ := p
    show (if g = f then (g, v) :: (a ++ (f, o) :: b) else (g, x) :: putF f v (a ++ (f, o) :: b)) = _
    rw [if_neg (h (g, x) List.mem_cons_self), putF_set f v a b o fun p hp => h p (List.mem_cons_of_mem _ hp)]
    rfl
theorem putF_add (f : Str) (v : V) : ∀ (a : List (Str × V)), (∀ p ∈ a, p.1 ≠ f) → putF f v a = a ++ [(f, v)]
  | [], _ => rfl
  | p :: a, h => by
    obtain ⟨g, x⟩ := p
    show (if g = f then (g, v) :: a else (g, x) :: putF f v a) = _
    rw [if_neg (h (g, x) List.mem_cons_self), putF_add f v a fun p hp => h p (List.mem_cons_of_mem _ hp)]
    rfl
theorem putF_add' (f : Str) (v : V) (a : List (Str × V)) {ns : List Str} (hn : a.map (·.1) = ns) (h : f ∉ ns) : putF f v a = a ++ [(f, v)] :=
  putF_add f v a fun p hp e => h (by rw [← hn, ← e]; exact List.mem_map.mpr ⟨p, hp, rfl⟩)
theorem stepF {H0 H : Hp} {x C dx : Addr} {fs fs' : List (Str × V)} {S : List Addr} (m : Imm H0 H) (k : Keeps S H0 H) (h : H x = some (.ins C dx fs)) (hx : x ∈ S := by simp) : Imm H0 (upd H x (.ins C dx fs')) ∧ Keeps S H0 (upd H x (.ins C dx fs')) ∧ upd H x (.ins C dx fs') x = some (.ins C dx fs') :=
  ⟨m.mut h, k.mem hx, upd_same⟩
/-- its __init__ -/
def spWorkInit (K : PySem.W.Frag) : Sp := fun vs H Q _ => ∃ (x dx : Addr) (kk : Ky) (fv : V) (fo : Option Fm), vs = [.ref x, .str kk.1, .int (kk.2 : Nat), fv] ∧ H x = some (.ins (He.ga K "Work") dx []) ∧ FormV H fv fo ∧
  ∀ sd H', H sd = none → Keeps [x] H H' → WorkAt K H' x sd fo (initW fo kk) → Q .non H'
theorem ok_Work_init (T : Tp K mg) : CallsN P w K mg base (k + 1) "Work" (He.ga K "Work") ["self", "name", "place", "form"] (spWorkInit K) := by
  have sc : FnScope ["self", "name", "place", "form"] ["self", "name", "place", "form"] d_Work_init.scope := ⟨rfl, rfl, rfl, by decide +kernel, rfl, by decide +kernel, by decide +kernel⟩
  refine mkInit T in_Work_init rfl mm_Work mg_Work rfl rfl sc (fun _ _ _ _ _ _ us hl => match us, hl with | [_, _, _, _], _ => rfl) (fun vs H Q E h => ?_) (fun f cdv A outer s H vs Q E hr h => ?_)
  · obtain ⟨x, dx, kk, fv, fo, rfl, _⟩ := h
    rfl
  obtain ⟨x, dx, kk, fv, fo, rfl, hx, hf, k⟩ := h
  refine ⟨_, (pss_cons (ps_fld (pv 0) (pv 1) rfl)
      (pss_cons (ps_fld (pv 0) (pv 2) rfl)
      (pss_cons (ps_fld (pv 0) (pv 3) rfl)
      (pss_cons (ps_fld (pv 0) pe_dnewT rfl)
      (pss_cons (ps_fld (pv 0) (pv 2) rfl)
      (pss_cons (ps_fld (pv 0) pe_int rfl)
      (pss_cons (ps_fld (pv 0) pe_non rfl)
      (pss_one (ps_fld (pv 0) (pe_or (pe_cmpR op_isN (pv 3) pe_non (nomark _)) (pe_one (pe_cmpR op_in_seq (pe_ix ix_tup (pv 3) pe_int (fun _ _ => rfl)) (pe_tup (pa_cons pe_str (pa_cons pe_str (pa_cons pe_str pa_nil)))) (by rfl)))) rfl))))))))), ?_⟩
  have C := T.cls mk_Work
  refine ⟨_, rfl, _, rfl, x, _, dx, _, rfl, hx, C, T.noat mn_Work_label, show 0 < 1000 by decide, ?_⟩
  have m0 := Imm.refl H
  have k0 := Keeps.refl [x] H
  rw [putF_add' _ _ _ (ns := []) rfl (by decide +kernel)]
  obtain ⟨m1, k1, h1⟩ := stepF (fs' := ([("label", V.str kk.1)] : List (Str × V))) m0 k0 hx
  show tSeq _ _ _ _ (upd H x (.ins (He.ga K "Work") dx ([("label", V.str kk.1)] : List (Str × V))))
  generalize upd H x (.ins (He.ga K "Work") dx ([("label", V.str kk.1)] : List (Str × V))) = H1 at m1 k1 h1 ⊢
  refine ⟨_, rfl, _, rfl, x, _, dx, _, rfl, h1, C, T.noat mn_Work_place, show 1 < 1000 by decide, ?_⟩
  rw [putF_add' _ _ _ (ns := [("label" : Str)]) rfl (by decide +kernel)]
  obtain ⟨m2, k2, h2⟩ := stepF (fs' := ([("label", V.str kk.1), ("place", V.int (kk.2 : Nat))] : List (Str × V))) m1 k1 h1
  show tSeq _ _ _ _ (upd H1 x (.ins (He.ga K "Work") dx ([("label", V.str kk.1), ("place", V.int (kk.2 : Nat))] : List (Str × V))))
  generalize upd H1 x (.ins (He.ga K "Work") dx ([("label", V.str kk.1), ("place", V.int (kk.2 : Nat))] : List (Str × V))) = H2 at m2 k2 h2 ⊢
  refine ⟨_, rfl, _, rfl, x, _, dx, _, rfl, h2, C, T.noat mn_Work_form, show 2 < 1000 by decide, ?_⟩
  rw [putF_add' _ _ _ (ns := [("label" : Str), ("place" : Str)]) rfl (by decide +kernel)]
  obtain ⟨m3, k3, h3⟩ := stepF (fs' := ([("label", V.str kk.1), ("place", V.int (kk.2 : Nat)), ("form", fv)] : List (Str × V))) m2 k2 h2
  show tSeq _ _ _ _ (upd H2 x (.ins (He.ga K "Work") dx ([("label", V.str kk.1), ("place", V.int (kk.2 : Nat)), ("form", fv)] : List (Str × V))))
  generalize upd H2 x (.ins (He.ga K "Work") dx ([("label", V.str kk.1), ("place", V.int (kk.2 : Nat)), ("form", fv)] : List (Str × V))) = H3 at m3 k3 h3 ⊢
  intro sd hsd
  have hsx : x ≠ sd := ne_of_none h3 hsd
  have m3' := m3.new (o := .dT []) hsd
  have k3' := k3.new (o := .dT []) hsd
  have hsdH : H sd = none := k3.free hsd (fun z => hsx (List.mem_singleton.mp z).symm)
  have h3' : upd H3 sd (.dT []) x = some (.ins (He.ga K "Work") dx ([("label", V.str kk.1), ("place", V.int (kk.2 : Nat)), ("form", fv)] : List (Str × V))) := by rw [upd_ne hsx]; exact h3
  have s3 : upd H3 sd (.dT []) sd = some (.dT []) := upd_same
  generalize upd H3 sd (.dT []) = H3a at m3' k3' h3' s3 ⊢
  refine ⟨_, rfl, x, _, dx, _, rfl, h3', C, T.noat mn_Work_seen, show 3 < 1000 by decide, ?_⟩
  rw [putF_add' _ _ _ (ns := [("label" : Str), ("place" : Str), ("form" : Str)]) rfl (by decide +kernel)]
  obtain ⟨m4, k4, h4⟩ := stepF (fs' := ([("label", V.str kk.1), ("place", V.int (kk.2 : Nat)), ("form", fv), ("seen", V.ref sd)] : List (Str × V))) m3' k3' h3'
  have s4 : upd H3a x (.ins (He.ga K "Work") dx ([("label", V.str kk.1), ("place", V.int (kk.2 : Nat)), ("form", fv), ("seen", V.ref sd)] : List (Str × V))) sd = some (.dT []) := by rw [upd_ne hsx.symm]; exact s3
  show tSeq _ _ _ _ (upd H3a x (.ins (He.ga K "Work") dx ([("label", V.str kk.1), ("place", V.int (kk.2 : Nat)), ("form", fv), ("seen", V.ref sd)] : List (Str × V))))
  generalize upd H3a x (.ins (He.ga K "Work") dx ([("label", V.str kk.1), ("place", V.int (kk.2 : Nat)), ("form", fv), ("seen", V.ref sd)] : List (Str × V))) = H4 at m4 k4 h4 s4 ⊢
  refine ⟨_, rfl, _, rfl, x, _, dx, _, rfl, h4, C, T.noat mn_Work_at, show 4 < 1000 by decide, ?_⟩
  rw [putF_add' _ _ _ (ns := [("label" : Str), ("place" : Str), ("form" : Str), ("seen" : Str)]) rfl (by decide +kernel)]
  obtain ⟨m5, k5, h5⟩ := stepF (fs' := ([("label", V.str kk.1), ("place", V.int (kk.2 : Nat)), ("form", fv), ("seen", V.ref sd), ("at", V.int (kk.2 : Nat))] : List (Str × V))) m4 k4 h4
  have s5 : upd H4 x (.ins (He.ga K "Work") dx ([("label", V.str kk.1), ("place", V.int (kk.2 : Nat)), ("form", fv), ("seen", V.ref sd), ("at", V.int (kk.2 : Nat))] : List (Str × V))) sd = some (.dT []) := by rw [upd_ne hsx.symm]; exact s4
  show tSeq _ _ _ _ (upd H4 x (.ins (He.ga K "Work") dx ([("label", V.str kk.1), ("place", V.int (kk.2 : Nat)), ("form", fv), ("seen", V.ref sd), ("at", V.int (kk.2 : Nat))] : List (Str × V))))
  generalize upd H4 x (.ins (He.ga K "Work") dx ([("label", V.str kk.1), ("place", V.int (kk.2 : Nat)), ("form", fv), ("seen", V.ref sd), ("at", V.int (kk.2 : Nat))] : List (Str × V))) = H5 at m5 k5 h5 s5 ⊢
  refine ⟨_, rfl, x, _, dx, _, rfl, h5, C, T.noat mn_Work_turn, show 5 < 1000 by decide, ?_⟩
  rw [putF_add' _ _ _ (ns := [("label" : Str), ("place" : Str), ("form" : Str), ("seen" : Str), ("at" : Str)]) rfl (by decide +kernel)]
  obtain ⟨m6, k6, h6⟩ := stepF (fs' := ([("label", V.str kk.1), ("place", V.int (kk.2 : Nat)), ("form", fv), ("seen", V.ref sd), ("at", V.int (kk.2 : Nat)), ("turn", V.int 0)] : List (Str × V))) m5 k5 h5
  have s6 : upd H5 x (.ins (He.ga K "Work") dx ([("label", V.str kk.1), ("place", V.int (kk.2 : Nat)), ("form", fv), ("seen", V.ref sd), ("at", V.int (kk.2 : Nat)), ("turn", V.int 0)] : List (Str × V))) sd = some (.dT []) := by rw [upd_ne hsx.symm]; exact s5
  show tSeq _ _ _ _ (upd H5 x (.ins (He.ga K "Work") dx ([("label", V.str kk.1), ("place", V.int (kk.2 : Nat)), ("form", fv), ("seen", V.ref sd), ("at", V.int (kk.2 : Nat)), ("turn", V.int 0)] : List (Str × V))))
  generalize upd H5 x (.ins (He.ga K "Work") dx ([("label", V.str kk.1), ("place", V.int (kk.2 : Nat)), ("form", fv), ("seen", V.ref sd), ("at", V.int (kk.2 : Nat)), ("turn", V.int 0)] : List (Str × V))) = H6 at m6 k6 h6 s6 ⊢
  refine ⟨_, rfl, x, _, dx, _, rfl, h6, C, T.noat mn_Work_heard, show 6 < 1000 by decide, ?_⟩
  rw [putF_add' _ _ _ (ns := [("label" : Str), ("place" : Str), ("form" : Str), ("seen" : Str), ("at" : Str), ("turn" : Str)]) rfl (by decide +kernel)]
  obtain ⟨m7, k7, h7⟩ := stepF (fs' := ([("label", V.str kk.1), ("place", V.int (kk.2 : Nat)), ("form", fv), ("seen", V.ref sd), ("at", V.int (kk.2 : Nat)), ("turn", V.int 0), ("heard", V.non)] : List (Str × V))) m6 k6 h6
  have s7 : upd H6 x (.ins (He.ga K "Work") dx ([("label", V.str kk.1), ("place", V.int (kk.2 : Nat)), ("form", fv), ("seen", V.ref sd), ("at", V.int (kk.2 : Nat)), ("turn", V.int 0), ("heard", V.non)] : List (Str × V))) sd = some (.dT []) := by rw [upd_ne hsx.symm]; exact s6
  rw [show ([("label", V.str kk.1), ("place", V.int (kk.2 : Nat)), ("form", fv), ("seen", V.ref sd), ("at", V.int (kk.2 : Nat)), ("turn", V.int 0)] : List (Str × V)) ++ [(("heard" : Str), V.non)] = ([("label", V.str kk.1), ("place", V.int (kk.2 : Nat)), ("form", fv), ("seen", V.ref sd), ("at", V.int (kk.2 : Nat)), ("turn", V.int 0), ("heard", V.non)] : List (Str × V)) from rfl]
  generalize upd H6 x (.ins (He.ga K "Work") dx ([("label", V.str kk.1), ("place", V.int (kk.2 : Nat)), ("form", fv), ("seen", V.ref sd), ("at", V.int (kk.2 : Nat)), ("turn", V.int 0), ("heard", V.non)] : List (Str × V))) = H7 at m7 k7 h7 s7 ⊢
  have fin : ∀ (b : Bool) H', b = (initW fo kk).over → Keeps [] H7 H' → Imm H7 H' → ∃ a C dx fs, V.ref x = .ref a ∧ H' a = some (.ins C dx fs) ∧ Cls K C ∧ NoAttr K C "over" ∧ fs.length < 1000 ∧ Q .non (upd H' a (.ins C dx (putF "over" (.bl b) fs))) := by
    intro b H' hb k' m'
    have h7' := k'.same h7
    refine ⟨x, _, dx, _, rfl, h7', C, T.noat mn_Work_over, show 7 < 1000 by decide, ?_⟩
    rw [putF_add' _ _ _ (ns := [("label" : Str), ("place" : Str), ("form" : Str), ("seen" : Str), ("at" : Str), ("turn" : Str), ("heard" : Str)]) rfl (by decide +kernel)]
    obtain ⟨m8, k8, h8⟩ := stepF (fs' := ([("label", V.str kk.1), ("place", V.int (kk.2 : Nat)), ("form", fv), ("seen", V.ref sd), ("at", V.int (kk.2 : Nat)), ("turn", V.int 0), ("heard", V.non), ("over", V.bl b)] : List (Str × V))) (m7.trans m') (k7.trans k'.nil) h7'
    refine k sd _ hsdH k8 ⟨dx, fv, ?_, ?_, hf.imm m8⟩
    · refine h8.trans ?_
      unfold fldsW
      rw [hb]
      rfl
    · refine Eq.trans (upd_ne hsx.symm) (k'.same s7)
  cases fo with
  | none =>
    obtain rfl := hf
    exact ⟨_, rfl, rfl, _, rfl, iteT ⟨_, rfl, fin true H7 rfl (Keeps.refl _ _) (Imm.refl _)⟩⟩
  | some g =>
    obtain ⟨fa, rfl, hfa⟩ := hf
    obtain ⟨wd, ps, el⟩ : ∃ wd ps, g.l = wd :: ps := by cases g <;> exact ⟨_, _, rfl⟩
    have hq : SqT K H7 fa ((wd :: ps).map V.str) := by rw [← el]; exact sqt_of (hfa.imm m7)
    refine ⟨_, rfl, rfl, _, rfl, iteF ⟨_, rfl, _, _, _, _, rfl, rfl, hq, at_0 rfl, by decide, fun t ht => ⟨_, _, rfl, .inr (sqt_of upd_same), rfl, rfl, ?_⟩⟩⟩
    refine ⟨_, rfl, fin _ _ ?_ ((Keeps.refl [] _).new ht) ((Imm.refl _).new ht)⟩
    rw [if_neg Bool.false_ne_true]
    refine (inV_str wd ["none", "any", "signs"]).trans ?_
    show _ = !g.asks
    cases g <;> cases el <;> first | (show _ = true; decide +kernel) | (show _ = false; decide +kernel)
end
end Kr
namespace Kr
open PySem PySem.Spec PyProof.Rows L2
section
variable {P : Program} {w : World} {K : PySem.W.Frag} {mg : Str → Option Value} {base : Heap} {k : Nat}
theorem putF_set' (f : Str) (v : V) (a b : List (Str × V)) (o : V) {ns : List Str} (hn : a.map (·.1) = ns) (h : f ∉ ns) : putF f v (a ++ (f, o) :: b) = a ++ (f, v) :: b :=
  putF_set f v a b o fun p hp e => h (by rw [← hn, ← e]; exact List.mem_map.mpr ⟨p, hp, rfl⟩)
theorem putW_at (fv : V) (sd : Addr) (w : Wk) (n : Nat) : putF "at" (.int (n : Nat)) (fldsW fv sd w) = fldsW fv sd ⟨w.key, w.seen, n, w.turn, w.heard, w.over⟩ :=
  putF_set' "at" _ [("label", .str w.key.1), ("place", .int (w.key.2 : Nat)), ("form", fv), ("seen", .ref sd)] _ _ (ns := ["label", "place", "form", "seen"]) rfl (by decide +kernel)
theorem putW_turn (fv : V) (sd : Addr) (w : Wk) (n : Nat) : putF "turn" (.int (n : Nat)) (fldsW fv sd w) = fldsW fv sd ⟨w.key, w.seen, w.at_, n, w.heard, w.over⟩ :=
  putF_set' "turn" _ [("label", .str w.key.1), ("place", .int (w.key.2 : Nat)), ("form", fv), ("seen", .ref sd), ("at", .int (w.at_ : Nat))] _ _ (ns := ["label", "place", "form", "seen", "at"]) rfl (by decide +kernel)
theorem putW_heard (fv : V) (sd : Addr) (w : Wk) (l : Option Nat) : putF "heard" (lenV l) (fldsW fv sd w) = fldsW fv sd ⟨w.key, w.seen, w.at_, w.turn, l, w.over⟩ :=
  putF_set' "heard" _ [("label", .str w.key.1), ("place", .int (w.key.2 : Nat)), ("form", fv), ("seen", .ref sd), ("at", .int (w.at_ : Nat)), ("turn", .int (w.turn : Nat))] _ _ (ns := ["label", "place", "form", "seen", "at", "turn"]) rfl (by decide +kernel)
theorem putW_over (fv : V) (sd : Addr) (w : Wk) (b : Bool) : putF "over" (.bl b) (fldsW fv sd w) = fldsW fv sd ⟨w.key, w.seen, w.at_, w.turn, w.heard, b⟩ :=
  putF_set' "over" _ [("label", .str w.key.1), ("place", .int (w.key.2 : Nat)), ("form", fv), ("seen", .ref sd), ("at", .int (w.at_ : Nat)), ("turn", .int (w.turn : Nat)), ("heard", lenV w.heard)] _ _ (ns := ["label", "place", "form", "seen", "at", "turn", "heard"]) rfl (by decide +kernel)
def spWants (K : PySem.W.Frag) : Sp := fun vs H Q _ => ∃ (wa sd : Addr) (fo : Option Fm) (w : Wk), vs = [.ref wa] ∧ WorkAt K H wa sd fo w ∧ (w.over = false → ∃ f, fo = some f ∧ f.ok ∧ f.asks = true ∧ ((∃ q, f = .again q) ∨ w.turn ≤ f.parts.length)) ∧
  (wantsW fo w = none → ∀ H', Keeps [] H H' → Q .non H') ∧ ∀ q, wantsW fo w = some q → ∀ a H', Keeps [] H H' → KeyAt H' a q → Q (.ref a) H'
theorem ok_Work_wants (T : Tp K mg) : CallsM P w K mg base (k + 1) (He.ga K "Work") "wants" ["self"] (spWants K) := by
  have sc : FnScope ["self"] ["self"] d_Work_wants.scope := ⟨rfl, rfl, rfl, by decide +kernel, rfl, by decide +kernel, by decide +kernel⟩
  refine mkMeth T in_Work_wants rfl mt_Work_wants rfl rfl sc (fun _ _ _ _ _ _ us hl => match us, hl with | [_], _ => rfl) (fun vs H Q E h => ?_) (fun f cdv A outer s H vs Q E hr h => ?_)
  · obtain ⟨x, dx, kk, fv, rfl, _⟩ := h
    rfl
  obtain ⟨wa, sd, fo, w, rfl, ⟨dx, fv, hw, hs, hf⟩, hover, k1, k2⟩ := h
  refine ⟨_, (pss_cons (ps_if (pt_val (pe_fld (pv 0) rfl)) (pss_one (ps_ret pe_non)) pss_nil)
      (pss_cons (ps_if (pt_cmpR op_eq (pe_ix ix_tup (pe_fld (pv 0) rfl) pe_int (fun _ _ => rfl)) pe_str (nomark _)) (pss_one (ps_ret (pe_tup (pa_cons (pe_ix ix_tup (pe_fld (pv 0) rfl) pe_int (fun _ _ => rfl)) (pa_cons (pe_fld (pv 0) rfl) pa_nil))))) pss_nil)
      (pss_cons (ps_if (pt_cmpR op_eq (pe_op op_add (pe_fld (pv 0) rfl) pe_int) (pe_callB call_len_seq (by rfl) (T.fre _ mf_len) bt_len (pa_cons (pe_fld (pv 0) rfl) pa_nil)) (nomark _)) (pss_one (ps_ret pe_non)) pss_nil)
      (pss_one (ps_ret (pe_tup (pa_cons (pe_ix ix_tup (pe_fld (pv 0) rfl) (pe_op op_add pe_int (pe_fld (pv 0) rfl)) (fun _ _ => rfl)) (pa_cons (pe_fld (pv 0) rfl) pa_nil)))))))), ?_⟩
  have C := T.cls mk_Work
  refine ⟨_, rfl, wa, _, dx, _, _, rfl, hw, C, T.noat mn_Work_over, rfl, _, rfl, iteB (fun ho => ?_) (fun ho => ?_)⟩
  · refine k1 ?_ _ (Keeps.refl _ _)
    unfold wantsW
    rw [if_pos ho]
  obtain ⟨f, rfl, fok, fas, hturn⟩ := hover ho
  obtain ⟨fa, rfl, hfa⟩ := hf
  obtain ⟨wd, ps, el⟩ : ∃ wd ps, f.l = wd :: ps := by cases f <;> exact ⟨_, _, rfl⟩
  have hq : SqT K H fa ((wd :: ps).map V.str) := by rw [← el]; exact sqt_of hfa
  refine ⟨_, rfl, wa, _, dx, _, _, rfl, hw, C, T.noat mn_Work_form, rfl, _, _, _, _, rfl, rfl, hq, at_0 rfl, rfl, _, rfl, ?_⟩
  have rest : (∀ q, f ≠ .again q) → f.parts = ps → wantsW (some f) w = (ps[w.turn]?).map (fun q => (q, w.at_)) → w.turn ≤ ps.length →
      tSeq (tIfS (tTest (tOp rEq (tOp (rI0 fun i j => V.int (i + j)) (tFld K (tVar 0) "turn") (tC (V.int 1))) (tCB (rLenS K) (tCons (tFld K (tVar 0) "form") tNil)))) (tRet (tC V.non)) tNext) (tRet (tTup (tCons (tOp (rIxT K) (tFld K (tVar 0) "form") (tOp (rI0 fun i j => V.int (i + j)) (tC (V.int 1)) (tFld K (tVar 0) "turn"))) (tCons (tFld K (tVar 0) "at") tNil)))) { nx := fun _ H' => Q .non H', rt := Q } (L2.start ["self"] [V.ref wa]) H := by
    intro _ hp hwt hle
    refine ⟨_, rfl, wa, _, dx, _, _, rfl, hw, C, T.noat mn_Work_turn, rfl, _, _, rfl, rfl, _, rfl, wa, _, dx, _, _, rfl, hw, C, T.noat mn_Work_form, rfl, fa, _, rfl, .inr hq, rfl, _, rfl, iteB (fun he => ?_) (fun he => ?_)⟩
    · have he' : V.int ((w.turn : Nat) + 1) = V.int ((((wd :: ps).map V.str).length : Nat) : Int) := of_decide_eq_true he
      rw [List.length_map, List.length_cons] at he'
      injection he' with he'
      refine k1 ?_ _ (Keeps.refl _ _)
      rw [hwt, List.getElem?_eq_none (by omega)]
      rfl
    · have he' : ¬ V.int ((w.turn : Nat) + 1) = V.int ((((wd :: ps).map V.str).length : Nat) : Int) := of_decide_eq_false he
      rw [List.length_map, List.length_cons] at he'
      have hlt : w.turn < ps.length := by
        have : ¬ ((w.turn : Nat) : Int) + 1 = ((ps.length + 1 : Nat) : Int) := fun e => he' (by rw [e])
        omega
      have hg : ps[w.turn]? = some (ps[w.turn]'hlt) := List.getElem?_eq_getElem hlt
      have hat := atI_nat (xs := (wd :: ps).map V.str) (j := w.turn + 1) (v := V.str (ps[w.turn]'hlt)) (by rw [List.map_cons, List.getElem?_cons_succ, List.getElem?_map, hg]; rfl)
      rw [show ((w.turn + 1 : Nat) : Int) = 1 + (w.turn : Int) by omega] at hat
      refine ⟨_, rfl, wa, _, dx, _, _, rfl, hw, C, T.noat mn_Work_form, rfl, _, rfl, wa, _, dx, _, _, rfl, hw, C, T.noat mn_Work_turn, rfl, _, _, rfl, rfl, fa, _, _, _, rfl, rfl, hq, hat, _, rfl, wa, _, dx, _, _, rfl, hw, C, T.noat mn_Work_at, rfl, show 2 ≤ sizeLine by decide, fun t ht => ?_⟩
      exact k2 (ps[w.turn]'hlt, w.at_) (by rw [hwt, hg]; rfl) t _ ((Keeps.refl _ _).new ht) upd_same
  have wn : ∀ g : Fm, (∀ q, g ≠ .again q) → wantsW (some g) w = (g.parts[w.turn]?).map fun q => (q, w.at_) := fun g hg => by
    unfold wantsW
    rw [ho, if_neg Bool.false_ne_true]
    cases g with
    | again q => exact absurd rfl (hg q)
    | _ => rfl
  cases f with
  | none => cases fas
  | any => cases fas
  | signs z => cases fas
  | again q =>
    cases el
    refine iteY (by decide +kernel) ⟨_, rfl, wa, _, dx, _, _, rfl, hw, C, T.noat mn_Work_form, rfl, fa, _, _, _, rfl, rfl, hq, at_1 rfl, _, rfl, wa, _, dx, _, _, rfl, hw, C, T.noat mn_Work_at, rfl, show 2 ≤ sizeLine by decide, fun t ht => ?_⟩
    refine k2 (q, w.at_) ?_ t _ ((Keeps.refl _ _).new ht) upd_same
    unfold wantsW
    rw [ho, if_neg Bool.false_ne_true]
  | row qs =>
    cases el
    refine iteN (by decide +kernel) (rest (fun q e => by cases e) rfl (wn _ (fun q e => by cases e)) ?_)
    rcases hturn with ⟨q, e⟩ | e
    · cases e
    · exact e
  | first qs =>
    cases el
    refine iteN (by decide +kernel) (rest (fun q e => by cases e) rfl (wn _ (fun q e => by cases e)) ?_)
    rcases hturn with ⟨q, e⟩ | e
    · cases e
    · exact e
  | ahead q =>
    cases el
    refine iteN (by decide +kernel) (rest (fun q e => by cases e) rfl (wn _ (fun q e => by cases e)) ?_)
    rcases hturn with ⟨q, e⟩ | e
    · cases e
    · exact e
  | not q =>
    cases el
    refine iteN (by decide +kernel) (rest (fun q e => by cases e) rfl (wn _ (fun q e => by cases e)) ?_)
    rcases hturn with ⟨q, e⟩ | e
    · cases e
    · exact e
def spHear (K : PySem.W.Frag) : Sp := fun vs H Q _ => ∃ (wa sd ka : Addr) (f : Fm) (w : Wk) (q : Ky) (l : Option Nat), vs = [.ref wa, .ref ka, lenV l] ∧ WorkAt K H wa sd (some f) w ∧ KeyAt H ka q ∧ f.asks = true ∧ w.over = false ∧ w.seen.length ≤ 1000 ∧
  ∀ H', Keeps [wa, sd] H H' → WorkAt K H' wa sd (some f) (hearW (some f) w q l) → Q .non H'
theorem lenV_none {l : Option Nat} : decide (lenV l = V.non) = l.isNone := by
  cases l with
  | none => rfl
  | some n => rfl
theorem ok_Work_hear (T : Tp K mg) : CallsM P w K mg base (k + 1) (He.ga K "Work") "hear" ["self", "key", "length"] (spHear K) := by
  have sc : FnScope ["self", "key", "length", "word"] ["self", "key", "length"] d_Work_hear.scope := ⟨rfl, rfl, rfl, by decide +kernel, rfl, by decide +kernel, by decide +kernel⟩
  refine mkMeth T in_Work_hear rfl mt_Work_hear rfl rfl sc (fun _ _ _ _ _ _ us hl => match us, hl with | [_, _, _], _ => rfl) (fun vs H Q E h => ?_) (fun f cdv A outer s H vs Q E hr h => ?_)
  · obtain ⟨wa, sd, ka, f, w, q, l, rfl, _⟩ := h
    rfl
  obtain ⟨wa, sd, ka, f, w, q, l, rfl, ⟨dx, fv, hw, hs, hf⟩, hk, fas, ho, hlen, k⟩ := h
  refine ⟨_, (pss_cons (ps_dput (hu_of hr) (pe_fld (pv 0) rfl) (pv 1) pe_bl rfl)
      (pss_cons (ps_fldaug (pv 0) pe_int in_add)
      (pss_cons (ps_fld (pv 0) (pv 2) rfl)
      (pss_cons (ps_set (i := 3) sc.nd rfl (by first | exact Or.inl rfl | exact Or.inr rfl) (pe_ix ix_tup (pe_fld (pv 0) rfl) pe_int (fun _ _ => rfl)))
      (pss_one (ps_if (pt_cmpR op_eq (pv 3) pe_str (nomark _)) (pss_one (ps_fld (pv 0) (pe_cmpR op_notN (pv 2) pe_non (nomark _)) rfl)) (pss_one (ps_if (pt_cmpR op_isN (pv 2) pe_non (nomark _)) (pss_one (ps_fld (pv 0) pe_bl rfl)) (pss_one (ps_if (PW.pt (pw_or (pt_cmpR op_eq (pv 3) pe_str (nomark _)) (pw_or1 (pt_cmpR op_eq (pv 3) pe_str (nomark _))))) (pss_cons (ps_fldaug (pv 0) (pv 2) in_add)
      (pss_one (ps_fld (pv 0) (pe_and (pe_cmpR op_eq (pv 3) pe_str (nomark _)) (pe_one (pe_cmpR op_eq (pv 2) pe_int (nomark _)))) rfl))) pss_nil)))))))))), ?_⟩
  have C := T.cls mk_Work
  have hws : wa ≠ sd := fun e => by rw [e, hs] at hw; cases hw
  have mkl : (mkD kyK (fun _ => V.bl true) w.seen).length = w.seen.length := mkD_len
  refine ⟨_, rfl, wa, _, dx, _, _, rfl, hw, C, T.noat mn_Work_seen, rfl, _, rfl, sd, _, rfl, .inr ⟨_, kyK q, ka, hs, rfl, hk, by rw [mkl]; exact line5 (by omega), rfl⟩, ?_⟩
  rw [put_trueT]
  have m1 : Imm H (upd H sd (.dT (mkD kyK (fun _ => .bl true) (addK w.seen q)))) := (Imm.refl _).mut hs
  have k1 : Keeps [wa, sd] H (upd H sd (.dT (mkD kyK (fun _ => .bl true) (addK w.seen q)))) := (Keeps.refl _ _).mem (by simp)
  have w1 : upd H sd (.dT (mkD kyK (fun _ => .bl true) (addK w.seen q))) wa = some (.ins (He.ga K "Work") dx (fldsW fv sd ⟨w.key, addK w.seen q, w.at_, w.turn, w.heard, w.over⟩)) := by rw [upd_ne hws]; exact hw
  have s1 : upd H sd (.dT (mkD kyK (fun _ => .bl true) (addK w.seen q))) sd = some (.dT (mkD kyK (fun _ => .bl true) (addK w.seen q))) := upd_same
  generalize upd H sd (.dT (mkD kyK (fun _ => .bl true) (addK w.seen q))) = H1 at m1 k1 w1 s1 ⊢
  refine ⟨_, rfl, wa, _, dx, _, _, rfl, w1, C, T.noat mn_Work_turn, rfl, _, _, rfl, rfl, dx, _, w1, show 8 < 1000 by decide, ?_⟩
  have et := putW_turn fv sd ⟨w.key, addK w.seen q, w.at_, w.turn, w.heard, w.over⟩ (w.turn + 1)
  rw [show putF "turn" (V.int ((w.turn : Nat) + 1)) (fldsW fv sd ⟨w.key, addK w.seen q, w.at_, w.turn, w.heard, w.over⟩) = _ from et]
  obtain ⟨m2, k2, w2⟩ := stepF (fs' := fldsW fv sd ⟨w.key, addK w.seen q, w.at_, w.turn + 1, w.heard, w.over⟩) m1 k1 w1
  have s2 : upd H1 wa (.ins (He.ga K "Work") dx (fldsW fv sd ⟨w.key, addK w.seen q, w.at_, w.turn + 1, w.heard, w.over⟩)) sd = some (.dT (mkD kyK (fun _ => .bl true) (addK w.seen q))) := by rw [upd_ne hws.symm]; exact s1
  generalize upd H1 wa (.ins (He.ga K "Work") dx (fldsW fv sd ⟨w.key, addK w.seen q, w.at_, w.turn + 1, w.heard, w.over⟩)) = H2 at m2 k2 w2 s2 ⊢
  refine ⟨_, rfl, _, rfl, wa, _, dx, _, rfl, w2, C, T.noat mn_Work_heard, show 8 < 1000 by decide, ?_⟩
  rw [putW_heard]
  obtain ⟨m3, k3, w3⟩ := stepF (fs' := fldsW fv sd ⟨w.key, addK w.seen q, w.at_, w.turn + 1, l, w.over⟩) m2 k2 w2
  have s3 : upd H2 wa (.ins (He.ga K "Work") dx (fldsW fv sd ⟨w.key, addK w.seen q, w.at_, w.turn + 1, l, w.over⟩)) sd = some (.dT (mkD kyK (fun _ => .bl true) (addK w.seen q))) := by rw [upd_ne hws.symm]; exact s2
  generalize upd H2 wa (.ins (He.ga K "Work") dx (fldsW fv sd ⟨w.key, addK w.seen q, w.at_, w.turn + 1, l, w.over⟩)) = H3 at m3 k3 w3 s3 ⊢
  obtain ⟨fa, rfl, hfa⟩ := hf
  obtain ⟨wd, ps, el⟩ : ∃ wd ps, f.l = wd :: ps := by cases f <;> exact ⟨_, _, rfl⟩
  have hq : SqT K H3 fa ((wd :: ps).map V.str) := by rw [← el]; exact sqt_of (hfa.imm m3)
  refine ⟨_, rfl, wa, _, dx, _, _, rfl, w3, C, T.noat mn_Work_form, rfl, _, _, _, _, rfl, rfl, hq, at_0 rfl, ?_⟩
  -- to set over
  have fin : ∀ (H' : Hp) (a' : Nat) (b o : Bool), H' wa = some (.ins (He.ga K "Work") dx (fldsW (.ref fa) sd ⟨w.key, addK w.seen q, a', w.turn + 1, l, o⟩)) → H' sd = some (.dT (mkD kyK (fun _ => .bl true) (addK w.seen q))) → Imm H H' → Keeps [wa, sd] H H' → hearW (some f) w q l = ⟨w.key, addK w.seen q, a', w.turn + 1, l, b⟩ →
      ∃ a C dx fs, V.ref wa = .ref a ∧ H' a = some (.ins C dx fs) ∧ Cls K C ∧ NoAttr K C "over" ∧ fs.length < 1000 ∧ Q .non (upd H' a (.ins C dx (putF "over" (.bl b) fs))) := by
    intro H' a' b o hw' hs' m' k' e
    refine ⟨wa, _, dx, _, rfl, hw', C, T.noat mn_Work_over, show 8 < 1000 by decide, ?_⟩
    rw [putW_over]
    obtain ⟨m4, k4, w4⟩ := stepF (fs' := fldsW (.ref fa) sd ⟨w.key, addK w.seen q, a', w.turn + 1, l, b⟩) m' k' hw'
    refine k _ k4 ?_
    rw [e]
    exact ⟨dx, .ref fa, w4, by rw [upd_ne hws.symm]; exact hs', fa, rfl, hfa.imm m4⟩
  have stay : hearW (some f) w q l = ⟨w.key, addK w.seen q, w.at_, w.turn + 1, l, w.over⟩ → Q .non H3 := fun e => k _ k3 (by rw [e]; exact ⟨dx, .ref fa, w3, s3, fa, rfl, hfa.imm m3⟩)
  have notF : f ≠ .none ∧ f ≠ .any ∧ ∀ z, f ≠ .signs z := ⟨(fun e => by rw [e] at fas; cases fas), (fun e => by rw [e] at fas; cases fas), (fun z e => by rw [e] at fas; cases fas)⟩
  refine ⟨_, rfl, rfl, _, rfl, ?_⟩
  cases f with
  | none => cases fas
  | any => cases fas
  | signs z => cases fas
  | first qs =>
    cases el
    refine iteY (by decide +kernel) ⟨_, rfl, rfl, _, rfl, ?_⟩
    rw [lenV_none]
    exact fin H3 w.at_ _ w.over w3 s3 m3 k3 (by cases l <;> rfl)
  | row qs =>
    cases el
    refine iteN (by decide +kernel) ⟨_, rfl, rfl, _, rfl, ?_⟩
    rw [lenV_none]
    cases l with
    | none => exact iteT ⟨_, rfl, fin H3 w.at_ true w.over w3 s3 m3 k3 rfl⟩
    | some n =>
      refine iteF ⟨_, rfl, rfl, _, rfl, iteY (by decide +kernel) ?_⟩
      refine ⟨_, rfl, wa, _, dx, _, _, rfl, w3, C, T.noat mn_Work_at, rfl, _, rfl, _, _, rfl, rfl, dx, _, w3, show 8 < 1000 by decide, ?_⟩
      have ea := putW_at (.ref fa) sd ⟨w.key, addK w.seen q, w.at_, w.turn + 1, some n, w.over⟩ (w.at_ + n)
      rw [show putF "at" (V.int ((w.at_ : Nat) + (n : Nat))) (fldsW (.ref fa) sd ⟨w.key, addK w.seen q, w.at_, w.turn + 1, some n, w.over⟩) = _ from ea]
      obtain ⟨m4, k4, w4⟩ := stepF (fs' := fldsW (.ref fa) sd ⟨w.key, addK w.seen q, w.at_ + n, w.turn + 1, some n, w.over⟩) m3 k3 w3
      have s4 : upd H3 wa (.ins (He.ga K "Work") dx (fldsW (.ref fa) sd ⟨w.key, addK w.seen q, w.at_ + n, w.turn + 1, some n, w.over⟩)) sd = some (.dT (mkD kyK (fun _ => .bl true) (addK w.seen q))) := by rw [upd_ne hws.symm]; exact s3
      exact ⟨_, rfl, rfl, _, rfl, iteN (by decide +kernel) ⟨_, rfl, fin _ (w.at_ + n) false w.over w4 s4 m4 k4 rfl⟩⟩
  | again z =>
    cases el
    refine iteN (by decide +kernel) ⟨_, rfl, rfl, _, rfl, ?_⟩
    rw [lenV_none]
    cases l with
    | none => exact iteT ⟨_, rfl, fin H3 w.at_ true w.over w3 s3 m3 k3 rfl⟩
    | some n =>
      refine iteF ⟨_, rfl, rfl, _, rfl, iteN (by decide +kernel) ⟨_, rfl, rfl, _, rfl, iteY (by decide +kernel) ?_⟩⟩
      refine ⟨_, rfl, wa, _, dx, _, _, rfl, w3, C, T.noat mn_Work_at, rfl, _, rfl, _, _, rfl, rfl, dx, _, w3, show 8 < 1000 by decide, ?_⟩
      have ea := putW_at (.ref fa) sd ⟨w.key, addK w.seen q, w.at_, w.turn + 1, some n, w.over⟩ (w.at_ + n)
      rw [show putF "at" (V.int ((w.at_ : Nat) + (n : Nat))) (fldsW (.ref fa) sd ⟨w.key, addK w.seen q, w.at_, w.turn + 1, some n, w.over⟩) = _ from ea]
      obtain ⟨m4, k4, w4⟩ := stepF (fs' := fldsW (.ref fa) sd ⟨w.key, addK w.seen q, w.at_ + n, w.turn + 1, some n, w.over⟩) m3 k3 w3
      have s4 : upd H3 wa (.ins (He.ga K "Work") dx (fldsW (.ref fa) sd ⟨w.key, addK w.seen q, w.at_ + n, w.turn + 1, some n, w.over⟩)) sd = some (.dT (mkD kyK (fun _ => .bl true) (addK w.seen q))) := by rw [upd_ne hws.symm]; exact s3
      have e0 : decide (lenV (some n) = V.int 0) = decide (n = 0) := by
        show decide (V.int (n : Nat) = V.int 0) = _
        by_cases h : n = 0
        · subst h; rfl
        · have : ¬ ((n : Nat) : Int) = 0 := by omega
          simp [h]
      refine ⟨_, rfl, rfl, _, rfl, iteY (by decide +kernel) ⟨_, rfl, rfl, ?_⟩⟩
      rw [e0]
      exact ⟨_, rfl, fin _ (w.at_ + n) _ w.over w4 s4 m4 k4 rfl⟩
  | ahead z =>
    cases el
    refine iteN (by decide +kernel) ⟨_, rfl, rfl, _, rfl, ?_⟩
    rw [lenV_none]
    cases l with
    | none => exact iteT ⟨_, rfl, fin H3 w.at_ true w.over w3 s3 m3 k3 (by show Wk.mk _ _ _ _ _ (w.over || true) = _; rw [Bool.or_true])⟩
    | some n => exact iteF ⟨_, rfl, rfl, _, rfl, iteN (by decide +kernel) ⟨_, rfl, rfl, _, rfl, iteN (by decide +kernel) (stay (by show Wk.mk _ _ _ _ _ (w.over || false) = _; rw [Bool.or_false]))⟩⟩
  | not z =>
    cases el
    refine iteN (by decide +kernel) ⟨_, rfl, rfl, _, rfl, ?_⟩
    rw [lenV_none]
    cases l with
    | none => exact iteT ⟨_, rfl, fin H3 w.at_ true w.over w3 s3 m3 k3 (by show Wk.mk _ _ _ _ _ (w.over || true) = _; rw [Bool.or_true])⟩
    | some n => exact iteF ⟨_, rfl, rfl, _, rfl, iteN (by decide +kernel) ⟨_, rfl, rfl, _, rfl, iteN (by decide +kernel) (stay (by show Wk.mk _ _ _ _ _ (w.over || false) = _; rw [Bool.or_false]))⟩⟩
end
end Kr
namespace Kr
open PySem PySem.Spec PyProof.Rows L2
section
variable {P : Program} {w : World} {K : PySem.W.Frag} {mg : Str → Option Value} {base : Heap} {k : Nat}
def spOutcome (K : PySem.W.Frag) : Sp := fun vs H Q _ => ∃ (wa sd : Addr) (fo : Option Fm) (w : Wk) (T : Str), vs = [.ref wa, .str T] ∧ WorkAt K H wa sd fo w ∧ w.key.2 ≤ T.length ∧ T.length ≤ 1000 ∧ w.key.2 ≤ w.at_ ∧ ∀ H', Keeps [] H H' → Q (lenV (outW fo T w)) H'
theorem qv {Q : VK} {x y : V} {H : Hp} (h : x = y) (q : Q y H) : Q x H := by rw [h]; exact q
theorem ok_Work_outcome (T : Tp K mg) : CallsM P w K mg base (k + 1) (He.ga K "Work") "outcome" ["self", "text"] (spOutcome K) := by
  have sc : FnScope ["self", "text", "word"] ["self", "text"] d_Work_outcome.scope := ⟨rfl, rfl, rfl, by decide +kernel, rfl, by decide +kernel, by decide +kernel⟩
  refine mkMeth T in_Work_outcome rfl mt_Work_outcome rfl rfl sc (fun _ _ _ _ _ _ us hl => match us, hl with | [_, _], _ => rfl) (fun vs H Q E h => ?_) (fun f cdv A outer s H vs Q E hr h => ?_)
  · obtain ⟨x, dx, kk, fv, t, rfl, _⟩ := h
    rfl
  obtain ⟨wa, sd, fo, w, TX, rfl, ⟨dx, fv, hw, hs, hf⟩, hp, hT, hat, k⟩ := h
  refine ⟨_, (pss_cons (ps_if (pt_cmpR op_isN (pe_fld (pv 0) rfl) pe_non (nomark _)) (pss_one (ps_ret pe_non)) pss_nil)
      (pss_cons (ps_set (i := 2) sc.nd rfl (by first | exact Or.inl rfl | exact Or.inr rfl) (pe_ix ix_tup (pe_fld (pv 0) rfl) pe_int (fun _ _ => rfl)))
      (pss_cons (ps_if (pt_cmpR op_eq (pv 2) pe_str (nomark _)) (pss_one (ps_ret pe_int)) pss_nil)
      (pss_cons (ps_if (PW.pt (pw_or (pt_cmpR op_eq (pv 2) pe_str (nomark _)) (pw_or1 (pt_cmpR op_eq (pv 2) pe_str (nomark _))))) (pss_cons (ps_if (PW.pt (pw_or (pt_cmpR op_eq (pe_fld (pv 0) rfl) (pe_callB call_len_str (by rfl) (T.fre _ mf_len) bt_len (pa_cons (pv 1) pa_nil)) (nomark _)) (pw_or1 (PW.pt (pw_and (pt_cmpR op_eq (pv 2) pe_str (nomark _)) (pw_and1 (pt_cmpR op_notIn_sign (pe_ix ix_str (pv 1) (pe_fld (pv 0) rfl) (fun _ _ => rfl)) (pe_ix ix_tup (pe_fld (pv 0) rfl) pe_int (fun _ _ => rfl)) (by rfl)))))))) (pss_one (ps_ret pe_non)) pss_nil)
      (pss_one (ps_ret pe_int))) pss_nil)
      (pss_cons (ps_if (pt_cmpR op_eq (pv 2) pe_str (nomark _)) (pss_one (ps_ret (pe_op op_sub (pe_fld (pv 0) rfl) (pe_fld (pv 0) rfl)))) pss_nil)
      (pss_cons (ps_if (pt_cmpR op_eq (pv 2) pe_str (nomark _)) (pss_one (ps_ret (pe_ifExp (pt_cmpR op_isN (pe_fld (pv 0) rfl) pe_non (nomark _)) pe_int pe_non))) pss_nil)
      (pss_cons (ps_if (PW.pt (pw_or (pt_cmpR op_isN (pe_fld (pv 0) rfl) pe_non (nomark _)) (pw_or1 (pt_cmpR op_eq (pv 2) pe_str (nomark _))))) (pss_one (ps_ret (pe_fld (pv 0) rfl))) pss_nil)
      (pss_one (ps_ret (pe_op op_sub (pe_fld (pv 0) rfl) (pe_fld (pv 0) rfl))))))))))), ?_⟩
  have C := T.cls mk_Work
  have kr := k H (Keeps.refl _ _)
  have hz : TX.length ≤ sizeLine := line5' (Nat.le_trans hT (by decide))
  refine ⟨_, rfl, wa, _, dx, _, _, rfl, hw, C, T.noat mn_Work_form, rfl, rfl, _, rfl, ?_⟩
  cases fo with
  | none =>
    obtain rfl := hf
    exact iteT kr
  | some f =>
  obtain ⟨fa, rfl, hfa⟩ := hf
  obtain ⟨wd, ps, el⟩ : ∃ wd ps, f.l = wd :: ps := by cases f <;> exact ⟨_, _, rfl⟩
  have hq : SqT K H fa ((wd :: ps).map V.str) := by rw [← el]; exact sqt_of hfa
  refine iteF ?_
  refine ⟨_, rfl, wa, _, dx, _, _, rfl, hw, C, T.noat mn_Work_form, rfl, _, _, _, _, rfl, rfl, hq, at_0 rfl, ?_⟩
  refine ⟨_, rfl, rfl, _, rfl, ?_⟩
  have sub : V.int ((w.at_ : Nat) - (w.key.2 : Nat)) = V.int ((w.at_ - w.key.2 : Nat) : Int) := by congr 1; omega
  -- the place, against the text's end
  have atEnd : ∀ b : Bool, b = decide (V.int (w.key.2 : Nat) = V.int ((TX.length : Nat) : Int)) → (b = true ↔ ¬ w.key.2 < TX.length) := fun b e => by
    rw [e, decide_eq_true_iff]
    constructor
    · intro h
      injection h with h
      omega
    · intro h
      have : w.key.2 = TX.length := by omega
      rw [this]
  cases f with
  | none =>
    cases el
    exact iteY (by decide +kernel) kr
  | any =>
    cases el
    refine iteN (by decide +kernel) ⟨_, rfl, rfl, _, rfl, iteY (by decide +kernel) ?_⟩
    refine ⟨_, rfl, wa, _, dx, _, _, rfl, hw, C, T.noat mn_Work_place, rfl, _, rfl, TX, rfl, hz, rfl, _, rfl, ?_⟩
    have ae := atEnd _ rfl
    refine iteB (fun h => ?_) (fun h => ?_)
    · have h' := ae.mp h
      refine qv ?_ kr
      show V.non = lenV (if w.key.2 < TX.length then some 1 else none)
      rw [if_neg h']
      rfl
    · have h' : w.key.2 < TX.length := by
        by_cases z : w.key.2 < TX.length
        · exact z
        · rw [ae.mpr z] at h; cases h
      refine ⟨_, rfl, rfl, _, rfl, iteN (by decide +kernel) (iteF (qv ?_ kr))⟩
      show V.int 1 = lenV (if w.key.2 < TX.length then some 1 else none)
      rw [if_pos h']
      rfl
  | signs z =>
    cases el
    refine iteN (by decide +kernel) ⟨_, rfl, rfl, _, rfl, iteN (by decide +kernel) ⟨_, rfl, rfl, _, rfl, iteY (by decide +kernel) ?_⟩⟩
    refine ⟨_, rfl, wa, _, dx, _, _, rfl, hw, C, T.noat mn_Work_place, rfl, _, rfl, TX, rfl, hz, rfl, _, rfl, ?_⟩
    have ae := atEnd _ rfl
    have sg : signAt TX z w.key.2 = (match TX.cps[w.key.2]? with | some c => decide (c ∈ z.cps.toList) | none => false) := rfl
    refine iteB (fun h => ?_) (fun h => ?_)
    · have h' := ae.mp h
      refine qv ?_ kr
      show V.non = lenV (if signAt TX z w.key.2 = true then some 1 else none)
      have : TX.cps[w.key.2]? = none := Array.getElem?_eq_none (by have : TX.length = TX.cps.size := rfl; omega)
      rw [sg, this]
      rfl
    · have h' : w.key.2 < TX.length := by
        by_cases z : w.key.2 < TX.length
        · exact z
        · rw [ae.mpr z] at h; cases h
      obtain ⟨c, hc⟩ : ∃ c, TX.cps[w.key.2]? = some c := ⟨_, Array.getElem?_eq_getElem h'⟩
      refine ⟨_, rfl, rfl, _, rfl, iteY (by decide +kernel) ?_⟩
      refine ⟨_, rfl, _, rfl, wa, _, dx, _, _, rfl, hw, C, T.noat mn_Work_place, rfl, TX, _, c, rfl, rfl, hz, at_str hc, _, rfl, wa, _, dx, _, _, rfl, hw, C, T.noat mn_Work_form, rfl, fa, _, _, _, rfl, rfl, hq, at_1 rfl, c, z, rfl, rfl, _, rfl, ?_⟩
      refine iteB (fun h2 => qv ?_ kr) (fun h2 => qv ?_ kr)
      · show V.non = lenV (if signAt TX z w.key.2 = true then some 1 else none)
        have : decide (c ∈ z.cps.toList) = false := by simpa using h2
        rw [sg, hc]
        show V.non = lenV (if decide (c ∈ z.cps.toList) = true then some 1 else none)
        rw [this]
        rfl
      · show V.int 1 = lenV (if signAt TX z w.key.2 = true then some 1 else none)
        have : decide (c ∈ z.cps.toList) = true := by simpa using h2
        rw [sg, hc]
        show V.int 1 = lenV (if decide (c ∈ z.cps.toList) = true then some 1 else none)
        rw [this]
        rfl
  | again q =>
    cases el
    refine iteN (by decide +kernel) ⟨_, rfl, rfl, _, rfl, iteN (by decide +kernel) ⟨_, rfl, rfl, _, rfl, iteN (by decide +kernel) ⟨_, rfl, rfl, _, rfl, iteY (by decide +kernel) ?_⟩⟩⟩
    exact ⟨_, rfl, wa, _, dx, _, _, rfl, hw, C, T.noat mn_Work_at, rfl, _, rfl, wa, _, dx, _, _, rfl, hw, C, T.noat mn_Work_place, rfl, _, _, rfl, rfl, qv sub kr⟩
  | not q =>
    cases el
    refine iteN (by decide +kernel) ⟨_, rfl, rfl, _, rfl, iteN (by decide +kernel) ⟨_, rfl, rfl, _, rfl, iteN (by decide +kernel) ⟨_, rfl, rfl, _, rfl, iteN (by decide +kernel) ⟨_, rfl, rfl, _, rfl, iteY (by decide +kernel) ?_⟩⟩⟩⟩
    refine ⟨_, rfl, wa, _, dx, _, _, rfl, hw, C, T.noat mn_Work_heard, rfl, rfl, _, rfl, ?_⟩
    rw [lenV_none]
    have e : lenV (outW (some (.not q)) TX w) = if w.heard.isNone = true then V.int 0 else V.non := by
      show lenV (if w.heard.isSome = true then none else some 0) = _
      cases w.heard <;> rfl
    rw [e] at kr
    exact iteB (fun h => by rw [if_pos h] at kr; exact kr) (fun h => by rw [h, if_neg Bool.false_ne_true] at kr; exact kr)
  | first qs =>
    cases el
    refine iteN (by decide +kernel) ⟨_, rfl, rfl, _, rfl, iteN (by decide +kernel) ⟨_, rfl, rfl, _, rfl, iteN (by decide +kernel) ⟨_, rfl, rfl, _, rfl, iteN (by decide +kernel) ⟨_, rfl, rfl, _, rfl, iteN (by decide +kernel) ?_⟩⟩⟩⟩
    refine ⟨_, rfl, wa, _, dx, _, _, rfl, hw, C, T.noat mn_Work_heard, rfl, rfl, _, rfl, ?_⟩
    have last : tRet (tFld K (tVar 0) "heard") { nx := fun _ H' => Q .non H', rt := Q } [some (V.ref wa), some (.str TX), some (.str "first")] H := ⟨_, rfl, wa, _, dx, _, _, rfl, hw, C, T.noat mn_Work_heard, rfl, kr⟩
    exact iteB (fun _ => iteT last) (fun _ => ⟨_, rfl, rfl, _, rfl, iteY (by decide +kernel) last⟩)
  | row qs =>
    cases el
    refine iteN (by decide +kernel) ⟨_, rfl, rfl, _, rfl, iteN (by decide +kernel) ⟨_, rfl, rfl, _, rfl, iteN (by decide +kernel) ⟨_, rfl, rfl, _, rfl, iteN (by decide +kernel) ⟨_, rfl, rfl, _, rfl, iteN (by decide +kernel) ?_⟩⟩⟩⟩
    refine ⟨_, rfl, wa, _, dx, _, _, rfl, hw, C, T.noat mn_Work_heard, rfl, rfl, _, rfl, ?_⟩
    rw [lenV_none]
    cases hh : w.heard with
    | none =>
      refine iteT (iteT ⟨_, rfl, wa, _, dx, _, _, rfl, hw, C, T.noat mn_Work_heard, rfl, qv ?_ kr⟩)
      show lenV w.heard = lenV (if w.heard.isSome = true then some (w.at_ - w.key.2) else none)
      rw [hh]
      rfl
    | some n =>
      refine iteF ⟨_, rfl, rfl, _, rfl, iteN (by decide +kernel) ?_⟩
      refine ⟨_, rfl, wa, _, dx, _, _, rfl, hw, C, T.noat mn_Work_at, rfl, _, rfl, wa, _, dx, _, _, rfl, hw, C, T.noat mn_Work_place, rfl, _, _, rfl, rfl, qv (sub.trans ?_) kr⟩
      show _ = lenV (if w.heard.isSome = true then some (w.at_ - w.key.2) else none)
      rw [hh]
      rfl
  | ahead qs =>
    cases el
    refine iteN (by decide +kernel) ⟨_, rfl, rfl, _, rfl, iteN (by decide +kernel) ⟨_, rfl, rfl, _, rfl, iteN (by decide +kernel) ⟨_, rfl, rfl, _, rfl, iteN (by decide +kernel) ⟨_, rfl, rfl, _, rfl, iteN (by decide +kernel) ?_⟩⟩⟩⟩
    refine ⟨_, rfl, wa, _, dx, _, _, rfl, hw, C, T.noat mn_Work_heard, rfl, rfl, _, rfl, ?_⟩
    rw [lenV_none]
    cases hh : w.heard with
    | none =>
      refine iteT (iteT ⟨_, rfl, wa, _, dx, _, _, rfl, hw, C, T.noat mn_Work_heard, rfl, qv ?_ kr⟩)
      show lenV w.heard = lenV (if w.heard.isSome = true then some (w.at_ - w.key.2) else none)
      rw [hh]
      rfl
    | some n =>
      refine iteF ⟨_, rfl, rfl, _, rfl, iteN (by decide +kernel) ?_⟩
      refine ⟨_, rfl, wa, _, dx, _, _, rfl, hw, C, T.noat mn_Work_at, rfl, _, rfl, wa, _, dx, _, _, rfl, hw, C, T.noat mn_Work_place, rfl, _, _, rfl, rfl, qv (sub.trans ?_) kr⟩
      show _ = lenV (if w.heard.isSome = true then some (w.at_ - w.key.2) else none)
      rw [hh]
      rfl
end
end Kr
/-! the order of texts: one list for each set -/
namespace Kr
open PySem PySem.Spec PyProof.Rows L2
theorem ins_mem (x : Str) : ∀ (ys : List Str) (z : Str), z ∈ ins x ys ↔ z = x ∨ z ∈ ys
  | [], z => by simp [ins]
  | y :: ys, z => by
    unfold ins
    split
    · exact List.mem_cons
    · split
      · rename_i h
        subst h
        rw [List.mem_cons]
        exact ⟨.inr, fun h => h.elim .inl id⟩
      · rw [List.mem_cons, ins_mem x ys z, List.mem_cons]
        exact ⟨fun h => h.elim (fun z => .inr (.inl z)) fun h => h.elim .inl fun z => .inr (.inr z), fun h => h.elim (fun z => .inr (.inl z)) fun h => h.elim .inl fun z => .inr (.inr z)⟩
theorem ins_ris (x : Str) : ∀ (ys : List Str), Ris1 ys → Ris1 (ins x ys)
  | [], _ => List.pairwise_singleton _ _
  | y :: ys, h => by
    obtain ⟨h1, h2⟩ := List.pairwise_cons.mp h
    unfold ins
    split
    · rename_i hx
      refine List.pairwise_cons.mpr ⟨fun z hz => ?_, h⟩
      rcases List.mem_cons.mp hz with e | e
      · rw [e]; exact hx
      · exact slt_trans hx (h1 z e)
    · rename_i hx
      split
      · exact h
      · rename_i hxy
        refine List.pairwise_cons.mpr ⟨fun z hz => ?_, ins_ris x ys h2⟩
        rcases (ins_mem x ys z).mp hz with e | e
        · rw [e]
          rcases slt_tri x y with c | c | c
          · exact absurd c hx
          · exact absurd c hxy
          · exact c
        · exact h1 z e
theorem canon_mem : ∀ (xs : List Str) (z : Str), z ∈ canon xs ↔ z ∈ xs
  | [], z => by simp [canon]
  | x :: xs, z => by
    show z ∈ ins x (canon xs) ↔ _
    rw [ins_mem, canon_mem xs z, List.mem_cons]
theorem canon_ris : ∀ xs : List Str, Ris1 (canon xs)
  | [] => List.Pairwise.nil
  | x :: xs => ins_ris x _ (canon_ris xs)
theorem ris_same : ∀ (xs ys : List Str), Ris1 xs → Ris1 ys → (∀ z, z ∈ xs ↔ z ∈ ys) → xs = ys
  | [], [], _, _, _ => rfl
  | [], y :: ys, _, _, h => by have := (h y).mpr List.mem_cons_self; cases this
  | x :: xs, [], _, _, h => by have := (h x).mp List.mem_cons_self; cases this
  | x :: xs, y :: ys, hx, hy, h => by
    obtain ⟨x1, x2⟩ := List.pairwise_cons.mp hx
    obtain ⟨y1, y2⟩ := List.pairwise_cons.mp hy
    have e : x = y := by
      rcases List.mem_cons.mp ((h x).mp List.mem_cons_self) with z | z
      · exact z
      · rcases List.mem_cons.mp ((h y).mpr List.mem_cons_self) with q | q
        · exact q.symm
        · have a := slt_trans (y1 x z) (x1 y q)
          rw [slt_irrefl] at a
          cases a
    subst e
    congr 1
    refine ris_same xs ys x2 y2 fun z => ⟨fun hz => ?_, fun hz => ?_⟩
    · rcases List.mem_cons.mp ((h z).mp (List.mem_cons_of_mem _ hz)) with q | q
      · have := x1 z hz
        rw [q, slt_irrefl] at this
        cases this
      · exact q
    · rcases List.mem_cons.mp ((h z).mpr (List.mem_cons_of_mem _ hz)) with q | q
      · have := y1 z hz
        rw [q, slt_irrefl] at this
        cases this
      · exact q
theorem canon_of {xs ys : List Str} (h : Ris1 ys) (m : ∀ z, z ∈ ys ↔ z ∈ xs) : ys = canon xs := ris_same _ _ h (canon_ris xs) fun z => by rw [m, canon_mem]
theorem keys_of {H : Hp} {g : Ky → V} : ∀ {ks : List Ky} {bs : List Addr}, IsKeys H (mkD kyK g ks) bs → ∃ es : List (Ky × Addr), es.map (·.1) = ks ∧ es.map (·.2) = bs ∧ ∀ e ∈ es, KeyAt H e.2 e.1
  | [], bs, h => by
    cases h
    exact ⟨[], rfl, rfl, by simp⟩
  | k :: ks, bs, h => by
    cases h with
    | cons h t =>
      obtain ⟨es, e1, e2, e3⟩ := keys_of (ks := ks) t
      rename_i b _
      refine ⟨(k, b) :: es, by rw [List.map_cons, e1], by rw [List.map_cons, e2], fun e he => ?_⟩
      rcases List.mem_cons.mp he with z | z
      · rw [z]; exact h
      · exact e3 e z
theorem far_ge (R : Ky → Rc) (p : Nat) : ∀ (ks : List Ky) (m : Nat), m ≤ ks.foldl (fun m q => max m (q.2 + (R q).reach)) m
  | [], m => Nat.le_refl _
  | q :: ks, m => Nat.le_trans (Nat.le_max_left _ _) (far_ge R p ks _)
theorem max_if (a b : Nat) : (if ((b : Nat) : Int) > ((a : Nat) : Int) then ((b : Nat) : Int) else ((a : Nat) : Int)) = ((max a b : Nat) : Int) := by
  split <;> omega
end Kr
namespace Kr
open PySem PySem.Spec PyProof.Rows L2
section
variable {P : Program} {w : World} {K : PySem.W.Frag} {mg : Str → Option Value} {base : Heap} {k : Nat}
theorem TabAt.get {R : Ky → Rc} {H : Hp} {t : Addr} {ks : List Ky} (h : TabAt R H t ks) {q : Ky} (hq : q ∈ ks) {b : Addr} (hb : KeyAt H b q) : ∃ a, DGet H t (.ref b) (some (.ref a)) ∧ RecAt H a (R q) := by
  obtain ⟨ad, h1, h2⟩ := h
  exact ⟨ad q, .inr ⟨_, kyK q, b, .inl h1, rfl, hb, (mkD_in (f := kyK) (g := fun k => V.ref (ad k)) kyK_inj hq).symm⟩, h2 q hq⟩
theorem TabAt.no {R : Ky → Rc} {H : Hp} {t : Addr} {ks : List Ky} (h : TabAt R H t ks) {q : Ky} (hq : q ∉ ks) {b : Addr} (hb : KeyAt H b q) : DGet H t (.ref b) none := by
  obtain ⟨ad, h1, h2⟩ := h
  exact .inr ⟨_, kyK q, b, .inl h1, rfl, hb, (mkD_no (f := kyK) (g := fun k => V.ref (ad k)) kyK_inj hq).symm⟩
def spFinished (K : PySem.W.Frag) : Sp := fun vs H Q _ => ∃ (wa sd t : Addr) (fo : Option Fm) (w : Wk) (T : Str) (R : Ky → Rc) (tab : List Ky) (D : List Str), vs = [.ref wa, .str T, .ref t] ∧ WorkAt K H wa sd fo w ∧ w.key.2 ≤ T.length ∧ T.length ≤ 1000 ∧ w.key.2 ≤ w.at_ ∧
  TabAt R H t tab ∧ sd ≠ t ∧ w.seen.Nodup ∧ w.seen.length ≤ 1000 ∧ (∀ q ∈ w.seen, q ∈ tab ∧ ∀ z ∈ (R q).leans, z ∈ D) ∧ (∀ q ∈ w.seen, (R q).leans.length ≤ 1000) ∧ w.key.1 ∈ D ∧ D.length ≤ 60 ∧
  ∀ a H', Keeps [] H H' → RecAt H' a ⟨outW fo T w, far R w.key.2 w.seen - w.key.2, w.seen, canon (w.key.1 :: w.seen.flatMap fun q => (R q).leans)⟩ → Q (.ref a) H'
theorem ok_finished (T : Tp K mg) (m_Work_outcome : CallsM P w K mg base k (He.ga K "Work") "outcome" ["self", "text"] (spOutcome K)) : Calls P w K mg base (k + 1) "finished" ["work", "text", "table"] (spFinished K) := by
  have sc : FnScope ["work", "text", "table", "far", "leans", "key", "name", "length", "reach", "asked", "others"] ["work", "text", "table"] d_finished.scope := ⟨rfl, rfl, rfl, by decide +kernel, rfl, by decide +kernel, by decide +kernel⟩
  refine mkCall T in_finished rfl mg_finished rfl rfl sc (fun _ _ _ _ _ _ us hl => match us, hl with | [_, _, _], _ => rfl) (fun vs H Q E h => ?_) (fun f cdv A outer s H vs Q E hr h => ?_)
  · obtain ⟨wa, sd, t, fo, w, TX, R, tab, D, rfl, _⟩ := h
    rfl
  obtain ⟨wa, sd, t, fo, w, TX, R, tab, D, rfl, ⟨dx, fv, hw, hs, hf⟩, hp, hT, hat, hTab, hst, hnd, hlen, hseen, hlea, hkD, hD60, k⟩ := h
  refine ⟨_, (pss_cons (ps_set (i := 3) sc.nd rfl (by first | exact Or.inl rfl | exact Or.inr rfl) (pe_op op_add (pe_fld (pv 0) rfl) pe_int))
      (pss_cons (ps_set (i := 4) sc.nd rfl (by first | exact Or.inl rfl | exact Or.inr rfl) (pe_disp (pps_cons (pe_fld (pv 0) rfl) pe_bl pps_nil) rfl rfl (fun h => nomatch h) (by decide)))
      (pss_cons (ps_lock (ps_for PassesOwn.never rfl (pi_keys (pe_fld (pv 0) rfl)) (pg_name (i := 5) sc.nd rfl (by first | exact Or.inl rfl | exact Or.inr rfl))
        (pss_cons (ps_asg (pe_dget (hu_of hr) (pv 2) (pv 5) (fun _ _ => rfl)) (pg_tupK (K := K) (n := 4) rfl rfl (pgs_cons (pg_name (i := 7) sc.nd rfl (by first | exact Or.inl rfl | exact Or.inr rfl)) (pgs_cons (pg_name (i := 8) sc.nd rfl (by first | exact Or.inl rfl | exact Or.inr rfl)) (pgs_cons (pg_name (i := 9) sc.nd rfl (by first | exact Or.inl rfl | exact Or.inr rfl)) (pgs_cons (pg_name (i := 10) sc.nd rfl (by first | exact Or.inl rfl | exact Or.inr rfl)) pgs_nil))))))
      (pss_cons (ps_set (i := 3) sc.nd rfl (by first | exact Or.inl rfl | exact Or.inr rfl) (pe_callB (call_max2 rfl) (by rfl) (T.fre _ mf_max) bt_max (pa_cons (pv 3) (pa_cons (pe_op op_add (pe_ix ix_tup (pv 5) pe_int (fun _ _ => rfl)) (pv 8)) pa_nil))))
      (pss_one (ps_for PassesOwn.never rfl (pi_list (pv 10)) (pg_name (i := 6) sc.nd rfl (by first | exact Or.inl rfl | exact Or.inr rfl))
        (pss_one (ps_dput (hu_of hr) (pv 4) (pv 6) pe_bl rfl))))))))
      (pss_one (ps_ret (pe_tup (pa_cons (pmeth (pv 0) (T.cls mk_Work) m_Work_outcome hr (pa_cons (pv 1) pa_nil)) (pa_cons (pe_op op_sub (pv 3) (pe_fld (pv 0) rfl)) (pa_cons (pe_frz (pe_callTy (call_list_dT rfl) (by rfl) (T.fre _ mf_list) bt_list (pa_cons (pe_fld (pv 0) rfl) pa_nil))) (pa_cons (pe_frz (pe_callB (call_sortedD rfl) (by rfl) (T.fre _ mf_sorted) bt_sorted (pa_cons (pv 4) pa_nil))) pa_nil)))))))))), ?_⟩
  have C := T.cls mk_Work
  refine ⟨_, rfl, wa, _, dx, _, _, rfl, hw, C, T.noat mn_Work_place, rfl, _, _, rfl, rfl, ?_⟩
  intro ld hld
  have kl0 := (Keeps.refl [] H).new (o := .dK []) hld
  refine ⟨_, rfl, wa, _, dx, _, _, rfl, kl0.same hw, C, T.noat mn_Work_label, rfl, upd_same, [(.inr w.key.1, .bl true)], rfl, show 1 ≤ 15 by decide, ?_⟩
  rw [upd_upd]
  have em : mergeK [] [((.inr w.key.1 : L2.Key), V.bl true)] = mkD nmK (fun _ => .bl true) [w.key.1] := rfl
  rw [em]
  have hwl : wa ≠ ld := ne_of_none hw hld
  have hsl : sd ≠ ld := ne_of_none hs hld
  obtain ⟨ad, htab, hrec⟩ := hTab
  have htl : t ≠ ld := ne_of_none htab hld
  have k0 := (Keeps.refl [] H).new (o := .dK (mkD nmK (fun _ => .bl true) [w.key.1])) hld
  have i0 := (Imm.refl H).new (o := .dK (mkD nmK (fun _ => .bl true) [w.key.1])) hld
  have l0 : upd H ld (.dK (mkD nmK (fun _ => .bl true) [w.key.1])) ld = some (.dK (mkD nmK (fun _ => .bl true) [w.key.1])) := upd_same
  generalize upd H ld (.dK (mkD nmK (fun _ => .bl true) [w.key.1])) = H0 at k0 i0 l0 ⊢
  have hs0 := k0.same hs
  refine ⟨sd, _, hs0, trivial, fun od => ?_⟩
  have sL : upd H0 sd (.frz od (.dT (mkD kyK (fun _ => .bl true) w.seen))) sd = some (.frz od (.dT (mkD kyK (fun _ => .bl true) w.seen))) := upd_same
  have hws : wa ≠ sd := fun e => by rw [e, hs] at hw; cases hw
  have wL : upd H0 sd (.frz od (.dT (mkD kyK (fun _ => .bl true) w.seen))) wa = some (.ins (He.ga K "Work") dx (fldsW fv sd w)) := by rw [upd_ne hws]; exact k0.same hw
  have tL : upd H0 sd (.frz od (.dT (mkD kyK (fun _ => .bl true) w.seen))) t = some (.dT (mkD kyK (fun q => .ref (ad q)) tab)) := by rw [upd_ne hst.symm]; exact k0.same htab
  have lL : upd H0 sd (.frz od (.dT (mkD kyK (fun _ => .bl true) w.seen))) ld = some (.dK (mkD nmK (fun _ => .bl true) [w.key.1])) := by rw [upd_ne hsl.symm]; exact l0
  have iL : Imm H0 (upd H0 sd (.frz od (.dT (mkD kyK (fun _ => .bl true) w.seen)))) := (Imm.refl _).mut hs0
  have backK : ∀ H', Keeps [ld] (upd H0 sd (.frz od (.dT (mkD kyK (fun _ => .bl true) w.seen)))) H' → Keeps [ld] H0 (upd H' sd (.dT (mkD kyK (fun _ => .bl true) w.seen))) := fun H' k b o hb hn => by
    by_cases q : b = sd
    · subst q
      rw [upd_same, ← hs0, hb]
    · rw [upd_ne q]
      exact k b o (by rw [upd_ne q]; exact hb) hn
  have backI : ∀ H', Imm (upd H0 sd (.frz od (.dT (mkD kyK (fun _ => .bl true) w.seen)))) H' → Imm H0 (upd H' sd (.dT (mkD kyK (fun _ => .bl true) w.seen))) := fun H' i => unlockI hs0 rfl i
  generalize upd H0 sd (.frz od (.dT (mkD kyK (fun _ => .bl true) w.seen))) = HL at sL wL tL lL iL backK backI ⊢
  have nS : ∀ b : Addr, b ≠ ld → b ∉ [ld] := fun b h z => h (List.mem_singleton.mp z)
  refine ⟨_, rfl, wa, _, dx, _, _, rfl, wL, C, T.noat mn_Work_seen, rfl, sd, od, rfl, .inr ⟨_, sL, ?_⟩⟩
  have ml : (mkD kyK (fun _ => V.bl true) w.seen).length = w.seen.length := mkD_len
  let Nm := fun (xs : List Str) (H' : Hp) (done : List Ky) => H' ld = some (.dK (mkD nmK (fun _ => .bl true) xs)) ∧ xs.Nodup ∧ (∀ z, z ∈ xs ↔ z = w.key.1 ∨ ∃ q ∈ done, z ∈ (R q).leans)
  have nmD : ∀ xs H' done, Nm xs H' done → (∀ q ∈ done, q ∈ w.seen) → xs.length ≤ 60 := fun xs H' done h hd => by
    have := nodup_len xs D h.2.1 fun z hz => (h.2.2 z).mp hz |>.elim (fun e => e ▸ hkD) fun ⟨q, hq, hz⟩ => (hseen q (hd q hq)).2 z hz
    omega
  refine for_it walk_keysT (fun i σ H' => ∃ (v5 v6 v7 v8 v9 v10 : Option V) (xs : List Str), σ = [some (.ref wa), some (.str TX), some (.ref t), some (.int (far R w.key.2 (w.seen.take i) : Nat)), some (.ref ld), v5, v6, v7, v8, v9, v10] ∧ Keeps [ld] HL H' ∧ Imm HL H' ∧ Nm xs H' (w.seen.take i))
    ⟨none, none, none, none, none, none, [w.key.1], rfl, Keeps.refl _ _, Imm.refl _, lL, by simp, by simp⟩ (fun i σ H' _ ⟨_, _, _, _, _, _, _, _, k', _⟩ => k' _ _ sL (nS _ hsl)) ?_ ?_
  · rintro i x σ H1 H1' hi ⟨v5, v6, v7, v8, v9, v10, xs, rfl, k1, m1, n1⟩ ⟨rfl, kk, vv, qa, hkv, rfl, hqa⟩
    obtain ⟨q, hq, rfl⟩ := mkD_get hkv
    have hqm := List.mem_of_getElem? hq
    obtain ⟨hqt, hqD⟩ := hseen q hqm
    have hka : KeyAt H1' qa q := hqa
    have tab1 : TabAt R H1' t tab := ⟨ad, k1 _ _ tL (nS _ htl), fun x hx => (hrec x hx).imm ((i0.trans iL).trans m1)⟩
    obtain ⟨ra, hget, la, lb, hra, hrk, hrs⟩ := tab1.get hqt hka
    refine ⟨_, rfl, _, rfl, t, _, rfl, hget, ra, _, rfl, sqt_of hra, rfl, _, _, rfl, _, _, rfl, _, _, rfl, _, _, rfl, rfl, ?_⟩
    refine ⟨_, rfl, _, rfl, _, _, _, _, rfl, rfl, sqt_of hka, at_1 rfl, _, rfl, _, _, rfl, rfl, _, _, rfl, ?_⟩
    have ef : (if ((q.2 : Nat) : Int) + (((R q).reach : Nat) : Int) > ((far R w.key.2 (w.seen.take i) : Nat) : Int) then ((q.2 : Nat) : Int) + (((R q).reach : Nat) : Int) else ((far R w.key.2 (w.seen.take i) : Nat) : Int)) = ((far R w.key.2 (w.seen.take (i + 1)) : Nat) : Int) := by
      have := max_if (far R w.key.2 (w.seen.take i)) (q.2 + (R q).reach)
      have e2 : far R w.key.2 (w.seen.take (i + 1)) = max (far R w.key.2 (w.seen.take i)) (q.2 + (R q).reach) := by
        rw [take_snoc hq]
        unfold far
        rw [List.foldl_append]
        rfl
      rw [e2, ← this]
      rfl
    rw [ef]
    obtain ⟨o2, hrs2⟩ := hrs
    refine ⟨_, rfl, lb, rfl, ⟨_, sq_fr hrs2⟩, ?_⟩
    refine for_it (walk_list (xs := (R q).leans.map V.str)) (fun j σ H' => ∃ (v6 : Option V) (xs' : List Str), σ = [some (.ref wa), some (.str TX), some (.ref t), some (.int (far R w.key.2 (w.seen.take (i + 1)) : Nat)), some (.ref ld), some (.ref qa), v6, some (lenV (R q).len), some (.int ((R q).reach : Nat)), some (.ref la), some (.ref lb)] ∧ Keeps [ld] HL H' ∧ Imm H1' H' ∧ H' ld = some (.dK (mkD nmK (fun _ => .bl true) xs')) ∧ xs'.Nodup ∧
        ∀ z, z ∈ xs' ↔ z ∈ xs ∨ z ∈ (R q).leans.take j) ⟨v6, xs, rfl, k1, Imm.refl _, n1.1, n1.2.1, by simp⟩ (fun j σ H' _ ⟨_, _, _, _, m', _⟩ => sq_fr (m'.frz hrs2)) ?_ ?_
    · rintro j x σ H2 H2' hj ⟨v6, ys, rfl, k2, m2, e2, nd2, mem2⟩ ⟨rfl, hx⟩
      obtain ⟨z, hz, _, rfl⟩ := getM hx
      have ysl : ys.length ≤ 60 := by
        have := nodup_len ys D nd2 fun y hy => by
          rcases (mem2 y).mp hy with h | h
          · rcases (n1.2.2 y).mp h with h | ⟨q', hq', h⟩
            · rw [h]; exact hkD
            · exact (hseen q' (List.mem_of_mem_take hq')).2 y h
          · exact hqD y (List.mem_of_mem_take h)
        omega
      refine ⟨_, rfl, _, rfl, ld, _, rfl, DPut.k (k := .inr z) e2 (by rw [mkD_len]; exact line5 (by omega)), _, addK ys z, rfl, k2.mem (by simp), m2.mut e2, by rw [put_true]; exact upd_same, addK_nodup nd2, fun y => ?_⟩
      rw [mem_addK, mem2, take_snoc hz, List.mem_append, List.mem_singleton, or_assoc]
    · rintro σ H2 ⟨v6, ys, rfl, k2, m2, e2, nd2, mem2⟩
      rw [List.length_map, List.take_length] at mem2
      refine ⟨_, _, _, _, _, _, ys, rfl, k2, m1.trans m2, e2, nd2, fun z => ?_⟩
      rw [mem2, n1.2.2, take_snoc hq]
      constructor
      · rintro ((h | ⟨q', h1, h2⟩) | h)
        · exact .inl h
        · exact .inr ⟨q', List.mem_append.mpr (.inl h1), h2⟩
        · exact .inr ⟨q, List.mem_append.mpr (.inr (List.mem_singleton.mpr rfl)), h⟩
      · rintro (h | ⟨q', h1, h2⟩)
        · exact .inl (.inl h)
        · rcases List.mem_append.mp h1 with h1 | h1
          · exact .inl (.inr ⟨q', h1, h2⟩)
          · rw [List.mem_singleton.mp h1] at h2
            exact .inr h2
  · rintro σ H1 ⟨v5, v6, v7, v8, v9, v10, xs, rfl, k1, m1, n1⟩
    rw [ml, List.take_length] at n1 ⊢
    refine ⟨k1 _ _ sL (nS _ hsl), ?_⟩
    have kB := backK H1 k1
    have iB := i0.trans (backI H1 m1)
    have lB : upd H1 sd (.dT (mkD kyK (fun _ => .bl true) w.seen)) ld = some (.dK (mkD nmK (fun _ => .bl true) xs)) := by rw [upd_ne hsl.symm]; exact n1.1
    have sB : upd H1 sd (.dT (mkD kyK (fun _ => .bl true) w.seen)) sd = some (.dT (mkD kyK (fun _ => .bl true) w.seen)) := upd_same
    have kBH : Keeps [] H (upd H1 sd (.dT (mkD kyK (fun _ => .bl true) w.seen))) := fun b o hb _ => kB b o (k0.same hb) (nS _ (ne_of_none hb hld))
    have xl := nmD xs H1 _ n1 (fun q h => h)
    generalize upd H1 sd (.dT (mkD kyK (fun _ => .bl true) w.seen)) = H2 at kB iB lB sB kBH ⊢
    refine ⟨_, rfl, wa, dx, _, rfl, kBH.same hw, rfl, _, rfl, wa, sd, fo, w, TX, rfl, ⟨dx, fv, kBH.same hw, sB, hf.imm iB⟩, hp, hT, hat, fun H3 k3 m3 => ?_⟩
    have k03 := kBH.trans k3
    have i03 := iB.trans m3
    refine ⟨_, rfl, _, rfl, wa, _, dx, _, _, rfl, k03.same hw, C, T.noat mn_Work_place, rfl, _, _, rfl, rfl, ?_⟩
    refine ⟨_, rfl, wa, _, dx, _, _, rfl, k03.same hw, C, T.noat mn_Work_seen, rfl, sd, _, rfl, .inl (k3.same sB), fun p bs hp2 hbs => ⟨p, _, rfl, upd_same, trivial, fun od2 => ?_⟩⟩
    rw [upd_upd]
    obtain ⟨es, es1, es2, es3⟩ := keys_of hbs
    have k4 := k03.new (o := .frz od2 (.lst (bs.map V.ref))) hp2
    have i4 := i03.new (o := .frz od2 (.lst (bs.map V.ref))) hp2
    have j4 := (Imm.refl H3).new (o := .frz od2 (.lst (bs.map V.ref))) hp2
    have p4 : KeysAt (upd H3 p (.frz od2 (.lst (bs.map V.ref)))) p w.seen := ⟨od2, es, es1, by rw [upd_same, ← es2, List.map_map]; rfl, fun e he => (es3 e he).imm j4⟩
    have l4 : upd H3 p (.frz od2 (.lst (bs.map V.ref))) ld = some (.dK (mkD nmK (fun _ => .bl true) xs)) := by rw [upd_ne (ne_of_none (k3.same lB) hp2)]; exact k3.same lB
    generalize upd H3 p (.frz od2 (.lst (bs.map V.ref))) = H4 at k4 i4 p4 l4 ⊢
    have hks : (mkD nmK (fun _ => V.bl true) xs).map (·.1) = xs.map Sum.inr := by
      unfold mkD
      rw [List.map_map]
      rfl
    refine ⟨_, rfl, ld, _, xs, rfl, .inl l4, hks, by omega, fun ys l hperm hsort hl => ⟨l, _, rfl, upd_same, trivial, fun od3 => ?_⟩⟩
    rw [upd_upd]
    have k5 := k4.new (o := .frz od3 (.lst (ys.map V.str))) hl
    have j5 := (Imm.refl H4).new (o := .frz od3 (.lst (ys.map V.str))) hl
    have l5 : StrsAt (upd H4 l (.frz od3 (.lst (ys.map V.str)))) l ys := ⟨od3, upd_same⟩
    have p5 := p4.imm j5
    generalize upd H4 l (.frz od3 (.lst (ys.map V.str))) = H5 at k5 j5 l5 p5 ⊢
    have ey : ys = canon (w.key.1 :: w.seen.flatMap fun q => (R q).leans) := by
      refine canon_of (ris1_of hsort (hperm.nodup_iff.mpr n1.2.1)) fun z => ?_
      rw [hperm.mem_iff, n1.2.2, List.mem_cons, List.mem_flatMap]
    rw [ey] at l5
    refine ⟨show 4 ≤ sizeLine by decide, fun a ha => ?_⟩
    have j6 := (Imm.refl H5).new (o := .tup [lenV (outW fo TX w), V.int (((far R w.key.2 w.seen : Nat) : Int) - ((w.key.2 : Nat) : Int)), V.ref p, V.ref l]) ha
    refine k a _ (k5.new ha) ⟨p, l, ?_, p5.imm j6, l5.imm j6⟩
    have hge := far_ge R w.key.2 w.seen (w.key.2 + 1)
    have e : ((far R w.key.2 w.seen : Nat) : Int) - ((w.key.2 : Nat) : Int) = ((far R w.key.2 w.seen - w.key.2 : Nat) : Int) := by
      have : w.key.2 + 1 ≤ far R w.key.2 w.seen := hge
      omega
    rw [← e]
    exact upd_same
end
end Kr
/-! the readings as a system: what the works ask, hear and leave -/
namespace Kr
open PySem PySem.Spec PyProof.Rows L2
abbrev asksOf (G : Str → Option Fm) (T : Str) (R : Ky → Rc) (k : Ky) : List Ky := (out G T (fun j => (R j).len) k).1
abbrev wkAt (G : Str → Option Fm) (T : Str) (R : Ky → Rc) (k : Ky) (i : Nat) : Wk := hears (G k.1) (fun j => (R j).len) (initW (G k.1) k) ((asksOf G T R k).take i)
theorem row_parts (L : Ky → Option Nat) (p : Nat) : ∀ (qs : List Str) (a : Nat), (seqRow L p a qs).1.length ≤ qs.length ∧ ∀ q ∈ (seqRow L p a qs).1, q.1 ∈ qs
  | [], a => ⟨Nat.le_refl _, by simp [seqRow]⟩
  | x :: qs, a => by
    unfold seqRow
    cases L (x, a) with
    | none => exact ⟨by simp, by simp⟩
    | some n =>
      obtain ⟨h1, h2⟩ := row_parts L p qs (a + n)
      refine ⟨by show _ + 1 ≤ _ + 1; omega, fun q hq => ?_⟩
      rcases List.mem_cons.mp hq with z | z
      · rw [z]; exact List.mem_cons_self
      · exact List.mem_cons_of_mem _ (h2 q z)
theorem first_parts' (L : Ky → Option Nat) (p : Nat) : ∀ (qs : List Str), (seqFirst L p qs).1.length ≤ qs.length ∧ ∀ q ∈ (seqFirst L p qs).1, q.1 ∈ qs
  | [] => ⟨Nat.le_refl _, by simp [seqFirst]⟩
  | x :: qs => by
    unfold seqFirst
    cases L (x, p) with
    | some n => exact ⟨by simp, by simp⟩
    | none =>
      obtain ⟨h1, h2⟩ := first_parts' L p qs
      refine ⟨by show _ + 1 ≤ _ + 1; omega, fun q hq => ?_⟩
      rcases List.mem_cons.mp hq with z | z
      · rw [z]; exact List.mem_cons_self
      · exact List.mem_cons_of_mem _ (h2 q z)
theorem again_parts (L : Ky → Option Nat) (p : Nat) (x : Str) : ∀ (f a : Nat), (seqAgain L p x f a).1.length ≤ f ∧ ∀ q ∈ (seqAgain L p x f a).1, q.1 = x
  | 0, a => ⟨Nat.le_refl _, by simp [seqAgain]⟩
  | f + 1, a => by
    unfold seqAgain
    cases L (x, a) with
    | none => exact ⟨by simp, by simp⟩
    | some n =>
      cases n with
      | zero => exact ⟨by simp, by simp⟩
      | succ n =>
        obtain ⟨h1, h2⟩ := again_parts L p x f (a + (n + 1))
        refine ⟨by show _ + 1 ≤ _ + 1; omega, fun q hq => ?_⟩
        rcases List.mem_cons.mp hq with z | z
        · rw [z]
        · exact h2 q z
theorem out_parts {G : Str → Option Fm} {T : Str} {L : Ky → Option Nat} {k : Ky} (ok : ∀ f, G k.1 = some f → f.ok) : (out G T L k).1.length ≤ 50 ∧ ∀ q ∈ (out G T L k).1, ∃ f, G k.1 = some f ∧ f.asks = true ∧ q.1 ∈ f.parts := by
  unfold out
  cases hG : G k.1 with
  | none => exact ⟨by simp, by simp⟩
  | some f =>
    have fok := ok f hG
    cases f with
    | none => exact ⟨by simp, by simp⟩
    | any => exact ⟨by simp, by simp⟩
    | signs z => exact ⟨by simp, by simp⟩
    | row ps =>
      obtain ⟨h1, h2⟩ := row_parts L k.2 ps k.2
      have h8 := fok.2.1
      exact ⟨by dsimp only; omega, fun q hq => ⟨_, rfl, rfl, h2 q hq⟩⟩
    | first ps =>
      obtain ⟨h1, h2⟩ := first_parts' L k.2 ps
      have h8 := fok.2.1
      exact ⟨by dsimp only; omega, fun q hq => ⟨_, rfl, rfl, h2 q hq⟩⟩
    | again x =>
      obtain ⟨h1, h2⟩ := again_parts L k.2 x 50 k.2
      exact ⟨h1, fun q hq => ⟨_, rfl, rfl, List.mem_singleton.mpr (h2 q hq)⟩⟩
    | ahead x => exact ⟨by simp, fun q hq => ⟨_, rfl, rfl, by rw [List.mem_singleton.mp hq]; exact List.mem_singleton.mpr rfl⟩⟩
    | not x => exact ⟨by simp, fun q hq => ⟨_, rfl, rfl, by rw [List.mem_singleton.mp hq]; exact List.mem_singleton.mpr rfl⟩⟩
section
variable {G : Str → Option Fm} {T : Str} {R : Ky → Rc} {D : List Str} {rk : Str → Nat}
theorem Sys.fol (S : Sys G T R D rk) {k : Ky} (hk : k.2 ≤ T.length) : Fol (G k.1) T (fun j => (R j).len) (initW (G k.1) k) (out G T (fun j => (R j).len) k) :=
  fol_init (fun f h => S.ok _ f h) (by have := S.tl; omega) hk fun q a n ha h => S.fit (q, a) n ha h
theorem Sys.asks (S : Sys G T R D rk) {k : Ky} (hk : InDom D T k) : ∀ q ∈ asksOf G T R k, InDom D T q ∧ mu T rk q < mu T rk k := fun q hq => by
  obtain ⟨h1, h2, h3⟩ := S.less k hk.2 q hq
  obtain ⟨f, f1, _, f2⟩ := (out_parts (fun f h => S.ok _ f h)).2 q hq
  exact ⟨⟨(S.dom _ f f1).2 _ f2, h1⟩, h3⟩
theorem Sys.leans (S : Sys G T R D rk) : ∀ (n : Nat) (k : Ky), mu T rk k < n → InDom D T k → ∀ z ∈ (R k).leans, z ∈ D := by
  intro n
  induction n with
  | zero => intro k h; omega
  | succ n ih =>
    intro k h hk z hz
    rw [S.eqn k hk.2] at hz
    have hz' := (canon_mem _ _).mp hz
    rcases List.mem_cons.mp hz' with e | e
    · rw [e]; exact hk.1
    · obtain ⟨q, hq, hzq⟩ := List.mem_flatMap.mp e
      have hq' : q ∈ asksOf G T R k := by
        rcases (mem_once _ _ _).mp hq with h | h
        · cases h
        · exact h
      obtain ⟨a, b⟩ := S.asks hk q hq'
      exact ih q (by omega) a z hzq
theorem Sys.leansD (S : Sys G T R D rk) {k : Ky} (hk : InDom D T k) : ∀ z ∈ (R k).leans, z ∈ D := S.leans _ k (Nat.lt_succ_self _) hk
theorem ris_nodup {xs : List Str} (h : Ris1 xs) : xs.Nodup := List.Pairwise.imp (fun {a b} h e => by rw [e, slt_irrefl] at h; cases h) h
theorem Sys.leansN (S : Sys G T R D rk) {k : Ky} (hk : InDom D T k) : (R k).leans.length ≤ 9 := by
  have h1 := S.leansD hk
  have h2 : Ris1 (R k).leans := by
    rw [S.eqn k hk.2]
    exact canon_ris _
  have := nodup_len _ D (ris_nodup h2) h1
  have := S.few
  omega
theorem Sys.asksN (S : Sys G T R D rk) (k : Ky) : (asksOf G T R k).length ≤ 50 := (out_parts (fun f h => S.ok _ f h)).1
theorem once_len : ∀ (ks acc : List Ky), (once acc ks).length ≤ acc.length + ks.length
  | [], acc => Nat.le_refl _
  | k :: ks, acc => by
    have h1 := once_len ks (addK acc k)
    have h2 := addK_len (ks := acc) (k := k)
    show (once (addK acc k) ks).length ≤ _
    rw [List.length_cons]
    omega
theorem wk_seen (k : Ky) (i : Nat) : (wkAt G T R k i).seen = once [] ((asksOf G T R k).take i) := hears_seen _ _ _ _
theorem wk_key (k : Ky) (i : Nat) : (wkAt G T R k i).key = k := hears_key _ _ _ _
theorem hearW_turn (fo : Option Fm) (w : Wk) (q : Ky) (l : Option Nat) : (hearW fo w q l).turn = w.turn + 1 := by
  cases fo with
  | none => rfl
  | some f => cases f <;> cases l <;> rfl
theorem hearW_at (fo : Option Fm) (w : Wk) (q : Ky) (l : Option Nat) : w.at_ ≤ (hearW fo w q l).at_ := by
  cases fo with
  | none => exact Nat.le_refl _
  | some f => cases f <;> cases l <;> first | exact Nat.le_refl _ | exact Nat.le_add_right _ _
theorem hears_turn (fo : Option Fm) (L : Ky → Option Nat) : ∀ (ks : List Ky) (w : Wk), (hears fo L w ks).turn = w.turn + ks.length
  | [], w => rfl
  | k :: ks, w => by
    show (hears fo L (hearW fo w k (L k)) ks).turn = _
    rw [hears_turn fo L ks, hearW_turn, List.length_cons]
    omega
theorem hears_at (fo : Option Fm) (L : Ky → Option Nat) : ∀ (ks : List Ky) (w : Wk), w.at_ ≤ (hears fo L w ks).at_
  | [], w => Nat.le_refl _
  | k :: ks, w => Nat.le_trans (hearW_at fo w k (L k)) (hears_at fo L ks (hearW fo w k (L k)))
theorem wk_at (k : Ky) (i : Nat) : k.2 ≤ (wkAt G T R k i).at_ := hears_at _ _ _ (initW (G k.1) k)
theorem hears_snoc (fo : Option Fm) (L : Ky → Option Nat) (w : Wk) (ks : List Ky) (q : Ky) : hears fo L w (ks ++ [q]) = hearW fo (hears fo L w ks) q (L q) := by
  unfold hears
  rw [List.foldl_append]
  rfl
theorem wk_hear (k q : Ky) (i : Nat) (h : (asksOf G T R k)[i]? = some q) : hearW (G k.1) (wkAt G T R k i) q (R q).len = wkAt G T R k (i + 1) := by
  unfold wkAt
  rw [take_snoc h, hears_snoc]
/-- a work that is not over asks by its form -/
theorem Sys.sane (S : Sys G T R D rk) {k : Ky} (hk : k.2 ≤ T.length) {i : Nat} (hi : i ≤ (asksOf G T R k).length) (ho : (wkAt G T R k i).over = false) :
    ∃ f, G k.1 = some f ∧ f.ok ∧ f.asks = true ∧ ((∃ q, f = .again q) ∨ (wkAt G T R k i).turn ≤ f.parts.length) := by
  have F := S.fol hk
  have fas : ∃ f, G k.1 = some f ∧ f.asks = true := by
    cases i with
    | zero =>
      have e : (wkAt G T R k 0).over = (initW (G k.1) k).over := rfl
      rw [e] at ho
      unfold initW at ho
      cases hG : G k.1 with
      | none => rw [hG] at ho; cases ho
      | some f =>
        rw [hG] at ho
        refine ⟨f, rfl, ?_⟩
        have : (!f.asks) = false := ho
        simpa using this
    | succ i =>
      have hm : (asksOf G T R k)[i]'(by omega) ∈ asksOf G T R k := List.getElem_mem _
      obtain ⟨f, f1, f2, _⟩ := (out_parts (fun f h => S.ok _ f h)).2 _ hm
      exact ⟨f, f1, f2⟩
  obtain ⟨f, hf, ha⟩ := fas
  refine ⟨f, hf, S.ok _ f hf, ha, ?_⟩
  by_cases hag : ∃ q, f = .again q
  · exact .inl hag
  right
  have ht : (wkAt G T R k i).turn = i := by
    unfold wkAt
    rw [hears_turn, List.length_take]
    show 0 + _ = _
    omega
  rw [ht]
  cases i with
  | zero => exact Nat.zero_le _
  | succ i =>
    have h1 := F.wants i (by show i ≤ (asksOf G T R k).length; omega)
    have h2 : (asksOf G T R k)[i]? = some ((asksOf G T R k)[i]'(by omega)) := List.getElem?_eq_getElem (by omega)
    have h3 : wantsW (G k.1) (wkAt G T R k i) = some ((asksOf G T R k)[i]'(by omega)) := h1.trans h2
    have ht' : (wkAt G T R k i).turn = i := by
      unfold wkAt
      rw [hears_turn, List.length_take]
      show 0 + _ = _
      omega
    unfold wantsW at h3
    split at h3
    · cases h3
    rw [hf] at h3
    have h4 : ((f.parts)[(wkAt G T R k i).turn]?).map (fun q => (q, (wkAt G T R k i).at_)) = some ((asksOf G T R k)[i]'(by omega)) := by
      cases f with
      | again q => exact absurd ⟨q, rfl⟩ hag
      | _ => exact h3
    rw [ht'] at h4
    cases h5 : f.parts[i]? with
    | none => rw [h5] at h4; cases h4
    | some q => exact (List.getElem?_eq_some_iff.mp h5).1
theorem Sys.done (S : Sys G T R D rk) {k : Ky} (hk : k.2 ≤ T.length) : (⟨outW (G k.1) T (wkAt G T R k (asksOf G T R k).length), far R k.2 (wkAt G T R k (asksOf G T R k).length).seen - k.2, (wkAt G T R k (asksOf G T R k).length).seen, canon (k.1 :: (wkAt G T R k (asksOf G T R k).length).seen.flatMap fun q => (R q).leans)⟩ : Rc) = R k := by
  have F := S.fol hk
  have e1 : outW (G k.1) T (wkAt G T R k (asksOf G T R k).length) = (out G T (fun j => (R j).len) k).2 := by
    unfold wkAt
    rw [List.take_length]
    exact F.out
  rw [e1, wk_seen, List.take_length]
  exact (S.eqn k hk).symm
end
end Kr
namespace Kr
open PySem PySem.Spec PyProof.Rows L2
section
variable {P : Program} {w : World} {K : PySem.W.Frag} {mg : Str → Option Value} {base : Heap} {k : Nat}
theorem nodup_lenG {α : Type} [DecidableEq α] : ∀ (l D : List α), l.Nodup → (∀ x ∈ l, x ∈ D) → l.length ≤ D.length
  | [], _, _, _ => Nat.zero_le _
  | x :: l, D, hn, hs => by
    obtain ⟨h1, h2⟩ := List.nodup_cons.mp hn
    have hx : x ∈ D := hs x List.mem_cons_self
    have ih := nodup_lenG l (D.erase x) h2 fun y hy => by
      have hne : y ≠ x := fun e => h1 (e ▸ hy)
      exact (List.mem_erase_of_ne hne).2 (hs y (List.mem_cons_of_mem _ hy))
    have e := List.length_erase_of_mem hx
    have hp : 0 < D.length := List.length_pos_of_mem hx
    rw [List.length_cons]
    omega
theorem dom_len {D : List Str} {T : Str} {ks : List Ky} (h : ks.Nodup) (hd : ∀ k ∈ ks, InDom D T k) : ks.length ≤ D.length * (T.length + 1) := by
  have e : ∀ D : List Str, (D.flatMap fun n => (List.range (T.length + 1)).map fun p => ((n, p) : Ky)).length = D.length * (T.length + 1) := by
    intro D
    induction D with
    | nil => simp
    | cons x D ih =>
      rw [List.flatMap_cons, List.length_append, ih, List.length_map, List.length_range, List.length_cons, Nat.succ_mul]
      omega
  rw [← e]
  refine nodup_lenG ks _ h fun k hk => ?_
  obtain ⟨h1, h2⟩ := hd k hk
  exact List.mem_flatMap.mpr ⟨k.1, h1, List.mem_map.mpr ⟨k.2, List.mem_range.mpr (by omega), rfl⟩⟩
theorem dom_few {G : Str → Option Fm} {T : Str} {R : Ky → Rc} {D : List Str} {rk : Str → Nat} (S : Sys G T R D rk) {ks : List Ky} (h : ks.Nodup) (hd : ∀ k ∈ ks, InDom D T k) : ks.length ≤ 72 := by
  have h1 := dom_len h hd
  have h2 := Nat.mul_le_mul S.few (show T.length + 1 ≤ 8 by have := S.tl; omega)
  omega
theorem TabAt.put {R : Ky → Rc} {H : Hp} {t : Addr} {ks : List Ky} (h : TabAt R H t ks) {q : Ky} (hq : q ∉ ks) : ∃ kvs, H t = some (.dT kvs) ∧ kvs.length = ks.length ∧ ∀ a H2, RecAt H a (R q) → H2 = upd H t (.dT (putK kvs (kyK q) (.ref a))) → TabAt R H2 t (ks ++ [q]) := by
  obtain ⟨ad, h1, h2⟩ := h
  refine ⟨_, h1, mkD_len, fun a H2 ha e => ⟨setF ad q a, ?_, fun x hx => ?_⟩⟩
  · rw [e, upd_same]
    have ep : putK (mkD kyK (fun k => V.ref (ad k)) ks) (kyK q) (V.ref a) = mkD kyK (fun k => .ref (setF ad q a k)) (ks ++ [q]) := by
      refine (mkD_put kyK_inj ks q (.ref a)).trans ?_
      rw [addK_no hq]
      refine mkD_congr fun j _ => ?_
      unfold setF
      split <;> rfl
    rw [ep]
  · have im : Imm H H2 := by rw [e]; exact (Imm.refl _).mut h1
    rcases List.mem_append.mp hx with z | z
    · have : x ≠ q := fun e => hq (e ▸ z)
      rw [setF_ne this]
      exact (h2 x z).imm im
    · rw [List.mem_singleton.mp z, setF_same]
      exact ha.imm im
theorem rules_get {H : Hp} {d : Addr} {ks : List Str} {G : Str → Option Fm} (h : RulesAt H d ks G) (dom : ∀ x, x ∈ ks ↔ (G x).isSome = true) (x : Str) : IsD H d ∧ ∃ o, DGet H d (.str x) o ∧ FormV H (o.getD .non) (G x) := by
  obtain ⟨ad, h1, h2⟩ := h
  refine ⟨.inl ⟨_, h1⟩, ?_⟩
  by_cases hx : x ∈ ks
  · obtain ⟨f, f1, f2⟩ := h2 x hx
    refine ⟨some (.ref (ad x)), .inl ⟨_, .inr x, h1, rfl, (mkD_in (f := nmK) (g := fun x => V.ref (ad x)) nmK_inj hx).symm⟩, ?_⟩
    rw [f1]
    exact ⟨ad x, rfl, f2⟩
  · refine ⟨none, .inl ⟨_, .inr x, h1, rfl, (mkD_no (f := nmK) (g := fun x => V.ref (ad x)) nmK_inj hx).symm⟩, ?_⟩
    have : G x = none := by
      cases e : G x with
      | none => rfl
      | some f => exact absurd ((dom x).mpr (by rw [e]; rfl)) hx
    rw [this]
    rfl
theorem mk_work {H1 : Hp} {x dx : Addr} {kk : Ky} {fo : Option Fm} {fv : V} {Qx : Hp → Prop} {E : XK} (hx : H1 x = none) (hdx : H1 dx = none) (hne : dx ≠ x) (hf : FormV H1 fv fo)
    (h : ∀ sd H2, H1 sd = none → sd ≠ x → Keeps [] H1 H2 → Imm H1 H2 → WorkAt K H2 x sd fo (initW fo kk) → Qx H2) :
    spWorkInit K [.ref x, .str kk.1, .int (kk.2 : Nat), fv] (upd (upd H1 dx (.own x)) x (.ins (He.ga K "Work") dx [])) (fun v H2 => Imm (upd (upd H1 dx (.own x)) x (.ins (He.ga K "Work") dx [])) H2 → v = .non ∧ Qx H2) E := by
  have hx2 : upd H1 dx (.own x) x = none := by rw [upd_ne hne.symm]; exact hx
  have i1 := ((Imm.refl H1).new (o := .own x) hdx).new (o := .ins (He.ga K "Work") dx []) hx2
  have k1 := ((Keeps.refl [] H1).new (o := .own x) hdx).new (o := .ins (He.ga K "Work") dx []) hx2
  have e1 : upd (upd H1 dx (.own x)) x (.ins (He.ga K "Work") dx []) x = some (.ins (He.ga K "Work") dx []) := upd_same
  refine ⟨x, dx, kk, fv, fo, rfl, e1, hf.imm i1, fun sd H2 hsd k2 wk => fun m2 => ⟨rfl, h sd H2 (k1.free0 hsd) (fun e => by rw [e, e1] at hsd; cases hsd) ?_ (i1.trans m2) wk⟩⟩
  exact k1.call k2 fun y hy => .inr (by rw [List.mem_singleton.mp hy]; exact hx)
abbrev WsA (Ws : List (Ky × Nat × Addr × Addr)) : List Addr := Ws.flatMap fun e => [e.2.2.1, e.2.2.2]
/-- the state of make -/
structure MkI (K : PySem.W.Frag) (G : Str → Option Fm) (T : Str) (R : Ky → Rc) (D : List Str) (rk : Str → Nat) (t l st : Addr) (H0 H : Hp) (Ws : List (Ky × Nat × Addr × Addr)) (tab_ new : List Ky) : Prop where
  tab : TabAt R H t (tab_ ++ new)
  ord : OrdAt H l new
  stk : H st = some (.lst (Ws.reverse.map fun e => .ref e.2.2.1))
  wks : ∀ e ∈ Ws, WorkAt K H e.2.2.1 e.2.2.2 (G e.1.1) (wkAt G T R e.1 e.2.1)
  ap : (t :: l :: st :: WsA Ws).Nodup
  fr : ∀ x ∈ l :: st :: WsA Ws, H0 x = none
  ok : StkOk (asksOf G T R) (InDom D T) (mu T rk) (Ws.map fun e => (e.1, e.2.1)) (tab_ ++ new)
  kp : Keeps [t] H0 H
  im : Imm H0 H
section
variable {G : Str → Option Fm} {T : Str} {R : Ky → Rc} {D : List Str} {rk : Str → Nat} {t l st : Addr} {H0 H : Hp} {Ws : List (Ky × Nat × Addr × Addr)} {tab new : List Ky}
theorem WorkAt.kp0 {H H' : Hp} {wa sd : Addr} {fo : Option Fm} {w : Wk} (h : WorkAt K H wa sd fo w) (k : Keeps [] H H') (i : Imm H H') : WorkAt K H' wa sd fo w := h.kp k (by simp) (by simp) i
theorem MkI.kp0 {H' : Hp} (M : MkI K G T R D rk t l st H0 H Ws tab new) (k : Keeps [] H H') (i : Imm H H') : MkI K G T R D rk t l st H0 H' Ws tab new :=
  ⟨M.tab.kp k (by simp) i, M.ord.kp k (by simp) i, k.same M.stk, fun e he => (M.wks e he).kp0 k i, M.ap, M.fr, M.ok, M.kp.trans k.nil, M.im.trans i⟩
theorem MkI.live (M : MkI K G T R D rk t l st H0 H Ws tab new) : ∀ x ∈ t :: l :: st :: WsA Ws, H x ≠ none := by
  intro x hx
  rcases List.mem_cons.mp hx with e | hx
  · obtain ⟨ad, h, _⟩ := M.tab
    rw [e, h]
    exact fun z => nomatch z
  rcases List.mem_cons.mp hx with e | hx
  · obtain ⟨es, _, h, _⟩ := M.ord
    rw [e, h]
    exact fun z => nomatch z
  rcases List.mem_cons.mp hx with e | hx
  · rw [e, M.stk]
    exact fun z => nomatch z
  obtain ⟨e, he, hx⟩ := List.mem_flatMap.mp hx
  obtain ⟨dx, fv, h1, h2, _⟩ := M.wks e he
  simp at hx
  rcases hx with z | z
  · rw [z, h1]
    exact fun z => nomatch z
  · rw [z, h2]
    exact fun z => nomatch z
end
def spMake (K : PySem.W.Frag) : Sp := fun vs H Q _ => ∃ (d t : Addr) (T : Str) (k0 : Ky) (ks : List Str) (G : Str → Option Fm) (R : Ky → Rc) (D : List Str) (rk : Str → Nat) (tab : List Ky), vs = [.ref d, .str T, .ref t, .str k0.1, .int (k0.2 : Nat)] ∧
  RulesAt H d ks G ∧ (∀ x, x ∈ ks ↔ (G x).isSome = true) ∧ d ≠ t ∧ TabAt R H t tab ∧ Sys G T R D rk ∧ InDom D T k0 ∧ k0 ∉ tab ∧ tab.Nodup ∧ (∀ x ∈ tab, InDom D T x) ∧
  ∀ l H' new, H l = none → Keeps [t] H H' → TabAt R H' t (tab ++ new) → OrdAt H' l new → (tab ++ new).Nodup → (∀ x ∈ new, InDom D T x) → k0 ∈ new → Q (.ref l) H'
theorem ok_make (T : Tp K mg) (n_Work : CallsN P w K mg base k "Work" (He.ga K "Work") ["self", "name", "place", "form"] (spWorkInit K)) (m_Work_wants : CallsM P w K mg base (k + 1) (He.ga K "Work") "wants" ["self"] (spWants K))
    (m_Work_hear : CallsM P w K mg base (k + 1) (He.ga K "Work") "hear" ["self", "key", "length"] (spHear K)) (c_finished : Calls P w K mg base (k + 1) "finished" ["work", "text", "table"] (spFinished K)) : Calls P w K mg base (k + 1 + 1) "make" ["rules", "text", "table", "name", "place"] (spMake K) := by
  have sc : FnScope ["rules", "text", "table", "name", "place", "keys", "stack", "work", "key"] ["rules", "text", "table", "name", "place"] d_make.scope := ⟨rfl, rfl, rfl, by decide +kernel, rfl, by decide +kernel, by decide +kernel⟩
  refine mkCall T in_make rfl mg_make rfl rfl sc (fun _ _ _ _ _ _ us hl => match us, hl with | [_, _, _, _, _], _ => rfl) (fun vs H Q E h => ?_) (fun f cdv A outer s H vs Q E hr h => ?_)
  · obtain ⟨d, t, TX, k0, ks, G, R, D, rk, tab, rfl, _⟩ := h
    rfl
  obtain ⟨d, t, TX, k0, ks, G, R, D, rk, tab, rfl, hR, hdom, hdt, hTab, S, hk0, hk0t, hnd, htd, k⟩ := h
  refine ⟨_, (pss_cons (ps_set (i := 5) sc.nd rfl (by first | exact Or.inl rfl | exact Or.inr rfl) (pe_lst pa_nil))
      (pss_cons (ps_set (i := 6) sc.nd rfl (by first | exact Or.inl rfl | exact Or.inr rfl) (pe_lst (pa_cons (pmake n_Work hr (pa_cons (pv 3) (pa_cons (pv 4) (pa_cons (pe_dget1 (hu_of hr) (pv 0) (pv 3) ⟨rfl, rfl, rfl, rfl⟩) pa_nil)))) pa_nil)))
      (pss_cons (ps_while PassesOwn.never (pt_cmpR (op_neNil hr.units) (pv 6) (pe_lst pa_nil) (nomark _)) (pss_cons (ps_set (i := 7) sc.nd rfl (by first | exact Or.inl rfl | exact Or.inr rfl) (pe_ix ix_list (pv 6) (pe_un un_neg pe_int) (fun _ _ => rfl)))
      (pss_cons (ps_set (i := 8) sc.nd rfl (by first | exact Or.inl rfl | exact Or.inr rfl) (pmeth0 (pv 7) (T.cls mk_Work) m_Work_wants hr))
      (pss_one (ps_if (pt_cmpR op_isN (pv 8) pe_non (nomark _)) (pss_cons (ps_dput (hu_of hr) (pv 2) (pe_tup (pa_cons (pe_fld (pv 7) rfl) (pa_cons (pe_fld (pv 7) rfl) pa_nil))) (pcall c_finished hr (pa_cons (pv 7) (pa_cons (pv 1) (pa_cons (pv 2) pa_nil)))) rfl)
      (pss_cons (ps_expr (pe_bm PySem.F.plainAttrs_list PySem.F.slot_list_append PySem.F.type_list_append mt_append (pv 5) (pa_cons (pe_tup (pa_cons (pe_fld (pv 7) rfl) (pa_cons (pe_fld (pv 7) rfl) pa_nil))) pa_nil)))
      (pss_one (ps_expr (pe_bm0 PySem.F.plainAttrs_list PySem.F.slot_list_pop PySem.F.type_list_pop mt_pop (pv 6)))))) (pss_one (ps_if (pt_cmp (pc_din (hu_of hr) (pv 8) (pv 2)) rfl) (pss_one (ps_expr (pmeth (pv 7) (T.cls mk_Work) m_Work_hear hr (pa_cons (pv 8) (pa_cons (pe_ix ix_tup (pe_dget (hu_of hr) (pv 2) (pv 8) (fun _ _ => rfl)) pe_int (fun _ _ => rfl)) pa_nil))))) (pss_one (ps_expr (pe_bm PySem.F.plainAttrs_list PySem.F.slot_list_append PySem.F.type_list_append mt_append (pv 6) (pa_cons (pmake n_Work hr (pa_cons (pe_ix ix_tup (pv 8) pe_int (fun _ _ => rfl)) (pa_cons (pe_ix ix_tup (pv 8) pe_int (fun _ _ => rfl)) (pa_cons (pe_dget1 (hu_of hr) (pv 0) (pe_ix ix_tup (pv 8) pe_int (fun _ _ => rfl)) ⟨rfl, rfl, rfl, rfl⟩) pa_nil)))) pa_nil)))))))))))
      (pss_one (ps_ret (pv 5)))))), ?_⟩
  have C := T.cls mk_Work
  refine ⟨by decide, fun l hl => ?_⟩
  have kl := (Keeps.refl [] H).new (o := .lst []) hl
  have il := (Imm.refl H).new (o := .lst []) hl
  have el : upd H l (.lst []) l = some (.lst []) := upd_same
  generalize upd H l (.lst []) = H1 at kl il el ⊢
  have hR1 := hR.kp kl (by simp) il
  obtain ⟨hisd, o, hget, hfv⟩ := rules_get hR1 hdom k0.1
  refine ⟨_, rfl, _, rfl, _, rfl, d, rfl, hisd, _, rfl, o, hget, fun x dx hx hdx hne => ?_⟩
  refine mk_work (kk := k0) hx hdx hne hfv fun sd H2 hsd hsx k2 i2 wk => ?_
  refine ⟨show 1 ≤ sizeLine by decide, fun st hst => ?_⟩
  have tl1 : TabAt R H1 t tab := hTab.kp kl (by simp) il
  have live1 : ∀ y, H1 y ≠ none → H2 y ≠ none := fun y hy e => hy (k2.free0 e)
  obtain ⟨ad, htab1, _⟩ := id tl1
  obtain ⟨dxw, fvw, hwx, hwsd, _⟩ := id wk
  have tX : t ≠ x := ne_of_none htab1 hx
  have tS : t ≠ sd := ne_of_none htab1 hsd
  have lX : l ≠ x := ne_of_none el hx
  have lS : l ≠ sd := ne_of_none el hsd
  have tst : t ≠ st := ne_of_none (k2.same htab1) hst
  have lst' : l ≠ st := ne_of_none (k2.same el) hst
  have xst : x ≠ st := ne_of_none hwx hst
  have sst : sd ≠ st := ne_of_none hwsd hst
  have tl : t ≠ l := by
    obtain ⟨_, h, _⟩ := hTab
    exact ne_of_none h hl
  have kst := (Keeps.refl [] H2).new (o := .lst [V.ref x]) hst
  have ist := (Imm.refl H2).new (o := .lst [V.ref x]) hst
  have est : upd H2 st (.lst [V.ref x]) st = some (.lst [V.ref x]) := upd_same
  generalize upd H2 st (.lst [V.ref x]) = H3 at kst ist est ⊢
  have k13 := k2.trans kst
  have i13 := i2.trans ist
  obtain ⟨mm, newF, hiter, hk0F⟩ := iter_done (A := asksOf G TX R) (V := InDom D TX) (μ := mu TX rk) (fun k hk => S.asks hk) (mu TX rk k0 + 1) _ k0 0 [] tab (Nat.lt_succ_self _) rfl
    ⟨hnd, htd, fun p hp => by
      rw [List.mem_singleton.mp hp]
      exact ⟨hk0, Nat.zero_le _, hk0t, fun j hj => absurd hj (Nat.not_lt_zero _)⟩, List.pairwise_singleton _ _⟩
  have M0 : MkI K G TX R D rk t l st H H3 [(k0, 0, x, sd)] tab [] := by
    refine ⟨by rw [List.append_nil]; exact tl1.kp k13 (by simp) i13, ⟨[], rfl, k13.same el, by simp⟩, est, fun e he => ?_, ?_, fun y hy => ?_, ?_, (kl.trans k13).nil, il.trans i13⟩
    · rw [List.mem_singleton.mp he]
      exact wk.kp0 kst ist
    · show ([t, l, st, x, sd] : List Addr).Nodup
      simp only [List.nodup_cons, List.mem_cons, List.not_mem_nil, or_false, not_or, not_false_eq_true, List.nodup_nil, and_true]
      exact ⟨⟨tl, tst, tX, tS⟩, ⟨lst', lX, lS⟩, ⟨xst.symm, sst.symm⟩, hsx.symm⟩
    · have hy' : y ∈ ([l, st, x, sd] : List Addr) := hy
      simp at hy'
      rcases hy' with z | z | z | z
      · rw [z]; exact hl
      · rw [z]; exact (kl.trans k2).free0 hst
      · rw [z]; exact kl.free0 hx
      · rw [z]; exact kl.free0 hsd
    · rw [List.append_nil]
      exact ⟨hnd, htd, fun p hp => by
        rw [List.mem_singleton.mp hp]
        exact ⟨hk0, Nat.zero_le _, hk0t, fun j hj => absurd hj (Nat.not_lt_zero _)⟩, List.pairwise_singleton _ _⟩
  have dH : ∀ H', Keeps [t] H H' → Imm H H' → RulesAt H' d ks G := fun H' k' i' => hR.kp k' (fun z => hdt (List.mem_singleton.mp z)) i'
  refine ⟨fun m σ H' => ∃ (Ws : List (Ky × Nat × Addr × Addr)) (new : List Ky) (v7 v8 : Option V), σ = [some (.ref d), some (.str TX), some (.ref t), some (.str k0.1), some (.int (k0.2 : Nat)), some (.ref l), some (.ref st), v7, v8] ∧ MkI K G TX R D rk t l st H H' Ws tab new ∧
      iterM (asksOf G TX R) m (Ws.map fun e => (e.1, e.2.1), tab ++ new) = ([], tab ++ newF), ⟨mm, [(k0, 0, x, sd)], [], none, none, rfl, M0, by rw [List.append_nil]; exact hiter⟩, ?_⟩
  rintro m σ H4 ⟨Ws, new, v7, v8, rfl, M, hit⟩
  refine ⟨_, rfl, by decide, fun e he => ⟨st, _, e, rfl, rfl, .inl (by rw [upd_ne (ne_of_none M.stk he)]; exact M.stk), .inl upd_same, _, rfl, ?_⟩⟩
  have Me := M.kp0 ((Keeps.refl [] _).new (o := .lst []) he) ((Imm.refl _).new (o := .lst []) he)
  generalize upd H4 e (.lst []) = H5 at Me ⊢
  cases Ws with
  | nil =>
    refine iteN rfl ?_
    have en : tab ++ new = tab ++ newF := by
      have e1 : ∀ m, iterM (asksOf G TX R) m (([] : List (Ky × Nat)), tab ++ new) = ([], tab ++ new) := by
        intro m
        induction m with
        | zero => rfl
        | succ m ih => exact ih
      have := (e1 m).symm.trans hit
      exact (Prod.mk.inj this).2
    have en' : new = newF := List.append_cancel_left en
    exact ⟨_, rfl, k l H5 new hl Me.kp Me.tab Me.ord Me.ok.nd (fun x hx => Me.ok.tv x (List.mem_append.mpr (.inr hx))) (by rw [en']; exact hk0F)⟩
  | cons top rest =>
    refine iteY (by simp) ?_
    obtain ⟨q, i, wa, sdw⟩ := top
    cases m with
    | zero => cases hit
    | succ m =>
    refine ⟨fun σ' H' => ∃ (Ws : List (Ky × Nat × Addr × Addr)) (new : List Ky) (v7 v8 : Option V), σ' = [some (.ref d), some (.str TX), some (.ref t), some (.str k0.1), some (.int (k0.2 : Nat)), some (.ref l), some (.ref st), v7, v8] ∧ MkI K G TX R D rk t l st H H' Ws tab new ∧
      iterM (asksOf G TX R) m (Ws.map fun e => (e.1, e.2.1), tab ++ new) = ([], tab ++ newF), fun σ' H' h => ⟨m, Nat.lt_succ_self _, h⟩, ?_⟩
    have hit' : iterM (asksOf G TX R) m (stepM (asksOf G TX R) ((q, i) :: rest.map fun e => (e.1, e.2.1), tab ++ new)) = ([], tab ++ newF) := hit
    have erev : (((q, i, wa, sdw) :: rest).reverse.map fun e => V.ref e.2.2.1) = (rest.reverse.map fun e => V.ref e.2.2.1) ++ [V.ref wa] := by rw [List.reverse_cons, List.map_append]; rfl
    have stk5 := Me.stk
    rw [erev] at stk5
    refine ⟨_, rfl, _, rfl, _, _, _, _, rfl, rfl, SqL.of stk5, atI_last _ _, ?_⟩
    have wkT := Me.wks (q, i, wa, sdw) List.mem_cons_self
    obtain ⟨dxw, fvw, hwx, hwsd, hwf⟩ := id wkT
    obtain ⟨okq, oki, oknt, okd⟩ := Me.ok.sv (q, i) (by exact List.mem_cons_self)
    have F := S.fol okq.2
    have hwants : wantsW (G q.1) (wkAt G TX R q i) = (asksOf G TX R q)[i]? := F.wants i oki
    refine ⟨_, rfl, wa, dxw, _, rfl, hwx, rfl, wa, sdw, G q.1, wkAt G TX R q i, rfl, wkT, fun ho => S.sane okq.2 oki ho, fun hnone H6 k6 m6 => ?_, fun q' hq' ka H6 k6 hka m6 => ?_⟩
    · -- the work is done
      rw [hwants] at hnone
      have hi : i = (asksOf G TX R q).length := by
        have := List.getElem?_eq_none_iff.mp hnone
        have h2 : i ≤ (asksOf G TX R q).length := oki
        omega
      rw [stepM_none hnone] at hit'
      have stp := Me.ok.step (fun k hk => S.asks hk)
      have M6 := Me.kp0 k6 m6
      rw [show (((q, i, wa, sdw) :: rest).map fun e => (e.1, e.2.1)) = (q, i) :: rest.map (fun e => (e.1, e.2.1)) from rfl, stepM_none hnone] at stp
      refine ⟨_, rfl, rfl, _, rfl, iteT ?_⟩
      have wk6 := wkT.kp0 k6 m6
      have hap := M6.ap
      have hfr := M6.fr
      have apt : sdw ≠ t ∧ wa ≠ t := by
        have h1 := (List.nodup_cons.mp hap).1
        have h2 : ∀ y ∈ WsA ((q, i, wa, sdw) :: rest), y ≠ t := fun y hy e => h1 (by rw [← e]; exact List.mem_cons_of_mem _ (List.mem_cons_of_mem _ hy))
        exact ⟨h2 _ (by simp [WsA]), h2 _ (by simp [WsA])⟩
      have apl : sdw ≠ l ∧ wa ≠ l ∧ st ≠ l ∧ st ≠ t := by
        obtain ⟨g1, g2⟩ := List.nodup_cons.mp hap
        have h1 := (List.nodup_cons.mp g2).1
        have h2 : ∀ y ∈ WsA ((q, i, wa, sdw) :: rest), y ≠ l := fun y hy e => h1 (by rw [← e]; exact List.mem_cons_of_mem _ hy)
        exact ⟨h2 _ (by simp [WsA]), h2 _ (by simp [WsA]), fun e => h1 (by rw [← e]; simp), fun e => g1 (by rw [← e]; simp)⟩
      have hkeyw := wk_key (G := G) (T := TX) (R := R) q i
      have hseen : (wkAt G TX R q i).seen = once [] (asksOf G TX R q) := by rw [wk_seen, hi, List.take_length]
      have tb6 := M6.tab
      have hsl := once_len (asksOf G TX R q) []
      have hasks := S.asksN q
      have inA : ∀ z ∈ once [] (asksOf G TX R q), z ∈ asksOf G TX R q := fun z hz => ((mem_once _ _ _).mp hz).elim (fun h => by cases h) id
      refine ⟨_, rfl, _, rfl, _, rfl, wa, sdw, t, G q.1, wkAt G TX R q i, TX, R, tab ++ new, D, rfl, wk6, by rw [hkeyw]; exact okq.2, by have := S.tl; omega, by rw [hkeyw]; exact wk_at q i, tb6, apt.1, ?_, ?_, ?_, ?_, by rw [hkeyw]; exact okq.1, by have := S.few; omega, fun ra H7 k7 hrec m7 => ?_⟩
      · rw [hseen]; exact once_nodup _ _ List.nodup_nil
      · rw [hseen]
        rw [List.length_nil] at hsl
        omega
      · rw [hseen]
        intro z hz
        have hz' := inA z hz
        obtain ⟨j, hj⟩ := List.mem_iff_getElem?.mp hz'
        refine ⟨okd j ?_ z hj, S.leansD (S.asks okq z hz').1⟩
        have := (List.getElem?_eq_some_iff.mp hj).1
        omega
      · rw [hseen]
        intro z hz
        have := S.leansN (S.asks okq z (inA z hz)).1
        omega
      rw [hkeyw] at hrec
      rw [hi, S.done okq.2] at hrec
      have M7 := M6.kp0 k7 m7
      have wk7 := wk6.kp0 k7 m7
      obtain ⟨dx7, fv7, hw7, hs7, hf7⟩ := id wk7
      have fl7 : fldsW fv7 sdw (wkAt G TX R q i) = ([("label", .str q.1), ("place", .int (q.2 : Nat)), ("form", fv7), ("seen", .ref sdw), ("at", .int ((wkAt G TX R q i).at_ : Nat)), ("turn", .int ((wkAt G TX R q i).turn : Nat)), ("heard", lenV (wkAt G TX R q i).heard), ("over", .bl (wkAt G TX R q i).over)] : List (Str × V)) := by
        unfold fldsW
        rw [hkeyw]
      rw [fl7] at hw7
      refine ⟨_, rfl, _, rfl, wa, _, dx7, _, _, rfl, hw7, C, T.noat mn_Work_label, rfl, _, rfl, wa, _, dx7, _, _, rfl, hw7, C, T.noat mn_Work_place, rfl, show 2 ≤ sizeLine by decide, fun kt hkt => ?_⟩
      have kk8 := (Keeps.refl [] H7).new (o := .tup [V.str q.1, V.int (q.2 : Nat)]) hkt
      have ii8 := (Imm.refl H7).new (o := .tup [V.str q.1, V.int (q.2 : Nat)]) hkt
      have kt8 : KeyAt (upd H7 kt (.tup [V.str q.1, V.int (q.2 : Nat)])) kt q := upd_same
      generalize upd H7 kt (.tup [V.str q.1, V.int (q.2 : Nat)]) = H8 at kk8 ii8 kt8 ⊢
      have M8 := M7.kp0 kk8 ii8
      have few := dom_few S M8.ok.nd M8.ok.tv
      obtain ⟨kvs, htk, hkl, hput⟩ := M8.tab.put oknt
      have tab9 := hput ra _ (hrec.imm ii8) rfl
      refine ⟨t, _, rfl, .inr ⟨kvs, kyK q, kt, htk, rfl, kt8, by rw [hkl]; exact line5 (by omega), rfl⟩, ?_⟩
      have m9 : Imm H8 (upd H8 t (.dT (putK kvs (kyK q) (.ref ra)))) := (Imm.refl _).mut htk
      have k9 : Keeps [t] H8 (upd H8 t (.dT (putK kvs (kyK q) (.ref ra)))) := (Keeps.refl _ _).mem (by simp)
      generalize upd H8 t (.dT (putK kvs (kyK q) (.ref ra))) = H9 at tab9 m9 k9 ⊢
      have nt : ∀ y, y ≠ t → y ∉ [t] := fun y h z => h (List.mem_singleton.mp z)
      have apR : ∀ y ∈ WsA rest, y ≠ t ∧ y ≠ l ∧ y ≠ st := fun y hy => by
        have hy' : y ∈ WsA ((q, i, wa, sdw) :: rest) := by show y ∈ wa :: sdw :: WsA rest; exact List.mem_cons_of_mem _ (List.mem_cons_of_mem _ hy)
        obtain ⟨g1, g2⟩ := List.nodup_cons.mp hap
        obtain ⟨g3, g4⟩ := List.nodup_cons.mp g2
        have g5 := (List.nodup_cons.mp g4).1
        exact ⟨fun e => g1 (by rw [← e]; exact List.mem_cons_of_mem _ (List.mem_cons_of_mem _ hy')), fun e => g3 (by rw [← e]; exact List.mem_cons_of_mem _ hy'), fun e => g5 (by rw [← e]; exact hy')⟩
      have ord9 : OrdAt H9 l new := M8.ord.kp k9 (nt _ (fun e => by
        have := (List.nodup_cons.mp hap).1
        exact this (by rw [e]; simp))) m9
      have stk9 : H9 st = some (.lst ((rest.reverse.map fun e => V.ref e.2.2.1) ++ [V.ref wa])) := by
        have := M8.stk
        rw [erev] at this
        exact k9 _ _ this (nt _ apl.2.2.2)
      have wk9 := (wk7.kp0 kk8 ii8).kp k9 (nt _ apt.2) (nt _ apt.1) m9
      have rest9 : ∀ e ∈ rest, WorkAt K H9 e.2.2.1 e.2.2.2 (G e.1.1) (wkAt G TX R e.1 e.2.1) := fun e he => (M8.wks e (List.mem_cons_of_mem _ he)).kp k9 (nt _ (apR _ (List.mem_flatMap.mpr ⟨e, he, by simp⟩)).1) (nt _ (apR _ (List.mem_flatMap.mpr ⟨e, he, by simp⟩)).1) m9
      obtain ⟨dx9, fv9, hw9, _, _⟩ := id wk9
      have fl9 : fldsW fv9 sdw (wkAt G TX R q i) = ([("label", .str q.1), ("place", .int (q.2 : Nat)), ("form", fv9), ("seen", .ref sdw), ("at", .int ((wkAt G TX R q i).at_ : Nat)), ("turn", .int ((wkAt G TX R q i).turn : Nat)), ("heard", lenV (wkAt G TX R q i).heard), ("over", .bl (wkAt G TX R q i).over)] : List (Str × V)) := by
        unfold fldsW
        rw [hkeyw]
      rw [fl9] at hw9
      obtain ⟨es, es1, es2, es3⟩ := id ord9
      refine ⟨_, rfl, .inl ⟨rfl, _, SqL.of es2⟩, _, rfl, wa, _, dx9, _, _, rfl, hw9, C, T.noat mn_Work_label, rfl, _, rfl, wa, _, dx9, _, _, rfl, hw9, C, T.noat mn_Work_place, rfl, show 2 ≤ sizeLine by decide, fun ku hku => ?_⟩
      have k10 := (Keeps.refl [] H9).new (o := .tup [V.str q.1, V.int (q.2 : Nat)]) hku
      have i10 := (Imm.refl H9).new (o := .tup [V.str q.1, V.int (q.2 : Nat)]) hku
      have ku10 : KeyAt (upd H9 ku (.tup [V.str q.1, V.int (q.2 : Nat)])) ku q := upd_same
      generalize upd H9 ku (.tup [V.str q.1, V.int (q.2 : Nat)]) = H10 at k10 i10 ku10 ⊢
      have es10 := k10.same es2
      have newl : new.length ≤ 72 := by
        have := few
        rw [List.length_append] at this
        omega
      refine ⟨l, _, _, rfl, rfl, es10, ?_, ?_⟩
      · rw [List.length_map]
        have : es.length = new.length := by rw [← es1, List.length_map]
        exact line5 (by omega)
      have ord10 := ord9.kp k10 (by simp) i10
      have m11 : Imm H10 (upd H10 l (.lst ((es.map fun e => V.ref e.2) ++ [V.ref ku]))) := (Imm.refl _).mut es10
      have k11 : Keeps [l] H10 (upd H10 l (.lst ((es.map fun e => V.ref e.2) ++ [V.ref ku]))) := (Keeps.refl _ _).mem (by simp)
      have ord11 : OrdAt (upd H10 l (.lst ((es.map fun e => V.ref e.2) ++ [V.ref ku]))) l (new ++ [q]) := ord10.add m11 (ku10.imm m11) fun xs hxs => by
        rw [es10] at hxs
        cases hxs
        exact upd_same
      generalize upd H10 l (.lst ((es.map fun e => V.ref e.2) ++ [V.ref ku])) = H11 at m11 k11 ord11 ⊢
      have nl : ∀ y, y ≠ l → y ∉ [l] := fun y h z => h (List.mem_singleton.mp z)
      have stk11 := k11 _ _ (k10.same stk9) (nl _ apl.2.2.1)
      refine ⟨_, rfl, .inl ⟨rfl, _, SqL.of stk11⟩, st, _, V.ref wa, rfl, rfl, stk11, by rw [List.length_append, List.length_singleton]; simp, ?_⟩
      rw [List.dropLast_concat]
      have m12 : Imm H11 (upd H11 st (.lst (rest.reverse.map fun e => V.ref e.2.2.1))) := (Imm.refl _).mut stk11
      have k12 : Keeps [st] H11 (upd H11 st (.lst (rest.reverse.map fun e => V.ref e.2.2.1))) := (Keeps.refl _ _).mem (by simp)
      have ns : ∀ y, y ≠ st → y ∉ [st] := fun y h z => h (List.mem_singleton.mp z)
      refine ⟨rest, new ++ [q], _, _, rfl, ⟨?_, ?_, upd_same, fun e he => ?_, ?_, fun y hy => ?_, ?_, ?_, ?_⟩, by rw [← List.append_assoc]; exact hit'⟩
      · rw [← List.append_assoc]
        refine ((tab9.kp k10 (by simp) i10).kp k11 (nl _ ?_) m11).kp k12 (ns _ apl.2.2.2.symm) m12
        exact fun e => (List.nodup_cons.mp hap).1 (by rw [e]; simp)
      · exact ord11.kp k12 (ns _ apl.2.2.1.symm) m12
      · have a1 := apR e.2.2.1 (List.mem_flatMap.mpr ⟨e, he, by simp⟩)
        have a2 := apR e.2.2.2 (List.mem_flatMap.mpr ⟨e, he, by simp⟩)
        exact (((rest9 e he).kp0 k10 i10).kp k11 (nl _ a1.2.1) (nl _ a2.2.1) m11).kp k12 (ns _ a1.2.2) (ns _ a2.2.2) m12
      · refine hap.sublist ?_
        exact ((((List.Sublist.refl (WsA rest)).cons sdw).cons wa).cons₂ st).cons₂ l |>.cons₂ t
      · refine hfr y ?_
        rcases List.mem_cons.mp hy with z | hy
        · exact List.mem_cons.mpr (.inl z)
        rcases List.mem_cons.mp hy with z | hy
        · exact List.mem_cons_of_mem _ (List.mem_cons.mpr (.inl z))
        · exact List.mem_cons_of_mem _ (List.mem_cons_of_mem _ (List.mem_cons_of_mem _ (List.mem_cons_of_mem _ hy)))
      · rw [← List.append_assoc]
        exact stp
      · refine Keeps.call ((M8.kp.trans k9).trans k10.nil |>.call k11 fun y hy => .inr ?_) k12 fun y hy => .inr ?_
        · rw [List.mem_singleton.mp hy]; exact hl
        · rw [List.mem_singleton.mp hy]; exact hfr st (by simp)
      · exact (((M8.im.trans m9).trans i10).trans m11).trans m12
    · -- the work asks
      have hasked : (asksOf G TX R q)[i]? = some q' := by rw [← hwants]; exact hq'
      have M6 := Me.kp0 k6 m6
      have hil : i < (asksOf G TX R q).length := (List.getElem?_eq_some_iff.mp hasked).1
      have okq' := (S.asks okq q' (List.mem_of_getElem? hasked)).1
      have hap := M6.ap
      have hfr := M6.fr
      have stp := Me.ok.step (fun k hk => S.asks hk)
      refine ⟨_, rfl, rfl, _, rfl, iteF ?_⟩
      by_cases hin : q' ∈ tab ++ new
      · -- it is known
        rw [stepM_in hasked hin] at hit'
        rw [show (((q, i, wa, sdw) :: rest).map fun e => (e.1, e.2.1)) = (q, i) :: rest.map (fun e => (e.1, e.2.1)) from rfl, stepM_in hasked hin] at stp
        obtain ⟨ra, hgt, hrec⟩ := M6.tab.get hin hka
        obtain ⟨la, lb, hra, _, _⟩ := id hrec
        refine ⟨_, rfl, _, rfl, t, _, rfl, hgt, _, rfl, iteT ?_⟩
        have ho : (wkAt G TX R q i).over = false := by
          cases e : (wkAt G TX R q i).over with
          | false => rfl
          | true =>
            unfold wantsW at hq'
            rw [e, if_pos rfl] at hq'
            cases hq'
        obtain ⟨g, hg1, hg2, hg3, _⟩ := S.sane okq.2 oki ho
        have wk6 := wkT.kp0 k6 m6
        rw [hg1] at wk6
        have hsl : (wkAt G TX R q i).seen.length ≤ 1000 := by
          rw [wk_seen]
          have h1 := once_len ((asksOf G TX R q).take i) []
          have h2 := S.asksN q
          rw [List.length_take, List.length_nil] at h1
          omega
        refine ⟨_, rfl, wa, dxw, _, rfl, k6.same hwx, rfl, _, rfl, _, rfl, _, rfl, t, _, rfl, hgt, ra, _, _, _, rfl, rfl, sqt_of hra, at_0 rfl, wa, sdw, ka, g, wkAt G TX R q i, q', (R q').len, rfl, wk6, hka, hg3, ho, hsl, fun H7 k7 wk7 m7 => ?_⟩
        have ewk : hearW (some g) (wkAt G TX R q i) q' (R q').len = wkAt G TX R q (i + 1) := by
          have := wk_hear (G := G) (T := TX) (R := R) q q' i hasked
          rw [hg1] at this
          exact this
        rw [ewk] at wk7
        have hapm : ∀ y, y ∈ [wa, sdw] → y ≠ t ∧ y ≠ l ∧ y ≠ st ∧ y ∉ WsA rest := fun y hy => by
          obtain ⟨g1, g2⟩ := List.nodup_cons.mp hap
          obtain ⟨g3, g4⟩ := List.nodup_cons.mp g2
          obtain ⟨g5, g6⟩ := List.nodup_cons.mp g4
          have g6' : (wa :: sdw :: WsA rest).Nodup := g6
          obtain ⟨g7, g8⟩ := List.nodup_cons.mp g6'
          have g9 := (List.nodup_cons.mp g8).1
          have hy' : y ∈ WsA ((q, i, wa, sdw) :: rest) := by
            show y ∈ wa :: sdw :: WsA rest
            simp at hy
            rcases hy with z | z <;> simp [z]
          refine ⟨fun e => g1 (by rw [← e]; exact List.mem_cons_of_mem _ (List.mem_cons_of_mem _ hy')), fun e => g3 (by rw [← e]; exact List.mem_cons_of_mem _ hy'), fun e => g5 (by rw [← e]; exact hy'), fun e => ?_⟩
          simp at hy
          rcases hy with z | z
          · rw [z] at e; exact g7 (List.mem_cons_of_mem _ e)
          · rw [z] at e; exact g9 e
        have n7 : ∀ y, (∀ x, x ∈ [wa, sdw] → x ≠ y) → y ∉ [wa, sdw] := fun y h z => h y z rfl
        refine ⟨(q, i + 1, wa, sdw) :: rest, new, _, _, rfl, ⟨M6.tab.kp k7 (n7 _ fun x hx => (hapm x hx).1) m7, M6.ord.kp k7 (n7 _ fun x hx => (hapm x hx).2.1) m7, ?_, fun e he => ?_, hap, hfr, stp, M6.kp.call k7 fun y hy => .inr (hfr y ?_), M6.im.trans m7⟩, hit'⟩
        · have := k7 _ _ M6.stk (n7 _ fun x hx => (hapm x hx).2.2.1)
          rw [this]
          simp
        · rcases List.mem_cons.mp he with z | z
          · rw [z]
            show WorkAt K H7 wa sdw (G q.1) (wkAt G TX R q (i + 1))
            rw [hg1]
            exact wk7
          · refine (M6.wks e (List.mem_cons_of_mem _ z)).kp k7 (fun h => (hapm _ h).2.2.2 (List.mem_flatMap.mpr ⟨e, z, by simp⟩)) (fun h => (hapm _ h).2.2.2 (List.mem_flatMap.mpr ⟨e, z, by simp⟩)) m7
        · refine List.mem_cons_of_mem _ (List.mem_cons_of_mem _ ?_)
          show y ∈ wa :: sdw :: WsA rest
          simp at hy
          rcases hy with z | z <;> simp [z]
      · -- a new work
        rw [stepM_out hasked hin] at hit'
        rw [show (((q, i, wa, sdw) :: rest).map fun e => (e.1, e.2.1)) = (q, i) :: rest.map (fun e => (e.1, e.2.1)) from rfl, stepM_out hasked hin] at stp
        have hno := M6.tab.no hin hka
        refine ⟨_, rfl, _, rfl, t, _, rfl, hno, _, rfl, iteF ?_⟩
        have stk6 := M6.stk
        have hR6 := dH H6 M6.kp M6.im
        obtain ⟨hisd6, o6, hget6, hfv6⟩ := rules_get hR6 hdom q'.1
        refine ⟨_, rfl, .inl ⟨rfl, _, SqL.of stk6⟩, ?_⟩
        refine ⟨_, rfl, _, _, _, _, rfl, rfl, sqt_of hka, at_0 rfl, _, rfl, _, _, _, _, rfl, rfl, sqt_of hka, at_1 rfl, _, rfl, d, rfl, hisd6, _, rfl, _, _, _, _, rfl, rfl, sqt_of hka, at_0 rfl, o6, hget6, fun x2 dx2 hx2 hdx2 hne2 => ?_⟩
        refine mk_work (kk := q') hx2 hdx2 hne2 hfv6 fun sd2 H7 hsd2 hsx2 k7 i7 wk7 => ?_
        have M7 := M6.kp0 k7 i7
        have stk7 := M7.stk
        have lenS : (((q, i, wa, sdw) :: rest).reverse.map fun e => V.ref e.2.2.1).length ≤ 100 := by
          have hu := Me.ok.up
          have hsv := Me.ok.sv
          have hnd : (((q, i, wa, sdw) :: rest).map fun e => e.1).Nodup := by
            have h1 : (((q, i, wa, sdw) :: rest).map fun e => (e.1, e.2.1)).Pairwise (fun p r => mu TX rk p.1 < mu TX rk r.1) := hu
            have h2 : ((((q, i, wa, sdw) :: rest).map fun e => (e.1, e.2.1)).map (·.1)).Nodup := by
              unfold List.Nodup
              rw [List.pairwise_map]
              exact List.Pairwise.imp (fun {a b} h e => by rw [e] at h; exact Nat.lt_irrefl _ h) h1
            rw [List.map_map] at h2
            exact h2
          have := dom_few S hnd fun x hx => by
            obtain ⟨e, he, rfl⟩ := List.mem_map.mp hx
            exact (hsv (e.1, e.2.1) (List.mem_map.mpr ⟨e, he, rfl⟩)).1
          rw [List.length_map] at this
          rw [List.length_map, List.length_reverse]
          omega
        refine ⟨st, _, _, rfl, rfl, stk7, line5 (by omega), ?_⟩
        have live := M6.live
        have nx2 : ∀ y ∈ t :: l :: st :: WsA ((q, i, wa, sdw) :: rest), y ≠ x2 ∧ y ≠ sd2 := fun y hy => ⟨fun e => live y hy (by rw [e]; exact hx2), fun e => live y hy (by rw [e]; exact hsd2)⟩
        have m8 : Imm H7 (upd H7 st (.lst ((((q, i, wa, sdw) :: rest).reverse.map fun e => V.ref e.2.2.1) ++ [V.ref x2]))) := (Imm.refl _).mut stk7
        have k8 : Keeps [st] H7 (upd H7 st (.lst ((((q, i, wa, sdw) :: rest).reverse.map fun e => V.ref e.2.2.1) ++ [V.ref x2]))) := (Keeps.refl _ _).mem (by simp)
        have ns : ∀ y, y ≠ st → y ∉ [st] := fun y h z => h (List.mem_singleton.mp z)
        obtain ⟨g1, g2⟩ := List.nodup_cons.mp hap
        obtain ⟨g3, g4⟩ := List.nodup_cons.mp g2
        obtain ⟨g5, g6⟩ := List.nodup_cons.mp g4
        refine ⟨(q', 0, x2, sd2) :: (q, i, wa, sdw) :: rest, new, _, _, rfl, ⟨M7.tab.kp k8 (ns _ fun e => g1 (by rw [e]; simp)) m8, M7.ord.kp k8 (ns _ fun e => g3 (by rw [e]; simp)) m8, ?_, fun e he => ?_, ?_, fun y hy => ?_, stp, M7.kp.call k8 fun y hy => .inr ?_, M7.im.trans m8⟩, hit'⟩
        · rw [upd_same, List.reverse_cons (a := (q', 0, x2, sd2)), List.map_append]
          rfl
        · rcases List.mem_cons.mp he with z | z
          · rw [z]
            exact wk7.kp k8 (ns _ (nx2 st (by simp)).1.symm) (ns _ (nx2 st (by simp)).2.symm) m8
          · have hm : e.2.2.1 ∈ WsA ((q, i, wa, sdw) :: rest) := List.mem_flatMap.mpr ⟨e, z, by simp⟩
            have hm2 : e.2.2.2 ∈ WsA ((q, i, wa, sdw) :: rest) := List.mem_flatMap.mpr ⟨e, z, by simp⟩
            exact (M7.wks e z).kp k8 (ns _ fun h => g5 (by rw [← h]; exact hm)) (ns _ fun h => g5 (by rw [← h]; exact hm2)) m8
        · show (t :: l :: st :: x2 :: sd2 :: WsA ((q, i, wa, sdw) :: rest)).Nodup
          refine List.nodup_cons.mpr ⟨fun h => ?_, List.nodup_cons.mpr ⟨fun h => ?_, List.nodup_cons.mpr ⟨fun h => ?_, List.nodup_cons.mpr ⟨fun h => ?_, List.nodup_cons.mpr ⟨fun h => ?_, g6⟩⟩⟩⟩⟩
          · simp only [List.mem_cons] at h
            rcases h with h | h | h | h | h
            · exact g1 (by rw [h]; simp)
            · exact g1 (by rw [h]; simp)
            · exact (nx2 t (by simp)).1 h
            · exact (nx2 t (by simp)).2 h
            · exact g1 (List.mem_cons_of_mem _ (List.mem_cons_of_mem _ h))
          · simp only [List.mem_cons] at h
            rcases h with h | h | h | h
            · exact g3 (by rw [h]; simp)
            · exact (nx2 l (by simp)).1 h
            · exact (nx2 l (by simp)).2 h
            · exact g3 (List.mem_cons_of_mem _ h)
          · simp only [List.mem_cons] at h
            rcases h with h | h | h
            · exact (nx2 st (by simp)).1 h
            · exact (nx2 st (by simp)).2 h
            · exact g5 h
          · rcases List.mem_cons.mp h with h | h
            · exact hsx2 h.symm
            · exact (nx2 x2 (List.mem_cons_of_mem _ (List.mem_cons_of_mem _ (List.mem_cons_of_mem _ h)))).1 rfl
          · exact (nx2 sd2 (List.mem_cons_of_mem _ (List.mem_cons_of_mem _ (List.mem_cons_of_mem _ h)))).2 rfl
        · have hy' : y ∈ l :: st :: x2 :: sd2 :: WsA ((q, i, wa, sdw) :: rest) := hy
          simp only [List.mem_cons] at hy'
          have back : ∀ z, H6 z = none → z ≠ t → H z = none := fun z hz hzt => M6.kp.free hz (fun h => hzt (List.mem_singleton.mp h))
          rcases hy' with h | h | h | h | h
          · exact hfr y (by rw [h]; simp)
          · exact hfr y (by rw [h]; simp)
          · rw [h]; exact back _ hx2 (nx2 t (by simp)).1.symm
          · rw [h]; exact back _ hsd2 (nx2 t (by simp)).2.symm
          · exact hfr y (List.mem_cons_of_mem _ (List.mem_cons_of_mem _ h))
        · rw [List.mem_singleton.mp hy]
          exact hfr st (by simp)
end
end Kr
/-! rows and records as data -/
namespace Kr
open PySem PySem.Spec PyProof.Rows L2
def lenD : Option Nat → PyData
  | none => .none
  | some n => .int (n : Nat)
def strsD (xs : List Str) : PyData := .list (xs.map .str)
def rowD (r : Rw) : PyData := .tuple [.int (r.num : Nat), .str r.key.1, .int (r.key.2 : Nat), lenD r.len, .int (r.reach : Nat), strsD r.leans]
def rowsD (rs : List Rw) : PyData := .list (rs.map rowD)
theorem okN_strOk {z : Str} (h : okN z) : PyData.strOk z = true := by
  unfold PyData.strOk
  rw [← Array.all_toList, List.all_eq_true]
  intro c hc
  have := okL_lt (h.2.2 c hc)
  exact decide_eq_true (by omega)
theorem lay_all {xs : List PyData} (h : ∀ x ∈ xs, PyData.canLay0 x = true) : PyData.canLayAll0 xs = true := by
  induction xs with
  | nil => rfl
  | cons x xs ih =>
    show (PyData.canLay0 x && PyData.canLayAll0 xs) = true
    rw [h x List.mem_cons_self, ih fun y hy => h y (List.mem_cons_of_mem _ hy)]
    rfl
theorem dep_all {xs : List PyData} {n : Nat} (h : ∀ x ∈ xs, PyData.depth x ≤ n) : PyData.depthAll xs ≤ n := by
  induction xs with
  | nil => exact Nat.zero_le _
  | cons x xs ih =>
    show max (PyData.depth x) (PyData.depthAll xs) ≤ n
    exact Nat.max_le.mpr ⟨h x List.mem_cons_self, ih fun y hy => h y (List.mem_cons_of_mem _ hy)⟩
theorem len_lay (l : Option Nat) : (lenD l).canLay0 = true ∧ (lenD l).depth ≤ 0 := by
  cases l <;> exact ⟨rfl, Nat.le_refl _⟩
theorem strs_lay {xs : List Str} (h : ∀ x ∈ xs, PyData.strOk x = true) : (strsD xs).canLay0 = true ∧ (strsD xs).depth ≤ 1 := by
  refine ⟨lay_all fun x hx => ?_, ?_⟩
  · obtain ⟨z, hz, rfl⟩ := List.mem_map.mp hx
    exact h z hz
  · refine Nat.succ_le_succ (dep_all fun x hx => ?_)
    obtain ⟨z, hz, rfl⟩ := List.mem_map.mp hx
    exact Nat.le_refl _
def RwOk (r : Rw) : Prop := okN r.key.1 ∧ ∀ z ∈ r.leans, okN z
theorem row_lay {r : Rw} (h : RwOk r) : (rowD r).canLay0 = true ∧ (rowD r).depth ≤ 2 := by
  have l := len_lay r.len
  have s := strs_lay fun z hz => okN_strOk (h.2 z hz)
  refine ⟨lay_all fun x hx => ?_, Nat.succ_le_succ (dep_all fun x hx => ?_)⟩
  · simp at hx
    rcases hx with rfl | rfl | rfl | rfl | rfl | rfl
    · rfl
    · exact okN_strOk h.1
    · rfl
    · exact l.1
    · rfl
    · exact s.1
  · simp at hx
    rcases hx with rfl | rfl | rfl | rfl | rfl | rfl
    · exact Nat.zero_le _
    · exact Nat.zero_le _
    · exact Nat.zero_le _
    · exact Nat.le_trans l.2 (Nat.zero_le _)
    · exact Nat.zero_le _
    · exact s.2
theorem rows_lay {rs : List Rw} (h : ∀ r ∈ rs, RwOk r) : (rowsD rs).canLay0 = true ∧ (rowsD rs).depth ≤ 3 := by
  refine ⟨lay_all fun x hx => ?_, Nat.succ_le_succ (dep_all fun x hx => ?_)⟩
  · obtain ⟨r, hr, rfl⟩ := List.mem_map.mp hx
    exact (row_lay (h r hr)).1
  · obtain ⟨r, hr, rfl⟩ := List.mem_map.mp hx
    exact (row_lay (h r hr)).2
theorem shp {d : PyData} {n : Nat} (h : d.canLay0 = true ∧ d.depth ≤ n) (hn : n ≤ 64) : SeqAt.shaped d = true := by
  unfold SeqAt.shaped
  rw [h.1, Bool.true_and]
  exact decide_eq_true (by omega)
/-- the length and the reach, as a pair -/
def pairD (l : Option Nat) (r : Nat) : PyData := .tuple [lenD l, .int (r : Nat)]
theorem pair_lay (l : Option Nat) (r : Nat) : (pairD l r).canLay0 = true ∧ (pairD l r).depth ≤ 1 := by
  cases l <;> exact ⟨rfl, Nat.le_refl _⟩
/-- the length, the reach and the names -/
def tripD (l : Option Nat) (r : Nat) (xs : List Str) : PyData := .tuple [lenD l, .int (r : Nat), strsD xs]
theorem trip_lay (l : Option Nat) (r : Nat) {xs : List Str} (h : ∀ z ∈ xs, okN z) : (tripD l r xs).canLay0 = true ∧ (tripD l r xs).depth ≤ 2 := by
  have a := len_lay l
  have s := strs_lay fun z hz => okN_strOk (h z hz)
  refine ⟨lay_all fun x hx => ?_, Nat.succ_le_succ (dep_all fun x hx => ?_)⟩
  · simp at hx
    rcases hx with rfl | rfl | rfl
    · exact a.1
    · rfl
    · exact s.1
  · simp at hx
    rcases hx with rfl | rfl | rfl
    · exact Nat.le_trans a.2 (Nat.zero_le _)
    · exact Nat.zero_le _
    · exact s.2
theorem self_eqv {d : PyData} (h : d.canLay0 = true) : PyData.eqv d d = true := PySem.SeqAt.eqv_refl d h
theorem neS {d : PyData} (h : d.canLay0 = true) : V.bl (!PyData.eqv d d) = V.bl false := by rw [self_eqv h]; rfl
theorem qneF {Q : VK} {d : PyData} {H : Hp} (h : d.canLay0 = true) (q : Q (.bl false) H) : Q (.bl (!PyData.eqv d d)) H := by rw [self_eqv h]; exact q
theorem dp_pair {K : PySem.W.Frag} {H : Hp} {a : Addr} {l : Option Nat} {r : Nat} (h : SqT K H a [lenV l, .int (r : Nat)]) : Dp K H (.ref a) (pairD l r) := .tup h (.cons (by cases l with | none => exact .non | some n => exact .int _) (.cons (.int _) .nil))
section
variable {K : PySem.W.Frag} {H : Hp}
theorem dp_len (l : Option Nat) : Dp K H (lenV l) (lenD l) := by
  cases l with
  | none => exact .non
  | some n => exact .int _
theorem dp_strs {a : Addr} {xs : List Str} (h : SqL K H a (xs.map V.str)) : Dp K H (.ref a) (strsD xs) := by
  refine .lst h ?_
  clear h
  induction xs with
  | nil => exact .nil
  | cons x xs ih => exact .cons (.str x) ih
theorem dp_row {a : Addr} {r : Rw} (h : RowAt H a r) : Dp K H (.ref a) (rowD r) := by
  obtain ⟨lb, h1, h2⟩ := h
  exact .tup (sqt_of h1) (.cons (.int _) (.cons (.str _) (.cons (.int _) (.cons (dp_len _) (.cons (.int _) (.cons (dp_strs h2.sq) .nil))))))
theorem dp_rows {a : Addr} {es : List (Rw × Addr)} (h : SqL K H a (es.map fun e => .ref e.2)) (he : ∀ e ∈ es, RowAt H e.2 e.1) : Dp K H (.ref a) (rowsD (es.map (·.1))) := by
  refine .lst h ?_
  clear h
  induction es with
  | nil => exact .nil
  | cons e es ih => exact .cons (dp_row (he e List.mem_cons_self)) (ih fun x hx => he x (List.mem_cons_of_mem _ hx))
theorem dp_trip {a lb : Addr} {l : Option Nat} {r : Nat} {xs : List Str} (h : SqT K H a [lenV l, .int (r : Nat), .ref lb]) (hb : SqL K H lb (xs.map V.str)) : Dp K H (.ref a) (tripD l r xs) := .tup h (.cons (dp_len l) (.cons (.int _) (.cons (dp_strs hb) .nil)))
end
/-! ### a book as a dict -/
theorem merge_new : ∀ (kvs acc : List (L2.Key × V)), (∀ p ∈ kvs, valV acc p.1 = none) → (kvs.map (·.1)).Nodup → mergeK acc kvs = acc ++ kvs
  | [], acc, _, _ => by show acc = acc ++ []; rw [List.append_nil]
  | p :: kvs, acc, h, hn => by
    show mergeK (putK acc p.1 p.2) kvs = _
    obtain ⟨h1, h2⟩ := List.nodup_cons.mp hn
    have h1 : p.1 ∉ kvs.map (·.1) := h1
    rw [putK_new p.2 (h p List.mem_cons_self), merge_new kvs _ (fun q hq => ?_) h2, List.append_assoc]
    · rfl
    · rw [valV_snoc _ _ _ _ (h p List.mem_cons_self), if_neg fun e => h1 (by rw [← e]; exact List.mem_map.mpr ⟨q, hq, rfl⟩)]
      exact h q (List.mem_cons_of_mem _ hq)
/-- the book's pairs: their addresses, the forms' addresses -/
theorem book_pairs {K : PySem.W.Frag} {H : Hp} : ∀ (es : List ((Str × Fm) × Addr)), (es.map fun e => e.1.1).Nodup → (∀ e ∈ es, ∃ fa, H e.2 = some (.tup [.str e.1.1, .ref fa]) ∧ FormAt H fa e.1.2) →
    ∃ ad : Str → Addr, Paired (fun (p : Addr) (kv : L2.Key × V) => SqT K H p [kV kv.1, kv.2]) (es.map (·.2)) (mkD nmK (fun x => V.ref (ad x)) (es.map fun e => e.1.1)) ∧ ∀ e ∈ es, FormAt H (ad e.1.1) e.1.2
  | [], _, _ => ⟨fun _ => 0, .nil, by simp⟩
  | e :: es, hn, h => by
    obtain ⟨h1, h2⟩ := List.nodup_cons.mp hn
    have h1 : e.1.1 ∉ es.map (fun e => e.1.1) := h1
    obtain ⟨ad, g1, g2⟩ := book_pairs (K := K) es h2 fun x hx => h x (List.mem_cons_of_mem _ hx)
    obtain ⟨fa, f1, f2⟩ := h e List.mem_cons_self
    refine ⟨setF ad e.1.1 fa, ?_, fun x hx => ?_⟩
    · have e2 : mkD nmK (fun x => V.ref (setF ad e.1.1 fa x)) (es.map fun e => e.1.1) = mkD nmK (fun x => V.ref (ad x)) (es.map fun e => e.1.1) := mkD_congr fun y hy => by rw [setF_ne fun z : y = e.1.1 => h1 (by rw [← z]; exact hy)]
      show Paired _ (e.2 :: es.map (·.2)) ((nmK e.1.1, V.ref (setF ad e.1.1 fa e.1.1)) :: mkD nmK (fun x => V.ref (setF ad e.1.1 fa x)) (es.map fun e => e.1.1))
      rw [e2, setF_same]
      exact .cons (sqt_of f1) g1
    · rcases List.mem_cons.mp hx with z | z
      · rw [z, setF_same]; exact f2
      · rw [setF_ne fun q => h1 (by rw [← q]; exact List.mem_map.mpr ⟨x, z, rfl⟩)]
        exact g2 x z
/-- the rules that a book says -/
def bookG (bs : List (Str × Fm)) : Str → Option Fm := fun x => (bs.find? fun b => decide (b.1 = x)).map (·.2)
theorem bookG_in {bs : List (Str × Fm)} (hn : (bs.map (·.1)).Nodup) {b : Str × Fm} (hb : b ∈ bs) : bookG bs b.1 = some b.2 := by
  induction bs with
  | nil => cases hb
  | cons c bs ih =>
    obtain ⟨h1, h2⟩ := List.nodup_cons.mp hn
    have h1 : c.1 ∉ bs.map (·.1) := h1
    unfold bookG
    rcases List.mem_cons.mp hb with e | e
    · rw [e, List.find?_cons_of_pos (by simp)]
      rfl
    · have : ¬ c.1 = b.1 := fun z => h1 (by rw [z]; exact List.mem_map.mpr ⟨b, e, rfl⟩)
      rw [List.find?_cons_of_neg (by simpa using this)]
      exact ih h2 e
theorem bookG_some {bs : List (Str × Fm)} {x : Str} {f : Fm} (h : bookG bs x = some f) : (x, f) ∈ bs := by
  unfold bookG at h
  cases e : bs.find? (fun b => decide (b.1 = x)) with
  | none => rw [e] at h; cases h
  | some b =>
    rw [e] at h
    have h1 := List.find?_some e
    have h2 := List.mem_of_find?_eq_some e
    have h3 : b.2 = f := Option.some.inj h
    have h4 : b.1 = x := of_decide_eq_true h1
    rw [← h3, ← h4]
    exact h2
theorem bookG_dom {bs : List (Str × Fm)} (hn : (bs.map (·.1)).Nodup) (x : Str) : x ∈ bs.map (·.1) ↔ (bookG bs x).isSome = true := by
  constructor
  · intro h
    obtain ⟨b, hb, rfl⟩ := List.mem_map.mp h
    rw [bookG_in hn hb]
    rfl
  · intro h
    cases e : bookG bs x with
    | none => rw [e] at h; cases h
    | some f => exact List.mem_map.mpr ⟨_, bookG_some e, rfl⟩
/-- dict(book) -/
theorem book_dict (K : PySem.W.Frag) {H : Hp} {a : Addr} {bs : List (Str × Fm)} (h : BookAt H a bs) (hn : (bs.map (·.1)).Nodup) :
    ∃ (ps : List Addr) (kvs : List (L2.Key × V)), SqL K H a (ps.map V.ref) ∧ Paired (fun p kv => SqT K H p [kV kv.1, kv.2]) ps kvs ∧ ∀ p, H p = none → Keeps [] H (upd H p (.dK (mergeK [] kvs))) ∧ Imm H (upd H p (.dK (mergeK [] kvs))) ∧ RulesM (upd H p (.dK (mergeK [] kvs))) p (bs.map (·.1)) (bookG bs) := by
  obtain ⟨o, es, e1, e2, e3⟩ := h
  have e4 : (es.map fun e => e.1.1) = bs.map (·.1) := by rw [← e1, List.map_map]; rfl
  obtain ⟨ad, g1, g2⟩ := book_pairs (K := K) es (by rw [e4]; exact hn) e3
  refine ⟨es.map (·.2), _, sq_fr (by rw [e2, List.map_map]; rfl), g1, fun p hp => ?_⟩
  have em : mergeK [] (mkD nmK (fun x => V.ref (ad x)) (es.map fun e => e.1.1)) = mkD nmK (fun x => V.ref (ad x)) (bs.map (·.1)) := by
    rw [merge_new _ _ (fun _ _ => rfl), e4]
    · rfl
    · unfold mkD
      rw [List.map_map]
      have : (es.map fun e => nmK e.1.1).Nodup := by
        have h1 : ((es.map fun e => e.1.1).map nmK).Nodup := by
          unfold List.Nodup
          rw [List.pairwise_map]
          rw [e4]
          exact List.Pairwise.imp (fun {a b} h e => h (nmK_inj _ _ e)) hn
        rw [List.map_map] at h1
        exact h1
      rw [List.map_map]
      exact this
  rw [em]
  have i1 := (Imm.refl H).new (o := .dK (mkD nmK (fun x => V.ref (ad x)) (bs.map (·.1)))) hp
  refine ⟨(Keeps.refl _ _).new hp, i1, ad, upd_same, fun x hx => ?_⟩
  obtain ⟨b, hb, rfl⟩ := List.mem_map.mp hx
  refine ⟨b.2, bookG_in hn hb, ?_⟩
  rw [← e1] at hb
  obtain ⟨e, he, rfl⟩ := List.mem_map.mp hb
  exact (g2 e he).imm i1
end Kr
namespace Kr
open PySem PySem.Spec PyProof.Rows L2
section
variable {P : Program} {w : World} {K : PySem.W.Frag} {mg : Str → Option Value} {base : Heap} {k : Nat}
/-- rows that are all the readings -/
structure RowsOk (T : Str) (R : Ky → Rc) (D : List Str) (rs : List Rw) : Prop where
  val : ∀ r ∈ rs, InDom D T r.key ∧ r.len = (R r.key).len ∧ r.reach = (R r.key).reach ∧ r.leans = (R r.key).leans
  ndK : (rs.map (·.key)).Nodup
  ndN : (rs.map (·.num)).Nodup
  all : ∀ k, InDom D T k → k ∈ rs.map (·.key)
  few : rs.length ≤ 72
theorem RowsOk.ok {G : Str → Option Fm} {T : Str} {R : Ky → Rc} {D : List Str} {rk : Str → Nat} {rs : List Rw} (h : RowsOk T R D rs) (S : Sys G T R D rk) : ∀ r ∈ rs, RwOk r := fun r hr => by
  obtain ⟨h1, _, _, h4⟩ := h.val r hr
  exact ⟨S.nm _ h1.1, fun z hz => S.nm _ (S.leansD h1 z (by rw [← h4]; exact hz))⟩
theorem new_of_nodup {α β : Type} [DecidableEq β] {f : α → β} {l : List α} {i : Nat} {x : α} (hn : (l.map f).Nodup) (h : l[i]? = some x) : f x ∉ (l.take i).map f := by
  intro hz
  obtain ⟨j, hj⟩ := List.mem_iff_getElem?.mp hz
  rw [List.getElem?_map] at hj
  have hi : (l.map f)[i]? = some (f x) := by rw [List.getElem?_map, h]; rfl
  have hj2 : (l.take i)[j]? ≠ none := fun e => by rw [e] at hj; cases hj
  rw [List.getElem?_take] at hj hj2
  split at hj
  · rename_i hji
    have hj3 : (l.map f)[j]? = some (f x) := by rw [List.getElem?_map]; exact hj
    have hlt : j < (l.map f).length := (List.getElem?_eq_some_iff.mp hj3).1
    have := (List.getElem?_inj hlt hn).mp (hj3.trans hi.symm)
    omega
  · cases hj
def spAreRows : Sp := fun vs H Q _ => ∃ (b rl : Addr) (T : Str) (bs : List (Str × Fm)) (rs : List Rw) (R : Ky → Rc) (D : List Str) (rk : Str → Nat), vs = [.ref b, .str T, .ref rl] ∧ BookAt H b bs ∧ (bs.map (·.1)).Nodup ∧ RowsAt H rl rs ∧ Sys (bookG bs) T R D rk ∧ RowsOk T R D rs ∧
  ∀ H', Keeps [] H H' → Q (.bl true) H'
theorem ok_are_rows (T : Tp K mg) (c_is_kept_row : Calls P w K mg base k "is_kept_row" ["thing", "far"] spIsKept) (c_are_unlike : Calls P w K mg base k "are_unlike" ["things"] spUnlike) (c_make : Calls P w K mg base k "make" ["rules", "text", "table", "name", "place"] (spMake K)) : Calls P w K mg base (k + 1) "are_rows" ["book", "text", "rows"] spAreRows := by
  have sc : FnScope ["book", "text", "rows", "row", "keys", "table", "number", "name", "place", "length", "reach", "leans", "record", "key"] ["book", "text", "rows"] d_are_rows.scope := ⟨rfl, rfl, rfl, by decide +kernel, rfl, by decide +kernel, by decide +kernel⟩
  refine mkCall T in_are_rows rfl mg_are_rows rfl rfl sc (fun _ _ _ _ _ _ us hl => match us, hl with | [_, _, _], _ => rfl) (fun vs H Q E h => ?_) (fun f cdv A outer s H vs Q E hr h => ?_)
  · obtain ⟨b, rl, TX, bs, rs, R, D, rk, rfl, _⟩ := h
    rfl
  obtain ⟨b, rl, TX, bs, rs, R, D, rk, rfl, hB, hbn, ⟨o, es, ee, hrl, he⟩, S, RO, k⟩ := h
  refine ⟨_, (pss_cons (ps_if (pt_not (pt_val (pe_callB call_isi (by rfl) (T.fre _ mf_isinstance) bt_isinstance (pa_cons (pv 2) (pa_cons (pe_bltn (v := .ty "list") (by rfl) (T.fre _ mf_list) bt_list rfl) pa_nil))))) (pss_one (ps_ret pe_bl)) pss_nil)
      (pss_cons (ps_for PassesOwn.never rfl (pi_list (pv 2)) (pg_name (i := 3) sc.nd rfl (by first | exact Or.inl rfl | exact Or.inr rfl))
        (pss_one (ps_if (pt_not (pt_val (pcall c_is_kept_row hr (pa_cons (pv 3) (pa_cons (pe_callB call_len_str (by rfl) (T.fre _ mf_len) bt_len (pa_cons (pv 1) pa_nil)) pa_nil))))) (pss_one (ps_ret pe_bl)) pss_nil)))
      (pss_cons (ps_set (i := 4) sc.nd rfl (by first | exact Or.inl rfl | exact Or.inr rfl) pe_dnewT)
      (pss_cons (ps_for PassesOwn.never rfl (pi_list (pv 2)) (pg_name (i := 3) sc.nd rfl (by first | exact Or.inl rfl | exact Or.inr rfl))
        (pss_one (ps_dput (hu_of hr) (pv 4) (pe_tup (pa_cons (pe_ix ix_tup (pv 3) pe_int (fun _ _ => rfl)) (pa_cons (pe_ix ix_tup (pv 3) pe_int (fun _ _ => rfl)) pa_nil))) pe_bl rfl)))
      (pss_cons (ps_if (PW.pt (pw_or (pt_cmpR op_ne (pe_callB call_len_dT (by rfl) (T.fre _ mf_len) bt_len (pa_cons (pv 4) pa_nil)) (pe_callB call_len_seq (by rfl) (T.fre _ mf_len) bt_len (pa_cons (pv 2) pa_nil)) (nomark _)) (pw_or1 (pt_not (pt_val (pcall c_are_unlike hr (pa_cons (pe_lc (own := [("row", 3)]) rfl sc.nd (pi_list (pv 2)) (blkOk_by (by kernel_rfl)) (fun _ _ _ _ _ => (pg_name (i := 3) sc.nd rfl (by first | exact Or.inl rfl | exact Or.inr rfl))) (fun _ _ _ _ _ => pts_nil) (fun _ _ _ _ _ => (pe_ix (ix_tupK (K := K) rfl) (pv 3) pe_int (fun _ _ => rfl)))) pa_nil))))))) (pss_one (ps_ret pe_bl)) pss_nil)
      (pss_cons (ps_set (i := 5) sc.nd rfl (by first | exact Or.inl rfl | exact Or.inr rfl) pe_dnewT)
      (pss_cons (ps_for PassesOwn.never rfl (pi_list (pv 2)) (pg_tupK (K := K) (n := 6) rfl rfl (pgs_cons (pg_name (i := 6) sc.nd rfl (by first | exact Or.inl rfl | exact Or.inr rfl)) (pgs_cons (pg_name (i := 7) sc.nd rfl (by first | exact Or.inl rfl | exact Or.inr rfl)) (pgs_cons (pg_name (i := 8) sc.nd rfl (by first | exact Or.inl rfl | exact Or.inr rfl)) (pgs_cons (pg_name (i := 9) sc.nd rfl (by first | exact Or.inl rfl | exact Or.inr rfl)) (pgs_cons (pg_name (i := 10) sc.nd rfl (by first | exact Or.inl rfl | exact Or.inr rfl)) (pgs_cons (pg_name (i := 11) sc.nd rfl (by first | exact Or.inl rfl | exact Or.inr rfl)) pgs_nil)))))))
        (pss_cons (ps_if (pt_cmp (pc_dnotin (hu_of hr) (pe_tup (pa_cons (pv 7) (pa_cons (pv 8) pa_nil))) (pv 5)) rfl) (pss_one (ps_expr (pcall c_make hr (pa_cons (pe_callTy (call_dictP rfl) (by rfl) (T.fre _ mf_dict) bt_dict (pa_cons (pv 0) pa_nil)) (pa_cons (pv 1) (pa_cons (pv 5) (pa_cons (pv 7) (pa_cons (pv 8) pa_nil)))))))) pss_nil)
      (pss_cons (ps_set (i := 12) sc.nd rfl (by first | exact Or.inl rfl | exact Or.inr rfl) (pe_dget (hu_of hr) (pv 5) (pe_tup (pa_cons (pv 7) (pa_cons (pv 8) pa_nil))) (fun _ _ => rfl)))
      (pss_cons (ps_if (PW.pt (pw_or (pt_cmpR (op_neD hr.units) (pe_tup (pa_cons (pv 9) (pa_cons (pv 10) pa_nil))) (pe_slice sl_tup (pv 12) po_none (po_some pe_int)) (nomark _)) (pw_or1 (pt_cmpR (op_neD hr.units) (pv 11) (pe_ix ix_tup (pv 12) pe_int (fun _ _ => rfl)) (nomark _))))) (pss_one (ps_ret pe_bl)) pss_nil)
      (pss_one (ps_for PassesOwn.never rfl (pi_list (pe_ix ix_tup (pv 12) pe_int (fun _ _ => rfl))) (pg_name (i := 13) sc.nd rfl (by first | exact Or.inl rfl | exact Or.inr rfl))
        (pss_one (ps_if (pt_cmp (pc_dnotin (hu_of hr) (pv 13) (pv 4)) rfl) (pss_one (ps_ret pe_bl)) pss_nil))))))))
      (pss_one (ps_ret pe_bl))))))))), ?_⟩
  have les : es.length = rs.length := by rw [← ee, List.length_map]
  have few := RO.few
  have tl := S.tl
  have hz : TX.length ≤ sizeLine := line5' (by omega)
  have ein : ∀ e ∈ es, e.1 ∈ rs := fun e hem => by rw [← ee]; exact List.mem_map.mpr ⟨e, hem, rfl⟩
  have sq : ∀ H', Keeps [] H H' → SqL K H' rl (es.map fun e => .ref e.2) := fun H' k' => sq_fr (k'.same hrl)
  refine ⟨_, rfl, _, _, _, _, _, rfl, .ty _, .base (.frz hrl), rfl, _, rfl, iteF ?_⟩
  refine ⟨_, rfl, _, rfl, ⟨_, sq _ (Keeps.refl _ _)⟩, ?_⟩
  refine for_it (walk_list (xs := es.map fun e : Rw × Addr => V.ref e.2)) (fun i σ H' => ∃ v, σ = [some (.ref b), some (.str TX), some (.ref rl), v, none, none, none, none, none, none, none, none, none, none] ∧ Keeps [] H H' ∧ Imm H H') ⟨none, rfl, Keeps.refl _ _, Imm.refl _⟩ (fun i σ H' _ ⟨v, _, k', _⟩ => sq _ k') ?_ ?_
  · rintro i x σ H1 H1' hi ⟨v, rfl, k1, m1⟩ ⟨rfl, hx⟩
    obtain ⟨e, _, hm, rfl⟩ := getM hx
    have vv := RO.val _ (ein e hm)
    refine ⟨_, rfl, _, rfl, TX, rfl, hz, e.2, e.1, TX.length, rfl, (he e hm).imm m1, S.nm _ vv.1.1, vv.1.2, fun H2 k2 m2 => ⟨_, rfl, iteF ⟨_, rfl, k1.trans k2, m1.trans m2⟩⟩⟩
  rintro σ H1 ⟨v, rfl, k1, m1⟩
  intro kd hkd
  have hkdH : H kd = none := k1.free0 hkd
  refine ⟨_, rfl, _, rfl, ⟨_, sq _ (k1.new hkd)⟩, ?_⟩
  refine for_it (walk_list (xs := es.map fun e : Rw × Addr => V.ref e.2)) (fun i σ H' => ∃ v, σ = [some (.ref b), some (.str TX), some (.ref rl), v, some (.ref kd), none, none, none, none, none, none, none, none, none] ∧ Keeps [] H H' ∧ Imm H H' ∧ H' kd = some (.dT (mkD kyK (fun _ => .bl true) ((rs.take i).map (·.key))))) ⟨v, rfl, k1.new hkd, m1.new hkd, upd_same⟩ (fun i σ H' _ ⟨v, _, k', _⟩ => sq _ k') ?_ ?_
  · rintro i x σ H2 H2' hi ⟨v, rfl, k2, m2, e2⟩ ⟨rfl, hx⟩
    obtain ⟨e, he1, hm, rfl⟩ := getM hx
    obtain ⟨lb, q1, q2⟩ := (he e hm).imm m2
    have sqr := sqt_of (K := K) q1
    have hri : rs[i]? = some e.1 := by rw [← ee, List.getElem?_map, he1]; rfl
    refine ⟨_, rfl, _, rfl, _, _, _, _, rfl, rfl, sqr, at_1 rfl, _, rfl, _, _, _, _, rfl, rfl, sqr, at_2 rfl, show 2 ≤ sizeLine by decide, fun kt hkt => ?_⟩
    have k3 := k2.new (o := .tup [V.str e.1.key.1, V.int (e.1.key.2 : Nat)]) hkt
    have m3 := m2.new (o := .tup [V.str e.1.key.1, V.int (e.1.key.2 : Nat)]) hkt
    have t3 : KeyAt (upd H2' kt (.tup [V.str e.1.key.1, V.int (e.1.key.2 : Nat)])) kt e.1.key := upd_same
    have e3 : upd H2' kt (.tup [V.str e.1.key.1, V.int (e.1.key.2 : Nat)]) kd = some (.dT (mkD kyK (fun _ => .bl true) ((rs.take i).map (·.key)))) := by rw [upd_ne (ne_of_none e2 hkt)]; exact e2
    generalize upd H2' kt (.tup [V.str e.1.key.1, V.int (e.1.key.2 : Nat)]) = H3 at k3 m3 t3 e3 ⊢
    have hnew := new_of_nodup RO.ndK hri
    refine ⟨kd, _, rfl, .inr ⟨_, kyK e.1.key, kt, e3, rfl, t3, ?_, rfl⟩, _, rfl, k3.own hkdH, m3.mut e3, ?_⟩
    · rw [mkD_len, List.length_map, List.length_take]
      exact line5 (by omega)
    · rw [put_trueT, addK_no hnew, take_snoc hri, List.map_append]
      exact upd_same
  rintro σ H2 ⟨v2, rfl, k2, m2, e2⟩
  rw [List.length_map, les, List.take_length] at e2
  have mkl : (mkD kyK (fun _ => V.bl true) (rs.map (·.key))).length = rs.length := by rw [mkD_len, List.length_map]
  refine ⟨_, rfl, kd, _, rfl, e2, _, rfl, rl, _, rfl, .inl (sq _ k2), rfl, _, rfl, ?_⟩
  refine iteN (by rw [mkl, List.length_map, les]; simp) ?_
  refine ⟨_, rfl, _, rfl, ⟨_, sq _ k2⟩, fun D1 hD1 => lc_fun es (fun _ => true) (fun n : Nat => V.int (n : Nat)) (fun e => e.1.num) walk_list (by rw [List.length_map]) (by omega) hD1 (fun H' k' _ => sq _ (k2.trans k')) ?_ ?_⟩
  · rintro i y x H3 H3' hy k3 m3 ⟨rfl, hx⟩ R' N hR _
    obtain ⟨e, he1, hm, rfl⟩ := getM hx
    obtain rfl : e = y := Option.some.inj (he1.symm.trans hy)
    obtain ⟨lb, q1, q2⟩ := (he e hm).imm (m2.trans m3)
    exact ⟨rfl, _, rfl, _, _, _, _, rfl, rfl, sqt_of q1, at_0 rfl, hR rfl _ (Keeps.refl _ _) (Imm.refl _)⟩
  intro H3 k3 m3 e3
  rw [filter_all_true] at e3
  have en : (es.map fun e => e.1.num) = rs.map (·.num) := by rw [← ee, List.map_map]; rfl
  rw [en] at e3
  refine ⟨D1, rs.map (·.num), rfl, e3, RO.ndN, by rw [List.length_map]; omega, fun H4 k4 m4 => ⟨_, rfl, iteF ?_⟩⟩
  have k24 := (k2.trans k3).trans k4
  have m24 := (m2.trans m3).trans m4
  have e4 := (k3.trans k4).same e2
  intro tb htb
  have htbH : H tb = none := k24.free0 htb
  have k5 := k24.new (o := .dT []) htb
  have m5 := m24.new (o := .dT []) htb
  have e5 : upd H4 tb (.dT []) kd = some (.dT (mkD kyK (fun _ => .bl true) (rs.map (·.key)))) := by rw [upd_ne (ne_of_none e4 htb)]; exact e4
  have ktb : kd ≠ tb := ne_of_none e4 htb
  have t5 : TabAt R (upd H4 tb (.dT [])) tb [] := ⟨fun _ => 0, upd_same, by simp⟩
  generalize upd H4 tb (.dT []) = H5 at k5 m5 e5 t5 ⊢
  refine ⟨_, rfl, _, rfl, ⟨_, sq _ k5⟩, ?_⟩
  refine for_it (walk_list (xs := es.map fun e : Rw × Addr => V.ref e.2)) (fun i σ H' => ∃ (v3 v6 v7 v8 v9 v10 v11 v12 v13 : Option V) (tab : List Ky), σ = [some (.ref b), some (.str TX), some (.ref rl), v3, some (.ref kd), some (.ref tb), v6, v7, v8, v9, v10, v11, v12, v13] ∧ Keeps [] H H' ∧ Imm H H' ∧ H' kd = some (.dT (mkD kyK (fun _ => .bl true) (rs.map (·.key)))) ∧ TabAt R H' tb tab ∧ tab.Nodup ∧ ∀ x ∈ tab, InDom D TX x)
    ⟨v2, none, none, none, none, none, none, none, none, [], rfl, k5, m5, e5, t5, List.nodup_nil, by simp⟩ (fun i σ H' _ ⟨_, _, _, _, _, _, _, _, _, _, _, k', _⟩ => sq _ k') ?_ ?_
  · rintro i x σ H6 H6' hi ⟨v3, v6, v7, v8, v9, v10, v11, v12, v13, tab, rfl, k6, m6, e6, t6, n6, d6⟩ ⟨rfl, hx⟩
    obtain ⟨e, he1, hm, rfl⟩ := getM hx
    obtain ⟨dm, vl, vr, vz⟩ := RO.val _ (ein e hm)
    obtain ⟨lb, q1, q2⟩ := (he e hm).imm m6
    refine ⟨e.2, _, rfl, sqt_of q1, rfl, _, _, rfl, _, _, rfl, _, _, rfl, _, _, rfl, _, _, rfl, _, _, rfl, rfl, ?_⟩
    -- the row is read
    have main : ∀ (H7 : Hp) (tab' : List Ky), Keeps [] H H7 → Imm H H7 → Imm H6' H7 → H7 kd = some (.dT (mkD kyK (fun _ => .bl true) (rs.map (·.key)))) → TabAt R H7 tb tab' → tab'.Nodup → (∀ x ∈ tab', InDom D TX x) → e.1.key ∈ tab' →
        tSeq (tAsg (tDGet (tVar 5) (tTup (tCons (tVar 7) (tCons (tVar 8) tNil)))) (gName 12)) (tSeq (tIfS (tOr (tTest (tOp (rNeD K) (tTup (tCons (tVar 9) (tCons (tVar 10) tNil))) (tSl (rSlT K) (tVar 12) tNoPart (tPart (tC (V.int 2)))))) (tTest (tOp (rNeD K) (tVar 11) (tOp (rIxT K) (tVar 12) (tC (V.int 3)))))) (tRet (tC (V.bl false))) tNext)
          (tFor (iList K (tOp (rIxT K) (tVar 12) (tC (V.int 2)))) (gName 13) (tIfS (tB (tDNotIn (tVar 13) (tVar 4))) (tRet (tC (V.bl false))) tNext)))
        { nx := fun σ H' => ∃ (v3 v6 v7 v8 v9 v10 v11 v12 v13 : Option V) (tab : List Ky), σ = [some (.ref b), some (.str TX), some (.ref rl), v3, some (.ref kd), some (.ref tb), v6, v7, v8, v9, v10, v11, v12, v13] ∧ Keeps [] H H' ∧ Imm H H' ∧ H' kd = some (.dT (mkD kyK (fun _ => .bl true) (rs.map (·.key)))) ∧ TabAt R H' tb tab ∧ tab.Nodup ∧ ∀ x ∈ tab, InDom D TX x, rt := Q }
        [some (.ref b), some (.str TX), some (.ref rl), v3, some (.ref kd), some (.ref tb), some (.int (e.1.num : Nat)), some (.str e.1.key.1), some (.int (e.1.key.2 : Nat)), some (lenV e.1.len), some (.int (e.1.reach : Nat)), some (.ref lb), v12, v13] H7 := by
      intro H7 tab' k7 m7 m67 e7 t7 n7 d7 hin
      refine ⟨_, rfl, _, rfl, _, rfl, show 2 ≤ sizeLine by decide, fun kt hkt => ?_⟩
      have k8 := k7.new (o := .tup [V.str e.1.key.1, V.int (e.1.key.2 : Nat)]) hkt
      have m8 := m7.new (o := .tup [V.str e.1.key.1, V.int (e.1.key.2 : Nat)]) hkt
      have m68 := m67.new (o := .tup [V.str e.1.key.1, V.int (e.1.key.2 : Nat)]) hkt
      have h8 : KeyAt (upd H7 kt (.tup [V.str e.1.key.1, V.int (e.1.key.2 : Nat)])) kt e.1.key := upd_same
      have e8 : upd H7 kt (.tup [V.str e.1.key.1, V.int (e.1.key.2 : Nat)]) kd = some (.dT (mkD kyK (fun _ => .bl true) (rs.map (·.key)))) := by rw [upd_ne (ne_of_none e7 hkt)]; exact e7
      have t8 := t7.kp ((Keeps.refl [] H7).new (o := .tup [V.str e.1.key.1, V.int (e.1.key.2 : Nat)]) hkt) (by simp) ((Imm.refl _).new hkt)
      generalize upd H7 kt (.tup [V.str e.1.key.1, V.int (e.1.key.2 : Nat)]) = H8 at k8 m8 m68 h8 e8 t8 ⊢
      obtain ⟨ra, hget, la, lc, hra, hrk, hrs⟩ := t8.get hin h8
      refine ⟨tb, _, rfl, hget, ?_⟩
      refine ⟨_, rfl, _, rfl, show 2 ≤ sizeLine by decide, fun u hu => ⟨_, rfl, _, rfl, ra, _, rfl, sqt_im (sqt_of hra) ((Imm.refl _).new hu), ?_, fun v hv => ?_⟩⟩
      · rintro ⟨_, h⟩
        have h' : min 2 4 = 4 := h
        omega
      have ec : cutV [lenV (R e.1.key).len, V.int ((R e.1.key).reach : Nat), V.ref la, V.ref lc] none (some 2) = [lenV (R e.1.key).len, V.int ((R e.1.key).reach : Nat)] := cut_to (xs := [lenV (R e.1.key).len, V.int ((R e.1.key).reach : Nat), V.ref la, V.ref lc]) 2
      rw [ec]
      have iu := (Imm.refl H8).new (o := .tup [lenV e.1.len, V.int (e.1.reach : Nat)]) hu
      have ku := (Keeps.refl [] H8).new (o := .tup [lenV e.1.len, V.int (e.1.reach : Nat)]) hu
      have eu : upd H8 u (.tup [lenV e.1.len, V.int (e.1.reach : Nat)]) u = some (.tup [lenV e.1.len, V.int (e.1.reach : Nat)]) := upd_same
      generalize upd H8 u (.tup [lenV e.1.len, V.int (e.1.reach : Nat)]) = H9 at iu ku eu hv ⊢
      have iv := (Imm.refl H9).new (o := .tup [lenV (R e.1.key).len, V.int ((R e.1.key).reach : Nat)]) hv
      have kv := (Keeps.refl [] H9).new (o := .tup [lenV (R e.1.key).len, V.int ((R e.1.key).reach : Nat)]) hv
      have ev : upd H9 v (.tup [lenV (R e.1.key).len, V.int ((R e.1.key).reach : Nat)]) v = some (.tup [lenV (R e.1.key).len, V.int ((R e.1.key).reach : Nat)]) := upd_same
      generalize upd H9 v (.tup [lenV (R e.1.key).len, V.int ((R e.1.key).reach : Nat)]) = H10 at iv kv ev ⊢
      have i810 := iu.trans iv
      have k810 := ku.trans kv
      rw [← vl, ← vr] at ev
      refine ⟨_, _, dp_pair (sqt_of (iv.tup eu)), dp_pair (sqt_of ev), shp (pair_lay _ _) (by decide), shp (pair_lay _ _) (by decide), false, neS (pair_lay _ _).1, iteF ?_⟩
      have ok := RO.ok S _ (ein e hm)
      have sl := strs_lay fun z hz => okN_strOk (ok.2 z hz)
      have lb10 : SqL K H10 lb (e.1.leans.map V.str) := ((q2.imm m68).imm i810).sq
      have lc10 : SqL K H10 lc (e.1.leans.map V.str) := by rw [vz]; exact (hrs.imm i810).sq
      refine ⟨_, rfl, _, rfl, ra, _, _, _, rfl, rfl, sqt_of (i810.tup hra), at_3 rfl, _, _, dp_strs lb10, dp_strs lc10, shp sl (by decide), shp sl (by decide), false, neS sl.1, iteF ?_⟩
      obtain ⟨ol, ek, ek1, ek2, ek3⟩ := hrk.imm i810
      refine ⟨_, rfl, ra, _, _, _, rfl, rfl, sqt_of (i810.tup hra), at_2 rfl, la, rfl, ⟨_, sq_fr ek2⟩, ?_⟩
      refine for_it (walk_list (xs := ek.map fun e : Ky × Addr => V.ref e.2)) (fun j σ H' => ∃ v13, σ = [some (.ref b), some (.str TX), some (.ref rl), v3, some (.ref kd), some (.ref tb), some (.int (e.1.num : Nat)), some (.str e.1.key.1), some (.int (e.1.key.2 : Nat)), some (lenV e.1.len), some (.int (e.1.reach : Nat)), some (.ref lb), some (.ref ra), v13] ∧ Keeps [] H10 H' ∧ Imm H10 H') ⟨v13, rfl, Keeps.refl _ _, Imm.refl _⟩ (fun j σ H' _ ⟨v, _, k', _⟩ => sq_fr (k'.same ek2)) ?_ ?_
      · rintro j x σ H11 H11' hj ⟨v13, rfl, k11, m11⟩ ⟨rfl, hx⟩
        obtain ⟨g, g1, gm, rfl⟩ := getM hx
        have gk := (ek3 g gm).imm m11
        have gin : g.1 ∈ (R e.1.key).asked := by rw [← ek1]; exact List.mem_map.mpr ⟨g, gm, rfl⟩
        have gA : g.1 ∈ asksOf (bookG bs) TX R e.1.key := by
          rw [S.eqn _ dm.2] at gin
          rcases (mem_once _ _ _).mp gin with h | h
          · cases h
          · exact h
        have gd := RO.all _ (S.asks dm _ gA).1
        refine ⟨_, rfl, _, rfl, kd, _, rfl, .inr ⟨_, kyK g.1, g.2, .inl ((k810.trans k11).same e8), rfl, gk, (mkD_in (f := kyK) (g := fun _ => V.bl true) kyK_inj gd).symm⟩, _, rfl, iteF ⟨_, rfl, k11, m11⟩⟩
      · rintro σ H11 ⟨v13, rfl, k11, m11⟩
        have k' := k810.trans k11
        have m' := i810.trans m11
        exact ⟨_, _, _, _, _, _, _, _, _, tab', rfl, k8.trans k', m8.trans m', k'.same e8, t8.kp k' (by simp) m', n7, d7⟩
    refine ⟨_, rfl, _, rfl, show 2 ≤ sizeLine by decide, fun kt hkt => ?_⟩
    have k7 := k6.new (o := .tup [V.str e.1.key.1, V.int (e.1.key.2 : Nat)]) hkt
    have m7 := m6.new (o := .tup [V.str e.1.key.1, V.int (e.1.key.2 : Nat)]) hkt
    have m67 := (Imm.refl H6').new (o := .tup [V.str e.1.key.1, V.int (e.1.key.2 : Nat)]) hkt
    have h7 : KeyAt (upd H6' kt (.tup [V.str e.1.key.1, V.int (e.1.key.2 : Nat)])) kt e.1.key := upd_same
    have e7 : upd H6' kt (.tup [V.str e.1.key.1, V.int (e.1.key.2 : Nat)]) kd = some (.dT (mkD kyK (fun _ => .bl true) (rs.map (·.key)))) := by rw [upd_ne (ne_of_none e6 hkt)]; exact e6
    have t7 := t6.kp ((Keeps.refl [] H6').new (o := .tup [V.str e.1.key.1, V.int (e.1.key.2 : Nat)]) hkt) (by simp) m67
    generalize upd H6' kt (.tup [V.str e.1.key.1, V.int (e.1.key.2 : Nat)]) = H7 at k7 m7 m67 h7 e7 t7 ⊢
    by_cases hin : e.1.key ∈ tab
    · obtain ⟨ra, hget, _⟩ := t7.get hin h7
      exact ⟨_, rfl, tb, _, rfl, hget, _, rfl, iteF (main H7 tab k7 m7 m67 e7 t7 n6 d6 hin)⟩
    · refine ⟨_, rfl, tb, _, rfl, t7.no hin h7, _, rfl, iteT ?_⟩
      obtain ⟨bps, bkv, b1, b2, b3⟩ := book_dict K (hB.imm m7) hbn
      refine ⟨_, rfl, b, bps, bkv, rfl, b1, b2, fun rd hrd => ?_⟩
      obtain ⟨k8, m8, hR8⟩ := b3 rd hrd
      generalize upd H7 rd (.dK (mergeK [] bkv)) = H8 at k8 m8 hR8 ⊢
      refine ⟨_, rfl, _, rfl, _, rfl, _, rfl, ?_⟩
      have t8 := t7.kp k8 (by simp) m8
      have rdt : rd ≠ tb := fun z => by
        obtain ⟨_, h, _⟩ := t7
        rw [z, h] at hrd
        cases hrd
      refine ⟨rd, tb, TX, e.1.key, bs.map (·.1), bookG bs, R, D, rk, tab, rfl, hR8.at, bookG_dom hbn, rdt, t8, S, dm, hin, n6, d6, fun lk H9 new _ k9 t9 _ n9 d9 hk9 m9 => ?_⟩
      have k79 := k7.trans k8
      refine main H9 (tab ++ new) (k79.call k9 fun y hy => .inr (by rw [List.mem_singleton.mp hy]; exact htbH)) ((m7.trans m8).trans m9) ((m67.trans m8).trans m9) ?_ t9 n9 (fun x hx => (List.mem_append.mp hx).elim (d6 x) (d9 x)) (List.mem_append.mpr (.inr hk9))
      exact k9 _ _ (k8.same e7) (fun z => ktb (List.mem_singleton.mp z))
  · rintro σ H6 ⟨v3, v6, v7, v8, v9, v10, v11, v12, v13, tab, rfl, k6, _⟩
    exact k H6 k6
end
end Kr
namespace Kr
open PySem PySem.Spec PyProof.Rows L2
section
variable {P : Program} {w : World} {K : PySem.W.Frag} {mg : Str → Option Value} {base : Heap} {k : Nat}
def fldsR (rd t nm dl : Addr) (T : Str) (fu : Int) : List (Str × V) := [("rules", .ref rd), ("signs", .str T), ("table", .ref t), ("numbers", .ref nm), ("further", .int fu), ("count_made", .int 0), ("deeds", .ref dl)]
def spRdrInit (K : PySem.W.Frag) : Sp := fun vs H Q _ => ∃ (x dx : Addr), vs = [.ref x] ∧ H x = some (.ins (He.ga K "Reader") dx []) ∧
  ∀ rd t nm dl H', H rd = none → H t = none → H nm = none → H dl = none → [x, rd, t, nm, dl].Nodup → Keeps [x] H H' → H' x = some (.ins (He.ga K "Reader") dx (fldsR rd t nm dl "" 0)) → H' rd = some (.dK []) → H' t = some (.dT []) → H' nm = some (.dT []) → H' dl = some (.lst []) → Q .non H'
theorem ok_Reader_init (T : Tp K mg) : CallsN P w K mg base (k + 1) "Reader" (He.ga K "Reader") ["self"] (spRdrInit K) := by
  have sc : FnScope ["self"] ["self"] d_Reader_init.scope := ⟨rfl, rfl, rfl, by decide +kernel, rfl, by decide +kernel, by decide +kernel⟩
  refine mkInit T in_Reader_init rfl mm_Reader mg_Reader rfl rfl sc (fun _ _ _ _ _ _ us hl => match us, hl with | [_], _ => rfl) (fun vs H Q E h => ?_) (fun f cdv A outer s H vs Q E hr h => ?_)
  · obtain ⟨x, dx, rfl, _⟩ := h
    rfl
  obtain ⟨x, dx, rfl, hx, k⟩ := h
  refine ⟨_, (pss_cons (ps_fld (pv 0) pe_dnewK rfl)
      (pss_cons (ps_fld (pv 0) pe_str rfl)
      (pss_cons (ps_fld (pv 0) pe_dnewT rfl)
      (pss_cons (ps_fld (pv 0) pe_dnewT rfl)
      (pss_cons (ps_fld (pv 0) pe_int rfl)
      (pss_cons (ps_fld (pv 0) pe_int rfl)
      (pss_one (ps_fld (pv 0) (pe_lst pa_nil) rfl)))))))), ?_⟩
  have C := T.cls mk_Reader
  have k0 := Keeps.refl [x] H
  have m0 := Imm.refl H
  have h0 := hx
  intro rd hrd
  have xrd : x ≠ rd := ne_of_none h0 hrd
  have rdH : H rd = none := k0.free hrd (fun z => xrd (List.mem_singleton.mp z).symm)
  have k0a := k0.new (o := .dK []) hrd
  have m0a := m0.new (o := .dK []) hrd
  have h0a : upd H rd (.dK []) x = some (.ins (He.ga K "Reader") dx ([] : List (Str × V))) := by rw [upd_ne xrd]; exact h0
  have rd_0a : upd H rd (.dK []) rd = some (.dK []) := upd_same
  generalize upd H rd (.dK []) = H0a at k0a m0a h0a rd_0a ⊢
  refine ⟨_, rfl, x, _, dx, _, rfl, h0a, C, T.noat mn_Reader_rules, show 0 < 1000 by decide, ?_⟩
  rw [putF_add' _ _ _ (ns := []) rfl (by decide +kernel)]
  obtain ⟨m1, k1, h1⟩ := stepF (fs' := ([("rules", V.ref rd)] : List (Str × V))) m0a k0a h0a
  have rd_1 : upd H0a x (.ins (He.ga K "Reader") dx ([("rules", V.ref rd)] : List (Str × V))) rd = some (.dK []) := by rw [upd_ne xrd.symm]; exact rd_0a
  rw [show ([] : List (Str × V)) ++ [(("rules" : Str), V.ref rd)] = ([("rules", V.ref rd)] : List (Str × V)) from rfl]
  generalize upd H0a x (.ins (He.ga K "Reader") dx ([("rules", V.ref rd)] : List (Str × V))) = H1 at m1 k1 h1 rd_1 ⊢
  refine ⟨_, rfl, x, _, dx, _, rfl, h1, C, T.noat mn_Reader_signs, show 1 < 1000 by decide, ?_⟩
  rw [putF_add' _ _ _ (ns := [("rules" : Str)]) rfl (by decide +kernel)]
  obtain ⟨m2, k2, h2⟩ := stepF (fs' := ([("rules", V.ref rd), ("signs", V.str "")] : List (Str × V))) m1 k1 h1
  have rd_2 : upd H1 x (.ins (He.ga K "Reader") dx ([("rules", V.ref rd), ("signs", V.str "")] : List (Str × V))) rd = some (.dK []) := by rw [upd_ne xrd.symm]; exact rd_1
  rw [show ([("rules", V.ref rd)] : List (Str × V)) ++ [(("signs" : Str), V.str "")] = ([("rules", V.ref rd), ("signs", V.str "")] : List (Str × V)) from rfl]
  generalize upd H1 x (.ins (He.ga K "Reader") dx ([("rules", V.ref rd), ("signs", V.str "")] : List (Str × V))) = H2 at m2 k2 h2 rd_2 ⊢
  intro t ht
  have xt : x ≠ t := ne_of_none h2 ht
  have rdt : rd ≠ t := ne_of_none rd_2 ht
  have tH : H t = none := k2.free ht (fun z => xt (List.mem_singleton.mp z).symm)
  have k2a := k2.new (o := .dT []) ht
  have m2a := m2.new (o := .dT []) ht
  have h2a : upd H2 t (.dT []) x = some (.ins (He.ga K "Reader") dx ([("rules", V.ref rd), ("signs", V.str "")] : List (Str × V))) := by rw [upd_ne xt]; exact h2
  have rd_2a : upd H2 t (.dT []) rd = some (.dK []) := by rw [upd_ne rdt]; exact rd_2
  have t_2a : upd H2 t (.dT []) t = some (.dT []) := upd_same
  generalize upd H2 t (.dT []) = H2a at k2a m2a h2a rd_2a t_2a ⊢
  refine ⟨_, rfl, x, _, dx, _, rfl, h2a, C, T.noat mn_Reader_table, show 2 < 1000 by decide, ?_⟩
  rw [putF_add' _ _ _ (ns := [("rules" : Str), ("signs" : Str)]) rfl (by decide +kernel)]
  obtain ⟨m3, k3, h3⟩ := stepF (fs' := ([("rules", V.ref rd), ("signs", V.str ""), ("table", V.ref t)] : List (Str × V))) m2a k2a h2a
  have rd_3 : upd H2a x (.ins (He.ga K "Reader") dx ([("rules", V.ref rd), ("signs", V.str ""), ("table", V.ref t)] : List (Str × V))) rd = some (.dK []) := by rw [upd_ne xrd.symm]; exact rd_2a
  have t_3 : upd H2a x (.ins (He.ga K "Reader") dx ([("rules", V.ref rd), ("signs", V.str ""), ("table", V.ref t)] : List (Str × V))) t = some (.dT []) := by rw [upd_ne xt.symm]; exact t_2a
  rw [show ([("rules", V.ref rd), ("signs", V.str "")] : List (Str × V)) ++ [(("table" : Str), V.ref t)] = ([("rules", V.ref rd), ("signs", V.str ""), ("table", V.ref t)] : List (Str × V)) from rfl]
  generalize upd H2a x (.ins (He.ga K "Reader") dx ([("rules", V.ref rd), ("signs", V.str ""), ("table", V.ref t)] : List (Str × V))) = H3 at m3 k3 h3 rd_3 t_3 ⊢
  intro nm hnm
  have xnm : x ≠ nm := ne_of_none h3 hnm
  have rdnm : rd ≠ nm := ne_of_none rd_3 hnm
  have tnm : t ≠ nm := ne_of_none t_3 hnm
  have nmH : H nm = none := k3.free hnm (fun z => xnm (List.mem_singleton.mp z).symm)
  have k3a := k3.new (o := .dT []) hnm
  have m3a := m3.new (o := .dT []) hnm
  have h3a : upd H3 nm (.dT []) x = some (.ins (He.ga K "Reader") dx ([("rules", V.ref rd), ("signs", V.str ""), ("table", V.ref t)] : List (Str × V))) := by rw [upd_ne xnm]; exact h3
  have rd_3a : upd H3 nm (.dT []) rd = some (.dK []) := by rw [upd_ne rdnm]; exact rd_3
  have t_3a : upd H3 nm (.dT []) t = some (.dT []) := by rw [upd_ne tnm]; exact t_3
  have nm_3a : upd H3 nm (.dT []) nm = some (.dT []) := upd_same
  generalize upd H3 nm (.dT []) = H3a at k3a m3a h3a rd_3a t_3a nm_3a ⊢
  refine ⟨_, rfl, x, _, dx, _, rfl, h3a, C, T.noat mn_Reader_numbers, show 3 < 1000 by decide, ?_⟩
  rw [putF_add' _ _ _ (ns := [("rules" : Str), ("signs" : Str), ("table" : Str)]) rfl (by decide +kernel)]
  obtain ⟨m4, k4, h4⟩ := stepF (fs' := ([("rules", V.ref rd), ("signs", V.str ""), ("table", V.ref t), ("numbers", V.ref nm)] : List (Str × V))) m3a k3a h3a
  have rd_4 : upd H3a x (.ins (He.ga K "Reader") dx ([("rules", V.ref rd), ("signs", V.str ""), ("table", V.ref t), ("numbers", V.ref nm)] : List (Str × V))) rd = some (.dK []) := by rw [upd_ne xrd.symm]; exact rd_3a
  have t_4 : upd H3a x (.ins (He.ga K "Reader") dx ([("rules", V.ref rd), ("signs", V.str ""), ("table", V.ref t), ("numbers", V.ref nm)] : List (Str × V))) t = some (.dT []) := by rw [upd_ne xt.symm]; exact t_3a
  have nm_4 : upd H3a x (.ins (He.ga K "Reader") dx ([("rules", V.ref rd), ("signs", V.str ""), ("table", V.ref t), ("numbers", V.ref nm)] : List (Str × V))) nm = some (.dT []) := by rw [upd_ne xnm.symm]; exact nm_3a
  rw [show ([("rules", V.ref rd), ("signs", V.str ""), ("table", V.ref t)] : List (Str × V)) ++ [(("numbers" : Str), V.ref nm)] = ([("rules", V.ref rd), ("signs", V.str ""), ("table", V.ref t), ("numbers", V.ref nm)] : List (Str × V)) from rfl]
  generalize upd H3a x (.ins (He.ga K "Reader") dx ([("rules", V.ref rd), ("signs", V.str ""), ("table", V.ref t), ("numbers", V.ref nm)] : List (Str × V))) = H4 at m4 k4 h4 rd_4 t_4 nm_4 ⊢
  refine ⟨_, rfl, x, _, dx, _, rfl, h4, C, T.noat mn_Reader_further, show 4 < 1000 by decide, ?_⟩
  rw [putF_add' _ _ _ (ns := [("rules" : Str), ("signs" : Str), ("table" : Str), ("numbers" : Str)]) rfl (by decide +kernel)]
  obtain ⟨m5, k5, h5⟩ := stepF (fs' := ([("rules", V.ref rd), ("signs", V.str ""), ("table", V.ref t), ("numbers", V.ref nm), ("further", V.int 0)] : List (Str × V))) m4 k4 h4
  have rd_5 : upd H4 x (.ins (He.ga K "Reader") dx ([("rules", V.ref rd), ("signs", V.str ""), ("table", V.ref t), ("numbers", V.ref nm), ("further", V.int 0)] : List (Str × V))) rd = some (.dK []) := by rw [upd_ne xrd.symm]; exact rd_4
  have t_5 : upd H4 x (.ins (He.ga K "Reader") dx ([("rules", V.ref rd), ("signs", V.str ""), ("table", V.ref t), ("numbers", V.ref nm), ("further", V.int 0)] : List (Str × V))) t = some (.dT []) := by rw [upd_ne xt.symm]; exact t_4
  have nm_5 : upd H4 x (.ins (He.ga K "Reader") dx ([("rules", V.ref rd), ("signs", V.str ""), ("table", V.ref t), ("numbers", V.ref nm), ("further", V.int 0)] : List (Str × V))) nm = some (.dT []) := by rw [upd_ne xnm.symm]; exact nm_4
  rw [show ([("rules", V.ref rd), ("signs", V.str ""), ("table", V.ref t), ("numbers", V.ref nm)] : List (Str × V)) ++ [(("further" : Str), V.int 0)] = ([("rules", V.ref rd), ("signs", V.str ""), ("table", V.ref t), ("numbers", V.ref nm), ("further", V.int 0)] : List (Str × V)) from rfl]
  generalize upd H4 x (.ins (He.ga K "Reader") dx ([("rules", V.ref rd), ("signs", V.str ""), ("table", V.ref t), ("numbers", V.ref nm), ("further", V.int 0)] : List (Str × V))) = H5 at m5 k5 h5 rd_5 t_5 nm_5 ⊢
  refine ⟨_, rfl, x, _, dx, _, rfl, h5, C, T.noat mn_Reader_count_made, show 5 < 1000 by decide, ?_⟩
  rw [putF_add' _ _ _ (ns := [("rules" : Str), ("signs" : Str), ("table" : Str), ("numbers" : Str), ("further" : Str)]) rfl (by decide +kernel)]
  obtain ⟨m6, k6, h6⟩ := stepF (fs' := ([("rules", V.ref rd), ("signs", V.str ""), ("table", V.ref t), ("numbers", V.ref nm), ("further", V.int 0), ("count_made", V.int 0)] : List (Str × V))) m5 k5 h5
  have rd_6 : upd H5 x (.ins (He.ga K "Reader") dx ([("rules", V.ref rd), ("signs", V.str ""), ("table", V.ref t), ("numbers", V.ref nm), ("further", V.int 0), ("count_made", V.int 0)] : List (Str × V))) rd = some (.dK []) := by rw [upd_ne xrd.symm]; exact rd_5
  have t_6 : upd H5 x (.ins (He.ga K "Reader") dx ([("rules", V.ref rd), ("signs", V.str ""), ("table", V.ref t), ("numbers", V.ref nm), ("further", V.int 0), ("count_made", V.int 0)] : List (Str × V))) t = some (.dT []) := by rw [upd_ne xt.symm]; exact t_5
  have nm_6 : upd H5 x (.ins (He.ga K "Reader") dx ([("rules", V.ref rd), ("signs", V.str ""), ("table", V.ref t), ("numbers", V.ref nm), ("further", V.int 0), ("count_made", V.int 0)] : List (Str × V))) nm = some (.dT []) := by rw [upd_ne xnm.symm]; exact nm_5
  rw [show ([("rules", V.ref rd), ("signs", V.str ""), ("table", V.ref t), ("numbers", V.ref nm), ("further", V.int 0)] : List (Str × V)) ++ [(("count_made" : Str), V.int 0)] = ([("rules", V.ref rd), ("signs", V.str ""), ("table", V.ref t), ("numbers", V.ref nm), ("further", V.int 0), ("count_made", V.int 0)] : List (Str × V)) from rfl]
  generalize upd H5 x (.ins (He.ga K "Reader") dx ([("rules", V.ref rd), ("signs", V.str ""), ("table", V.ref t), ("numbers", V.ref nm), ("further", V.int 0), ("count_made", V.int 0)] : List (Str × V))) = H6 at m6 k6 h6 rd_6 t_6 nm_6 ⊢
  refine ⟨by decide, fun dl hdl => ?_⟩
  have xdl : x ≠ dl := ne_of_none h6 hdl
  have rddl : rd ≠ dl := ne_of_none rd_6 hdl
  have tdl : t ≠ dl := ne_of_none t_6 hdl
  have nmdl : nm ≠ dl := ne_of_none nm_6 hdl
  have dlH : H dl = none := k6.free hdl (fun z => xdl (List.mem_singleton.mp z).symm)
  have k6a := k6.new (o := .lst []) hdl
  have m6a := m6.new (o := .lst []) hdl
  have h6a : upd H6 dl (.lst []) x = some (.ins (He.ga K "Reader") dx ([("rules", V.ref rd), ("signs", V.str ""), ("table", V.ref t), ("numbers", V.ref nm), ("further", V.int 0), ("count_made", V.int 0)] : List (Str × V))) := by rw [upd_ne xdl]; exact h6
  have rd_6a : upd H6 dl (.lst []) rd = some (.dK []) := by rw [upd_ne rddl]; exact rd_6
  have t_6a : upd H6 dl (.lst []) t = some (.dT []) := by rw [upd_ne tdl]; exact t_6
  have nm_6a : upd H6 dl (.lst []) nm = some (.dT []) := by rw [upd_ne nmdl]; exact nm_6
  have dl_6a : upd H6 dl (.lst []) dl = some (.lst []) := upd_same
  generalize upd H6 dl (.lst []) = H6a at k6a m6a h6a rd_6a t_6a nm_6a dl_6a ⊢
  refine ⟨_, rfl, x, _, dx, _, rfl, h6a, C, T.noat mn_Reader_deeds, show 6 < 1000 by decide, ?_⟩
  rw [putF_add' _ _ _ (ns := [("rules" : Str), ("signs" : Str), ("table" : Str), ("numbers" : Str), ("further" : Str), ("count_made" : Str)]) rfl (by decide +kernel)]
  obtain ⟨m7, k7, h7⟩ := stepF (fs' := ([("rules", V.ref rd), ("signs", V.str ""), ("table", V.ref t), ("numbers", V.ref nm), ("further", V.int 0), ("count_made", V.int 0), ("deeds", V.ref dl)] : List (Str × V))) m6a k6a h6a
  have rd_7 : upd H6a x (.ins (He.ga K "Reader") dx ([("rules", V.ref rd), ("signs", V.str ""), ("table", V.ref t), ("numbers", V.ref nm), ("further", V.int 0), ("count_made", V.int 0), ("deeds", V.ref dl)] : List (Str × V))) rd = some (.dK []) := by rw [upd_ne xrd.symm]; exact rd_6a
  have t_7 : upd H6a x (.ins (He.ga K "Reader") dx ([("rules", V.ref rd), ("signs", V.str ""), ("table", V.ref t), ("numbers", V.ref nm), ("further", V.int 0), ("count_made", V.int 0), ("deeds", V.ref dl)] : List (Str × V))) t = some (.dT []) := by rw [upd_ne xt.symm]; exact t_6a
  have nm_7 : upd H6a x (.ins (He.ga K "Reader") dx ([("rules", V.ref rd), ("signs", V.str ""), ("table", V.ref t), ("numbers", V.ref nm), ("further", V.int 0), ("count_made", V.int 0), ("deeds", V.ref dl)] : List (Str × V))) nm = some (.dT []) := by rw [upd_ne xnm.symm]; exact nm_6a
  have dl_7 : upd H6a x (.ins (He.ga K "Reader") dx ([("rules", V.ref rd), ("signs", V.str ""), ("table", V.ref t), ("numbers", V.ref nm), ("further", V.int 0), ("count_made", V.int 0), ("deeds", V.ref dl)] : List (Str × V))) dl = some (.lst []) := by rw [upd_ne xdl.symm]; exact dl_6a
  refine k rd t nm dl _ rdH tH nmH dlH ?_ k7 h7 rd_7 t_7 nm_7 dl_7
  simp only [List.nodup_cons, List.mem_cons, List.not_mem_nil, or_false, not_or, not_false_eq_true, List.nodup_nil, and_true]
  exact ⟨⟨xrd, xt, xnm, xdl⟩, ⟨rdt, rdnm, rddl⟩, ⟨tnm, tdl⟩, nmdl⟩
end
end Kr
namespace Kr
open PySem PySem.Spec PyProof.Rows L2
section
variable {P : Program} {w : World} {K : PySem.W.Frag} {mg : Str → Option Value} {base : Heap} {k : Nat}
theorem putR_rules (rd t nm dl rd2 : Addr) (T : Str) (fu : Int) : putF "rules" (.ref rd2) (fldsR rd t nm dl T fu) = fldsR rd2 t nm dl T fu := putF_set' "rules" _ [] _ _ (ns := []) rfl (by simp)
theorem putR_signs (rd t nm dl : Addr) (T T2 : Str) (fu : Int) : putF "signs" (.str T2) (fldsR rd t nm dl T fu) = fldsR rd t nm dl T2 fu := putF_set' "signs" _ [("rules", .ref rd)] _ _ (ns := ["rules"]) rfl (by decide +kernel)
theorem putR_table (rd t nm dl t2 : Addr) (T : Str) (fu : Int) : putF "table" (.ref t2) (fldsR rd t nm dl T fu) = fldsR rd t2 nm dl T fu := putF_set' "table" _ [("rules", .ref rd), ("signs", .str T)] _ _ (ns := ["rules", "signs"]) rfl (by decide +kernel)
theorem putR_numbers (rd t nm dl nm2 : Addr) (T : Str) (fu : Int) : putF "numbers" (.ref nm2) (fldsR rd t nm dl T fu) = fldsR rd t nm2 dl T fu := putF_set' "numbers" _ [("rules", .ref rd), ("signs", .str T), ("table", .ref t)] _ _ (ns := ["rules", "signs", "table"]) rfl (by decide +kernel)
theorem putR_further (rd t nm dl : Addr) (T : Str) (fu fu2 : Int) : putF "further" (.int fu2) (fldsR rd t nm dl T fu) = fldsR rd t nm dl T fu2 := putF_set' "further" _ [("rules", .ref rd), ("signs", .str T), ("table", .ref t), ("numbers", .ref nm)] _ _ (ns := ["rules", "signs", "table", "numbers"]) rfl (by decide +kernel)
/-- a reader -/
structure RdrN (n : Nat) (K : PySem.W.Frag) (H : Hp) (ra rd t nm dl : Addr) (ks : List Str) (G : Str → Option Fm) (T : Str) (R : Ky → Rc) (tab nks : List Ky) (num : Ky → Nat) : Prop where
  ins : ∃ dx fu, H ra = some (.ins (He.ga K "Reader") dx (fldsR rd t nm dl T fu))
  rules : RulesM H rd ks G
  table : TabAt R H t tab
  nums : NumAt num H nm nks
  deeds : ∃ xs, H dl = some (.lst xs) ∧ xs.length ≤ n
  ap : [ra, rd, t, nm, dl].Nodup
theorem RdrN.kp {n0 : Nat} {S : List Addr} {H H' : Hp} {ra rd t nm dl : Addr} {ks : List Str} {G : Str → Option Fm} {T : Str} {R : Ky → Rc} {tab nks : List Ky} {num : Ky → Nat} (h : RdrN n0 K H ra rd t nm dl ks G T R tab nks num) (k : Keeps S H H') (n : ∀ y ∈ [ra, rd, t, nm, dl], y ∉ S) (i : Imm H H') : RdrN n0 K H' ra rd t nm dl ks G T R tab nks num := by
  obtain ⟨⟨dx, fu, h1⟩, h2, h3, h4, ⟨xs, h5, h6⟩, h7⟩ := h
  exact ⟨⟨dx, fu, k _ _ h1 (n _ (by simp))⟩, h2.kp k (n _ (by simp)) i, h3.kp k (n _ (by simp)) i, k _ _ h4 (n _ (by simp)), ⟨xs, k _ _ h5 (n _ (by simp)), h6⟩, h7⟩
abbrev RdrAt := RdrN 100
theorem RdrN.mono {n m : Nat} {H : Hp} {ra rd t nm dl : Addr} {ks : List Str} {G : Str → Option Fm} {T : Str} {R : Ky → Rc} {tab nks : List Ky} {num : Ky → Nat} (h : RdrN n K H ra rd t nm dl ks G T R tab nks num) (l : n ≤ m) : RdrN m K H ra rd t nm dl ks G T R tab nks num :=
  let ⟨a, b, c, d, ⟨xs, e, f⟩, g⟩ := h; ⟨a, b, c, d, ⟨xs, e, Nat.le_trans f l⟩, g⟩
def numOf (rs : List Rw) (k : Ky) : Nat := ((rs.find? fun r => decide (r.key = k)).map (·.num)).getD 0
theorem numOf_in {rs : List Rw} (hn : (rs.map (·.key)).Nodup) {r : Rw} (hr : r ∈ rs) : numOf rs r.key = r.num := by
  induction rs with
  | nil => cases hr
  | cons c rs ih =>
    obtain ⟨h1, h2⟩ := List.nodup_cons.mp hn
    have h1 : c.key ∉ rs.map (·.key) := h1
    unfold numOf
    rcases List.mem_cons.mp hr with e | e
    · rw [e, List.find?_cons_of_pos (by simp)]
      rfl
    · have : ¬ c.key = r.key := fun z => h1 (by rw [z]; exact List.mem_map.mpr ⟨r, e, rfl⟩)
      rw [List.find?_cons_of_neg (by simpa using this)]
      exact ih h2 e
def spLaid (K : PySem.W.Frag) : Sp := fun vs H Q _ => ∃ (b rl : Addr) (T : Str) (bs : List (Str × Fm)) (rs : List Rw) (R : Ky → Rc) (D : List Str) (rk : Str → Nat), vs = [.ref b, .str T, .ref rl] ∧ BookAt H b bs ∧ Ris1 (bs.map (·.1)) ∧ bs.length ≤ 9 ∧ (∀ b ∈ bs, okN b.1 ∧ b.2.ok) ∧ NoLoop bs ∧ RowsAt H rl rs ∧ Sys (bookG bs) T R D rk ∧ RowsOk T R D rs ∧
  ∀ ra rd t nm dl tab H', Keeps [] H H' → (∀ y ∈ [ra, rd, t, nm, dl], H y = none) → RdrN 0 K H' ra rd t nm dl (bs.map (·.1)) (bookG bs) T R tab (rs.map (·.key)) (numOf rs) → tab.Nodup → (∀ x, x ∈ tab ↔ x ∈ rs.map (·.key)) → Q (.ref ra) H'
theorem ok_laid (T : Tp K mg) (c_is_book : Calls P w K mg base (k + 1) "is_book" ["thing"] spIsBook) (c_loop : Calls P w K mg base (k + 1) "loop" ["book"] spLoop) (c_is_text : Calls P w K mg base (k + 1) "is_text" ["thing"] spIsText) (c_are_rows : Calls P w K mg base (k + 1) "are_rows" ["book", "text", "rows"] spAreRows)
    (n_Reader : CallsN P w K mg base k "Reader" (He.ga K "Reader") ["self"] (spRdrInit K)) (c_make : Calls P w K mg base (k + 1) "make" ["rules", "text", "table", "name", "place"] (spMake K)) : Calls P w K mg base (k + 1 + 1) "laid" ["book", "text", "rows"] (spLaid K) := by
  have sc : FnScope ["book", "text", "rows", "reader", "number", "name", "place", "length", "reach", "leans"] ["book", "text", "rows"] d_laid.scope := ⟨rfl, rfl, rfl, by decide +kernel, rfl, by decide +kernel, by decide +kernel⟩
  refine mkCall T in_laid rfl mg_laid rfl rfl sc (fun _ _ _ _ _ _ us hl => match us, hl with | [_, _, _], _ => rfl) (fun vs H Q E h => ?_) (fun f cdv A outer s H vs Q E hr h => ?_)
  · obtain ⟨b, rl, TX, bs, rs, R, D, rk, rfl, _⟩ := h
    rfl
  obtain ⟨b, rl, TX, bs, rs, R, D, rk, rfl, hB, hris, h9, hok, hnl, hRows, S, RO, k⟩ := h
  refine ⟨_, (pss_cons (ps_if (pt_not (pt_val (pcall c_is_book hr (pa_cons (pv 0) pa_nil)))) (pss_one ps_never) pss_nil)
      (pss_cons (ps_if (pt_cmpR op_notN (pcall c_loop hr (pa_cons (pv 0) pa_nil)) pe_non (nomark _)) (pss_one ps_never) pss_nil)
      (pss_cons (ps_if (pt_not (pt_val (pcall c_is_text hr (pa_cons (pv 1) pa_nil)))) (pss_one ps_never) pss_nil)
      (pss_cons (ps_if (pt_not (pt_val (pcall c_are_rows hr (pa_cons (pv 0) (pa_cons (pv 1) (pa_cons (pv 2) pa_nil)))))) (pss_one ps_never) pss_nil)
      (pss_cons (ps_set (i := 3) sc.nd rfl (by first | exact Or.inl rfl | exact Or.inr rfl) (pmake0 n_Reader hr))
      (pss_cons (ps_fld (pv 3) (pe_callTy (call_dictP rfl) (by rfl) (T.fre _ mf_dict) bt_dict (pa_cons (pv 0) pa_nil)) rfl)
      (pss_cons (ps_fld (pv 3) (pv 1) rfl)
      (pss_cons (ps_for PassesOwn.never rfl (pi_list (pv 2)) (pg_tupK (K := K) (n := 6) rfl rfl (pgs_cons (pg_name (i := 4) sc.nd rfl (by first | exact Or.inl rfl | exact Or.inr rfl)) (pgs_cons (pg_name (i := 5) sc.nd rfl (by first | exact Or.inl rfl | exact Or.inr rfl)) (pgs_cons (pg_name (i := 6) sc.nd rfl (by first | exact Or.inl rfl | exact Or.inr rfl)) (pgs_cons (pg_name (i := 7) sc.nd rfl (by first | exact Or.inl rfl | exact Or.inr rfl)) (pgs_cons (pg_name (i := 8) sc.nd rfl (by first | exact Or.inl rfl | exact Or.inr rfl)) (pgs_cons (pg_name (i := 9) sc.nd rfl (by first | exact Or.inl rfl | exact Or.inr rfl)) pgs_nil)))))))
        (pss_cons (ps_dput (hu_of hr) (pe_fld (pv 3) rfl) (pe_tup (pa_cons (pv 5) (pa_cons (pv 6) pa_nil))) (pv 4) rfl)
      (pss_cons (ps_fld (pv 3) (pe_callB (call_max2 rfl) (by rfl) (T.fre _ mf_max) bt_max (pa_cons (pe_fld (pv 3) rfl) (pa_cons (pe_op op_add (pv 4) pe_int) pa_nil))) rfl)
      (pss_one (ps_if (pt_cmp (pc_dnotin (hu_of hr) (pe_tup (pa_cons (pv 5) (pa_cons (pv 6) pa_nil))) (pe_fld (pv 3) rfl)) rfl) (pss_one (ps_expr (pcall c_make hr (pa_cons (pe_fld (pv 3) rfl) (pa_cons (pv 1) (pa_cons (pe_fld (pv 3) rfl) (pa_cons (pv 5) (pa_cons (pv 6) pa_nil)))))))) pss_nil)))))
      (pss_one (ps_ret (pv 3))))))))))), ?_⟩
  have C := T.cls mk_Reader
  have hbn := ris_nodup hris
  have tl := S.tl
  refine ⟨_, rfl, b, bs, rfl, hB, by omega, hok, hris, fun H1 k1 m1 => ⟨_, rfl, iteF ?_⟩⟩
  refine ⟨_, rfl, b, bs, rfl, hB.imm m1, by omega, hbn, fun c hc => (hok c hc).2, hnl, fun H2 k2 m2 => ⟨rfl, _, rfl, iteN (by decide) ?_⟩⟩
  refine ⟨_, rfl, TX, rfl, S.tx, by omega, fun H3 k3 m3 => ⟨_, rfl, iteF ?_⟩⟩
  have m03 := (m1.trans m2).trans m3
  have k03 := (k1.trans k2).trans k3
  refine ⟨_, rfl, _, rfl, _, rfl, b, rl, TX, bs, rs, R, D, rk, rfl, hB.imm m03, hbn, hRows.imm m03, S, RO, fun H4 k4 m4 => ⟨_, rfl, iteF ?_⟩⟩
  have m04 := m03.trans m4
  have k04 := k03.trans k4
  intro ra dx hra hdx hne
  have hra2 : upd H4 dx (.own ra) ra = none := by rw [upd_ne hne.symm]; exact hra
  have i5 := ((Imm.refl H4).new (o := .own ra) hdx).new (o := .ins (He.ga K "Reader") dx []) hra2
  have k5 := ((Keeps.refl [] H4).new (o := .own ra) hdx).new (o := .ins (He.ga K "Reader") dx []) hra2
  have e5 : upd (upd H4 dx (.own ra)) ra (.ins (He.ga K "Reader") dx []) ra = some (.ins (He.ga K "Reader") dx []) := upd_same
  refine ⟨ra, dx, rfl, e5, fun rd0 t nm dl H6 hrd0 ht hnm hdl ap6 k6 r6 d6 t6 n6 l6 m6 => ⟨rfl, ?_⟩⟩
  have k46 : Keeps [] H4 H6 := k5.call k6 fun y hy => .inr (by rw [List.mem_singleton.mp hy]; exact hra)
  have m46 := i5.trans m6
  have raH : H ra = none := k04.free0 hra
  have tH : H t = none := k04.free0 (k5.free0 ht)
  have nmH : H nm = none := k04.free0 (k5.free0 hnm)
  have dlH : H dl = none := k04.free0 (k5.free0 hdl)
  have m06 := m04.trans m46
  have k06 := k04.trans k46
  generalize upd (upd H4 dx (.own ra)) ra (.ins (He.ga K "Reader") dx []) = H5 at *
  -- its rules
  obtain ⟨bps, bkv, b1, b2, b3⟩ := book_dict K (hB.imm m06) hbn
  refine ⟨_, rfl, b, bps, bkv, rfl, b1, b2, fun rd hrd => ?_⟩
  obtain ⟨k7, m7, R7⟩ := b3 rd hrd
  generalize upd H6 rd (.dK (mergeK [] bkv)) = H7 at k7 m7 R7 ⊢
  have rdH : H rd = none := k06.free0 hrd
  have ap6' : ra ≠ t ∧ ra ≠ nm ∧ ra ≠ dl ∧ t ≠ nm ∧ t ≠ dl ∧ nm ≠ dl := by
    simp only [List.nodup_cons, List.mem_cons, List.not_mem_nil, or_false, not_or, not_false_eq_true, List.nodup_nil, and_true] at ap6
    exact ⟨ap6.1.2.1, ap6.1.2.2.1, ap6.1.2.2.2, ap6.2.2.1.1, ap6.2.2.1.2, ap6.2.2.2⟩
  have rrd : ra ≠ rd := ne_of_none r6 hrd
  have rdt : t ≠ rd := ne_of_none t6 hrd
  have rdnm : nm ≠ rd := ne_of_none n6 hrd
  have rddl : dl ≠ rd := ne_of_none l6 hrd
  have ap : [ra, rd, t, nm, dl].Nodup := by
    simp only [List.nodup_cons, List.mem_cons, List.not_mem_nil, or_false, not_or, not_false_eq_true, List.nodup_nil, and_true]
    exact ⟨⟨rrd, ap6'.1, ap6'.2.1, ap6'.2.2.1⟩, ⟨rdt.symm, rdnm.symm, rddl.symm⟩, ⟨ap6'.2.2.2.1, ap6'.2.2.2.2.1⟩, ap6'.2.2.2.2.2⟩
  have r7 := k7.same r6
  refine ⟨_, rfl, ra, _, dx, _, rfl, r7, C, T.noat mn_Reader_rules, show 7 < 1000 by decide, ?_⟩
  rw [putR_rules]
  have k07 := k06.trans k7
  have m07 := m06.trans m7
  obtain ⟨m8, k8, r8⟩ := stepF (S := [ra]) (fs' := fldsR rd t nm dl "" 0) m07 k07.nil r7
  have kk8 : Keeps [] H (upd H7 ra (.ins (He.ga K "Reader") dx (fldsR rd t nm dl "" 0))) := k07.own raH
  have n1 : ∀ y, y ≠ ra → y ∉ [ra] := fun y h z => h (List.mem_singleton.mp z)
  have kx8 : Keeps [ra] H7 (upd H7 ra (.ins (He.ga K "Reader") dx (fldsR rd t nm dl "" 0))) := (Keeps.refl _ _).mem (by simp)
  have mx8 : Imm H7 (upd H7 ra (.ins (He.ga K "Reader") dx (fldsR rd t nm dl "" 0))) := (Imm.refl _).mut r7
  have R8 := R7.kp kx8 (n1 _ rrd.symm) mx8
  have t8 := kx8 _ _ (k7.same t6) (n1 _ ap6'.1.symm)
  have n8 := kx8 _ _ (k7.same n6) (n1 _ ap6'.2.1.symm)
  have l8 := kx8 _ _ (k7.same l6) (n1 _ ap6'.2.2.1.symm)
  show tSeq _ _ _ _ (upd H7 ra (.ins (He.ga K "Reader") dx (fldsR rd t nm dl "" 0)))
  generalize upd H7 ra (.ins (He.ga K "Reader") dx (fldsR rd t nm dl "" 0)) = H8 at m8 k8 r8 kk8 R8 t8 n8 l8 ⊢
  -- its text
  refine ⟨_, rfl, _, rfl, ra, _, dx, _, rfl, r8, C, T.noat mn_Reader_signs, show 7 < 1000 by decide, ?_⟩
  rw [putR_signs]
  obtain ⟨m9, k9, r9⟩ := stepF (S := [ra]) (fs' := fldsR rd t nm dl TX 0) m8 k8 r8
  have kk9 : Keeps [] H (upd H8 ra (.ins (He.ga K "Reader") dx (fldsR rd t nm dl TX 0))) := kk8.own raH
  have kx9 : Keeps [ra] H8 (upd H8 ra (.ins (He.ga K "Reader") dx (fldsR rd t nm dl TX 0))) := (Keeps.refl _ _).mem (by simp)
  have mx9 : Imm H8 (upd H8 ra (.ins (He.ga K "Reader") dx (fldsR rd t nm dl TX 0))) := (Imm.refl _).mut r8
  have R9 := R8.kp kx9 (n1 _ rrd.symm) mx9
  have t9 := kx9 _ _ t8 (n1 _ ap6'.1.symm)
  have n9 := kx9 _ _ n8 (n1 _ ap6'.2.1.symm)
  have l9 := kx9 _ _ l8 (n1 _ ap6'.2.2.1.symm)
  show tSeq _ _ _ _ (upd H8 ra (.ins (He.ga K "Reader") dx (fldsR rd t nm dl TX 0)))
  generalize upd H8 ra (.ins (He.ga K "Reader") dx (fldsR rd t nm dl TX 0)) = H9 at m9 k9 r9 kk9 R9 t9 n9 l9 ⊢
  -- its rows
  obtain ⟨o, es, ee, hrl, he⟩ := hRows
  have les : es.length = rs.length := by rw [← ee, List.length_map]
  have few := RO.few
  have ein : ∀ e ∈ es, e.1 ∈ rs := fun e hem => by rw [← ee]; exact List.mem_map.mpr ⟨e, hem, rfl⟩
  refine ⟨_, rfl, _, rfl, ⟨_, sq_fr (kk9.same hrl)⟩, ?_⟩
  refine for_it (walk_list (xs := es.map fun e : Rw × Addr => V.ref e.2)) (fun i σ H' => ∃ (v4 v5 v6 v7 v8 v9 : Option V) (tab : List Ky), σ = [some (.ref b), some (.str TX), some (.ref rl), some (.ref ra), v4, v5, v6, v7, v8, v9] ∧ Keeps [] H H' ∧ Imm H H' ∧ RdrN 0 K H' ra rd t nm dl (bs.map (·.1)) (bookG bs) TX R tab ((rs.take i).map (·.key)) (numOf rs) ∧
      tab.Nodup ∧ (∀ x ∈ tab, InDom D TX x) ∧ ∀ x ∈ (rs.take i).map (·.key), x ∈ tab)
    ⟨none, none, none, none, none, none, [], rfl, kk9, m9, ⟨⟨dx, 0, r9⟩, R9, ⟨fun _ => 0, t9, by simp⟩, n9, ⟨[], l9, Nat.zero_le _⟩, ap⟩, List.nodup_nil, by simp, by simp⟩ (fun i σ H' _ ⟨_, _, _, _, _, _, _, _, k', _⟩ => sq_fr (k'.same hrl)) ?_ ?_
  · rintro i x σ Ha Ha' hi ⟨v4, v5, v6, v7, v8, v9, tab, rfl, ka, ma, Ra, nda, da, ina⟩ ⟨rfl, hx⟩
    obtain ⟨e, he1, hm, rfl⟩ := getM hx
    obtain ⟨dm, _, _, _⟩ := RO.val _ (ein e hm)
    obtain ⟨lb, q1, q2⟩ := (he e hm).imm ma
    have hri : rs[i]? = some e.1 := by rw [← ee, List.getElem?_map, he1]; rfl
    have hnew := new_of_nodup RO.ndK hri
    refine ⟨e.2, _, rfl, sqt_of q1, rfl, _, _, rfl, _, _, rfl, _, _, rfl, _, _, rfl, _, _, rfl, _, _, rfl, rfl, ?_⟩
    obtain ⟨⟨dxa, fua, ria⟩, rua, tba, nua, ⟨xsa, dla, dlla⟩, _⟩ := id Ra
    refine ⟨_, rfl, _, rfl, ra, _, dxa, _, _, rfl, ria, C, T.noat mn_Reader_numbers, rfl, _, rfl, _, rfl, show 2 ≤ sizeLine by decide, fun kt hkt => ?_⟩
    have kb := (Keeps.refl [] Ha').new (o := .tup [V.str e.1.key.1, V.int (e.1.key.2 : Nat)]) hkt
    have mb := (Imm.refl Ha').new (o := .tup [V.str e.1.key.1, V.int (e.1.key.2 : Nat)]) hkt
    have hb : KeyAt (upd Ha' kt (.tup [V.str e.1.key.1, V.int (e.1.key.2 : Nat)])) kt e.1.key := upd_same
    generalize upd Ha' kt (.tup [V.str e.1.key.1, V.int (e.1.key.2 : Nat)]) = Hb at kb mb hb ⊢
    have nub := kb.same nua
    refine ⟨nm, _, rfl, .inr ⟨_, kyK e.1.key, kt, nub, rfl, hb, ?_, rfl⟩, ?_⟩
    · rw [mkD_len, List.length_map, List.length_take]
      exact line5 (by omega)
    have ep : putK (mkD kyK (fun k => V.int ((numOf rs k : Nat) : Int)) ((rs.take i).map (·.key))) (kyK e.1.key) (V.int (e.1.num : Nat)) = mkD kyK (fun k => .int ((numOf rs k : Nat) : Int)) ((rs.take (i + 1)).map (·.key)) := by
      refine (mkD_put kyK_inj _ e.1.key _).trans ?_
      rw [addK_no hnew, take_snoc hri, List.map_append]
      refine mkD_congr fun j _ => ?_
      unfold setF
      split
      · rename_i hj
        rw [hj, numOf_in RO.ndK (ein e hm)]
      · rfl
    rw [ep]
    have kc : Keeps [nm] Hb (upd Hb nm (.dT (mkD kyK (fun k => .int ((numOf rs k : Nat) : Int)) ((rs.take (i + 1)).map (·.key))))) := (Keeps.refl _ _).mem (by simp)
    have mc : Imm Hb (upd Hb nm (.dT (mkD kyK (fun k => .int ((numOf rs k : Nat) : Int)) ((rs.take (i + 1)).map (·.key))))) := (Imm.refl _).mut nub
    have nc : upd Hb nm (.dT (mkD kyK (fun k => .int ((numOf rs k : Nat) : Int)) ((rs.take (i + 1)).map (·.key)))) nm = some (.dT (mkD kyK (fun k => .int ((numOf rs k : Nat) : Int)) ((rs.take (i + 1)).map (·.key)))) := upd_same
    generalize upd Hb nm (.dT (mkD kyK (fun k => .int ((numOf rs k : Nat) : Int)) ((rs.take (i + 1)).map (·.key)))) = Hc at kc mc nc ⊢
    have n2 : ∀ y, y ≠ nm → y ∉ [nm] := fun y h z => h (List.mem_singleton.mp z)
    have ric := kc _ _ (kb.same ria) (n2 _ ap6'.2.1)
    have kac : Keeps [] H Hc := (ka.trans kb).call kc fun y hy => .inr (by rw [List.mem_singleton.mp hy]; exact nmH)
    have mac := (ma.trans mb).trans mc
    refine ⟨_, rfl, ra, _, dxa, _, _, rfl, ric, C, T.noat mn_Reader_further, rfl, _, rfl, _, _, rfl, rfl, _, _, rfl, ?_⟩
    refine ⟨_, rfl, ra, _, dxa, _, rfl, ric, C, T.noat mn_Reader_further, show 7 < 1000 by decide, ?_⟩
    rw [putR_further]
    generalize (if (e.1.num : Int) + 1 > fua then (e.1.num : Int) + 1 else fua) = fu2
    have kd : Keeps [ra] Hc (upd Hc ra (.ins (He.ga K "Reader") dxa (fldsR rd t nm dl TX fu2))) := (Keeps.refl _ _).mem (by simp)
    have md : Imm Hc (upd Hc ra (.ins (He.ga K "Reader") dxa (fldsR rd t nm dl TX fu2))) := (Imm.refl _).mut ric
    have rid : upd Hc ra (.ins (He.ga K "Reader") dxa (fldsR rd t nm dl TX fu2)) ra = some (.ins (He.ga K "Reader") dxa (fldsR rd t nm dl TX fu2)) := upd_same
    generalize upd Hc ra (.ins (He.ga K "Reader") dxa (fldsR rd t nm dl TX fu2)) = Hd at kd md rid ⊢
    have kad : Keeps [] H Hd := kac.call kd fun y hy => .inr (by rw [List.mem_singleton.mp hy]; exact raH)
    have mad := mac.trans md
    have mbd := (mb.trans mc).trans md
    have rud := ((rua.kp kb (by simp) mb).kp kc (n2 _ rdnm.symm) mc).kp kd (n1 _ rrd.symm) md
    have tbd := ((tba.kp kb (by simp) mb).kp kc (n2 _ ap6'.2.2.2.1) mc).kp kd (n1 _ ap6'.1.symm) md
    have nud : NumAt (numOf rs) Hd nm ((rs.take (i + 1)).map (·.key)) := kd _ _ nc (n1 _ ap6'.2.1.symm)
    have dld := kd _ _ (kc _ _ (kb.same dla) (n2 _ ap6'.2.2.2.2.2.symm)) (n1 _ ap6'.2.2.1.symm)
    refine ⟨_, rfl, _, rfl, show 2 ≤ sizeLine by decide, fun ku hku => ?_⟩
    have ke := (Keeps.refl [] Hd).new (o := .tup [V.str e.1.key.1, V.int (e.1.key.2 : Nat)]) hku
    have me := (Imm.refl Hd).new (o := .tup [V.str e.1.key.1, V.int (e.1.key.2 : Nat)]) hku
    have hue : KeyAt (upd Hd ku (.tup [V.str e.1.key.1, V.int (e.1.key.2 : Nat)])) ku e.1.key := upd_same
    generalize upd Hd ku (.tup [V.str e.1.key.1, V.int (e.1.key.2 : Nat)]) = He_ at ke me hue ⊢
    have rie := ke.same rid
    have kae := kad.trans ke
    have mae := mad.trans me
    have rue := rud.kp ke (by simp) me
    have tbe := tbd.kp ke (by simp) me
    have nue : NumAt (numOf rs) He_ nm ((rs.take (i + 1)).map (·.key)) := ke.same nud
    have dle := ke.same dld
    have fin : ∀ (tab' : List Ky) (Hf : Hp), Keeps [] H Hf → Imm H Hf → RdrN 0 K Hf ra rd t nm dl (bs.map (·.1)) (bookG bs) TX R tab' ((rs.take (i + 1)).map (·.key)) (numOf rs) → tab'.Nodup → (∀ x ∈ tab', InDom D TX x) → (∀ x ∈ tab, x ∈ tab') → e.1.key ∈ tab' →
        ∃ (v4 v5 v6 v7 v8 v9 : Option V) (tab : List Ky), [some (V.ref b), some (.str TX), some (.ref rl), some (.ref ra), some (.int (e.1.num : Nat)), some (.str e.1.key.1), some (.int (e.1.key.2 : Nat)), some (lenV e.1.len), some (.int (e.1.reach : Nat)), some (.ref lb)] = [some (.ref b), some (.str TX), some (.ref rl), some (.ref ra), v4, v5, v6, v7, v8, v9] ∧ Keeps [] H Hf ∧ Imm H Hf ∧ RdrN 0 K Hf ra rd t nm dl (bs.map (·.1)) (bookG bs) TX R tab ((rs.take (i + 1)).map (·.key)) (numOf rs) ∧
          tab.Nodup ∧ (∀ x ∈ tab, InDom D TX x) ∧ ∀ x ∈ (rs.take (i + 1)).map (·.key), x ∈ tab := by
      intro tab' Hf kf mf Rf nf df sub hin
      refine ⟨_, _, _, _, _, _, tab', rfl, kf, mf, Rf, nf, df, fun x hx => ?_⟩
      rw [take_snoc hri, List.map_append] at hx
      rcases List.mem_append.mp hx with hx | hx
      · exact sub x (ina x hx)
      · rw [List.mem_singleton.mp hx]; exact hin
    have rdr : ∀ (Hf : Hp) (tab' : List Ky), Keeps [t] He_ Hf → Imm He_ Hf → TabAt R Hf t tab' → RdrN 0 K Hf ra rd t nm dl (bs.map (·.1)) (bookG bs) TX R tab' ((rs.take (i + 1)).map (·.key)) (numOf rs) := by
      intro Hf tab' kf mf tf
      have n3 : ∀ y, y ≠ t → y ∉ [t] := fun y h z => h (List.mem_singleton.mp z)
      exact ⟨⟨dxa, fu2, kf _ _ rie (n3 _ ap6'.1)⟩, rue.kp kf (n3 _ rdt.symm) mf, tf, kf _ _ nue (n3 _ ap6'.2.2.2.1.symm), ⟨xsa, kf _ _ dle (n3 _ ap6'.2.2.2.2.1.symm), dlla⟩, ap⟩
    refine ⟨_, rfl, ra, _, dxa, _, _, rfl, rie, C, T.noat mn_Reader_table, rfl, ?_⟩
    by_cases hin : e.1.key ∈ tab
    · obtain ⟨rec, hget, _⟩ := tbe.get hin hue
      exact ⟨t, _, rfl, hget, _, rfl, iteF (fin tab He_ kae mae (rdr He_ tab (Keeps.refl _ _) (Imm.refl _) tbe) nda da (fun _ h => h) hin)⟩
    · refine ⟨t, _, rfl, tbe.no hin hue, _, rfl, iteT ?_⟩
      refine ⟨_, rfl, ra, _, dxa, _, _, rfl, rie, C, T.noat mn_Reader_rules, rfl, _, rfl, _, rfl, ra, _, dxa, _, _, rfl, rie, C, T.noat mn_Reader_table, rfl, _, rfl, _, rfl, rd, t, TX, e.1.key, bs.map (·.1), bookG bs, R, D, rk, tab, rfl, rue.at, bookG_dom hbn, rdt.symm, tbe, S, dm, hin, nda, da, fun lk Hf new _ kf tf _ nf df hkf mf => ?_⟩
      exact fin (tab ++ new) Hf (kae.call kf fun y hy => .inr (by rw [List.mem_singleton.mp hy]; exact tH)) (mae.trans mf) (rdr Hf _ kf mf tf) nf (fun x hx => (List.mem_append.mp hx).elim (da x) (df x)) (fun x hx => List.mem_append.mpr (.inl hx)) (List.mem_append.mpr (.inr hkf))
  · rintro σ Ha ⟨v4, v5, v6, v7, v8, v9, tab, rfl, ka, ma, Ra, nda, da, ina⟩
    rw [List.length_map, les, List.take_length] at Ra ina
    refine ⟨_, rfl, k ra rd t nm dl tab Ha ka (fun y hy => ?_) Ra nda fun x => ⟨fun hx => RO.all x (da x hx), fun hx => ina x hx⟩⟩
    simp at hy
    rcases hy with z | z | z | z | z <;> rw [z] <;> assumption
end
end Kr
namespace Kr
open PySem PySem.Spec PyProof.Rows L2
section
variable {P : Program} {w : World} {K : PySem.W.Frag} {mg : Str → Option Value} {base : Heap} {k : Nat}
/-- a table that is read -/
def TabRd (R : Ky → Rc) (H : Hp) (t : Addr) (ks : List Ky) : Prop := ∃ ad : Ky → Addr, Rd H t (.dT (mkD kyK (fun k => .ref (ad k)) ks)) ∧ ∀ k ∈ ks, RecAt H (ad k) (R k)
theorem TabAt.rd {R : Ky → Rc} {H : Hp} {t : Addr} {ks : List Ky} (h : TabAt R H t ks) : TabRd R H t ks := let ⟨ad, a, b⟩ := h; ⟨ad, .inl a, b⟩
theorem TabRd.get {R : Ky → Rc} {H : Hp} {t : Addr} {ks : List Ky} (h : TabRd R H t ks) {q : Ky} (hq : q ∈ ks) {b : Addr} (hb : KeyAt H b q) : ∃ a, DGet H t (.ref b) (some (.ref a)) ∧ RecAt H a (R q) := by
  obtain ⟨ad, h1, h2⟩ := h
  exact ⟨ad q, .inr ⟨_, kyK q, b, h1, rfl, hb, (mkD_in (f := kyK) (g := fun k => V.ref (ad k)) kyK_inj hq).symm⟩, h2 q hq⟩
theorem TabRd.kp {S : List Addr} {R : Ky → Rc} {H H' : Hp} {t : Addr} {ks : List Ky} (h : TabRd R H t ks) (k : Keeps S H H') (n : t ∉ S) (i : Imm H H') : TabRd R H' t ks :=
  let ⟨ad, h1, h2⟩ := h
  ⟨ad, rd_kp h1 k n, fun x hx => (h2 x hx).imm i⟩
theorem NumAt.get {num : Ky → Nat} {H : Hp} {t : Addr} {ks : List Ky} (h : NumAt num H t ks) {q : Ky} (hq : q ∈ ks) {b : Addr} (hb : KeyAt H b q) : DGet H t (.ref b) (some (.int (num q : Nat))) :=
  .inr ⟨_, kyK q, b, .inl h, rfl, hb, (mkD_in (f := kyK) (g := fun k => V.int (num k : Nat)) kyK_inj hq).symm⟩
def rowOf (R : Ky → Rc) (num : Ky → Nat) (q : Ky) : Rw := ⟨num q, q, (R q).len, (R q).reach, (R q).leans⟩
def spRowOf (K : PySem.W.Frag) : Sp := fun vs H Q _ => ∃ (ra ka dx rd t nm dl : Addr) (T : Str) (fu : Int) (R : Ky → Rc) (tab nks : List Ky) (num : Ky → Nat) (q : Ky), vs = [.ref ra, .ref ka] ∧ H ra = some (.ins (He.ga K "Reader") dx (fldsR rd t nm dl T fu)) ∧ TabRd R H t tab ∧ NumAt num H nm nks ∧ KeyAt H ka q ∧ q ∈ tab ∧ q ∈ nks ∧
  ∀ a H', Keeps [] H H' → RowAt H' a (rowOf R num q) → Q (.ref a) H'
theorem ok_Reader_row_of (T : Tp K mg) : CallsM P w K mg base (k + 1) (He.ga K "Reader") "row_of" ["self", "key"] (spRowOf K) := by
  have sc : FnScope ["self", "key", "length", "reach", "asked", "leans"] ["self", "key"] d_Reader_row_of.scope := ⟨rfl, rfl, rfl, by decide +kernel, rfl, by decide +kernel, by decide +kernel⟩
  refine mkMeth T in_Reader_row_of rfl mt_Reader_row_of rfl rfl sc (fun _ _ _ _ _ _ us hl => match us, hl with | [_, _], _ => rfl) (fun vs H Q E h => ?_) (fun f cdv A outer s H vs Q E hr h => ?_)
  · obtain ⟨ra, ka, dx, rd, t, nm, dl, TX, fu, R, tab, nks, num, q, rfl, _⟩ := h
    rfl
  obtain ⟨ra, ka, dx, rd, t, nm, dl, TX, fu, R, tab, nks, num, q, rfl, hi, ht, hn, hk, hqt, hqn, k⟩ := h
  refine ⟨_, (pss_cons (ps_asg (pe_dget (hu_of hr) (pe_fld (pv 0) rfl) (pv 1) (fun _ _ => rfl)) (pg_tupK (K := K) (n := 4) rfl rfl (pgs_cons (pg_name (i := 2) sc.nd rfl (by first | exact Or.inl rfl | exact Or.inr rfl)) (pgs_cons (pg_name (i := 3) sc.nd rfl (by first | exact Or.inl rfl | exact Or.inr rfl)) (pgs_cons (pg_name (i := 4) sc.nd rfl (by first | exact Or.inl rfl | exact Or.inr rfl)) (pgs_cons (pg_name (i := 5) sc.nd rfl (by first | exact Or.inl rfl | exact Or.inr rfl)) pgs_nil))))))
      (pss_one (ps_ret (pe_tup (pa_cons (pe_dget (hu_of hr) (pe_fld (pv 0) rfl) (pv 1) (fun _ _ => rfl)) (pa_cons (pe_ix ix_tup (pv 1) pe_int (fun _ _ => rfl)) (pa_cons (pe_ix ix_tup (pv 1) pe_int (fun _ _ => rfl)) (pa_cons (pv 2) (pa_cons (pv 3) (pa_cons (pe_frz (pe_callTy call_list_of (by rfl) (T.fre _ mf_list) bt_list (pa_cons (pv 5) pa_nil))) pa_nil)))))))))), ?_⟩
  have C := T.cls mk_Reader
  obtain ⟨a, hget, la, lb, hra, hrk, hrs⟩ := ht.get hqt hk
  refine ⟨_, rfl, ra, _, dx, _, _, rfl, hi, C, T.noat mn_Reader_table, rfl, _, rfl, t, _, rfl, hget, a, _, rfl, sqt_of hra, rfl, _, _, rfl, _, _, rfl, _, _, rfl, _, _, rfl, rfl, ?_⟩
  refine ⟨_, rfl, ra, _, dx, _, _, rfl, hi, C, T.noat mn_Reader_numbers, rfl, _, rfl, nm, _, rfl, hn.get hqn hk, _, rfl, _, _, _, _, rfl, rfl, sqt_of hk, at_0 rfl, _, rfl, _, _, _, _, rfl, rfl, sqt_of hk, at_1 rfl, _, rfl, _, rfl, _, rfl, lb, _, rfl, .inl hrs.sq, fun l hl => ⟨l, _, rfl, upd_same, trivial, fun od => ?_⟩⟩
  rw [upd_upd]
  have i1 := (Imm.refl H).new (o := .frz od (.lst ((R q).leans.map V.str))) hl
  have k1 := (Keeps.refl [] H).new (o := .frz od (.lst ((R q).leans.map V.str))) hl
  have l1 : StrsAt (upd H l (.frz od (.lst ((R q).leans.map V.str)))) l (R q).leans := ⟨od, upd_same⟩
  refine ⟨show 6 ≤ sizeLine by decide, fun u hu => k u _ (k1.new hu) ⟨l, upd_same, l1.imm ((Imm.refl _).new hu)⟩⟩
def spReadingAt (K : PySem.W.Frag) : Sp := fun vs H Q _ => ∃ (ra dx rd t nm dl : Addr) (T : Str) (fu : Int) (R : Ky → Rc) (tab : List Ky) (q : Ky), vs = [.ref ra, .str q.1, .int (q.2 : Nat)] ∧ H ra = some (.ins (He.ga K "Reader") dx (fldsR rd t nm dl T fu)) ∧ TabRd R H t tab ∧ q ∈ tab ∧ okN q.1 ∧ q.2 ≤ T.length ∧ T.length ≤ 1000 ∧
  ∀ a H', Keeps [] H H' → RecAt H' a (R q) → Q (.ref a) H'
theorem ok_Reader_reading_at (T : Tp K mg) (c_is_name : Calls P w K mg base k "is_name" ["thing"] spIsName) (c_make : Calls P w K mg base k "make" ["rules", "text", "table", "name", "place"] (spMake K)) : CallsM P w K mg base (k + 1) (He.ga K "Reader") "reading_at" ["self", "name", "place"] (spReadingAt K) := by
  have sc : FnScope ["self", "name", "place", "key"] ["self", "name", "place"] d_Reader_reading_at.scope := ⟨rfl, rfl, rfl, by decide +kernel, rfl, by decide +kernel, by decide +kernel⟩
  refine mkMeth T in_Reader_reading_at rfl mt_Reader_reading_at rfl rfl sc (fun _ _ _ _ _ _ us hl => match us, hl with | [_, _, _], _ => rfl) (fun vs H Q E h => ?_) (fun f cdv A outer s H vs Q E hr h => ?_)
  · obtain ⟨ra, dx, rd, t, nm, dl, TX, fu, R, tab, q, rfl, _⟩ := h
    rfl
  obtain ⟨ra, dx, rd, t, nm, dl, TX, fu, R, tab, q, rfl, hi, ht, hqt, hqn, hle, hT, k⟩ := h
  refine ⟨_, (pss_cons (ps_if (pt_not (pt_val (pcall c_is_name hr (pa_cons (pv 1) pa_nil)))) (pss_one ps_never) pss_nil)
      (pss_cons (ps_if (PW.pt (pw_or (pt_cmpR op_lt (pv 2) pe_int (nomark _)) (pw_or1 (pt_cmpR op_gt (pv 2) (pe_callB call_len_str (by rfl) (T.fre _ mf_len) bt_len (pa_cons (pe_fld (pv 0) rfl) pa_nil)) (nomark _))))) (pss_one ps_never) pss_nil)
      (pss_cons (ps_if (pt_cmp (pc_dnotin (hu_of hr) (pe_tup (pa_cons (pv 1) (pa_cons (pv 2) pa_nil))) (pe_fld (pv 0) rfl)) rfl) (pss_one (ps_for PassesOwn.never rfl (pi_list (pcall c_make hr (pa_cons (pe_fld (pv 0) rfl) (pa_cons (pe_fld (pv 0) rfl) (pa_cons (pe_fld (pv 0) rfl) (pa_cons (pv 1) (pa_cons (pv 2) pa_nil))))))) (pg_name (i := 3) sc.nd rfl (by first | exact Or.inl rfl | exact Or.inr rfl))
        (pss_cons (ps_dput (hu_of hr) (pe_fld (pv 0) rfl) (pv 3) (pe_fld (pv 0) rfl) rfl)
      (pss_cons (ps_fldaug (pv 0) pe_int in_add)
      (pss_one (ps_fldaug (pv 0) pe_int in_add)))))) pss_nil)
      (pss_one (ps_ret (pe_dget (hu_of hr) (pe_fld (pv 0) rfl) (pe_tup (pa_cons (pv 1) (pa_cons (pv 2) pa_nil))) (fun _ _ => rfl))))))), ?_⟩
  have C := T.cls mk_Reader
  refine ⟨_, rfl, q.1, rfl, hqn, fun H1 k1 m1 => ⟨_, rfl, iteF ?_⟩⟩
  refine ⟨_, rfl, _, _, rfl, rfl, _, rfl, iteN (decide_eq_false (by omega)) ?_⟩
  refine ⟨_, rfl, _, rfl, ra, _, dx, _, _, rfl, k1.same hi, C, T.noat mn_Reader_signs, rfl, TX, rfl, line5' (by omega), _, _, rfl, rfl, _, rfl, iteN (decide_eq_false (by omega)) ?_⟩
  refine ⟨_, rfl, _, rfl, show 2 ≤ sizeLine by decide, fun kt hkt => ?_⟩
  have k2 := k1.new (o := .tup [V.str q.1, V.int (q.2 : Nat)]) hkt
  have m2 := m1.new (o := .tup [V.str q.1, V.int (q.2 : Nat)]) hkt
  have h2 : KeyAt (upd H1 kt (.tup [V.str q.1, V.int (q.2 : Nat)])) kt q := upd_same
  generalize upd H1 kt (.tup [V.str q.1, V.int (q.2 : Nat)]) = H2 at k2 m2 h2 ⊢
  obtain ⟨a, hget, _⟩ := (ht.kp k2 (by simp) m2).get hqt h2
  refine ⟨_, rfl, ra, _, dx, _, _, rfl, k2.same hi, C, T.noat mn_Reader_table, rfl, t, _, rfl, hget, _, rfl, iteF ?_⟩
  refine ⟨_, rfl, ra, _, dx, _, _, rfl, k2.same hi, C, T.noat mn_Reader_table, rfl, _, rfl, _, rfl, show 2 ≤ sizeLine by decide, fun ku hku => ?_⟩
  have k3 := k2.new (o := .tup [V.str q.1, V.int (q.2 : Nat)]) hku
  have m3 := m2.new (o := .tup [V.str q.1, V.int (q.2 : Nat)]) hku
  have h3 : KeyAt (upd H2 ku (.tup [V.str q.1, V.int (q.2 : Nat)])) ku q := upd_same
  obtain ⟨a3, hget3, hr3⟩ := (ht.kp k3 (by simp) m3).get hqt h3
  exact ⟨t, _, rfl, hget3, k a3 _ k3 hr3⟩
def spRead (K : PySem.W.Frag) : Sp := fun vs H Q _ => ∃ (ra dx rd t nm dl : Addr) (T : Str) (fu : Int) (R : Ky → Rc) (tab : List Ky) (q : Ky), vs = [.ref ra, .str q.1, .int (q.2 : Nat)] ∧ H ra = some (.ins (He.ga K "Reader") dx (fldsR rd t nm dl T fu)) ∧ TabRd R H t tab ∧ q ∈ tab ∧ okN q.1 ∧ q.2 ≤ T.length ∧ T.length ≤ 1000 ∧
  ∀ a H', Keeps [] H H' → H' a = some (.tup [lenV (R q).len, .int ((R q).reach : Nat)]) → Q (.ref a) H'
theorem ok_Reader_read (T : Tp K mg) (m_Reader_reading_at : CallsM P w K mg base k (He.ga K "Reader") "reading_at" ["self", "name", "place"] (spReadingAt K)) : CallsM P w K mg base (k + 1) (He.ga K "Reader") "read" ["self", "name", "place"] (spRead K) := by
  have sc : FnScope ["self", "name", "place", "length", "reach", "asked", "leans"] ["self", "name", "place"] d_Reader_read.scope := ⟨rfl, rfl, rfl, by decide +kernel, rfl, by decide +kernel, by decide +kernel⟩
  refine mkMeth1 T in_Reader_read rfl mt_Reader_read rfl rfl sc (fun T kV doc pm an cdv ct us its hu hi => match us, its, hu, hi with | [_, _, _], [_], _, _ => ⟨_, rfl, rfl⟩) (fun vs H Q E h => ?_) (fun f cdv A outer s H vs Q E hr h => ?_)
  · obtain ⟨ra, dx, rd, t, nm, dl, TX, fu, R, tab, q, rfl, _⟩ := h
    rfl
  obtain ⟨ra, dx, rd, t, nm, dl, TX, fu, R, tab, q, rfl, hi, ht, hqt, hqn, hle, hT, k⟩ := h
  refine ⟨_, (pss_cons (ps_asg (pmeth (pv 0) (T.cls mk_Reader) m_Reader_reading_at hr (pa_cons (pv 1) (pa_cons (pv 2) pa_nil))) (pg_tupK (K := K) (n := 4) rfl rfl (pgs_cons (pg_name (i := 3) sc.nd rfl (by first | exact Or.inl rfl | exact Or.inr rfl)) (pgs_cons (pg_name (i := 4) sc.nd rfl (by first | exact Or.inl rfl | exact Or.inr rfl)) (pgs_cons (pg_name (i := 5) sc.nd rfl (by first | exact Or.inl rfl | exact Or.inr rfl)) (pgs_cons (pg_name (i := 6) sc.nd rfl (by first | exact Or.inl rfl | exact Or.inr rfl)) pgs_nil))))))
      (pss_one (ps_ret (pe_tup (pa_cons (pv 3) (pa_cons (pv 4) pa_nil)))))), ?_⟩
  refine ⟨_, rfl, ra, dx, _, rfl, hi, rfl, _, rfl, _, rfl, ra, dx, rd, t, nm, dl, TX, fu, R, tab, q, rfl, hi, ht, hqt, hqn, hle, hT, fun a H1 k1 hrec m1 => ?_⟩
  obtain ⟨la, lb, hra, _, _⟩ := hrec
  refine ⟨a, _, rfl, sqt_of hra, rfl, _, _, rfl, _, _, rfl, _, _, rfl, _, _, rfl, rfl, ?_⟩
  exact ⟨_, rfl, _, rfl, show 2 ≤ sizeLine by decide, fun u hu => k u _ (k1.new hu) upd_same⟩
def spMade (K : PySem.W.Frag) : Sp := fun vs H Q _ => ∃ (ra dx rd t nm dl : Addr) (T : Str) (fu : Int), vs = [.ref ra] ∧ H ra = some (.ins (He.ga K "Reader") dx (fldsR rd t nm dl T fu)) ∧ Q (.int 0) H
theorem ok_Reader_made (T : Tp K mg) : CallsM P w K mg base (k + 1) (He.ga K "Reader") "made" ["self"] (spMade K) := by
  have sc : FnScope ["self"] ["self"] d_Reader_made.scope := ⟨rfl, rfl, rfl, by decide +kernel, rfl, by decide +kernel, by decide +kernel⟩
  refine mkMeth T in_Reader_made rfl mt_Reader_made rfl rfl sc (fun _ _ _ _ _ _ us hl => match us, hl with | [_], _ => rfl) (fun vs H Q E h => ?_) (fun f cdv A outer s H vs Q E hr h => ?_)
  · obtain ⟨ra, dx, rd, t, nm, dl, TX, fu, rfl, _⟩ := h
    rfl
  obtain ⟨ra, dx, rd, t, nm, dl, TX, fu, rfl, hi, k⟩ := h
  refine ⟨_, (pss_one (ps_ret (pe_fld (pv 0) rfl))), ?_⟩
  exact ⟨_, rfl, ra, _, dx, _, _, rfl, hi, T.cls mk_Reader, T.noat mn_Reader_count_made, rfl, k⟩
def spKept (K : PySem.W.Frag) : Sp := fun vs H Q _ => ∃ (ra dx rd t nm dl : Addr) (T : Str) (fu : Int) (R : Ky → Rc) (tab nks : List Ky) (num : Ky → Nat), vs = [.ref ra] ∧ H ra = some (.ins (He.ga K "Reader") dx (fldsR rd t nm dl T fu)) ∧ TabAt R H t tab ∧ NumAt num H nm nks ∧ t ≠ nm ∧ t ≠ ra ∧ tab.Nodup ∧ tab.length ≤ 63 ∧ (∀ q ∈ tab, q ∈ nks) ∧ (∀ q ∈ tab, ∀ q' ∈ tab, num q = num q' → q = q') ∧
  ∀ (l : Addr) (rs : List Rw) H', H l = none → Keeps [] H H' → RowsM H' l rs → rs.Pairwise (fun a b => a.num < b.num) → (∀ r, r ∈ rs ↔ ∃ q ∈ tab, r = rowOf R num q) → Q (.ref l) H'
theorem ok_Reader_kept (T : Tp K mg) (m_Reader_row_of : CallsM P w K mg base k (He.ga K "Reader") "row_of" ["self", "key"] (spRowOf K)) : CallsM P w K mg base (k + 1) (He.ga K "Reader") "kept" ["self"] (spKept K) := by
  have sc : FnScope ["self", "key"] ["self"] d_Reader_kept.scope := ⟨rfl, rfl, rfl, by decide +kernel, rfl, by decide +kernel, by decide +kernel⟩
  refine mkMeth T in_Reader_kept rfl mt_Reader_kept rfl rfl sc (fun _ _ _ _ _ _ us hl => match us, hl with | [_], _ => rfl) (fun vs H Q E h => ?_) (fun f cdv A outer s H vs Q E hr h => ?_)
  · obtain ⟨ra, dx, rd, t, nm, dl, TX, fu, R, tab, nks, num, rfl, _⟩ := h
    rfl
  obtain ⟨ra, dx, rd, t, nm, dl, TX, fu, R, tab, nks, num, rfl, hi, ⟨ad, ht, hrec⟩, hn, htn, htr, hnd, h63, hsub, hinj, k⟩ := h
  refine ⟨_, (pss_one (ps_ret (pe_callB (cr_sortedBy hr.units) (by rfl) (T.fre _ mf_sorted) bt_sorted (pa_cons (pe_lock (pe_lc (own := [("key", 1)]) rfl sc.nd (pi_keys (pe_fld (pv 0) rfl)) (blkOk_by (by kernel_rfl)) (fun _ _ _ _ _ => (pg_name (i := 1) sc.nd rfl (by first | exact Or.inl rfl | exact Or.inr rfl))) (fun _ _ _ _ _ => pts_nil) (fun _ _ _ _ _ => (pmeth (pv 0) (T.cls mk_Reader) m_Reader_row_of hr (pa_cons (pv 1) pa_nil))))) pa_nil)))), ?_⟩
  have C := T.cls mk_Reader
  refine ⟨t, _, ht, trivial, fun od => ?_⟩
  have tL : upd H t (.frz od (.dT (mkD kyK (fun q => .ref (ad q)) tab))) t = some (.frz od (.dT (mkD kyK (fun q => .ref (ad q)) tab))) := upd_same
  have iL : Imm H (upd H t (.frz od (.dT (mkD kyK (fun q => .ref (ad q)) tab)))) := (Imm.refl _).mut ht
  have rL : upd H t (.frz od (.dT (mkD kyK (fun q => .ref (ad q)) tab))) ra = some (.ins (He.ga K "Reader") dx (fldsR rd t nm dl TX fu)) := by rw [upd_ne htr.symm]; exact hi
  have nL : NumAt num (upd H t (.frz od (.dT (mkD kyK (fun q => .ref (ad q)) tab)))) nm nks := by
    show upd H t _ nm = _
    rw [upd_ne htn.symm]
    exact hn
  have bK : ∀ H', Keeps [] (upd H t (.frz od (.dT (mkD kyK (fun q => .ref (ad q)) tab)))) H' → Keeps [] H (upd H' t (.dT (mkD kyK (fun q => .ref (ad q)) tab))) := fun H' k' => unlockK ht k'
  have bI : ∀ H', Imm (upd H t (.frz od (.dT (mkD kyK (fun q => .ref (ad q)) tab)))) H' → Imm H (upd H' t (.dT (mkD kyK (fun q => .ref (ad q)) tab))) := fun H' i => unlockI ht rfl i
  have fresh : ∀ y, upd H t (.frz od (.dT (mkD kyK (fun q => .ref (ad q)) tab))) y = none → H y = none := fun y hy => by
    by_cases e : y = t
    · rw [e, tL] at hy; cases hy
    · rw [upd_ne e] at hy; exact hy
  generalize upd H t (.frz od (.dT (mkD kyK (fun q => .ref (ad q)) tab))) = HL at tL iL rL nL bK bI fresh ⊢
  refine ⟨_, rfl, ra, _, dx, _, _, rfl, rL, C, T.noat mn_Reader_table, rfl, t, od, rfl, .inr ⟨_, tL, ?_⟩⟩
  intro D hD
  have ml : (mkD kyK (fun q => V.ref (ad q)) tab).length = tab.length := mkD_len
  refine lc_rel tab (fun _ => true) V.ref (fun q a H => RowAt H a (rowOf R num q)) walk_keysT ml (by omega) hD (fun H' k' _ => k'.same tL) (fun _ _ _ _ i h => h.imm i) ?_ ?_
  · rintro i y x H1 H1' hy k1 m1 ⟨rfl, kk, vv, qa, hkv, rfl, hqa⟩ R' N hR _
    obtain ⟨q, hq, rfl⟩ := mkD_get hkv
    obtain rfl : q = y := Option.some.inj (hq.symm.trans hy)
    have hqm := List.mem_of_getElem? hq
    refine ⟨rfl, _, rfl, ra, dx, _, rfl, k1.same rL, rfl, _, rfl, ra, qa, dx, rd, t, nm, dl, TX, fu, R, tab, nks, num, q, rfl, k1.same rL, ⟨ad, .inr ⟨od, k1.same tL⟩, fun x hx => (hrec x hx).imm (iL.trans m1)⟩, k1.same nL, hqa, hqm, hsub q hqm, fun a H2 k2 hrow m2 => hR rfl a H2 k2 m2 hrow⟩
  · intro zs H1 k1 m1 h1 h2 e1
    rw [filter_all_true] at h1
    refine ⟨k1.same tL, ?_⟩
    have kB := bK H1 k1
    have hDt : D ≠ t := fun e => by rw [e, tL] at hD; cases hD
    have eB : upd H1 t (.dT (mkD kyK (fun q => .ref (ad q)) tab)) D = some (.lst (zs.map fun z => V.ref z.2)) := by rw [upd_ne hDt]; exact e1
    have rowB : ∀ z ∈ zs, RowAt (upd H1 t (.dT (mkD kyK (fun q => .ref (ad q)) tab))) z.2 (rowOf R num z.1) := fun z hz => by
      obtain ⟨lb, r1, o, r2⟩ := h2 z hz
      refine ⟨lb, ?_, o, ?_⟩
      · rw [upd_ne (fun e => by rw [e, k1.same tL] at r1; cases r1)]
        exact r1
      · rw [upd_ne (fun e => by rw [e, k1.same tL] at r2; cases r2)]
        exact r2
    generalize upd H1 t (.dT (mkD kyK (fun q => .ref (ad q)) tab)) = HB at kB eB rowB ⊢
    have zlen : zs.length = tab.length := by rw [← h1, List.length_map]
    let nOf : Addr → Int := fun b => match HB b with
      | some (.tup (.int n :: _)) => n
      | _ => 0
    have nOfz : ∀ z ∈ zs, nOf z.2 = (num z.1 : Nat) := fun z hz => by
      obtain ⟨lb, r1, _⟩ := rowB z hz
      show (match HB z.2 with | some (.tup (.int n :: _)) => n | _ => 0) = _
      rw [r1]
      rfl
    have zin : ∀ z ∈ zs, z.1 ∈ tab := fun z hz => by rw [← h1]; exact List.mem_map.mpr ⟨z, hz, rfl⟩
    have zeq : ∀ z ∈ zs, ∀ z' ∈ zs, num z.1 = num z'.1 → z = z' := fun z hz z' hz' e => by
      have e1 := hinj _ (zin z hz) _ (zin z' hz') e
      obtain ⟨i, hi'⟩ := List.mem_iff_getElem?.mp hz
      obtain ⟨j, hj'⟩ := List.mem_iff_getElem?.mp hz'
      have a1 : tab[i]? = some z.1 := by rw [← h1, List.getElem?_map, hi']; rfl
      have a2 : tab[j]? = some z.1 := by rw [← h1, List.getElem?_map, hj', e1]; rfl
      have eij := (List.getElem?_inj (List.getElem?_eq_some_iff.mp a1).1 hnd).mp (a1.trans a2.symm)
      rw [eij, hj'] at hi'
      exact (Option.some.inj hi').symm
    refine ⟨D, zs.map (·.2), nOf, rfl, .inl (by rw [List.map_map]; exact eB), by rw [List.length_map]; omega, fun b hb => ?_, fun b hb c hc e => ?_, fun bs p hperm hsort hp => ?_⟩
    · obtain ⟨z, hz, rfl⟩ := List.mem_map.mp hb
      obtain ⟨lb, r1, _⟩ := rowB z hz
      exact ⟨[.str z.1.1, .int (z.1.2 : Nat), lenV (R z.1).len, .int ((R z.1).reach : Nat), .ref lb], by rw [nOfz z hz]; exact r1⟩
    · obtain ⟨z, hz, rfl⟩ := List.mem_map.mp hb
      obtain ⟨z', hz', rfl⟩ := List.mem_map.mp hc
      rw [nOfz z hz, nOfz z' hz'] at e
      rw [zeq z hz z' hz' (by omega)]
    · obtain ⟨ys, yp, ye⟩ := perm_lift (fun z : Ky × Addr => z.2) hperm zs rfl
      have pH : H p = none := kB.free0 hp
      have kp := kB.new (o := .lst (bs.map V.ref)) hp
      have ip := (Imm.refl HB).new (o := .lst (bs.map V.ref)) hp
      refine k p (ys.map fun z => rowOf R num z.1) _ pH kp ⟨ys.map fun z => (rowOf R num z.1, z.2), by rw [List.map_map]; rfl, ?_, fun e hem => ?_⟩ ?_ fun r => ?_
      · rw [upd_same, ← ye, List.map_map, List.map_map]
        rfl
      · obtain ⟨z, hz, rfl⟩ := List.mem_map.mp hem
        exact (rowB z (yp.mem_iff.mp hz)).imm ip
      · rw [List.pairwise_map]
        rw [← ye, List.pairwise_map] at hsort
        have ndz : ys.Nodup := yp.nodup_iff.mpr (by
          have : (zs.map (·.1)).Nodup := by rw [h1]; exact hnd
          exact List.Pairwise.of_map (·.1) (fun _ _ hne e => hne (congrArg (·.1) e)) this)
        refine List.Pairwise.imp_of_mem (fun {a b} ha hb h => ?_) (hsort.and ndz)
        have ha' := yp.mem_iff.mp ha
        have hb' := yp.mem_iff.mp hb
        have h1' := h.1
        rw [nOfz a ha', nOfz b hb'] at h1'
        show num a.1 < num b.1
        have : num a.1 ≠ num b.1 := fun e => h.2 (zeq a ha' b hb' e)
        omega
      · rw [List.mem_map]
        constructor
        · rintro ⟨z, hz, rfl⟩
          exact ⟨z.1, zin z (yp.mem_iff.mp hz), rfl⟩
        · rintro ⟨q, hq, rfl⟩
          rw [← h1] at hq
          obtain ⟨z, hz, rfl⟩ := List.mem_map.mp hq
          exact ⟨z, yp.mem_iff.mpr hz, rfl⟩
end
end Kr
namespace Kr
open PySem PySem.Spec PyProof.Rows L2
section
variable {P : Program} {w : World} {K : PySem.W.Frag} {mg : Str → Option Value} {base : Heap} {k : Nat}
/-- a key behind the put -/
def shK (a b ls : Nat) (q : Ky) : Ky := (q.1, q.2 + ls - (b - a))
/-- where a put leaves a key -/
def mvK (R : Ky → Rc) (a b ls : Nat) (q : Ky) : Option Ky := if q.2 + (R q).reach ≤ a then some q else if b ≤ q.2 then some (shK a b ls q) else none
def spPutIn (K : PySem.W.Frag) : Sp := fun vs H Q _ => ∃ (ra rd t nm dl : Addr) (ks : List Str) (G : Str → Option Fm) (T sg : Str) (R R' : Ky → Rc) (tab nks : List Ky) (num num' : Ky → Nat) (a b : Nat), vs = [.ref ra, .int (a : Nat), .int (b : Nat), .str sg] ∧
  RdrAt K H ra rd t nm dl ks G T R tab nks num ∧ a ≤ b ∧ b ≤ T.length ∧ T.length ≤ 1000 ∧ sg.length ≤ 1000 ∧ tab.length ≤ 1000 ∧ (∀ q ∈ tab, q ∈ nks) ∧ (tab.filterMap (mvK R a b sg.length)).Nodup ∧
  (∀ q ∈ tab, q.2 + (R q).reach ≤ a → R' q = R q ∧ num' q = num q) ∧
  (∀ q ∈ tab, ¬ q.2 + (R q).reach ≤ a → b ≤ q.2 → R' (shK a b sg.length q) = ⟨(R q).len, (R q).reach, (R q).asked.map (shK a b sg.length), (R q).leans⟩ ∧ num' (shK a b sg.length q) = num q ∧ (R q).asked.length ≤ 1000 ∧ ∀ z ∈ (R q).asked, q.2 ≤ z.2) ∧
  ∀ t2 nm2 H', H t2 = none → H nm2 = none → Keeps [ra] H H' → RdrAt K H' ra rd t2 nm2 dl ks G ((cutS T none (some (a : Nat)) ++ sg) ++ cutS T (some (b : Nat)) none) R' (tab.filterMap (mvK R a b sg.length)) (tab.filterMap (mvK R a b sg.length)) num' → Q .non H'
theorem filterMap_snoc {α β : Type} {f : α → Option β} {l : List α} {i : Nat} {x : α} (h : l[i]? = some x) : (l.take (i + 1)).filterMap f = (l.take i).filterMap f ++ (f x).toList := by
  rw [take_snoc h, List.filterMap_append]
  cases e : f x <;> simp [e]
theorem mkD_get2 {ι κ : Type} [DecidableEq ι] {f : ι → κ} {g : ι → V} {ks : List ι} {i : Nat} {k : κ} {v : V} (h : (mkD f g ks)[i]? = some (k, v)) : ∃ x, ks[i]? = some x ∧ k = f x ∧ v = g x := by
  unfold mkD at h
  rw [List.getElem?_map] at h
  cases e : ks[i]? with
  | none => rw [e] at h; cases h
  | some x =>
    rw [e] at h
    injection h with h
    injection h with h1 h2
    exact ⟨x, rfl, h1.symm, h2.symm⟩
theorem tab_dput {R : Ky → Rc} {H : Hp} {t b a : Addr} {ks : List Ky} {q : Ky} (h : TabAt R H t ks) (hq : q ∉ ks) (hb : KeyAt H b q) (hl : ks.length < sizeLine) (ha : RecAt H a (R q)) : ∃ H', DPut H t (.ref b) (.ref a) H' ∧ TabAt R H' t (ks ++ [q]) ∧ Imm H H' ∧ Keeps [t] H H' := by
  obtain ⟨kvs, h1, h2, h3⟩ := h.put hq
  exact ⟨_, .inr ⟨kvs, kyK q, b, h1, rfl, hb, by omega, rfl⟩, h3 a _ ha rfl, (Imm.refl _).mut h1, (Keeps.refl _ _).mem (by simp)⟩
theorem num_dput {num : Ky → Nat} {H : Hp} {t b : Addr} {ks : List Ky} {q : Ky} (h : NumAt num H t ks) (hq : q ∉ ks) (hb : KeyAt H b q) (hl : ks.length < sizeLine) : ∃ H', DPut H t (.ref b) (.int (num q : Nat)) H' ∧ NumAt num H' t (ks ++ [q]) ∧ Imm H H' ∧ Keeps [t] H H' := by
  refine ⟨_, .inr ⟨_, kyK q, b, h, rfl, hb, by rw [mkD_len]; exact hl, rfl⟩, ?_, (Imm.refl _).mut h, (Keeps.refl _ _).mem (by simp)⟩
  show upd H t _ t = _
  rw [upd_same]
  congr 2
  refine (mkD_put kyK_inj _ q _).trans ?_
  rw [addK_no hq]
  refine mkD_congr fun j _ => ?_
  unfold setF
  split
  · rename_i hj
    rw [hj]
  · rfl
theorem NumAt.kp {S : List Addr} {num : Ky → Nat} {H H' : Hp} {t : Addr} {ks : List Ky} (h : NumAt num H t ks) (k : Keeps S H H') (n : t ∉ S) : NumAt num H' t ks := k _ _ h n
/-- a record stays when a dict is opened -/
theorem RecAt.unl {H : Hp} {t a : Addr} {od : Obj} {kvs : List (List L2.Key × V)} {o : HO} {r : Rc} (ht : H t = some (.frz od (.dT kvs))) (h : RecAt H a r) : RecAt (upd H t o) a r := by
  obtain ⟨la, lb, h1, ⟨o1, es, e1, e2, e3⟩, ⟨o2, e4⟩⟩ := h
  refine ⟨la, lb, ?_, ⟨o1, es, e1, ?_, fun e he => ?_⟩, ⟨o2, ?_⟩⟩
  · rw [upd_ne (fun e => by rw [e, ht] at h1; cases h1)]
    exact h1
  · rw [upd_ne (fun e => by rw [e, ht] at e2; cases e2)]
    exact e2
  · have := e3 e he
    unfold KeyAt at this ⊢
    rw [upd_ne (fun e => by rw [e, ht] at this; cases this)]
    exact this
  · rw [upd_ne (fun e => by rw [e, ht] at e4; cases e4)]
    exact e4
theorem filterMap_len' {α β : Type} (f : α → Option β) (l : List α) : (l.filterMap f).length ≤ l.length := List.length_filterMap_le f l
theorem fm_new {α β : Type} {f : α → Option β} {l : List α} (h : (l.filterMap f).Nodup) {i : Nat} {x : α} {z : β} (hx : l[i]? = some x) (hf : f x = some z) : z ∉ (l.take i).filterMap f := by
  have h2 : ((l.take (i + 1)).filterMap f).Nodup := h.sublist ((List.take_sublist _ _).filterMap f)
  rw [filterMap_snoc hx, hf, List.nodup_append] at h2
  exact fun q => h2.2.2 _ q _ (by simp) rfl
theorem ok_Reader_put_in (T : Tp K mg) : CallsM P w K mg base (k + 1) (He.ga K "Reader") "put_in" ["self", "a", "b", "signs"] (spPutIn K) := by
  have sc : FnScope ["self", "a", "b", "signs", "step", "table", "numbers", "record", "name", "place", "asked", "one", "at"] ["self", "a", "b", "signs"] d_Reader_put_in.scope := ⟨rfl, rfl, rfl, by decide +kernel, rfl, by decide +kernel, by decide +kernel⟩
  refine mkMeth T in_Reader_put_in rfl mt_Reader_put_in rfl rfl sc (fun _ _ _ _ _ _ us hl => match us, hl with | [_, _, _, _], _ => rfl) (fun vs H Q E h => ?_) (fun f cdv A outer s H vs Q E hr h => ?_)
  · obtain ⟨ra, rd, t, nm, dl, ks, G, TX, sg, R, R', tab, nks, num, num', a, b, rfl, _⟩ := h
    rfl
  obtain ⟨ra, rd, t, nm, dl, ks, G, TX, sg, R, R', tab, nks, num, num', a, b, rfl, RA, hab, hbT, hT, hsg, htl, hsub, hnd, hc1, hc2, k⟩ := h
  refine ⟨_, (pss_cons (ps_set (i := 4) sc.nd rfl (by first | exact Or.inl rfl | exact Or.inr rfl) (pe_op op_sub (pe_callB call_len_str (by rfl) (T.fre _ mf_len) bt_len (pa_cons (pv 3) pa_nil)) (pe_op op_sub (pv 2) (pv 1))))
      (pss_cons (ps_set (i := 5) sc.nd rfl (by first | exact Or.inl rfl | exact Or.inr rfl) pe_dnewT)
      (pss_cons (ps_set (i := 6) sc.nd rfl (by first | exact Or.inl rfl | exact Or.inr rfl) pe_dnewT)
      (pss_cons (ps_lock (ps_for PassesOwn.never rfl (pi_itemsT (pe_fld (pv 0) rfl)) (pg_tupK (K := K) (n := 2) rfl rfl (pgs_cons (pg_tupK (K := K) (n := 2) rfl rfl (pgs_cons (pg_name (i := 8) sc.nd rfl (by first | exact Or.inl rfl | exact Or.inr rfl)) (pgs_cons (pg_name (i := 9) sc.nd rfl (by first | exact Or.inl rfl | exact Or.inr rfl)) pgs_nil))) (pgs_cons (pg_name (i := 7) sc.nd rfl (by first | exact Or.inl rfl | exact Or.inr rfl)) pgs_nil)))
        (pss_one (ps_if (pt_cmpR op_le (pe_op op_add (pv 9) (pe_ix ix_tup (pv 7) pe_int (fun _ _ => rfl))) (pv 1) (nomark _)) (pss_cons (ps_dput (hu_of hr) (pv 5) (pe_tup (pa_cons (pv 8) (pa_cons (pv 9) pa_nil))) (pv 7) rfl)
      (pss_one (ps_dput (hu_of hr) (pv 6) (pe_tup (pa_cons (pv 8) (pa_cons (pv 9) pa_nil))) (pe_dget (hu_of hr) (pe_fld (pv 0) rfl) (pe_tup (pa_cons (pv 8) (pa_cons (pv 9) pa_nil))) (fun _ _ => rfl)) rfl))) (pss_one (ps_if (pt_cmpR op_ge (pv 9) (pv 2) (nomark _)) (pss_cons (ps_setLc (i := 10) (own := [("one", 11), ("at", 12)]) rfl sc.nd rfl rfl (sw_true rfl rfl rfl (by kernel_rfl)) (pi_list (pe_ix ix_tup (pv 7) pe_int (fun _ _ => rfl))) (blkOk_by (by kernel_rfl)) (fun _ _ _ _ _ => (pg_tupK (K := K) (n := 2) rfl rfl (pgs_cons (pg_name (i := 11) sc.nd rfl (by first | exact Or.inl rfl | exact Or.inr rfl)) (pgs_cons (pg_name (i := 12) sc.nd rfl (by first | exact Or.inl rfl | exact Or.inr rfl)) pgs_nil)))) (fun _ _ _ _ _ => pts_nil) (fun _ _ _ _ _ => (pe_tup (pa_cons (pv 11) (pa_cons (pe_op op_add (pv 12) (pv 4)) pa_nil)))))
      (pss_cons (ps_dput (hu_of hr) (pv 5) (pe_tup (pa_cons (pv 8) (pa_cons (pe_op op_add (pv 9) (pv 4)) pa_nil))) (pe_tup (pa_cons (pe_ix ix_tup (pv 7) pe_int (fun _ _ => rfl)) (pa_cons (pe_ix ix_tup (pv 7) pe_int (fun _ _ => rfl)) (pa_cons (pe_frz (pv 10)) (pa_cons (pe_ix ix_tup (pv 7) pe_int (fun _ _ => rfl)) pa_nil))))) rfl)
      (pss_one (ps_dput (hu_of hr) (pv 6) (pe_tup (pa_cons (pv 8) (pa_cons (pe_op op_add (pv 9) (pv 4)) pa_nil))) (pe_dget (hu_of hr) (pe_fld (pv 0) rfl) (pe_tup (pa_cons (pv 8) (pa_cons (pv 9) pa_nil))) (fun _ _ => rfl)) rfl)))) pss_nil))))))
      (pss_cons (ps_fld (pv 0) (pv 5) rfl)
      (pss_cons (ps_fld (pv 0) (pv 6) rfl)
      (pss_one (ps_fld (pv 0) (pe_op op_add_str (pe_op op_add_str (pe_slice sl_str (pe_fld (pv 0) rfl) po_none (po_some (pv 1))) (pv 3)) (pe_slice sl_str (pe_fld (pv 0) rfl) (po_some (pv 2)) po_none)) rfl)))))))), ?_⟩
  have C := T.cls mk_Reader
  obtain ⟨⟨dx, fu, hi⟩, hru, ⟨ad, ht, hrec⟩, hn, hdl, hap⟩ := id RA
  have ap : ra ≠ rd ∧ ra ≠ t ∧ ra ≠ nm ∧ ra ≠ dl ∧ rd ≠ t ∧ rd ≠ nm ∧ rd ≠ dl ∧ t ≠ nm ∧ t ≠ dl ∧ nm ≠ dl := by
    simp only [List.nodup_cons, List.mem_cons, List.not_mem_nil, or_false, not_or, not_false_eq_true, List.nodup_nil, and_true] at hap
    exact ⟨hap.1.1, hap.1.2.1, hap.1.2.2.1, hap.1.2.2.2, hap.2.1.1, hap.2.1.2.1, hap.2.1.2.2, hap.2.2.1.1, hap.2.2.1.2, hap.2.2.2⟩
  refine ⟨_, rfl, sg, rfl, line5' (by omega), _, rfl, _, rfl, _, _, rfl, rfl, _, _, rfl, rfl, ?_⟩
  dsimp only
  intro t2 ht2
  have k1 := (Keeps.refl [] H).new (o := .dT []) ht2
  have i1 := (Imm.refl H).new (o := .dT []) ht2
  have e1 : upd H t2 (.dT []) t2 = some (.dT []) := upd_same
  have rt2 : ra ≠ t2 := ne_of_none hi ht2
  have tt2 : t ≠ t2 := ne_of_none ht ht2
  have nmt2 : nm ≠ t2 := ne_of_none hn ht2
  generalize upd H t2 (.dT []) = H1 at k1 i1 e1 ⊢
  intro n2 hn2
  have hn2H : H n2 = none := k1.free0 hn2
  have k2 := k1.new (o := .dT []) hn2
  have i2 := i1.new (o := .dT []) hn2
  have t2n2 : t2 ≠ n2 := ne_of_none e1 hn2
  have e2 : upd H1 n2 (.dT []) t2 = some (.dT []) := by rw [upd_ne t2n2]; exact e1
  have f2 : upd H1 n2 (.dT []) n2 = some (.dT []) := upd_same
  have rn2 : ra ≠ n2 := ne_of_none (k1.same hi) hn2
  have tn2 : t ≠ n2 := ne_of_none (k1.same ht) hn2
  have nmn2 : nm ≠ n2 := ne_of_none (k1.same hn) hn2
  generalize upd H1 n2 (.dT []) = H2 at k2 i2 e2 f2 ⊢
  have ht2' := k2.same ht
  refine ⟨t, _, ht2', trivial, fun od => ?_⟩
  have tL : upd H2 t (.frz od (.dT (mkD kyK (fun q => .ref (ad q)) tab))) t = some (.frz od (.dT (mkD kyK (fun q => .ref (ad q)) tab))) := upd_same
  have iL : Imm H2 (upd H2 t (.frz od (.dT (mkD kyK (fun q => .ref (ad q)) tab)))) := (Imm.refl _).mut ht2'
  have rL : upd H2 t (.frz od (.dT (mkD kyK (fun q => .ref (ad q)) tab))) ra = some (.ins (He.ga K "Reader") dx (fldsR rd t nm dl TX fu)) := by rw [upd_ne ap.2.1]; exact k2.same hi
  have nL : NumAt num (upd H2 t (.frz od (.dT (mkD kyK (fun q => .ref (ad q)) tab)))) nm nks := by
    show upd H2 t _ nm = _
    rw [upd_ne ap.2.2.2.2.2.2.2.1.symm]
    exact k2.same hn
  have eL : upd H2 t (.frz od (.dT (mkD kyK (fun q => .ref (ad q)) tab))) t2 = some (.dT []) := by rw [upd_ne tt2.symm]; exact e2
  have fL : upd H2 t (.frz od (.dT (mkD kyK (fun q => .ref (ad q)) tab))) n2 = some (.dT []) := by rw [upd_ne tn2.symm]; exact f2
  have bK : ∀ H', Keeps [t2, n2] (upd H2 t (.frz od (.dT (mkD kyK (fun q => .ref (ad q)) tab)))) H' → Keeps [t2, n2] H2 (upd H' t (.dT (mkD kyK (fun q => .ref (ad q)) tab))) := fun H' k b o hb hn => by
    by_cases q : b = t
    · subst q
      rw [upd_same, ← ht2', hb]
    · rw [upd_ne q]
      exact k b o (by rw [upd_ne q]; exact hb) hn
  have bI : ∀ H', Imm (upd H2 t (.frz od (.dT (mkD kyK (fun q => .ref (ad q)) tab)))) H' → Imm H2 (upd H' t (.dT (mkD kyK (fun q => .ref (ad q)) tab))) := fun H' i => unlockI ht2' rfl i
  generalize upd H2 t (.frz od (.dT (mkD kyK (fun q => .ref (ad q)) tab))) = HL at tL iL rL nL eL fL bK bI ⊢
  have nS : ∀ y, y ≠ t2 → y ≠ n2 → y ∉ [t2, n2] := fun y h1 h2 z => by
    simp at z
    exact z.elim h1 h2
  have recL : ∀ H', Imm HL H' → ∀ x ∈ tab, RecAt H' (ad x) (R x) := fun H' i x hx => (hrec x hx).imm ((i2.trans iL).trans i)
  refine ⟨_, rfl, ra, _, dx, _, _, rfl, rL, C, T.noat mn_Reader_table, rfl, t, od, _, rfl, tL, ?_⟩
  have ml : (mkD kyK (fun q => V.ref (ad q)) tab).length = tab.length := mkD_len
  refine for_it walk_itemsT (fun i σ H' => ∃ (v7 v8 v9 v10 : Option V), σ = [some (.ref ra), some (.int (a : Nat)), some (.int (b : Nat)), some (.str sg), some (.int (((sg.length : Nat) : Int) - (((b : Nat) : Int) - ((a : Nat) : Int)))), some (.ref t2), some (.ref n2), v7, v8, v9, v10, none, none] ∧ Keeps [t2, n2] HL H' ∧ Imm HL H' ∧ TabAt R' H' t2 ((tab.take i).filterMap (mvK R a b sg.length)) ∧ NumAt num' H' n2 ((tab.take i).filterMap (mvK R a b sg.length)))
    ⟨none, none, none, none, rfl, Keeps.refl _ _, Imm.refl _, ⟨fun _ => 0, eL, by simp⟩, fL⟩ (fun i σ H' _ ⟨_, _, _, _, _, k', _⟩ => k' _ _ tL (nS _ tt2 tn2)) ?_ ?_
  · rintro i x σ H3 H3' hi3 ⟨v7, v8, v9, v10, rfl, k3, m3, t3, n3⟩ y
    obtain ⟨kt0, kk, vv, qa, hkv, hqa, rfl, hT0, rfl⟩ := y
    obtain ⟨q, hq, rfl, rfl⟩ := mkD_get2 hkv
    have hqm := List.mem_of_getElem? hq
    have k4 := k3.new (o := .tup [V.ref qa, V.ref (ad q)]) hT0
    have m4 := m3.new (o := .tup [V.ref qa, V.ref (ad q)]) hT0
    have kx := (Keeps.refl [] H3).new (o := .tup [V.ref qa, V.ref (ad q)]) hT0
    have mx := (Imm.refl H3).new (o := .tup [V.ref qa, V.ref (ad q)]) hT0
    have t4 := t3.kp kx (by simp) mx
    have n4 := n3.kp kx (by simp)
    have qa4 : KeyAt (upd H3 kt0 (.tup [V.ref qa, V.ref (ad q)])) qa q := mx.tup hqa
    have p4 : upd H3 kt0 (.tup [V.ref qa, V.ref (ad q)]) kt0 = some (.tup [V.ref qa, V.ref (ad q)]) := upd_same
    generalize upd H3 kt0 (.tup [V.ref qa, V.ref (ad q)]) = H4 at k4 m4 t4 n4 qa4 p4 ⊢
    have rq := recL _ m4 q hqm
    obtain ⟨la, lb, hra, hrk, hrs⟩ := id rq
    have sqr := sqt_of (K := K) hra
    have tl : ((tab.take i).filterMap (mvK R a b sg.length)).length ≤ 1000 := Nat.le_trans (filterMap_len' _ _) (by rw [List.length_take]; omega)
    refine ⟨kt0, _, rfl, sqt_of p4, rfl, _, _, rfl, qa, _, rfl, sqt_of qa4, rfl, _, _, rfl, _, _, rfl, rfl, _, _, rfl, rfl, ?_⟩
    refine ⟨_, rfl, _, rfl, _, _, _, _, rfl, rfl, sqr, at_1 rfl, _, _, rfl, rfl, _, rfl, _, _, rfl, rfl, _, rfl, ?_⟩
    have r4 := k4 _ _ rL (nS _ rt2 rn2)
    have nn4 := k4 _ _ nL (nS _ nmt2 nmn2)
    refine iteB (fun hb => ?_) (fun hb => ?_)
    · have hle : q.2 + (R q).reach ≤ a := by have := of_decide_eq_true hb; omega
      have mv : mvK R a b sg.length q = some q := if_pos hle
      have hnew := fm_new hnd hq mv
      obtain ⟨hR, hN⟩ := hc1 q hqm hle
      refine ⟨_, rfl, _, rfl, _, rfl, _, rfl, show 2 ≤ sizeLine by decide, fun ka hka => ?_⟩
      have k5 := k4.new (o := .tup [V.str q.1, V.int (q.2 : Nat)]) hka
      have m5 := m4.new (o := .tup [V.str q.1, V.int (q.2 : Nat)]) hka
      have kx := (Keeps.refl [] H4).new (o := .tup [V.str q.1, V.int (q.2 : Nat)]) hka
      have mx := (Imm.refl H4).new (o := .tup [V.str q.1, V.int (q.2 : Nat)]) hka
      have q5 : KeyAt (upd H4 ka (.tup [V.str q.1, V.int (q.2 : Nat)])) ka q := upd_same
      generalize upd H4 ka (.tup [V.str q.1, V.int (q.2 : Nat)]) = H5 at k5 m5 kx mx q5 ⊢
      obtain ⟨H6, dp, t6, m6, k6⟩ := tab_dput (t4.kp kx (by simp) mx) hnew q5 (line5 (by omega)) (by rw [hR]; exact rq.imm mx)
      refine ⟨t2, H6, rfl, dp, ?_⟩
      have k06 := k5.trans (k6.mono (by simp))
      have m06 := m5.trans m6
      refine ⟨_, rfl, ra, _, dx, _, _, rfl, k06 _ _ rL (nS _ rt2 rn2), C, T.noat mn_Reader_numbers, rfl, _, rfl, _, rfl, show 2 ≤ sizeLine by decide, fun kb hkb => ?_⟩
      have n6 := (n4.kp kx (by simp)).kp k6 (by simp [t2n2.symm])
      have k7 := k06.new (o := .tup [V.str q.1, V.int (q.2 : Nat)]) hkb
      have m7 := m06.new (o := .tup [V.str q.1, V.int (q.2 : Nat)]) hkb
      have ky := (Keeps.refl [] H6).new (o := .tup [V.str q.1, V.int (q.2 : Nat)]) hkb
      have my := (Imm.refl H6).new (o := .tup [V.str q.1, V.int (q.2 : Nat)]) hkb
      have q7 : KeyAt (upd H6 kb (.tup [V.str q.1, V.int (q.2 : Nat)])) kb q := upd_same
      generalize upd H6 kb (.tup [V.str q.1, V.int (q.2 : Nat)]) = H7 at k7 m7 ky my q7 ⊢
      refine ⟨nm, _, rfl, NumAt.get (k7 _ _ nL (nS _ nmt2 nmn2)) (hsub q hqm) q7, _, rfl, _, rfl, _, rfl, show 2 ≤ sizeLine by decide, fun kc hkc => ?_⟩
      have k8 := k7.new (o := .tup [V.str q.1, V.int (q.2 : Nat)]) hkc
      have m8 := m7.new (o := .tup [V.str q.1, V.int (q.2 : Nat)]) hkc
      have kz := ky.new (o := .tup [V.str q.1, V.int (q.2 : Nat)]) hkc
      have mz := my.new (o := .tup [V.str q.1, V.int (q.2 : Nat)]) hkc
      have q8 : KeyAt (upd H7 kc (.tup [V.str q.1, V.int (q.2 : Nat)])) kc q := upd_same
      generalize upd H7 kc (.tup [V.str q.1, V.int (q.2 : Nat)]) = H8 at k8 m8 kz mz q8 ⊢
      obtain ⟨H9, dp2, n9, m9, k9⟩ := num_dput (n6.kp kz (by simp)) hnew q8 (line5 (by omega))
      rw [hN] at dp2
      refine ⟨n2, H9, rfl, dp2, _, _, _, _, rfl, k8.trans (k9.mono (by simp)), m8.trans m9, ?_, ?_⟩
      · rw [filterMap_snoc hq, mv]
        exact (t6.kp kz (by simp) mz).kp k9 (by simp [t2n2]) m9
      · rw [filterMap_snoc hq, mv]
        exact n9
    have hnle : ¬ q.2 + (R q).reach ≤ a := by have := of_decide_eq_false hb; omega
    refine ⟨_, rfl, _, rfl, _, _, rfl, rfl, _, rfl, iteB (fun hb2 => ?_) (fun hb2 => ?_)⟩
    · have hbq : b ≤ q.2 := by have := of_decide_eq_true hb2; omega
      have mv : mvK R a b sg.length q = some (shK a b sg.length q) := by unfold mvK; rw [if_neg hnle, if_pos hbq]
      have hnew := fm_new hnd hq mv
      obtain ⟨hR, hN, hal, haz⟩ := hc2 q hqm hnle hbq
      obtain ⟨oa, es, ees, hla, hes⟩ := id hrk
      have les : es.length = (R q).asked.length := by rw [← ees, List.length_map]
      have hsh : ∀ z : Ky, q.2 ≤ z.2 → (z.2 : Int) + ((sg.length : Int) - ((b : Int) - (a : Int))) = (((shK a b sg.length z).2 : Nat) : Int) := fun z hz => by
        show _ = ((z.2 + sg.length - (b - a) : Nat) : Int)
        omega
      refine ⟨_, rfl, _, _, _, _, rfl, rfl, sqr, at_2 rfl, la, rfl, ⟨_, sq_fr hla⟩, fun D1 hD1 => lc_rel es (fun _ => true) V.ref (fun e x H => KeyAt H x (shK a b sg.length e.1)) walk_list (by rw [List.length_map]) (by omega) hD1 (fun H' k' _ => sq_fr (k'.same hla)) (fun _ _ _ _ i h => h.imm i) ?_ ?_⟩
      · rintro j y x H5 H5' hy k5 m5 ⟨rfl, hx⟩ R1 N hR1 _
        obtain ⟨e, he1, hm, rfl⟩ := getM hx
        obtain rfl : e = y := Option.some.inj (he1.symm.trans hy)
        have hke := (hes e hm).imm m5
        have hz := haz e.1 (by rw [← ees]; exact List.mem_map.mpr ⟨e, hm, rfl⟩)
        refine ⟨e.2, _, rfl, sqt_of hke, rfl, _, _, rfl, _, _, rfl, rfl, rfl, _, rfl, _, rfl, _, rfl, _, _, rfl, rfl, show 2 ≤ sizeLine by decide, fun u hu => hR1 rfl u _ ((Keeps.refl _ _).new hu) ((Imm.refl _).new hu) ?_⟩
        show upd _ u _ u = some (.tup [.str e.1.1, .int _])
        rw [upd_same]
        dsimp only
        rw [hsh _ hz]
      intro zs H5 kx mx h1 h2 e5
      rw [filter_all_true] at h1
      refine ⟨_, rfl, _, _, _, _, rfl, rfl, sqt_of (kx.same hra), at_0 rfl, _, rfl, _, _, _, _, rfl, rfl, sqt_of (kx.same hra), at_1 rfl, ?_⟩
      refine ⟨_, rfl, ⟨D1, _, rfl, e5, trivial, fun od2 => ?_⟩⟩
      have k6 := (k4.trans kx.nil).own (o := .frz od2 (.lst (zs.map fun z => V.ref z.2))) (k4.free hD1 ?_)
      rotate_left
      · exact nS _ (fun e => by
          obtain ⟨_, e1, _⟩ := t4
          rw [e, e1] at hD1; cases hD1) (fun e => by
          have := n4
          unfold NumAt at this
          rw [e, this] at hD1; cases hD1)
      have kx6 := kx.own (o := .frz od2 (.lst (zs.map fun z => V.ref z.2))) hD1
      have mx6 := mx.mut (o := .frz od2 (.lst (zs.map fun z => V.ref z.2))) e5
      have e6 : upd H5 D1 (.frz od2 (.lst (zs.map fun z => V.ref z.2))) D1 = some (.frz od2 (.lst (zs.map fun z => V.ref z.2))) := upd_same
      have h6 : ∀ z ∈ zs, KeyAt (upd H5 D1 (.frz od2 (.lst (zs.map fun z => V.ref z.2)))) z.2 (shK a b sg.length z.1.1) := fun z hz => (h2 z hz).imm ((Imm.refl _).mut e5)
      generalize upd H5 D1 (.frz od2 (.lst (zs.map fun z => V.ref z.2))) = H6 at k6 kx6 mx6 e6 h6 ⊢
      have ks6 : KeysAt H6 D1 ((R q).asked.map (shK a b sg.length)) := by
        refine ⟨od2, zs.map fun z => (shK a b sg.length z.1.1, z.2), ?_, ?_, ?_⟩
        · rw [← ees, ← h1, List.map_map, List.map_map, List.map_map]
          rfl
        · rw [List.map_map]
          exact e6
        · intro e he
          obtain ⟨z, hz, rfl⟩ := List.mem_map.mp he
          exact h6 z hz
      refine ⟨_, rfl, _, _, _, _, rfl, rfl, sqt_of (kx6.same hra), at_3 rfl, show 4 ≤ sizeLine by decide, fun u hu => ?_⟩
      have k7 := k6.new (o := .tup [lenV (R q).len, .int ((R q).reach : Nat), .ref D1, .ref lb]) hu
      have kx7 := kx6.new (o := .tup [lenV (R q).len, .int ((R q).reach : Nat), .ref D1, .ref lb]) hu
      have mx7 := mx6.new (o := .tup [lenV (R q).len, .int ((R q).reach : Nat), .ref D1, .ref lb]) hu
      have r7 : RecAt (upd H6 u (.tup [lenV (R q).len, .int ((R q).reach : Nat), .ref D1, .ref lb])) u (R' (shK a b sg.length q)) := by
        rw [hR]
        exact ⟨D1, lb, upd_same, ks6.imm ((Imm.refl _).new hu), hrs.imm mx7⟩
      generalize upd H6 u (.tup [lenV (R q).len, .int ((R q).reach : Nat), .ref D1, .ref lb]) = H7 at k7 kx7 mx7 r7 ⊢
      have hsq := hsh q (Nat.le_refl _)
      refine ⟨_, rfl, _, rfl, _, rfl, _, rfl, _, _, rfl, rfl, show 2 ≤ sizeLine by decide, fun ka hka => ?_⟩
      dsimp only
      rw [hsq]
      have sh1 : (shK a b sg.length q).1 = q.1 := rfl
      have k8 := k7.new (o := .tup [V.str q.1, V.int ((shK a b sg.length q).2 : Nat)]) hka
      have kx8 := kx7.new (o := .tup [V.str q.1, V.int ((shK a b sg.length q).2 : Nat)]) hka
      have mx8 := mx7.new (o := .tup [V.str q.1, V.int ((shK a b sg.length q).2 : Nat)]) hka
      have q8 : KeyAt (upd H7 ka (.tup [V.str q.1, V.int ((shK a b sg.length q).2 : Nat)])) ka (shK a b sg.length q) := upd_same
      have r8 := r7.imm ((Imm.refl _).new (o := .tup [V.str q.1, V.int ((shK a b sg.length q).2 : Nat)]) hka)
      generalize upd H7 ka (.tup [V.str q.1, V.int ((shK a b sg.length q).2 : Nat)]) = H8 at k8 kx8 mx8 q8 r8 ⊢
      obtain ⟨H9, dp, t9, m9, k9⟩ := tab_dput (t4.kp kx8 (by simp) mx8) hnew q8 (line5 (by omega)) r8
      have n9 := (n4.kp kx8 (by simp)).kp k9 (by simp [t2n2.symm])
      have k09 := k8.trans (k9.mono (by simp))
      have m09 := (m4.trans mx8).trans m9
      refine ⟨t2, H9, rfl, dp, _, rfl, ra, _, dx, _, _, rfl, k09 _ _ rL (nS _ rt2 rn2), C, T.noat mn_Reader_numbers, rfl, _, rfl, _, rfl, show 2 ≤ sizeLine by decide, fun kb hkb => ?_⟩
      have k10 := k09.new (o := .tup [V.str q.1, V.int (q.2 : Nat)]) hkb
      have m10 := m09.new (o := .tup [V.str q.1, V.int (q.2 : Nat)]) hkb
      have ky := (Keeps.refl [] H9).new (o := .tup [V.str q.1, V.int (q.2 : Nat)]) hkb
      have my := (Imm.refl H9).new (o := .tup [V.str q.1, V.int (q.2 : Nat)]) hkb
      have q10 : KeyAt (upd H9 kb (.tup [V.str q.1, V.int (q.2 : Nat)])) kb q := upd_same
      generalize upd H9 kb (.tup [V.str q.1, V.int (q.2 : Nat)]) = H10 at k10 m10 ky my q10 ⊢
      refine ⟨nm, _, rfl, NumAt.get (k10 _ _ nL (nS _ nmt2 nmn2)) (hsub q hqm) q10, _, rfl, _, rfl, _, rfl, _, rfl, _, _, rfl, rfl, show 2 ≤ sizeLine by decide, fun kc hkc => ?_⟩
      dsimp only
      rw [hsq]
      have k11 := k10.new (o := .tup [V.str q.1, V.int ((shK a b sg.length q).2 : Nat)]) hkc
      have m11 := m10.new (o := .tup [V.str q.1, V.int ((shK a b sg.length q).2 : Nat)]) hkc
      have kz := ky.new (o := .tup [V.str q.1, V.int ((shK a b sg.length q).2 : Nat)]) hkc
      have mz := my.new (o := .tup [V.str q.1, V.int ((shK a b sg.length q).2 : Nat)]) hkc
      have q11 : KeyAt (upd H10 kc (.tup [V.str q.1, V.int ((shK a b sg.length q).2 : Nat)])) kc (shK a b sg.length q) := upd_same
      generalize upd H10 kc (.tup [V.str q.1, V.int ((shK a b sg.length q).2 : Nat)]) = H11 at k11 m11 kz mz q11 ⊢
      obtain ⟨H12, dp2, n12, m12, k12⟩ := num_dput (n9.kp kz (by simp)) hnew q11 (line5 (by omega))
      rw [hN] at dp2
      refine ⟨n2, H12, rfl, dp2, _, _, _, _, rfl, k11.trans (k12.mono (by simp)), m11.trans m12, ?_, ?_⟩
      · rw [filterMap_snoc hq, mv]
        exact (t9.kp kz (by simp) mz).kp k12 (by simp [t2n2]) m12
      · rw [filterMap_snoc hq, mv]
        exact n12
    · have hbq : ¬ b ≤ q.2 := by have := of_decide_eq_false hb2; omega
      have mv : mvK R a b sg.length q = none := by unfold mvK; rw [if_neg hnle, if_neg hbq]
      refine ⟨_, _, _, _, rfl, k4, m4, ?_, ?_⟩
      · rw [filterMap_snoc hq, mv, Option.toList_none, List.append_nil]
        exact t4
      · rw [filterMap_snoc hq, mv, Option.toList_none, List.append_nil]
        exact n4
  · rintro σ Hf ⟨v7, v8, v9, v10, rfl, kf, mf, tf, nf⟩
    rw [ml, List.take_length] at tf nf
    have tLf := kf _ _ tL (nS _ tt2 tn2)
    refine ⟨tLf, ?_⟩
    have kB := (k2.nil (S := [t2, n2])).trans (bK Hf kf)
    have mB := i2.trans (bI Hf mf)
    have rB := kB _ _ hi (nS _ rt2 rn2)
    have tB : TabAt R' (upd Hf t (.dT (mkD kyK (fun q => V.ref (ad q)) tab))) t2 (tab.filterMap (mvK R a b sg.length)) := by
      obtain ⟨ad', x1, x2⟩ := tf
      refine ⟨ad', ?_, fun x hx => (x2 x hx).unl tLf⟩
      rw [upd_ne tt2.symm]
      exact x1
    have nB : NumAt num' (upd Hf t (.dT (mkD kyK (fun q => V.ref (ad q)) tab))) n2 (tab.filterMap (mvK R a b sg.length)) := by
      show upd Hf t _ n2 = _
      rw [upd_ne tn2.symm]
      exact nf
    generalize upd Hf t (.dT (mkD kyK (fun q => V.ref (ad q)) tab)) = HB at kB mB rB tB nB ⊢
    have nR : ∀ y, y ≠ ra → y ∉ [ra] := fun y h z => h (List.mem_singleton.mp z)
    refine ⟨_, rfl, _, rfl, ra, _, dx, _, rfl, rB, C, T.noat mn_Reader_table, show 7 < 1000 by decide, ?_⟩
    rw [putR_table]
    have kC1 : Keeps [ra] HB (upd HB ra (.ins (He.ga K "Reader") dx (fldsR rd t2 nm dl TX fu))) := (Keeps.refl _ _).mem (by simp)
    have mC1 := (Imm.refl HB).mut (o := .ins (He.ga K "Reader") dx (fldsR rd t2 nm dl TX fu)) rB
    have rC1 : upd HB ra (.ins (He.ga K "Reader") dx (fldsR rd t2 nm dl TX fu)) ra = some (.ins (He.ga K "Reader") dx (fldsR rd t2 nm dl TX fu)) := upd_same
    generalize upd HB ra (.ins (He.ga K "Reader") dx (fldsR rd t2 nm dl TX fu)) = HC at kC1 mC1 rC1 ⊢
    refine ⟨_, rfl, _, rfl, ra, _, dx, _, rfl, rC1, C, T.noat mn_Reader_numbers, show 7 < 1000 by decide, ?_⟩
    rw [putR_numbers]
    have kC2 : Keeps [ra] HB (upd HC ra (.ins (He.ga K "Reader") dx (fldsR rd t2 n2 dl TX fu))) := kC1.mem (by simp)
    have mC2 := mC1.mut (o := .ins (He.ga K "Reader") dx (fldsR rd t2 n2 dl TX fu)) rC1
    have rC2 : upd HC ra (.ins (He.ga K "Reader") dx (fldsR rd t2 n2 dl TX fu)) ra = some (.ins (He.ga K "Reader") dx (fldsR rd t2 n2 dl TX fu)) := upd_same
    generalize upd HC ra (.ins (He.ga K "Reader") dx (fldsR rd t2 n2 dl TX fu)) = HD at kC2 mC2 rC2 ⊢
    have c1 := cutS_length TX none (some (a : Nat))
    have c2 := cutS_length TX (some (b : Nat)) none
    have hsz : 3000 ≤ sizeLine := by decide
    refine ⟨_, rfl, ra, _, dx, _, _, rfl, rC2, C, T.noat mn_Reader_signs, rfl, _, rfl, _, rfl, TX, rfl, by omega, _, rfl, _, _, rfl, rfl, by omega, _, rfl, ra, _, dx, _, _, rfl, rC2, C, T.noat mn_Reader_signs, rfl, _, rfl, _, rfl, TX, rfl, by omega, _, _, rfl, rfl, ?_, _, rfl, ra, _, dx, _, rfl, rC2, C, T.noat mn_Reader_signs, show 7 < 1000 by decide, ?_⟩
    · rw [app_len]
      omega
    rw [putR_signs]
    have kC3 : Keeps [ra] HB (upd HD ra (.ins (He.ga K "Reader") dx (fldsR rd t2 n2 dl ((cutS TX none (some (a : Nat)) ++ sg) ++ cutS TX (some (b : Nat)) none) fu))) := kC2.mem (by simp)
    have mC3 := mC2.mut (o := .ins (He.ga K "Reader") dx (fldsR rd t2 n2 dl ((cutS TX none (some (a : Nat)) ++ sg) ++ cutS TX (some (b : Nat)) none) fu)) rC2
    have rC3 : upd HD ra (.ins (He.ga K "Reader") dx (fldsR rd t2 n2 dl ((cutS TX none (some (a : Nat)) ++ sg) ++ cutS TX (some (b : Nat)) none) fu)) ra = some (.ins (He.ga K "Reader") dx (fldsR rd t2 n2 dl ((cutS TX none (some (a : Nat)) ++ sg) ++ cutS TX (some (b : Nat)) none) fu)) := upd_same
    generalize upd HD ra (.ins (He.ga K "Reader") dx (fldsR rd t2 n2 dl ((cutS TX none (some (a : Nat)) ++ sg) ++ cutS TX (some (b : Nat)) none) fu)) = HE at kC3 mC3 rC3 ⊢
    have kE : Keeps [ra] H HE := ((Keeps.refl [ra] H).call kB (fun x hx => by
      rcases List.mem_cons.mp hx with rfl | hx
      · exact .inr ht2
      · rw [List.mem_singleton.mp hx]
        exact .inr hn2H)).trans kC3
    obtain ⟨xs, hdl1, hdl2⟩ := hdl
    obtain ⟨adr, hrd, _⟩ := id hru
    have rdt2 : rd ≠ t2 := ne_of_none hrd ht2
    have rdn2 : rd ≠ n2 := ne_of_none hrd hn2H
    have dlt2 : dl ≠ t2 := ne_of_none hdl1 ht2
    have dln2 : dl ≠ n2 := ne_of_none hdl1 hn2H
    refine k t2 n2 HE ht2 hn2H kE ⟨⟨dx, fu, rC3⟩, hru.kp kE (nR _ ap.1.symm) (mB.trans mC3), tB.kp kC3 (nR _ rt2.symm) mC3, nB.kp kC3 (nR _ rn2.symm), ⟨xs, kE _ _ hdl1 (nR _ ap.2.2.2.1.symm), hdl2⟩, ?_⟩
    simp only [List.nodup_cons, List.mem_cons, List.not_mem_nil, or_false, not_or, not_false_eq_true, List.nodup_nil, and_true]
    exact ⟨⟨ap.1, rt2, rn2, ap.2.2.2.1⟩, ⟨rdt2, rdn2, ap.2.2.2.2.2.2.1⟩, ⟨t2n2, dlt2.symm⟩, dln2.symm⟩
end
end Kr
namespace Kr
open PySem PySem.Spec PyProof.Rows L2
section
variable {P : Program} {w : World} {K : PySem.W.Frag} {mg : Str → Option Value} {base : Heap} {k : Nat}
def spLetGo (K : PySem.W.Frag) : Sp := fun vs H Q _ => ∃ (ra dx rd t nm dl ka : Addr) (T : Str) (fu : Int) (R : Ky → Rc) (tab nks gs : List Ky) (num : Ky → Nat), vs = [.ref ra, .ref ka] ∧ H ra = some (.ins (He.ga K "Reader") dx (fldsR rd t nm dl T fu)) ∧ TabAt R H t tab ∧ NumAt num H nm nks ∧ t ≠ nm ∧ OrdAt H ka gs ∧ gs.Nodup ∧ (∀ q ∈ gs, q ∈ tab ∧ q ∈ nks) ∧ gs.length ≤ 1000 ∧
  ∀ v H', Keeps [t, nm] H H' → TabAt R H' t (tab.filter fun q => decide (q ∉ gs)) → NumAt num H' nm (nks.filter fun q => decide (q ∉ gs)) → Q v H'
theorem filter_more (l gs : List Ky) {i : Nat} {g : Ky} (h : gs[i]? = some g) : (l.filter fun q => decide (q ∉ gs.take i)).filter (fun q => decide (q ≠ g)) = l.filter fun q => decide (q ∉ gs.take (i + 1)) := by
  rw [List.filter_filter]
  refine List.filter_congr fun x _ => ?_
  rw [take_snoc h, Bool.eq_iff_iff]
  simp only [Bool.and_eq_true, decide_eq_true_eq, List.mem_append, List.mem_singleton, not_or]
  exact And.comm
theorem tab_pop {R : Ky → Rc} {H : Hp} {t : Addr} {ks : List Ky} {q : Ky} (h : TabAt R H t ks) (hq : q ∈ ks) : ∃ kvs v H', H t = some (.dT kvs) ∧ valV kvs (kyK q) = some v ∧ upd H t (.dT (dropK kvs (kyK q))) = H' ∧ TabAt R H' t (ks.filter fun j => decide (j ≠ q)) ∧ Imm H H' ∧ Keeps [t] H H' := by
  obtain ⟨ad, h1, h2⟩ := h
  refine ⟨_, _, _, h1, mkD_in kyK_inj hq, rfl, ⟨ad, ?_, fun x hx => (h2 x (List.mem_filter.mp hx).1).imm ((Imm.refl _).mut h1)⟩, (Imm.refl _).mut h1, (Keeps.refl _ _).mem (by simp)⟩
  rw [upd_same, mkD_drop kyK_inj]
theorem num_pop {num : Ky → Nat} {H : Hp} {t : Addr} {ks : List Ky} {q : Ky} (h : NumAt num H t ks) (hq : q ∈ ks) : ∃ kvs v H', H t = some (.dT kvs) ∧ valV kvs (kyK q) = some v ∧ upd H t (.dT (dropK kvs (kyK q))) = H' ∧ NumAt num H' t (ks.filter fun j => decide (j ≠ q)) ∧ Imm H H' ∧ Keeps [t] H H' := by
  refine ⟨_, _, _, h, mkD_in kyK_inj hq, rfl, ?_, (Imm.refl _).mut h, (Keeps.refl _ _).mem (by simp)⟩
  show upd H t _ t = _
  rw [upd_same, mkD_drop kyK_inj]
theorem ok_Reader_let_go (T : Tp K mg) : CallsM P w K mg base (k + 1) (He.ga K "Reader") "let_go" ["self", "keys"] (spLetGo K) := by
  have sc : FnScope ["self", "keys", "key"] ["self", "keys"] d_Reader_let_go.scope := ⟨rfl, rfl, rfl, by decide +kernel, rfl, by decide +kernel, by decide +kernel⟩
  refine mkMeth T in_Reader_let_go rfl mt_Reader_let_go rfl rfl sc (fun _ _ _ _ _ _ us hl => match us, hl with | [_, _], _ => rfl) (fun vs H Q E h => ?_) (fun f cdv A outer s H vs Q E hr h => ?_)
  · obtain ⟨ra, dx, rd, t, nm, dl, ka, TX, fu, R, tab, nks, gs, num, rfl, _⟩ := h
    rfl
  obtain ⟨ra, dx, rd, t, nm, dl, ka, TX, fu, R, tab, nks, gs, num, rfl, hi, ht, hn, htn, ⟨es, ees, hka, hes⟩, hnd, hsub, hgl, k⟩ := h
  refine ⟨_, (pss_cons (ps_for PassesOwn.never rfl (pi_list (pv 1)) (pg_name (i := 2) sc.nd rfl (by first | exact Or.inl rfl | exact Or.inr rfl))
        (pss_cons (ps_expr (pe_bm PySem.F.plainAttrs_dict PySem.F.slot_dict_pop PySem.F.type_dict_pop (mt_popT1 (hu_of hr)) (pe_fld (pv 0) rfl) (pa_cons (pv 2) pa_nil)))
      (pss_one (ps_expr (pe_bm PySem.F.plainAttrs_dict PySem.F.slot_dict_pop PySem.F.type_dict_pop (mt_popT1 (hu_of hr)) (pe_fld (pv 0) rfl) (pa_cons (pv 2) pa_nil))))))
      (pss_one (ps_ret (pe_callB call_len_seq (by rfl) (T.fre _ mf_len) bt_len (pa_cons (pv 1) pa_nil))))), ?_⟩
  have C := T.cls mk_Reader
  obtain ⟨adT, hT0, _⟩ := id ht
  have rt : ra ≠ t := fun e => by rw [e, hT0] at hi; cases hi
  have rn : ra ≠ nm := fun e => by rw [e, hn] at hi; cases hi
  have kt : ka ≠ t := fun e => by rw [e, hT0] at hka; cases hka
  have kn : ka ≠ nm := fun e => by rw [e, hn] at hka; cases hka
  have nS : ∀ y, y ≠ t → y ≠ nm → y ∉ [t, nm] := fun y h1 h2 z => by
    simp at z
    exact z.elim h1 h2
  have les : es.length = gs.length := by rw [← ees, List.length_map]
  refine ⟨_, rfl, _, rfl, ⟨_, SqL.of hka⟩, ?_⟩
  refine for_it (walk_list (xs := es.map fun e : Ky × Addr => V.ref e.2)) (fun i σ H' => ∃ v, σ = [some (.ref ra), some (.ref ka), v] ∧ Keeps [t, nm] H H' ∧ Imm H H' ∧ TabAt R H' t (tab.filter fun q => decide (q ∉ gs.take i)) ∧ NumAt num H' nm (nks.filter fun q => decide (q ∉ gs.take i)))
    ⟨none, rfl, Keeps.refl _ _, Imm.refl _, by rw [show (tab.filter fun q => decide (q ∉ gs.take 0)) = tab by simp]; exact ht, by rw [show (nks.filter fun q => decide (q ∉ gs.take 0)) = nks by simp]; exact hn⟩ (fun i σ H' _ ⟨_, _, k', _⟩ => SqL.of (k' _ _ hka (nS _ kt kn))) ?_ ?_
  · rintro i x σ H1 H1' hi' ⟨v, rfl, k1, m1, t1, n1⟩ ⟨rfl, hx⟩
    obtain ⟨e, he1, hm, rfl⟩ := getM hx
    have hgi : gs[i]? = some e.1 := by rw [← ees, List.getElem?_map, he1]; rfl
    have hgm := List.mem_of_getElem? hgi
    have hni : e.1 ∉ gs.take i := by
      have := new_of_nodup (f := id) (l := gs) (by simpa using hnd) hgi
      simpa using this
    have hke := (hes e hm).imm m1
    have inT : e.1 ∈ tab.filter fun q => decide (q ∉ gs.take i) := List.mem_filter.mpr ⟨(hsub _ hgm).1, by simpa using hni⟩
    have inN : e.1 ∈ nks.filter fun q => decide (q ∉ gs.take i) := List.mem_filter.mpr ⟨(hsub _ hgm).2, by simpa using hni⟩
    obtain ⟨kvs, vp, H2, h1, h2, rfl, t2, m2, k2⟩ := tab_pop t1 inT
    refine ⟨_, rfl, ra, _, dx, _, _, rfl, k1 _ _ hi (nS _ rt rn), C, T.noat mn_Reader_table, rfl, .inr (.inr (.inl ⟨rfl, .inr ⟨_, h1⟩⟩)), _, rfl, t, kvs, kyK e.1, e.2, vp, rfl, rfl, h1, hke, h2, ?_⟩
    have k02 := k1.trans (k2.mono (by simp))
    have n2 := n1.kp k2 (by simp [htn.symm])
    have hke2 := hke.imm m2
    have m02 := m1.trans m2
    generalize upd H1' t (.dT (dropK kvs (kyK e.1))) = H2 at t2 m2 k2 k02 n2 hke2 m02 ⊢
    obtain ⟨kvs3, vp3, H3, h1, h2, rfl, n3, m3, k3⟩ := num_pop n2 inN
    refine ⟨_, rfl, ra, _, dx, _, _, rfl, k02 _ _ hi (nS _ rt rn), C, T.noat mn_Reader_numbers, rfl, .inr (.inr (.inl ⟨rfl, .inr ⟨_, h1⟩⟩)), _, rfl, nm, kvs3, kyK e.1, e.2, vp3, rfl, rfl, h1, hke2, h2, ?_⟩
    refine ⟨_, rfl, k02.trans (k3.mono (by simp)), m02.trans m3, ?_, ?_⟩
    · have := t2.kp k3 (by simp [htn]) m3
      rw [filter_more _ _ hgi] at this
      exact this
    · rw [filter_more _ _ hgi] at n3
      exact n3
  · rintro σ H1 ⟨v, rfl, k1, m1, t1, n1⟩
    rw [List.length_map, les, List.take_length] at t1 n1
    refine ⟨_, rfl, ka, _, rfl, .inl (SqL.of (k1 _ _ hka (nS _ kt kn))), k _ H1 k1 t1 n1⟩
end
end Kr
namespace Kr
open PySem PySem.Spec PyProof.Rows L2
section
variable {P : Program} {w : World} {K : PySem.W.Frag} {mg : Str → Option Value} {base : Heap} {k : Nat}
/-- the rules with another form for one name, or without it -/
def chG (G : Str → Option Fm) (x : Str) (o : Option Fm) : Str → Option Fm := fun y => if y = x then o else G y
def chK (ks : List Str) (x : Str) : Option Fm → List Str
  | none => ks.filter fun y => decide (y ≠ x)
  | some _ => addK ks x
def tabX (R : Ky → Rc) (tab : List Ky) (x : Str) : List Ky := tab.filter fun q => decide (x ∈ (R q).leans)
theorem rules_put {H : Hp} {d : Addr} {ks : List Str} {G : Str → Option Fm} (h : RulesM H d ks G) {x : Str} {f : Fm} {fa : Addr} (hf : FormAt H fa f) (hl : ks.length < sizeLine) :
    ∃ H', DPut H d (.str x) (.ref fa) H' ∧ RulesM H' d (chK ks x (some f)) (chG G x (some f)) ∧ Imm H H' ∧ Keeps [d] H H' := by
  obtain ⟨ad, h1, h2⟩ := h
  refine ⟨_, .inl ⟨_, nmK x, h1, rfl, by rw [mkD_len]; exact hl, rfl⟩, ⟨setF ad x fa, ?_, fun y hy => ?_⟩, (Imm.refl _).mut h1, (Keeps.refl _ _).mem (by simp)⟩
  · rw [upd_same]
    congr 2
    refine (mkD_put nmK_inj ks x _).trans (mkD_congr fun j _ => ?_)
    unfold setF
    split <;> rfl
  · have im : Imm H (upd H d (.dK (putK (mkD nmK (fun x => V.ref (ad x)) ks) (nmK x) (.ref fa)))) := (Imm.refl _).mut h1
    unfold chG setF
    by_cases e : y = x
    · rw [if_pos e, if_pos e]
      exact ⟨f, rfl, hf.imm im⟩
    · rw [if_neg e, if_neg e]
      obtain ⟨g, q1, q2⟩ := h2 y ((mem_addK.mp hy).resolve_right e)
      exact ⟨g, q1, q2.imm im⟩
theorem rules_pop {H : Hp} {d : Addr} {ks : List Str} {G : Str → Option Fm} (h : RulesM H d ks G) {x : Str} (hx : x ∈ ks) :
    ∃ kvs v H', H d = some (.dK kvs) ∧ valV kvs (nmK x) = some v ∧ upd H d (.dK (dropK kvs (nmK x))) = H' ∧ RulesM H' d (chK ks x none) (chG G x none) ∧ Imm H H' ∧ Keeps [d] H H' := by
  obtain ⟨ad, h1, h2⟩ := h
  refine ⟨_, _, _, h1, mkD_in nmK_inj hx, rfl, ⟨ad, ?_, fun y hy => ?_⟩, (Imm.refl _).mut h1, (Keeps.refl _ _).mem (by simp)⟩
  · rw [upd_same, mkD_drop nmK_inj]
    rfl
  · have hy' := List.mem_filter.mp hy
    have e : y ≠ x := by simpa using hy'.2
    unfold chG
    rw [if_neg e]
    obtain ⟨g, q1, q2⟩ := h2 y hy'.1
    exact ⟨g, q1, q2.imm ((Imm.refl _).mut h1)⟩
def spRuleIn (K : PySem.W.Frag) : Sp := fun vs H Q _ => ∃ (ra rd t nm dl : Addr) (T : Str) (ks : List Str) (G : Str → Option Fm) (R : Ky → Rc) (tab nks : List Ky) (num : Ky → Nat) (x : Str) (fv : V) (o : Option Fm), vs = [.ref ra, .str x, fv] ∧ RdrAt K H ra rd t nm dl ks G T R tab nks num ∧ FormV H fv o ∧ (o = none → x ∈ ks) ∧ ks.length ≤ 100 ∧ tab.Nodup ∧ tab.length ≤ 1000 ∧ (∀ q ∈ tab, q ∈ nks) ∧ (∀ q ∈ tab, (R q).leans.length ≤ 1000) ∧
  ∀ H', Keeps [rd, t, nm] H H' → RdrAt K H' ra rd t nm dl (chK ks x o) (chG G x o) T R (tab.filter fun q => decide (q ∉ tabX R tab x)) (nks.filter fun q => decide (q ∉ tabX R tab x)) num → Q .non H'
theorem ok_Reader_rule_in (T : Tp K mg) (m_Reader_let_go : CallsM P w K mg base k (He.ga K "Reader") "let_go" ["self", "keys"] (spLetGo K)) : CallsM P w K mg base (k + 1) (He.ga K "Reader") "rule_in" ["self", "name", "form"] (spRuleIn K) := by
  have sc : FnScope ["self", "name", "form", "key"] ["self", "name", "form"] d_Reader_rule_in.scope := ⟨rfl, rfl, rfl, by decide +kernel, rfl, by decide +kernel, by decide +kernel⟩
  refine mkMeth T in_Reader_rule_in rfl mt_Reader_rule_in rfl rfl sc (fun _ _ _ _ _ _ us hl => match us, hl with | [_, _, _], _ => rfl) (fun vs H Q E h => ?_) (fun f cdv A outer s H vs Q E hr h => ?_)
  · obtain ⟨ra, rd, t, nm, dl, TX, ks, G, R, tab, nks, num, x, fv, o, rfl, _⟩ := h
    rfl
  obtain ⟨ra, rd, t, nm, dl, TX, ks, G, R, tab, nks, num, x, fv, o, rfl, RA, hf, hox, hkl, htn, htl, hsub, hll, k⟩ := h
  refine ⟨_, (pss_cons (ps_if (pt_cmpR op_isN (pv 2) pe_non (nomark _)) (pss_one (ps_expr (pe_dpop1 (pe_fld (pv 0) rfl) (pv 1) ⟨rfl, rfl, rfl, rfl⟩))) (pss_one (ps_dput (hu_of hr) (pe_fld (pv 0) rfl) (pv 1) (pv 2) rfl)))
      (pss_one (ps_expr (pmeth (pv 0) (T.cls mk_Reader) m_Reader_let_go hr (pa_cons (pe_lock (pe_lc (own := [("key", 3)]) rfl sc.nd (pi_keys (pe_fld (pv 0) rfl)) (blkOk_by (by kernel_rfl)) (fun _ _ _ _ _ => (pg_name (i := 3) sc.nd rfl (by first | exact Or.inl rfl | exact Or.inr rfl))) (fun _ _ _ _ _ => (pts_one (pt_cmpR (op_in_seqK (K := K) rfl) (pv 1) (pe_ix (ix_tupK (K := K) rfl) (pe_dget (hu_of hr) (pe_fldK (K := K) rfl (pv 0) rfl) (pv 3) (fun _ _ => rfl)) pe_int (fun _ _ => rfl)) (by rfl)))) (fun _ _ _ _ _ => (pv 3)))) pa_nil))))), ?_⟩
  have C := T.cls mk_Reader
  obtain ⟨⟨dx, fu, hi⟩, hru, ht, hn, hdl, hap⟩ := id RA
  have ap : ra ≠ rd ∧ ra ≠ t ∧ ra ≠ nm ∧ ra ≠ dl ∧ rd ≠ t ∧ rd ≠ nm ∧ rd ≠ dl ∧ t ≠ nm ∧ t ≠ dl ∧ nm ≠ dl := by
    simp only [List.nodup_cons, List.mem_cons, List.not_mem_nil, or_false, not_or, not_false_eq_true, List.nodup_nil, and_true] at hap
    exact ⟨hap.1.1, hap.1.2.1, hap.1.2.2.1, hap.1.2.2.2, hap.2.1.1, hap.2.1.2.1, hap.2.1.2.2, hap.2.2.1.1, hap.2.2.1.2, hap.2.2.2⟩
  refine seq_with (fun σ' H' => ∃ v3, σ' = [some (.ref ra), some (.str x), some fv, v3] ∧ Keeps [rd, t, nm] H H' ∧ Imm H H' ∧ RdrAt K H' ra rd t nm dl (chK ks x o) (chG G x o) TX R tab nks num) ?_ (fun fin => ?_)
  · rintro σ' H1 ⟨v3, rfl, k1, m1, RA1⟩
    obtain ⟨⟨dx1, fu1, hi1⟩, hru1, ⟨ad, ht1, hrec1⟩, hn1, hdl1, _⟩ := id RA1
    refine ⟨_, rfl, ra, dx1, _, rfl, hi1, rfl, t, _, ht1, trivial, fun od => ?_⟩
    have tL : upd H1 t (.frz od (.dT (mkD kyK (fun q => .ref (ad q)) tab))) t = some (.frz od (.dT (mkD kyK (fun q => .ref (ad q)) tab))) := upd_same
    have iL : Imm H1 (upd H1 t (.frz od (.dT (mkD kyK (fun q => .ref (ad q)) tab)))) := (Imm.refl _).mut ht1
    have rL : upd H1 t (.frz od (.dT (mkD kyK (fun q => .ref (ad q)) tab))) ra = some (.ins (He.ga K "Reader") dx1 (fldsR rd t nm dl TX fu1)) := by rw [upd_ne ap.2.1]; exact hi1
    have bK : ∀ H', Keeps [] (upd H1 t (.frz od (.dT (mkD kyK (fun q => .ref (ad q)) tab)))) H' → Keeps [] H1 (upd H' t (.dT (mkD kyK (fun q => .ref (ad q)) tab))) := fun H' k' => unlockK ht1 k'
    have bI : ∀ H', Imm (upd H1 t (.frz od (.dT (mkD kyK (fun q => .ref (ad q)) tab)))) H' → Imm H1 (upd H' t (.dT (mkD kyK (fun q => .ref (ad q)) tab))) := fun H' i => unlockI ht1 rfl i
    have recL : ∀ H', Imm (upd H1 t (.frz od (.dT (mkD kyK (fun q => .ref (ad q)) tab)))) H' → ∀ y ∈ tab, RecAt H' (ad y) (R y) := fun H' i y hy => (hrec1 y hy).imm (iL.trans i)
    generalize upd H1 t (.frz od (.dT (mkD kyK (fun q => .ref (ad q)) tab))) = HL at tL iL rL bK bI recL ⊢
    have ml : (mkD kyK (fun q => V.ref (ad q)) tab).length = tab.length := mkD_len
    refine ⟨_, rfl, ra, _, dx1, _, _, rfl, rL, C, T.noat mn_Reader_table, rfl, t, od, rfl, .inr ⟨_, tL, ?_⟩⟩
    intro D hD
    refine lc_rel tab (fun q => decide (x ∈ (R q).leans)) V.ref (fun q a H => KeyAt H a q) walk_keysT ml (by omega) hD (fun H' k' _ => k'.same tL) (fun _ _ _ _ i h => h.imm i) ?_ ?_
    · rintro i y z H2 H2' hy k2 m2 ⟨rfl, kk, vv, qa, hkv, rfl, hqa⟩ R' N hR hN
      obtain ⟨q, hq, rfl⟩ := mkD_get hkv
      obtain rfl : q = y := Option.some.inj (hq.symm.trans hy)
      have hqm := List.mem_of_getElem? hq
      have hqa' : KeyAt H2' qa q := hqa
      obtain ⟨a1, hget, la, lb, hra, hrk, hrs⟩ := TabRd.get (R := R) (ks := tab) ⟨ad, .inr ⟨od, k2.same tL⟩, fun z hz => recL _ m2 z hz⟩ hqm hqa'
      refine ⟨rfl, _, rfl, _, rfl, ra, _, dx1, _, _, rfl, k2.same rL, C, T.noat mn_Reader_table, rfl, _, rfl, t, _, rfl, hget, _, _, _, _, rfl, rfl, sqt_of hra, at_3 rfl, lb, _, rfl, .inl hrs.sq, rfl, flat_strs _, ?_⟩
      rw [if_neg Bool.false_ne_true, inV_str]
      exact ⟨_, rfl, iteB (fun hb => ⟨_, rfl, hR hb qa _ (Keeps.refl _ _) (Imm.refl _) hqa'⟩) (fun hb => hN hb _ (Keeps.refl _ _) (Imm.refl _))⟩
    · intro zs H2 k2 m2 h1 h2 e2
      refine ⟨k2.same tL, ?_⟩
      have kB := bK H2 k2
      have mB := bI H2 m2
      have hDt : D ≠ t := fun e => by rw [e, tL] at hD; cases hD
      have eB : upd H2 t (.dT (mkD kyK (fun q => .ref (ad q)) tab)) D = some (.lst (zs.map fun z => V.ref z.2)) := by rw [upd_ne hDt]; exact e2
      have keyB : ∀ z ∈ zs, KeyAt (upd H2 t (.dT (mkD kyK (fun q => .ref (ad q)) tab))) z.2 z.1 := fun z hz => by
        have := h2 z hz
        unfold KeyAt at this ⊢
        rw [upd_ne (fun e => by rw [e, k2.same tL] at this; cases this)]
        exact this
      generalize upd H2 t (.dT (mkD kyK (fun q => .ref (ad q)) tab)) = HB at kB mB eB keyB ⊢
      have RAB := RA1.kp kB (by simp) mB
      obtain ⟨⟨dxB, fuB, hiB⟩, hruB, htB, hnB, hdlB, _⟩ := id RAB
      have gmem : ∀ q ∈ tabX R tab x, q ∈ tab := fun q hq => (List.mem_filter.mp hq).1
      refine ⟨ra, dxB, rd, t, nm, dl, D, TX, fuB, R, tab, nks, tabX R tab x, num, rfl, hiB, htB, hnB, ap.2.2.2.2.2.2.2.1, ⟨zs, h1, eB, keyB⟩, htn.filter _, fun q hq => ⟨gmem q hq, hsub q (gmem q hq)⟩, Nat.le_trans (List.length_filter_le _ _) htl, fun v H3 k3 t3 n3 m3 => ?_⟩
      have kk3 : Keeps [rd, t, nm] H H3 := (k1.trans kB.nil).trans (k3.mono (by simp))
      refine k H3 kk3 ⟨⟨dxB, fuB, k3 _ _ hiB (by simp [ap.2.1, ap.2.2.1])⟩, hruB.kp k3 (by simp [ap.2.2.2.2.1, ap.2.2.2.2.2.1]) m3, t3, n3, ?_, hap⟩
      obtain ⟨xs, hd1, hd2⟩ := hdlB
      exact ⟨xs, k3 _ _ hd1 (by simp [ap.2.2.2.2.2.2.2.2.1.symm, ap.2.2.2.2.2.2.2.2.2.symm]), hd2⟩
  · cases o with
    | none =>
      cases (show fv = .non from hf)
      obtain ⟨kvs, vp, H1, e1, e2, rfl, r1, m1, k1⟩ := rules_pop hru (hox rfl)
      refine ⟨_, rfl, rfl, _, rfl, iteY rfl ?_⟩
      refine ⟨_, rfl, ra, _, dx, _, _, rfl, hi, C, T.noat mn_Reader_rules, rfl, rd, rfl, .inl ⟨_, .inl e1⟩, _, rfl, kvs, nmK x, vp, e1, rfl, e2, ?_⟩
      refine fin _ _ ⟨_, rfl, k1.mono (by simp), m1, ⟨⟨dx, fu, k1 _ _ hi (by simp [ap.1])⟩, r1, ht.kp k1 (by simp [ap.2.2.2.2.1.symm]) m1, hn.kp k1 (by simp [ap.2.2.2.2.2.1.symm]), ?_, hap⟩⟩
      obtain ⟨xs, hd1, hd2⟩ := hdl
      exact ⟨xs, k1 _ _ hd1 (by simp [ap.2.2.2.2.2.2.1.symm]), hd2⟩
    | some f1 =>
      obtain ⟨fa, rfl, hfa⟩ := hf
      obtain ⟨H1, dp, r1, m1, k1⟩ := rules_put hru hfa (line5 (by omega)) (x := x)
      refine ⟨_, rfl, rfl, _, rfl, iteN rfl ?_⟩
      refine ⟨_, rfl, _, rfl, ra, _, dx, _, _, rfl, hi, C, T.noat mn_Reader_rules, rfl, _, rfl, rd, _, rfl, dp, ?_⟩
      refine fin _ _ ⟨_, rfl, k1.mono (by simp), m1, ⟨⟨dx, fu, k1 _ _ hi (by simp [ap.1])⟩, r1, ht.kp k1 (by simp [ap.2.2.2.2.1.symm]) m1, hn.kp k1 (by simp [ap.2.2.2.2.2.1.symm]), ?_, hap⟩⟩
      obtain ⟨xs, hd1, hd2⟩ := hdl
      exact ⟨xs, k1 _ _ hd1 (by simp [ap.2.2.2.2.2.2.1.symm]), hd2⟩
end
end Kr
namespace Kr
open PySem PySem.Spec PyProof.Rows L2
section
variable {P : Program} {w : World} {K : PySem.W.Frag} {mg : Str → Option Value} {base : Heap} {k : Nat}
def spPut (K : PySem.W.Frag) : Sp := fun vs H Q _ => ∃ (ra rd t nm dl : Addr) (ks : List Str) (G : Str → Option Fm) (T sg : Str) (R R' : Ky → Rc) (tab nks : List Ky) (num num' : Ky → Nat) (a b : Nat), vs = [.ref ra, .int (a : Nat), .int (b : Nat), .str sg] ∧
  RdrN 50 K H ra rd t nm dl ks G T R tab nks num ∧ a ≤ b ∧ b ≤ T.length ∧ T.length ≤ 1000 ∧ okT sg ∧ sg.length ≤ 1000 ∧ tab.length ≤ 1000 ∧ (∀ q ∈ tab, q ∈ nks) ∧ (tab.filterMap (mvK R a b sg.length)).Nodup ∧
  (∀ q ∈ tab, q.2 + (R q).reach ≤ a → R' q = R q ∧ num' q = num q) ∧
  (∀ q ∈ tab, ¬ q.2 + (R q).reach ≤ a → b ≤ q.2 → R' (shK a b sg.length q) = ⟨(R q).len, (R q).reach, (R q).asked.map (shK a b sg.length), (R q).leans⟩ ∧ num' (shK a b sg.length q) = num q ∧ (R q).asked.length ≤ 1000 ∧ ∀ z ∈ (R q).asked, q.2 ≤ z.2) ∧
  ∀ t2 nm2 H', H t2 = none → H nm2 = none → Keeps [ra, dl] H H' → RdrAt K H' ra rd t2 nm2 dl ks G ((cutS T none (some (a : Nat)) ++ sg) ++ cutS T (some (b : Nat)) none) R' (tab.filterMap (mvK R a b sg.length)) (tab.filterMap (mvK R a b sg.length)) num' → Q .non H'
theorem ok_Reader_put (T : Tp K mg) (c_is_text : Calls P w K mg base k "is_text" ["thing"] spIsText) (m_Reader_put_in : CallsM P w K mg base k (He.ga K "Reader") "put_in" ["self", "a", "b", "signs"] (spPutIn K)) : CallsM P w K mg base (k + 1) (He.ga K "Reader") "put" ["self", "a", "b", "signs"] (spPut K) := by
  have sc : FnScope ["self", "a", "b", "signs"] ["self", "a", "b", "signs"] d_Reader_put.scope := ⟨rfl, rfl, rfl, by decide +kernel, rfl, by decide +kernel, by decide +kernel⟩
  refine mkMeth T in_Reader_put rfl mt_Reader_put rfl rfl sc (fun _ _ _ _ _ _ us hl => match us, hl with | [_, _, _, _], _ => rfl) (fun vs H Q E h => ?_) (fun f cdv A outer s H vs Q E hr h => ?_)
  · obtain ⟨ra, rd, t, nm, dl, ks, G, TX, sg, R, R', tab, nks, num, num', a, b, rfl, _⟩ := h
    rfl
  obtain ⟨ra, rd, t, nm, dl, ks, G, TX, sg, R, R', tab, nks, num, num', a, b, rfl, RA, hab, hbT, hT, hok, hsg, htl, hsub, hnd, hc1, hc2, k⟩ := h
  refine ⟨_, (pss_cons (ps_if (PW.pt (pw_or (pt_cmpR op_lt (pv 1) pe_int (nomark _)) (pw_or (pt_cmpR op_gt (pv 1) (pv 2) (nomark _)) (pw_or1 (pt_cmpR op_gt (pv 2) (pe_callB call_len_str (by rfl) (T.fre _ mf_len) bt_len (pa_cons (pe_fld (pv 0) rfl) pa_nil)) (nomark _)))))) (pss_one ps_never) pss_nil)
      (pss_cons (ps_if (pt_not (pt_val (pcall c_is_text hr (pa_cons (pv 3) pa_nil)))) (pss_one ps_never) pss_nil)
      (pss_cons (ps_expr (pe_bm PySem.F.plainAttrs_list PySem.F.slot_list_append PySem.F.type_list_append mt_append (pe_fld (pv 0) rfl) (pa_cons (pe_tup (pa_cons pe_str (pa_cons (pv 1) (pa_cons (pe_op op_add (pv 1) (pe_callB call_len_str (by rfl) (T.fre _ mf_len) bt_len (pa_cons (pv 3) pa_nil))) (pa_cons (pe_slice sl_str (pe_fld (pv 0) rfl) (po_some (pv 1)) (po_some (pv 2))) pa_nil))))) pa_nil)))
      (pss_one (ps_expr (pmeth (pv 0) (T.cls mk_Reader) m_Reader_put_in hr (pa_cons (pv 1) (pa_cons (pv 2) (pa_cons (pv 3) pa_nil))))))))), ?_⟩
  have C := T.cls mk_Reader
  obtain ⟨⟨dx, fu, hi⟩, hru, ht, hn, ⟨xs, hdl, hdll⟩, hap⟩ := id RA
  have ap : ra ≠ rd ∧ ra ≠ t ∧ ra ≠ nm ∧ ra ≠ dl ∧ rd ≠ t ∧ rd ≠ nm ∧ rd ≠ dl ∧ t ≠ nm ∧ t ≠ dl ∧ nm ≠ dl := by
    simp only [List.nodup_cons, List.mem_cons, List.not_mem_nil, or_false, not_or, not_false_eq_true, List.nodup_nil, and_true] at hap
    exact ⟨hap.1.1, hap.1.2.1, hap.1.2.2.1, hap.1.2.2.2, hap.2.1.1, hap.2.1.2.1, hap.2.1.2.2, hap.2.2.1.1, hap.2.2.1.2, hap.2.2.2⟩
  have hsz : 3000 ≤ sizeLine := by decide
  refine ⟨_, rfl, _, _, rfl, rfl, _, rfl, iteN (decide_eq_false (by omega)) ?_⟩
  refine ⟨_, rfl, _, rfl, _, _, rfl, rfl, _, rfl, iteN (decide_eq_false (by omega)) ?_⟩
  refine ⟨_, rfl, _, rfl, ra, _, dx, _, _, rfl, hi, C, T.noat mn_Reader_signs, rfl, TX, rfl, by omega, _, _, rfl, rfl, _, rfl, iteN (decide_eq_false (by omega)) ?_⟩
  refine ⟨_, rfl, sg, rfl, hok, hsg, fun H1 k1 m1 => ⟨_, rfl, iteF ?_⟩⟩
  obtain ⟨d1, hd1⟩ : ∃ y, H1 dl = some y := ⟨_, k1.same hdl⟩
  refine ⟨_, rfl, ra, _, dx, _, _, rfl, k1.same hi, C, T.noat mn_Reader_deeds, rfl, .inl ⟨rfl, _, SqL.of (k1.same hdl)⟩, _, rfl, _, rfl, _, rfl, sg, rfl, by omega, _, _, rfl, rfl, _, rfl, ra, _, dx, _, _, rfl, k1.same hi, C, T.noat mn_Reader_signs, rfl, _, rfl, _, rfl, _, rfl, _, rfl, TX, rfl, by omega, show 4 ≤ sizeLine by decide, fun u hu => ?_⟩
  generalize (HO.tup _ : HO) = ob
  have k2 := k1.new (o := ob) hu
  have m2 := m1.new (o := ob) hu
  generalize upd H1 u ob = H2 at k2 m2 ⊢
  have dl2 := k2.same hdl
  refine ⟨dl, _, _, rfl, rfl, dl2, line5 (by omega), ?_⟩
  have k3 := (k2.nil (S := [dl])).mem (o := .lst (xs ++ [V.ref u])) (p := dl) (by simp)
  have m3 := m2.mut (o := .lst (xs ++ [V.ref u])) dl2
  have dl3 : upd H2 dl (.lst (xs ++ [V.ref u])) dl = some (.lst (xs ++ [V.ref u])) := upd_same
  generalize upd H2 dl (.lst (xs ++ [V.ref u])) = H3 at k3 m3 dl3 ⊢
  have nD : ∀ y, y ≠ dl → y ∉ [dl] := fun y h z => h (List.mem_singleton.mp z)
  have i3 := k3 _ _ hi (nD _ ap.2.2.2.1)
  have RA3 : RdrAt K H3 ra rd t nm dl ks G TX R tab nks num := ⟨⟨dx, fu, i3⟩, hru.kp k3 (nD _ ap.2.2.2.2.2.2.1) m3, ht.kp k3 (nD _ ap.2.2.2.2.2.2.2.2.1) m3, hn.kp k3 (nD _ ap.2.2.2.2.2.2.2.2.2), ⟨_, dl3, by rw [List.length_append, List.length_singleton]; omega⟩, hap⟩
  refine ⟨_, rfl, ra, dx, _, rfl, i3, rfl, _, rfl, _, rfl, _, rfl, ra, rd, t, nm, dl, ks, G, TX, sg, R, R', tab, nks, num, num', a, b, rfl, RA3, hab, hbT, hT, hsg, htl, hsub, hnd, hc1, hc2, fun t2 nm2 H4 ht2 hn2 k4 r4 m4 => ?_⟩
  refine k t2 nm2 H4 (k3.free ht2 ?_) (k3.free hn2 ?_) ((k3.mono (by simp)).trans (k4.mono (by simp))) r4
  · exact nD _ fun e => by rw [e, dl3] at ht2; cases ht2
  · exact nD _ fun e => by rw [e, dl3] at hn2; cases hn2
end
end Kr
namespace Kr
open PySem PySem.Spec PyProof.Rows L2
section
variable {P : Program} {w : World} {K : PySem.W.Frag} {mg : Str → Option Value} {base : Heap} {k : Nat}
def spRule (K : PySem.W.Frag) : Sp := fun vs H Q _ => ∃ (ra rd t nm dl fa : Addr) (T : Str) (ks : List Str) (G : Str → Option Fm) (R : Ky → Rc) (tab nks : List Ky) (num : Ky → Nat) (x : Str) (f : Fm), vs = [.ref ra, .str x, .ref fa] ∧ RdrN 50 K H ra rd t nm dl ks G T R tab nks num ∧ FormAt H fa f ∧ okN x ∧ f.ok ∧ ks.length ≤ 50 ∧ ks.Nodup ∧ (∀ y ∈ ks, ∀ g, G y = some g → g.ok) ∧
  (∀ bs : List (Str × Fm), (bs.map (·.1)).Perm (chK ks x (some f)) → (∀ b ∈ bs, chG G x (some f) b.1 = some b.2) → NoLoop bs) ∧ tab.Nodup ∧ tab.length ≤ 1000 ∧ (∀ q ∈ tab, q ∈ nks) ∧ (∀ q ∈ tab, (R q).leans.length ≤ 1000) ∧
  ∀ H', Keeps [rd, t, nm, dl] H H' → RdrAt K H' ra rd t nm dl (chK ks x (some f)) (chG G x (some f)) T R (tab.filter fun q => decide (q ∉ tabX R tab x)) (nks.filter fun q => decide (q ∉ tabX R tab x)) num → Q .non H'
theorem ok_Reader_rule (T : Tp K mg) (c_is_name : Calls P w K mg base k "is_name" ["thing"] spIsName) (c_is_form : Calls P w K mg base k "is_form" ["thing"] spIsForm) (c_loop : Calls P w K mg base k "loop" ["book"] spLoop) (m_Reader_rule_in : CallsM P w K mg base k (He.ga K "Reader") "rule_in" ["self", "name", "form"] (spRuleIn K)) : CallsM P w K mg base (k + 1) (He.ga K "Reader") "rule" ["self", "name", "form"] (spRule K) := by
  have sc : FnScope ["self", "name", "form", "rules", "one"] ["self", "name", "form"] d_Reader_rule.scope := ⟨rfl, rfl, rfl, by decide +kernel, rfl, by decide +kernel, by decide +kernel⟩
  refine mkMeth T in_Reader_rule rfl mt_Reader_rule rfl rfl sc (fun _ _ _ _ _ _ us hl => match us, hl with | [_, _, _], _ => rfl) (fun vs H Q E h => ?_) (fun f cdv A outer s H vs Q E hr h => ?_)
  · obtain ⟨ra, rd, t, nm, dl, fa, TX, ks, G, R, tab, nks, num, x, f, rfl, _⟩ := h
    rfl
  obtain ⟨ra, rd, t, nm, dl, fa, TX, ks, G, R, tab, nks, num, x, fm, rfl, RA, hf, hx, hfo, hkl, hkn, hko, hnl, htn, htl, hsub, hll, k⟩ := h
  refine ⟨_, (pss_cons (ps_if (pt_not (pt_val (pcall c_is_name hr (pa_cons (pv 1) pa_nil)))) (pss_one ps_never) pss_nil)
      (pss_cons (ps_if (pt_not (pt_val (pcall c_is_form hr (pa_cons (pv 2) pa_nil)))) (pss_one ps_never) pss_nil)
      (pss_cons (ps_set (i := 3) sc.nd rfl (by first | exact Or.inl rfl | exact Or.inr rfl) (pe_callTy call_dictD (by rfl) (T.fre _ mf_dict) bt_dict (pa_cons (pe_fld (pv 0) rfl) pa_nil)))
      (pss_cons (ps_dput (hu_of hr) (pv 3) (pv 1) (pv 2) rfl)
      (pss_cons (ps_if (pt_cmpR op_notN (pcall c_loop hr (pa_cons (pe_frz (pe_lc (own := [("one", 4)]) rfl sc.nd (pi_list (pe_callB (call_sortedD rfl) (by rfl) (T.fre _ mf_sorted) bt_sorted (pa_cons (pv 3) pa_nil))) (blkOk_by (by kernel_rfl)) (fun _ _ _ _ _ => (pg_name (i := 4) sc.nd rfl (by first | exact Or.inl rfl | exact Or.inr rfl))) (fun _ _ _ _ _ => pts_nil) (fun _ _ _ _ _ => (pe_tup (pa_cons (pv 4) (pa_cons (pe_dget (hu_of hr) (pv 3) (pv 4) (fun _ _ => rfl)) pa_nil)))))) pa_nil)) pe_non (nomark _)) (pss_one ps_never) pss_nil)
      (pss_cons (ps_expr (pe_bm PySem.F.plainAttrs_list PySem.F.slot_list_append PySem.F.type_list_append mt_append (pe_fld (pv 0) rfl) (pa_cons (pe_tup (pa_cons pe_str (pa_cons (pv 1) (pa_cons (pe_dget1 (hu_of hr) (pe_fld (pv 0) rfl) (pv 1) ⟨rfl, rfl, rfl, rfl⟩) pa_nil)))) pa_nil)))
      (pss_one (ps_expr (pmeth (pv 0) (T.cls mk_Reader) m_Reader_rule_in hr (pa_cons (pv 1) (pa_cons (pv 2) pa_nil))))))))))), ?_⟩
  have C := T.cls mk_Reader
  obtain ⟨⟨dx, fu, hi⟩, hru, ht, hn, ⟨xs, hdl, hdll⟩, hap⟩ := id RA
  have ap : ra ≠ rd ∧ ra ≠ t ∧ ra ≠ nm ∧ ra ≠ dl ∧ rd ≠ t ∧ rd ≠ nm ∧ rd ≠ dl ∧ t ≠ nm ∧ t ≠ dl ∧ nm ≠ dl := by
    simp only [List.nodup_cons, List.mem_cons, List.not_mem_nil, or_false, not_or, not_false_eq_true, List.nodup_nil, and_true] at hap
    exact ⟨hap.1.1, hap.1.2.1, hap.1.2.2.1, hap.1.2.2.2, hap.2.1.1, hap.2.1.2.1, hap.2.1.2.2, hap.2.2.1.1, hap.2.2.1.2, hap.2.2.2⟩
  refine ⟨_, rfl, x, rfl, hx, fun H1 k1 m1 => ⟨_, rfl, iteF ?_⟩⟩
  refine ⟨_, rfl, fa, fm, rfl, hf.imm m1, hfo, fun H2 k2 m2 => ⟨_, rfl, iteF ?_⟩⟩
  have k02 := k1.trans k2
  have m02 := m1.trans m2
  have RA2 := RA.kp k02 (by simp) m02
  obtain ⟨ad, hrd, hrf⟩ := id RA2.rules
  refine ⟨_, rfl, ra, _, dx, _, _, rfl, k02.same hi, C, T.noat mn_Reader_rules, rfl, rd, _, rfl, .inl hrd, fun p hp => ?_⟩
  have k3 := k02.new (o := .dK (mkD nmK (fun x => .ref (ad x)) ks)) hp
  have m3 := m02.new (o := .dK (mkD nmK (fun x => .ref (ad x)) ks)) hp
  have mx := (Imm.refl H2).new (o := .dK (mkD nmK (fun x => .ref (ad x)) ks)) hp
  have rp : RulesM (upd H2 p (.dK (mkD nmK (fun x => .ref (ad x)) ks))) p ks G := ⟨ad, upd_same, fun y hy => let ⟨g, a, b⟩ := hrf y hy; ⟨g, a, b.imm mx⟩⟩
  generalize upd H2 p (.dK (mkD nmK (fun x => .ref (ad x)) ks)) = H3 at k3 m3 mx rp ⊢
  obtain ⟨H4, dp, r4, m4, k4⟩ := rules_put rp (hf.imm m3) (line5 (by omega)) (x := x)
  refine ⟨_, rfl, _, rfl, _, rfl, p, H4, rfl, dp, ?_⟩
  obtain ⟨ad4, hp4, hf4⟩ := id r4
  have pH : H p = none := k02.free0 hp
  have k03 : Keeps [] H H4 := k3.call k4 fun y hy => .inr (by rw [List.mem_singleton.mp hy]; exact pH)
  have m04 := m3.trans m4
  have nk : (chK ks x (some fm)).Nodup := addK_nodup hkn
  have nl : (chK ks x (some fm)).length ≤ 51 := Nat.le_trans addK_len (by omega)
  refine ⟨_, rfl, p, _, chK ks x (some fm), rfl, .inl hp4, by unfold mkD; rw [List.map_map]; rfl, by omega, fun ys q hys hso hq => ?_⟩
  have k5 := k03.new (o := .lst (ys.map V.str)) hq
  have m5 := m04.new (o := .lst (ys.map V.str)) hq
  have mx5 := (Imm.refl H4).new (o := .lst (ys.map V.str)) hq
  have p5 : upd H4 q (.lst (ys.map V.str)) p = some (.dK (mkD nmK (fun x => .ref (ad4 x)) (chK ks x (some fm)))) := by rw [upd_ne (ne_of_none hp4 hq)]; exact hp4
  have q5 : upd H4 q (.lst (ys.map V.str)) q = some (.lst (ys.map V.str)) := upd_same
  generalize upd H4 q (.lst (ys.map V.str)) = H5 at k5 m5 mx5 p5 q5 ⊢
  have hysl : ys.length = (chK ks x (some fm)).length := hys.length_eq
  refine ⟨q, rfl, ⟨_, SqL.of q5⟩, fun D hD => lc_rel ys (fun _ => true) V.ref (fun y a H => ∃ fa f, H a = some (.tup [.str y, .ref fa]) ∧ FormAt H fa f ∧ chG G x (some fm) y = some f) (walk_list (xs := ys.map V.str)) (by rw [List.length_map]) (by omega) hD (fun H' k' _ => SqL.of (k'.same q5)) (fun _ _ _ _ i ⟨fa, f, a, b, c⟩ => ⟨fa, f, i.tup a, b.imm i, c⟩) ?_ ?_⟩
  · rintro i y z H6 H6' hy k6 m6 ⟨rfl, hx6⟩ R' N hR _
    obtain ⟨e, he1, hm, rfl⟩ := getM hx6
    obtain rfl : e = y := Option.some.inj (he1.symm.trans hy)
    have hin : e ∈ chK ks x (some fm) := hys.mem_iff.mp hm
    obtain ⟨g, hg1, hg2⟩ := hf4 e hin
    refine ⟨rfl, _, rfl, _, rfl, _, rfl, p, _, rfl, .inl ⟨_, .inr e, .inl (k6.same p5), rfl, (mkD_in (f := nmK) nmK_inj hin).symm⟩, show 2 ≤ sizeLine by decide, fun u hu => hR rfl u _ ((Keeps.refl _ _).new hu) ((Imm.refl _).new hu) ⟨_, g, upd_same, hg2.imm ((mx5.trans m6).new hu), hg1⟩⟩
  intro zs H6 k6 m6 h1 h2 e6
  rw [filter_all_true] at h1
  refine ⟨D, _, rfl, e6, trivial, fun od => ?_⟩
  have k7 := (k5.trans k6).own (o := .frz od (.lst (zs.map fun z => V.ref z.2))) (k5.free0 hD)
  have m7 := (m5.trans m6).mut (o := .frz od (.lst (zs.map fun z => V.ref z.2))) e6
  have e7 : upd H6 D (.frz od (.lst (zs.map fun z => V.ref z.2))) D = some (.frz od (.lst (zs.map fun z => V.ref z.2))) := upd_same
  have h7 : ∀ z ∈ zs, ∃ fa f, upd H6 D (.frz od (.lst (zs.map fun z => V.ref z.2))) z.2 = some (.tup [.str z.1, .ref fa]) ∧ FormAt (upd H6 D (.frz od (.lst (zs.map fun z => V.ref z.2)))) fa f ∧ chG G x (some fm) z.1 = some f := fun z hz => by
    have i7 : Imm H6 (upd H6 D (.frz od (.lst (zs.map fun z => V.ref z.2)))) := (Imm.refl _).mut e6
    obtain ⟨fa, f, a, b, c⟩ := h2 z hz
    exact ⟨fa, f, i7.tup a, b.imm i7, c⟩
  generalize upd H6 D (.frz od (.lst (zs.map fun z => V.ref z.2))) = H7 at k7 m7 e7 h7 ⊢
  let bs : List (Str × Fm) := zs.map fun z => (z.1, (chG G x (some fm) z.1).getD .none)
  have bs1 : bs.map (·.1) = ys := by
    show (zs.map _).map _ = _
    rw [List.map_map, ← h1]
    rfl
  have bsG : ∀ b ∈ bs, chG G x (some fm) b.1 = some b.2 := fun b hb => by
    obtain ⟨z, hz, rfl⟩ := List.mem_map.mp hb
    obtain ⟨fa, f, _, _, c⟩ := h7 z hz
    show _ = some ((chG G x (some fm) z.1).getD .none)
    rw [c]
    rfl
  have bsK : BookAt H7 D bs := by
    refine ⟨od, zs.map fun z => ((z.1, (chG G x (some fm) z.1).getD .none), z.2), ?_, ?_, ?_⟩
    · rw [List.map_map]
      rfl
    · rw [List.map_map]
      exact e7
    · intro e he
      obtain ⟨z, hz, rfl⟩ := List.mem_map.mp he
      obtain ⟨fa, f, a, b, c⟩ := h7 z hz
      refine ⟨fa, a, ?_⟩
      show FormAt H7 fa ((chG G x (some fm) z.1).getD .none)
      rw [c]
      exact b
  have bsn : (bs.map (·.1)).Nodup := by rw [bs1]; exact hys.nodup_iff.mpr nk
  have bsl : bs.length ≤ 1000 := by
    have : (bs.map (·.1)).length = ys.length := by rw [bs1]
    rw [List.length_map] at this
    omega
  have bso : ∀ b ∈ bs, b.2.ok := fun b hb => by
    have hG := bsG b hb
    unfold chG at hG
    by_cases e : b.1 = x
    · rw [if_pos e] at hG
      exact Option.some.inj hG ▸ hfo
    · rw [if_neg e] at hG
      have hin : b.1 ∈ chK ks x (some fm) := hys.mem_iff.mp (by rw [← bs1]; exact List.mem_map.mpr ⟨b, hb, rfl⟩)
      exact hko b.1 ((mem_addK.mp hin).resolve_right e) _ hG
  refine ⟨D, bs, rfl, bsK, bsl, bsn, bso, hnl bs (by rw [bs1]; exact hys) bsG, fun H8 k8 m8 => ⟨rfl, _, rfl, iteN rfl ?_⟩⟩
  have k8' := k7.trans k8
  have m8' := m7.trans m8
  have RA8 := RA.kp k8' (by simp) m8'
  obtain ⟨ad8, hrd8, hrf8⟩ := id RA8.rules
  refine ⟨_, rfl, ra, _, dx, _, _, rfl, k8'.same hi, C, T.noat mn_Reader_deeds, rfl, .inl ⟨rfl, _, SqL.of (k8'.same hdl)⟩, _, rfl, _, rfl, ra, _, dx, _, _, rfl, k8'.same hi, C, T.noat mn_Reader_rules, rfl, rd, rfl, .inl ⟨_, .inl hrd8⟩, _, rfl, _, .inl ⟨_, nmK x, .inl hrd8, rfl, rfl⟩, show 3 ≤ sizeLine by decide, fun u hu => ?_⟩
  generalize (HO.tup _ : HO) = ob
  have k9 := k8'.new (o := ob) hu
  have m9 := m8'.new (o := ob) hu
  generalize upd H8 u ob = H9 at k9 m9 ⊢
  have dl9 := k9.same hdl
  refine ⟨dl, _, _, rfl, rfl, dl9, line5 (by omega), ?_⟩
  have k10 := (k9.nil (S := [dl])).mem (o := .lst (xs ++ [V.ref u])) (p := dl) (by simp)
  have m10 := m9.mut (o := .lst (xs ++ [V.ref u])) dl9
  have dl10 : upd H9 dl (.lst (xs ++ [V.ref u])) dl = some (.lst (xs ++ [V.ref u])) := upd_same
  generalize upd H9 dl (.lst (xs ++ [V.ref u])) = H10 at k10 m10 dl10 ⊢
  have nD : ∀ y, y ≠ dl → y ∉ [dl] := fun y h z => h (List.mem_singleton.mp z)
  have i10 := k10 _ _ hi (nD _ ap.2.2.2.1)
  have RA10 : RdrAt K H10 ra rd t nm dl ks G TX R tab nks num := ⟨⟨dx, fu, i10⟩, hru.kp k10 (nD _ ap.2.2.2.2.2.2.1) m10, ht.kp k10 (nD _ ap.2.2.2.2.2.2.2.2.1) m10, hn.kp k10 (nD _ ap.2.2.2.2.2.2.2.2.2), ⟨_, dl10, by rw [List.length_append, List.length_singleton]; omega⟩, hap⟩
  refine ⟨_, rfl, ra, dx, _, rfl, i10, rfl, _, rfl, _, rfl, ra, rd, t, nm, dl, TX, ks, G, R, tab, nks, num, x, .ref fa, some fm, rfl, RA10, ⟨fa, rfl, hf.imm m10⟩, (fun e => nomatch e), by omega, htn, htl, hsub, hll, fun H11 k11 r11 m11 => ?_⟩
  exact k H11 ((k10.mono (by simp)).trans (k11.mono fun y hy => by
    simp only [List.mem_cons, List.not_mem_nil, or_false] at hy ⊢
    rcases hy with z | z | z <;> simp [z])) r11
def spDrop (K : PySem.W.Frag) : Sp := fun vs H Q _ => ∃ (ra rd t nm dl : Addr) (T : Str) (ks : List Str) (G : Str → Option Fm) (R : Ky → Rc) (tab nks : List Ky) (num : Ky → Nat) (x : Str), vs = [.ref ra, .str x] ∧ RdrN 50 K H ra rd t nm dl ks G T R tab nks num ∧ okN x ∧ x ∈ ks ∧ ks.length ≤ 50 ∧ tab.Nodup ∧ tab.length ≤ 1000 ∧ (∀ q ∈ tab, q ∈ nks) ∧ (∀ q ∈ tab, (R q).leans.length ≤ 1000) ∧
  ∀ H', Keeps [rd, t, nm, dl] H H' → RdrAt K H' ra rd t nm dl (chK ks x none) (chG G x none) T R (tab.filter fun q => decide (q ∉ tabX R tab x)) (nks.filter fun q => decide (q ∉ tabX R tab x)) num → Q .non H'
theorem ok_Reader_drop (T : Tp K mg) (c_is_name : Calls P w K mg base k "is_name" ["thing"] spIsName) (m_Reader_rule_in : CallsM P w K mg base k (He.ga K "Reader") "rule_in" ["self", "name", "form"] (spRuleIn K)) : CallsM P w K mg base (k + 1) (He.ga K "Reader") "drop" ["self", "name"] (spDrop K) := by
  have sc : FnScope ["self", "name"] ["self", "name"] d_Reader_drop.scope := ⟨rfl, rfl, rfl, by decide +kernel, rfl, by decide +kernel, by decide +kernel⟩
  refine mkMeth T in_Reader_drop rfl mt_Reader_drop rfl rfl sc (fun _ _ _ _ _ _ us hl => match us, hl with | [_, _], _ => rfl) (fun vs H Q E h => ?_) (fun f cdv A outer s H vs Q E hr h => ?_)
  · obtain ⟨ra, rd, t, nm, dl, TX, ks, G, R, tab, nks, num, x, rfl, _⟩ := h
    rfl
  obtain ⟨ra, rd, t, nm, dl, TX, ks, G, R, tab, nks, num, x, rfl, RA, hx, hin, hkl, htn, htl, hsub, hll, k⟩ := h
  refine ⟨_, (pss_cons (ps_if (PW.pt (pw_or (pt_not (pt_val (pcall c_is_name hr (pa_cons (pv 1) pa_nil)))) (pw_or1 (pt_cmp (pc_dnotin (hu_of hr) (pv 1) (pe_fld (pv 0) rfl)) rfl)))) (pss_one ps_never) pss_nil)
      (pss_cons (ps_expr (pe_bm PySem.F.plainAttrs_list PySem.F.slot_list_append PySem.F.type_list_append mt_append (pe_fld (pv 0) rfl) (pa_cons (pe_tup (pa_cons pe_str (pa_cons (pv 1) (pa_cons (pe_dget (hu_of hr) (pe_fld (pv 0) rfl) (pv 1) (fun _ _ => rfl)) pa_nil)))) pa_nil)))
      (pss_one (ps_expr (pmeth (pv 0) (T.cls mk_Reader) m_Reader_rule_in hr (pa_cons (pv 1) (pa_cons pe_non pa_nil))))))), ?_⟩
  have C := T.cls mk_Reader
  obtain ⟨⟨dx, fu, hi⟩, hru, ht, hn, ⟨xs, hdl, hdll⟩, hap⟩ := id RA
  have ap : ra ≠ rd ∧ ra ≠ t ∧ ra ≠ nm ∧ ra ≠ dl ∧ rd ≠ t ∧ rd ≠ nm ∧ rd ≠ dl ∧ t ≠ nm ∧ t ≠ dl ∧ nm ≠ dl := by
    simp only [List.nodup_cons, List.mem_cons, List.not_mem_nil, or_false, not_or, not_false_eq_true, List.nodup_nil, and_true] at hap
    exact ⟨hap.1.1, hap.1.2.1, hap.1.2.2.1, hap.1.2.2.2, hap.2.1.1, hap.2.1.2.1, hap.2.1.2.2, hap.2.2.1.1, hap.2.2.1.2, hap.2.2.2⟩
  refine ⟨_, rfl, x, rfl, hx, fun H1 k1 m1 => ⟨_, rfl, iteF ?_⟩⟩
  have RA1 := RA.kp k1 (by simp) m1
  obtain ⟨ad1, hrd1, hrf1⟩ := id RA1.rules
  have hget : DGet H1 rd (.str x) (some (.ref (ad1 x))) := .inl ⟨_, nmK x, .inl hrd1, rfl, (mkD_in (f := nmK) (g := fun x => V.ref (ad1 x)) nmK_inj hin).symm⟩
  refine ⟨_, rfl, _, rfl, ra, _, dx, _, _, rfl, k1.same hi, C, T.noat mn_Reader_rules, rfl, rd, _, rfl, hget, _, rfl, iteF ?_⟩
  refine ⟨_, rfl, ra, _, dx, _, _, rfl, k1.same hi, C, T.noat mn_Reader_deeds, rfl, .inl ⟨rfl, _, SqL.of (k1.same hdl)⟩, _, rfl, _, rfl, ra, _, dx, _, _, rfl, k1.same hi, C, T.noat mn_Reader_rules, rfl, _, rfl, rd, _, rfl, hget, show 3 ≤ sizeLine by decide, fun u hu => ?_⟩
  generalize (HO.tup _ : HO) = ob
  have k9 := k1.new (o := ob) hu
  have m9 := m1.new (o := ob) hu
  generalize upd H1 u ob = H9 at k9 m9 ⊢
  have dl9 := k9.same hdl
  refine ⟨dl, _, _, rfl, rfl, dl9, line5 (by omega), ?_⟩
  have k10 := (k9.nil (S := [dl])).mem (o := .lst (xs ++ [V.ref u])) (p := dl) (by simp)
  have m10 := m9.mut (o := .lst (xs ++ [V.ref u])) dl9
  have dl10 : upd H9 dl (.lst (xs ++ [V.ref u])) dl = some (.lst (xs ++ [V.ref u])) := upd_same
  generalize upd H9 dl (.lst (xs ++ [V.ref u])) = H10 at k10 m10 dl10 ⊢
  have nD : ∀ y, y ≠ dl → y ∉ [dl] := fun y h z => h (List.mem_singleton.mp z)
  have i10 := k10 _ _ hi (nD _ ap.2.2.2.1)
  have RA10 : RdrAt K H10 ra rd t nm dl ks G TX R tab nks num := ⟨⟨dx, fu, i10⟩, hru.kp k10 (nD _ ap.2.2.2.2.2.2.1) m10, ht.kp k10 (nD _ ap.2.2.2.2.2.2.2.2.1) m10, hn.kp k10 (nD _ ap.2.2.2.2.2.2.2.2.2), ⟨_, dl10, by rw [List.length_append, List.length_singleton]; omega⟩, hap⟩
  refine ⟨_, rfl, ra, dx, _, rfl, i10, rfl, _, rfl, ra, rd, t, nm, dl, TX, ks, G, R, tab, nks, num, x, .non, none, rfl, RA10, rfl, (fun _ => hin), by omega, htn, htl, hsub, hll, fun H11 k11 r11 m11 => ?_⟩
  exact k H11 ((k10.mono (by simp)).trans (k11.mono fun y hy => by
    simp only [List.mem_cons, List.not_mem_nil, or_false] at hy ⊢
    rcases hy with z | z | z <;> simp [z])) r11
end
end Kr
/-! the law's own reading: its loop, plain -/
namespace Kr
open PySem PySem.Spec PyProof.Rows L2
structure LS where
  parts : List Str
  len : Option Nat
  at_ : Nat
/-- one round of the loop: got is what the first part gave -/
def lsStep (fo : Option Fm) (p : Nat) (got : Option Nat) (s : LS) : LS := match fo with
  | some (.row _) => match got with
    | none => ⟨[], none, s.at_⟩
    | some n => ⟨s.parts.tail, some (s.at_ + n - p), s.at_ + n⟩
  | some (.first _) => match got with
    | none => ⟨s.parts.tail, s.len, s.at_⟩
    | some n => ⟨[], some n, s.at_⟩
  | some (.again _) => match got with
    | none => ⟨s.parts.tail, s.len, s.at_⟩
    | some n => ⟨if n = 0 then s.parts.tail else s.parts, some (s.at_ + n - p), s.at_ + n⟩
  | some (.ahead _) => ⟨s.parts.tail, if got.isSome = true then some 0 else s.len, s.at_⟩
  | some (.not _) => ⟨s.parts.tail, if got.isSome = true then s.len else some 0, s.at_⟩
  | _ => ⟨s.parts.tail, s.len, s.at_⟩
/-- from s on the loop asks ks and leaves o -/
def Trk (fo : Option Fm) (L : Ky → Option Nat) (p : Nat) : LS → List Ky → Option Nat → Prop
  | s, [], o => s.parts = [] ∧ s.len = o
  | s, k :: ks, o => (∃ q rest, s.parts = q :: rest ∧ k = (q, s.at_)) ∧ Trk fo L p (lsStep fo p (L k) s) ks o
def ls0 (G : Str → Option Fm) (T : Str) (k : Ky) : LS := match G k.1 with
  | none => ⟨[], none, k.2⟩
  | some .none => ⟨[], some 0, k.2⟩
  | some .any => ⟨[], if k.2 < T.length then some 1 else none, k.2⟩
  | some (.signs z) => ⟨[], if signAt T z k.2 = true then some 1 else none, k.2⟩
  | some (.row ps) => ⟨ps, some 0, k.2⟩
  | some (.first ps) => ⟨ps, none, k.2⟩
  | some (.again q) => ⟨[q], some 0, k.2⟩
  | some (.ahead q) => ⟨[q], none, k.2⟩
  | some (.not q) => ⟨[q], none, k.2⟩
theorem trk_row {L : Ky → Option Nat} {ps : List Str} {p : Nat} : ∀ (qs : List Str) (a : Nat), Trk (some (.row ps)) L p ⟨qs, some (a - p), a⟩ (seqRow L p a qs).1 (seqRow L p a qs).2
  | [], a => ⟨rfl, rfl⟩
  | q :: qs, a => by
    unfold seqRow
    cases h : L (q, a) with
    | none =>
      refine ⟨⟨q, qs, rfl, rfl⟩, ?_⟩
      rw [h]
      exact ⟨rfl, rfl⟩
    | some n =>
      refine ⟨⟨q, qs, rfl, rfl⟩, ?_⟩
      rw [h]
      exact trk_row qs (a + n)
theorem trk_first {L : Ky → Option Nat} {ps : List Str} {p : Nat} : ∀ (qs : List Str), Trk (some (.first ps)) L p ⟨qs, none, p⟩ (seqFirst L p qs).1 (seqFirst L p qs).2
  | [] => ⟨rfl, rfl⟩
  | q :: qs => by
    unfold seqFirst
    cases h : L (q, p) with
    | some n =>
      refine ⟨⟨q, qs, rfl, rfl⟩, ?_⟩
      rw [h]
      exact ⟨rfl, rfl⟩
    | none =>
      refine ⟨⟨q, qs, rfl, rfl⟩, ?_⟩
      rw [h]
      exact trk_first qs
/-- f rounds are enough when each moves on within m -/
theorem trk_again {L : Ky → Option Nat} {q0 q : Str} {p m : Nat} (fit : ∀ a n, a ≤ m → L (q, a) = some n → a + n ≤ m) : ∀ (f a : Nat), a ≤ m → m - a < f → Trk (some (.again q0)) L p ⟨[q], some (a - p), a⟩ (seqAgain L p q f a).1 (seqAgain L p q f a).2
  | 0, a, _, h => absurd h (Nat.not_lt_zero _)
  | f + 1, a, ha, hf => by
    unfold seqAgain
    cases h : L (q, a) with
    | none =>
      refine ⟨⟨q, [], rfl, rfl⟩, ?_⟩
      rw [h]
      exact ⟨rfl, rfl⟩
    | some n =>
      cases n with
      | zero =>
        refine ⟨⟨q, [], rfl, rfl⟩, ?_⟩
        rw [h]
        exact ⟨rfl, rfl⟩
      | succ n =>
        refine ⟨⟨q, [], rfl, rfl⟩, ?_⟩
        rw [h]
        have hm := fit a _ ha h
        exact trk_again fit f (a + (n + 1)) hm (by omega)
theorem Sys.trk {G : Str → Option Fm} {T : Str} {R : Ky → Rc} {D : List Str} {rk : Str → Nat} (S : Sys G T R D rk) {k : Ky} (hk : k.2 ≤ T.length) :
    Trk (G k.1) (fun j => (R j).len) k.2 (ls0 G T k) (out G T (fun j => (R j).len) k).1 (out G T (fun j => (R j).len) k).2 := by
  have tl := S.tl
  unfold ls0 out
  cases hG : G k.1 with
  | none => exact ⟨rfl, rfl⟩
  | some f =>
    cases f with
    | none => exact ⟨rfl, rfl⟩
    | any => exact ⟨rfl, rfl⟩
    | signs z => exact ⟨rfl, rfl⟩
    | row ps =>
      have := trk_row (L := fun j => (R j).len) (ps := ps) (p := k.2) ps k.2
      rw [Nat.sub_self] at this
      exact this
    | first ps => exact trk_first ps
    | again q =>
      have := trk_again (L := fun j => (R j).len) (q0 := q) (q := q) (p := k.2) (m := T.length) (fun a n ha h => S.fit (q, a) n ha h) 50 k.2 hk (by omega)
      rw [Nat.sub_self] at this
      exact this
    | ahead q =>
      refine ⟨⟨q, [], rfl, rfl⟩, rfl, ?_⟩
      show (if (R (q, k.2)).len.isSome = true then some 0 else none) = _
      rfl
    | not q =>
      refine ⟨⟨q, [], rfl, rfl⟩, rfl, ?_⟩
      show (if (R (q, k.2)).len.isSome = true then none else some 0) = _
      rfl
end Kr
namespace Kr
open PySem PySem.Spec PyProof.Rows L2
/-! plain laws of readings: what is asked, that they are a system -/
/-! ### out looks at L at its asks only -/
theorem row_agree {L L' : Ky → Option Nat} {p : Nat} : ∀ (qs : List Str) (a : Nat), (∀ q ∈ (seqRow L p a qs).1, L' q = L q) → seqRow L' p a qs = seqRow L p a qs
  | [], _, _ => rfl
  | q :: qs, a, h => by
    unfold seqRow at h ⊢
    cases e : L (q, a) with
    | none =>
      rw [e] at h
      rw [h (q, a) (by simp), e]
    | some n =>
      rw [e] at h
      rw [h (q, a) (by simp), e]
      dsimp only
      rw [row_agree qs (a + n) fun z hz => h z (List.mem_cons_of_mem _ hz)]
theorem first_agree {L L' : Ky → Option Nat} {p : Nat} : ∀ (qs : List Str), (∀ q ∈ (seqFirst L p qs).1, L' q = L q) → seqFirst L' p qs = seqFirst L p qs
  | [], _ => rfl
  | q :: qs, h => by
    unfold seqFirst at h ⊢
    cases e : L (q, p) with
    | some n =>
      rw [e] at h
      rw [h (q, p) (by simp), e]
    | none =>
      rw [e] at h
      rw [h (q, p) (by simp), e]
      dsimp only
      rw [first_agree qs fun z hz => h z (List.mem_cons_of_mem _ hz)]
theorem again_agree {L L' : Ky → Option Nat} {p : Nat} {q : Str} : ∀ (f a : Nat), (∀ z ∈ (seqAgain L p q f a).1, L' z = L z) → seqAgain L' p q f a = seqAgain L p q f a
  | 0, _, _ => rfl
  | f + 1, a, h => by
    unfold seqAgain at h ⊢
    cases e : L (q, a) with
    | none =>
      rw [e] at h
      rw [h (q, a) (by simp), e]
    | some n =>
      rw [e] at h
      cases n with
      | zero => rw [h (q, a) (by simp), e]
      | succ n =>
        rw [h (q, a) (by simp), e]
        dsimp only
        rw [again_agree f (a + (n + 1)) fun z hz => h z (List.mem_cons_of_mem _ hz)]
theorem out_agree {G : Str → Option Fm} {T : Str} {L L' : Ky → Option Nat} {k : Ky} (h : ∀ q ∈ (out G T L k).1, L' q = L q) : out G T L' k = out G T L k := by
  unfold out at h ⊢
  cases hG : G k.1 with
  | none => rfl
  | some f =>
    rw [hG] at h
    cases f with
    | none => rfl
    | any => rfl
    | signs z => rfl
    | row ps => exact row_agree ps k.2 h
    | first ps => exact first_agree ps h
    | again q => exact again_agree 50 k.2 h
    | ahead q =>
      dsimp only at h ⊢
      rw [h (q, k.2) (by simp)]
    | not q =>
      dsimp only at h ⊢
      rw [h (q, k.2) (by simp)]
theorem once_asks {ks : List Ky} {q : Ky} (h : q ∈ once [] ks) : q ∈ ks := ((mem_once ks [] q).mp h).resolve_left (by simp)
theorem far_agree {R R' : Ky → Rc} : ∀ (ks : List Ky) (m : Nat), (∀ q ∈ ks, (R' q).reach = (R q).reach) → ks.foldl (fun m q => max m (q.2 + (R' q).reach)) m = ks.foldl (fun m q => max m (q.2 + (R q).reach)) m
  | [], _, _ => rfl
  | q :: ks, m, h => by
    rw [List.foldl_cons, List.foldl_cons, h q List.mem_cons_self]
    exact far_agree ks _ fun z hz => h z (List.mem_cons_of_mem _ hz)
theorem flat_agree {R R' : Ky → Rc} : ∀ (ks : List Ky), (∀ q ∈ ks, (R' q).leans = (R q).leans) → (ks.flatMap fun q => (R' q).leans) = ks.flatMap fun q => (R q).leans
  | [], _ => rfl
  | q :: ks, h => by
    rw [List.flatMap_cons, List.flatMap_cons, h q List.mem_cons_self, flat_agree ks fun z hz => h z (List.mem_cons_of_mem _ hz)]
/-- a record looks at R at its asks only -/
theorem rec_agree {G : Str → Option Fm} {T : Str} {R R' : Ky → Rc} {k : Ky} (h : ∀ q ∈ asksOf G T R k, R' q = R q) : recOf G T R' k = recOf G T R k := by
  have e : out G T (fun j => (R' j).len) k = out G T (fun j => (R j).len) k := out_agree fun q hq => by show (R' q).len = (R q).len; rw [h q hq]
  have ha : ∀ q ∈ once [] (out G T (fun j => (R j).len) k).1, R' q = R q := fun q hq => h q (once_asks hq)
  unfold recOf far
  dsimp only
  rw [e, far_agree _ _ fun q hq => by rw [ha q hq], flat_agree _ fun q hq => by rw [ha q hq]]
/-! ### what is asked lies lower -/
section
variable {G : Str → Option Fm} {T : Str} {E : Str → Bool} {rk : Str → Nat}
/-- what may stand in L below k -/
def GdL (T : Str) (E : Str → Bool) (rk : Str → Nat) (L : Ky → Option Nat) (k : Ky) : Prop := ∀ q : Ky, q.2 ≤ T.length → mu T rk q < mu T rk k → (∀ n, L q = some n → q.2 + n ≤ T.length) ∧ (L q = some 0 → E q.1 = true)
def LowO (T : Str) (E : Str → Bool) (rk : Str → Nat) (k : Ky) (o : List Ky × Option Nat) : Prop := (∀ q ∈ o.1, q.2 ≤ T.length ∧ k.2 ≤ q.2 ∧ mu T rk q < mu T rk k) ∧ ∀ n, o.2 = some n → k.2 + n ≤ T.length
theorem mu_same {k : Ky} {q : Str} (h : rk q < rk k.1) : mu T rk (q, k.2) < mu T rk k := by
  unfold mu
  show (T.length - k.2) * 10 + rk q < _
  omega
theorem mu_far (bd : ∀ x, rk x ≤ 9) {k : Ky} {q : Str} {a : Nat} (h1 : k.2 < a) (h2 : a ≤ T.length) : mu T rk (q, a) < mu T rk k := by
  unfold mu
  show (T.length - a) * 10 + rk q < _
  have := bd q
  omega
theorem row_low (bd : ∀ x, rk x ≤ 9) {L : Ky → Option Nat} {k : Ky} (gd : GdL T E rk L k) : ∀ (qs : List Str) (a : Nat), k.2 ≤ a → a ≤ T.length → (a = k.2 → ∀ q ∈ upTo E qs, rk q < rk k.1) →
    LowO T E rk k (seqRow L k.2 a qs) ∧ ((seqRow L k.2 a qs).2 = some 0 → a = k.2 ∧ qs.all E = true)
  | [], a, h1, h2, _ => by
    refine ⟨⟨by simp [seqRow], fun n hn => ?_⟩, fun h => ⟨?_, rfl⟩⟩
    · have : a - k.2 = n := by simpa [seqRow] using hn
      omega
    · have : a - k.2 = 0 := by simpa [seqRow] using h
      omega
  | q :: qs, a, h1, h2, h3 => by
    have hm : mu T rk (q, a) < mu T rk k := by
      by_cases e : a = k.2
      · subst e
        refine mu_same (h3 rfl q ?_)
        unfold upTo
        split <;> simp
      · exact mu_far bd (by omega) h2
    obtain ⟨g1, g2⟩ := gd (q, a) h2 hm
    unfold seqRow
    cases e : L (q, a) with
    | none =>
      refine ⟨⟨fun z hz => ?_, fun n hn => by cases hn⟩, fun h => by cases h⟩
      rw [List.mem_singleton.mp hz]
      exact ⟨h2, h1, hm⟩
    | some n =>
      have h4 := g1 n e
      obtain ⟨⟨i1, i2⟩, i3⟩ := row_low bd gd qs (a + n) (by omega) h4 (fun ha z hz => by
        have e0 : n = 0 := by omega
        subst e0
        have ea : a = k.2 := by omega
        have eE : E q = true := g2 e
        refine h3 ea z ?_
        unfold upTo
        rw [if_pos eE]
        exact List.mem_cons_of_mem _ hz)
      refine ⟨⟨fun z hz => ?_, i2⟩, fun h => ?_⟩
      · rcases List.mem_cons.mp hz with rfl | hz
        · exact ⟨h2, h1, hm⟩
        · exact i1 z hz
      · obtain ⟨j1, j2⟩ := i3 h
        have e0 : n = 0 := by omega
        subst e0
        refine ⟨by omega, ?_⟩
        rw [List.all_cons, j2, Bool.and_true]
        exact g2 e
theorem first_low {L : Ky → Option Nat} {k : Ky} (gd : GdL T E rk L k) (hk : k.2 ≤ T.length) : ∀ (qs : List Str), (∀ q ∈ qs, rk q < rk k.1) → LowO T E rk k (seqFirst L k.2 qs) ∧ ((seqFirst L k.2 qs).2 = some 0 → qs.any E = true)
  | [], _ => ⟨⟨by simp [seqFirst], fun n hn => by cases hn⟩, fun h => by cases h⟩
  | q :: qs, h3 => by
    have hm : mu T rk (q, k.2) < mu T rk k := mu_same (h3 q List.mem_cons_self)
    obtain ⟨g1, g2⟩ := gd (q, k.2) hk hm
    unfold seqFirst
    cases e : L (q, k.2) with
    | some n =>
      refine ⟨⟨fun z hz => ?_, fun m hm => ?_⟩, fun h => ?_⟩
      · rw [List.mem_singleton.mp hz]
        exact ⟨hk, Nat.le_refl _, hm⟩
      · have : n = m := Option.some.inj hm
        subst this
        exact g1 n e
      · have : n = 0 := Option.some.inj h
        subst this
        rw [List.any_cons, g2 e, Bool.true_or]
    | none =>
      obtain ⟨⟨i1, i2⟩, i3⟩ := first_low gd hk qs fun z hz => h3 z (List.mem_cons_of_mem _ hz)
      refine ⟨⟨fun z hz => ?_, i2⟩, fun h => ?_⟩
      · rcases List.mem_cons.mp hz with rfl | hz
        · exact ⟨hk, Nat.le_refl _, hm⟩
        · exact i1 z hz
      · rw [List.any_cons, i3 h, Bool.or_true]
theorem again_low (bd : ∀ x, rk x ≤ 9) {L : Ky → Option Nat} {k : Ky} {q : Str} (gd : GdL T E rk L k) (hq : rk q < rk k.1) : ∀ (f a : Nat), k.2 ≤ a → a ≤ T.length → LowO T E rk k (seqAgain L k.2 q f a)
  | 0, a, h1, h2 => ⟨by simp [seqAgain], fun n hn => by
    have : a - k.2 = n := Option.some.inj hn
    omega⟩
  | f + 1, a, h1, h2 => by
    have hm : mu T rk (q, a) < mu T rk k := by
      by_cases e : a = k.2
      · subst e
        exact mu_same hq
      · exact mu_far bd (by omega) h2
    obtain ⟨g1, g2⟩ := gd (q, a) h2 hm
    have one : LowO T E rk k ([(q, a)], some (a - k.2)) := ⟨fun z hz => by
      rw [List.mem_singleton.mp hz]
      exact ⟨h2, h1, hm⟩, fun n hn => by
        have : a - k.2 = n := Option.some.inj hn
        omega⟩
    unfold seqAgain
    cases e : L (q, a) with
    | none => exact one
    | some n =>
      cases n with
      | zero => exact one
      | succ n =>
        have h4 := g1 (n + 1) e
        obtain ⟨i1, i2⟩ := again_low bd gd hq f (a + (n + 1)) (by omega) h4
        refine ⟨fun z hz => ?_, i2⟩
        rcases List.mem_cons.mp hz with rfl | hz
        · exact ⟨h2, h1, hm⟩
        · exact i1 z hz
theorem out_low (K : Ranked G E rk) {L : Ky → Option Nat} {k : Ky} (hk : k.2 ≤ T.length) (gd : GdL T E rk L k) : LowO T E rk k (out G T L k) ∧ ((out G T L k).2 = some 0 → E k.1 = true) := by
  unfold out
  cases hG : G k.1 with
  | none => exact ⟨⟨by simp, fun n hn => by cases hn⟩, fun h => by cases h⟩
  | some f =>
    have cl := K.cl k.1 f hG
    have lt := K.lt k.1 f hG
    cases f with
    | none => exact ⟨⟨by simp, fun n hn => by have : 0 = n := Option.some.inj hn; omega⟩, fun _ => cl rfl⟩
    | any =>
      refine ⟨⟨by simp, fun n hn => ?_⟩, fun h => ?_⟩
      · dsimp only at hn
        split at hn
        · have : 1 = n := Option.some.inj hn
          omega
        · cases hn
      · dsimp only at h
        split at h <;> cases h
    | signs z =>
      refine ⟨⟨by simp, fun n hn => ?_⟩, fun h => ?_⟩
      · dsimp only at hn
        split at hn
        · rename_i hs
          have : 1 = n := Option.some.inj hn
          unfold signAt at hs
          cases hc : T.cps[k.2]? with
          | none => rw [hc] at hs; cases hs
          | some c =>
            have h2 : k.2 < T.cps.size := (Array.getElem?_eq_some_iff.mp hc).1
            have : T.length = T.cps.size := rfl
            omega
        · cases hn
      · dsimp only at h
        split at h <;> cases h
    | row ps =>
      obtain ⟨a, b⟩ := row_low K.bd gd ps k.2 (Nat.le_refl _) hk fun _ => lt
      exact ⟨a, fun h => cl (b h).2⟩
    | first ps =>
      obtain ⟨a, b⟩ := first_low gd hk ps lt
      exact ⟨a, fun h => cl (b h)⟩
    | again q => exact ⟨again_low K.bd gd (lt q (by simp [begins, Fm.parts])) 50 k.2 (Nat.le_refl _) hk, fun _ => cl rfl⟩
    | ahead q =>
      refine ⟨⟨fun z hz => ?_, fun n hn => ?_⟩, fun _ => cl rfl⟩
      · rw [List.mem_singleton.mp hz]
        exact ⟨hk, Nat.le_refl _, mu_same (lt q (by simp [begins, Fm.parts]))⟩
      · dsimp only at hn
        split at hn
        · have : 0 = n := Option.some.inj hn
          omega
        · cases hn
    | not q =>
      refine ⟨⟨fun z hz => ?_, fun n hn => ?_⟩, fun _ => cl rfl⟩
      · rw [List.mem_singleton.mp hz]
        exact ⟨hk, Nat.le_refl _, mu_same (lt q (by simp [begins, Fm.parts]))⟩
      · dsimp only at hn
        split at hn
        · cases hn
        · have : 0 = n := Option.some.inj hn
          omega
theorem rd_fuel (K : Ranked G E rk) : ∀ (n : Nat) (k : Ky), k.2 ≤ T.length → mu T rk k < n → ∀ f f', n ≤ f → n ≤ f' → rdF G T f k = rdF G T f' k ∧ (∀ m, (rdF G T f k).len = some m → k.2 + m ≤ T.length) ∧ ((rdF G T f k).len = some 0 → E k.1 = true)
  | 0, _, _, h, _, _, _, _ => absurd h (Nat.not_lt_zero _)
  | n + 1, k, hk, hm, 0, _, hf, _ => absurd hf (by omega)
  | n + 1, k, hk, hm, f + 1, 0, _, hf => absurd hf (by omega)
  | n + 1, k, hk, hm, f + 1, f' + 1, h1, h2 => by
    have gd : GdL T E rk (fun j => (rdF G T f j).len) k := fun q hq hm' => (rd_fuel K n q hq (by omega) f f (by omega) (by omega)).2
    obtain ⟨⟨a, b⟩, c⟩ := out_low K hk gd
    refine ⟨?_, b, c⟩
    refine (rec_agree (R := rdF G T f) (R' := rdF G T f') fun q hq => ?_).symm
    obtain ⟨q1, _, q3⟩ := a q hq
    exact (rd_fuel K n q q1 (by omega) f' f (by omega) (by omega)).1
/-- ranked rules give a system -/
theorem sys_of (K : Ranked G E rk) {D : List Str} (few : D.length ≤ 9) (nm : ∀ x ∈ D, okN x) (dom : ∀ x f, G x = some f → x ∈ D ∧ ∀ q ∈ f.parts, q ∈ D) (ok : ∀ x f, G x = some f → f.ok) (tl : T.length ≤ 7) (tx : okT T) : Sys G T (rdG G T) D rk := by
  have mub : ∀ k, mu T rk k < 80 := fun k => by
    have := K.bd k.1
    unfold mu
    omega
  have eqn : ∀ k : Ky, k.2 ≤ T.length → rdG G T k = recOf G T (rdG G T) k := fun k hk => (rd_fuel K 80 k hk (mub k) 100 101 (by omega) (by omega)).1
  have gd : ∀ k, GdL T E rk (fun j => (rdG G T j).len) k := fun k q hq _ => (rd_fuel K 80 q hq (mub q) 100 100 (by omega) (by omega)).2
  refine ⟨few, nm, dom, ok, K.bd, tl, tx, eqn, fun k hk => (out_low K hk (gd k)).1.1, fun k n hk hn => ?_⟩
  exact (rd_fuel K 80 k hk (mub k) 100 100 (by omega) (by omega)).2.1 n hn
end
end Kr
namespace Kr
open PySem PySem.Spec PyProof.Rows L2
/-! plain laws of readings: behind a put, behind a change of a rule -/
theorem get_lt {xs ys : Array Nat} {i j : Nat} (h : ys[j]? = xs[i]?) : j < ys.size ↔ i < xs.size := by
  rw [← Nat.not_le, ← Nat.not_le, ← Array.getElem?_eq_none_iff, ← Array.getElem?_eq_none_iff, h]
theorem sh_add {a b ls x n : Nat} (h : b ≤ x) : x + n + ls - (b - a) = x + ls - (b - a) + n := by omega
theorem shK_inj {a b ls : Nat} {q r : Ky} (h1 : b ≤ q.2) (h2 : b ≤ r.2) (e : shK a b ls q = shK a b ls r) : q = r := by
  obtain ⟨q1, q2⟩ := q
  obtain ⟨r1, r2⟩ := r
  have e1 : q1 = r1 := congrArg Prod.fst e
  have e2 : q2 + ls - (b - a) = r2 + ls - (b - a) := congrArg Prod.snd e
  have h1' : b ≤ q2 := h1
  have h2' : b ≤ r2 := h2
  have : q2 = r2 := by omega
  rw [e1, this]
section
variable {a b ls : Nat}
theorem row_shift {L L' : Ky → Option Nat} {p : Nat} (hp : b ≤ p) : ∀ (qs : List Str) (x : Nat), p ≤ x → (∀ q ∈ (seqRow L p x qs).1, L' (shK a b ls q) = L q) →
    seqRow L' (p + ls - (b - a)) (x + ls - (b - a)) qs = ((seqRow L p x qs).1.map (shK a b ls), (seqRow L p x qs).2)
  | [], x, hx, _ => by
    unfold seqRow
    have : x + ls - (b - a) - (p + ls - (b - a)) = x - p := by omega
    rw [this]
    rfl
  | q :: qs, x, hx, h => by
    unfold seqRow at h ⊢
    cases e : L (q, x) with
    | none =>
      rw [e] at h
      have h0 : L' (q, x + ls - (b - a)) = L (q, x) := h (q, x) (by simp)
      rw [h0, e]
      rfl
    | some n =>
      rw [e] at h
      have h0 : L' (q, x + ls - (b - a)) = L (q, x) := h (q, x) (by simp)
      rw [h0, e]
      have ih := row_shift hp qs (x + n) (by omega) fun z hz => h z (List.mem_cons_of_mem _ hz)
      rw [sh_add (by omega)] at ih
      dsimp only
      rw [ih]
      rfl
theorem first_shift {L L' : Ky → Option Nat} {p : Nat} : ∀ (qs : List Str), (∀ q ∈ (seqFirst L p qs).1, L' (shK a b ls q) = L q) →
    seqFirst L' (p + ls - (b - a)) qs = ((seqFirst L p qs).1.map (shK a b ls), (seqFirst L p qs).2)
  | [], _ => rfl
  | q :: qs, h => by
    unfold seqFirst at h ⊢
    cases e : L (q, p) with
    | some n =>
      rw [e] at h
      have h0 : L' (q, p + ls - (b - a)) = L (q, p) := h (q, p) (by simp)
      rw [h0, e]
      rfl
    | none =>
      rw [e] at h
      have h0 : L' (q, p + ls - (b - a)) = L (q, p) := h (q, p) (by simp)
      rw [h0, e]
      dsimp only
      rw [first_shift qs fun z hz => h z (List.mem_cons_of_mem _ hz)]
      rfl
theorem again_shift {L L' : Ky → Option Nat} {p : Nat} {q : Str} (hp : b ≤ p) : ∀ (f x : Nat), p ≤ x → (∀ z ∈ (seqAgain L p q f x).1, L' (shK a b ls z) = L z) →
    seqAgain L' (p + ls - (b - a)) q f (x + ls - (b - a)) = ((seqAgain L p q f x).1.map (shK a b ls), (seqAgain L p q f x).2)
  | 0, x, hx, _ => by
    unfold seqAgain
    have : x + ls - (b - a) - (p + ls - (b - a)) = x - p := by omega
    rw [this]
    rfl
  | f + 1, x, hx, h => by
    have es : x + ls - (b - a) - (p + ls - (b - a)) = x - p := by omega
    unfold seqAgain at h ⊢
    cases e : L (q, x) with
    | none =>
      rw [e] at h
      have h0 : L' (q, x + ls - (b - a)) = L (q, x) := h (q, x) (by simp)
      rw [h0, e]
      dsimp only
      rw [es]
      rfl
    | some n =>
      rw [e] at h
      cases n with
      | zero =>
        have h0 : L' (q, x + ls - (b - a)) = L (q, x) := h (q, x) (by simp)
        rw [h0, e]
        dsimp only
        rw [es]
        rfl
      | succ n =>
        have h0 : L' (q, x + ls - (b - a)) = L (q, x) := h (q, x) (by simp)
        rw [h0, e]
        have ih := again_shift hp f (x + (n + 1)) (by omega) fun z hz => h z (List.mem_cons_of_mem _ hz)
        rw [sh_add (by omega)] at ih
        dsimp only
        rw [ih]
        rfl
theorem out_shift {G : Str → Option Fm} {T T' : Str} {L L' : Ky → Option Nat} {k : Ky} (hb : b ≤ k.2) (hs : T'.cps[k.2 + ls - (b - a)]? = T.cps[k.2]?) (h : ∀ q ∈ (out G T L k).1, L' (shK a b ls q) = L q) :
    out G T' L' (shK a b ls k) = ((out G T L k).1.map (shK a b ls), (out G T L k).2) := by
  have e1 : (shK a b ls k).1 = k.1 := rfl
  have e2 : (shK a b ls k).2 = k.2 + ls - (b - a) := rfl
  have hl : (k.2 + ls - (b - a) < T'.length) ↔ k.2 < T.length := by
    exact get_lt hs
  unfold out at h ⊢
  rw [e1, e2]
  cases hG : G k.1 with
  | none => rfl
  | some f =>
    rw [hG] at h
    cases f with
    | none => rfl
    | any =>
      dsimp only
      by_cases c : k.2 < T.length
      · rw [if_pos c, if_pos (hl.mpr c)]
        rfl
      · rw [if_neg c, if_neg fun z => c (hl.mp z)]
        rfl
    | signs z =>
      dsimp only
      have : signAt T' z (k.2 + ls - (b - a)) = signAt T z k.2 := by
        unfold signAt
        rw [hs]
      rw [this]
      rfl
    | row ps => exact row_shift hb ps k.2 (Nat.le_refl _) h
    | first ps => exact first_shift ps h
    | again q => exact again_shift hb 50 k.2 (Nat.le_refl _) h
    | ahead q =>
      dsimp only at h ⊢
      have h0 : L' (q, k.2 + ls - (b - a)) = L (q, k.2) := h (q, k.2) (by simp)
      rw [h0]
      rfl
    | not q =>
      dsimp only at h ⊢
      have h0 : L' (q, k.2 + ls - (b - a)) = L (q, k.2) := h (q, k.2) (by simp)
      rw [h0]
      rfl
theorem once_shift : ∀ (ks acc : List Ky), (∀ q ∈ acc, b ≤ q.2) → (∀ q ∈ ks, b ≤ q.2) → once (acc.map (shK a b ls)) (ks.map (shK a b ls)) = (once acc ks).map (shK a b ls)
  | [], _, _, _ => rfl
  | k :: ks, acc, h1, h2 => by
    have hk := h2 k List.mem_cons_self
    have e : addK (acc.map (shK a b ls)) (shK a b ls k) = (addK acc k).map (shK a b ls) := by
      unfold addK
      by_cases c : k ∈ acc
      · rw [if_pos c, if_pos (List.mem_map.mpr ⟨k, c, rfl⟩)]
      · rw [if_neg c, if_neg, List.map_append]
        · rfl
        · intro z
          obtain ⟨q, hq, e⟩ := List.mem_map.mp z
          exact c (by rw [← shK_inj (h1 q hq) hk e]; exact hq)
    show once (addK (acc.map (shK a b ls)) (shK a b ls k)) (ks.map (shK a b ls)) = (once (addK acc k) ks).map (shK a b ls)
    rw [e]
    refine once_shift ks (addK acc k) (fun q hq => ?_) fun q hq => h2 q (List.mem_cons_of_mem _ hq)
    rcases mem_addK.mp hq with z | z
    · exact h1 q z
    · rw [z]; exact hk
theorem far_shift {R R' : Ky → Rc} : ∀ (ks : List Ky) (m : Nat), b ≤ m → (∀ q ∈ ks, b ≤ q.2 ∧ (R' (shK a b ls q)).reach = (R q).reach) →
    (ks.map (shK a b ls)).foldl (fun m q => max m (q.2 + (R' q).reach)) (m + ls - (b - a)) = ks.foldl (fun m q => max m (q.2 + (R q).reach)) m + ls - (b - a)
  | [], _, _, _ => rfl
  | q :: ks, m, hm, h => by
    obtain ⟨h1, h2⟩ := h q List.mem_cons_self
    rw [List.map_cons, List.foldl_cons, List.foldl_cons, h2]
    have e : max (m + ls - (b - a)) ((shK a b ls q).2 + (R q).reach) = max m (q.2 + (R q).reach) + ls - (b - a) := by
      show max _ (q.2 + ls - (b - a) + _) = _
      omega
    rw [e]
    exact far_shift ks _ (by omega) fun z hz => h z (List.mem_cons_of_mem _ hz)
/-- the record, moved -/
def shR (a b ls : Nat) (r : Rc) : Rc := ⟨r.len, r.reach, r.asked.map (shK a b ls), r.leans⟩
theorem rec_shift {G : Str → Option Fm} {T T' : Str} {R R' : Ky → Rc} {k : Ky} (hb : b ≤ k.2) (hs : T'.cps[k.2 + ls - (b - a)]? = T.cps[k.2]?) (h : ∀ q ∈ asksOf G T R k, b ≤ q.2 ∧ R' (shK a b ls q) = shR a b ls (R q)) :
    recOf G T' R' (shK a b ls k) = shR a b ls (recOf G T R k) := by
  have e : out G T' (fun j => (R' j).len) (shK a b ls k) = ((out G T (fun j => (R j).len) k).1.map (shK a b ls), (out G T (fun j => (R j).len) k).2) := out_shift hb hs fun q hq => by
    show (R' _).len = (R q).len
    rw [(h q hq).2]
    rfl
  have eo : once [] ((out G T (fun j => (R j).len) k).1.map (shK a b ls)) = (once [] (out G T (fun j => (R j).len) k).1).map (shK a b ls) := once_shift _ [] (by simp) fun q hq => (h q hq).1
  have ha : ∀ q ∈ once [] (out G T (fun j => (R j).len) k).1, b ≤ q.2 ∧ R' (shK a b ls q) = shR a b ls (R q) := fun q hq => h q (once_asks hq)
  unfold recOf shR
  dsimp only
  rw [e]
  dsimp only
  rw [eo]
  generalize once [] (out G T (fun j => (R j).len) k).1 = as_ at ha
  have e1 : far R' (shK a b ls k).2 (as_.map (shK a b ls)) - (shK a b ls k).2 = far R k.2 as_ - k.2 := by
    unfold far
    show List.foldl _ (k.2 + ls - (b - a) + 1) _ - (k.2 + ls - (b - a)) = _
    rw [← sh_add hb, far_shift (R := R) as_ (k.2 + 1) (by omega) fun q hq => ⟨(ha q hq).1, by rw [(ha q hq).2]; rfl⟩]
    have := far_ge R k.2 as_ (k.2 + 1)
    omega
  have e2 : ((as_.map (shK a b ls)).flatMap fun q => (R' q).leans) = as_.flatMap fun q => (R q).leans := by
    rw [List.flatMap_map]
    clear e1 eo e
    induction as_ with
    | nil => rfl
    | cons x l ih =>
      rw [List.flatMap_cons, List.flatMap_cons, ih fun q hq => ha q (List.mem_cons_of_mem _ hq), (ha x List.mem_cons_self).2]
      rfl
  rw [e1, e2]
  rfl
end
theorem reach_pos {G : Str → Option Fm} {T : Str} {R : Ky → Rc} {k : Ky} : 1 ≤ (recOf G T R k).reach := by
  have := far_ge R k.2 (once [] (out G T (fun j => (R j).len) k).1) (k.2 + 1)
  show 1 ≤ far R k.2 _ - k.2
  unfold far
  omega
theorem far_in (R : Ky → Rc) : ∀ (ks : List Ky) (m : Nat) (q : Ky), q ∈ ks → q.2 + (R q).reach ≤ ks.foldl (fun m q => max m (q.2 + (R q).reach)) m
  | [], _, _, h => absurd h (by simp)
  | x :: ks, m, q, h => by
    rw [List.foldl_cons]
    rcases List.mem_cons.mp h with rfl | h
    · exact Nat.le_trans (Nat.le_max_right _ _) (far_ge R 0 ks _)
    · exact far_in R ks _ q h
theorem reach_in {G : Str → Option Fm} {T : Str} {R : Ky → Rc} {k q : Ky} (h : q ∈ asksOf G T R k) : q.2 + (R q).reach ≤ k.2 + (recOf G T R k).reach := by
  have hq : q ∈ once [] (out G T (fun j => (R j).len) k).1 := (mem_once _ _ _).mpr (.inr h)
  have h1 := far_in R _ (k.2 + 1) q hq
  have h2 := far_ge R k.2 (once [] (out G T (fun j => (R j).len) k).1) (k.2 + 1)
  show _ ≤ k.2 + (far R k.2 _ - k.2)
  unfold far
  omega
theorem leans_in {G : Str → Option Fm} {T : Str} {R : Ky → Rc} {k q : Ky} (h : q ∈ asksOf G T R k) {z : Str} (hz : z ∈ (R q).leans) : z ∈ (recOf G T R k).leans := by
  have hq : q ∈ once [] (out G T (fun j => (R j).len) k).1 := (mem_once _ _ _).mpr (.inr h)
  exact (canon_mem _ _).mpr (List.mem_cons_of_mem _ (List.mem_flatMap.mpr ⟨q, hq, hz⟩))
theorem leans_own {G : Str → Option Fm} {T : Str} {R : Ky → Rc} {k : Ky} : k.1 ∈ (recOf G T R k).leans := (canon_mem _ _).mpr List.mem_cons_self
theorem out_sign {G : Str → Option Fm} {T T' : Str} {L : Ky → Option Nat} {k : Ky} (hs : T'.cps[k.2]? = T.cps[k.2]?) : out G T' L k = out G T L k := by
  have hl : (k.2 < T'.length) ↔ k.2 < T.length := by
    exact get_lt hs
  unfold out
  cases hG : G k.1 with
  | none => rfl
  | some f =>
    cases f with
    | any =>
      dsimp only
      by_cases c : k.2 < T.length
      · rw [if_pos c, if_pos (hl.mpr c)]
      · rw [if_neg c, if_neg fun z => c (hl.mp z)]
    | signs z =>
      dsimp only
      have : signAt T' z k.2 = signAt T z k.2 := by
        unfold signAt
        rw [hs]
      rw [this]
    | _ => rfl
theorem rec_sign {G : Str → Option Fm} {T T' : Str} {R : Ky → Rc} {k : Ky} (hs : T'.cps[k.2]? = T.cps[k.2]?) : recOf G T' R k = recOf G T R k := by
  unfold recOf
  rw [out_sign hs]
section
variable {G G' : Str → Option Fm} {T T' : Str} {R R' : Ky → Rc} {D D' : List Str} {rk rk' : Str → Nat}
/-- what ends ahead of a stays -/
theorem stays_ahead (S : Sys G T R D rk) (S' : Sys G T' R' D' rk') {a : Nat} (ha : a ≤ T.length) (ha' : a ≤ T'.length) (hs : ∀ i, i < a → T'.cps[i]? = T.cps[i]?) : ∀ (n : Nat) (k : Ky), mu T rk k < n → k.2 ≤ T.length → k.2 + (R k).reach ≤ a → R' k = R k
  | 0, _, h, _, _ => absurd h (Nat.not_lt_zero _)
  | n + 1, k, h, hk, hr => by
    have e := S.eqn k hk
    have r1 : 1 ≤ (R k).reach := by rw [e]; exact reach_pos
    have e' := S'.eqn k (by omega)
    rw [e', e, rec_sign (hs k.2 (by omega))]
    refine rec_agree fun q hq => ?_
    obtain ⟨q1, q2, q3⟩ := S.less k hk q hq
    have := reach_in hq
    rw [← e] at this
    exact stays_ahead S S' ha ha' hs n q (by omega) q1 (by omega)
/-- what begins at b or behind it moves -/
theorem stays_behind (S : Sys G T R D rk) (S' : Sys G T' R' D' rk') {a b ls : Nat} (hl : T'.length + (b - a) = T.length + ls) (hs : ∀ i, b ≤ i → T'.cps[i + ls - (b - a)]? = T.cps[i]?) : ∀ (n : Nat) (k : Ky), mu T rk k < n → k.2 ≤ T.length → b ≤ k.2 → R' (shK a b ls k) = shR a b ls (R k)
  | 0, _, h, _, _ => absurd h (Nat.not_lt_zero _)
  | n + 1, k, h, hk, hb => by
    have e := S.eqn k hk
    have e' := S'.eqn (shK a b ls k) (by show k.2 + ls - (b - a) ≤ _; omega)
    rw [e', e]
    refine rec_shift hb (hs k.2 hb) fun q hq => ?_
    obtain ⟨q1, q2, q3⟩ := S.less k hk q hq
    exact ⟨by omega, stays_behind S S' hl hs n q (by omega) q1 (by omega)⟩
/-- what does not lean on x stays -/
theorem stays_rule {x : Str} {o : Option Fm} (S : Sys G T R D rk) (S' : Sys (chG G x o) T R' D' rk') : ∀ (n : Nat) (k : Ky), mu T rk k < n → k.2 ≤ T.length → x ∉ (R k).leans → R' k = R k
  | 0, _, h, _, _ => absurd h (Nat.not_lt_zero _)
  | n + 1, k, h, hk, hx => by
    have e := S.eqn k hk
    have e' := S'.eqn k hk
    have hne : k.1 ≠ x := fun z => hx (by rw [e, ← z]; exact leans_own)
    have eG : ∀ R0 : Ky → Rc, recOf (chG G x o) T R0 k = recOf G T R0 k := fun R0 => by
      unfold recOf out
      rw [show chG G x o k.1 = G k.1 from if_neg hne]
    rw [e', e, eG]
    refine rec_agree fun q hq => ?_
    obtain ⟨q1, q2, q3⟩ := S.less k hk q hq
    exact stays_rule S S' n q (by omega) q1 fun z => hx (by rw [e]; exact leans_in hq z)
end
/-! ### drawn rules are ranked -/
theorem ranked_of {names : List Str} {G : Str → Option Fm} (few : names.length ≤ 7) (nd : names.Nodup) (no : ∀ x, x ∉ names → G x = none) (ok : ∀ j, j < names.length → OkAt names G j) (nb : nobody names ∉ names) : ∃ E rk, Ranked G E rk := by
  have idx : ∀ {j : Nat} {x : Str}, names[j]? = some x → names.idxOf x = j := fun {j x} h => by
    obtain ⟨h1, h2⟩ := List.getElem?_eq_some_iff.mp h
    have hm : x ∈ names := List.mem_of_getElem? h
    have hl := List.idxOf_lt_length_iff.mpr hm
    have h3 : names[names.idxOf x]? = some x := by rw [List.getElem?_eq_getElem hl, List.getElem_idxOf hl]
    exact ((List.getElem?_inj h1 nd).mp (h.trans h3.symm)).symm
  refine ⟨fun x => match G x with
    | some f => !f.leaf
    | none => false, fun x => names.length - names.idxOf x, fun x => by omega, fun x f hf hm => ?_, fun x f hf q hq => ?_⟩
  · show (match G x with | some f => !f.leaf | none => false) = true
    rw [hf]
    cases f <;> first | rfl | cases hm
  · by_cases hx : x ∈ names
    · have hj : names.idxOf x < names.length := List.idxOf_lt_length_iff.mpr hx
      obtain ⟨x', f', e1, e2, e3, e4⟩ := ok _ hj
      have hg : names[names.idxOf x]? = some x := by
        rw [List.getElem?_eq_getElem hj, List.getElem_idxOf hj]
      obtain rfl : x = x' := Option.some.inj (hg.symm.trans e1)
      obtain rfl : f = f' := Option.some.inj (hf.symm.trans e2)
      have low : ∀ q, q ∈ names.drop (names.idxOf x + 1) ∨ q = nobody names → names.length - names.idxOf q < names.length - names.idxOf x := fun q hq => by
        rcases hq with h | h
        · obtain ⟨i, hi⟩ := List.mem_iff_getElem?.mp h
          rw [List.getElem?_drop] at hi
          have := idx hi
          omega
        · have : names.idxOf q = names.length := List.idxOf_eq_length (by rw [h]; exact nb)
          omega
      show names.length - names.idxOf q < names.length - names.idxOf x
      rcases e4 with c | c | ⟨lf, more, rfl, c1, ⟨g, c2, c3⟩, c4⟩
      · have hnil : ∀ E0, begins E0 f = [] := fun E0 => by cases f <;> first | rfl | cases c
        rw [hnil] at hq
        cases hq
      · refine low q (c q ?_)
        cases f with
        | row ps =>
          have sub : ∀ (E : Str → Bool) (ps : List Str) q, q ∈ upTo E ps → q ∈ ps := by
            intro E ps
            induction ps with
            | nil => intro q h; cases h
            | cons p ps ih =>
              intro q h
              unfold upTo at h
              split at h
              · rcases List.mem_cons.mp h with z | z
                · exact List.mem_cons.mpr (.inl z)
                · exact List.mem_cons.mpr (.inr (ih q z))
              · exact List.mem_cons.mpr (.inl (List.mem_singleton.mp h))
          exact sub _ ps q hq
        | _ => exact hq
      · have hq' : q ∈ upTo (fun x => match G x with | some f => !f.leaf | none => false) (lf :: more) := hq
        have hE : ¬ (match G lf with | some f => !f.leaf | none => false) = true := by rw [c2]; show ¬ (!g.leaf) = true; rw [c3]; exact Bool.false_ne_true
        unfold upTo at hq'
        rw [if_neg hE] at hq'
        have : q = lf := List.mem_singleton.mp hq'
        exact low q (.inl (by rw [this]; exact c1))
    · rw [no x hx] at hf
      cases hf
end Kr
namespace Kr
open PySem PySem.Spec PyProof.Rows L2
/-! plain laws of rows -/
theorem num_same : ∀ (xs ys : List Rw), xs.Pairwise (fun a b => a.num < b.num) → ys.Pairwise (fun a b => a.num < b.num) → (∀ z, z ∈ xs ↔ z ∈ ys) → xs = ys
  | [], [], _, _, _ => rfl
  | [], y :: ys, _, _, h => by have := (h y).mpr List.mem_cons_self; cases this
  | x :: xs, [], _, _, h => by have := (h x).mp List.mem_cons_self; cases this
  | x :: xs, y :: ys, hx, hy, h => by
    obtain ⟨x1, x2⟩ := List.pairwise_cons.mp hx
    obtain ⟨y1, y2⟩ := List.pairwise_cons.mp hy
    have e : x = y := by
      rcases List.mem_cons.mp ((h x).mp List.mem_cons_self) with z | z
      · exact z
      · rcases List.mem_cons.mp ((h y).mpr List.mem_cons_self) with q | q
        · exact q.symm
        · have a1 := y1 x z
          have a2 := x1 y q
          omega
    subst e
    congr 1
    refine num_same xs ys x2 y2 fun z => ⟨fun hz => ?_, fun hz => ?_⟩
    · rcases List.mem_cons.mp ((h z).mp (List.mem_cons_of_mem _ hz)) with q | q
      · have := x1 z hz
        rw [q] at this
        omega
      · exact q
    · rcases List.mem_cons.mp ((h z).mpr (List.mem_cons_of_mem _ hz)) with q | q
      · have := y1 z hz
        rw [q] at this
        omega
      · exact q
/-- the rows of a table whose keys were made in this order -/
def rowsL (R : Ky → Rc) (ks : List Ky) : List Rw := ks.map (rowOf R fun q => ks.idxOf q)
theorem rowsL_key {R : Ky → Rc} {ks : List Ky} : (rowsL R ks).map (·.key) = ks := by
  unfold rowsL
  rw [List.map_map]
  exact List.map_id' ks
theorem idx_at {ks : List Ky} (nd : ks.Nodup) {j : Nat} {q : Ky} (h : ks[j]? = some q) : ks.idxOf q = j := by
  obtain ⟨h1, h2⟩ := List.getElem?_eq_some_iff.mp h
  have hm : q ∈ ks := List.mem_of_getElem? h
  have hl := List.idxOf_lt_length_iff.mpr hm
  have h3 : ks[ks.idxOf q]? = some q := by rw [List.getElem?_eq_getElem hl, List.getElem_idxOf hl]
  exact ((List.getElem?_inj h1 nd).mp (h.trans h3.symm)).symm
theorem rowsL_pw {R : Ky → Rc} {ks : List Ky} (nd : ks.Nodup) : (rowsL R ks).Pairwise fun a b => a.num < b.num := by
  rw [List.pairwise_iff_getElem]
  intro i j hi hj hij
  unfold rowsL at hi hj ⊢
  rw [List.length_map] at hi hj
  rw [List.getElem_map, List.getElem_map]
  show ks.idxOf _ < ks.idxOf _
  rw [idx_at nd (List.getElem?_eq_getElem hi), idx_at nd (List.getElem?_eq_getElem hj)]
  exact hij
def domL (D : List Str) (n : Nat) : List Ky := D.flatMap fun x => (List.range (n + 1)).map fun p => (x, p)
theorem domL_mem {D : List Str} {n : Nat} {k : Ky} : k ∈ domL D n ↔ k.1 ∈ D ∧ k.2 ≤ n := by
  unfold domL
  rw [List.mem_flatMap]
  constructor
  · rintro ⟨x, hx, hk⟩
    obtain ⟨p, hp, rfl⟩ := List.mem_map.mp hk
    have := List.mem_range.mp hp
    exact ⟨hx, by show p ≤ n; omega⟩
  · rintro ⟨h1, h2⟩
    exact ⟨k.1, h1, List.mem_map.mpr ⟨k.2, List.mem_range.mpr (by omega), rfl⟩⟩
theorem domL_len {D : List Str} {n : Nat} : (domL D n).length = D.length * (n + 1) := by
  unfold domL
  induction D with
  | nil => simp
  | cons x D ih => rw [List.flatMap_cons, List.length_append, ih, List.length_map, List.length_range, List.length_cons, Nat.succ_mul, Nat.add_comm]
theorem keys_few {D : List Str} {T : Str} {ks : List Ky} {m n : Nat} (nd : ks.Nodup) (h : ∀ k ∈ ks, InDom D T k) (hD : D.length ≤ m) (hT : T.length ≤ n) : ks.length ≤ m * (n + 1) := by
  have h1 := nodup_lenG ks (domL D T.length) nd fun k hk => domL_mem.mpr (h k hk)
  rw [domL_len] at h1
  exact Nat.le_trans h1 (Nat.mul_le_mul hD (by omega))
theorem rowsL_ok {R : Ky → Rc} {ks : List Ky} {D : List Str} {T : Str} (nd : ks.Nodup) (h : ∀ k ∈ ks, InDom D T k) (all : ∀ k, InDom D T k → k ∈ ks) (few : ks.length ≤ 72) : RowsOk T R D (rowsL R ks) := by
  refine ⟨fun r hr => ?_, by rw [rowsL_key]; exact nd, ?_, fun k hk => by rw [rowsL_key]; exact all k hk, by unfold rowsL; rw [List.length_map]; exact few⟩
  · obtain ⟨q, hq, rfl⟩ := List.mem_map.mp hr
    exact ⟨h q hq, rfl, rfl, rfl⟩
  · unfold List.Nodup
    rw [List.pairwise_map]
    exact (rowsL_pw nd).imp fun {a b} h => Nat.ne_of_lt h
theorem filterMap_pw {α β : Type} {P : α → α → Prop} {Q : β → β → Prop} (f : α → Option β) (h : ∀ x y x' y', P x y → f x = some x' → f y = some y' → Q x' y') : ∀ {l : List α}, l.Pairwise P → (l.filterMap f).Pairwise Q
  | [], _ => List.Pairwise.nil
  | x :: l, hp => by
    obtain ⟨h1, h2⟩ := List.pairwise_cons.mp hp
    cases e : f x with
    | none =>
      rw [List.filterMap_cons_none e]
      exact filterMap_pw f h h2
    | some x' =>
      rw [List.filterMap_cons_some e]
      refine List.pairwise_cons.mpr ⟨fun y' hy => ?_, filterMap_pw f h h2⟩
      obtain ⟨y, hy1, hy2⟩ := List.mem_filterMap.mp hy
      exact h x y x' y' (h1 y hy1) e hy2
/-- where a put leaves a row -/
def mvRw (a b ls : Nat) (r : Rw) : Option Rw := if r.key.2 + r.reach ≤ a then some r else if b ≤ r.key.2 then some ⟨r.num, shK a b ls r.key, r.len, r.reach, r.leans⟩ else none
theorem mvRw_num {a b ls : Nat} {r r' : Rw} (h : mvRw a b ls r = some r') : r'.num = r.num := by
  unfold mvRw at h
  split at h
  · cases h; rfl
  · split at h
    · cases h; rfl
    · cases h
theorem mv_key {R : Ky → Rc} {a b ls : Nat} {num : Ky → Nat} {q : Ky} : (mvRw a b ls (rowOf R num q)).map (·.key) = mvK R a b ls q := by
  unfold mvRw mvK
  show Option.map _ (if q.2 + (R q).reach ≤ a then _ else _) = _
  split
  · rfl
  · show Option.map _ (if b ≤ q.2 then _ else _) = _
    split <;> rfl
theorem mvK_inj {R : Ky → Rc} {a b ls : Nat} (hab : a ≤ b) {q r x : Ky} (hq : 1 ≤ (R q).reach) (hr : 1 ≤ (R r).reach) (h1 : mvK R a b ls q = some x) (h2 : mvK R a b ls r = some x) : q = r := by
  unfold mvK at h1 h2
  split at h1
  · rename_i c1
    split at h2
    · cases h1; cases h2; rfl
    · rename_i c2
      split at h2
      · rename_i c3
        cases h1
        have e : (shK a b ls r).2 = q.2 := congrArg Prod.snd (Option.some.inj h2)
        have e2 : r.2 + ls - (b - a) = q.2 := e
        omega
      · cases h2
  · rename_i c1
    split at h1
    · rename_i c3
      split at h2
      · rename_i c2
        cases h2
        have e : (shK a b ls q).2 = r.2 := congrArg Prod.snd (Option.some.inj h1)
        have e2 : q.2 + ls - (b - a) = r.2 := e
        omega
      · split at h2
        · rename_i c4
          exact shK_inj c3 c4 (Option.some.inj (h1.trans h2.symm))
        · cases h2
    · cases h1
theorem mvK_nodup {R : Ky → Rc} {a b ls : Nat} (hab : a ≤ b) {tab : List Ky} (nd : tab.Nodup) (hr : ∀ q ∈ tab, 1 ≤ (R q).reach) : (tab.filterMap (mvK R a b ls)).Nodup := by
  refine filterMap_pw (P := fun x y => x ∈ tab ∧ y ∈ tab ∧ x ≠ y) (Q := fun x y => x ≠ y) (mvK R a b ls) (fun x y x' y' ⟨hx, hy, hn⟩ e1 e2 e => ?_) ?_
  · rw [← e] at e2
    exact hn (mvK_inj hab (hr x hx) (hr y hy) e1 e2)
  · exact List.Pairwise.imp_of_mem (fun {x y} hx hy h => ⟨hx, hy, h⟩) nd
/-- the rows that are due behind a put -/
def duePut (a b ls : Nat) (rs : List Rw) : List Rw := rs.filterMap (mvRw a b ls)
theorem duePut_pw {a b ls : Nat} {rs : List Rw} (h : rs.Pairwise fun a b => a.num < b.num) : (duePut a b ls rs).Pairwise fun a b => a.num < b.num :=
  filterMap_pw _ (fun _ _ _ _ h e1 e2 => by rw [mvRw_num e1, mvRw_num e2]; exact h) h
theorem duePut_key {R : Ky → Rc} {a b ls : Nat} {ks : List Ky} : (duePut a b ls (rowsL R ks)).map (·.key) = ks.filterMap (mvK R a b ls) := by
  unfold duePut rowsL
  rw [List.filterMap_map, List.map_filterMap]
  congr 1
  funext q
  exact mv_key
section
variable {G : Str → Option Fm} {T T' : Str} {R R' : Ky → Rc} {D D' : List Str} {rk rk' : Str → Nat} {a b ls : Nat}
/-- what a put must leave -/
structure PutOk (T T' : Str) (a b ls : Nat) : Prop where
  ab : a ≤ b
  bT : b ≤ T.length
  len : T'.length + (b - a) = T.length + ls
  pre : ∀ i, i < a → T'.cps[i]? = T.cps[i]?
  post : ∀ i, b ≤ i → T'.cps[i + ls - (b - a)]? = T.cps[i]?
theorem put_row (S : Sys G T R D rk) (S' : Sys G T' R' D' rk') (P : PutOk T T' a b ls) {num : Ky → Nat} {q : Ky} (hq : q.2 ≤ T.length) {r : Rw} (h : mvRw a b ls (rowOf R num q) = some r) :
    r.len = (R' r.key).len ∧ r.reach = (R' r.key).reach ∧ r.leans = (R' r.key).leans ∧ r.num = num q ∧ r.key.2 ≤ T'.length ∧ r.key.1 = q.1 := by
  have ab := P.ab
  have bT := P.bT
  have hl := P.len
  have r1 : 1 ≤ (R q).reach := by rw [S.eqn q hq]; exact reach_pos
  unfold mvRw at h
  split at h
  · rename_i c
    cases h
    have c' : q.2 + (R q).reach ≤ a := c
    have e := stays_ahead S S' (a := a) (by omega) (by omega) P.pre _ q (Nat.lt_succ_self _) hq c'
    refine ⟨?_, ?_, ?_, rfl, ?_, rfl⟩
    · show _ = (R' q).len
      rw [e]; rfl
    · show _ = (R' q).reach
      rw [e]; rfl
    · show _ = (R' q).leans
      rw [e]; rfl
    · show q.2 ≤ _
      omega
  · split at h
    · rename_i c
      cases h
      have c' : b ≤ q.2 := c
      have e := stays_behind S S' P.len P.post _ q (Nat.lt_succ_self _) hq c'
      refine ⟨?_, ?_, ?_, rfl, ?_, rfl⟩
      · show _ = (R' (shK a b ls q)).len
        rw [e]; rfl
      · show _ = (R' (shK a b ls q)).reach
        rw [e]; rfl
      · show _ = (R' (shK a b ls q)).leans
        rw [e]; rfl
      · show q.2 + ls - (b - a) ≤ _
        omega
    · cases h
/-- what is due is what the reader keeps -/
theorem put_due (S : Sys G T R D rk) (S' : Sys G T' R' D' rk') (P : PutOk T T' a b ls) {ks tab : List Ky} (nd : ks.Nodup) (hk : ∀ q ∈ ks, q.2 ≤ T.length) (same : ∀ x, x ∈ tab ↔ x ∈ ks) {num' : Ky → Nat}
    (hn : ∀ r ∈ duePut a b ls (rowsL R ks), num' r.key = r.num) {rs : List Rw} (pw : rs.Pairwise fun a b => a.num < b.num) (hm : ∀ r, r ∈ rs ↔ ∃ q ∈ tab.filterMap (mvK R a b ls), r = rowOf R' num' q) : rs = duePut a b ls (rowsL R ks) := by
  refine num_same _ _ pw (duePut_pw (rowsL_pw nd)) fun r => ?_
  have own : ∀ q ∈ ks, ∀ r, mvRw a b ls (rowOf R (fun q => ks.idxOf q) q) = some r → r = rowOf R' num' r.key ∧ mvK R a b ls q = some r.key := fun q hq r h => by
    obtain ⟨h1, h2, h3, _⟩ := put_row S S' P (hk q hq) h
    have hr : r ∈ duePut a b ls (rowsL R ks) := List.mem_filterMap.mpr ⟨_, List.mem_map.mpr ⟨q, hq, rfl⟩, h⟩
    refine ⟨?_, ?_⟩
    · unfold rowOf
      rw [hn r hr, ← h1, ← h2, ← h3]
    · have := mv_key (R := R) (a := a) (b := b) (ls := ls) (num := fun q => ks.idxOf q) (q := q)
      rw [h] at this
      exact this.symm
  rw [hm]
  constructor
  · rintro ⟨q', hq', rfl⟩
    obtain ⟨q, hq, e⟩ := List.mem_filterMap.mp hq'
    have hq := (same q).mp hq
    have e2 := mv_key (R := R) (a := a) (b := b) (ls := ls) (num := fun q => ks.idxOf q) (q := q)
    rw [e] at e2
    obtain ⟨r, hr, hk'⟩ := Option.map_eq_some_iff.mp e2
    have o := (own q hq r hr).1
    rw [hk'] at o
    rw [← o]
    exact List.mem_filterMap.mpr ⟨_, List.mem_map.mpr ⟨q, hq, rfl⟩, hr⟩
  · intro h
    obtain ⟨r0, h0, hr⟩ := List.mem_filterMap.mp h
    obtain ⟨q, hq, rfl⟩ := List.mem_map.mp h0
    obtain ⟨o1, o2⟩ := own q hq r hr
    exact ⟨r.key, List.mem_filterMap.mpr ⟨q, (same q).mpr hq, o2⟩, o1⟩
end
theorem rule_due {R : Ky → Rc} {ks tab : List Ky} {x : Str} (nd : ks.Nodup) (same : ∀ x, x ∈ tab ↔ x ∈ ks) {num : Ky → Nat} (hn : ∀ q ∈ ks, num q = ks.idxOf q) {rs : List Rw} (pw : rs.Pairwise fun a b => a.num < b.num)
    (hm : ∀ r, r ∈ rs ↔ ∃ q ∈ tab.filter (fun q => decide (q ∉ tabX R tab x)), r = rowOf R num q) : rs = (rowsL R ks).filter fun r => decide (x ∉ r.leans) := by
  refine num_same _ _ pw ((rowsL_pw nd).filter _) fun r => ?_
  rw [hm, List.mem_filter]
  unfold rowsL tabX
  constructor
  · rintro ⟨q, hq, rfl⟩
    obtain ⟨h1, h2⟩ := List.mem_filter.mp hq
    have h2 := of_decide_eq_true h2
    refine ⟨List.mem_map.mpr ⟨q, (same q).mp h1, ?_⟩, decide_eq_true fun z => h2 (List.mem_filter.mpr ⟨h1, decide_eq_true z⟩)⟩
    unfold rowOf
    rw [hn q ((same q).mp h1)]
  · rintro ⟨h1, h2⟩
    obtain ⟨q, hq, rfl⟩ := List.mem_map.mp h1
    have h2 : x ∉ (R q).leans := of_decide_eq_true h2
    refine ⟨q, List.mem_filter.mpr ⟨(same q).mpr hq, decide_eq_true fun z => h2 (of_decide_eq_true (List.mem_filter.mp z).2)⟩, ?_⟩
    unfold rowOf
    rw [hn q hq]
theorem numOf_rowsL {R : Ky → Rc} {ks : List Ky} (nd : ks.Nodup) {q : Ky} (hq : q ∈ ks) : numOf (rowsL R ks) q = ks.idxOf q := by
  have h : rowOf R (fun q => ks.idxOf q) q ∈ rowsL R ks := List.mem_map.mpr ⟨q, hq, rfl⟩
  exact numOf_in (r := rowOf R (fun q => ks.idxOf q) q) (by rw [rowsL_key]; exact nd) h
end Kr
namespace Kr
open PySem PySem.Spec PyProof.Rows L2
theorem nobody_ok {names : List Str} (h : names.length ≤ 8) : nobody names ∉ names ∧ okN (nobody names) := by
  obtain ⟨_, _, h1, h2⟩ := nobody_of h
  exact ⟨h1, h2⟩
/-! the drawn rules: names at hand, a system -/
theorem okAt_dom {names : List Str} {G : Str → Option Fm} (no : ∀ x, x ∉ names → G x = none) (ok : ∀ j, j < names.length → OkAt names G j) (nd : names.Nodup) : ∀ x f, G x = some f → x ∈ names ∧ f.ok ∧ ∀ q ∈ f.parts, q ∈ names ++ [nobody names] := by
  intro x f hf
  by_cases hx : x ∈ names
  · refine ⟨hx, ?_⟩
    obtain ⟨j, hj⟩ := List.mem_iff_getElem?.mp hx
    obtain ⟨x', f', e1, e2, e3, e4⟩ := ok j (List.getElem?_eq_some_iff.mp hj).1
    obtain rfl : x = x' := Option.some.inj (hj.symm.trans e1)
    obtain rfl : f = f' := Option.some.inj (hf.symm.trans e2)
    refine ⟨e3, fun q hq => ?_⟩
    rcases e4 with c | c | ⟨lf, more, rfl, c1, _, c4⟩
    · have hnil : f.parts = [] := by cases f <;> first | rfl | cases c
      rw [hnil] at hq
      cases hq
    · rcases c q hq with z | z
      · exact List.mem_append.mpr (.inl (List.mem_of_mem_drop z))
      · exact List.mem_append.mpr (.inr (List.mem_singleton.mpr z))
    · rcases List.mem_cons.mp hq with z | z
      · rw [z]
        exact List.mem_append.mpr (.inl (List.mem_of_mem_drop c1))
      · exact List.mem_append.mpr (.inl (c4 q z))
  · rw [no x hx] at hf
    cases hf
/-- the names at hand -/
abbrev domN (names : List Str) : List Str := names ++ [nobody names]
theorem domN_ok {names : List Str} (few : names.length ≤ 7) (nm : ∀ x ∈ names, okN x) : (domN names).length ≤ 8 ∧ ∀ x ∈ domN names, okN x := by
  obtain ⟨h1, h2⟩ := nobody_ok (names := names) (by omega)
  refine ⟨by show (names ++ [nobody names]).length ≤ 8; rw [List.length_append, List.length_singleton]; omega, fun x hx => ?_⟩
  rcases List.mem_append.mp hx with z | z
  · exact nm x z
  · rw [List.mem_singleton.mp z]
    exact h2
/-- ranked rules over these names -/
theorem sys_world {names : List Str} {G : Str → Option Fm} {E : Str → Bool} {rk : Str → Nat} {T : Str} (few : names.length ≤ 7) (nm : ∀ x ∈ names, okN x) (K : Ranked G E rk) (dom : ∀ x f, G x = some f → x ∈ domN names ∧ f.ok ∧ ∀ q ∈ f.parts, q ∈ domN names) (tl : T.length ≤ 7) (tx : okT T) : Sys G T (rdG G T) (domN names) rk :=
  let ⟨h1, h2⟩ := domN_ok few nm
  sys_of K (by omega) h2 (fun x f h => ⟨(dom x f h).1, (dom x f h).2.2⟩) (fun x f h => (dom x f h).2.1) tl tx
theorem chG_dom {names : List Str} {G : Str → Option Fm} {x : Str} {o : Option Fm} (ho : o = none ∨ o = some .any) (hx : x ∈ domN names) (dom : ∀ x f, G x = some f → x ∈ domN names ∧ f.ok ∧ ∀ q ∈ f.parts, q ∈ domN names) : ∀ y f, chG G x o y = some f → y ∈ domN names ∧ f.ok ∧ ∀ q ∈ f.parts, q ∈ domN names := by
  intro y f h
  unfold chG at h
  split at h
  · rename_i e
    rcases ho with z | z
    · rw [z] at h; cases h
    · rw [z] at h
      cases h
      exact ⟨by rw [e]; exact hx, trivial, by simp [Fm.parts]⟩
  · exact dom y f h
/-- no rings in a book of ranked rules -/
theorem noLoop_of {G : Str → Option Fm} {E : Str → Bool} {rk : Str → Nat} (K : Ranked G E rk) {bs : List (Str × Fm)} (h : ∀ b ∈ bs, G b.1 = some b.2) : NoLoop bs :=
  ⟨E, rk, fun b hb => K.cl _ _ (h b hb), fun b hb q hq _ => K.lt _ _ (h b hb) q hq⟩
end Kr
/-! keys as data -/
namespace Kr
open PySem PySem.Spec PyProof.Rows L2
def keyD (k : Ky) : PyData := .tuple [.str k.1, .int (k.2 : Nat)]
theorem key_eqv (a b : Ky) : PyData.eqv (keyD a) (keyD b) = decide (a = b) := by
  obtain ⟨a1, a2⟩ := a
  obtain ⟨b1, b2⟩ := b
  by_cases h1 : a1 = b1
  · by_cases h2 : a2 = b2
    · subst h1
      subst h2
      simp [keyD, PyData.eqv, PyData.eqvAll]
    · have : ¬ ((a2 : Nat) : Int) = ((b2 : Nat) : Int) := by omega
      simp [keyD, PyData.eqv, PyData.eqvAll, h1, h2, this]
  · simp [keyD, PyData.eqv, PyData.eqvAll, h1]
theorem key_in (ks : List Ky) (q : Ky) : ((ks.map keyD).any fun z => PyData.eqv z (keyD q)) = decide (q ∈ ks) := by
  rw [List.any_map]
  induction ks with
  | nil => simp
  | cons k ks ih =>
    rw [List.any_cons, ih]
    show (PyData.eqv (keyD k) (keyD q) || _) = _
    rw [key_eqv]
    by_cases e : k = q
    · subst e; simp
    · have e' : ¬ q = k := fun h => e h.symm
      simp [e, e']
theorem key_lay {k : Ky} (h : okN k.1) : (keyD k).canLay0 = true ∧ (keyD k).depth ≤ 1 := by
  refine ⟨lay_all fun x hx => ?_, Nat.succ_le_succ (dep_all fun x hx => ?_)⟩
  · simp at hx
    rcases hx with rfl | rfl
    · exact okN_strOk h
    · rfl
  · simp at hx
    rcases hx with rfl | rfl <;> exact Nat.le_refl _
theorem keys_lay {ks : List Ky} (h : ∀ k ∈ ks, okN k.1) : (PyData.list (ks.map keyD)).canLay0 = true ∧ (PyData.list (ks.map keyD)).depth ≤ 2 := by
  refine ⟨lay_all fun x hx => ?_, Nat.succ_le_succ (dep_all fun x hx => ?_)⟩
  · obtain ⟨k, hk, rfl⟩ := List.mem_map.mp hx
    exact (key_lay (h k hk)).1
  · obtain ⟨k, hk, rfl⟩ := List.mem_map.mp hx
    exact (key_lay (h k hk)).2
theorem dp_key {K : PySem.W.Frag} {H : Hp} {a : Addr} {k : Ky} (h : KeyAt H a k) : Dp K H (.ref a) (keyD k) := .tup (sqt_of h) (.cons (.str _) (.cons (.int _) .nil))
theorem dp_ord {K : PySem.W.Frag} {H : Hp} {a : Addr} {ks : List Ky} (h : OrdAt H a ks) : Dp K H (.ref a) (.list (ks.map keyD)) := by
  obtain ⟨es, rfl, h1, h2⟩ := h
  refine .lst (SqL.of h1) ?_
  clear h1
  induction es with
  | nil => exact .nil
  | cons e es ih => exact .cons (dp_key (h2 e List.mem_cons_self)) (ih fun x hx => h2 x (List.mem_cons_of_mem _ hx))
theorem far_mem (R : Ky → Rc) : ∀ (ks : List Ky) (m : Nat), ks.foldl (fun m q => max m (q.2 + (R q).reach)) m = m ∨ ∃ z ∈ ks, ks.foldl (fun m q => max m (q.2 + (R q).reach)) m = z.2 + (R z).reach
  | [], _ => .inl rfl
  | q :: ks, m => by
    rw [List.foldl_cons]
    rcases far_mem R ks (max m (q.2 + (R q).reach)) with h | ⟨z, h1, h2⟩
    · rw [h]
      by_cases c : m ≤ q.2 + (R q).reach
      · exact .inr ⟨q, List.mem_cons_self, Nat.max_eq_right c⟩
      · exact .inl (Nat.max_eq_left (by omega))
    · exact .inr ⟨z, List.mem_cons_of_mem _ h1, h2⟩
theorem far_max {R : Ky → Rc} {p : Nat} {ks : List Ky} (hp : ∀ z ∈ ks, p ≤ z.2) {m : Int} (h1 : m ∈ (1 : Int) :: ks.map fun z => ((z.2 : Nat) : Int) - ((p : Nat) : Int) + (((R z).reach : Nat) : Int))
    (h2 : ∀ y, y ∈ (1 : Int) :: ks.map (fun z => ((z.2 : Nat) : Int) - ((p : Nat) : Int) + (((R z).reach : Nat) : Int)) → y ≤ m) : m = ((far R p ks - p : Nat) : Int) := by
  have g := far_ge R p ks (p + 1)
  have e1 := h2 1 List.mem_cons_self
  unfold far
  have up : m + p ≤ ((ks.foldl (fun m q => max m (q.2 + (R q).reach)) (p + 1) : Nat) : Int) := by
    rcases List.mem_cons.mp h1 with h | h
    · omega
    · obtain ⟨z, hz, rfl⟩ := List.mem_map.mp h
      have := far_in R ks (p + 1) z hz
      omega
  rcases far_mem R ks (p + 1) with h | ⟨z, hz, h⟩
  · omega
  · have h3 := h2 _ (List.mem_cons_of_mem _ (List.mem_map.mpr ⟨z, hz, rfl⟩))
    have := hp z hz
    omega
theorem once_snoc : ∀ (ks acc : List Ky) (k : Ky), once acc (ks ++ [k]) = addK (once acc ks) k
  | [], _, _ => rfl
  | q :: ks, acc, k => once_snoc ks (addK acc q) k
theorem put_ok {T sg : Str} {a b : Nat} (hab : a ≤ b) (hb : b ≤ T.length) : PutOk T ((cutS T none (some (a : Nat)) ++ sg) ++ cutS T (some (b : Nat)) none) a b sg.length := by
  have e : ((cutS T none (some (a : Nat)) ++ sg) ++ cutS T (some (b : Nat)) none).cps.toList = (T.cps.toList.take a ++ sg.cps.toList) ++ T.cps.toList.drop b := by
    rw [app_cps, app_cps, cuts_to, cuts_from]
  have lT : T.cps.toList.length = T.length := Array.length_toList
  have ls : sg.cps.toList.length = sg.length := Array.length_toList
  have lt : (T.cps.toList.take a).length = a := by rw [List.length_take]; omega
  have ll : ((cutS T none (some (a : Nat)) ++ sg) ++ cutS T (some (b : Nat)) none).length = a + sg.length + (T.length - b) := by
    have : ((cutS T none (some (a : Nat)) ++ sg) ++ cutS T (some (b : Nat)) none).length = ((cutS T none (some (a : Nat)) ++ sg) ++ cutS T (some (b : Nat)) none).cps.toList.length := Array.length_toList.symm
    rw [this, e, List.length_append, List.length_append, lt, ls, List.length_drop, lT]
  refine ⟨hab, hb, by omega, fun i hi => ?_, fun i hi => ?_⟩
  · rw [← Array.getElem?_toList, ← Array.getElem?_toList, e, List.append_assoc, List.getElem?_append_left (by omega), List.getElem?_take, if_pos hi]
  · rw [← Array.getElem?_toList, ← Array.getElem?_toList, e, List.getElem?_append_right (by rw [List.length_append]; omega), List.getElem?_drop]
    congr 1
    rw [List.length_append]
    omega
theorem put_okT {T sg : Str} {a b : Nat} (hT : okT T) (hs : okT sg) : okT ((cutS T none (some (a : Nat)) ++ sg) ++ cutS T (some (b : Nat)) none) := by
  intro c hc
  rw [app_cps, app_cps, cuts_to, cuts_from] at hc
  rcases List.mem_append.mp hc with h | h
  · rcases List.mem_append.mp h with h | h
    · exact hT c (List.mem_of_mem_take h)
    · exact hs c h
  · exact hT c (List.mem_of_mem_drop h)
end Kr
namespace Kr
open PySem PySem.Spec PyProof.Rows L2
section
variable {P : Program} {w : World} {K : PySem.W.Frag} {mg : Str → Option Value} {base : Heap} {k : Nat}
/-- the law's own reading, of keys below j -/
def spReading (j : Nat) : Sp := fun vs H Q _ => ∃ (d t o : Addr) (T : Str) (q : Ky) (ks : List Str) (G : Str → Option Fm) (R : Ky → Rc) (D : List Str) (rk : Str → Nat) (tab ord : List Ky), vs = [.ref d, .str T, .ref t, .ref o, .str q.1, .int (q.2 : Nat)] ∧
  RulesAt H d ks G ∧ (∀ x, x ∈ ks ↔ (G x).isSome = true) ∧ d ≠ t ∧ d ≠ o ∧ TabAt R H t tab ∧ OrdAt H o ord ∧ ord.length ≤ tab.length ∧ Sys G T R D rk ∧ InDom D T q ∧ tab.Nodup ∧ (∀ x ∈ tab, InDom D T x) ∧ mu T rk q < j ∧
  ∀ a H' new, Keeps [t, o] H H' → TabAt R H' t (tab ++ new) → OrdAt H' o (ord ++ new) → (tab ++ new).Nodup → (∀ x ∈ new, InDom D T x ∧ mu T rk x ≤ mu T rk q) → q ∈ tab ++ new → RecAt H' a (R q) → Q (.ref a) H'
theorem reading_zero {A : Prop} {vs : List V} {H : Hp} {Q : VK} {E : XK} (h : spReading 0 vs H Q E) : A := by
  obtain ⟨d, t, o, TX, q, ks, G, R, D, rk, tab, ord, _, _, _, _, _, _, _, _, _, _, _, _, h, _⟩ := h
  exact absurd h (Nat.not_lt_zero _)
def foL : Option Fm → List Str
  | none => [""]
  | some f => f.l
def wdO (fo : Option Fm) : Str := (foL fo).headD ""
def rsO (fo : Option Fm) : List Str := (foL fo).tail
theorem foL_cons (fo : Option Fm) : foL fo = wdO fo :: rsO fo := by
  cases fo with
  | none => rfl
  | some f => cases f <;> rfl
theorem rules_get2 {H : Hp} {d : Addr} {ks : List Str} {G : Str → Option Fm} (h : RulesAt H d ks G) (dom : ∀ x, x ∈ ks ↔ (G x).isSome = true) (x : Str) {p : Addr} (hp : H p = some (.tup [.str ""])) : IsD H d ∧ ∃ o fa, DGet H d (.str x) o ∧ o.getD (.ref p) = .ref fa ∧ H fa = some (.tup ((foL (G x)).map V.str)) := by
  obtain ⟨ad, h1, h2⟩ := h
  refine ⟨.inl ⟨_, h1⟩, ?_⟩
  by_cases hx : x ∈ ks
  · obtain ⟨f, hf, hfa⟩ := h2 x hx
    rw [hf]
    exact ⟨_, ad x, .inl ⟨_, nmK x, h1, rfl, (mkD_in (f := nmK) (g := fun x => V.ref (ad x)) nmK_inj hx).symm⟩, rfl, hfa⟩
  · have hn : G x = none := by
      cases e : G x with
      | none => rfl
      | some f => exact absurd ((dom x).mpr (by rw [e]; rfl)) hx
    rw [hn]
    exact ⟨_, p, .inl ⟨_, nmK x, h1, rfl, (mkD_no (f := nmK) (g := fun x => V.ref (ad x)) nmK_inj hx).symm⟩, rfl, hp⟩
theorem ok_law_reading {j : Nat} (T : Tp K mg) (c_law_reading : Calls P w K mg base k "_law_reading" ["rules", "text", "table", "order", "name", "place"] (spReading j)) : Calls P w K mg base (k + 1) "_law_reading" ["rules", "text", "table", "order", "name", "place"] (spReading (j + 1)) := by
  have sc : FnScope ["rules", "text", "table", "order", "name", "place", "word", "parts", "length", "asked", "at", "reach", "leans", "key", "got", "one", "there"] ["rules", "text", "table", "order", "name", "place"] d_law_reading.scope := ⟨rfl, rfl, rfl, by decide +kernel, rfl, by decide +kernel, by decide +kernel⟩
  refine mkCall T in_law_reading rfl mg_law_reading rfl rfl sc (fun _ _ _ _ _ _ us hl => match us, hl with | [_, _, _, _, _, _], _ => rfl) (fun vs H Q E h => ?_) (fun f cdv A outer s H vs Q E hr h => ?_)
  · obtain ⟨d, t, o, TX, q, ks, G, R, D, rk, tab, ord, rfl, _⟩ := h
    rfl
  obtain ⟨d, t, o, TX, q, ks, G, R, D, rk, tab, ord, rfl, hru, hdom, hdt, hdo, htab, hord, hol, S, dm, htn, htd, hmu, k⟩ := h
  have hu65 : (A.deeper (envOfC d_law_reading.qual d_law_reading.scope s.heap.objs.size f cdv)).units + 65 < cLine := by have := hr.un; omega
  refine ⟨_, (pss_cons (ps_if (pt_cmp (pc_din (hu_of hr) (pe_tup (pa_cons (pv 4) (pa_cons (pv 5) pa_nil))) (pv 2)) rfl) (pss_one (ps_ret (pe_dget (hu_of hr) (pv 2) (pe_tup (pa_cons (pv 4) (pa_cons (pv 5) pa_nil))) (fun _ _ => rfl)))) pss_nil)
      (pss_cons (ps_set (i := 6) sc.nd rfl (by first | exact Or.inl rfl | exact Or.inr rfl) (pe_ix ix_tup (pe_dget2 (hu_of hr) (pv 0) (pv 4) (pe_tup (pa_cons pe_str pa_nil)) ⟨rfl, rfl, rfl, rfl⟩) pe_int (fun _ _ => rfl)))
      (pss_cons (ps_set (i := 7) sc.nd rfl (by first | exact Or.inl rfl | exact Or.inr rfl) (pe_callTy call_list_of (by rfl) (T.fre _ mf_list) bt_list (pa_cons (pe_slice sl_tup (pe_dget2 (hu_of hr) (pv 0) (pv 4) (pe_tup (pa_cons pe_str pa_nil)) ⟨rfl, rfl, rfl, rfl⟩) (po_some pe_int) po_none) pa_nil)))
      (pss_cons (ps_set (i := 8) sc.nd rfl (by first | exact Or.inl rfl | exact Or.inr rfl) (pe_ifExp (pt_cmpR op_in_seq (pv 6) (pe_tup (pa_cons pe_str (pa_cons pe_str (pa_cons pe_str pa_nil)))) (by rfl)) pe_int pe_non))
      (pss_cons (ps_if (PW.pt (pw_or (pt_cmpR op_eq (pv 6) pe_str (nomark _)) (pw_or1 (pt_cmpR op_eq (pv 6) pe_str (nomark _))))) (pss_cons (ps_if (PW.pt (pw_and (pt_cmpR op_lt (pv 5) (pe_callB call_len_str (by rfl) (T.fre _ mf_len) bt_len (pa_cons (pv 1) pa_nil)) (nomark _)) (pw_and1 (PW.pt (pw_or (pt_cmpR op_eq (pv 6) pe_str (nomark _)) (pw_or1 (pt_cmpR op_in_sign (pe_ix ix_str (pv 1) (pv 5) (fun _ _ => rfl)) (pe_ix ix_list (pv 7) pe_int (fun _ _ => rfl)) (by rfl)))))))) (pss_one (ps_set (i := 8) sc.nd rfl (by first | exact Or.inl rfl | exact Or.inr rfl) pe_int)) pss_nil)
      (pss_one (ps_set (i := 7) sc.nd rfl (by first | exact Or.inl rfl | exact Or.inr rfl) (pe_lst pa_nil)))) pss_nil)
      (pss_cons (ps_set (i := 9) sc.nd rfl (by first | exact Or.inl rfl | exact Or.inr rfl) (pe_lst pa_nil))
      (pss_cons (ps_set (i := 10) sc.nd rfl (by first | exact Or.inl rfl | exact Or.inr rfl) (pv 5))
      (pss_cons (ps_while PassesOwn.never (pt_cmpR (op_neNil hr.units) (pv 7) (pe_lst pa_nil) (nomark _)) (pss_cons (ps_set (i := 13) sc.nd rfl (by first | exact Or.inl rfl | exact Or.inr rfl) (pe_tup (pa_cons (pe_ix ix_list (pv 7) pe_int (fun _ _ => rfl)) (pa_cons (pv 10) pa_nil))))
      (pss_cons (ps_set (i := 14) sc.nd rfl (by first | exact Or.inl rfl | exact Or.inr rfl) (pe_ix ix_tup (pcall c_law_reading hr (pa_cons (pv 0) (pa_cons (pv 1) (pa_cons (pv 2) (pa_cons (pv 3) (pa_cons (pe_ix ix_list (pv 7) pe_int (fun _ _ => rfl)) (pa_cons (pv 10) pa_nil))))))) pe_int (fun _ _ => rfl)))
      (pss_cons (ps_if (pt_cmpR (op_notInD hu65) (pv 13) (pv 9) (by rfl)) (pss_one (ps_expr (pe_bm PySem.F.plainAttrs_list PySem.F.slot_list_append PySem.F.type_list_append mt_append (pv 9) (pa_cons (pv 13) pa_nil)))) pss_nil)
      (pss_cons (ps_if (PW.pt (pw_or (pt_cmpR op_ne (pv 6) pe_str (nomark _)) (pw_or (pt_cmpR op_isN (pv 14) pe_non (nomark _)) (pw_or1 (pt_cmpR op_eq (pv 14) pe_int (nomark _)))))) (pss_one (ps_set (i := 7) sc.nd rfl (by first | exact Or.inl rfl | exact Or.inr rfl) (pe_slice sl_list (pv 7) (po_some pe_int) po_none))) pss_nil)
      (pss_one (ps_if (PW.pt (pw_or (PW.pt (pw_and (pt_cmpR op_eq (pv 6) pe_str (nomark _)) (pw_and1 (pt_cmpR op_isN (pv 14) pe_non (nomark _))))) (pw_or1 (PW.pt (pw_and (pt_cmpR op_eq (pv 6) pe_str (nomark _)) (pw_and1 (pt_cmpR op_notN (pv 14) pe_non (nomark _)))))))) (pss_cons (ps_set (i := 8) sc.nd rfl (by first | exact Or.inl rfl | exact Or.inr rfl) (pv 14))
      (pss_one (ps_set (i := 7) sc.nd rfl (by first | exact Or.inl rfl | exact Or.inr rfl) (pe_lst pa_nil)))) (pss_one (ps_if (PW.pt (pw_or (pt_cmpR op_eq (pv 6) pe_str (nomark _)) (pw_or1 (PW.pt (pw_and (pt_cmpR op_eq (pv 6) pe_str (nomark _)) (pw_and1 (pt_cmpR op_notN (pv 14) pe_non (nomark _)))))))) (pss_cons (ps_set (i := 10) sc.nd rfl (by first | exact Or.inl rfl | exact Or.inr rfl) (pe_op op_add (pv 10) (pv 14)))
      (pss_one (ps_set (i := 8) sc.nd rfl (by first | exact Or.inl rfl | exact Or.inr rfl) (pe_op op_sub (pv 10) (pv 5))))) (pss_one (ps_if (PW.pt (pw_or (PW.pt (pw_and (pt_cmpR op_eq (pv 6) pe_str (nomark _)) (pw_and1 (pt_cmpR op_notN (pv 14) pe_non (nomark _))))) (pw_or1 (PW.pt (pw_and (pt_cmpR op_eq (pv 6) pe_str (nomark _)) (pw_and1 (pt_cmpR op_isN (pv 14) pe_non (nomark _)))))))) (pss_one (ps_set (i := 8) sc.nd rfl (by first | exact Or.inl rfl | exact Or.inr rfl) pe_int)) pss_nil)))))))))))
      (pss_cons (ps_set (i := 11) sc.nd rfl (by first | exact Or.inl rfl | exact Or.inr rfl) (pe_callB (cr_max rfl) (by rfl) (T.fre _ mf_max) bt_max (pa_cons (pe_op op_catS (pe_lst (pa_cons pe_int pa_nil)) (pe_lc (own := [("one", 15), ("there", 16)]) rfl sc.nd (pi_list (pv 9)) (blkOk_by (by kernel_rfl)) (fun _ _ _ _ _ => (pg_tupK (K := K) (n := 2) rfl rfl (pgs_cons (pg_name (i := 15) sc.nd rfl (by first | exact Or.inl rfl | exact Or.inr rfl)) (pgs_cons (pg_name (i := 16) sc.nd rfl (by first | exact Or.inl rfl | exact Or.inr rfl)) pgs_nil)))) (fun _ _ _ _ _ => pts_nil) (fun _ _ _ _ _ => (pe_op op_add (pe_op op_sub (pv 16) (pv 5)) (pe_ix (ix_tupK (K := K) rfl) (pe_dget (hu_of hr) (pv 2) (pe_tup (pa_cons (pv 15) (pa_cons (pv 16) pa_nil))) (fun _ _ => rfl)) pe_int (fun _ _ => rfl)))))) pa_nil)))
      (pss_cons (ps_set (i := 12) sc.nd rfl (by first | exact Or.inl rfl | exact Or.inr rfl) (pe_lst (pa_cons (pv 4) pa_nil)))
      (pss_cons (ps_for PassesOwn.never rfl (pi_list (pv 9)) (pg_name (i := 13) sc.nd rfl (by first | exact Or.inl rfl | exact Or.inr rfl))
        (pss_one (ps_expr (pe_bm PySem.F.plainAttrs_list PySem.F.slot_list_extend PySem.F.type_list_extend mt_extendS (pv 12) (pa_cons (pe_ix ix_tup (pe_dget (hu_of hr) (pv 2) (pv 13) (fun _ _ => rfl)) pe_int (fun _ _ => rfl)) pa_nil)))))
      (pss_cons (ps_dput (hu_of hr) (pv 2) (pe_tup (pa_cons (pv 4) (pa_cons (pv 5) pa_nil))) (pe_tup (pa_cons (pv 8) (pa_cons (pv 11) (pa_cons (pe_frz (pv 9)) (pa_cons (pe_frz (pe_sortedSet (by rfl) (T.fre _ mf_sorted) (by rfl) (T.fre _ mf_set) rfl hr.units (pv 12))) pa_nil))))) rfl)
      (pss_cons (ps_expr (pe_bm PySem.F.plainAttrs_list PySem.F.slot_list_append PySem.F.type_list_append mt_append (pv 3) (pa_cons (pe_tup (pa_cons (pv 4) (pa_cons (pv 5) pa_nil))) pa_nil)))
      (pss_one (ps_ret (pe_dget (hu_of hr) (pv 2) (pe_tup (pa_cons (pv 4) (pa_cons (pv 5) pa_nil))) (fun _ _ => rfl))))))))))))))))), ?_⟩
  have C0 : True := trivial
  refine ⟨_, rfl, _, rfl, show 2 ≤ sizeLine by decide, fun kt hkt => ?_⟩
  have k1 := (Keeps.refl [] H).new (o := .tup [V.str q.1, V.int (q.2 : Nat)]) hkt
  have m1 := (Imm.refl H).new (o := .tup [V.str q.1, V.int (q.2 : Nat)]) hkt
  have q1 : KeyAt (upd H kt (.tup [V.str q.1, V.int (q.2 : Nat)])) kt q := upd_same
  generalize upd H kt (.tup [V.str q.1, V.int (q.2 : Nat)]) = H1 at k1 m1 q1 ⊢
  have t1 := htab.kp k1 (by simp) m1
  by_cases hin : q ∈ tab
  · obtain ⟨a1, hget, hrec⟩ := t1.get hin q1
    refine ⟨_, rfl, t, _, rfl, hget, _, rfl, iteT ?_⟩
    refine ⟨_, rfl, _, rfl, _, rfl, show 2 ≤ sizeLine by decide, fun kt2 hkt2 => ?_⟩
    have k2 := k1.new (o := .tup [V.str q.1, V.int (q.2 : Nat)]) hkt2
    have m2 := m1.new (o := .tup [V.str q.1, V.int (q.2 : Nat)]) hkt2
    have q2 : KeyAt (upd H1 kt2 (.tup [V.str q.1, V.int (q.2 : Nat)])) kt2 q := upd_same
    generalize upd H1 kt2 (.tup [V.str q.1, V.int (q.2 : Nat)]) = H2 at k2 m2 q2 ⊢
    obtain ⟨a2, hget2, hrec2⟩ := (htab.kp k2 (by simp) m2).get hin q2
    refine ⟨t, _, rfl, hget2, k a2 H2 [] k2.nil ?_ ?_ ?_ (by simp) ?_ hrec2⟩
    · rw [List.append_nil]; exact htab.kp k2 (by simp) m2
    · rw [List.append_nil]; exact hord.kp k2 (by simp) m2
    · rw [List.append_nil]; exact htn
    · rw [List.append_nil]; exact hin
  refine ⟨_, rfl, t, _, rfl, t1.no hin q1, _, rfl, iteF ?_⟩
  have ru1 := hru.kp k1 (by simp) m1
  refine ⟨_, rfl, d, rfl, (rules_get ru1 hdom q.1).1, _, rfl, show 1 ≤ sizeLine by decide, fun p hp => ?_⟩
  have k2 := k1.new (o := .tup [V.str ""]) hp
  have m2 := m1.new (o := .tup [V.str ""]) hp
  have p2 : upd H1 p (.tup [V.str ""]) p = some (.tup [V.str ""]) := upd_same
  generalize upd H1 p (.tup [V.str ""]) = H2 at k2 m2 p2 ⊢
  obtain ⟨_, o2, fa2, hg2, hv2, hf2⟩ := rules_get2 (hru.kp k2 (by simp) m2) hdom q.1 p2
  rw [foL_cons] at hf2
  refine ⟨o2, hg2, ?_⟩
  rw [hv2]
  refine ⟨_, _, _, _, rfl, rfl, sqt_of hf2, at_0 rfl, ?_⟩
  have ru2 := hru.kp k2 (by simp) m2
  refine ⟨_, rfl, d, rfl, (rules_get ru2 hdom q.1).1, _, rfl, show 1 ≤ sizeLine by decide, fun p3 hp3 => ?_⟩
  have k3 := k2.new (o := .tup [V.str ""]) hp3
  have m3 := m2.new (o := .tup [V.str ""]) hp3
  have p3' : upd H2 p3 (.tup [V.str ""]) p3 = some (.tup [V.str ""]) := upd_same
  generalize upd H2 p3 (.tup [V.str ""]) = H3 at k3 m3 p3' ⊢
  obtain ⟨_, o3, fa3, hg3, hv3, hf3⟩ := rules_get2 (hru.kp k3 (by simp) m3) hdom q.1 p3'
  rw [foL_cons] at hf3
  refine ⟨o3, hg3, ?_⟩
  rw [hv3]
  refine ⟨_, rfl, _, _, rfl, sqt_of hf3, nw1 (by rw [List.length_map, List.length_cons]; omega), fun u hu => ?_⟩
  have ec : cutV (List.map V.str (wdO (G q.1) :: rsO (G q.1))) (some 1) none = (rsO (G q.1)).map V.str := by
    rw [show (1 : Int) = ((1 : Nat) : Int) from rfl, cut_from]
    rfl
  rw [ec]
  have k4 := k3.new (o := .tup ((rsO (G q.1)).map V.str)) hu
  have m4 := m3.new (o := .tup ((rsO (G q.1)).map V.str)) hu
  have u4 : upd H3 u (.tup ((rsO (G q.1)).map V.str)) u = some (.tup ((rsO (G q.1)).map V.str)) := upd_same
  generalize upd H3 u (.tup ((rsO (G q.1)).map V.str)) = H4 at k4 m4 u4 ⊢
  refine ⟨u, _, rfl, .inr (sqt_of u4), fun l hl => ?_⟩
  have k5 := k4.new (o := .lst ((rsO (G q.1)).map V.str)) hl
  have m5 := m4.new (o := .lst ((rsO (G q.1)).map V.str)) hl
  have l5 : upd H4 l (.lst ((rsO (G q.1)).map V.str)) l = some (.lst ((rsO (G q.1)).map V.str)) := upd_same
  generalize upd H4 l (.lst ((rsO (G q.1)).map V.str)) = H5 at k5 m5 l5 ⊢
  refine gName_go ?_
  dsimp only
  have l5' : l ≠ t ∧ l ≠ o := by
    obtain ⟨adT, hT0, _⟩ := htab.kp k4 (by simp) m4
    obtain ⟨eso, _, hO0, _⟩ := hord.kp k4 (by simp) m4
    exact ⟨(ne_of_none hT0 hl).symm, (ne_of_none hO0 hl).symm⟩
  refine seq_with (fun σ' H' => σ' = [some (.ref d), some (.str TX), some (.ref t), some (.ref o), some (.str q.1), some (.int (q.2 : Nat)), some (.str (wdO (G q.1))), some (.ref l), some (lenV (if wdO (G q.1) ∈ [("none" : Str), "row", "again"] then some 0 else none)), none, none, none, none, none, none, none, none] ∧ Keeps [] H H' ∧ Imm H H' ∧ H' l = some (.lst ((rsO (G q.1)).map V.str))) ?_ ?_
  · rintro σ' H6 ⟨rfl, k6, m6, l6⟩
    have lH : H l = none := k4.free0 hl
    refine seq_with (fun σ' H' => ∃ pl, σ' = [some (.ref d), some (.str TX), some (.ref t), some (.ref o), some (.str q.1), some (.int (q.2 : Nat)), some (.str (wdO (G q.1))), some (.ref pl), some (lenV (ls0 G TX q).len), none, none, none, none, none, none, none, none] ∧ Keeps [] H H' ∧ Imm H H' ∧ H pl = none ∧ H' pl = some (.lst ((ls0 G TX q).parts.map V.str))) ?_ ?_
    · rintro σ' H7 ⟨pl, rfl, k7, m7, plH, l7⟩
      refine ⟨by decide, fun al hal => ?_⟩
      have alH : H al = none := k7.free0 hal
      have k8 := k7.new (o := .lst []) hal
      have m8 := m7.new (o := .lst []) hal
      have al8 : upd H7 al (.lst []) al = some (.lst []) := upd_same
      have pl8 : upd H7 al (.lst []) pl = some (.lst ((ls0 G TX q).parts.map V.str)) := by rw [upd_ne (ne_of_none l7 hal)]; exact l7
      have plal : pl ≠ al := ne_of_none l7 hal
      generalize upd H7 al (.lst []) = H8 at k8 m8 al8 pl8 ⊢
      refine ⟨_, rfl, ?_⟩
      have tH : H t ≠ none := by obtain ⟨_, e, _⟩ := htab; rw [e]; exact fun h => nomatch h
      have oH : H o ≠ none := by obtain ⟨_, _, e, _⟩ := hord; rw [e]; exact fun h => nomatch h
      have alt : al ≠ t := fun e => tH (by rw [← e]; exact alH)
      have alo : al ≠ o := fun e => oH (by rw [← e]; exact alH)
      have nS : ∀ y : Addr, H y = none → y ∉ [t, o] := fun y h z => by
        simp only [List.mem_cons, List.not_mem_nil, or_false] at z
        rcases z with z | z
        · exact tH (by rw [← z]; exact h)
        · exact oH (by rw [← z]; exact h)
      have as50 := S.asksN (k := q)
      have tr0 := S.trk (k := q) dm.2
      have e0 : ls0 G TX q = ⟨(ls0 G TX q).parts, (ls0 G TX q).len, q.2⟩ := by
        unfold ls0
        split <;> rfl
      have tabF : ∀ l : List Ky, l.Nodup → (∀ x ∈ l, InDom D TX x) → l.length ≤ 72 := fun l h1 h2 => keys_few (m := 9) (n := 7) h1 h2 S.few S.tl
      let W : Nat → L2.St → Hp → Prop := fun m σ H' => ∃ (i : Nat) (pl : Addr) (st : LS) (new : List Ky) (v13 v14 : Option V), σ = [some (.ref d), some (.str TX), some (.ref t), some (.ref o), some (.str q.1), some (.int (q.2 : Nat)), some (.str (wdO (G q.1))), some (.ref pl), some (lenV st.len), some (.ref al), some (.int (st.at_ : Nat)), none, none, v13, v14, none, none] ∧
        Keeps [t, o] H H' ∧ Imm H H' ∧ H pl = none ∧ pl ≠ al ∧ H' pl = some (.lst (st.parts.map V.str)) ∧ OrdAt H' al (once [] ((asksOf G TX R q).take i)) ∧ TabAt R H' t (tab ++ new) ∧ OrdAt H' o (ord ++ new) ∧ (tab ++ new).Nodup ∧ (∀ x ∈ new, InDom D TX x ∧ mu TX rk x < mu TX rk q) ∧
        (∀ z ∈ (asksOf G TX R q).take i, z ∈ tab ++ new) ∧ i ≤ (asksOf G TX R q).length ∧ m = (asksOf G TX R q).length - i ∧ q.2 ≤ st.at_ ∧ Trk (G q.1) (fun j => (R j).len) q.2 st ((asksOf G TX R q).drop i) (out G TX (fun j => (R j).len) q).2
      refine ⟨W, ⟨_, 0, pl, ⟨(ls0 G TX q).parts, (ls0 G TX q).len, q.2⟩, [], none, none, rfl, k8.nil, m8, plH, plal, pl8, ⟨[], rfl, al8, by simp⟩, ?_, ?_, ?_, by simp, by simp, Nat.zero_le _, rfl, Nat.le_refl _, by rw [← e0]; exact tr0⟩, ?_⟩
      · rw [List.append_nil]; exact htab.kp k8 (by simp) m8
      · rw [List.append_nil]; exact hord.kp k8 (by simp) m8
      · rw [List.append_nil]; exact htn
      rintro m σ H9 ⟨i, pl, st, new, v13, v14, rfl, k9, m9, plH, plal, pl9, al9, tb9, or9, nd9, in9, got9, hi9, rfl, hat9, tr9⟩
      refine ⟨_, rfl, by decide, fun e he => ⟨pl, _, e, rfl, rfl, .inl (by rw [upd_ne (ne_of_none pl9 he)]; exact pl9), .inl upd_same, _, rfl, ?_⟩⟩
      have k10 := k9.new (o := .lst []) he
      have m10 := m9.new (o := .lst []) he
      have kx := (Keeps.refl [] H9).new (o := .lst []) he
      have mx := (Imm.refl H9).new (o := .lst []) he
      have pl10 := kx.same pl9
      have al10 := al9.kp kx (by simp) mx
      have tb10 := tb9.kp kx (by simp) mx
      have or10 := or9.kp kx (by simp) mx
      generalize upd H9 e (.lst []) = H10 at k10 m10 pl10 al10 tb10 or10 ⊢
      clear kx mx he pl9 al9 tb9 or9 k9 m9
      refine iteB (fun hne => ?_) (fun hnil => ?_)
      · obtain ⟨k0, ks0, hA⟩ : ∃ k0 ks0, (asksOf G TX R q).drop i = k0 :: ks0 := by
          cases hA : (asksOf G TX R q).drop i with
          | nil =>
            rw [hA] at tr9
            rw [tr9.1] at hne
            cases hne
          | cons a b => exact ⟨a, b, rfl⟩
        rw [hA] at tr9
        obtain ⟨⟨p0, rest, hp, rfl⟩, tr9⟩ := tr9
        have hi : (asksOf G TX R q)[i]? = some (p0, st.at_) := by
          have := congrArg List.head? hA
          rw [List.head?_drop] at this
          exact this
        have hd1 : (asksOf G TX R q).drop (i + 1) = ks0 := by
          have := congrArg List.tail hA
          rw [List.tail_drop] at this
          exact this
        have hil : i < (asksOf G TX R q).length := (List.getElem?_eq_some_iff.mp hi).1
        have hmem := List.mem_of_getElem? hi
        obtain ⟨dm0, mu0⟩ := S.asks dm _ hmem
        rw [hp] at pl10
        have tl9 := tabF _ nd9 (fun x hx => (List.mem_append.mp hx).elim (htd x) (fun h => (in9 x h).1))
        refine ⟨fun σ' H' => ∃ m', m' < (asksOf G TX R q).length - i ∧ W m' σ' H', fun _ _ h => h, ?_⟩
        refine ⟨_, rfl, _, _, _, _, rfl, rfl, SqL.of pl10, at_0 rfl, _, rfl, show 2 ≤ sizeLine by decide, fun kt hkt => ?_⟩
        have k11 := k10.new (o := .tup [V.str p0, V.int (st.at_ : Nat)]) hkt
        have m11 := m10.new (o := .tup [V.str p0, V.int (st.at_ : Nat)]) hkt
        have kx := (Keeps.refl [] H10).new (o := .tup [V.str p0, V.int (st.at_ : Nat)]) hkt
        have mx := (Imm.refl H10).new (o := .tup [V.str p0, V.int (st.at_ : Nat)]) hkt
        have q11 : KeyAt (upd H10 kt (.tup [V.str p0, V.int (st.at_ : Nat)])) kt (p0, st.at_) := upd_same
        have pl11 := kx.same pl10
        have al11 := al10.kp kx (by simp) mx
        have tb11 := tb10.kp kx (by simp) mx
        have or11 := or10.kp kx (by simp) mx
        generalize upd H10 kt (.tup [V.str p0, V.int (st.at_ : Nat)]) = H11 at k11 m11 q11 pl11 al11 tb11 or11 ⊢
        clear kx mx hkt pl10 al10 tb10 or10 k10 m10
        have dS : d ∉ [t, o] := fun z => by
          simp only [List.mem_cons, List.not_mem_nil, or_false] at z
          exact z.elim hdt hdo
        refine ⟨_, rfl, _, rfl, _, rfl, _, rfl, _, rfl, _, _, _, _, rfl, rfl, SqL.of pl11, at_0 rfl, _, rfl, d, t, o, TX, (p0, st.at_), ks, G, R, D, rk, tab ++ new, ord ++ new, rfl, hru.kp k11 dS m11, hdom, hdt, hdo, tb11, or11, ?_, S, dm0, nd9, fun x hx => (List.mem_append.mp hx).elim (htd x) (fun h => (in9 x h).1), by omega, fun a2 H12 new2 k12 tb12 or12 nd12 in12 got12 rec12 m12 => ?_⟩
        · rw [List.length_append, List.length_append]; omega
        obtain ⟨la, lb, hra, hrk, hrs⟩ := rec12
        refine ⟨_, _, _, _, rfl, rfl, sqt_of hra, at_0 rfl, ?_⟩
        have k13 := k11.trans k12
        have m13 := m11.trans m12
        have pl13 := k12 _ _ pl11 (nS _ plH)
        have al13 := al11.kp k12 (nS _ alH) m12
        have q13 := q11.imm m12
        have sub : ∀ z ∈ (asksOf G TX R q).take (i + 1), z ∈ tab ++ (new ++ new2) := fun z hz => by
          rw [take_snoc hi] at hz
          rw [← List.append_assoc]
          rcases List.mem_append.mp hz with h | h
          · exact List.mem_append.mpr (.inl (got9 z h))
          · rw [List.mem_singleton.mp h]
            exact got12
        have in13 : ∀ x ∈ new ++ new2, InDom D TX x ∧ mu TX rk x < mu TX rk q := fun x hx => by
          rcases List.mem_append.mp hx with h | h
          · exact in9 x h
          · exact ⟨(in12 x h).1, Nat.lt_of_le_of_lt (in12 x h).2 mu0⟩
        rw [List.append_assoc] at tb12 or12 nd12
        clear k12 m12 k11 m11 pl11 al11 q11 tb11 or11
        have okd : ∀ z ∈ once [] ((asksOf G TX R q).take i), okN z.1 := fun z hz => S.nm _ (S.asks dm z (List.mem_of_mem_take (once_asks hz))).1.1
        have ol : (once [] ((asksOf G TX R q).take i)).length ≤ 50 := by
          have h1 := once_len ((asksOf G TX R q).take i) []
          have h2 : ((asksOf G TX R q).take i).length ≤ i := by rw [List.length_take]; omega
          have : ([] : List Ky).length = 0 := rfl
          omega
        refine gName_go ?_
        dsimp only
        refine seq_with (fun σ' H' => σ' = [some (.ref d), some (.str TX), some (.ref t), some (.ref o), some (.str q.1), some (.int (q.2 : Nat)), some (.str (wdO (G q.1))), some (.ref pl), some (lenV st.len), some (.ref al), some (.int (st.at_ : Nat)), none, none, some (.ref kt), some (lenV (R (p0, st.at_)).len), none, none] ∧ Keeps [al] H12 H' ∧ Imm H12 H' ∧ OrdAt H' al (once [] ((asksOf G TX R q).take (i + 1)))) ?_ ?_
        · rintro σ' H14 ⟨rfl, k14, m14, al14⟩
          have nA : ∀ y : Addr, y ≠ al → y ∉ [al] := fun y h z => h (List.mem_singleton.mp z)
          have k15 : Keeps [t, o] H H14 := k13.call k14 fun y hy => .inr (by rw [List.mem_singleton.mp hy]; exact alH)
          have m15 := m13.trans m14
          have pl15 := k14 _ _ pl13 (nA _ plal)
          have tb15 := tb12.kp k14 (nA _ alt.symm) m14
          have or15 := or12.kp k14 (nA _ alo.symm) m14
          have fin : ∀ (pl2 : Addr) (σ2 : L2.St) (H' : Hp), σ2 = [some (.ref d), some (.str TX), some (.ref t), some (.ref o), some (.str q.1), some (.int (q.2 : Nat)), some (.str (wdO (G q.1))), some (.ref pl2), some (lenV (lsStep (G q.1) q.2 (R (p0, st.at_)).len st).len), some (.ref al), some (.int ((lsStep (G q.1) q.2 (R (p0, st.at_)).len st).at_ : Nat)), none, none, some (.ref kt), some (lenV (R (p0, st.at_)).len), none, none] →
              Keeps [] H14 H' → Imm H14 H' → H pl2 = none → pl2 ≠ al → H' pl2 = some (.lst ((lsStep (G q.1) q.2 (R (p0, st.at_)).len st).parts.map V.str)) → ∃ m', m' < (asksOf G TX R q).length - i ∧ W m' σ2 H' := by
            intro pl2 σ2 H' e k' m' h1 h2 h3
            refine ⟨(asksOf G TX R q).length - (i + 1), by omega, i + 1, pl2, lsStep (G q.1) q.2 (R (p0, st.at_)).len st, new ++ new2, _, _, e, k15.trans k'.nil, m15.trans m', h1, h2, h3, al14.kp k' (by simp) m', tb15.kp k' (by simp) m', or15.kp k' (by simp) m', nd12, in13, sub, by omega, rfl, ?_, by rw [hd1]; exact tr9⟩
            have hat : st.at_ ≤ (lsStep (G q.1) q.2 (R (p0, st.at_)).len st).at_ := by
              unfold lsStep
              split
              · split
                · exact Nat.le_refl _
                · exact Nat.le_add_right _ _
              · split <;> exact Nat.le_refl _
              · split
                · exact Nat.le_refl _
                · exact Nat.le_add_right _ _
              · exact Nat.le_refl _
              · exact Nat.le_refl _
              · exact Nat.le_refl _
            omega
          -- parts[1:]
          have cut : cutV (List.map V.str (p0 :: rest)) (some 1) none = rest.map V.str := by
            rw [show (1 : Int) = ((1 : Nat) : Int) from rfl, cut_from]
            rfl
          have shut : ∀ (H0 : Hp), Keeps [] H14 H0 → Imm H14 H0 → ∀ (p2 : Addr) (xs : List Str), H0 p2 = none → Keeps [] H14 (upd H0 p2 (.lst (xs.map V.str))) ∧ Imm H14 (upd H0 p2 (.lst (xs.map V.str))) ∧ H p2 = none ∧ p2 ≠ al ∧ upd H0 p2 (.lst (xs.map V.str)) p2 = some (.lst (xs.map V.str)) := fun H0 k0 m0 p2 xs hp2' => by
            have hp2 := k0.free0 hp2'
            obtain ⟨_, _, e, _⟩ := al14
            obtain ⟨_, eT, _⟩ := tb15
            obtain ⟨_, _, eO, _⟩ := or15
            refine ⟨k0.new hp2', m0.new hp2', k15.free hp2 fun z => ?_, (ne_of_none e hp2).symm, upd_same⟩
            simp only [List.mem_cons, List.not_mem_nil, or_false] at z
            rcases z with z | z
            · rw [z, eT] at hp2; cases hp2
            · rw [z, eO] at hp2; cases hp2
          obtain ⟨f, hG, hfa, _⟩ := (out_parts (fun f h => S.ok _ f h)).2 _ hmem
          have hp1 : st.parts.tail = rest := by rw [hp]; rfl
          rw [hG] at fin ⊢
          -- CASES
          cases f with
          | none => cases hfa
          | any => cases hfa
          | signs z => cases hfa
          | row z =>
            refine ⟨_, rfl, rfl, _, rfl, iteY (show (!decide (V.str "row" = V.str "again")) = true by decide) (iteT ⟨_, rfl, _, rfl, _, _, rfl, SqL.of pl15, fun p2 hp2 => ?_⟩)⟩
            rw [cut]
            obtain ⟨kz, mz, p2H, p2al, p2e⟩ := shut H14 (Keeps.refl _ _) (Imm.refl _) p2 rest hp2
            generalize upd H14 p2 (.lst (rest.map V.str)) = H16 at kz mz p2e ⊢
            rw [← hp1] at p2e
            cases hl : (R (p0, st.at_)).len with
            | none =>
              rw [hl] at fin
              refine ⟨_, rfl, rfl, _, rfl, iteY (show decide (V.str "row" = V.str "row") = true by decide) ⟨_, rfl, rfl, _, rfl, iteY (show decide (V.non = V.non) = true by decide) (iteT ?_)⟩⟩
              refine ⟨_, rfl, by decide, fun p3 hp3 => ?_⟩
              obtain ⟨ky, my, p3H, p3al, p3e⟩ := shut H16 kz mz p3 [] hp3
              exact gName_go (fin p3 _ _ rfl ky my p3H p3al p3e)
            | some n =>
              rw [hl] at fin
              refine ⟨_, rfl, rfl, _, rfl, iteY (show decide (V.str "row" = V.str "row") = true by decide) ⟨_, rfl, rfl, _, rfl, iteN (show decide (V.int (n : Nat) = V.non) = false from decide_eq_false (fun h => by cases h)) ⟨_, rfl, rfl, _, rfl, iteN (show decide (V.str "row" = V.str "first") = false by decide) ⟨_, rfl, rfl, _, rfl, iteY (show decide (V.str "row" = V.str "row") = true by decide) (iteT ?_)⟩⟩⟩⟩
              have e2 : ((st.at_ : Nat) : Int) + ((n : Nat) : Int) - ((q.2 : Nat) : Int) = ((st.at_ + n - q.2 : Nat) : Int) := by omega
              refine ⟨_, rfl, _, rfl, _, _, rfl, rfl, _, rfl, _, rfl, _, _, rfl, rfl, gName_go (fin p2 _ _ ?_ kz mz p2H p2al p2e)⟩
              show [_, _, _, _, _, _, _, _, some (V.int (((st.at_ : Nat) : Int) + ((n : Nat) : Int) - ((q.2 : Nat) : Int))), _, some (V.int (((st.at_ : Nat) : Int) + ((n : Nat) : Int))), _, _, _, _, _, _] = _
              rw [e2]
              rfl
          | first z =>
            refine ⟨_, rfl, rfl, _, rfl, iteY (show (!decide (V.str "first" = V.str "again")) = true by decide) (iteT ⟨_, rfl, _, rfl, _, _, rfl, SqL.of pl15, fun p2 hp2 => ?_⟩)⟩
            rw [cut]
            obtain ⟨kz, mz, p2H, p2al, p2e⟩ := shut H14 (Keeps.refl _ _) (Imm.refl _) p2 rest hp2
            generalize upd H14 p2 (.lst (rest.map V.str)) = H16 at kz mz p2e ⊢
            rw [← hp1] at p2e
            cases hl : (R (p0, st.at_)).len with
            | none =>
              rw [hl] at fin
              refine ⟨_, rfl, rfl, _, rfl, iteN (show decide (V.str "first" = V.str "row") = false by decide) ⟨_, rfl, rfl, _, rfl, iteY (show decide (V.str "first" = V.str "first") = true by decide) ⟨_, rfl, rfl, _, rfl, iteN (show (!decide (V.non = V.non)) = false by decide) ⟨_, rfl, rfl, _, rfl, iteN (show decide (V.str "first" = V.str "row") = false by decide) ⟨_, rfl, rfl, _, rfl, iteN (show decide (V.str "first" = V.str "again") = false by decide) ⟨_, rfl, rfl, _, rfl, iteN (show decide (V.str "first" = V.str "ahead") = false by decide) ⟨_, rfl, rfl, _, rfl, iteN (show decide (V.str "first" = V.str "not") = false by decide) ?_⟩⟩⟩⟩⟩⟩⟩
              exact fin p2 _ _ rfl kz mz p2H p2al p2e
            | some n =>
              rw [hl] at fin
              refine ⟨_, rfl, rfl, _, rfl, iteN (show decide (V.str "first" = V.str "row") = false by decide) ⟨_, rfl, rfl, _, rfl, iteY (show decide (V.str "first" = V.str "first") = true by decide) ⟨_, rfl, rfl, _, rfl, iteY (show (!decide (V.int (n : Nat) = V.non)) = true by rw [decide_eq_false (fun h => by cases h)]; rfl) ?_⟩⟩⟩
              refine ⟨_, rfl, by decide, fun p3 hp3 => ?_⟩
              obtain ⟨ky, my, p3H, p3al, p3e⟩ := shut H16 kz mz p3 [] hp3
              exact gName_go (fin p3 _ _ rfl ky my p3H p3al p3e)
          | ahead z =>
            refine ⟨_, rfl, rfl, _, rfl, iteY (show (!decide (V.str "ahead" = V.str "again")) = true by decide) (iteT ⟨_, rfl, _, rfl, _, _, rfl, SqL.of pl15, fun p2 hp2 => ?_⟩)⟩
            rw [cut]
            obtain ⟨kz, mz, p2H, p2al, p2e⟩ := shut H14 (Keeps.refl _ _) (Imm.refl _) p2 rest hp2
            generalize upd H14 p2 (.lst (rest.map V.str)) = H16 at kz mz p2e ⊢
            rw [← hp1] at p2e
            cases hl : (R (p0, st.at_)).len with
            | none =>
              rw [hl] at fin
              refine ⟨_, rfl, rfl, _, rfl, iteN (show decide (V.str "ahead" = V.str "row") = false by decide) ⟨_, rfl, rfl, _, rfl, iteN (show decide (V.str "ahead" = V.str "first") = false by decide) ⟨_, rfl, rfl, _, rfl, iteN (show decide (V.str "ahead" = V.str "row") = false by decide) ⟨_, rfl, rfl, _, rfl, iteN (show decide (V.str "ahead" = V.str "again") = false by decide) ⟨_, rfl, rfl, _, rfl, iteY (show decide (V.str "ahead" = V.str "ahead") = true by decide) ⟨_, rfl, rfl, _, rfl, iteN (show (!decide (V.non = V.non)) = false by decide) ⟨_, rfl, rfl, _, rfl, iteN (show decide (V.str "ahead" = V.str "not") = false by decide) ?_⟩⟩⟩⟩⟩⟩⟩
              exact fin p2 _ _ rfl kz mz p2H p2al p2e
            | some n =>
              rw [hl] at fin
              refine ⟨_, rfl, rfl, _, rfl, iteN (show decide (V.str "ahead" = V.str "row") = false by decide) ⟨_, rfl, rfl, _, rfl, iteN (show decide (V.str "ahead" = V.str "first") = false by decide) ⟨_, rfl, rfl, _, rfl, iteN (show decide (V.str "ahead" = V.str "row") = false by decide) ⟨_, rfl, rfl, _, rfl, iteN (show decide (V.str "ahead" = V.str "again") = false by decide) ⟨_, rfl, rfl, _, rfl, iteY (show decide (V.str "ahead" = V.str "ahead") = true by decide) ⟨_, rfl, rfl, _, rfl, iteY (show (!decide (V.int (n : Nat) = V.non)) = true by rw [decide_eq_false (fun h => by cases h)]; rfl) (iteT ?_)⟩⟩⟩⟩⟩⟩
              exact gName_go (fin p2 _ _ rfl kz mz p2H p2al p2e)
          | not z =>
            refine ⟨_, rfl, rfl, _, rfl, iteY (show (!decide (V.str "not" = V.str "again")) = true by decide) (iteT ⟨_, rfl, _, rfl, _, _, rfl, SqL.of pl15, fun p2 hp2 => ?_⟩)⟩
            rw [cut]
            obtain ⟨kz, mz, p2H, p2al, p2e⟩ := shut H14 (Keeps.refl _ _) (Imm.refl _) p2 rest hp2
            generalize upd H14 p2 (.lst (rest.map V.str)) = H16 at kz mz p2e ⊢
            rw [← hp1] at p2e
            cases hl : (R (p0, st.at_)).len with
            | none =>
              rw [hl] at fin
              refine ⟨_, rfl, rfl, _, rfl, iteN (show decide (V.str "not" = V.str "row") = false by decide) ⟨_, rfl, rfl, _, rfl, iteN (show decide (V.str "not" = V.str "first") = false by decide) ⟨_, rfl, rfl, _, rfl, iteN (show decide (V.str "not" = V.str "row") = false by decide) ⟨_, rfl, rfl, _, rfl, iteN (show decide (V.str "not" = V.str "again") = false by decide) ⟨_, rfl, rfl, _, rfl, iteN (show decide (V.str "not" = V.str "ahead") = false by decide) ⟨_, rfl, rfl, _, rfl, iteY (show decide (V.str "not" = V.str "not") = true by decide) ⟨_, rfl, rfl, _, rfl, iteY (show decide (V.non = V.non) = true by decide) ?_⟩⟩⟩⟩⟩⟩⟩
              exact gName_go (fin p2 _ _ rfl kz mz p2H p2al p2e)
            | some n =>
              rw [hl] at fin
              refine ⟨_, rfl, rfl, _, rfl, iteN (show decide (V.str "not" = V.str "row") = false by decide) ⟨_, rfl, rfl, _, rfl, iteN (show decide (V.str "not" = V.str "first") = false by decide) ⟨_, rfl, rfl, _, rfl, iteN (show decide (V.str "not" = V.str "row") = false by decide) ⟨_, rfl, rfl, _, rfl, iteN (show decide (V.str "not" = V.str "again") = false by decide) ⟨_, rfl, rfl, _, rfl, iteN (show decide (V.str "not" = V.str "ahead") = false by decide) ⟨_, rfl, rfl, _, rfl, iteY (show decide (V.str "not" = V.str "not") = true by decide) ⟨_, rfl, rfl, _, rfl, iteN (show decide (V.int (n : Nat) = V.non) = false from decide_eq_false (fun h => by cases h)) ?_⟩⟩⟩⟩⟩⟩⟩
              exact fin p2 _ _ rfl kz mz p2H p2al p2e
          | again z =>
            cases hl : (R (p0, st.at_)).len with
            | none =>
              rw [hl] at fin
              refine ⟨_, rfl, rfl, _, rfl, iteN (show (!decide (V.str "again" = V.str "again")) = false by decide) ⟨_, rfl, rfl, _, rfl, iteY (show decide (V.non = V.non) = true by decide) (iteT ⟨_, rfl, _, rfl, _, _, rfl, SqL.of pl15, fun p2 hp2 => ?_⟩)⟩⟩
              rw [cut]
              obtain ⟨kz, mz, p2H, p2al, p2e⟩ := shut H14 (Keeps.refl _ _) (Imm.refl _) p2 rest hp2
              generalize upd H14 p2 (.lst (rest.map V.str)) = H16 at kz mz p2e ⊢
              rw [← hp1] at p2e
              refine ⟨_, rfl, rfl, _, rfl, iteN (show decide (V.str "again" = V.str "row") = false by decide) ⟨_, rfl, rfl, _, rfl, iteN (show decide (V.str "again" = V.str "first") = false by decide) ⟨_, rfl, rfl, _, rfl, iteN (show decide (V.str "again" = V.str "row") = false by decide) ⟨_, rfl, rfl, _, rfl, iteY (show decide (V.str "again" = V.str "again") = true by decide) ⟨_, rfl, rfl, _, rfl, iteN (show (!decide (V.non = V.non)) = false by decide) ⟨_, rfl, rfl, _, rfl, iteN (show decide (V.str "again" = V.str "ahead") = false by decide) ⟨_, rfl, rfl, _, rfl, iteN (show decide (V.str "again" = V.str "not") = false by decide) ?_⟩⟩⟩⟩⟩⟩⟩
              exact fin p2 _ _ rfl kz mz p2H p2al p2e
            | some n =>
              cases n with
              | zero =>
                rw [hl] at fin
                refine ⟨_, rfl, rfl, _, rfl, iteN (show (!decide (V.str "again" = V.str "again")) = false by decide) ⟨_, rfl, rfl, _, rfl, iteN (show decide (V.int ((0 : Nat) : Int) = V.non) = false by decide) ⟨_, rfl, rfl, _, rfl, iteY (show decide (V.int ((0 : Nat) : Int) = V.int 0) = true by decide) ⟨_, rfl, _, rfl, _, _, rfl, SqL.of pl15, fun p2 hp2 => ?_⟩⟩⟩⟩
                rw [cut]
                obtain ⟨kz, mz, p2H, p2al, p2e⟩ := shut H14 (Keeps.refl _ _) (Imm.refl _) p2 rest hp2
                generalize upd H14 p2 (.lst (rest.map V.str)) = H16 at kz mz p2e ⊢
                rw [← hp1] at p2e
                refine ⟨_, rfl, rfl, _, rfl, iteN (show decide (V.str "again" = V.str "row") = false by decide) ⟨_, rfl, rfl, _, rfl, iteN (show decide (V.str "again" = V.str "first") = false by decide) ⟨_, rfl, rfl, _, rfl, iteN (show decide (V.str "again" = V.str "row") = false by decide) ⟨_, rfl, rfl, _, rfl, iteY (show decide (V.str "again" = V.str "again") = true by decide) ⟨_, rfl, rfl, _, rfl, iteY (show (!decide (V.int ((0 : Nat) : Int) = V.non)) = true by decide) ?_⟩⟩⟩⟩⟩
                have e2 : ((st.at_ : Nat) : Int) + ((0 : Nat) : Int) - ((q.2 : Nat) : Int) = ((st.at_ + 0 - q.2 : Nat) : Int) := by omega
                refine ⟨_, rfl, _, rfl, _, _, rfl, rfl, _, rfl, _, rfl, _, _, rfl, rfl, gName_go (fin p2 _ _ ?_ kz mz p2H p2al p2e)⟩
                show [_, _, _, _, _, _, _, _, some (V.int (((st.at_ : Nat) : Int) + ((0 : Nat) : Int) - ((q.2 : Nat) : Int))), _, some (V.int (((st.at_ : Nat) : Int) + ((0 : Nat) : Int))), _, _, _, _, _, _] = _
                rw [e2]
                rfl
              | succ n =>
                rw [hl] at fin
                refine ⟨_, rfl, rfl, _, rfl, iteN (show (!decide (V.str "again" = V.str "again")) = false by decide) ⟨_, rfl, rfl, _, rfl, iteN (show decide (V.int ((n + 1 : Nat) : Int) = V.non) = false from decide_eq_false (fun h => by cases h)) ⟨_, rfl, rfl, _, rfl, iteN (show decide (V.int ((n + 1 : Nat) : Int) = V.int 0) = false from decide_eq_false (fun h => by have := V.int.inj h; omega)) ?_⟩⟩⟩
                have kz := Keeps.refl [] H14
                have mz := Imm.refl H14
                have p2e := pl15
                rw [← hp] at p2e
                refine ⟨_, rfl, rfl, _, rfl, iteN (show decide (V.str "again" = V.str "row") = false by decide) ⟨_, rfl, rfl, _, rfl, iteN (show decide (V.str "again" = V.str "first") = false by decide) ⟨_, rfl, rfl, _, rfl, iteN (show decide (V.str "again" = V.str "row") = false by decide) ⟨_, rfl, rfl, _, rfl, iteY (show decide (V.str "again" = V.str "again") = true by decide) ⟨_, rfl, rfl, _, rfl, iteY (show (!decide (V.int ((n + 1 : Nat) : Int) = V.non)) = true by rw [decide_eq_false (fun h => by cases h)]; rfl) ?_⟩⟩⟩⟩⟩
                have e2 : ((st.at_ : Nat) : Int) + (((n + 1) : Nat) : Int) - ((q.2 : Nat) : Int) = ((st.at_ + (n + 1) - q.2 : Nat) : Int) := by omega
                refine ⟨_, rfl, _, rfl, _, _, rfl, rfl, _, rfl, _, rfl, _, _, rfl, rfl, gName_go (fin pl _ _ ?_ kz mz plH plal p2e)⟩
                show [_, _, _, _, _, _, _, _, some (V.int (((st.at_ : Nat) : Int) + (((n + 1) : Nat) : Int) - ((q.2 : Nat) : Int))), _, some (V.int (((st.at_ : Nat) : Int) + (((n + 1) : Nat) : Int))), _, _, _, _, _, _] = _
                rw [e2]
                rfl
          -- CASES END
        · intro fin
          refine ⟨_, rfl, _, rfl, keyD (p0, st.at_), (once [] ((asksOf G TX R q).take i)).map keyD, dp_key q13, dp_ord al13, shp (key_lay (S.nm _ dm0.1)) (by decide), shp (keys_lay okd) (by decide), _, rfl, ?_⟩
          rw [key_in]
          refine iteB (fun hb => ?_) (fun hb => ?_)
          · have hnin : (p0, st.at_) ∉ once [] ((asksOf G TX R q).take i) := fun z => by rw [decide_eq_true z] at hb; cases hb
            obtain ⟨es, hes, hal, hek⟩ := id al13
            have hesl : es.length = (once [] ((asksOf G TX R q).take i)).length := by rw [← hes, List.length_map]
            refine ⟨_, rfl, .inl ⟨rfl, _, SqL.of hal⟩, _, rfl, al, _, _, rfl, rfl, hal, line5 (by rw [List.length_map]; omega), fin _ _ ⟨rfl, (Keeps.refl _ _).mem (by simp), (Imm.refl _).mut hal, ?_⟩⟩
            rw [take_snoc hi, once_snoc, addK_no hnin]
            exact al13.add ((Imm.refl _).mut hal) (q13.imm ((Imm.refl _).mut hal)) (fun xs hxs => by rw [hal] at hxs; cases hxs; exact upd_same)
          · have hin : (p0, st.at_) ∈ once [] ((asksOf G TX R q).take i) := by
              refine Classical.byContradiction fun z => ?_
              rw [decide_eq_false z] at hb; cases hb
            refine fin _ _ ⟨rfl, Keeps.refl _ _, Imm.refl _, ?_⟩
            rw [take_snoc hi, once_snoc, addK_in hin]
            exact al13
      · have hpn : st.parts = [] := by
          cases hp : st.parts with
          | nil => rfl
          | cons a b => rw [hp] at hnil; cases hnil
        have hA : (asksOf G TX R q).drop i = [] ∧ st.len = (out G TX (fun j => (R j).len) q).2 := by
          cases hA : (asksOf G TX R q).drop i with
          | nil =>
            rw [hA] at tr9
            exact ⟨rfl, tr9.2⟩
          | cons a b =>
            rw [hA] at tr9
            obtain ⟨⟨x, y, h, _⟩, _⟩ := tr9
            rw [hpn] at h
            cases h
        obtain ⟨hA, hlen⟩ := hA
        have hti : (asksOf G TX R q).take i = asksOf G TX R q := by
          have := List.take_append_drop i (asksOf G TX R q)
          rw [hA, List.append_nil] at this
          exact this
        rw [hti] at al10 got9
        clear tr9 pl10 hnil
        obtain ⟨es, hes, hal10, hek⟩ := id al10
        have hmemA : ∀ z ∈ once [] (asksOf G TX R q), z ∈ tab ++ new ∧ q.2 ≤ z.2 ∧ InDom D TX z := fun z hz => by
          have hz := once_asks hz
          obtain ⟨_, h2, _⟩ := S.less q dm.2 z hz
          exact ⟨got9 z hz, h2, (S.asks dm z hz).1⟩
        have ksl : (once [] (asksOf G TX R q)).length ≤ 50 := by
          have h1 := once_len (asksOf G TX R q) []
          have : ([] : List Ky).length = 0 := rfl
          omega
        have esl : es.length = (once [] (asksOf G TX R q)).length := by rw [← hes, List.length_map]
        have hein : ∀ e ∈ es, e.1 ∈ once [] (asksOf G TX R q) := fun e he => by rw [← hes]; exact List.mem_map.mpr ⟨e, he, rfl⟩
        have hR := S.eqn q dm.2
        unfold recOf at hR
        dsimp only at hR
        change R q = ⟨_, far R q.2 (once [] (asksOf G TX R q)) - q.2, once [] (asksOf G TX R q), canon (q.1 :: (once [] (asksOf G TX R q)).flatMap fun z => (R z).leans)⟩ at hR
        generalize once [] (asksOf G TX R q) = ks0 at al10 hes hmemA ksl esl hein hR
        clear hti hA got9
        -- reach
        refine ⟨by decide, fun x1 hx1 => ?_⟩
        have k11 := k10.new (o := .lst [V.int 1]) hx1
        have m11 := m10.new (o := .lst [V.int 1]) hx1
        have kx := (Keeps.refl [] H10).new (o := .lst [V.int 1]) hx1
        have mx := (Imm.refl H10).new (o := .lst [V.int 1]) hx1
        have x11 : upd H10 x1 (.lst [V.int 1]) x1 = some (.lst [V.int 1]) := upd_same
        generalize upd H10 x1 (.lst [V.int 1]) = H11 at k11 m11 kx mx x11 ⊢
        refine ⟨_, rfl, _, rfl, ⟨_, SqL.of (kx.same hal10)⟩, fun D1 hD1 => lc_fun es (fun _ => true) V.int (fun e => ((e.1.2 : Nat) : Int) - ((q.2 : Nat) : Int) + (((R e.1).reach : Nat) : Int)) walk_list (by rw [List.length_map]) (by omega) hD1 (fun H' k' _ => SqL.of (k'.same (kx.same hal10))) ?_ ?_⟩
        · rintro j y x H5 H5' hy k5 m5 ⟨rfl, hx⟩ R1 N hR1 _
          obtain ⟨e, he1, hm, rfl⟩ := getM hx
          obtain rfl : e = y := Option.some.inj (he1.symm.trans hy)
          have hke := ((hek e hm).imm mx).imm m5
          obtain ⟨hz1, _, _⟩ := hmemA e.1 (hein e hm)
          refine ⟨e.2, _, rfl, sqt_of hke, rfl, _, _, rfl, _, _, rfl, rfl, rfl, _, rfl, _, rfl, _, _, rfl, rfl, _, rfl, _, rfl, _, rfl, show 2 ≤ sizeLine by decide, fun u hu => ?_⟩
          have ky := (Keeps.refl [] H5').new (o := .tup [V.str e.1.1, V.int (e.1.2 : Nat)]) hu
          have my := (Imm.refl H5').new (o := .tup [V.str e.1.1, V.int (e.1.2 : Nat)]) hu
          have qu : KeyAt (upd H5' u (.tup [V.str e.1.1, V.int (e.1.2 : Nat)])) u e.1 := upd_same
          have tbu := ((tb10.kp kx (by simp) mx).kp k5 (by simp) m5).kp ky (by simp) my
          generalize upd H5' u (.tup [V.str e.1.1, V.int (e.1.2 : Nat)]) = H6 at ky my qu tbu ⊢
          obtain ⟨ra, hget, la, lb, hra, _, _⟩ := tbu.get hz1 qu
          exact ⟨t, _, rfl, hget, _, _, _, _, rfl, rfl, sqt_of hra, at_1 rfl, _, _, rfl, rfl, hR1 rfl H6 ky my⟩
        intro H12 k12 m12 e12
        rw [filter_all_true] at e12
        have em : es.map (fun e => ((e.1.2 : Nat) : Int) - ((q.2 : Nat) : Int) + (((R e.1).reach : Nat) : Int)) = ks0.map (fun z => ((z.2 : Nat) : Int) - ((q.2 : Nat) : Int) + (((R z).reach : Nat) : Int)) := by
          rw [← hes, List.map_map]
          rfl
        rw [em] at e12
        have hD1H : H D1 = none := k11.free hD1 fun z => by
          simp only [List.mem_cons, List.not_mem_nil, or_false] at z
          obtain ⟨_, eT, _⟩ := tb10.kp kx (by simp) mx
          obtain ⟨_, _, eO, _⟩ := or10.kp kx (by simp) mx
          rcases z with z | z
          · rw [z, eT] at hD1; cases hD1
          · rw [z, eO] at hD1; cases hD1
        refine ⟨x1, D1, [V.int 1], _, rfl, rfl, .inl (k12.same x11), .inl e12, ?_, fun p hp => ?_⟩
        · rw [List.length_map, List.length_map]
          exact line5' (by show 1 + _ ≤ _; omega)
        have k13 := (k11.trans k12.nil).new (o := .lst ([V.int 1] ++ (ks0.map (fun z => ((z.2 : Nat) : Int) - ((q.2 : Nat) : Int) + (((R z).reach : Nat) : Int))).map V.int)) hp
        have m13 := (m11.trans m12).new (o := .lst ([V.int 1] ++ (ks0.map (fun z => ((z.2 : Nat) : Int) - ((q.2 : Nat) : Int) + (((R z).reach : Nat) : Int))).map V.int)) hp
        have ky := (kx.trans k12).new (o := .lst ([V.int 1] ++ (ks0.map (fun z => ((z.2 : Nat) : Int) - ((q.2 : Nat) : Int) + (((R z).reach : Nat) : Int))).map V.int)) hp
        have my := (mx.trans m12).new (o := .lst ([V.int 1] ++ (ks0.map (fun z => ((z.2 : Nat) : Int) - ((q.2 : Nat) : Int) + (((R z).reach : Nat) : Int))).map V.int)) hp
        have p13 : upd H12 p (.lst ([V.int 1] ++ (ks0.map (fun z => ((z.2 : Nat) : Int) - ((q.2 : Nat) : Int) + (((R z).reach : Nat) : Int))).map V.int)) p = some (.lst (((1 : Int) :: ks0.map (fun z => ((z.2 : Nat) : Int) - ((q.2 : Nat) : Int) + (((R z).reach : Nat) : Int))).map V.int)) := upd_same
        generalize upd H12 p (.lst ([V.int 1] ++ (ks0.map (fun z => ((z.2 : Nat) : Int) - ((q.2 : Nat) : Int) + (((R z).reach : Nat) : Int))).map V.int)) = H13 at k13 m13 ky my p13 ⊢
        refine ⟨p, _, rfl, SqL.of p13, by simp, fun rc hrc1 hrc2 => ?_⟩
        obtain rfl := far_max (fun z hz => (hmemA z hz).2.1) hrc1 hrc2
        clear hrc1 hrc2 p13 hp e12 em
        -- leans
        refine ⟨_, rfl, show 1 ≤ sizeLine by decide, fun ll hll => ?_⟩
        have k14 := k13.new (o := .lst [V.str q.1]) hll
        have m14 := m13.new (o := .lst [V.str q.1]) hll
        have kz := ky.new (o := .lst [V.str q.1]) hll
        have mz := my.new (o := .lst [V.str q.1]) hll
        have l14 : upd H13 ll (.lst [V.str q.1]) ll = some (.lst (([q.1] : List Str).map V.str)) := upd_same
        have tb13 := tb10.kp ky (by simp) my
        have or13 := or10.kp ky (by simp) my
        have al13 := ky.same hal10
        have llt : ll ≠ t := fun e => by
          obtain ⟨_, eT, _⟩ := tb13
          rw [e, eT] at hll; cases hll
        have llo : ll ≠ o := fun e => by
          obtain ⟨_, _, eO, _⟩ := or13
          rw [e, eO] at hll; cases hll
        have llal : al ≠ ll := ne_of_none al13 hll
        have llH : H ll = none := k13.free hll fun z => by
          simp only [List.mem_cons, List.not_mem_nil, or_false] at z
          exact z.elim llt llo
        have nL : ∀ y : Addr, y ≠ ll → y ∉ [ll] := fun y h z => h (List.mem_singleton.mp z)
        generalize upd H13 ll (.lst [V.str q.1]) = H14 at k14 m14 kz mz l14 ⊢
        have tb14 := tb10.kp kz (by simp) mz
        have or14 := or10.kp kz (by simp) mz
        have al14 := kz.same hal10
        have fl : ∀ l : List Ky, (∀ z ∈ l, z ∈ ks0) → (l.flatMap fun z => (R z).leans).length ≤ l.length * 9 := fun l => by
          induction l with
          | nil => intro _; simp
          | cons x l ih =>
            intro h
            have h1 := ih fun z hz => h z (List.mem_cons_of_mem _ hz)
            have h2 := S.leansN (hmemA x (h x List.mem_cons_self)).2.2
            rw [List.flatMap_cons, List.length_append, List.length_cons]
            omega
        refine ⟨_, rfl, _, rfl, ⟨_, SqL.of al14⟩, ?_⟩
        refine for_it (walk_list (xs := es.map fun e => V.ref e.2)) (fun j σ H' => ∃ v13 : Option V, σ = [some (.ref d), some (.str TX), some (.ref t), some (.ref o), some (.str q.1), some (.int (q.2 : Nat)), some (.str (wdO (G q.1))), some (.ref pl), some (lenV st.len), some (.ref al), some (.int (st.at_ : Nat)), some (.int (far R q.2 ks0 - q.2 : Nat)), some (.ref ll), v13, v14, none, none] ∧ Keeps [ll] H14 H' ∧ Imm H14 H' ∧
            H' ll = some (.lst ((q.1 :: (ks0.take j).flatMap fun z => (R z).leans).map V.str))) ⟨_, rfl, Keeps.refl _ _, Imm.refl _, l14⟩ (fun j σ H' _ ⟨_, _, k', _⟩ => SqL.of (k' _ _ al14 (nL _ llal))) ?_ ?_
        · rintro j x σ H5 H5' hj ⟨v13, rfl, k5, m5, l5⟩ ⟨rfl, hx⟩
          obtain ⟨e, he1, hm, rfl⟩ := getM hx
          have hke := ((hek e hm).imm mz).imm m5
          obtain ⟨hz1, _, hz3⟩ := hmemA e.1 (hein e hm)
          obtain ⟨ra, hget, la, lb, hra, _, hrs⟩ := (tb14.kp k5 (nL _ llt.symm) m5).get hz1 hke
          obtain ⟨olb, hlb⟩ := hrs
          have h1 := fl (ks0.take j) (fun z hz => List.mem_of_mem_take hz)
          have h2 : (ks0.take j).length ≤ 50 := by rw [List.length_take]; omega
          have h3 := S.leansN hz3
          have hj2 : ks0[j]? = some e.1 := by rw [← hes, List.getElem?_map, he1]; rfl
          refine ⟨_, rfl, .inl ⟨rfl, _, SqL.of l5⟩, _, rfl, _, rfl, t, _, rfl, hget, _, _, _, _, rfl, rfl, sqt_of hra, at_3 rfl, ll, lb, _, _, rfl, rfl, l5, .inr ⟨_, hlb⟩, ?_, _, rfl, k5.mem (by simp), m5.mut l5, ?_⟩
          · rw [List.length_map, List.length_map, List.length_cons]
            exact line5' (by omega)
          · rw [upd_same, ← List.map_append, take_snoc hj2, List.flatMap_append]
            simp
        rintro σ H15 ⟨v13, rfl, k15, m15, l15⟩
        rw [List.length_map, esl, List.take_length] at l15
        have k16 : Keeps [t, o] H H15 := k14.call k15 fun y hy => .inr (by rw [List.mem_singleton.mp hy]; exact llH)
        have m16 := m14.trans m15
        have tb15 := tb14.kp k15 (nL _ llt.symm) m15
        have or15 := or14.kp k15 (nL _ llo.symm) m15
        have al15 := k15 _ _ al14 (nL _ llal)
        have hek15 : ∀ e ∈ es, KeyAt H15 e.2 e.1 := fun e he => ((hek e he).imm mz).imm m15
        -- the record
        refine ⟨_, rfl, _, rfl, _, rfl, al, _, rfl, al15, trivial, fun od => ?_⟩
        have k17 := k16.own (o := .frz od (.lst (es.map fun e => V.ref e.2))) alH
        have m17 := m16.mut (o := .frz od (.lst (es.map fun e => V.ref e.2))) al15
        have nA : ∀ y : Addr, y ≠ al → y ∉ [al] := fun y h z => h (List.mem_singleton.mp z)
        have kA : Keeps [al] H15 (upd H15 al (.frz od (.lst (es.map fun e => V.ref e.2)))) := (Keeps.refl _ _).mem (by simp)
        have mA : Imm H15 (upd H15 al (.frz od (.lst (es.map fun e => V.ref e.2)))) := (Imm.refl _).mut al15
        have al17 : KeysAt (upd H15 al (.frz od (.lst (es.map fun e => V.ref e.2)))) al ks0 := ⟨od, es, hes, upd_same, fun e he => (hek15 e he).imm mA⟩
        have tb17 := tb15.kp kA (nA _ alt.symm) mA
        have or17 := or15.kp kA (nA _ alo.symm) mA
        have l17 := kA _ _ l15 (nA _ llal.symm)
        generalize upd H15 al (.frz od (.lst (es.map fun e => V.ref e.2))) = H17 at k17 m17 al17 tb17 or17 l17 ⊢
        have h1 := fl ks0 (fun z hz => hz)
        refine ⟨_, rfl, ll, q.1 :: ks0.flatMap (fun z => (R z).leans), rfl, SqL.of l17, by rw [List.length_cons]; omega, ⟨D, by have := S.few; omega, fun z hz => ?_⟩, fun H18 p ys k18 hp ris mem hpe => ⟨p, _, rfl, hpe, trivial, fun od2 => ?_⟩⟩
        · rcases List.mem_cons.mp hz with h | h
          · rw [h]; exact dm.1
          · obtain ⟨y, hy, hz⟩ := List.mem_flatMap.mp h
            exact S.leansD (hmemA y hy).2.2 z hz
        have hto : ∀ y : Addr, H17 y = none → y ∉ [t, o] := fun y h z => by
          simp only [List.mem_cons, List.not_mem_nil, or_false] at z
          obtain ⟨_, eT, _⟩ := tb17
          obtain ⟨_, _, eO, _⟩ := or17
          rcases z with z | z
          · rw [z, eT] at h; cases h
          · rw [z, eO] at h; cases h
        have hnot : t ≠ o := fun e => by
          obtain ⟨_, eT, _⟩ := tb17
          obtain ⟨_, _, eO, _⟩ := or17
          rw [e, eO] at eT; cases eT
        have ey : ys = canon (q.1 :: ks0.flatMap fun z => (R z).leans) := canon_of ris mem
        have kB := k18.own (o := .frz od2 (.lst (ys.map V.str))) hp
        have mB : Imm H17 (upd H18 p (.frz od2 (.lst (ys.map V.str)))) := Imm.mut (u := .lst (ys.map V.str)) (fun b o h _ => k18.same h) hpe
        have p19 : StrsAt (upd H18 p (.frz od2 (.lst (ys.map V.str)))) p ys := ⟨od2, upd_same⟩
        generalize upd H18 p (.frz od2 (.lst (ys.map V.str))) = H19 at kB mB p19 ⊢
        refine ⟨show 4 ≤ sizeLine by decide, fun rc hrc => ?_⟩
        have kC := kB.new (o := .tup [lenV st.len, V.int (far R q.2 ks0 - q.2 : Nat), .ref al, .ref p]) hrc
        have mC := mB.new (o := .tup [lenV st.len, V.int (far R q.2 ks0 - q.2 : Nat), .ref al, .ref p]) hrc
        have m20 := (Imm.refl H19).new (o := .tup [lenV st.len, V.int (far R q.2 ks0 - q.2 : Nat), .ref al, .ref p]) hrc
        have r20 : RecAt (upd H19 rc (.tup [lenV st.len, V.int (far R q.2 ks0 - q.2 : Nat), .ref al, .ref p])) rc (R q) := by
          rw [hR, ← hlen, ← ey]
          exact ⟨al, p, upd_same, al17.imm mC, p19.imm m20⟩
        show tVar 2 _ (upd H19 rc (.tup [lenV st.len, V.int (far R q.2 ks0 - q.2 : Nat), .ref al, .ref p])) _
        generalize upd H19 rc (.tup [lenV st.len, V.int (far R q.2 ks0 - q.2 : Nat), .ref al, .ref p]) = H20 at kC mC r20 ⊢
        clear kB mB p19 m20 hrc
        refine ⟨_, rfl, _, rfl, _, rfl, show 2 ≤ sizeLine by decide, fun kq hkq => ?_⟩
        have kD := kC.new (o := .tup [V.str q.1, V.int (q.2 : Nat)]) hkq
        have mD := mC.new (o := .tup [V.str q.1, V.int (q.2 : Nat)]) hkq
        have q21 : KeyAt (upd H20 kq (.tup [V.str q.1, V.int (q.2 : Nat)])) kq q := upd_same
        have r21 := r20.imm ((Imm.refl H20).new (o := .tup [V.str q.1, V.int (q.2 : Nat)]) hkq)
        generalize upd H20 kq (.tup [V.str q.1, V.int (q.2 : Nat)]) = H21 at kD mD q21 r21 ⊢
        have hnew : q ∉ tab ++ new := fun h => (List.mem_append.mp h).elim hin fun h => Nat.lt_irrefl _ (in9 q h).2
        have tl9 := tabF _ nd9 (fun x hx => (List.mem_append.mp hx).elim (htd x) (fun h => (in9 x h).1))
        obtain ⟨H22, dp, tb22, m22, k22⟩ := tab_dput (tb17.kp kD (by simp) mD) hnew q21 (line5 (by omega)) r21
        refine ⟨t, H22, rfl, dp, ?_⟩
        have k23 : Keeps [t, o] H H22 := (k17.trans kD.nil).trans (k22.mono (by simp))
        have m23 := (m17.trans mD).trans m22
        have or22 := (or17.kp kD (by simp) mD).kp k22 (fun z => hnot (List.mem_singleton.mp z).symm) m22
        have r22 := r21.imm m22
        obtain ⟨eso, heso, hor, hork⟩ := id or22
        have esol : eso.length ≤ 72 := by
          have : eso.length = (ord ++ new).length := by rw [← heso, List.length_map]
          rw [List.length_append] at this tl9
          omega
        refine ⟨_, rfl, .inl ⟨rfl, _, SqL.of hor⟩, _, rfl, _, rfl, show 2 ≤ sizeLine by decide, fun ku hku => ⟨o, eso.map (fun e => V.ref e.2), _, rfl, rfl, ?_, line5 (by rw [List.length_map]; omega), ?_⟩⟩
        · rw [upd_ne (ne_of_none hor hku)]
          exact hor
        have kE : Keeps [] H22 (upd H22 ku (.tup [V.str q.1, V.int (q.2 : Nat)])) := (Keeps.refl _ _).new hku
        have mE : Imm H22 (upd H22 ku (.tup [V.str q.1, V.int (q.2 : Nat)])) := (Imm.refl _).new hku
        have q24 : KeyAt (upd H22 ku (.tup [V.str q.1, V.int (q.2 : Nat)])) ku q := upd_same
        generalize upd H22 ku (.tup [V.str q.1, V.int (q.2 : Nat)]) = H24 at kE mE q24 ⊢
        have hor24 := kE.same hor
        have kF : Keeps [o] H22 (upd H24 o (.lst (eso.map (fun e => V.ref e.2) ++ [V.ref ku]))) := (kE.nil (S := [o])).mem (by simp)
        have mF : Imm H22 (upd H24 o (.lst (eso.map (fun e => V.ref e.2) ++ [V.ref ku]))) := mE.mut hor24
        have or25 : OrdAt (upd H24 o (.lst (eso.map (fun e => V.ref e.2) ++ [V.ref ku]))) o ((ord ++ new) ++ [q]) := or22.add mF (q24.imm ((Imm.refl H24).mut hor24)) fun xs hxs => by rw [hor] at hxs; cases hxs; exact upd_same
        have tb25 := tb22.kp kF (fun z => hnot (List.mem_singleton.mp z)) mF
        have k25 : Keeps [t, o] H (upd H24 o (.lst (eso.map (fun e => V.ref e.2) ++ [V.ref ku]))) := k23.trans (kF.mono (by simp))
        generalize upd H24 o (.lst (eso.map (fun e => V.ref e.2) ++ [V.ref ku])) = H25 at kF mF or25 tb25 k25 ⊢
        refine ⟨_, rfl, _, rfl, _, rfl, show 2 ≤ sizeLine by decide, fun kv hkv => ?_⟩
        have kG := k25.new (o := .tup [V.str q.1, V.int (q.2 : Nat)]) hkv
        have ky := (Keeps.refl [] H25).new (o := .tup [V.str q.1, V.int (q.2 : Nat)]) hkv
        have my := (Imm.refl H25).new (o := .tup [V.str q.1, V.int (q.2 : Nat)]) hkv
        have q26 : KeyAt (upd H25 kv (.tup [V.str q.1, V.int (q.2 : Nat)])) kv q := upd_same
        have tb26 := tb25.kp ky (by simp) my
        have or26 := or25.kp ky (by simp) my
        generalize upd H25 kv (.tup [V.str q.1, V.int (q.2 : Nat)]) = H26 at kG q26 tb26 or26 ⊢
        rw [List.append_assoc] at tb26 or26
        obtain ⟨a9, hget9, hrec9⟩ := tb26.get (by simp) q26
        refine ⟨t, _, rfl, hget9, k a9 H26 (new ++ [q]) kG tb26 or26 ?_ (fun x hx => ?_) (by simp) hrec9⟩
        · rw [← List.append_assoc, List.nodup_append]
          exact ⟨nd9, by simp, fun a ha b hb e => hnew (by rw [← List.mem_singleton.mp hb, ← e]; exact ha)⟩
        · rcases List.mem_append.mp hx with h | h
          · exact ⟨(in9 x h).1, Nat.le_of_lt (in9 x h).2⟩
          · rw [List.mem_singleton.mp h]
            exact ⟨dm, Nat.le_refl _⟩
    · intro fin
      have mk : ∀ (n : Option Nat) (H8 : Hp), Keeps [] H6 H8 → Imm H6 H8 → ls0 G TX q = ⟨rsO (G q.1), n, q.2⟩ → ∃ pl, [some (V.ref d), some (.str TX), some (.ref t), some (.ref o), some (.str q.1), some (.int (q.2 : Nat)), some (.str (wdO (G q.1))), some (.ref l), some (lenV n), none, none, none, none, none, none, none, none] = [some (.ref d), some (.str TX), some (.ref t), some (.ref o), some (.str q.1), some (.int (q.2 : Nat)), some (.str (wdO (G q.1))), some (.ref pl), some (lenV (ls0 G TX q).len), none, none, none, none, none, none, none, none] ∧ Keeps [] H H8 ∧ Imm H H8 ∧ H pl = none ∧ H8 pl = some (.lst ((ls0 G TX q).parts.map V.str)) := by
        intro n H8 kx mx e
        rw [e]
        exact ⟨l, rfl, k6.trans kx, m6.trans mx, lH, kx.same l6⟩
      have mk2 : ∀ (n : Option Nat) (l2 : Addr), H6 l2 = none → ls0 G TX q = ⟨[], n, q.2⟩ → ∃ pl, [some (V.ref d), some (.str TX), some (.ref t), some (.ref o), some (.str q.1), some (.int (q.2 : Nat)), some (.str (wdO (G q.1))), some (.ref l2), some (lenV n), none, none, none, none, none, none, none, none] = [some (.ref d), some (.str TX), some (.ref t), some (.ref o), some (.str q.1), some (.int (q.2 : Nat)), some (.str (wdO (G q.1))), some (.ref pl), some (lenV (ls0 G TX q).len), none, none, none, none, none, none, none, none] ∧ Keeps [] H (upd H6 l2 (.lst [])) ∧ Imm H (upd H6 l2 (.lst [])) ∧ H pl = none ∧ upd H6 l2 (.lst []) pl = some (.lst ((ls0 G TX q).parts.map V.str)) := by
        intro n l2 h2 e
        rw [e]
        exact ⟨l2, rfl, k6.new h2, m6.new h2, k6.free0 h2, upd_same⟩
      have hT : TX.length ≤ sizeLine := by
        have := S.tl
        have : 7 ≤ sizeLine := by decide
        omega
      have pl : q.2 ≤ TX.length := dm.2
      revert fin mk mk2
      cases hG : G q.1 with
      | none =>
        intro fin mk mk2
        refine ⟨_, rfl, rfl, _, rfl, iteN (by decide) ⟨_, rfl, rfl, _, rfl, iteN (by decide) ?_⟩⟩
        exact fin _ _ (mk none H6 (Keeps.refl _ _) (Imm.refl _) (by unfold ls0; rw [hG]; rfl))
      | some fm =>
        intro fin mk mk2
        cases fm with
        | any =>
          refine ⟨_, rfl, rfl, _, rfl, iteY (by decide) ?_⟩
          refine ⟨_, rfl, _, rfl, TX, rfl, hT, _, _, rfl, rfl, _, rfl, iteB (fun h => ?_) (fun h => ?_)⟩
          · have h' : q.2 < TX.length := by have := of_decide_eq_true h; omega
            refine ⟨_, rfl, rfl, _, rfl, iteY (by decide) ?_⟩
            refine iteT (gName_go ⟨by decide, fun l2 hl2 => gName_go (fin _ _ (mk2 (some 1) l2 hl2 ?_))⟩)
            unfold ls0
            rw [hG]
            show (⟨[], if q.2 < TX.length then some 1 else none, q.2⟩ : LS) = _
            rw [if_pos h']
          · have h' : ¬ q.2 < TX.length := by have := of_decide_eq_false h; omega
            refine ⟨by decide, fun l2 hl2 => gName_go (fin _ _ (mk2 none l2 hl2 ?_))⟩
            unfold ls0
            rw [hG]
            show (⟨[], if q.2 < TX.length then some 1 else none, q.2⟩ : LS) = _
            rw [if_neg h']
        | signs z =>
          have sg : signAt TX z q.2 = (match TX.cps[q.2]? with | some c => decide (c ∈ z.cps.toList) | none => false) := rfl
          have e0 : ls0 G TX q = ⟨[], if signAt TX z q.2 = true then some 1 else none, q.2⟩ := by unfold ls0; rw [hG]
          refine ⟨_, rfl, rfl, _, rfl, iteN (show decide (V.str "signs" = V.str "any") = false by decide) ⟨_, rfl, rfl, _, rfl, iteY (show decide (V.str "signs" = V.str "signs") = true by decide) ?_⟩⟩
          refine ⟨_, rfl, _, rfl, TX, rfl, hT, _, _, rfl, rfl, _, rfl, iteB (fun h => ?_) (fun h => ?_)⟩
          · have h' : q.2 < TX.length := by have := of_decide_eq_true h; omega
            obtain ⟨c, hc⟩ : ∃ c, TX.cps[q.2]? = some c := ⟨_, Array.getElem?_eq_getElem h'⟩
            refine ⟨_, rfl, rfl, _, rfl, iteN (show decide (V.str "signs" = V.str "any") = false by decide) ?_⟩
            rw [hG] at l6
            refine ⟨_, rfl, _, rfl, TX, _, c, rfl, rfl, hT, at_str hc, _, rfl, l, _, _, _, rfl, rfl, SqL.of l6, at_0 rfl, c, z, rfl, rfl, _, rfl, ?_⟩
            refine iteB (fun h2 => ?_) (fun h2 => ?_)
            · refine gName_go ⟨by decide, fun l2 hl2 => gName_go (fin _ _ (mk2 (some 1) l2 hl2 ?_))⟩
              rw [e0, sg, hc]
              show (⟨[], if decide (c ∈ z.cps.toList) = true then some 1 else none, q.2⟩ : LS) = _
              rw [h2]
              rfl
            · refine ⟨by decide, fun l2 hl2 => gName_go (fin _ _ (mk2 none l2 hl2 ?_))⟩
              rw [e0, sg, hc]
              show (⟨[], if decide (c ∈ z.cps.toList) = true then some 1 else none, q.2⟩ : LS) = _
              rw [h2]
              rfl
          · have h' : TX.cps[q.2]? = none := Array.getElem?_eq_none (by have := of_decide_eq_false h; have : TX.length = TX.cps.size := rfl; omega)
            refine ⟨by decide, fun l2 hl2 => gName_go (fin _ _ (mk2 none l2 hl2 ?_))⟩
            rw [e0, sg, h']
            rfl
        | none =>
          refine ⟨_, rfl, rfl, _, rfl, iteN (by decide) ⟨_, rfl, rfl, _, rfl, iteN (by decide) ?_⟩⟩
          exact fin _ _ (mk (some 0) H6 (Keeps.refl _ _) (Imm.refl _) (by unfold ls0; rw [hG]; rfl))
        | row ps =>
          refine ⟨_, rfl, rfl, _, rfl, iteN (show decide (V.str "row" = V.str "any") = false by decide) ⟨_, rfl, rfl, _, rfl, iteN (show decide (V.str "row" = V.str "signs") = false by decide) ?_⟩⟩
          exact fin _ _ (mk (some 0) H6 (Keeps.refl _ _) (Imm.refl _) (by unfold ls0; rw [hG]; rfl))
        | first ps =>
          refine ⟨_, rfl, rfl, _, rfl, iteN (show decide (V.str "first" = V.str "any") = false by decide) ⟨_, rfl, rfl, _, rfl, iteN (show decide (V.str "first" = V.str "signs") = false by decide) ?_⟩⟩
          exact fin _ _ (mk none H6 (Keeps.refl _ _) (Imm.refl _) (by unfold ls0; rw [hG]; rfl))
        | again z =>
          refine ⟨_, rfl, rfl, _, rfl, iteN (show decide (V.str "again" = V.str "any") = false by decide) ⟨_, rfl, rfl, _, rfl, iteN (show decide (V.str "again" = V.str "signs") = false by decide) ?_⟩⟩
          exact fin _ _ (mk (some 0) H6 (Keeps.refl _ _) (Imm.refl _) (by unfold ls0; rw [hG]; rfl))
        | ahead z =>
          refine ⟨_, rfl, rfl, _, rfl, iteN (show decide (V.str "ahead" = V.str "any") = false by decide) ⟨_, rfl, rfl, _, rfl, iteN (show decide (V.str "ahead" = V.str "signs") = false by decide) ?_⟩⟩
          exact fin _ _ (mk none H6 (Keeps.refl _ _) (Imm.refl _) (by unfold ls0; rw [hG]; rfl))
        | not z =>
          refine ⟨_, rfl, rfl, _, rfl, iteN (show decide (V.str "not" = V.str "any") = false by decide) ⟨_, rfl, rfl, _, rfl, iteN (show decide (V.str "not" = V.str "signs") = false by decide) ?_⟩⟩
          exact fin _ _ (mk none H6 (Keeps.refl _ _) (Imm.refl _) (by unfold ls0; rw [hG]; rfl))
  · intro fin
    refine ⟨_, rfl, show 3 ≤ sizeLine by decide, fun u hu => ⟨_, _, rfl, .inr (sqt_of upd_same), rfl, rfl, _, rfl, ?_⟩⟩
    have ein : inV (V.str (wdO (G q.1))) [V.str "none", V.str "row", V.str "again"] = decide (wdO (G q.1) ∈ [("none" : Str), "row", "again"]) := inV_str _ ["none", "row", "again"]
    rw [if_neg Bool.false_ne_true, ein]
    have k6 := k5.new (o := .tup [V.str "none", V.str "row", V.str "again"]) hu
    have m6 := m5.new (o := .tup [V.str "none", V.str "row", V.str "again"]) hu
    have l6 : upd H5 u (.tup [V.str "none", V.str "row", V.str "again"]) l = some (.lst ((rsO (G q.1)).map V.str)) := by rw [upd_ne (ne_of_none l5 hu)]; exact l5
    exact iteB (fun hb => gName_go (fin _ _ ⟨by rw [if_pos (of_decide_eq_true hb)]; rfl, k6, m6, l6⟩)) (fun hb => gName_go (fin _ _ ⟨by rw [if_neg (of_decide_eq_false hb)]; rfl, k6, m6, l6⟩))
end
end Kr
namespace Kr
open PySem PySem.Spec PyProof.Rows L2
section
variable {P : Program} {w : World} {K : PySem.W.Frag} {mg : Str → Option Value} {base : Heap} {k : Nat}
def spRows : Sp := fun vs H Q _ => ∃ (l d : Addr) (T : Str) (names ks : List Str) (G : Str → Option Fm) (R : Ky → Rc) (rk : Str → Nat), vs = [.ref l, .ref d, .str T] ∧ StrsAt H l names ∧ names.length ≤ 7 ∧ RulesAt H d ks G ∧ (∀ x, x ∈ ks ↔ (G x).isSome = true) ∧ Sys G T R (domN names) rk ∧
  ∀ a tab H', H a = none → Keeps [] H H' → RowsM H' a (rowsL R tab) → tab.Nodup → (∀ q, q ∈ tab ↔ InDom (domN names) T q) → Q (.ref a) H'
theorem ok_law_rows (T : Tp K mg) (c_law_nobody : Calls P w K mg base k "_law_nobody" ["names"] (spNobody K)) (c_law_reading : Calls P w K mg base k "_law_reading" ["rules", "text", "table", "order", "name", "place"] (spReading 80)) : Calls P w K mg base (k + 1) "_law_rows" ["names", "rules", "text"] spRows := by
  have sc : FnScope ["names", "rules", "text", "table", "order", "name", "place", "k"] ["names", "rules", "text"] d_law_rows.scope := ⟨rfl, rfl, rfl, by decide +kernel, rfl, by decide +kernel, by decide +kernel⟩
  refine mkCall T in_law_rows rfl mg_law_rows rfl rfl sc (fun _ _ _ _ _ _ us hl => match us, hl with | [_, _, _], _ => rfl) (fun vs H Q E h => ?_) (fun f cdv A outer s H vs Q E hr h => ?_)
  · obtain ⟨l, d, TX, names, ks, G, R, rk, rfl, _⟩ := h
    rfl
  obtain ⟨l, d, TX, names, ks, G, R, rk, rfl, hl, h7, hru, hdom, S, k⟩ := h
  refine ⟨_, (pss_cons (ps_set (i := 3) sc.nd rfl (by first | exact Or.inl rfl | exact Or.inr rfl) pe_dnewT)
      (pss_cons (ps_set (i := 4) sc.nd rfl (by first | exact Or.inl rfl | exact Or.inr rfl) (pe_lst pa_nil))
      (pss_cons (ps_for PassesOwn.never rfl (pi_list (pe_op op_catS (pv 0) (pe_lst (pa_cons (pcall c_law_nobody hr (pa_cons (pv 0) pa_nil)) pa_nil)))) (pg_name (i := 5) sc.nd rfl (by first | exact Or.inl rfl | exact Or.inr rfl))
        (pss_one (ps_for PassesOwn.never rfl (pi_range1 (by rfl) (T.fre _ mf_range) (pa_cons (pe_op op_add (pe_callB call_len_str (by rfl) (T.fre _ mf_len) bt_len (pa_cons (pv 2) pa_nil)) pe_int) pa_nil)) (pg_name (i := 6) sc.nd rfl (by first | exact Or.inl rfl | exact Or.inr rfl))
        (pss_one (ps_expr (pcall c_law_reading hr (pa_cons (pv 1) (pa_cons (pv 2) (pa_cons (pv 3) (pa_cons (pv 4) (pa_cons (pv 5) (pa_cons (pv 6) pa_nil))))))))))))
      (pss_one (ps_ret (pe_lc (own := [("k", 7)]) rfl sc.nd (pi_range1 (by rfl) (T.fre _ mf_range) (pa_cons (pe_callB call_len_seq (by rfl) (T.fre _ mf_len) bt_len (pa_cons (pv 4) pa_nil)) pa_nil)) (blkOk_by (by kernel_rfl)) (fun _ _ _ _ _ => (pg_name (i := 7) sc.nd rfl (by first | exact Or.inl rfl | exact Or.inr rfl))) (fun _ _ _ _ _ => pts_nil) (fun _ _ _ _ _ => (pe_op (op_catTK (K := K) rfl) (pe_op (op_catTK (K := K) rfl) (pe_tup (pa_cons (pv 7) (pa_cons (pe_ix (ix_tupK (K := K) rfl) (pe_ix (ix_listK (K := K) rfl) (pv 4) (pv 7) (fun _ _ => rfl)) pe_int (fun _ _ => rfl)) (pa_cons (pe_ix (ix_tupK (K := K) rfl) (pe_ix (ix_listK (K := K) rfl) (pv 4) (pv 7) (fun _ _ => rfl)) pe_int (fun _ _ => rfl)) pa_nil)))) (pe_slice (sl_tupK (K := K) rfl) (pe_dget (hu_of hr) (pv 3) (pe_ix (ix_listK (K := K) rfl) (pv 4) (pv 7) (fun _ _ => rfl)) (fun _ _ => rfl)) po_none (po_some pe_int))) (pe_tup (pa_cons (pe_ix (ix_tupK (K := K) rfl) (pe_dget (hu_of hr) (pv 3) (pe_ix (ix_listK (K := K) rfl) (pv 4) (pv 7) (fun _ _ => rfl)) (fun _ _ => rfl)) pe_int (fun _ _ => rfl)) pa_nil)))))))))), ?_⟩
  have tl := S.tl
  intro t ht
  have k1 := (Keeps.refl [] H).new (o := .dT []) ht
  have m1 := (Imm.refl H).new (o := .dT []) ht
  have t1 : upd H t (.dT []) t = some (.dT []) := upd_same
  generalize upd H t (.dT []) = H1 at k1 m1 t1 ⊢
  refine ⟨by decide, fun o ho => ?_⟩
  have k2 := k1.new (o := .lst []) ho
  have m2 := m1.new (o := .lst []) ho
  have kx := (Keeps.refl [] H1).new (o := .lst []) ho
  have t2 := kx.same t1
  have o2 : upd H1 o (.lst []) o = some (.lst []) := upd_same
  have to : t ≠ o := ne_of_none t1 ho
  have hoH := k1.free0 ho
  generalize upd H1 o (.lst []) = H2 at k2 m2 t2 o2 ⊢
  have hl2 := hl.imm m2
  refine ⟨_, rfl, _, rfl, l, names, rfl, hl2.sq, by omega, fun H3 k3 m3 => ⟨show 1 ≤ sizeLine by decide, fun p hp => ?_⟩⟩
  have k4 := (k2.trans k3).new (o := .lst [V.str (nobody names)]) hp
  have m4 := (m2.trans m3).new (o := .lst [V.str (nobody names)]) hp
  have ky := k3.new (o := .lst [V.str (nobody names)]) hp
  have p4 : upd H3 p (.lst [V.str (nobody names)]) p = some (.lst [V.str (nobody names)]) := upd_same
  generalize upd H3 p (.lst [V.str (nobody names)]) = H4 at k4 m4 ky p4 ⊢
  obtain ⟨ol, hl4⟩ := hl.imm m4
  refine ⟨l, p, names.map V.str, [V.str (nobody names)], rfl, rfl, .inr ⟨_, hl4⟩, .inl p4, ?_, fun n hn => ?_⟩
  · rw [List.length_map]
    exact line5' (by show _ + 1 ≤ _; omega)
  have k5 := k4.new (o := .lst (names.map V.str ++ [V.str (nobody names)])) hn
  have m5 := m4.new (o := .lst (names.map V.str ++ [V.str (nobody names)])) hn
  have kz := ky.new (o := .lst (names.map V.str ++ [V.str (nobody names)])) hn
  have n5 : upd H4 n (.lst (names.map V.str ++ [V.str (nobody names)])) n = some (.lst ((domN names).map V.str)) := by rw [upd_same, List.map_append]; rfl
  generalize upd H4 n (.lst (names.map V.str ++ [V.str (nobody names)])) = H5 at k5 m5 kz n5 ⊢
  have t5 := kz.same t2
  have o5 := kz.same o2
  have tn : n ≠ t := fun e => by rw [e, t5] at n5; cases n5
  have on : n ≠ o := (ne_of_none (ky.same o2) hn).symm
  have nS : ∀ y : Addr, y ≠ t → y ≠ o → y ∉ [t, o] := fun y h1 h2 z => by
    simp only [List.mem_cons, List.not_mem_nil, or_false] at z
    exact z.elim h1 h2
  have hto : ∀ y ∈ [t, o], H y = none := fun y hy => by
    simp only [List.mem_cons, List.not_mem_nil, or_false] at hy
    rcases hy with z | z
    · rw [z]; exact ht
    · rw [z]; exact hoH
  have dlen : (domN names).length ≤ 8 := by show (names ++ [nobody names]).length ≤ 8; rw [List.length_append, List.length_singleton]; omega
  refine ⟨n, rfl, ⟨_, SqL.of n5⟩, ?_⟩
  refine for_it (walk_list (xs := (domN names).map V.str)) (fun i σ H' => ∃ (v5 v6 : Option V) (tab : List Ky), σ = [some (.ref l), some (.ref d), some (.str TX), some (.ref t), some (.ref o), v5, v6, none] ∧ Keeps [t, o] H5 H' ∧ Imm H5 H' ∧ TabAt R H' t tab ∧ OrdAt H' o tab ∧ tab.Nodup ∧ (∀ q ∈ tab, InDom (domN names) TX q) ∧
    ∀ x ∈ (domN names).take i, ∀ p, p ≤ TX.length → (x, p) ∈ tab) ⟨none, none, [], rfl, Keeps.refl _ _, Imm.refl _, ⟨fun _ => 0, t5, by simp⟩, ⟨[], rfl, o5, by simp⟩, List.nodup_nil, by simp, by simp⟩ (fun i σ H' _ ⟨_, _, _, _, k', _⟩ => SqL.of (k' _ _ n5 (nS _ tn on))) ?_ ?_
  · rintro i x σ H6 H6' hi ⟨v5, v6, tab, rfl, k6, m6, tb6, or6, nd6, in6, all6⟩ ⟨rfl, hx⟩
    obtain ⟨nm, hnm, hnmem, rfl⟩ := getM hx
    have few : ∀ l : List Ky, l.Nodup → (∀ x ∈ l, InDom (domN names) TX x) → l.length ≤ 72 := fun l h1 h2 => keys_few (m := 9) (n := 7) h1 h2 S.few S.tl
    refine ⟨_, rfl, TX, rfl, ?_, _, _, rfl, rfl, _, rfl, by omega, by omega, ?_⟩
    · exact line5' (by omega)
    have e0 : (((TX.length : Nat) : Int) + 1).toNat = TX.length + 1 := by omega
    rw [e0]
    refine for_it walk_range (fun j σ H' => ∃ (v6 : Option V) (tab : List Ky), σ = [some (.ref l), some (.ref d), some (.str TX), some (.ref t), some (.ref o), some (.str nm), v6, none] ∧ Keeps [t, o] H5 H' ∧ Imm H5 H' ∧ TabAt R H' t tab ∧ OrdAt H' o tab ∧ tab.Nodup ∧ (∀ q ∈ tab, InDom (domN names) TX q) ∧
      (∀ x ∈ (domN names).take i, ∀ p, p ≤ TX.length → (x, p) ∈ tab) ∧ ∀ p, p < j → (nm, p) ∈ tab) ⟨v6, tab, rfl, k6, m6, tb6, or6, nd6, in6, all6, by simp⟩ (fun _ _ _ _ _ => trivial) ?_ ?_
    · rintro j x σ H7 H7' hj ⟨v6, tab, rfl, k7, m7, tb7, or7, nd7, in7, all7, row7⟩ ⟨rfl, rfl⟩
      have ej : (0 : Int) + ((j : Nat) : Int) = ((j : Nat) : Int) := Int.zero_add _
      show gName 6 (V.int ((0 : Int) + ((j : Nat) : Int))) _ _ _
      rw [ej]
      have k07 : Keeps [] H H7' := k5.call k7 fun y hy => .inr (hto y hy)
      have m07 := m5.trans m7
      refine ⟨_, rfl, _, rfl, _, rfl, _, rfl, _, rfl, _, rfl, d, t, o, TX, (nm, j), ks, G, R, domN names, rk, tab, tab, rfl, hru.kp k07 (by simp) m07, hdom, ?_, ?_, tb7, or7, Nat.le_refl _, S, ⟨hnmem, by omega⟩, nd7, in7, ?_, fun a H8 new k8 tb8 or8 nd8 in8 got8 rec8 m8 => ?_⟩
      · obtain ⟨adr, hrd, _⟩ := hru
        exact fun e => by rcases hrd with h | ⟨_, h⟩ <;> rw [e, ht] at h <;> cases h
      · obtain ⟨adr, hrd, _⟩ := hru
        exact fun e => by rcases hrd with h | ⟨_, h⟩ <;> rw [e, hoH] at h <;> cases h
      · have := S.bd nm
        unfold mu
        show (TX.length - j) * 10 + rk nm < 80
        omega
      · refine ⟨_, tab ++ new, rfl, k7.trans k8, m7.trans m8, tb8, or8, nd8, fun q hq => ?_, fun x hx p hp => List.mem_append.mpr (.inl (all7 x hx p hp)), fun p hp => ?_⟩
        · rcases List.mem_append.mp hq with h | h
          · exact in7 q h
          · exact (in8 q h).1
        · by_cases e : p = j
          · rw [e]; exact got8
          · exact List.mem_append.mpr (.inl (row7 p (by omega)))
    · rintro σ H7 ⟨v6, tab, rfl, k7, m7, tb7, or7, nd7, in7, all7, row7⟩
      refine ⟨_, _, tab, rfl, k7, m7, tb7, or7, nd7, in7, fun x hx p hp => ?_⟩
      rw [take_snoc hnm] at hx
      rcases List.mem_append.mp hx with h | h
      · exact all7 x h p hp
      · rw [List.mem_singleton.mp h]
        exact row7 p (by omega)
  · rintro σ H6 ⟨v5, v6, tab, rfl, k6, m6, tb6, or6, nd6, in6, all6⟩
    rw [List.length_map, List.take_length] at all6
    have few := keys_few (m := 9) (n := 7) nd6 in6 S.few S.tl
    obtain ⟨es, hes, ho6, hek⟩ := id or6
    have esl : es.length = tab.length := by rw [← hes, List.length_map]
    refine ⟨_, rfl, o, _, rfl, .inl (SqL.of ho6), ?_⟩
    have e0 : (((es.map fun e => V.ref e.2).length : Nat) : Int).toNat = tab.length := by rw [List.length_map]; omega
    have hD0 : ∀ y : Addr, H6 y = none → H y = none := fun y hy => k5.free0 (k6.free hy (nS y (fun e => by
      obtain ⟨_, eT, _⟩ := tb6
      rw [e, eT] at hy; cases hy) (fun e => by rw [e, ho6] at hy; cases hy)))
    have k06 : Keeps [] H H6 := k5.call k6 fun y hy => .inr (hto y hy)
    refine ⟨_, rfl, by rw [List.length_map]; omega, by rw [List.length_map]; omega, ?_⟩
    rw [e0]
    refine fun D hD => lc_rel (List.range tab.length) (fun _ => true) V.ref (fun i a H' => ∀ q, tab[i]? = some q → RowAt H' a (rowOf R (fun q => tab.idxOf q) q)) walk_range (by rw [List.length_range]) (by rw [List.length_range]; omega) hD (fun _ _ _ => trivial) (fun _ _ _ _ i h q hq => (h q hq).imm i) ?_ ?_
    · rintro i y x Ha Ha' hy ka ma ⟨rfl, rfl⟩ R1 N hR1 _
      have hil : i < tab.length := by
        have := (List.getElem?_eq_some_iff.mp hy).1
        rw [List.length_range] at this
        exact this
      obtain rfl : i = y := by
        rw [List.getElem?_range hil] at hy
        exact Option.some.inj hy
      have ej : (0 : Int) + ((i : Nat) : Int) = ((i : Nat) : Int) := Int.zero_add _
      show gName 7 (V.int ((0 : Int) + ((i : Nat) : Int))) _ _ _
      rw [ej]
      obtain ⟨q, hq⟩ : ∃ q, tab[i]? = some q := ⟨_, List.getElem?_eq_getElem hil⟩
      obtain ⟨e, he, heq⟩ : ∃ e, es[i]? = some e ∧ e.1 = q := by
        rw [← hes, List.getElem?_map] at hq
        cases he : es[i]? with
        | none => rw [he] at hq; cases hq
        | some e => rw [he] at hq; exact ⟨e, rfl, Option.some.inj hq⟩
      subst heq
      have hem := List.mem_of_getElem? he
      have hqm := List.mem_of_getElem? hq
      have hix : tab.idxOf e.1 = i := idx_at nd6 hq
      have ho := ka.same ho6
      have hat : ∀ H' : Hp, H' o = some (.lst (es.map fun e => V.ref e.2)) → SqL K H' o (es.map fun e => V.ref e.2) := fun H' h => SqL.of h
      have hai : atI (es.map fun e => V.ref e.2) ((i : Nat) : Int) = some (V.ref e.2) := atI_nat (by rw [List.getElem?_map, he]; rfl)
      have hke := (hek e hem).imm ma
      refine ⟨rfl, _, rfl, _, rfl, _, rfl, _, _, _, _, rfl, rfl, hat _ ho, hai, _, _, _, _, rfl, rfl, sqt_of hke, at_0 rfl, _, rfl, _, rfl, _, _, _, _, rfl, rfl, hat _ ho, hai, _, _, _, _, rfl, rfl, sqt_of hke, at_1 rfl, show 3 ≤ sizeLine by decide, fun p1 hp1 => ?_⟩
      have kb := (Keeps.refl [] Ha').new (o := .tup [V.int (i : Nat), V.str e.1.1, V.int (e.1.2 : Nat)]) hp1
      have mb := (Imm.refl Ha').new (o := .tup [V.int (i : Nat), V.str e.1.1, V.int (e.1.2 : Nat)]) hp1
      have p1e : upd Ha' p1 (.tup [V.int (i : Nat), V.str e.1.1, V.int (e.1.2 : Nat)]) p1 = some (.tup [V.int (i : Nat), V.str e.1.1, V.int (e.1.2 : Nat)]) := upd_same
      generalize upd Ha' p1 (.tup [V.int (i : Nat), V.str e.1.1, V.int (e.1.2 : Nat)]) = Hb at kb mb p1e ⊢
      have kab := ka.trans kb
      have mab := ma.trans mb
      obtain ⟨ra, hget, la, lb, hra, _, hrs⟩ := (tb6.kp kab (by simp) mab).get hqm ((hek e hem).imm mab)
      refine ⟨_, rfl, _, rfl, _, rfl, _, _, _, _, rfl, rfl, hat _ (kab.same ho6), hai, t, _, rfl, hget, _, rfl, _, _, rfl, sqt_of hra, ?_, fun p2 hp2 => ?_⟩
      · rintro ⟨_, h⟩
        have h' : min 2 4 = 4 := h
        omega
      have ec : cutV [lenV (R e.1).len, .int ((R e.1).reach : Nat), .ref la, .ref lb] none (some 2) = [lenV (R e.1).len, .int ((R e.1).reach : Nat)] := cut_to 2
      rw [ec]
      have kc := kb.new (o := .tup [lenV (R e.1).len, .int ((R e.1).reach : Nat)]) hp2
      have mc := mb.new (o := .tup [lenV (R e.1).len, .int ((R e.1).reach : Nat)]) hp2
      have mx := (Imm.refl Hb).new (o := .tup [lenV (R e.1).len, .int ((R e.1).reach : Nat)]) hp2
      have p2e : upd Hb p2 (.tup [lenV (R e.1).len, .int ((R e.1).reach : Nat)]) p2 = some (.tup [lenV (R e.1).len, .int ((R e.1).reach : Nat)]) := upd_same
      generalize upd Hb p2 (.tup [lenV (R e.1).len, .int ((R e.1).reach : Nat)]) = Hc at kc mc mx p2e ⊢
      refine ⟨p1, p2, _, _, rfl, rfl, sqt_of (mx.tup p1e), sqt_of p2e, by simp, by show 3 + 2 ≤ sizeLine; decide, (fun h => nomatch h), fun _ p3 hp3 => ?_⟩
      have kd := kc.new (o := .tup ([V.int (i : Nat), V.str e.1.1, V.int (e.1.2 : Nat)] ++ [lenV (R e.1).len, .int ((R e.1).reach : Nat)])) hp3
      have md := mc.new (o := .tup ([V.int (i : Nat), V.str e.1.1, V.int (e.1.2 : Nat)] ++ [lenV (R e.1).len, .int ((R e.1).reach : Nat)])) hp3
      have p3e : upd Hc p3 (.tup ([V.int (i : Nat), V.str e.1.1, V.int (e.1.2 : Nat)] ++ [lenV (R e.1).len, .int ((R e.1).reach : Nat)])) p3 = some (.tup ([V.int (i : Nat), V.str e.1.1, V.int (e.1.2 : Nat)] ++ [lenV (R e.1).len, .int ((R e.1).reach : Nat)])) := upd_same
      generalize upd Hc p3 (.tup ([V.int (i : Nat), V.str e.1.1, V.int (e.1.2 : Nat)] ++ [lenV (R e.1).len, .int ((R e.1).reach : Nat)])) = Hd at kd md p3e ⊢
      have kad := ka.trans kd
      have mad := ma.trans md
      obtain ⟨ra2, hget2, la2, lb2, hra2, _, hrs2⟩ := (tb6.kp kad (by simp) mad).get hqm ((hek e hem).imm mad)
      refine ⟨_, rfl, _, rfl, _, rfl, _, _, _, _, rfl, rfl, hat _ (kad.same ho6), hai, t, _, rfl, hget2, _, _, _, _, rfl, rfl, sqt_of hra2, at_3 rfl, show 1 ≤ sizeLine by decide, fun p4 hp4 => ?_⟩
      have ke := kd.new (o := .tup [V.ref lb2]) hp4
      have me := md.new (o := .tup [V.ref lb2]) hp4
      have my := (Imm.refl Hd).new (o := .tup [V.ref lb2]) hp4
      have p4e : upd Hd p4 (.tup [V.ref lb2]) p4 = some (.tup [V.ref lb2]) := upd_same
      generalize upd Hd p4 (.tup [V.ref lb2]) = He_ at ke me my p4e ⊢
      refine ⟨p3, p4, _, _, rfl, rfl, sqt_of (my.tup p3e), sqt_of p4e, by simp, by show 5 + 1 ≤ sizeLine; decide, (fun h => nomatch h), fun _ p5 hp5 => ?_⟩
      refine hR1 rfl p5 _ (ke.new hp5) (me.new hp5) fun q' hq' => ?_
      obtain rfl : e.1 = q' := Option.some.inj (hq.symm.trans hq')
      refine ⟨lb2, ?_, (hrs2.imm my).imm ((Imm.refl _).new hp5)⟩
      show upd He_ p5 _ p5 = some (.tup [.int ((tab.idxOf e.1 : Nat) : Int), _, _, _, _, _])
      rw [upd_same, hix]
      rfl
    · intro zs Ha ka ma h1 h2 e1
      rw [filter_all_true] at h1
      have zl : zs.length = tab.length := by
        have := congrArg List.length h1
        rw [List.length_map, List.length_range] at this
        exact this
      have zi : ∀ j (hj : j < zs.length), (zs[j]).1 = j := fun j hj => by
        have h3 : (zs.map (·.1))[j]? = (List.range tab.length)[j]? := by rw [h1]
        rw [List.getElem?_map, List.getElem?_eq_getElem hj, List.getElem?_range (by omega)] at h3
        exact Option.some.inj h3
      refine k D tab Ha (hD0 D hD) (k06.trans ka) ⟨(List.range tab.length).pmap (fun j (hj : j < tab.length) => (rowOf R (fun q => tab.idxOf q) (tab[j]), (zs[j]'(by omega)).2)) (fun j hj => List.mem_range.mp hj), ?_, ?_, ?_⟩ nd6 fun q => ⟨in6 q, fun hq => all6 q.1 hq.1 q.2 hq.2⟩
      · unfold rowsL
        rw [List.map_pmap]
        refine List.ext_getElem (by rw [List.length_pmap, List.length_range, List.length_map]) fun j h3 h4 => ?_
        rw [List.getElem_pmap, List.getElem_map]
        congr 1
        simp
      · rw [e1, List.map_pmap]
        congr 2
        refine List.ext_getElem (by rw [List.length_pmap, List.length_range, List.length_map]; exact zl) fun j h3 h4 => ?_
        rw [List.getElem_pmap, List.getElem_map]
        simp
      · intro z hz
        obtain ⟨j, hj, rfl⟩ := List.mem_pmap.mp hz
        have hj' : j < zs.length := by have := List.mem_range.mp hj; omega
        have h3 := h2 (zs[j]) (List.getElem_mem hj')
        refine h3 _ ?_
        rw [zi j hj']
        exact List.getElem?_eq_getElem (by omega)
end
end Kr
namespace Kr
open PySem PySem.Spec PyProof.Rows L2
section
variable {P : Program} {w : World} {K : PySem.W.Frag} {mg : Str → Option Value} {base : Heap} {k : Nat}
/-- both promises of _law_alike at once -/
def spAlikeB : Sp := fun vs H Q E => spAlike0 vs H Q E ∨ spAlike1 vs H Q E
theorem ok_law_alikeB (T : Tp K mg) (c_law_alike : Calls P w K mg base k "_law_alike" ["found", "due"] spAlike0) : Calls P w K mg base (k + 1) "_law_alike" ["found", "due"] spAlikeB := by
  have sc : FnScope ["found", "due", "k"] ["found", "due"] d_law_alike.scope := ⟨rfl, rfl, rfl, by decide +kernel, rfl, by decide +kernel, by decide +kernel⟩
  refine mkCall T in_law_alike rfl mg_law_alike rfl rfl sc (fun _ _ _ _ _ _ us hl => match us, hl with | [_, _], _ => rfl) (fun vs H Q E h => ?_) (fun f cdv A outer s H vs Q E hr h => ?_)
  · rcases h with ⟨x, rfl, _⟩ | ⟨a, b, xs, rfl, _⟩ <;> rfl
  rcases h with ⟨x, rfl, hx, k⟩ | ⟨a, b, xs, rfl, ha, hb, hl, hx, k⟩
  · refine ⟨_, (pss_cons (ps_if (pt_val (pe_callB call_isiT (by rfl) (T.fre _ mf_isinstance) bt_isinstance (pa_cons (pv 1) (pa_cons (pe_tup (pa_cons (pe_bltn (v := .ty "list") (by rfl) (T.fre _ mf_list) bt_list rfl) (pa_cons (pe_bltn (v := .ty "tuple") (by rfl) (T.fre _ mf_tuple) bt_tuple rfl) pa_nil))) pa_nil)))) (pss_cons (ps_if (PW.pt (pw_or (pt_cmpR op_ne (pe_callB call_isi (by rfl) (T.fre _ mf_isinstance) bt_isinstance (pa_cons (pv 0) (pa_cons (pe_bltn (v := .ty "list") (by rfl) (T.fre _ mf_list) bt_list rfl) pa_nil))) (pe_callB call_isi (by rfl) (T.fre _ mf_isinstance) bt_isinstance (pa_cons (pv 1) (pa_cons (pe_bltn (v := .ty "list") (by rfl) (T.fre _ mf_list) bt_list rfl) pa_nil))) (nomark _)) (pw_or1 (pt_not (pt_val (pe_callB call_isiT (by rfl) (T.fre _ mf_isinstance) bt_isinstance (pa_cons (pv 0) (pa_cons (pe_tup (pa_cons (pe_bltn (v := .ty "list") (by rfl) (T.fre _ mf_list) bt_list rfl) (pa_cons (pe_bltn (v := .ty "tuple") (by rfl) (T.fre _ mf_tuple) bt_tuple rfl) pa_nil))) pa_nil)))))))) (pss_one (ps_ret pe_bl)) pss_nil)
      (pss_one (ps_ret (pe_and (pe_cmpR op_eq (pe_callB call_len_seq (by rfl) (T.fre _ mf_len) bt_len (pa_cons (pv 0) pa_nil)) (pe_callB call_len_seq (by rfl) (T.fre _ mf_len) bt_len (pa_cons (pv 1) pa_nil)) (nomark _)) (pe_one (pe_callB (cr_all rfl) (by rfl) (T.fre _ mf_all) bt_all (pa_cons (pe_lc (own := [("k", 2)]) rfl sc.nd (pi_range1 (by rfl) (T.fre _ mf_range) (pa_cons (pe_callB call_len_seq (by rfl) (T.fre _ mf_len) bt_len (pa_cons (pv 1) pa_nil)) pa_nil)) (blkOk_by (by kernel_rfl)) (fun _ _ _ _ _ => (pg_name (i := 2) sc.nd rfl (by first | exact Or.inl rfl | exact Or.inr rfl))) (fun _ _ _ _ _ => pts_nil) (fun _ _ _ _ _ => (pcall c_law_alike hr (pa_cons (pe_ix (ix_tupK (K := K) rfl) (pv 0) (pv 2) (fun _ _ => rfl)) (pa_cons (pe_ix (ix_tupK (K := K) rfl) (pv 1) (pv 2) (fun _ _ => rfl)) pa_nil))))) pa_nil))))))) pss_nil)
      (pss_cons (ps_if (PW.pt (pw_or (pt_val (pe_callB call_isi (by rfl) (T.fre _ mf_isinstance) bt_isinstance (pa_cons (pv 1) (pa_cons (pe_bltn (v := .ty "bool") (by rfl) (T.fre _ mf_bool) bt_bool rfl) pa_nil)))) (pw_or1 (pt_val (pe_callB call_isi (by rfl) (T.fre _ mf_isinstance) bt_isinstance (pa_cons (pv 0) (pa_cons (pe_bltn (v := .ty "bool") (by rfl) (T.fre _ mf_bool) bt_bool rfl) pa_nil))))))) (pss_one (ps_ret (pe_and (pe_callB call_isi (by rfl) (T.fre _ mf_isinstance) bt_isinstance (pa_cons (pv 1) (pa_cons (pe_bltn (v := .ty "bool") (by rfl) (T.fre _ mf_bool) bt_bool rfl) pa_nil))) (pe_and (pe_callB call_isi (by rfl) (T.fre _ mf_isinstance) bt_isinstance (pa_cons (pv 0) (pa_cons (pe_bltn (v := .ty "bool") (by rfl) (T.fre _ mf_bool) bt_bool rfl) pa_nil))) (pe_one (pe_cmpR op_eq (pv 0) (pv 1) (nomark _))))))) pss_nil)
      (pss_one (ps_ret (pe_cmpR op_eq (pv 0) (pv 1) (nomark _)))))), ?_⟩
    rcases hx with rfl | ⟨i, rfl⟩
    · refine ⟨_, rfl, show 2 ≤ sizeLine by decide, fun tp htp => ⟨_, tp, _, _, _, _, rfl, upd_same, .cons (.ty _) (.cons (.ty _) .nil), .base .non, rfl, _, rfl, iteF ?_⟩⟩
      refine ⟨_, rfl, _, _, _, _, _, rfl, .ty _, .base .non, rfl, _, rfl, iteF ?_⟩
      refine ⟨_, rfl, _, _, _, _, _, rfl, .ty _, .base .non, rfl, _, rfl, iteF ?_⟩
      exact ⟨_, rfl, _, rfl, rfl, qb rfl (k _ ((Keeps.refl _ _).new htp))⟩
    · refine ⟨_, rfl, show 2 ≤ sizeLine by decide, fun tp htp => ⟨_, tp, _, _, _, _, rfl, upd_same, .cons (.ty _) (.cons (.ty _) .nil), .base (.int _), rfl, _, rfl, iteF ?_⟩⟩
      refine ⟨_, rfl, _, _, _, _, _, rfl, .ty _, .base (.int _), rfl, _, rfl, iteF ?_⟩
      refine ⟨_, rfl, _, _, _, _, _, rfl, .ty _, .base (.int _), rfl, _, rfl, iteF ?_⟩
      exact ⟨_, rfl, _, rfl, rfl, qb (dec_int_eq rfl) (k _ ((Keeps.refl _ _).new htp))⟩
  · refine ⟨_, (pss_cons (ps_if (pt_val (pe_callB call_isiT (by rfl) (T.fre _ mf_isinstance) bt_isinstance (pa_cons (pv 1) (pa_cons (pe_tup (pa_cons (pe_bltn (v := .ty "list") (by rfl) (T.fre _ mf_list) bt_list rfl) (pa_cons (pe_bltn (v := .ty "tuple") (by rfl) (T.fre _ mf_tuple) bt_tuple rfl) pa_nil))) pa_nil)))) (pss_cons (ps_if (PW.pt (pw_or (pt_cmpR op_ne (pe_callB call_isi (by rfl) (T.fre _ mf_isinstance) bt_isinstance (pa_cons (pv 0) (pa_cons (pe_bltn (v := .ty "list") (by rfl) (T.fre _ mf_list) bt_list rfl) pa_nil))) (pe_callB call_isi (by rfl) (T.fre _ mf_isinstance) bt_isinstance (pa_cons (pv 1) (pa_cons (pe_bltn (v := .ty "list") (by rfl) (T.fre _ mf_list) bt_list rfl) pa_nil))) (nomark _)) (pw_or1 (pt_not (pt_val (pe_callB call_isiT (by rfl) (T.fre _ mf_isinstance) bt_isinstance (pa_cons (pv 0) (pa_cons (pe_tup (pa_cons (pe_bltn (v := .ty "list") (by rfl) (T.fre _ mf_list) bt_list rfl) (pa_cons (pe_bltn (v := .ty "tuple") (by rfl) (T.fre _ mf_tuple) bt_tuple rfl) pa_nil))) pa_nil)))))))) (pss_one (ps_ret pe_bl)) pss_nil)
      (pss_one (ps_ret (pe_and (pe_cmpR op_eq (pe_callB call_len_seq (by rfl) (T.fre _ mf_len) bt_len (pa_cons (pv 0) pa_nil)) (pe_callB call_len_seq (by rfl) (T.fre _ mf_len) bt_len (pa_cons (pv 1) pa_nil)) (nomark _)) (pe_one (pe_callB (cr_all rfl) (by rfl) (T.fre _ mf_all) bt_all (pa_cons (pe_lc (own := [("k", 2)]) rfl sc.nd (pi_range1 (by rfl) (T.fre _ mf_range) (pa_cons (pe_callB call_len_seq (by rfl) (T.fre _ mf_len) bt_len (pa_cons (pv 1) pa_nil)) pa_nil)) (blkOk_by (by kernel_rfl)) (fun _ _ _ _ _ => (pg_name (i := 2) sc.nd rfl (by first | exact Or.inl rfl | exact Or.inr rfl))) (fun _ _ _ _ _ => pts_nil) (fun _ _ _ _ _ => (pcall c_law_alike hr (pa_cons (pe_ix (ix_tupK (K := K) rfl) (pv 0) (pv 2) (fun _ _ => rfl)) (pa_cons (pe_ix (ix_tupK (K := K) rfl) (pv 1) (pv 2) (fun _ _ => rfl)) pa_nil))))) pa_nil))))))) pss_nil)
      (pss_cons (ps_if (PW.pt (pw_or (pt_val (pe_callB call_isi (by rfl) (T.fre _ mf_isinstance) bt_isinstance (pa_cons (pv 1) (pa_cons (pe_bltn (v := .ty "bool") (by rfl) (T.fre _ mf_bool) bt_bool rfl) pa_nil)))) (pw_or1 (pt_val (pe_callB call_isi (by rfl) (T.fre _ mf_isinstance) bt_isinstance (pa_cons (pv 0) (pa_cons (pe_bltn (v := .ty "bool") (by rfl) (T.fre _ mf_bool) bt_bool rfl) pa_nil))))))) (pss_one (ps_ret (pe_and (pe_callB call_isi (by rfl) (T.fre _ mf_isinstance) bt_isinstance (pa_cons (pv 1) (pa_cons (pe_bltn (v := .ty "bool") (by rfl) (T.fre _ mf_bool) bt_bool rfl) pa_nil))) (pe_and (pe_callB call_isi (by rfl) (T.fre _ mf_isinstance) bt_isinstance (pa_cons (pv 0) (pa_cons (pe_bltn (v := .ty "bool") (by rfl) (T.fre _ mf_bool) bt_bool rfl) pa_nil))) (pe_one (pe_cmpR op_eq (pv 0) (pv 1) (nomark _))))))) pss_nil)
      (pss_one (ps_ret (pe_cmpR op_eq (pv 0) (pv 1) (nomark _)))))), ?_⟩
    refine ⟨_, rfl, show 2 ≤ sizeLine by decide, fun tp htp => ?_⟩
    have k1 := (Keeps.refl [] H).new (o := .tup [.ty "list", .ty "tuple"]) htp
    have e1 : upd H tp (.tup [.ty "list", .ty "tuple"]) tp = some (.tup [.ty "list", .ty "tuple"]) := upd_same
    generalize upd H tp (.tup [.ty "list", .ty "tuple"]) = H1 at k1 e1 ⊢
    refine ⟨_, tp, _, _, _, _, rfl, e1, .cons (.ty _) (.cons (.ty _) .nil), .base (.tup (k1.same hb)), rfl, _, rfl, iteT ?_⟩
    refine ⟨_, rfl, _, _, _, _, _, rfl, .ty _, .base (.tup (k1.same ha)), rfl, _, rfl, _, _, _, _, _, rfl, .ty _, .base (.tup (k1.same hb)), rfl, rfl, _, rfl, iteN (by decide) ?_⟩
    refine ⟨_, rfl, show 2 ≤ sizeLine by decide, fun tq htq => ?_⟩
    have k2 := k1.new (o := .tup [.ty "list", .ty "tuple"]) htq
    have e2 : upd H1 tq (.tup [.ty "list", .ty "tuple"]) tq = some (.tup [.ty "list", .ty "tuple"]) := upd_same
    generalize upd H1 tq (.tup [.ty "list", .ty "tuple"]) = H2 at k2 e2 ⊢
    refine ⟨_, tq, _, _, _, _, rfl, e2, .cons (.ty _) (.cons (.ty _) .nil), .base (.tup (k2.same ha)), rfl, _, rfl, iteF ?_⟩
    refine ⟨_, rfl, a, _, rfl, .inr (sqt_of (k2.same ha)), _, rfl, b, _, rfl, .inr (sqt_of (k2.same hb)), rfl, _, rfl, iteY (dec_int_eq rfl) ?_⟩
    refine ⟨_, rfl, b, _, rfl, .inr (sqt_of (k2.same hb)), _, rfl, by omega, by omega, fun D hD => ?_⟩
    rw [Int.toNat_natCast]
    refine lc_map walk_range V.bl (fun _ => true) (by omega) hD (fun _ _ _ => trivial) ?_ ?_
    · rintro i x H3 H3' hi k3 m3 ⟨rfl, rfl⟩ R hR
      have hg : xs[i]? = some (xs[i]'(by omega)) := List.getElem?_eq_getElem (by omega)
      have hat := atI_nat hg
      have e0 : (0 : Int) + (i : Nat) = ((i : Nat) : Int) := Int.zero_add _
      refine ⟨rfl, _, rfl, _, rfl, a, _, _, _, rfl, rfl, sqt_of ((k2.trans k3).same ha), by first | (rw [e0]; exact hat) | (dsimp only; rw [e0]; exact hat), _, rfl, _, rfl, b, _, _, _, rfl, rfl, sqt_of ((k2.trans k3).same hb), by first | (rw [e0]; exact hat) | (dsimp only; rw [e0]; exact hat), _, rfl, hx _ (List.getElem_mem _), fun H4 k4 m4 => hR _ k4 m4⟩
    · intro H3 k3 m3 e3
      refine ⟨D, _, rfl, SqL.of e3, ?_⟩
      rw [all_true]
      exact k _ (k2.trans k3)
end
end Kr
namespace Kr
open PySem PySem.Spec PyProof.Rows L2
section
variable {P : Program} {w : World} {K : PySem.W.Frag} {mg : Str → Option Value} {base : Heap} {k : Nat}
/-- a reader that keeps the rows rs -/
structure Holds_ (K : PySem.W.Frag) (H : Hp) (ra t : Addr) (T : Str) (R : Ky → Rc) (D : List Str) (tab : List Ky) (rs : List Rw) : Prop where
  rd : ∃ (dx rd nm dl : Addr) (fu : Int) (nks : List Ky) (num : Ky → Nat), H ra = some (.ins (He.ga K "Reader") dx (fldsR rd t nm dl T fu)) ∧ NumAt num H nm nks ∧ t ≠ nm ∧ (∀ q ∈ tab, q ∈ nks) ∧ (∀ q ∈ tab, ∀ q' ∈ tab, num q = num q' → q = q') ∧
    (∀ rs' : List Rw, rs'.Pairwise (fun a b => a.num < b.num) → (∀ r, r ∈ rs' ↔ ∃ q ∈ tab, r = rowOf R num q) → rs' = rs) ∧ ∀ r ∈ rs, ∃ q ∈ tab, r = rowOf R num q
  tb : TabAt R H t tab
  tra : t ≠ ra
  nd : tab.Nodup
  dom : ∀ q ∈ tab, InDom D T q
  few : tab.length ≤ 63
def spStill (K : PySem.W.Frag) : Sp := fun vs H Q _ => ∃ (ra d dl t : Addr) (T : Str) (ks : List Str) (G : Str → Option Fm) (R : Ky → Rc) (D : List Str) (rk : Str → Nat) (tab : List Ky) (rs : List Rw) (es : List (Rw × Addr)), vs = [.ref ra, .ref d, .str T, .ref dl] ∧
  Holds_ K H ra t T R D tab rs ∧ es.map (·.1) = rs ∧ SqL K H dl (es.map fun e => .ref e.2) ∧ (∀ e ∈ es, RowAt H e.2 e.1) ∧ rs.length ≤ 1000 ∧
  RulesAt H d ks G ∧ (∀ x, x ∈ ks ↔ (G x).isSome = true) ∧ Sys G T R D rk ∧ ∀ H', Keeps [] H H' → Q (.bl true) H'
theorem ok_law_still (T : Tp K mg) (c_law_reading : Calls P w K mg base k "_law_reading" ["rules", "text", "table", "order", "name", "place"] (spReading 80)) (c_law_alike : Calls P w K mg base k "_law_alike" ["found", "due"] spAlikeB)
    (m_Reader_kept : CallsM P w K mg base k (He.ga K "Reader") "kept" ["self"] (spKept K)) (m_Reader_read : CallsM P w K mg base k (He.ga K "Reader") "read" ["self", "name", "place"] (spRead K)) (m_Reader_made : CallsM P w K mg base k (He.ga K "Reader") "made" ["self"] (spMade K)) :
    Calls P w K mg base (k + 1) "_law_still" ["reader", "rules", "text", "due"] (spStill K) := by
  have sc : FnScope ["reader", "rules", "text", "due", "table", "number", "name", "place", "length", "reach", "leans", "record"] ["reader", "rules", "text", "due"] d_law_still.scope := ⟨rfl, rfl, rfl, by decide +kernel, rfl, by decide +kernel, by decide +kernel⟩
  refine mkCall T in_law_still rfl mg_law_still rfl rfl sc (fun _ _ _ _ _ _ us hl => match us, hl with | [_, _, _, _], _ => rfl) (fun vs H Q E h => ?_) (fun f cdv A outer s H vs Q E hr h => ?_)
  · obtain ⟨ra, d, dl, t, TX, ks, G, R, D, rk, tab, rs, es, rfl, _⟩ := h
    rfl
  obtain ⟨ra, d, dl, t, TX, ks, G, R, D, rk, tab, rs, es, rfl, Hd, hes, hdl, hrow, hrl, hru, hdom, S, k⟩ := h
  refine ⟨_, (pss_cons (ps_if (pt_cmpR (op_neD hr.units) (pmeth0 (pv 0) (T.cls mk_Reader) m_Reader_kept hr) (pv 3) (nomark _)) (pss_one (ps_ret pe_bl)) pss_nil)
      (pss_cons (ps_set (i := 4) sc.nd rfl (by first | exact Or.inl rfl | exact Or.inr rfl) pe_dnewT)
      (pss_cons (ps_for PassesOwn.never rfl (pi_list (pe_revL (pv 3))) (pg_tupK (K := K) (n := 6) rfl rfl (pgs_cons (pg_name (i := 5) sc.nd rfl (by first | exact Or.inl rfl | exact Or.inr rfl)) (pgs_cons (pg_name (i := 6) sc.nd rfl (by first | exact Or.inl rfl | exact Or.inr rfl)) (pgs_cons (pg_name (i := 7) sc.nd rfl (by first | exact Or.inl rfl | exact Or.inr rfl)) (pgs_cons (pg_name (i := 8) sc.nd rfl (by first | exact Or.inl rfl | exact Or.inr rfl)) (pgs_cons (pg_name (i := 9) sc.nd rfl (by first | exact Or.inl rfl | exact Or.inr rfl)) (pgs_cons (pg_name (i := 10) sc.nd rfl (by first | exact Or.inl rfl | exact Or.inr rfl)) pgs_nil)))))))
        (pss_cons (ps_set (i := 11) sc.nd rfl (by first | exact Or.inl rfl | exact Or.inr rfl) (pcall c_law_reading hr (pa_cons (pv 1) (pa_cons (pv 2) (pa_cons (pv 4) (pa_cons (pe_lst pa_nil) (pa_cons (pv 6) (pa_cons (pv 7) pa_nil))))))))
      (pss_cons (ps_if (pt_cmpR (op_neD hr.units) (pe_tup (pa_cons (pe_ix ix_tup (pv 11) pe_int (fun _ _ => rfl)) (pa_cons (pe_ix ix_tup (pv 11) pe_int (fun _ _ => rfl)) (pa_cons (pe_ix ix_tup (pv 11) pe_int (fun _ _ => rfl)) pa_nil)))) (pe_tup (pa_cons (pv 8) (pa_cons (pv 9) (pa_cons (pv 10) pa_nil)))) (nomark _)) (pss_one (ps_ret pe_bl)) pss_nil)
      (pss_one (ps_if (pt_not (pt_val (pcall c_law_alike hr (pa_cons (pmeth (pv 0) (T.cls mk_Reader) m_Reader_read hr (pa_cons (pv 6) (pa_cons (pv 7) pa_nil))) (pa_cons (pe_tup (pa_cons (pv 8) (pa_cons (pv 9) pa_nil))) pa_nil))))) (pss_one (ps_ret pe_bl)) pss_nil)))))
      (pss_one (ps_ret (pcall c_law_alike hr (pa_cons (pmeth0 (pv 0) (T.cls mk_Reader) m_Reader_made hr) (pa_cons pe_int pa_nil)))))))), ?_⟩
  obtain ⟨⟨dx, rd, nm, ddl, fu, nks, num, hra, hnum, htnm, hsub, hinj, hsame, hof⟩, htab, htra, hnd, hin, h63⟩ := Hd
  have C := T.cls mk_Reader
  have tl := S.tl
  have hrok : ∀ r ∈ rs, RwOk r := fun r hr => by
    obtain ⟨q, hq, rfl⟩ := hof r hr
    have dm := hin q hq
    exact ⟨S.nm _ dm.1, fun z hz => S.nm _ (S.leansD dm z hz)⟩
  refine ⟨_, rfl, ra, dx, _, rfl, hra, rfl, ra, dx, rd, t, nm, ddl, TX, fu, R, tab, nks, num, rfl, hra, htab, hnum, htnm, htra, hnd, h63, hsub, hinj, fun l rs' H1 hl k1 rm pw hm m1 => ?_⟩
  obtain rfl := hsame rs' pw hm
  obtain ⟨es', hes', hl1, hrow'⟩ := rm
  refine ⟨_, rfl, rowsD rs', rowsD rs', ?_, ?_, shp (rows_lay hrok) (by decide), shp (rows_lay hrok) (by decide), ?_⟩
  · rw [← hes']; exact dp_rows (SqL.of hl1) hrow'
  · rw [← hes]; exact dp_rows (sq_kp hdl k1 (by simp)) fun e he => (hrow e he).imm m1
  rw [self_eqv (rows_lay hrok).1]
  refine ⟨_, rfl, iteN (by decide) ?_⟩
  intro t2 ht2
  have kd := k1.new (o := .dT []) ht2
  have md := m1.new (o := .dT []) ht2
  have t2e : upd H1 t2 (.dT []) t2 = some (.dT []) := upd_same
  have ht2H : H t2 = none := k1.free0 ht2
  generalize upd H1 t2 (.dT []) = H2 at kd md t2e ⊢
  refine ⟨_, rfl, dl, _, rfl, sq_kp hdl kd (by simp), fun p hp => ⟨p, rfl, ⟨_, SqL.of upd_same⟩, ?_⟩⟩
  have ke := kd.new (o := .lst (es.map fun e => V.ref e.2).reverse) hp
  have me := md.new (o := .lst (es.map fun e => V.ref e.2).reverse) hp
  have pe : upd H2 p (.lst (es.map fun e => V.ref e.2).reverse) p = some (.lst (es.reverse.map fun e => V.ref e.2)) := by rw [List.map_reverse]; exact upd_same
  have t2p := ne_of_none t2e hp
  have t3e : upd H2 p (.lst (es.map fun e => V.ref e.2).reverse) t2 = some (.dT []) := by rw [upd_ne t2p]; exact t2e
  rw [← List.map_reverse]
  rw [← List.map_reverse] at ke me pe t3e
  generalize upd H2 p (.lst (es.reverse.map fun e => V.ref e.2)) = H3 at ke me pe t3e ⊢
  have nS : ∀ y : Addr, y ≠ t2 → y ∉ [t2] := fun y h z => h (List.mem_singleton.mp z)
  refine for_it (walk_list (xs := es.reverse.map fun e => V.ref e.2)) (fun i σ H' => ∃ (v5 v6 v7 v8 v9 v10 v11 : Option V) (tb2 : List Ky), σ = [some (.ref ra), some (.ref d), some (.str TX), some (.ref dl), some (.ref t2), v5, v6, v7, v8, v9, v10, v11] ∧ Keeps [t2] H3 H' ∧ Imm H3 H' ∧ TabAt R H' t2 tb2 ∧ tb2.Nodup ∧ ∀ q ∈ tb2, InDom D TX q)
    ⟨none, none, none, none, none, none, none, [], rfl, Keeps.refl _ _, Imm.refl _, ⟨fun _ => 0, t3e, by simp⟩, List.nodup_nil, by simp⟩ (fun i σ H' _ ⟨_, _, _, _, _, _, _, _, _, k', _⟩ => SqL.of (k' _ _ pe (nS _ t2p.symm))) ?_ ?_
  · rintro i x σ H4 H4' hi ⟨v5, v6, v7, v8, v9, v10, v11, tb2, rfl, k4, m4, tb4, nd4, in4⟩ ⟨rfl, hx⟩
    obtain ⟨e, he1, hm, rfl⟩ := getM hx
    have hem := List.mem_reverse.mp hm
    have her : e.1 ∈ rs' := by rw [← hes]; exact List.mem_map.mpr ⟨e, hem, rfl⟩
    obtain ⟨q, hq, heq⟩ := hof _ her
    have k04 : Keeps [] H H4' := ke.call k4 fun y hy => .inr (by rw [List.mem_singleton.mp hy]; exact ht2H)
    have m04 := me.trans m4
    obtain ⟨lb, q1, q2⟩ := (hrow e hem).imm m04
    rw [heq] at q1 q2
    change H4' e.2 = some (.tup [.int (num q : Nat), .str q.1, .int (q.2 : Nat), lenV (R q).len, .int ((R q).reach : Nat), .ref lb]) at q1
    have dm := hin q hq
    refine ⟨e.2, _, rfl, sqt_of q1, rfl, _, _, rfl, _, _, rfl, _, _, rfl, _, _, rfl, _, _, rfl, _, _, rfl, rfl, ?_⟩
    refine ⟨_, rfl, _, rfl, _, rfl, by decide, fun ol hol => ?_⟩
    have k5 := (Keeps.refl [] H4').new (o := .lst []) hol
    have m5 := (Imm.refl H4').new (o := .lst []) hol
    have ole : upd H4' ol (.lst []) ol = some (.lst []) := upd_same
    obtain ⟨ad4, tb4e, _⟩ := id tb4
    have olt := ne_of_none tb4e hol
    generalize upd H4' ol (.lst []) = H5 at k5 m5 ole ⊢
    have k05 := k04.trans k5
    have m05 := m04.trans m5
    obtain ⟨adr, hrd, _⟩ := id hru
    have hdd : H d ≠ none := by rcases hrd with h | ⟨_, h⟩ <;> rw [h] <;> exact fun z => nomatch z
    refine ⟨_, rfl, _, rfl, d, t2, ol, TX, q, ks, G, R, D, rk, tb2, [], rfl, hru.kp k05 (by simp) m05, hdom, (fun h => hdd (by rw [h]; exact ht2H)), (fun h => hdd (by rw [h]; exact k04.free0 hol)), tb4.kp k5 (by simp) m5, ⟨[], rfl, ole, by simp⟩, Nat.zero_le _, S, dm, nd4, in4, ?_, fun rc H6 new k6 tb6 _ nd6 in6 got6 rec6 m6 => ?_⟩
    · have := S.bd q.1
      unfold mu
      omega
    have olH : H ol = none := k04.free0 hol
    have k06 : Keeps [] H H6 := k05.call k6 fun y hy => .inr (by
      simp only [List.mem_cons, List.not_mem_nil, or_false] at hy
      rcases hy with z | z
      · rw [z]; exact ht2H
      · rw [z]; exact olH)
    have m06 := m05.trans m6
    have k36 : Keeps [t2] H3 H6 := (k4.trans k5.nil).call k6 fun y hy => by
      simp only [List.mem_cons, List.not_mem_nil, or_false] at hy
      rcases hy with z | z
      · exact .inl (by rw [z]; simp)
      · exact .inr (by rw [z]; exact k4.free hol (nS _ olt.symm))
    have m36 := (m4.trans m5).trans m6
    obtain ⟨la, lc, hrc, _, hls⟩ := rec6
    refine ⟨_, rfl, _, _, _, _, rfl, rfl, sqt_of hrc, at_0 rfl, _, rfl, _, _, _, _, rfl, rfl, sqt_of hrc, at_1 rfl, _, rfl, _, _, _, _, rfl, rfl, sqt_of hrc, at_3 rfl, show 3 ≤ sizeLine by decide, fun u hu => ?_⟩
    have k7 := (Keeps.refl [] H6).new (o := .tup [lenV (R q).len, V.int ((R q).reach : Nat), V.ref lc]) hu
    have m7 := (Imm.refl H6).new (o := .tup [lenV (R q).len, V.int ((R q).reach : Nat), V.ref lc]) hu
    have ue : upd H6 u (.tup [lenV (R q).len, V.int ((R q).reach : Nat), V.ref lc]) u = some (.tup [lenV (R q).len, V.int ((R q).reach : Nat), V.ref lc]) := upd_same
    generalize upd H6 u (.tup [lenV (R q).len, V.int ((R q).reach : Nat), V.ref lc]) = H7 at k7 m7 ue ⊢
    refine ⟨_, rfl, _, rfl, _, rfl, show 3 ≤ sizeLine by decide, fun v hv => ?_⟩
    have k8 := k7.new (o := .tup [lenV (R q).len, V.int ((R q).reach : Nat), V.ref lb]) hv
    have m8 := m7.new (o := .tup [lenV (R q).len, V.int ((R q).reach : Nat), V.ref lb]) hv
    have mx := (Imm.refl H7).new (o := .tup [lenV (R q).len, V.int ((R q).reach : Nat), V.ref lb]) hv
    have ve : upd H7 v (.tup [lenV (R q).len, V.int ((R q).reach : Nat), V.ref lb]) v = some (.tup [lenV (R q).len, V.int ((R q).reach : Nat), V.ref lb]) := upd_same
    show rNeD _ _ _ (upd H7 v (.tup [lenV (R q).len, V.int ((R q).reach : Nat), V.ref lb])) _
    generalize upd H7 v (.tup [lenV (R q).len, V.int ((R q).reach : Nat), V.ref lb]) = H8 at k8 m8 mx ve ⊢
    have tz : ∀ z ∈ (R q).leans, okN z := fun z hz => S.nm _ (S.leansD dm z hz)
    have q28 : StrsAt H8 lb (R q).leans := (((q2.imm m5).imm m6).imm m8)
    refine ⟨_, _, dp_trip (sqt_of (mx.tup ue)) (hls.imm m8).sq, dp_trip (sqt_of ve) q28.sq, shp (trip_lay _ _ tz) (by decide), shp (trip_lay _ _ tz) (by decide), false, neS (trip_lay _ _ tz).1, iteF ?_⟩
    have k08 := k06.trans k8
    have m08 := m06.trans m8
    have k38 := k36.trans k8.nil
    have m38 := m36.trans m8
    refine ⟨_, rfl, ra, dx, _, rfl, k08.same hra, rfl, _, rfl, _, rfl, ra, dx, rd, t, nm, ddl, TX, fu, R, tab, q, rfl, k08.same hra, (htab.kp k08 (by simp) m08).rd, hq, S.nm _ dm.1, dm.2, by omega, fun a9 H9 k9 e9 m9 => ?_⟩
    refine ⟨_, rfl, _, rfl, show 2 ≤ sizeLine by decide, fun b9 hb9 => ?_⟩
    have k10 := k9.new (o := .tup [lenV (R q).len, V.int ((R q).reach : Nat)]) hb9
    have m10 := m9.new (o := .tup [lenV (R q).len, V.int ((R q).reach : Nat)]) hb9
    have my := (Imm.refl H9).new (o := .tup [lenV (R q).len, V.int ((R q).reach : Nat)]) hb9
    have be : upd H9 b9 (.tup [lenV (R q).len, V.int ((R q).reach : Nat)]) b9 = some (.tup [lenV (R q).len, V.int ((R q).reach : Nat)]) := upd_same
    show spAlikeB _ (upd H9 b9 (.tup [lenV (R q).len, V.int ((R q).reach : Nat)])) _ _
    generalize upd H9 b9 (.tup [lenV (R q).len, V.int ((R q).reach : Nat)]) = H10 at k10 m10 my be ⊢
    refine .inr ⟨a9, b9, _, rfl, my.tup e9, be, by show 2 ≤ 100; decide, fun x hx => ?_, fun H11 k11 m11 => ?_⟩
    · simp only [List.mem_cons, List.not_mem_nil, or_false] at hx
      rcases hx with z | z
      · rw [z]
        cases (R q).len with
        | none => exact .inl rfl
        | some n => exact .inr ⟨_, rfl⟩
      · exact .inr ⟨_, z⟩
    have kF := (k38.trans k10.nil).trans k11.nil
    have mF := (m38.trans m10).trans m11
    have kt : Keeps [] H6 H11 := (k8.trans k10).trans k11
    have mt : Imm H6 H11 := (m8.trans m10).trans m11
    have nt2 : ∀ y : Addr, y ≠ t2 → y ∉ [t2] := nS
    refine ⟨_, rfl, iteN rfl ⟨_, _, _, _, _, _, _, tb2 ++ new, rfl, kF, mF, tb6.kp kt (by simp) mt, nd6, fun z hz => ?_⟩⟩
    rcases List.mem_append.mp hz with h | h
    · exact in4 z h
    · exact (in6 z h).1
  · rintro σ H4 ⟨v5, v6, v7, v8, v9, v10, v11, tb2, rfl, k4, m4, _⟩
    have k04 : Keeps [] H H4 := ke.call k4 fun y hy => .inr (by rw [List.mem_singleton.mp hy]; exact ht2H)
    refine ⟨_, rfl, ra, dx, _, rfl, k04.same hra, rfl, ra, dx, rd, t, nm, ddl, TX, fu, rfl, k04.same hra, fun m5 => ?_⟩
    exact .inl ⟨_, rfl, .inr ⟨_, rfl⟩, fun H6 k6 m6 => k H6 (k04.trans k6)⟩
end
end Kr
/-! plain: the book of the rules, what a put and a rule leave -/
namespace Kr
open PySem PySem.Spec PyProof.Rows L2
theorem book_of {H' : Hp} {l : Addr} {names : List Str} {G : Str → Option Fm} {ad : Str → Addr} {ps : List (Addr × Str × Addr)} {od : Obj} (nd : names.Nodup) (hf : ∀ x ∈ names, ∃ f, G x = some f ∧ FormAt H' (ad x) f) (no : ∀ x, x ∉ names → G x = none)
    (perm : (ps.map (·.2)).Perm (names.reverse.map fun x => (x, ad x))) (srt : (ps.map (·.2)).Pairwise (fun e f => slt f.1 e.1 = false)) (hl : H' l = some (.frz od (.lst (ps.map fun z => V.ref z.1)))) (ht : ∀ z ∈ ps, H' z.1 = some (.tup [.str z.2.1, .ref z.2.2])) :
    ∃ bs : List (Str × Fm), BookAt H' l bs ∧ Ris1 (bs.map (·.1)) ∧ (bs.map (·.1)).Perm names ∧ bookG bs = G ∧ ∀ b ∈ bs, G b.1 = some b.2 := by
  let bs : List (Str × Fm) := ps.map fun z => (z.2.1, (G z.2.1).getD .none)
  have e1 : bs.map (·.1) = (ps.map (·.2)).map (·.1) := by
    show (ps.map _).map _ = _
    rw [List.map_map, List.map_map]
    rfl
  have p1 : (bs.map (·.1)).Perm names := by
    rw [e1]
    have e2 : (names.reverse.map fun x => (x, ad x)).map (·.1) = names.reverse := by
      rw [List.map_map]
      exact List.map_id _
    have := perm.map (·.1)
    rw [e2] at this
    exact this.trans (List.reverse_perm _)
  have zin : ∀ z ∈ ps, z.2.1 ∈ names ∧ z.2.2 = ad z.2.1 := fun z hz => by
    have := perm.mem_iff.mp (List.mem_map.mpr ⟨z, hz, rfl⟩)
    obtain ⟨x, hx, e⟩ := List.mem_map.mp this
    rw [← e]
    exact ⟨List.mem_reverse.mp hx, rfl⟩
  have bG : ∀ b ∈ bs, G b.1 = some b.2 := fun b hb => by
    obtain ⟨z, hz, rfl⟩ := List.mem_map.mp hb
    obtain ⟨f, h1, _⟩ := hf _ (zin z hz).1
    show G z.2.1 = some ((G z.2.1).getD .none)
    rw [h1]
    rfl
  have nd1 : (bs.map (·.1)).Nodup := p1.nodup_iff.mpr nd
  refine ⟨bs, ⟨od, ps.map fun z => ((z.2.1, (G z.2.1).getD .none), z.1), ?_, ?_, ?_⟩, ?_, p1, ?_, bG⟩
  · rw [List.map_map]
    rfl
  · rw [List.map_map]
    exact hl
  · intro e he
    obtain ⟨z, hz, rfl⟩ := List.mem_map.mp he
    obtain ⟨h1, h2⟩ := zin z hz
    obtain ⟨f, h3, h4⟩ := hf _ h1
    refine ⟨z.2.2, ht z hz, ?_⟩
    show FormAt H' z.2.2 ((G z.2.1).getD .none)
    rw [h3, h2]
    exact h4
  · rw [e1]
    have n2 : ((ps.map (·.2)).map (·.1)).Nodup := by rw [← e1]; exact nd1
    unfold List.Nodup at n2
    rw [List.pairwise_map] at n2
    show List.Pairwise _ _
    rw [List.pairwise_map]
    refine List.Pairwise.imp (fun {a b} h => ?_) (srt.and n2)
    rcases slt_tri a.1 b.1 with c | c | c
    · exact c
    · exact absurd c h.2
    · rw [h.1] at c; cases c
  · funext x
    by_cases hx : x ∈ names
    · obtain ⟨b, hb, e⟩ := List.mem_map.mp (p1.mem_iff.mpr hx)
      rw [← e, bookG_in nd1 hb, bG b hb]
    · rw [no x hx]
      cases h : bookG bs x with
      | none => rfl
      | some f => exact absurd (p1.mem_iff.mp (List.mem_map.mpr ⟨_, bookG_some h, rfl⟩)) hx
/-- what the law drew -/
structure Wd (H : Hp) (d rl : Addr) (names : List Str) (G : Str → Option Fm) (T : Str) (E : Str → Bool) (rk : Str → Nat) (tab : List Ky) : Prop where
  rules : RulesM H d names.reverse G
  few : names.length ≤ 7
  nd : names.Nodup
  nm : ∀ x ∈ names, okN x
  no : ∀ x, x ∉ names → G x = none
  dom : ∀ x f, G x = some f → x ∈ domN names ∧ f.ok ∧ ∀ q ∈ f.parts, q ∈ domN names
  rkd : Ranked G E rk
  tl : T.length ≤ 5
  tT : okT T
  rows : RowsAt H rl (rowsL (rdG G T) tab)
  tnd : tab.Nodup
  tin : ∀ q, q ∈ tab ↔ InDom (domN names) T q
theorem Wd.kp {S : List Addr} {H H' : Hp} {d rl : Addr} {names : List Str} {G : Str → Option Fm} {T : Str} {E : Str → Bool} {rk : Str → Nat} {tab : List Ky} (h : Wd H d rl names G T E rk tab) (k : Keeps S H H') (n : d ∉ S) (i : Imm H H') : Wd H' d rl names G T E rk tab :=
  ⟨h.rules.kp k n i, h.few, h.nd, h.nm, h.no, h.dom, h.rkd, h.tl, h.tT, h.rows.imm i, h.tnd, h.tin⟩
section
variable {H : Hp} {d rl : Addr} {names : List Str} {G : Str → Option Fm} {T : Str} {E : Str → Bool} {rk : Str → Nat} {tab : List Ky}
theorem Wd.sys (h : Wd H d rl names G T E rk tab) : Sys G T (rdG G T) (domN names) rk := sys_world h.few h.nm h.rkd h.dom (by have := h.tl; omega) h.tT
theorem Wd.few48 (h : Wd H d rl names G T E rk tab) : tab.length ≤ 48 := keys_few (m := 8) (n := 5) h.tnd (fun q hq => (h.tin q).mp hq) (domN_ok h.few h.nm).1 h.tl
theorem Wd.rowsOk (h : Wd H d rl names G T E rk tab) : RowsOk T (rdG G T) (domN names) (rowsL (rdG G T) tab) := rowsL_ok h.tnd (fun q hq => (h.tin q).mp hq) (fun q hq => (h.tin q).mpr hq) (by have := h.few48; omega)
theorem Wd.isSome (h : Wd H d rl names G T E rk tab) (x : Str) : x ∈ names.reverse ↔ (G x).isSome = true := by
  rw [List.mem_reverse]
  constructor
  · intro hx
    obtain ⟨ad, _, h2⟩ := h.rules
    obtain ⟨f, e, _⟩ := h2 x (List.mem_reverse.mpr hx)
    rw [e]; rfl
  · intro hx
    refine Classical.byContradiction fun z => ?_
    rw [h.no x z] at hx
    cases hx
end
/-- what is due behind a put, with its key -/
theorem put_own {G : Str → Option Fm} {T T' : Str} {R R' : Ky → Rc} {D D' : List Str} {rk rk' : Str → Nat} {a b ls : Nat} (S : Sys G T R D rk) (S' : Sys G T' R' D' rk') (P : PutOk T T' a b ls) {ks : List Ky} (hk : ∀ q ∈ ks, InDom D T q) {num' : Ky → Nat}
    (hn : ∀ r ∈ duePut a b ls (rowsL R ks), num' r.key = r.num) : ∀ r ∈ duePut a b ls (rowsL R ks), r.key ∈ ks.filterMap (mvK R a b ls) ∧ r = rowOf R' num' r.key ∧ InDom D T' r.key := by
  intro r hr
  obtain ⟨r0, h0, h⟩ := List.mem_filterMap.mp hr
  obtain ⟨q, hq, rfl⟩ := List.mem_map.mp h0
  obtain ⟨h1, h2, h3, _, h5, h6⟩ := put_row S S' P (hk q hq).2 h
  refine ⟨List.mem_filterMap.mpr ⟨q, hq, ?_⟩, ?_, by rw [h6]; exact (hk q hq).1, h5⟩
  · have := mv_key (R := R) (a := a) (b := b) (ls := ls) (num := fun q => ks.idxOf q) (q := q)
    rw [h] at this
    exact this.symm
  · unfold rowOf
    rw [hn r hr, ← h1, ← h2, ← h3]
theorem pw_num {rs : List Rw} (h : rs.Pairwise fun a b => a.num < b.num) {r s : Rw} (hr : r ∈ rs) (hs : s ∈ rs) (e : r.num = s.num) : r = s := by
  induction rs with
  | nil => cases hr
  | cons x l ih =>
    obtain ⟨h1, h2⟩ := List.pairwise_cons.mp h
    rcases List.mem_cons.mp hr with a | a
    · rcases List.mem_cons.mp hs with b | b
      · rw [a, b]
      · have := h1 s b
        rw [← a] at this
        omega
    · rcases List.mem_cons.mp hs with b | b
      · have := h1 r a
        rw [← b] at this
        omega
      · exact ih h2 a b
section
variable {H : Hp} {d rl : Addr} {names : List Str} {G : Str → Option Fm} {T : Str} {E : Str → Bool} {rk : Str → Nat} {tab : List Ky}
theorem mvK_of {R : Ky → Rc} {a b ls : Nat} {num : Ky → Nat} {q q' : Ky} (h : mvK R a b ls q = some q') : ∃ r, mvRw a b ls (rowOf R num q) = some r ∧ r.key = q' ∧ r.num = num q := by
  have e := mv_key (R := R) (a := a) (b := b) (ls := ls) (num := num) (q := q)
  rw [h] at e
  obtain ⟨r, h1, h2⟩ := Option.map_eq_some_iff.mp e
  exact ⟨r, h1, h2, mvRw_num h1⟩
/-- the premises of a put -/
theorem Wd.put (h : Wd H d rl names G T E rk tab) {T' : Str} {a b ls : Nat} (P : PutOk T T' a b ls) (tl : T'.length ≤ 7) (tT : okT T') {tb : List Ky} (same : ∀ x, x ∈ tb ↔ x ∈ tab) (tbn : tb.Nodup) :
    (tb.filterMap (mvK (rdG G T) a b ls)).Nodup ∧
    (∀ q ∈ tb, q.2 + (rdG G T q).reach ≤ a → rdG G T' q = rdG G T q ∧ numOf (duePut a b ls (rowsL (rdG G T) tab)) q = numOf (rowsL (rdG G T) tab) q) ∧
    (∀ q ∈ tb, ¬ q.2 + (rdG G T q).reach ≤ a → b ≤ q.2 → rdG G T' (shK a b ls q) = ⟨(rdG G T q).len, (rdG G T q).reach, (rdG G T q).asked.map (shK a b ls), (rdG G T q).leans⟩ ∧ numOf (duePut a b ls (rowsL (rdG G T) tab)) (shK a b ls q) = numOf (rowsL (rdG G T) tab) q ∧ (rdG G T q).asked.length ≤ 1000 ∧ ∀ z ∈ (rdG G T q).asked, q.2 ≤ z.2) ∧
    (∀ r ∈ duePut a b ls (rowsL (rdG G T) tab), numOf (duePut a b ls (rowsL (rdG G T) tab)) r.key = r.num) := by
  have S := h.sys
  have S' : Sys G T' (rdG G T') (domN names) rk := sys_world h.few h.nm h.rkd h.dom tl tT
  have dm : ∀ q ∈ tb, InDom (domN names) T q := fun q hq => (h.tin q).mp ((same q).mp hq)
  have bT := P.bT
  have hl := P.len
  have ab := P.ab
  have rp : ∀ q : Ky, q.2 ≤ T.length → 1 ≤ (rdG G T q).reach := fun q hq => by rw [S.eqn q hq]; exact reach_pos
  have kn : ((duePut a b ls (rowsL (rdG G T) tab)).map (·.key)).Nodup := by
    rw [duePut_key]
    exact mvK_nodup P.ab h.tnd fun q hq => rp q ((h.tin q).mp hq).2
  have hn : ∀ r ∈ duePut a b ls (rowsL (rdG G T) tab), numOf (duePut a b ls (rowsL (rdG G T) tab)) r.key = r.num := fun r hr => numOf_in kn hr
  have mv : ∀ q ∈ tb, ∀ q', mvK (rdG G T) a b ls q = some q' → numOf (duePut a b ls (rowsL (rdG G T) tab)) q' = numOf (rowsL (rdG G T) tab) q := fun q hq q' e => by
    have hq' := (same q).mp hq
    obtain ⟨r, h1, h2, h3⟩ := mvK_of (num := fun q => tab.idxOf q) e
    have hr : r ∈ duePut a b ls (rowsL (rdG G T) tab) := List.mem_filterMap.mpr ⟨_, List.mem_map.mpr ⟨q, hq', rfl⟩, h1⟩
    rw [← h2, hn r hr, h3, numOf_rowsL h.tnd hq']
  refine ⟨mvK_nodup P.ab tbn fun q hq => rp q (dm q hq).2, fun q hq hle => ⟨?_, ?_⟩, fun q hq hnl hbq => ⟨?_, ?_, ?_, ?_⟩, hn⟩
  · exact stays_ahead S S' (a := a) (by omega) (by omega) P.pre _ q (Nat.lt_succ_self _) (dm q hq).2 hle
  · exact mv q hq q (if_pos hle)
  · exact stays_behind S S' P.len P.post _ q (Nat.lt_succ_self _) (dm q hq).2 hbq
  · exact mv q hq _ (by unfold mvK; rw [if_neg hnl, if_pos hbq])
  · rw [S.eqn q (dm q hq).2]
    show (once [] (asksOf G T (rdG G T) q)).length ≤ 1000
    have h1 := once_len (asksOf G T (rdG G T) q) []
    have h2 := S.asksN (k := q)
    have : ([] : List Ky).length = 0 := rfl
    omega
  · intro z hz
    rw [S.eqn q (dm q hq).2] at hz
    exact (S.less q (dm q hq).2 z (once_asks hz)).2.1
/-- a reader behind a put holds what is due -/
theorem Wd.putHolds {K : PySem.W.Frag} {H2 : Hp} (h : Wd H d rl names G T E rk tab) {T' : Str} {a b ls : Nat} (P : PutOk T T' a b ls) (tl : T'.length ≤ 7) (tT : okT T') {tb : List Ky} (same : ∀ x, x ∈ tb ↔ x ∈ tab) (tbn : tb.Nodup) {n : Nat} {ra rd t nm dl : Addr} {ks : List Str}
    (r : RdrN n K H2 ra rd t nm dl ks G T' (rdG G T') (tb.filterMap (mvK (rdG G T) a b ls)) (tb.filterMap (mvK (rdG G T) a b ls)) (numOf (duePut a b ls (rowsL (rdG G T) tab)))) :
    Holds_ K H2 ra t T' (rdG G T') (domN names) (tb.filterMap (mvK (rdG G T) a b ls)) (duePut a b ls (rowsL (rdG G T) tab)) := by
  have S := h.sys
  have S' : Sys G T' (rdG G T') (domN names) rk := sys_world h.few h.nm h.rkd h.dom tl tT
  obtain ⟨p1, p2, p3, hn⟩ := h.put P tl tT same tbn
  obtain ⟨⟨dx, fu, hi⟩, _, htb, hnm, _, hap⟩ := r
  have ap : t ≠ nm ∧ t ≠ ra := by
    simp only [List.nodup_cons, List.mem_cons, List.not_mem_nil, or_false, not_or, not_false_eq_true, List.nodup_nil, and_true] at hap
    exact ⟨hap.2.2.1.1, fun e => hap.1.2.1 e.symm⟩
  have own := put_own S S' P (fun q hq => (h.tin q).mp hq) hn
  have sameF : ∀ x, x ∈ tb.filterMap (mvK (rdG G T) a b ls) ↔ x ∈ tab.filterMap (mvK (rdG G T) a b ls) := fun x => by
    rw [List.mem_filterMap, List.mem_filterMap]
    exact ⟨fun ⟨q, h1, h2⟩ => ⟨q, (same q).mp h1, h2⟩, fun ⟨q, h1, h2⟩ => ⟨q, (same q).mpr h1, h2⟩⟩
  have rowFor : ∀ q ∈ tb.filterMap (mvK (rdG G T) a b ls), ∃ r ∈ duePut a b ls (rowsL (rdG G T) tab), r.key = q := fun q hq => by
    have := (sameF q).mp hq
    rw [← duePut_key] at this
    exact List.mem_map.mp this
  have pw := duePut_pw (a := a) (b := b) (ls := ls) (rowsL_pw (R := rdG G T) h.tnd)
  refine ⟨⟨dx, rd, nm, dl, fu, _, _, hi, hnm, ap.1, fun q hq => hq, fun q hq q' hq' e => ?_, fun rs' pw' hm => ?_, fun r hr => ?_⟩, htb, ap.2, p1, fun q hq => ?_, ?_⟩
  · obtain ⟨r, hr, rfl⟩ := rowFor q hq
    obtain ⟨r', hr', rfl⟩ := rowFor q' hq'
    rw [hn r hr, hn r' hr'] at e
    rw [pw_num pw hr hr' e]
  · exact put_due S S' P h.tnd (fun q hq => ((h.tin q).mp hq).2) same hn pw' hm
  · obtain ⟨o1, o2, _⟩ := own r hr
    exact ⟨r.key, (sameF _).mpr o1, o2⟩
  · obtain ⟨r, hr, rfl⟩ := rowFor q hq
    exact (own r hr).2.2
  · have h1 := List.length_filterMap_le (mvK (rdG G T) a b ls) tb
    have h2 := nodup_lenG tb tab tbn fun x hx => (same x).mp hx
    have := h.few48
    omega
theorem TabAt.congr {R R' : Ky → Rc} {H : Hp} {t : Addr} {ks : List Ky} (h : TabAt R H t ks) (e : ∀ q ∈ ks, R' q = R q) : TabAt R' H t ks :=
  let ⟨ad, h1, h2⟩ := h
  ⟨ad, h1, fun q hq => by rw [e q hq]; exact h2 q hq⟩
/-- a reader behind a change of a rule holds what is due -/
theorem Wd.ruleHolds {K : PySem.W.Frag} {H2 : Hp} (h : Wd H d rl names G T E rk tab) {x : Str} {o : Option Fm} {E' : Str → Bool} {rk' : Str → Nat} (K' : Ranked (chG G x o) E' rk') (ho : o = none ∨ o = some .any) (hx : x ∈ domN names) {tb : List Ky} (same : ∀ x, x ∈ tb ↔ x ∈ tab) (tbn : tb.Nodup)
    {n : Nat} {ra rd t nm dl : Addr} {ks : List Str} {G2 : Str → Option Fm}
    (r : RdrN n K H2 ra rd t nm dl ks G2 T (rdG G T) (tb.filter fun q => decide (q ∉ tabX (rdG G T) tb x)) (tab.filter fun q => decide (q ∉ tabX (rdG G T) tb x)) (numOf (rowsL (rdG G T) tab))) :
    Sys (chG G x o) T (rdG (chG G x o) T) (domN names) rk' ∧ Holds_ K H2 ra t T (rdG (chG G x o) T) (domN names) (tb.filter fun q => decide (q ∉ tabX (rdG G T) tb x)) ((rowsL (rdG G T) tab).filter fun r => decide (x ∉ r.leans)) := by
  have S := h.sys
  have S' : Sys (chG G x o) T (rdG (chG G x o) T) (domN names) rk' := sys_world h.few h.nm K' (chG_dom ho hx h.dom) (by have := h.tl; omega) h.tT
  refine ⟨S', ?_⟩
  obtain ⟨⟨dx, fu, hi⟩, _, htb, hnm, _, hap⟩ := r
  have ap : t ≠ nm ∧ t ≠ ra := by
    simp only [List.nodup_cons, List.mem_cons, List.not_mem_nil, or_false, not_or, not_false_eq_true, List.nodup_nil, and_true] at hap
    exact ⟨hap.2.2.1.1, fun e => hap.1.2.1 e.symm⟩
  have dm : ∀ q ∈ tb, InDom (domN names) T q := fun q hq => (h.tin q).mp ((same q).mp hq)
  have mem : ∀ q, q ∈ (tb.filter fun q => decide (q ∉ tabX (rdG G T) tb x)) ↔ q ∈ tab ∧ x ∉ (rdG G T q).leans := fun q => by
    rw [List.mem_filter]
    constructor
    · rintro ⟨h1, h2⟩
      exact ⟨(same q).mp h1, fun z => of_decide_eq_true h2 (List.mem_filter.mpr ⟨h1, decide_eq_true z⟩)⟩
    · rintro ⟨h1, h2⟩
      exact ⟨(same q).mpr h1, decide_eq_true fun z => h2 (of_decide_eq_true (List.mem_filter.mp z).2)⟩
  have eR : ∀ q ∈ (tb.filter fun q => decide (q ∉ tabX (rdG G T) tb x)), rdG (chG G x o) T q = rdG G T q := fun q hq => by
    obtain ⟨h1, h2⟩ := (mem q).mp hq
    exact stays_rule S S' _ q (Nat.lt_succ_self _) ((h.tin q).mp h1).2 h2
  have rowE : ∀ q ∈ (tb.filter fun q => decide (q ∉ tabX (rdG G T) tb x)), rowOf (rdG (chG G x o) T) (numOf (rowsL (rdG G T) tab)) q = rowOf (rdG G T) (numOf (rowsL (rdG G T) tab)) q := fun q hq => by
    unfold rowOf
    rw [eR q hq]
  have nI : ∀ q ∈ tab, numOf (rowsL (rdG G T) tab) q = tab.idxOf q := fun q hq => numOf_rowsL h.tnd hq
  refine ⟨⟨dx, rd, nm, dl, fu, _, _, hi, hnm, ap.1, fun q hq => ?_, fun q hq q' hq' e => ?_, fun rs' pw' hm => ?_, fun r hr => ?_⟩, htb.congr eR, ap.2, tbn.filter _, fun q hq => dm q (List.mem_filter.mp hq).1, ?_⟩
  · obtain ⟨h1, h2⟩ := List.mem_filter.mp hq
    exact List.mem_filter.mpr ⟨(same q).mp h1, h2⟩
  · have h1 := ((mem q).mp hq).1
    have h2 := ((mem q').mp hq').1
    rw [nI q h1, nI q' h2] at e
    have g1 := List.getElem_idxOf (List.idxOf_lt_length_iff.mpr h1)
    have g2 := List.getElem_idxOf (List.idxOf_lt_length_iff.mpr h2)
    rw [← g1, ← g2]
    congr 1
  · refine rule_due h.tnd same nI pw' fun r => ?_
    rw [hm]
    constructor
    · rintro ⟨q, hq, rfl⟩
      exact ⟨q, hq, rowE q hq⟩
    · rintro ⟨q, hq, rfl⟩
      exact ⟨q, hq, (rowE q hq).symm⟩
  · obtain ⟨h1, h2⟩ := List.mem_filter.mp hr
    obtain ⟨q, hq, rfl⟩ := List.mem_map.mp h1
    have hq2 := (mem q).mpr ⟨hq, of_decide_eq_true h2⟩
    refine ⟨q, hq2, ?_⟩
    rw [rowE q hq2]
    unfold rowOf
    rw [nI q hq]
  · have h1 := List.length_filter_le (fun q => decide (q ∉ tabX (rdG G T) tb x)) tb
    have h2 := nodup_lenG tb tab tbn fun x hx => (same x).mp hx
    have := h.few48
    omega
end
end Kr
namespace Kr
open PySem PySem.Spec PyProof.Rows L2
section
variable {P : Program} {w : World} {K : PySem.W.Frag} {mg : Str → Option Value} {base : Heap} {k : Nat}
theorem Holds_.kp {H H' : Hp} {ra t : Addr} {T : Str} {R : Ky → Rc} {D : List Str} {tab : List Ky} {rs : List Rw} (h : Holds_ K H ra t T R D tab rs) (k : Keeps [] H H') (i : Imm H H') : Holds_ K H' ra t T R D tab rs :=
  let ⟨⟨dx, rd, nm, dl, fu, nks, num, h1, h2, h3⟩, h4, h5, h6, h7, h8⟩ := h
  ⟨⟨dx, rd, nm, dl, fu, nks, num, k.same h1, k.same h2, h3⟩, h4.kp k (by simp) i, h5, h6, h7, h8⟩
def spLPut (K : PySem.W.Frag) : Sp := fun vs H Q _ => ∃ (bg d rl : Addr) (n a b : Nat) (sm T : Str) (names : List Str) (G : Str → Option Fm) (E : Str → Bool) (rk : Str → Nat) (tab : List Ky), vs = [.ref bg, .ref d, .str T, .ref rl, .int (a : Nat), .int (b : Nat), .str sm] ∧
  BagAt H bg n ∧ n ≤ 1000 ∧ bg ≠ d ∧ Wd H d rl names G T E rk tab ∧ a ≤ b ∧ b ≤ T.length ∧ okT sm ∧ sm.length = 3 ∧ ∀ H', Keeps [bg] H H' → Q (.bl true) H'
theorem ok_law_put (T : Tp K mg) (c_law_text : Calls P w K mg base k "_law_text" ["bag", "some", "long"] spText) (c_law_take : Calls P w K mg base k "_law_take" ["bag", "many"] spTake) (c_laid : Calls P w K mg base k "laid" ["book", "text", "rows"] (spLaid K))
    (c_law_copies : Calls P w K mg base k "_law_copies" ["rows"] spCopies) (c_law_still : Calls P w K mg base k "_law_still" ["reader", "rules", "text", "due"] (spStill K)) (m_Reader_put : CallsM P w K mg base k (He.ga K "Reader") "put" ["self", "a", "b", "signs"] (spPut K)) :
    Calls P w K mg base (k + 1) "_law_put" ["bag", "rules", "text", "rows", "a", "b", "some"] (spLPut K) := by
  have sc : FnScope ["bag", "rules", "text", "rows", "a", "b", "some", "signs", "reader", "step", "due", "row"] ["bag", "rules", "text", "rows", "a", "b", "some"] d_law_put.scope := ⟨rfl, rfl, rfl, by decide +kernel, rfl, by decide +kernel, by decide +kernel⟩
  refine mkCall T in_law_put rfl mg_law_put rfl rfl sc (fun _ _ _ _ _ _ us hl => match us, hl with | [_, _, _, _, _, _, _], _ => rfl) (fun vs H Q E h => ?_) (fun f cdv A outer s H vs Q E hr h => ?_)
  · obtain ⟨bg, d, rl, n, a, b, sm, TX, names, G, E0, rk, tab, rfl, _⟩ := h
    rfl
  obtain ⟨bg, d, rl, n, a, b, sm, TX, names, G, E0, rk, tab, rfl, hbg, hn, hbd, W, hab, hbT, smT, sm3, k⟩ := h
  refine ⟨_, (pss_cons (ps_set (i := 7) sc.nd rfl (by first | exact Or.inl rfl | exact Or.inr rfl) (pcall c_law_text hr (pa_cons (pv 0) (pa_cons (pv 6) (pa_cons (pcall c_law_take hr (pa_cons (pv 0) (pa_cons pe_int pa_nil))) pa_nil)))))
      (pss_cons (ps_set (i := 8) sc.nd rfl (by first | exact Or.inl rfl | exact Or.inr rfl) (pcall c_laid hr (pa_cons (pe_frz (pe_callB (cr_sortedItN rfl hr.units) (by rfl) (T.fre _ mf_sorted) bt_sorted (pa_cons (pe_bm0 PySem.F.plainAttrs_dict PySem.F.slot_dict_items PySem.F.type_dict_items mt_itemsK (pv 1)) pa_nil))) (pa_cons (pv 2) (pa_cons (pe_frz (pcall c_law_copies hr (pa_cons (pv 3) pa_nil))) pa_nil)))))
      (pss_cons (ps_expr (pmeth (pv 8) (T.cls mk_Reader) m_Reader_put hr (pa_cons (pv 4) (pa_cons (pv 5) (pa_cons (pv 7) pa_nil)))))
      (pss_cons (ps_set (i := 9) sc.nd rfl (by first | exact Or.inl rfl | exact Or.inr rfl) (pe_op op_sub (pe_callB call_len_str (by rfl) (T.fre _ mf_len) bt_len (pa_cons (pv 7) pa_nil)) (pe_op op_sub (pv 5) (pv 4))))
      (pss_cons (ps_set (i := 10) sc.nd rfl (by first | exact Or.inl rfl | exact Or.inr rfl) (pe_lst pa_nil))
      (pss_cons (ps_for PassesOwn.never rfl (pi_list (pv 3)) (pg_name (i := 11) sc.nd rfl (by first | exact Or.inl rfl | exact Or.inr rfl))
        (pss_one (ps_if (pt_cmpR op_le (pe_op op_add (pe_ix ix_tup (pv 11) pe_int (fun _ _ => rfl)) (pe_ix ix_tup (pv 11) pe_int (fun _ _ => rfl))) (pv 4) (nomark _)) (pss_one (ps_expr (pe_bm PySem.F.plainAttrs_list PySem.F.slot_list_append PySem.F.type_list_append mt_append (pv 10) (pa_cons (pv 11) pa_nil)))) (pss_one (ps_if (pt_cmpR op_ge (pe_ix ix_tup (pv 11) pe_int (fun _ _ => rfl)) (pv 5) (nomark _)) (pss_one (ps_expr (pe_bm PySem.F.plainAttrs_list PySem.F.slot_list_append PySem.F.type_list_append mt_append (pv 10) (pa_cons (pe_op op_catT (pe_op op_catT (pe_slice sl_tup (pv 11) po_none (po_some pe_int)) (pe_tup (pa_cons (pe_op op_add (pe_ix ix_tup (pv 11) pe_int (fun _ _ => rfl)) (pv 9)) pa_nil))) (pe_slice sl_tup (pv 11) (po_some pe_int) po_none)) pa_nil)))) pss_nil)))))
      (pss_one (ps_ret (pcall c_law_still hr (pa_cons (pv 8) (pa_cons (pv 1) (pa_cons (pe_op op_add_str (pe_op op_add_str (pe_slice sl_str (pv 2) po_none (po_some (pv 4))) (pv 7)) (pe_slice sl_str (pv 2) (po_some (pv 5)) po_none)) (pa_cons (pv 10) pa_nil))))))))))))), ?_⟩
  have C := T.cls mk_Reader
  have tl := W.tl
  have nB : ∀ y : Addr, y ≠ bg → y ∉ [bg] := fun y h z => h (List.mem_singleton.mp z)
  refine ⟨_, rfl, _, rfl, _, rfl, bg, 3, n, rfl, hbg, by omega, by omega, by omega, fun v H1 k1 b1 hv0 hv3 m1 => ?_⟩
  obtain ⟨vn, rfl⟩ := Int.eq_ofNat_of_zero_le hv0
  refine ⟨bg, sm, vn, n + 1, rfl, smT, sm3, by omega, b1, by omega, fun sg H2 k2 b2 sgT sgl m2 => ?_⟩
  have W2 := (W.kp k1 (nB _ hbd.symm) m1).kp k2 (nB _ hbd.symm) m2
  have k02 := k1.trans k2
  have hsg : sg.length ≤ 2 := by omega
  clear m1 m2 b1 k1 k2
  obtain ⟨ad, hrd, hrf⟩ := id W2.rules
  refine ⟨_, rfl, ?_⟩
  -- LAY
  refine ⟨.inr (.inr (.inl ⟨rfl, .inl ⟨_, hrd⟩⟩)), d, _, rfl, rfl, .inl hrd, fun p hp => ?_⟩
  have kx := (Keeps.refl [] H2).new (o := L2.DX.itemsO p d) hp
  have mx := (Imm.refl H2).new (o := L2.DX.itemsO p d) hp
  have pe : upd H2 p (L2.DX.itemsO p d) p = some (L2.DX.itemsO p d) := upd_same
  generalize upd H2 p (L2.DX.itemsO p d) = H3 at kx mx pe ⊢
  have hrd3 : H3 d = some (.dK ((names.reverse.map fun x => (x, ad x)).map entK)) := by
    rw [kx.same hrd]
    unfold mkD
    rw [List.map_map]
    rfl
  refine ⟨p, d, names.reverse.map fun x => (x, ad x), rfl, pe, .inl hrd3, by rw [List.length_map, List.length_reverse]; have := W.few; omega, ?_, fun H4 l ps k4 hl perm srt hle ht => ⟨l, _, rfl, hle, trivial, fun od => ?_⟩⟩
  · rw [List.map_map]
    show (names.reverse.map fun x => x).Nodup
    rw [List.map_id']
    exact List.pairwise_reverse.mpr (W.nd.imp fun {a b} h => fun e => h e.symm)
  have k5 := (kx.trans k4).own (o := .frz od (.lst (ps.map fun z => V.ref z.1))) (kx.free0 hl)
  have m4 : Imm H3 H4 := fun b o h _ => k4.same h
  have m5 := (mx.trans m4).mut (o := .frz od (.lst (ps.map fun z => V.ref z.1))) hle
  have m45 := (Imm.refl H4).mut (o := .frz od (.lst (ps.map fun z => V.ref z.1))) hle
  have l5 : upd H4 l (.frz od (.lst (ps.map fun z => V.ref z.1))) l = some (.frz od (.lst (ps.map fun z => V.ref z.1))) := upd_same
  generalize upd H4 l (.frz od (.lst (ps.map fun z => V.ref z.1))) = H5 at k5 m5 m45 l5 ⊢
  obtain ⟨bs, hB, hris, hbp, hbG, hbo⟩ := book_of (H' := H5) W.nd (fun x hx => let ⟨f, h1, h2⟩ := hrf x (List.mem_reverse.mpr hx); ⟨f, h1, h2.imm m5⟩) W.no perm srt l5 (fun z hz => m45.tup (ht z hz))
  clear kx mx pe hrd3 hl perm srt hle ht k4 m4 m45 l5
  refine ⟨_, rfl, _, rfl, rl, _, rfl, W2.rows.imm m5, by unfold rowsL; rw [List.length_map]; have := W.few48; omega, fun l2 H6 hl2 k6 rm m6 => ?_⟩
  obtain ⟨es2, hes2, hl2e, hrow2⟩ := rm
  refine ⟨l2, _, rfl, hl2e, trivial, fun od2 => ?_⟩
  have k7 := (k5.trans k6).own (o := .frz od2 (.lst (es2.map fun e => V.ref e.2))) (k5.free0 hl2)
  have m7 := (m5.trans m6).mut (o := .frz od2 (.lst (es2.map fun e => V.ref e.2))) hl2e
  have m57 := m6.mut (o := .frz od2 (.lst (es2.map fun e => V.ref e.2))) hl2e
  have m67 := (Imm.refl H6).mut (o := .frz od2 (.lst (es2.map fun e => V.ref e.2))) hl2e
  have rows7 : RowsAt (upd H6 l2 (.frz od2 (.lst (es2.map fun e => V.ref e.2)))) l2 (rowsL (rdG G TX) tab) := ⟨od2, es2, hes2, upd_same, fun e he => (hrow2 e he).imm m67⟩
  generalize upd H6 l2 (.frz od2 (.lst (es2.map fun e => V.ref e.2))) = H7 at k7 m7 m57 m67 rows7 ⊢
  have bsl : bs.length ≤ 7 := by
    have := hbp.length_eq
    rw [List.length_map] at this
    have := W.few
    omega
  refine ⟨l, l2, TX, bs, rowsL (rdG G TX) tab, rdG G TX, domN names, rk, rfl, hB.imm m57, hris, by omega, fun c hc => ?_, noLoop_of W.rkd hbo, rows7, by rw [hbG]; exact W.sys, W.rowsOk, fun ra rd t nm dl tb H8 k8 new8 R8 tbn tbm m8 => ?_⟩
  · obtain ⟨h1, h2, _⟩ := W.dom _ _ (hbo c hc)
    exact ⟨(domN_ok W.few W.nm).2 _ h1, h2⟩
  rw [hbG] at R8
  rw [rowsL_key] at R8 tbm
  have k28 := k7.trans k8
  have m28 := m7.trans m8
  have hnew : ∀ y ∈ [ra, rd, t, nm, dl], H2 y = none := fun y hy => k7.free0 (new8 y hy)
  clear k7 m7 m57 m67 rows7 hes2 hl2e hrow2 hl2 k6 m6 k5 m5 hB new8 k8 m8
  -- LAY END
  have PO : PutOk TX ((cutS TX none (some (a : Nat)) ++ sg) ++ cutS TX (some (b : Nat)) none) a b sg.length := put_ok hab hbT
  have tT' : okT ((cutS TX none (some (a : Nat)) ++ sg) ++ cutS TX (some (b : Nat)) none) := put_okT W.tT sgT
  have tl' : ((cutS TX none (some (a : Nat)) ++ sg) ++ cutS TX (some (b : Nat)) none).length ≤ 7 := by
    have := PO.len
    omega
  obtain ⟨p1, p2, p3, p4⟩ := W.put PO tl' tT' tbm tbn
  have tbl : tb.length ≤ 48 := by
    have h1 := nodup_lenG tb tab tbn fun x hx => (tbm x).mp hx
    have := W.few48
    omega
  obtain ⟨⟨dx, fu, hi⟩, _⟩ := id R8
  refine ⟨_, rfl, ra, dx, _, rfl, hi, rfl, _, rfl, _, rfl, _, rfl, ra, rd, t, nm, dl, bs.map (·.1), G, TX, sg, rdG G TX, rdG G ((cutS TX none (some (a : Nat)) ++ sg) ++ cutS TX (some (b : Nat)) none), tb, tab, numOf (rowsL (rdG G TX) tab), numOf (duePut a b sg.length (rowsL (rdG G TX) tab)), a, b, rfl, R8.mono (by omega), hab, hbT, by omega, sgT, by omega, by omega, fun q hq => (tbm q).mp hq, p1, p2, p3, fun t2 nm2 H9 ht2 hnm2 k9 r9 m9 => ?_⟩
  have hold := W.putHolds PO tl' tT' tbm tbn r9
  have k29 : Keeps [] H2 H9 := k28.call k9 fun y hy => .inr (hnew y (by
    simp only [List.mem_cons, List.not_mem_nil, or_false] at hy ⊢
    rcases hy with z | z <;> simp [z]))
  have m29 := m28.trans m9
  have S' : Sys G ((cutS TX none (some (a : Nat)) ++ sg) ++ cutS TX (some (b : Nat)) none) (rdG G ((cutS TX none (some (a : Nat)) ++ sg) ++ cutS TX (some (b : Nat)) none)) (domN names) rk := sys_world W.few W.nm W.rkd W.dom tl' tT'
  generalize hT' : (cutS TX none (some (a : Nat)) ++ sg) ++ cutS TX (some (b : Nat)) none = T' at *
  clear k28 m28 k9 m9 r9 R8 hnew p1 p2 p3 p4 hi
  have hsz : 100 ≤ sizeLine := by decide
  refine ⟨_, rfl, sg, rfl, by omega, _, rfl, _, rfl, _, _, rfl, rfl, _, _, rfl, rfl, ?_⟩
  refine ⟨by decide, fun du hdu => ?_⟩
  have k10 := (Keeps.refl [] H9).new (o := .lst []) hdu
  have m10 := (Imm.refl H9).new (o := .lst []) hdu
  have due : upd H9 du (.lst []) du = some (.lst []) := upd_same
  generalize upd H9 du (.lst []) = H10 at k10 m10 due ⊢
  obtain ⟨orl, es, ees, hrl, hrow⟩ := W2.rows
  have esl : es.length ≤ 48 := by
    have : es.length = (rowsL (rdG G TX) tab).length := by rw [← ees, List.length_map]
    unfold rowsL at this
    rw [List.length_map] at this
    have := W.few48
    omega
  have k210 := k29.trans k10
  have m210 := m29.trans m10
  have hrl10 := k210.same hrl
  have dur : rl ≠ du := ne_of_none (k29.same hrl) hdu
  have nD : ∀ y : Addr, y ≠ du → y ∉ [du] := fun y h z => h (List.mem_singleton.mp z)
  have duH : H2 du = none := k29.free0 hdu
  refine ⟨_, rfl, _, rfl, ⟨_, sq_fr hrl10⟩, ?_⟩
  refine for_it (walk_list (xs := es.map fun e => V.ref e.2)) (fun i σ H' => ∃ (v11 : Option V) (ds : List (Rw × Addr)), σ = [some (.ref bg), some (.ref d), some (.str TX), some (.ref rl), some (.int (a : Nat)), some (.int (b : Nat)), some (.str sm), some (.str sg), some (.ref ra), some (.int (((sg.length : Nat) : Int) - (((b : Nat) : Int) - ((a : Nat) : Int)))), some (.ref du), v11] ∧ Keeps [du] H10 H' ∧ Imm H10 H' ∧
    H' du = some (.lst (ds.map fun e => V.ref e.2)) ∧ ds.map (·.1) = duePut a b sg.length ((rowsL (rdG G TX) tab).take i) ∧ ds.length ≤ i ∧ ∀ e ∈ ds, RowAt H' e.2 e.1) ⟨none, [], rfl, Keeps.refl _ _, Imm.refl _, due, rfl, Nat.zero_le _, by simp⟩ (fun i σ H' _ ⟨_, _, _, k', _⟩ => sq_fr (k' _ _ hrl10 (nD _ dur))) ?_ ?_
  · rintro i x σ H11 H11' hi ⟨v11, ds, rfl, k11, m11, du11, dds, dlen, drow⟩ ⟨rfl, hx⟩
    obtain ⟨e, he1, hm, rfl⟩ := getM hx
    have hri : (rowsL (rdG G TX) tab)[i]? = some e.1 := by rw [← ees, List.getElem?_map, he1]; rfl
    rw [List.length_map] at hi
    have rowE := ((hrow e hm).imm m210).imm m11
    obtain ⟨lb, q1, q2⟩ := id rowE
    have sq := sqt_of (K := K) q1
    have dueS : duePut a b sg.length ((rowsL (rdG G TX) tab).take (i + 1)) = duePut a b sg.length ((rowsL (rdG G TX) tab).take i) ++ (mvRw a b sg.length e.1).toList := by
      rw [take_snoc hri]
      unfold duePut
      rw [List.filterMap_append]
      congr 1
    refine ⟨_, rfl, _, _, _, _, rfl, rfl, sq, at_2 rfl, _, rfl, _, _, _, _, rfl, rfl, sq, at_4 rfl, _, _, rfl, rfl, _, rfl, _, _, rfl, rfl, _, rfl, iteB (fun hc => ?_) (fun hc => ?_)⟩
    · have hle : e.1.key.2 + e.1.reach ≤ a := by have := of_decide_eq_true hc; omega
      have mv : mvRw a b sg.length e.1 = some e.1 := if_pos hle
      refine ⟨_, rfl, .inl ⟨rfl, _, SqL.of du11⟩, _, rfl, du, ds.map (fun e => V.ref e.2), _, rfl, rfl, du11, line5 (by rw [List.length_map]; omega), _, ds ++ [(e.1, e.2)], rfl, k11.mem (by simp), m11.mut du11, ?_, ?_, ?_, fun z hz => ?_⟩
      · rw [upd_same, List.map_append]
        rfl
      · rw [List.map_append, dds, dueS, mv]
        rfl
      · rw [List.length_append, List.length_singleton]; omega
      · rcases List.mem_append.mp hz with h | h
        · exact (drow z h).imm ((Imm.refl _).mut du11)
        · rw [List.mem_singleton.mp h]
          exact rowE.imm ((Imm.refl _).mut du11)
    · have hnle : ¬ e.1.key.2 + e.1.reach ≤ a := by have := of_decide_eq_false hc; omega
      refine ⟨_, rfl, _, _, _, _, rfl, rfl, sq, at_2 rfl, _, rfl, _, _, rfl, rfl, _, rfl, iteB (fun hc2 => ?_) (fun hc2 => ?_)⟩
      · have hbq : b ≤ e.1.key.2 := by have := of_decide_eq_true hc2; omega
        have mv : mvRw a b sg.length e.1 = some ⟨e.1.num, shK a b sg.length e.1.key, e.1.len, e.1.reach, e.1.leans⟩ := by unfold mvRw; rw [if_neg hnle, if_pos hbq]
        have hk : ((e.1.key.2 : Nat) : Int) + (((sg.length : Nat) : Int) - (((b : Nat) : Int) - ((a : Nat) : Int))) = (((shK a b sg.length e.1.key).2 : Nat) : Int) := by
          show _ = ((e.1.key.2 + sg.length - (b - a) : Nat) : Int)
          omega
        refine ⟨_, rfl, .inl ⟨rfl, _, SqL.of du11⟩, _, rfl, _, rfl, _, _, rfl, sq, ?_, fun p1 hp1 => ?_⟩
        · rintro ⟨_, h⟩
          have h' : min 2 6 = 6 := h
          omega
        have ec : cutV [V.int (e.1.num : Nat), V.str e.1.key.1, V.int (e.1.key.2 : Nat), lenV e.1.len, V.int (e.1.reach : Nat), V.ref lb] none (some 2) = [V.int (e.1.num : Nat), V.str e.1.key.1] := cut_to 2
        rw [ec]
        have k12 := k11.new (o := .tup [V.int (e.1.num : Nat), V.str e.1.key.1]) hp1
        have m12 := m11.new (o := .tup [V.int (e.1.num : Nat), V.str e.1.key.1]) hp1
        have kx := (Keeps.refl [] H11').new (o := .tup [V.int (e.1.num : Nat), V.str e.1.key.1]) hp1
        have mx := (Imm.refl H11').new (o := .tup [V.int (e.1.num : Nat), V.str e.1.key.1]) hp1
        have p1e : upd H11' p1 (.tup [V.int (e.1.num : Nat), V.str e.1.key.1]) p1 = some (.tup [V.int (e.1.num : Nat), V.str e.1.key.1]) := upd_same
        generalize upd H11' p1 (.tup [V.int (e.1.num : Nat), V.str e.1.key.1]) = H12 at k12 m12 kx mx p1e ⊢
        refine ⟨_, rfl, _, _, _, _, rfl, rfl, sqt_im sq mx, at_2 rfl, _, rfl, _, _, rfl, rfl, show 1 ≤ sizeLine by decide, fun p2 hp2 => ?_⟩
        dsimp only at hp2 ⊢
        rw [hk]
        have k13 := k12.new (o := .tup [V.int ((shK a b sg.length e.1.key).2 : Nat)]) hp2
        have m13 := m12.new (o := .tup [V.int ((shK a b sg.length e.1.key).2 : Nat)]) hp2
        have ky := kx.new (o := .tup [V.int ((shK a b sg.length e.1.key).2 : Nat)]) hp2
        have my := mx.new (o := .tup [V.int ((shK a b sg.length e.1.key).2 : Nat)]) hp2
        have m2 := (Imm.refl H12).new (o := .tup [V.int ((shK a b sg.length e.1.key).2 : Nat)]) hp2
        have p2e : upd H12 p2 (.tup [V.int ((shK a b sg.length e.1.key).2 : Nat)]) p2 = some (.tup [V.int ((shK a b sg.length e.1.key).2 : Nat)]) := upd_same
        generalize upd H12 p2 (.tup [V.int ((shK a b sg.length e.1.key).2 : Nat)]) = H13 at k13 m13 ky my m2 p2e ⊢
        refine ⟨p1, p2, _, _, rfl, rfl, sqt_of (m2.tup p1e), sqt_of p2e, by simp, by show 2 + 1 ≤ sizeLine; decide, (fun h => nomatch h), fun _ p3 hp3 => ?_⟩
        have k14 := k13.new (o := .tup ([V.int (e.1.num : Nat), V.str e.1.key.1] ++ [V.int ((shK a b sg.length e.1.key).2 : Nat)])) hp3
        have m14 := m13.new (o := .tup ([V.int (e.1.num : Nat), V.str e.1.key.1] ++ [V.int ((shK a b sg.length e.1.key).2 : Nat)])) hp3
        have kz := ky.new (o := .tup ([V.int (e.1.num : Nat), V.str e.1.key.1] ++ [V.int ((shK a b sg.length e.1.key).2 : Nat)])) hp3
        have mz := my.new (o := .tup ([V.int (e.1.num : Nat), V.str e.1.key.1] ++ [V.int ((shK a b sg.length e.1.key).2 : Nat)])) hp3
        have p3e : upd H13 p3 (.tup ([V.int (e.1.num : Nat), V.str e.1.key.1] ++ [V.int ((shK a b sg.length e.1.key).2 : Nat)])) p3 = some (.tup ([V.int (e.1.num : Nat), V.str e.1.key.1] ++ [V.int ((shK a b sg.length e.1.key).2 : Nat)])) := upd_same
        generalize upd H13 p3 (.tup ([V.int (e.1.num : Nat), V.str e.1.key.1] ++ [V.int ((shK a b sg.length e.1.key).2 : Nat)])) = H14 at k14 m14 kz mz p3e ⊢
        refine ⟨_, rfl, _, rfl, _, _, rfl, sqt_im sq mz, ?_, fun p4 hp4 => ?_⟩
        · rintro ⟨h, _⟩
          have h' : min 3 6 = 0 := h
          omega
        have ec2 : cutV [V.int (e.1.num : Nat), V.str e.1.key.1, V.int (e.1.key.2 : Nat), lenV e.1.len, V.int (e.1.reach : Nat), V.ref lb] (some 3) none = [lenV e.1.len, V.int (e.1.reach : Nat), V.ref lb] := cut_from 3
        rw [ec2]
        have k15 := k14.new (o := .tup [lenV e.1.len, V.int (e.1.reach : Nat), V.ref lb]) hp4
        have m15 := m14.new (o := .tup [lenV e.1.len, V.int (e.1.reach : Nat), V.ref lb]) hp4
        have mw := mz.new (o := .tup [lenV e.1.len, V.int (e.1.reach : Nat), V.ref lb]) hp4
        have m4 := (Imm.refl H14).new (o := .tup [lenV e.1.len, V.int (e.1.reach : Nat), V.ref lb]) hp4
        have kw := kz.new (o := .tup [lenV e.1.len, V.int (e.1.reach : Nat), V.ref lb]) hp4
        have p4e : upd H14 p4 (.tup [lenV e.1.len, V.int (e.1.reach : Nat), V.ref lb]) p4 = some (.tup [lenV e.1.len, V.int (e.1.reach : Nat), V.ref lb]) := upd_same
        generalize upd H14 p4 (.tup [lenV e.1.len, V.int (e.1.reach : Nat), V.ref lb]) = H15 at k15 m15 kw mw m4 p4e ⊢
        refine ⟨p3, p4, _, _, rfl, rfl, sqt_of (m4.tup p3e), sqt_of p4e, by simp, by show 3 + 3 ≤ sizeLine; decide, (fun h => nomatch h), fun _ p5 hp5 => ?_⟩
        have rn : RowAt (upd H15 p5 (.tup (([V.int (e.1.num : Nat), V.str e.1.key.1] ++ [V.int ((shK a b sg.length e.1.key).2 : Nat)]) ++ [lenV e.1.len, V.int (e.1.reach : Nat), V.ref lb]))) p5 ⟨e.1.num, shK a b sg.length e.1.key, e.1.len, e.1.reach, e.1.leans⟩ := ⟨lb, upd_same, (q2.imm mw).imm ((Imm.refl _).new hp5)⟩
        have k16 := k15.new (o := .tup (([V.int (e.1.num : Nat), V.str e.1.key.1] ++ [V.int ((shK a b sg.length e.1.key).2 : Nat)]) ++ [lenV e.1.len, V.int (e.1.reach : Nat), V.ref lb])) hp5
        have m16 := m15.new (o := .tup (([V.int (e.1.num : Nat), V.str e.1.key.1] ++ [V.int ((shK a b sg.length e.1.key).2 : Nat)]) ++ [lenV e.1.len, V.int (e.1.reach : Nat), V.ref lb])) hp5
        have mv6 := mw.new (o := .tup (([V.int (e.1.num : Nat), V.str e.1.key.1] ++ [V.int ((shK a b sg.length e.1.key).2 : Nat)]) ++ [lenV e.1.len, V.int (e.1.reach : Nat), V.ref lb])) hp5
        have kv6 := kw.new (o := .tup (([V.int (e.1.num : Nat), V.str e.1.key.1] ++ [V.int ((shK a b sg.length e.1.key).2 : Nat)]) ++ [lenV e.1.len, V.int (e.1.reach : Nat), V.ref lb])) hp5
        generalize upd H15 p5 (.tup (([V.int (e.1.num : Nat), V.str e.1.key.1] ++ [V.int ((shK a b sg.length e.1.key).2 : Nat)]) ++ [lenV e.1.len, V.int (e.1.reach : Nat), V.ref lb])) = H16 at k16 m16 mv6 kv6 rn ⊢
        have du16 := kv6.same du11
        refine ⟨du, ds.map (fun e => V.ref e.2), _, rfl, rfl, du16, line5 (by rw [List.length_map]; omega), _, ds ++ [((⟨e.1.num, shK a b sg.length e.1.key, e.1.len, e.1.reach, e.1.leans⟩ : Rw), p5)], rfl, k16.mem (by simp), m16.mut du16, ?_, ?_, ?_, fun z hz => ?_⟩
        · rw [upd_same, List.map_append]
          rfl
        · rw [List.map_append, dds, dueS, mv]
          rfl
        · rw [List.length_append, List.length_singleton]; omega
        · rcases List.mem_append.mp hz with h | h
          · exact ((drow z h).imm mv6).imm ((Imm.refl _).mut du16)
          · rw [List.mem_singleton.mp h]
            exact rn.imm ((Imm.refl _).mut du16)
      · have hbq : ¬ b ≤ e.1.key.2 := by have := of_decide_eq_false hc2; omega
        have mv : mvRw a b sg.length e.1 = none := by unfold mvRw; rw [if_neg hnle, if_neg hbq]
        refine ⟨_, ds, rfl, k11, m11, du11, ?_, by omega, drow⟩
        rw [dds, dueS, mv]
        simp
  · rintro σ H11 ⟨v11, ds, rfl, k11, m11, du11, dds, dlen, drow⟩
    rw [List.length_map] at dlen
    rw [List.length_map] at dds
    have etl : (rowsL (rdG G TX) tab).take es.length = rowsL (rdG G TX) tab := List.take_of_length_le (by rw [← ees, List.length_map]; exact Nat.le_refl _)
    rw [etl] at dds
    have c1 := cutS_length TX none (some (a : Nat))
    have c2 := cutS_length TX (some (b : Nat)) none
    have k911 : Keeps [] H9 H11 := k10.call k11 fun y hy => .inr (by rw [List.mem_singleton.mp hy]; exact hdu)
    have k211 := k29.trans k911
    have m211 := m210.trans m11
    refine ⟨_, rfl, _, rfl, _, rfl, _, rfl, _, rfl, TX, rfl, by omega, _, rfl, _, _, rfl, rfl, by omega, _, rfl, _, rfl, _, rfl, TX, rfl, by omega, _, _, rfl, rfl, by rw [app_len]; omega, _, rfl, ?_⟩
    dsimp only
    rw [hT']
    refine ⟨ra, d, du, t2, T', names.reverse, G, rdG G T', domN names, rk, _, _, ds, rfl, hold.kp k911 (m10.trans m11), dds, SqL.of du11, drow, ?_, (W2.rules.kp k211 (by simp) m211).at, W.isSome, S', fun H12 k12 m12 => k H12 ?_⟩
    · have : (duePut a b sg.length (rowsL (rdG G TX) tab)).length = ds.length := by rw [← dds, List.length_map]
      omega
    · exact k02.trans ((k211.trans k12).nil)
end
end Kr
/-! plain: rules changed -/
namespace Kr
open PySem PySem.Spec PyProof.Rows L2
theorem chK_nd {ks : List Str} {x : Str} {o : Option Fm} (h : ks.Nodup) : (chK ks x o).Nodup := by
  cases o with
  | none => exact h.filter _
  | some f => exact addK_nodup h
theorem chK_len {ks : List Str} {x : Str} {o : Option Fm} : (chK ks x o).length ≤ ks.length + 1 := by
  cases o with
  | none => exact Nat.le_trans (List.length_filter_le _ _) (Nat.le_succ _)
  | some f => exact addK_len
theorem chK_mem {ks : List Str} {x y : Str} {o : Option Fm} : y ∈ chK ks x o ↔ (if y = x then o.isSome = true else y ∈ ks) := by
  cases o with
  | none =>
    show y ∈ ks.filter _ ↔ _
    rw [List.mem_filter]
    by_cases e : y = x
    · rw [if_pos e]
      simp [e]
    · rw [if_neg e]
      simp [e]
  | some f =>
    show y ∈ addK ks x ↔ _
    rw [mem_addK]
    by_cases e : y = x
    · rw [if_pos e]
      simp [e]
    · rw [if_neg e]
      simp [e]
theorem chK_dom {ks : List Str} {G : Str → Option Fm} (h : ∀ x, x ∈ ks ↔ (G x).isSome = true) (x : Str) (o : Option Fm) : ∀ y, y ∈ chK ks x o ↔ (chG G x o y).isSome = true := by
  intro y
  rw [chK_mem]
  unfold chG
  split
  · exact Iff.rfl
  · exact h y
theorem chK_perm {ks ks' : List Str} (p : ks.Perm ks') (h : ks.Nodup) (x : Str) (o : Option Fm) : (chK ks x o).Perm (chK ks' x o) := by
  refine (List.perm_ext_iff_of_nodup (chK_nd h) (chK_nd (p.nodup_iff.mp h))).mpr fun y => ?_
  rw [chK_mem, chK_mem, p.mem_iff]
theorem Wd.rulesOk {H : Hp} {d rl : Addr} {names : List Str} {G : Str → Option Fm} {T : Str} {E : Str → Bool} {rk : Str → Nat} {tab : List Ky} (h : Wd H d rl names G T E rk tab) {x : Str} {o : Option Fm} (ho : o = none ∨ o = some .any) (hx : x ∈ domN names) : RulesOk (chK names.reverse x o) (chG G x o) := by
  have hd := chG_dom ho hx h.dom
  have d2 := chK_dom h.isSome x o
  have nr : names.reverse.Nodup := List.pairwise_reverse.mpr (h.nd.imp fun {a b} h => fun e => h e.symm)
  refine ⟨chK_nd nr, ?_, fun y hy => ?_, d2, fun y f hf => (hd y f hf).2.1⟩
  · have := chK_len (ks := names.reverse) (x := x) (o := o)
    rw [List.length_reverse] at this
    have := h.few
    omega
  · have h1 := (d2 y).mp hy
    cases e : chG G x o y with
    | none => rw [e] at h1; cases h1
    | some f => exact (domN_ok h.few h.nm).2 y (hd y f e).1
end Kr
namespace Kr
open PySem PySem.Spec PyProof.Rows L2
section
variable {P : Program} {w : World} {K : PySem.W.Frag} {mg : Str → Option Value} {base : Heap} {k : Nat}
def spLRule (K : PySem.W.Frag) : Sp := fun vs H Q _ => ∃ (bg d rl : Addr) (n : Nat) (x T : Str) (names : List Str) (G : Str → Option Fm) (E : Str → Bool) (rk : Str → Nat) (tab : List Ky), vs = [.ref bg, .ref d, .str T, .ref rl, .str x] ∧
  BagAt H bg n ∧ n ≤ 1000 ∧ bg ≠ d ∧ Wd H d rl names G T E rk tab ∧ x ∈ domN names ∧ ∀ H', Keeps [bg] H H' → Q (.bl true) H'
theorem ok_law_rule (T : Tp K mg) (c_law_take : Calls P w K mg base k "_law_take" ["bag", "many"] spTake) (c_law_loops : Calls P w K mg base k "_law_loops" ["rules"] spLoops) (c_laid : Calls P w K mg base k "laid" ["book", "text", "rows"] (spLaid K))
    (c_law_copies : Calls P w K mg base k "_law_copies" ["rows"] spCopies) (c_law_still : Calls P w K mg base k "_law_still" ["reader", "rules", "text", "due"] (spStill K))
    (m_Reader_rule : CallsM P w K mg base k (He.ga K "Reader") "rule" ["self", "name", "form"] (spRule K)) (m_Reader_drop : CallsM P w K mg base k (He.ga K "Reader") "drop" ["self", "name"] (spDrop K)) :
    Calls P w K mg base (k + 1) "_law_rule" ["bag", "rules", "text", "rows", "name"] (spLRule K) := by
  have sc : FnScope ["bag", "rules", "text", "rows", "name", "more", "reader", "row"] ["bag", "rules", "text", "rows", "name"] d_law_rule.scope := ⟨rfl, rfl, rfl, by decide +kernel, rfl, by decide +kernel, by decide +kernel⟩
  refine mkCall T in_law_rule rfl mg_law_rule rfl rfl sc (fun _ _ _ _ _ _ us hl => match us, hl with | [_, _, _, _, _], _ => rfl) (fun vs H Q E h => ?_) (fun f cdv A outer s H vs Q E hr h => ?_)
  · obtain ⟨bg, d, rl, n, x, TX, names, G, E0, rk, tab, rfl, _⟩ := h
    rfl
  obtain ⟨bg, d, rl, n, x, TX, names, G, E0, rk, tab, rfl, hbg, hn, hbd, W, hx, k⟩ := h
  refine ⟨_, (pss_cons (ps_set (i := 5) sc.nd rfl (by first | exact Or.inl rfl | exact Or.inr rfl) (pe_callTy call_dictD (by rfl) (T.fre _ mf_dict) bt_dict (pa_cons (pv 1) pa_nil)))
      (pss_cons (ps_if (PW.pt (pw_and (pt_cmp (pc_din (hu_of hr) (pv 4) (pv 1)) rfl) (pw_and1 (pt_cmpR op_eq (pcall c_law_take hr (pa_cons (pv 0) (pa_cons pe_int pa_nil))) pe_int (nomark _))))) (pss_one (ps_expr (pe_dpop1 (pv 5) (pv 4) ⟨rfl, rfl, rfl, rfl⟩))) (pss_one (ps_dput (hu_of hr) (pv 5) (pv 4) (pe_tup (pa_cons pe_str pa_nil)) rfl)))
      (pss_cons (ps_if (pt_val (pcall c_law_loops hr (pa_cons (pv 5) pa_nil))) (pss_one (ps_ret pe_bl)) pss_nil)
      (pss_cons (ps_set (i := 6) sc.nd rfl (by first | exact Or.inl rfl | exact Or.inr rfl) (pcall c_laid hr (pa_cons (pe_frz (pe_callB (cr_sortedItN rfl hr.units) (by rfl) (T.fre _ mf_sorted) bt_sorted (pa_cons (pe_bm0 PySem.F.plainAttrs_dict PySem.F.slot_dict_items PySem.F.type_dict_items mt_itemsK (pv 1)) pa_nil))) (pa_cons (pv 2) (pa_cons (pe_frz (pcall c_law_copies hr (pa_cons (pv 3) pa_nil))) pa_nil)))))
      (pss_cons (ps_if (pt_cmp (pc_din (hu_of hr) (pv 4) (pv 5)) rfl) (pss_one (ps_expr (pmeth (pv 6) (T.cls mk_Reader) m_Reader_rule hr (pa_cons (pv 4) (pa_cons (pe_tup (pa_cons pe_str pa_nil)) pa_nil))))) (pss_one (ps_expr (pmeth (pv 6) (T.cls mk_Reader) m_Reader_drop hr (pa_cons (pv 4) pa_nil)))))
      (pss_one (ps_ret (pcall c_law_still hr (pa_cons (pv 6) (pa_cons (pv 5) (pa_cons (pv 2) (pa_cons (pe_lc (own := [("row", 7)]) rfl sc.nd (pi_list (pv 3)) (blkOk_by (by kernel_rfl)) (fun _ _ _ _ _ => (pg_name (i := 7) sc.nd rfl (by first | exact Or.inl rfl | exact Or.inr rfl))) (fun _ _ _ _ _ => (pts_one (pt_cmpR (op_notIn_seqK (K := K) rfl) (pv 4) (pe_ix (ix_tupK (K := K) rfl) (pv 7) pe_int (fun _ _ => rfl)) (by rfl)))) (fun _ _ _ _ _ => (pv 7))) pa_nil)))))))))))), ?_⟩
  have C := T.cls mk_Reader
  have tl := W.tl
  have nB : ∀ y : Addr, y ≠ bg → y ∉ [bg] := fun y h z => h (List.mem_singleton.mp z)
  obtain ⟨ad0, hrd0, hrf0⟩ := id W.rules
  refine ⟨_, rfl, d, _, rfl, .inl hrd0, fun mo hmo => ?_⟩
  have k1 := (Keeps.refl [] H).new (o := .dK (mkD nmK (fun x => .ref (ad0 x)) names.reverse)) hmo
  have m1 := (Imm.refl H).new (o := .dK (mkD nmK (fun x => .ref (ad0 x)) names.reverse)) hmo
  have rm1 : RulesM (upd H mo (.dK (mkD nmK (fun x => .ref (ad0 x)) names.reverse))) mo names.reverse G := ⟨ad0, upd_same, fun y hy => let ⟨g, a, b⟩ := hrf0 y hy; ⟨g, a, b.imm m1⟩⟩
  have hmod : mo ≠ d := (ne_of_none hrd0 hmo).symm
  have hmob : mo ≠ bg := by
    obtain ⟨_, _, _, e, _⟩ := hbg
    exact (ne_of_none e hmo).symm
  generalize upd H mo (.dK (mkD nmK (fun x => .ref (ad0 x)) names.reverse)) = H1 at k1 m1 rm1 ⊢
  have bg1 := hbg.kp k1 (by simp)
  have W1 := W.kp k1 (by simp) m1
  refine gName_go ?_
  dsimp only
  refine seq_with (fun σ' H' => ∃ o, (o = none ∧ x ∈ names ∨ o = some .any) ∧ σ' = [some (.ref bg), some (.ref d), some (.str TX), some (.ref rl), some (.str x), some (.ref mo), none, none] ∧ Keeps [bg, mo] H1 H' ∧ Imm H1 H' ∧ RulesM H' mo (chK names.reverse x o) (chG G x o)) ?_ ?_
  · rintro σ' Hj ⟨o, hox, rfl, k2, m2, rm2⟩
    have ho : o = none ∨ o = some .any := hox.elim (fun h => .inl h.1) .inr
    have Rok := W.rulesOk ho hx
    have d2 := chK_dom W.isSome x o
    have k0j : Keeps [bg] H Hj := (k1.nil (S := [bg])).call k2 fun y hy => by
      simp only [List.mem_cons, List.not_mem_nil, or_false] at hy
      rcases hy with z | z
      · exact .inl (by rw [z]; simp)
      · exact .inr (by rw [z]; exact hmo)
    refine ⟨_, rfl, mo, _, _, rfl, rm2, Rok, fun b H2 k3 hb3 m3 => ⟨_, rfl, iteB (fun hb => ?_) (fun hb => ?_)⟩⟩
    · exact k H2 (k0j.trans k3.nil)
    obtain ⟨E', rk', K'⟩ := hb3 hb
    have k02 : Keeps [bg] H H2 := k0j.trans k3.nil
    have m02 : Imm H H2 := (m1.trans m2).trans m3
    have W2 := W.kp k02 (nB _ hbd.symm) m02
    have rmo := rm2.kp k3 (by simp) m3
    clear hb3 hb k3 m3 rm2 k0j k2 m2 k1 m1 rm1 bg1 W1 hrd0 hrf0
    obtain ⟨ad, hrd, hrf⟩ := id W2.rules
    refine ⟨_, rfl, ?_⟩
    -- LAY
    refine ⟨.inr (.inr (.inl ⟨rfl, .inl ⟨_, hrd⟩⟩)), d, _, rfl, rfl, .inl hrd, fun p hp => ?_⟩
    have kx := (Keeps.refl [] H2).new (o := L2.DX.itemsO p d) hp
    have mx := (Imm.refl H2).new (o := L2.DX.itemsO p d) hp
    have pe : upd H2 p (L2.DX.itemsO p d) p = some (L2.DX.itemsO p d) := upd_same
    generalize upd H2 p (L2.DX.itemsO p d) = H3 at kx mx pe ⊢
    have hrd3 : H3 d = some (.dK ((names.reverse.map fun x => (x, ad x)).map entK)) := by
      rw [kx.same hrd]
      unfold mkD
      rw [List.map_map]
      rfl
    refine ⟨p, d, names.reverse.map fun x => (x, ad x), rfl, pe, .inl hrd3, by rw [List.length_map, List.length_reverse]; have := W.few; omega, ?_, fun H4 l ps k4 hl perm srt hle ht => ⟨l, _, rfl, hle, trivial, fun od => ?_⟩⟩
    · rw [List.map_map]
      show (names.reverse.map fun x => x).Nodup
      rw [List.map_id']
      exact List.pairwise_reverse.mpr (W.nd.imp fun {a b} h => fun e => h e.symm)
    have k5 := (kx.trans k4).own (o := .frz od (.lst (ps.map fun z => V.ref z.1))) (kx.free0 hl)
    have m4 : Imm H3 H4 := fun b o h _ => k4.same h
    have m5 := (mx.trans m4).mut (o := .frz od (.lst (ps.map fun z => V.ref z.1))) hle
    have m45 := (Imm.refl H4).mut (o := .frz od (.lst (ps.map fun z => V.ref z.1))) hle
    have l5 : upd H4 l (.frz od (.lst (ps.map fun z => V.ref z.1))) l = some (.frz od (.lst (ps.map fun z => V.ref z.1))) := upd_same
    generalize upd H4 l (.frz od (.lst (ps.map fun z => V.ref z.1))) = H5 at k5 m5 m45 l5 ⊢
    obtain ⟨bs, hB, hris, hbp, hbG, hbo⟩ := book_of (H' := H5) W.nd (fun x hx => let ⟨f, h1, h2⟩ := hrf x (List.mem_reverse.mpr hx); ⟨f, h1, h2.imm m5⟩) W.no perm srt l5 (fun z hz => m45.tup (ht z hz))
    clear kx mx pe hrd3 hl perm srt hle ht k4 m4 m45 l5
    refine ⟨_, rfl, _, rfl, rl, _, rfl, W2.rows.imm m5, by unfold rowsL; rw [List.length_map]; have := W.few48; omega, fun l2 H6 hl2 k6 rm m6 => ?_⟩
    obtain ⟨es2, hes2, hl2e, hrow2⟩ := rm
    refine ⟨l2, _, rfl, hl2e, trivial, fun od2 => ?_⟩
    have k7 := (k5.trans k6).own (o := .frz od2 (.lst (es2.map fun e => V.ref e.2))) (k5.free0 hl2)
    have m7 := (m5.trans m6).mut (o := .frz od2 (.lst (es2.map fun e => V.ref e.2))) hl2e
    have m57 := m6.mut (o := .frz od2 (.lst (es2.map fun e => V.ref e.2))) hl2e
    have m67 := (Imm.refl H6).mut (o := .frz od2 (.lst (es2.map fun e => V.ref e.2))) hl2e
    have rows7 : RowsAt (upd H6 l2 (.frz od2 (.lst (es2.map fun e => V.ref e.2)))) l2 (rowsL (rdG G TX) tab) := ⟨od2, es2, hes2, upd_same, fun e he => (hrow2 e he).imm m67⟩
    generalize upd H6 l2 (.frz od2 (.lst (es2.map fun e => V.ref e.2))) = H7 at k7 m7 m57 m67 rows7 ⊢
    have bsl : bs.length ≤ 7 := by
      have := hbp.length_eq
      rw [List.length_map] at this
      have := W.few
      omega
    refine ⟨l, l2, TX, bs, rowsL (rdG G TX) tab, rdG G TX, domN names, rk, rfl, hB.imm m57, hris, by omega, fun c hc => ?_, noLoop_of W.rkd hbo, rows7, by rw [hbG]; exact W.sys, W.rowsOk, fun ra rd t nm dl tb H8 k8 new8 R8 tbn tbm m8 => ?_⟩
    · obtain ⟨h1, h2, _⟩ := W.dom _ _ (hbo c hc)
      exact ⟨(domN_ok W.few W.nm).2 _ h1, h2⟩
    rw [hbG] at R8
    rw [rowsL_key] at R8 tbm
    have k28 := k7.trans k8
    have m28 := m7.trans m8
    have hnew : ∀ y ∈ [ra, rd, t, nm, dl], H2 y = none := fun y hy => k7.free0 (new8 y hy)
    clear k7 m7 m57 m67 rows7 hes2 hl2e hrow2 hl2 k6 m6 k5 m5 hB new8 k8 m8
    -- LAY END
    have tbl : tb.length ≤ 48 := by
      have h1 := nodup_lenG tb tab tbn fun x hx => (tbm x).mp hx
      have := W.few48
      omega
    have rm8 := rmo.kp k28 (by simp) m28
    obtain ⟨⟨dx, fu, hi⟩, _⟩ := id R8
    have okx : okN x := (domN_ok W.few W.nm).2 x hx
    have S := W.sys
    have lea : ∀ q ∈ tb, (rdG G TX q).leans.length ≤ 1000 := fun q hq => by
      have := S.leansN ((W.tin q).mp ((tbm q).mp hq))
      omega
    have bsn : (bs.map (·.1)).Nodup := hbp.nodup_iff.mpr W.nd
    refine gName_go ?_
    dsimp only
    refine seq_with (fun σ' H' => σ' = [some (.ref bg), some (.ref d), some (.str TX), some (.ref rl), some (.str x), some (.ref mo), some (.ref ra), none] ∧ Keeps [rd, t, nm, dl] H8 H' ∧ Imm H8 H' ∧ ∃ ks2 G2, RdrAt K H' ra rd t nm dl ks2 G2 TX (rdG G TX) (tb.filter fun q => decide (q ∉ tabX (rdG G TX) tb x)) (tab.filter fun q => decide (q ∉ tabX (rdG G TX) tb x)) (numOf (rowsL (rdG G TX) tab))) ?_ ?_
    · rintro σ' H9 ⟨rfl, k9, m9, ks2, G2, r9⟩
      obtain ⟨S', hold⟩ := W.ruleHolds K' ho hx tbm tbn r9
      have k29 : Keeps [] H2 H9 := k28.call k9 fun y hy => .inr (hnew y (List.mem_cons_of_mem _ hy))
      have m29 := m28.trans m9
      have rm9 := rmo.kp k29 (by simp) m29
      obtain ⟨orl, es, ees, hrl, hrow⟩ := W2.rows
      have esl : es.length ≤ 48 := by
        have : es.length = (rowsL (rdG G TX) tab).length := by rw [← ees, List.length_map]
        unfold rowsL at this
        rw [List.length_map] at this
        have := W.few48
        omega
      refine ⟨_, rfl, _, rfl, _, rfl, _, rfl, _, rfl, ⟨_, sq_fr (k29.same hrl)⟩, fun D hD => lc_fun es (fun e => decide (x ∉ e.1.leans)) V.ref (fun e => e.2) walk_list (by rw [List.length_map]) (by omega) hD (fun H' k' _ => sq_fr ((k29.trans k').same hrl)) ?_ ?_⟩
      · rintro i y z Ha Ha' hy ka ma ⟨rfl, hz⟩ R' N hR hN
        obtain ⟨e, he1, hm, rfl⟩ := getM hz
        obtain rfl : e = y := Option.some.inj (he1.symm.trans hy)
        obtain ⟨lb, q1, q2⟩ := ((hrow e hm).imm m29).imm ma
        refine ⟨rfl, _, rfl, _, rfl, _, _, _, _, rfl, rfl, sqt_of q1, at_5 rfl, lb, _, rfl, .inl q2.sq, rfl, flat_strs _, ?_⟩
        rw [if_pos rfl, inV_str]
        refine ⟨_, rfl, iteB (fun hb => ⟨_, rfl, hR ?_ _ (Keeps.refl _ _) (Imm.refl _)⟩) (fun hb => hN ?_ _ (Keeps.refl _ _) (Imm.refl _))⟩
        · by_cases c : x ∈ e.1.leans
          · rw [decide_eq_true c] at hb; cases hb
          · exact decide_eq_true c
        · by_cases c : x ∈ e.1.leans
          · exact decide_eq_false fun z => z c
          · rw [decide_eq_false c] at hb; cases hb
      · intro Ha ka ma ea
        have k2a := k29.trans ka
        have m2a := m29.trans ma
        refine ⟨ra, mo, D, t, TX, chK names.reverse x o, chG G x o, rdG (chG G x o) TX, domN names, rk', _, _, es.filter fun e => decide (x ∉ e.1.leans), rfl, hold.kp ka ma, ?_, SqL.of ?_, fun e he => (hrow e (List.mem_filter.mp he).1).imm m2a, ?_, (rm9.kp ka (by simp) ma).at, d2, S', fun H12 k12 m12 => k H12 (k02.trans ((k2a.trans k12).nil))⟩
        · rw [← ees, List.filter_map]
          rfl
        · rw [ea, List.map_map]
          rfl
        · have h1 := List.length_filter_le (fun r : Rw => decide (x ∉ r.leans)) (rowsL (rdG G TX) tab)
          have : (rowsL (rdG G TX) tab).length = es.length := by rw [← ees, List.length_map]
          omega
    · intro fin
      obtain ⟨adm, hmo8, hmf8⟩ := id rm8
      have nk : x ∈ chK names.reverse x o ↔ o.isSome = true := by rw [chK_mem, if_pos rfl]
      rcases hox with ⟨rfl, hxn⟩ | rfl
      · have hno : x ∉ chK names.reverse x none := fun z => by cases nk.mp z
        refine ⟨_, rfl, _, rfl, mo, _, rfl, .inl ⟨_, nmK x, .inl hmo8, rfl, (mkD_no (f := nmK) (g := fun x => V.ref (adm x)) nmK_inj hno).symm⟩, _, rfl, iteF ?_⟩
        refine ⟨_, rfl, ra, dx, _, rfl, hi, rfl, _, rfl, ra, rd, t, nm, dl, TX, bs.map (·.1), G, rdG G TX, tb, tab, numOf (rowsL (rdG G TX) tab), x, rfl, R8.mono (by omega), okx, hbp.mem_iff.mpr hxn, by rw [List.length_map]; omega, tbn, by omega, fun q hq => (tbm q).mp hq, lea, fun H9 k9 r9 m9 => fin _ _ ⟨rfl, k9, m9, _, _, r9⟩⟩
      · have hin : x ∈ chK names.reverse x (some .any) := nk.mpr rfl
        refine ⟨_, rfl, _, rfl, mo, _, rfl, .inl ⟨_, nmK x, .inl hmo8, rfl, (mkD_in (f := nmK) (g := fun x => V.ref (adm x)) nmK_inj hin).symm⟩, _, rfl, iteT ?_⟩
        refine ⟨_, rfl, ra, dx, _, rfl, hi, rfl, _, rfl, show 1 ≤ sizeLine by decide, fun fa hfa => ?_⟩
        have kf := (Keeps.refl [] H8).new (o := .tup [V.str "any"]) hfa
        have mf := (Imm.refl H8).new (o := .tup [V.str "any"]) hfa
        have ff : FormAt (upd H8 fa (.tup [V.str "any"])) fa .any := upd_same
        generalize upd H8 fa (.tup [V.str "any"]) = Hf at kf mf ff ⊢
        refine ⟨ra, rd, t, nm, dl, fa, TX, bs.map (·.1), G, rdG G TX, tb, tab, numOf (rowsL (rdG G TX) tab), x, .any, rfl, (R8.kp kf (by simp) mf).mono (by omega), ff, okx, trivial, by rw [List.length_map]; omega, bsn, fun y _ g hg => (W.dom y g hg).2.1, fun bs' _ hb' => noLoop_of K' hb', tbn, by omega, fun q hq => (tbm q).mp hq, lea, fun H9 k9 r9 m9 => fin _ _ ⟨rfl, kf.nil.trans k9, mf.trans m9, _, _, r9⟩⟩
  · intro fin
    obtain ⟨ad1, hrd1, hrf1⟩ := id W1.rules
    have nM : ∀ y : Addr, y ≠ bg → y ∉ [bg] := nB
    by_cases hxn : x ∈ names
    · have hget : DGet H1 d (.str x) (some (.ref (ad1 x))) := .inl ⟨_, nmK x, .inl hrd1, rfl, (mkD_in (f := nmK) (g := fun x => V.ref (ad1 x)) nmK_inj (List.mem_reverse.mpr hxn)).symm⟩
      refine ⟨_, rfl, _, rfl, d, _, rfl, hget, _, rfl, iteT ⟨_, rfl, bg, 2, n, rfl, bg1, by omega, by omega, by omega, fun v H2 k2 b2 hv0 hv2 m2 => ⟨rfl, _, rfl, iteB (fun hb => ?_) (fun hb => ?_)⟩⟩⟩
      · obtain ⟨kvs, vp, H3, e1, e2, rfl, r3, m3, k3⟩ := rules_pop (rm1.kp k2 (nM _ hmob) m2) (List.mem_reverse.mpr hxn)
        exact ⟨_, rfl, mo, rfl, .inl ⟨_, .inl e1⟩, _, rfl, kvs, nmK x, vp, e1, rfl, e2, fin _ _ ⟨none, .inl ⟨rfl, hxn⟩, rfl, (k2.mono (by simp)).trans (k3.mono (by simp)), m2.trans m3, r3⟩⟩
      · refine ⟨show 1 ≤ sizeLine by decide, fun fa hfa => ?_⟩
        have kf := k2.new (o := .tup [V.str "any"]) hfa
        have mf := m2.new (o := .tup [V.str "any"]) hfa
        have ff : FormAt (upd H2 fa (.tup [V.str "any"])) fa .any := upd_same
        generalize upd H2 fa (.tup [V.str "any"]) = Hf at kf mf ff ⊢
        obtain ⟨H3, dp, r3, m3, k3⟩ := rules_put (rm1.kp kf (nM _ hmob) mf) ff (line5 (by rw [List.length_reverse]; have := W.few; omega)) (x := x)
        exact ⟨_, rfl, _, rfl, mo, H3, rfl, dp, fin _ _ ⟨some .any, .inr rfl, rfl, (kf.mono (by simp)).trans (k3.mono (by simp)), mf.trans m3, r3⟩⟩
    · have hget : DGet H1 d (.str x) none := .inl ⟨_, nmK x, .inl hrd1, rfl, (mkD_no (f := nmK) (g := fun x => V.ref (ad1 x)) nmK_inj fun z => hxn (List.mem_reverse.mp z)).symm⟩
      refine ⟨_, rfl, _, rfl, d, _, rfl, hget, _, rfl, iteF ?_⟩
      refine ⟨show 1 ≤ sizeLine by decide, fun fa hfa => ?_⟩
      have kf := (Keeps.refl [bg] H1).new (o := .tup [V.str "any"]) hfa
      have mf := (Imm.refl H1).new (o := .tup [V.str "any"]) hfa
      have ff : FormAt (upd H1 fa (.tup [V.str "any"])) fa .any := upd_same
      generalize upd H1 fa (.tup [V.str "any"]) = Hf at kf mf ff ⊢
      obtain ⟨H3, dp, r3, m3, k3⟩ := rules_put (rm1.kp kf (nM _ hmob) mf) ff (line5 (by rw [List.length_reverse]; have := W.few; omega)) (x := x)
      exact ⟨_, rfl, _, rfl, mo, H3, rfl, dp, fin _ _ ⟨some .any, .inr rfl, rfl, (kf.mono (by simp)).trans (k3.mono (by simp)), mf.trans m3, r3⟩⟩
end
end Kr
namespace Kr
open PySem PySem.Spec PyProof.Rows L2
section
variable {P : Program} {w : World} {K : PySem.W.Frag} {mg : Str → Option Value} {base : Heap} {k : Nat}
def spLaw (K : PySem.W.Frag) : Sp := fun vs H Q _ => ∃ (a : Addr) (ns : List Int), vs = [.ref a] ∧ SqL K H a (ns.map V.int) ∧ ∀ H', Q (.bl true) H'
theorem body_law (T : Tp K mg) (c_law_bag : Calls P w K mg base k "_law_bag" ["cell", "k"] spBag) (c_law_cell_at : Calls P w K mg base k "_law_cell_at" ["script", "k"] (spCellAt K)) (c_law_world : Calls P w K mg base k "_law_world" ["bag", "most"] spWorld)
    (c_law_rows : Calls P w K mg base k "_law_rows" ["names", "rules", "text"] spRows) (c_law_nobody : Calls P w K mg base k "_law_nobody" ["names"] (spNobody K))
    (c_law_put : Calls P w K mg base k "_law_put" ["bag", "rules", "text", "rows", "a", "b", "some"] (spLPut K)) (c_law_rule : Calls P w K mg base k "_law_rule" ["bag", "rules", "text", "rows", "name"] (spLRule K)) :
    BodyOk P w K mg base k d_law ["script", "bag", "rows", "a", "k", "names", "some", "rules", "text", "b", "name"] (spLaw K) := by
  have sc : FnScope ["script", "bag", "rows", "a", "k", "names", "some", "rules", "text", "b", "name"] ["script"] d_law.scope := ⟨rfl, rfl, rfl, by decide +kernel, rfl, by decide +kernel, by decide +kernel⟩
  intro f cdv A outer s H vs Q E hr h
  obtain ⟨a, ns, rfl, hs, k⟩ := h
  refine ⟨_, (pss_cons (ps_set (i := 1) sc.nd rfl (by first | exact Or.inl rfl | exact Or.inr rfl) (pcall c_law_bag hr (pa_cons (pcall c_law_cell_at hr (pa_cons (pv 0) (pa_cons pe_int pa_nil))) (pa_cons pe_int pa_nil))))
      (pss_cons (ps_asg (pcall c_law_world hr (pa_cons (pv 1) (pa_cons pe_int pa_nil))) (pg_tupK (K := K) (n := 4) rfl rfl (pgs_cons (pg_name (i := 5) sc.nd rfl (by first | exact Or.inl rfl | exact Or.inr rfl)) (pgs_cons (pg_name (i := 6) sc.nd rfl (by first | exact Or.inl rfl | exact Or.inr rfl)) (pgs_cons (pg_name (i := 7) sc.nd rfl (by first | exact Or.inl rfl | exact Or.inr rfl)) (pgs_cons (pg_name (i := 8) sc.nd rfl (by first | exact Or.inl rfl | exact Or.inr rfl)) pgs_nil))))))
      (pss_cons (ps_set (i := 2) sc.nd rfl (by first | exact Or.inl rfl | exact Or.inr rfl) (pe_frz (pcall c_law_rows hr (pa_cons (pv 5) (pa_cons (pv 7) (pa_cons (pv 8) pa_nil))))))
      (pss_cons (ps_for PassesOwn.never rfl (pi_range1 (by rfl) (T.fre _ mf_range) (pa_cons (pe_op op_add (pe_callB call_len_str (by rfl) (T.fre _ mf_len) bt_len (pa_cons (pv 8) pa_nil)) pe_int) pa_nil)) (pg_name (i := 3) sc.nd rfl (by first | exact Or.inl rfl | exact Or.inr rfl))
        (pss_one (ps_for PassesOwn.never rfl (pi_range2 (by rfl) (T.fre _ mf_range) (pa_cons (pv 3) (pa_cons (pe_op op_add (pe_callB call_len_str (by rfl) (T.fre _ mf_len) bt_len (pa_cons (pv 8) pa_nil)) pe_int) pa_nil))) (pg_name (i := 9) sc.nd rfl (by first | exact Or.inl rfl | exact Or.inr rfl))
        (pss_one (ps_if (pt_not (pt_val (pcall c_law_put hr (pa_cons (pcall c_law_bag hr (pa_cons (pcall c_law_cell_at hr (pa_cons (pv 0) (pa_cons (pe_op op_add pe_int (pv 3)) pa_nil))) (pa_cons (pe_op op_add (pe_op op_mul pe_int (pv 3)) (pv 9)) pa_nil))) (pa_cons (pv 7) (pa_cons (pv 8) (pa_cons (pv 2) (pa_cons (pv 3) (pa_cons (pv 9) (pa_cons (pv 6) pa_nil)))))))))) (pss_one (ps_ret pe_bl)) pss_nil)))))
      (pss_cons (ps_for PassesOwn.never rfl (pi_range1 (by rfl) (T.fre _ mf_range) (pa_cons (pe_op op_add (pe_callB call_len_seq (by rfl) (T.fre _ mf_len) bt_len (pa_cons (pv 5) pa_nil)) pe_int) pa_nil)) (pg_name (i := 4) sc.nd rfl (by first | exact Or.inl rfl | exact Or.inr rfl))
        (pss_cons (ps_set (i := 10) sc.nd rfl (by first | exact Or.inl rfl | exact Or.inr rfl) (pe_ix ix_list (pe_op op_catS (pv 5) (pe_lst (pa_cons (pcall c_law_nobody hr (pa_cons (pv 5) pa_nil)) pa_nil))) (pv 4) (fun _ _ => rfl)))
      (pss_one (ps_if (pt_not (pt_val (pcall c_law_rule hr (pa_cons (pcall c_law_bag hr (pa_cons (pcall c_law_cell_at hr (pa_cons (pv 0) (pa_cons (pe_op op_add pe_int (pv 4)) pa_nil))) (pa_cons (pe_op op_add pe_int (pv 4)) pa_nil))) (pa_cons (pv 7) (pa_cons (pv 8) (pa_cons (pv 2) (pa_cons (pv 10) pa_nil)))))))) (pss_one (ps_ret pe_bl)) pss_nil))))
      (pss_one (ps_ret pe_bl))))))), ?_⟩
  refine ⟨_, rfl, a, ns, 0, rfl, hs, by omega, fun c0 _ => ⟨c0, 0, rfl, by omega, by omega, fun bg H1 hbg k1 bg1 m1 => ?_⟩⟩
  refine ⟨_, rfl, bg, 5, 0, rfl, by omega, bg1, by omega, fun wt l d names G sm TX H2 k2 hd hwt W0 tl m2 => ?_⟩
  refine ⟨wt, _, rfl, sqt_of hwt, rfl, _, _, rfl, _, _, rfl, _, _, rfl, _, _, rfl, rfl, ?_⟩
  obtain ⟨E0, rk, K0⟩ := ranked_of W0.few W0.nd W0.no W0.ok (nobody_ok (names := names) (by have := W0.few; omega)).1
  have dom : ∀ x f, G x = some f → x ∈ domN names ∧ f.ok ∧ ∀ q ∈ f.parts, q ∈ domN names := fun x f h => let ⟨a, b, c⟩ := okAt_dom W0.no W0.ok W0.nd x f h; ⟨List.mem_append.mpr (.inl a), b, c⟩
  have isS : ∀ x, x ∈ names.reverse ↔ (G x).isSome = true := fun x => by
    rw [List.mem_reverse]
    constructor
    · intro hx
      obtain ⟨ad, _, h2⟩ := W0.rules
      obtain ⟨f, e, _⟩ := h2 x (List.mem_reverse.mpr hx)
      rw [e]; rfl
    · intro hx
      refine Classical.byContradiction fun z => ?_
      rw [W0.no x z] at hx
      cases hx
  have S0 := sys_world W0.few W0.nm K0 dom (T := TX) (by omega) W0.tT
  have k02 : Keeps [] H H2 := k1.call k2 fun y hy => .inr (by rw [List.mem_singleton.mp hy]; exact hbg)
  refine ⟨_, rfl, _, rfl, _, rfl, l, d, TX, names, names.reverse, G, rdG G TX, rk, rfl, W0.at_, W0.few, W0.rules.at, isS, S0, fun rl tab H3 hrl k3 rm tnd tin m3 => ?_⟩
  obtain ⟨esr, hesr, hrle, hrow⟩ := rm
  refine ⟨rl, _, rfl, hrle, trivial, fun od => ?_⟩
  have k4 := (k02.trans k3).own (o := .frz od (.lst (esr.map fun e => V.ref e.2))) (k02.free0 hrl)
  have k24 := k3.own (o := .frz od (.lst (esr.map fun e => V.ref e.2))) hrl
  have m24 := m3.mut (o := .frz od (.lst (esr.map fun e => V.ref e.2))) hrle
  have m34 := (Imm.refl H3).mut (o := .frz od (.lst (esr.map fun e => V.ref e.2))) hrle
  have r4 : RowsAt (upd H3 rl (.frz od (.lst (esr.map fun e => V.ref e.2)))) rl (rowsL (rdG G TX) tab) := ⟨od, esr, hesr, upd_same, fun e he => (hrow e he).imm m34⟩
  generalize upd H3 rl (.frz od (.lst (esr.map fun e => V.ref e.2))) = H4 at k4 k24 m24 r4 ⊢
  have W : Wd H4 d rl names G TX E0 rk tab := ⟨W0.rules.kp k24 (by simp) m24, W0.few, W0.nd, W0.nm, W0.no, dom, K0, tl, W0.tT, r4, tnd, tin⟩
  have l4 := W0.at_.imm m24
  have hd4 : H4 d ≠ none := by
    obtain ⟨_, e, _⟩ := W.rules
    rw [e]; exact fun z => nomatch z
  have hsz : 100 ≤ sizeLine := by decide
  have smT := W0.smT
  have sm3 := W0.sm3
  clear hwt W0 bg1 k24 m24 m34 r4 hrow hrle hrl k3 m3 hesr k02 S0
  refine ⟨_, rfl, TX, rfl, by omega, _, _, rfl, rfl, _, rfl, by omega, by omega, ?_⟩
  have e0 : (((TX.length : Nat) : Int) + 1).toNat = TX.length + 1 := by omega
  rw [e0]
  refine for_it walk_range (fun i σ H' => ∃ (v3 v9 : Option V), σ = [some (.ref a), some (.ref bg), some (.ref rl), v3, none, some (.ref l), some (.str sm), some (.ref d), some (.str TX), v9, none] ∧ Keeps [] H4 H' ∧ Imm H4 H') ⟨_, _, rfl, Keeps.refl _ _, Imm.refl _⟩ (fun _ _ _ _ _ => trivial) ?_ ?_
  · rintro i x σ H5 H5' hi ⟨v3, v9, rfl, k5, m5⟩ ⟨rfl, rfl⟩
    show gName 3 (V.int ((0 : Int) + ((i : Nat) : Int))) _ _ _
    rw [show (0 : Int) + ((i : Nat) : Int) = ((i : Nat) : Int) from Int.zero_add _]
    refine ⟨_, rfl, _, rfl, TX, rfl, by omega, _, _, rfl, rfl, _, _, rfl, by omega, ?_⟩
    have e1 : ((((TX.length : Nat) : Int) + 1) - ((i : Nat) : Int)).toNat = TX.length + 1 - i := by omega
    rw [e1]
    refine for_it walk_range (fun j σ H' => ∃ (v9 : Option V), σ = [some (.ref a), some (.ref bg), some (.ref rl), some (.int (i : Nat)), none, some (.ref l), some (.str sm), some (.ref d), some (.str TX), v9, none] ∧ Keeps [] H4 H' ∧ Imm H4 H') ⟨_, rfl, k5, m5⟩ (fun _ _ _ _ _ => trivial) ?_ ?_
    · rintro j x σ H6 H6' hj ⟨v9, rfl, k6, m6⟩ ⟨rfl, rfl⟩
      show gName 9 (V.int (((i : Nat) : Int) + ((j : Nat) : Int))) _ _ _
      rw [show ((i : Nat) : Int) + ((j : Nat) : Int) = ((i + j : Nat) : Int) by omega]
      refine ⟨_, rfl, _, rfl, _, _, rfl, rfl, a, ns, _, rfl, sq_kp hs (k4.trans k6) (by simp), by omega, fun c1 _ => ?_⟩
      refine ⟨_, rfl, _, _, rfl, rfl, ?_, _, rfl, _, _, rfl, rfl, ?_⟩
      · exact .inl ⟨by decide, by decide⟩
      refine ⟨c1, _, rfl, by omega, by omega, fun b2 H7 hb2 k7 bg7 m7 => ?_⟩
      have k47 := k6.trans k7
      have m47 := m6.trans m7
      have bd : b2 ≠ d := fun e => hd4 (by rw [← e]; exact k6.free0 hb2)
      refine ⟨_, rfl, _, rfl, _, rfl, _, rfl, _, rfl, _, rfl, b2, d, rl, 0, i, i + j, sm, TX, names, G, E0, rk, tab, rfl, bg7, by omega, bd, W.kp k47 (by simp) m47, by omega, by omega, smT, sm3, fun H8 k8 m8 => ?_⟩
      have k48 : Keeps [] H4 H8 := k47.call k8 fun y hy => .inr (by rw [List.mem_singleton.mp hy]; exact k6.free0 hb2)
      exact ⟨_, rfl, iteN rfl ⟨_, rfl, k48, m47.trans m8⟩⟩
    · rintro σ H6 ⟨v9, rfl, k6, m6⟩
      exact ⟨_, _, rfl, k6, m6⟩
  · rintro σ H5 ⟨v3, v9, rfl, k5, m5⟩
    have W5 := W.kp k5 (by simp) m5
    have nlen : (names.map V.str).length = names.length := List.length_map _
    have few := W.few
    obtain ⟨ol, hl5⟩ := l4.imm m5
    refine ⟨_, rfl, l, names.map V.str, rfl, .inl (sq_fr hl5), _, _, rfl, rfl, _, rfl, by omega, by omega, ?_⟩
    have e1 : ((((names.map V.str).length : Nat) : Int) + 1).toNat = names.length + 1 := by omega
    rw [e1]
    refine for_it walk_range (fun i σ H' => ∃ (v3 v4 v9 v10 : Option V), σ = [some (.ref a), some (.ref bg), some (.ref rl), v3, v4, some (.ref l), some (.str sm), some (.ref d), some (.str TX), v9, v10] ∧ Keeps [] H4 H' ∧ Imm H4 H') ⟨_, _, _, _, rfl, k5, m5⟩ (fun _ _ _ _ _ => trivial) ?_ ?_
    · rintro i x σ H6 H6' hi ⟨v3, v4, v9, v10, rfl, k6, m6⟩ ⟨rfl, rfl⟩
      show gName 4 (V.int ((0 : Int) + ((i : Nat) : Int))) _ _ _
      rw [show (0 : Int) + ((i : Nat) : Int) = ((i : Nat) : Int) from Int.zero_add _]
      obtain ⟨o6, hl6⟩ := l4.imm m6
      refine ⟨_, rfl, _, rfl, l, names, rfl, sq_fr hl6, by omega, fun H7 k7 m7 => ⟨show 1 ≤ sizeLine by decide, fun p hp => ?_⟩⟩
      have k8 := k7.new (o := .lst [V.str (nobody names)]) hp
      have m8 := m7.new (o := .lst [V.str (nobody names)]) hp
      have p8 : upd H7 p (.lst [V.str (nobody names)]) p = some (.lst [V.str (nobody names)]) := upd_same
      generalize upd H7 p (.lst [V.str (nobody names)]) = H8 at k8 m8 p8 ⊢
      refine ⟨l, p, names.map V.str, [V.str (nobody names)], rfl, rfl, .inr ⟨_, k8.same hl6⟩, .inl p8, by rw [nlen]; show _ + 1 ≤ _; omega, fun n hn => ?_⟩
      have k9 := k8.new (o := .lst (names.map V.str ++ [V.str (nobody names)])) hn
      have m9 := m8.new (o := .lst (names.map V.str ++ [V.str (nobody names)])) hn
      have n9 : upd H8 n (.lst (names.map V.str ++ [V.str (nobody names)])) n = some (.lst ((domN names).map V.str)) := by rw [upd_same, List.map_append]; rfl
      generalize upd H8 n (.lst (names.map V.str ++ [V.str (nobody names)])) = H9 at k9 m9 n9 ⊢
      have dl : (domN names).length = names.length + 1 := by show (names ++ [nobody names]).length = _; rw [List.length_append, List.length_singleton]
      have hg : (domN names)[i]? = some ((domN names)[i]'(by omega)) := List.getElem?_eq_getElem (by omega)
      have hxm : (domN names)[i]'(by omega) ∈ domN names := List.getElem_mem _
      generalize (domN names)[i]'(by omega) = x at hg hxm
      refine ⟨_, rfl, n, _, _, _, rfl, rfl, SqL.of n9, atI_nat (by rw [List.getElem?_map, hg]; rfl), ?_⟩
      have k49 := k6.trans k9
      have m49 := m6.trans m9
      refine ⟨_, rfl, _, rfl, _, _, rfl, rfl, a, ns, _, rfl, sq_kp hs (k4.trans k49) (by simp), by omega, fun c1 _ => ?_⟩
      refine ⟨_, rfl, _, _, rfl, rfl, ?_⟩
      refine ⟨c1, _, rfl, by omega, by omega, fun b2 H10 hb2 k10 bg10 m10 => ?_⟩
      have k410 := k49.trans k10
      have m410 := m49.trans m10
      have bd : b2 ≠ d := fun e => hd4 (by rw [← e]; exact k49.free0 hb2)
      refine ⟨_, rfl, _, rfl, _, rfl, _, rfl, b2, d, rl, 0, x, TX, names, G, E0, rk, tab, rfl, bg10, by omega, bd, W.kp k410 (by simp) m410, hxm, fun H11 k11 m11 => ?_⟩
      have k411 : Keeps [] H4 H11 := k410.call k11 fun y hy => .inr (by rw [List.mem_singleton.mp hy]; exact k49.free0 hb2)
      exact ⟨_, rfl, iteN rfl ⟨_, _, _, _, rfl, k411, m410.trans m11⟩⟩
    · rintro σ H6 ⟨v3, v4, v9, v10, rfl, k6, m6⟩
      exact k H6
end
end Kr
/-! the levels joined -/
namespace Kr
open PySem PySem.Spec PyProof.Rows L2
section
variable {P : Program} {w : World} {K : PySem.W.Frag} {mg : Str → Option Value} {base : Heap} {k : Nat}
theorem no_law_reading (T : Tp K mg) : Calls P w K mg base 1 "_law_reading" ["rules", "text", "table", "order", "name", "place"] (spReading 0) := by
  have sc : FnScope ["rules", "text", "table", "order", "name", "place", "word", "parts", "length", "asked", "at", "reach", "leans", "key", "got", "one", "there"] ["rules", "text", "table", "order", "name", "place"] d_law_reading.scope := ⟨rfl, rfl, rfl, by decide +kernel, rfl, by decide +kernel, by decide +kernel⟩
  exact mkCall T in_law_reading rfl mg_law_reading rfl rfl sc (fun _ _ _ _ _ _ us hl => match us, hl with | [_, _, _, _, _, _], _ => rfl) (fun vs H Q E h => reading_zero h) (fun f cdv A outer s H vs Q E hr h => reading_zero h)
theorem all_law_reading (T : Tp K mg) : ∀ j : Nat, Calls P w K mg base (j + 1) "_law_reading" ["rules", "text", "table", "order", "name", "place"] (spReading j)
  | 0 => no_law_reading T
  | j + 1 => ok_law_reading T (all_law_reading T j)
theorem law_ok (T : Tp K mg) : BodyOk P w K mg base 83 d_law ["script", "bag", "rows", "a", "k", "names", "some", "rules", "text", "b", "name"] (spLaw K) := by
  have v_reading : Calls P w K mg base 81 "_law_reading" ["rules", "text", "table", "order", "name", "place"] (spReading 80) := all_law_reading T 80
  have v_never : Calls P w K mg base 1 "_law_alike" ["found", "due"] spNever := no_law_alike T
  have v_cell_at : Calls P w K mg base 1 "_law_cell_at" ["script", "k"] (spCellAt K) := ok_cell_at (k := 0) T
  have v_is_sign : Calls P w K mg base 1 "is_sign" ["sign"] spIsSign := ok_is_sign (k := 0) T
  have v_is_text : Calls P w K mg base 2 "is_text" ["thing"] spIsText := ok_is_text (k := 1) T v_is_sign
  have v_is_name : Calls P w K mg base 1 "is_name" ["thing"] spIsName := ok_is_name (k := 0) T
  have v_are_signs : Calls P w K mg base 3 "are_signs" ["thing"] spAreSigns := ok_are_signs (k := 2) T v_is_text
  have v_is_form : Calls P w K mg base 4 "is_form" ["thing"] spIsForm := ok_is_form (k := 3) T v_are_signs (v_is_name.mono (by decide))
  have v_parts_of : Calls P w K mg base 1 "parts_of" ["form"] spPartsOf := ok_parts_of (k := 0) T
  have v_is_rule : Calls P w K mg base 5 "is_rule" ["thing"] spIsRule := ok_is_rule (k := 4) T (v_is_name.mono (by decide)) v_is_form
  have v_is_book : Calls P w K mg base 6 "is_book" ["thing"] spIsBook := ok_is_book (k := 5) T v_is_rule
  have v_may_be_empty : Calls P w K mg base 2 "may_be_empty" ["form", "empty"] spMayBe := ok_may_be_empty (k := 1) T v_parts_of
  have v_first_parts : Calls P w K mg base 2 "first_parts" ["form", "empty"] spFirstParts := ok_first_parts (k := 1) T v_parts_of
  have v_emptiness : Calls P w K mg base 3 "emptiness" ["book"] spEmptiness := ok_emptiness (k := 2) T v_may_be_empty
  have v_followers : Calls P w K mg base 4 "followers" ["book"] spFollowers := ok_followers (k := 3) T v_emptiness (v_first_parts.mono (by decide))
  have v_loop : Calls P w K mg base 5 "loop" ["book"] spLoop := ok_loop (k := 4) T v_followers
  have v_law_bag : Calls P w K mg base 1 "_law_bag" ["cell", "k"] spBag := ok_law_bag (k := 0) T
  have v_law_take : Calls P w K mg base 1 "_law_take" ["bag", "many"] spTake := ok_law_take (k := 0) T
  have v_law_every : Calls P w K mg base 1 "_law_every" [] spEvery := ok_law_every (k := 0) T
  have v_law_names : Calls P w K mg base 2 "_law_names" ["bag", "many"] spNames := ok_law_names (k := 1) T v_law_take
  have v_law_some : Calls P w K mg base 2 "_law_some" ["bag"] spSome := ok_law_some (k := 1) T v_law_take v_law_every
  have v_law_text : Calls P w K mg base 2 "_law_text" ["bag", "some", "long"] spText := ok_law_text (k := 1) T v_law_take
  have v_law_nobody : Calls P w K mg base 1 "_law_nobody" ["names"] (spNobody K) := ok_law_nobody (k := 0) T
  have v_law_form : Calls P w K mg base 2 "_law_form" ["bag", "names", "k", "some", "leaves"] (spForm K) := ok_law_form (k := 1) T v_law_take v_law_every v_law_nobody
  have v_law_rules : Calls P w K mg base 3 "_law_rules" ["bag", "names", "some"] spRules := ok_law_rules (k := 2) T v_law_form
  have v_law_world : Calls P w K mg base 4 "_law_world" ["bag", "most"] spWorld := ok_law_world (k := 3) T (v_law_take.mono (by decide)) (v_law_names.mono (by decide)) (v_law_some.mono (by decide)) v_law_rules (v_law_text.mono (by decide))
  have v_law_copies : Calls P w K mg base 1 "_law_copies" ["rows"] spCopies := ok_law_copies (k := 0) T
  have v_is_count : Calls P w K mg base 1 "is_count" ["thing"] spIsCount := ok_is_count (k := 0) T
  have v_is_kept_row : Calls P w K mg base 2 "is_kept_row" ["thing", "far"] spIsKept := ok_is_kept_row (k := 1) T v_is_count v_is_name
  have v_are_unlike : Calls P w K mg base 1 "are_unlike" ["things"] spUnlike := ok_are_unlike (k := 0) T
  have v_law_alike0 : Calls P w K mg base 2 "_law_alike" ["found", "due"] spAlike0 := ok_law_alike0 (k := 1) T v_never
  have v_law_begins : Calls P w K mg base 1 "_law_begins" ["form", "empty"] spBegins := ok_law_begins (k := 0) T
  have v_law_loops : Calls P w K mg base 2 "_law_loops" ["rules"] spLoops := ok_law_loops (k := 1) T v_law_begins
  have v_Work_init : CallsN P w K mg base 1 "Work" (He.ga K "Work") ["self", "name", "place", "form"] (spWorkInit K) := ok_Work_init (k := 0) T
  have v_Work_wants : CallsM P w K mg base 1 (He.ga K "Work") "wants" ["self"] (spWants K) := ok_Work_wants (k := 0) T
  have v_Work_hear : CallsM P w K mg base 1 (He.ga K "Work") "hear" ["self", "key", "length"] (spHear K) := ok_Work_hear (k := 0) T
  have v_Work_outcome : CallsM P w K mg base 1 (He.ga K "Work") "outcome" ["self", "text"] (spOutcome K) := ok_Work_outcome (k := 0) T
  have v_finished : Calls P w K mg base 2 "finished" ["work", "text", "table"] (spFinished K) := ok_finished (k := 1) T v_Work_outcome
  have v_make : Calls P w K mg base 3 "make" ["rules", "text", "table", "name", "place"] (spMake K) := ok_make (k := 1) T v_Work_init (v_Work_wants.mono (by decide)) (v_Work_hear.mono (by decide)) v_finished
  have v_are_rows : Calls P w K mg base 4 "are_rows" ["book", "text", "rows"] spAreRows := ok_are_rows (k := 3) T (v_is_kept_row.mono (by decide)) (v_are_unlike.mono (by decide)) v_make
  have v_Reader_init : CallsN P w K mg base 1 "Reader" (He.ga K "Reader") ["self"] (spRdrInit K) := ok_Reader_init (k := 0) T
  have v_laid : Calls P w K mg base 7 "laid" ["book", "text", "rows"] (spLaid K) := ok_laid (k := 5) T v_is_book (v_loop.mono (by decide)) (v_is_text.mono (by decide)) (v_are_rows.mono (by decide)) (v_Reader_init.mono (by decide)) (v_make.mono (by decide))
  have v_Reader_row_of : CallsM P w K mg base 1 (He.ga K "Reader") "row_of" ["self", "key"] (spRowOf K) := ok_Reader_row_of (k := 0) T
  have v_Reader_reading_at : CallsM P w K mg base 4 (He.ga K "Reader") "reading_at" ["self", "name", "place"] (spReadingAt K) := ok_Reader_reading_at (k := 3) T (v_is_name.mono (by decide)) v_make
  have v_Reader_read : CallsM P w K mg base 5 (He.ga K "Reader") "read" ["self", "name", "place"] (spRead K) := ok_Reader_read (k := 4) T v_Reader_reading_at
  have v_Reader_made : CallsM P w K mg base 1 (He.ga K "Reader") "made" ["self"] (spMade K) := ok_Reader_made (k := 0) T
  have v_Reader_kept : CallsM P w K mg base 2 (He.ga K "Reader") "kept" ["self"] (spKept K) := ok_Reader_kept (k := 1) T v_Reader_row_of
  have v_Reader_put_in : CallsM P w K mg base 1 (He.ga K "Reader") "put_in" ["self", "a", "b", "signs"] (spPutIn K) := ok_Reader_put_in (k := 0) T
  have v_Reader_let_go : CallsM P w K mg base 1 (He.ga K "Reader") "let_go" ["self", "keys"] (spLetGo K) := ok_Reader_let_go (k := 0) T
  have v_Reader_rule_in : CallsM P w K mg base 2 (He.ga K "Reader") "rule_in" ["self", "name", "form"] (spRuleIn K) := ok_Reader_rule_in (k := 1) T v_Reader_let_go
  have v_Reader_put : CallsM P w K mg base 3 (He.ga K "Reader") "put" ["self", "a", "b", "signs"] (spPut K) := ok_Reader_put (k := 2) T v_is_text (v_Reader_put_in.mono (by decide))
  have v_Reader_rule : CallsM P w K mg base 6 (He.ga K "Reader") "rule" ["self", "name", "form"] (spRule K) := ok_Reader_rule (k := 5) T (v_is_name.mono (by decide)) (v_is_form.mono (by decide)) v_loop (v_Reader_rule_in.mono (by decide))
  have v_Reader_drop : CallsM P w K mg base 3 (He.ga K "Reader") "drop" ["self", "name"] (spDrop K) := ok_Reader_drop (k := 2) T (v_is_name.mono (by decide)) v_Reader_rule_in
  have v_law_rows : Calls P w K mg base 82 "_law_rows" ["names", "rules", "text"] spRows := ok_law_rows (k := 81) T (v_law_nobody.mono (by decide)) v_reading
  have v_law_alikeB : Calls P w K mg base 3 "_law_alike" ["found", "due"] spAlikeB := ok_law_alikeB (k := 2) T v_law_alike0
  have v_law_still : Calls P w K mg base 82 "_law_still" ["reader", "rules", "text", "due"] (spStill K) := ok_law_still (k := 81) T v_reading (v_law_alikeB.mono (by decide)) (v_Reader_kept.mono (by decide)) (v_Reader_read.mono (by decide)) (v_Reader_made.mono (by decide))
  have v_law_put : Calls P w K mg base 83 "_law_put" ["bag", "rules", "text", "rows", "a", "b", "some"] (spLPut K) := ok_law_put (k := 82) T (v_law_text.mono (by decide)) (v_law_take.mono (by decide)) (v_laid.mono (by decide)) (v_law_copies.mono (by decide)) v_law_still (v_Reader_put.mono (by decide))
  have v_law_rule : Calls P w K mg base 83 "_law_rule" ["bag", "rules", "text", "rows", "name"] (spLRule K) := ok_law_rule (k := 82) T (v_law_take.mono (by decide)) (v_law_loops.mono (by decide)) (v_laid.mono (by decide)) (v_law_copies.mono (by decide)) v_law_still (v_Reader_rule.mono (by decide)) (v_Reader_drop.mono (by decide))
  exact body_law (k := 83) T (v_law_bag.mono (by decide)) (v_cell_at.mono (by decide)) (v_law_world.mono (by decide)) (v_law_rows.mono (by decide)) (v_law_nobody.mono (by decide)) v_law_put v_law_rule
end
end Kr
namespace Kr
open PySem L2
abbrev RR : PySem.W.OpenRow := PySem.W.OpenLaw.row PySem.Challenge.rw_keptreading_k43_whole_what_stays
abbrev hk : PySem.W.Hook := He.hookD 5 fa fn
def ob (s : PySem.W.SharedT) : He.AlD := He.obsDG 5 fa fn (HandSHeadRun.getT s)
theorem ob_eq (s : PySem.W.SharedT) : ob s = hk.obs s.abs := He.obsDG_eq (HandSHeadRun.getT_eq s)
def loose1 : List Str := ["_wall", "ReadError", "NoName", "NoForm", "NoBook", "Loops", "NoRule", "NoText", "NoPlace", "NoRows", "LETTERS", "FIGURES", "GREAT", "MARKS", "LONGEST_NAME", "MOST_SIGNS", "MOST_PARTS", "is_sign", "is_text", "is_name", "are_signs", "is_form", "parts_of", "is_rule", "is_book", "may_be_empty", "emptiness", "first_parts", "followers"]
def loose2 : List Str := ["loop", "Work", "finished", "make", "is_count", "is_kept_row", "are_unlike", "are_rows", "Reader", "laid", "_law_cell_at", "_law_bag", "_law_take", "_law_alike", "_law_names", "_law_every", "_law_some", "_law_text", "_law_nobody", "_law_form", "_law_rules", "_law_reading", "_law_begins", "_law_loops", "_law_world", "_law_rows", "_law_copies", "_law_still", "_law_put", "_law_rule"]
abbrev loose : List Str := loose1 ++ loose2
set_option maxHeartbeats 0 in
theorem run (w : World) : HandSHeadRun.RunEq RR (PySem.W.view RR.prog [66]) hk ob 5000 loose w := by
  intro os
  kernel_rfl
end Kr
/-! the end: the head and the law's walk -/
namespace Kr
open PySem PySem.Spec PyProof.Rows L2
theorem facts {P : Program} {w : World} {K : PySem.W.Frag} {h : Heap} {mg : Str → Option Value} {f : Addr} (X : K.In h) (G : h.Ns mainGlobals mg) (hfa : mg ("law" : Str) = some (.ref f)) (c : He.SaysD fa fn K) :
    ∃ fd : FuncData, (∀ (s : Shared) (v : Value), BindsTo s fd ⟨[v], []⟩ [("script", v)]) ∧ ∀ base : Heap, K.In base → base.Ns mainGlobals mg → FnOk P w K mg base CX0 84 f fd ["script"] (spLaw K) := by
  have T : Tp K mg := ⟨c, fun x h => He.glo_ok X G (c.facts h), fun x h => He.free_ok X G (c.facts h), fun x z h => He.str_ok X G (c.facts h), fun x i h => He.int_ok X G (c.facts h)⟩
  obtain ⟨fd, F⟩ := c.defs in_law
  have e0 : d_law.dvs K = [] := rfl
  have e1 : d_law.kws K = [] := rfl
  have e2 : He.fAd K d_law.at_ = He.ga K "law" := rfl
  rw [e0, e1, e2] at F
  have e := hfa.symm.trans (T.glo "law" mg_law)
  cases e
  have b := FunD.bindsA (ps := ["script"]) F fun _ _ _ _ _ _ us hl => match us, hl with | [_], _ => rfl
  have sc : FnScope ["script", "bag", "rows", "a", "k", "names", "some", "rules", "text", "b", "name"] ["script"] d_law.scope := ⟨rfl, rfl, rfl, by decide +kernel, rfl, by decide +kernel, by decide +kernel⟩
  refine ⟨fd, fun s v => b s [v] rfl, fun base _ _ => fn_ok F sc (fun vs H Q E h => ?_) (law_ok T)⟩
  obtain ⟨a, ns, rfl, _⟩ := h
  rfl
end Kr
open PySem PySem.W PySem.Calls PyProof.Rows
set_option maxRecDepth 100000 in
set_option maxHeartbeats 0 in
theorem PySem.Challenge.cw_keptreading_k43_whole_what_stays_holds : PySem.Challenge.rw_keptreading_k43_whole_what_stays.Holds := by
  w_on; o_law
  refine HandSHeadRun.head_any (r := OpenLaw.row PySem.Challenge.rw_keptreading_k43_whole_what_stays) (q := view (OpenLaw.row PySem.Challenge.rw_keptreading_k43_whole_what_stays).prog [66]) (H := Kr.hk) (ob := Kr.ob) (M := 5000) (loose := Kr.loose) (d := HandSHeadRun.topDef (OpenLaw.row PySem.Challenge.rw_keptreading_k43_whole_what_stays).prog 66) (kwd := []) Kr.ob_eq
    (by kernel_rfl) (fun s => by kernel_rfl) Kr.run (by kernel_rfl) (by kernel_rfl) (by kernel_rfl) (by rfl) (by first | assumption | decide +kernel) (by decide +kernel) ⟨rfl, rfl, rfl, rfl, rfl, by decide +kernel⟩ ?hw ?hc
  case hw => w_witness2
  case hc =>
    refine L2.walk_ofE (l := PySem.Challenge.rw_keptreading_k43_whole_what_stays) (n := 63) (k := 84) (x := "script") (CX := L2.CX0) rfl (by decide) (by kernel_rfl) ⟨rfl, by decide, by decide⟩ ?F (fun _ _ _ _ z => z)
    intro w mg fa h Y G hmg0
    obtain ⟨K, KX, c⟩ := Y
    have hmg : mg ("law" : PySem.Str) = some (.ref fa) := by
      have e : (HandSHeadRun.topDef (OpenLaw.row PySem.Challenge.rw_keptreading_k43_whole_what_stays).prog 66).name = ("law" : PySem.Str) := by kernel_rfl
      rw [← e]
      exact hmg0
    obtain ⟨fd, hb, hF⟩ := Kr.facts (P := (PySem.Challenge.rw_keptreading_k43_whole_what_stays).prog) (w := w) KX G hmg c
    exact ⟨K, fd, Kr.spLaw K, KX, hb, fun H a ns hl _ hS => ⟨a, ns, rfl, hS, fun _ => rfl⟩, hF⟩
